import PyProof.Rows.All
import Wide.All
import OpenK.AllK
import Wide.FinOn
import HandS.ForMost
import HandS.Defaults
import HandS.StrMore
import HandS.Conv
import HandS.TupAny
import HandS.IsInst
import HandS.Zip
import HandS.Rev
import HandS.DictTup
import HandS.TupLen
import HandS.Replace
import KE.DataMinMax
import KE.DataMinKey
import PyProof.ListStr
import PyProof.TupleOfStr
import HandS.SortKw
import HandS.RevTup
import PyProof.Rows.TupMore
import KE.GoesEnum
import KE.GoesMore
import PySem.Challenge.RW_newletters_k63_whole_rows_led_and_made_s
import KE.DatumOrd
import PyProof.Rows.RegReprOcc
import HandS.Head0
import HandS.Head1
import HandS.Head2
import HandS.HeadEnd
import HandS.HeadHook1
import HandS.HeadHook2
set_option Elab.async false
set_option linter.all false
set_option maxRecDepth 100000
set_option maxHeartbeats 0
namespace NL
abbrev L := _root_.Fin 8
abbrev W := List L

def inv (x : L) : L := if h : x.val % 2 = 0 then ⟨x.val + 1, by omega⟩ else ⟨x.val - 1, by omega⟩
@[simp] theorem inv_inv : ∀ x, inv (inv x) = x := by decide
theorem inv_ne : ∀ x, inv x ≠ x := by decide
@[simp] theorem inv_ne' (x : L) : (inv x = x) = False := eq_false (inv_ne x)
@[simp] theorem inv_ne'' (x : L) : (x = inv x) = False := eq_false (fun h => inv_ne x h.symm)
theorem inv_inj {x y : L} (h : inv x = inv y) : x = y := by rw [← inv_inv x, h, inv_inv]
@[simp] theorem inv_inj_iff {x y : L} : inv x = inv y ↔ x = y := ⟨inv_inj, fun h => h ▸ rfl⟩
theorem inv_eq_comm {x y : L} : inv x = y ↔ x = inv y := ⟨fun h => by rw [← h, inv_inv], fun h => by rw [h, inv_inv]⟩

/-- one letter put ahead of a reduced word -/
def cn (x : L) : W → W
  | [] => [x]
  | y :: w => if y = inv x then w else x :: y :: w

theorem cn_cons (x y : L) (w : W) : cn x (y :: w) = if y = inv x then w else x :: y :: w := rfl

def Red : W → Prop
  | [] => True
  | [_] => True
  | x :: y :: w => y ≠ inv x ∧ Red (y :: w)

theorem Red.tail {x : L} {w : W} (h : Red (x :: w)) : Red w := by
  cases w with
  | nil => trivial
  | cons y w => exact h.2

theorem Red.cn {w : W} (x : L) (h : Red w) : Red (NL.cn x w) := by
  cases w with
  | nil => trivial
  | cons y w =>
    rw [cn_cons]
    split
    · exact h.tail
    · exact ⟨by assumption, h⟩

theorem cn_of_red {x : L} {w : W} (h : Red (x :: w)) : cn x w = x :: w := by
  cases w with
  | nil => rfl
  | cons y w => rw [cn_cons, if_neg h.1]

theorem cn_cn {w : W} (x : L) (h : Red w) : cn (inv x) (cn x w) = w := by
  cases w with
  | nil => simp [NL.cn]
  | cons y w =>
    by_cases e : y = inv x
    · subst e
      have : NL.cn x (inv x :: w) = w := by simp [NL.cn]
      rw [this]; exact cn_of_red h
    · have : NL.cn x (y :: w) = x :: y :: w := by simp [NL.cn, e]
      rw [this]; simp [NL.cn]

/-- reduced words -/
structure RW where
  w : W
  red : Red w

theorem RW.ext {s t : RW} (h : s.w = t.w) : s = t := by
  cases s; cases t; cases h; rfl

def cnS (x : L) (s : RW) : RW := ⟨cn x s.w, s.red.cn x⟩
@[simp] theorem cnS_cnS (x : L) (s : RW) : cnS (inv x) (cnS x s) = s := RW.ext (cn_cn x s.red)
@[simp] theorem cnS_cnS' (x : L) (s : RW) : cnS x (cnS (inv x) s) = s := by
  have := cnS_cnS (inv x) s
  rwa [inv_inv] at this

def ac : W → RW → RW
  | [], s => s
  | x :: w, s => cnS x (ac w s)
@[simp] theorem ac_nil (s : RW) : ac [] s = s := rfl
@[simp] theorem ac_cons (x : L) (w : W) (s : RW) : ac (x :: w) s = cnS x (ac w s) := rfl
@[simp] theorem ac_append (u v : W) (s : RW) : ac (u ++ v) s = ac u (ac v s) := by
  induction u with
  | nil => rfl
  | cons x u ih => simp [ih]

def e0 : RW := ⟨[], trivial⟩
def red (u : W) : W := (ac u e0).w
theorem red_Red (u : W) : Red (red u) := (ac u e0).red

def invw (w : W) : W := (w.map inv).reverse
@[simp] theorem invw_nil : invw [] = [] := rfl
theorem invw_append (u v : W) : invw (u ++ v) = invw v ++ invw u := by simp [invw]
theorem invw_cons (x : L) (v : W) : invw (x :: v) = invw v ++ [inv x] := by simp [invw]
@[simp] theorem invw_invw (u : W) : invw (invw u) = u := by
  have : inv ∘ inv = id := by funext x; simp
  simp [invw, List.map_reverse, this]

@[simp] theorem ac_invw (u : W) (s : RW) : ac (invw u) (ac u s) = s := by
  induction u generalizing s with
  | nil => rfl
  | cons x u ih => simp [invw_cons, ih]
@[simp] theorem ac_invw' (u : W) (s : RW) : ac u (ac (invw u) s) = s := by
  have := ac_invw (invw u) s
  rwa [invw_invw] at this

/-- the same element of the free group -/
def EqF (u v : W) : Prop := ∀ s, ac u s = ac v s
theorem EqF.refl (u : W) : EqF u u := fun _ => rfl
theorem EqF.symm {u v : W} (h : EqF u v) : EqF v u := fun s => (h s).symm
theorem EqF.trans {u v w : W} (h : EqF u v) (k : EqF v w) : EqF u w := fun s => (h s).trans (k s)
theorem EqF.append {u v u' v' : W} (h : EqF u u') (k : EqF v v') : EqF (u ++ v) (u' ++ v') := fun s => by
  simp [h _, k _]
theorem EqF.invw {u v : W} (h : EqF u v) : EqF (invw u) (invw v) := fun s => by
  have := ac_invw u (ac (NL.invw v) s)
  rw [h] at this; simpa using this

theorem red_of_Red {w : W} (h : Red w) : red w = w := by
  induction w with
  | nil => rfl
  | cons x w ih =>
    have := ih h.tail
    unfold red at *
    rw [ac_cons]; show cn x _ = _
    rw [this]; exact cn_of_red h

theorem ac_red (u : W) (s : RW) : ac (red u) s = ac u s := by
  induction u generalizing s with
  | nil => rfl
  | cons x u ih =>
    rw [ac_cons, ← ih]
    show ac (cn x (red u)) s = _
    generalize red u = r
    cases r with
    | nil => rfl
    | cons y r =>
      rw [cn_cons]
      split
      · rename_i e; subst e; simp
      · rfl

theorem EqF_red (u : W) : EqF (red u) u := fun s => ac_red u s
theorem EqF.red_eq {u v : W} (h : EqF u v) : red u = red v := by unfold red; rw [h]
theorem EqF.of_red {u v : W} (h : red u = red v) : EqF u v := fun s => by rw [← ac_red, h, ac_red]
theorem EqF.eq {u v : W} (h : EqF u v) (hu : Red u) (hv : Red v) : u = v := by
  rw [← red_of_Red hu, h.red_eq, red_of_Red hv]

/-- substitution -/
def sub (f : L → W) (w : W) : W := w.flatMap f
@[simp] theorem sub_nil (f : L → W) : sub f [] = [] := rfl
@[simp] theorem sub_cons (f : L → W) (x : L) (w : W) : sub f (x :: w) = f x ++ sub f w := by simp [sub]
@[simp] theorem sub_append (f : L → W) (u v : W) : sub f (u ++ v) = sub f u ++ sub f v := by simp [sub]

def Hom (f : L → W) : Prop := ∀ x, EqF (f (inv x)) (invw (f x))

theorem Hom.cancel {f : L → W} (h : Hom f) (x : L) (s : RW) : ac (f x) (ac (f (inv x)) s) = s := by
  rw [h x s]; simp
theorem Hom.cancel' {f : L → W} (h : Hom f) (x : L) (s : RW) : ac (f (inv x)) (ac (f x) s) = s := by
  rw [h x]; simp

theorem Hom.sub_red {f : L → W} (h : Hom f) (u : W) : EqF (sub f (red u)) (sub f u) := by
  induction u with
  | nil => exact EqF.refl _
  | cons x u ih =>
    intro s
    have ih' := ih s
    rw [sub_cons, ac_append, ← ih']
    show ac (sub f (cn x (red u))) s = _
    generalize red u = r
    cases r with
    | nil => simp [cn]
    | cons y r =>
      rw [cn_cons]
      split
      · rename_i e; subst e; simp [h.cancel]
      · simp

theorem Hom.sub_EqF {f : L → W} (h : Hom f) {u v : W} (e : EqF u v) : EqF (sub f u) (sub f v) :=
  (h.sub_red u).symm.trans (by rw [e.red_eq]; exact h.sub_red v)

theorem Hom.sub_invw {f : L → W} (h : Hom f) (u : W) : EqF (sub f (invw u)) (invw (sub f u)) := by
  induction u with
  | nil => exact EqF.refl _
  | cons x u ih =>
    rw [invw_cons, sub_append, sub_cons, sub_cons, invw_append]
    refine EqF.append ih ?_
    simp; exact h x

/-- one after another: first f, then g -/
def thn (f g : L → W) : L → W := fun x => sub g (f x)
theorem sub_thn (f g : L → W) (w : W) : sub g (sub f w) = sub (thn f g) w := by
  induction w with
  | nil => rfl
  | cons x w ih => simp [ih, thn]
theorem Hom.thn {f g : L → W} (hf : Hom f) (hg : Hom g) : Hom (thn f g) := fun x =>
  (hg.sub_EqF (hf x)).trans (hg.sub_invw (f x))
theorem sub_congr {f g : L → W} (h : ∀ x, EqF (f x) (g x)) (w : W) : EqF (sub f w) (sub g w) := by
  induction w with
  | nil => exact EqF.refl _
  | cons x w ih => rw [sub_cons, sub_cons]; exact (h x).append ih

/-- conjugate words -/
def CEq (u v : W) : Prop := ∃ g, EqF v (g ++ u ++ invw g)
theorem CEq.refl (u : W) : CEq u u := ⟨[], fun s => by simp⟩
theorem CEq.of_EqF {u v : W} (h : EqF u v) : CEq u v := ⟨[], fun s => by simp [h s]⟩
theorem CEq.trans {u v w : W} (h : CEq u v) (k : CEq v w) : CEq u w := by
  obtain ⟨g, hg⟩ := h; obtain ⟨k, hk⟩ := k
  exact ⟨k ++ g, fun s => by rw [hk]; simp [invw_append, hg _]⟩
theorem CEq.symm {u v : W} (h : CEq u v) : CEq v u := by
  obtain ⟨g, hg⟩ := h
  exact ⟨invw g, fun s => by simp [hg _]⟩
theorem CEq.sub {f : L → W} (hf : Hom f) {u v : W} (h : CEq u v) : CEq (sub f u) (sub f v) := by
  obtain ⟨g, hg⟩ := h
  refine ⟨NL.sub f g, (hf.sub_EqF hg).trans ?_⟩
  rw [sub_append, sub_append]
  exact (EqF.refl _).append (hf.sub_invw g)
theorem CEq_rot (u v : W) : CEq (u ++ v) (v ++ u) := ⟨invw u, fun s => by simp⟩

theorem sub_conj {f g : L → W} (k : W) (h : ∀ x, EqF (g x) (k ++ f x ++ invw k)) (w : W) : CEq (sub f w) (sub g w) := by
  refine ⟨k, ?_⟩
  induction w with
  | nil => intro s; simp
  | cons x w ih =>
    intro s
    rw [sub_cons, sub_cons, ac_append, ih s, h x]
    simp

end NL

namespace NL

/-- the pairs of neighbours -/
def lp : W → List (L × L)
  | [] => []
  | [_] => []
  | x :: y :: w => (x, y) :: lp (y :: w)
@[simp] theorem lp_nil : lp [] = [] := rfl
@[simp] theorem lp_one (x : L) : lp [x] = [] := rfl
@[simp] theorem lp_cons (x y : L) (w : W) : lp (x :: y :: w) = (x, y) :: lp (y :: w) := rfl
theorem lp_split (u v : W) (x : L) : lp (u ++ x :: v) = lp (u ++ [x]) ++ lp (x :: v) := by
  induction u with
  | nil => simp
  | cons y u ih =>
    cases u with
    | nil => simp
    | cons z u => simpa using ih

theorem Red_iff (w : W) : Red w ↔ ∀ p ∈ lp w, p.2 ≠ inv p.1 := by
  induction w with
  | nil => simp [Red]
  | cons x w ih =>
    cases w with
    | nil => simp [Red]
    | cons y w => simp [Red, ih]

/-- the pairs round a word -/
def cp : W → List (L × L)
  | [] => []
  | x :: t => lp (x :: (t ++ [x]))
theorem cp_cons (x : L) (t : W) : cp (x :: t) = lp (x :: (t ++ [x])) := rfl

def CR (u : W) : Prop := ∀ p ∈ cp u, p.2 ≠ inv p.1

theorem cp_rot1 (x : L) (t : W) : (cp (t ++ [x])).Perm (cp (x :: t)) := by
  cases t with
  | nil => simp
  | cons y t =>
    have e1 : cp (y :: t ++ [x]) = lp (y :: t ++ [x]) ++ [(x, y)] := by
      show lp (y :: (t ++ [x] ++ [y])) = _
      have := lp_split (y :: t) [y] x
      simpa using this
    have e2 : cp (x :: y :: t) = (x, y) :: lp (y :: t ++ [x]) := by
      simp [cp_cons]
    rw [e1, e2]
    exact List.perm_append_comm

theorem cp_rot (u v : W) : (cp (u ++ v)).Perm (cp (v ++ u)) := by
  induction u generalizing v with
  | nil => simp
  | cons x u ih =>
    have h1 := (cp_rot1 x (u ++ v)).symm
    have h2 := ih (v ++ [x])
    simp at h1 h2 ⊢
    exact h1.trans h2

theorem CR.rot {u v : W} (h : CR (u ++ v)) : CR (v ++ u) := fun p hp =>
  h p ((cp_rot u v).mem_iff.mpr hp)

theorem CR_cons {x : L} {t : W} : CR (x :: t) ↔ Red (x :: (t ++ [x])) := by
  rw [Red_iff]; rfl

theorem Red.left {u v : W} (h : Red (u ++ v)) : Red u := by
  induction u with
  | nil => trivial
  | cons x u ih =>
    cases u with
    | nil => trivial
    | cons y u => exact ⟨h.1, ih h.2⟩
theorem Red.right {u v : W} (h : Red (u ++ v)) : Red v := by
  induction u with
  | nil => exact h
  | cons x u ih => exact ih (Red.tail h)
theorem Red.join {u v : W} {x : L} (h : Red (u ++ [x])) (k : Red (x :: v)) : Red (u ++ x :: v) := by
  rw [Red_iff] at *
  intro p hp
  rw [lp_split, List.mem_append] at hp
  cases hp with
  | inl hp => exact h p hp
  | inr hp => exact k p hp

theorem CR.red {u : W} (h : CR u) : Red u := by
  cases u with
  | nil => trivial
  | cons x t =>
    have h := CR_cons.mp h
    exact Red.left (u := x :: t) (v := [x]) h

/-- what is left when contraries at the ends are taken off -/
def mid (w : W) : W :=
  if h : 1 < w.length ∧ w.getLast? = w.head?.map inv then mid (w.tail.dropLast) else w
termination_by w.length
decreasing_by simp; omega

theorem mid_wrap (y : L) (u : W) : mid (y :: (u ++ [inv y])) = mid u := by
  rw [mid]
  have h1 : (y :: (u ++ [inv y])).getLast? = some (inv y) := by
    have : y :: (u ++ [inv y]) = (y :: u) ++ [inv y] := rfl
    rw [this, List.getLast?_concat]
  rw [dif_pos ⟨by simp, by rw [h1]; rfl⟩]
  simp

theorem mid_CR {u : W} (h : CR u) : mid u = u := by
  rw [mid, dif_neg]
  rintro ⟨_, h2⟩
  cases u with
  | nil => simp at *
  | cons x t =>
    rcases List.eq_nil_or_concat t with e | ⟨t', z, e⟩
    · subst e; simp at *
    · rw [List.concat_eq_append] at e
      subst e
      have h1 : (x :: (t' ++ [z])).getLast? = some z := by
        have : x :: (t' ++ [z]) = (x :: t') ++ [z] := rfl
        rw [this, List.getLast?_concat]
      rw [h1] at h2
      simp at h2
      have := CR_cons.mp h
      have h3 : Red ((x :: t') ++ [z, x]) := by simpa using this
      have := h3.right.1
      subst h2; simp at this

/-- a reduced word is cyclically reduced, or it has contraries at its ends -/
theorem Red.cases {u : W} (h : Red u) : CR u ∨ ∃ y v, v ≠ [] ∧ Red v ∧ u = y :: (v ++ [inv y]) := by
  cases u with
  | nil => left; intro p hp; cases hp
  | cons x t =>
    rcases List.eq_nil_or_concat t with e | ⟨t', z, e⟩
    · subst e; left; rw [CR_cons]; exact ⟨by simp, trivial⟩
    · rw [List.concat_eq_append] at e
      subst e
      by_cases hz : z = inv x
      · subst hz
        right
        refine ⟨x, t', ?_, ?_, rfl⟩
        · rintro rfl; exact h.1 rfl
        · exact Red.left h.tail
      · left
        rw [CR_cons]
        have h1 : Red (x :: t' ++ [z]) := h
        have h2 : Red (z :: [x]) := ⟨fun e => hz (by rw [e, inv_inv]), trivial⟩
        have := Red.join h1 h2
        simpa using this

theorem Red.ind {P : W → Prop} (h1 : ∀ u, CR u → P u) (h2 : ∀ y v, v ≠ [] → Red v → Red (y :: (v ++ [inv y])) → P v → P (y :: (v ++ [inv y])))
    : ∀ u, Red u → P u := by
  intro u
  generalize hn : u.length = n
  induction n using Nat.strongRecOn generalizing u with
  | _ n ih =>
    intro hu
    rcases hu.cases with h | ⟨y, v, hv, rv, e⟩
    · exact h1 u h
    · subst e
      refine h2 y v hv rv hu (ih v.length ?_ v rfl rv)
      simp at hn; omega

theorem mid_CR' {u : W} (h : Red u) : CR (mid u) := by
  refine Red.ind (P := fun u => CR (mid u)) ?_ ?_ u h
  · intro u h; rw [mid_CR h]; exact h
  · intro y v _ _ _ ih; rw [mid_wrap]; exact ih

theorem mid_CEq {u : W} (h : Red u) : CEq (mid u) u := by
  refine Red.ind (P := fun u => CEq (mid u) u) ?_ ?_ u h
  · intro u h; rw [mid_CR h]; exact CEq.refl _
  · intro y v _ _ _ ih
    rw [mid_wrap]
    exact ih.trans ⟨[y], by simpa [invw] using EqF.refl _⟩

/-- turning of each other -/
def Rot (u v : W) : Prop := ∃ p q, u = p ++ q ∧ v = q ++ p
theorem Rot.refl (u : W) : Rot u u := ⟨[], u, rfl, by simp⟩
theorem Rot.symm {u v : W} (h : Rot u v) : Rot v u := by
  obtain ⟨p, q, h1, h2⟩ := h; exact ⟨q, p, h2, h1⟩
theorem Rot.trans {u v w : W} (h : Rot u v) (k : Rot v w) : Rot u w := by
  obtain ⟨p, q, rfl, rfl⟩ := h
  obtain ⟨r, s, h1, rfl⟩ := k
  rcases List.append_eq_append_iff.mp h1 with ⟨c, h2, h3⟩ | ⟨c, h2, h3⟩
  · subst h2 h3; exact ⟨c, s ++ q, by simp, by simp⟩
  · subst h2 h3; exact ⟨p ++ r, c, by simp, by simp⟩
theorem Rot.length {u v : W} (h : Rot u v) : v.length = u.length := by
  obtain ⟨p, q, rfl, rfl⟩ := h; simp; omega
theorem Rot.CR {u v : W} (h : Rot u v) (k : CR u) : CR v := by
  obtain ⟨p, q, rfl, rfl⟩ := h; exact k.rot
theorem Rot.CEq {u v : W} (h : Rot u v) : CEq u v := by
  obtain ⟨p, q, rfl, rfl⟩ := h; exact CEq_rot p q
theorem Rot.cp {u v : W} (h : Rot u v) : (cp u).Perm (cp v) := by
  obtain ⟨p, q, rfl, rfl⟩ := h; exact cp_rot p q
theorem Rot.perm {u v : W} (h : Rot u v) : u.Perm v := by
  obtain ⟨p, q, rfl, rfl⟩ := h; exact List.perm_append_comm

/-- the order of words of one length -/
def lexLt : W → W → Bool
  | [], [] => false
  | [], _ :: _ => true
  | _ :: _, [] => false
  | x :: u, y :: v => decide (x.val < y.val) || (decide (x = y) && lexLt u v)
theorem lexLt_irrefl (u : W) : lexLt u u = false := by
  induction u with
  | nil => rfl
  | cons x u ih => simp [lexLt, ih]
theorem lexLt_tri {u v : W} (h : lexLt u v = false) (k : lexLt v u = false) : u = v := by
  induction u generalizing v with
  | nil => cases v with
    | nil => rfl
    | cons y v => simp [lexLt] at h
  | cons x u ih => cases v with
    | nil => simp [lexLt] at k
    | cons y v =>
      simp [lexLt] at h k
      have e : x = y := by
        apply _root_.Fin.ext; have h1 := h.1; have k1 := k.1; omega
      subst e
      simp at h k
      rw [ih h k]
theorem lexLt_trans {u v w : W} (h : lexLt u v = true) (k : lexLt v w = true) : lexLt u w = true := by
  induction u generalizing v w with
  | nil => cases w with
    | nil => cases v <;> simp [lexLt] at *
    | cons y v => rfl
  | cons x u ih =>
    cases v with
    | nil => simp [lexLt] at h
    | cons y v =>
      cases w with
      | nil => simp [lexLt] at k
      | cons z w =>
        simp only [lexLt, Bool.or_eq_true, Bool.and_eq_true, decide_eq_true_eq] at *
        rcases h with h | ⟨rfl, h⟩
        · rcases k with k | ⟨rfl, k⟩
          · left; omega
          · left; exact h
        · rcases k with k | ⟨rfl, k⟩
          · left; exact k
          · right; exact ⟨rfl, ih h k⟩

/-- the first least word -/
def minL (m : W) : List W → W
  | [] => m
  | x :: l => minL (if lexLt x m = true then x else m) l

theorem minL_mem (m : W) (l : List W) : minL m l ∈ m :: l := by
  induction l generalizing m with
  | nil => simp [minL]
  | cons x l ih =>
    have := ih (if lexLt x m = true then x else m)
    show minL (if lexLt x m = true then x else m) l ∈ _
    rcases List.mem_cons.mp this with h | h
    · rw [h]
      split
      · simp
      · simp
    · exact List.mem_cons_of_mem _ (List.mem_cons_of_mem _ h)
theorem minL_le (m : W) (l : List W) : ∀ x ∈ m :: l, lexLt x (minL m l) = false := by
  induction l generalizing m with
  | nil => simp [minL, lexLt_irrefl]
  | cons y l ih =>
    intro x hx
    have h := ih (if lexLt y m = true then y else m)
    unfold minL
    have aux : ∀ z, lexLt z (if lexLt y m = true then y else m) = false →
        lexLt z (minL (if lexLt y m = true then y else m) l) = false := by
      intro z hz
      have h0 := h _ (List.mem_cons_self ..)
      generalize minL (if lexLt y m = true then y else m) l = r at *
      generalize (if lexLt y m = true then y else m) = s at *
      cases e : lexLt z r
      · rfl
      · exfalso
        by_cases e2 : lexLt r s = true
        · rw [lexLt_trans e e2] at hz; cases hz
        · have := lexLt_tri h0 (by simpa using e2)
          subst this; rw [e] at hz; cases hz
    rcases List.mem_cons.mp hx with rfl | hx
    · apply aux
      split
      · rename_i e
        cases e2 : lexLt x y
        · rfl
        · have := lexLt_trans e e2; rw [lexLt_irrefl] at this; cases this
      · exact lexLt_irrefl _
    · rcases List.mem_cons.mp hx with rfl | hx
      · apply aux
        split
        · exact lexLt_irrefl _
        · rename_i e; simpa using e
      · exact h x (List.mem_cons_of_mem _ hx)

def rots (m : W) : List W := (List.range m.length).map fun k => m.drop k ++ m.take k
theorem mem_rots {m z : W} (hm : m ≠ []) : z ∈ rots m ↔ Rot m z := by
  unfold rots
  constructor
  · intro h
    obtain ⟨k, _, rfl⟩ := List.mem_map.mp h
    exact ⟨m.take k, m.drop k, by simp, rfl⟩
  · rintro ⟨p, q, rfl, rfl⟩
    rw [List.mem_map]
    cases q with
    | nil =>
      refine ⟨0, ?_, by simp⟩
      simp only [List.mem_range]; cases p with
      | nil => simp at hm
      | cons => simp
    | cons y q => exact ⟨p.length, by simp, by simp⟩

/-- the least turning -/
def minrot (m : W) : W := minL m (rots m)
theorem minrot_rot (m : W) : Rot m (minrot m) := by
  have := minL_mem m (rots m)
  rcases List.mem_cons.mp this with h | h
  · unfold minrot; rw [h]; exact Rot.refl m
  · by_cases e : m = []
    · subst e; cases h
    · exact (mem_rots e).mp h
theorem minrot_le {m z : W} (h : Rot m z) : lexLt z (minrot m) = false := by
  apply minL_le
  by_cases e : m = []
  · subst e
    obtain ⟨p, q, h1, rfl⟩ := h
    simp at h1; simp [h1]
  · exact List.mem_cons_of_mem _ ((mem_rots e).mpr h)
theorem minrot_eq {m n : W} (h : Rot m n) : minrot m = minrot n :=
  lexLt_tri (minrot_le (h.symm.trans (minrot_rot m))) (minrot_le (h.trans (minrot_rot n)))

/-- the ring of a reduced word -/
def ring (w : W) : W := minrot (mid w)
theorem ring_CR {w : W} (h : Red w) : CR (ring w) := (minrot_rot _).CR (mid_CR' h)
theorem ring_CEq {w : W} (h : Red w) : CEq w (ring w) := (mid_CEq h).symm.trans (minrot_rot _).CEq
theorem ring_of_CR {u : W} (h : CR u) : ring u = minrot u := by unfold ring; rw [mid_CR h]
theorem ring_len {u : W} (h : CR u) : (ring u).length = u.length := by
  rw [ring_of_CR h]; exact (minrot_rot u).length
theorem ring_ring {w : W} (h : Red w) : ring (ring w) = ring w := by
  rw [ring_of_CR (ring_CR h)]
  exact (minrot_eq (minrot_rot (mid w))).symm

theorem ring_conj1 (x : L) (u : W) (h : Red u) : ring (red (x :: (u ++ [inv x]))) = ring u := by
  unfold ring
  rcases h.cases with hc | ⟨y, v, hv, rv, rfl⟩
  · rw [mid_CR hc]
    cases u with
    | nil =>
      have : red (x :: ([] ++ [inv x])) = [] := by
        have : EqF (x :: ([] ++ [inv x])) [] := fun s => by simp
        rw [this.red_eq]; rfl
      rw [this, mid_CR hc]
    | cons y t =>
      by_cases e : y = inv x
      · subst e
        have e1 : EqF (x :: ((inv x :: t) ++ [inv x])) (t ++ [inv x]) := fun s => by simp
        have r : Rot (inv x :: t) (t ++ [inv x]) := ⟨[inv x], t, rfl, rfl⟩
        have c := r.CR hc
        rw [e1.red_eq, red_of_Red c.red, mid_CR c]
        exact (minrot_eq r).symm
      · rcases List.eq_nil_or_concat (y :: t) with e' | ⟨t', z, e'⟩
        · cases e'
        · rw [List.concat_eq_append] at e'
          by_cases e2 : z = x
          · subst e2
            rw [e'] at hc ⊢
            have e1 : EqF (z :: ((t' ++ [z]) ++ [inv z])) (z :: t') := fun s => by simp
            have r : Rot (t' ++ [z]) (z :: t') := ⟨t', [z], rfl, rfl⟩
            have c := r.CR hc
            rw [e1.red_eq, red_of_Red c.red, mid_CR c]
            exact (minrot_eq r).symm
          · have hr : Red (x :: (y :: t ++ [inv x])) := by
              refine ⟨e, ?_⟩
              show Red (y :: t ++ [inv x])
              have h' := h
              rw [e'] at h' ⊢
              have : Red [z, inv x] := ⟨fun e => e2 (inv_inj e).symm, trivial⟩
              have := Red.join h' this
              simpa using this
            rw [red_of_Red hr, mid_wrap, mid_CR hc]
  · by_cases e : y = inv x
    · subst e
      have e1 : EqF (x :: ((inv x :: (v ++ [inv (inv x)])) ++ [inv x])) v := fun s => by simp
      rw [e1.red_eq, red_of_Red rv, mid_wrap]
    · have hr : Red (x :: ((y :: (v ++ [inv y])) ++ [inv x])) := by
        refine ⟨e, ?_⟩
        have h1 : Red ((y :: v) ++ [inv y]) := h
        have h2 : Red [inv y, inv x] := ⟨fun h => e (by rw [inv_inv] at h; exact h.symm), trivial⟩
        have := Red.join h1 h2
        simpa using this
      rw [red_of_Red hr, mid_wrap]

theorem ring_conj (g u v : W) (hu : Red u) (hv : Red v) (h : EqF v (g ++ u ++ invw g)) : ring v = ring u := by
  induction g generalizing v with
  | nil =>
    have : EqF v u := fun s => by simpa using h s
    rw [this.eq hv hu]
  | cons x g ih =>
    have h1 := ih (red (g ++ u ++ invw g)) (red_Red _) (EqF_red _)
    rw [← h1, ← ring_conj1 x _ (red_Red _)]
    congr 1
    refine EqF.eq ?_ hv (red_Red _)
    intro s
    rw [h s]
    rw [EqF_red]
    simp [invw_cons, EqF_red _ _]

theorem CEq.ring {u v : W} (h : CEq u v) (hu : Red u) (hv : Red v) : ring u = ring v := by
  obtain ⟨g, hg⟩ := h
  exact (ring_conj g u v hu hv hg).symm

/-- the ring of a text retold -/
def rtold (f : L → W) (w : W) : W := ring (red (sub f w))
theorem rtold_Red (f : L → W) (w : W) : CR (rtold f w) := ring_CR (red_Red _)
theorem rtold_CEq (f : L → W) (w : W) : CEq (sub f w) (rtold f w) :=
  (CEq.of_EqF (EqF_red _)).symm.trans (ring_CEq (red_Red _))
theorem rtold_eq {f g : L → W} {u v : W} (h : CEq (sub f u) (sub g v)) : rtold f u = rtold g v := by
  refine CEq.ring ?_ (red_Red _) (red_Red _)
  exact (CEq.of_EqF (EqF_red _)).trans (h.trans (CEq.of_EqF (EqF_red _)).symm)

theorem rtold_thn {f g : L → W} (hg : Hom g) (w : W) : rtold g (rtold f w) = rtold (thn f g) w := by
  apply rtold_eq
  rw [← sub_thn]
  exact (rtold_CEq f w).symm.sub hg

/-- rings are cyclically reduced words that are their own ring -/
structure IsR (w : W) : Prop where
  cr : CR w
  eq : ring w = w
theorem rtold_IsR (f : L → W) (w : W) : IsR (rtold f w) := ⟨rtold_Red f w, ring_ring (red_Red _)⟩

theorem rtold_same {f : L → W} {w : W} (hw : IsR w) (g : W) (h : ∀ x, EqF (f x) (g ++ [x] ++ invw g)) : rtold f w = w := by
  have h1 : sub (fun x => [x]) w = w := by
    clear hw h
    induction w with
    | nil => rfl
    | cons x w ih => simp [ih]
  have : CEq w (sub f w) := by
    have := sub_conj (f := fun x => [x]) g h w
    rwa [h1] at this
  unfold rtold
  rw [← CEq.ring (this.trans (CEq.of_EqF (EqF_red _)).symm) hw.cr.red (red_Red _), hw.eq]

end NL

namespace NL

abbrev S8 := L → Bool
structure Side (a : L) (S : S8) : Prop where
  inn : S a = true
  out : S (inv a) = false

/-- a change as a retelling -/
def wh (a : L) (S : S8) (x : L) : W :=
  if x = a ∨ x = inv a then [x] else (if S (inv x) = true then [inv a] else []) ++ ([x] ++ (if S x = true then [a] else []))

theorem wh_invw (a : L) (S : S8) (x : L) : wh a S (inv x) = invw (wh a S x) := by
  unfold wh
  by_cases h : x = a
  · subst h; simp [invw]
  · by_cases h2 : x = inv a
    · subst h2; simp [invw]
    · have h3 : inv x ≠ a := fun e => h2 (by rw [← e, inv_inv])
      have h4 : inv x ≠ inv a := fun e => h (inv_inj e)
      simp only [h, h2, h3, h4, or_self, if_false, inv_inv]
      split <;> split <;> simp [invw]
theorem wh_Hom (a : L) (S : S8) : Hom (wh a S) := fun x => by rw [wh_invw]; exact EqF.refl _

def core (a x : L) : W := if x = a ∨ x = inv a then [] else [x]
def pre (a : L) (S : S8) (x : L) : W := if S (inv x) = true then [inv a] else []
def post (a : L) (S : S8) (x : L) : W := if S x = true then [a] else []
def conn (a : L) (S : S8) (x y : L) : W :=
  if S x = true then (if S (inv y) = true then [] else [a]) else (if S (inv y) = true then [inv a] else [])

theorem wh_EqF {a : L} {S : S8} (h : Side a S) (x : L) : EqF (wh a S x) (pre a S x ++ (core a x ++ post a S x)) := by
  unfold wh core pre post
  by_cases e : x = a
  · subst e; intro s; simp [h.inn, h.out]
  · by_cases e2 : x = inv a
    · subst e2; intro s; simp [h.inn, h.out]
    · simp only [e, e2, or_self, if_false]; exact EqF.refl _
theorem conn_EqF (a : L) (S : S8) (x y : L) : EqF (conn a S x y) (post a S x ++ pre a S y) := by
  unfold conn pre post
  intro s
  split <;> split <;> simp

/-- what is told, bent round -/
def em (a : L) (S : S8) : W → W
  | [] => []
  | [_] => []
  | x :: y :: w => core a x ++ (conn a S x y ++ em a S (y :: w))
theorem em_one (a : L) (S : S8) (x : L) : em a S [x] = [] := rfl
theorem em_cons (a : L) (S : S8) (x y : L) (w : W) : em a S (x :: y :: w) = core a x ++ (conn a S x y ++ em a S (y :: w)) := rfl
theorem em_split (a : L) (S : S8) (u v : W) (x : L) : em a S (u ++ x :: v) = em a S (u ++ [x]) ++ em a S (x :: v) := by
  induction u with
  | nil => simp [em_one]
  | cons y u ih =>
    cases u with
    | nil => simp [em_cons, em_one]
    | cons z u => simpa [em_cons] using ih

theorem em_EqF {a : L} {S : S8} (h : Side a S) (u : W) (x z : L) :
    EqF (sub (wh a S) (x :: u)) (pre a S x ++ (em a S (x :: (u ++ [z])) ++ invw (pre a S z))) := by
  induction u generalizing x with
  | nil =>
    intro s
    simp [em_cons, em_one, wh_EqF h x _, conn_EqF a S x z _]
  | cons y u ih =>
    intro s
    rw [sub_cons, ac_append, ih y s, wh_EqF h x]
    simp [em_cons, conn_EqF a S x y _]

/-- what may stand first -/
structure Fst (a : L) (S : S8) (x f : L) : Prop where
  h1 : x ≠ a → x ≠ inv a → f = x
  h2 : x = a → f = a ∨ (f ≠ a ∧ f ≠ inv a ∧ S (inv f) = true)
  h3 : x = inv a → f = inv a ∨ (f ≠ a ∧ f ≠ inv a ∧ S (inv f) = false)

theorem Red_cons_of {x : L} {w : W} (h : ∀ f, w.head? = some f → f ≠ inv x) (k : Red w) : Red (x :: w) := by
  cases w with
  | nil => trivial
  | cons y w => exact ⟨h y rfl, k⟩

theorem em_Red {a : L} {S : S8} (h : Side a S) (w : W) (hw : Red w) :
    Red (em a S w) ∧ ∀ x t, w = x :: t → ∀ f, (em a S w).head? = some f → Fst a S x f := by
  induction w with
  | nil => exact ⟨trivial, fun _ _ e => by cases e⟩
  | cons x w ih =>
    cases w with
    | nil => exact ⟨trivial, fun _ _ _ f hf => by cases hf⟩
    | cons y w =>
      obtain ⟨ih1, ih2⟩ := ih hw.tail
      have ih2 := ih2 y w rfl
      have hxy : y ≠ inv x := hw.1
      rw [em_cons]
      generalize em a S (y :: w) = r at *
      have hi := h.inn
      have ho := h.out
      have hia : inv a ≠ a := inv_ne a
      have hai : a ≠ inv a := fun e => inv_ne a e.symm
      suffices Red (core a x ++ (conn a S x y ++ r)) ∧ ∀ f, (core a x ++ (conn a S x y ++ r)).head? = some f → Fst a S x f from
        ⟨this.1, fun x' t e f hf => by cases e; exact this.2 f hf⟩
      by_cases hx1 : x = a
      · subst hx1
        have hc : core x x = [] := by simp [core]
        rw [hc, List.nil_append]
        by_cases hy : S (inv y) = true
        · have hcn : conn x S x y = [] := by simp [conn, hi, hy]
          rw [hcn, List.nil_append]
          refine ⟨ih1, fun f hf => ?_⟩
          have F := ih2 f hf
          have hy1 : y ≠ x := fun e => by subst e; rw [ho] at hy; cases hy
          have := F.h1 hy1 hxy
          subst this
          exact ⟨fun e => absurd rfl e, fun _ => .inr ⟨hy1, hxy, hy⟩, fun e => absurd e hai⟩
        · have hcn : conn x S x y = [x] := by simp [conn, hi, hy]
          rw [hcn]
          refine ⟨Red_cons_of (fun f hf => ?_) ih1, fun f hf => ?_⟩
          · have F := ih2 f hf
            by_cases hy1 : y = x
            · rcases F.h2 hy1 with e | e
              · rw [e]; exact hai
              · exact e.2.1
            · rw [F.h1 hy1 hxy]; exact hxy
          · simp at hf; subst hf
            exact ⟨fun e => absurd rfl e, fun _ => .inl rfl, fun e => absurd e hai⟩
      · by_cases hx2 : x = inv a
        · subst hx2
          rw [inv_inv] at hxy
          have hc : core a (inv a) = [] := by simp [core]
          rw [hc, List.nil_append]
          by_cases hy : S (inv y) = true
          · have hcn : conn a S (inv a) y = [inv a] := by simp [conn, ho, hy]
            rw [hcn]
            refine ⟨Red_cons_of (fun f hf => ?_) ih1, fun f hf => ?_⟩
            · have F := ih2 f hf
              rw [inv_inv]
              by_cases hy1 : y = inv a
              · rcases F.h3 hy1 with e | e
                · rw [e]; exact hia
                · exact e.1
              · rw [F.h1 hxy hy1]; exact hxy
            · simp at hf; subst hf
              exact ⟨fun _ e => absurd rfl e, fun e => absurd e hia, fun _ => .inl rfl⟩
          · have hcn : conn a S (inv a) y = [] := by simp [conn, ho, hy]
            rw [hcn, List.nil_append]
            refine ⟨ih1, fun f hf => ?_⟩
            have F := ih2 f hf
            have hy1 : y ≠ inv a := fun e => by subst e; rw [inv_inv, hi] at hy; exact hy rfl
            have := F.h1 hxy hy1
            subst this
            exact ⟨fun _ e => absurd rfl e, fun e => absurd e hia, fun _ => .inr ⟨hxy, hy1, by simpa using hy⟩⟩
        · have hc : core a x = [x] := by simp [core, hx1, hx2]
          rw [hc]
          refine ⟨?_, fun f hf => ?_⟩
          · show Red (x :: (conn a S x y ++ r))
            by_cases hsx : S x = true
            · by_cases hy : S (inv y) = true
              · have hcn : conn a S x y = [] := by simp [conn, hsx, hy]
                rw [hcn, List.nil_append]
                refine Red_cons_of (fun f hf => ?_) ih1
                have F := ih2 f hf
                have hy1 : y ≠ a := fun e => by subst e; rw [ho] at hy; cases hy
                by_cases hy2 : y = inv a
                · rcases F.h3 hy2 with e | e
                  · rw [e]; exact fun e => hx1 (inv_inj e).symm
                  · intro e'; rw [e', inv_inv, hsx] at e; cases e.2.2
                · rw [F.h1 hy1 hy2]; exact hxy
              · have hcn : conn a S x y = [a] := by simp [conn, hsx, hy]
                rw [hcn]
                refine ⟨fun e => hx2 (by rw [e, inv_inv]), Red_cons_of (fun f hf => ?_) ih1⟩
                have F := ih2 f hf
                by_cases hy1 : y = a
                · rcases F.h2 hy1 with e | e
                  · rw [e]; exact hai
                  · exact e.2.1
                · have hy2 : y ≠ inv a := fun e => by subst e; rw [inv_inv, hi] at hy; exact hy rfl
                  rw [F.h1 hy1 hy2]; exact hy2
            · by_cases hy : S (inv y) = true
              · have hcn : conn a S x y = [inv a] := by simp [conn, hsx, hy]
                rw [hcn]
                refine ⟨fun e => hx1 (inv_inj e).symm, Red_cons_of (fun f hf => ?_) ih1⟩
                have F := ih2 f hf
                rw [inv_inv]
                have hy1 : y ≠ a := fun e => by subst e; rw [ho] at hy; cases hy
                by_cases hy2 : y = inv a
                · rcases F.h3 hy2 with e | e
                  · rw [e]; exact hia
                  · exact e.1
                · rw [F.h1 hy1 hy2]; exact hy1
              · have hcn : conn a S x y = [] := by simp [conn, hsx, hy]
                rw [hcn, List.nil_append]
                refine Red_cons_of (fun f hf => ?_) ih1
                have F := ih2 f hf
                have hy2 : y ≠ inv a := fun e => by subst e; rw [inv_inv, hi] at hy; exact hy rfl
                by_cases hy1 : y = a
                · rcases F.h2 hy1 with e | e
                  · rw [e]; exact fun e => hx2 (by rw [e, inv_inv])
                  · intro e'; rw [e', inv_inv] at e; exact hsx e.2.2
                · rw [F.h1 hy1 hy2]; exact hxy
          · simp at hf; subst hf
            exact ⟨fun _ _ => rfl, fun e => absurd e hx1, fun e => absurd e hx2⟩

/-- the ring retold by a change, not yet turned -/
def emr (a : L) (S : S8) : W → W
  | [] => []
  | x :: t => em a S (x :: (t ++ [x]))

theorem emr_CR {a : L} {S : S8} (h : Side a S) {w : W} (hw : CR w) : CR (emr a S w) := by
  cases w with
  | nil => exact hw
  | cons x t =>
    have h1 := CR_cons.mp hw
    have h2 : Red ((x :: t) ++ x :: (t ++ [x])) := Red.join (u := x :: t) h1 h1
    have h3 := (em_Red h _ h2).1
    rw [em_split] at h3
    show CR (em a S (x :: (t ++ [x])))
    have e : x :: t ++ [x] = x :: (t ++ [x]) := rfl
    rw [e] at h3
    generalize em a S (x :: (t ++ [x])) = u at *
    cases u with
    | nil => intro p hp; cases hp
    | cons y v =>
      rw [CR_cons]
      have : (y :: v) ++ (y :: v) = (y :: (v ++ [y])) ++ v := by simp
      rw [this] at h3
      exact h3.left

theorem emr_CEq {a : L} {S : S8} (h : Side a S) (w : W) : CEq (emr a S w) (sub (wh a S) w) := by
  cases w with
  | nil => exact CEq.refl _
  | cons x t =>
    refine ⟨pre a S x, ?_⟩
    have := em_EqF h t x x
    rw [List.append_assoc]; exact this

theorem rtold_wh {a : L} {S : S8} (h : Side a S) {w : W} (hw : CR w) : rtold (wh a S) w = minrot (emr a S w) := by
  have c := emr_CR h hw
  rw [← ring_of_CR c]
  exact CEq.ring ((CEq.of_EqF (EqF_red _)).trans (emr_CEq h w).symm) (red_Red _) c.red

def cutp (S : S8) (p : L × L) : Nat := if S p.1 = S (inv p.2) then 0 else 1
def sm (f : L × L → Nat) (l : List (L × L)) : Nat := (l.map f).sum
@[simp] theorem sm_nil (f : L × L → Nat) : sm f [] = 0 := rfl
@[simp] theorem sm_cons (f : L × L → Nat) (p : L × L) (l : List (L × L)) : sm f (p :: l) = f p + sm f l := by simp [sm]
@[simp] theorem sm_append (f : L × L → Nat) (k l : List (L × L)) : sm f (k ++ l) = sm f k + sm f l := by simp [sm]
theorem sm_perm (f : L × L → Nat) {k l : List (L × L)} (h : k.Perm l) : sm f k = sm f l := by
  induction h with
  | nil => rfl
  | cons p _ ih => simp [ih]
  | swap p q l => simp; omega
  | trans _ _ h1 h2 => rw [h1, h2]

/-- how many ties leave a side -/
def cut (S : S8) (w : W) : Nat := sm (cutp S) (cp w)
def cnt (a : L) (w : W) : Nat := w.count a + w.count (inv a)
theorem cut_rot (S : S8) {u v : W} (h : Rot u v) : cut S u = cut S v := sm_perm _ h.cp
theorem cnt_rot (a : L) {u v : W} (h : Rot u v) : cnt a u = cnt a v := by
  unfold cnt; rw [h.perm.count_eq, h.perm.count_eq]

theorem em_len (a : L) (S : S8) (u : W) (z : L) :
    (em a S (u ++ [z])).length + cnt a u = u.length + sm (cutp S) (lp (u ++ [z])) := by
  induction u with
  | nil => rfl
  | cons x u ih =>
    have key : ∀ y w, u ++ [z] = y :: w → (em a S (x :: (u ++ [z]))).length + cnt a (x :: u) = (u.length + 1) + sm (cutp S) (lp (x :: (u ++ [z]))) := by
      intro y w e
      rw [e] at ih ⊢
      rw [em_cons, lp_cons, sm_cons]
      have h1 : (core a x).length + cnt a (x :: u) = 1 + cnt a u := by
        unfold core cnt
        by_cases e1 : x = a
        · subst e1; simp; omega
        · by_cases e2 : x = inv a
          · subst e2; simp; omega
          · simp [e1, e2]
            try omega
      have h2 : (conn a S x y).length = cutp S (x, y) := by
        unfold conn cutp
        cases S x <;> cases S (inv y) <;> simp
      simp only [List.length_append]
      omega
    cases u with
    | nil => exact key z [] rfl
    | cons y u => exact key y (u ++ [z]) rfl

theorem emr_len (a : L) (S : S8) (w : W) : (emr a S w).length + cnt a w = w.length + cut S w := by
  cases w with
  | nil => rfl
  | cons x t => exact em_len a S (x :: t) x

/-- the length formula -/
theorem rtold_wh_len {a : L} {S : S8} (h : Side a S) {w : W} (hw : CR w) :
    (rtold (wh a S) w).length + cnt a w = w.length + cut S w := by
  rw [rtold_wh h hw, (minrot_rot _).length]
  exact emr_len a S w

/-- pairs with both ends in -/
def inp (B : S8) (p : L × L) : Nat := if B p.1 = true ∧ B (inv p.2) = true then 1 else 0
def nB (B : S8) (w : W) : Nat := w.countP B + w.countP (fun x => B (inv x))

theorem lp_cut (B : S8) (u : W) (z : L) :
    sm (cutp B) (lp (u ++ [z])) + 2 * sm (inp B) (lp (u ++ [z])) + (match u with | [] => 0 | x :: _ => if B (inv x) = true then 1 else 0)
      = nB B u + (match u with | [] => 0 | _ :: _ => if B (inv z) = true then 1 else 0) := by
  induction u with
  | nil => rfl
  | cons x u ih =>
    cases u with
    | nil =>
      simp [nB, cutp, inp]
      cases B x <;> cases B (inv z) <;> simp
      all_goals (cases B (inv x) <;> simp)
    | cons y u =>
      have e : nB B (x :: y :: u) = nB B (y :: u) + (if B x = true then 1 else 0) + (if B (inv x) = true then 1 else 0) := by
        unfold nB; simp only [List.countP_cons]; omega
      rw [e]
      simp only [List.cons_append, lp_cons, sm_cons] at ih ⊢
      have e2 : cutp B (x, y) + 2 * inp B (x, y) = (if B x = true then 1 else 0) + (if B (inv y) = true then 1 else 0) := by
        unfold cutp inp
        cases B x <;> cases B (inv y) <;> simp
      omega

def pin (B : S8) (w : W) : Nat := sm (inp B) (cp w)
theorem cut_pin (B : S8) (w : W) : cut B w + 2 * pin B w = nB B w := by
  cases w with
  | nil => rfl
  | cons x t =>
    have := lp_cut B (x :: t) x
    simp at this
    simp only [cut, pin, cp_cons]
    omega

/-- a set of letters apart from a change -/
structure Apart (a : L) (S B : S8) : Prop where
  ha : B a = false
  hb : B (inv a) = false
  hd : ∀ x, B x = true → S x = false

theorem em_pin {a : L} {S B : S8} (h : Apart a S B) (u : W) (x z : L) (t : W) (ht : B (inv z) = true → t.head? = some z) :
    sm (inp B) (lp (x :: (u ++ [z]))) ≤ sm (inp B) (lp (em a S (x :: (u ++ [z])) ++ t)) := by
  have hone : ∀ y l, sm (inp B) (lp l) ≤ sm (inp B) (lp (y :: l)) := by
    intro y l; cases l with
    | nil => exact Nat.le_refl _
    | cons z l => simp
  have hmore : ∀ k l, sm (inp B) (lp l) ≤ sm (inp B) (lp (k ++ l)) := by
    intro k l
    induction k with
    | nil => exact Nat.le_refl _
    | cons y k ih => exact Nat.le_trans ih (hone y _)
  have hcore : ∀ y, B (inv y) = true → core a y = [y] := by
    intro y hy
    have h1 : y ≠ a := fun e => by subst e; rw [h.hb] at hy; cases hy
    have h2 : y ≠ inv a := fun e => by subst e; rw [inv_inv, h.ha] at hy; cases hy
    simp [core, h1, h2]
  have hcore' : ∀ y, B y = true → core a y = [y] := by
    intro y hy
    have h1 : y ≠ a := fun e => by subst e; rw [h.ha] at hy; cases hy
    have h2 : y ≠ inv a := fun e => by subst e; rw [h.hb] at hy; cases hy
    simp [core, h1, h2]
  have step : ∀ x y l, (B (inv y) = true → l.head? = some y) →
      inp B (x, y) + sm (inp B) (lp l) ≤ sm (inp B) (lp (core a x ++ (conn a S x y ++ l))) := by
    intro x y l hl
    by_cases hp : B x = true ∧ B (inv y) = true
    · have h1 := hl hp.2
      have h2 : conn a S x y = [] := by simp [conn, h.hd x hp.1, h.hd _ hp.2]
      rw [hcore' x hp.1, h2]
      cases l with
      | nil => cases h1
      | cons y' l => simp at h1; subst h1; simp
    · have : inp B (x, y) = 0 := by unfold inp; exact if_neg hp
      rw [this, Nat.zero_add]
      exact Nat.le_trans (hmore _ _) (hmore _ _)
  induction u generalizing x with
  | nil =>
    have := step x z t ht
    simp only [List.nil_append, em_cons, em_one, lp_cons, lp_one, sm_cons, sm_nil, List.append_nil, List.append_assoc] at this ⊢
    omega
  | cons y u ih =>
    have := step x y (em a S (y :: (u ++ [z])) ++ t) (fun hy => by
      have : ∀ w, u ++ [z] = w → w ≠ [] → (em a S (y :: (u ++ [z])) ++ t).head? = some y := by
        intro w e hw
        cases w with
        | nil => exact absurd rfl hw
        | cons v w => rw [e, em_cons, hcore y hy]; rfl
      exact this _ rfl (by simp))
    have ih := ih y
    simp only [List.cons_append, em_cons, lp_cons, sm_cons, List.append_assoc] at this ih ⊢
    omega

theorem emr_pin {a : L} {S B : S8} (h : Apart a S B) (w : W) : pin B w ≤ pin B (emr a S w) := by
  cases w with
  | nil => exact Nat.le_refl _
  | cons x t =>
    show sm (inp B) (lp (x :: (t ++ [x]))) ≤ sm (inp B) (cp (em a S (x :: (t ++ [x]))))
    have hcore : B (inv x) = true → core a x = [x] := by
      intro hy
      have h1 : x ≠ a := fun e => by subst e; rw [h.hb] at hy; cases hy
      have h2 : x ≠ inv a := fun e => by subst e; rw [inv_inv, h.ha] at hy; cases hy
      simp [core, h1, h2]
    have hhead : B (inv x) = true → (em a S (x :: (t ++ [x]))).head? = some x := by
      intro hy
      have : ∀ w, t ++ [x] = w → w ≠ [] → (em a S (x :: (t ++ [x]))).head? = some x := by
        intro w e hw
        cases w with
        | nil => exact absurd rfl hw
        | cons v w => rw [e, em_cons, hcore hy]; rfl
      exact this _ rfl (by simp)
    cases hu : em a S (x :: (t ++ [x])) with
    | nil =>
      have := em_pin h t x x [] (fun hy => by have := hhead hy; rw [hu] at this; cases this)
      rw [hu] at this; exact this
    | cons y v =>
      have := em_pin h t x x [y] (fun hy => by have := hhead hy; rw [hu] at this; simpa using this)
      rw [hu] at this; exact this

theorem em_countP (a : L) (S : S8) (P : L → Bool) (h1 : P a = false) (h2 : P (inv a) = false) (u : W) (z : L) :
    (em a S (u ++ [z])).countP P = u.countP P := by
  induction u with
  | nil => rfl
  | cons x u ih =>
    have hc : (core a x).countP P = if P x = true then 1 else 0 := by
      unfold core
      by_cases e1 : x = a
      · subst e1; simp [h1]
      · by_cases e2 : x = inv a
        · subst e2; simp [h2]
        · simp [e1, e2, List.countP_cons]
    have hn : ∀ y, (conn a S x y).countP P = 0 := by
      intro y; unfold conn
      split <;> split <;> simp [h1, h2]
    have key : ∀ y w, u ++ [z] = y :: w → (em a S (x :: (u ++ [z]))).countP P = (x :: u).countP P := by
      intro y w e
      rw [e] at ih ⊢
      rw [em_cons]
      simp only [List.countP_append, hc, hn, ih, List.countP_cons]
      omega
    cases u with
    | nil => exact key z [] rfl
    | cons y u => exact key y (u ++ [z]) rfl

theorem emr_countP (a : L) (S : S8) (P : L → Bool) (h1 : P a = false) (h2 : P (inv a) = false) (w : W) :
    (emr a S w).countP P = w.countP P := by
  cases w with
  | nil => rfl
  | cons x t => exact em_countP a S P h1 h2 (x :: t) x

theorem cut_change {a : L} {S B : S8} (hs : Side a S) (h : Apart a S B) {w : W} (hw : CR w) :
    cut B (rtold (wh a S) w) ≤ cut B w := by
  rw [rtold_wh hs hw, ← cut_rot B (minrot_rot _)]
  have h1 := cut_pin B w
  have h2 := cut_pin B (emr a S w)
  have h3 := emr_pin h w
  have h4 : nB B (emr a S w) = nB B w := by
    unfold nB
    rw [emr_countP a S B h.ha h.hb, emr_countP a S (fun x => B (inv x)) h.hb (by simpa using h.ha)]
  omega

theorem cnt_change {a : L} {S : S8} (hs : Side a S) {b : L} (h1 : b ≠ a) (h2 : b ≠ inv a) {w : W} (hw : CR w) :
    cnt b (rtold (wh a S) w) = cnt b w := by
  rw [rtold_wh hs hw, ← cnt_rot b (minrot_rot _)]
  unfold cnt
  have h3 : inv b ≠ inv a := fun e => h1 (inv_inj e)
  have h4 : inv b ≠ a := fun e => h2 (by rw [← e, inv_inv])
  simp only [List.count]
  rw [emr_countP a S (· == b) (by simpa using h1.symm) (by simpa using h2.symm),
    emr_countP a S (· == inv b) (by simpa using h4.symm) (by simpa using h1.symm)]

end NL

namespace NL

abbrev Row := List W
def rowR (R : Row) : Prop := ∀ w ∈ R, IsR w
def rmap (f : L → W) (R : Row) : Row := R.map (rtold f)
def rsum (g : W → Nat) (R : Row) : Nat := (R.map g).sum
@[simp] theorem rsum_nil (g : W → Nat) : rsum g [] = 0 := rfl
@[simp] theorem rsum_cons (g : W → Nat) (w : W) (R : Row) : rsum g (w :: R) = g w + rsum g R := by simp [rsum]
def rlen (R : Row) : Nat := rsum List.length R
def rcut (S : S8) (R : Row) : Nat := rsum (cut S) R
def rcnt (a : L) (R : Row) : Nat := rsum (cnt a) R

theorem rmap_rowR (f : L → W) (R : Row) : rowR (rmap f R) := by
  intro w hw
  obtain ⟨v, _, rfl⟩ := List.mem_map.mp hw
  exact rtold_IsR f v

theorem rmap_len_wh {a : L} {S : S8} (h : Side a S) {R : Row} (hR : rowR R) :
    rlen (rmap (wh a S) R) + rcnt a R = rlen R + rcut S R := by
  induction R with
  | nil => rfl
  | cons w R ih =>
    have ih := ih (fun v hv => hR v (List.mem_cons_of_mem _ hv))
    have := rtold_wh_len h (hR w (List.mem_cons_self ..)).cr
    simp only [rlen, rcnt, rcut, rmap, List.map_cons, rsum_cons] at *
    omega

theorem rcut_change {a : L} {S B : S8} (hs : Side a S) (h : Apart a S B) {R : Row} (hR : rowR R) :
    rcut B (rmap (wh a S) R) ≤ rcut B R := by
  induction R with
  | nil => exact Nat.le_refl _
  | cons w R ih =>
    have ih := ih (fun v hv => hR v (List.mem_cons_of_mem _ hv))
    have := cut_change hs h (hR w (List.mem_cons_self ..)).cr
    simp only [rcut, rmap, List.map_cons, rsum_cons] at *
    omega

theorem rcnt_change {a : L} {S : S8} (hs : Side a S) {b : L} (h1 : b ≠ a) (h2 : b ≠ inv a) {R : Row} (hR : rowR R) :
    rcnt b (rmap (wh a S) R) = rcnt b R := by
  induction R with
  | nil => rfl
  | cons w R ih =>
    have ih := ih (fun v hv => hR v (List.mem_cons_of_mem _ hv))
    have := cnt_change hs h1 h2 (hR w (List.mem_cons_self ..)).cr
    simp only [rcnt, rmap, List.map_cons, rsum_cons] at *
    omega

theorem cnt_inv (a : L) (w : W) : cnt (inv a) w = cnt a w := by unfold cnt; rw [inv_inv]; omega
theorem rcnt_inv (a : L) (R : Row) : rcnt (inv a) R = rcnt a R := by
  have : cnt (inv a) = cnt a := funext (cnt_inv a)
  unfold rcnt; rw [this]

def cpl (S : S8) : S8 := fun x => !S x
theorem cut_cpl (S : S8) (w : W) : cut (cpl S) w = cut S w := by
  have : cutp (cpl S) = cutp S := by
    funext p; unfold cutp cpl
    cases S p.1 <;> cases S (inv p.2) <;> rfl
  unfold cut; rw [this]
theorem rcut_cpl (S : S8) (R : Row) : rcut (cpl S) R = rcut S R := by
  have : cut (cpl S) = cut S := funext (cut_cpl S)
  unfold rcut; rw [this]

/-- a quarter -/
def qu (A B : S8) (s t : Bool) : S8 := fun x => (A x == s) && (B x == t)

theorem sm_le {f g : L × L → Nat} (h : ∀ p, f p ≤ g p) (l : List (L × L)) : sm f l ≤ sm g l := by
  induction l with
  | nil => exact Nat.le_refl _
  | cons p l ih => have := h p; simp; omega
theorem sm_add (f g : L × L → Nat) (l : List (L × L)) : sm (fun p => f p + g p) l = sm f l + sm g l := by
  induction l with
  | nil => rfl
  | cons p l ih => simp [ih]; omega
theorem cut_qu (A B : S8) (s t : Bool) (w : W) : cut (qu A B s t) w + cut (qu A B (!s) (!t)) w ≤ cut A w + cut B w := by
  unfold cut
  rw [← sm_add, ← sm_add]
  apply sm_le
  intro p
  unfold cutp qu
  cases A p.1 <;> cases A (inv p.2) <;> cases B p.1 <;> cases B (inv p.2) <;> cases s <;> cases t <;> decide
theorem rcut_qu (A B : S8) (s t : Bool) (R : Row) : rcut (qu A B s t) R + rcut (qu A B (!s) (!t)) R ≤ rcut A R + rcut B R := by
  induction R with
  | nil => exact Nat.le_refl _
  | cons w R ih =>
    have := cut_qu A B s t w
    simp only [rcut, rsum_cons] at *
    omega

/-- letters for letters -/
structure Per (p q : L → L) : Prop where
  hp : ∀ x, p (inv x) = inv (p x)
  hq : ∀ x, q (inv x) = inv (q x)
  qp : ∀ x, q (p x) = x
  pq : ∀ x, p (q x) = x
theorem Per.symm {p q : L → L} (h : Per p q) : Per q p := ⟨h.hq, h.hp, h.pq, h.qp⟩
def single (p : L → L) (x : L) : W := [p x]
theorem single_Hom {p q : L → L} (h : Per p q) : Hom (single p) := fun x s => by simp [single, h.hp, invw]

inductive Step : Row → Row → Prop
  | ch (a : L) (S : S8) (R : Row) : Side a S → Step R (rmap (wh a S) R)
  | pe (p q : L → L) (R : Row) : Per p q → Step R (rmap (single p) R)

theorem Step.rowR {R R' : Row} (h : Step R R') : rowR R' := by
  cases h <;> exact rmap_rowR _ _

theorem rmap_thn {f g : L → W} (hg : Hom g) (R : Row) : rmap g (rmap f R) = rmap (thn f g) R := by
  simp [rmap, rtold_thn hg, Function.comp_def]
theorem rmap_conj {f g : L → W} (k : W) (h : ∀ x, EqF (g x) (k ++ f x ++ invw k)) (R : Row) : rmap f R = rmap g R := by
  have : rtold f = rtold g := funext fun w => rtold_eq (sub_conj k h w)
  simp [rmap, this]
theorem rmap_congr {f g : L → W} (h : ∀ x, EqF (g x) (f x)) (R : Row) : rmap f R = rmap g R :=
  rmap_conj [] (fun x s => by simpa using h x s) R
theorem rmap_same {f : L → W} (k : W) (h : ∀ x, EqF (f x) (k ++ [x] ++ invw k)) {R : Row} (hR : rowR R) : rmap f R = R := by
  unfold rmap
  conv => rhs; rw [← List.map_id R]
  apply List.map_congr_left
  intro w hw
  exact rtold_same (hR w hw) k h

theorem wh_self (a : L) (S : S8) : wh a S a = [a] := by simp [wh]
theorem wh_inv_self (a : L) (S : S8) : wh a S (inv a) = [inv a] := by simp [wh]
theorem wh_ne {a x : L} (S : S8) (h1 : x ≠ a) (h2 : x ≠ inv a) :
    wh a S x = (if S (inv x) = true then [inv a] else []) ++ ([x] ++ (if S x = true then [a] else [])) := by simp [wh, h1, h2]

/-- the other side by the contrary letter is the same change of rings -/
theorem rmap_cpl (a : L) (S : S8) (R : Row) : rmap (wh a S) R = rmap (wh (inv a) (cpl S)) R := by
  apply rmap_conj [a]
  intro x s
  by_cases h1 : x = a
  · subst h1
    have := wh_inv_self (inv x) (cpl S)
    rw [inv_inv] at this
    simp [wh_self, this, invw]
  · by_cases h2 : x = inv a
    · subst h2; simp [wh_self, wh_inv_self, invw]
    · rw [wh_ne S h1 h2, wh_ne (cpl S) h2 (by rwa [inv_inv])]
      cases e1 : S x <;> cases e2 : S (inv x) <;> simp [cpl, e1, e2, invw]

/-- the side of the change back -/
def bk (a : L) (S : S8) : S8 := fun x => if x = a then false else if x = inv a then true else S x
theorem bk_Side (a : L) (S : S8) : Side (inv a) (bk a S) := ⟨by simp [bk], by simp [bk]⟩

theorem wh_bk {a : L} {S : S8} (x : L) : EqF (thn (wh a S) (wh (inv a) (bk a S)) x) [x] := by
  intro s
  have e1 : wh (inv a) (bk a S) a = [a] := by simp [wh]
  have e2 : wh (inv a) (bk a S) (inv a) = [inv a] := by simp [wh]
  unfold thn
  by_cases h1 : x = a
  · subst h1; simp [wh_self, e1]
  · by_cases h2 : x = inv a
    · subst h2; simp [wh_inv_self, e2]
    · have h3 : inv x ≠ a := fun e => h2 (by rw [← e, inv_inv])
      have e3 := wh_ne (a := inv a) (x := x) (bk a S) h2 (by rwa [inv_inv])
      have b1 : bk a S x = S x := by simp [bk, h1, h2]
      have b2 : bk a S (inv x) = S (inv x) := by simp [bk, h1, h3]
      rw [wh_ne S h1 h2]
      cases e4 : S x <;> cases e5 : S (inv x) <;> simp [e1, e2, e3, b1, b2, e4, e5]

theorem rmap_bk (a : L) (S : S8) {R : Row} (hR : rowR R) : rmap (wh (inv a) (bk a S)) (rmap (wh a S) R) = R := by
  rw [rmap_thn (wh_Hom _ _)]
  exact rmap_same [] (fun x s => by simpa using wh_bk x s) hR

theorem rmap_per {p q : L → L} (h : Per p q) {R : Row} (hR : rowR R) : rmap (single q) (rmap (single p) R) = R := by
  rw [rmap_thn (single_Hom h.symm)]
  exact rmap_same [] (fun x s => by simp [thn, single, h.qp]) hR

theorem Step.symm {R R' : Row} (hR : NL.rowR R) (h : Step R R') : Step R' R := by
  cases h with
  | ch a S _ hs =>
    have := Step.ch (inv a) (bk a S) (rmap (wh a S) R) (bk_Side a S)
    rwa [rmap_bk a S hR] at this
  | pe p q _ hp =>
    have := Step.pe q p (rmap (single p) R) hp.symm
    rwa [rmap_per hp hR] at this

/-- one letter, a side in another -/
theorem step_same {a : L} {S T : S8} (hs : Side a S) (ht : Side a T) (h : ∀ x, S x = true → T x = true) (R : Row) :
    Step (rmap (wh a S) R) (rmap (wh a T) R) := by
  let D : S8 := fun x => if x = a then true else T x && !S x
  have hD : Side a D := ⟨by simp [D], by simp [D, ht.out]⟩
  have h0 := Step.ch a D (rmap (wh a S) R) hD
  rw [rmap_thn (wh_Hom _ _)] at h0
  have hh : ∀ x, EqF (wh a T x) (thn (wh a S) (wh a D) x) := ?_
  · rwa [rmap_congr hh] at h0
  intro x s
  have e1 : wh a D a = [a] := wh_self a D
  have e2 : wh a D (inv a) = [inv a] := wh_inv_self a D
  unfold thn
  by_cases h1 : x = a
  · subst h1; simp [wh_self]
  · by_cases h2 : x = inv a
    · subst h2; simp [wh_inv_self]
    · have h3 : inv x ≠ a := fun e => h2 (by rw [← e, inv_inv])
      have h5 := h x
      have h6 := h (inv x)
      rw [wh_ne S h1 h2, wh_ne T h1 h2]
      have e3 := wh_ne D h1 h2
      have hDx : D x = (T x && !S x) := by simp [D, h1]
      have hDx' : D (inv x) = (T (inv x) && !S (inv x)) := by simp [D, h3]
      clear_value D
      cases e4 : S x <;> cases e5 : S (inv x) <;> cases e6 : T x <;> cases e7 : T (inv x) <;>
        simp [e4, e6] at h5 <;> simp [e5, e7] at h6 <;>
        simp [e1, e2, e3, hDx, hDx', e4, e5, e6, e7]

/-- two changes that don't meet -/
theorem two_changes {a b : L} {A B : S8} (ha : Side a A) (hb : Side b B) (hd : ∀ x, A x = true → B x = false)
    (h : B (inv a) = false) (R : Row) :
    ∃ C, Side a C ∧ rmap (wh b B) (rmap (wh a A) R) = rmap (wh a C) (rmap (wh b B) R) := by
  have hab : a ≠ b := fun e => by subst e; have := hd a ha.inn; rw [hb.inn] at this; cases this
  have hab' : a ≠ inv b := fun e => by subst e; rw [inv_inv, hb.inn] at h; cases h
  have hba' : b ≠ inv a := fun e => hab' (by rw [e, inv_inv])
  have hai : inv a ≠ inv b := fun e => hab (inv_inj e)
  have hBa := hd a ha.inn
  have hAb : A b = false := by
    cases e : A b
    · rfl
    · have := hd b e; rw [hb.inn] at this; cases this
  let C : S8 := fun x => if A (inv b) = true then (A x || B x) && decide (x ≠ b) else A x
  have hC : Side a C := by
    constructor
    · simp only [C]; split
      · simp [ha.inn, hab]
      · exact ha.inn
    · simp only [C]; split
      · simp [ha.out, h]
      · exact ha.out
  refine ⟨C, hC, ?_⟩
  rw [rmap_thn (wh_Hom _ _), rmap_thn (wh_Hom _ _)]
  apply rmap_congr
  intro x s
  unfold thn
  have eBa : wh b B a = [a] := by rw [wh_ne B hab hab', hBa, h]; rfl
  have eBa' : wh b B (inv a) = [inv a] := by rw [wh_ne B (fun e => hba' e.symm) hai, inv_inv, hBa, h]; rfl
  have hCb : C b = false := by
    simp only [C]; split
    · simp
    · exact hAb
  have hCb' : C (inv b) = A (inv b) := by
    simp only [C]; split
    · rename_i e; simp [e, inv_ne]
    · rfl
  have eCb : wh a C b = (if A (inv b) = true then [inv a] else []) ++ [b] := by
    rw [wh_ne C (fun e => hab e.symm) hba', hCb, hCb']; simp
  have eCb' : wh a C (inv b) = [inv b] ++ (if A (inv b) = true then [a] else []) := by
    rw [wh_ne C (fun e => hab' e.symm) (fun e => hai e.symm), inv_inv, hCb, hCb']; simp
  have eAb : wh a A b = (if A (inv b) = true then [inv a] else []) ++ [b] := by
    rw [wh_ne A (fun e => hab e.symm) hba', hAb]; simp
  have eAb' : wh a A (inv b) = [inv b] ++ (if A (inv b) = true then [a] else []) := by
    rw [wh_ne A (fun e => hab' e.symm) (fun e => hai e.symm), inv_inv, hAb]; simp
  by_cases h1 : x = a
  · subst h1; simp [wh_self, eBa]
  · by_cases h2 : x = inv a
    · subst h2; simp [wh_inv_self, eBa']
    · by_cases h3 : x = b
      · subst h3
        rw [wh_self, eAb]
        simp only [sub_cons, sub_nil, eCb, sub_append, wh_self]
        split <;> simp [eBa', wh_self]
      · by_cases h4 : x = inv b
        · subst h4
          rw [wh_inv_self, eAb']
          simp only [sub_cons, sub_nil, eCb', sub_append, wh_inv_self]
          split <;> simp [eBa, wh_inv_self]
        · have h5 : inv x ≠ b := fun e => h4 (by rw [← e, inv_inv])
          have d1 := hd x
          have d2 := hd (inv x)
          have ex := wh_ne B h3 h4
          have ey := wh_ne C h1 h2
          have hCx : C x = if A (inv b) = true then A x || B x else A x := by simp [C, h3]
          have hCx' : C (inv x) = if A (inv b) = true then A (inv x) || B (inv x) else A (inv x) := by simp [C, h5]
          clear_value C
          rw [wh_ne A h1 h2, wh_ne B h3 h4]
          cases e0 : A (inv b) <;> cases e1 : A x <;> cases e2 : A (inv x) <;> cases e3 : B x <;> cases e4 : B (inv x) <;>
            simp [e1, e3] at d1 <;> simp [e2, e4] at d2 <;>
            simp [eBa, eBa', eCb, eCb', ex, ey, hCx, hCx', e0, e1, e2, e3, e4]

/-- one side, two letters -/
theorem two_letters {a d : L} {A : S8} (ha : Side a A) (hd : Side d A) (had : a ≠ d) (R : Row) :
    ∃ p q C, Per p q ∧ Side d C ∧ rmap (wh d C) (rmap (wh a A) R) = rmap (single p) (rmap (wh d A) R) := by
  have h1 : a ≠ inv d := fun e => by have := hd.out; rw [← e, ha.inn] at this; cases this
  have h2 : d ≠ inv a := fun e => h1 (by rw [e, inv_inv])
  have h3 : inv a ≠ inv d := fun e => had (inv_inj e)
  have h2' : inv a ≠ d := fun e => h2 e.symm
  have h1' : inv d ≠ a := fun e => h1 e.symm
  let p : L → L := fun x => if x = d then a else if x = inv d then inv a else if x = a then inv d else if x = inv a then d else x
  let q : L → L := fun x => if x = a then d else if x = inv a then inv d else if x = inv d then a else if x = d then inv a else x
  have key : ∀ x, x = a ∨ x = inv a ∨ x = d ∨ x = inv d ∨ (x ≠ a ∧ x ≠ inv a ∧ x ≠ d ∧ x ≠ inv d ∧ inv x ≠ a ∧ inv x ≠ inv a ∧ inv x ≠ d ∧ inv x ≠ inv d) := by
    intro x
    by_cases e1 : x = a
    · exact .inl e1
    · by_cases e2 : x = inv a
      · exact .inr (.inl e2)
      · by_cases e3 : x = d
        · exact .inr (.inr (.inl e3))
        · by_cases e4 : x = inv d
          · exact .inr (.inr (.inr (.inl e4)))
          · exact .inr (.inr (.inr (.inr ⟨e1, e2, e3, e4, fun e => e2 (inv_eq_comm.mp e), fun e => e1 (inv_inj e), fun e => e4 (inv_eq_comm.mp e), fun e => e3 (inv_inj e)⟩)))
  have hda : d ≠ a := fun e => had e.symm
  have h3' : inv d ≠ inv a := fun e => h3 e.symm
  have hP : Per p q := by
    constructor <;> intro x <;> rcases key x with e | e | e | e | ⟨e1, e2, e3, e4, e5, e6, e7, e8⟩ <;>
      (first | subst e | skip) <;> simp_all [p, q]
  let C : S8 := fun x => if x = a then false else if x = inv a then true else A x
  have hC : Side d C := ⟨by simp [C, hda, h2, hd.inn], by simp [C, h1', h3', hd.out]⟩
  refine ⟨p, q, C, hP, hC, ?_⟩
  rw [rmap_thn (wh_Hom _ _), rmap_thn (single_Hom hP)]
  apply rmap_congr
  intro x s
  unfold thn
  have eCa : wh d C a = [inv d, a] := by rw [wh_ne C had h1]; simp [C]
  have eCa' : wh d C (inv a) = [inv a, d] := by rw [wh_ne C h2' h3]; simp [C]
  have eAd : wh a A d = [d, a] := by rw [wh_ne A hda h2]; simp [hd.inn, hd.out]
  have eAd' : wh a A (inv d) = [inv a, inv d] := by rw [wh_ne A h1' h3']; simp [hd.inn, hd.out]
  have eDa : wh d A a = [a, d] := by rw [wh_ne A had h1]; simp [ha.inn, ha.out]
  have eDa' : wh d A (inv a) = [inv d, inv a] := by rw [wh_ne A h2' h3]; simp [ha.inn, ha.out]
  have pd : p d = a := by simp [p]
  have pd' : p (inv d) = inv a := by simp [p]
  have pa : p a = inv d := by simp [p, had, h1]
  have pa' : p (inv a) = d := by simp [p, h2', h3]
  rcases key x with e | e | e | e | ⟨e1, e2, e3, e4, e5, e6, e7, e8⟩
  · subst e; simp [wh_self, eCa, eDa, single, pa, pd]
  · subst e; simp [wh_inv_self, eCa', eDa', single, pa', pd']
  · subst e; simp [wh_self, eAd, eCa, single, pd]
  · subst e; simp [wh_inv_self, eAd', eCa', single, pd']
  · have px : p x = x := by simp [p, e1, e2, e3, e4]
    have ex := wh_ne C e3 e4
    have hCx : C x = A x := by simp [C, e1, e2]
    have hCx' : C (inv x) = A (inv x) := by simp [C, e5, e6]
    clear_value C
    rw [wh_ne A e1 e2, wh_ne A e3 e4]
    cases b1 : A x <;> cases b2 : A (inv x) <;>
      simp [eCa, eCa', single, pd, pd', px, ex, hCx, hCx', b1, b2]

/-- a change seen through letters for letters -/
theorem per_change {p q : L → L} (h : Per p q) {a : L} {S : S8} (hs : Side a S) (R : Row) :
    Side (p a) (fun x => S (q x)) ∧
    rmap (single p) (rmap (wh a S) R) = rmap (wh (p a) (fun x => S (q x))) (rmap (single p) R) := by
  refine ⟨⟨by simp [h.qp, hs.inn], by simp [h.hq, h.qp, hs.out]⟩, ?_⟩
  rw [rmap_thn (single_Hom h), rmap_thn (wh_Hom _ _)]
  apply rmap_congr
  intro x s
  unfold thn
  have pinj : ∀ {x y}, p x = p y → x = y := fun {x y} e => by rw [← h.qp x, e, h.qp]
  by_cases h1 : x = a
  · subst h1; simp [wh_self, single]
  · by_cases h2 : x = inv a
    · subst h2; simp [wh_inv_self, single, h.hp]
    · have e1 : p x ≠ p a := fun e => h1 (pinj e)
      have e2 : p x ≠ inv (p a) := fun e => h2 (pinj (by rw [e, h.hp]))
      rw [wh_ne S h1 h2]
      simp only [single, sub_cons, sub_nil, wh_ne _ e1 e2, h.hq, h.qp]
      cases S x <;> cases S (inv x) <;> simp [single, h.hp]

theorem rtold_single_len {p q : L → L} (h : Per p q) {w : W} (hw : CR w) : (rtold (single p) w).length = w.length := by
  have pinj : ∀ {x y}, p x = p y → x = y := fun {x y} e => by rw [← h.qp x, e, h.qp]
  have e1 : ∀ u : W, sub (single p) u = u.map p := by
    intro u; induction u with
    | nil => rfl
    | cons x u ih => simp [single, ih]
  have hlp : ∀ u : W, Red u → Red (u.map p) := by
    intro u
    induction u with
    | nil => exact fun _ => trivial
    | cons x u ih =>
      intro hu
      cases u with
      | nil => trivial
      | cons y u => exact ⟨fun e => hu.1 (pinj (by rw [e, h.hp])), ih hu.2⟩
  have hc : CR (w.map p) := by
    cases w with
    | nil => intro z hz; cases hz
    | cons x t =>
      have := hlp _ (CR_cons.mp hw)
      rw [List.map_cons, CR_cons]
      simpa using this
  unfold rtold
  rw [e1, red_of_Red hc.red, ring_len hc]
  simp
theorem rmap_single_len {p q : L → L} (h : Per p q) {R : Row} (hR : rowR R) : rlen (rmap (single p) R) = rlen R := by
  induction R with
  | nil => rfl
  | cons w R ih =>
    have ih := ih (fun v hv => hR v (List.mem_cons_of_mem _ hv))
    have := rtold_single_len h (hR w (List.mem_cons_self ..)).cr
    simp only [rlen, rmap, List.map_cons, rsum_cons] at *
    omega

/-- a way along which all rows but the first are shorter than m -/
inductive Low (m : Nat) : Row → Row → Prop
  | refl (R : Row) : Low m R R
  | step {R R1 R2 : Row} : Step R R1 → rlen R1 < m → Low m R1 R2 → Low m R R2
theorem Low.trans {m : Nat} {R R1 R2 : Row} (h : Low m R R1) (k : Low m R1 R2) : Low m R R2 := by
  induction h with
  | refl => exact k
  | step s l _ ih => exact Low.step s l (ih k)
theorem Low.one {m : Nat} {R R1 : Row} (s : Step R R1) (l : rlen R1 < m) : Low m R R1 := .step s l (.refl _)

theorem peak_apart {R : Row} (hR : rowR R) {a b : L} {A B : S8} (ha : Side a A) (hb : Side b B)
    (h1 : rcut A R ≤ rcnt a R) (h2 : rcut B R < rcnt b R) (hd : ∀ x, A x = true → B x = false) :
    Low (rlen R) (rmap (wh a A) R) (rmap (wh b B) R) := by
  have la := rmap_len_wh ha hR
  have lb := rmap_len_wh hb hR
  have rA := rmap_rowR (wh a A) R
  have rB := rmap_rowR (wh b B) R
  have lowB : rlen (rmap (wh b B) R) < rlen R := by omega
  have hd' : ∀ x, B x = true → A x = false := by
    intro x hx; cases e : A x
    · rfl
    · have := hd x e; rw [hx] at this; cases this
  have hab : a ≠ b := fun e => by subst e; have := hd a ha.inn; rw [hb.inn] at this; cases this
  have sub1 : ∀ {c : L} {S : S8}, Side c S → rcut S R < rcnt c R → rlen (rmap (wh c S) R) < rlen R := by
    intro c S hs hl; have := rmap_len_wh hs hR; omega
  have cplSide : ∀ {c : L} {S : S8}, Side (inv c) S → Side c (cpl S) := by
    intro c S hs; exact ⟨by have := hs.out; rw [inv_inv] at this; simp [cpl, this], by simp [cpl, hs.inn]⟩
  by_cases e : b = inv a
  · subst e
    have := rmap_cpl (inv a) B R
    rw [inv_inv] at this
    rw [this] at lowB ⊢
    exact .one (step_same ha (cplSide hb) (fun x hx => by simp [cpl, hd x hx]) R) lowB
  · by_cases e1 : B (inv a) = false
    · have hap : Apart a A B := ⟨hd a ha.inn, e1, hd'⟩
      have c1 := rcut_change ha hap hR
      have c2 := rcnt_change ha (b := b) (fun e => hab e.symm) e hR
      have c3 := rmap_len_wh hb rA
      obtain ⟨C, hC, eC⟩ := two_changes ha hb hd e1 R
      refine .step (.ch b B _ hb) (by omega) (.one ?_ lowB)
      rw [eC]
      exact (Step.ch a C _ hC).symm rB
    · by_cases e2 : A (inv b) = false
      · have hap : Apart b B A := ⟨hd' b hb.inn, e2, hd⟩
        have c1 := rcut_change hb hap hR
        have c2 := rcnt_change hb (b := a) hab (fun e' => e (by rw [e', inv_inv])) hR
        have c3 := rmap_len_wh ha rB
        obtain ⟨C, hC, eC⟩ := two_changes hb ha hd' e2 R
        have s1 := Step.ch b C (rmap (wh a A) R) hC
        have s2 := (Step.ch a A (rmap (wh b B) R) ha).symm rB
        rw [← eC] at s1
        exact .step s1 (by omega) (.one s2 lowB)
      · have hbA : Side (inv b) A := ⟨by simpa using e2, by rw [inv_inv]; exact hd' b hb.inn⟩
        have haB : Side (inv a) B := ⟨by simpa using e1, by rw [inv_inv]; exact hd a ha.inn⟩
        by_cases e3 : rcut A R < rcnt b R
        · have lq : rlen (rmap (wh (inv b) A) R) < rlen R := sub1 hbA (by rw [rcnt_inv]; exact e3)
          obtain ⟨p, q, C, hp, hC, eC⟩ := two_letters ha hbA (fun e' => e (by rw [e', inv_inv])) R
          have rQ := rmap_rowR (wh (inv b) A) R
          have s1 := Step.ch (inv b) C (rmap (wh a A) R) hC
          rw [eC] at s1
          have s2 := (Step.pe p q (rmap (wh (inv b) A) R) hp).symm rQ
          have l1 := rmap_single_len hp rQ
          refine .step s1 (by omega) (.step s2 lq (.one ?_ lowB))
          have e4 := rmap_cpl (inv b) A R
          rw [inv_inv] at e4
          rw [e4]
          exact (step_same hb (cplSide hbA) (fun x hx => by simp [cpl, hd' x hx]) R).symm rB
        · have lq : rlen (rmap (wh (inv a) B) R) < rlen R := sub1 haB (by rw [rcnt_inv]; omega)
          obtain ⟨p, q, C, hp, hC, eC⟩ := two_letters hb haB (fun e' => e e') R
          have rQ := rmap_rowR (wh (inv a) B) R
          have e4 := rmap_cpl (inv a) B R
          rw [inv_inv] at e4
          have s1 := step_same ha (cplSide haB) (fun x hx => by simp [cpl, hd x hx]) R
          rw [← e4] at s1
          have s2 := Step.pe p q (rmap (wh (inv a) B) R) hp
          have l1 := rmap_single_len hp rQ
          have s3 := (Step.ch (inv a) C (rmap (wh b B) R) hC).symm rB
          rw [eC] at s3
          exact .step s1 lq (.step s2 (by omega) (.one s3 lowB))

theorem Side.cpl {c : L} {S : S8} (hs : Side c S) : Side (inv c) (cpl S) :=
  ⟨by simp [NL.cpl, hs.out], by rw [inv_inv]; simp [NL.cpl, hs.inn]⟩

/-- two sides that don't cross -/
def Nested (A B : S8) : Prop := ∃ s t : Bool, ∀ x, A x = s → B x = t

theorem peak_nested {R : Row} (hR : rowR R) {a b : L} {A B : S8} (ha : Side a A) (hb : Side b B)
    (h1 : rcut A R ≤ rcnt a R) (h2 : rcut B R < rcnt b R) (hn : Nested A B) :
    Low (rlen R) (rmap (wh a A) R) (rmap (wh b B) R) := by
  obtain ⟨s, t, hn⟩ := hn
  have h1' : rcut (cpl A) R ≤ rcnt (inv a) R := by rw [rcut_cpl, rcnt_inv]; exact h1
  have h2' : rcut (cpl B) R < rcnt (inv b) R := by rw [rcut_cpl, rcnt_inv]; exact h2
  cases s <;> cases t
  · rw [rmap_cpl a A]
    exact peak_apart hR ha.cpl hb h1' h2 (fun x hx => hn x (by simpa [cpl] using hx))
  · rw [rmap_cpl a A, rmap_cpl b B]
    exact peak_apart hR ha.cpl hb.cpl h1' h2' (fun x hx => by simp [cpl, hn x (by simpa [cpl] using hx)])
  · exact peak_apart hR ha hb h1 h2 hn
  · rw [rmap_cpl b B]
    exact peak_apart hR ha hb.cpl h1 h2' (fun x hx => by simp [cpl, hn x hx])

theorem quarter (p : Bool → Bool → Nat) (ca cb : Nat) (Ba Ba' Ab Ab' : Bool)
    (h1 : p true true + p false false < ca + cb) (h2 : p true false + p false true < ca + cb) :
    p true Ba < ca ∨ p false Ba' < ca ∨ p Ab true < cb ∨ p Ab' false < cb := by
  cases Ba <;> cases Ba' <;> cases Ab <;> cases Ab' <;> omega

theorem peak_ch {R : Row} (hR : rowR R) {a b : L} {A B : S8} (ha : Side a A) (hb : Side b B)
    (h1 : rcut A R ≤ rcnt a R) (h2 : rcut B R < rcnt b R) :
    Low (rlen R) (rmap (wh a A) R) (rmap (wh b B) R) := by
  have q1 := rcut_qu A B true true R
  have q2 := rcut_qu A B true false R
  have hq := quarter (fun s t => rcut (qu A B s t) R) (rcnt a R) (rcnt b R) (B a) (B (inv a)) (A b) (A (inv b))
    (by simp at q1 ⊢; omega) (by simp at q2 ⊢; omega)
  have go : ∀ c s t, Side c (qu A B s t) → rcut (qu A B s t) R < rcnt c R → Low (rlen R) (rmap (wh a A) R) (rmap (wh b B) R) := by
    intro c s t hs hl
    refine (peak_nested hR ha hs h1 hl ⟨!s, false, ?_⟩).trans (peak_nested hR hs hb (Nat.le_of_lt hl) h2 ⟨true, t, ?_⟩)
    · intro x hx; simp [qu, hx]
    · intro x hx; simp [qu] at hx; exact hx.2
  have ai := ha.inn
  have ao := ha.out
  have bi := hb.inn
  have bo := hb.out
  rcases hq with h | h | h | h
  · exact go a true (B a) ⟨by simp [qu, ai], by simp [qu, ao]⟩ h
  · exact go (inv a) false (B (inv a)) ⟨by simp [qu, ao], by simp [qu, ai]⟩ (by rw [rcnt_inv]; exact h)
  · exact go b (A b) true ⟨by simp [qu, bi], by simp [qu, bo]⟩ h
  · exact go (inv b) (A (inv b)) false ⟨by simp [qu, bo], by simp [qu, bi]⟩ (by rw [rcnt_inv]; exact h)

theorem peak {R Q Q1 : Row} (hR : rowR R) (s : Step R Q) (s1 : Step R Q1) (h : rlen Q ≤ rlen R) (h1 : rlen Q1 < rlen R) :
    Low (rlen R) Q Q1 := by
  cases s1 with
  | pe p q _ hp => have := rmap_single_len hp hR; omega
  | ch b B _ hb =>
    have lb := rmap_len_wh hb hR
    cases s with
    | ch a A _ ha =>
      have la := rmap_len_wh ha hR
      exact peak_ch hR ha hb (by omega) (by omega)
    | pe p q _ hp =>
      obtain ⟨hs, e⟩ := per_change hp hb R
      have rB := rmap_rowR (wh b B) R
      have s1 := Step.ch _ _ (rmap (single p) R) hs
      rw [← e] at s1
      have s2 := (Step.pe p q (rmap (wh b B) R) hp).symm rB
      have := rmap_single_len hp rB
      exact .step s1 (by omega) (.one s2 h1)

/-- a way along rows of at most m letters -/
inductive Conn (m : Nat) : Row → Row → Prop
  | refl (R : Row) : rlen R ≤ m → Conn m R R
  | step {R R1 R2 : Row} : rlen R ≤ m → Step R R1 → Conn m R1 R2 → Conn m R R2
theorem Conn.head {m : Nat} {R R' : Row} (h : Conn m R R') : rlen R ≤ m := by
  cases h <;> assumption
theorem Conn.last {m : Nat} {R R' : Row} (h : Conn m R R') : rlen R' ≤ m := by
  induction h with
  | refl => assumption
  | step _ _ _ ih => exact ih
theorem Conn.mono {m k : Nat} {R R' : Row} (h : Conn m R R') (hk : m ≤ k) : Conn k R R' := by
  induction h with
  | refl R h => exact .refl R (by omega)
  | step h s _ ih => exact .step (by omega) s ih
theorem Low.conn {m : Nat} {R R1 R2 : Row} (h : Low (m + 1) R R1) (hR : rlen R ≤ m) (k : Conn m R1 R2) : Conn m R R2 := by
  induction h with
  | refl => exact k
  | step s l _ ih => exact .step hR s (ih (by omega) k)

/-- the way goes down at once, or stays below -/
theorem go_down {m : Nat} {R R' : Row} (hR : rowR R) (h : Conn (m + 1) R R') (hl : rlen R' ≤ m) :
    Conn m R R' ∨ (rlen R = m + 1 ∧ ∃ R1, Step R R1 ∧ rlen R1 ≤ m ∧ Conn m R1 R') := by
  induction h with
  | refl R h => exact .inl (.refl R hl)
  | @step R Q R' h s k ih =>
    rcases ih s.rowR hl with ih | ⟨e, Q1, s1, l1, k1⟩
    · by_cases e : rlen R ≤ m
      · exact .inl (.step e s ih)
      · exact .inr ⟨by omega, Q, s, ih.head, ih⟩
    · have low := peak s.rowR (s.symm hR) s1 (by omega) (by omega)
      rw [e] at low
      by_cases e2 : rlen R ≤ m
      · exact .inl (low.conn e2 k1)
      · cases low with
        | refl => omega
        | step s2 l2 low2 => exact .inr ⟨by omega, _, s2, by omega, low2.conn (by omega) k1⟩

/-- no change makes the row shorter -/
def WMin (R : Row) : Prop := ∀ a S, Side a S → rcnt a R ≤ rcut S R

theorem WMin.step {R R' : Row} (hR : rowR R) (h : WMin R) (s : Step R R') : rlen R ≤ rlen R' := by
  cases s with
  | ch a S _ hs => have := rmap_len_wh hs hR; have := h a S hs; omega
  | pe p q _ hp => have := rmap_single_len hp hR; omega

theorem whitehead {m : Nat} {R R' : Row} (hR : rowR R) (h : WMin R) (k : Conn m R R') : rlen R ≤ rlen R' := by
  induction m with
  | zero => have := k.head; omega
  | succ m ih =>
    by_cases hl : rlen R' ≤ m
    · rcases go_down hR k hl with k1 | ⟨e, R1, s, l1, _⟩
      · exact ih k1
      · have := h.step hR s; omega
    · have := k.head; omega

/-- joined by changes and exchanges -/
inductive Join : Row → Row → Prop
  | refl (R : Row) : Join R R
  | step {R R1 R2 : Row} : Step R R1 → Join R1 R2 → Join R R2
theorem Join.trans {R R1 R2 : Row} (h : Join R R1) (k : Join R1 R2) : Join R R2 := by
  induction h with
  | refl => exact k
  | step s _ ih => exact .step s (ih k)
theorem Join.one {R R1 : Row} (s : Step R R1) : Join R R1 := .step s (.refl _)
theorem Join.rowR {R R' : Row} (h : Join R R') (hR : NL.rowR R) : NL.rowR R' := by
  induction h with
  | refl => exact hR
  | step s _ ih => exact ih s.rowR
theorem Join.symm {R R' : Row} (h : Join R R') (hR : NL.rowR R) : Join R' R := by
  induction h with
  | refl => exact .refl _
  | step s _ ih => exact (ih s.rowR).trans (.one (s.symm hR))
theorem Join.conn {R R' : Row} (h : Join R R') : ∃ m, Conn m R R' := by
  induction h with
  | refl R => exact ⟨rlen R, .refl R (Nat.le_refl _)⟩
  | @step R R1 R2 s _ ih =>
    obtain ⟨m, k⟩ := ih
    exact ⟨max m (rlen R), .step (Nat.le_max_right ..) s (k.mono (Nat.le_max_left ..))⟩

theorem WMin.len_eq {R R' : Row} (hR : rowR R) (h : WMin R) (h' : WMin R') (j : Join R R') : rlen R = rlen R' := by
  obtain ⟨m, k⟩ := j.conn
  obtain ⟨m', k'⟩ := (j.symm hR).conn
  have h1 := whitehead hR h k
  have h2 := whitehead (j.rowR hR) h' k'
  omega

end NL

namespace NP
open PySem PySem.Spec L2

/-! ### data in a heap, away from what may be changed -/
abbrev Ms := Addr → Prop
mutual
inductive Dt (M : Ms) (H : Hp) : V → PyData → Prop
  | non : Dt M H .non .none
  | bl (b : Bool) : Dt M H (.bl b) (.bool b)
  | int (i : Int) : Dt M H (.int i) (.int i)
  | str (x : Str) : Dt M H (.str x) (.str x)
  | lst {a : Addr} {xs : List V} {ds : List PyData} : ¬ M a → H a = some (.lst xs) → DtAll M H xs ds → Dt M H (.ref a) (.list ds)
  | tup {a : Addr} {xs : List V} {ds : List PyData} : ¬ M a → H a = some (.tup xs) → DtAll M H xs ds → Dt M H (.ref a) (.tuple ds)
inductive DtAll (M : Ms) (H : Hp) : List V → List PyData → Prop
  | nil : DtAll M H [] []
  | cons {v : V} {vs : List V} {d : PyData} {ds : List PyData} : Dt M H v d → DtAll M H vs ds → DtAll M H (v :: vs) (d :: ds)
end

mutual
theorem Dt.keep {M M' : Ms} {H H' : Hp} (k : ∀ a o, ¬ M a → H a = some o → ¬ M' a ∧ H' a = some o) : ∀ {v : V} {d : PyData}, Dt M H v d → Dt M' H' v d
  | _, _, .non => .non
  | _, _, .bl b => .bl b
  | _, _, .int i => .int i
  | _, _, .str x => .str x
  | _, _, .lst m h r => .lst (k _ _ m h).1 (k _ _ m h).2 (DtAll.keep k r)
  | _, _, .tup m h r => .tup (k _ _ m h).1 (k _ _ m h).2 (DtAll.keep k r)
theorem DtAll.keep {M M' : Ms} {H H' : Hp} (k : ∀ a o, ¬ M a → H a = some o → ¬ M' a ∧ H' a = some o) : ∀ {v : List V} {d : List PyData}, DtAll M H v d → DtAll M' H' v d
  | _, _, .nil => .nil
  | _, _, .cons h r => .cons (Dt.keep k h) (DtAll.keep k r)
end
mutual
theorem Dt.dp {K : PySem.W.Frag} {M : Ms} {H : Hp} : ∀ {v : V} {d : PyData}, Dt M H v d → Dp K H v d
  | _, _, .non => .non
  | _, _, .bl b => .bl b
  | _, _, .int i => .int i
  | _, _, .str x => .str x
  | _, _, .lst m h r => .lst (SqL.of h) (DtAll.dp r)
  | _, _, .tup m h r => .tup (SqT.of h) (DtAll.dp r)
theorem DtAll.dp {K : PySem.W.Frag} {M : Ms} {H : Hp} : ∀ {v : List V} {d : List PyData}, DtAll M H v d → DpAll K H v d
  | _, _, .nil => .nil
  | _, _, .cons h r => .cons (Dt.dp h) (DtAll.dp r)
end
theorem DtAll.length {M : Ms} {H : Hp} : ∀ {v : List V} {d : List PyData}, DtAll M H v d → v.length = d.length
  | _, _, .nil => rfl
  | _, _, .cons _ r => congrArg Nat.succ r.length
theorem DtAll.get {M : Ms} {H : Hp} : ∀ {vs : List V} {ds : List PyData} {i : Nat} {d : PyData}, DtAll M H vs ds → ds[i]? = some d → ∃ v, vs[i]? = some v ∧ Dt M H v d
  | _, _, _, _, .nil, e => by simp at e
  | _, _, 0, _, .cons h _, e => by simp at e; subst e; exact ⟨_, rfl, h⟩
  | _, _, i + 1, d, .cons _ r, e => by
    obtain ⟨v, h1, h2⟩ := DtAll.get (i := i) (d := d) r (by simpa using e)
    exact ⟨v, by simpa using h1, h2⟩
theorem DtAll.append {M : Ms} {H : Hp} : ∀ {vs ws : List V} {ds es : List PyData}, DtAll M H vs ds → DtAll M H ws es → DtAll M H (vs ++ ws) (ds ++ es)
  | _, _, _, _, .nil, s => s
  | _, _, _, _, .cons h r, s => .cons h (DtAll.append r s)
theorem DtAll.take {M : Ms} {H : Hp} : ∀ {vs : List V} {ds : List PyData} (n : Nat), DtAll M H vs ds → DtAll M H (vs.take n) (ds.take n)
  | _, _, 0, _ => .nil
  | _, _, _ + 1, .nil => .nil
  | _, _, n + 1, .cons h r => .cons h (DtAll.take n r)
theorem DtAll.drop {M : Ms} {H : Hp} : ∀ {vs : List V} {ds : List PyData} (n : Nat), DtAll M H vs ds → DtAll M H (vs.drop n) (ds.drop n)
  | _, _, 0, h => h
  | _, _, _ + 1, .nil => .nil
  | _, _, n + 1, .cons h r => DtAll.drop n r
theorem DtAll.strs {M : Ms} {H : Hp} : ∀ {vs : List V} {zs : List Str}, DtAll M H vs (zs.map .str) → vs = zs.map .str
  | _, [], .nil => rfl
  | _, z :: zs, .cons (.str _) r => by rw [List.map_cons, DtAll.strs r]
theorem DtAll.ints {M : Ms} {H : Hp} : ∀ {vs : List V} {zs : List Int}, DtAll M H vs (zs.map .int) → vs = zs.map .int
  | _, [], .nil => rfl
  | _, z :: zs, .cons (.int _) r => by rw [List.map_cons, DtAll.ints r]
theorem DtAll.bools {M : Ms} {H : Hp} : ∀ {vs : List V} {zs : List Bool}, DtAll M H vs (zs.map .bool) → vs = zs.map .bl
  | _, [], .nil => rfl
  | _, z :: zs, .cons (.bl _) r => by rw [List.map_cons, DtAll.bools r]
theorem DtAll.of_strs {M : Ms} {H : Hp} : ∀ zs : List Str, DtAll M H (zs.map .str) (zs.map .str)
  | [] => .nil
  | z :: zs => .cons (.str z) (DtAll.of_strs zs)

/-! ### worlds -/
/-- something stands there, no tuple -/
def Nt (o : Option HO) : Prop := ∃ u, o = some u ∧ ∀ xs, u ≠ .tup xs
theorem Nt.ne {o : Option HO} (h : Nt o) : o ≠ none := by
  obtain ⟨u, e, _⟩ := h
  rw [e]
  intro z
  cases z
structure Wd where
  M : Ms
  F : Ms
  R : Hp → Hp → Prop
  refl : ∀ H, R H H
  trans : ∀ {H H1 H2}, R H H1 → R H1 H2 → R H H2
  ex : ∀ {H H'}, Same H H' → R H H'
  keep : ∀ {H H'}, R H H' → ∀ a o, ¬ F a → H a = some o → H' a = some o
  tr : ∀ {H H'}, R H H' → ∀ a, Nt (H a) → Nt (H' a)
  sub : ∀ a, F a → M a
  chg : ∀ {H0 H H' l}, R H0 H → H0 l = none → (∀ a o, a ≠ l → H a = some o → H' a = some o) → Nt (H' l) → R H0 H'

def Wd.add (W : Wd) (l : Addr) : Wd := { W with M := fun a => W.M a ∨ a = l, sub := fun a h => .inl (W.sub a h) }
/-- the world in which nothing that stood is changed -/
def pur (M : Ms) : Wd where
  M := M
  F := fun _ => False
  R := Same
  refl := Same.refl
  trans := Same.trans
  ex := id
  keep := fun h a o _ e => h a o e
  tr := fun h a ⟨u, e, n⟩ => ⟨u, h a u e, n⟩
  sub := fun _ h => h.elim
  chg := fun {H0 H H' l} r h0 k _ => fun a o e => k a o (fun q => by rw [q, h0] at e; cases e) (r a o e)

/-! ### what a name, a value stands for -/
inductive Ds where
  | d (x : PyData) | o (x : HO) | r (v : V) | u
def Val (M : Ms) (H : Hp) (v : V) : Ds → Prop
  | .d x => Dt M H v x
  | .o x => ∃ a, v = .ref a ∧ ¬ M a ∧ H a = some x
  | .r w => v = w
  | .u => True
theorem Val.keep {M M' : Ms} {H H' : Hp} (k : ∀ a o, ¬ M a → H a = some o → ¬ M' a ∧ H' a = some o) {v : V} {x : Ds} (h : Val M H v x) : Val M' H' v x := by
  cases x with
  | d x => exact Dt.keep k h
  | o x => obtain ⟨a, e, m, q⟩ := h; exact ⟨a, e, (k _ _ m q).1, (k _ _ m q).2⟩
  | r w => exact h
  | u => trivial
def SlotOk (M : Ms) (H : Hp) : Option V → Ds → Prop
  | _, .u => True
  | some v, x => Val M H v x
  | none, _ => False
theorem SlotOk.of {M : Ms} {H : Hp} {v : V} {x : Ds} (h : Val M H v x) : SlotOk M H (some v) x := by cases x <;> first | exact h | trivial
theorem SlotOk.keep {M M' : Ms} {H H' : Hp} (k : ∀ a o, ¬ M a → H a = some o → ¬ M' a ∧ H' a = some o) {s : Option V} {x : Ds} (h : SlotOk M H s x) : SlotOk M' H' s x := by
  cases x with
  | u => cases s <;> trivial
  | d x => cases s with
    | none => exact h.elim
    | some v => exact Val.keep (x := .d x) k h
  | o x => cases s with
    | none => exact h.elim
    | some v => exact Val.keep (x := .o x) k h
  | r x => cases s with
    | none => exact h.elim
    | some v => exact h
inductive SD (M : Ms) (H : Hp) : St → List Ds → Prop
  | nil : SD M H [] []
  | cons {s : Option V} {x : Ds} {ss : St} {xs : List Ds} : SlotOk M H s x → SD M H ss xs → SD M H (s :: ss) (x :: xs)
theorem SD.keep {M M' : Ms} {H H' : Hp} (k : ∀ a o, ¬ M a → H a = some o → ¬ M' a ∧ H' a = some o) {σ : St} {ds : List Ds} (h : SD M H σ ds) : SD M' H' σ ds := by
  induction h with
  | nil => exact .nil
  | cons a _ ih => exact .cons (a.keep k) ih
theorem SD.get {M : Ms} {H : Hp} {σ : St} {ds : List Ds} (h : SD M H σ ds) {i : Nat} {x : Ds} (e : ds[i]? = some x) (hx : x ≠ .u) : ∃ v, σ[i]? = some (some v) ∧ Val M H v x := by
  induction h generalizing i with
  | nil => simp at e
  | @cons s y ss ys a b ih =>
    cases i with
    | zero =>
      simp at e
      subst e
      cases s with
      | none => cases y <;> first | exact a.elim | exact absurd rfl hx
      | some v => exact ⟨v, rfl, by cases y <;> exact a⟩
    | succ i =>
      obtain ⟨v, h1, h2⟩ := ih (by simpa using e)
      exact ⟨v, by simpa using h1, h2⟩
theorem SD.set {M : Ms} {H : Hp} {σ : St} {ds : List Ds} (h : SD M H σ ds) (i : Nat) {s : Option V} {x : Ds} (e : SlotOk M H s x) : SD M H (σ.set i s) (ds.set i x) := by
  induction h generalizing i with
  | nil => exact .nil
  | @cons s' y ss ys a b ih =>
    cases i with
    | zero => exact .cons e b
    | succ i => exact .cons a (ih i)
theorem SD.length {M : Ms} {H : Hp} {σ : St} {ds : List Ds} (h : SD M H σ ds) : σ.length = ds.length := by
  induction h with
  | nil => rfl
  | cons _ _ ih => simp [ih]
/-- something is forgotten -/
theorem SD.weak {M : Ms} {H : Hp} {σ : St} {ds ds' : List Ds} (h : SD M H σ ds) (hl : ds'.length = ds.length) (k : ∀ (i : Nat) (x : Ds), ds'[i]? = some x → x = Ds.u ∨ ds[i]? = some x) : SD M H σ ds' := by
  induction h generalizing ds' with
  | nil => cases ds' with
    | nil => exact .nil
    | cons => simp at hl
  | @cons s y ss ys a b ih =>
    cases ds' with
    | nil => simp at hl
    | cons y' ys' =>
      refine .cons ?_ (ih (by simpa using hl) fun i x e => by have := k (i + 1) x (by simpa using e); simpa using this)
      rcases k 0 y' rfl with e | e
      · subst e; cases s <;> trivial
      · simp at e; subst e; exact a

structure Ok (W : Wd) (H : Hp) (σ : St) (ds : List Ds) : Prop where
  sd : SD W.M H σ ds
  tr : ∀ a, W.M a → Nt (H a)
section
variable {W : Wd} {H H' : Hp} {σ : St} {ds : List Ds}
theorem Wd.kp (r : W.R H H') : ∀ a o, ¬ W.M a → H a = some o → ¬ W.M a ∧ H' a = some o := fun a o m e => ⟨m, W.keep r a o (fun f => m (W.sub a f)) e⟩
theorem Ok.mono (h : Ok W H σ ds) (r : W.R H H') : Ok W H' σ ds := ⟨h.sd.keep (Wd.kp r), fun a m => W.tr r a (h.tr a m)⟩
theorem Ok.fresh (h : Ok W H σ ds) {p : Addr} (e : H p = none) : ¬ W.M p := fun m => (h.tr p m).ne e
theorem Ok.set (h : Ok W H σ ds) (i : Nat) {v : V} {x : Ds} (e : Val W.M H v x) : Ok W H (σ.set i (some v)) (ds.set i x) := ⟨h.sd.set i (.of e), h.tr⟩
theorem Val.mono {v : V} {x : Ds} (h : Val W.M H v x) (r : W.R H H') : Val W.M H' v x := h.keep (Wd.kp r)
theorem Dt.mono {v : V} {x : PyData} (h : Dt W.M H v x) (r : W.R H H') : Dt W.M H' v x := h.keep (Wd.kp r)
theorem DtAll.mono {v : List V} {x : List PyData} (h : DtAll W.M H v x) (r : W.R H H') : DtAll W.M H' v x := h.keep (Wd.kp r)
theorem same_new {p : Addr} {o : HO} (h : H p = none) : Same H (upd H p o) := fun b u e => by rw [upd_ne (ne_of_none e h)]; exact e
/-- a new object that may be changed -/
theorem Ok.add (h : Ok W H σ ds) {p : Addr} {o : HO} (e : H p = none) (ho : ∀ xs, o ≠ .tup xs) : Ok (W.add p) (upd H p o) σ ds := by
  refine ⟨h.sd.keep fun a u m q => ⟨fun z => ?_, same_new e a u q⟩, fun a m => ?_⟩
  · rcases z with z | z
    · exact m z
    · rw [z, e] at q; cases q
  · rcases m with m | m
    · by_cases q : a = p
      · rw [q, upd_same]; exact ⟨o, rfl, ho⟩
      · rw [upd_ne q]; exact h.tr a m
    · rw [m, upd_same]; exact ⟨o, rfl, ho⟩
/-- an object that may be changed is changed -/
theorem Ok.upd (h : Ok W H σ ds) {p : Addr} {o : HO} (m : W.M p) (ho : ∀ xs, o ≠ .tup xs) : Ok W (upd H p o) σ ds := by
  refine ⟨h.sd.keep fun a u m' q => ⟨m', ?_⟩, fun a m' => ?_⟩
  · rw [upd_ne (fun z => m' (by rw [z]; exact m))]; exact q
  · by_cases q : a = p
    · rw [q, upd_same]; exact ⟨o, rfl, ho⟩
    · rw [upd_ne q]; exact h.tr a m'
end

/-! ### the weakest readings -/
def tw (X : Cx) (e : Expr) : TE := fun σ H Q => ∀ pins s, Inv X pins σ H s → wpAny (model X.prog X.w) X.A (eval e X.env) (EP X pins σ Q) X.xe s
def twt (X : Cx) (e : Expr) : TT := fun σ H Q => ∀ pins s, Inv X pins σ H s → wpAny (model X.prog X.w) X.A (isTrue e X.env (eval e X.env)) (TP X pins σ Q) X.xe s
/-- whatever the whole is (a part of and, or) -/
def tww (X : Cx) (e : Expr) : TT := fun σ H Q => ∀ whole pins s, Inv X pins σ H s → wpAny (model X.prog X.w) X.A (isTrue e X.env whole) (TP X pins σ Q) X.xe s
def twa (X : Cx) (es : List Expr) : TA := fun σ H Q => ∀ pos pins s, Inv X pins σ H s → wpAny (model X.prog X.w) X.A (spliced (backTo pos (starEach es X.env))) (AP X pins σ Q) X.xe s
def tws (X : Cx) (st : List Stmt) : TS := fun D σ H => ∀ pins s, Inv X pins σ H s → wpAny (model X.prog X.w) X.A (execs st X.env) (SP X pins D) X.xe s
def twi (X : Cx) (tg iter : Expr) : TI := fun σ H R => ∀ pins s, Inv X pins σ H s →
    wpAny (model X.prog X.w) X.A (eval iter X.env) (fun v s1 => wpAny (model X.prog X.w) X.A (pyIter v) (PIE X pins σ tg R) X.xe s1) X.xe s
section
variable {X : Cx} {e tg : Expr} {es : List Expr} {st : List Stmt} {σ : St} {H : Hp}
theorem tw_pe : PE X e (tw X e) := ⟨fun pins s σ H Q I h => h pins s I⟩
theorem twt_pt : PT X e (twt X e) := ⟨fun pins s σ H Q I h => h pins s I⟩
theorem tww_pw : PW X e (tww X e) := ⟨fun whole pins s σ H Q I h => h whole pins s I⟩
theorem twa_pa : PA X es (twa X es) := ⟨fun pos pins s σ H Q I h => h pos pins s I⟩
theorem tws_pss : PSs X st (tws X st) := ⟨fun pins s σ H Q I h => h pins s I⟩
theorem twi_pi : PI X tg e (twi X tg e) := ⟨fun pins s σ H Q I h => h pins s I⟩
theorem tw_of {t : TE} {Q : VK} (h : PE X e t) (q : t σ H Q) : tw X e σ H Q := fun pins s I => h.run pins s σ H Q I q
theorem twt_of {t : TT} {Q : Bool → Hp → Prop} (h : PT X e t) (q : t σ H Q) : twt X e σ H Q := fun pins s I => h.run pins s σ H Q I q
theorem tww_of {t : TT} {Q : Bool → Hp → Prop} (h : PW X e t) (q : t σ H Q) : tww X e σ H Q := fun whole pins s I => h.run whole pins s σ H Q I q
theorem twa_of {t : TA} {Q : List V → Hp → Prop} (h : PA X es t) (q : t σ H Q) : twa X es σ H Q := fun pos pins s I => h.run pos pins s σ H Q I q
theorem tws_of {t : TS} {D : Ends} (h : PSs X st t) (q : t D σ H) : tws X st D σ H := fun pins s I => h.run pins s σ H D I q
theorem twi_of {t : TI} {R : It → Hp → Prop} (h : PI X tg e t) (q : t σ H R) : twi X tg e σ H R := fun pins s I => h.run pins s σ H R I q
end

/-! ### judgements -/
variable (W : Wd) (X : Cx)
def Is {α : Type} (x : α) : α → Prop := fun y => y = x
def EE (e : Expr) (ds : List Ds) (H : Hp) (P : Ds → Prop) : Prop :=
  ∀ σ H1, W.R H H1 → Ok W H1 σ ds → ∀ Q : VK, (∀ v H2 x, W.R H1 H2 → P x → Val W.M H2 v x → Q v H2) → tw X e σ H1 Q
def ET (e : Expr) (ds : List Ds) (H : Hp) (P : Bool → Prop) : Prop :=
  ∀ σ H1, W.R H H1 → Ok W H1 σ ds → ∀ Q : Bool → Hp → Prop, (∀ b H2, W.R H1 H2 → P b → Q b H2) → twt X e σ H1 Q
def EW (e : Expr) (ds : List Ds) (H : Hp) (P : Bool → Prop) : Prop :=
  ∀ σ H1, W.R H H1 → Ok W H1 σ ds → ∀ Q : Bool → Hp → Prop, (∀ b H2, W.R H1 H2 → P b → Q b H2) → tww X e σ H1 Q
inductive VAll (M : Ms) (H : Hp) : List V → List Ds → Prop
  | nil : VAll M H [] []
  | cons {v : V} {x : Ds} {vs : List V} {xs : List Ds} : Val M H v x → VAll M H vs xs → VAll M H (v :: vs) (x :: xs)
theorem VAll.keep {M M' : Ms} {H H' : Hp} (k : ∀ a o, ¬ M a → H a = some o → ¬ M' a ∧ H' a = some o) {σ : List V} {ds : List Ds} (h : VAll M H σ ds) : VAll M' H' σ ds := by
  induction h with
  | nil => exact .nil
  | cons a _ ih => exact .cons (a.keep k) ih
theorem VAll.length {M : Ms} {H : Hp} {σ : List V} {ds : List Ds} (h : VAll M H σ ds) : σ.length = ds.length := by
  induction h with
  | nil => rfl
  | cons _ _ ih => simp [ih]
theorem VAll.data {M : Ms} {H : Hp} : ∀ {vs : List V} {ds : List PyData}, VAll M H vs (ds.map .d) → DtAll M H vs ds
  | _, [], .nil => .nil
  | _, _ :: _, .cons h r => .cons h (VAll.data r)
def EA (es : List Expr) (ds : List Ds) (H : Hp) (P : List Ds → Prop) : Prop :=
  ∀ σ H1, W.R H H1 → Ok W H1 σ ds → ∀ Q : List V → Hp → Prop, (∀ vs H2 xs, W.R H1 H2 → P xs → VAll W.M H2 vs xs → Q vs H2) → twa X es σ H1 Q
def SS (body : List Stmt) (D : Ends) (ds : List Ds) (H : Hp) : Prop :=
  ∀ σ H1, W.R H H1 → Ok W H1 σ ds → tws X body D σ H1
/-- a target is stored to -/
def EG (tg : Expr) (ds : List Ds) (x : Ds) (ds' : List Ds) : Prop :=
  ∀ pins s v u σ H (Q : St → Hp → Prop), Inv X pins σ H s → RelV v u → Ok W H σ ds → Val W.M H v x → (∀ σ', Ok W H σ' ds' → Q σ' H) →
    wpAny (model X.prog X.w) X.A (assign tg X.env u) (fun _ s' => ∃ σ' H', Inv X pins σ' H' s' ∧ Q σ' H') X.xe s
end NP

namespace NP
open PySem PySem.Spec L2
open PyProof.Rows (envOfC)
section
variable {W : Wd} {X : Cx} {e a b : Expr} {es : List Expr} {ds : List Ds} {H : Hp} {pos : Pos} {A B C : Ds → Prop}

theorem EE.imp (h : EE W X e ds H A) (k : ∀ x, A x → B x) : EE W X e ds H B := fun σ H1 r ok Q q => h σ H1 r ok Q fun v H2 x r2 ax hv => q v H2 x r2 (k x ax) hv
theorem EE.is {x y : Ds} (h : EE W X e ds H (Is x)) (k : x = y) : EE W X e ds H (Is y) := by rw [← k]; exact h
theorem EE.mono {H' : Hp} (h : EE W X e ds H A) (r : W.R H H') : EE W X e ds H' A := fun σ H1 r1 => h σ H1 (W.trans r r1)
theorem ET.imp {A B : Bool → Prop} (h : ET W X e ds H A) (k : ∀ x, A x → B x) : ET W X e ds H B := fun σ H1 r ok Q q => h σ H1 r ok Q fun v H2 r2 ax => q v H2 r2 (k _ ax)
theorem ET.is {x y : Bool} (h : ET W X e ds H (Is x)) (k : x = y) : ET W X e ds H (Is y) := by rw [← k]; exact h

theorem e_var (i : Nat) {x : Str} {y : Ds} (hd : ds[i]? = some y := by rfl) (hy : y ≠ .u := by intro h; cases h) (hN : X.N[i]? = some x := by rfl) (hv : Vis X.env.scope x := by first | exact Or.inl rfl | exact Or.inr (Or.inl rfl) | exact Or.inr (Or.inr rfl))
    (h1 : (x == ("__debug__" : Str)) = false := by decide) (h2 : (x == ("__classdict__" : Str)) = false := by decide) : EE W X (.Name x pos) ds H (Is y) := fun σ H1 r ok Q q => by
  obtain ⟨v, e, hv'⟩ := ok.sd.get hd hy
  exact tw_of (pe_var hN hv h1 h2) ⟨v, e, q v H1 y (W.refl _) rfl hv'⟩
theorem e_int {i : Int} {j} : EE W X (.Constant (.int i) j pos) ds H (Is (.d (.int i))) := fun σ H1 r ok Q q => tw_of pe_int (q _ H1 _ (W.refl _) rfl (.int i))
theorem e_bl {i : Bool} {j} : EE W X (.Constant (.bool i) j pos) ds H (Is (.d (.bool i))) := fun σ H1 r ok Q q => tw_of pe_bl (q _ H1 _ (W.refl _) rfl (.bl i))
theorem e_non {j} : EE W X (.Constant .none j pos) ds H (Is (.d .none)) := fun σ H1 r ok Q q => tw_of pe_non (q _ H1 _ (W.refl _) rfl .non)
theorem e_str {x : Str} {j} : EE W X (.Constant (.str x) j pos) ds H (Is (.d (.str x))) := fun σ H1 r ok Q q => tw_of pe_str (q _ H1 _ (W.refl _) rfl (.str x))
theorem e_glob {x : Str} {z : Str} {t : Tok} (hm : X.mg x = some (.str z t)) (hg : Gl X x := by rfl) (hd : (x == ("__debug__" : Str)) = false := by decide) : EE W X (.Name x pos) ds H (Is (.d (.str z))) :=
  fun σ H1 r ok Q q => tw_of (pe_glob (v := .str z) hg hm ⟨t, rfl⟩ hd) (q _ H1 _ (W.refl _) rfl (.str z))

/-! ### two-place operators -/
def RD (W : Wd) (r : R2) (x y : Ds) (C : Ds → Prop) : Prop :=
  ∀ v u H1, (∀ a, W.M a → Nt (H1 a)) → Val W.M H1 v x → Val W.M H1 u y → ∀ Q : VK, (∀ z H2 c, W.R H1 H2 → C c → Val W.M H2 z c → Q z H2) → r v u H1 Q
theorem op_go {r : R2} (ha : EE W X a ds H A) (hb : EE W X b ds H B) (h : ∀ x y, A x → B y → RD W r x y C) {σ : L2.St} {H1 : Hp} (r1 : W.R H H1) (ok : Ok W H1 σ ds) {Q : VK} (q : ∀ v H2 x, W.R H1 H2 → C x → Val W.M H2 v x → Q v H2) :
    tOp r (tw X a) (tw X b) σ H1 Q :=
  ha σ H1 r1 ok _ fun v H2 x r2 ax hv => hb σ H2 (W.trans r1 r2) (ok.mono r2) _ fun u H3 y r3 by_ hu =>
    h x y ax by_ v u H3 ((ok.mono r2).mono r3).tr (hv.mono r3) hu Q fun z H4 c r4 hc hz => q z H4 c (W.trans (W.trans r2 r3) r4) hc hz
theorem e_op {op : Operator} {r : R2} (ho : OpR X (binaryOp op) r) (ha : EE W X a ds H A) (hb : EE W X b ds H B) (h : ∀ x y, A x → B y → RD W r x y C) : EE W X (.BinOp a op b pos) ds H C :=
  fun σ H1 r1 ok Q q => tw_of (pe_op ho tw_pe tw_pe) (op_go ha hb h r1 ok q)
theorem e_opI {op : Operator} {r : R2} {x y : Ds} (ho : OpR X (binaryOp op) r) (ha : EE W X a ds H (Is x)) (hb : EE W X b ds H (Is y)) (h : RD W r x y C) : EE W X (.BinOp a op b pos) ds H C :=
  e_op ho ha hb fun _ _ e1 e2 => by cases e1; cases e2; exact h
theorem e_cmpI {op : CmpOp} {r : R2} {x y : Ds} (ho : OpR X (compareOp op) r) (ha : EE W X a ds H (Is x)) (hb : EE W X b ds H (Is y)) (h : RD W r x y C) (hm : behindInMarks op b = false := by first | exact nomark _ | rfl) : EE W X (.Compare a [op] [b] pos) ds H C :=
  fun σ H1 r1 ok Q q => tw_of (pe_cmpR ho tw_pe tw_pe hm) (op_go ha hb (fun _ _ e1 e2 => by cases e1; cases e2; exact h) r1 ok q)
theorem et_cmp {op : CmpOp} {r : R2} {T : Bool → Prop} (ho : OpR X (compareOp op) r) (ha : EE W X a ds H A) (hb : EE W X b ds H B) (h : ∀ x y, A x → B y → RD W r x y fun z => ∃ k, z = .d (.bool k) ∧ T k) (hm : behindInMarks op b = false := by first | exact nomark _ | rfl) : ET W X (.Compare a [op] [b] pos) ds H T :=
  fun σ H1 r1 ok Q q => twt_of (pt_cmpR ho tw_pe tw_pe hm) (op_go ha hb h r1 ok fun v H2 x r2 ⟨k, e, t⟩ hv => by
    subst e
    cases hv
    exact ⟨k, rfl, q k H2 r2 t⟩)
theorem et_cmpI {op : CmpOp} {r : R2} {x y : Ds} {k : Bool} (ho : OpR X (compareOp op) r) (ha : EE W X a ds H (Is x)) (hb : EE W X b ds H (Is y)) (h : RD W r x y (Is (.d (.bool k)))) (hm : behindInMarks op b = false := by first | exact nomark _ | rfl) : ET W X (.Compare a [op] [b] pos) ds H (Is k) :=
  et_cmp ho ha hb (fun _ _ e1 e2 => by
    cases e1; cases e2
    exact fun v u H1 t hv hu Q q => h v u H1 t hv hu Q fun z H2 c r hc hz => q z H2 c r ⟨k, hc, rfl⟩ hz) hm
end

section
variable {W : Wd} {K : PySem.W.Frag}
theorem rd_int {f : Int → Int → Int} {i j : Int} : RD W (rI0 fun i j => .int (f i j)) (.d (.int i)) (.d (.int j)) (Is (.d (.int (f i j)))) := fun v u H1 _ hv hu Q q => by
  cases hv; cases hu
  exact ⟨i, j, rfl, rfl, q _ H1 _ (W.refl _) rfl (.int _)⟩
theorem rd_intC {c : Int → Int → Prop} {f : Int → Int → Int} {i j : Int} (hc : c i j) : RD W (rI c fun i j => .int (f i j)) (.d (.int i)) (.d (.int j)) (Is (.d (.int (f i j)))) := fun v u H1 _ hv hu Q q => by
  cases hv; cases hu
  exact ⟨i, j, rfl, rfl, hc, q _ H1 _ (W.refl _) rfl (.int _)⟩
theorem rd_bl {f : Int → Int → Bool} {i j : Int} : RD W (rI0 fun i j => .bl (f i j)) (.d (.int i)) (.d (.int j)) (Is (.d (.bool (f i j)))) := fun v u H1 _ hv hu Q q => by
  cases hv; cases hu
  exact ⟨i, j, rfl, rfl, q _ H1 _ (W.refl _) rfl (.bl _)⟩
theorem rd_str {i j : Str} (h : i.length + j.length ≤ sizeLine) : RD W (fun x y H Q => ∃ i j, x = .str i ∧ y = .str j ∧ i.length + j.length ≤ sizeLine ∧ Q (.str (i ++ j)) H) (.d (.str i)) (.d (.str j)) (Is (.d (.str (i ++ j)))) := fun v u H1 _ hv hu Q q => by
  cases hv; cases hu
  exact ⟨i, j, rfl, rfl, h, q _ H1 _ (W.refl _) rfl (.str _)⟩
/-- plain data -/
def plain : PyData → Option V
  | .none => some .non
  | .bool b => some (.bl b)
  | .int i => some (.int i)
  | .str x => some (.str x)
  | _ => none
theorem plain_val {M : Ms} {H : Hp} {v u : V} {x : PyData} (h : Dt M H v x) (e : plain x = some u) : v = u := by
  cases h <;> simp [plain] at e <;> exact e
theorem rd_eq {x y : PyData} {v u : V} (hx : plain x = some v) (hy : plain y = some u) (hs : scal v u = true) : RD W rEq (.d x) (.d y) (Is (.d (.bool (decide (v = u))))) := fun v' u' H1 _ hv hu Q q => by
  cases plain_val hv hx; cases plain_val hu hy
  exact ⟨hs, q _ H1 _ (W.refl _) rfl (.bl _)⟩
theorem rd_ne {x y : PyData} {v u : V} (hx : plain x = some v) (hy : plain y = some u) (hs : scal v u = true) : RD W rNe (.d x) (.d y) (Is (.d (.bool (!decide (v = u))))) := fun v' u' H1 _ hv hu Q q => by
  cases plain_val hv hx; cases plain_val hu hy
  exact ⟨hs, q _ H1 _ (W.refl _) rfl (.bl _)⟩
theorem rd_eqS {x y : Str} : RD W rEq (.d (.str x)) (.d (.str y)) (Is (.d (.bool (decide (x = y))))) := by
  have h := rd_eq (W := W) (x := .str x) (y := .str y) rfl rfl rfl
  have e : decide (V.str x = V.str y) = decide (x = y) := by simp
  rwa [e] at h
theorem rd_neS {x y : Str} : RD W rNe (.d (.str x)) (.d (.str y)) (Is (.d (.bool (!decide (x = y))))) := by
  have h := rd_ne (W := W) (x := .str x) (y := .str y) rfl rfl rfl
  have e : decide (V.str x = V.str y) = decide (x = y) := by simp
  rwa [e] at h
theorem rd_eqI {x y : Int} : RD W rEq (.d (.int x)) (.d (.int y)) (Is (.d (.bool (decide (x = y))))) := by
  have h := rd_eq (W := W) (x := .int x) (y := .int y) rfl rfl rfl
  have e : decide (V.int x = V.int y) = decide (x = y) := by simp
  rwa [e] at h
theorem rd_neI {x y : Int} : RD W rNe (.d (.int x)) (.d (.int y)) (Is (.d (.bool (!decide (x = y))))) := by
  have h := rd_ne (W := W) (x := .int x) (y := .int y) rfl rfl rfl
  have e : decide (V.int x = V.int y) = decide (x = y) := by simp
  rwa [e] at h
theorem rd_neB {x y : Bool} : RD W rNe (.d (.bool x)) (.d (.bool y)) (Is (.d (.bool (x != y)))) := by
  have h := rd_ne (W := W) (x := .bool x) (y := .bool y) rfl rfl rfl
  have e : (!decide (V.bl x = V.bl y)) = (x != y) := by cases x <;> cases y <;> rfl
  rwa [e] at h
theorem rd_eqB {x y : Bool} : RD W rEq (.d (.bool x)) (.d (.bool y)) (Is (.d (.bool (x == y)))) := by
  have h := rd_eq (W := W) (x := .bool x) (y := .bool y) rfl rfl rfl
  have e : (decide (V.bl x = V.bl y)) = (x == y) := by cases x <;> cases y <;> rfl
  rwa [e] at h
/-- data of any depth -/
theorem rd_eqD {x y : PyData} (hx : SeqAt.shaped x = true) (hy : SeqAt.shaped y = true) : RD W (rEqD K) (.d x) (.d y) (Is (.d (.bool (PyData.eqv x y)))) := fun v u H1 _ hv hu Q q =>
  ⟨x, y, Dt.dp hv, Dt.dp hu, hx, hy, q _ H1 _ (W.refl _) rfl (.bl _)⟩
theorem rd_neD {x y : PyData} (hx : SeqAt.shaped x = true) (hy : SeqAt.shaped y = true) : RD W (rNeD K) (.d x) (.d y) (Is (.d (.bool (!PyData.eqv x y)))) := fun v u H1 _ hv hu Q q =>
  ⟨x, y, Dt.dp hv, Dt.dp hu, hx, hy, q _ H1 _ (W.refl _) rfl (.bl _)⟩
/-- in a tuple or a list of texts -/
theorem inV_strs (x : Str) : ∀ zs : List Str, inV (.str x) (zs.map V.str) = decide (x ∈ zs)
  | [] => rfl
  | z :: zs => by
    have ih := inV_strs x zs
    unfold inV at ih ⊢
    rw [List.map_cons, List.any_cons, ih]
    have e : eqV (.str z) (.str x) = decide (z = x) := by
      rfl
    rw [e]
    by_cases h : z = x
    · subst h; simp
    · have h2 : ¬ x = z := fun q => h q.symm
      simp [h, h2]
theorem flat_strs : ∀ zs : List Str, (zs.map V.str).all flatV = true
  | [] => rfl
  | z :: zs => by rw [List.map_cons, List.all_cons, flat_strs zs]; rfl
theorem rd_inT {neg : Bool} {x : Str} {zs : List Str} : RD W (rIn K neg) (.d (.str x)) (.d (.tuple (zs.map .str))) (Is (.d (.bool (if neg then !decide (x ∈ zs) else decide (x ∈ zs))))) := fun v u H1 _ hv hu Q q => by
  cases hv
  cases hu with
  | tup m h r =>
    rename_i p xs
    have e := r.strs
    subst e
    refine ⟨p, _, rfl, .inr (SqT.of h), rfl, flat_strs zs, ?_⟩
    rw [inV_strs]
    exact q _ H1 _ (W.refl _) rfl (.bl _)
theorem rd_inL {neg : Bool} {x : Str} {zs : List Str} : RD W (rIn K neg) (.d (.str x)) (.d (.list (zs.map .str))) (Is (.d (.bool (if neg then !decide (x ∈ zs) else decide (x ∈ zs))))) := fun v u H1 _ hv hu Q q => by
  cases hv
  cases hu with
  | lst m h r =>
    rename_i p xs
    have e := r.strs
    subst e
    refine ⟨p, _, rfl, .inl (SqL.of h), rfl, flat_strs zs, ?_⟩
    rw [inV_strs]
    exact q _ H1 _ (W.refl _) rfl (.bl _)
/-- a new object -/
theorem new_ok {H1 : Hp} (tr : ∀ a, W.M a → Nt (H1 a)) {p : Addr} (hp : H1 p = none) (o : HO) : ¬ W.M p ∧ W.R H1 (upd H1 p o) := ⟨fun m => (tr p m).ne hp, W.ex (same_new hp)⟩
/-- tuples joined -/
theorem rd_cat {xs ys : List PyData} (hl : xs.length + ys.length ≤ sizeLine) : RD W (rCatA K) (.d (.tuple xs)) (.d (.tuple ys)) (Is (.d (.tuple (xs ++ ys)))) := fun v u H1 tr hv hu Q q => by
  cases hv with
  | tup m h r =>
  cases hu with
  | tup m' h' r' =>
  refine ⟨_, _, _, _, rfl, rfl, SqT.of h, SqT.of h', by rw [r.length, r'.length]; exact hl, fun e => ?_, fun e1 e2 => ?_, fun _ _ p hp => ?_⟩
  · subst e; cases r; exact q _ H1 _ (W.refl _) rfl (.tup m' h' r')
  · subst e2; cases r'; rw [List.append_nil] at q; exact q _ H1 _ (W.refl _) rfl (.tup m h r)
  · obtain ⟨mp, rp⟩ := new_ok tr hp (.tup _)
    exact q _ _ _ rp rfl (.tup mp upd_same ((r.append r').mono rp))
/-- lists joined -/
theorem rd_catL {xs ys : List PyData} (hl : xs.length + ys.length ≤ sizeLine) : RD W (fun x y H Q => ∃ a b xs ys, x = .ref a ∧ y = .ref b ∧ SqL K H a xs ∧ SqL K H b ys ∧ xs.length + ys.length ≤ sizeLine ∧ ∀ p, H p = none → Q (.ref p) (upd H p (.lst (xs ++ ys)))) (.d (.list xs)) (.d (.list ys)) (Is (.d (.list (xs ++ ys)))) := fun v u H1 tr hv hu Q q => by
  cases hv with
  | lst m h r =>
  cases hu with
  | lst m' h' r' =>
  refine ⟨_, _, _, _, rfl, rfl, SqL.of h, SqL.of h', by rw [r.length, r'.length]; exact hl, fun p hp => ?_⟩
  obtain ⟨mp, rp⟩ := new_ok tr hp (.lst _)
  exact q _ _ _ rp rfl (.lst mp upd_same ((r.append r').mono rp))
/-- places -/
theorem atI_get {xs : List V} {ds : List PyData} {i : Int} {d : PyData} {M : Ms} {H : Hp} (r : DtAll M H xs ds) (e : atI ds i = some d) : ∃ v, atI xs i = some v ∧ Dt M H v d := by
  unfold atI at e ⊢
  rw [r.length]
  cases k : ixN ds.length i with
  | none => rw [k] at e; cases e
  | some j =>
    rw [k] at e
    exact r.get e
theorem rd_ixT {xs : List PyData} {i : Int} {d : PyData} (e : atI xs i = some d) : RD W (rIxT K) (.d (.tuple xs)) (.d (.int i)) (Is (.d d)) := fun v u H1 tr hv hu Q q => by
  cases hu
  cases hv with
  | tup m h r =>
    obtain ⟨w', e1, e2⟩ := atI_get r e
    exact ⟨_, _, _, _, rfl, rfl, SqT.of h, e1, q _ H1 _ (W.refl _) rfl e2⟩
theorem rd_ixL {xs : List PyData} {i : Int} {d : PyData} (e : atI xs i = some d) : RD W (rIxL K) (.d (.list xs)) (.d (.int i)) (Is (.d d)) := fun v u H1 tr hv hu Q q => by
  cases hu
  cases hv with
  | lst m h r =>
    obtain ⟨w', e1, e2⟩ := atI_get r e
    exact ⟨_, _, _, _, rfl, rfl, SqL.of h, e1, q _ H1 _ (W.refl _) rfl e2⟩
theorem rd_ixS {z : Str} {i : Int} {c : Nat} (hz : z.length ≤ sizeLine) (e : atI z.cps.toList i = some c) : RD W rIxS (.d (.str z)) (.d (.int i)) (Is (.d (.str ⟨#[c]⟩))) := fun v u H1 tr hv hu Q q => by
  cases hu
  cases hv
  exact ⟨_, _, _, rfl, rfl, hz, e, q _ H1 _ (W.refl _) rfl (.str _)⟩
end

section
variable {W : Wd} {X : Cx} {e a b : Expr} {es : List Expr} {ds : List Ds} {H : Hp} {pos p2 : Pos} {A B C : Ds → Prop}
theorem e_add {i j : Int} (ha : EE W X a ds H (Is (.d (.int i)))) (hb : EE W X b ds H (Is (.d (.int j)))) : EE W X (.BinOp a .Add b pos) ds H (Is (.d (.int (i + j)))) := e_opI op_add ha hb rd_int
theorem e_sub {i j : Int} (ha : EE W X a ds H (Is (.d (.int i)))) (hb : EE W X b ds H (Is (.d (.int j)))) : EE W X (.BinOp a .Sub b pos) ds H (Is (.d (.int (i - j)))) := e_opI op_sub ha hb rd_int
theorem e_mul {i j : Int} (ha : EE W X a ds H (Is (.d (.int i)))) (hb : EE W X b ds H (Is (.d (.int j)))) (hc : CMul i j) : EE W X (.BinOp a .Mult b pos) ds H (Is (.d (.int (i * j)))) := e_opI op_mul ha hb (rd_intC hc)
theorem e_cat {i j : Str} (ha : EE W X a ds H (Is (.d (.str i)))) (hb : EE W X b ds H (Is (.d (.str j)))) (h : i.length + j.length ≤ sizeLine) : EE W X (.BinOp a .Add b pos) ds H (Is (.d (.str (i ++ j)))) := e_opI op_add_str ha hb (rd_str h)
theorem e_ixT {xs : List PyData} {i : Int} {d : PyData} (ha : EE W X a ds H (Is (.d (.tuple xs)))) (hb : EE W X b ds H (Is (.d (.int i)))) (h : atI xs i = some d) (hs : PlainIx b := by intro _ _; rfl) : EE W X (.Subscript a b pos) ds H (Is (.d d)) :=
  fun σ H1 r1 ok Q q => tw_of (pe_ix ix_tup tw_pe tw_pe hs) (op_go ha hb (fun _ _ e1 e2 => by cases e1; cases e2; exact rd_ixT h) r1 ok q)
theorem e_ixL {xs : List PyData} {i : Int} {d : PyData} (ha : EE W X a ds H (Is (.d (.list xs)))) (hb : EE W X b ds H (Is (.d (.int i)))) (h : atI xs i = some d) (hs : PlainIx b := by intro _ _; rfl) : EE W X (.Subscript a b pos) ds H (Is (.d d)) :=
  fun σ H1 r1 ok Q q => tw_of (pe_ix ix_list tw_pe tw_pe hs) (op_go ha hb (fun _ _ e1 e2 => by cases e1; cases e2; exact rd_ixL h) r1 ok q)
theorem e_ixS {z : Str} {i : Int} {c : Nat} (ha : EE W X a ds H (Is (.d (.str z)))) (hb : EE W X b ds H (Is (.d (.int i)))) (hz : z.length ≤ sizeLine) (h : atI z.cps.toList i = some c) (hs : PlainIx b := by intro _ _; rfl) : EE W X (.Subscript a b pos) ds H (Is (.d (.str ⟨#[c]⟩))) :=
  fun σ H1 r1 ok Q q => tw_of (pe_ix ix_str tw_pe tw_pe hs) (op_go ha hb (fun _ _ e1 e2 => by cases e1; cases e2; exact rd_ixS hz h) r1 ok q)

/-! ### slices -/
inductive EO (W : Wd) (X : Cx) (ds : List Ds) (H : Hp) : Option Expr → Option Int → Prop
  | non : EO W X ds H none none
  | som {e : Expr} {i : Int} : EE W X e ds H (Is (.d (.int i))) → EO W X ds H (some e) (some i)
theorem EO.go {oe : Option Expr} {o : Option Int} (h : EO W X ds H oe o) : ∃ t, PO X oe t ∧ ∀ σ H1, W.R H H1 → Ok W H1 σ ds → ∀ Q : Option Int → Hp → Prop, (∀ H2, W.R H1 H2 → Q o H2) → t σ H1 Q := by
  cases h with
  | non => exact ⟨_, po_none, fun σ H1 r ok Q q => q H1 (W.refl _)⟩
  | som h => exact ⟨_, po_some tw_pe, fun σ H1 r ok Q q => h σ H1 r ok _ fun v H2 x r2 e hv => by
      cases e; cases hv
      exact ⟨_, rfl, q H2 r2⟩⟩
/-- a slice's value, by values -/
def RS (W : Wd) (r : V → Option Int → Option Int → Hp → VK → Prop) (x : Ds) (lo hi : Option Int) (C : Ds → Prop) : Prop :=
  ∀ v H1, (∀ a, W.M a → Nt (H1 a)) → Val W.M H1 v x → ∀ Q : VK, (∀ z H2 c, W.R H1 H2 → C c → Val W.M H2 z c → Q z H2) → r v lo hi H1 Q
theorem e_slice {r : V → Option Int → Option Int → Hp → VK → Prop} {x : Ds} {ol oh : Option Expr} {lo hi : Option Int} (hr : SlR X r) (ha : EE W X a ds H (Is x)) (hl : EO W X ds H ol lo) (hh : EO W X ds H oh hi) (h : RS W r x lo hi C) :
    EE W X (.Subscript a (.Slice ol oh none p2) pos) ds H C := fun σ H1 r1 ok Q q => by
  obtain ⟨tl, pl, ql⟩ := hl.go
  obtain ⟨th, ph, qh⟩ := hh.go
  exact tw_of (pe_slice hr tw_pe pl ph) (ha σ H1 r1 ok _ fun v H2 x' r2 ex hv => by
    cases ex
    exact ql σ H2 (W.trans r1 r2) (ok.mono r2) _ fun H3 r3 => qh σ H3 (W.trans (W.trans r1 r2) r3) ((ok.mono r2).mono r3) _ fun H4 r4 =>
      h v H4 (((ok.mono r2).mono r3).mono r4).tr ((hv.mono r3).mono r4) Q fun z H5 c r5 hc hz => q z H5 c (W.trans (W.trans (W.trans r2 r3) r4) r5) hc hz)
theorem e_slS {z : Str} {ol oh : Option Expr} {lo hi : Option Int} (ha : EE W X a ds H (Is (.d (.str z)))) (hl : EO W X ds H ol lo) (hh : EO W X ds H oh hi) (hz : z.length ≤ sizeLine) :
    EE W X (.Subscript a (.Slice ol oh none p2) pos) ds H (Is (.d (.str (cutS z lo hi)))) :=
  e_slice sl_str ha hl hh fun v H1 tr hv Q q => by
    cases hv
    exact ⟨_, rfl, hz, q _ H1 _ (W.refl _) rfl (.str _)⟩
def cutD (xs : List PyData) (lo hi : Option Int) : List PyData := (xs.drop (HT.sIx xs.length 0 lo)).take (HT.sIx xs.length xs.length hi - HT.sIx xs.length 0 lo)
theorem cutD_all {M : Ms} {H : Hp} {vs : List V} {xs : List PyData} (r : DtAll M H vs xs) (lo hi : Option Int) : DtAll M H (cutV vs lo hi) (cutD xs lo hi) := by
  unfold cutV cutD
  rw [r.length]
  exact (r.drop _).take _
theorem e_slT {xs : List PyData} {ol oh : Option Expr} {lo hi : Option Int} (ha : EE W X a ds H (Is (.d (.tuple xs)))) (hl : EO W X ds H ol lo) (hh : EO W X ds H oh hi) :
    EE W X (.Subscript a (.Slice ol oh none p2) pos) ds H (Is (.d (.tuple (cutD xs lo hi)))) :=
  e_slice sl_tupA ha hl hh fun v H1 tr hv Q q => by
    cases hv with
    | tup m h r =>
      rename_i p vs
      refine ⟨_, _, rfl, SqT.of h, fun w => ?_, fun _ p hp => ?_⟩
      · have e : cutD xs lo hi = xs := by
          unfold cutD
          rw [r.length] at w
          rw [w.1, w.2, List.drop_zero, Nat.sub_zero, List.take_length]
        rw [e] at q
        exact q _ H1 _ (W.refl _) rfl (.tup m h r)
      · obtain ⟨mp, rp⟩ := new_ok tr hp (.tup _)
        exact q _ _ _ rp rfl (.tup mp upd_same ((cutD_all r lo hi).mono rp))
theorem e_slL {xs : List PyData} {ol oh : Option Expr} {lo hi : Option Int} (ha : EE W X a ds H (Is (.d (.list xs)))) (hl : EO W X ds H ol lo) (hh : EO W X ds H oh hi) :
    EE W X (.Subscript a (.Slice ol oh none p2) pos) ds H (Is (.d (.list (cutD xs lo hi)))) :=
  e_slice sl_list ha hl hh fun v H1 tr hv Q q => by
    cases hv with
    | lst m h r =>
      refine ⟨_, _, rfl, SqL.of h, fun p hp => ?_⟩
      obtain ⟨mp, rp⟩ := new_ok tr hp (.lst _)
      exact q _ _ _ rp rfl (.lst mp upd_same ((cutD_all r lo hi).mono rp))

/-! ### arguments, displays -/
theorem ea_nil : EA W X [] ds H (Is []) := fun σ H1 r ok Q q => twa_of pa_nil (q [] H1 [] (W.refl _) rfl .nil)
theorem ea_cons {P : List Ds → Prop} {P' : List Ds → Prop} (ha : EE W X a ds H A) (hr : EA W X es ds H P) (h : ∀ x xs, A x → P xs → P' (x :: xs)) (hs : starEach (a :: es) X.env = (false, eval a X.env) :: starEach es X.env := by rfl) : EA W X (a :: es) ds H P' :=
  fun σ H1 r1 ok Q q => twa_of (pa_cons tw_pe twa_pa hs) (ha σ H1 r1 ok _ fun v H2 x r2 ax hv => hr σ H2 (W.trans r1 r2) (ok.mono r2) _ fun vs H3 xs r3 px hvs =>
    q _ H3 _ (W.trans r2 r3) (h x xs ax px) (.cons (hv.mono r3) hvs))
theorem ea_c {x : Ds} {xs : List Ds} (ha : EE W X a ds H (Is x)) (hr : EA W X es ds H (Is xs)) (hs : starEach (a :: es) X.env = (false, eval a X.env) :: starEach es X.env := by rfl) : EA W X (a :: es) ds H (Is (x :: xs)) :=
  ea_cons ha hr (fun _ _ e1 e2 => by cases e1; cases e2; rfl) hs
theorem e_tup {x1} {xs : List PyData} (h : EA W X es ds H (Is (xs.map .d))) (hl : xs.length ≤ sizeLine) : EE W X (.Tuple es x1 pos) ds H (Is (.d (.tuple xs))) := fun σ H1 r1 ok Q q =>
  tw_of (pe_tup twa_pa) (h σ H1 r1 ok _ fun vs H2 ys r2 e hvs => by
    cases e
    have r := hvs.data
    refine ⟨by rw [r.length]; exact hl, fun p hp => ?_⟩
    obtain ⟨mp, rp⟩ := new_ok (ok.mono r2).tr hp (.tup _)
    exact q _ _ _ (W.trans r2 rp) rfl (.tup mp upd_same (r.mono rp)))
theorem e_lst {xs : List PyData} (h : EA W X es ds H (Is (xs.map .d))) (hl : xs.length ≤ sizeLine) : EE W X (.List es pos) ds H (Is (.d (.list xs))) := fun σ H1 r1 ok Q q =>
  tw_of (pe_lst twa_pa) (h σ H1 r1 ok _ fun vs H2 ys r2 e hvs => by
    cases e
    have r := hvs.data
    refine ⟨by rw [r.length]; exact hl, fun p hp => ?_⟩
    obtain ⟨mp, rp⟩ := new_ok (ok.mono r2).tr hp (.lst _)
    exact q _ _ _ (W.trans r2 rp) rfl (.lst mp upd_same (r.mono rp)))
/-- the same, what the items are left open -/
theorem e_tupP {x1} {P : List Ds → Prop} (h : EA W X es ds H P) (k : ∀ ys, P ys → ∃ xs : List PyData, ys = xs.map .d ∧ xs.length ≤ sizeLine ∧ C (.d (.tuple xs))) : EE W X (.Tuple es x1 pos) ds H C := fun σ H1 r1 ok Q q =>
  tw_of (pe_tup twa_pa) (h σ H1 r1 ok _ fun vs H2 ys r2 e hvs => by
    obtain ⟨xs, ey, hl, hc⟩ := k ys e
    subst ey
    have r := hvs.data
    refine ⟨by rw [r.length]; exact hl, fun p hp => ?_⟩
    obtain ⟨mp, rp⟩ := new_ok (ok.mono r2).tr hp (.tup _)
    exact q _ _ _ (W.trans r2 rp) hc (.tup mp upd_same (r.mono rp)))

/-! ### calls of the program's own defs -/
/-- an own def as its callers see it -/
structure Cal (P : Program) (w : World) (K : PySem.W.Frag) (mg : Str → Option Value) (base : Heap) (x : Str) (k : Nat) (sp : Sp) : Prop where
  ex : ∃ (f : Addr) (fd : FuncData) (ps : List Str), FnOk P w K mg base CX0 k f fd ps sp ∧ mg x = some (.ref f) ∧ PySem.W.keepIn K (.ref f) = true ∧ Binds K fd ps []
/-- a promise of a def that changes nothing: what it is given, what it gives -/
def spP (R : List Ds → (Ds → Prop) → Prop) : Sp := fun vs H Q _ => ∃ (M : Ms) (as : List Ds) (P : Ds → Prop), (∀ a, M a → Nt (H a)) ∧ R as P ∧ VAll M H vs as ∧ ∀ v H' x, Same H H' → P x → Val M H' v x → Q v H'
theorem e_callS {x : Str} {k : Nat} {sp : Sp} {p : Pos} {P : List Ds → Prop} (c : Cal X.prog X.w X.K X.mg X.base x k sp) (hr : Room k X.A) (ha : EA W X (e :: es) ds H P)
    (h : ∀ vs H1 xs, (∀ a, W.M a → Nt (H1 a)) → P xs → VAll W.M H1 vs xs → ∀ Q : VK, (∀ v H2 x, W.R H1 H2 → C x → Val W.M H2 v x → Q v H2) → sp vs H1 Q E0)
    (hg : Gl X x := by rfl) (hdb : (x == ("__debug__" : Str)) = false := by decide) (he : starEach (e :: es) X.env = (false, eval e X.env) :: starEach es X.env := by rfl) (hpl : (backTo pos (starEach es X.env)).any (·.1) = false := by rfl) :
    EE W X (.Call (.Name x p) (e :: es) [] pos) ds H C := fun σ H1 r1 ok Q q => by
  obtain ⟨f, fd, ps, F, hm, hk, hb⟩ := c.ex
  exact tw_of (pe_call F hr hg hm hk hb .nil pass0 twa_pa hdb he hpl) (ha σ H1 r1 ok _ fun vs H2 xs r2 px hvs => by
    rw [List.append_nil]
    exact h vs H2 xs (ok.mono r2).tr px hvs Q fun v H3 x r3 cx hv => q v H3 x (W.trans r2 r3) cx hv)
theorem e_call {x : Str} {k : Nat} {R : List Ds → (Ds → Prop) → Prop} {p : Pos} {xs : List Ds} (c : Cal X.prog X.w X.K X.mg X.base x k (spP R)) (hr : Room k X.A) (ha : EA W X (e :: es) ds H (Is xs)) (h : R xs C)
    (hg : Gl X x := by rfl) (hdb : (x == ("__debug__" : Str)) = false := by decide) (he : starEach (e :: es) X.env = (false, eval e X.env) :: starEach es X.env := by rfl) (hpl : (backTo pos (starEach es X.env)).any (·.1) = false := by rfl) :
    EE W X (.Call (.Name x p) (e :: es) [] pos) ds H C :=
  e_callS c hr ha (fun vs H1 ys tr ey hvs Q q => by
    cases ey
    exact ⟨W.M, xs, C, tr, h, hvs, fun v H' x s cx hv => q v H' x (W.ex s) cx hv⟩) hg hdb he hpl
end

/-! ### a def's promise -/
section
variable {P : Program} {w : World} {K : PySem.W.Frag} {mg : Str → Option Value} {base : Heap}
/-- a def of the text as the top left it -/
def DefAt (K : PySem.W.Frag) (mg : Str → Option Value) (x : Str) (st : Stmt) : Prop := ∃ (f : Addr) (fd : FuncData), FunD K x x (defArgs st) (defBody st) (defScope st) [] [] f fd ∧ mg x = some (.ref f)
theorem cal_S {x : Str} {st : Stmt} {N ps : List Str} {k : Nat} {sp : Sp} (D : DefAt K mg x st) (S : FnScope N ps (defScope st))
    (hb : ∀ (kV doc pm : Value) (an : Option Addr) (cdv ct : Value) (us : List Value), us.length = ps.length → bindArgs (PySem.W.fnOf x x (defArgs st) (defBody st) (defScope st) .none kV doc pm an cdv ct) ⟨us, []⟩ = pure (ps.zip us))
    (len : ∀ vs H Q E, sp vs H Q E → vs.length = ps.length)
    (body : ∀ (f : Addr) (cdv : Value) (A : Around) (outer : List Env) (s : Shared) (H : Hp) (vs : List V) (Q : VK) (E : XK), Room k (A.deeper (envOfC x (defScope st) s.heap.objs.size f cdv)) → sp vs H Q E →
      tws (cxOf CX0 P w K mg base N x (defScope st) f cdv A outer s H E).nox (defBody st) { nx := fun _ H' => Q .non H', rt := Q } (L2.start N vs) H) : Cal P w K mg base x (k + 1) sp := by
  obtain ⟨f, fd, F, hm⟩ := D
  refine ⟨f, fd, ps, F.ok S len (fun cdv A outer s H vs Q E hr h => ⟨_, PSs.nox tws_pss, body f cdv A outer s H vs Q E hr h⟩), hm, F.kp, F.bindsN hb⟩
theorem start_ok {W : Wd} {H : Hp} {N : List Str} {vs : List V} {xs : List Ds} (h : VAll W.M H vs xs) (tr : ∀ a, W.M a → Nt (H a)) : Ok W H (L2.start N vs) (xs ++ List.replicate (N.length - xs.length) .u) := by
  refine ⟨?_, tr⟩
  unfold L2.start
  rw [h.length]
  clear tr
  generalize N.length - xs.length = n
  induction h with
  | nil =>
    show SD W.M H (List.replicate n none) (List.replicate n .u)
    induction n with
    | zero => exact .nil
    | succ n ih => exact .cons trivial ih
  | cons a _ ih => exact .cons (.of a) ih
abbrev XX (P : Program) (w : World) (K : PySem.W.Frag) (mg : Str → Option Value) (base : Heap) (N : List Str) (x : Str) (st : Stmt) (f : Addr) (cdv : Value) (A : Around) (outer : List Env) (s : Shared) (H : Hp) (E : XK) : Cx := (cxOf CX0 P w K mg base N x (defScope st) f cdv A outer s H E).nox
theorem cal_P {x : Str} {st : Stmt} {N ps : List Str} {k : Nat} {R : List Ds → (Ds → Prop) → Prop} (D : DefAt K mg x st) (S : FnScope N ps (defScope st))
    (hb : ∀ (kV doc pm : Value) (an : Option Addr) (cdv ct : Value) (us : List Value), us.length = ps.length → bindArgs (PySem.W.fnOf x x (defArgs st) (defBody st) (defScope st) .none kV doc pm an cdv ct) ⟨us, []⟩ = pure (ps.zip us))
    (len : ∀ xs C, R xs C → xs.length = ps.length)
    (body : ∀ (f : Addr) (cdv : Value) (A : Around) (outer : List Env) (s : Shared) (H0 : Hp) (E : XK) (M : Ms) (xs : List Ds) (C : Ds → Prop) (D : Ends), Room k (XX P w K mg base N x st f cdv A outer s H0 E).A → R xs C →
      (∀ v H' x, Same H0 H' → C x → Val M H' v x → D.rt v H') → (∀ σ H' , Same H0 H' → C (.d .none) → D.nx σ H') → (∀ a, M a → Nt (H0 a)) →
      SS (pur M) (XX P w K mg base N x st f cdv A outer s H0 E) (defBody st) D (xs ++ List.replicate (N.length - xs.length) .u) H0) : Cal P w K mg base x (k + 1) (spP R) := by
  refine cal_S D S hb (fun vs H Q E ⟨M, as, C, tr, r, hv, _⟩ => by rw [hv.length]; exact len as C r) fun f cdv A outer s H vs Q E hr ⟨M, as, C, tr, r, hv, q⟩ => ?_
  exact body f cdv A outer s H E M as C _ hr r (fun v H' x s' cx hx => q v H' x s' cx hx) (fun σ H' s' cx => q .non H' _ s' cx .non) tr (L2.start N vs) H (Same.refl H) (start_ok (W := pur M) hv tr)
end
end NP

namespace NP
open PySem PySem.Spec L2
open PyProof.Rows (envOfC)
/-! ### built-in functions, methods -/
section
variable {W : Wd} {X : Cx} {e a b o : Expr} {es : List Expr} {ds : List Ds} {H : Hp} {pos p apos : Pos} {A B C : Ds → Prop} {x : Str} {id : String} {T : String}
def RC (W : Wd) (r : List V → Hp → VK → Prop) (xs : List Ds) (C : Ds → Prop) : Prop :=
  ∀ vs H1, (∀ a, W.M a → Nt (H1 a)) → VAll W.M H1 vs xs → ∀ Q : VK, (∀ z H2 c, W.R H1 H2 → C c → Val W.M H2 z c → Q z H2) → r vs H1 Q
theorem e_callB {r : List V → Hp → VK → Prop} {P : List Ds → Prop} (hc : CallR X (.builtin id) r) (hm : X.mg x = none) (hv : bootBuiltins x = some (.builtin id)) (ha : EA W X (e :: es) ds H P) (h : ∀ xs, P xs → RC W r xs C)
    (hg : Gl X x := by rfl) (hn : x ≠ "__name__" := by decide) (hdb : (x == ("__debug__" : Str)) = false := by decide) (he : starEach (e :: es) X.env = (false, eval e X.env) :: starEach es X.env := by rfl) (hpl : (backTo pos (starEach es X.env)).any (·.1) = false := by rfl) :
    EE W X (.Call (.Name x p) (e :: es) [] pos) ds H C := fun σ H1 r1 ok Q q =>
  tw_of (pe_callB hc hg hm hv twa_pa hn hdb he hpl) (ha σ H1 r1 ok _ fun vs H2 xs r2 px hvs => h xs px vs H2 (ok.mono r2).tr hvs Q fun z H3 c r3 hc hz => q z H3 c (W.trans r2 r3) hc hz)
theorem e_callTy {r : List V → Hp → VK → Prop} {P : List Ds → Prop} (hc : CallR X (.type T) r) (hm : X.mg x = none) (hv : bootBuiltins x = some (.type T)) (ha : EA W X (e :: es) ds H P) (h : ∀ xs, P xs → RC W r xs C)
    (hg : Gl X x := by rfl) (hn : x ≠ "__name__" := by decide) (hdb : (x == ("__debug__" : Str)) = false := by decide) (he : starEach (e :: es) X.env = (false, eval e X.env) :: starEach es X.env := by rfl) (hpl : (backTo pos (starEach es X.env)).any (·.1) = false := by rfl) :
    EE W X (.Call (.Name x p) (e :: es) [] pos) ds H C := fun σ H1 r1 ok Q q =>
  tw_of (pe_callTy hc hg hm hv twa_pa hn hdb he hpl) (ha σ H1 r1 ok _ fun vs H2 xs r2 px hvs => h xs px vs H2 (ok.mono r2).tr hvs Q fun z H3 c r3 hc hz => q z H3 c (W.trans r2 r3) hc hz)
/-- one text's method without arguments, with one -/
theorem e_m0 {r : V → List V → Hp → VK → Prop} {z : Str} {name : Str} (slot : Slot "str" name id) (ty : typeOf (.builtin id) = pure (.type "method_descriptor")) (rule : MtR X id r) (ho : EE W X o ds H (Is (.d (.str z)))) (h : ∀ H1 Q, (∀ v H2 c, W.R H1 H2 → C c → Val W.M H2 v c → Q v H2) → r (.str z) [] H1 Q)
    (hbase : attributeBase o name X.env (eval o X.env) = eval o X.env := by rfl) (hline : (apos.endLine == pos.line) = true := by rfl) : EE W X (.Call (.Attribute o name apos) [] [] pos) ds H C := fun σ H1 r1 ok Q q =>
  tw_of (pe_m0 slot ty rule tw_pe hbase hline) (ho σ H1 r1 ok _ fun v H2 x r2 ex hv => by
    cases ex; cases hv
    exact ⟨⟨_, rfl⟩, h H2 Q fun v H3 c r3 hc hv => q v H3 c (W.trans r2 r3) hc hv⟩)
theorem e_m1 {r : V → List V → Hp → VK → Prop} {z : Str} {y : Ds} {name : Str} (slot : Slot "str" name id) (ty : typeOf (.builtin id) = pure (.type "method_descriptor")) (rule : MtR X id r) (ho : EE W X o ds H (Is (.d (.str z)))) (ha : EE W X a ds H (Is y))
    (h : ∀ u H1, (∀ a, W.M a → Nt (H1 a)) → Val W.M H1 u y → ∀ Q : VK, (∀ v H2 c, W.R H1 H2 → C c → Val W.M H2 v c → Q v H2) → r (.str z) [u] H1 Q)
    (hs : starEach [a] X.env = [(false, eval a X.env)] := by rfl) (hbase : attributeBase o name X.env (eval o X.env) = eval o X.env := by rfl) (hline : (apos.endLine == pos.line) = true := by rfl) : EE W X (.Call (.Attribute o name apos) [a] [] pos) ds H C := fun σ H1 r1 ok Q q =>
  tw_of (pe_m1 slot ty rule tw_pe tw_pe hs hbase hline) (ho σ H1 r1 ok _ fun v H2 x r2 ex hv => by
    cases ex; cases hv
    exact ⟨⟨_, rfl⟩, ha σ H2 (W.trans r1 r2) (ok.mono r2) _ fun u H3 y' r3 ey hu => by
      cases ey
      exact h u H3 ((ok.mono r2).mono r3).tr hu Q fun v H4 c r4 hc hv => q v H4 c (W.trans (W.trans r2 r3) r4) hc hv⟩)
theorem e_lower {z : Str} (ho : EE W X o ds H (Is (.d (.str z)))) (hz : z.length ≤ 5592405) (hbase : attributeBase o "lower" X.env (eval o X.env) = eval o X.env := by rfl) (hline : (apos.endLine == pos.line) = true := by rfl) :
    EE W X (.Call (.Attribute o "lower" apos) [] [] pos) ds H (Is (.d (.str (Txt.lower z)))) := e_m0 F.slot_str_lower F.type_str_lower mt_lower ho (fun H1 Q q => ⟨_, rfl, rfl, hz, q _ H1 _ (W.refl _) rfl (.str _)⟩) hbase hline
theorem e_upper {z : Str} (ho : EE W X o ds H (Is (.d (.str z)))) (hz : z.length ≤ 5592405) (hbase : attributeBase o "upper" X.env (eval o X.env) = eval o X.env := by rfl) (hline : (apos.endLine == pos.line) = true := by rfl) :
    EE W X (.Call (.Attribute o "upper" apos) [] [] pos) ds H (Is (.d (.str (Txt.upper z)))) := e_m0 F.slot_str_upper F.type_str_upper mt_upper ho (fun H1 Q q => ⟨_, rfl, rfl, hz, q _ H1 _ (W.refl _) rfl (.str _)⟩) hbase hline
theorem e_islower {z : Str} (ho : EE W X o ds H (Is (.d (.str z)))) (hbase : attributeBase o "islower" X.env (eval o X.env) = eval o X.env := by rfl) (hline : (apos.endLine == pos.line) = true := by rfl) :
    EE W X (.Call (.Attribute o "islower" apos) [] [] pos) ds H (Is (.d (.bool (Txt.islower z)))) := e_m0 F.slot_str_islower F.type_str_islower mt_islower ho (fun H1 Q q => ⟨_, rfl, rfl, trivial, q _ H1 _ (W.refl _) rfl (.bl _)⟩) hbase hline
theorem e_isupper {z : Str} (ho : EE W X o ds H (Is (.d (.str z)))) (hbase : attributeBase o "isupper" X.env (eval o X.env) = eval o X.env := by rfl) (hline : (apos.endLine == pos.line) = true := by rfl) :
    EE W X (.Call (.Attribute o "isupper" apos) [] [] pos) ds H (Is (.d (.bool (Txt.isupper z)))) := e_m0 F.slot_str_isupper F.type_str_isupper mt_isupper ho (fun H1 Q q => ⟨_, rfl, rfl, trivial, q _ H1 _ (W.refl _) rfl (.bl _)⟩) hbase hline
theorem e_count {z y : Str} (ho : EE W X o ds H (Is (.d (.str z)))) (ha : EE W X a ds H (Is (.d (.str y)))) (hs : starEach [a] X.env = [(false, eval a X.env)] := by rfl) (hbase : attributeBase o "count" X.env (eval o X.env) = eval o X.env := by rfl) (hline : (apos.endLine == pos.line) = true := by rfl) :
    EE W X (.Call (.Attribute o "count" apos) [a] [] pos) ds H (Is (.d (.int (Txt.count z y)))) := e_m1 F.slot_str_count F.type_str_count mt_count ho ha (fun u H1 tr hu Q q => by
      cases hu
      exact ⟨_, _, rfl, rfl, q _ H1 _ (W.refl _) rfl (.int _)⟩) hs hbase hline
theorem e_join {z : Str} {ys : List Str} (ho : EE W X o ds H (Is (.d (.str z)))) (ha : EE W X a ds H (Is (.d (.list (ys.map .str))))) (hl : (ys.map (·.length)).sum + ys.length * z.length ≤ 16777216) (hs : starEach [a] X.env = [(false, eval a X.env)] := by rfl) (hbase : attributeBase o "join" X.env (eval o X.env) = eval o X.env := by rfl) (hline : (apos.endLine == pos.line) = true := by rfl) :
    EE W X (.Call (.Attribute o "join" apos) [a] [] pos) ds H (Is (.d (.str (Txt.join z ys)))) := e_m1 F.slot_str_join F.type_str_join mt_join ho ha (fun u H1 tr hu Q q => by
      cases hu with
      | lst m h r =>
        have e := r.strs
        subst e
        exact ⟨_, _, ys, rfl, rfl, .inl (SqL.of h), hl, q _ H1 _ (W.refl _) rfl (.str _)⟩) hs hbase hline
theorem e_lenS {z : Str} (hm : X.mg "len" = none) (ha : EE W X a ds H (Is (.d (.str z)))) (hz : z.length ≤ sizeLine) (hg : Gl X "len" := by rfl) (he : starEach [a] X.env = (false, eval a X.env) :: starEach [] X.env := by rfl) : EE W X (.Call (.Name "len" p) [a] [] pos) ds H (Is (.d (.int z.length))) :=
  e_callB (he := he) call_len_str hm PySem.boot_len (ea_c ha ea_nil (hs := he)) (fun _ e vs H1 tr hvs Q q => by
    cases e
    cases hvs with
    | cons hv h0 => cases h0; cases hv; exact ⟨_, rfl, hz, q _ H1 _ (W.refl _) rfl (.int _)⟩) hg
theorem e_lenT {xs : List PyData} (hm : X.mg "len" = none) (ha : EE W X a ds H (Is (.d (.tuple xs)))) (hg : Gl X "len" := by rfl) (he : starEach [a] X.env = (false, eval a X.env) :: starEach [] X.env := by rfl) : EE W X (.Call (.Name "len" p) [a] [] pos) ds H (Is (.d (.int xs.length))) :=
  e_callB (he := he) call_len_seq hm PySem.boot_len (ea_c ha ea_nil (hs := he)) (fun _ e vs H1 tr hvs Q q => by
    cases e
    cases hvs with
    | cons hv h0 =>
      cases h0
      cases hv with
      | tup m h r =>
        refine ⟨_, _, rfl, .inr (SqT.of h), ?_⟩
        rw [r.length]
        exact q _ H1 _ (W.refl _) rfl (.int _)) hg
theorem e_lenL {xs : List PyData} (hm : X.mg "len" = none) (ha : EE W X a ds H (Is (.d (.list xs)))) (hg : Gl X "len" := by rfl) (he : starEach [a] X.env = (false, eval a X.env) :: starEach [] X.env := by rfl) : EE W X (.Call (.Name "len" p) [a] [] pos) ds H (Is (.d (.int xs.length))) :=
  e_callB (he := he) call_len_seq hm PySem.boot_len (ea_c ha ea_nil (hs := he)) (fun _ e vs H1 tr hvs Q q => by
    cases e
    cases hvs with
    | cons hv h0 =>
      cases h0
      cases hv with
      | lst m h r =>
        refine ⟨_, _, rfl, .inl (SqL.of h), ?_⟩
        rw [r.length]
        exact q _ H1 _ (W.refl _) rfl (.int _)) hg
/-- tuple(list) -/
theorem e_tupleL {A : List PyData → Prop} (hm : X.mg "tuple" = none) (ha : EE W X a ds H (fun y => ∃ xs, y = .d (.list xs) ∧ A xs)) (hg : Gl X "tuple" := by rfl) (he : starEach [a] X.env = (false, eval a X.env) :: starEach [] X.env := by rfl) : EE W X (.Call (.Name "tuple" p) [a] [] pos) ds H (fun y => ∃ xs, y = .d (.tuple xs) ∧ A xs) :=
  e_callTy (he := he) call_tuple_of hm PyProof.Rows.boot_tuple (ea_cons (hs := he) ha ea_nil (P' := fun ys => ∃ xs, ys = [.d (.list xs)] ∧ A xs) fun x xs ⟨l, e1, e2⟩ e3 => ⟨l, by rw [e1, e3], e2⟩) (fun _ ⟨l, e, ax⟩ vs H1 tr hvs Q q => by
    subst e
    cases hvs with
    | cons hv h0 =>
      cases h0
      cases hv with
      | lst m h r =>
        refine ⟨_, _, rfl, .inl ⟨SqL.of h, fun p hp => ?_⟩⟩
        obtain ⟨mp, rp⟩ := new_ok tr hp (.tup _)
        exact q _ _ _ rp ⟨l, rfl, ax⟩ (.tup mp upd_same (r.mono rp))) hg
theorem e_tupleLI {xs : List PyData} (hm : X.mg "tuple" = none) (ha : EE W X a ds H (Is (.d (.list xs)))) (hg : Gl X "tuple" := by rfl) (he : starEach [a] X.env = (false, eval a X.env) :: starEach [] X.env := by rfl) : EE W X (.Call (.Name "tuple" p) [a] [] pos) ds H (Is (.d (.tuple xs))) :=
  (e_tupleL (A := fun ys => ys = xs) hm (ha.imp fun _ e => ⟨xs, e, rfl⟩) hg he).imp fun _ ⟨_, e1, e2⟩ => by rw [e1, e2]; rfl
theorem e_intB {k : Bool} (hm : X.mg "int" = none) (ha : EE W X a ds H (Is (.d (.bool k)))) (hg : Gl X "int" := by rfl) (he : starEach [a] X.env = (false, eval a X.env) :: starEach [] X.env := by rfl) : EE W X (.Call (.Name "int" p) [a] [] pos) ds H (Is (.d (.int (if k = true then 1 else 0)))) :=
  e_callTy (he := he) call_int1 hm (by decide +kernel) (ea_c ha ea_nil (hs := he)) (fun _ e vs H1 tr hvs Q q => by
    cases e
    cases hvs with
    | cons hv h0 => cases h0; cases hv; exact .inr ⟨_, rfl, q _ H1 _ (W.refl _) rfl (.int _)⟩) hg
theorem e_max2 {i j : Int} (hc : X.calm = true) (hm : X.mg "max" = none) (ha : EE W X a ds H (Is (.d (.int i)))) (hb : EE W X b ds H (Is (.d (.int j)))) (hg : Gl X "max" := by rfl) (he : starEach [a, b] X.env = (false, eval a X.env) :: starEach [b] X.env := by rfl) (he2 : starEach [b] X.env = (false, eval b X.env) :: starEach [] X.env := by rfl) (hpl : (backTo pos (starEach [b] X.env)).any (·.1) = false := by rfl) : EE W X (.Call (.Name "max" p) [a, b] [] pos) ds H (Is (.d (.int (if j > i then j else i)))) :=
  e_callB (he := he) (hpl := hpl) (call_max2 hc) hm (by decide +kernel) (ea_c ha (ea_c hb ea_nil he2) he) (fun _ e vs H1 tr hvs Q q => by
    cases e
    cases hvs with
    | cons hv h0 =>
      cases h0 with
      | cons hu h0 => cases h0; cases hv; cases hu; exact ⟨_, _, rfl, q _ H1 _ (W.refl _) rfl (.int _)⟩) hg
theorem e_sum {ns : List Int} (hc : X.calm = true) (hm : X.mg "sum" = none) (ha : EE W X a ds H (Is (.d (.list (ns.map .int))))) (hg : Gl X "sum" := by rfl) (he : starEach [a] X.env = (false, eval a X.env) :: starEach [] X.env := by rfl) : EE W X (.Call (.Name "sum" p) [a] [] pos) ds H (Is (.d (.int ns.sum))) :=
  e_callB (he := he) (cr_sum hc) hm (by decide +kernel) (ea_c ha ea_nil (hs := he)) (fun _ e vs H1 tr hvs Q q => by
    cases e
    cases hvs with
    | cons hv h0 =>
      cases h0
      cases hv with
      | lst m h r =>
        have e := r.ints
        subst e
        exact ⟨_, ns, rfl, SqL.of h, q _ H1 _ (W.refl _) rfl (.int _)⟩) hg
theorem e_all {bs : List Bool} (hc : X.calm = true) (hm : X.mg "all" = none) (ha : EE W X a ds H (Is (.d (.list (bs.map .bool))))) (hg : Gl X "all" := by rfl) (he : starEach [a] X.env = (false, eval a X.env) :: starEach [] X.env := by rfl) : EE W X (.Call (.Name "all" p) [a] [] pos) ds H (Is (.d (.bool (bs.all fun b => b)))) :=
  e_callB (he := he) (cr_all hc) hm (by decide +kernel) (ea_c ha ea_nil (hs := he)) (fun _ e vs H1 tr hvs Q q => by
    cases e
    cases hvs with
    | cons hv h0 =>
      cases h0
      cases hv with
      | lst m h r =>
        have e := r.bools
        subst e
        exact ⟨_, bs, rfl, SqL.of h, q _ H1 _ (W.refl _) rfl (.bl _)⟩) hg
/-- min of a list of whole numbers -/
theorem e_minI {ns : List Int} (hc : X.calm = true) (hm : X.mg "min" = none) (ha : EE W X a ds H (Is (.d (.list (ns.map .int))))) (h0 : 0 < ns.length) (hg : Gl X "min" := by rfl) (he : starEach [a] X.env = (false, eval a X.env) :: starEach [] X.env := by rfl) :
    EE W X (.Call (.Name "min" p) [a] [] pos) ds H (fun y => ∃ m, y = .d (.int m) ∧ m ∈ ns ∧ ∀ n ∈ ns, m ≤ n) :=
  e_callB (he := he) (cr_min hc) hm (by decide +kernel) (ea_c ha ea_nil (hs := he)) (fun _ e vs H1 tr hvs Q q => by
    cases e
    cases hvs with
    | cons hv h1 =>
      cases h1
      cases hv with
      | lst m h r =>
        have e := r.ints
        subst e
        exact ⟨_, ns, rfl, SqL.of h, h0, fun m hm hle => q _ H1 _ (W.refl _) ⟨m, rfl, hm, hle⟩ (.int _)⟩) hg

/-! ### tests -/
theorem et_val {A : Bool → Prop} (h : EE W X e ds H (fun y => ∃ k, y = .d (.bool k) ∧ A k)) (he : ∀ whole, isTrue e X.env whole = (do let v ← whole; standAt e.pos; holding [v] (truthy v)) := by intro _; rfl) : ET W X e ds H A := fun σ H1 r ok Q q =>
  twt_of (pt_val tw_pe he) (h σ H1 r ok _ fun v H2 x r2 ⟨k, ex, ak⟩ hv => by
    subst ex
    cases hv
    exact ⟨k, rfl, q k H2 r2 ak⟩)
theorem et_valI {k : Bool} (h : EE W X e ds H (Is (.d (.bool k)))) (he : ∀ whole, isTrue e X.env whole = (do let v ← whole; standAt e.pos; holding [v] (truthy v)) := by intro _; rfl) : ET W X e ds H (Is k) := et_val (h.imp fun _ e => ⟨k, e, rfl⟩) he
theorem et_not {k : Bool} (h : ET W X a ds H (Is k)) : ET W X (.UnaryOp .Not a pos) ds H (Is (!k)) := fun σ H1 r ok Q q =>
  twt_of (pt_not twt_pt) (h σ H1 r ok _ fun b H2 r2 e => by cases e; exact q _ H2 r2 rfl)
theorem ew_and {A B : Bool → Prop} {rest : List Expr} (ha : ET W X a ds H A) (hb : A true → EW W X (.BoolOp .And (b :: rest) pos) ds H B) (hf : A false → B false) : EW W X (.BoolOp .And (a :: b :: rest) pos) ds H B := fun σ H1 r ok Q q =>
  tww_of (pw_and twt_pt tww_pw) (ha σ H1 r ok _ fun c H2 r2 ac => by
    cases c with
    | true => exact iteT (hb ac σ H2 (W.trans r r2) (ok.mono r2) _ fun d H3 r3 bd => q d H3 (W.trans r2 r3) bd)
    | false => exact iteF (q _ H2 r2 (hf ac)))
theorem ew_or {A B : Bool → Prop} {rest : List Expr} (ha : ET W X a ds H A) (hb : A false → EW W X (.BoolOp .Or (b :: rest) pos) ds H B) (ht : A true → B true) : EW W X (.BoolOp .Or (a :: b :: rest) pos) ds H B := fun σ H1 r ok Q q =>
  tww_of (pw_or twt_pt tww_pw) (ha σ H1 r ok _ fun c H2 r2 ac => by
    cases c with
    | true => exact iteT (q _ H2 r2 (ht ac))
    | false => exact iteF (hb ac σ H2 (W.trans r r2) (ok.mono r2) _ fun d H3 r3 bd => q d H3 (W.trans r2 r3) bd))
theorem ew_and1 {A : Bool → Prop} (ha : ET W X a ds H A) : EW W X (.BoolOp .And [a] pos) ds H A := fun σ H1 r ok Q q => tww_of (pw_and1 twt_pt) (ha σ H1 r ok Q q)
theorem ew_or1 {A : Bool → Prop} (ha : ET W X a ds H A) : EW W X (.BoolOp .Or [a] pos) ds H A := fun σ H1 r ok Q q => tww_of (pw_or1 twt_pt) (ha σ H1 r ok Q q)
theorem et_ew {A : Bool → Prop} (h : EW W X e ds H A) : ET W X e ds H A := fun σ H1 r ok Q q => twt_of (PW.pt tww_pw) (h σ H1 r ok Q q)
theorem et_and2 {k l : Bool} (ha : ET W X a ds H (Is k)) (hb : k = true → ET W X b ds H (Is l)) : ET W X (.BoolOp .And [a, b] pos) ds H (Is (k && l)) :=
  et_ew (ew_and ha (fun e => by cases e; exact ew_and1 (hb rfl)) fun e => by cases e; rfl)
theorem et_or2 {k l : Bool} (ha : ET W X a ds H (Is k)) (hb : k = false → ET W X b ds H (Is l)) : ET W X (.BoolOp .Or [a, b] pos) ds H (Is (k || l)) :=
  et_ew (ew_or ha (fun e => by cases e; exact ew_or1 (hb rfl)) fun e => by cases e; rfl)
end
end NP

namespace NP
open PySem PySem.Spec L2
open PyProof.Rows (envOfC)

/-! ### heaps that keep what may not be changed -/
def KpM (M : Ms) (H H' : Hp) : Prop := (∀ a o, ¬ M a → H a = some o → H' a = some o) ∧ ∀ a, M a → Nt (H' a)
abbrev Kp (W : Wd) (H H' : Hp) : Prop := KpM W.M H H'
section
variable {W : Wd} {H H' H'' : Hp}
theorem Kp.refl (tr : ∀ a, W.M a → Nt (H a)) : Kp W H H := ⟨fun _ _ _ e => e, tr⟩
theorem Kp.trans (h : Kp W H H') (k : Kp W H' H'') : Kp W H H'' := ⟨fun a o m e => k.1 a o m (h.1 a o m e), k.2⟩
theorem Kp.of (r : W.R H H') (tr : ∀ a, W.M a → Nt (H a)) : Kp W H H' := ⟨fun a o m e => W.keep r a o (fun f => m (W.sub a f)) e, fun a m => W.tr r a (tr a m)⟩
theorem Kp.val (h : Kp W H H') {v : V} {x : Ds} (e : Val W.M H v x) : Val W.M H' v x := e.keep fun a o m q => ⟨m, h.1 a o m q⟩
theorem Kp.all (h : Kp W H H') {v : List V} {x : List PyData} (e : DtAll W.M H v x) : DtAll W.M H' v x := e.keep fun a o m q => ⟨m, h.1 a o m q⟩
theorem Kp.ok (h : Kp W H H') {σ : L2.St} {ds : List Ds} (e : Ok W H σ ds) : Ok W H' σ ds := ⟨e.sd.keep fun a o m q => ⟨m, h.1 a o m q⟩, h.2⟩
end

section
variable {W : Wd} {X : Cx} {e a b o tg iter : Expr} {es : List Expr} {ds : List Ds} {H : Hp} {pos p apos : Pos} {A B C : Ds → Prop} {D : Ends} {st : Stmt} {rest body els : List Stmt}

theorem SS.mono {H' : Hp} (h : SS W X body D ds H) (r : W.R H H') : SS W X body D ds H' := fun σ H1 r1 => h σ H1 (W.trans r r1)
theorem ss_nil (h : ∀ σ H1, W.R H H1 → Ok W H1 σ ds → D.nx σ H1) : SS W X [] D ds H := fun σ H1 r ok => tws_of pss_nil (h σ H1 r ok)
theorem ss_set {i : Nat} {x : Str} {pos' : Pos} (he : EE W X e ds H A) (k : ∀ y H1, W.R H H1 → A y → SS W X rest D (ds.set i y) H1) (hN : X.N.Nodup) (hi : X.N[i]? = some x := by rfl) (hx : Loc X.env.scope x := by first | exact Or.inl rfl | exact Or.inr rfl)
    (hs : swapsWith e (some (.Name x pos')) pos.line X.env = pure false := by rfl) (hf : X.fn x = true ∨ X.env.scope.names.lookup x = some .local := by first | exact .inl rfl | exact .inr rfl) : SS W X (.Assign [.Name x pos'] e pos :: rest) D ds H := fun σ H1 r ok =>
  tws_of (pss_cons (ps_set hN hi hx tw_pe hs hf) tws_pss) (he σ H1 r ok _ fun v H2 y r2 ay hv => k y H2 (W.trans r r2) ay _ H2 (W.refl _) ((ok.mono r2).set i hv))
theorem ss_setI {i : Nat} {x : Str} {pos' : Pos} {y : Ds} (he : EE W X e ds H (Is y)) (k : ∀ H1, W.R H H1 → SS W X rest D (ds.set i y) H1) (hN : X.N.Nodup) (hi : X.N[i]? = some x := by rfl) (hx : Loc X.env.scope x := by first | exact Or.inl rfl | exact Or.inr rfl)
    (hs : swapsWith e (some (.Name x pos')) pos.line X.env = pure false := by rfl) (hf : X.fn x = true ∨ X.env.scope.names.lookup x = some .local := by first | exact .inl rfl | exact .inr rfl) : SS W X (.Assign [.Name x pos'] e pos :: rest) D ds H :=
  ss_set he (fun z H1 r e => by cases e; exact k H1 r) hN hi hx hs hf
theorem ss_if {P : Bool → Prop} {c : Expr} {pos : Pos} (hc : ET W X c ds H P) (h1 : P true → ∀ H1, W.R H H1 → SS W X body { D with nx := tws X rest D } ds H1) (h2 : P false → ∀ H1, W.R H H1 → SS W X els { D with nx := tws X rest D } ds H1) : SS W X (.If c body els pos :: rest) D ds H := fun σ H1 r ok =>
  tws_of (pss_cons (ps_if twt_pt tws_pss tws_pss) tws_pss) (hc σ H1 r ok _ fun k H2 r2 pk => by
    cases k with
    | true => exact iteT (h1 pk H2 (W.trans r r2) σ H2 (W.refl _) (ok.mono r2))
    | false => exact iteF (h2 pk H2 (W.trans r r2) σ H2 (W.refl _) (ok.mono r2)))
theorem ss_ret {pos : Pos} (he : EE W X e ds H A) (k : ∀ v H1 y, W.R H H1 → A y → Val W.M H1 v y → D.rt v H1) : SS W X (.Return (some e) pos :: rest) D ds H := fun σ H1 r ok =>
  tws_of (pss_cons (u := tNever) (ps_ret tw_pe) pss_never) (he σ H1 r ok _ fun v H2 y r2 ay hv => k v H2 y (W.trans r r2) ay hv)
theorem ss_drop {pos : Pos} (he : EE W X e ds H A) (k : ∀ y H1, W.R H H1 → A y → SS W X rest D ds H1) (hs : swapsWith e none pos.line X.env = pure false := by rfl) : SS W X (.Expr e pos :: rest) D ds H := fun σ H1 r ok =>
  tws_of (pss_cons (ps_expr tw_pe hs) tws_pss) (he σ H1 r ok _ fun v H2 y r2 ay hv => k y H2 (W.trans r r2) ay σ H2 (W.refl _) (ok.mono r2))
/-- the block's end leads to the rest -/
theorem ss_end {D' : Ends} (h : SS W X rest D' ds H) : SS W X [] { D with nx := tws X rest D' } ds H := ss_nil fun σ H1 r ok => h σ H1 r ok

/-! ### targets -/
def EH (W : Wd) (X : Cx) (tg : Expr) (ds : List Ds) (x : Ds) (ds' : List Ds) : Prop :=
  ∃ g, PG X tg g ∧ ∀ (σ : L2.St) (H : Hp) (v : V) (Q : L2.St → Hp → Prop), Ok W H σ ds → Val W.M H v x → (∀ σ', Ok W H σ' ds' → Q σ' H) → g v σ H Q
theorem eh_name {i : Nat} {x : Str} {y : Ds} (hN : X.N.Nodup) (hi : X.N[i]? = some x := by rfl) (hx : Loc X.env.scope x := by first | exact Or.inl rfl | exact Or.inr rfl) (hf : X.fn x = true ∨ X.env.scope.names.lookup x = some .local := by first | exact .inl rfl | exact .inr rfl) : EH W X (.Name x pos) ds y (ds.set i y) :=
  ⟨_, pg_name hN hi hx hf, fun σ H v Q ok hv q => q _ (ok.set i hv)⟩
theorem eh_two {i j k : Nat} {x y : Str} {px py : Pos} {d1 d2 : PyData} (hc : X.calm = true) (hN : X.N.Nodup) (hi : X.N[i]? = some x := by rfl) (hj : X.N[j]? = some y := by rfl) (hx : Loc X.env.scope x := by first | exact Or.inl rfl | exact Or.inr rfl) (hy : Loc X.env.scope y := by first | exact Or.inl rfl | exact Or.inr rfl)
    (hf : X.fn x = true ∨ X.env.scope.names.lookup x = some .local := by first | exact .inl rfl | exact .inr rfl) (hg : X.fn y = true ∨ X.env.scope.names.lookup y = some .local := by first | exact .inl rfl | exact .inr rfl) :
    EH W X (.Tuple [.Name x px, .Name y py] k pos) ds (.d (.tuple [d1, d2])) ((ds.set i (.d d1)).set j (.d d2)) :=
  ⟨_, pg_tup (n := 2) hc (pgs_cons (pg_name hN hi hx hf) (pgs_cons (pg_name hN hj hy hg) pgs_nil)), fun σ H v Q ok hv q => by
    cases hv with
    | tup m h r =>
      cases r with
      | cons h1 r =>
      cases r with
      | cons h2 r =>
      cases r
      exact ⟨_, _, rfl, SqT.of h, rfl, _, _, rfl, _, _, rfl, rfl, q _ ((ok.set i (x := .d d1) h1).set j (x := .d d2) h2)⟩⟩
theorem eh_three {i j l k : Nat} {x y z : Str} {px py pz : Pos} {d1 d2 d3 : PyData} (hc : X.calm = true) (hN : X.N.Nodup) (hi : X.N[i]? = some x := by rfl) (hj : X.N[j]? = some y := by rfl) (hl : X.N[l]? = some z := by rfl) (hx : Loc X.env.scope x := by first | exact Or.inl rfl | exact Or.inr rfl) (hy : Loc X.env.scope y := by first | exact Or.inl rfl | exact Or.inr rfl) (hz : Loc X.env.scope z := by first | exact Or.inl rfl | exact Or.inr rfl)
    (hf : X.fn x = true ∨ X.env.scope.names.lookup x = some .local := by first | exact .inl rfl | exact .inr rfl) (hg : X.fn y = true ∨ X.env.scope.names.lookup y = some .local := by first | exact .inl rfl | exact .inr rfl) (hh : X.fn z = true ∨ X.env.scope.names.lookup z = some .local := by first | exact .inl rfl | exact .inr rfl) :
    EH W X (.Tuple [.Name x px, .Name y py, .Name z pz] k pos) ds (.d (.tuple [d1, d2, d3])) (((ds.set i (.d d1)).set j (.d d2)).set l (.d d3)) :=
  ⟨_, pg_tup (n := 3) hc (pgs_cons (pg_name hN hi hx hf) (pgs_cons (pg_name hN hj hy hg) (pgs_cons (pg_name hN hl hz hh) pgs_nil))), fun σ H v Q ok hv q => by
    cases hv with
    | tup m h r =>
      cases r with
      | cons h1 r =>
      cases r with
      | cons h2 r =>
      cases r with
      | cons h3 r =>
      cases r
      exact ⟨_, _, rfl, SqT.of h, rfl, _, _, rfl, _, _, rfl, _, _, rfl, rfl, q _ (((ok.set i (x := .d d1) h1).set j (x := .d d2) h2).set l (x := .d d3) h3)⟩⟩
theorem ss_asg {tg : Expr} {ds' : Ds → List Ds} (he : EE W X e ds H A) (hg : ∀ y, A y → EH W X tg ds y (ds' y)) (k : ∀ y H1, W.R H H1 → A y → SS W X rest D (ds' y) H1)
    (hs : swapsWithSole [tg] e pos.line X.env = pure false := by rfl) (hw : swappedStores [tg] e X.env = pure none := by rfl) (h1 : (assignEach [tg] X.env).map (·.2) = [assign tg X.env] := by rfl) : SS W X (.Assign [tg] e pos :: rest) D ds H := fun σ H1 r ok => by
  have tgE : ∀ v H2 y, W.R H1 H2 → A y → Val W.M H2 v y → ∀ pins s u, Inv X pins σ H2 s → RelV v u → wpAny (model X.prog X.w) X.A (assign tg X.env u) (fun _ s' => ∃ σ' H', Inv X pins σ' H' s' ∧ tws X rest D σ' H') X.xe s := fun v H2 y r2 ay hv pins s u I rv => by
    obtain ⟨g, hpg, go⟩ := hg y ay
    exact hpg.run pins s σ H2 v u _ I rv (go σ H2 v _ (ok.mono r2) hv fun σ' ok' => k y H2 (W.trans r r2) ay σ' H2 (W.refl _) ok')
  have tgG : PG X tg (fun v σ H Q => ∀ pins s u, Inv X pins σ H s → RelV v u → wpAny (model X.prog X.w) X.A (assign tg X.env u) (fun _ s' => ∃ σ' H', Inv X pins σ' H' s' ∧ Q σ' H') X.xe s) := ⟨fun pins s σ H v u Q I r h => h pins s u I r⟩
  exact tws_of (pss_cons (ps_asg tw_pe tgG hs hw h1) tws_pss) (he σ H1 r ok _ fun v H2 y r2 ay hv => tgE v H2 y r2 ay hv)
theorem ss_asgI {tg : Expr} {y : Ds} {ds' : List Ds} (he : EE W X e ds H (Is y)) (hg : EH W X tg ds y ds') (k : ∀ H1, W.R H H1 → SS W X rest D ds' H1)
    (hs : swapsWithSole [tg] e pos.line X.env = pure false := by rfl) (hw : swappedStores [tg] e X.env = pure none := by rfl) (h1 : (assignEach [tg] X.env).map (·.2) = [assign tg X.env] := by rfl) : SS W X (.Assign [tg] e pos :: rest) D ds H :=
  ss_asg (ds' := fun _ => ds') he (fun z e => by cases e; exact hg) (fun z H1 r e => k H1 r) hs hw h1

/-! ### what is walked -/
/-- from H2 on these are walked, whatever is changed of what may be changed -/
def Wlk (W : Wd) (J : It) (H2 : Hp) (items : List Ds) : Prop :=
  ∀ M' : Ms, (∀ a, W.M a → M' a) → (∀ a, M' a → ¬ W.M a → H2 a = none) → ∀ H3, KpM M' H2 H3 → (∀ (i : Nat) (x : Ds), items[i]? = some x → J.go i H3 ∧ ∀ v H', J.yld i H3 v H' → Same H3 H' ∧ Val M' H' v x) ∧ J.stop items.length H3
theorem wk_k {M M' : Ms} {H2 H3 : Hp} (nw : ∀ a, M' a → ¬ M a → H2 a = none) (kp : KpM M' H2 H3) : ∀ a o, ¬ M a → H2 a = some o → ¬ M' a ∧ H3 a = some o := fun a o m e => by
  have m' : ¬ M' a := fun z => by rw [nw a z m] at e; cases e
  exact ⟨m', kp.1 a o m' e⟩
theorem Wlk.here {J : It} {H2 H3 : Hp} {items : List Ds} (h : Wlk W J H2 items) (kp : Kp W H2 H3) : (∀ (i : Nat) (x : Ds), items[i]? = some x → J.go i H3 ∧ ∀ v H', J.yld i H3 v H' → Same H3 H' ∧ Val W.M H' v x) ∧ J.stop items.length H3 :=
  h W.M (fun _ m => m) (fun _ m n => absurd m n) H3 kp
def EI (W : Wd) (X : Cx) (tg iter : Expr) (ds : List Ds) (H : Hp) (P : List Ds → Prop) : Prop :=
  ∀ σ H1, W.R H H1 → Ok W H1 σ ds → ∀ R : It → Hp → Prop, (∀ J H2 items, W.R H1 H2 → P items → Wlk W J H2 items → R J H2) → twi X tg iter σ H1 R
theorem ei_tup {P : List PyData → Prop} (he : EE W X e ds H (fun y => ∃ xs, y = .d (.tuple xs) ∧ P xs)) : EI W X tg e ds H (fun items => ∃ xs : List PyData, items = xs.map .d ∧ P xs) := fun σ H1 r ok R q =>
  twi_of (pi_tup tw_pe) (he σ H1 r ok _ fun v H2 y r2 ⟨ds, ey, px⟩ hv => by
    subst ey
    cases hv with
    | tup m h rr =>
      rename_i a xs
      refine ⟨a, rfl, ⟨xs, SqT.of h⟩, q _ H2 (ds.map .d) r2 ⟨ds, rfl, px⟩ fun M' sb nw H3 kp => ?_⟩
      have h3 := (wk_k nw kp a _ m h).2
      have r3 := rr.keep (wk_k nw kp)
      refine ⟨fun i x e => ?_, ⟨xs, SqT.of h3, by rw [List.length_map, r3.length]; exact Nat.le_refl _⟩⟩
      rw [List.getElem?_map] at e
      cases e1 : ds[i]? with
      | none => rw [e1] at e; cases e
      | some d =>
        rw [e1] at e
        cases e
        obtain ⟨v, ev, dv⟩ := r3.get e1
        exact ⟨⟨xs, v, SqT.of h3, ev⟩, fun v' H' y => by
          obtain ⟨e2, y⟩ := y
          subst e2
          have := y xs (SqT.of h3)
          rw [ev] at this
          cases this
          exact ⟨Same.refl _, dv⟩⟩)
theorem ei_lst {P : List PyData → Prop} (he : EE W X e ds H (fun y => ∃ xs, y = .d (.list xs) ∧ P xs)) : EI W X tg e ds H (fun items => ∃ xs : List PyData, items = xs.map .d ∧ P xs) := fun σ H1 r ok R q =>
  twi_of (pi_list tw_pe) (he σ H1 r ok _ fun v H2 y r2 ⟨ds, ey, px⟩ hv => by
    subst ey
    cases hv with
    | lst m h rr =>
      rename_i a xs
      refine ⟨a, rfl, ⟨xs, SqL.of h⟩, q _ H2 (ds.map .d) r2 ⟨ds, rfl, px⟩ fun M' sb nw H3 kp => ?_⟩
      have h3 := (wk_k nw kp a _ m h).2
      have r3 := rr.keep (wk_k nw kp)
      refine ⟨fun i x e => ?_, ⟨xs, SqL.of h3, by rw [List.length_map, r3.length]; exact Nat.le_refl _⟩⟩
      rw [List.getElem?_map] at e
      cases e1 : ds[i]? with
      | none => rw [e1] at e; cases e
      | some d =>
        rw [e1] at e
        cases e
        obtain ⟨v, ev, dv⟩ := r3.get e1
        exact ⟨⟨xs, v, SqL.of h3, ev⟩, fun v' H' y => by
          obtain ⟨e2, y⟩ := y
          subst e2
          have := y xs (SqL.of h3)
          rw [ev] at this
          cases this
          exact ⟨Same.refl _, dv⟩⟩)
/-- range(n) -/
theorem ei_range {P : Nat → Prop} (hm : X.mg "range" = none) (he : EE W X e ds H (fun y => ∃ n : Nat, y = .d (.int n) ∧ n < 2 ^ 60 ∧ P n)) (hg : Gl X "range" := by rfl) (hs1 : starEach [e] X.env = (false, eval e X.env) :: starEach [] X.env := by rfl) (hs : starEach [e] X.env = [(false, eval e X.env)] := by rfl) :
    EI W X tg (.Call (.Name "range" p) [e] [] pos) ds H (fun items => ∃ n : Nat, items = (List.range n).map (fun i => .d (.int i)) ∧ P n) := fun σ H1 r ok R q =>
  twi_of (pi_range1 hg hm twa_pa hs) (ea_cons (P := Is []) (P' := fun ys => ∃ n : Nat, ys = [.d (.int n)] ∧ n < 2 ^ 60 ∧ P n) he ea_nil (fun x xs ⟨n, e1, e2⟩ e3 => by cases e3; exact ⟨n, by rw [e1], e2⟩) hs1 σ H1 r ok _ fun vs H2 ys r2 ⟨n, ey, hn, pn⟩ hvs => by
    subst ey
    cases hvs with
    | cons hv h0 =>
      cases h0
      cases hv
      refine ⟨n, rfl, by omega, by omega, q _ H2 _ r2 ⟨n, rfl, pn⟩ fun M' sb nw H3 kp => ⟨fun i x e => ?_, by rw [List.length_map, List.length_range]; exact (Nat.le_of_eq (by simp))⟩⟩
      rw [List.getElem?_map] at e
      have hi : i < n := by
        by_cases c : i < n
        · exact c
        · rw [List.getElem?_eq_none (by rw [List.length_range]; omega)] at e; cases e
      rw [List.getElem?_range hi] at e
      cases e
      refine ⟨by show i < (n : Int).toNat; omega, fun v H' y => ?_⟩
      obtain ⟨e1, e2⟩ := y
      subst e1 e2
      rw [Int.zero_add]
      exact ⟨Same.refl _, .int _⟩)
/-- a text, sign by sign -/
theorem ei_str {z : Str} (he : EE W X e ds H (Is (.d (.str z)))) : EI W X tg e ds H (Is (z.cps.toList.map fun c => .d (.str ⟨#[c]⟩))) := fun σ H1 r ok R q =>
  twi_of (pi_str tw_pe) (he σ H1 r ok _ fun v H2 y r2 ey hv => by
    cases ey; cases hv
    refine ⟨z, rfl, q _ H2 _ r2 rfl fun M' sb nw H3 kp => ⟨fun i x e => ?_, by rw [List.length_map]; exact Nat.le_refl _⟩⟩
    rw [List.getElem?_map] at e
    have e' : z.cps.toList[i]? = z.cps[i]? := by simp
    rw [e'] at e
    cases e1 : z.cps[i]? with
    | none => rw [e1] at e; cases e
    | some c =>
      rw [e1] at e
      cases e
      refine ⟨(Array.getElem?_eq_some_iff.mp e1).1, fun v H' y => ?_⟩
      obtain ⟨e2, c', e3, e4⟩ := y
      subst e2 e4
      rw [e1] at e3
      cases e3
      exact ⟨Same.refl _, .str _⟩)

/-! ### loops -/
/-- the end of a turn: where the next one begins -/
def Nx (W : Wd) (Iv : List Ds → Hp → Prop) (Hi : Hp) : L2.St → Hp → Prop := fun σ H => ∃ ds, Iv ds H ∧ Kp W Hi H ∧ Ok W H σ ds
theorem ss_for {items : List Ds} {dz : Nat → List Ds → List Ds} (Iv : Nat → List Ds → Hp → Prop) (hi : EI W X tg iter ds H (Is items)) (hc : X.calm = true) (hp : PassesOwn (model X.prog X.w) X.A X.env X.xe)
    (h0 : ∀ H1, W.R H H1 → Iv 0 ds H1)
    (hg : ∀ i x ds', items[i]? = some x → (∃ H', Iv i ds' H') → EH W X tg ds' x (dz i ds'))
    (hb : ∀ i x ds' Hi H', items[i]? = some x → Iv i ds' Hi → Same Hi H' → Kp W Hi H' → SS W X body { D with nx := Nx W (Iv (i + 1)) Hi, ct := Nx W (Iv (i + 1)) Hi, bk := tws X rest D } (dz i ds') H')
    (hd : ∀ ds' H', Iv items.length ds' H' → (∀ a, W.M a → Nt (H' a)) → SS W X rest D ds' H')
    (hs : ∀ x, foldedSetIterable iter X.env x = pure x := by intro _; rfl) : SS W X (.For tg iter body [] pos :: rest) D ds H := fun σ H1 r ok => by
  have tgG : PG X tg (fun v σ H Q => ∀ pins s u, Inv X pins σ H s → RelV v u → wpAny (model X.prog X.w) X.A (assign tg X.env u) (fun _ s' => ∃ σ' H', Inv X pins σ' H' s' ∧ Q σ' H') X.xe s) := ⟨fun pins s σ H v u Q I r h => h pins s u I r⟩
  refine tws_of (pss_cons (ps_for hp hc twi_pi tgG tws_pss hs) tws_pss) (hi σ H1 r ok _ fun J H2 its r2 ei wk => ?_)
  cases ei
  refine ⟨fun i m σ' H' => m = items.length - i ∧ i ≤ items.length ∧ ∃ ds', Iv i ds' H' ∧ Kp W H2 H' ∧ Ok W H' σ' ds', ⟨_, rfl, Nat.zero_le _, ds, h0 H2 (W.trans r r2), Kp.refl (ok.mono r2).tr, ok.mono r2⟩, ?_⟩
  rintro i m σ' H' ⟨rfl, hil, ds', iv, kp, ok'⟩
  obtain ⟨w1, w2⟩ := wk.here kp
  by_cases hlt : i < items.length
  · refine .inr ⟨(w1 i items[i] (by simp [hlt])).1, Nx W (Iv (i + 1)) H', fun σ3 H3 ⟨ds3, iv3, kp3, ok3⟩ => ⟨items.length - (i + 1), by omega, rfl, hlt, ds3, iv3, kp.trans kp3, ok3⟩, fun v H4 y => ?_⟩
    obtain ⟨sm, hv⟩ := (w1 i items[i] (by simp [hlt])).2 v H4 y
    have rr := W.ex sm
    intro pins s u I rv
    obtain ⟨g, hpg, go⟩ := hg i items[i] ds' (by simp [hlt]) ⟨H', iv⟩
    exact hpg.run pins s σ' H4 v u _ I rv (go σ' H4 v _ (ok'.mono rr) hv fun σ5 ok5 => hb i items[i] ds' H' H4 (by simp [hlt]) iv sm (Kp.of rr ok'.tr) σ5 H4 (W.refl _) ok5)
  · have e : i = items.length := by omega
    subst e
    exact .inl ⟨w2, hd ds' H' iv ok'.tr σ' H' (W.refl _) ok'⟩
/-- the turn's end -/
theorem ss_nx {Iv : List Ds → Hp → Prop} {Hi : Hp} {rt : VK} {bk ct : L2.St → Hp → Prop} (h : ∀ H1, W.R H H1 → (∀ a, W.M a → Nt (H1 a)) → Iv ds H1 ∧ Kp W Hi H1) : SS W X [] ⟨Nx W Iv Hi, rt, bk, ct⟩ ds H := ss_nil fun σ H1 r ok => ⟨ds, (h H1 r ok.tr).1, (h H1 r ok.tr).2, ok⟩
def Nw (W : Wd) (Iv : Nat → List Ds → Hp → Prop) (m : Nat) : L2.St → Hp → Prop := fun σ H => ∃ m' ds, m' < m ∧ Iv m' ds H ∧ Ok W H σ ds
theorem ss_while {c : Expr} (Iv : Nat → List Ds → Hp → Prop) (hp : PassesOwn (model X.prog X.w) X.A X.env X.xe) (h0 : ∀ H1, W.R H H1 → (∀ a, W.M a → Nt (H1 a)) → ∃ m, Iv m ds H1)
    (hs : ∀ m ds' H', Iv m ds' H' → (∀ a, W.M a → Nt (H' a)) → ∃ P : Bool → Prop, ET W X c ds' H' P ∧ (P true → ∀ H1, W.R H' H1 → SS W X body { D with nx := Nw W Iv m, ct := Nw W Iv m, bk := tws X rest D } ds' H1) ∧ (P false → ∀ H1, W.R H' H1 → SS W X rest D ds' H1)) :
    SS W X (.While c body [] pos :: rest) D ds H := fun σ H1 r ok => by
  refine tws_of (pss_cons (ps_while hp twt_pt tws_pss) tws_pss) ?_
  obtain ⟨m, iv⟩ := h0 H1 r ok.tr
  refine ⟨fun m σ' H' => ∃ ds', Iv m ds' H' ∧ Ok W H' σ' ds', ⟨m, ds, iv, ok⟩, ?_⟩
  rintro m σ' H' ⟨ds', iv, ok'⟩
  obtain ⟨P, ht, h1, h2⟩ := hs m ds' H' iv ok'.tr
  exact ht σ' H' (W.refl _) ok' _ fun b H3 r3 pb => by
    cases b with
    | true => exact iteT ⟨Nw W Iv m, fun σ4 H4 ⟨m', ds4, lt, iv4, ok4⟩ => ⟨m', lt, ds4, iv4, ok4⟩, h1 pb H3 r3 σ' H3 (W.refl _) (ok'.mono r3)⟩
    | false => exact iteF (h2 pb H3 r3 σ' H3 (W.refl _) (ok'.mono r3))
theorem ss_nw {Iv : Nat → List Ds → Hp → Prop} {m : Nat} {rt : VK} {bk ct : L2.St → Hp → Prop} (h : ∀ H1, W.R H H1 → (∀ a, W.M a → Nt (H1 a)) → ∃ m', m' < m ∧ Iv m' ds H1) : SS W X [] ⟨Nw W Iv m, rt, bk, ct⟩ ds H := ss_nil fun σ H1 r ok => by
  obtain ⟨m', lt, iv⟩ := h H1 r ok.tr
  exact ⟨m', ds, lt, iv, ok⟩

/-! ### comprehensions -/
/-- the block's context -/
abbrev Blk (X : Cx) (s : Shared) (H : Hp) (scope : Scope) (cl : List (Str × Addr)) (C : Addr) (fp : List Addr) : Cx := X.blk s H scope (compEnvC scope cl C X.env) fp
/-- what a comprehension may give: an item is left out, or its datum taken -/
inductive LcR (T : Ds → Bool → Prop) (G : Ds → PyData → Prop) : List Ds → List PyData → Prop
  | nil : LcR T G [] []
  | skip {xs : List Ds} {out : List PyData} {x : Ds} : LcR T G xs out → T x false → LcR T G (xs ++ [x]) out
  | take {xs : List Ds} {out : List PyData} {x : Ds} {d : PyData} : LcR T G xs out → T x true → G x d → LcR T G (xs ++ [x]) (out ++ [d])
def wipeD (ds : List Ds) : List Nat → List Ds
  | [] => ds
  | v :: vs => (wipeD ds vs).set v .u
theorem SD.wipe {M : Ms} {H : Hp} {σ : L2.St} {ds : List Ds} (h : SD M H σ ds) (vs : List Nat) : SD M H (wipe σ vs) (wipeD ds vs) := by
  induction vs with
  | nil => exact h
  | cons v vs ih => exact ih.set v (s := none) (x := .u) trivial
theorem lcR_len {T : Ds → Bool → Prop} {G : Ds → PyData → Prop} {xs : List Ds} {out : List PyData} (h : LcR T G xs out) : out.length ≤ xs.length := by
  induction h with
  | nil => exact Nat.le_refl _
  | skip _ _ ih => simp; omega
  | take _ _ _ ih => simp; omega
theorem lc_tl {elt : Expr} {scope : Scope} {j : Nat} {x : Str} {px : Pos} {P : List Ds → Prop} {T : Ds → Bool → Prop} {G : Ds → PyData → Prop} {tt : TT} (hi : EI W X (.Name x px) iter ds H P) (hl : ∀ items, P items → items.length < sizeLine)
    (ht : ∀ l items y, P items → y ∈ items → ∀ σ H1, W.R H H1 → Ok (W.add l) H1 σ ((wipeD ds [j]).set j y) → ∀ Q : Bool → Hp → Prop, (∀ b H2, W.R H1 H2 → T y b → Q b H2) → tt σ H1 Q)
    (he : ∀ l items y, P items → y ∈ items → T y true → ∀ s0 H0 cl C fp, EE (W.add l) (Blk X s0 H0 scope cl C fp) elt ((wipeD ds [j]).set j y) H (fun z => ∃ d, z = .d d ∧ G y d))
    : ∀ σ H1, W.R H H1 → Ok W H1 σ ds → ∀ Q : VK, (∀ v H2 x, W.R H1 H2 → (∃ items out, P items ∧ LcR T G items out ∧ x = .d (.list out)) → Val W.M H2 v x → Q v H2) →
      tLc (twi X (.Name x px) iter) (gName j) tt (fun σ H Q => ∀ s0 H0 cl C fp, tw (Blk X s0 H0 scope cl C fp) elt σ H Q) [j] σ H1 Q := fun σ H1 r ok1 Q q => by
  refine hi σ H1 r ok1 _ fun J H2 items r2 pi wk l hn => ?_
  have ok2 := ok1.mono r2
  have nM : ¬ W.M l := ok2.fresh hn
  have nF : ¬ W.F l := fun f => nM (W.sub l f)
  have hsz := hl items pi
  refine ⟨fun i m Hk => m = items.length - i ∧ i ≤ items.length ∧ ∃ out acc, LcR T G (items.take i) out ∧ Hk l = some (.lst acc) ∧ DtAll (W.add l).M Hk acc out ∧ W.R H2 Hk ∧ Kp W H2 Hk ∧ Ok (W.add l) Hk σ ds,
    ⟨_, rfl, Nat.zero_le _, [], [], .nil, upd_same, .nil, W.ex (same_new hn), Kp.of (W.ex (same_new hn)) ok2.tr, ok2.add hn (by intro _ h; cases h)⟩, ?_⟩
  have addM : ∀ a, (W.add l).M a → ¬ W.M a → H2 a = none := fun a m n => by
    rcases m with m | m
    · exact absurd m n
    · rw [m]; exact hn
  rintro i m Hk ⟨rfl, hil, out, acc, lr, hacc, dacc, rk, kp, okk⟩
  have kpl : KpM (W.add l).M H2 Hk := ⟨fun a o m e => kp.1 a o (fun z => m (.inl z)) e, okk.tr⟩
  obtain ⟨w1, w2⟩ := wk (W.add l).M (fun _ m => .inl m) addM Hk kpl
  by_cases hlt : i < items.length
  · have hget : items[i]? = some items[i] := by simp [hlt]
    have htake : items.take (i + 1) = items.take i ++ [items[i]] := by rw [List.take_succ, hget]; rfl
    have hmem : items[i] ∈ items := List.getElem_mem _
    refine .inr ⟨(w1 i items[i] hget).1, fun H' => ∃ out acc, LcR T G (items.take (i + 1)) out ∧ H' l = some (.lst acc) ∧ DtAll (W.add l).M H' acc out ∧ W.R H2 H' ∧ Kp W H2 H' ∧ Ok (W.add l) H' σ ds,
      fun H' ⟨out, acc, h⟩ => ⟨items.length - (i + 1), by omega, rfl, hlt, out, acc, h⟩, fun v H3 y => ?_⟩
    obtain ⟨sm, hv⟩ := (w1 i items[i] hget).2 v H3 y
    have r3 : W.R Hk H3 := W.ex sm
    have okk3 : Ok (W.add l) H3 σ ds := Ok.mono (W := W.add l) okk r3
    have okw : Ok (W.add l) H3 ((wipe σ [j]).set j (some v)) ((wipeD ds [j]).set j items[i]) := ⟨(okk3.sd.wipe [j]).set j (.of hv), okk3.tr⟩
    refine ⟨by show (((wipe σ []).set j none).set j (some v)).set j none = (wipe σ []).set j none; rw [List.set_set, List.set_set], ?_⟩
    have rH3 : W.R H H3 := W.trans (W.trans r r2) (W.trans rk r3)
    refine ht l items _ pi hmem _ H3 rH3 okw _ fun b H4 r4 tb => ?_
    have rk4 : W.R H2 H4 := W.trans rk (W.trans r3 r4)
    cases b with
    | false =>
      refine iteF ⟨out, acc, by rw [htake]; exact .skip lr tb, W.keep r4 l _ nF (sm l _ hacc), (dacc.mono (W := W.add l) r3).mono (W := W.add l) r4, rk4, kp.trans ((Kp.of r3 fun a m => okk.tr a (.inl m)).trans (Kp.of r4 fun a m => okk3.tr a (.inl m))), Ok.mono (W := W.add l) okk3 r4⟩
    | true =>
      refine iteT fun s0 H0 cl C fp => ?_
      refine he l items _ pi hmem tb s0 H0 cl C fp _ H4 (W.trans rH3 r4) (Ok.mono (W := W.add l) okw r4) _ fun u H5 z r5 ⟨d, ez, gd⟩ hu => ?_
      subst ez
      have r45 : W.R H3 H5 := W.trans r4 r5
      have h5 : H5 l = some (.lst acc) := W.keep r45 l _ nF (sm l _ hacc)
      have ok5 : Ok (W.add l) H5 σ ds := Ok.mono (W := W.add l) okk3 r45
      have d5 : DtAll (W.add l).M H5 acc out := (dacc.mono (W := W.add l) r3).mono (W := W.add l) r45
      have kl : ∀ a o, ¬ (W.add l).M a → H5 a = some o → ¬ (W.add l).M a ∧ upd H5 l (.lst (acc ++ [u])) a = some o := fun a o m e => ⟨m, by rw [upd_ne (fun z => m (.inr z))]; exact e⟩
      have hlen : out.length ≤ i := by have := lcR_len lr; rw [List.length_take] at this; omega
      refine ⟨acc, h5, by rw [dacc.length]; omega, out ++ [d], acc ++ [u], by rw [htake]; exact .take lr tb gd, upd_same, (d5.keep kl).append (.cons (Dt.keep kl hu) .nil), ?_, ?_, ok5.upd (.inr rfl) (by intro _ h; cases h)⟩
      · exact W.chg (W.trans rk (W.trans r3 r45)) hn (fun a o n e => by rw [upd_ne n]; exact e) (by rw [upd_same]; exact ⟨_, rfl, by intro _ h; cases h⟩)
      · have k5 : KpM W.M H2 H5 := kp.trans ((Kp.of (W := W) r3 fun a m => okk.tr a (.inl m)).trans (Kp.of (W := W) r45 fun a m => okk3.tr a (.inl m)))
        refine ⟨fun a o m e => ?_, fun a m => ?_⟩
        · rw [upd_ne (ne_of_none e hn)]; exact k5.1 a o m e
        · by_cases q : a = l
          · rw [q, upd_same]; exact ⟨_, rfl, by intro _ h; cases h⟩
          · rw [upd_ne q]; exact k5.2 a m
  · have e : i = items.length := by omega
    subst e
    rw [List.take_length] at lr
    refine .inl ⟨w2, q _ Hk _ (W.trans r2 rk) ⟨items, out, pi, lr, rfl⟩ (.lst nM hacc (dacc.keep fun a o m e => ⟨fun z => m (.inl z), e⟩))⟩
theorem lc_main {elt : Expr} {ifs : List Expr} {scope : Scope} {j : Nat} {x : Str} {px : Pos} {P : List Ds → Prop} {T : Ds → Bool → Prop} {G : Ds → PyData → Prop} {tt : TT} (hc : X.calm = true) (hN : X.N.Nodup) (hi : EI W X (.Name x px) iter ds H P) (hl : ∀ items, P items → items.length < sizeLine)
    (ok : BlkOk X.N X.env.scope scope [(x, j)])
    (hg : ∀ s H C cl fp, PG (Blk X s H scope cl C fp) (.Name x px) (gName j))
    (hpt : ∀ s H C cl fp, PTs (Blk X s H scope cl C fp) ifs tt)
    (ht : ∀ l items y, P items → y ∈ items → ∀ σ H1, W.R H H1 → Ok (W.add l) H1 σ ((wipeD ds [j]).set j y) → ∀ Q : Bool → Hp → Prop, (∀ b H2, W.R H1 H2 → T y b → Q b H2) → tt σ H1 Q)
    (he : ∀ l items y, P items → y ∈ items → T y true → ∀ s0 H0 cl C fp, EE (W.add l) (Blk X s0 H0 scope cl C fp) elt ((wipeD ds [j]).set j y) H (fun z => ∃ d, z = .d d ∧ G y d))
    (hs : ∀ x, foldedSetIterable iter X.env x = pure x := by intro _; rfl) : EE W X (.ListComp elt [⟨.Name x px, iter, ifs, 0⟩] scope pos) ds H (fun z => ∃ items out, P items ∧ LcR T G items out ∧ z = .d (.list out)) := fun σ H1 r ok1 Q q =>
  tw_of (pe_lc (te := fun σ H Q => ∀ s0 H0 cl C fp, tw (Blk X s0 H0 scope cl C fp) elt σ H Q) hc hN twi_pi ok hg hpt (fun s H C cl fp => ⟨fun pins s' σ H' Q I h => h s H cl C fp pins s' I⟩) hs) (lc_tl hi hl ht he σ H1 r ok1 Q q)
theorem ss_lc {i : Nat} {y : Str} {py spos : Pos} {elt : Expr} {ifs : List Expr} {scope : Scope} {j : Nat} {x : Str} {px : Pos} {P : List Ds → Prop} {T : Ds → Bool → Prop} {G : Ds → PyData → Prop} {tt : TT} (hc : X.calm = true) (hN : X.N.Nodup) (hi : EI W X (.Name x px) iter ds H P) (hl : ∀ items, P items → items.length < sizeLine)
    (ok : BlkOk X.N X.env.scope scope [(x, j)])
    (hg : ∀ s H C cl fp, PG (Blk X s H scope cl C fp) (.Name x px) (gName j))
    (hpt : ∀ s H C cl fp, PTs (Blk X s H scope cl C fp) ifs tt)
    (ht : ∀ l items y, P items → y ∈ items → ∀ σ H1, W.R H H1 → Ok (W.add l) H1 σ ((wipeD ds [j]).set j y) → ∀ Q : Bool → Hp → Prop, (∀ b H2, W.R H1 H2 → T y b → Q b H2) → tt σ H1 Q)
    (he : ∀ l items y, P items → y ∈ items → T y true → ∀ s0 H0 cl C fp, EE (W.add l) (Blk X s0 H0 scope cl C fp) elt ((wipeD ds [j]).set j y) H (fun z => ∃ d, z = .d d ∧ G y d))
    (k : ∀ z H1, W.R H H1 → (∃ items out, P items ∧ LcR T G items out ∧ z = .d (.list out)) → SS W X rest D (ds.set i z) H1)
    (hy : X.N[i]? = some y := by rfl) (hyl : X.env.scope.names.lookup y = some .local := by rfl) (hsw : swapsWith (.ListComp elt [⟨.Name x px, iter, ifs, 0⟩] scope pos) (some (.Name y py)) spos.line X.env = pure true := by exact sw_true rfl rfl rfl rfl)
    (hs : ∀ x, foldedSetIterable iter X.env x = pure x := by intro _; rfl) : SS W X (.Assign [.Name y py] (.ListComp elt [⟨.Name x px, iter, ifs, 0⟩] scope pos) spos :: rest) D ds H := fun σ H1 r ok1 =>
  tws_of (pss_cons (ps_setLc (te := fun σ H Q => ∀ s0 H0 cl C fp, tw (Blk X s0 H0 scope cl C fp) elt σ H Q) hc hN hy hyl hsw twi_pi ok hg hpt (fun s H C cl fp => ⟨fun pins s' σ H' Q I h => h s H cl C fp pins s' I⟩) hs) tws_pss)
    (lc_tl hi hl ht he σ H1 r ok1 _ fun v H2 z r2 pz hv => k z H2 (W.trans r r2) pz _ H2 (W.refl _) ((ok1.mono r2).set i hv))
/-- without a test, every item's datum told -/
theorem lcR_all {f : Ds → PyData} {xs : List Ds} {out : List PyData} {T : Ds → Bool → Prop} {G : Ds → PyData → Prop} (h : LcR T G xs out) : ∀ (p : Ds → Bool), (∀ x ∈ xs, ∀ b, T x b → b = p x) → (∀ x ∈ xs, ∀ d, G x d → d = f x) → out = (xs.filter p).map f := by
  induction h with
  | nil => intro p _ _; rfl
  | @skip xs out x _ t ih =>
    intro p hp hf
    have e := hp x (by simp) _ t
    rw [List.filter_append, List.map_append, ih p (fun y hy => hp y (by simp [hy])) (fun y hy => hf y (by simp [hy]))]
    simp [← e]
  | @take xs out x d _ t g ih =>
    intro p hp hf
    have e := hp x (by simp) _ t
    have e2 := hf x (by simp) _ g
    rw [List.filter_append, List.map_append, ih p (fun y hy => hp y (by simp [hy])) (fun y hy => hf y (by simp [hy]))]
    simp [← e, e2]
/-- [elt for x in items] -/
theorem e_lc {elt : Expr} {scope : Scope} {j : Nat} {x : Str} {px : Pos} {items : List Ds} (f : Ds → PyData) (hc : X.calm = true) (hN : X.N.Nodup) (hi : EI W X (.Name x px) iter ds H (Is items)) (hl : items.length < sizeLine)
    (he : ∀ l y, y ∈ items → ∀ s0 H0 cl C fp, EE (W.add l) (Blk X s0 H0 scope cl C fp) elt ((wipeD ds [j]).set j y) H (Is (.d (f y))))
    (ok : BlkOk X.N X.env.scope scope [(x, j)] := by exact blkOk_by (by decide +kernel))
    (hg : ∀ s H C cl fp, PG (Blk X s H scope cl C fp) (.Name x px) (gName j) := by exact fun _ _ _ _ _ => pg_name (by assumption) rfl (Or.inl rfl))
    (hs : ∀ x, foldedSetIterable iter X.env x = pure x := by intro _; rfl) : EE W X (.ListComp elt [⟨.Name x px, iter, [], 0⟩] scope pos) ds H (Is (.d (.list (items.map f)))) :=
  (lc_main (T := fun _ => Is true) (G := fun y d => d = f y) hc hN hi (fun its e => by cases e; exact hl) ok hg (fun _ _ _ _ _ => pts_nil) (fun l its y e m σ H1 r o Q q => q true H1 (W.refl _) rfl)
    (fun l its y e m _ s0 H0 cl C fp => by cases e; exact (he l y m s0 H0 cl C fp).imp fun z ez => ⟨_, ez, rfl⟩) hs).imp fun z ⟨its, out, e1, lr, e2⟩ => by
    cases e1
    have := lcR_all lr (fun _ => true) (fun _ _ b e => e) (fun _ _ d e => e)
    have e3 : items.filter (fun _ => true) = items := List.filter_eq_self.mpr fun _ _ => rfl
    rw [e2, this, e3]
    rfl
/-- [elt for x in items if test] -/
theorem e_lcIf {elt t : Expr} {scope : Scope} {j : Nat} {x : Str} {px : Pos} {items : List Ds} (f : Ds → PyData) (p : Ds → Bool) (hc : X.calm = true) (hN : X.N.Nodup) (hi : EI W X (.Name x px) iter ds H (Is items)) (hl : items.length < sizeLine)
    (ht : ∀ l y, y ∈ items → ∀ s0 H0 cl C fp, ET (W.add l) (Blk X s0 H0 scope cl C fp) t ((wipeD ds [j]).set j y) H (Is (p y)))
    (he : ∀ l y, y ∈ items → p y = true → ∀ s0 H0 cl C fp, EE (W.add l) (Blk X s0 H0 scope cl C fp) elt ((wipeD ds [j]).set j y) H (Is (.d (f y))))
    (ok : BlkOk X.N X.env.scope scope [(x, j)] := by exact blkOk_by (by decide +kernel))
    (hg : ∀ s H C cl fp, PG (Blk X s H scope cl C fp) (.Name x px) (gName j) := by exact fun _ _ _ _ _ => pg_name (by assumption) rfl (Or.inl rfl))
    (hs : ∀ x, foldedSetIterable iter X.env x = pure x := by intro _; rfl) : EE W X (.ListComp elt [⟨.Name x px, iter, [t], 0⟩] scope pos) ds H (Is (.d (.list ((items.filter p).map f)))) :=
  (lc_main (tt := fun σ H Q => ∀ s0 H0 cl C fp, twt (Blk X s0 H0 scope cl C fp) t σ H Q) (T := fun y => Is (p y)) (G := fun y d => d = f y) hc hN hi (fun its e => by cases e; exact hl) ok hg
    (fun s H C cl fp => pts_one ⟨fun pins s' σ H' Q I h => h s H cl C fp pins s' I⟩) (fun l its y e m σ H1 r o Q q s0 H0 cl C fp => by cases e; exact ht l y m s0 H0 cl C fp σ H1 r o Q q)
    (fun l its y e m hp s0 H0 cl C fp => by cases e; exact (he l y m hp.symm s0 H0 cl C fp).imp fun z ez => ⟨_, ez, rfl⟩) hs).imp fun z ⟨its, out, e1, lr, e2⟩ => by
    cases e1
    have := lcR_all lr p (fun _ _ b e => e) (fun _ _ d e => e)
    rw [e2, this]
    rfl
end
end NP

namespace NP
open PySem PySem.Spec L2
open PyProof.Rows (envOfC boot_tuple)

/-! ### texts as lists and tuples of signs -/
def signs (z : Str) : List PyData := z.cps.toList.map fun c => .str ⟨#[c]⟩
def signsV (z : Str) : List V := z.cps.toList.map fun c => .str ⟨#[c]⟩
theorem signs_len (z : Str) : (signsV z).length = z.length := by unfold signsV; rw [List.length_map, Array.length_toList]; rfl
theorem signs_dt {M : Ms} {H : Hp} (z : Str) : DtAll M H (signsV z) (signs z) := by
  unfold signsV signs
  induction z.cps.toList with
  | nil => exact .nil
  | cons c l ih => exact .cons (.str _) ih
theorem signs_vals {z : Str} {acc : Array Value} (h : ItemsOf (SignAt z) acc z.cps.size) : Vals (signsV z) acc.toList := by
  have hl : acc.toList.length = (signsV z).length := by rw [signs_len, Array.length_toList, h.1]; rfl
  have key : ∀ (xs : List V) (us : List Value), xs.length = us.length → (∀ (i : Nat) (x : V) (u : Value), xs[i]? = some x → us[i]? = some u → RelV x u) → Vals xs us := by
    intro xs
    induction xs with
    | nil => intro us hl _; cases us with
      | nil => exact .nil
      | cons => cases hl
    | cons x xs ih => intro us hl k; cases us with
      | nil => cases hl
      | cons u us => exact .cons (k 0 x u rfl rfl) (ih us (Nat.succ.inj hl) fun i y w e1 e2 => k (i + 1) y w e1 e2)
  refine key _ _ hl.symm fun i x u e1 e2 => ?_
  have e2' : acc[i]? = some u := by rw [← Array.getElem?_toList]; exact e2
  obtain ⟨c, t, e3, e4⟩ := h.2 i u e2'
  unfold signsV at e1
  rw [List.getElem?_map, Array.getElem?_toList, e3] at e1
  cases e1
  exact ⟨t, e4⟩
section
variable {X : Cx}
theorem call_tupleS (hc : X.calm = true) : CallR X (.type "tuple") (fun xs H Q => ∃ z, xs = [.str z] ∧ z.length ≤ sizeLine ∧ ∀ p, H p = none → Q (.ref p) (upd H p (.tup (signsV z)))) := by
  intro pins s σ H xs us Q I r h
  obtain ⟨z, rfl, hz, q⟩ := h
  obtain ⟨u, rfl, t, rfl⟩ := vals1 r
  refine call_tuple_str (I.ok.hd hc) z t (fun h' tk acc kp ia => ?_) hz
  have rv := signs_vals ia
  have I1 : Inv X pins σ H { s with heap := h', toks := tk } := I.kept (t' := tk) kp
  have I2 : Inv X pins σ (upd H h'.objs.size (.tup (signsV z))) { s with heap := h'.push { cls := .type "tuple", data := .seq acc }, toks := tk } :=
    I1.laid (t' := tk) (fun b o e => Heap.get?_push_of_some _ e) (Nat.le_refl _) (show ObjOk X.prog X.w _ _ _ (.tup (signsV z)) from ⟨by rw [signs_len]; exact hz, acc.toList, rv, by simpa using PyProof.Rows.IsTup.new h' acc⟩)
  exact ⟨.ref h'.objs.size, _, I2, rfl, q _ (I1.hok.fresh (Nat.le_refl _))⟩
theorem call_listS (hc : X.calm = true) : CallR X (.type "list") (fun xs H Q => ∃ z, xs = [.str z] ∧ z.length ≤ sizeLine ∧ ∀ p, H p = none → Q (.ref p) (upd H p (.lst (signsV z)))) := by
  intro pins s σ H xs us Q I r h
  obtain ⟨z, rfl, hz, q⟩ := h
  obtain ⟨u, rfl, t, rfl⟩ := vals1 r
  refine call_list_str (I.ok.hd hc) z t (fun h' tk acc c kp e ia => ?_) hz
  have rv := signs_vals ia
  exact ⟨.ref s.heap.objs.size, _, I.laid (t' := tk) kp (Nat.le_refl _) (show ObjOk X.prog X.w _ h' _ (.lst (signsV z)) from ⟨by rw [signs_len]; exact hz, acc.toList, c, rv, by simpa using e⟩), rfl, q _ (I.hok.fresh (Nat.le_refl _))⟩
/-- a text, some times -/
theorem op_mulS : OpR X (binaryOp .Mult) (fun x y H Q => ∃ z n, x = .str z ∧ y = .int n ∧ 0 ≤ n ∧ n ≤ 1000 ∧ z.length ≤ 1000 ∧ Q (.str ⟨(List.replicate n.toNat z.cps.toList).flatten.toArray⟩) H) := by
  intro pins s σ H x y v u Q I rx ry h
  obtain ⟨z, n, rfl, rfl, h0, h1, h2, q⟩ := h
  obtain ⟨t, rfl⟩ := rx
  obtain ⟨t', rfl⟩ := ry
  have hfl : ∀ k : Nat, (List.replicate k z.cps).foldl (· ++ ·) #[] = (List.replicate k z.cps.toList).flatten.toArray := by
    have hfold : ∀ (k : Nat) (a : Array Nat), ((List.replicate k z.cps).foldl (· ++ ·) a).toList = a.toList ++ (List.replicate k z.cps.toList).flatten := by
      intro k
      induction k with
      | zero => intro a; simp
      | succ k ih => intro a; rw [List.replicate_succ, List.foldl_cons, ih, List.replicate_succ, List.flatten_cons]; simp [List.append_assoc]
    intro k
    apply Array.toList_inj.mp
    rw [hfold]; simp
  have hlen : ∀ k : Nat, (List.replicate k z.cps.toList).flatten.length = k * z.length := by
    intro k
    induction k with
    | zero => simp
    | succ k ih => rw [List.replicate_succ, List.flatten_cons, List.length_append, ih, Nat.succ_mul, Array.length_toList, Nat.add_comm]; rfl
  have hmul : n.toNat * z.length ≤ 1000 * 1000 := Nat.mul_le_mul (by omega) h2
  have hsz : (1000 * 1000 : Nat) ≤ sizeLine := by decide
  refine PySem.P.mul_str (by have e1 : ¬ n < -(2 ^ 63 : Int) := by omega
                             have e2 : ¬ n ≥ 2 ^ 63 := by omega
                             rw [decide_eq_false e1, decide_eq_false e2]; rfl) (fun hn _ => ?_) (fun _ _ => ?_) ?_
  · have h3 : (z.length : Int) * n ≤ 1000 * 1000 := Int.mul_le_mul (by omega) h1 h0 (by decide)
    have h4 := Int.le_ediv_of_mul_le (a := (z.length : Int)) (b := 2 ^ 63 - 1) (c := n) (by omega) (by omega)
    omega
  · show decide (z.length * n.toNat > sizeLine) = false
    rw [Nat.mul_comm]
    exact decide_eq_false (by omega)
  · by_cases hn : n < 1
    · rw [if_pos hn]
      have e : n = 0 := by omega
      subst e
      exact ⟨by decide, .str _, H, I.tok _, ⟨_, rfl⟩, q⟩
    · rw [if_neg hn]
      by_cases c : (n == 1 || z.length == 0) = true
      · rw [if_pos c]
        refine ⟨.str _, H, I, ⟨_, rfl⟩, ?_⟩
        have e : (⟨(List.replicate n.toNat z.cps.toList).flatten.toArray⟩ : Str) = z := by
          cases z with
          | mk cps =>
            congr 1
            apply Array.toList_inj.mp
            rcases Bool.or_eq_true_iff.mp c with c | c
            · have : n = 1 := by simpa using c
              subst this; simp
            · have h0 : cps.size = 0 := by simpa [Str.length] using c
              have h1 : cps = #[] := Array.eq_empty_of_size_eq_zero h0
              subst h1
              simp
        rw [← e]; exact q
      · rw [if_neg c]
        refine ⟨?_, .str _, H, I.tok _, ⟨_, rfl⟩, ?_⟩
        · show ((List.replicate n.toNat z.cps).foldl (· ++ ·) #[]).size ≤ sizeLine
          rw [hfl, List.size_toArray, hlen]; omega
        · rw [hfl]; exact q
/-- min of a list of data that are alike -/
theorem call_minD (hc : X.calm = true) : CallR X (.builtin "min") (fun xs H Q => ∃ p ys d ds, xs = [.ref p] ∧ SqL X.K H p ys ∧ DpAll X.K H ys (d :: ds) ∧ PySem.W.AlikeAll (d :: ds) ∧ X.A.units + 1 + PyData.depthAll (d :: ds) < cLine ∧
    ∀ (i : Nat) y, ys[i]? = some y → (d :: ds)[i]? = some (PySem.W.minD d ds) → Q y H) := by
  intro pins s σ H xs us Q I r h
  obtain ⟨p, ys, d, ds, rfl, hq, hd, ha, hu, q⟩ := h
  obtain ⟨u, rfl, rx⟩ := vals1 r
  cases rx
  obtain ⟨its, rv, pl, hz⟩ := I.list hq
  obtain ⟨as, hr⟩ := Dp.readsAll I _ _ _ hd rv
  have hr' : ReadsAll s.heap its.toArray.toList (d :: ds) as := by simpa using hr
  have hn : its.toArray.size = ds.length + 1 := PySem.W.readsAll_len hr'
  refine call_min_walkH (PySem.W.iter_listW (A := X.A.in1) (I.ok.hd hc) pl.isList fun s₂ e W st hfp hw hk => ?_)
  refine ⟨_, _, _, _, _, _, _, s.heap, _, rfl, W, st, hfp, by omega, hw, hk, PySem.W.cmpIn_lt (A := X.A.in1) hr' ha (by show X.A.units + 1 + _ < _; exact hu), fun v s' hP m => ?_⟩
  obtain ⟨h', tk, rfl, hk'⟩ := PySem.W.moved_old e rfl m
  have e1 : its.toArray.size - 1 = ds.length := by omega
  have e2 := (PySem.W.argBest_fold PySem.W.dataLt PyData.none d ds ds.length (Nat.le_refl _))
  rw [e1] at hP
  rw [List.take_length] at e2
  have hP' : its[argBest (fun i j => PySem.W.dataLt ((d :: ds).getD i PyData.none) ((d :: ds).getD j PyData.none)) ds.length]? = some v := by simpa using hP
  generalize argBest (fun i j => PySem.W.dataLt ((d :: ds).getD i PyData.none) ((d :: ds).getD j PyData.none)) ds.length = k at e2 hP'
  have hys : ys.length = its.length := rv.length
  have hk2 : k < ys.length := by rw [hys]; exact (List.getElem?_eq_some_iff.mp hP').1
  obtain ⟨u, hu1, hu2⟩ := rv.get (i := k) (x := ys[k]) (by simp [hk2])
  rw [hP'] at hu1
  cases hu1
  have I1 : Inv X pins σ H { s with heap := h', toks := tk } := I.kept (t' := tk) hk'
  refine ⟨ys[k], H, I1, hu2, q k _ (by simp [hk2]) ?_⟩
  have hlt : k < (d :: ds).length := by simp; omega
  have e3 : (d :: ds).getD k PyData.none = PySem.W.minD d ds := e2.2
  rw [List.getD_eq_getElem?_getD] at e3
  rw [List.getElem?_eq_getElem hlt] at e3 ⊢
  rw [← e3]; rfl
end
end NP

namespace NP
open PySem PySem.Spec L2
open PyProof.Rows (AllBare IntsAre)

/-- exactly kept, but for the frames' slots -/
structure Kx (fs : List Addr) (h h' : Heap) : Prop where
  keep : ∀ b o, h.get? b = some o → b ∉ fs → h'.get? b = some o
  slot : ∀ b o, h.get? b = some o → b ∈ fs → ∃ sl, h'.get? b = some { o with slots := sl }
theorem Kx.refl (fs : List Addr) (h : Heap) : Kx fs h h := ⟨fun _ _ e _ => e, fun _ o e _ => ⟨o.slots, e⟩⟩
theorem Kx.trans {fs : List Addr} {h h1 h2 : Heap} (a : Kx fs h h1) (b : Kx fs h1 h2) : Kx fs h h2 :=
  ⟨fun x o e n => b.keep x o (a.keep x o e n) n, fun x o e m => by
    obtain ⟨sl, e1⟩ := a.slot x o e m
    obtain ⟨sl', e2⟩ := b.slot x _ e1 m
    exact ⟨sl', e2⟩⟩
section
variable {X : Cx} {pins : List (Addr × Obj)} {σ : L2.St} {H : Hp} {s : Shared}
theorem Kx.inv {h' : Heap} {g' : Array GenState} {d' : Drawn} {t' : Nat} (I : Inv X pins σ H s) (k : Kx (frs X.stack) s.heap h') (hg : AllBare g') : Inv X pins σ H { s with heap := h', gens := g', drawn := d', toks := t' } := by
  have u : Un (frs X.stack) [] H H s.heap h' := ⟨fun b o e _ n _ => k.keep b o e n, fun b o e _ m _ => k.slot b o e m, fun b o _ n _ => n, fun b o e _ => ?_, fun _ _ e => e, fun _ _ _ e => e, fun b ps e => ⟨#[], by rw [e]; simp⟩⟩
  · refine I.call (ch := []) u (fun a o e => ?_) hg (fun b z => absurd z (by simp))
    refine (I.hok a o e).stay (fun b v hb q => k.keep b v q fun z => ?_) (fun _ q => q) fun _ _ q => q
    have hn := I.stkFree b z
    rcases hb with hb | hb
    · rw [hb, e] at hn; cases hn
    · rw [hb] at hn; cases hn
  · by_cases m : b ∈ frs X.stack
    · obtain ⟨sl, q⟩ := k.slot b o e m; exact ⟨_, q⟩
    · exact ⟨_, k.keep b o e m⟩
theorem frs_there (I : Inv X pins σ H s) {b : Addr} (hb : b ∈ frs X.stack) : ∃ o, s.heap.get? b = some o := by
  obtain ⟨_, o, ho, _⟩ := I.stack.mem hb
  exact ⟨o, ho⟩
end

/-- a key: a number and a list of numbers, new -/
def KeyAt (bad : Addr → Prop) (h : Heap) (k : Value) (n : Int) (ns : List Int) : Prop :=
  ∃ (t l : Addr) (ot ol : Obj) (tk : Tok) (m m' : Nat) (its : List Value), k = .ref t ∧ ¬ bad t ∧ ¬ bad l ∧ h.get? t = some ot ∧ ot.cls = .type "tuple" ∧ ot.data = .seq #[.int n tk, .ref l] m ∧
    h.get? l = some ol ∧ ol.cls = .type "list" ∧ ol.data = .seq its.toArray m' ∧ IntsAre its ns
theorem KeyAt.keep {bad : Addr → Prop} {h h' : Heap} {k : Value} {n : Int} {ns : List Int} (q : KeyAt bad h k n ns) (e : ∀ b o, h.get? b = some o → ¬ bad b → h'.get? b = some o) : KeyAt bad h' k n ns := by
  obtain ⟨t, l, ot, ol, tk, m, m', its, h1, h2, h3, h4, h5, h6, h7, h8⟩ := q
  exact ⟨t, l, ot, ol, tk, m, m', its, h1, h2, h3, e _ _ h4 h2, h5, h6, e _ _ h7 h3, h8⟩
theorem reads_ints {h : Heap} : ∀ {its : List Value} {ns : List Int}, IntsAre its ns → ∃ as, ReadsAll h its (ns.map .int) as
  | _, _, .nil => ⟨_, .nil⟩
  | _, _, .cons n t r => by
    obtain ⟨as, q⟩ := reads_ints (h := h) r
    exact ⟨_, .cons (.int n t) q⟩
theorem KeyAt.reads {bad : Addr → Prop} {h : Heap} {k : Value} {n : Int} {ns : List Int} (q : KeyAt bad h k n ns) : ∃ as, Reads h k (.tuple [.int n, .list (ns.map .int)]) as := by
  obtain ⟨t, l, ot, ol, tk, m, m', its, rfl, _, _, h4, h5, h6, h7, h8, h9, h10⟩ := q
  obtain ⟨as, q⟩ := reads_ints (h := h) h10
  exact ⟨_, .tuple h4 h5 h6 (.cons (.int n tk) (.cons (.list h7 h8 h9 (by simpa using q)) .nil))⟩
theorem alike_keys (n m : Int) (ns ms : List Int) : PySem.W.alike (.tuple [.int n, .list (ns.map .int)]) (.tuple [.int m, .list (ms.map .int)]) = true := by
  have h : ∀ ns ms : List Int, PySem.W.alikeAll (ns.map .int) (ms.map .int) = true := by
    intro ns
    induction ns with
    | nil => intro ms; cases ms <;> simp [PySem.W.alikeAll]
    | cons n ns ih => intro ms; cases ms with
      | nil => simp [PySem.W.alikeAll]
      | cons m ms => simp [PySem.W.alikeAll, PySem.W.alike, ih ms]
  simp [PySem.W.alike, PySem.W.alikeAll, h]
theorem depth_key (n : Int) (ns : List Int) : (PyData.tuple [.int n, .list (ns.map .int)]).depth ≤ 3 := by
  have h : ∀ ns : List Int, PyData.depthAll (ns.map .int) ≤ 1 := by
    intro ns
    induction ns with
    | nil => simp [PyData.depthAll]
    | cons n ns ih => simp [PyData.depthAll, PyData.depth]; omega
  have := h ns
  simp [PyData.depth, PyData.depthAll]
  omega
section
variable {X : Cx} {k : Nat} {f : Addr} {fd : FuncData} {ps : List Str} {R : List Ds → (Ds → Prop) → Prop}
def keyD (n : Str → Int) (ns : Str → List Int) (z : Str) : PyData := .tuple [.int (n z), .list ((ns z).map .int)]
theorem call_minK (hc : X.calm = true) (F : FnOk X.prog X.w X.K X.mg X.base CX0 k f fd ps (spP R)) (hb : Binds X.K fd ps []) (hr : Room (k + 1) X.A) (n : Str → Int) (ns : Str → List Int) :
    CallRK X (.builtin "min") [Str.ofString "key"] (fun vs ws H Q => ∃ p z zs, vs = [.ref p] ∧ ws = [.ref f] ∧ H p = some (.lst ((z :: zs).map V.str)) ∧ (∀ y ∈ z :: zs, R [.d (.str y)] (Is (.d (keyD n ns y)))) ∧
      Q (.str (zs.foldl (fun a y => if PySem.W.dataLt (keyD n ns y) (keyD n ns a) = true then y else a) z)) H) := by
  intro pins s σ H xs ws us vs Q I r r' h
  obtain ⟨p, z, zs, rfl, rfl, hq, hR, q⟩ := h
  obtain ⟨u, rfl, rx⟩ := vals1 r
  obtain ⟨u', rfl, rx'⟩ := vals1 r'
  cases rx
  cases rx'
  obtain ⟨its, rv, pl, hz⟩ := I.list (SqL.of hq)
  show wpAny (model X.prog X.w) X.A (call (.builtin "min") [.ref p] [(Str.ofString "key", .ref f)]) (EP X pins σ Q) X.xe s
  have hlen : its.length = (z :: zs).length := by rw [← rv.length, List.length_map]
  refine call_min_walkK (PySem.W.iter_listW (A := X.A.in1) (I.ok.hd hc) pl.isList fun s₂ e W st hfp hw hk => ?_)
  subst e
  let h0 := s.heap
  let I0 : Addr := s.heap.objs.size
  let h2 := s.heap.push { cls := .type "list_iterator", data := .fields #[.ref p, .int 0 0] }
  let S : Addr := h2.objs.size
  let bad : Addr → Prop := fun b => b ∈ frs X.stack ∨ b = S ∨ b = I0
  have eS : S = I0 + 1 := Heap.size_push ..
  have notI : ∀ b o, s.heap.get? b = some o → b ≠ I0 ∧ b ≠ S := fun b o e => ⟨Nat.ne_of_lt (Heap.lt_size e), by rw [eS]; exact Nat.ne_of_lt (Nat.lt_succ_of_lt (Heap.lt_size e))⟩
  let J : Shared → Prop := fun s' => Kx (frs X.stack) s.heap s'.heap ∧ s'.os = s.os ∧ AllBare s'.gens
  refine ⟨_, _, _, _, _, _, _, J, fun i ki s' => KeyAt bad s'.heap ki (n ((z :: zs).getD i ⟨#[]⟩)) (ns ((z :: zs).getD i ⟨#[]⟩)),
    fun i j => PySem.W.dataLt (keyD n ns ((z :: zs).getD i ⟨#[]⟩)) (keyD n ns ((z :: zs).getD j ⟨#[]⟩)), rfl, W, st, hfp, by simp [hlen], ⟨?_, ?_, ?_, ?_⟩, ?_, fun v s' hP hJ => ?_⟩
  · -- keep
    rintro s1 s2 ⟨k1, o1, g1⟩ m
    have nb : ∀ b o, s.heap.get? b = some o → b ∉ S :: [I0] := fun b o e hb => by
      rcases List.mem_cons.mp hb with z | hb
      · exact (notI b o e).2 z
      · exact (notI b o e).1 (List.mem_singleton.mp hb)
    refine ⟨⟨fun b o e nf => m.heap b o (nb b o e) (k1.keep b o e nf), fun b o e mf => ?_⟩, by rw [m.os]; exact o1, by rw [show s2.gens = s1.gens from m.gens]; exact g1⟩
    obtain ⟨sl, q1⟩ := k1.slot b o e mf
    exact ⟨sl, m.heap b _ (nb b o e) q1⟩
  · -- keepV
    intro i ki s1 s2 hv m
    exact hv.keep fun b o e nb => m.heap b o (fun hb => by
      rcases List.mem_cons.mp hb with z | hb
      · exact nb (.inr (.inl z))
      · exact nb (.inr (.inr (List.mem_singleton.mp hb)))) e
  · -- turn
    intro i v s1 o Q1 E1 hi hP hJ hSt hS hQ
    obtain ⟨k1, o1, g1⟩ := hJ
    obtain ⟨hh1, gg1, dd1, tk1, os1⟩ := s1
    have eo : os1 = s.os := o1
    subst eo
    have I1 : Inv X pins σ H { s with heap := hh1, gens := gg1, drawn := dd1, toks := tk1 } := k1.inv I g1
    have hP' : its[i]? = some v := by simpa using hP
    have hi' : i < (z :: zs).length := by rw [← hlen]; exact (List.getElem?_eq_some_iff.mp hP').1
    have hzi : (z :: zs)[i]? = some ((z :: zs).getD i ⟨#[]⟩) := by rw [List.getD_eq_getElem?_getD, List.getElem?_eq_getElem hi']; rfl
    generalize (z :: zs).getD i ⟨#[]⟩ = y at hzi hQ
    obtain ⟨u1, e1, r1⟩ := rv.get (i := i) (x := V.str y) (by rw [List.getElem?_map, hzi]; rfl)
    rw [hP'] at e1
    cases e1
    have e0 := I1.env0
    have env : Env0 X.prog X.w X.K X.mg X.base X.A.in1 X.stack { s with heap := hh1, gens := gg1, drawn := dd1, toks := tk1 } (fun _ => none) :=
      ⟨e0.frames, e0.mod, fun b o e => ⟨(e0.bs b o e).1, rfl⟩, e0.bsz, e0.funs, fun _ _ => rfl, fun a o e => (by cases e), e0.bare⟩
    have hsp : spP R [.str y] (fun _ => none) (fun v H' => Val (fun _ => False) H' v (.d (keyD n ns y))) E0 :=
      ⟨fun _ => False, [.d (.str y)], Is (.d (keyD n ns y)), fun _ m => m.elim, hR y (List.mem_of_getElem? hzi), .cons (.str y) .nil, fun v H' x _ ex hv => by cases ex; exact hv⟩
    refine wpAny_call (codeAny_mono (F.run X.A.in1 X.stack _ (fun _ => none) ⟨[v], []⟩ [v] [.str y] _ E0 hr.in1 env (by
      have := hb { s with heap := hh1, gens := gg1, drawn := dd1, toks := tk1 } [v] I1.kIn (by rw [List.append_nil]; exact (F.len _ _ _ _ hsp))
      rwa [List.append_nil] at this) (.cons r1 .nil) hsp) fun rr s3 hq => ?_)
    cases rr with
    | error e => exact hq.elim
    | ok fl =>
      cases fl with
      | next => exact hq.elim
      | brk => exact hq.elim
      | cont => exact hq.elim
      | ret u3 =>
        obtain ⟨v3, H3, eos, bare3, un3, hok3, r3, hval⟩ := hq
        have kx : Kx (frs X.stack) hh1 s3.heap := ⟨fun b o e nf => un3.keep b o e rfl nf (by simp), fun b o e mf => un3.slot b o e rfl mf (by simp)⟩
        have gone : ∀ b o, hh1.get? b = some o → H3 b = none := fun b o e => un3.free b o e rfl (by simp)
        have nbad : ∀ b (u : HO), H3 b = some u → ¬ bad b := fun b u e hb => by
          rcases hb with hb | hb | hb
          · obtain ⟨o', e'⟩ := frs_there I1 hb
            rw [gone b o' e'] at e; cases e
          · rw [hb, gone S o hS] at e; cases e
          · obtain ⟨⟨oI, eI, _⟩, _⟩ := hSt
            rw [hb, gone I0 oI eI] at e; cases e
        have keepNF : ∀ b o, hh1.get? b = some o → b ∉ frs X.stack → s3.heap.get? b = some o := fun b o e nf => kx.keep b o e nf
        have nfS : S ∉ frs X.stack := fun hb => by
          obtain ⟨o', e'⟩ := frs_there I hb
          exact (notI S o' e').2 rfl
        have nfI : I0 ∉ frs X.stack := fun hb => by
          obtain ⟨o', e'⟩ := frs_there I hb
          exact (notI I0 o' e').1 rfl
        have nfp : p ∉ frs X.stack := fun hb => by
          have := I.stkFree p hb
          rw [hq] at this; cases this
        refine hQ u3 s3 ⟨k1.trans kx, eos, bare3⟩ ?_ (keepNF S o hS nfS) ?_ fun j k' hv => hv.keep fun b o e nb => keepNF b o e fun z => nb (.inl z)
        · obtain ⟨⟨oI, eI, rI⟩, ol, el, rl⟩ := hSt
          exact ⟨⟨oI, keepNF _ _ eI nfI, rI⟩, ol, keepNF _ _ el nfp, rl⟩
        · cases hval with
          | tup m ht dall =>
            cases dall with
            | cons d1 dall =>
            cases dall with
            | cons d2 dall =>
            cases dall
            cases d1
            cases d2 with
            | lst m' hl dl =>
              have er := dl.ints
              subst er
              obtain ⟨_, tits, tr, ot, et, ct, tn, dt⟩ := hok3 _ _ ht
              obtain ⟨_, lits, ln, lr, el⟩ := hok3 _ _ hl
              cases r3
              cases tr with
              | cons a1 tr =>
              cases tr with
              | cons a2 tr =>
              cases tr
              obtain ⟨tk, rfl⟩ := a1
              cases a2
              exact ⟨_, _, ot, _, tk, tn, ln, lits, rfl, nbad _ _ ht, nbad _ _ hl, et, ct, dt, el, rfl, rfl, intsAre_of lr⟩
  · -- cmp
    intro i j ki kj s1 Q1 E1 hJ hi hj hQ
    obtain ⟨as, r1⟩ := hi.reads
    obtain ⟨bs, r2⟩ := hj.reads
    refine PySem.W.rcLt_alike _ _ X.A.in1 s1 ki kj _ _ r1 r2 (alike_keys ..) (by intro e; cases e) ?_ _ _ _ _ hQ
    have := depth_key (n ((z :: zs).getD i ⟨#[]⟩)) (ns ((z :: zs).getD i ⟨#[]⟩))
    have h2 := hr.units
    have h3 := Nat.min_le_left (PyData.tuple [.int (n ((z :: zs).getD i ⟨#[]⟩)), .list ((ns ((z :: zs).getD i ⟨#[]⟩)).map .int)]).depth (PyData.tuple [.int (n ((z :: zs).getD j ⟨#[]⟩)), .list ((ns ((z :: zs).getD j ⟨#[]⟩)).map .int)]).depth
    show X.A.units + 1 + _ < cLine
    omega
  · exact ⟨⟨fun b o e _ => hk b o e, fun b o e _ => ⟨o.slots, hk b o e⟩⟩, rfl, I.bare⟩
  · obtain ⟨k1, o1, g1⟩ := hJ
    obtain ⟨hh1, gg1, dd1, tk1, os1⟩ := s'
    have eo : os1 = s.os := o1
    subst eo
    have I1 : Inv X pins σ H { s with heap := hh1, gens := gg1, drawn := dd1, toks := tk1 } := k1.inv I g1
    have e1 : its.toArray.size - 1 = zs.length := by simp [hlen]
    rw [e1] at hP
    have e2 := PySem.W.argBest_fold (fun y a => PySem.W.dataLt (keyD n ns y) (keyD n ns a)) (⟨#[]⟩ : Str) z zs zs.length (Nat.le_refl _)
    rw [List.take_length] at e2
    generalize argBest (fun i j => PySem.W.dataLt (keyD n ns ((z :: zs).getD i ⟨#[]⟩)) (keyD n ns ((z :: zs).getD j ⟨#[]⟩))) zs.length = b at e2 hP
    have hP' : its[b]? = some v := by simpa using hP
    have hb' : b < (z :: zs).length := by rw [← hlen]; exact (List.getElem?_eq_some_iff.mp hP').1
    have hzb : (z :: zs)[b]? = some ((z :: zs).getD b ⟨#[]⟩) := by rw [List.getD_eq_getElem?_getD, List.getElem?_eq_getElem hb']; rfl
    obtain ⟨u1, e3, r1⟩ := rv.get (i := b) (x := V.str ((z :: zs).getD b ⟨#[]⟩)) (by rw [List.getElem?_map, hzb]; rfl)
    rw [hP'] at e3
    cases e3
    refine ⟨_, H, I1, r1, ?_⟩
    rw [e2.2]
    exact q
end
end NP

namespace NP
open PySem PySem.Spec PyProof.Rows RT
section
variable {prog : Program} {w : World} {A : Around} {E : Value → Shared → Prop} {s : Shared}
/-! ### t[::2] -/
theorem adjust_two (n : Nat) : Builtin.Slice.sliceAdjust none none 2 (n : Int) = ((0 : Int), (n : Int)) := by
  unfold Builtin.Slice.sliceAdjust
  have h1 : ¬ ((2 : Int) < 0) := by omega
  simp only [h1, if_false]
theorem places_two (n : Nat) : Builtin.Slice.slicePlaces (0 : Int) (n : Int) 2 = (n + 1) / 2 := by
  unfold Builtin.Slice.slicePlaces
  have h1 : (2 : Int) > 0 := by omega
  simp only [h1, if_true]
  split <;> omega
theorem sliceApplied_two {sl : Addr} {n : Nat} {u : Tok} {Q : Int × Int × Nat → Shared → Prop} (hs : s.heap.IsSliceOf sl .none .none (.int 2 u)) (h : Q (0, 2, (n + 1) / 2) s) :
    wpAny (model prog w) A (Builtin.Slice.sliceApplied (.ref sl) (pure (n : Int))) Q E s := by
  obtain ⟨os, hos, hcs, hds⟩ := id hs
  unfold Builtin.Slice.sliceApplied Builtin.Slice.sliceFields
  refine wpAny_bind (wpAny_bind (wpAny_field hos hds (x := .none) rfl (wpAny_bind (wpAny_field hos hds (x := .none) rfl (wpAny_bind (wpAny_field hos hds (x := .int 2 u) rfl (wpAny_pure ?_)))))))
  refine wpAny_bind (slicePart_int ?_)
  show wpAny _ _ (if ((2 : Int) == 0) = true then _ else _) _ _ s
  rw [if_neg (by decide)]
  refine wpAny_bind (slicePart_none (wpAny_bind (slicePart_none (wpAny_bind (wpAny_pure ?_)))))
  show wpAny _ _ (match Builtin.Slice.sliceAdjust none none 2 (n : Int) with | (lo, hi) => pure (lo, (2 : Int), Builtin.Slice.slicePlaces lo hi 2)) _ _ s
  rw [adjust_two n]
  show wpAny _ _ (pure ((0 : Int), (2 : Int), Builtin.Slice.slicePlaces (0 : Int) (n : Int) 2)) _ _ s
  rw [places_two n]
  exact wpAny_pure h
def ev {α : Type} (xs : List α) : List α := (List.range ((xs.length + 1) / 2)).filterMap fun k => xs[2 * k]?
theorem getItem_tuple_two {t sl : Addr} {items : Array Value} {u : Tok} {Q : Value → Shared → Prop} (ht : IsTup s.heap t items) (hs : s.heap.IsSliceOf sl .none .none (.int 2 u))
    (h : Q (.ref s.heap.objs.size) { s with heap := s.heap.push { cls := .type "tuple", data := .seq (ev items.toList).toArray } })
    (hsz : items.size ≤ sizeLine) : wpAny (model prog w) A (getItem (.ref t) (.ref sl)) Q E s := by
  have hev : sizeOk (.seq (ev items.toList).toArray) := by
    show (ev items.toList).toArray.size ≤ sizeLine
    rw [List.size_toArray]
    unfold ev
    have := List.length_filterMap_le (fun k => items.toList[2 * k]?) (List.range ((items.toList.length + 1) / 2))
    rw [List.length_range] at this
    have e : items.toList.length = items.size := by simp
    omega
  obtain ⟨os, hos, hcs, hds⟩ := id hs
  have hTs : s.TypeIs (.ref sl) "slice" := ⟨os, hos, hcs⟩
  unfold getItem
  try with_reducible refine wpAny_holding ?_
  first | refine wpAny_bind (wpAny_pure ?_) | skip
  refine wpAny_bind (wpAny_sequenceKey ht.typeIs (by decide) ?_)
  refine wpAny_bind (wpAny_callSpecial?_slot (name := Str.ofString "__getitem__") ht.typeIs slot_tuple_getitem
    (wpAny_call_entry slot_tuple_getitem ht.typeIs entry_tuple_getitem ?_ (args_tuple_getitem _ _)))
  show wpAny _ _ (Builtin.Tuple.tupleItemsOf (.ref t) >>= _) _ _ s
  refine wpAny_bind (tupleItemsOf_ ht ?_)
  refine wpAny_bind (wpAny_typeOf hTs ?_)
  rw [if_pos (by decide)]
  refine wpAny_bind (sliceApplied_two hs ?_)
  have hno : ¬ (((0 : Int) == 0 && (2 : Int) == 1 && ((items.size + 1) / 2) == items.size) = true) := by simp
  show wpAny _ _ (if ((0 : Int) == 0 && (2 : Int) == 1 && ((items.size + 1) / 2) == items.size) = true then _ else _) _ _ s
  rw [if_neg hno]
  have epick : ((List.range ((items.size + 1) / 2)).filterMap fun (k : Nat) => items[((0 : Int) + (k : Int) * 2).toNat]?).toArray = (ev items.toList).toArray := by
    unfold ev
    congr 1
    have e1 : items.toList.length = items.size := by simp
    rw [e1]
    congr 1
    funext k
    have e2 : ((0 : Int) + (k : Int) * 2).toNat = 2 * k := by omega
    rw [e2]; simp
  rw [epick]
  first
    | exact wpAny_bind (m := Builtin.Tuple.tupleExact _) (wpAny_newObj_type (wpAny_pure ⟨_, rfl, wpAny_pure h⟩) hev)
    | exact wpAny_bind (m := Builtin.Tuple.tupleExact _) (wpAny_newObj_type (wpAny_bind (wpAny_pure (wpAny_pure ⟨_, rfl, wpAny_pure h⟩))) hev)
    | exact wpAny_bind (wpAny_bind (m := Builtin.Tuple.tupleExact _) (wpAny_newObj_type (wpAny_pure (wpAny_pure ⟨_, rfl, wpAny_pure h⟩)) hev))
    | exact wpAny_bind (wpAny_bind (m := Builtin.Tuple.tupleExact _) (wpAny_newObj_type (wpAny_pure ⟨_, rfl, wpAny_pure h⟩) hev))

/-! ### reversed(text) -/
theorem norev_str : typeLookup (.type "str") "__reversed__" = pure none := by rw [typeLookup_type, builtinLookup_eq_fast]; kernel_rfl
theorem get_str : typeLookup (.type "str") "__getitem__" = pure (some (.builtin "str.__getitem__")) := by rw [typeLookup_type, builtinLookup_eq_fast]; kernel_rfl
def rsObj (x : Str) (t : Tok) (i : Int) : Obj := { cls := .type "reversed", data := .fields #[.str x t, rawInt i] }
def IsRs (h : Heap) (a : Addr) (x : Str) (i : Int) : Prop := ∃ o t, h.get? a = some o ∧ o.cls = .type "reversed" ∧ o.data = .fields #[.str x t, rawInt i]
theorem IsRs.at {h h' : Heap} {a : Addr} {x : Str} {i : Int} (q : IsRs h a x i) (e : ∀ o, h.get? a = some o → h'.get? a = some o) : IsRs h' a x i := let ⟨o, t, ho, r⟩ := q; ⟨o, t, e _ ho, r⟩
theorem IsRs.typeIs {a : Addr} {x : Str} {i : Int} (q : IsRs s.heap a x i) : s.TypeIs (.ref a) "reversed" := let ⟨o, _, ho, hc, _⟩ := q; ⟨o, ho, hc⟩
theorem code_reversed_str {x : Str} {t : Tok} {Q₁ : Value → Shared → Prop}
    (hlen : ∀ (A : Around) (E : Value → Shared → Prop) (Q : Value → Shared → Prop), Q (.int x.length (s.toks + 1)) { s with toks := s.toks + 1 + 1 } → wpAny (model prog w) A (call (.builtin "len") [.str x t]) Q E s)
    (h : Q₁ (.ref s.heap.objs.size) { s with heap := s.heap.push (rsObj x t ((x.length : Int) - 1)), toks := s.toks + 1 + 1 }) :
    codeAny (model prog w) A (.call (.builtin "reversed.__new__") ⟨[.type "reversed", .str x t], []⟩) (wants Q₁ E) s := by
  have hT : s.TypeIs (.str x t) "str" := typeIs_str _ _ _
  refine codeAny_of_tree ?_
  show wpAny _ A.in1 (do checkBuiltinCall "reversed.__new__" ⟨[.type "reversed", .str x t], []⟩; again (.builtin "reversed.__new__" ⟨[.type "reversed", .str x t], []⟩)) _ _ s
  refine wpAny_bind (wpAny_of_eq (F.newCall_reversed_1 _) (wpAny_pure ⟨plainId_quiet F.plain_reversed_new _, codeAny_builtin F.entry_reversed_new ?_⟩))
  rw [Around.under_plainId F.plain_reversed_new _]
  unfold Builtin.«reversed.__new__»
  refine wpAny_bind (wpAny_of_eq (newClass_reversed _) ?_)
  try dsimp only
  refine wpAny_bind (wpAny_of_eq (a := ()) (by first | rfl | kernel_rfl) ?_)
  try dsimp only
  refine wpAny_bind (wpAny_of_eq (a := ()) (by first | rfl | kernel_rfl) ?_)
  try dsimp only
  refine wpAny_bind (wpAny_specialOf hT norev_str ?_)
  try dsimp only
  refine wpAny_bind ?_
  wp_delta
  refine wpAny_bind (wpAny_isInstance (T := "str") (U := "dict") (b := false) hT (by rw [isSubtype_type]; kernel_rfl) ?_)
  try dsimp only
  try rw [if_neg Bool.false_ne_true]
  try dsimp only
  refine wpAny_bind (wpAny_specialOf hT get_str ?_)
  try dsimp only
  try rw [if_pos (by decide +kernel)]
  refine wpAny_pure ?_
  try dsimp only
  try rw [if_neg (by decide)]
  try dsimp only
  refine wpAny_bind (hlen _ _ _ ?_)
  refine wpAny_bind (wpAny_of_eq (a := some ((x.length : Nat) : Int)) rfl ?_)
  try dsimp only
  refine wpAny_bind ?_
  show wpAny _ _ (newObj (.type "reversed") (.fields #[.str x t, rawInt ((x.length : Int) - 1)])) _ _ _
  refine wpAny_newObj_type ?_
  exact wpAny_pure h
theorem call_reversed_str {x : Str} {t : Tok} {Q : Value → Shared → Prop}
    (hlen : ∀ (A : Around) (E : Value → Shared → Prop) (Q : Value → Shared → Prop), Q (.int x.length (s.toks + 1)) { s with toks := s.toks + 1 + 1 } → wpAny (model prog w) A (call (.builtin "len") [.str x t]) Q E s)
    (h : Q (.ref s.heap.objs.size) { s with heap := s.heap.push (rsObj x t ((x.length : Int) - 1)), toks := s.toks + 1 + 1 }) : wpAny (model prog w) A (call (.type "reversed") [.str x t]) Q E s := by
  refine callType_codes (Q₁ := fun obj s₁ => s₁.TypeIs obj "reversed" ∧ Q obj s₁) called_rt (F.typeCall_reversed_1 _) F.entry_object_init
    (code_reversed_str (A := A.in1) hlen ⟨⟨_, Heap.get?_push_size _ rfl, rfl⟩, h⟩) fun obj s₁ h₁ => ?_
  exact ⟨h₁.1, F.args_object_init_2 obj _, object_init_meets called_rt.init.lookup called_rt.made (by decide) prog w A.in1 _ s₁ ⟨h₁.1, rfl, h₁.2⟩⟩

theorem next_rs_item {it : Addr} {i : Nat} {x : Str} {c : Nat} {Q : Option Value → Shared → Prop} (hit : IsRs s.heap it x (i : Int)) (hx : x.cps[i]? = some c) (hsz : x.length ≤ sizeLine)
    (hQ : ∀ h' tk t', IsRs h' it x ((i : Int) - 1) → Heap.SameBut it s.heap h' → Q (some (.str ⟨#[c]⟩ t')) { s with heap := h', toks := tk }) : wpAny (model prog w) A (pyNext (.ref it)) Q E s := by
  obtain ⟨o, t, ho, hc, hd⟩ := id hit
  have hi : i < x.length := (Array.getElem?_eq_some_iff.mp hx).1
  have hT : ∀ s' : Shared, s'.TypeIs (.str x t) "str" := fun s' => typeIs_str _ _ _
  rw [sizeLine_eq] at hsz
  unfold pyNext
  refine wpAny_bind (wpAny_attempt (wpAny_callSpecial?_slot (name := Str.ofString "__next__") hit.typeIs slot_rt_next
    (wpAny_call_entry slot_rt_next hit.typeIs entry_rt_next ?_ (args_rt_next _))))
  unfold Builtin.«reversed.__next__»
  refine wpAny_bind (wpAny_of_eq (a := (Value.ref it, [])) rfl ?_)
  try dsimp only
  refine wpAny_bind (wpAny_field ho hd (x := .str x t) rfl ?_)
  try dsimp only
  refine wpAny_bind (wpAny_field ho hd (x := rawInt (i : Int)) rfl ?_)
  show wpAny _ _ (if (i : Int) < 0 then _ else _) _ _ s
  rw [if_neg (by omega)]
  try dsimp only
  refine wpAny_bind (wpAny_specialOf (hT _) get_str ?_)
  try dsimp only
  try rw [if_neg (by decide)]
  try dsimp only
  refine wpAny_bind (wpAny_mkInt ?_)
  refine wpAny_bind (wpAny_attempt ?_)
  have fin : (seqIndex? (i : Int) x.length).bind (x.cps[·]?) = some c := by
    rw [seqIndex_of (k := i) (by omega) (by omega)]; exact hx
  have hr : (decide ((i : Int) < -(2 ^ 63 : Int)) || decide ((i : Int) ≥ 2 ^ 63)) = false := by
    rw [decide_eq_false (by omega), decide_eq_false (by omega)]; rfl
  refine PyProof.Rows.getItem_str (s := { s with toks := s.toks + 1 }) hr fin ?_
  try dsimp only
  refine wpAny_bind (wpAny_field (s := { s with toks := s.toks + 1 + 1 }) ho hd (x := rawInt (i : Int)) rfl ?_)
  try dsimp only
  refine wpAny_bind (wpAny_setField (s := { s with toks := s.toks + 1 + 1 }) ho hd (by simp) ?_)
  first
  | refine wpAny_pure ⟨_, rfl, wpAny_pure (hQ _ _ _ ?_ (Heap.SameBut.update ..))⟩
  | refine wpAny_bind (wpAny_pure (wpAny_pure ⟨_, rfl, wpAny_pure (hQ _ _ _ ?_ (Heap.SameBut.update ..))⟩))
  exact ⟨_, t, Heap.get?_update_self _ ho (Obj.isFreed_of_fields (Obj.data_mapFields hd _)), (Obj.cls_mapFields ..).trans hc, by
    rw [Obj.data_mapFields hd]; simp⟩
theorem next_rs_end {it : Addr} {x : Str} {Q : Option Value → Shared → Prop} (hh : A.handled = none) (hit : IsRs s.heap it x (-1))
    (hQ : ∀ h', Heap.ExtBut it s.heap h' → Q none { s with heap := h' }) : wpAny (model prog w) A (pyNext (.ref it)) Q E s := by
  obtain ⟨o, t, ho, hc, hd⟩ := id hit
  unfold pyNext
  refine wpAny_bind (wpAny_attempt (wpAny_callSpecial?_slot (name := Str.ofString "__next__") hit.typeIs slot_rt_next
    (wpAny_call_entry slot_rt_next hit.typeIs entry_rt_next ?_ (args_rt_next _))))
  unfold Builtin.«reversed.__next__»
  refine wpAny_bind (wpAny_of_eq (a := (Value.ref it, [])) rfl ?_)
  try dsimp only
  refine wpAny_bind (wpAny_field ho hd (x := .str x t) rfl ?_)
  try dsimp only
  refine wpAny_bind (wpAny_field ho hd (x := rawInt (-1)) rfl ?_)
  show wpAny _ _ (if (-1 : Int) < 0 then _ else _) _ _ s
  rw [if_pos (by decide)]
  try dsimp only
  refine wpAny_bind (wpAny_rule ?_)
  refine wpAny_bind ?_
  wp_delta
  refine wpAny_bind (wpAny_setField ho hd (by simp) ?_)
  have ho2 := Heap.get?_update_self (Obj.mapFields (·.setIfInBounds 1 (rawInt (-1)))) ho (Obj.isFreed_of_fields (Obj.data_mapFields hd _))
  refine wpAny_setField (s := { s with heap := s.heap.update it (Obj.mapFields (·.setIfInBounds 1 (rawInt (-1)))) }) ho2 (Obj.data_mapFields hd _) (by simp) ?_
  try dsimp only
  first
  | show wpAny _ _ (newExc (.type "StopIteration") [] >>= _) _ _ _
  | (refine wpAny_bind ?_; show wpAny _ _ (newExc (.type "StopIteration") [] >>= _) _ _ _)
  | (refine wpAny_bind ?_; wp_delta; show wpAny _ _ (newExc (.type "StopIteration") [] >>= _) _ _ _)
  refine wpAny_bind ?_
  simp only [newExc, newTuple]
  refine wpAny_bind (wpAny_newObj_type ?_ (by size_fits))
  refine wpAny_bind (m := firstArgMember _ _) (wpAny_of_eq (a := Value.none) (by first | rfl | (simp only [firstArgMember]; rfl)) ?_)
  refine wpAny_newObj_type ?_ (by size_fits)
  simp only [raiseNew]
  refine wpAny_bind (wpAny_handled ?_)
  first | rw [show A.in1.handled = none from hh] | rw [hh]
  refine wpAny_bind (wpAny_pure (wpAny_throw ?_))
  refine wpAny_bind (wpAny_isInstance (T := "StopIteration") (b := true) ⟨_, Heap.get?_push_size _ rfl, rfl⟩ isSubtype_stop ?_)
  refine wpAny_pure (hQ _ ?_)
  refine ((?_ : Heap.ExtBut it s.heap _).push _).push _
  exact fun b ob hb e => (Heap.get?_update_other _ _ (Ne.symm hb)).trans ((Heap.get?_update_other _ _ (Ne.symm hb)).trans e)
theorem iter_rs {it : Addr} {x : Str} {i : Int} {Q : Value → Shared → Prop} (hit : IsRs s.heap it x i) (h : Q (.ref it) s) : wpAny (model prog w) A (pyIter (.ref it)) Q E s := by
  refine wpAny_pyIter_slot hit.typeIs slot_rt_iter (wpAny_call_entry slot_rt_iter hit.typeIs entry_rt_iter ?_ (args_rt_iter _))
  show wpAny _ _ (ret (.ref it)) _ _ s
  exact wpAny_pure ⟨_, rfl, "reversed", _, hit.typeIs, slot_rt_next.lookup, h⟩
end
end NP

namespace NP
open PySem PySem.Spec L2
open PyProof.Rows (IsTup tail_any Subscript_ slot_tuple_getitem)
/-- the signs from behind -/
def Itrs (x : Str) : It := ⟨fun i _ => i < x.length, fun i H v H' => H' = H ∧ ∃ c, x.cps[x.length - 1 - i]? = some c ∧ v = .str ⟨#[c]⟩, fun i _ => x.length ≤ i⟩
theorem turn_rs {P : Program} {w : World} {K : PySem.W.Frag} {tg : Expr} (x : Str) (hz : x.length ≤ sizeLine) (it : Addr) : Turn P w K tg (Itrs x) [it] it (fun i h => i ≤ x.length ∧ IsRs h it x ((x.length : Int) - 1 - (i : Nat))) where
  mem := by simp
  obj := fun i h st b hb => by
    have e : b = it := by simpa using hb
    subst e
    obtain ⟨_, o, t, e, c, d⟩ := st
    exact ⟨o, e, fun v z => by rw [d] at z; cases z⟩
  keep := fun i h h' st k => ⟨st.1, st.2.at fun o e => k it (by simp) o e⟩
  item := by
    intro X hP hw hK hc i pins s σ H E I hf st hg
    subst hP hw hK
    have hlt : i < x.length := hg
    obtain ⟨f0, f1, f2, f3, f4, f5⟩ := hf it (by simp)
    obtain ⟨_, hit⟩ := st
    have e1 : (x.length : Int) - 1 - ((i : Nat) : Int) = ((x.length - 1 - i : Nat) : Int) := by omega
    rw [e1] at hit
    have hlx : x.length - 1 - i < x.cps.size := by show x.length - 1 - i < x.length; omega
    obtain ⟨c, hx⟩ : ∃ c, x.cps[x.length - 1 - i]? = some c := ⟨_, Array.getElem?_eq_getElem hlx⟩
    refine next_rs_item hit hx hz fun h' tk t' st' sb => ?_
    have e2 : ((x.length - 1 - i : Nat) : Int) - 1 = (x.length : Int) - 1 - ((i + 1 : Nat) : Int) := by omega
    rw [e2] at st'
    have I1 : Inv X pins σ H { s with heap := h', toks := tk } := I.turned (t' := tk) (fun b o hb e => (sb.2 b hb).trans e) f0 f1 f3 f4 f5
    obtain ⟨o, t, e, cc, d⟩ := id st'
    exact ⟨_, rfl, go_of (s := { s with heap := h', toks := tk }) e cc d (by decide) ⟨.str ⟨#[c]⟩, H, I1, ⟨t', rfl⟩, ⟨rfl, _, hx, rfl⟩, ⟨hlt, st'⟩, fun b hb => (hf b hb).1⟩⟩
  done := by
    intro X hP hw hK hc i pins s σ H E I hf st hg
    subst hP hw hK
    obtain ⟨f0, f1, f2, f3, f4, f5⟩ := hf it (by simp)
    obtain ⟨hin, hit⟩ := st
    have hge : x.length ≤ i := hg
    have e1 : (x.length : Int) - 1 - ((i : Nat) : Int) = -1 := by omega
    rw [e1] at hit
    exact next_rs_end (I.ok.hd hc) hit fun h' eb => ⟨rfl, I.turned (t' := s.toks) (fun b o hb e => eb b o hb e) f0 f1 f3 f4 f5⟩
  self := fun A i s Q E st h => iter_rs st.2 h
def iRevS (te : TE) : TI := fun σ H R => te σ H fun v H1 => ∃ x : Str, v = .str x ∧ x.length ≤ sizeLine ∧ R (Itrs x) H1
section
variable {X : Cx} {tg e : Expr} {p pos p2 p3 : Pos} {te : TE}
theorem pi_revS (hg : Gl X "reversed") (hm : X.mg "reversed" = none) (he : PE X e te) (hs : starEach [e] X.env = (false, eval e X.env) :: starEach [] X.env := by rfl) : PI X tg (.Call (.Name "reversed" p) [e] [] pos) (iRevS te) := by
  refine ⟨fun pins s σ H R I h => ?_⟩
  refine PyProof.Rows.Call_ (ld_blt I hg hm PyProof.Rows.boot_reversed (PyProof.Rows.callWith_type1 (PyProof.Rows.args_cons (thn (he.run pins s σ H _ I h) fun u s1 ⟨v, H1, I1, r1, q1⟩ => PyProof.Rows.args_nil ?_) hs) hs rfl))
  obtain ⟨x, ev, hz, q⟩ := q1
  subst ev
  obtain ⟨t, rfl⟩ := r1
  have hn := line63
  have e1 : (x.length : Int) - 1 = (x.length : Int) - 1 - ((0 : Nat) : Int) := by simp
  refine call_reversed_str (fun A E Q k => PyProof.Rows.len_str (by omega) k) (iter_rs (x := x) (i := (x.length : Int) - 1) ⟨_, _, Heap.get?_push_size _ rfl, rfl, rfl⟩ ?_)
  refine pi_one (tk := s1.toks + 1 + 1) I1 _ (turn_rs x hz _) ⟨Nat.zero_le _, ?_⟩ q
  rw [← e1]
  exact ⟨_, _, Heap.get?_push_size _ rfl, rfl, rfl⟩
/-- t[::2], a tuple -/
def tEv (K : PySem.W.Frag) (te : TE) : TE := fun σ H Q => te σ H fun x H1 => ∃ a xs, x = .ref a ∧ SqT K H1 a xs ∧ ∀ p, H1 p = none → Q (.ref p) (upd H1 p (.tup (ev xs)))
theorem Vals.ev {xs : List V} {us : List Value} (r : Vals xs us) : Vals (NP.ev xs) (NP.ev us) := by
  unfold NP.ev
  rw [r.length]
  generalize List.range ((us.length + 1) / 2) = ks
  induction ks with
  | nil => exact .nil
  | cons k ks ih =>
    rw [List.filterMap_cons, List.filterMap_cons]
    cases e : xs[2 * k]? with
    | none => rw [r.none_of e]; exact ih
    | some x =>
      obtain ⟨u, e1, r1⟩ := r.get e
      rw [e1]
      exact .cons r1 ih
theorem pe_ev {k : Nat} (he : PE X e te) : PE X (.Subscript e (.Slice none none (some (.Constant (.int 2) k p2)) p3) pos) (tEv X.K te) := by
  refine ⟨fun pins s σ H Q I h => ?_⟩
  refine PyProof.Rows.Subscript_ (thn (he.run pins s σ H _ I h) fun v s1 ⟨x, H1, I1, r1, q1⟩ => ?_)
  obtain ⟨a, xs, ex, hx, q⟩ := q1
  subst ex
  cases r1
  have hst : PO X (some (.Constant (.int 2) k p2)) (tPart (tC (.int 2))) := po_some pe_int
  refine wpAny_Slice (thn (po_none.run pins s1 σ H1 (fun o H2 => o = none ∧ H2 = H1) I1 ⟨rfl, rfl⟩) fun vl s2 ⟨l, H2, I2, pl, el, e2⟩ => ?_)
  subst el e2
  refine thn (po_none.run pins s2 σ H2 (fun o H3 => o = none ∧ H3 = H2) I2 ⟨rfl, rfl⟩) fun vu s3 ⟨u, H3, I3, pu, eu, e3⟩ => ?_
  subst eu e3
  refine thn (hst.run pins s3 σ H3 (fun o H4 => o = some 2 ∧ H4 = H3) I3 ⟨2, rfl, rfl, rfl⟩) fun vs s4 ⟨o, H4, I4, ps, eo, e4⟩ => ?_
  subst eo e4
  cases pl
  cases pu
  cases ps with
  | int i t =>
  have I5 : Inv X pins σ H4 { s4 with heap := s4.heap.push { cls := .type "slice", data := .fields #[.none, .none, .int 2 t] } } := I4.kept (t' := s4.toks) fun b ob q => Heap.get?_push_of_some _ q
  obtain ⟨its, r, ht, hz⟩ := I5.tuple hx
  have hlen := r.length
  show wpAny (model X.prog X.w) X.A (PyProof.Rows.subscriptTail e (.Slice none none (some (.Constant (.int 2) k p2)) p3) (.ref a) (.ref s4.heap.objs.size)) (EP X pins σ Q) X.xe { s4 with heap := s4.heap.push { cls := .type "slice", data := .fields #[.none, .none, .int 2 t] } }
  refine PyProof.Rows.tail_any (ops := [.ref a, .ref s4.heap.objs.size]) ht.typeIs (PyProof.Rows.slot_tuple_getitem.lookup) ?_ (by with_unfolding_all rfl)
  refine getItem_tuple_two ht (Heap.IsSliceOf.new _ .none .none (.int 2 t)) ?_ (by rw [List.size_toArray]; omega)
  have hev : (ev xs).length ≤ xs.length := by
    unfold ev
    have := List.length_filterMap_le (fun k => xs[2 * k]?) (List.range ((xs.length + 1) / 2))
    rw [List.length_range] at this
    cases xs with
    | nil => simp
    | cons => simp at this ⊢; omega
  refine ⟨.ref _, _, I5.laid (t' := s4.toks) (o := .tup (ev xs)) (fun b ob q => Heap.get?_push_of_some _ q) (Nat.le_refl _) ?_, rfl, q _ (I5.hok.fresh (Nat.le_refl _))⟩
  exact ⟨by omega, _, Vals.ev r, ⟨_, Heap.get?_push_size _ rfl, rfl, _, rfl⟩⟩
end
end NP

namespace NP
open PySem PySem.Spec PyProof.Rows L2
/-! ### enumerate(tuple) -/
theorem sub_enumerate' : True := trivial
theorem meets_enumerate_new1 {v : Value} {o : Obj} {H : Heap → Prop} (B : Begins v o H) :
    Meets (Builtin.«enumerate.__new__» ⟨[.type "enumerate", v], []⟩) (fun _ R s => H s.heap ∧
      R (.ok (.ret (.ref (s.heap.push o).objs.size))) { s with heap := (s.heap.push o).push { cls := .type "enumerate", data := .fields #[.none, .bool false, .ref s.heap.objs.size, rawInt 0, .none, .none] } }) :=
  .of_wp fun prog w A R s h => by
    obtain ⟨hp, g, d, tk, os⟩ := s; obtain ⟨h1, h⟩ := h
    have hsub := sub_enumerate
    have q1 : ∀ {A' : Around} {E : Value → Shared → Prop} {Q : Value → Shared → Prop}, Q (.ref hp.objs.size) ⟨hp.push o, g, d, tk, os⟩ → wpAny (model prog w) A' (pyIter v) Q E ⟨hp, g, d, tk, os⟩ :=
      fun q => B.iter prog w _ _ ⟨hp, g, d, tk, os⟩ _ h1 q
    wp_walk using q1
    refine wpAny_stack_any fun st => wpAny_pure ?_
    split
    · rename_i c _ _ _ _ _
      cases (c == Value.type "enumerate")
      · wp_walk using q1
        exact ⟨_, rfl, h⟩
      · wp_walk using q1
        exact ⟨_, rfl, h⟩
    · wp_walk using q1
      exact ⟨_, rfl, h⟩
section
variable {prog : Program} {w : World} {A : Around} {E : Value → Shared → Prop} {s : Shared}
theorem enum_begins1 {v : Value} {o : Obj} {H : Heap → Prop} {Q : Value → Shared → Prop} (B : Begins v o H) (h1 : H s.heap)
    (h : ∀ h', IsEnum h' (s.heap.objs.size + 1) s.heap.objs.size 0 .none → h'.get? s.heap.objs.size = some o → h'.objs.size = s.heap.objs.size + 2 →
      (∀ b o, s.heap.get? b = some o → h'.get? b = some o) → Q (.ref (s.heap.objs.size + 1)) { s with heap := h' }) :
    wpAny (model prog w) A (call (.type "enumerate") [v]) Q E s := by
  refine callType_new F.called_enumerate (by decide) (F.typeCall_enumerate_1 _) (F.newCall_enumerate_1 _) (fun obj => F.args_object_init_2 obj _) F.entry_enumerate_new
    (meets_enumerate_new1 B) ⟨h1, ?_⟩
  have hz : (s.heap.push o).objs.size = s.heap.objs.size + 1 := Heap.size_push ..
  show _ ∧ _
  rw [hz]
  have he : IsEnum ((s.heap.push o).push { cls := .type "enumerate", data := .fields #[.none, .bool false, .ref s.heap.objs.size, rawInt 0, .none, .none] }) (s.heap.objs.size + 1) s.heap.objs.size 0 .none := by
    have := Heap.get?_push_size (s.heap.push o) (o := { cls := .type "enumerate", data := .fields #[.none, .bool false, .ref s.heap.objs.size, rawInt 0, .none, .none] }) rfl
    rw [hz] at this; exact this
  refine ⟨⟨_, he, rfl⟩, h _ he (Heap.get?_push_of_some _ (Heap.get?_push_size _ B.free)) (by rw [Heap.size_push, hz]) fun b o x => Heap.get?_push_of_some _ (Heap.get?_push_of_some _ x)⟩
end
def IteT (K : PySem.W.Frag) (a : Addr) : It :=
  ⟨fun i H => ∃ (xs : List V) (x : V), SqT K H a xs ∧ xs[i]? = some x, fun i H v H' => ∃ T x, v = .ref T ∧ H T = none ∧ H' = upd H T (.tup [.int (i : Nat), x]) ∧ ∀ xs, SqT K H a xs → xs[i]? = some x, fun i H => ∃ xs : List V, SqT K H a xs ∧ xs.length = i⟩
theorem turn_enumT {P : Program} {w : World} {K : PySem.W.Frag} {elts : List Expr} {kk : Nat} {tpos : Pos} (a e it : Addr) (hai : a ≠ it) (hea : e ≠ a) :
    Turn P w K (.Tuple elts kk tpos) (IteT K a) [e, it] e (fun i h => (∃ old, IsEnum h e it ((i : Nat) : Int) old) ∧ h.IsTupleIter it a i ∧ e ≠ it) where
  mem := by simp
  obj := fun i h st b hb => by
    obtain ⟨⟨old, he⟩, ⟨o, ho, hc, hd⟩, _⟩ := st
    have e' : b = e ∨ b = it := by simpa using hb
    rcases e' with z | z
    · rw [z]; exact ⟨_, he, fun v q => nomatch q⟩
    · rw [z]; exact ⟨o, ho, fun v q => by rw [hd] at q; cases q⟩
  keep := fun i h h' st k => let ⟨⟨old, he⟩, hi, hne⟩ := st; ⟨⟨old, k e (by simp) _ he⟩, hi.at fun o q => k it (by simp) o q, hne⟩
  item := by
    intro X hP hw hK hc i pins s σ H E I hf st hg
    subst hP hw hK
    obtain ⟨⟨old, he⟩, hit, hne⟩ := st
    obtain ⟨xs, x, hq, hx⟩ := hg
    obtain ⟨its, rv, p, hz⟩ := I.tuple hq
    obtain ⟨u, hu, ru⟩ := rv.get hx
    have hel : e < s.heap.objs.size := Heap.lt_size he
    have hil : it < s.heap.objs.size := by obtain ⟨_, q, _⟩ := hit; exact Heap.lt_size q
    have hi : i < its.toArray.size := by simpa using (List.getElem?_eq_some_iff.mp hu).1
    refine wpAny_pyNext_enum_itemD (Draws.tuple (A := X.A.in1) (I.ok.hd hc) it a hai its.toArray) he ⟨hit, p⟩ hi hne (by simp [hne, hea]) fun u' h' tk hP ho hst hT hsz hk => ?_
    have eu : u' = u := by
      have h1 : its[i]? = some u' := by simpa using hP
      rw [hu] at h1; exact (Option.some.inj h1).symm
    subst eu
    refine ⟨_, rfl, wpAny_letOwnedTupleGo_enum (s := { s with heap := h', toks := tk + 1 }) ho fun h'' he' sb => ?_⟩
    have hT2 : h''.get? s.heap.objs.size = some { cls := .type "tuple", data := .seq #[.int i tk, u'] } := (sb.2 _ (Nat.ne_of_gt hel)).trans hT
    have new : ObjOk X.prog X.w (upd H s.heap.objs.size (.tup [.int (i : Nat), x])) h'' s.heap.objs.size (.tup [.int (i : Nat), x]) :=
      ⟨by show 2 ≤ sizeLine; decide, [.int i tk, u'], .cons ⟨_, rfl⟩ (.cons ru .nil), ⟨_, hT2, rfl, _, rfl⟩⟩
    have I1 : Inv X pins σ (upd H s.heap.objs.size (.tup [.int (i : Nat), x])) { s with heap := h'', toks := tk + 1 } :=
      I.turnedNew (t' := tk + 1) (ch := [e, it]) (fun b ob hb q => (sb.2 b (fun z => hb (by simp [z]))).trans (hk b ob (fun z => hb (by simp [z])) (fun z => hb (by simp [z])) q)) hf (Nat.le_refl _) new
    refine ⟨.ref s.heap.objs.size, _, I1, rfl, ⟨_, x, rfl, I.hok.fresh (Nat.le_refl _), rfl, fun ys hy => by rw [I.tuple_inj hy hq]; exact hx⟩, ⟨⟨u', ?_⟩, hst.1.at fun o q => (sb.2 it (Ne.symm hne)).trans q, hne⟩, fun b hb => ?_⟩
    · have e1 : ((i + 1 : Nat) : Int) = (i : Int) + 1 := by omega
      rw [e1]; exact he'
    · have hb' : b < s.heap.objs.size := by
        have e' : b = e ∨ b = it := by simpa using hb
        rcases e' with z | z
        · rw [z]; exact hel
        · rw [z]; exact hil
      rw [upd_ne (Nat.ne_of_lt hb')]
      exact (hf b hb).1
  done := by
    intro X hP hw hK hc i pins s σ H E I hf st hg
    subst hP hw hK
    obtain ⟨⟨old, he⟩, hit, hne⟩ := st
    obtain ⟨xs, hq, hx⟩ := hg
    obtain ⟨its, rv, p, hz⟩ := I.tuple hq
    obtain ⟨f0, f1, f2, f3, f4, f5⟩ := hf it (by simp)
    have hl := rv.length
    have hsz : its.toArray.size = i := by simp; omega
    have D := Draws.tuple (prog := X.prog) (w := X.w) (A := X.A.in1) (I.ok.hd hc) it a hai its.toArray
    rw [hsz] at D
    exact wpAny_pyNext_enum_endD D he ⟨hit, p⟩ fun h' eb => ⟨rfl, I.turned (t' := s.toks) (fun b o hb q => eb b o hb q) f0 f1 f3 f4 f5⟩
  self := fun A i s Q E st h => let ⟨⟨_, he⟩, _⟩ := st; wpAny_pyIter_enum he h
def iEnumT (K : PySem.W.Frag) (ta : TA) : TI := fun σ H R => ta σ H fun vs H1 => ∃ a xs, vs = [.ref a] ∧ SqT K H1 a xs ∧ R (IteT K a) H1
theorem pi_enumT {X : Cx} {e : Expr} {ta : TA} {p pos tpos : Pos} {elts : List Expr} {kk : Nat} (hg : Gl X "enumerate") (hm : X.mg "enumerate" = none) (ha : PA X [e] ta) (hs : starEach [e] X.env = [(false, eval e X.env)] := by rfl) :
    PI X (.Tuple elts kk tpos) (.Call (.Name "enumerate" p) [e] [] pos) (iEnumT X.K ta) := by
  refine ⟨fun pins s σ H R I h => ?_⟩
  refine Call_ (ld_blt I hg hm boot_enumerate (PyProof.Rows.callWith_type1 (thn (ha.run pos pins s σ H _ I h) fun us s1 ⟨vs, H1, I1, r1, q1⟩ => ?_) hs rfl))
  obtain ⟨a, xs, ex, hq, q⟩ := q1
  subst ex
  cases r1 with
  | cons r rr =>
    cases rr
    cases r
    obtain ⟨its, rv, p', hz⟩ := I1.tuple hq
    obtain ⟨oa, eoa, _⟩ := id p'
    have hal := Heap.lt_size eoa
    refine enum_begins1 (begins_tuple a its.toArray) p' fun h' he hit hsz hk => wpAny_pyIter_enum he ?_
    have I2 : Inv X pins σ H1 { s1 with heap := h' } := I1.kept (t' := s1.toks) hk
    refine ⟨s1.heap.objs.size + 1, [s1.heap.objs.size + 1, s1.heap.objs.size], _, _, H1, rfl, I2, turn_enumT a (s1.heap.objs.size + 1) s1.heap.objs.size (Nat.ne_of_lt hal) (Nat.ne_of_gt (Nat.lt_succ_of_lt hal)), ⟨⟨.none, he⟩, ⟨_, hit, rfl, rfl⟩, Nat.succ_ne_self _⟩, fun b hb => ?_, q⟩
    have e' : b = s1.heap.objs.size + 1 ∨ b = s1.heap.objs.size := by simpa using hb
    have hle : s1.heap.objs.size ≤ b := by
      rcases e' with z | z
      · rw [z]; exact Nat.le_add_right _ _
      · rw [z]; exact Nat.le_refl _
    exact I1.fpOk hle (I1.hok.fresh hle)

/-! ### zip(tuple, list) -/
def ItzM (K : PySem.W.Frag) (a b : Addr) : It :=
  ⟨fun i H => ∃ (xs ys : List V) (x y : V), SqT K H a xs ∧ SqL K H b ys ∧ xs[i]? = some x ∧ ys[i]? = some y,
    fun i H v H' => ∃ T x y, v = .ref T ∧ H T = none ∧ H' = upd H T (.tup [x, y]) ∧ (∀ xs, SqT K H a xs → xs[i]? = some x) ∧ ∀ ys, SqL K H b ys → ys[i]? = some y,
    fun i H => ∃ xs ys : List V, SqT K H a xs ∧ SqL K H b ys ∧ i ≤ xs.length ∧ i ≤ ys.length ∧ (i = xs.length ∨ i = ys.length)⟩
theorem turn_zipM {P : Program} {w : World} {K : PySem.W.Frag} {elts : List Expr} {kk : Nat} {tpos : Pos} {a b z TI TO i1 i2 : Addr} (D : ZipSep2 z TI TO i1 i2 [i1, a] [i2, b]) :
    Turn P w K (.Tuple elts kk tpos) (ItzM K a b) [z, TI, TO, i1, i2] z (fun i h => IsZip h z TI TO .none ∧ IsTupOf2 h TI (.ref i1) (.ref i2) ∧ (∃ x y, IsTupOf2 h TO x y) ∧ h.IsTupleIter i1 a i ∧ h.IsListIter i2 b i) where
  mem := by simp
  obj := fun i h st c hc => by
    obtain ⟨hz, hTI, ⟨x, y, hTO⟩, ⟨o1, e1, _, d1⟩, ⟨o2, e2, _, d2⟩⟩ := st
    have e' : c = z ∨ c = TI ∨ c = TO ∨ c = i1 ∨ c = i2 := by simpa using hc
    rcases e' with q | q | q | q | q
    · rw [q]; exact ⟨_, hz, fun v q => nomatch q⟩
    · rw [q]; exact ⟨_, hTI, fun v q => nomatch q⟩
    · rw [q]; exact ⟨_, hTO, fun v q => nomatch q⟩
    · rw [q]; exact ⟨o1, e1, fun v q => by rw [d1] at q; cases q⟩
    · rw [q]; exact ⟨o2, e2, fun v q => by rw [d2] at q; cases q⟩
  keep := fun i h h' st k => by
    obtain ⟨hz, hTI, ⟨x, y, hTO⟩, h1, h2⟩ := st
    exact ⟨k z (by simp) _ hz, k TI (by simp) _ hTI, ⟨x, y, k TO (by simp) _ hTO⟩, h1.at fun o q => k i1 (by simp) o q, h2.at fun o q => k i2 (by simp) o q⟩
  item := by
    intro X hP hw hK hc i pins s σ H E I hf st hg
    subst hP hw hK
    obtain ⟨hz, hTI, ⟨x0, y0, hTO⟩, h1, h2⟩ := st
    obtain ⟨xs, ys, x, y, hqx, hqy, hx, hy⟩ := hg
    obtain ⟨its, rv, p, _⟩ := I.tuple hqx
    obtain ⟨its2, rv2, p2, _⟩ := I.list hqy
    obtain ⟨u, hu, ru⟩ := rv.get hx
    obtain ⟨u2, hu2, ru2⟩ := rv2.get hy
    have hzl : z < s.heap.objs.size := Heap.lt_size hz
    have n1 : a ≠ i1 := fun e => by
      obtain ⟨o1, e1, c1, _⟩ := h1
      obtain ⟨o2, e2, c2, _⟩ := p
      rw [e, e1] at e2; cases e2; rw [c1] at c2; injection c2 with c3; exact absurd c3 (by decide)
    have n2 : b ≠ i2 := fun e => by
      obtain ⟨o1, e1, c1, _⟩ := h2
      obtain ⟨o2, e2, c2, _⟩ := p2.isList
      rw [e, e1] at e2; cases e2; rw [c1] at c2; injection c2 with c3; exact absurd c3 (by decide)
    have l1 : i < its.toArray.size := by simpa using (List.getElem?_eq_some_iff.mp hu).1
    have l2 : i < its2.toArray.size := by simpa using (List.getElem?_eq_some_iff.mp hu2).1
    refine wpAny_pyNext_zipD2_item D (Draws.tuple (A := X.A.in1) (I.ok.hd hc) i1 a n1 its.toArray) (Draws.list (A := X.A.in1) (I.ok.hd hc) i2 b n2 its2.toArray) hz hTI hTO ⟨h1, p⟩ ⟨h2, p2.isList⟩ l1 l2 fun x1 x2 h' tk hP1 hP2 z' TO' st1 st2 hT hsz hk => ?_
    have eu : x1 = u := by
      have h1 : its[i]? = some x1 := by simpa using hP1
      rw [hu] at h1; exact (Option.some.inj h1).symm
    have eu2 : x2 = u2 := by
      have h1 : its2[i]? = some x2 := by simpa using hP2
      rw [hu2] at h1; exact (Option.some.inj h1).symm
    subst eu eu2
    refine ⟨_, rfl, wpAny_letOwnedTupleGo_zip (s := { s with heap := h', toks := tk }) z' fun h'' z'' sb => ?_⟩
    have hT2 : h''.get? s.heap.objs.size = some { cls := .type "tuple", data := .seq #[x1, x2] } := (sb.2 _ (Nat.ne_of_gt hzl)).trans hT
    have new : ObjOk X.prog X.w (upd H s.heap.objs.size (.tup [x, y])) h'' s.heap.objs.size (.tup [x, y]) :=
      ⟨by show 2 ≤ sizeLine; decide, [x1, x2], .cons ru (.cons ru2 .nil), ⟨_, hT2, rfl, _, rfl⟩⟩
    have I1 : Inv X pins σ (upd H s.heap.objs.size (.tup [x, y])) { s with heap := h'', toks := tk } :=
      I.turnedNew (t' := tk) (ch := [z, TI, TO, i1, i2]) (fun c o hb q => (sb.2 c (fun q' => hb (by simp [q']))).trans (hk c o (fun q' => hb (by simp [q'])) (fun q' => hb (by simp [q'])) (fun q' => hb (by simp [q'])) (fun q' => hb (by simp [q'])) q)) hf (Nat.le_refl _) new
    refine ⟨.ref s.heap.objs.size, _, I1, rfl, ⟨_, x, y, rfl, I.hok.fresh (Nat.le_refl _), rfl, fun l hl => by rw [I.tuple_inj hl hqx]; exact hx, fun l hl => by rw [I.list_inj hl hqy]; exact hy⟩, ⟨z'', ?_, ⟨x1, x2, ?_⟩, ?_, ?_⟩, fun c hcm => ?_⟩
    · exact (sb.2 _ D.TIz).trans (hk _ _ D.TIz D.TITO D.TIi1 D.TIi2 hTI)
    · exact (sb.2 _ D.TOz).trans TO'
    · exact st1.1.at fun o q => (sb.2 _ (Ne.symm D.zi1)).trans q
    · exact st2.1.at fun o q => (sb.2 _ (Ne.symm D.zi2)).trans q
    · have hlt : c < s.heap.objs.size := by
        have e' : c = z ∨ c = TI ∨ c = TO ∨ c = i1 ∨ c = i2 := by simpa using hcm
        rcases e' with q | q | q | q | q
        · rw [q]; exact hzl
        · rw [q]; exact Heap.lt_size hTI
        · rw [q]; exact Heap.lt_size hTO
        · rw [q]; obtain ⟨_, e1, _⟩ := h1; exact Heap.lt_size e1
        · rw [q]; obtain ⟨_, e2, _⟩ := h2; exact Heap.lt_size e2
      rw [upd_ne (Nat.ne_of_lt hlt)]
      exact (hf c hcm).1
  done := by
    intro X hP hw hK hc i pins s σ H E I hf st hg
    subst hP hw hK
    obtain ⟨hz, hTI, ⟨x0, y0, hTO⟩, h1, h2⟩ := st
    obtain ⟨xs, ys, hqx, hqy, g1, g2, hend⟩ := hg
    obtain ⟨its, rv, p, _⟩ := I.tuple hqx
    obtain ⟨its2, rv2, p2, _⟩ := I.list hqy
    have n1 : a ≠ i1 := fun e => by
      obtain ⟨o1, e1, c1, _⟩ := h1
      obtain ⟨o2, e2, c2, _⟩ := p
      rw [e, e1] at e2; cases e2; rw [c1] at c2; injection c2 with c3; exact absurd c3 (by decide)
    have n2 : b ≠ i2 := fun e => by
      obtain ⟨o1, e1, c1, _⟩ := h2
      obtain ⟨o2, e2, c2, _⟩ := p2.isList
      rw [e, e1] at e2; cases e2; rw [c1] at c2; injection c2 with c3; exact absurd c3 (by decide)
    have l1 := rv.length
    have l2 := rv2.length
    have s1 : its.toArray.size = xs.length := by simp [l1]
    have s2 : its2.toArray.size = ys.length := by simp [l2]
    exact wpAny_pyNext_zipD2_end D (Draws.tuple (A := X.A.in1) (I.ok.hd hc) i1 a n1 its.toArray) (Draws.list (A := X.A.in1) (I.ok.hd hc) i2 b n2 its2.toArray) hz hTI hTO ⟨h1, p⟩ ⟨h2, p2.isList⟩ (by omega) (by omega) (by omega) fun h' tk hk => ⟨rfl, I.turnedL (t' := tk) (ch := [z, TI, TO, i1, i2]) (fun c o hb q =>
      hk c o (fun q' => hb (by simp [q'])) (fun q' => hb (by simp [q'])) (fun q' => hb (by simp [q'])) (fun q' => hb (by simp [q'])) q) hf⟩
  self := fun A i s Q E st h => wpAny_pyIter_zip st.1 h
def iZipM (K : PySem.W.Frag) (ta : TA) : TI := fun σ H R => ta σ H fun vs H1 => ∃ a b xs ys, vs = [.ref a, .ref b] ∧ SqT K H1 a xs ∧ SqL K H1 b ys ∧ R (ItzM K a b) H1
theorem pi_zipM {X : Cx} {e e2 : Expr} {ta : TA} {p pos tpos : Pos} {elts : List Expr} {kk : Nat} (hg : Gl X "zip") (hm : X.mg "zip" = none) (ha : PA X [e, e2] ta)
    (hs : starEach [e, e2] X.env = (false, eval e X.env) :: starEach [e2] X.env := by rfl) (hpl : (backTo pos (starEach [e2] X.env)).any (·.1) = false := by rfl) :
    PI X (.Tuple elts kk tpos) (.Call (.Name "zip" p) [e, e2] [] pos) (iZipM X.K ta) := by
  refine ⟨fun pins s σ H R I h => ?_⟩
  refine Call_ (ld_blt I hg hm PyProof.Rows.boot_zip (PyProof.Rows.callWith_type1 (thn (ha.run pos pins s σ H _ I h) fun us s1 ⟨vs, H1, I1, r1, q1⟩ => ?_) hs hpl))
  obtain ⟨a, b, xs, ys, ex, hqx, hqy, q⟩ := q1
  subst ex
  cases r1 with
  | cons r rr =>
    cases rr with
    | cons r' rr =>
      cases rr
      cases r
      cases r'
      have fresh5 : ∀ c, c ∈ [s1.heap.objs.size + 4, s1.heap.objs.size + 2, s1.heap.objs.size + 3, s1.heap.objs.size, s1.heap.objs.size + 1] → FpOk X pins H1 c := fun c hcm => by
        have e' : c = s1.heap.objs.size + 4 ∨ c = s1.heap.objs.size + 2 ∨ c = s1.heap.objs.size + 3 ∨ c = s1.heap.objs.size ∨ c = s1.heap.objs.size + 1 := by simpa using hcm
        have hle : s1.heap.objs.size ≤ c := by
          rcases e' with z | z | z | z | z
          · rw [z]; exact Nat.le_add_right _ _
          · rw [z]; exact Nat.le_add_right _ _
          · rw [z]; exact Nat.le_add_right _ _
          · rw [z]; exact Nat.le_refl _
          · rw [z]; exact Nat.le_add_right _ _
        exact I1.fpOk hle (I1.hok.fresh hle)
      obtain ⟨its, rv, p1, _⟩ := I1.tuple hqx
      obtain ⟨its2, rv2, p2, _⟩ := I1.list hqy
      obtain ⟨o1, ho1, _⟩ := id p1
      refine zip_begins2 (begins_tuple a its.toArray) (begins_list b its2.toArray) p1 p2.isList fun h' hz hTI hTO h1 h2 hsz hk => wpAny_pyIter_zip hz ?_
      have I2 : Inv X pins σ H1 { s1 with heap := h' } := I1.kept (t' := s1.toks) hk
      exact ⟨s1.heap.objs.size + 4, [s1.heap.objs.size + 4, s1.heap.objs.size + 2, s1.heap.objs.size + 3, s1.heap.objs.size, s1.heap.objs.size + 1], _, _, H1, rfl, I2, turn_zipM (zip_sep2 (fp1 := [a]) (fp2 := [b]) (fun c hc => by rw [List.mem_singleton.mp hc]; exact Heap.lt_size ho1) (fun c hc => by rw [List.mem_singleton.mp hc]; exact p2.lt)), ⟨hz, hTI, ⟨_, _, hTO⟩, ⟨_, h1, rfl, rfl⟩, ⟨_, h2, rfl, rfl⟩⟩, fresh5, q⟩
end NP

namespace NP
open PySem PySem.Spec L2

theorem plain_dt {M : Ms} {H : Hp} {d : PyData} {v : V} (h : plain d = some v) : Dt M H v d := by
  cases d <;> simp [plain] at h <;> subst h <;> constructor
section
variable {W : Wd} {X : Cx} {e a b o k tg iter : Expr} {es : List Expr} {ds : List Ds} {H : Hp} {pos p apos pos' : Pos} {A B C : Ds → Prop} {D : Ends} {rest body els : List Stmt}
/-- an expression whose value is an object x that stays as it is while expressions are evaluated -/
def EOb (W : Wd) (X : Cx) (e : Expr) (ds : List Ds) (H : Hp) (x : HO) : Prop :=
  ∀ σ H1, W.R H H1 → Ok W H1 σ ds → ∀ Q : VK, (∀ a H2, W.R H1 H2 → H2 a = some x → ¬ W.F a → Q (.ref a) H2) → tw X e σ H1 Q
/-- .. at l -/
def EAt (W : Wd) (X : Cx) (e : Expr) (ds : List Ds) (H : Hp) (l : Addr) : Prop :=
  ∀ σ H1, W.R H H1 → Ok W H1 σ ds → ∀ Q : VK, (∀ H2, W.R H1 H2 → Q (.ref l) H2) → tw X e σ H1 Q
theorem EE.at {l : Addr} (h : EE W X e ds H (Is (.r (.ref l)))) : EAt W X e ds H l := fun σ H1 r ok Q q => h σ H1 r ok Q fun v H2 x r2 ex hv => by
  cases ex; cases hv; exact q H2 r2
theorem EE.ob {x : HO} (h : EE W X e ds H (Is (.o x))) : EOb W X e ds H x := fun σ H1 r ok Q q => h σ H1 r ok Q fun v H2 y r2 ex hv => by
  cases ex
  obtain ⟨a, rfl, m, e⟩ := hv
  exact q a H2 r2 e fun f => m (W.sub a f)
theorem EAt.ob {x : HO} {l : Addr} (h : EAt W X e ds H l) (hl : H l = some x) (nF : ¬ W.F l) : EOb W X e ds H x := fun σ H1 r ok Q q => h σ H1 r ok Q fun H2 r2 => q l H2 r2 (W.keep (W.trans r r2) l _ nF hl) nF
/-! ### dicts read -/
theorem e_dgetK {kvs : List (Key × V)} {z : Str} {d : PyData} {v : V} (hu : X.A.units + 1 < cLine) (ho : EOb W X o ds H (.dK kvs)) (hk : EE W X k ds H (Is (.d (.str z)))) (hv : valV kvs (Sum.inr z) = some v) (hp : plain d = some v) (hs : NoSl k := by intro _ _; rfl) :
    EE W X (.Subscript o k pos) ds H (Is (.d d)) := fun σ H1 r ok Q q =>
  tw_of (pe_dget hu tw_pe tw_pe hs) (ho σ H1 r ok _ fun a H2 r2 ha nF => hk σ H2 (W.trans r r2) (ok.mono r2) _ fun u H3 x r3 ex hx => by
    cases ex; cases hx
    refine ⟨a, v, rfl, ?_, q v H3 _ (W.trans r2 r3) rfl (plain_dt hp)⟩
    have := DGet.k (k := Sum.inr z) (W.keep r3 a _ nF ha)
    rw [hv] at this
    exact this)
theorem e_dgetT {kvs : List (List Key × V)} {x y : Str} {d : PyData} {v : V} (hu : X.A.units + 1 < cLine) (ho : EOb W X o ds H (.dT kvs)) (hk : EE W X k ds H (Is (.d (.tuple [.str x, .str y])))) (hv : valV kvs [Sum.inr x, Sum.inr y] = some v) (hp : plain d = some v) (hs : NoSl k := by intro _ _; rfl) :
    EE W X (.Subscript o k pos) ds H (Is (.d d)) := fun σ H1 r ok Q q =>
  tw_of (pe_dget hu tw_pe tw_pe hs) (ho σ H1 r ok _ fun a H2 r2 ha nF => hk σ H2 (W.trans r r2) (ok.mono r2) _ fun u H3 x' r3 ex hx => by
    cases ex
    cases hx with
    | tup m h dd =>
    cases dd with
    | cons d1 dd =>
    cases dd with
    | cons d2 dd =>
    cases dd; cases d1; cases d2
    refine ⟨a, v, rfl, ?_, q v H3 _ (W.trans r2 r3) rfl (plain_dt hp)⟩
    have := DGet.t (k := [Sum.inr x, Sum.inr y]) (W.keep r3 a _ nF ha) h
    rw [hv] at this
    exact this)
theorem e_get2T {kvs : List (List Key × V)} {x y : Str} {i j : Int} {f : Expr} (hu : X.A.units + 1 < cLine) (ho : EOb W X o ds H (.dT kvs)) (hk : EE W X k ds H (Is (.d (.tuple [.str x, .str y])))) (hf : EE W X f ds H (Is (.d (.int j)))) (hv : (valV kvs [Sum.inr x, Sum.inr y]).getD (.int j) = .int i)
    (m : M2 X o "get" apos k f pos := by exact ⟨rfl, rfl, rfl, rfl⟩) : EE W X (.Call (.Attribute o "get" apos) [k, f] [] pos) ds H (Is (.d (.int i))) := fun σ H1 r ok Q q =>
  tw_of (pe_dget2 hu tw_pe tw_pe tw_pe m) (ho σ H1 r ok _ fun a H2 r2 ha nF => ⟨a, rfl, .inr ⟨kvs, .inl ha⟩, hk σ H2 (W.trans r r2) (ok.mono r2) _ fun u H3 x' r3 ex hx => by
    cases ex
    refine hf σ H3 (W.trans (W.trans r r2) r3) ((ok.mono r2).mono r3) _ fun u' H4 y' r4 ey hy => ?_
    cases ey; cases hy
    have hx' : Val W.M H4 u (.d (.tuple [.str x, .str y])) := Val.mono (x := .d _) hx r4
    cases hx' with
    | tup m h dd =>
    cases dd with
    | cons d1 dd =>
    cases dd with
    | cons d2 dd =>
    cases dd; cases d1; cases d2
    refine ⟨_, DGet.t (k := [Sum.inr x, Sum.inr y]) (W.keep r4 a _ nF (W.keep r3 a _ nF ha)) h, ?_⟩
    rw [hv]
    exact q _ H4 _ (W.trans (W.trans r2 r3) r4) rfl (.int i)⟩)
theorem et_inK {kvs : List (Key × V)} {z : Str} (hu : X.A.units + 1 < cLine) (ho : EOb W X o ds H (.dK kvs)) (hk : EE W X k ds H (Is (.d (.str z)))) (hm : behindInMarks .In o = false := by rfl) : ET W X (.Compare k [.In] [o] pos) ds H (Is (valV kvs (Sum.inr z)).isSome) := fun σ H1 r ok Q q =>
  twt_of (pt_cmp (pc_din hu tw_pe tw_pe) hm) (hk σ H1 r ok _ fun u H2 x r2 ex hx => by
    cases ex; cases hx
    exact ho σ H2 (W.trans r r2) (ok.mono r2) _ fun a H3 r3 ha nF => ⟨a, _, rfl, DGet.k (k := Sum.inr z) ha, _, rfl, q _ H3 (W.trans r2 r3) rfl⟩)
theorem et_notinK {kvs : List (Key × V)} {z : Str} (hu : X.A.units + 1 < cLine) (ho : EOb W X o ds H (.dK kvs)) (hk : EE W X k ds H (Is (.d (.str z)))) (hm : behindInMarks .NotIn o = false := by rfl) : ET W X (.Compare k [.NotIn] [o] pos) ds H (Is (!(valV kvs (Sum.inr z)).isSome)) := fun σ H1 r ok Q q =>
  twt_of (pt_cmp (pc_dnotin hu tw_pe tw_pe) hm) (hk σ H1 r ok _ fun u H2 x r2 ex hx => by
    cases ex; cases hx
    exact ho σ H2 (W.trans r r2) (ok.mono r2) _ fun a H3 r3 ha nF => ⟨a, _, rfl, DGet.k (k := Sum.inr z) ha, _, rfl, q _ H3 (W.trans r2 r3) rfl⟩)
/-! ### is None -/
theorem et_notNone {d : PyData} {v : V} {j : Nat} {p' : Pos} (ha : EE W X a ds H (Is (.d d))) (hp : plain d = some v) : ET W X (.Compare a [.IsNot] [.Constant .none j p'] pos) ds H (Is (!decide (v = .non))) := fun σ H1 r ok Q q =>
  twt_of (pt_cmp (pc_notN tw_pe) (by rfl)) (ha σ H1 r ok _ fun u H2 x r2 ex hx => by
    cases ex; cases plain_val hx hp
    exact ⟨_, rfl, q _ H2 r2 rfl⟩)
theorem et_notNoneT {xs : List PyData} {j : Nat} {p' : Pos} (ha : EE W X a ds H (Is (.d (.tuple xs)))) : ET W X (.Compare a [.IsNot] [.Constant .none j p'] pos) ds H (Is true) := fun σ H1 r ok Q q =>
  twt_of (pt_cmp (pc_notN tw_pe) (by rfl)) (ha σ H1 r ok _ fun u H2 x r2 ex hx => by
    cases ex
    cases hx with
    | tup m h dd => exact ⟨_, rfl, q _ H2 r2 rfl⟩)

/-! ### objects changed -/
/-- what a change at l leaves -/
structure Stp (W : Wd) (l : Addr) (H H' : Hp) : Prop where
  r : ∀ H0, H0 l = none → W.R H0 H → W.R H0 H'
  k : ∀ a u, a ≠ l → ¬ W.F a → H a = some u → H' a = some u
theorem Stp.of {l : Addr} {H H1 : Hp} {u : HO} (r : W.R H H1) (n : ∀ xs, u ≠ .tup xs) : Stp W l H (upd H1 l u) :=
  ⟨fun H0 h0 r0 => W.chg (W.trans r0 r) h0 (fun a o n e => by rw [upd_ne n]; exact e) (by rw [upd_same]; exact ⟨u, rfl, n⟩), fun a o n f e => by rw [upd_ne n]; exact W.keep r a o f e⟩
/-- a new object under a name -/
theorem ss_new {i : Nat} {x : Str} {u : HO} (hn : ∀ xs, u ≠ .tup xs) (he : ∀ σ H1, W.R H H1 → Ok W H1 σ ds → ∀ Q : VK, (∀ p H2, W.R H1 H2 → H2 p = none → Q (.ref p) (upd H2 p u)) → tw X e σ H1 Q)
    (k : ∀ p H1, W.R H H1 → H1 p = none → SS (W.add p) X rest D (ds.set i (.r (.ref p))) (upd H1 p u)) (hN : X.N.Nodup) (hi : X.N[i]? = some x := by rfl) (hx : Loc X.env.scope x := by first | exact Or.inl rfl | exact Or.inr rfl)
    (hs : swapsWith e (some (.Name x pos')) pos.line X.env = pure false := by rfl) (hf : X.fn x = true ∨ X.env.scope.names.lookup x = some .local := by first | exact .inl rfl | exact .inr rfl) : SS W X (.Assign [.Name x pos'] e pos :: rest) D ds H := fun σ H1 r ok =>
  tws_of (pss_cons (ps_set hN hi hx tw_pe hs hf) tws_pss) (he σ H1 r ok _ fun p H2 r2 hp => k p H2 (W.trans r r2) hp _ _ ((W.add p).refl _) (((ok.mono r2).add hp hn).set i (x := .r (.ref p)) rfl))
theorem new_lst : ∀ σ H1, W.R H H1 → Ok W H1 σ ds → ∀ Q : VK, (∀ p H2, W.R H1 H2 → H2 p = none → Q (.ref p) (upd H2 p (.lst []))) → tw X (.List [] pos) σ H1 Q := fun σ H1 r ok Q q =>
  tw_of (pe_lst pa_nil) ⟨Nat.zero_le _, fun p hp => q p H1 (W.refl _) hp⟩
theorem new_dK : ∀ σ H1, W.R H H1 → Ok W H1 σ ds → ∀ Q : VK, (∀ p H2, W.R H1 H2 → H2 p = none → Q (.ref p) (upd H2 p (.dK []))) → tw X (.Dict [] [] pos) σ H1 Q := fun σ H1 r ok Q q =>
  tw_of pe_dnewK fun p hp => q p H1 (W.refl _) hp
theorem new_dT : ∀ σ H1, W.R H H1 → Ok W H1 σ ds → ∀ Q : VK, (∀ p H2, W.R H1 H2 → H2 p = none → Q (.ref p) (upd H2 p (.dT []))) → tw X (.Dict [] [] pos) σ H1 Q := fun σ H1 r ok Q q =>
  tw_of pe_dnewT fun p hp => q p H1 (W.refl _) hp
/-- xs.append(e) -/
theorem ss_append {l : Addr} {xs : List V} (hl : H l = some (.lst xs)) (m : W.M l) (nF : ¬ W.F l) (hz : xs.length < sizeLine) (ho : EAt W X o ds H l) (he : EE W X e ds H A)
    (k : ∀ v x H1, W.R H H1 → A x → Val W.M H1 v x → SS W X rest D ds (upd H1 l (.lst (xs ++ [v]))))
    (hbase : attributeBase o "append" X.env (eval o X.env) = eval o X.env := by rfl)
    (hfew : ((backTo p (starEach [e] X.env)).all (fun x => !x.1) && (backToKw p (keywordEach [] X.env)).all (fun x => x.1.isSome) && decide (([e] : List Expr).length + ([] : List Keyword).length + (if ([] : List Keyword).isEmpty then 0 else 1) < 30)) = true := by rfl)
    (hline : (apos.endLine == p.line) = true := by rfl) (hs : starEach [e] X.env = (false, eval e X.env) :: starEach [] X.env := by rfl) (hplain : (backTo p (starEach [] X.env)).any (·.1) = false := by rfl)
    (hsw : swapsWith (.Call (.Attribute o "append" apos) [e] [] p) none pos.line X.env = pure false := by rfl) :
    SS W X (.Expr (.Call (.Attribute o "append" apos) [e] [] p) pos :: rest) D ds H := fun σ H1 r ok =>
  tws_of (pss_cons (ps_expr (pe_bm PySem.F.plainAttrs_list PySem.F.slot_list_append PySem.F.type_list_append mt_append tw_pe (pa_cons tw_pe pa_nil hs) hbase hfew hline hs hplain) hsw) tws_pss)
    (ho σ H1 r ok _ fun H2 r2 => ⟨.inl ⟨rfl, _, SqL.of (W.keep (W.trans r r2) l _ nF hl)⟩, he σ H2 (W.trans r r2) (ok.mono r2) _ fun v H3 x r3 ax hv =>
      ⟨l, xs, v, rfl, rfl, W.keep (W.trans (W.trans r r2) r3) l _ nF hl, hz, k v x H3 (W.trans (W.trans r r2) r3) ax hv σ _ (W.refl _) (((ok.mono r2).mono r3).upd m (by intro _ h; cases h))⟩⟩)
/-- xs.pop() as a statement -/
theorem ss_pop {l : Addr} {xs : List V} (hl : H l = some (.lst xs)) (m : W.M l) (nF : ¬ W.F l) (h0 : xs ≠ []) (ho : EAt W X o ds H l)
    (k : ∀ H1, W.R H H1 → SS W X rest D ds (upd H1 l (.lst xs.dropLast)))
    (hbase : attributeBase o "pop" X.env (eval o X.env) = eval o X.env := by rfl) (hline : (apos.endLine == p.line) = true := by rfl)
    (hsw : swapsWith (.Call (.Attribute o "pop" apos) [] [] p) none pos.line X.env = pure false := by rfl) :
    SS W X (.Expr (.Call (.Attribute o "pop" apos) [] [] p) pos :: rest) D ds H := fun σ H1 r ok =>
  tws_of (pss_cons (ps_expr (pe_bm0 PySem.F.plainAttrs_list PySem.F.slot_list_pop PySem.F.type_list_pop mt_pop tw_pe hbase hline) hsw) tws_pss)
    (ho σ H1 r ok _ fun H2 r2 => by
      have h2 := W.keep (W.trans r r2) l _ nF hl
      have hlt : xs.length - 1 < xs.length := by cases xs with
        | nil => exact absurd rfl h0
        | cons => simp
      exact ⟨.inl ⟨rfl, _, SqL.of h2⟩, l, xs, xs[xs.length - 1], rfl, rfl, h2, by simp [hlt], k H2 (W.trans r r2) σ _ (W.refl _) ((ok.mono r2).upd m (by intro _ h; cases h))⟩)
/-- x = xs.pop(i) -/
theorem ss_setPop {i j : Nat} {x : Str} {l : Addr} {xs : List V} {y : V} {P : Nat → Prop} (hl : H l = some (.lst xs)) (m : W.M l) (nF : ¬ W.F l) (ho : EAt W X o ds H l) (he : EE W X e ds H (fun z => ∃ j : Nat, z = .d (.int j) ∧ j < xs.length ∧ P j)) (hz : xs.length ≤ sizeLine)
    (k : ∀ j z H1, W.R H H1 → P j → xs[j]? = some (.str z) → SS W X rest D (ds.set i (.d (.str z))) (upd H1 l (.lst (xs.eraseIdx j))))
    (hy : ∀ y ∈ xs, ∃ z, y = .str z) (hN : X.N.Nodup) (hi : X.N[i]? = some x := by rfl) (hx : Loc X.env.scope x := by first | exact Or.inl rfl | exact Or.inr rfl)
    (hbase : attributeBase o "pop" X.env (eval o X.env) = eval o X.env := by rfl)
    (hfew : ((backTo p (starEach [e] X.env)).all (fun x => !x.1) && (backToKw p (keywordEach [] X.env)).all (fun x => x.1.isSome) && decide (([e] : List Expr).length + ([] : List Keyword).length + (if ([] : List Keyword).isEmpty then 0 else 1) < 30)) = true := by rfl)
    (hline : (apos.endLine == p.line) = true := by rfl) (hst : starEach [e] X.env = (false, eval e X.env) :: starEach [] X.env := by rfl) (hplain : (backTo p (starEach [] X.env)).any (·.1) = false := by rfl)
    (hs : swapsWith (.Call (.Attribute o "pop" apos) [e] [] p) (some (.Name x pos')) pos.line X.env = pure false := by rfl) (hf : X.fn x = true ∨ X.env.scope.names.lookup x = some .local := by first | exact .inl rfl | exact .inr rfl) :
    SS W X (.Assign [.Name x pos'] (.Call (.Attribute o "pop" apos) [e] [] p) pos :: rest) D ds H := fun σ H1 r ok =>
  tws_of (pss_cons (ps_set hN hi hx (pe_bm PySem.F.plainAttrs_list PySem.F.slot_list_pop PySem.F.type_list_pop mt_popAt tw_pe (pa_cons tw_pe pa_nil hst) hbase hfew hline hst hplain) hs hf) tws_pss)
    (ho σ H1 r ok _ fun H2 r2 => ⟨.inl ⟨rfl, _, SqL.of (W.keep (W.trans r r2) l _ nF hl)⟩, he σ H2 (W.trans r r2) (ok.mono r2) _ fun v H3 x' r3 ⟨j, ex, hj, pj⟩ hv => by
      subst ex
      cases hv
      have h3 := W.keep (W.trans (W.trans r r2) r3) l _ nF hl
      have hn := line63
      obtain ⟨z, ez⟩ := hy xs[j] (List.getElem_mem _)
      have hg : xs[j]? = some xs[j] := List.getElem?_eq_getElem hj
      refine ⟨l, xs, j, j, xs[j], rfl, rfl, h3, by omega, by omega, PySem.seqIndex_of (by omega) (by omega), hg, ?_⟩
      have hv2 : Val W.M H3 xs[j] (.d (.str z)) := by rw [ez]; exact .str z
      exact k j z H3 (W.trans (W.trans r r2) r3) pj (by rw [hg, ez]) _ _ (W.refl _) (Ok.set (((ok.mono r2).mono r3).upd m (by intro _ h; cases h)) i (x := .d (.str z)) (by rw [ez]; exact .str z))⟩)
/-- d[k] = v, text keys -/
theorem ss_dputK {l : Addr} {kvs : List (Key × V)} {z : Str} {P : V → Prop} (hu : X.A.units + 1 < cLine) (hl : H l = some (.dK kvs)) (m : W.M l) (nF : ¬ W.F l) (hz : kvs.length < sizeLine) (hv : EE W X e ds H (fun y => ∃ d v, y = .d d ∧ plain d = some v ∧ P v)) (ho : EAt W X o ds H l) (hk : EE W X k ds H (Is (.d (.str z))))
    (kk : ∀ v H1, W.R H H1 → P v → SS W X rest D ds (upd H1 l (.dK (putK kvs (Sum.inr z) v)))) (hs : swapsWith e (some (.Subscript o k pos')) pos.line X.env = pure false := by rfl) :
    SS W X (.Assign [.Subscript o k pos'] e pos :: rest) D ds H := fun σ H1 r ok =>
  tws_of (pss_cons (ps_dput hu tw_pe tw_pe tw_pe hs) tws_pss) (hv σ H1 r ok _ fun u H2 y r2 ⟨d, v, ey, hp, pv⟩ hu' => by
    subst ey
    cases plain_val hu' hp
    exact ho σ H2 (W.trans r r2) (ok.mono r2) _ fun H3 r3 => hk σ H3 (W.trans (W.trans r r2) r3) ((ok.mono r2).mono r3) _ fun u2 H4 y2 r4 ey2 hy2 => by
      cases ey2; cases hy2
      have rr := W.trans (W.trans (W.trans r r2) r3) r4
      exact ⟨l, _, rfl, DPut.k (k := Sum.inr z) (W.keep rr l _ nF hl) hz, kk u H4 rr pv σ _ (W.refl _) ((((ok.mono r2).mono r3).mono r4).upd m (by intro _ h; cases h))⟩)
/-- d[k] = v, keys of two texts -/
theorem ss_dputT {l : Addr} {kvs : List (List Key × V)} {x y : Str} {P : V → Prop} (hu : X.A.units + 1 < cLine) (hl : H l = some (.dT kvs)) (m : W.M l) (nF : ¬ W.F l) (hz : kvs.length < sizeLine) (hv : EE W X e ds H (fun y => ∃ d v, y = .d d ∧ plain d = some v ∧ P v)) (ho : EAt W X o ds H l) (hk : EE W X k ds H (Is (.d (.tuple [.str x, .str y]))))
    (kk : ∀ v H1, W.R H H1 → P v → SS W X rest D ds (upd H1 l (.dT (putK kvs [Sum.inr x, Sum.inr y] v)))) (hs : swapsWith e (some (.Subscript o k pos')) pos.line X.env = pure false := by rfl) :
    SS W X (.Assign [.Subscript o k pos'] e pos :: rest) D ds H := fun σ H1 r ok =>
  tws_of (pss_cons (ps_dput hu tw_pe tw_pe tw_pe hs) tws_pss) (hv σ H1 r ok _ fun u H2 yy r2 ⟨d, v, ey, hp, pv⟩ hu' => by
    subst ey
    cases plain_val hu' hp
    exact ho σ H2 (W.trans r r2) (ok.mono r2) _ fun H3 r3 => hk σ H3 (W.trans (W.trans r r2) r3) ((ok.mono r2).mono r3) _ fun u2 H4 y2 r4 ey2 hy2 => by
      cases ey2
      cases hy2 with
      | tup mm h dd =>
      cases dd with
      | cons d1 dd =>
      cases dd with
      | cons d2 dd =>
      cases dd; cases d1; cases d2
      have rr := W.trans (W.trans (W.trans r r2) r3) r4
      exact ⟨l, _, rfl, DPut.t (k := [Sum.inr x, Sum.inr y]) (W.keep rr l _ nF hl) h hz, kk u H4 rr pv σ _ (W.refl _) ((((ok.mono r2).mono r3).mono r4).upd m (by intro _ h; cases h))⟩)
end
end NP

namespace NP
open PySem PySem.Spec L2

section
variable {W : Wd} {X : Cx} {e a b o k tg iter : Expr} {es : List Expr} {ds : List Ds} {H : Hp} {pos p apos pos' p2 p3 : Pos} {A B C : Ds → Prop} {D : Ends} {rest body els : List Stmt}
/-! ### calls of built-ins, operators -/
theorem e_tupleS {z : Str} (hc : X.calm = true) (hm : X.mg "tuple" = none) (ha : EE W X a ds H (Is (.d (.str z)))) (hz : z.length ≤ sizeLine) (hg : Gl X "tuple" := by rfl) (he : starEach [a] X.env = (false, eval a X.env) :: starEach [] X.env := by rfl) : EE W X (.Call (.Name "tuple" p) [a] [] pos) ds H (Is (.d (.tuple (signs z)))) :=
  e_callTy (he := he) (call_tupleS hc) hm PyProof.Rows.boot_tuple (ea_c ha ea_nil (hs := he)) (fun _ e vs H1 tr hvs Q q => by
    cases e
    cases hvs with
    | cons hv h0 =>
      cases h0; cases hv
      refine ⟨_, rfl, hz, fun p hp => ?_⟩
      obtain ⟨mp, rp⟩ := new_ok tr hp (.tup _)
      exact q _ _ _ rp rfl (.tup mp upd_same (signs_dt z))) hg
theorem e_listS {z : Str} (hc : X.calm = true) (hm : X.mg "list" = none) (ha : EE W X a ds H (Is (.d (.str z)))) (hz : z.length ≤ sizeLine) (hg : Gl X "list" := by rfl) (he : starEach [a] X.env = (false, eval a X.env) :: starEach [] X.env := by rfl) : EE W X (.Call (.Name "list" p) [a] [] pos) ds H (Is (.d (.list (signs z)))) :=
  e_callTy (he := he) (call_listS hc) hm PyProof.Rows.boot_list (ea_c ha ea_nil (hs := he)) (fun _ e vs H1 tr hvs Q q => by
    cases e
    cases hvs with
    | cons hv h0 =>
      cases h0; cases hv
      refine ⟨_, rfl, hz, fun p hp => ?_⟩
      obtain ⟨mp, rp⟩ := new_ok tr hp (.lst _)
      exact q _ _ _ rp rfl (.lst mp upd_same (signs_dt z))) hg
theorem e_mulS {z : Str} {n : Int} (ha : EE W X a ds H (Is (.d (.str z)))) (hb : EE W X b ds H (Is (.d (.int n)))) (h0 : 0 ≤ n) (h1 : n ≤ 1000) (hz : z.length ≤ 1000) : EE W X (.BinOp a .Mult b pos) ds H (Is (.d (.str ⟨(List.replicate n.toNat z.cps.toList).flatten.toArray⟩))) :=
  e_opI op_mulS ha hb fun v u H1 tr hv hu Q q => by
    cases hv; cases hu
    exact ⟨_, _, rfl, rfl, h0, h1, hz, q _ H1 _ (W.refl _) rfl (.str _)⟩
theorem e_catT {xs ys : List PyData} (ha : EE W X a ds H (Is (.d (.tuple xs)))) (hb : EE W X b ds H (Is (.d (.tuple ys)))) (hl : xs.length + ys.length ≤ sizeLine) : EE W X (.BinOp a .Add b pos) ds H (Is (.d (.tuple (xs ++ ys)))) := e_opI op_catA ha hb (rd_cat hl)
theorem e_catL {xs ys : List PyData} (ha : EE W X a ds H (Is (.d (.list xs)))) (hb : EE W X b ds H (Is (.d (.list ys)))) (hl : xs.length + ys.length ≤ sizeLine) : EE W X (.BinOp a .Add b pos) ds H (Is (.d (.list (xs ++ ys)))) :=
  e_opI op_cat ha hb fun v u H1 tr hv hu Q q => by
    cases hv with
    | lst m h r =>
    cases hu with
    | lst m' h' r' =>
    refine ⟨_, _, _, _, rfl, rfl, h, h', by rw [r.length, r'.length]; exact hl, fun p hp => ?_⟩
    obtain ⟨mp, rp⟩ := new_ok tr hp (.lst _)
    exact q _ _ _ rp rfl (.lst mp upd_same ((r.append r').mono rp))
theorem e_mod {i j : Int} (ha : EE W X a ds H (Is (.d (.int i)))) (hb : EE W X b ds H (Is (.d (.int j)))) (h : 0 < j) : EE W X (.BinOp a .Mod b pos) ds H (Is (.d (.int (i % j)))) := e_opI op_mod ha hb (rd_intC (c := fun _ j => 0 < j) h)
theorem e_fdiv {i j : Int} (ha : EE W X a ds H (Is (.d (.int i)))) (hb : EE W X b ds H (Is (.d (.int j)))) (h : CDiv i j) : EE W X (.BinOp a .FloorDiv b pos) ds H (Is (.d (.int (i / j)))) := e_opI op_fdiv ha hb (rd_intC (c := CDiv) h)
theorem e_pow {i j : Int} (ha : EE W X a ds H (Is (.d (.int i)))) (hb : EE W X b ds H (Is (.d (.int j)))) (h : CPow i j) : EE W X (.BinOp a .Pow b pos) ds H (Is (.d (.int (i ^ j.toNat)))) := e_opI op_pow ha hb (rd_intC (c := CPow) h)
theorem e_neg {i : Int} (ha : EE W X a ds H (Is (.d (.int i)))) : EE W X (.UnaryOp .USub a pos) ds H (Is (.d (.int (-i)))) := fun σ H1 r ok Q q =>
  tw_of (pe_un un_neg tw_pe) (ha σ H1 r ok _ fun v H2 x r2 ex hv => by
    cases ex; cases hv
    exact ⟨_, rfl, q _ H2 _ r2 rfl (.int _)⟩)
theorem e_ev {xs : List PyData} {kk : Nat} (ha : EE W X a ds H (Is (.d (.tuple xs)))) : EE W X (.Subscript a (.Slice none none (some (.Constant (.int 2) kk p2)) p3) pos) ds H (Is (.d (.tuple (ev xs)))) := fun σ H1 r ok Q q =>
  tw_of (pe_ev tw_pe) (ha σ H1 r ok _ fun v H2 x r2 ex hv => by
    cases ex
    cases hv with
    | tup m h rr =>
      refine ⟨_, _, rfl, SqT.of h, fun p hp => ?_⟩
      obtain ⟨mp, rp⟩ := new_ok (ok.mono r2).tr hp (.tup _)
      refine q _ _ _ (W.trans r2 rp) rfl (.tup mp upd_same ?_)
      have hl := rr.length
      have key : ∀ (ks : List Nat), DtAll W.M H2 (ks.filterMap fun k => ‹List V›[2 * k]?) (ks.filterMap fun k => xs[2 * k]?) := by
        intro ks
        induction ks with
        | nil => exact .nil
        | cons k ks ih =>
          rw [List.filterMap_cons, List.filterMap_cons]
          cases e : xs[2 * k]? with
          | none =>
            have : ‹List V›[2 * k]? = none := by
              rw [List.getElem?_eq_none_iff] at e ⊢
              omega
            rw [this]; exact ih
          | some x =>
            obtain ⟨v, e1, d1⟩ := rr.get e
            rw [e1]; exact .cons d1 ih
      unfold ev at rp ⊢
      rw [hl] at rp ⊢
      exact (key _).mono rp)
theorem e_index {z y : Str} {i : Nat} {l : List Nat} (ho : EE W X o ds H (Is (.d (.str z)))) (ha : EE W X a ds H (Is (.d (.str y)))) (h : Builtin.Str.occurrences z y 0 z.length 1 = i :: l) (hs : starEach [a] X.env = [(false, eval a X.env)] := by rfl) (hbase : attributeBase o "index" X.env (eval o X.env) = eval o X.env := by rfl) (hline : (apos.endLine == pos.line) = true := by rfl) :
    EE W X (.Call (.Attribute o "index" apos) [a] [] pos) ds H (Is (.d (.int i))) := e_m1 F.slot_str_index F.type_str_index mt_sindex ho ha (fun u H1 tr hu Q q => by
      cases hu
      exact ⟨_, _, i, l, rfl, rfl, h, q _ H1 _ (W.refl _) rfl (.int _)⟩) hs hbase hline
theorem e_ty {x : Str} {T : String} (hm : X.mg x = none) (hv : bootBuiltins x = some (.type T)) (hg : Gl X x := by rfl) (hn : x ≠ "__name__" := by decide) (hd : (x == ("__debug__" : Str)) = false := by decide) : EE W X (.Name x pos) ds H (Is (.r (.ty T))) := fun σ H1 r ok Q q =>
  tw_of (pe_bltn (v := .ty T) hg hm hv rfl hn hd) (q _ H1 _ (W.refl _) rfl rfl)
/-- min of a list of data that are alike -/
theorem e_minD {d : PyData} {xs : List PyData} (hc : X.calm = true) (hm : X.mg "min" = none) (ha : EE W X a ds H (Is (.d (.list (d :: xs))))) (hal : PySem.W.AlikeAll (d :: xs)) (hu : X.A.units + 1 + PyData.depthAll (d :: xs) < cLine) (hi : ∃ i : Nat, (d :: xs)[i]? = some (PySem.W.minD d xs)) (hg : Gl X "min" := by rfl) (he : starEach [a] X.env = (false, eval a X.env) :: starEach [] X.env := by rfl) :
    EE W X (.Call (.Name "min" p) [a] [] pos) ds H (Is (.d (PySem.W.minD d xs))) :=
  e_callB (he := he) (call_minD hc) hm PyProof.Rows.boot_min (ea_c ha ea_nil (hs := he)) (fun _ e vs H1 tr hvs Q q => by
    cases e
    cases hvs with
    | cons hv h1 =>
      cases h1
      cases hv with
      | lst m h r => exact ⟨_, _, d, xs, rfl, SqL.of h, DtAll.dp r, hal, hu, fun i y ey ed => by
          obtain ⟨v, e1, dv⟩ := r.get ed
          rw [ey] at e1
          cases e1
          exact q _ H1 _ (W.refl _) rfl dv⟩) hg
/-- min of a list of texts, by a key -/
theorem e_minK {kn : Nat} {R : List Ds → (Ds → Prop) → Prop} {n : Str → Int} {ns : Str → List Int} {z : Str} {zs : List Str} {x : Str} {kp np : Pos} (hc : X.calm = true) (hm : X.mg "min" = none) (c : Cal X.prog X.w X.K X.mg X.base x kn (spP R)) (hr : Room (kn + 1) X.A)
    (ha : EE W X a ds H (Is (.d (.list ((z :: zs).map .str))))) (hR : ∀ y ∈ z :: zs, R [.d (.str y)] (Is (.d (keyD n ns y)))) (hgx : Gl X x := by rfl) (hdx : (x == ("__debug__" : Str)) = false := by decide) (hg : Gl X "min" := by rfl)
    (he : backTo pos (starEach [a] X.env) = (false, eval a X.env) :: backTo pos (starEach [] X.env) := by rfl) (hpl : (backTo pos (starEach [a] X.env)).any (·.1) = false := by rfl) (hst : starEach [a] X.env = (false, eval a X.env) :: starEach [] X.env := by rfl)
    (hall : (backToKw pos (keywordEach [⟨some (Str.ofString "key"), .Name x np, kp⟩] X.env)).all (·.1.isSome) = true := by rfl) (hnone : (backToKw pos (keywordEach [⟨some (Str.ofString "key"), .Name x np, kp⟩] X.env)).any (·.1.isNone) = false := by rfl) (hks : (backToKw pos (keywordEach [⟨some (Str.ofString "key"), .Name x np, kp⟩] X.env)).filterMap (·.1) = [Str.ofString "key"] := by rfl) :
    EE W X (.Call (.Name "min" p) [a] [⟨some (Str.ofString "key"), .Name x np, kp⟩] pos) ds H (Is (.d (.str (zs.foldl (fun a y => if PySem.W.dataLt (keyD n ns y) (keyD n ns a) = true then y else a) z)))) := fun σ H1 r ok Q q => by
  obtain ⟨f, fd, ps, F, hmx, hk, hb⟩ := c.ex
  refine tw_of (pe_callBK (call_minK hc F hb hr n ns) hg hm PyProof.Rows.boot_min (pa_cons tw_pe pa_nil hst) (pk_cons (pe_glob (v := .ref f) hgx hmx rfl hdx) pk_nil) (he := he) (hpl := hpl) (hall := hall) (hnone := hnone) (hks := hks)) ?_
  refine ha σ H1 r ok _ fun v H2 x r2 ex hv => ?_
  cases ex
  cases hv with
  | lst m h rr =>
    have e := rr.strs
    subst e
    exact ⟨_, z, zs, rfl, rfl, h, hR, q _ H2 _ r2 rfl (.str _)⟩

/-! ### what is walked -/
theorem kp_new {M' : Ms} {H2 H3 : Hp} (kp : KpM M' H2 H3) {T : Addr} (hT : H3 T = none) : ¬ M' T := fun m => (kp.2 T m).ne hT
theorem ei_revS {z : Str} (hm : X.mg "reversed" = none) (he : EE W X e ds H (Is (.d (.str z)))) (hz : z.length ≤ sizeLine) (hg : Gl X "reversed" := by rfl) (hs : starEach [e] X.env = (false, eval e X.env) :: starEach [] X.env := by rfl) :
    EI W X tg (.Call (.Name "reversed" p) [e] [] pos) ds H (Is (z.cps.toList.reverse.map fun c => .d (.str ⟨#[c]⟩))) := fun σ H1 r ok R q =>
  twi_of (pi_revS hg hm tw_pe hs) (he σ H1 r ok _ fun v H2 y r2 ey hv => by
    cases ey; cases hv
    refine ⟨z, rfl, hz, q _ H2 _ r2 rfl fun M' sb nw H3 kp => ⟨fun i x e => ?_, by rw [List.length_map, List.length_reverse]; exact Nat.le_refl _⟩⟩
    rw [List.getElem?_map] at e
    cases e1 : z.cps.toList.reverse[i]? with
    | none => rw [e1] at e; cases e
    | some c =>
      rw [e1] at e
      cases e
      have hi := (List.getElem?_eq_some_iff.mp e1).1
      rw [List.length_reverse, Array.length_toList] at hi
      rw [List.getElem?_reverse (by rw [Array.length_toList]; exact hi), Array.length_toList, Array.getElem?_toList] at e1
      refine ⟨hi, fun v H' y => ?_⟩
      obtain ⟨e2, c', e3, e4⟩ := y
      subst e2 e4
      have e3' : z.cps[z.cps.size - 1 - i]? = some c' := e3
      rw [e1] at e3'
      cases e3'
      exact ⟨Same.refl _, .str _⟩)
theorem ei_revT {xs : List PyData} (hm : X.mg "reversed" = none) (he : EE W X e ds H (Is (.d (.tuple xs)))) (hg : Gl X "reversed" := by rfl) (hs : starEach [e] X.env = (false, eval e X.env) :: starEach [] X.env := by rfl) :
    EI W X tg (.Call (.Name "reversed" p) [e] [] pos) ds H (Is (xs.reverse.map .d)) := fun σ H1 r ok R q =>
  twi_of (RT.pi_revA hg hm tw_pe hs) (he σ H1 r ok _ fun v H2 y r2 ey hv => by
    cases ey
    cases hv with
    | tup m h rr =>
      rename_i a vs
      refine ⟨a, vs, rfl, .inr ⟨SqT.of h, q _ H2 _ r2 rfl fun M' sb nw H3 kp => ?_⟩⟩
      have h3 := (wk_k nw kp a _ m h).2
      have r3 := rr.keep (wk_k nw kp)
      have hl := r3.length
      refine ⟨fun i x e => ?_, by rw [List.length_map, List.length_reverse, ← hl]; exact Nat.le_refl _⟩
      rw [List.getElem?_map] at e
      cases e1 : xs.reverse[i]? with
      | none => rw [e1] at e; cases e
      | some d =>
        rw [e1] at e
        cases e
        have hi := (List.getElem?_eq_some_iff.mp e1).1
        rw [List.length_reverse] at hi
        rw [List.getElem?_reverse hi] at e1
        obtain ⟨v, ev, dv⟩ := r3.get e1
        rw [← hl] at ev
        exact ⟨⟨by omega, vs, v, SqT.of h3, ev⟩, fun v' H' y => by
          obtain ⟨e2, y⟩ := y
          subst e2
          have := y vs (SqT.of h3)
          rw [ev] at this
          cases this
          exact ⟨Same.refl _, dv⟩⟩)
/-- a new pair -/
theorem pair_new {M' : Ms} {H2 H3 : Hp} (kp : KpM M' H2 H3) {T : Addr} (hT : H3 T = none) {x y : V} {d1 d2 : PyData} (h1 : Dt M' H3 x d1) (h2 : Dt M' H3 y d2) : Same H3 (upd H3 T (.tup [x, y])) ∧ Val M' (upd H3 T (.tup [x, y])) (.ref T) (.d (.tuple [d1, d2])) := by
  have kk : ∀ a o, ¬ M' a → H3 a = some o → ¬ M' a ∧ upd H3 T (.tup [x, y]) a = some o := fun a o m e => ⟨m, same_new hT a o e⟩
  exact ⟨same_new hT, .tup (kp_new kp hT) upd_same (.cons (h1.keep kk) (.cons (h2.keep kk) .nil))⟩
theorem ei_enumT {xs : List PyData} {elts : List Expr} {kk : Nat} {tpos : Pos} (hm : X.mg "enumerate" = none) (he : EE W X e ds H (Is (.d (.tuple xs)))) (hg : Gl X "enumerate" := by rfl) (hs : starEach [e] X.env = [(false, eval e X.env)] := by rfl) (hs1 : starEach [e] X.env = (false, eval e X.env) :: starEach [] X.env := by rfl) :
    EI W X (.Tuple elts kk tpos) (.Call (.Name "enumerate" p) [e] [] pos) ds H (Is ((List.range xs.length).map fun (i : Nat) => .d (.tuple [.int (i : Nat), xs.getD i .none]))) := fun σ H1 r ok R q =>
  twi_of (pi_enumT hg hm twa_pa hs) (ea_c he ea_nil hs1 σ H1 r ok _ fun vs H2 ys r2 ey hvs => by
    cases ey
    cases hvs with
    | cons hv h0 =>
    cases h0
    cases hv with
    | tup m h rr =>
      rename_i a vs
      refine ⟨a, vs, rfl, SqT.of h, q _ H2 _ r2 rfl fun M' sb nw H3 kp => ?_⟩
      have h3 := (wk_k nw kp a _ m h).2
      have r3 := rr.keep (wk_k nw kp)
      have hl := r3.length
      refine ⟨fun i x e => ?_, ⟨vs, SqT.of h3, by rw [List.length_map, List.length_range]; exact hl⟩⟩
      rw [List.getElem?_map] at e
      have hi : i < xs.length := by
        by_cases c : i < xs.length
        · exact c
        · rw [List.getElem?_eq_none (by rw [List.length_range]; omega)] at e; cases e
      rw [List.getElem?_range hi] at e
      cases e
      obtain ⟨v, ev, dv⟩ := r3.get (List.getElem?_eq_getElem hi)
      have eg : xs.getD i .none = xs[i] := by rw [List.getD_eq_getElem?_getD, List.getElem?_eq_getElem hi]; rfl
      refine ⟨⟨vs, v, SqT.of h3, ev⟩, fun v' H' y => ?_⟩
      obtain ⟨T, x, e1, hT, e2, y⟩ := y
      subst e1 e2
      have := y vs (SqT.of h3)
      rw [ev] at this
      cases this
      show _ ∧ Val M' _ _ (.d (.tuple [.int i, xs.getD i .none]))
      rw [eg]
      exact pair_new kp hT (.int _) dv)
theorem zw_get {xs ys : List PyData} {i : Nat} {x : Ds} (e : (List.zipWith (fun a b => Ds.d (.tuple [a, b])) xs ys)[i]? = some x) : ∃ a b, xs[i]? = some a ∧ ys[i]? = some b ∧ x = .d (.tuple [a, b]) := by
  rw [List.getElem?_zipWith] at e
  cases e1 : xs[i]? with
  | none => rw [e1] at e; cases e
  | some a =>
    cases e2 : ys[i]? with
    | none => rw [e1, e2] at e; cases e
    | some b => rw [e1, e2] at e; cases e; exact ⟨a, b, rfl, rfl, rfl⟩
theorem ei_zipT {xs ys : List PyData} {e2 : Expr} {elts : List Expr} {kk : Nat} {tpos : Pos} (hm : X.mg "zip" = none) (he : EE W X e ds H (Is (.d (.tuple xs)))) (he2 : EE W X e2 ds H (Is (.d (.tuple ys)))) (hg : Gl X "zip" := by rfl)
    (hs : starEach [e, e2] X.env = (false, eval e X.env) :: starEach [e2] X.env := by rfl) (hs2 : starEach [e2] X.env = (false, eval e2 X.env) :: starEach [] X.env := by rfl) (hpl : (backTo pos (starEach [e2] X.env)).any (·.1) = false := by rfl) :
    EI W X (.Tuple elts kk tpos) (.Call (.Name "zip" p) [e, e2] [] pos) ds H (Is (List.zipWith (fun a b => .d (.tuple [a, b])) xs ys)) := fun σ H1 r ok R q =>
  twi_of (RZ.pi_zipA hg hm twa_pa hs hpl) (ea_c he (ea_c he2 ea_nil hs2) hs σ H1 r ok _ fun vs H2 ys r2 ey hvs => by
    cases ey
    cases hvs with
    | cons hv h0 =>
    cases h0 with
    | cons hv' h0 =>
    cases h0
    cases hv with
    | tup m h rr =>
    cases hv' with
    | tup m' h' rr' =>
      rename_i a vs b us
      refine ⟨a, b, vs, us, rfl, .inr ⟨SqT.of h, SqT.of h', q _ H2 _ r2 rfl fun M' sb nw H3 kp => ?_⟩⟩
      have h3 := (wk_k nw kp a _ m h).2
      have r3 := rr.keep (wk_k nw kp)
      have h3' := (wk_k nw kp b _ m' h').2
      have r3' := rr'.keep (wk_k nw kp)
      have hl := r3.length
      have hl' := r3'.length
      refine ⟨fun i x e => ?_, ⟨vs, us, SqT.of h3, SqT.of h3', by rw [List.length_zipWith]; omega⟩⟩
      obtain ⟨d1, d2, e1, e2, rfl⟩ := zw_get e
      obtain ⟨v, ev, dv⟩ := r3.get e1
      obtain ⟨u, eu, du⟩ := r3'.get e2
      refine ⟨⟨vs, us, v, u, SqT.of h3, SqT.of h3', ev, eu⟩, fun v' H' y => ?_⟩
      obtain ⟨T, x, y', ex, hT, eH, k1, k2⟩ := y
      subst ex eH
      have q1 := k1 vs (SqT.of h3)
      have q2 := k2 us (SqT.of h3')
      rw [ev] at q1
      rw [eu] at q2
      cases q1; cases q2
      exact pair_new kp hT dv du)
theorem ei_zipM {xs ys : List PyData} {e2 : Expr} {elts : List Expr} {kk : Nat} {tpos : Pos} (hm : X.mg "zip" = none) (he : EE W X e ds H (Is (.d (.tuple xs)))) (he2 : EE W X e2 ds H (Is (.d (.list ys)))) (hg : Gl X "zip" := by rfl)
    (hs : starEach [e, e2] X.env = (false, eval e X.env) :: starEach [e2] X.env := by rfl) (hs2 : starEach [e2] X.env = (false, eval e2 X.env) :: starEach [] X.env := by rfl) (hpl : (backTo pos (starEach [e2] X.env)).any (·.1) = false := by rfl) :
    EI W X (.Tuple elts kk tpos) (.Call (.Name "zip" p) [e, e2] [] pos) ds H (Is (List.zipWith (fun a b => .d (.tuple [a, b])) xs ys)) := fun σ H1 r ok R q =>
  twi_of (pi_zipM hg hm twa_pa hs hpl) (ea_c he (ea_c he2 ea_nil hs2) hs σ H1 r ok _ fun vs H2 ys r2 ey hvs => by
    cases ey
    cases hvs with
    | cons hv h0 =>
    cases h0 with
    | cons hv' h0 =>
    cases h0
    cases hv with
    | tup m h rr =>
    cases hv' with
    | lst m' h' rr' =>
      rename_i a vs b us
      refine ⟨a, b, vs, us, rfl, SqT.of h, SqL.of h', q _ H2 _ r2 rfl fun M' sb nw H3 kp => ?_⟩
      have h3 := (wk_k nw kp a _ m h).2
      have r3 := rr.keep (wk_k nw kp)
      have h3' := (wk_k nw kp b _ m' h').2
      have r3' := rr'.keep (wk_k nw kp)
      have hl := r3.length
      have hl' := r3'.length
      refine ⟨fun i x e => ?_, ⟨vs, us, SqT.of h3, SqL.of h3', by rw [List.length_zipWith]; omega⟩⟩
      obtain ⟨d1, d2, e1, e2, rfl⟩ := zw_get e
      obtain ⟨v, ev, dv⟩ := r3.get e1
      obtain ⟨u, eu, du⟩ := r3'.get e2
      refine ⟨⟨vs, us, v, u, SqT.of h3, SqL.of h3', ev, eu⟩, fun v' H' y => ?_⟩
      obtain ⟨T, x, y', ex, hT, eH, k1, k2⟩ := y
      subst ex eH
      have q1 := k1 vs (SqT.of h3)
      have q2 := k2 us (SqL.of h3')
      rw [ev] at q1
      rw [eu] at q2
      cases q1; cases q2
      exact pair_new kp hT dv du)

/-! ### a dict of pairs, walked while it is locked -/
def pairK (x y : Str) : List Key := [Sum.inr x, Sum.inr y]
theorem ei_keysT {tk : List ((Str × Str) × V)} {d : Addr} {od : Obj} (he : EAt W X e ds H d) (hd : H d = some (.frz od (.dT (tk.map fun t => (pairK t.1.1 t.1.2, t.2))))) (nM : ¬ W.M d) : EI W X tg e ds H (Is (tk.map fun t => .d (.tuple [.str t.1.1, .str t.1.2]))) := fun σ H1 r ok R q =>
  twi_of (pi_keys tw_pe) (he σ H1 r ok _ fun H2 r2 => by
    have h2 := W.keep (W.trans r r2) d _ (fun f => nM (W.sub d f)) hd
    refine ⟨d, od, rfl, .inr ⟨_, h2, q _ H2 _ r2 rfl fun M' sb nw H3 kp => ?_⟩⟩
    have h3 := (wk_k nw kp d _ nM h2).2
    refine ⟨fun i x e => ?_, ⟨h3, by rw [List.length_map, List.length_map]; exact Nat.le_refl _⟩⟩
    rw [List.getElem?_map] at e
    cases e1 : tk[i]? with
    | none => rw [e1] at e; cases e
    | some t =>
      rw [e1] at e
      cases e
      have hi := (List.getElem?_eq_some_iff.mp e1).1
      refine ⟨⟨h3, by rw [List.length_map]; exact hi⟩, fun v H' y => ?_⟩
      obtain ⟨e2, kk, v', q', e3, e4, e5⟩ := y
      subst e2 e4
      rw [List.getElem?_map, e1] at e3
      cases e3
      refine ⟨Same.refl _, .tup (fun m => ?_) e5 (.cons (.str _) (.cons (.str _) .nil))⟩
      obtain ⟨u, eu, n⟩ := kp.2 q' m
      rw [e5] at eu
      cases eu
      exact n _ rfl)
theorem e_dgetTf {tk : List ((Str × Str) × V)} {x y : Str} {d : PyData} {v : V} {l : Addr} {od : Obj} (hu : X.A.units + 1 < cLine) (ho : EAt W X o ds H l) (hl : H l = some (.frz od (.dT (tk.map fun t => (pairK t.1.1 t.1.2, t.2))))) (nF : ¬ W.F l) (hk : EE W X k ds H (Is (.d (.tuple [.str x, .str y])))) (hv : valV (tk.map fun t => (pairK t.1.1 t.1.2, t.2)) (pairK x y) = some v) (hp : plain d = some v) (hs : NoSl k := by intro _ _; rfl) :
    EE W X (.Subscript o k pos) ds H (Is (.d d)) := fun σ H1 r ok Q q =>
  tw_of (pe_dget hu tw_pe tw_pe hs) (ho σ H1 r ok _ fun H2 r2 => hk σ H2 (W.trans r r2) (ok.mono r2) _ fun u H3 x' r3 ex hx => by
    cases ex
    cases hx with
    | tup m h dd =>
    cases dd with
    | cons d1 dd =>
    cases dd with
    | cons d2 dd =>
    cases dd; cases d1; cases d2
    exact ⟨l, v, rfl, .inr ⟨_, pairK x y, _, .inr ⟨od, W.keep (W.trans (W.trans r r2) r3) l _ nF hl⟩, rfl, h, hv.symm⟩, q v H3 _ (W.trans r2 r3) rfl (plain_dt hp)⟩)
/-- no object among what the names stand for, but at i -/
def noO (i : Nat) (ds : List Ds) : Prop := ∀ (j : Nat) (x : HO), j ≠ i → ds[j]? ≠ some (.o x)
mutual
theorem Dt.ofz {M : Ms} {H : Hp} {d : Addr} {u u' : HO} (hd : H d = some u) (n1 : ∀ xs, u ≠ .lst xs) (n2 : ∀ xs, u ≠ .tup xs) : ∀ {v : V} {x : PyData}, Dt M H v x → Dt M (upd H d u') v x
  | _, _, .non => .non
  | _, _, .bl b => .bl b
  | _, _, .int i => .int i
  | _, _, .str x => .str x
  | _, _, .lst m h r => .lst m (by rw [upd_ne (fun z => by rw [z, hd] at h; cases h; exact n1 _ rfl)]; exact h) (DtAll.ofz hd n1 n2 r)
  | _, _, .tup m h r => .tup m (by rw [upd_ne (fun z => by rw [z, hd] at h; cases h; exact n2 _ rfl)]; exact h) (DtAll.ofz hd n1 n2 r)
theorem DtAll.ofz {M : Ms} {H : Hp} {d : Addr} {u u' : HO} (hd : H d = some u) (n1 : ∀ xs, u ≠ .lst xs) (n2 : ∀ xs, u ≠ .tup xs) : ∀ {v : List V} {x : List PyData}, DtAll M H v x → DtAll M (upd H d u') v x
  | _, _, .nil => .nil
  | _, _, .cons h r => .cons (Dt.ofz hd n1 n2 h) (DtAll.ofz hd n1 n2 r)
end
theorem SD.ofz {M : Ms} {H : Hp} {d : Addr} {u u' : HO} (hd : H d = some u) (n1 : ∀ xs, u ≠ .lst xs) (n2 : ∀ xs, u ≠ .tup xs) {σ : L2.St} {ds : List Ds} (h : SD M H σ ds) (no : ∀ (j : Nat) (x : HO), ds[j]? ≠ some (.o x)) : SD M (upd H d u') σ ds := by
  induction h with
  | nil => exact .nil
  | @cons s y ss ys a b ih =>
    refine .cons ?_ (ih fun j x => by have := no (j + 1) x; simpa using this)
    cases y with
    | u => cases s <;> trivial
    | o x => exact absurd rfl (no 0 x)
    | d x => cases s with
      | none => exact a.elim
      | some v => exact Dt.ofz hd n1 n2 a
    | r x => cases s with
      | none => exact a.elim
      | some v => exact a
theorem noO_set {i : Nat} {ds : List Ds} {y : Ds} (h : noO i ds) (hy : ∀ x, y ≠ .o x) : ∀ (j : Nat) (x : HO), (ds.set i y)[j]? ≠ some (.o x) := fun j x e => by
  by_cases c : j = i
  · subst c
    by_cases l : j < ds.length
    · rw [List.getElem?_set_self l] at e
      cases e
      exact hy x rfl
    · rw [List.getElem?_eq_none (by rw [List.length_set]; omega)] at e; cases e
  · rw [List.getElem?_set_ne (fun z => c z.symm)] at e
    exact h j x c e
theorem lock_ok {i : Nat} {u : HO} {σ : L2.St} {H1 : Hp} (ok : Ok W H1 σ ds) (hi : ds[i]? = some (.o u)) (hu : ∀ xs, u ≠ .lst xs) (ht : ∀ xs, u ≠ .tup xs) (no : noO i ds) : ∃ d, ¬ W.M d ∧ H1 d = some u ∧ σ[i]? = some (some (.ref d)) ∧ ∀ od, Ok W (upd H1 d (.frz od u)) σ (ds.set i (.r (.ref d))) := by
  obtain ⟨v, e, a, rfl, m, ha⟩ := ok.sd.get hi (by intro z; cases z)
  refine ⟨a, m, ha, e, fun od => ⟨?_, fun b mb => by rw [upd_ne (fun z => m (by rw [← z]; exact mb))]; exact ok.tr b mb⟩⟩
  have s1 : SD W.M H1 (σ.set i (some (.ref a))) (ds.set i (.r (.ref a))) := ok.sd.set i (s := some (.ref a)) (x := .r (.ref a)) rfl
  have eσ : σ.set i (some (.ref a)) = σ := by
    obtain ⟨hl, e'⟩ := List.getElem?_eq_some_iff.mp e
    rw [← e']; exact List.set_getElem_self hl
  rw [eσ] at s1
  exact s1.ofz ha hu ht (noO_set no (by intro x z; cases z))
theorem unlock_ok {i : Nat} {u : HO} {od : Obj} {d : Addr} {σ : L2.St} {H2 : Hp} {ds' : List Ds} (ok : Ok W H2 σ ds') (m : ¬ W.M d) (hd : H2 d = some (.frz od u)) (hi : ds'[i]? = some (.r (.ref d))) (no : noO i ds') : Ok W (upd H2 d u) σ (ds'.set i (.o u)) := by
  refine ⟨?_, fun b mb => by rw [upd_ne (fun z => m (by rw [← z]; exact mb))]; exact ok.tr b mb⟩
  have no2 : ∀ (j : Nat) (x : HO), ds'[j]? ≠ some (.o x) := fun j x e => by
    by_cases c : j = i
    · subst c; rw [hi] at e; cases e
    · exact no j x c e
  have s1 := ok.sd.ofz (u' := u) hd (by intro xs z; cases z) (by intro xs z; cases z) no2
  obtain ⟨v, e, ev⟩ := ok.sd.get hi (by intro z; cases z)
  have s2 := s1.set i (s := some v) (x := .o u) (SlotOk.of (by rw [ev]; exact ⟨d, rfl, m, upd_same⟩))
  have eσ : σ.set i (some v) = σ := by
    obtain ⟨hl, e'⟩ := List.getElem?_eq_some_iff.mp e
    rw [← e']; exact List.set_getElem_self hl
  rwa [eσ] at s2
theorem same_lock {H1 H2 : Hp} {d : Addr} {u : HO} {od : Obj} (h1 : H1 d = some u) (s : Same (upd H1 d (.frz od u)) H2) : H2 d = some (.frz od u) ∧ Same H1 (upd H2 d u) := by
  refine ⟨s d _ upd_same, fun b o e => ?_⟩
  by_cases c : b = d
  · rw [c, upd_same, ← h1, ← c]; exact e
  · rw [upd_ne c]; exact s b o (by rw [upd_ne c]; exact e)
/-- an expression while a dict is locked -/
theorem e_lock {i : Nat} {u : HO} {A : PyData → Prop} (hi : ds[i]? = some (.o u)) (mu : Mut (some u)) (hu : ∀ xs, u ≠ .lst xs) (ht : ∀ xs, u ≠ .tup xs) (no : noO i ds) (hR : ∀ H H', W.R H H' → Same H H')
    (h : ∀ d od H1, ¬ W.M d → H1 d = some (.frz od u) → EE W X e (ds.set i (.r (.ref d))) H1 (fun y => ∃ x, y = .d x ∧ A x)) : EE W X e ds H (fun y => ∃ x, y = .d x ∧ A x) := fun σ H1 r ok Q q => by
  obtain ⟨d, m, hd, hσ, hok⟩ := lock_ok ok hi hu ht no
  refine tw_of (pe_lock tw_pe) ⟨d, u, hd, mu, fun od => ?_⟩
  refine h d od _ m upd_same σ _ (W.refl _) (hok od) _ fun v H2 y r2 ⟨x, ey, ax⟩ hv => ?_
  subst ey
  obtain ⟨h2, s2⟩ := same_lock hd (hR _ _ r2)
  exact ⟨h2, q v _ _ (W.ex s2) ⟨x, rfl, ax⟩ (Dt.ofz h2 (by intro xs z; cases z) (by intro xs z; cases z) hv)⟩
/-- one statement -/
def tw1 (X : Cx) (st : Stmt) : TS := fun D σ H => ∀ pins s, Inv X pins σ H s → wpAny (model X.prog X.w) X.A (exec st X.env) (SP X pins D) X.xe s
theorem tw1_ps {st : Stmt} : PS X st (tw1 X st) := ⟨fun pins s σ H D I h => h pins s I⟩
theorem tw1_of {st : Stmt} {t : TS} {σ : L2.St} (h : PS X st t) (q : t D σ H) : tw1 X st D σ H := fun pins s I => h.run pins s σ H D I q
def S1 (W : Wd) (X : Cx) (st : Stmt) (D : Ends) (ds : List Ds) (H : Hp) : Prop := ∀ σ H1, W.R H H1 → Ok W H1 σ ds → tw1 X st D σ H1
theorem s1_for {items : List Ds} {dz : Nat → List Ds → List Ds} (Iv : Nat → List Ds → Hp → Prop) (hi : EI W X tg iter ds H (Is items)) (hc : X.calm = true) (hp : PassesOwn (model X.prog X.w) X.A X.env X.xe)
    (h0 : ∀ H1, W.R H H1 → Iv 0 ds H1)
    (hg : ∀ i x ds', items[i]? = some x → (∃ H', Iv i ds' H') → EH W X tg ds' x (dz i ds'))
    (hb : ∀ i x ds' Hi H', items[i]? = some x → Iv i ds' Hi → Same Hi H' → Kp W Hi H' → SS W X body { D with nx := Nx W (Iv (i + 1)) Hi, ct := Nx W (Iv (i + 1)) Hi, bk := D.nx } (dz i ds') H')
    (hd : ∀ ds' H' σ, Iv items.length ds' H' → Ok W H' σ ds' → D.nx σ H')
    (hs : ∀ x, foldedSetIterable iter X.env x = pure x := by intro _; rfl) : S1 W X (.For tg iter body [] pos) D ds H := fun σ H1 r ok => by
  have tgG : PG X tg (fun v σ H Q => ∀ pins s u, Inv X pins σ H s → RelV v u → wpAny (model X.prog X.w) X.A (assign tg X.env u) (fun _ s' => ∃ σ' H', Inv X pins σ' H' s' ∧ Q σ' H') X.xe s) := ⟨fun pins s σ H v u Q I r h => h pins s u I r⟩
  refine tw1_of (ps_for hp hc twi_pi tgG tws_pss hs) (hi σ H1 r ok _ fun J H2 its r2 ei wk => ?_)
  cases ei
  refine ⟨fun i m σ' H' => m = items.length - i ∧ i ≤ items.length ∧ ∃ ds', Iv i ds' H' ∧ Kp W H2 H' ∧ Ok W H' σ' ds', ⟨_, rfl, Nat.zero_le _, ds, h0 H2 (W.trans r r2), Kp.refl (ok.mono r2).tr, ok.mono r2⟩, ?_⟩
  rintro i m σ' H' ⟨rfl, hil, ds', iv, kp, ok'⟩
  obtain ⟨w1, w2⟩ := wk.here kp
  by_cases hlt : i < items.length
  · refine .inr ⟨(w1 i items[i] (by simp [hlt])).1, Nx W (Iv (i + 1)) H', fun σ3 H3 ⟨ds3, iv3, kp3, ok3⟩ => ⟨items.length - (i + 1), by omega, rfl, hlt, ds3, iv3, kp.trans kp3, ok3⟩, fun v H4 y => ?_⟩
    obtain ⟨sm, hv⟩ := (w1 i items[i] (by simp [hlt])).2 v H4 y
    have rr := W.ex sm
    intro pins s u I rv
    obtain ⟨g, hpg, go⟩ := hg i items[i] ds' (by simp [hlt]) ⟨H', iv⟩
    exact hpg.run pins s σ' H4 v u _ I rv (go σ' H4 v _ (ok'.mono rr) hv fun σ5 ok5 => hb i items[i] ds' H' H4 (by simp [hlt]) iv sm (Kp.of rr ok'.tr) σ5 H4 (W.refl _) ok5)
  · have e : i = items.length := by omega
    subst e
    exact .inl ⟨w2, hd ds' H' σ' iv ok'⟩
/-- a statement while a dict is locked, that falls through -/
theorem ss_lock {st : Stmt} {i : Nat} {u : HO} (hi : ds[i]? = some (.o u)) (mu : Mut (some u)) (hu : ∀ xs, u ≠ .lst xs) (ht : ∀ xs, u ≠ .tup xs) (no : noO i ds)
    (h : ∀ H1 d od, W.R H H1 → ¬ W.M d → H1 d = some u → ∀ nx' : L2.St → Hp → Prop, (∀ ds' σ' H2, H2 d = some (.frz od u) → ds'[i]? = some (.r (.ref d)) → noO i ds' → Ok W H2 σ' ds' → SS W X rest D (ds'.set i (.o u)) (upd H2 d u) → nx' σ' H2) →
      ∀ rt bk ct, S1 W X st ⟨nx', rt, bk, ct⟩ (ds.set i (.r (.ref d))) (upd H1 d (.frz od u))) : SS W X (st :: rest) D ds H := fun σ H1 r ok => by
  obtain ⟨d, m, hd, hσ, hok⟩ := lock_ok ok hi hu ht no
  refine tws_of (pss_cons (ps_lock tw1_ps) tws_pss) ⟨d, u, hd, mu, fun od => ?_⟩
  exact h H1 d od r m hd _ (fun ds' σ' H2 h2 hi' no' ok' q => ⟨h2, q σ' _ (W.refl _) (unlock_ok ok' m h2 hi' no')⟩) _ _ _ σ _ (W.refl _) (hok od)
end
end NP

namespace NP
open PySem PySem.Spec L2
/-- a list at l that may be changed, and its data -/
def LB (M : Ms) (H : Hp) (l : Addr) (xs : List PyData) : Prop := ∃ vs, H l = some (.lst vs) ∧ DtAll M H vs xs
section
variable {W : Wd} {X : Cx} {e a b o k tg iter : Expr} {es : List Expr} {ds : List Ds} {H H' : Hp} {pos p apos pos' p2 p3 p4 : Pos} {A B C : Ds → Prop} {D : Ends} {rest body els : List Stmt} {l : Addr} {xs : List PyData}
theorem LB.new {M : Ms} {p : Addr} : LB M (upd H p (.lst [])) p [] := ⟨[], upd_same, .nil⟩
theorem LB.mono (h : LB W.M H l xs) (nF : ¬ W.F l) (r : W.R H H') : LB W.M H' l xs := let ⟨vs, e, d⟩ := h; ⟨vs, W.keep r l _ nF e, d.mono r⟩
/-- changed elsewhere -/
theorem LB.upd {q : Addr} {u : HO} (h : LB W.M H l xs) (m : W.M q) (n : l ≠ q) : LB W.M (upd H q u) l xs := let ⟨vs, e, d⟩ := h; ⟨vs, by rw [upd_ne n]; exact e, d.keep fun a o m' e' => ⟨m', by rw [upd_ne (fun z => m' (by rw [z]; exact m))]; exact e'⟩⟩
theorem LB.push {vs : List V} {v : V} {x : PyData} (m : W.M l) (d : DtAll W.M H vs xs) (hv : Dt W.M H v x) : LB W.M (L2.upd H l (.lst (vs ++ [v]))) l (xs ++ [x]) :=
  have kk : ∀ a o, ¬ W.M a → H a = some o → ¬ W.M a ∧ L2.upd H l (.lst (vs ++ [v])) a = some o := fun a o m' e => ⟨m', by rw [upd_ne (fun z => m' (by rw [z]; exact m))]; exact e⟩
  ⟨_, upd_same, (d.keep kk).append (.cons (hv.keep kk) .nil)⟩
theorem LB.put {vs : List V} (m : W.M l) (d : DtAll W.M H vs xs) : LB W.M (L2.upd H l (.lst vs)) l xs :=
  have kk : ∀ a o, ¬ W.M a → H a = some o → ¬ W.M a ∧ L2.upd H l (.lst vs) a = some o := fun a o m' e => ⟨m', by rw [upd_ne (fun z => m' (by rw [z]; exact m))]; exact e⟩
  ⟨_, upd_same, d.keep kk⟩
/-- the finished list as a datum of the caller's -/
theorem LB.dt {M M' : Ms} (h : LB M' H l xs) (nM : ¬ M l) (sb : ∀ a, M a → M' a) : Dt M H (.ref l) (.list xs) := let ⟨vs, e, d⟩ := h; .lst nM e (d.keep fun a o m e => ⟨fun z => m (sb a z), e⟩)
theorem e_lenR (hm : X.mg "len" = none) (ha : EAt W X a ds H l) (h : LB W.M H l xs) (nF : ¬ W.F l) (hg : Gl X "len" := by rfl) (he : starEach [a] X.env = (false, eval a X.env) :: starEach [] X.env := by rfl) : EE W X (.Call (.Name "len" p) [a] [] pos) ds H (Is (.d (.int xs.length))) := fun σ H1 r1 ok Q q =>
  tw_of (pe_callB call_len_seq hg hm PySem.boot_len (pa_cons tw_pe pa_nil he) (he := he)) (ha σ H1 r1 ok _ fun H2 r2 => by
    obtain ⟨vs, e, d⟩ := h.mono nF (W.trans r1 r2)
    refine ⟨l, vs, rfl, .inl (SqL.of e), ?_⟩
    rw [d.length]
    exact q _ H2 _ r2 rfl (.int _))
theorem e_ixR {i : Int} {d : PyData} (ha : EAt W X a ds H l) (hb : EE W X b ds H (Is (.d (.int i)))) (h : LB W.M H l xs) (nF : ¬ W.F l) (hi : atI xs i = some d) (hs : PlainIx b := by intro _ _; rfl) : EE W X (.Subscript a b pos) ds H (Is (.d d)) := fun σ H1 r1 ok Q q =>
  tw_of (pe_ix ix_list tw_pe tw_pe hs) (ha σ H1 r1 ok _ fun H2 r2 => hb σ H2 (W.trans r1 r2) (ok.mono r2) _ fun u H3 y r3 ey hu => by
    cases ey
    cases hu
    obtain ⟨vs, e, dd⟩ := h.mono nF (W.trans (W.trans r1 r2) r3)
    obtain ⟨w', e1, e2⟩ := atI_get dd hi
    exact ⟨_, _, _, _, rfl, rfl, SqL.of e, e1, q _ H3 _ (W.trans r2 r3) rfl e2⟩)
theorem e_tupleR (hm : X.mg "tuple" = none) (ha : EAt W X a ds H l) (h : LB W.M H l xs) (nF : ¬ W.F l) (hg : Gl X "tuple" := by rfl) (he : starEach [a] X.env = (false, eval a X.env) :: starEach [] X.env := by rfl) : EE W X (.Call (.Name "tuple" p) [a] [] pos) ds H (Is (.d (.tuple xs))) := fun σ H1 r1 ok Q q =>
  tw_of (pe_callTy call_tuple_of hg hm PyProof.Rows.boot_tuple (pa_cons tw_pe pa_nil he) (he := he)) (ha σ H1 r1 ok _ fun H2 r2 => by
    obtain ⟨vs, e, d⟩ := h.mono nF (W.trans r1 r2)
    refine ⟨_, _, rfl, .inl ⟨SqL.of e, fun p hp => ?_⟩⟩
    obtain ⟨mp, rp⟩ := new_ok (ok.mono r2).tr hp (.tup _)
    exact q _ _ _ (W.trans r2 rp) rfl (.tup mp upd_same (d.mono rp)))
theorem e_joinR {z : Str} {ys : List Str} (ho : EE W X o ds H (Is (.d (.str z)))) (ha : EAt W X a ds H l) (h : LB W.M H l (ys.map .str)) (nF : ¬ W.F l) (hl : (ys.map (·.length)).sum + ys.length * z.length ≤ 16777216) (hs : starEach [a] X.env = [(false, eval a X.env)] := by rfl) (hbase : attributeBase o "join" X.env (eval o X.env) = eval o X.env := by rfl) (hline : (apos.endLine == pos.line) = true := by rfl) :
    EE W X (.Call (.Attribute o "join" apos) [a] [] pos) ds H (Is (.d (.str (Txt.join z ys)))) := fun σ H1 r1 ok Q q =>
  tw_of (pe_m1 F.slot_str_join F.type_str_join mt_join tw_pe tw_pe hs hbase hline) (ho σ H1 r1 ok _ fun v H2 x r2 ex hv => by
    cases ex; cases hv
    refine ⟨⟨_, rfl⟩, ha σ H2 (W.trans r1 r2) (ok.mono r2) _ fun H3 r3 => ?_⟩
    obtain ⟨vs, e, d⟩ := h.mono nF (W.trans (W.trans r1 r2) r3)
    have ee := d.strs
    subst ee
    exact ⟨_, _, ys, rfl, rfl, .inl (SqL.of e), hl, q _ H3 _ (W.trans r2 r3) rfl (.str _)⟩)
/-- xs != [] -/
theorem et_neNil {q1 : Pos} (hu : X.A.units + 64 < cLine) (ha : EAt W X a ds H l) (h : LB W.M H l xs) (nF : ¬ W.F l) (hs1 : SeqAt.shaped (.list xs) = true) : ET W X (.Compare a [.NotEq] [.List [] q1] pos) ds H (Is (!xs.isEmpty)) := fun σ H1 r1 ok Q q =>
  twt_of (pt_cmpR (op_neD hu) tw_pe (pe_lst pa_nil) (nomark _)) (ha σ H1 r1 ok _ fun H2 r2 => ⟨Nat.zero_le _, fun p hp => by
    obtain ⟨mp, rp⟩ := new_ok (W := W) (ok.mono r2).tr hp (.lst [])
    obtain ⟨vs, e, d⟩ := (h.mono nF (W.trans r1 r2)).mono nF rp
    refine ⟨.list xs, .list [], .lst (SqL.of e) (DtAll.dp d), .lst (SqL.of upd_same) .nil, hs1, rfl, _, rfl, ?_⟩
    have ee : PyData.eqv (.list xs) (.list []) = xs.isEmpty := by cases xs <;> rfl
    rw [ee]
    exact q _ _ (W.trans r2 rp) rfl⟩)
end
end NP

namespace NP
open PySem PySem.Spec L2
section
variable {W : Wd} {X : Cx} {e a b o k tg iter : Expr} {es : List Expr} {ds : List Ds} {H H' : Hp} {pos p apos pos' p2 p3 p4 : Pos} {A B C : Ds → Prop} {D : Ends} {rest body els : List Stmt}
theorem lcR_map {α : Type} {T : Ds → Bool → Prop} {G : Ds → PyData → Prop} (g : α → Ds) (f : α → PyData) (q : α → Bool) {xs : List Ds} {out : List PyData} (h : LcR T G xs out) : ∀ as : List α, xs = as.map g → (∀ a ∈ as, ∀ b, T (g a) b → b = q a) → (∀ a ∈ as, ∀ d, G (g a) d → d = f a) → out = (as.filter q).map f := by
  induction h with
  | nil => intro as e _ _; cases as with
    | nil => rfl
    | cons => cases e
  | @skip xs out x _ t ih =>
    intro as e hp hf
    rcases List.eq_nil_or_concat as with e1 | ⟨as', a, e1⟩
    · subst e1; simp at e
    · rw [List.concat_eq_append] at e1
      subst e1
      rw [List.map_append] at e
      obtain ⟨e2, e3⟩ := List.append_inj' e rfl
      cases e3
      have e4 := hp a (by simp) _ t
      rw [List.filter_append, List.map_append, ih as' e2 (fun y hy => hp y (by simp [hy])) (fun y hy => hf y (by simp [hy]))]
      simp [← e4]
  | @take xs out x d _ t gg ih =>
    intro as e hp hf
    rcases List.eq_nil_or_concat as with e1 | ⟨as', a, e1⟩
    · subst e1; simp at e
    · rw [List.concat_eq_append] at e1
      subst e1
      rw [List.map_append] at e
      obtain ⟨e2, e3⟩ := List.append_inj' e rfl
      cases e3
      have e4 := hp a (by simp) _ t
      have e5 := hf a (by simp) _ gg
      rw [List.filter_append, List.map_append, ih as' e2 (fun y hy => hp y (by simp [hy])) (fun y hy => hf y (by simp [hy]))]
      simp [← e4, e5]
/-- [elt for x in items], the items told by as -/
theorem e_lcM {α : Type} {elt : Expr} {scope : Scope} {j : Nat} {x : Str} {px : Pos} (as : List α) (g : α → Ds) (f : α → PyData) (inj : ∀ a b, g a = g b → a = b) (hN : X.N.Nodup) (hi : EI W X (.Name x px) iter ds H (Is (as.map g))) (hl : as.length < sizeLine)
    (he : ∀ l a, a ∈ as → ∀ s0 H0 cl C fp, EE (W.add l) (Blk X s0 H0 scope cl C fp) elt ((wipeD ds [j]).set j (g a)) H (Is (.d (f a))))
    (hc : X.calm = true := by rfl) (ok : BlkOk X.N X.env.scope scope [(x, j)] := by exact blkOk_by (by rfl))
    (hg : ∀ s H C cl fp, PG (Blk X s H scope cl C fp) (.Name x px) (gName j) := by exact fun _ _ _ _ _ => pg_name (by assumption) rfl (Or.inl rfl))
    (hs : ∀ x, foldedSetIterable iter X.env x = pure x := by intro _; rfl) : EE W X (.ListComp elt [⟨.Name x px, iter, [], 0⟩] scope pos) ds H (Is (.d (.list (as.map f)))) :=
  (lc_main (T := fun _ => Is true) (G := fun y d => ∃ a ∈ as, y = g a ∧ d = f a) hc hN hi (fun its e => by cases e; rw [List.length_map]; exact hl) ok hg (fun _ _ _ _ _ => pts_nil) (fun l its y e m σ H1 r o Q q => q true H1 (W.refl _) rfl)
    (fun l its y e m _ s0 H0 cl C fp => by
      cases e
      obtain ⟨a, ha, rfl⟩ := List.mem_map.mp m
      exact (he l a ha s0 H0 cl C fp).imp fun z ez => ⟨_, ez, a, ha, rfl, rfl⟩) hs).imp fun z ⟨its, out, e1, lr, e2⟩ => by
    cases e1
    have := lcR_map g f (fun _ => true) lr as rfl (fun _ _ b e => e) (fun a ha d ⟨a', _, e3, e4⟩ => by rw [e4, inj _ _ e3])
    have e3 : as.filter (fun _ => true) = as := List.filter_eq_self.mpr fun _ _ => rfl
    rw [e2, this, e3]
    rfl
/-- [elt for x in items if test], the items told by as -/
theorem e_lcMF {α : Type} {elt t : Expr} {scope : Scope} {j : Nat} {x : Str} {px : Pos} (as : List α) (g : α → Ds) (f : α → PyData) (q : α → Bool) (inj : ∀ a b, g a = g b → a = b) (hN : X.N.Nodup) (hi : EI W X (.Name x px) iter ds H (Is (as.map g))) (hl : as.length < sizeLine)
    (ht : ∀ l a, a ∈ as → ∀ s0 H0 cl C fp, ET (W.add l) (Blk X s0 H0 scope cl C fp) t ((wipeD ds [j]).set j (g a)) H (Is (q a)))
    (he : ∀ l a, a ∈ as → q a = true → ∀ s0 H0 cl C fp, EE (W.add l) (Blk X s0 H0 scope cl C fp) elt ((wipeD ds [j]).set j (g a)) H (Is (.d (f a))))
    (hc : X.calm = true := by rfl) (ok : BlkOk X.N X.env.scope scope [(x, j)] := by exact blkOk_by (by rfl))
    (hg : ∀ s H C cl fp, PG (Blk X s H scope cl C fp) (.Name x px) (gName j) := by exact fun _ _ _ _ _ => pg_name (by assumption) rfl (Or.inl rfl))
    (hs : ∀ x, foldedSetIterable iter X.env x = pure x := by intro _; rfl) : EE W X (.ListComp elt [⟨.Name x px, iter, [t], 0⟩] scope pos) ds H (Is (.d (.list ((as.filter q).map f)))) :=
  (lc_main (tt := fun σ H Q => ∀ s0 H0 cl C fp, twt (Blk X s0 H0 scope cl C fp) t σ H Q) (T := fun y b => ∃ a ∈ as, y = g a ∧ b = q a) (G := fun y d => ∃ a ∈ as, y = g a ∧ d = f a) hc hN hi (fun its e => by cases e; rw [List.length_map]; exact hl) ok hg
    (fun s H C cl fp => pts_one ⟨fun pins s' σ H' Q I h => h s H cl C fp pins s' I⟩) (fun l its y e m σ H1 r o Q qq s0 H0 cl C fp => by
      cases e
      obtain ⟨a, ha, rfl⟩ := List.mem_map.mp m
      exact ht l a ha s0 H0 cl C fp σ H1 r o Q fun b H2 r2 eb => qq b H2 r2 ⟨a, ha, rfl, eb⟩)
    (fun l its y e m hp s0 H0 cl C fp => by
      cases e
      obtain ⟨a, ha, rfl⟩ := List.mem_map.mp m
      obtain ⟨a', _, e3, e4⟩ := hp
      exact (he l a ha (by rw [inj _ _ e3]; exact e4.symm) s0 H0 cl C fp).imp fun z ez => ⟨_, ez, a, ha, rfl, rfl⟩) hs).imp fun z ⟨its, out, e1, lr, e2⟩ => by
    cases e1
    have := lcR_map g f q lr as rfl (fun a ha b ⟨a', _, e3, e4⟩ => by rw [e4, inj _ _ e3]) (fun a ha d ⟨a', _, e3, e4⟩ => by rw [e4, inj _ _ e3])
    rw [e2, this]
    rfl
/-- y = [elt for x in items] on one line -/
theorem ss_lcM {α : Type} {i : Nat} {y : Str} {py spos : Pos} {elt : Expr} {scope : Scope} {j : Nat} {x : Str} {px : Pos} (as : List α) (g : α → Ds) (f : α → PyData) (inj : ∀ a b, g a = g b → a = b) (hN : X.N.Nodup) (hi : EI W X (.Name x px) iter ds H (Is (as.map g))) (hl : as.length < sizeLine)
    (he : ∀ l a, a ∈ as → ∀ s0 H0 cl C fp, EE (W.add l) (Blk X s0 H0 scope cl C fp) elt ((wipeD ds [j]).set j (g a)) H (Is (.d (f a))))
    (k : ∀ H1, W.R H H1 → SS W X rest D (ds.set i (.d (.list (as.map f)))) H1)
    (hc : X.calm = true := by rfl) (ok : BlkOk X.N X.env.scope scope [(x, j)] := by exact blkOk_by (by rfl))
    (hg : ∀ s H C cl fp, PG (Blk X s H scope cl C fp) (.Name x px) (gName j) := by exact fun _ _ _ _ _ => pg_name (by assumption) rfl (Or.inl rfl))
    (hy : X.N[i]? = some y := by rfl) (hyl : X.env.scope.names.lookup y = some .local := by rfl) (hsw : swapsWith (.ListComp elt [⟨.Name x px, iter, [], 0⟩] scope pos) (some (.Name y py)) spos.line X.env = pure true := by exact sw_true rfl rfl rfl rfl)
    (hs : ∀ x, foldedSetIterable iter X.env x = pure x := by intro _; rfl) : SS W X (.Assign [.Name y py] (.ListComp elt [⟨.Name x px, iter, [], 0⟩] scope pos) spos :: rest) D ds H :=
  ss_lc (T := fun _ => Is true) (G := fun y d => ∃ a ∈ as, y = g a ∧ d = f a) hc hN hi (fun its e => by cases e; rw [List.length_map]; exact hl) ok hg (fun _ _ _ _ _ => pts_nil) (fun l its y e m σ H1 r o Q q => q true H1 (W.refl _) rfl)
    (fun l its y e m _ s0 H0 cl C fp => by
      cases e
      obtain ⟨a, ha, rfl⟩ := List.mem_map.mp m
      exact (he l a ha s0 H0 cl C fp).imp fun z ez => ⟨_, ez, a, ha, rfl, rfl⟩) (fun z H1 r ⟨its, out, e1, lr, e2⟩ => by
    cases e1
    have := lcR_map g f (fun _ => true) lr as rfl (fun _ _ b e => e) (fun a ha d ⟨a', _, e3, e4⟩ => by rw [e4, inj _ _ e3])
    have e3 : as.filter (fun _ => true) = as := List.filter_eq_self.mpr fun _ _ => rfl
    rw [e3] at this
    rw [e2, this]
    exact k H1 r) hy hyl hsw hs
/-- y = [elt for x in items if test] on one line -/
theorem ss_lcMF {α : Type} {i : Nat} {y : Str} {py spos : Pos} {elt t : Expr} {scope : Scope} {j : Nat} {x : Str} {px : Pos} (as : List α) (g : α → Ds) (f : α → PyData) (q : α → Bool) (inj : ∀ a b, g a = g b → a = b) (hN : X.N.Nodup) (hi : EI W X (.Name x px) iter ds H (Is (as.map g))) (hl : as.length < sizeLine)
    (ht : ∀ l a, a ∈ as → ∀ s0 H0 cl C fp, ET (W.add l) (Blk X s0 H0 scope cl C fp) t ((wipeD ds [j]).set j (g a)) H (Is (q a)))
    (he : ∀ l a, a ∈ as → q a = true → ∀ s0 H0 cl C fp, EE (W.add l) (Blk X s0 H0 scope cl C fp) elt ((wipeD ds [j]).set j (g a)) H (Is (.d (f a))))
    (k : ∀ H1, W.R H H1 → SS W X rest D (ds.set i (.d (.list ((as.filter q).map f)))) H1)
    (hc : X.calm = true := by rfl) (ok : BlkOk X.N X.env.scope scope [(x, j)] := by exact blkOk_by (by rfl))
    (hg : ∀ s H C cl fp, PG (Blk X s H scope cl C fp) (.Name x px) (gName j) := by exact fun _ _ _ _ _ => pg_name (by assumption) rfl (Or.inl rfl))
    (hy : X.N[i]? = some y := by rfl) (hyl : X.env.scope.names.lookup y = some .local := by rfl) (hsw : swapsWith (.ListComp elt [⟨.Name x px, iter, [t], 0⟩] scope pos) (some (.Name y py)) spos.line X.env = pure true := by exact sw_true rfl rfl rfl rfl)
    (hs : ∀ x, foldedSetIterable iter X.env x = pure x := by intro _; rfl) : SS W X (.Assign [.Name y py] (.ListComp elt [⟨.Name x px, iter, [t], 0⟩] scope pos) spos :: rest) D ds H :=
  ss_lc (tt := fun σ H Q => ∀ s0 H0 cl C fp, twt (Blk X s0 H0 scope cl C fp) t σ H Q) (T := fun y b => ∃ a ∈ as, y = g a ∧ b = q a) (G := fun y d => ∃ a ∈ as, y = g a ∧ d = f a) hc hN hi (fun its e => by cases e; rw [List.length_map]; exact hl) ok hg
    (fun s H C cl fp => pts_one ⟨fun pins s' σ H' Q I h => h s H cl C fp pins s' I⟩) (fun l its y e m σ H1 r o Q qq s0 H0 cl C fp => by
      cases e
      obtain ⟨a, ha, rfl⟩ := List.mem_map.mp m
      exact ht l a ha s0 H0 cl C fp σ H1 r o Q fun b H2 r2 eb => qq b H2 r2 ⟨a, ha, rfl, eb⟩)
    (fun l its y e m hp s0 H0 cl C fp => by
      cases e
      obtain ⟨a, ha, rfl⟩ := List.mem_map.mp m
      obtain ⟨a', _, e3, e4⟩ := hp
      exact (he l a ha (by rw [inj _ _ e3]; exact e4.symm) s0 H0 cl C fp).imp fun z ez => ⟨_, ez, a, ha, rfl, rfl⟩) (fun z H1 r ⟨its, out, e1, lr, e2⟩ => by
    cases e1
    have := lcR_map g f q lr as rfl (fun a ha b ⟨a', _, e3, e4⟩ => by rw [e4, inj _ _ e3]) (fun a ha d ⟨a', _, e3, e4⟩ => by rw [e4, inj _ _ e3])
    rw [e2, this]
    exact k H1 r) hy hyl hsw hs
/-- what may not be changed is kept -/
def Kq (W : Wd) (H H' : Hp) : Prop := ∀ a o, ¬ W.M a → H a = some o → H' a = some o
theorem Kq.refl : Kq W H H := fun _ _ _ e => e
theorem Kq.trans {H'' : Hp} (h : Kq W H H') (k : Kq W H' H'') : Kq W H H'' := fun a o m e => k a o m (h a o m e)
theorem Kq.r (h : W.R H H') : Kq W H H' := fun a o m e => W.keep h a o (fun f => m (W.sub a f)) e
theorem Kq.upd {p : Addr} {u : HO} (m : W.M p) : Kq W H (L2.upd H p u) := fun a o n e => by rw [upd_ne (fun z => n (by rw [z]; exact m))]; exact e
theorem Kq.kp (h : Kq W H H') (tr : ∀ a, W.M a → Nt (H' a)) : Kp W H H' := ⟨h, tr⟩
theorem Kp.kq (h : Kp W H H') : Kq W H H' := h.1
theorem ss_nq {Iv : List Ds → Hp → Prop} {Hi : Hp} {rt : VK} {bk ct : L2.St → Hp → Prop} (h : ∀ H1, W.R H H1 → Iv ds H1 ∧ Kq W Hi H1) : SS W X [] ⟨Nx W Iv Hi, rt, bk, ct⟩ ds H := ss_nx fun H1 r tr => ⟨(h H1 r).1, (h H1 r).2.kp tr⟩
/-- data that may be compared -/
def Sh (k : Nat) (d : PyData) : Prop := d.canLay0 = true ∧ d.depth ≤ k
theorem canLayAll_of : ∀ xs : List PyData, (∀ x ∈ xs, x.canLay0 = true) → PyData.canLayAll0 xs = true
  | [], _ => rfl
  | x :: xs, h => by rw [PyData.canLayAll0, h x (by simp), canLayAll_of xs fun y hy => h y (by simp [hy])]; rfl
theorem depthAll_of (k : Nat) : ∀ xs : List PyData, (∀ x ∈ xs, x.depth ≤ k) → PyData.depthAll xs ≤ k
  | [], _ => Nat.zero_le _
  | x :: xs, h => by rw [PyData.depthAll]; exact Nat.max_le.mpr ⟨h x (by simp), depthAll_of k xs fun y hy => h y (by simp [hy])⟩
theorem Sh.list {k : Nat} {xs : List PyData} (h : ∀ x ∈ xs, Sh k x) : Sh (k + 1) (.list xs) := ⟨by rw [PyData.canLay0]; exact canLayAll_of xs fun x hx => (h x hx).1, by rw [PyData.depth]; exact Nat.succ_le_succ (depthAll_of k xs fun x hx => (h x hx).2)⟩
theorem Sh.tup {k : Nat} {xs : List PyData} (h : ∀ x ∈ xs, Sh k x) : Sh (k + 1) (.tuple xs) := ⟨by rw [PyData.canLay0]; exact canLayAll_of xs fun x hx => (h x hx).1, by rw [PyData.depth]; exact Nat.succ_le_succ (depthAll_of k xs fun x hx => (h x hx).2)⟩
theorem Sh.int (i : Int) : Sh 0 (.int i) := ⟨rfl, Nat.le_refl _⟩
theorem Sh.bool (i : Bool) : Sh 0 (.bool i) := ⟨rfl, Nat.le_refl _⟩
theorem Sh.none : Sh 0 .none := ⟨rfl, Nat.le_refl _⟩
theorem Sh.mono {j k : Nat} {d : PyData} (h : Sh j d) (l : j ≤ k) : Sh k d := ⟨h.1, Nat.le_trans h.2 l⟩
theorem Sh.shaped {k : Nat} {d : PyData} (h : Sh k d) (l : k ≤ 64) : SeqAt.shaped d = true := by
  unfold SeqAt.shaped
  rw [h.1]
  have := h.2
  simp; omega
theorem Sh.refl {k : Nat} {d : PyData} (h : Sh k d) : PyData.eqv d d = true := SeqAt.eqv_refl d h.1
theorem Wd.addM {p : Addr} : (W.add p).M p := .inr rfl
theorem Kq.updA {p : Addr} {u : HO} : Kq (W.add p) H (L2.upd H p u) := Kq.upd Wd.addM
theorem same_upd {H0 : Hp} {u : HO} {q : Addr} (h : Same H0 H) (h0 : H0 q = none) : Same H0 (L2.upd H q u) := fun a o e => by rw [upd_ne (ne_of_none e h0)]; exact h a o e
theorem none_of {H0 : Hp} {q : Addr} (h : Same H0 H) (h1 : H q = none) : H0 q = none := by
  cases e : H0 q with
  | none => rfl
  | some o => rw [h q o e] at h1; cases h1
theorem ss_appendZ {l : Addr} {xs : List PyData} {d : PyData} (hl : LB W.M H l xs) (m : W.M l) (nF : ¬ W.F l) (hz : xs.length < sizeLine) (ho : EAt W X o ds H l) (he : EE W X e ds H (Is (.d d)))
    (k : ∀ H1 u, W.R H H1 → LB W.M (L2.upd H1 l u) l (xs ++ [d]) → SS W X rest D ds (L2.upd H1 l u))
    (hbase : attributeBase o "append" X.env (eval o X.env) = eval o X.env := by rfl)
    (hfew : ((backTo p (starEach [e] X.env)).all (fun x => !x.1) && (backToKw p (keywordEach [] X.env)).all (fun x => x.1.isSome) && decide (([e] : List Expr).length + ([] : List Keyword).length + (if ([] : List Keyword).isEmpty then 0 else 1) < 30)) = true := by rfl)
    (hline : (apos.endLine == p.line) = true := by rfl) (hs : starEach [e] X.env = (false, eval e X.env) :: starEach [] X.env := by rfl) (hplain : (backTo p (starEach [] X.env)).any (·.1) = false := by rfl)
    (hsw : swapsWith (.Call (.Attribute o "append" apos) [e] [] p) none pos.line X.env = pure false := by rfl) :
    SS W X (.Expr (.Call (.Attribute o "append" apos) [e] [] p) pos :: rest) D ds H := by
  obtain ⟨vs, hv, dv⟩ := hl
  exact ss_append hv m nF (by rw [dv.length]; exact hz) ho he (fun v x H1 r ax hx => by
    cases ax
    exact k H1 _ r (LB.push m (dv.mono r) hx)) hbase hfew hline hs hplain hsw
theorem ss_popZ {l : Addr} {xs : List PyData} (hl : LB W.M H l xs) (m : W.M l) (nF : ¬ W.F l) (h0 : xs ≠ []) (ho : EAt W X o ds H l)
    (k : ∀ H1 u, W.R H H1 → LB W.M (L2.upd H1 l u) l xs.dropLast → SS W X rest D ds (L2.upd H1 l u))
    (hbase : attributeBase o "pop" X.env (eval o X.env) = eval o X.env := by rfl) (hline : (apos.endLine == p.line) = true := by rfl)
    (hsw : swapsWith (.Call (.Attribute o "pop" apos) [] [] p) none pos.line X.env = pure false := by rfl) :
    SS W X (.Expr (.Call (.Attribute o "pop" apos) [] [] p) pos :: rest) D ds H := by
  obtain ⟨vs, hv, dv⟩ := hl
  have hl := dv.length
  refine ss_pop hv m nF (fun z => h0 (by subst z; simpa using hl.symm)) ho (fun H1 r => k H1 _ r (LB.put m ?_)) hbase hline hsw
  have h5 := DtAll.take (vs.length - 1) (dv.mono r)
  rw [← List.dropLast_eq_take, hl, ← List.dropLast_eq_take] at h5
  exact h5
/-- a for over items told by as: the invariant's names by what is walked -/
theorem ss_forM {α : Type} {as : List α} {g : α → Ds} {dz : α → List Ds → List Ds} (Iv : List α → List Ds → Hp → Prop) (hi : EI W X tg iter ds H (Is (as.map g)))
    (h0 : ∀ H1, W.R H H1 → Iv [] ds H1)
    (hg : ∀ done a ds' H', Iv done ds' H' → a ∈ as → EH W X tg ds' (g a) (dz a ds'))
    (hb : ∀ done a todo ds' Hi H', as = done ++ a :: todo → Iv done ds' Hi → W.R Hi H' → Kq W Hi H' → SS W X body { D with nx := Nx W (Iv (done ++ [a])) Hi, ct := Nx W (Iv (done ++ [a])) Hi, bk := tws X rest D } (dz a ds') H')
    (hd : ∀ ds' H', Iv as ds' H' → (∀ a, W.M a → Nt (H' a)) → SS W X rest D ds' H')
    (hc : X.calm = true := by rfl) (hp : PassesOwn (model X.prog X.w) X.A X.env X.xe := by exact PassesOwn.never)
    (hs : ∀ x, foldedSetIterable iter X.env x = pure x := by intro _; rfl) : SS W X (.For tg iter body [] pos :: rest) D ds H := by
  have key : ∀ (i : Nat) (x : Ds), (as.map g)[i]? = some x → ∃ a, as[i]? = some a ∧ x = g a := by
    intro i x hx
    rw [List.getElem?_map] at hx
    cases e : as[i]? with
    | none => rw [e] at hx; cases hx
    | some a => rw [e] at hx; cases hx; exact ⟨a, rfl, rfl⟩
  refine ss_for (dz := fun i ds' => match as[i]? with | some a => dz a ds' | none => ds') (fun i => Iv (as.take i)) hi hc hp h0 ?_ ?_ ?_ hs
  · rintro i x ds' hx ⟨H', iv⟩
    obtain ⟨a, ea, rfl⟩ := key i x hx
    simp only [ea]
    exact hg _ a ds' H' iv (List.mem_of_getElem? ea)
  · intro i x ds' Hi H' hx iv sm kp
    obtain ⟨a, ea, rfl⟩ := key i x hx
    simp only [ea]
    have et : as.take (i + 1) = as.take i ++ [a] := by rw [List.take_succ, ea]; rfl
    rw [et]
    have hlt := (List.getElem?_eq_some_iff.mp ea).1
    refine hb (as.take i) a (as.drop (i + 1)) ds' Hi H' ?_ iv (W.ex sm) kp.kq
    have : as.drop i = a :: as.drop (i + 1) := by
      rw [List.drop_eq_getElem_cons hlt]
      congr 1
      exact (List.getElem?_eq_some_iff.mp ea).2
    rw [← this, List.take_append_drop]
  · intro ds' H' iv tr
    rw [List.length_map, List.take_length] at iv
    exact hd ds' H' iv tr
theorem szl {n : Nat} (h : n < 16777216) : n < sizeLine := h
theorem ss_dputKI {l : Addr} {kvs : List (Key × V)} {z : Str} {d : PyData} {v : V} (hu : X.A.units + 1 < cLine) (hl : H l = some (.dK kvs)) (m : W.M l) (nF : ¬ W.F l) (hz : kvs.length < sizeLine) (hv : EE W X e ds H (Is (.d d))) (ho : EAt W X o ds H l) (hk : EE W X k ds H (Is (.d (.str z))))
    (kk : ∀ H1, W.R H H1 → SS W X rest D ds (L2.upd H1 l (.dK (putK kvs (Sum.inr z) v)))) (hp : plain d = some v := by rfl) (hs : swapsWith e (some (.Subscript o k pos')) pos.line X.env = pure false := by rfl) :
    SS W X (.Assign [.Subscript o k pos'] e pos :: rest) D ds H := ss_dputK (P := fun u => u = v) hu hl m nF hz (hv.imp fun y ey => ⟨d, v, ey, hp, rfl⟩) ho hk (fun u H1 r e => by rw [e]; exact kk H1 r) hs
theorem ss_dputTI {l : Addr} {kvs : List (List Key × V)} {x y : Str} {d : PyData} {v : V} (hu : X.A.units + 1 < cLine) (hl : H l = some (.dT kvs)) (m : W.M l) (nF : ¬ W.F l) (hz : kvs.length < sizeLine) (hv : EE W X e ds H (Is (.d d))) (ho : EAt W X o ds H l) (hk : EE W X k ds H (Is (.d (.tuple [.str x, .str y]))))
    (kk : ∀ H1, W.R H H1 → SS W X rest D ds (L2.upd H1 l (.dT (putK kvs [Sum.inr x, Sum.inr y] v)))) (hp : plain d = some v := by rfl) (hs : swapsWith e (some (.Subscript o k pos')) pos.line X.env = pure false := by rfl) :
    SS W X (.Assign [.Subscript o k pos'] e pos :: rest) D ds H := ss_dputT (P := fun u => u = v) hu hl m nF hz (hv.imp fun y ey => ⟨d, v, ey, hp, rfl⟩) ho hk (fun u H1 r e => by rw [e]; exact kk H1 r) hs
end
end NP

namespace NP
open PySem PySem.Spec L2
section
variable {W : Wd} {X : Cx} {e a b o k tg iter : Expr} {es : List Expr} {ds : List Ds} {H H' : Hp} {pos p apos pos' p2 p3 p4 : Pos} {A B C : Ds → Prop} {D : Ends} {rest body els : List Stmt}
/-- a new object from elsewhere, under a name, that may be changed from now on -/
theorem ss_newG {i : Nat} {x : Str} {P : HO → Prop} (hn : ∀ u, P u → ∀ xs, u ≠ .tup xs)
    (he : ∀ σ H1, W.R H H1 → Ok W H1 σ ds → ∀ Q : VK, (∀ p H2 H3 u, W.R H1 H2 → H2 p = none → Same H2 H3 → H3 p = some u → P u → Q (.ref p) H3) → tw X e σ H1 Q)
    (k : ∀ p u H2 H3, W.R H H2 → H2 p = none → Same H2 H3 → H3 p = some u → P u → SS (W.add p) X rest D (ds.set i (.r (.ref p))) H3) (hN : X.N.Nodup) (hi : X.N[i]? = some x := by rfl) (hx : Loc X.env.scope x := by first | exact Or.inl rfl | exact Or.inr rfl)
    (hs : swapsWith e (some (.Name x pos')) pos.line X.env = pure false := by rfl) (hf : X.fn x = true ∨ X.env.scope.names.lookup x = some .local := by first | exact .inl rfl | exact .inr rfl) : SS W X (.Assign [.Name x pos'] e pos :: rest) D ds H := fun σ H1 r ok =>
  tws_of (pss_cons (ps_set hN hi hx tw_pe hs hf) tws_pss) (he σ H1 r ok _ fun p H2 H3 u r2 hp sm hu pu => by
    refine k p u H2 H3 (W.trans r r2) hp sm hu pu _ _ ((W.add p).refl _) ?_
    have ok2 := ok.mono r2
    have ok3 : Ok (W.add p) H3 σ ds := ⟨ok2.sd.keep fun a o m e => ⟨fun z => z.elim m (fun z => by rw [z, hp] at e; cases e), sm a o e⟩, fun a m => by
        rcases m with m | m
        · obtain ⟨o, e1, e2⟩ := ok2.tr a m
          exact ⟨o, sm a o e1, e2⟩
        · rw [m]; exact ⟨u, hu, hn u pu⟩⟩
    exact ok3.set i (x := .r (.ref p)) rfl)
/-- a promise of a def that gives a new object -/
def spN (R : List Ds → (HO → Prop) → Prop) : Sp := fun vs H Q _ => ∃ (M : Ms) (as : List Ds) (P : HO → Prop), (∀ a, M a → Nt (H a)) ∧ R as P ∧ VAll M H vs as ∧ ∀ a H' u, Same H H' → H a = none → H' a = some u → P u → Q (.ref a) H'
theorem call_new {x : Str} {kn : Nat} {R : List Ds → (HO → Prop) → Prop} {p : Pos} {z : Ds} {P : HO → Prop} (c : Cal X.prog X.w X.K X.mg X.base x kn (spN R)) (hr : Room kn X.A) (ha : EE W X e ds H (Is z)) (h : R [z] P)
    (hg : Gl X x := by rfl) (hdb : (x == ("__debug__" : Str)) = false := by decide) (he : starEach [e] X.env = (false, eval e X.env) :: starEach [] X.env := by rfl) (hpl : (backTo pos (starEach [] X.env)).any (·.1) = false := by rfl) :
    ∀ σ H1, W.R H H1 → Ok W H1 σ ds → ∀ Q : VK, (∀ p H2 H3 u, W.R H1 H2 → H2 p = none → Same H2 H3 → H3 p = some u → P u → Q (.ref p) H3) → tw X (.Call (.Name x p) [e] [] pos) σ H1 Q := fun σ H1 r ok Q q => by
  obtain ⟨f, fd, ps, F, hm, hk, hb⟩ := c.ex
  exact tw_of (pe_call F hr hg hm hk hb .nil pass0 (pa_cons tw_pe pa_nil he) hdb he hpl) (ha σ H1 r ok _ fun v H2 y r2 ey hv => by
    cases ey
    exact ⟨W.M, [z], P, (ok.mono r2).tr, h, .cons hv .nil, fun a H' u s hn e pu => q a H2 H' u r2 hn s e pu⟩)
theorem cal_N {P : Program} {w : World} {K : PySem.W.Frag} {mg : Str → Option Value} {base : Heap} {x : Str} {st : Stmt} {N ps : List Str} {k : Nat} {R : List Ds → (HO → Prop) → Prop} (D : DefAt K mg x st) (S : FnScope N ps (defScope st))
    (hb : ∀ (kV doc pm : Value) (an : Option Addr) (cdv ct : Value) (us : List Value), us.length = ps.length → bindArgs (PySem.W.fnOf x x (defArgs st) (defBody st) (defScope st) .none kV doc pm an cdv ct) ⟨us, []⟩ = pure (ps.zip us))
    (len : ∀ xs C, R xs C → xs.length = ps.length)
    (body : ∀ (f : Addr) (cdv : Value) (A : Around) (outer : List Env) (s : Shared) (H0 : Hp) (E : XK) (M : Ms) (xs : List Ds) (C : HO → Prop) (D : Ends), Room k (XX P w K mg base N x st f cdv A outer s H0 E).A → R xs C →
      (∀ a H' u, Same H0 H' → H0 a = none → H' a = some u → C u → D.rt (.ref a) H') → (∀ a, M a → Nt (H0 a)) →
      SS (pur M) (XX P w K mg base N x st f cdv A outer s H0 E) (defBody st) D (xs ++ List.replicate (N.length - xs.length) .u) H0) : Cal P w K mg base x (k + 1) (spN R) := by
  refine cal_S D S hb (fun vs H Q E ⟨M, as, C, tr, r, hv, _⟩ => by rw [hv.length]; exact len as C r) fun f cdv A outer s H vs Q E hr ⟨M, as, C, tr, r, hv, q⟩ => ?_
  exact body f cdv A outer s H E M as C _ hr r (fun a H' u s' hn e cx => q a H' u s' hn e cx) tr (L2.start N vs) H (Same.refl H) (start_ok (W := pur M) hv tr)
theorem s1_forM {α : Type} {as : List α} {g : α → Ds} {dz : α → List Ds → List Ds} (Iv : List α → List Ds → Hp → Prop) (hi : EI W X tg iter ds H (Is (as.map g)))
    (h0 : ∀ H1, W.R H H1 → Iv [] ds H1)
    (hg : ∀ done a ds' H', Iv done ds' H' → a ∈ as → EH W X tg ds' (g a) (dz a ds'))
    (hb : ∀ done a todo ds' Hi H', as = done ++ a :: todo → Iv done ds' Hi → W.R Hi H' → Kq W Hi H' → SS W X body { D with nx := Nx W (Iv (done ++ [a])) Hi, ct := Nx W (Iv (done ++ [a])) Hi, bk := D.nx } (dz a ds') H')
    (hd : ∀ ds' H' σ, Iv as ds' H' → Ok W H' σ ds' → D.nx σ H')
    (hc : X.calm = true := by rfl) (hp : PassesOwn (model X.prog X.w) X.A X.env X.xe := by exact PassesOwn.never)
    (hs : ∀ x, foldedSetIterable iter X.env x = pure x := by intro _; rfl) : S1 W X (.For tg iter body [] pos) D ds H := by
  have key : ∀ (i : Nat) (x : Ds), (as.map g)[i]? = some x → ∃ a, as[i]? = some a ∧ x = g a := by
    intro i x hx
    rw [List.getElem?_map] at hx
    cases e : as[i]? with
    | none => rw [e] at hx; cases hx
    | some a => rw [e] at hx; cases hx; exact ⟨a, rfl, rfl⟩
  refine s1_for (dz := fun i ds' => match as[i]? with | some a => dz a ds' | none => ds') (fun i => Iv (as.take i)) hi hc hp h0 ?_ ?_ ?_ hs
  · rintro i x ds' hx ⟨H', iv⟩
    obtain ⟨a, ea, rfl⟩ := key i x hx
    simp only [ea]
    exact hg _ a ds' H' iv (List.mem_of_getElem? ea)
  · intro i x ds' Hi H' hx iv sm kp
    obtain ⟨a, ea, rfl⟩ := key i x hx
    simp only [ea]
    have et : as.take (i + 1) = as.take i ++ [a] := by rw [List.take_succ, ea]; rfl
    rw [et]
    have hlt := (List.getElem?_eq_some_iff.mp ea).1
    refine hb (as.take i) a (as.drop (i + 1)) ds' Hi H' ?_ iv (W.ex sm) kp.kq
    have : as.drop i = a :: as.drop (i + 1) := by
      rw [List.drop_eq_getElem_cons hlt]
      congr 1
      exact (List.getElem?_eq_some_iff.mp ea).2
    rw [← this, List.take_append_drop]
  · intro ds' H' σ iv ok
    rw [List.length_map, List.take_length] at iv
    exact hd ds' H' σ iv ok
/-- {text: None} -/
theorem new_disp1 (hR : ∀ H H', W.R H H' → Same H H') {z : Str} {kp np dp : Pos} {j : Nat} {x : Str} (hk : EE W X (.Name x kp) ds H (Is (.d (.str z)))) : ∀ σ H1, W.R H H1 → Ok W H1 σ ds → ∀ Q : VK, (∀ p H2 H3 u, W.R H1 H2 → H2 p = none → Same H2 H3 → H3 p = some u → u = .dK [(Sum.inr z, .non)] → Q (.ref p) H3) → tw X (.Dict [some (.Name x kp)] [.Constant .none j np] dp) σ H1 Q := fun σ H1 r ok Q q => by
  refine tw_of (pe_disp (pps_cons tw_pe pe_non pps_nil) rfl rfl (by simp) (by simp)) fun p hp => ?_
  have ok2 : Ok W (upd H1 p (.dK [])) σ ds := ok.mono (W.ex (same_new hp))
  refine hk σ _ (W.trans r (W.ex (same_new hp))) ok2 _ fun v H2 y r2 ey hv => ?_
  cases ey
  cases hv
  have s2 := hR _ _ r2
  refine ⟨s2 _ _ upd_same, [(Sum.inr z, .non)], rfl, by simp, ?_⟩
  refine q p H1 _ _ (W.refl _) hp ?_ upd_same rfl
  intro b o e
  have nb : b ≠ p := fun z => by rw [z, hp] at e; cases e
  rw [upd_ne nb]
  exact s2 b o (by rw [upd_ne nb]; exact e)
end
end NP

namespace NP
open PySem PySem.Spec L2
/-! ### a list from which is drawn -/
/-- the drawing list stands at fl, the cells at c -/
def FlowOk (c fl : Addr) (H : Hp) : Prop := ∃ (ns : List Int) (i x2 x3 x4 : Int), c ≠ fl ∧ ns.length ≤ sizeLine ∧ H c = some (.lst (ns.map .int)) ∧ H fl = some (.lst [.ref c, .int i, .int x2, .int x3, .int x4]) ∧ 0 ≤ i ∧ 0 ≤ x2 ∧ 0 ≤ x3 ∧ x3 < 2147483647 ∧ 0 ≤ x4
def Rfl (c fl : Addr) (H H' : Hp) : Prop := (∀ a o, a ≠ fl → H a = some o → H' a = some o) ∧ (FlowOk c fl H → FlowOk c fl H') ∧ (Nt (H fl) → Nt (H' fl))
theorem FlowOk.nt {c fl : Addr} {H : Hp} (h : FlowOk c fl H) : Nt (H fl) := by
  obtain ⟨ns, i, x2, x3, x4, _, _, _, e, _⟩ := h
  exact ⟨_, e, by intro _ z; cases z⟩
theorem FlowOk.keep {c fl : Addr} {H H' : Hp} (h : FlowOk c fl H) (k : ∀ o, H c = some o → H' c = some o) (k2 : ∀ o, H fl = some o → H' fl = some o) : FlowOk c fl H' := by
  obtain ⟨ns, i, x2, x3, x4, h1, h2, h3, h4, h5⟩ := h
  exact ⟨ns, i, x2, x3, x4, h1, h2, k _ h3, k2 _ h4, h5⟩
theorem FlowOk.som {c fl : Addr} {H : Hp} (h : FlowOk c fl H) : H c ≠ none ∧ H fl ≠ none := by
  obtain ⟨ns, i, x2, x3, x4, h1, h2, h3, h4, h5⟩ := h
  rw [h3, h4]
  exact ⟨(by intro z; cases z), (by intro z; cases z)⟩
def dr (M : Ms) (c fl : Addr) : Wd where
  M := fun a => M a ∨ a = fl
  F := fun a => a = fl
  R := Rfl c fl
  refl := fun H => ⟨fun _ _ _ e => e, id, id⟩
  trans := fun h k => ⟨fun a o n e => k.1 a o n (h.1 a o n e), fun f => k.2.1 (h.2.1 f), fun f => k.2.2 (h.2.2 f)⟩
  ex := fun s => ⟨fun a o _ e => s a o e, fun f => f.keep (fun o e => s _ _ e) (fun o e => s _ _ e), fun ⟨u, e, n⟩ => ⟨u, s _ _ e, n⟩⟩
  keep := fun h a o n e => h.1 a o n e
  tr := fun {H H'} h a ⟨u, e, n⟩ => by
    by_cases q : a = fl
    · rw [q] at e ⊢; exact h.2.2 ⟨u, e, n⟩
    · exact ⟨u, h.1 a u q e, n⟩
  sub := fun a f => .inr f
  chg := fun {H0 H H' l} r h0 k hl => by
    have ne : ∀ a o, H0 a = some o → a ≠ l := fun a o e z => by rw [z, h0] at e; cases e
    refine ⟨fun a o n e => k a o (ne a o e) (r.1 a o n e), fun f => ?_, fun f => ?_⟩
    · have f2 := r.2.1 f
      obtain ⟨s1, s2⟩ := f.som
      have n1 : c ≠ l := fun z => s1 (by rw [z]; exact h0)
      have n2 : fl ≠ l := fun z => s2 (by rw [z]; exact h0)
      exact f2.keep (fun o e => k _ _ n1 e) (fun o e => k _ _ n2 e)
    · obtain ⟨u, e, _⟩ := id f
      have n2 := ne _ _ e
      obtain ⟨u2, e2, t2⟩ := r.2.2 f
      exact ⟨u2, k _ _ n2 e2, t2⟩
theorem FlowOk.r {M : Ms} {c fl : Addr} {H H' : Hp} (h : FlowOk c fl H) (r : (dr M c fl).R H H') : FlowOk c fl H' := r.2.1 h
theorem FlowOk.upd {c fl l : Addr} {H : Hp} {u : HO} (h : FlowOk c fl H) (n1 : c ≠ l) (n2 : fl ≠ l) : FlowOk c fl (L2.upd H l u) := h.keep (fun o e => by rw [upd_ne n1]; exact e) (fun o e => by rw [upd_ne n2]; exact e)
/-- a world in which the drawing list may be drawn from -/
structure Dw (W : Wd) (c fl : Addr) : Prop where
  m : W.M fl
  r : ∀ H H', W.R H H' ↔ Rfl c fl H H'
theorem Dw.dr (M : Ms) (c fl : Addr) : Dw (NP.dr M c fl) c fl := ⟨.inr rfl, fun _ _ => Iff.rfl⟩
theorem Dw.add {W : Wd} {c fl : Addr} (h : Dw W c fl) (l : Addr) : Dw (W.add l) c fl := ⟨.inl h.m, h.r⟩
/-- a promise of a def that draws: its first argument is the drawing list -/
def spD (R : List Ds → (Ds → Prop) → Prop) : Sp := fun vs H Q _ => ∃ (M : Ms) (c fl : Addr) (as : List Ds) (P : Ds → Prop), FlowOk c fl H ∧ (∀ a, M a → Nt (H a)) ∧ R as P ∧ VAll (fun a => M a ∨ a = fl) H vs (.r (.ref fl) :: as) ∧ ∀ v H' x, Rfl c fl H H' → P x → Val (fun a => M a ∨ a = fl) H' v x → Q v H'
section
variable {W : Wd} {X : Cx} {e a b o k tg iter : Expr} {es : List Expr} {ds : List Ds} {H H' : Hp} {pos p apos pos' p2 p3 p4 : Pos} {A B C : Ds → Prop} {D : Ends} {rest body els : List Stmt}
theorem e_draw {x : Str} {kn : Nat} {R : List Ds → (Ds → Prop) → Prop} {p : Pos} {xs : List Ds} {c fl : Addr} (hW : Dw W c fl) (cl : Cal X.prog X.w X.K X.mg X.base x kn (spD R)) (hr : Room kn X.A) (hf : FlowOk c fl H) (ha : EA W X (e :: es) ds H (Is (.r (.ref fl) :: xs))) (h : R xs C)
    (hg : Gl X x := by rfl) (hdb : (x == ("__debug__" : Str)) = false := by decide) (he : starEach (e :: es) X.env = (false, eval e X.env) :: starEach es X.env := by rfl) (hpl : (backTo pos (starEach es X.env)).any (·.1) = false := by rfl) :
    EE W X (.Call (.Name x p) (e :: es) [] pos) ds H C := fun σ H1 r1 ok Q q => by
  obtain ⟨f, fd, ps, F, hm, hk, hb⟩ := cl.ex
  exact tw_of (pe_call F hr hg hm hk hb .nil pass0 twa_pa hdb he hpl) (ha σ H1 r1 ok _ fun vs H2 ys r2 ey hvs => by
    cases ey
    rw [List.append_nil]
    have r12 := (hW.r _ _).mp (W.trans r1 r2)
    have kk : ∀ (H : Hp) (a : Addr) (o : HO), ¬ W.M a → H a = some o → ¬ (W.M a ∨ a = fl) ∧ H a = some o := fun H a o m e => ⟨fun z => z.elim m (fun z => m (by rw [z]; exact hW.m)), e⟩
    refine ⟨W.M, c, fl, xs, C, r12.2.1 hf, (ok.mono r2).tr, h, hvs.keep (kk H2), fun v H' y s cx hv => q v H' y (W.trans r2 ((hW.r _ _).mpr s)) cx (hv.keep fun a o m e => ⟨fun z => m (.inl z), e⟩)⟩)
end
theorem cal_D {P : Program} {w : World} {K : PySem.W.Frag} {mg : Str → Option Value} {base : Heap} {x : Str} {st : Stmt} {N ps : List Str} {k : Nat} {R : List Ds → (Ds → Prop) → Prop} (D : DefAt K mg x st) (S : FnScope N ps (defScope st))
    (hb : ∀ (kV doc pm : Value) (an : Option Addr) (cdv ct : Value) (us : List Value), us.length = ps.length → bindArgs (PySem.W.fnOf x x (defArgs st) (defBody st) (defScope st) .none kV doc pm an cdv ct) ⟨us, []⟩ = pure (ps.zip us))
    (len : ∀ xs C, R xs C → xs.length + 1 = ps.length)
    (body : ∀ (f : Addr) (cdv : Value) (A : Around) (outer : List Env) (s : Shared) (H0 : Hp) (E : XK) (M : Ms) (c fl : Addr) (xs : List Ds) (C : Ds → Prop) (D : Ends), Room k (XX P w K mg base N x st f cdv A outer s H0 E).A → R xs C → FlowOk c fl H0 →
      (∀ v H' x, Rfl c fl H0 H' → C x → Val (dr M c fl).M H' v x → D.rt v H') → (∀ σ H' , Rfl c fl H0 H' → C (.d .none) → D.nx σ H') → (∀ a, M a → Nt (H0 a)) →
      SS (dr M c fl) (XX P w K mg base N x st f cdv A outer s H0 E) (defBody st) D ((.r (.ref fl) :: xs) ++ List.replicate (N.length - (xs.length + 1)) .u) H0) : Cal P w K mg base x (k + 1) (spD R) := by
  refine cal_S D S hb (fun vs H Q E ⟨M, c, fl, as, C, _, _, r, hv, _⟩ => by rw [hv.length]; exact len as C r) fun f cdv A outer s H vs Q E hr ⟨M, c, fl, as, C, hf, tr, r, hv, q⟩ => ?_
  refine body f cdv A outer s H E M c fl as C _ hr r hf (fun v H' x s' cx hx => q v H' x s' cx hx) (fun σ H' s' cx => q .non H' _ s' cx .non) tr (L2.start N vs) H ((dr M c fl).refl H) (start_ok (W := dr M c fl) hv fun a m => ?_)
  rcases m with m | m
  · exact tr a m
  · rw [m]; exact hf.nt
section
variable {W : Wd} {X : Cx} {e a b o k tg iter : Expr} {es : List Expr} {ds : List Ds} {H H' : Hp} {pos p apos pos' p2 p3 p4 : Pos} {A B C : Ds → Prop} {D : Ends} {rest body els : List Stmt}
/-- an item of the drawing list -/
theorem e_ixF {l : Addr} {vs : List V} {i : Int} {y : Ds} {v : V} (ha : EE W X a ds H (Is (.r (.ref l)))) (hb : EE W X b ds H (Is (.d (.int i)))) (h : ∀ H', W.R H H' → H' l = some (.lst vs)) (hi : atI vs i = some v) (hy : ∀ H', W.R H H' → Val W.M H' v y) (hs : PlainIx b := by intro _ _; rfl) : EE W X (.Subscript a b pos) ds H (Is y) := fun σ H1 r1 ok Q q =>
  tw_of (pe_ix ix_list tw_pe tw_pe hs) (ha.at σ H1 r1 ok _ fun H2 r2 => hb σ H2 (W.trans r1 r2) (ok.mono r2) _ fun u H3 y r3 ey hu => by
    cases ey
    cases hu
    have r := W.trans (W.trans r1 r2) r3
    exact ⟨_, _, _, _, rfl, rfl, SqL.of (h H3 r), hi, q _ H3 _ (W.trans r2 r3) rfl (hy H3 r)⟩)
/-- xs[i] = e, xs a list that may be changed -/
theorem ss_ixput {l : Addr} {vs : List V} {i : Int} {j : Nat} {d : PyData} {v : V} (hl : ∀ H', W.R H H' → H' l = some (.lst vs)) (m : W.M l) (he : EE W X e ds H (Is (.d d))) (ha : EE W X a ds H (Is (.r (.ref l)))) (hb : EE W X b ds H (Is (.d (.int i)))) (hp : plain d = some v) (hi : ixN vs.length i = some j)
    (kk : ∀ H1, W.R H H1 → SS W X rest D ds (L2.upd H1 l (.lst (vs.set j v))))
    (hs : swapsWithSole [.Subscript a b pos'] e pos.line X.env = pure false := by rfl) (hw : swappedStores [.Subscript a b pos'] e X.env = pure none := by rfl) (h1 : (assignEach [.Subscript a b pos'] X.env).map (·.2) = [assign (.Subscript a b pos') X.env] := by rfl)
    (hsub : ∀ v, assign (.Subscript a b pos') X.env v = (do
      let ov ← holding [v] (eval a X.env)
      let iv ← holding [v, ov] (eval b X.env)
      standAt pos'
      holding [v, ov, iv] (setItem ov iv v)
      release [v, ov, iv] []) := by intro _; rfl) : SS W X (.Assign [.Subscript a b pos'] e pos :: rest) D ds H := fun σ H1 r ok => by
  refine tws_of (pss_cons (ps_asg tw_pe (pg_sub tw_pe tw_pe set_list hsub) hs hw h1) tws_pss) (he σ H1 r ok _ fun u H2 y r2 ey hu => ?_)
  cases ey
  cases plain_val hu hp
  refine ha.at σ H2 (W.trans r r2) (ok.mono r2) _ fun H3 r3 => hb σ H3 (W.trans (W.trans r r2) r3) ((ok.mono r2).mono r3) _ fun u2 H4 y2 r4 ey2 hy2 => ?_
  cases ey2
  cases hy2
  have rr := W.trans (W.trans (W.trans r r2) r3) r4
  exact ⟨l, vs, i, j, rfl, rfl, hl H4 rr, hi, kk H4 rr σ _ (W.refl _) ((((ok.mono r2).mono r3).mono r4).upd m (by intro _ h; cases h))⟩
end
end NP

namespace NP
open PySem PySem.Spec L2
section
variable {W : Wd} {X : Cx} {e a b o k tg iter : Expr} {es : List Expr} {ds : List Ds} {H H' : Hp} {pos p apos pos' p2 p3 p4 : Pos} {A B C : Ds → Prop} {D : Ends} {rest body els : List Stmt}
/-- a for over items that are not told beforehand -/
theorem ss_forE {α : Type} {P : List α → Prop} {g : α → Ds} {dz : α → List Ds → List Ds} (Iv : List α → List α → List Ds → Hp → Prop) (hi : EI W X tg iter ds H (fun items => ∃ as, items = as.map g ∧ P as))
    (h0 : ∀ as, P as → ∀ H1, W.R H H1 → Iv as [] ds H1)
    (hg : ∀ as, P as → ∀ done a ds' H', Iv as done ds' H' → a ∈ as → EH W X tg ds' (g a) (dz a ds'))
    (hb : ∀ as, P as → ∀ done a todo ds' Hi H', as = done ++ a :: todo → Iv as done ds' Hi → W.R Hi H' → Kq W Hi H' → SS W X body { D with nx := Nx W (Iv as (done ++ [a])) Hi, ct := Nx W (Iv as (done ++ [a])) Hi, bk := tws X rest D } (dz a ds') H')
    (hd : ∀ as, P as → ∀ ds' H', Iv as as ds' H' → (∀ a, W.M a → Nt (H' a)) → SS W X rest D ds' H')
    (hc : X.calm = true := by rfl) (hp : PassesOwn (model X.prog X.w) X.A X.env X.xe := by exact PassesOwn.never)
    (hs : ∀ x, foldedSetIterable iter X.env x = pure x := by intro _; rfl) : SS W X (.For tg iter body [] pos :: rest) D ds H := fun σ H1 r ok => by
  have tgG : PG X tg (fun v σ H Q => ∀ pins s u, Inv X pins σ H s → RelV v u → wpAny (model X.prog X.w) X.A (assign tg X.env u) (fun _ s' => ∃ σ' H', Inv X pins σ' H' s' ∧ Q σ' H') X.xe s) := ⟨fun pins s σ H v u Q I r h => h pins s u I r⟩
  refine tws_of (pss_cons (ps_for hp hc twi_pi tgG tws_pss hs) tws_pss) (hi σ H1 r ok _ fun J H2 its r2 ⟨as, ei, pas⟩ wk => ?_)
  subst ei
  refine ⟨fun i m σ' H' => m = as.length - i ∧ i ≤ as.length ∧ ∃ ds', Iv as (as.take i) ds' H' ∧ Kp W H2 H' ∧ Ok W H' σ' ds', ⟨_, rfl, Nat.zero_le _, ds, h0 as pas H2 (W.trans r r2), Kp.refl (ok.mono r2).tr, ok.mono r2⟩, ?_⟩
  rintro i m σ' H' ⟨rfl, hil, ds', iv, kp, ok'⟩
  obtain ⟨w1, w2⟩ := wk.here kp
  by_cases hlt : i < as.length
  · have ea : as[i]? = some as[i] := List.getElem?_eq_getElem hlt
    have em : (as.map g)[i]? = some (g as[i]) := by rw [List.getElem?_map, ea]; rfl
    have et : as.take (i + 1) = as.take i ++ [as[i]] := by rw [List.take_succ, ea]; rfl
    refine .inr ⟨(w1 i _ em).1, Nx W (Iv as (as.take (i + 1))) H', fun σ3 H3 ⟨ds3, iv3, kp3, ok3⟩ => ⟨as.length - (i + 1), by omega, rfl, hlt, ds3, iv3, kp.trans kp3, ok3⟩, fun v H4 y => ?_⟩
    obtain ⟨sm, hv⟩ := (w1 i _ em).2 v H4 y
    have rr := W.ex sm
    intro pins s u I rv
    obtain ⟨gg, hpg, go⟩ := hg as pas (as.take i) as[i] ds' H' iv (List.getElem_mem _)
    refine hpg.run pins s σ' H4 v u _ I rv (go σ' H4 v _ (ok'.mono rr) hv fun σ5 ok5 => ?_)
    have hbb := hb as pas (as.take i) as[i] (as.drop (i + 1)) ds' H' H4 (by rw [← List.drop_eq_getElem_cons hlt, List.take_append_drop]) iv rr (Kp.of rr ok'.tr).kq
    rw [← et] at hbb
    exact hbb σ5 H4 (W.refl _) ok5
  · have e : i = as.length := by omega
    subst e
    rw [List.take_length] at iv
    rw [List.length_map] at w2
    exact .inl ⟨w2, hd as pas ds' H' iv ok'.tr σ' H' (W.refl _) ok'⟩
/-- range of a number that is not told -/
theorem ei_rangeP {P : Nat → Prop} (hm : X.mg "range" = none) (he : EE W X e ds H (fun y => ∃ n : Nat, y = .d (.int n) ∧ P n)) (hn : ∀ n, P n → n ≤ 16777216) (hg : Gl X "range" := by rfl) (hs1 : starEach [e] X.env = (false, eval e X.env) :: starEach [] X.env := by rfl) (hs : starEach [e] X.env = [(false, eval e X.env)] := by rfl) :
    EI W X tg (.Call (.Name "range" p) [e] [] pos) ds H (fun items => ∃ as : List Nat, items = as.map (fun i => .d (.int i)) ∧ ∃ n, as = List.range n ∧ P n) := fun σ H1 r ok R q =>
  ei_range (P := P) hm (he.imp fun y ⟨n, ey, pn⟩ => ⟨n, ey, by have := hn n pn; omega, pn⟩) hg hs1 hs σ H1 r ok R fun J H2 items r2 ⟨n, e1, pn⟩ wk => q J H2 items r2 ⟨List.range n, e1, n, rfl, pn⟩ wk
/-- an item of a list, of a tuple, the place not told -/
theorem e_ixLP {xs : List PyData} {P : Nat → Prop} (ha : EE W X a ds H (Is (.d (.list xs)))) (hb : EE W X b ds H (fun y => ∃ j : Nat, y = .d (.int j) ∧ P j)) (hp : ∀ j, P j → j < xs.length) (hs : PlainIx b := by intro _ _; rfl) : EE W X (.Subscript a b pos) ds H (fun y => ∃ j d, xs[j]? = some d ∧ P j ∧ y = .d d) :=
  fun σ H1 r1 ok Q q => tw_of (pe_ix ix_list tw_pe tw_pe hs) (op_go ha hb (fun x y e1 ⟨j, e2, pj⟩ => by
    cases e1
    subst e2
    have hj := hp j pj
    have e : atI xs (j : Int) = some xs[j] := by
      unfold atI ixN
      rw [if_pos (by omega), if_pos (by omega)]
      exact List.getElem?_eq_getElem hj
    exact fun v u H1 tr hv hu Q q => rd_ixL e v u H1 tr hv hu Q fun z H2 c r hc hz => q z H2 c r ⟨j, xs[j], List.getElem?_eq_getElem hj, pj, hc⟩ hz) r1 ok q)
/-- a number == a number, neither told -/
theorem et_eqU (ha : EE W X a ds H (fun y => ∃ i : Int, y = .d (.int i))) (hb : EE W X b ds H (fun y => ∃ i : Int, y = .d (.int i))) : ET W X (.Compare a [.Eq] [b] pos) ds H (fun _ => True) :=
  et_cmp op_eq ha hb fun x y ⟨i, e1⟩ ⟨j, e2⟩ => by
    subst e1 e2
    exact fun v u H1 tr hv hu Q q => rd_eqI v u H1 tr hv hu Q fun z H2 c r hc hz => q z H2 c r ⟨_, hc, trivial⟩ hz
theorem lcR_each {T : Ds → Bool → Prop} {G : Ds → PyData → Prop} {xs : List Ds} {out : List PyData} (h : LcR T G xs out) : ∀ d ∈ out, ∃ x ∈ xs, G x d := by
  induction h with
  | nil => intro d hd; cases hd
  | skip _ _ ih => intro d hd; obtain ⟨x, h1, h2⟩ := ih d hd; exact ⟨x, by simp [h1], h2⟩
  | take _ _ g ih =>
    intro d hd
    rcases List.mem_append.mp hd with hd | hd
    · obtain ⟨x, h1, h2⟩ := ih d hd; exact ⟨x, by simp [h1], h2⟩
    · simp at hd; subst hd; exact ⟨_, by simp, g⟩
/-- in the world of a def that draws: the base, told after a change at an own object -/
theorem rfl_upd {c fl l : Addr} {H0 H : Hp} {u : HO} (r : Rfl c fl H0 H) (h0 : H0 l = none) (hu : ∀ xs, u ≠ .tup xs) : Rfl c fl H0 (L2.upd H l u) := (dr (fun _ => False) c fl).chg (H := H) r h0 (fun a o n e => by rw [upd_ne n]; exact e) (by rw [upd_same]; exact ⟨u, rfl, hu⟩)
theorem lb_nt {M : Ms} {H : Hp} {l : Addr} {u : HO} {xs : List PyData} (h : LB M (L2.upd H l u) l xs) : ∀ ys, u ≠ .tup ys := fun ys z => by
  obtain ⟨vs, e, _⟩ := h
  rw [upd_same, z] at e
  cases e
theorem rfl_none {c fl l : Addr} {H0 H : Hp} (r : Rfl c fl H0 H) (h1 : H l = none) (hf : FlowOk c fl H0) : H0 l = none := by
  cases e : H0 l with
  | none => rfl
  | some o =>
    by_cases n : l = fl
    · obtain ⟨_, s2⟩ := (r.2.1 hf).som
      rw [n] at h1; exact absurd h1 s2
    · rw [r.1 l o n e] at h1; cases h1
end
end NP

namespace NQ
open PySem PySem.Spec L2 NP
def top (i : Nat) : Stmt := PySem.Challenge.pw_newletters_k63_whole_rows_led_and_made_s.main.body.getD i (.Pass ⟨0, 0, 0, 0⟩)
def dfs : List (Str × Nat) := ([("letters_of", 2), ("contrary", 3), ("place_of", 4), ("laid_out", 6), ("turned_back", 7), ("word_key", 8), ("middle_of", 10), ("first_begin", 11), ("ring_of", 12), ("told_letters", 14), ("retold", 15), ("ring_retold", 16), ("tie_of", 19), ("ties_of", 20), ("count_of", 21), ("rooms_of", 23), ("reached_from", 24), ("way_to", 25), ("left_over", 26), ("ties_leaving", 28), ("least_side", 29), ("told_by_change", 31), ("change_told", 32), ("rings_changed", 33), ("length_of", 34), ("length_behind", 35), ("step_told", 37), ("change_back", 38), ("exchange_back", 39), ("step_back", 40), ("road_back", 41), ("rows_along", 42), ("made_shorter", 44), ("made_short", 45), ("_law_flow", 47), ("_law_pick", 48), ("_law_alike", 49), ("_law_letters", 50), ("_law_contrary", 51), ("_law_key", 52), ("_law_back", 53), ("_law_laid", 54), ("_law_word", 55), ("_law_ring", 56), ("_law_retold", 57), ("_law_rings_retold", 58), ("_law_length", 59), ("_law_drawn_change", 60), ("_law_change_told", 61), ("_law_row", 62), ("_law_exchange", 63), ("_law_any_row", 64), ("_law_drawn_step", 65), ("_law_step_told", 66), ("_law_walked", 67), ("_law_steps", 68), ("_law_falls", 69), ("law", 70)] : List (String × Nat)).map fun p => (Str.ofString p.1, p.2)
def frs : List Str := ["len", "tuple", "sorted", "min", "max", "range", "enumerate", "zip", "reversed", "sum", "list", "isinstance", "all", "int", "bool"]
structure Gs (K : PySem.W.Frag) (mg : Str → Option Value) : Prop where
  df : ∀ (i : Nat) (d : Str × Nat), dfs[i]? = some d → DefAt K mg d.1 (top d.2)
  fr : ∀ (i : Nat) (x : Str), frs[i]? = some x → mg x = none
  al : ∃ t, mg "ALL_LETTERS" = some (.str "aAbBcCdD" t)
  od : ∃ t, mg "ORDER" = some (.str "aAbBcCdD" t)

/-! ### words as texts -/
abbrev Lt := NL.L
def code (x : Lt) : Nat := [97, 65, 98, 66, 99, 67, 100, 68].getD x.val 97
def enc (w : NL.W) : Str := ⟨(w.map code).toArray⟩
/-- a word, a letter as data -/
abbrev dW (w : NL.W) : PyData := .str (enc w)
abbrev dL (x : Lt) : PyData := .str (enc [x])
def lettersOf (n : Nat) : List Lt := (List.finRange 8).take (2 * n)
theorem enc_len (w : NL.W) : (enc w).length = w.length := by show (w.map code).toArray.size = _; simp
theorem enc_inj {u w : NL.W} (h : enc u = enc w) : u = w := by
  have h1 : (u.map code).toArray = (w.map code).toArray := congrArg Str.cps h
  have h2 : u.map code = w.map code := by simpa using congrArg Array.toList h1
  have inj : ∀ x y : Lt, code x = code y → x = y := by decide
  clear h h1
  induction u generalizing w with
  | nil => cases w with
    | nil => rfl
    | cons => cases h2
  | cons x u ih => cases w with
    | nil => cases h2
    | cons y w =>
      simp only [List.map_cons, List.cons.injEq] at h2
      rw [inj x y h2.1, ih h2.2]
theorem enc_cps (w : NL.W) : (enc w).cps.toList = w.map code := by simp [enc]
theorem signs_enc (w : NL.W) : signs (enc w) = w.map dL := by
  unfold signs
  rw [enc_cps, List.map_map]
  rfl
theorem all_eq : ("aAbBcCdD" : Str) = enc (List.finRange 8) := by decide +kernel

end NQ

namespace NQ
open PySem PySem.Spec L2 NP
open NL (inv red invw mid Red)
theorem enc_append (u w : NL.W) : enc u ++ enc w = enc (u ++ w) := by
  show (⟨(enc u).cps ++ (enc w).cps⟩ : Str) = _
  simp [enc]
theorem enc_cps_len (w : NL.W) : (enc w).cps.size = w.length := enc_len w
theorem join_enc (ws : List NL.W) : Txt.join "" (ws.map enc) = enc ws.flatten := by
  have key : ∀ (ws : List NL.W) (u : NL.W), (ws.map enc).foldl (fun acc p => acc ++ ("" : Str).cps ++ p.cps) (enc u).cps = (enc (u ++ ws.flatten)).cps := by
    intro ws
    induction ws with
    | nil => intro u; simp
    | cons w ws ih =>
      intro u
      have e : (enc u).cps ++ ("" : Str).cps ++ (enc w).cps = (enc (u ++ w)).cps := by
        have : ("" : Str).cps = #[] := rfl
        rw [this]
        simp [enc]
      rw [List.map_cons, List.foldl_cons, e, ih]
      simp
  cases ws with
  | nil => rfl
  | cons w ws =>
    show (⟨((w :: ws).map enc |>.drop 1).foldl (fun acc p => acc ++ ("" : Str).cps ++ p.cps) (((w :: ws).map enc).headD Str.empty).cps⟩ : Str) = _
    have := key ws w
    show (⟨(ws.map enc).foldl (fun acc p => acc ++ ("" : Str).cps ++ p.cps) (enc w).cps⟩ : Str) = _
    rw [this]
    rfl
theorem enc_sum (ws : List NL.W) : ((ws.map enc).map (·.length)).sum = ws.flatten.length := by
  rw [List.map_map, List.length_flatten]
  congr 1
  apply List.map_congr_left
  intro w _
  exact enc_len w
/-! slices -/
def cutL {α : Type} (w : List α) (lo hi : Option Int) : List α := (w.drop (HT.sIx w.length 0 lo)).take (HT.sIx w.length w.length hi - HT.sIx w.length 0 lo)
theorem cutS_enc (w : NL.W) (lo hi : Option Int) : cutS (enc w) lo hi = enc (cutL w lo hi) := by
  unfold cutS cutL
  rw [enc_len, enc_cps]
  simp [enc]
theorem cutL_from {α : Type} (w : List α) (k : Nat) : cutL w (some (k : Int)) none = w.drop k := by
  unfold cutL
  rw [HT.sIx_nat, HT.sIx_none]
  by_cases h : k ≤ w.length
  · rw [Nat.min_eq_left h, List.take_of_length_le (by simp)]
  · rw [Nat.min_eq_right (by omega), List.drop_eq_nil_of_le (Nat.le_refl _), List.drop_eq_nil_of_le (by omega)]; simp
theorem cutL_to {α : Type} (w : List α) (k : Nat) : cutL w none (some (k : Int)) = w.take k := by
  unfold cutL
  rw [HT.sIx_nat, HT.sIx_none, List.drop_zero, Nat.sub_zero]
  by_cases h : k ≤ w.length
  · rw [Nat.min_eq_left h]
  · rw [Nat.min_eq_right (by omega), List.take_length, List.take_of_length_le (by omega)]
theorem cutL_in {α : Type} (w : List α) (i j : Nat) (h : i ≤ j) (hj : j ≤ w.length) : cutL w (some (i : Int)) (some (j : Int)) = (w.drop i).take (j - i) := by
  unfold cutL
  rw [HT.sIx_nat, HT.sIx_nat, Nat.min_eq_left hj, Nat.min_eq_left (show i ≤ w.length by omega)]
theorem cutL_inner {α : Type} (w : List α) (h : 1 < w.length) : cutL w (some 1) (some (-1)) = w.tail.dropLast := by
  unfold cutL HT.sIx
  have e1 : ((-1 : Int) + (w.length : Int)).toNat = w.length - 1 := by omega
  have e2 : min (1 : Int).toNat w.length = 1 := by show min 1 w.length = 1; omega
  simp only [show ¬ ((1 : Int) < 0) by omega, show ((-1 : Int) < 0) by omega, if_true, if_false, e1, e2]
  rw [List.dropLast_eq_take, List.length_tail, List.drop_one]
/-! places -/
theorem atI_nat {α : Type} (w : List α) (i : Nat) : atI w (i : Int) = w[i]? := by
  unfold atI ixN
  by_cases h : i < w.length
  · rw [if_pos (by omega), if_pos (by omega)]; rfl
  · rw [if_pos (by omega), if_neg (by omega), List.getElem?_eq_none (by omega)]; rfl
theorem atI_last {α : Type} (w : List α) (h : w ≠ []) : atI w (-1) = w.getLast? := by
  have hl : 0 < w.length := List.length_pos_iff.mpr h
  unfold atI ixN
  rw [if_neg (by omega), if_pos (by omega)]
  have e : ((-1 : Int) + (w.length : Int)).toNat = w.length - 1 := by omega
  rw [e, List.getLast?_eq_getElem?]; rfl
theorem atI_enc {w : NL.W} {i : Int} {x : Lt} (h : atI w i = some x) : atI (enc w).cps.toList i = some (code x) := by
  rw [enc_cps]
  unfold atI at h ⊢
  rw [List.length_map]
  cases hx : ixN w.length i with
  | none => rw [hx] at h; cases h
  | some j =>
    rw [hx] at h
    show (w.map code)[j]? = _
    rw [List.getElem?_map]
    have : w[j]? = some x := h
    rw [this]; rfl
theorem one_enc (x : Lt) : (⟨#[code x]⟩ : Str) = enc [x] := rfl
/-! letters -/
theorem lower_facts : ∀ x : Lt, (Txt.islower (enc [x]) = true → Txt.upper (enc [x]) = enc [inv x]) ∧ (Txt.islower (enc [x]) = false → Txt.lower (enc [x]) = enc [inv x]) := by decide +kernel
theorem islower_enc : ∀ x : Lt, Txt.islower (enc [x]) = decide (x.val % 2 = 0) := by decide +kernel
theorem isupper_enc : ∀ x : Lt, Txt.isupper (enc [x]) = decide (x.val % 2 = 1) := by decide +kernel
theorem place_enc : ∀ x : Lt, Builtin.Str.occurrences "aAbBcCdD" (enc [x]) 0 ("aAbBcCdD" : Str).length 1 = [x.val] := by decide +kernel
theorem enc1_eq {x y : Lt} : (enc [x] = enc [y]) = (x = y) := propext ⟨fun h => by have := enc_inj h; simpa using this, fun h => by rw [h]⟩
/-! free reduction from the left -/
def push (s : NL.W) (x : Lt) : NL.W := if s.getLast? = some (inv x) then s.dropLast else s ++ [x]
theorem push_red {s : NL.W} (h : Red s) (x : Lt) : Red (push s x) ∧ red (push s x) = red (s ++ [x]) := by
  unfold push
  by_cases c : s.getLast? = some (inv x)
  · rw [if_pos c]
    obtain ⟨t, rfl⟩ : ∃ t, s = t ++ [inv x] := by
      rcases List.eq_nil_or_concat s with e | ⟨t, z, e⟩
      · subst e; cases c
      · rw [List.concat_eq_append] at e
        subst e
        rw [List.getLast?_concat] at c
        cases c
        exact ⟨t, rfl⟩
    rw [List.dropLast_concat]
    exact ⟨NL.Red.left h, by unfold red; rw [NL.ac_append, NL.ac_append]; simp⟩
  · rw [if_neg c]
    refine ⟨?_, rfl⟩
    rcases List.eq_nil_or_concat s with e | ⟨t, z, e⟩
    · subst e; exact trivial
    · rw [List.concat_eq_append] at e
      subst e
      rw [List.append_assoc]
      refine NL.Red.join (u := t) (v := [x]) (x := z) h ⟨fun e => c ?_, trivial⟩
      rw [e]; simp
theorem foldl_push (w : NL.W) : ∀ s : NL.W, Red s → w.foldl push s = red (s ++ w) := by
  induction w with
  | nil => intro s h; rw [List.append_nil, NL.red_of_Red h]; rfl
  | cons x w ih =>
    intro s h
    obtain ⟨h1, h2⟩ := push_red h x
    rw [List.foldl_cons, ih _ h1]
    have e : NL.EqF (push s x) (s ++ [x]) := NL.EqF.of_red h2
    have e2 := NL.EqF.append e (NL.EqF.refl w)
    rw [e2.red_eq, List.append_assoc]
    rfl
theorem foldl_push_nil (w : NL.W) : w.foldl push [] = red w := foldl_push w [] trivial
theorem push_len (s : NL.W) (x : Lt) : (push s x).length ≤ s.length + 1 := by
  unfold push
  split
  · simp; omega
  · simp
theorem red_len (w : NL.W) : (red w).length ≤ w.length := by
  rw [← foldl_push_nil]
  have : ∀ (w s : NL.W), (w.foldl push s).length ≤ s.length + w.length := by
    intro w
    induction w with
    | nil => intro s; simp
    | cons x w ih => intro s; rw [List.foldl_cons]; have := ih (push s x); have := push_len s x; simp; omega
  have := this w []
  simpa using this
/-! the middle -/
theorem mid_eq (w : NL.W) : mid w = if 1 < w.length ∧ w.getLast? = w.head?.map inv then mid w.tail.dropLast else w := by
  rw [mid]
  by_cases c : 1 < w.length ∧ w.getLast? = w.head?.map inv
  · rw [dif_pos c, if_pos c]
  · rw [dif_neg c, if_neg c]
theorem mid_len (w : NL.W) : (mid w).length ≤ w.length := by
  rw [mid_eq]
  split
  · rename_i h
    have := mid_len w.tail.dropLast
    simp at this
    omega
  · exact Nat.le_refl _
termination_by w.length
decreasing_by simp; omega
def inn (w : NL.W) (g : Nat) : NL.W := (w.drop g).take (w.length - 2 * g)
theorem inn_zero (w : NL.W) : inn w 0 = w := by simp [inn]
theorem inn_len (w : NL.W) (g : Nat) : (inn w g).length = w.length - 2 * g := by simp [inn]; omega
theorem inn_next (w : NL.W) (g : Nat) : (inn w g).tail.dropLast = inn w (g + 1) := by
  unfold inn
  rw [List.dropLast_eq_take, ← List.drop_one, List.drop_take, List.drop_drop, List.take_take, List.length_take, List.length_drop]
  congr 1
  omega
theorem inn_head (w : NL.W) (g : Nat) (h : 2 * g < w.length) : (inn w g).head? = w[g]? := by
  unfold inn
  rw [List.head?_eq_getElem?, List.getElem?_take_of_lt (by omega), List.getElem?_drop]; rfl
theorem inn_last (w : NL.W) (g : Nat) (h : 2 * g < w.length) : (inn w g).getLast? = w[w.length - 1 - g]? := by
  rw [List.getLast?_eq_getElem?, inn_len]
  unfold inn
  rw [List.getElem?_take_of_lt (by omega), List.getElem?_drop]
  congr 1
  omega
end NQ

namespace NQ
open PySem PySem.Spec L2 NP
open NL (inv red invw mid Red)
theorem dL_inj {x y : Lt} (h : Ds.d (dL x) = Ds.d (dL y)) : x = y := by
  have h1 : enc [x] = enc [y] := by injection h with h; injection h
  have := enc_inj h1
  simpa using this
theorem dW_inj {x y : NL.W} (h : Ds.d (dW x) = Ds.d (dW y)) : x = y := by
  have h1 : enc x = enc y := by injection h with h; injection h
  exact enc_inj h1
theorem dI_inj {x y : Nat} (h : Ds.d (.int x) = Ds.d (.int y)) : x = y := by
  injection h with h; injection h with h; omega
theorem dd_inj {x y : PyData} (h : Ds.d x = Ds.d y) : x = y := by injection h
theorem code_lt : ∀ x : Lt, code x < 0x110000 := by decide
theorem sh_W (w : NL.W) : Sh 0 (dW w) := by
  refine ⟨?_, Nat.le_refl _⟩
  show PyData.canLay0 (.str (enc w)) = true
  rw [PyData.canLay0]
  unfold PyData.strOk enc
  simp
  intro x _
  exact code_lt x
section
variable {W : Wd} {X : Cx} {e a b o k tg iter : Expr} {es : List Expr} {ds : List Ds} {H H' : Hp} {pos p apos pos' p2 p3 p4 : Pos} {A B C : Ds → Prop} {D : Ends} {rest body els : List Stmt} {u v : NL.W} {x y : Lt}
theorem _root_.NP.EI.is {a b : List Ds} (h : EI W X tg iter ds H (Is a)) (e : a = b) : EI W X tg iter ds H (Is b) := by rw [← e]; exact h
theorem _root_.NP.EI.imp {P Q : List Ds → Prop} (h : EI W X tg iter ds H P) (k : ∀ x, P x → Q x) : EI W X tg iter ds H Q := fun σ H1 r ok R q => h σ H1 r ok R fun J H2 items r2 pi wk => q J H2 items r2 (k _ pi) wk
theorem ei_rangeN {n : Nat} (hm : X.mg "range" = none) (he : EE W X e ds H (Is (.d (.int n)))) (hn : n ≤ 16777216) (hg : Gl X "range" := by rfl) (hs1 : starEach [e] X.env = (false, eval e X.env) :: starEach [] X.env := by rfl) (hs : starEach [e] X.env = [(false, eval e X.env)] := by rfl) :
    EI W X tg (.Call (.Name "range" p) [e] [] pos) ds H (Is ((List.range n).map fun (i : Nat) => .d (.int i))) :=
  EI.imp (ei_range (P := fun m => m = n) hm (he.imp fun y ey => ⟨n, ey, by omega, rfl⟩) hg hs1 hs) fun its ⟨m, e1, e2⟩ => by rw [e1, e2]; rfl
theorem sz (n : Nat) (h : n ≤ 16777216) : n ≤ sizeLine := h
theorem ei_strW (he : EE W X e ds H (Is (.d (dW u)))) : EI W X tg e ds H (Is (u.map fun x => .d (dL x))) := (ei_str he).is (by rw [enc_cps, List.map_map]; rfl)
theorem ei_revW (hm : X.mg "reversed" = none) (he : EE W X e ds H (Is (.d (dW u)))) (hz : u.length ≤ 16777216) (hg : Gl X "reversed" := by rfl) (hs : starEach [e] X.env = (false, eval e X.env) :: starEach [] X.env := by rfl) :
    EI W X tg (.Call (.Name "reversed" p) [e] [] pos) ds H (Is (u.reverse.map fun x => .d (dL x))) := (ei_revS hm he (by rw [enc_len]; exact hz) hg hs).is (by rw [enc_cps, ← List.map_reverse, List.map_map]; rfl)
theorem e_joinW {ws : List NL.W} (ho : EE W X o ds H (Is (.d (.str "")))) (ha : EE W X a ds H (Is (.d (.list (ws.map dW))))) (hl : ws.flatten.length ≤ 16777216) (hs : starEach [a] X.env = [(false, eval a X.env)] := by rfl) (hbase : attributeBase o "join" X.env (eval o X.env) = eval o X.env := by rfl) (hline : (apos.endLine == pos.line) = true := by rfl) :
    EE W X (.Call (.Attribute o "join" apos) [a] [] pos) ds H (Is (.d (dW ws.flatten))) := by
  have h := e_join (ys := ws.map enc) ho (ha.is (by rw [List.map_map]; rfl)) (by rw [enc_sum]; show _ + _ * 0 ≤ _; omega) hs hbase hline
  rwa [join_enc] at h
theorem e_joinRW {ws : List NL.W} {l : Addr} (ho : EE W X o ds H (Is (.d (.str "")))) (ha : EAt W X a ds H l) (h : LB W.M H l (ws.map dW)) (nF : ¬ W.F l) (hl : ws.flatten.length ≤ 16777216) (hs : starEach [a] X.env = [(false, eval a X.env)] := by rfl) (hbase : attributeBase o "join" X.env (eval o X.env) = eval o X.env := by rfl) (hline : (apos.endLine == pos.line) = true := by rfl) :
    EE W X (.Call (.Attribute o "join" apos) [a] [] pos) ds H (Is (.d (dW ws.flatten))) := by
  have h := e_joinR (ys := ws.map enc) ho ha (by rw [List.map_map]; exact h) nF (by rw [enc_sum]; show _ + _ * 0 ≤ _; omega) hs hbase hline
  rwa [join_enc] at h
theorem flat_one (u : NL.W) : (u.map fun x => [x]).flatten = u := by induction u with
  | nil => rfl
  | cons x u ih => simp [ih]
theorem e_lenW (hm : X.mg "len" = none) (ha : EE W X a ds H (Is (.d (dW u)))) (hz : u.length ≤ 16777216) (hg : Gl X "len" := by rfl) (he : starEach [a] X.env = (false, eval a X.env) :: starEach [] X.env := by rfl) : EE W X (.Call (.Name "len" p) [a] [] pos) ds H (Is (.d (.int u.length))) :=
  (e_lenS hm ha (by rw [enc_len]; exact hz) hg he).is (by rw [enc_len])
theorem e_catW (ha : EE W X a ds H (Is (.d (dW u)))) (hb : EE W X b ds H (Is (.d (dW v)))) (h : u.length + v.length ≤ 16777216) : EE W X (.BinOp a .Add b pos) ds H (Is (.d (dW (u ++ v)))) := (e_cat ha hb (by rw [enc_len, enc_len]; exact h)).is (by rw [enc_append])
theorem e_slW {ol oh : Option Expr} {lo hi : Option Int} (ha : EE W X a ds H (Is (.d (dW u)))) (hl : EO W X ds H ol lo) (hh : EO W X ds H oh hi) (hz : u.length ≤ 16777216) : EE W X (.Subscript a (.Slice ol oh none p2) pos) ds H (Is (.d (dW (cutL u lo hi)))) := (e_slS ha hl hh (by rw [enc_len]; exact hz)).is (by rw [cutS_enc])
theorem e_ixW {i : Int} (ha : EE W X a ds H (Is (.d (dW u)))) (hb : EE W X b ds H (Is (.d (.int i)))) (hz : u.length ≤ 16777216) (h : atI u i = some x) (hs : PlainIx b := by intro _ _; rfl) : EE W X (.Subscript a b pos) ds H (Is (.d (dL x))) := e_ixS ha hb (by rw [enc_len]; exact hz) (atI_enc h) hs
theorem et_eqL (ha : EE W X a ds H (Is (.d (dL x)))) (hb : EE W X b ds H (Is (.d (dL y)))) : ET W X (.Compare a [.Eq] [b] pos) ds H (Is (decide (x = y))) := (et_cmpI op_eq ha hb rd_eqS).is (by congr 1; exact enc1_eq)
theorem et_neL (ha : EE W X a ds H (Is (.d (dL x)))) (hb : EE W X b ds H (Is (.d (dL y)))) : ET W X (.Compare a [.NotEq] [b] pos) ds H (Is (!decide (x = y))) := (et_cmpI op_ne ha hb rd_neS).is (by congr 2; exact enc1_eq)
theorem et_lt {i j : Int} (ha : EE W X a ds H (Is (.d (.int i)))) (hb : EE W X b ds H (Is (.d (.int j)))) : ET W X (.Compare a [.Lt] [b] pos) ds H (Is (decide (i < j))) := et_cmpI op_lt ha hb rd_bl
theorem et_gt {i j : Int} (ha : EE W X a ds H (Is (.d (.int i)))) (hb : EE W X b ds H (Is (.d (.int j)))) : ET W X (.Compare a [.Gt] [b] pos) ds H (Is (decide (j < i))) := et_cmpI op_gt ha hb rd_bl
theorem et_le {i j : Int} (ha : EE W X a ds H (Is (.d (.int i)))) (hb : EE W X b ds H (Is (.d (.int j)))) : ET W X (.Compare a [.LtE] [b] pos) ds H (Is (decide (i ≤ j))) := et_cmpI op_le ha hb rd_bl
theorem et_ge {i j : Int} (ha : EE W X a ds H (Is (.d (.int i)))) (hb : EE W X b ds H (Is (.d (.int j)))) : ET W X (.Compare a [.GtE] [b] pos) ds H (Is (decide (j ≤ i))) := et_cmpI op_ge ha hb rd_bl
theorem et_eqI {i j : Int} (ha : EE W X a ds H (Is (.d (.int i)))) (hb : EE W X b ds H (Is (.d (.int j)))) : ET W X (.Compare a [.Eq] [b] pos) ds H (Is (decide (i = j))) := et_cmpI op_eq ha hb rd_eqI
theorem et_neI {i j : Int} (ha : EE W X a ds H (Is (.d (.int i)))) (hb : EE W X b ds H (Is (.d (.int j)))) : ET W X (.Compare a [.NotEq] [b] pos) ds H (Is (!decide (i = j))) := et_cmpI op_ne ha hb rd_neI
/-- one argument's call -/
theorem e_call1 {x : Str} {k : Nat} {R : List Ds → (Ds → Prop) → Prop} {p : Pos} {z : Ds} (c : Cal X.prog X.w X.K X.mg X.base x k (spP R)) (hr : Room k X.A) (ha : EE W X e ds H (Is z)) (h : R [z] C)
    (hg : Gl X x := by rfl) (hdb : (x == ("__debug__" : Str)) = false := by decide) (he : starEach [e] X.env = (false, eval e X.env) :: starEach [] X.env := by rfl) :
    EE W X (.Call (.Name x p) [e] [] pos) ds H C := e_call c hr (ea_c ha ea_nil he) h hg hdb he
theorem e_call2 {x : Str} {k : Nat} {R : List Ds → (Ds → Prop) → Prop} {p : Pos} {z z2 : Ds} {e2 : Expr} (c : Cal X.prog X.w X.K X.mg X.base x k (spP R)) (hr : Room k X.A) (ha : EE W X e ds H (Is z)) (hb : EE W X e2 ds H (Is z2)) (h : R [z, z2] C)
    (hg : Gl X x := by rfl) (hdb : (x == ("__debug__" : Str)) = false := by decide) (he : starEach [e, e2] X.env = (false, eval e X.env) :: starEach [e2] X.env := by rfl) (he2 : starEach [e2] X.env = (false, eval e2 X.env) :: starEach [] X.env := by rfl) (hpl : (backTo pos (starEach [e2] X.env)).any (·.1) = false := by rfl) :
    EE W X (.Call (.Name x p) [e, e2] [] pos) ds H C := e_call c hr (ea_c ha (ea_c hb ea_nil he2) he) h hg hdb he hpl
theorem e_call3 {x : Str} {k : Nat} {R : List Ds → (Ds → Prop) → Prop} {p : Pos} {z z2 z3 : Ds} {e2 e3 : Expr} (c : Cal X.prog X.w X.K X.mg X.base x k (spP R)) (hr : Room k X.A) (ha : EE W X e ds H (Is z)) (hb : EE W X e2 ds H (Is z2)) (hb3 : EE W X e3 ds H (Is z3)) (h : R [z, z2, z3] C)
    (hg : Gl X x := by rfl) (hdb : (x == ("__debug__" : Str)) = false := by decide) (he : starEach [e, e2, e3] X.env = (false, eval e X.env) :: starEach [e2, e3] X.env := by rfl) (he2 : starEach [e2, e3] X.env = (false, eval e2 X.env) :: starEach [e3] X.env := by rfl) (he3 : starEach [e3] X.env = (false, eval e3 X.env) :: starEach [] X.env := by rfl) (hpl : (backTo pos (starEach [e2, e3] X.env)).any (·.1) = false := by rfl) :
    EE W X (.Call (.Name x p) [e, e2, e3] [] pos) ds H C := e_call c hr (ea_c ha (ea_c hb (ea_c hb3 ea_nil he3) he2) he) h hg hdb he hpl
end
end NQ

namespace NQ
open PySem PySem.Spec L2 NP
open NL (inv red invw mid Red lexLt Rot minrot)
theorem le_trans {a b c : NL.W} (h : lexLt b a = false) (k : lexLt c b = false) : lexLt c a = false := by
  cases e : lexLt c a
  · rfl
  · exfalso
    cases e2 : lexLt a b
    · have := NL.lexLt_tri e2 h; subst this; rw [k] at e; cases e
    · rw [NL.lexLt_trans e e2] at k; cases k
theorem fold_min {β : Type} (r : β → NL.W) (lt : β → β → Bool) : ∀ (xs : List β) (x : β), (∀ a ∈ x :: xs, ∀ b ∈ x :: xs, (lt a b = true → lexLt (r b) (r a) = false) ∧ (lt a b = false → lexLt (r a) (r b) = false)) →
    xs.foldl (fun a y => if lt y a = true then y else a) x ∈ x :: xs ∧ ∀ y ∈ x :: xs, lexLt (r y) (r (xs.foldl (fun a y => if lt y a = true then y else a) x)) = false := by
  intro xs
  induction xs with
  | nil => intro x h; exact ⟨by simp, fun y hy => by simp at hy; subst hy; exact NL.lexLt_irrefl _⟩
  | cons z xs ih =>
    intro x h
    rw [List.foldl_cons]
    have hz := h z (by simp) x (by simp)
    by_cases c : lt z x = true
    · rw [if_pos c]
      obtain ⟨h1, h2⟩ := ih z fun a ha b hb => h a (List.mem_cons_of_mem _ ha) b (List.mem_cons_of_mem _ hb)
      refine ⟨List.mem_cons_of_mem _ h1, fun y hy => ?_⟩
      rcases List.mem_cons.mp hy with rfl | hy
      · exact le_trans (h2 z (by simp)) (hz.1 c)
      · exact h2 y hy
    · rw [if_neg c]
      have sub : ∀ a, a ∈ x :: xs → a ∈ x :: z :: xs := fun a ha => by
        rcases List.mem_cons.mp ha with rfl | ha
        · simp
        · simp [ha]
      obtain ⟨h1, h2⟩ := ih x fun a ha b hb => h a (sub a ha) b (sub b hb)
      refine ⟨sub _ h1, fun y hy => ?_⟩
      rcases List.mem_cons.mp hy with rfl | hy
      · exact h2 y (by simp)
      · rcases List.mem_cons.mp hy with rfl | hy
        · exact le_trans (h2 x (by simp)) (hz.2 (by simpa using c))
        · exact h2 y (List.mem_cons_of_mem _ hy)
def rotk (m : NL.W) (k : Nat) : NL.W := m.drop k ++ m.take k
def nrot (m : NL.W) : Nat := if m.length > 1 then m.length else 1
theorem rotk_rot (m : NL.W) (k : Nat) : Rot m (rotk m k) := ⟨m.take k, m.drop k, by simp, rfl⟩
theorem rotk_len (m : NL.W) (k : Nat) : (rotk m k).length = m.length := (rotk_rot m k).length
theorem rot_rotk {m z : NL.W} (h : Rot m z) : ∃ k, k < nrot m ∧ z = rotk m k := by
  by_cases hm : m = []
  · subst hm
    obtain ⟨p, q, h1, h2⟩ := h
    have hp : p = [] := by cases p <;> simp at h1 ⊢
    have hq : q = [] := by cases q <;> simp [hp] at h1 ⊢
    subst hp hq
    exact ⟨0, by decide, h2⟩
  · have := (NL.mem_rots hm).mpr h
    unfold NL.rots at this
    obtain ⟨k, hk, e⟩ := List.mem_map.mp this
    refine ⟨k, ?_, e.symm⟩
    have hk := List.mem_range.mp hk
    unfold nrot
    split <;> omega
/-- a least turning is the least -/
theorem min_rot {m : NL.W} {k : Nat} (h : ∀ j, j < nrot m → lexLt (rotk m j) (rotk m k) = false) : rotk m k = minrot m := by
  refine NL.lexLt_tri (NL.minrot_le (rotk_rot m k)) ?_
  obtain ⟨j, hj, e⟩ := rot_rotk (NL.minrot_rot m)
  rw [e]
  exact h j hj
/-! keys -/
abbrev KT := Int × List Int
def kd (u : NL.W) : KT := (u.length, u.map fun x => (x.val : Int))
theorem listLt_vals : ∀ {u v : NL.W}, u.length = v.length → PySem.W.listLt (u.map fun x => (x.val : Int)) (v.map fun x => (x.val : Int)) = lexLt u v
  | [], [], _ => rfl
  | x :: u, y :: v, h => by
    rw [List.map_cons, List.map_cons, PySem.W.listLt, NL.lexLt, listLt_vals (by simpa using h)]
    by_cases e : x = y
    · subst e; simp
    · have e2 : ¬ (x.val : Int) = y.val := fun q => e (_root_.Fin.ext (by omega))
      rw [if_neg e2]
      show decide ((x.val : Int) < y.val) = _
      simp [e]
theorem kd_eq {u v : NL.W} (h : kd u = kd v) : u = v := by
  have h2 : u.map (fun x => (x.val : Int)) = v.map fun x => (x.val : Int) := congrArg Prod.snd h
  clear h
  induction u generalizing v with
  | nil => cases v with
    | nil => rfl
    | cons => cases h2
  | cons x u ih => cases v with
    | nil => cases h2
    | cons y v =>
      simp only [List.map_cons, List.cons.injEq] at h2
      rw [ih h2.2, _root_.Fin.ext (a := x) (b := y) (by have := h2.1; omega)]
theorem kd_lt {u v : NL.W} (h : u.length = v.length) : PySem.W.DatumOrd.lt (kd u) (kd v) = lexLt u v := by
  show (if (kd u).1 = (kd v).1 then PySem.W.listLt (kd u).2 (kd v).2 else PySem.W.DatumOrd.lt (kd u).1 (kd v).1) = _
  rw [if_pos (by show (u.length : Int) = v.length; omega)]
  exact listLt_vals h
def pk (m : NL.W) (k : Nat) : KT × Int := (kd (rotk m k), k)
theorem pk_ok (m : NL.W) (a b : Nat) : (PySem.W.DatumOrd.lt (pk m a) (pk m b) = true → lexLt (rotk m b) (rotk m a) = false) ∧ (PySem.W.DatumOrd.lt (pk m a) (pk m b) = false → lexLt (rotk m a) (rotk m b) = false) := by
  have e : PySem.W.DatumOrd.lt (pk m a) (pk m b) = if (pk m a).1 = (pk m b).1 then PySem.W.DatumOrd.lt (pk m a).2 (pk m b).2 else PySem.W.DatumOrd.lt (pk m a).1 (pk m b).1 := rfl
  rw [e]
  by_cases c : (pk m a).1 = (pk m b).1
  · rw [if_pos c]
    have := kd_eq c
    rw [this]
    exact ⟨fun _ => NL.lexLt_irrefl _, fun _ => NL.lexLt_irrefl _⟩
  · rw [if_neg c]
    have : PySem.W.DatumOrd.lt (pk m a).1 (pk m b).1 = lexLt (rotk m a) (rotk m b) := kd_lt (by rw [rotk_len, rotk_len])
    rw [this]
    refine ⟨fun h => ?_, id⟩
    cases e2 : lexLt (rotk m b) (rotk m a)
    · rfl
    · have := NL.lexLt_trans h e2
      rw [NL.lexLt_irrefl] at this; cases this
/-- the first begin -/
theorem min_pk (m : NL.W) (n : Nat) (hn : nrot m = n + 1) : ∃ k, k < nrot m ∧ rotk m k = minrot m ∧ PySem.W.minOf (pk m 0) ((List.range n).map fun k => pk m (k + 1)) = pk m k := by
  have key := fold_min (fun p : KT × Int => rotk m p.2.toNat) (fun a b => PySem.W.DatumOrd.lt a b) ((List.range n).map fun k => pk m (k + 1)) (pk m 0)
  have hall : ∀ a ∈ pk m 0 :: (List.range n).map (fun k => pk m (k + 1)), ∃ j, j < nrot m ∧ a = pk m j := by
    intro a ha
    rcases List.mem_cons.mp ha with rfl | ha
    · exact ⟨0, by omega, rfl⟩
    · obtain ⟨k, hk, rfl⟩ := List.mem_map.mp ha
      have := List.mem_range.mp hk
      exact ⟨k + 1, by omega, rfl⟩
  have mem : ∀ j, j < nrot m → pk m j ∈ pk m 0 :: (List.range n).map (fun k => pk m (k + 1)) := by
    intro j hj
    cases j with
    | zero => simp
    | succ j => exact List.mem_cons_of_mem _ (List.mem_map.mpr ⟨j, List.mem_range.mpr (by omega), rfl⟩)
  obtain ⟨h1, h2⟩ := key (by
    intro a ha b hb
    obtain ⟨i, _, rfl⟩ := hall a ha
    obtain ⟨j, _, rfl⟩ := hall b hb
    exact pk_ok m i j)
  obtain ⟨k, hk, e⟩ := hall _ h1
  refine ⟨k, hk, min_rot fun j hj => ?_, e⟩
  have h3 := h2 _ (mem j hj)
  rw [e] at h3
  exact h3
theorem toD_pk (m : NL.W) (k : Nat) : PySem.W.Datum.toD (pk m k) = .tuple [.tuple [.int m.length, .list ((rotk m k).map fun x => .int x.val)], .int k] := by
  show PyData.tuple [.tuple [.int ((rotk m k).length : Nat), .list (((rotk m k).map fun x => (x.val : Int)).map PyData.int)], .int k] = _
  rw [rotk_len, List.map_map]
  rfl
end NQ

namespace NQ
open PySem PySem.Spec L2 NP
open NL (inv red invw mid Red)
section
variable {P : Program} {w : World} {K : PySem.W.Frag} {mg : Str → Option Value} {base : Heap}
theorem cut_all (n : Nat) (h : n ≤ 4) : cutS "aAbBcCdD" none (some (2 * n)) = enc (lettersOf n) := by
  have : n = 0 ∨ n = 1 ∨ n = 2 ∨ n = 3 ∨ n = 4 := by omega
  rcases this with h | h | h | h | h <;> subst h <;> decide +kernel
theorem lettersOf_len (n : Nat) (h : n ≤ 4) : (lettersOf n).length = 2 * n := by simp [lettersOf]; omega
def R_letters_of (xs : List Ds) (C : Ds → Prop) : Prop := ∃ n : Nat, xs = [.d (.int n)] ∧ n ≤ 4 ∧ C (.d (.tuple ((lettersOf n).map dL)))
theorem c_letters_of (G : Gs K mg) : Cal P w K mg base "letters_of" 1 (spP R_letters_of) := by
  -- slots: 0=n
  have S : FnScope ["n"] ["n"] (defScope (top 2)) := ⟨rfl, rfl, rfl, by decide +kernel, rfl, by decide +kernel, by decide +kernel⟩
  refine cal_P (G.df 0 _ rfl) S (fun _ _ _ _ _ _ us hl => match us, hl with | [_], _ => rfl) (fun xs C h => by obtain ⟨n, e, hn, hC⟩ := h; subst e; rfl) fun f cdv A outer s H0 E M xs C D hr h hrt hnx tr => ?_
  obtain ⟨n, e, hn, hC⟩ := h
  subst e
  have nd := S.nd
  obtain ⟨t, al⟩ := G.al
  refine ss_ret ((e_tupleS (z := enc (lettersOf n)) rfl (G.fr 1 _ rfl) ((e_slS (e_glob al) .non (.som (e_mul e_int (e_var 0) (Or.inl (by omega)))) (by decide)).is (by rw [cut_all n hn])) (by rw [enc_len, lettersOf_len n hn]; show 2 * n ≤ 2 ^ 24; omega)).is (by rw [signs_enc])) fun v H1 y r e hv => ?_
  cases e
  exact hrt v H1 _ r hC hv
def R_contrary (xs : List Ds) (C : Ds → Prop) : Prop := ∃ x : Lt, xs = [.d (dL x)] ∧ C (.d (dL (inv x)))
theorem c_contrary (G : Gs K mg) : Cal P w K mg base "contrary" 1 (spP R_contrary) := by
  -- slots: 0=letter
  have S : FnScope ["letter"] ["letter"] (defScope (top 3)) := ⟨rfl, rfl, rfl, by decide +kernel, rfl, by decide +kernel, by decide +kernel⟩
  refine cal_P (G.df 1 _ rfl) S (fun _ _ _ _ _ _ us hl => match us, hl with | [_], _ => rfl) (fun xs C h => by obtain ⟨x, e, hC⟩ := h; subst e; rfl) fun f cdv A outer s H0 E M xs C D hr h hrt hnx tr => ?_
  obtain ⟨x, e, hC⟩ := h
  subst e
  have nd := S.nd
  refine ss_if (P := Is (Txt.islower (enc [x]))) (et_valI (e_islower (e_var 0))) (fun hp H1 r1 => ?_) fun hp H1 r1 => ?_
  · refine ss_ret ((e_upper (e_var 0) (by show (1 : Nat) ≤ _; decide)).is (by rw [(lower_facts x).1 hp.symm])) fun v H2 y r e hv => ?_
    cases e
    exact hrt v H2 _ (r1.trans r) hC hv
  · refine ss_end (ss_ret ((e_lower (e_var 0) (by show (1 : Nat) ≤ _; decide)).is (by rw [(lower_facts x).2 hp.symm])) fun v H2 y r e hv => ?_)
    cases e
    exact hrt v H2 _ (r1.trans r) hC hv
def R_place_of (xs : List Ds) (C : Ds → Prop) : Prop := ∃ x : Lt, xs = [.d (dL x)] ∧ C (.d (.int x.val))
theorem c_place_of (G : Gs K mg) : Cal P w K mg base "place_of" 1 (spP R_place_of) := by
  -- slots: 0=letter
  have S : FnScope ["letter"] ["letter"] (defScope (top 4)) := ⟨rfl, rfl, rfl, by decide +kernel, rfl, by decide +kernel, by decide +kernel⟩
  refine cal_P (G.df 2 _ rfl) S (fun _ _ _ _ _ _ us hl => match us, hl with | [_], _ => rfl) (fun xs C h => by obtain ⟨x, e, hC⟩ := h; subst e; rfl) fun f cdv A outer s H0 E M xs C D hr h hrt hnx tr => ?_
  obtain ⟨x, e, hC⟩ := h
  subst e
  have nd := S.nd
  obtain ⟨t, al⟩ := G.al
  refine ss_ret (e_index (e_glob al) (e_var 0) (place_enc x)) fun v H2 y r e hv => ?_
  cases e
  exact hrt v H2 _ r hC hv
theorem invw_flat (u : NL.W) : (u.reverse.map fun x => [inv x]).flatten = invw u := by
  have := flat_one (invw u)
  unfold invw at this ⊢
  rw [← this, ← List.map_reverse, List.map_map]
  rfl
def R_turned_back (xs : List Ds) (C : Ds → Prop) : Prop := ∃ u : NL.W, xs = [.d (dW u)] ∧ u.length ≤ 10000 ∧ C (.d (dW (invw u)))
theorem c_turned_back (G : Gs K mg) : Cal P w K mg base "turned_back" 2 (spP R_turned_back) := by
  -- slots: 0=word 1=letter
  have S : FnScope ["word", "letter"] ["word"] (defScope (top 7)) := ⟨rfl, rfl, rfl, by decide +kernel, rfl, by decide +kernel, by decide +kernel⟩
  refine cal_P (G.df 4 _ rfl) S (fun _ _ _ _ _ _ us hl => match us, hl with | [_], _ => rfl) (fun xs C h => by obtain ⟨u, e, hl, hC⟩ := h; subst e; rfl) fun f cdv A outer s H0 E M xs C D hr h hrt hnx tr => ?_
  obtain ⟨u, e, hl, hC⟩ := h
  subst e
  have nd := S.nd
  refine ss_ret ((e_joinW (ws := u.reverse.map fun x => [inv x]) e_str ((e_lcM (j := 1) u.reverse (fun x => .d (dL x)) (fun x => dL (inv x)) (fun _ _ => dL_inj) nd (ei_revW (G.fr 8 _ rfl) (e_var 0) (by omega)) (by simp; show _ < 2 ^ 24; omega) fun l a _ s0 H0 cl C fp => ?_).is (by rw [List.map_map]; rfl)) ?_).is (by rw [invw_flat])) fun v H2 y r e hv => ?_
  · exact e_call1 (c_contrary G) (hr.mono (by decide)) (e_var 1) ⟨a, rfl, rfl⟩
  · rw [invw_flat]; simp [invw]; omega
  · cases e
    exact hrt v H2 _ r hC hv
end
end NQ

namespace NQ
open PySem PySem.Spec L2 NP
open NL (inv red invw mid Red)
section
variable {P : Program} {w : World} {K : PySem.W.Frag} {mg : Str → Option Value} {base : Heap}
abbrev dKey (u : NL.W) : PyData := .tuple [.int u.length, .list (u.map fun x => .int x.val)]
def R_word_key (xs : List Ds) (C : Ds → Prop) : Prop := ∃ u : NL.W, xs = [.d (dW u)] ∧ u.length ≤ 10000 ∧ C (.d (dKey u))
theorem c_word_key (G : Gs K mg) : Cal P w K mg base "word_key" 2 (spP R_word_key) := by
  -- slots: 0=word 1=letter
  have S : FnScope ["word", "letter"] ["word"] (defScope (top 8)) := ⟨rfl, rfl, rfl, by decide +kernel, rfl, by decide +kernel, by decide +kernel⟩
  refine cal_P (G.df 5 _ rfl) S (fun _ _ _ _ _ _ us hl => match us, hl with | [_], _ => rfl) (fun xs C h => by obtain ⟨u, e, hl, hC⟩ := h; subst e; rfl) fun f cdv A outer s H0 E M xs C D hr h hrt hnx tr => ?_
  obtain ⟨u, e, hl, hC⟩ := h
  subst e
  have nd := S.nd
  refine ss_ret (e_tup (xs := [.int u.length, .list (u.map fun x => .int x.val)]) (ea_c (e_lenW (G.fr 0 _ rfl) (e_var 0) (by omega)) (ea_c (e_lcM (j := 1) u (fun x => .d (dL x)) (fun x => .int x.val) (fun _ _ => dL_inj) nd (ei_strW (e_var 0)) (by show _ < 2 ^ 24; omega) fun l a _ s0 H0 cl C fp => ?_) ea_nil)) (by show 2 ≤ 2 ^ 24; decide)) fun v H1 y r e hv => ?_
  · exact e_call1 (c_place_of G) (hr.mono (by decide)) (e_var 1) ⟨a, rfl, rfl⟩
  · cases e
    exact hrt v H1 _ r hC hv
theorem flat_dW (s : NL.W) : (s.map fun x => [x]).map dW = s.map dL := by rw [List.map_map]; rfl
theorem push_eq (s : NL.W) (x : Lt) : push s x = if (!s.isEmpty && decide (s.getLast? = some (inv x))) = true then s.dropLast else s ++ [x] := by
  unfold push
  cases s with
  | nil => rfl
  | cons y s => by_cases c : (y :: s).getLast? = some (inv x) <;> simp [c]
def R_laid_out (xs : List Ds) (C : Ds → Prop) : Prop := ∃ u : NL.W, xs = [.d (dW u)] ∧ u.length ≤ 10000 ∧ C (.d (dW (red u)))
theorem c_laid_out (G : Gs K mg) : Cal P w K mg base "laid_out" 2 (spP R_laid_out) := by
  -- slots: 0=text 1=found 2=letter
  have S : FnScope ["text", "found", "letter"] ["text"] (defScope (top 6)) := ⟨rfl, rfl, rfl, by decide +kernel, rfl, by decide +kernel, by decide +kernel⟩
  refine cal_P (G.df 3 _ rfl) S (fun _ _ _ _ _ _ us hl => match us, hl with | [_], _ => rfl) (fun xs C h => by obtain ⟨u, e, hl, hC⟩ := h; subst e; rfl) fun f cdv A outer s H0 E M xs C D hr h hrt hnx tr => ?_
  obtain ⟨u, e, hl, hC⟩ := h
  subst e
  have nd := S.nd
  have hU := hr.un
  refine ss_new (i := 1) (u := .lst []) (by intro _ h; cases h) new_lst (fun p H1 r1 hp => ?_) nd
  have nM : ¬ M p := fun m => (tr p m).ne (by
    cases e : H0 p with
    | none => rfl
    | some o => rw [r1 p o e] at hp; cases hp)
  refine ss_forM (as := u) (g := fun x => .d (dL x)) (dz := fun x ds' => ds'.set 2 (.d (dL x))) (fun done ds' H' => Same H0 H' ∧ ∃ y, ds' = [.d (dW u), .r (.ref p), y] ∧ LB ((pur M).add p).M H' p ((done.foldl push []).map dL)) (ei_strW (e_var 0)) ?_ ?_ ?_ ?_
  · intro H2 r2
    exact ⟨(r1.trans (same_new hp)).trans r2, _, rfl, LB.new.mono (W := (pur M).add p) (fun f => f) r2⟩
  · rintro done a ds' H' ⟨_, y, rfl, _⟩ _
    exact eh_name (i := 2) nd
  · rintro done a todo ds' Hi H' eu ⟨s0, y, rfl, lb⟩ sm kq
    have lb := lb.mono (W := (pur M).add p) (fun f => f) sm
    have ef : (done ++ [a]).foldl push [] = push (done.foldl push []) a := by rw [List.foldl_append]; rfl
    rw [ef]
    have hlen : (done.foldl push []).length ≤ 10000 := by
      have h1 := red_len done
      rw [← foldl_push_nil] at h1
      have : done.length ≤ u.length := by rw [eu]; simp
      omega
    generalize done.foldl push [] = st at lb hlen
    refine ss_if (P := Is (!st.isEmpty && decide (st.getLast? = some (inv a)))) (et_and2 ((et_neNil (by omega) (e_var 1).at lb (fun f => f) ((Sh.list (k := 0) (fun x hx => by obtain ⟨b, _, rfl⟩ := List.mem_map.mp hx; exact sh_W _)).shaped (by omega))).is (by cases st <;> rfl)) fun hne => ?_) (fun ht H2 r2 => ?_) fun ht H2 r2 => ?_
    · have hst0 : st ≠ [] := by intro z; subst z; cases hne
      obtain ⟨b, hb⟩ : ∃ b, st.getLast? = some b := ⟨st.getLast hst0, List.getLast?_eq_some_getLast hst0⟩
      refine (et_eqL (x := b) (e_ixR (e_var 1).at (e_neg e_int) lb (fun f => f) ?_) (e_call1 (c_contrary G) (hr.mono (by decide)) (e_var 2) ⟨a, rfl, rfl⟩)).is ?_
      · have : atI (st.map dL) (-1) = some (dL b) := by rw [atI_last _ (by simpa using hst0), List.getLast?_map, hb]; rfl
        exact this
      · rw [hb]; congr 1; simp
    · have hne : st.map dL ≠ [] := by intro z; rw [List.map_eq_nil_iff] at z; subst z; cases ht
      have c : push st a = st.dropLast := by rw [push_eq, if_pos ht.symm]
      rw [c]
      refine ss_popZ (lb.mono (W := (pur M).add p) (fun f => f) r2) (.inr rfl) (fun f => f) hne (e_var 1).at fun H3 v r3 lb3 => ss_end (ss_nq fun H4 r4 => ⟨⟨?_, _, rfl, ?_⟩, ?_⟩)
      · exact (same_upd (((s0.trans sm).trans r2).trans r3) (none_of r1 hp)).trans r4
      · rw [← List.map_dropLast] at lb3
        exact lb3.mono (W := (pur M).add p) (fun f => f) r4
      · exact kq.trans ((Kq.r (r2.trans r3)).trans (Kq.updA.trans (Kq.r r4)))
    · have c : push st a = st ++ [a] := by rw [push_eq, if_neg (by rw [← ht]; decide)]
      rw [c]
      refine ss_appendZ (lb.mono (W := (pur M).add p) (fun f => f) r2) (.inr rfl) (fun f => f) (by rw [List.length_map]; show _ < 2 ^ 24; omega) (e_var 1).at (e_var 2) fun H3 v r3 lb3 => ss_end (ss_nq fun H4 r4 => ⟨⟨?_, _, rfl, ?_⟩, ?_⟩)
      · exact (same_upd (((s0.trans sm).trans r2).trans r3) (none_of r1 hp)).trans r4
      · rw [List.map_append]
        exact lb3.mono (W := (pur M).add p) (fun f => f) r4
      · exact kq.trans ((Kq.r (r2.trans r3)).trans (Kq.updA.trans (Kq.r r4)))
  · rintro ds' H' ⟨s0, y, rfl, lb⟩ _
    rw [foldl_push_nil] at lb
    have hh := red_len u
    refine ss_ret ((e_joinRW (ws := (red u).map fun x => [x]) e_str (e_var 1).at (by rw [flat_dW]; exact lb) (fun f => f) (by rw [flat_one]; omega)).is (by rw [flat_one])) fun v H1 y r e hv => ?_
    cases e
    cases hv
    exact hrt _ H1 _ (s0.trans r) hC (.str _)
end
end NQ

namespace NQ
open PySem PySem.Spec L2 NP
open NL (inv red invw mid Red)
section
variable {P : Program} {w : World} {K : PySem.W.Frag} {mg : Str → Option Value} {base : Heap}
def R_middle_of (xs : List Ds) (C : Ds → Prop) : Prop := ∃ u : NL.W, xs = [.d (dW u)] ∧ u.length ≤ 10000 ∧ ∀ g : Nat, C (.d (.tuple [dW (mid u), .int g]))
theorem c_middle_of (G : Gs K mg) : Cal P w K mg base "middle_of" 2 (spP R_middle_of) := by
  -- slots: 0=word 1=gone
  have S : FnScope ["word", "gone"] ["word"] (defScope (top 10)) := ⟨rfl, rfl, rfl, by decide +kernel, rfl, by decide +kernel, by decide +kernel⟩
  refine cal_P (G.df 6 _ rfl) S (fun _ _ _ _ _ _ us hl => match us, hl with | [_], _ => rfl) (fun xs C h => by obtain ⟨u, e, hl, hC⟩ := h; subst e; rfl) fun f cdv A outer s H0 E M xs C D hr h hrt hnx tr => ?_
  obtain ⟨u, e, hl, hC⟩ := h
  subst e
  have nd := S.nd
  refine ss_setI (i := 1) (y := .d (.int (0 : Nat))) e_int (fun H1 r1 => ?_) nd
  refine ss_while (fun m ds' H' => Same H0 H' ∧ ∃ g : Nat, ds' = [.d (dW u), .d (.int g)] ∧ 2 * g ≤ u.length ∧ mid (inn u g) = mid u ∧ m = u.length - g) PassesOwn.never (fun H2 r2 _ => ⟨_, r1.trans r2, 0, rfl, by omega, by rw [inn_zero], rfl⟩) ?_
  rintro m ds' H' ⟨s0, g, rfl, hg, hmid, rfl⟩ _
  refine ⟨Is (decide (1 < (inn u g).length) && decide ((inn u g).getLast? = (inn u g).head?.map inv)), ?_, fun ht H2 r2 => ?_, fun ht H2 r2 => ?_⟩
  · refine et_and2 ((et_lt (e_var 1) (e_sub (e_sub (e_lenW (G.fr 0 _ rfl) (e_var 0) (by omega)) e_int) (e_var 1))).is (by rw [inn_len]; congr 1; exact propext ⟨fun h => by omega, fun h => by omega⟩)) fun h1 => ?_
    rw [inn_len] at h1
    have h1 := of_decide_eq_true h1
    obtain ⟨a, ea⟩ : ∃ a, u[g]? = some a := ⟨_, List.getElem?_eq_getElem (by omega)⟩
    obtain ⟨b, eb⟩ : ∃ b, u[u.length - 1 - g]? = some b := ⟨_, List.getElem?_eq_getElem (by omega)⟩
    refine (et_eqL (e_ixW (e_var 0) (e_var 1) (by omega) (by rw [atI_nat]; exact ea)) (e_call1 (c_contrary G) (hr.mono (by decide)) (e_ixW (x := b) (e_var 0) (e_sub (e_sub (e_lenW (G.fr 0 _ rfl) (e_var 0) (by omega)) e_int) (e_var 1)) (by omega) ?_) ⟨b, rfl, rfl⟩)).is ?_
    · have : (u.length : Int) - 1 - (g : Int) = ((u.length - 1 - g : Nat) : Int) := by omega
      rw [this, atI_nat]; exact eb
    · rw [inn_last u g (by omega), inn_head u g (by omega), ea, eb]
      congr 1
      simp only [Option.map_some, Option.some.injEq]
      exact propext ⟨fun h => by rw [h, NL.inv_inv], fun h => by rw [h, NL.inv_inv]⟩
  · have hb : 1 < (inn u g).length ∧ (inn u g).getLast? = (inn u g).head?.map inv := by simpa [Is] using ht.symm
    have hb1 := hb.1
    rw [inn_len] at hb1
    refine ss_setI (i := 1) (y := .d (.int ((g + 1 : Nat) : Int))) ((e_add (e_var 1) e_int).is rfl) (fun H3 r3 => ss_nw fun H4 r4 _ => ⟨u.length - (g + 1), by omega, (((s0.trans r2).trans r3).trans r4), g + 1, rfl, by omega, ?_, rfl⟩) nd
    rw [← hmid, mid_eq (inn u g), if_pos hb, inn_next]
  · have hb : ¬ (1 < (inn u g).length ∧ (inn u g).getLast? = (inn u g).head?.map inv) := by
      intro hb
      have : (decide (1 < (inn u g).length) && decide ((inn u g).getLast? = (inn u g).head?.map inv)) = true := by simpa using hb
      rw [this] at ht; cases ht
    have em : mid u = inn u g := by rw [← hmid, mid_eq, if_neg hb]
    have ec : cutL u (some (g : Int)) (some ((u.length : Int) - (g : Int))) = mid u := by
      have : (u.length : Int) - (g : Int) = ((u.length - g : Nat) : Int) := by omega
      rw [this, cutL_in u g (u.length - g) (by omega) (by omega), em]
      unfold inn
      congr 1; omega
    refine ss_ret (e_tup (xs := [dW (mid u), .int g]) (ea_c ((e_slW (e_var 0) (.som (e_var 1)) (.som (e_sub (e_lenW (G.fr 0 _ rfl) (e_var 0) (by omega)) (e_var 1))) (by omega)).is (by rw [ec])) (ea_c (e_var 1) ea_nil)) (by show 2 ≤ 2 ^ 24; decide)) fun v H1 y r e hv => ?_
    cases e
    exact hrt v H1 _ ((s0.trans r2).trans r) (hC g) hv
def R_first_begin (xs : List Ds) (C : Ds → Prop) : Prop := ∃ u : NL.W, xs = [.d (dW u)] ∧ u.length ≤ 1000 ∧ ∀ k : Nat, rotk u k = NL.minrot u → C (.d (.int k))
theorem c_first_begin (G : Gs K mg) : Cal P w K mg base "first_begin" 3 (spP R_first_begin) := by
  -- slots: 0=middle 1=begins 2=k
  have S : FnScope ["middle", "begins", "k"] ["middle"] (defScope (top 11)) := ⟨rfl, rfl, rfl, by decide +kernel, rfl, by decide +kernel, by decide +kernel⟩
  refine cal_P (G.df 7 _ rfl) S (fun _ _ _ _ _ _ us hl => match us, hl with | [_], _ => rfl) (fun xs C h => by obtain ⟨u, e, hl, hC⟩ := h; subst e; rfl) fun f cdv A outer s H0 E M xs C D hr h hrt hnx tr => ?_
  obtain ⟨u, e, hl, hC⟩ := h
  subst e
  have nd := S.nd
  have hU := hr.un
  obtain ⟨n, hn⟩ : ∃ n, nrot u = n + 1 := ⟨nrot u - 1, by unfold nrot; split <;> omega⟩
  have hn2 : nrot u ≤ 1000 := by unfold nrot; split <;> omega
  have er : (List.range (nrot u)).map (fun k => PySem.W.Datum.toD (pk u k)) = PySem.W.Datum.toD (pk u 0) :: ((List.range n).map fun k => pk u (k + 1)).map PySem.W.Datum.toD := by
    rw [hn, List.range_succ_eq_map, List.map_cons, List.map_map, List.map_map]; rfl
  obtain ⟨k, hk, ek, emin⟩ := min_pk u n hn
  refine ss_lcM (i := 1) (j := 2) (List.range (nrot u)) (fun k => .d (.int k)) (fun k => PySem.W.Datum.toD (pk u k)) (fun _ _ => dI_inj) nd ?_ ?_ ?_ fun H1 r1 => ?_
  · refine ei_rangeN (n := nrot u) (G.fr 5 _ rfl) ((e_max2 (i := 1) (j := u.length) rfl (G.fr 4 _ rfl) e_int (e_lenW (G.fr 0 _ rfl) (e_var 0) (by omega))).is ?_) (by omega)
    unfold nrot
    congr 2
    split <;> split <;> first | rfl | omega
  · rw [List.length_range]; show _ < 2 ^ 24; omega
  · intro l k hk s0 H2 cl C fp
    have hk := List.mem_range.mp hk
    have hk3 : (rotk u k).length ≤ 10000 := by rw [rotk_len]; omega
    have e1 : cutL u (some (k : Int)) none ++ cutL u none (some (k : Int)) = rotk u k := by rw [cutL_from, cutL_to]; rfl
    refine EE.is (e_tup (xs := [dKey (rotk u k), .int k]) (ea_c (e_call1 (z := .d (dW (rotk u k))) (c_word_key G) (hr.mono (by decide)) (EE.is (e_catW (e_slW (e_var 0) (.som (e_var 2)) .non (by omega)) (e_slW (e_var 0) .non (.som (e_var 2)) (by omega)) ?_) ?_) ⟨_, rfl, hk3, rfl⟩) (ea_c (e_var 2) ea_nil)) (by show 2 ≤ 2 ^ 24; decide)) ?_
    · rw [cutL_from, cutL_to, List.length_drop, List.length_take]; omega
    · rw [e1]
    · rw [toD_pk]; show Ds.d (.tuple [.tuple [.int (rotk u k).length, _], _]) = _; rw [rotk_len]
  · have hA : PySem.W.AlikeAll (PySem.W.Datum.toD (pk u 0) :: ((List.range n).map fun k => pk u (k + 1)).map PySem.W.Datum.toD) := PySem.W.alikeAll_datum (pk u 0 :: (List.range n).map fun k => pk u (k + 1))
    have hD : PyData.depthAll (PySem.W.Datum.toD (pk u 0) :: ((List.range n).map fun k => pk u (k + 1)).map PySem.W.Datum.toD) ≤ 10 := Nat.le_trans (PySem.W.depthAll_map (pk u 0 :: (List.range n).map fun k => pk u (k + 1))) (by decide)
    have em : PySem.W.minD (PySem.W.Datum.toD (pk u 0)) (((List.range n).map fun k => pk u (k + 1)).map PySem.W.Datum.toD) = .tuple [.tuple [.int u.length, .list ((rotk u k).map fun x => .int x.val)], .int k] := by rw [PySem.W.minD_map, emin, toD_pk]
    refine ss_ret (e_ixT (xs := [.tuple [.int u.length, .list ((rotk u k).map fun x => .int x.val)], .int k]) (d := .int k) ((e_minD rfl (G.fr 3 _ rfl) ((e_var 1).is (by rw [er])) hA ?_ ?_).is (by rw [em])) e_int rfl) fun v H2 y r e hv => ?_
    · omega
    · rw [PySem.W.minD_map, emin, ← er]
      exact ⟨k, by rw [List.getElem?_map, List.getElem?_range hk]; rfl⟩
    · cases e
      exact hrt v H2 _ (r1.trans r) (hC k ek) hv
def R_ring_of (xs : List Ds) (C : Ds → Prop) : Prop := ∃ u : NL.W, xs = [.d (dW u)] ∧ u.length ≤ 1000 ∧ C (.d (dW (NL.ring u)))
theorem c_ring_of (G : Gs K mg) : Cal P w K mg base "ring_of" 4 (spP R_ring_of) := by
  -- slots: 0=word 1=middle 2=gone 3=k
  have S : FnScope ["word", "middle", "gone", "k"] ["word"] (defScope (top 12)) := ⟨rfl, rfl, rfl, by decide +kernel, rfl, by decide +kernel, by decide +kernel⟩
  refine cal_P (G.df 8 _ rfl) S (fun _ _ _ _ _ _ us hl => match us, hl with | [_], _ => rfl) (fun xs C h => by obtain ⟨u, e, hl, hC⟩ := h; subst e; rfl) fun f cdv A outer s H0 E M xs C D hr h hrt hnx tr => ?_
  obtain ⟨u, e, hl, hC⟩ := h
  subst e
  have nd := S.nd
  have hm := mid_len u
  refine ss_asg (A := fun y => ∃ g : Nat, y = .d (.tuple [dW (mid u), .int g])) (ds' := fun y => match y with | .d (.tuple [a, b]) => [.d (dW u), .d a, .d b, .u] | _ => []) (e_call1 (c_middle_of G) (hr.mono (by decide)) (e_var 0) ⟨u, rfl, by omega, fun g => ⟨g, rfl⟩⟩) (fun y ⟨g, ey⟩ => ?_) (fun y H1 r1 ⟨g, ey⟩ => ?_)
  · subst ey
    exact eh_two (i := 1) (j := 2) rfl nd
  · subst ey
    refine ss_set (i := 3) (A := fun y => ∃ k : Nat, y = .d (.int k) ∧ rotk (mid u) k = NL.minrot (mid u)) (e_call1 (c_first_begin G) (hr.mono (by decide)) (e_var 1) ⟨mid u, rfl, by omega, fun k hk => ⟨k, rfl, hk⟩⟩) (fun y H2 r2 ⟨k, ey, hk⟩ => ?_) nd
    subst ey
    refine ss_ret (A := Is (.d (dW (NL.ring u)))) (EE.is (e_catW (e_slW (e_var 1) (.som (e_var 3)) .non (by omega)) (e_slW (e_var 1) .non (.som (e_var 3)) (by omega)) (by rw [cutL_from, cutL_to, List.length_drop, List.length_take]; omega)) (by rw [cutL_from, cutL_to]; show Ds.d (dW (rotk (mid u) k)) = _; rw [hk]; rfl)) fun v H3 y r e hv => ?_
    cases e
    exact hrt v H3 _ ((r1.trans r2).trans r) hC hv
end
end NQ

namespace NQ
open PySem PySem.Spec L2 NP
open NL (inv red invw mid Red)
theorem hu1 {k : Nat} {A : Around} (hr : Room k A) : A.units + 1 < cLine := by have := hr.un; omega
theorem hu64 {k : Nat} {A : Around} (hr : Room k A) : A.units + 64 < cLine := by have := hr.un; omega
def lo (k : Nat) : Lt := ⟨2 * k % 8, by omega⟩
/-- what a letter is told as -/
def tl (us : List NL.W) (x : Lt) : NL.W := if x.val % 2 = 0 then us.getD (x.val / 2) [] else invw (us.getD (x.val / 2) [])
theorem last_two : ∀ k, k < 4 → cutD ((lettersOf (k + 1)).map dL) (some (-2)) none = [dL (lo k), dL (inv (lo k))] := by
  intro k hk
  have : k = 0 ∨ k = 1 ∨ k = 2 ∨ k = 3 := by omega
  rcases this with rfl | rfl | rfl | rfl <;> rfl
theorem lo_ne : ∀ i j, i < 4 → j < 4 → i ≠ j → lo i ≠ lo j ∧ lo i ≠ inv (lo j) := by
  have : ∀ i j : _root_.Fin 4, i ≠ j → lo i ≠ lo j ∧ lo i ≠ inv (lo j) := by decide
  intro i j hi hj h
  exact this ⟨i, hi⟩ ⟨j, hj⟩ (fun e => h (by injection e))
theorem kne {x y : Lt} (h : x ≠ y) : ¬ (Sum.inr (enc [x]) : Key) = Sum.inr (enc [y]) := fun e => h (by
  have : enc [x] = enc [y] := by injection e
  rwa [enc1_eq] at this)
/-- the told letters' table -/
def TL (us : List NL.W) (n : Nat) (kvs : List (Key × V)) : Prop := ∀ i, i < n → valV kvs (Sum.inr (enc [lo i])) = some (.str (enc (us.getD i []))) ∧ valV kvs (Sum.inr (enc [inv (lo i)])) = some (.str (enc (invw (us.getD i []))))
theorem TL.next {us : List NL.W} {n : Nat} {kvs : List (Key × V)} (h : TL us n kvs) (hn : n < 4) : TL us (n + 1) (putK (putK kvs (Sum.inr (enc [lo n])) (.str (enc (us.getD n [])))) (Sum.inr (enc [inv (lo n)])) (.str (enc (invw (us.getD n []))))) := by
  intro i hi
  rw [valV_put, valV_put, valV_put, valV_put]
  by_cases c : i = n
  · subst c
    rw [if_neg (kne (NL.inv_ne _).symm), if_pos rfl, if_pos rfl]
    exact ⟨rfl, rfl⟩
  · have hin : i < n := by omega
    obtain ⟨a1, a2⟩ := lo_ne i n (by omega) hn c
    rw [if_neg (kne a2), if_neg (kne a1), if_neg (kne (fun e => a1 (NL.inv_inj e))), if_neg (kne (fun e => a2 (by rw [← e, NL.inv_inv])))]
    exact h i hin
theorem TL.get {us : List NL.W} {kvs : List (Key × V)} (h : TL us us.length kvs) {x : Lt} (hx : x.val < 2 * us.length) (hl : us.length ≤ 4) : valV kvs (Sum.inr (enc [x])) = some (.str (enc (tl us x))) := by
  have h2 := h (x.val / 2) (by omega)
  unfold tl
  by_cases c : x.val % 2 = 0
  · rw [if_pos c]
    have e : lo (x.val / 2) = x := _root_.Fin.ext (by show 2 * (x.val / 2) % 8 = x.val; omega)
    rw [e] at h2
    exact h2.1
  · rw [if_neg c]
    have e : inv (lo (x.val / 2)) = x := by
      have : ∀ x : Lt, x.val % 2 ≠ 0 → inv (lo (x.val / 2)) = x := by decide
      exact this x c
    rw [e] at h2
    exact h2.2
section
variable {P : Program} {w : World} {K : PySem.W.Frag} {mg : Str → Option Value} {base : Heap}
def R_told_letters (xs : List Ds) (C : Ds → Prop) : Prop := ∃ us : List NL.W, xs = [.d (.tuple (us.map dW))] ∧ us.length ≤ 4 ∧ (∀ u ∈ us, u.length ≤ 10) ∧ ∀ kvs, TL us us.length kvs → C (.o (.dK kvs))
theorem c_told_letters (G : Gs K mg) : Cal P w K mg base "told_letters" 3 (spP R_told_letters) := by
  -- slots: 0=retelling 1=told 2=k 3=word 4=letter 5=other
  have S : FnScope ["retelling", "told", "k", "word", "letter", "other"] ["retelling"] (defScope (top 14)) := ⟨rfl, rfl, rfl, by decide +kernel, rfl, by decide +kernel, by decide +kernel⟩
  refine cal_P (G.df 9 _ rfl) S (fun _ _ _ _ _ _ us hl => match us, hl with | [_], _ => rfl) (fun xs C h => by obtain ⟨us, e, hl, hu, hC⟩ := h; subst e; rfl) fun f cdv A outer s H0 E M xs C D hr h hrt hnx tr => ?_
  obtain ⟨us, e, hl, hu, hC⟩ := h
  subst e
  have nd := S.nd
  have hU := hr.un
  refine ss_new (i := 1) (u := .dK []) (by intro _ h; cases h) new_dK (fun p H1 r1 hp => ?_) nd
  have nM : ¬ M p := fun m => (tr p m).ne (none_of r1 hp)
  refine ss_forM (as := List.range us.length) (g := fun i => .d (.tuple [.int i, dW (us.getD i [])])) (dz := fun i ds' => (ds'.set 2 (.d (.int i))).set 3 (.d (dW (us.getD i [])))) (fun done ds' H' => Same H0 H' ∧ ∃ kvs a b c d, ds' = [.d (.tuple (us.map dW)), .r (.ref p), a, b, c, d] ∧ H' p = some (.dK kvs) ∧ kvs.length ≤ 2 * done.length ∧ TL us done.length kvs)
    (EI.is (ei_enumT (G.fr 6 _ rfl) (e_var 0)) ?_) ?_ ?_ ?_ ?_
  · rw [List.length_map]
    apply List.map_congr_left
    intro i hi
    have hi := List.mem_range.mp hi
    rw [List.getD_eq_getElem?_getD, List.getD_eq_getElem?_getD, List.getElem?_map, List.getElem?_eq_getElem hi]
    rfl
  · intro H2 r2
    exact ⟨(r1.trans (same_new hp)).trans r2, [], _, _, _, _, rfl, r2 _ _ upd_same, Nat.zero_le _, fun i hi => absurd hi (Nat.not_lt_zero _)⟩
  · rintro done a ds' H' ⟨_, kvs, _, _, _, _, rfl, _⟩ _
    exact eh_two (i := 2) (j := 3) rfl nd
  · rintro done k todo ds' Hi H' eu ⟨s0, kvs, _, _, _, _, rfl, hH, hlen, ht⟩ sm kq
    have hk : k = done.length ∧ k < us.length := by
      have h1 : (List.range us.length)[done.length]? = some k := by rw [eu]; simp
      have h2 := (List.getElem?_eq_some_iff.mp h1)
      obtain ⟨h3, h4⟩ := h2
      rw [List.getElem_range] at h4
      rw [List.length_range] at h3
      omega
    obtain ⟨hk1, hk2⟩ := hk
    have hgu : (us.getD k []).length ≤ 10 := by
      rw [List.getD_eq_getElem?_getD, List.getElem?_eq_getElem hk2]
      exact hu _ (List.getElem_mem _)
    have hH := ((pur M).add p).keep sm p _ (fun f => f) hH
    refine ss_asgI (EE.is (e_slT (e_call1 (c_letters_of G) (hr.mono (by decide)) (EE.is (y := .d (.int ((k + 1 : Nat) : Int))) (e_add (e_var 2) e_int) rfl) ⟨k + 1, rfl, by omega, rfl⟩) (.som (e_neg e_int)) .non) (congrArg (fun z => Ds.d (.tuple z)) (last_two k (by omega)))) (eh_two (i := 4) (j := 5) rfl nd) fun H2 r2 => ?_
    have hH := ((pur M).add p).keep r2 p _ (fun f => f) hH
    refine ss_dputKI (d := dW (us.getD k [])) (by omega) hH Wd.addM (fun f => f) (szl (by omega)) (e_var 3) (e_var 1).at (e_var 4) fun H3 r3 => ?_
    have hl3 := length_putK kvs (Sum.inr (enc [lo k])) (.str (enc (us.getD k [])))
    refine ss_dputKI (d := dW (invw (us.getD k []))) (by omega) upd_same Wd.addM (fun f => f) (szl (by omega)) (e_call1 (c_turned_back G) (hr.mono (by decide)) (e_var 3) ⟨_, rfl, by omega, rfl⟩) (e_var 1).at (e_var 5) fun H4 r4 => ?_
    refine ss_nq fun H5 r5 => ⟨⟨?_, _, _, _, _, _, rfl, r5 _ _ upd_same, ?_, ?_⟩, ?_⟩
    · exact (same_upd ((same_upd (((s0.trans sm).trans r2).trans r3) (none_of r1 hp)).trans r4) (none_of r1 hp)).trans r5
    · have := length_putK (putK kvs (Sum.inr (enc [lo k])) (.str (enc (us.getD k [])))) (Sum.inr (enc [inv (lo k)])) (.str (enc (invw (us.getD k []))))
      rw [List.length_append]
      show _ ≤ 2 * (done.length + 1)
      omega
    · rw [List.length_append]
      rw [← hk1] at ht
      have := ht.next (by omega)
      rwa [show done.length + [k].length = k + 1 by rw [hk1]; rfl]
    · exact kq.trans ((Kq.r (r2.trans r3)).trans (Kq.updA.trans ((Kq.r r4).trans (Kq.updA.trans (Kq.r r5)))))
  · rintro ds' H' ⟨s0, kvs, _, _, _, _, rfl, hH, _, ht⟩ _
    rw [List.length_range] at ht
    refine ss_ret (e_var 1) fun v H2 y r e hv => ?_
    cases e
    cases hv
    exact hrt _ H2 _ (s0.trans r) (hC kvs ht) ⟨p, rfl, nM, r _ _ hH⟩
def Rk (n : Nat) (w : NL.W) : Prop := ∀ x ∈ w, x.val < 2 * n
theorem sub_len (us : List NL.W) (hu : ∀ u ∈ us, u.length ≤ 10) (w : NL.W) : (NL.sub (tl us) w).length ≤ 10 * w.length := by
  induction w with
  | nil => simp
  | cons x w ih =>
    rw [NL.sub_cons, List.length_append, List.length_cons]
    have hg : ∀ i, (us.getD i []).length ≤ 10 := by
      intro i
      rw [List.getD_eq_getElem?_getD]
      cases e : us[i]? with
      | none => simp
      | some u => exact hu u (List.mem_of_getElem? e)
    have : (tl us x).length ≤ 10 := by
      unfold tl
      split
      · exact hg _
      · simp [invw]; have := hg (x.val / 2); simpa using this
    omega
theorem flat_tl (us : List NL.W) (w : NL.W) : (w.map fun x => tl us x).flatten = NL.sub (tl us) w := by simp [NL.sub, List.flatMap]
def R_retold (xs : List Ds) (C : Ds → Prop) : Prop := ∃ (us : List NL.W) (u : NL.W), xs = [.d (.tuple (us.map dW)), .d (dW u)] ∧ us.length ≤ 4 ∧ (∀ u ∈ us, u.length ≤ 10) ∧ u.length ≤ 100 ∧ Rk us.length u ∧ C (.d (dW (red (NL.sub (tl us) u))))
theorem c_retold (G : Gs K mg) : Cal P w K mg base "retold" 4 (spP R_retold) := by
  -- slots: 0=retelling 1=word 2=told 3=letter
  have S : FnScope ["retelling", "word", "told", "letter"] ["retelling", "word"] (defScope (top 15)) := ⟨rfl, rfl, rfl, by decide +kernel, rfl, by decide +kernel, by decide +kernel⟩
  refine cal_P (G.df 10 _ rfl) S (fun _ _ _ _ _ _ us hl => match us, hl with | [_, _], _ => rfl) (fun xs C h => by obtain ⟨us, u, e, hl, hu, hul, hk, hC⟩ := h; subst e; rfl) fun f cdv A outer s H0 E M xs C D hr h hrt hnx tr => ?_
  obtain ⟨us, u, e, hl, hu, hul, hk, hC⟩ := h
  subst e
  have nd := S.nd
  have hU := hr.un
  have hs := sub_len us hu u
  refine ss_set (i := 2) (A := fun y => ∃ kvs, TL us us.length kvs ∧ y = .o (.dK kvs)) (e_call1 (c_told_letters G) (hr.mono (by decide)) (e_var 0) ⟨us, rfl, hl, hu, fun kvs h => ⟨kvs, h, rfl⟩⟩) (fun y H1 r1 ⟨kvs, ht, ey⟩ => ?_) nd
  subst ey
  refine ss_ret (e_call1 (C := Is (.d (dW (red (NL.sub (tl us) u))))) (c_laid_out G) (hr.mono (by decide)) (EE.is (e_joinW (ws := u.map fun x => tl us x) e_str (EE.is (e_lcM (j := 3) u (fun x => .d (dL x)) (fun x => dW (tl us x)) (fun _ _ => dL_inj) nd (ei_strW (e_var 1)) (szl (by omega)) fun l a ha s0 H2 cl C fp => ?_) (by rw [List.map_map]; rfl)) (by rw [flat_tl]; omega)) (by rw [flat_tl])) ⟨_, rfl, by omega, rfl⟩) fun v H1 y r e hv => ?_
  · exact e_dgetK (hu1 hr) (e_var 2).ob (e_var 3) (ht.get (hk a ha) hl) rfl
  · cases e
    exact hrt v H1 _ (r1.trans r) hC hv
def R_ring_retold (xs : List Ds) (C : Ds → Prop) : Prop := ∃ (us : List NL.W) (u : NL.W), xs = [.d (.tuple (us.map dW)), .d (dW u)] ∧ us.length ≤ 4 ∧ (∀ u ∈ us, u.length ≤ 10) ∧ u.length ≤ 100 ∧ Rk us.length u ∧ C (.d (dW (NL.rtold (tl us) u)))
theorem c_ring_retold (G : Gs K mg) : Cal P w K mg base "ring_retold" 5 (spP R_ring_retold) := by
  -- slots: 0=retelling 1=ring
  have S : FnScope ["retelling", "ring"] ["retelling", "ring"] (defScope (top 16)) := ⟨rfl, rfl, rfl, by decide +kernel, rfl, by decide +kernel, by decide +kernel⟩
  refine cal_P (G.df 11 _ rfl) S (fun _ _ _ _ _ _ us hl => match us, hl with | [_, _], _ => rfl) (fun xs C h => by obtain ⟨us, u, e, hl, hu, hul, hk, hC⟩ := h; subst e; rfl) fun f cdv A outer s H0 E M xs C D hr h hrt hnx tr => ?_
  obtain ⟨us, u, e, hl, hu, hul, hk, hC⟩ := h
  subst e
  have nd := S.nd
  have hs := sub_len us hu u
  have h2 := red_len (NL.sub (tl us) u)
  refine ss_ret (e_call1 (C := Is (.d (dW (NL.rtold (tl us) u)))) (c_ring_of G) (hr.mono (by decide)) (e_call2 (C := Is (.d (dW (red (NL.sub (tl us) u))))) (c_retold G) (hr.mono (by decide)) (e_var 0) (e_var 1) ⟨us, u, rfl, hl, hu, hul, hk, rfl⟩) ⟨_, rfl, by omega, rfl⟩) fun v H1 y r e hv => ?_
  cases e
  exact hrt v H1 _ r hC hv
end
end NQ

namespace NQ
open PySem PySem.Spec L2 NP
open NL (inv red invw mid Red S8 Side wh rtold rmap sub Per single)
theorem count_enc (w : NL.W) (x : Lt) : Txt.count (enc w) (enc [x]) = (w.count x : Nat) := by
  show Txt.count (enc w) ⟨#[code x]⟩ = _
  rw [PyProof.Rows.count_cnt, enc_cps]
  have inj : ∀ x y : Lt, (code x = code y) = (x = y) := by decide
  induction w with
  | nil => rfl
  | cons y w ih =>
    rw [List.map_cons, List.count_cons, PyProof.Rows.cnt_cons, ih]
    by_cases c : y = x
    · subst c; simp; omega
    · rw [if_neg (fun e => c (by rwa [inj] at e))]; simp [c]
/-! ### rank -/
theorem Rk_red {n : Nat} {w : NL.W} (h : Rk n w) : Rk n (red w) := by
  rw [← foldl_push_nil]
  have : ∀ (w s : NL.W), Rk n w → Rk n s → Rk n (w.foldl push s) := by
    intro w
    induction w with
    | nil => intro s _ hs; exact hs
    | cons x w ih =>
      intro s hw hs
      rw [List.foldl_cons]
      refine ih _ (fun y hy => hw y (by simp [hy])) ?_
      unfold push
      split
      · exact fun y hy => hs y (List.dropLast_subset _ hy)
      · intro y hy
        rcases List.mem_append.mp hy with hy | hy
        · exact hs y hy
        · simp at hy; subst hy; exact hw y (by simp)
  exact this w [] h (fun y hy => by cases hy)
theorem Rk_mid {n : Nat} {w : NL.W} (h : Rk n w) : Rk n (mid w) := by
  rw [mid_eq]
  split
  · rename_i c
    have := c.1
    exact Rk_mid (w := w.tail.dropLast) fun y hy => h y (List.mem_of_mem_tail (List.dropLast_subset _ hy))
  · exact h
termination_by w.length
decreasing_by simp; omega
theorem Rk_ring {n : Nat} {w : NL.W} (h : Rk n w) : Rk n (NL.ring w) := fun y hy => Rk_mid h y ((NL.minrot_rot (mid w)).perm.mem_iff.mpr hy)
theorem inv_rk (n : Nat) (x : Lt) : (inv x).val < 2 * n ↔ x.val < 2 * n := by
  have : ∀ x : Lt, (inv x).val / 2 = x.val / 2 := by decide
  have := this x
  omega
theorem Rk_invw {n : Nat} {w : NL.W} (h : Rk n w) : Rk n (invw w) := by
  intro y hy
  unfold invw at hy
  rw [List.mem_reverse, List.mem_map] at hy
  obtain ⟨x, hx, rfl⟩ := hy
  exact (inv_rk n x).mpr (h x hx)
theorem Rk_sub {n : Nat} {f : Lt → NL.W} (hf : ∀ x, x.val < 2 * n → Rk n (f x)) {w : NL.W} (h : Rk n w) : Rk n (sub f w) := by
  intro y hy
  unfold sub at hy
  obtain ⟨x, hx, hy⟩ := List.mem_flatMap.mp hy
  exact hf x (h x hx) y hy
theorem Rk_rtold {n : Nat} {f : Lt → NL.W} (hf : ∀ x, x.val < 2 * n → Rk n (f x)) {w : NL.W} (h : Rk n w) : Rk n (rtold f w) := Rk_ring (Rk_red (Rk_sub hf h))
theorem rtold_rk {n : Nat} {f g : Lt → NL.W} (e : ∀ x : Lt, x.val < 2 * n → f x = g x) {w : NL.W} (h : Rk n w) : rtold f w = rtold g w := by
  have : sub f w = sub g w := by
    unfold sub
    rw [List.flatMap_def, List.flatMap_def]
    congr 1
    apply List.map_congr_left
    intro x hx
    exact e x (h x hx)
  unfold rtold
  rw [this]
/-! ### steps -/
inductive Sx where
  | ch (a : Lt) (S : S8)
  | ex (ps : List Lt)
def pf (n : Nat) (ps : List Lt) (x : Lt) : Lt := if x.val < 2 * n then (if x.val % 2 = 0 then ps.getD (x.val / 2) 0 else inv (ps.getD (x.val / 2) 0)) else x
def permB (n : Nat) (ps : List Lt) : Bool := ps.length == n && ps.all (fun x => decide (x.val < 2 * n)) && (List.range n).all fun i => (List.range n).all fun j => (i == j) || (decide (ps.getD i 0 ≠ ps.getD j 0) && decide (ps.getD i 0 ≠ inv (ps.getD j 0)))
/-- the exchange back -/
def qsOf (n : Nat) (ps : List Lt) : List Lt := (List.range n).flatMap fun j => (List.range n).flatMap fun i => (if ps.getD i 0 = lo j then [lo i] else []) ++ (if ps.getD i 0 = inv (lo j) then [inv (lo i)] else [])
def InS (n : Nat) (S : S8) : Prop := ∀ x, S x = true → x.val < 2 * n
def Sx.ok (n : Nat) : Sx → Prop
  | .ch a S => a.val < 2 * n ∧ Side a S ∧ InS n S
  | .ex ps => permB n ps = true
def Sx.fn (n : Nat) : Sx → Lt → NL.W
  | .ch a S => wh a S
  | .ex ps => single (pf n ps)
def Sx.us (n : Nat) : Sx → List NL.W
  | .ch a S => (List.range n).map fun i => wh a S (lo i)
  | .ex ps => ps.map fun x => [x]
def Sx.back (n : Nat) : Sx → Sx
  | .ch a S => .ch (inv a) (NL.bk a S)
  | .ex ps => .ex (qsOf n ps)
def lists : Nat → List (List Lt)
  | 0 => [[]]
  | k + 1 => (lists k).flatMap fun l => (List.finRange 8).map fun x => x :: l
theorem mem_lists : ∀ l : List Lt, l ∈ lists l.length
  | [] => by simp [lists]
  | x :: l => by
    rw [List.length_cons, lists, List.mem_flatMap]
    exact ⟨l, mem_lists l, List.mem_map.mpr ⟨x, List.mem_finRange x, rfl⟩⟩
def goodB (n : Nat) (ps : List Lt) : Bool := !permB n ps || (permB n (qsOf n ps) && (List.finRange 8).all fun x => decide (pf n (qsOf n ps) (pf n ps x) = x) && decide (pf n ps (pf n (qsOf n ps) x) = x) && decide (pf n ps (inv x) = inv (pf n ps x)) && decide (pf n (qsOf n ps) (inv x) = inv (pf n (qsOf n ps) x)) && decide ((pf n ps x).val < 2 * n ↔ x.val < 2 * n))
theorem all_good : ∀ n, n ≤ 4 → (lists n).all (goodB n) = true := by
  intro n hn
  have : n = 0 ∨ n = 1 ∨ n = 2 ∨ n = 3 ∨ n = 4 := by omega
  rcases this with rfl | rfl | rfl | rfl | rfl <;> decide +kernel
theorem perm_good {n : Nat} (hn : n ≤ 4) {ps : List Lt} (h : permB n ps = true) : permB n (qsOf n ps) = true ∧ Per (pf n ps) (pf n (qsOf n ps)) ∧ ∀ x, (pf n ps x).val < 2 * n ↔ x.val < 2 * n := by
  have hl : ps.length = n := by
    unfold permB at h
    simp only [Bool.and_eq_true, beq_iff_eq] at h
    exact h.1.1
  have h1 := List.all_eq_true.mp (all_good n hn) ps (by rw [← hl]; exact mem_lists ps)
  unfold goodB at h1
  rw [h] at h1
  simp only [Bool.not_true, Bool.false_or, Bool.and_eq_true, List.all_eq_true, decide_eq_true_eq] at h1
  obtain ⟨h2, h3⟩ := h1
  have h3 := fun x => h3 x (List.mem_finRange x)
  exact ⟨h2, ⟨fun x => (h3 x).1.1.2, fun x => (h3 x).1.2, fun x => (h3 x).1.1.1.1, fun x => (h3 x).1.1.1.2⟩, fun x => (h3 x).2⟩
/-! ### what a step does, as told -/
theorem lo_half : ∀ x : Lt, x.val % 2 = 0 → lo (x.val / 2) = x := by decide
theorem lo_half' : ∀ x : Lt, x.val % 2 ≠ 0 → inv (lo (x.val / 2)) = x := by decide
theorem tl_fn {n : Nat} (hn : n ≤ 4) {s : Sx} (hs : s.ok n) {x : Lt} (hx : x.val < 2 * n) : tl (s.us n) x = s.fn n x := by
  cases s with
  | ch a S =>
    have e : ((Sx.ch a S).us n).getD (x.val / 2) [] = wh a S (lo (x.val / 2)) := by
      show ((List.range n).map fun i => wh a S (lo i)).getD (x.val / 2) [] = _
      rw [List.getD_eq_getElem?_getD, List.getElem?_map, List.getElem?_range (by omega)]; rfl
    unfold tl
    rw [e]
    by_cases c : x.val % 2 = 0
    · rw [if_pos c, lo_half x c]; rfl
    · rw [if_neg c, ← NL.wh_invw, lo_half' x c]; rfl
  | ex ps =>
    have hl : ps.length = n := by
      have h : permB n ps = true := hs
      unfold permB at h
      simp only [Bool.and_eq_true, beq_iff_eq] at h
      exact h.1.1
    have e : ((Sx.ex ps).us n).getD (x.val / 2) [] = [ps.getD (x.val / 2) 0] := by
      show (ps.map fun x => [x]).getD (x.val / 2) [] = _
      rw [List.getD_eq_getElem?_getD, List.getD_eq_getElem?_getD, List.getElem?_map, List.getElem?_eq_getElem (by omega)]; rfl
    show _ = [pf n ps x]
    unfold tl pf
    rw [e, if_pos hx]
    by_cases c : x.val % 2 = 0
    · rw [if_pos c, if_pos c]
    · rw [if_neg c, if_neg c]; rfl
theorem fn_rk {n : Nat} (hn : n ≤ 4) {s : Sx} (hs : s.ok n) (x : Lt) (hx : x.val < 2 * n) : Rk n (s.fn n x) := by
  cases s with
  | ch a S =>
    obtain ⟨ha, _, _⟩ := hs
    show Rk n (wh a S x)
    intro y hy
    unfold wh at hy
    have hi := (inv_rk n a).mpr ha
    split at hy
    · simp at hy; subst hy; exact hx
    · rcases List.mem_append.mp hy with hy | hy
      · split at hy
        · simp at hy; subst hy; exact hi
        · cases hy
      · rcases List.mem_append.mp hy with hy | hy
        · simp at hy; subst hy; exact hx
        · split at hy
          · simp at hy; subst hy; exact ha
          · cases hy
  | ex ps =>
    intro y hy
    have hy : y ∈ [pf n ps x] := hy
    simp at hy
    subst hy
    exact ((perm_good hn hs).2.2 x).mpr hx
theorem us_len {n : Nat} {s : Sx} (hs : s.ok n) : (s.us n).length = n := by
  cases s with
  | ch a S => show ((List.range n).map fun i => wh a S (lo i)).length = n; simp
  | ex ps =>
    have h : permB n ps = true := hs
    unfold permB at h
    simp only [Bool.and_eq_true, beq_iff_eq] at h
    show (ps.map fun x => [x]).length = n
    rw [List.length_map]; exact h.1.1
theorem us_short {n : Nat} {s : Sx} : ∀ u ∈ s.us n, u.length ≤ 3 := by
  intro u hu
  cases s with
  | ch a S =>
    obtain ⟨i, _, rfl⟩ := List.mem_map.mp hu
    unfold wh
    split
    · simp
    · simp only [List.length_append, List.length_cons, List.length_nil]
      split <;> split <;> simp
  | ex ps =>
    obtain ⟨i, _, rfl⟩ := List.mem_map.mp hu
    simp
theorem rtold_us {n : Nat} (hn : n ≤ 4) {s : Sx} (hs : s.ok n) {w : NL.W} (h : Rk n w) : rtold (tl (s.us n)) w = rtold (s.fn n) w := rtold_rk (fun _ hx => tl_fn hn hs hx) h
theorem back_ok {n : Nat} (hn : n ≤ 4) {s : Sx} (hs : s.ok n) : (s.back n).ok n := by
  cases s with
  | ch a S =>
    obtain ⟨ha, hS, hi⟩ := hs
    refine ⟨(inv_rk n a).mpr ha, NL.bk_Side a S, fun x hx => ?_⟩
    unfold NL.bk at hx
    split at hx
    · cases hx
    · split at hx
      · rename_i e; rw [e]; exact (inv_rk n a).mpr ha
      · exact hi x hx
  | ex ps => exact (perm_good hn hs).1
theorem rmap_back {n : Nat} (hn : n ≤ 4) {s : Sx} (hs : s.ok n) {R : NL.Row} (hR : NL.rowR R) : rmap ((s.back n).fn n) (rmap (s.fn n) R) = R := by
  cases s with
  | ch a S => exact NL.rmap_bk a S hR
  | ex ps => exact NL.rmap_per (perm_good hn hs).2.1 hR
theorem step_fn {n : Nat} (hn : n ≤ 4) {s : Sx} (hs : s.ok n) (R : NL.Row) : NL.Step R (rmap (s.fn n) R) := by
  cases s with
  | ch a S => exact .ch a S R hs.2.1
  | ex ps => exact .pe _ _ R (perm_good hn hs).2.1
def RkR (n : Nat) (R : NL.Row) : Prop := ∀ w ∈ R, Rk n w
theorem RkR_rmap {n : Nat} (hn : n ≤ 4) {s : Sx} (hs : s.ok n) {R : NL.Row} (h : RkR n R) : RkR n (rmap (s.fn n) R) := by
  intro w hw
  obtain ⟨u, hu, rfl⟩ := List.mem_map.mp hw
  exact Rk_rtold (fun x hx => fn_rk hn hs x hx) (h u hu)
/-- the rows along a road -/
def along (n : Nat) : List Sx → NL.Row → List NL.Row
  | [], _ => []
  | s :: r, R => rmap (s.fn n) R :: along n r (rmap (s.fn n) R)
end NQ

namespace NQ
open PySem PySem.Spec L2 NP
open NL (inv red invw mid Red S8 Side wh rtold rmap sub Per single)
section
variable {W : Wd} {X : Cx} {e a b o k tg iter : Expr} {es : List Expr} {ds : List Ds} {H H' : Hp} {pos p apos pos' p2 p3 p4 : Pos} {A B C : Ds → Prop} {D : Ends} {rest body els : List Stmt} {u v : NL.W} {x y : Lt}
theorem ei_tupM {α : Type} {as : List α} {f : α → PyData} (he : EE W X e ds H (Is (.d (.tuple (as.map f))))) : EI W X tg e ds H (Is (as.map fun a => .d (f a))) :=
  EI.imp (ei_tup (P := fun xs => xs = as.map f) (he.imp fun y ey => ⟨_, ey, rfl⟩)) fun its ⟨xs, e1, e2⟩ => by rw [e1, e2, List.map_map]; rfl
theorem ei_lstM {α : Type} {as : List α} {f : α → PyData} (he : EE W X e ds H (Is (.d (.list (as.map f))))) : EI W X tg e ds H (Is (as.map fun a => .d (f a))) :=
  EI.imp (ei_lst (P := fun xs => xs = as.map f) (he.imp fun y ey => ⟨_, ey, rfl⟩)) fun its ⟨xs, e1, e2⟩ => by rw [e1, e2, List.map_map]; rfl
/-- a letter in a tuple of letters -/
theorem mem_strs (x : Lt) (l : List Lt) : (enc [x] ∈ l.map fun y => enc [y]) = (x ∈ l) := propext ⟨fun h => by
  obtain ⟨y, hy, e⟩ := List.mem_map.mp h
  rw [enc1_eq] at e
  subst e; exact hy, fun h => List.mem_map.mpr ⟨x, h, rfl⟩⟩
theorem et_inT {l : List Lt} (ha : EE W X a ds H (Is (.d (dL x)))) (hb : EE W X b ds H (Is (.d (.tuple (l.map dL))))) (hm : behindInMarks .In b = false := by rfl) : ET W X (.Compare a [.In] [b] pos) ds H (Is (decide (x ∈ l))) :=
  ET.is (et_cmpI op_in_seq ha (hb.is (by rw [show l.map dL = (l.map fun y => enc [y]).map .str by rw [List.map_map]; rfl])) rd_inT hm) (by
    show decide _ = _
    congr 1
    exact mem_strs x l)
theorem et_inLs {l : List Lt} (ha : EE W X a ds H (Is (.d (dL x)))) (hb : EE W X b ds H (Is (.d (.list (l.map dL))))) (hm : behindInMarks .In b = false := by rfl) : ET W X (.Compare a [.In] [b] pos) ds H (Is (decide (x ∈ l))) :=
  ET.is (et_cmpI op_in_seq ha (hb.is (by rw [show l.map dL = (l.map fun y => enc [y]).map .str by rw [List.map_map]; rfl])) rd_inL hm) (by
    show decide _ = _
    congr 1
    exact mem_strs x l)
end
theorem ev_letters : ∀ n, n ≤ 4 → ev ((lettersOf n).map dL) = (List.range n).map fun i => dL (lo i) := by
  intro n hn
  have : n = 0 ∨ n = 1 ∨ n = 2 ∨ n = 3 ∨ n = 4 := by omega
  rcases this with rfl | rfl | rfl | rfl | rfl <;> rfl
def los (n : Nat) : List Lt := (List.range n).map lo
theorem mem_letters (n : Nat) (x : Lt) : x ∈ lettersOf n ↔ x.val < 2 * n := by
  unfold lettersOf
  constructor
  · intro h
    obtain ⟨i, hi, e⟩ := List.getElem_of_mem h
    rw [List.length_take] at hi
    rw [List.getElem_take, List.getElem_finRange] at e
    have : x.val = i := by rw [← e]; rfl
    omega
  · intro h
    refine List.mem_of_getElem? (i := x.val) ?_
    rw [List.getElem?_take_of_lt h, List.getElem?_eq_getElem (by simp)]
    rw [List.getElem_finRange]; rfl
/-- a side, a change, a step, a row as data -/
abbrev dS (n : Nat) (S : S8) : PyData := .tuple (((lettersOf n).filter S).map dL)
abbrev dCh (n : Nat) (a : Lt) (S : S8) : PyData := .tuple [dL a, dS n S]
abbrev dR (R : NL.Row) : PyData := .tuple (R.map dW)
def dX (n : Nat) : Sx → PyData
  | .ch a S => .tuple [.str "change", dL a, dS n S]
  | .ex ps => .tuple [.str "exchange", .tuple (ps.map dL)]
theorem mem_side {n : Nat} {S : S8} (h : InS n S) (x : Lt) : (x ∈ (lettersOf n).filter S) = (S x = true) := propext (by
  rw [List.mem_filter, mem_letters]
  exact ⟨fun h => h.2, fun q => ⟨h x q, q⟩⟩)
theorem dec_side {n : Nat} {S : S8} (h : InS n S) (x : Lt) : decide (x ∈ (lettersOf n).filter S) = S x := by
  have := mem_side h x
  cases e : S x <;> simp [this, e]
section
variable {P : Program} {w : World} {K : PySem.W.Frag} {mg : Str → Option Value} {base : Heap}
def R_told_by_change (xs : List Ds) (C : Ds → Prop) : Prop := ∃ (n : Nat) (a x : Lt) (S : S8), xs = [.d (dCh n a S), .d (dL x)] ∧ InS n S ∧ C (.d (dW (wh a S x)))
theorem c_told_by_change (G : Gs K mg) : Cal P w K mg base "told_by_change" 2 (spP R_told_by_change) := by
  -- slots: 0=change 1=letter 2=by 3=side 4=word
  have S : FnScope ["change", "letter", "by", "side", "word"] ["change", "letter"] (defScope (top 31)) := ⟨rfl, rfl, rfl, by decide +kernel, rfl, by decide +kernel, by decide +kernel⟩
  refine cal_P (G.df 21 _ rfl) S (fun _ _ _ _ _ _ us hl => match us, hl with | [_, _], _ => rfl) (fun xs C h => by obtain ⟨n, a, x, S', e, hS, hC⟩ := h; subst e; rfl) fun f cdv A outer s H0 E M xs C D hr h hrt hnx tr => ?_
  obtain ⟨n, a, x, S', e, hS, hC⟩ := h
  subst e
  have nd := S.nd
  refine ss_asgI (e_var 0) (eh_two (i := 2) (j := 3) rfl nd) fun H1 r1 => ?_
  refine ss_if (P := Is (decide (x ∈ [a, inv a]))) (et_inT (l := [a, inv a]) (e_var 1) (e_tup (xs := [dL a, dL (inv a)]) (ea_c (e_var 2) (ea_c (e_call1 (c_contrary G) (hr.mono (by decide)) (e_var 2) ⟨a, rfl, rfl⟩) ea_nil)) (szl (by simp)))) (fun ht H2 r2 => ?_) fun ht H2 r2 => ?_
  · have ht : x ∈ [a, inv a] := of_decide_eq_true ht.symm
    have e : wh a S' x = [x] := by unfold wh; rw [if_pos (by simpa using ht)]
    refine ss_ret (e_var 1) fun v H3 y r e2 hv => ?_
    cases e2
    exact hrt v H3 _ ((r1.trans r2).trans r) hC (by rw [e]; exact hv)
  · have ht : ¬ (x = a ∨ x = inv a) := by
      intro z
      have : decide (x ∈ [a, inv a]) = true := by simpa using z
      rw [this] at ht; cases ht
    have e : wh a S' x = (if S' (inv x) = true then [inv a] else []) ++ ([x] ++ (if S' x = true then [a] else [])) := by unfold wh; rw [if_neg ht]
    rw [e] at hC
    refine ss_end (ss_setI (i := 4) (y := .d (dW [x])) (e_var 1) (fun H3 r3 => ?_) nd)
    have fin : ∀ (u : NL.W) (H4 : Hp), Same H0 H4 → u.length ≤ 3 → u = [x] ++ (if S' x = true then [a] else []) → SS (pur M) (XX P w K mg base ["change", "letter", "by", "side", "word"] "told_by_change" (top 31) f cdv A outer s H0 E) ((defBody (top 31)).drop 4) D [.d (dCh n a S'), .d (dL x), .d (dL a), .d (dS n S'), .d (dW u)] H4 := by
      intro u H4 s4 hul hu
      refine ss_if (P := Is (S' (inv x))) (ET.is (et_inT (e_call1 (c_contrary G) (hr.mono (by decide)) (e_var 1) ⟨x, rfl, rfl⟩) (e_var 3)) (dec_side hS (inv x))) (fun hb H5 r5 => ?_) fun hb H5 r5 => ?_
      · rw [if_pos hb.symm] at hC
        refine ss_setI (i := 4) (y := .d (dW (inv a :: u))) (e_catW (u := [inv a]) (e_call1 (c_contrary G) (hr.mono (by decide)) (e_var 2) ⟨a, rfl, rfl⟩) (e_var 4) (by show 1 + _ ≤ _; omega)) (fun H6 r6 => ?_) nd
        refine ss_end (ss_ret (e_var 4) fun v H7 y r e2 hv => ?_)
        cases e2
        exact hrt v H7 _ (((s4.trans r5).trans r6).trans r) hC (by rw [← hu]; exact hv)
      · rw [if_neg (by rw [← hb]; decide)] at hC
        refine ss_end (ss_ret (e_var 4) fun v H7 y r e2 hv => ?_)
        cases e2
        exact hrt v H7 _ ((s4.trans r5).trans r) hC (by rw [← hu]; exact hv)
    refine ss_if (P := Is (S' x)) (ET.is (et_inT (e_var 1) (e_var 3)) (dec_side hS x)) (fun hb H5 r5 => ?_) fun hb H5 r5 => ?_
    · refine ss_setI (i := 4) (y := .d (dW [x, a])) (e_catW (u := [x]) (v := [a]) (e_var 4) (e_var 2) (by simp)) (fun H6 r6 => ?_) nd
      exact ss_end (fin [x, a] H6 ((((r1.trans r2).trans r3).trans r5).trans r6) (by simp) (by rw [if_pos hb.symm]; rfl))
    · exact ss_end (fin [x] H5 (((r1.trans r2).trans r3).trans r5) (by simp) (by rw [if_neg (by rw [← hb]; decide)]; rfl))
def R_change_told (xs : List Ds) (C : Ds → Prop) : Prop := ∃ (n : Nat) (a : Lt) (S : S8), xs = [.d (.int n), .d (dCh n a S)] ∧ n ≤ 4 ∧ InS n S ∧ C (.d (.tuple (((Sx.ch a S).us n).map dW)))
theorem c_change_told (G : Gs K mg) : Cal P w K mg base "change_told" 3 (spP R_change_told) := by
  -- slots: 0=n 1=change 2=letter
  have S : FnScope ["n", "change", "letter"] ["n", "change"] (defScope (top 32)) := ⟨rfl, rfl, rfl, by decide +kernel, rfl, by decide +kernel, by decide +kernel⟩
  refine cal_P (G.df 22 _ rfl) S (fun _ _ _ _ _ _ us hl => match us, hl with | [_, _], _ => rfl) (fun xs C h => by obtain ⟨n, a, S', e, hn, hS, hC⟩ := h; subst e; rfl) fun f cdv A outer s H0 E M xs C D hr h hrt hnx tr => ?_
  obtain ⟨n, a, S', e, hn, hS, hC⟩ := h
  subst e
  have nd := S.nd
  refine ss_ret (A := Is (.d (.tuple (((Sx.ch a S').us n).map dW)))) (e_tupleLI (G.fr 1 _ rfl) (EE.is (e_lcM (j := 2) (los n) (fun x => .d (dL x)) (fun x => dW (wh a S' x)) (fun _ _ => dL_inj) nd (ei_tupM (f := dL) (EE.is (e_ev (e_call1 (c_letters_of G) (hr.mono (by decide)) (e_var 0) ⟨n, rfl, hn, rfl⟩)) (by rw [ev_letters n hn, los, List.map_map]; rfl))) (szl (by rw [los, List.length_map, List.length_range]; omega)) fun l i _ s0 H2 cl C fp => ?_) (by show _ = Ds.d (.list (((List.range n).map fun i => wh a S' (lo i)).map dW)); rw [los, List.map_map, List.map_map]; rfl))) fun v H1 y r e hv => ?_
  · exact e_call2 (c_told_by_change G) (hr.mono (by decide)) (e_var 1) (e_var 2) ⟨n, a, i, S', rfl, hS, rfl⟩
  · cases e
    exact hrt v H1 _ r hC hv
def RowOk (n : Nat) (R : NL.Row) : Prop := R.length ≤ 1000 ∧ ∀ w ∈ R, Rk n w ∧ w.length ≤ 100
theorem us_short10 {n : Nat} {s : Sx} : ∀ u ∈ s.us n, u.length ≤ 10 := fun u hu => by have := us_short u hu; omega
def R_rings_changed (xs : List Ds) (C : Ds → Prop) : Prop := ∃ (n : Nat) (R : NL.Row) (a : Lt) (S : S8), xs = [.d (.int n), .d (dR R), .d (dCh n a S)] ∧ n ≤ 4 ∧ (Sx.ch a S).ok n ∧ RowOk n R ∧ C (.d (dR (rmap (wh a S) R)))
theorem c_rings_changed (G : Gs K mg) : Cal P w K mg base "rings_changed" 6 (spP R_rings_changed) := by
  -- slots: 0=n 1=rings 2=change 3=told 4=ring
  have S : FnScope ["n", "rings", "change", "told", "ring"] ["n", "rings", "change"] (defScope (top 33)) := ⟨rfl, rfl, rfl, by decide +kernel, rfl, by decide +kernel, by decide +kernel⟩
  refine cal_P (G.df 23 _ rfl) S (fun _ _ _ _ _ _ us hl => match us, hl with | [_, _, _], _ => rfl) (fun xs C h => by obtain ⟨n, R, a, S', e, hn, hS, hR, hC⟩ := h; subst e; rfl) fun f cdv A outer s H0 E M xs C D hr h hrt hnx tr => ?_
  obtain ⟨n, R, a, S', e, hn, hS, hR, hC⟩ := h
  subst e
  have nd := S.nd
  refine ss_setI (i := 3) (y := .d (.tuple (((Sx.ch a S').us n).map dW))) (e_call2 (c_change_told G) (hr.mono (by decide)) (e_var 0) (e_var 2) ⟨n, a, S', rfl, hn, hS.2.2, rfl⟩) (fun H1 r1 => ?_) nd
  refine ss_ret (A := Is (.d (dR (rmap (wh a S') R)))) (e_tupleLI (G.fr 1 _ rfl) (EE.is (e_lcM (j := 4) R (fun w => .d (dW w)) (fun w => dW (rtold (wh a S') w)) (fun _ _ => dW_inj) nd (ei_tupM (e_var 1)) (szl (by have := hR.1; omega)) fun l w hw s0 H2 cl C fp => ?_) (by rw [rmap, List.map_map]; rfl))) fun v H2 y r e hv => ?_
  · have e1 := rtold_us hn hS (hR.2 w hw).1
    exact e_call2 (c_ring_retold G) (hr.mono (by decide)) (e_var 3) (e_var 4) ⟨(Sx.ch a S').us n, w, rfl, by rw [us_len hS]; exact hn, us_short10, (hR.2 w hw).2, by rw [us_len hS]; exact (hR.2 w hw).1, by rw [e1]; rfl⟩
  · cases e
    exact hrt v H2 _ (r1.trans r) hC hv
def R_length_of (xs : List Ds) (C : Ds → Prop) : Prop := ∃ (R : NL.Row), xs = [.d (dR R)] ∧ R.length ≤ 1000 ∧ (∀ w ∈ R, w.length ≤ 100) ∧ C (.d (.int (NL.rlen R)))
theorem sum_cast (R : NL.Row) (f : NL.W → Nat) : (R.map fun w => (f w : Int)).sum = ((R.map f).sum : Nat) := by
  induction R with
  | nil => rfl
  | cons w R ih => rw [List.map_cons, List.sum_cons, ih, List.map_cons, List.sum_cons]; omega
theorem c_length_of (G : Gs K mg) : Cal P w K mg base "length_of" 1 (spP R_length_of) := by
  -- slots: 0=rings 1=ring
  have S : FnScope ["rings", "ring"] ["rings"] (defScope (top 34)) := ⟨rfl, rfl, rfl, by decide +kernel, rfl, by decide +kernel, by decide +kernel⟩
  refine cal_P (G.df 24 _ rfl) S (fun _ _ _ _ _ _ us hl => match us, hl with | [_], _ => rfl) (fun xs C h => by obtain ⟨R, e, hl, hR, hC⟩ := h; subst e; rfl) fun f cdv A outer s H0 E M xs C D hr h hrt hnx tr => ?_
  obtain ⟨R, e, hl, hR, hC⟩ := h
  subst e
  have nd := S.nd
  refine ss_ret (A := Is (.d (.int (NL.rlen R)))) (EE.is (e_sum (ns := R.map fun w => (w.length : Int)) rfl (G.fr 9 _ rfl) (EE.is (e_lcM (j := 1) R (fun w => .d (dW w)) (fun w => .int w.length) (fun _ _ => dW_inj) nd (ei_tupM (e_var 0)) (szl (by omega)) fun l w hw s0 H2 cl C fp => ?_) (by rw [List.map_map]; rfl))) (by rw [sum_cast]; rfl)) fun v H2 y r e hv => ?_
  · exact e_lenW (G.fr 0 _ rfl) (e_var 1) (by have := hR w hw; omega)
  · cases e
    exact hrt v H2 _ r hC hv
def R_count_of (xs : List Ds) (C : Ds → Prop) : Prop := ∃ (R : NL.Row) (x : Lt), xs = [.d (dR R), .d (dL x)] ∧ R.length ≤ 1000 ∧ C (.d (.int (NL.rcnt x R)))
theorem c_count_of (G : Gs K mg) : Cal P w K mg base "count_of" 2 (spP R_count_of) := by
  -- slots: 0=rings 1=letter 2=ring
  have S : FnScope ["rings", "letter", "ring"] ["rings", "letter"] (defScope (top 21)) := ⟨rfl, rfl, rfl, by decide +kernel, rfl, by decide +kernel, by decide +kernel⟩
  refine cal_P (G.df 14 _ rfl) S (fun _ _ _ _ _ _ us hl => match us, hl with | [_, _], _ => rfl) (fun xs C h => by obtain ⟨R, x, e, hl, hC⟩ := h; subst e; rfl) fun f cdv A outer s H0 E M xs C D hr h hrt hnx tr => ?_
  obtain ⟨R, x, e, hl, hC⟩ := h
  subst e
  have nd := S.nd
  refine ss_ret (A := Is (.d (.int (NL.rcnt x R)))) (EE.is (e_sum (ns := R.map fun w => (NL.cnt x w : Int)) rfl (G.fr 9 _ rfl) (EE.is (e_lcM (j := 2) R (fun w => .d (dW w)) (fun w => .int (NL.cnt x w)) (fun _ _ => dW_inj) nd (ei_tupM (e_var 0)) (szl (by omega)) fun l w hw s0 H2 cl C fp => ?_) (by rw [List.map_map]; rfl))) (by rw [sum_cast]; rfl)) fun v H2 y r e hv => ?_
  · refine EE.is (e_add (e_count (e_var 2) (e_var 1)) (e_count (e_var 2) (e_call1 (c_contrary G) (hr.mono (by decide)) (e_var 1) ⟨x, rfl, rfl⟩))) ?_
    rw [count_enc, count_enc]
    rfl
  · cases e
    exact hrt v H2 _ r hC hv
def R_step_told (xs : List Ds) (C : Ds → Prop) : Prop := ∃ (n : Nat) (s : Sx), xs = [.d (.int n), .d (dX n s)] ∧ n ≤ 4 ∧ s.ok n ∧ C (.d (.tuple ((s.us n).map dW)))
theorem c_step_told (G : Gs K mg) : Cal P w K mg base "step_told" 4 (spP R_step_told) := by
  -- slots: 0=n 1=step
  have S : FnScope ["n", "step"] ["n", "step"] (defScope (top 37)) := ⟨rfl, rfl, rfl, by decide +kernel, rfl, by decide +kernel, by decide +kernel⟩
  refine cal_P (G.df 26 _ rfl) S (fun _ _ _ _ _ _ us hl => match us, hl with | [_, _], _ => rfl) (fun xs C h => by obtain ⟨n, s', e, hn, hs, hC⟩ := h; subst e; rfl) fun f cdv A outer s H0 E M xs C D hr h hrt hnx tr => ?_
  obtain ⟨n, s', e, hn, hs, hC⟩ := h
  subst e
  have nd := S.nd
  cases s' with
  | ch a S' =>
    refine ss_if (P := Is true) (ET.is (et_cmpI op_eq (e_ixT (xs := [.str "change", dL a, dS n S']) (d := .str "change") (e_var 1) e_int rfl) e_str rd_eqS) (by decide)) (fun ht H1 r1 => ?_) fun ht H1 r1 => by cases ht
    refine ss_ret (A := Is (.d (.tuple (((Sx.ch a S').us n).map dW)))) (e_call2 (c_change_told G) (hr.mono (by decide)) (e_var 0) (EE.is (e_slT (xs := [.str "change", dL a, dS n S']) (e_var 1) (.som e_int) .non) (y := .d (dCh n a S')) rfl) ⟨n, a, S', rfl, hn, hs.2.2, rfl⟩) fun v H2 y r e hv => ?_
    cases e
    exact hrt v H2 _ (r1.trans r) hC hv
  | ex ps =>
    refine ss_if (P := Is false) (ET.is (et_cmpI op_eq (e_ixT (xs := [.str "exchange", .tuple (ps.map dL)]) (d := .str "exchange") (e_var 1) e_int rfl) e_str rd_eqS) (by decide)) (fun ht H1 r1 => by cases ht) fun ht H1 r1 => ?_
    refine ss_end (ss_ret (e_ixT (xs := [.str "exchange", .tuple (ps.map dL)]) (d := .tuple (ps.map dL)) (e_var 1) e_int rfl) fun v H2 y r e hv => ?_)
    cases e
    have e2 : ((Sx.ex ps).us n).map dW = ps.map dL := by show (ps.map fun x => [x]).map dW = _; rw [List.map_map]; rfl
    rw [e2] at hC
    exact hrt v H2 _ (r1.trans r) hC hv
end
end NQ

namespace NQ
open PySem PySem.Spec L2 NP
open NL (inv red invw mid Red S8 Side wh rtold rmap sub Per single)
section
variable {W : Wd} {X : Cx} {e a b o k tg iter : Expr} {es : List Expr} {ds : List Ds} {H H' : Hp} {pos p apos pos' p2 p3 p4 : Pos} {A B C : Ds → Prop} {D : Ends} {rest body els : List Stmt} {u v : NL.W} {x y : Lt}
theorem e_lcMw {α : Type} {elt : Expr} {scope : Scope} {j : Nat} {x : Str} {px : Pos} (as : List α) (g : α → Ds) (f : α → PyData) (inj : ∀ a ∈ as, ∀ b ∈ as, g a = g b → f a = f b) (hN : X.N.Nodup) (hi : EI W X (.Name x px) iter ds H (Is (as.map g))) (hl : as.length < sizeLine)
    (he : ∀ l a, a ∈ as → ∀ s0 H0 cl C fp, EE (W.add l) (Blk X s0 H0 scope cl C fp) elt ((wipeD ds [j]).set j (g a)) H (Is (.d (f a))))
    (hc : X.calm = true := by rfl) (ok : BlkOk X.N X.env.scope scope [(x, j)] := by exact blkOk_by (by rfl))
    (hg : ∀ s H C cl fp, PG (Blk X s H scope cl C fp) (.Name x px) (gName j) := by exact fun _ _ _ _ _ => pg_name (by assumption) rfl (Or.inl rfl))
    (hs : ∀ x, foldedSetIterable iter X.env x = pure x := by intro _; rfl) : EE W X (.ListComp elt [⟨.Name x px, iter, [], 0⟩] scope pos) ds H (Is (.d (.list (as.map f)))) :=
  (lc_main (T := fun _ => Is true) (G := fun y d => ∃ a ∈ as, y = g a ∧ d = f a) hc hN hi (fun its e => by cases e; rw [List.length_map]; exact hl) ok hg (fun _ _ _ _ _ => pts_nil) (fun l its y e m σ H1 r o Q q => q true H1 (W.refl _) rfl)
    (fun l its y e m _ s0 H0 cl C fp => by
      cases e
      obtain ⟨a, ha, rfl⟩ := List.mem_map.mp m
      exact (he l a ha s0 H0 cl C fp).imp fun z ez => ⟨_, ez, a, ha, rfl, rfl⟩) hs).imp fun z ⟨its, out, e1, lr, e2⟩ => by
    cases e1
    have := lcR_map g f (fun _ => true) lr as rfl (fun _ _ b e => e) (fun a ha d ⟨a', ha', e3, e4⟩ => by rw [e4, inj a' ha' a ha e3.symm])
    have e3 : as.filter (fun _ => true) = as := List.filter_eq_self.mpr fun _ _ => rfl
    rw [e2, this, e3]
    rfl
end
section
variable {P : Program} {w : World} {K : PySem.W.Frag} {mg : Str → Option Value} {base : Heap}
theorem back_side {n : Nat} {a : Lt} {S : S8} (hS : (Sx.ch a S).ok n) (x : Lt) : decide (x ∈ ((lettersOf n).filter S).filter (fun x => !decide (x = a)) ++ [inv a]) = NL.bk a S x := by
  obtain ⟨ha, hs, hi⟩ := hS
  have e := mem_side hi x
  unfold NL.bk
  by_cases c : x = a
  · subst c; simp
  · by_cases c2 : x = inv a
    · subst c2; simp
    · rw [if_neg c, if_neg c2]
      have : (x ∈ ((lettersOf n).filter S).filter (fun x => !decide (x = a)) ++ [inv a]) = (S x = true) := by
        rw [List.mem_append, List.mem_filter, e]
        simp [c, c2]
      rw [Bool.eq_iff_iff, decide_eq_true_eq]
      exact Iff.of_eq this
def R_change_back (xs : List Ds) (C : Ds → Prop) : Prop := ∃ (n : Nat) (a : Lt) (S : S8), xs = [.d (.int n), .d (dL a), .d (dS n S)] ∧ n ≤ 4 ∧ (Sx.ch a S).ok n ∧ C (.d (dX n ((Sx.ch a S).back n)))
theorem c_change_back (G : Gs K mg) : Cal P w K mg base "change_back" 2 (spP R_change_back) := by
  -- slots: 0=n 1=letter 2=side 3=there 4=one
  have S : FnScope ["n", "letter", "side", "there", "one"] ["n", "letter", "side"] (defScope (top 38)) := ⟨rfl, rfl, rfl, by decide +kernel, rfl, by decide +kernel, by decide +kernel⟩
  refine cal_P (G.df 27 _ rfl) S (fun _ _ _ _ _ _ us hl => match us, hl with | [_, _, _], _ => rfl) (fun xs C h => by obtain ⟨n, a, S', e, hn, hS, hC⟩ := h; subst e; rfl) fun f cdv A outer s H0 E M xs C D hr h hrt hnx tr => ?_
  obtain ⟨n, a, S', e, hn, hS, hC⟩ := h
  subst e
  have nd := S.nd
  refine ss_setI (i := 3) (y := .d (.list ((((lettersOf n).filter S').filter (fun x => !decide (x = a)) ++ [inv a]).map dL))) (EE.is (e_catL (ys := [dL (inv a)]) (e_lcMF (j := 4) ((lettersOf n).filter S') (fun x => .d (dL x)) dL (fun x => !decide (x = a)) (fun _ _ => dL_inj) nd (ei_tupM (e_var 2)) ?_ (fun l x hx s0 H2 cl C fp => ?_) fun l x hx _ s0 H2 cl C fp => e_var 4) (e_lst (xs := [dL (inv a)]) (ea_c (e_call1 (c_contrary G) (hr.mono (by decide)) (e_var 1) ⟨a, rfl, rfl⟩) ea_nil) (szl (by simp))) ?_) (by rw [List.map_append]; rfl)) (fun H1 r1 => ?_) nd
  · have := List.length_filter_le S' (lettersOf n)
    rw [lettersOf_len n hn] at this
    exact szl (by omega)
  · exact et_neL (e_var 4) (e_var 1)
  · have := List.length_filter_le S' (lettersOf n)
    have h2 := List.length_filter_le (fun x => !decide (x = a)) ((lettersOf n).filter S')
    rw [lettersOf_len n hn] at this
    rw [List.length_map]
    exact Nat.le_trans (Nat.succ_le_succ h2) (show _ ≤ 16777216 by omega)
  · refine ss_ret (A := Is (.d (dX n ((Sx.ch a S').back n)))) (e_tup (xs := [.str "change", dL (inv a), dS n (NL.bk a S')]) (ea_c e_str (ea_c (e_call1 (c_contrary G) (hr.mono (by decide)) (e_var 1) ⟨a, rfl, rfl⟩) (ea_c (e_tupleLI (G.fr 1 _ rfl) (EE.is (e_lcMF (j := 4) (lettersOf n) (fun x => .d (dL x)) dL (fun x => NL.bk a S' x) (fun _ _ => dL_inj) nd (ei_tupM (e_call1 (c_letters_of G) (hr.mono (by decide)) (e_var 0) ⟨n, rfl, hn, rfl⟩)) (szl (by rw [lettersOf_len n hn]; omega)) (fun l x hx s0 H2 cl C fp => ?_) fun l x hx _ s0 H2 cl C fp => e_var 4) rfl)) ea_nil))) (szl (by simp))) fun v H2 y r e hv => ?_
    · exact ET.is (et_inLs (e_var 4) (e_var 3)) (back_side hS x)
    · cases e
      exact hrt v H2 _ (r1.trans r) hC hv
def xq (l : Lt) (t : Lt × Lt) : List Lt := (if t.2 = l then [t.1] else []) ++ (if t.2 = inv l then [inv t.1] else [])
theorem zip_los {n : Nat} {ps : List Lt} (h : ps.length = n) : List.zip (los n) ps = (List.range n).map fun i => (lo i, ps.getD i 0) := by
  apply List.ext_getElem
  · simp [los, h]
  · intro i h1 h2
    simp only [List.length_map, List.length_range] at h2
    have e : ps.getD i 0 = ps[i]'(by omega) := by rw [List.getD_eq_getElem?_getD, List.getElem?_eq_getElem (by omega)]; rfl
    rw [List.getElem_zip, List.getElem_map, List.getElem_range, e]
    simp [los]
theorem qs_eq {n : Nat} {ps : List Lt} (h : ps.length = n) : (los n).flatMap (fun l => (List.zip (los n) ps).flatMap (xq l)) = qsOf n ps := by
  rw [zip_los h]
  unfold qsOf los
  rw [List.flatMap_map]
  congr 1
  funext j
  rw [List.flatMap_map]
  rfl
theorem zw_zip (l : List Lt) (ps : List Lt) : List.zipWith (fun a b => Ds.d (.tuple [a, b])) (l.map dL) (ps.map dL) = (List.zip l ps).map fun t => .d (.tuple [dL t.1, dL t.2]) := by
  induction l generalizing ps with
  | nil => rfl
  | cons x l ih => cases ps with
    | nil => rfl
    | cons y ps => rw [List.map_cons, List.map_cons, List.zipWith_cons_cons, ih, List.zip_cons_cons, List.map_cons]
theorem flat_len {α : Type} (f : α → List Lt) (l : List α) (k : Nat) (h : ∀ a ∈ l, (f a).length ≤ k) : (l.flatMap f).length ≤ k * l.length := by
  induction l with
  | nil => simp
  | cons a l ih =>
    rw [List.flatMap_cons, List.length_append, List.length_cons]
    have := h a (by simp)
    have := ih fun b hb => h b (by simp [hb])
    rw [Nat.mul_succ]; omega
theorem xq_len (l : Lt) (t : Lt × Lt) : (xq l t).length ≤ 2 := by
  unfold xq
  rw [List.length_append]
  split <;> split <;> simp
def R_exchange_back (xs : List Ds) (C : Ds → Prop) : Prop := ∃ (n : Nat) (ps : List Lt), xs = [.d (.int n), .d (.tuple (ps.map dL))] ∧ n ≤ 4 ∧ ps.length = n ∧ C (.d (dX n (.ex (qsOf n ps))))
theorem c_exchange_back (G : Gs K mg) : Cal P w K mg base "exchange_back" 2 (spP R_exchange_back) := by
  -- slots: 0=n 1=told 2=found 3=letter 4=one 5=by
  have S : FnScope ["n", "told", "found", "letter", "one", "by"] ["n", "told"] (defScope (top 39)) := ⟨rfl, rfl, rfl, by decide +kernel, rfl, by decide +kernel, by decide +kernel⟩
  refine cal_P (G.df 28 _ rfl) S (fun _ _ _ _ _ _ us hl => match us, hl with | [_, _], _ => rfl) (fun xs C h => by obtain ⟨n, ps, e, hn, hl, hC⟩ := h; subst e; rfl) fun f cdv A outer s H0 E M xs C D hr h hrt hnx tr => ?_
  obtain ⟨n, ps, e, hn, hl, hC⟩ := h
  subst e
  have nd := S.nd
  refine ss_new (i := 2) (u := .lst []) (by intro _ h; cases h) new_lst (fun p H1 r1 hp => ?_) nd
  have h0 := none_of r1 hp
  have elos : ∀ {ds' : List Ds} {H' : Hp}, True := trivial
  refine ss_forM (as := los n) (g := fun x => .d (dL x)) (dz := fun x ds' => ds'.set 3 (.d (dL x))) (fun done ds' H' => Same H0 H' ∧ ∃ y1 y2 y3, ds' = [.d (.int n), .d (.tuple (ps.map dL)), .r (.ref p), y1, y2, y3] ∧ done.length ≤ 4 ∧ LB ((pur M).add p).M H' p ((done.flatMap (fun l => (List.zip (los n) ps).flatMap (xq l))).map dL)) (ei_tupM (f := dL) (EE.is (e_ev (e_call1 (c_letters_of G) (hr.mono (by decide)) (e_var 0) ⟨n, rfl, hn, rfl⟩)) (by rw [ev_letters n hn, los, List.map_map]; rfl))) ?_ ?_ ?_ ?_
  · intro H2 r2
    exact ⟨(r1.trans (same_new hp)).trans r2, _, _, _, rfl, by simp, LB.new.mono (W := (pur M).add p) (fun f => f) r2⟩
  · rintro done a ds' H' ⟨_, y1, y2, y3, rfl, _⟩ _
    exact eh_name (i := 3) nd
  · rintro done a todo ds' Hi H' eu ⟨s0, y1, y2, y3, rfl, hd, lb⟩ sm kq
    have lb := lb.mono (W := (pur M).add p) (fun f => f) sm
    have hd4 : (done ++ [a]).length ≤ 4 := by
      have : (los n).length = (done ++ a :: todo).length := by rw [← eu]
      simp [los] at this ⊢; omega
    have ef : (done ++ [a]).flatMap (fun l => (List.zip (los n) ps).flatMap (xq l)) = done.flatMap (fun l => (List.zip (los n) ps).flatMap (xq l)) ++ (List.zip (los n) ps).flatMap (xq a) := by rw [List.flatMap_append]; simp
    rw [ef]
    have hzl : (List.zip (los n) ps).length ≤ 4 := by simp [los]; omega
    have hlen : (done.flatMap (fun l => (List.zip (los n) ps).flatMap (xq l))).length ≤ 32 := by
      have h1 := flat_len (fun l => (List.zip (los n) ps).flatMap (xq l)) done 8 (fun l _ => by
        have := flat_len (xq l) (List.zip (los n) ps) 2 (fun t _ => xq_len l t)
        show ((List.zip (los n) ps).flatMap (xq l)).length ≤ 8
        omega)
      omega
    generalize done.flatMap (fun l => (List.zip (los n) ps).flatMap (xq l)) = st at lb hlen
    refine ss_forM (as := List.zip (los n) ps) (g := fun t => .d (.tuple [dL t.1, dL t.2])) (dz := fun t ds' => (ds'.set 4 (.d (dL t.1))).set 5 (.d (dL t.2))) (fun idone ds' H2 => Same H0 H2 ∧ Kq ((pur M).add p) Hi H2 ∧ ∃ y2 y3, ds' = [.d (.int n), .d (.tuple (ps.map dL)), .r (.ref p), .d (dL a), y2, y3] ∧ idone.length ≤ 4 ∧ LB ((pur M).add p).M H2 p ((st ++ idone.flatMap (xq a)).map dL)) (EI.is (ei_zipT (G.fr 7 _ rfl) (EE.is (e_ev (e_call1 (c_letters_of G) (hr.mono (by decide)) (e_var 0) ⟨n, rfl, hn, rfl⟩)) (show _ = Ds.d (.tuple ((los n).map dL)) by rw [ev_letters n hn, los, List.map_map]; rfl)) (e_var 1)) (zw_zip _ _)) ?_ ?_ ?_ ?_
    · intro H2 r2
      exact ⟨(s0.trans sm).trans r2, kq.trans (Kq.r r2), y2, y3, rfl, by simp, by simpa using lb.mono (W := (pur M).add p) (fun f => f) r2⟩
    · rintro idone t ds' H2 ⟨_, _, _, _, rfl, _⟩ _
      exact eh_two (i := 4) (j := 5) rfl nd
    · rintro idone t itodo ds' Hi2 H2 eu2 ⟨s2, k2, y2, y3, rfl, hd2, lb2⟩ sm2 kq2
      have lb2 := lb2.mono (W := (pur M).add p) (fun f => f) sm2
      have hi4 : (idone ++ [t]).length ≤ 4 := by
        have : (List.zip (los n) ps).length = (idone ++ t :: itodo).length := by rw [← eu2]
        simp at this ⊢; simp at hzl; omega
      have hl2 := flat_len (xq a) idone 2 (fun t _ => xq_len a t)
      have ef2 : (idone ++ [t]).flatMap (xq a) = idone.flatMap (xq a) ++ xq a t := by rw [List.flatMap_append]; simp
      rw [ef2]
      have hst2 : (st ++ idone.flatMap (xq a)).length ≤ 64 := by rw [List.length_append]; omega
      rw [← List.append_assoc]
      generalize st ++ idone.flatMap (xq a) = st2 at lb2 hst2
      have fin : ∀ (st3 : List Lt) (H4 : Hp), Same H0 H4 → Kq ((pur M).add p) Hi H4 → Kq ((pur M).add p) Hi2 H4 → LB ((pur M).add p).M H4 p (st3.map dL) → st3.length ≤ 70 → ∀ bk, SS ((pur M).add p) (XX P w K mg base ["n", "told", "found", "letter", "one", "by"] "exchange_back" (top 39) f cdv A outer s H0 E)
          [((defBody (top 39)).drop 1 |>.take 1 |>.flatMap fun st => match st with | .For _ _ [.For _ _ b _ _] _ _ => b | _ => []).getD 1 (.Pass ⟨0, 0, 0, 0⟩)]
          ⟨Nx ((pur M).add p) (fun ds' H2 => Same H0 H2 ∧ Kq ((pur M).add p) Hi H2 ∧ ∃ y2 y3, ds' = [.d (.int n), .d (.tuple (ps.map dL)), .r (.ref p), .d (dL a), y2, y3] ∧ (idone ++ [t]).length ≤ 4 ∧ LB ((pur M).add p).M H2 p ((st3 ++ (if t.2 = inv a then [inv t.1] else [])).map dL)) Hi2, D.rt, bk, Nx ((pur M).add p) (fun ds' H2 => Same H0 H2 ∧ Kq ((pur M).add p) Hi H2 ∧ ∃ y2 y3, ds' = [.d (.int n), .d (.tuple (ps.map dL)), .r (.ref p), .d (dL a), y2, y3] ∧ (idone ++ [t]).length ≤ 4 ∧ LB ((pur M).add p).M H2 p ((st3 ++ (if t.2 = inv a then [inv t.1] else [])).map dL)) Hi2⟩
          [.d (.int n), .d (.tuple (ps.map dL)), .r (.ref p), .d (dL a), .d (dL t.1), .d (dL t.2)] H4 := by
        intro st3 H4 s4 k4 k42 lb4 hl4 bk
        refine ss_if (P := Is (decide (t.2 = inv a))) (et_eqL (e_var 5) (e_call1 (c_contrary G) (hr.mono (by decide)) (e_var 3) ⟨a, rfl, rfl⟩)) (fun ht H5 r5 => ?_) fun ht H5 r5 => ?_
        · have ht := of_decide_eq_true ht.symm
          rw [if_pos ht]
          refine ss_appendZ (lb4.mono (W := (pur M).add p) (fun f => f) r5) Wd.addM (fun f => f) (szl (by rw [List.length_map]; omega)) (e_var 2).at (e_call1 (c_contrary G) (hr.mono (by decide)) (e_var 4) ⟨t.1, rfl, rfl⟩) fun H6 v r6 lb6 => ss_end (ss_nq fun H7 r7 => ⟨⟨?_, ?_, _, _, rfl, hi4, ?_⟩, ?_⟩)
          · exact (same_upd ((s4.trans r5).trans r6) h0).trans r7
          · exact k4.trans ((Kq.r (r5.trans r6)).trans (Kq.updA.trans (Kq.r r7)))
          · rw [List.map_append]; exact lb6.mono (W := (pur M).add p) (fun f => f) r7
          · exact k42.trans ((Kq.r (r5.trans r6)).trans (Kq.updA.trans (Kq.r r7)))
        · have ht : ¬ t.2 = inv a := of_decide_eq_false ht.symm
          rw [if_neg ht]
          refine ss_end (ss_nq fun H7 r7 => ⟨⟨(s4.trans r5).trans r7, k4.trans (Kq.r (r5.trans r7)), _, _, rfl, hi4, ?_⟩, k42.trans (Kq.r (r5.trans r7))⟩)
          rw [List.append_nil]; exact (lb4.mono (W := (pur M).add p) (fun f => f) r5).mono (W := (pur M).add p) (fun f => f) r7
      refine ss_if (P := Is (decide (t.2 = a))) (et_eqL (e_var 5) (e_var 3)) (fun ht H3 r3 => ?_) fun ht H3 r3 => ?_
      · have ht := of_decide_eq_true ht.symm
        have ex : xq a t = [t.1] ++ (if t.2 = inv a then [inv t.1] else []) := by unfold xq; rw [if_pos ht]
        rw [ex, ← List.append_assoc]
        refine ss_appendZ (lb2.mono (W := (pur M).add p) (fun f => f) r3) Wd.addM (fun f => f) (szl (by rw [List.length_map]; omega)) (e_var 2).at (e_var 4) fun H4 v r4 lb4 => ss_end (fin (st2 ++ [t.1]) _ ?_ ?_ ?_ ?_ ?_ _)
        · exact same_upd (((s2.trans sm2).trans r3).trans r4) h0
        · exact k2.trans ((Kq.r (sm2.trans (r3.trans r4))).trans Kq.updA)
        · exact kq2.trans ((Kq.r (r3.trans r4)).trans Kq.updA)
        · rw [List.map_append]; exact lb4
        · simp; omega
      · have ht : ¬ t.2 = a := of_decide_eq_false ht.symm
        have ex : xq a t = (if t.2 = inv a then [inv t.1] else []) := by unfold xq; rw [if_neg ht]; rfl
        rw [ex]
        exact ss_end (fin st2 H3 ((s2.trans sm2).trans r3) (k2.trans (Kq.r (sm2.trans r3))) (kq2.trans (Kq.r r3)) (lb2.mono (W := (pur M).add p) (fun f => f) r3) (by omega) _)
    · rintro ds' H2 ⟨s2, k2, y2, y3, rfl, _, lb2⟩ _
      exact ss_nq fun H3 r3 => ⟨⟨s2.trans r3, _, _, _, rfl, hd4, lb2.mono (W := (pur M).add p) (fun f => f) r3⟩, k2.trans (Kq.r r3)⟩
  · rintro ds' H' ⟨s0, y1, y2, y3, rfl, _, lb⟩ _
    rw [qs_eq hl] at lb
    refine ss_ret (A := Is (.d (dX n (.ex (qsOf n ps))))) (e_tup (xs := [.str "exchange", .tuple ((qsOf n ps).map dL)]) (ea_c e_str (ea_c (e_tupleR (G.fr 1 _ rfl) (e_var 2).at lb (fun f => f)) ea_nil)) (szl (by simp))) fun v H2 y r e hv => ?_
    cases e
    exact hrt v H2 _ (s0.trans r) hC (Dt.keep (fun a o m e => ⟨fun z => m (.inl z), e⟩) hv)
theorem dX_inj {n : Nat} {s t : Sx} (hs : s.ok n) (ht : t.ok n) (h : dX n s = dX n t) : s = t := by
  have strq : ∀ l m : List Lt, l.map dL = m.map dL → l = m := by
    intro l
    induction l with
    | nil => intro m e; cases m with
      | nil => rfl
      | cons => cases e
    | cons x l ih => intro m e; cases m with
      | nil => cases e
      | cons y m =>
        simp only [List.map_cons, List.cons.injEq] at e
        rw [ih m e.2, dL_inj (congrArg Ds.d e.1)]
  cases s with
  | ch a S => cases t with
    | ch b T =>
      have h1 : [PyData.str "change", dL a, dS n S] = [PyData.str "change", dL b, dS n T] := PyData.tuple.inj h
      simp only [List.cons.injEq, PyData.tuple.injEq] at h1
      obtain ⟨_, h2, h3, _⟩ := h1
      have e1 := dL_inj (congrArg Ds.d h2)
      have e2 := strq _ _ h3
      subst e1
      have : S = T := by
        funext x
        have a1 := mem_side hs.2.2 x
        have a2 := mem_side ht.2.2 x
        rw [e2, a2] at a1
        cases e3 : S x <;> cases e4 : T x <;> simp_all
      rw [this]
    | ex ps =>
      have h1 : [PyData.str "change", dL a, dS n S] = [PyData.str "exchange", .tuple (ps.map dL)] := PyData.tuple.inj h
      cases h1
  | ex ps => cases t with
    | ch b T =>
      have h1 : [PyData.str "exchange", .tuple (ps.map dL)] = [PyData.str "change", dL b, dS n T] := PyData.tuple.inj h
      cases h1
    | ex qs =>
      have h1 : [PyData.str "exchange", .tuple (ps.map dL)] = [PyData.str "exchange", .tuple (qs.map dL)] := PyData.tuple.inj h
      simp only [List.cons.injEq, PyData.tuple.injEq] at h1
      rw [strq _ _ h1.2.1]
theorem ex_len {n : Nat} {ps : List Lt} (h : (Sx.ex ps).ok n) : ps.length = n := by
  have h : permB n ps = true := h
  unfold permB at h
  simp only [Bool.and_eq_true, beq_iff_eq] at h
  exact h.1.1
def R_step_back (xs : List Ds) (C : Ds → Prop) : Prop := ∃ (n : Nat) (s : Sx), xs = [.d (.int n), .d (dX n s)] ∧ n ≤ 4 ∧ s.ok n ∧ C (.d (dX n (s.back n)))
theorem c_step_back (G : Gs K mg) : Cal P w K mg base "step_back" 3 (spP R_step_back) := by
  -- slots: 0=n 1=step
  have S : FnScope ["n", "step"] ["n", "step"] (defScope (top 40)) := ⟨rfl, rfl, rfl, by decide +kernel, rfl, by decide +kernel, by decide +kernel⟩
  refine cal_P (G.df 29 _ rfl) S (fun _ _ _ _ _ _ us hl => match us, hl with | [_, _], _ => rfl) (fun xs C h => by obtain ⟨n, s', e, hn, hs, hC⟩ := h; subst e; rfl) fun f cdv A outer s H0 E M xs C D hr h hrt hnx tr => ?_
  obtain ⟨n, s', e, hn, hs, hC⟩ := h
  subst e
  have nd := S.nd
  cases s' with
  | ch a S' =>
    refine ss_if (P := Is true) (ET.is (et_cmpI op_eq (e_ixT (xs := [.str "change", dL a, dS n S']) (d := .str "change") (e_var 1) e_int rfl) e_str rd_eqS) (by decide)) (fun ht H1 r1 => ?_) fun ht H1 r1 => by cases ht
    refine ss_ret (e_call3 (C := Is (.d (dX n ((Sx.ch a S').back n)))) (c_change_back G) (hr.mono (by decide)) (e_var 0) (e_ixT (xs := [.str "change", dL a, dS n S']) (d := dL a) (e_var 1) e_int rfl) (e_ixT (xs := [.str "change", dL a, dS n S']) (d := dS n S') (e_var 1) e_int rfl) ⟨n, a, S', rfl, hn, hs, rfl⟩) fun v H2 y r e hv => ?_
    cases e
    exact hrt v H2 _ (r1.trans r) hC hv
  | ex ps =>
    refine ss_if (P := Is false) (ET.is (et_cmpI op_eq (e_ixT (xs := [.str "exchange", .tuple (ps.map dL)]) (d := .str "exchange") (e_var 1) e_int rfl) e_str rd_eqS) (by decide)) (fun ht H1 r1 => by cases ht) fun ht H1 r1 => ?_
    refine ss_end (ss_ret (e_call2 (C := Is (.d (dX n (.ex (qsOf n ps))))) (c_exchange_back G) (hr.mono (by decide)) (e_var 0) (e_ixT (xs := [.str "exchange", .tuple (ps.map dL)]) (d := .tuple (ps.map dL)) (e_var 1) e_int rfl) ⟨n, ps, rfl, hn, ex_len hs, rfl⟩) fun v H2 y r e hv => ?_)
    cases e
    exact hrt v H2 _ (r1.trans r) hC hv
abbrev dRoad (n : Nat) (road : List Sx) : PyData := .tuple (road.map (dX n))
def backOf (n : Nat) (road : List Sx) : List Sx := road.reverse.map (Sx.back n)
def R_road_back (xs : List Ds) (C : Ds → Prop) : Prop := ∃ (n : Nat) (road : List Sx), xs = [.d (.int n), .d (dRoad n road)] ∧ n ≤ 4 ∧ road.length ≤ 1000 ∧ (∀ s ∈ road, s.ok n) ∧ C (.d (dRoad n (backOf n road)))
theorem c_road_back (G : Gs K mg) : Cal P w K mg base "road_back" 4 (spP R_road_back) := by
  -- slots: 0=n 1=road 2=step
  have S : FnScope ["n", "road", "step"] ["n", "road"] (defScope (top 41)) := ⟨rfl, rfl, rfl, by decide +kernel, rfl, by decide +kernel, by decide +kernel⟩
  refine cal_P (G.df 30 _ rfl) S (fun _ _ _ _ _ _ us hl => match us, hl with | [_, _], _ => rfl) (fun xs C h => by obtain ⟨n, road, e, hn, hl, hs, hC⟩ := h; subst e; rfl) fun f cdv A outer s H0 E M xs C D hr h hrt hnx tr => ?_
  obtain ⟨n, road, e, hn, hl, hs, hC⟩ := h
  subst e
  have nd := S.nd
  refine ss_ret (A := Is (.d (dRoad n (backOf n road)))) (e_tupleLI (G.fr 1 _ rfl) (EE.is (e_lcMw (j := 2) road.reverse (fun s => .d (dX n s)) (fun s => dX n (s.back n)) (fun a ha b hb e => by rw [dX_inj (hs a (by simpa using ha)) (hs b (by simpa using hb)) (dd_inj e)]) nd (EI.is (ei_revT (G.fr 8 _ rfl) (e_var 1)) (by rw [← List.map_reverse, List.map_map]; rfl)) (szl (by simp; omega)) fun l s hm s0 H2 cl C fp => ?_) (by rw [backOf, List.map_map]; rfl))) fun v H2 y r e hv => ?_
  · exact e_call2 (c_step_back G) (hr.mono (by decide)) (e_var 0) (e_var 2) ⟨n, s, rfl, hn, hs s (by simpa using hm), rfl⟩
  · cases e
    exact hrt v H2 _ r hC hv
def endOf (n : Nat) (road : List Sx) (R : NL.Row) : NL.Row := road.foldl (fun R s => rmap (s.fn n) R) R
theorem along_app (n : Nat) (done : List Sx) (s : Sx) : ∀ R, along n (done ++ [s]) R = along n done R ++ [rmap (s.fn n) (endOf n done R)] := by
  induction done with
  | nil => intro R; rfl
  | cons t done ih =>
    intro R
    show rmap (t.fn n) R :: along n (done ++ [s]) _ = _
    rw [ih]; rfl
theorem endOf_app (n : Nat) (done : List Sx) (s : Sx) (R : NL.Row) : endOf n (done ++ [s]) R = rmap (s.fn n) (endOf n done R) := by unfold endOf; rw [List.foldl_append]; rfl
theorem endOf_mem (n : Nat) (done todo : List Sx) : ∀ R, endOf n done R = R ∨ endOf n done R ∈ along n (done ++ todo) R := by
  induction done with
  | nil => intro R; left; rfl
  | cons t done ih =>
    intro R
    right
    rcases ih (rmap (t.fn n) R) with h | h
    · show endOf n done (rmap (t.fn n) R) ∈ rmap (t.fn n) R :: along n (done ++ todo) _
      rw [h]; simp
    · exact List.mem_cons_of_mem _ h
theorem along_len (n : Nat) (road : List Sx) : ∀ R, (along n road R).length = road.length := by
  induction road with
  | nil => intro R; rfl
  | cons t road ih => intro R; show (along n road _).length + 1 = _; rw [ih]; rfl
def R_rows_along (xs : List Ds) (C : Ds → Prop) : Prop := ∃ (n : Nat) (R : NL.Row) (road : List Sx), xs = [.d (.int n), .d (dR R), .d (dRoad n road)] ∧ n ≤ 4 ∧ road.length ≤ 1000 ∧ (∀ s ∈ road, s.ok n) ∧ RowOk n R ∧ (∀ R' ∈ along n road R, RowOk n R') ∧ C (.d (.list ((along n road R).map dR)))
theorem c_rows_along (G : Gs K mg) : Cal P w K mg base "rows_along" 6 (spP R_rows_along) := by
  -- slots: 0=n 1=rings 2=road 3=found 4=row 5=step 6=told 7=ring
  have S : FnScope ["n", "rings", "road", "found", "row", "step", "told", "ring"] ["n", "rings", "road"] (defScope (top 42)) := ⟨rfl, rfl, rfl, by decide +kernel, rfl, by decide +kernel, by decide +kernel⟩
  refine cal_P (G.df 31 _ rfl) S (fun _ _ _ _ _ _ us hl => match us, hl with | [_, _, _], _ => rfl) (fun xs C h => by obtain ⟨n, R, road, e, hn, hl, hs, hR, hall, hC⟩ := h; subst e; rfl) fun f cdv A outer s H0 E M xs C D hr h hrt hnx tr => ?_
  obtain ⟨n, R, road, e, hn, hl, hs, hR, hall, hC⟩ := h
  subst e
  have nd := S.nd
  refine ss_new (i := 3) (u := .lst []) (by intro _ h; cases h) new_lst (fun p H1 r1 hp => ?_) nd
  have h0 := none_of r1 hp
  have nM : ¬ M p := fun m => (tr p m).ne h0
  refine ss_setI (i := 4) (y := .d (dR R)) (e_var 1) (fun H2 r2 => ?_) nd
  refine ss_forM (as := road) (g := fun s => .d (dX n s)) (dz := fun s ds' => ds'.set 5 (.d (dX n s))) (fun done ds' H' => Same H0 H' ∧ ∃ y1 y2 y3, ds' = [.d (.int n), .d (dR R), .d (dRoad n road), .r (.ref p), .d (dR (endOf n done R)), y1, y2, y3] ∧ LB ((pur M).add p).M H' p ((along n done R).map dR)) (ei_tupM (e_var 2)) ?_ ?_ ?_ ?_
  · intro H3 r3
    exact ⟨((r1.trans (same_new hp)).trans r2).trans r3, _, _, _, rfl, (LB.new.mono (W := (pur M).add p) (fun f => f) r2).mono (W := (pur M).add p) (fun f => f) r3⟩
  · rintro done s' ds' H' ⟨_, y1, y2, y3, rfl, _⟩ _
    exact eh_name (i := 5) nd
  · rintro done s' todo ds' Hi H' eu ⟨s0, y1, y2, y3, rfl, lb⟩ sm kq
    have lb := lb.mono (W := (pur M).add p) (fun f => f) sm
    have hso : s'.ok n := hs s' (by rw [eu]; simp)
    have hrow : RowOk n (endOf n done R) := by
      rcases endOf_mem n done (s' :: todo) R with h | h
      · rw [h]; exact hR
      · rw [← eu] at h; exact hall _ h
    rw [endOf_app, along_app]
    have hdl : done.length ≤ 1000 := by
      have : done.length ≤ road.length := by rw [eu]; simp
      omega
    have hal := along_len n done R
    generalize endOf n done R = Q at hrow
    generalize along n done R = L at lb hal
    refine ss_setI (i := 6) (y := .d (.tuple ((s'.us n).map dW))) (e_call2 (c_step_told G) (hr.mono (by decide)) (e_var 0) (e_var 5) ⟨n, s', rfl, hn, hso, rfl⟩) (fun H3 r3 => ?_) nd
    refine ss_setI (i := 4) (y := .d (dR (rmap (s'.fn n) Q))) (e_tupleLI (G.fr 1 _ rfl) (EE.is (e_lcM (j := 7) Q (fun w => .d (dW w)) (fun w => dW (rtold (s'.fn n) w)) (fun _ _ => dW_inj) nd (ei_tupM (e_var 4)) (szl (by have := hrow.1; omega)) fun l w hw s0 H2 cl C fp => ?_) (by rw [rmap, List.map_map]; rfl))) (fun H4 r4 => ?_) nd
    · have e1 := rtold_us hn hso (hrow.2 w hw).1
      exact e_call2 (c_ring_retold G) (hr.mono (by decide)) (e_var 6) (e_var 7) ⟨s'.us n, w, rfl, by rw [us_len hso]; exact hn, us_short10, (hrow.2 w hw).2, by rw [us_len hso]; exact (hrow.2 w hw).1, by rw [e1]; rfl⟩
    · refine ss_appendZ ((lb.mono (W := (pur M).add p) (fun f => f) r3).mono (W := (pur M).add p) (fun f => f) r4) Wd.addM (fun f => f) (szl (by rw [List.length_map]; omega)) (e_var 3).at (e_var 4) fun H5 v r5 lb5 => ss_nq fun H6 r6 => ⟨⟨?_, _, _, _, rfl, ?_⟩, ?_⟩
      · exact (same_upd ((((s0.trans sm).trans r3).trans r4).trans r5) h0).trans r6
      · rw [List.map_append]; exact lb5.mono (W := (pur M).add p) (fun f => f) r6
      · exact kq.trans ((Kq.r (r3.trans (r4.trans r5))).trans (Kq.updA.trans (Kq.r r6)))
  · rintro ds' H' ⟨s0, y1, y2, y3, rfl, lb⟩ _
    refine ss_ret (e_var 3) fun v H2 y r e hv => ?_
    cases e
    cases hv
    exact hrt _ H2 _ (s0.trans r) hC ((lb.mono (W := (pur M).add p) (fun f => f) r).dt nM (fun a m => .inl m))
end
end NQ

namespace NQ
open PySem PySem.Spec L2 NP
open NL (inv red invw mid Red S8 Side wh rtold rmap sub Per single cp lp sm cutp cut rcut CR)
/-! ### ties -/
abbrev TK := Lt × Lt
abbrev Tab := List (TK × Nat)
def kk (k : TK) : List Key := pairK (enc [k.1]) (enc [k.2])
theorem kk_inj {k l : TK} (h : kk k = kk l) : k = l := by
  unfold kk pairK at h
  simp only [List.cons.injEq, Sum.inr.injEq, and_true] at h
  obtain ⟨h1, h2⟩ := h
  rw [enc1_eq] at h1 h2
  exact Prod.ext h1 h2
def getT (T : Tab) (k : TK) : Option Nat := (T.find? fun t => decide (t.1 = k)).map (·.2)
def putT (T : Tab) (k : TK) (v : Nat) : Tab := if (T.any fun t => decide (t.1 = k)) = true then T.map (fun t => if t.1 = k then (t.1, v) else t) else T ++ [(k, v)]
def bump (T : Tab) (k : TK) : Tab := putT T k ((getT T k).getD 0 + 1)
def tkV (T : Tab) : List (List Key × V) := T.map fun t => (kk t.1, V.int t.2)
theorem tkV_get (T : Tab) (k : TK) : valV (tkV T) (kk k) = (getT T k).map fun n => V.int n := by
  unfold valV getT tkV
  induction T with
  | nil => rfl
  | cons t T ih =>
    rw [List.map_cons, List.find?_cons, List.find?_cons]
    by_cases c : t.1 = k
    · have c2 : kk t.1 = kk k := by rw [c]
      simp [c, c2]
    · have c2 : ¬ kk t.1 = kk k := fun e => c (kk_inj e)
      simp only [c, c2, decide_false]
      exact ih
theorem tkV_put (T : Tab) (k : TK) (v : Nat) : putK (tkV T) (kk k) (.int v) = tkV (putT T k v) := by
  have hany : ((tkV T).any fun kv => decide (kv.1 = kk k)) = T.any fun t => decide (t.1 = k) := by
    unfold tkV
    rw [List.any_map]
    congr 1
    funext t
    show decide (kk t.1 = kk k) = decide (t.1 = k)
    by_cases c : t.1 = k
    · rw [c]; simp
    · have : ¬ kk t.1 = kk k := fun e => c (kk_inj e)
      simp [c, this]
  unfold putK putT
  rw [hany]
  split
  · unfold tkV
    rw [List.map_map, List.map_map]
    apply List.map_congr_left
    intro t _
    show (if kk t.1 = kk k then (kk t.1, V.int v) else (kk t.1, V.int t.2)) = _
    by_cases c : t.1 = k
    · have c2 : kk t.1 = kk k := by rw [c]
      simp only [Function.comp, c, if_true]
    · have c2 : ¬ kk t.1 = kk k := fun e => c (kk_inj e)
      simp only [Function.comp, c, c2, if_false]
  · unfold tkV; rw [List.map_append]; rfl
def wsum (f : TK → Nat) (T : Tab) : Nat := (T.map fun t => t.2 * f t.1).sum
theorem wsum_app (f : TK → Nat) (T U : Tab) : wsum f (T ++ U) = wsum f T + wsum f U := by simp [wsum]
theorem getT_none {T : Tab} {k : TK} : getT T k = none ↔ k ∉ T.map (·.1) := by
  unfold getT
  rw [Option.map_eq_none_iff, List.find?_eq_none]
  constructor
  · intro h m
    obtain ⟨t, ht, e⟩ := List.mem_map.mp m
    exact h t ht (by simp [e])
  · intro h t ht e
    exact h (List.mem_map.mpr ⟨t, ht, by simpa using e⟩)
theorem anyT {T : Tab} {k : TK} : (T.any fun t => decide (t.1 = k)) = true ↔ k ∈ T.map (·.1) := by
  rw [List.any_eq_true, List.mem_map]
  simp
theorem wsum_put (f : TK → Nat) (k : TK) (v : Nat) : ∀ T : Tab, (T.map (·.1)).Nodup → wsum f (putT T k v) + ((getT T k).getD 0) * f k = wsum f T + v * f k := by
  intro T
  induction T with
  | nil => intro _; simp [putT, wsum, getT]
  | cons t T ih =>
    intro hn
    rw [List.map_cons, List.nodup_cons] at hn
    by_cases c : t.1 = k
    · have hnot : k ∉ T.map (·.1) := by rw [← c]; exact hn.1
      have e1 : putT (t :: T) k v = (k, v) :: T := by
        unfold putT
        have : ((t :: T).any fun t => decide (t.1 = k)) = true := by simp [c]
        rw [if_pos this, List.map_cons, if_pos c, c]
        congr 1
        conv => rhs; rw [← List.map_id T]
        apply List.map_congr_left
        intro u hu
        have : ¬ u.1 = k := fun e => hnot (List.mem_map.mpr ⟨u, hu, e⟩)
        simp [this]
      have e2 : getT (t :: T) k = some t.2 := by unfold getT; simp [c]
      rw [e1, e2]
      simp only [wsum, List.map_cons, List.sum_cons, Option.getD_some, c]
      omega
    · have e2 : getT (t :: T) k = getT T k := by unfold getT; simp [c]
      have e1 : putT (t :: T) k v = t :: putT T k v := by
        unfold putT
        have : ((t :: T).any fun t => decide (t.1 = k)) = (T.any fun t => decide (t.1 = k)) := by simp [c]
        rw [this]
        split
        · rw [List.map_cons, if_neg c]
        · rfl
      rw [e1, e2]
      have := ih hn.2
      simp only [wsum, List.map_cons, List.sum_cons] at this ⊢
      omega
theorem put_keys (T : Tab) (k : TK) (v : Nat) : (putT T k v).map (·.1) = if k ∈ T.map (·.1) then T.map (·.1) else T.map (·.1) ++ [k] := by
  unfold putT
  by_cases c : k ∈ T.map (·.1)
  · rw [if_pos c, if_pos (anyT.mpr c), List.map_map]
    apply List.map_congr_left
    intro t _
    show (if t.1 = k then (t.1, v) else t).1 = t.1
    split <;> rfl
  · rw [if_neg c, if_neg (fun h => c (anyT.mp h)), List.map_append]; rfl
theorem put_nodup {T : Tab} (h : (T.map (·.1)).Nodup) (k : TK) (v : Nat) : ((putT T k v).map (·.1)).Nodup := by
  rw [put_keys]
  split
  · exact h
  · rename_i c
    rw [List.nodup_append]
    exact ⟨h, by simp, fun a ha b hb e => by simp at hb; subst hb; subst e; exact c ha⟩
theorem put_len (T : Tab) (k : TK) (v : Nat) : (putT T k v).length ≤ T.length + 1 := by
  unfold putT; split <;> simp
theorem wsum_bump (f : TK → Nat) (k : TK) {T : Tab} (h : (T.map (·.1)).Nodup) : wsum f (bump T k) = wsum f T + f k := by
  have := wsum_put f k ((getT T k).getD 0 + 1) T h
  unfold bump
  rw [Nat.add_mul] at this
  omega
def cutk (S : S8) (k : TK) : Nat := if S k.1 = S k.2 then 0 else 1
def tie (x y : Lt) : TK := if x.val < y.val then (x, y) else (y, x)
theorem cutk_tie (S : S8) (p : TK) : cutk S (tie p.1 (inv p.2)) = cutp S p := by
  unfold cutk tie cutp
  split
  · rfl
  · by_cases c : S p.1 = S (inv p.2)
    · simp [c]
    · have : ¬ S (inv p.2) = S p.1 := fun e => c e.symm
      simp [c, this]
/-- the keys of a table of ties -/
def KeyOk (n : Nat) (k : TK) : Prop := k.1.val < k.2.val ∧ k.2.val < 2 * n
theorem tie_ok {n : Nat} {x y : Lt} (hx : x.val < 2 * n) (hy : y.val < 2 * n) (h : x ≠ y) : KeyOk n (tie x y) := by
  have : x.val ≠ y.val := fun e => h (_root_.Fin.ext e)
  unfold tie KeyOk
  split <;> simp <;> omega
structure TabOk (n : Nat) (T : Tab) : Prop where
  nd : (T.map (·.1)).Nodup
  ok : ∀ k ∈ T.map (·.1), KeyOk n k
theorem TabOk.bump {n : Nat} {T : Tab} (h : TabOk n T) {k : TK} (hk : KeyOk n k) : TabOk n (bump T k) := by
  refine ⟨put_nodup h.nd k _, fun j hj => ?_⟩
  unfold NQ.bump at hj
  rw [put_keys] at hj
  split at hj
  · exact h.ok j hj
  · rcases List.mem_append.mp hj with hj | hj
    · exact h.ok j hj
    · simp at hj; subst hj; exact hk
/-! the pairs as the program takes them -/
def prev (w : NL.W) (k : Nat) : Lt := if k = 0 then w.getD (w.length - 1) 0 else w.getD (k - 1) 0
def pairAt (w : NL.W) (k : Nat) : TK := (prev w k, w.getD k 0)
theorem lp_len (w : NL.W) : (lp w).length = w.length - 1 := by
  induction w with
  | nil => rfl
  | cons x w ih => cases w with
    | nil => rfl
    | cons y w => rw [NL.lp_cons, List.length_cons, ih]; simp
theorem lp_get (w : NL.W) (i : Nat) (h : i + 1 < w.length) : (lp w)[i]? = some (w.getD i 0, w.getD (i + 1) 0) := by
  induction w generalizing i with
  | nil => simp at h
  | cons x w ih => cases w with
    | nil => simp at h
    | cons y w =>
      rw [NL.lp_cons]
      cases i with
      | zero => rfl
      | succ i =>
        rw [List.getElem?_cons_succ, ih i (by simpa using h)]
        rfl
theorem pairs_sm (f : TK → Nat) (w : NL.W) : sm f ((List.range w.length).map (pairAt w)) = sm f (cp w) := by
  cases w with
  | nil => rfl
  | cons x t =>
    have e1 : cp (x :: t) = lp (x :: t) ++ [((x :: t).getD t.length 0, x)] := by
      rw [NL.cp_cons]
      rcases List.eq_nil_or_concat t with e | ⟨t', z, e⟩
      · subst e; rfl
      · rw [List.concat_eq_append] at e
        subst e
        have h2 := NL.lp_split (x :: t') [x] z
        have h3 : x :: (t' ++ [z] ++ [x]) = (x :: t') ++ z :: [x] := by simp
        rw [h3, h2]
        congr 1
        show [(z, x)] = _
        congr 2
        rw [List.getD_eq_getElem?_getD]
        simp
    have e2 : (List.range (x :: t).length).map (pairAt (x :: t)) = pairAt (x :: t) 0 :: lp (x :: t) := by
      rw [List.length_cons, List.range_succ_eq_map, List.map_cons, List.map_map]
      congr 1
      apply List.ext_getElem?
      intro i
      by_cases h : i < t.length
      · rw [List.getElem?_map, List.getElem?_range h, lp_get _ i (by simpa using h)]
        rfl
      · rw [List.getElem?_eq_none (by simp; omega), List.getElem?_eq_none (by rw [lp_len]; simp; omega)]
    rw [e1, e2, NL.sm_cons, NL.sm_append, NL.sm_cons, NL.sm_nil]
    have e3 : pairAt (x :: t) 0 = ((x :: t).getD t.length 0, x) := by
      unfold pairAt prev
      simp
    rw [e3]; omega
theorem pairs_cr {w : NL.W} (h : CR w) (k : Nat) (hk : k < w.length) : prev w k ≠ inv (w.getD k 0) := by
  have key : pairAt w k ∈ cp w := by
    cases w with
    | nil => simp at hk
    | cons x t =>
      rw [NL.cp_cons]
      by_cases c : k = 0
      · subst c
        refine List.mem_of_getElem? (i := t.length) ?_
        rw [lp_get _ _ (by simp)]
        unfold pairAt prev
        simp [List.getD_eq_getElem?_getD]
        rw [← List.cons_append, List.getElem?_append_left (by simp), List.getElem?_eq_getElem (by simp)]
        rfl
      · refine List.mem_of_getElem? (i := k - 1) ?_
        rw [lp_get _ _ (by simp at hk ⊢; omega)]
        unfold pairAt prev
        rw [if_neg c]
        have e : k - 1 + 1 = k := by omega
        rw [e]
        have a1 : (x :: (t ++ [x])).getD (k - 1) 0 = (x :: t).getD (k - 1) 0 := by
          rw [← List.cons_append, List.getD_eq_getElem?_getD, List.getD_eq_getElem?_getD, List.getElem?_append_left (by omega)]
        have a2 : (x :: (t ++ [x])).getD k 0 = (x :: t).getD k 0 := by
          rw [← List.cons_append, List.getD_eq_getElem?_getD, List.getD_eq_getElem?_getD, List.getElem?_append_left hk]
        rw [a1, a2]
  have := h _ key
  intro e
  apply this
  show w.getD k 0 = inv (prev w k)
  rw [e, NL.inv_inv]
end NQ

namespace NQ
open PySem PySem.Spec L2 NP
open NL (inv red invw mid Red S8 Side wh rtold rmap sub Per single cp lp sm cutp cut rcut CR)
section
variable {P : Program} {w : World} {K : PySem.W.Frag} {mg : Str → Option Value} {base : Heap}
abbrev dT (k : TK) : PyData := .tuple [dL k.1, dL k.2]
def R_tie_of (xs : List Ds) (C : Ds → Prop) : Prop := ∃ (x y : Lt), xs = [.d (dL x), .d (dL y)] ∧ C (.d (dT (tie x y)))
theorem c_tie_of (G : Gs K mg) : Cal P w K mg base "tie_of" 1 (spP R_tie_of) := by
  -- slots: 0=one 1=other
  have S : FnScope ["one", "other"] ["one", "other"] (defScope (top 19)) := ⟨rfl, rfl, rfl, by decide +kernel, rfl, by decide +kernel, by decide +kernel⟩
  refine cal_P (G.df 12 _ rfl) S (fun _ _ _ _ _ _ us hl => match us, hl with | [_, _], _ => rfl) (fun xs C h => by obtain ⟨x, y, e, hC⟩ := h; subst e; rfl) fun f cdv A outer s H0 E M xs C D hr h hrt hnx tr => ?_
  obtain ⟨x, y, e, hC⟩ := h
  subst e
  have nd := S.nd
  obtain ⟨t, od⟩ := G.od
  refine ss_if (P := Is (decide ((x.val : Int) < y.val))) (et_lt (e_index (e_glob od) (e_var 0) (place_enc x)) (e_index (e_glob od) (e_var 1) (place_enc y))) (fun ht H1 r1 => ?_) fun ht H1 r1 => ?_
  · have ht := of_decide_eq_true ht.symm
    have e : tie x y = (x, y) := by unfold tie; rw [if_pos (by omega)]
    rw [e] at hC
    refine ss_ret (e_tup (xs := [dL x, dL y]) (ea_c (e_var 0) (ea_c (e_var 1) ea_nil)) (szl (by simp))) fun v H2 z r e hv => ?_
    cases e
    exact hrt v H2 _ (r1.trans r) hC hv
  · have ht := of_decide_eq_false ht.symm
    have e : tie x y = (y, x) := by unfold tie; rw [if_neg (by omega)]
    rw [e] at hC
    refine ss_end (ss_ret (e_tup (xs := [dL y, dL x]) (ea_c (e_var 1) (ea_c (e_var 0) ea_nil)) (szl (by simp))) fun v H2 z r e hv => ?_)
    cases e
    exact hrt v H2 _ (r1.trans r) hC hv
/-- a table of ties of a row -/
structure TabR (n : Nat) (R : NL.Row) (T : Tab) : Prop where
  ok : TabOk n T
  eq : ∀ S, wsum (cutk S) T = rcut S R
  len : T.length ≤ 100000
def R_ties_of (xs : List Ds) (C : Ds → Prop) : Prop := ∃ (n : Nat) (R : NL.Row), xs = [.d (dR R)] ∧ RowOk n R ∧ (∀ w ∈ R, CR w) ∧ ∀ T, TabR n R T → C (.o (.dT (tkV T)))
theorem rcut_app (S : S8) (R : NL.Row) (w : NL.W) : rcut S (R ++ [w]) = rcut S R + cut S w := by simp [rcut, NL.rsum]
theorem c_ties_of (G : Gs K mg) : Cal P w K mg base "ties_of" 2 (spP R_ties_of) := by
  -- slots: 0=rings 1=found 2=ring 3=k 4=tie
  have S : FnScope ["rings", "found", "ring", "k", "tie"] ["rings"] (defScope (top 20)) := ⟨rfl, rfl, rfl, by decide +kernel, rfl, by decide +kernel, by decide +kernel⟩
  refine cal_P (G.df 13 _ rfl) S (fun _ _ _ _ _ _ us hl => match us, hl with | [_], _ => rfl) (fun xs C h => by obtain ⟨n, R, e, hR, hcr, hC⟩ := h; subst e; rfl) fun f cdv A outer s H0 E M xs C D hr h hrt hnx tr => ?_
  obtain ⟨n, R, e, hR, hcr, hC⟩ := h
  subst e
  have nd := S.nd
  refine ss_new (i := 1) (u := .dT []) (by intro _ h; cases h) new_dT (fun p H1 r1 hp => ?_) nd
  have h0 := none_of r1 hp
  have nM : ¬ M p := fun m => (tr p m).ne h0
  refine ss_forM (as := R) (g := fun w => .d (dW w)) (dz := fun w ds' => ds'.set 2 (.d (dW w))) (fun done ds' H' => Same H0 H' ∧ ∃ y1 y2 y3 T, ds' = [.d (dR R), .r (.ref p), y1, y2, y3] ∧ H' p = some (.dT (tkV T)) ∧ TabOk n T ∧ (∀ S, wsum (cutk S) T = rcut S done) ∧ T.length ≤ 100 * done.length) (ei_tupM (e_var 0)) ?_ ?_ ?_ ?_
  · intro H2 r2
    exact ⟨(r1.trans (same_new hp)).trans r2, _, _, _, [], rfl, r2 _ _ upd_same, ⟨by simp, by simp⟩, fun S => rfl, by simp⟩
  · rintro done a ds' H' ⟨_, y1, y2, y3, T, rfl, _⟩ _
    exact eh_name (i := 2) nd
  · rintro done u todo ds' Hi H' eu ⟨s0, y1, y2, y3, T, rfl, hH, hT, hs, hl⟩ sm' kq
    have hH := ((pur M).add p).keep sm' p _ (fun f => f) hH
    have hu := hR.2 u (by rw [eu]; simp)
    have hucr := hcr u (by rw [eu]; simp)
    have hdl : done.length ≤ 1000 := by
      have : done.length ≤ R.length := by rw [eu]; simp
      have := hR.1
      omega
    refine ss_forM (as := List.range u.length) (g := fun k => .d (.int k)) (dz := fun k ds' => ds'.set 3 (.d (.int k))) (fun idone ds' H2 => Same H0 H2 ∧ Kq ((pur M).add p) Hi H2 ∧ ∃ y2 y3 T', ds' = [.d (dR R), .r (.ref p), .d (dW u), y2, y3] ∧ H2 p = some (.dT (tkV T')) ∧ TabOk n T' ∧ (∀ S, wsum (cutk S) T' = rcut S done + sm (cutp S) (idone.map (pairAt u))) ∧ T'.length ≤ 100 * done.length + idone.length) (ei_rangeN (G.fr 5 _ rfl) (e_lenW (G.fr 0 _ rfl) (e_var 2) (by omega)) (by omega)) ?_ ?_ ?_ ?_
    · intro H2 r2
      exact ⟨(s0.trans sm').trans r2, kq.trans (Kq.r r2), y2, y3, T, rfl, r2 _ _ hH, hT, fun S => by rw [hs S]; rfl, by simpa using hl⟩
    · rintro idone k ds' H2 ⟨_, _, _, _, T', rfl, _⟩ _
      exact eh_name (i := 3) nd
    · rintro idone k itodo ds' Hi2 H2 eu2 ⟨s2, k2, y2, y3, T', rfl, hH2, hT2, hs2, hl2⟩ sm2 kq2
      have hk : k < u.length := List.mem_range.mp (by rw [eu2]; simp)
      have hil : idone.length ≤ 100 := by
        have : idone.length ≤ (List.range u.length).length := by rw [eu2]; simp
        rw [List.length_range] at this
        omega
      have hH2 := ((pur M).add p).keep sm2 p _ (fun f => f) hH2
      have e1 : atI u ((k : Int) - 1) = some (prev u k) := by
        unfold prev
        by_cases c : k = 0
        · subst c
          have hne : u ≠ [] := by intro z; subst z; simp at hk
          have : ((0 : Nat) : Int) - 1 = -1 := by omega
          rw [this, atI_last u hne, List.getLast?_eq_getElem?, if_pos rfl, List.getD_eq_getElem?_getD, List.getElem?_eq_getElem (by omega)]; rfl
        · have : (k : Int) - 1 = ((k - 1 : Nat) : Int) := by omega
          rw [this, atI_nat, if_neg c, List.getD_eq_getElem?_getD, List.getElem?_eq_getElem (by omega)]; rfl
      have e2 : atI u (k : Int) = some (u.getD k 0) := by rw [atI_nat, List.getD_eq_getElem?_getD, List.getElem?_eq_getElem hk]; rfl
      have hpm : prev u k ∈ u := by
        unfold prev
        split
        · rw [List.getD_eq_getElem?_getD, List.getElem?_eq_getElem (by omega)]; exact List.getElem_mem _
        · rw [List.getD_eq_getElem?_getD, List.getElem?_eq_getElem (by omega)]; exact List.getElem_mem _
      have hum : u.getD k 0 ∈ u := by rw [List.getD_eq_getElem?_getD, List.getElem?_eq_getElem hk]; exact List.getElem_mem _
      have hko : KeyOk n (tie (prev u k) (inv (u.getD k 0))) := tie_ok (hu.1 _ hpm) ((inv_rk n _).mpr (hu.1 _ hum)) (pairs_cr hucr k hk)
      have htb : ∀ S, cutk S (tie (prev u k) (inv (u.getD k 0))) = cutp S (pairAt u k) := fun S => cutk_tie S (pairAt u k)
      refine ss_setI (i := 4) (y := .d (dT (tie (prev u k) (inv (u.getD k 0))))) (e_call2 (c_tie_of G) (hr.mono (by decide)) (e_ixW (x := prev u k) (e_var 2) (e_sub (e_var 3) e_int) (by omega) e1) (e_call1 (C := Is (.d (dL (inv (u.getD k 0))))) (c_contrary G) (hr.mono (by decide)) (e_ixW (x := u.getD k 0) (e_var 2) (e_var 3) (by omega) e2) ⟨_, rfl, rfl⟩) ⟨_, _, rfl, rfl⟩) (fun H3 r3 => ?_) nd
      generalize tie (prev u k) (inv (u.getD k 0)) = tk at hko htb
      have hH3 := ((pur M).add p).keep r3 p _ (fun f => f) hH2
      have hget : (valV (tkV T') [Sum.inr (enc [tk.1]), Sum.inr (enc [tk.2])]).getD (.int 0) = .int (((getT T' tk).getD 0 : Nat) : Int) := by
        have := tkV_get T' tk
        unfold kk pairK at this
        rw [this]
        cases getT T' tk <;> rfl
      refine ss_dputTI (d := .int (((getT T' tk).getD 0 + 1 : Nat) : Int)) (hu1 hr) hH3 Wd.addM (fun f => f) (szl (by unfold tkV; rw [List.length_map]; omega)) (EE.is (e_add (e_get2T (x := enc [tk.1]) (y := enc [tk.2]) (hu1 hr) ((e_var 1).at.ob hH3 (fun f => f)) (e_var 4) e_int hget) e_int) rfl) (e_var 1).at (e_var 4) fun H4 r4 => ?_
      have eput : putK (tkV T') [Sum.inr (enc [tk.1]), Sum.inr (enc [tk.2])] (.int (((getT T' tk).getD 0 + 1 : Nat) : Int)) = tkV (bump T' tk) := tkV_put T' tk _
      rw [eput]
      refine ss_nq fun H5 r5 => ⟨⟨?_, ?_, _, _, bump T' tk, rfl, r5 _ _ upd_same, hT2.bump hko, fun S => ?_, ?_⟩, ?_⟩
      · exact (same_upd (((s2.trans sm2).trans r3).trans r4) h0).trans r5
      · exact k2.trans ((Kq.r (sm2.trans (r3.trans r4))).trans (Kq.updA.trans (Kq.r r5)))
      · rw [wsum_bump _ _ hT2.nd, hs2 S, htb S, List.map_append, NL.sm_append]
        simp
        omega
      · have := put_len T' tk ((getT T' tk).getD 0 + 1)
        rw [List.length_append]
        show (bump T' tk).length ≤ _ + (_ + 1)
        unfold bump; omega
      · exact kq2.trans ((Kq.r (r3.trans r4)).trans (Kq.updA.trans (Kq.r r5)))
    · rintro ds' H2 ⟨s2, k2, y2, y3, T', rfl, hH2, hT2, hs2, hl2⟩ _
      refine ss_nq fun H3 r3 => ⟨⟨s2.trans r3, _, _, _, T', rfl, r3 _ _ hH2, hT2, fun S => ?_, ?_⟩, k2.trans (Kq.r r3)⟩
      · rw [hs2 S, pairs_sm, rcut_app]; rfl
      · rw [List.length_append]
        rw [List.length_range] at hl2
        show _ ≤ 100 * (_ + 1)
        omega
  · rintro ds' H' ⟨s0, y1, y2, y3, T, rfl, hH, hT, hs, hl⟩ _
    refine ss_ret (e_var 1) fun v H2 y r e hv => ?_
    cases e
    cases hv
    exact hrt _ H2 _ (s0.trans r) (hC T ⟨hT, hs, by have := hR.1; omega⟩) ⟨p, rfl, nM, r _ _ hH⟩
end
end NQ

namespace NQ
open PySem PySem.Spec L2 NP
open NL (inv red invw mid Red S8 Side wh rtold rmap sub Per single cp lp sm cutp cut rcut CR)
/-! ### rooms: a number for each pair of letters -/
abbrev Rm := Lt → Lt → Int
def addr (r : Rm) (k : TK) (d : Int) : Rm := fun x y => if x = k.1 ∧ y = k.2 then r x y + d else r x y
def outy (r : Rm) (S : S8) (x : Lt) : Int := ((List.finRange 8).map fun y => if S x = true ∧ S y = false then r x y else 0).sum
def out (r : Rm) (S : S8) : Int := ((List.finRange 8).map fun x => outy r S x).sum
theorem sum_at {l : List Lt} (h : l.Nodup) {a : Lt} (ha : a ∈ l) (f g : Lt → Int) (d : Int) (e1 : f a = g a + d) (e2 : ∀ x, x ≠ a → f x = g x) : (l.map f).sum = (l.map g).sum + d := by
  induction l with
  | nil => cases ha
  | cons x l ih =>
    rw [List.nodup_cons] at h
    rw [List.map_cons, List.map_cons, List.sum_cons, List.sum_cons]
    rcases List.mem_cons.mp ha with e | ha
    · subst e
      have : l.map f = l.map g := List.map_congr_left fun y hy => e2 y (fun z => h.1 (by rw [← z]; exact hy))
      rw [this, e1]; omega
    · rw [ih h.2 ha, e2 x (fun z => h.1 (by rw [z]; exact ha))]; omega
theorem nd8 : (List.finRange 8).Nodup := by decide
theorem out_addr (r : Rm) (k : TK) (d : Int) (S : S8) : out (addr r k d) S = out r S + (if S k.1 = true ∧ S k.2 = false then d else 0) := by
  unfold out
  refine sum_at nd8 (List.mem_finRange k.1) _ _ _ ?_ ?_
  · unfold outy
    refine sum_at nd8 (List.mem_finRange k.2) _ _ _ ?_ ?_
    · unfold addr
      simp only [true_and, if_true]
      split <;> simp
    · intro y hy
      unfold addr
      simp [hy]
  · intro x hx
    unfold outy addr
    congr 1
    apply List.map_congr_left
    intro y _
    simp [hx]
theorem sum_nn {l : List Lt} {f : Lt → Int} (h : ∀ x ∈ l, 0 ≤ f x) : 0 ≤ (l.map f).sum := by
  induction l with
  | nil => simp
  | cons x l ih => rw [List.map_cons, List.sum_cons]; have := h x (by simp); have := ih fun y hy => h y (by simp [hy]); omega
theorem sum_nn_zero {l : List Lt} {f : Lt → Int} (h : ∀ x ∈ l, 0 ≤ f x) (e : (l.map f).sum = 0) : ∀ x ∈ l, f x = 0 := by
  induction l with
  | nil => intro x hx; cases hx
  | cons y l ih =>
    rw [List.map_cons, List.sum_cons] at e
    have h1 := h y (by simp)
    have h2 := sum_nn (l := l) fun z hz => h z (by simp [hz])
    intro x hx
    rcases List.mem_cons.mp hx with rfl | hx
    · omega
    · exact ih (fun z hz => h z (by simp [hz])) (by omega) x hx
theorem out_nn {r : Rm} (h : ∀ x y, 0 ≤ r x y) (S : S8) : 0 ≤ out r S := sum_nn fun x _ => sum_nn fun y _ => by
  split
  · exact h x y
  · exact Int.le_refl _
theorem out_eq_zero {r : Rm} (h : ∀ x y, 0 ≤ r x y) {S : S8} (e : out r S = 0) {x y : Lt} (hx : S x = true) (hy : S y = false) : r x y = 0 := by
  have h1 := sum_nn_zero (l := List.finRange 8) (f := fun x => outy r S x) (fun x _ => sum_nn fun y _ => by
    split
    · exact h x y
    · exact Int.le_refl _) e x (List.mem_finRange x)
  have h2 := sum_nn_zero (l := List.finRange 8) (f := fun y => if S x = true ∧ S y = false then r x y else 0) (fun y _ => by
    split
    · exact h x y
    · exact Int.le_refl _) h1 y (List.mem_finRange y)
  simpa [hx, hy] using h2
theorem out_all_zero {r : Rm} {S : S8} (h : ∀ x y, S x = true → S y = false → r x y = 0) : out r S = 0 := by
  have z : ∀ (l : List Lt) (f : Lt → Int), (∀ x, f x = 0) → (l.map f).sum = 0 := by
    intro l f hf
    induction l with
    | nil => rfl
    | cons x l ih => rw [List.map_cons, List.sum_cons, ih, hf x]; rfl
  refine z _ _ fun x => z _ _ fun y => ?_
  split
  · rename_i c; exact h x y c.1 c.2
  · rfl
theorem out_zero (S : S8) : out (fun _ _ => 0) S = 0 := out_all_zero fun _ _ _ _ => rfl
/-! ### a dict of rooms -/
structure Rep (kvs : List (List Key × V)) (r : Rm) : Prop where
  val : ∀ x y, valV kvs (kk (x, y)) = some (.int (r x y)) ∨ (valV kvs (kk (x, y)) = none ∧ r x y = 0)
  sym : ∀ x y, (valV kvs (kk (x, y))).isSome = (valV kvs (kk (y, x))).isSome
theorem Rep.nil : Rep [] (fun _ _ => 0) := ⟨fun _ _ => .inr ⟨rfl, rfl⟩, fun _ _ => rfl⟩
theorem Rep.get {kvs : List (List Key × V)} {r : Rm} (h : Rep kvs r) (x y : Lt) : (valV kvs (kk (x, y))).getD (.int 0) = .int (r x y) := by
  rcases h.val x y with e | ⟨e, e2⟩
  · rw [e]; rfl
  · rw [e, e2]; rfl
theorem Rep.nz {kvs : List (List Key × V)} {r : Rm} (h : Rep kvs r) {x y : Lt} (c : r x y ≠ 0) : valV kvs (kk (x, y)) = some (.int (r x y)) := by
  rcases h.val x y with e | ⟨e, e2⟩
  · exact e
  · exact absurd e2 c
theorem Rep.isS {kvs : List (List Key × V)} {r : Rm} (h : Rep kvs r) {x y : Lt} (c : (valV kvs (kk (x, y))).isSome = true) : valV kvs (kk (x, y)) = some (.int (r x y)) := by
  rcases h.val x y with e | ⟨e, e2⟩
  · exact e
  · rw [e] at c; cases c
theorem Rep.put {kvs : List (List Key × V)} {r : Rm} (h : Rep kvs r) (k : TK) (d : Int) (c : (valV kvs (kk k)).isSome = true) : Rep (putK kvs (kk k) (.int (r k.1 k.2 + d))) (addr r k d) := by
  have iff : ∀ x y : Lt, (kk (x, y) = kk k) = (x = k.1 ∧ y = k.2) := fun x y => propext ⟨fun e => by have := kk_inj e; rw [← this]; exact ⟨rfl, rfl⟩, fun ⟨e1, e2⟩ => by rw [e1, e2]⟩
  refine ⟨fun x y => ?_, fun x y => ?_⟩
  · rw [valV_put]
    unfold addr
    by_cases e : x = k.1 ∧ y = k.2
    · rw [if_pos (by rw [iff]; exact e), if_pos e, e.1, e.2]; exact .inl rfl
    · rw [if_neg (by rw [iff]; exact e), if_neg e]; exact h.val x y
  · have key : ∀ x y : Lt, (valV (putK kvs (kk k) (.int (r k.1 k.2 + d))) (kk (x, y))).isSome = (valV kvs (kk (x, y))).isSome := by
      intro x y
      rw [valV_put]
      by_cases e : kk (x, y) = kk k
      · rw [if_pos e, e, c]; rfl
      · rw [if_neg e]
    rw [key, key, h.sym]
theorem Rep.new2 {kvs : List (List Key × V)} {r : Rm} (h : Rep kvs r) (k : TK) (hk : k.1 ≠ k.2) (v : Int) (c : valV kvs (kk k) = none) : Rep (putK (putK kvs (kk k) (.int v)) (kk (k.2, k.1)) (.int v)) (addr (addr r k v) (k.2, k.1) v) := by
  have iff : ∀ x y : Lt, (kk (x, y) = kk k) = (x = k.1 ∧ y = k.2) := fun x y => propext ⟨fun e => by have := kk_inj e; rw [← this]; exact ⟨rfl, rfl⟩, fun ⟨e1, e2⟩ => by rw [e1, e2]⟩
  have iff2 : ∀ x y : Lt, (kk (x, y) = kk (k.2, k.1)) = (x = k.2 ∧ y = k.1) := fun x y => propext ⟨fun e => by have := kk_inj e; cases this; exact ⟨rfl, rfl⟩, fun ⟨e1, e2⟩ => by rw [e1, e2]⟩
  have c2 : valV kvs (kk (k.2, k.1)) = none := by
    have := h.sym k.1 k.2
    rw [show (k.1, k.2) = k from rfl, c] at this
    cases e : valV kvs (kk (k.2, k.1)) with
    | none => rfl
    | some v => rw [e] at this; cases this
  have z1 : r k.1 k.2 = 0 := by
    rcases h.val k.1 k.2 with e | ⟨_, e⟩
    · rw [show (k.1, k.2) = k from rfl, c] at e; cases e
    · exact e
  have z2 : r k.2 k.1 = 0 := by
    rcases h.val k.2 k.1 with e | ⟨_, e⟩
    · rw [c2] at e; cases e
    · exact e
  refine ⟨fun x y => ?_, fun x y => ?_⟩
  · rw [valV_put, valV_put]
    unfold addr
    by_cases e2 : x = k.2 ∧ y = k.1
    · have e1 : ¬ (x = k.1 ∧ y = k.2) := fun e => hk (by rw [← e.1, e2.1])
      rw [if_pos (by rw [iff2]; exact e2), if_pos e2, if_neg e1, e2.1, e2.2, z2]; left; simp
    · rw [if_neg (by rw [iff2]; exact e2), if_neg e2]
      by_cases e1 : x = k.1 ∧ y = k.2
      · rw [if_pos (by rw [iff]; exact e1), if_pos e1, e1.1, e1.2, z1]; left; simp
      · rw [if_neg (by rw [iff]; exact e1), if_neg e1]; exact h.val x y
  · have key : ∀ x y : Lt, (valV (putK (putK kvs (kk k) (.int v)) (kk (k.2, k.1)) (.int v)) (kk (x, y))).isSome = (decide ((x = k.2 ∧ y = k.1) ∨ (x = k.1 ∧ y = k.2)) || (valV kvs (kk (x, y))).isSome) := by
      intro x y
      rw [valV_put, valV_put]
      by_cases e2 : x = k.2 ∧ y = k.1
      · rw [if_pos (by rw [iff2]; exact e2)]; simp [e2]
      · rw [if_neg (by rw [iff2]; exact e2)]
        by_cases e1 : x = k.1 ∧ y = k.2
        · rw [if_pos (by rw [iff]; exact e1)]; simp [e1]
        · rw [if_neg (by rw [iff]; exact e1)]
          have : ¬ ((x = k.2 ∧ y = k.1) ∨ (x = k.1 ∧ y = k.2)) := fun h => h.elim e2 e1
          simp only [this, decide_false, Bool.false_or]
    rw [key, key, h.sym]
    congr 1
    congr 1
    exact propext ⟨fun h => h.elim (fun h => .inr ⟨h.2, h.1⟩) (fun h => .inl ⟨h.2, h.1⟩), fun h => h.elim (fun h => .inr ⟨h.2, h.1⟩) (fun h => .inl ⟨h.2, h.1⟩)⟩
/-! ### trees of ways -/
abbrev Tr := List (Lt × Option Lt)
def oV : Option Lt → V
  | none => .non
  | some y => .str (enc [y])
def oD : Option Lt → PyData
  | none => .none
  | some y => dL y
theorem oD_plain (o : Option Lt) : plain (oD o) = some (oV o) := by cases o <;> rfl
def lkK (x : Lt) : Key := Sum.inr (enc [x])
def trV (tr : Tr) : List (Key × V) := tr.map fun t => (lkK t.1, oV t.2)
def lk (tr : Tr) (x : Lt) : Option (Option Lt) := (tr.find? fun t => decide (t.1 = x)).map (·.2)
theorem lkK_iff {x y : Lt} : (lkK x = lkK y) = (x = y) := propext ⟨fun h => Classical.byContradiction fun n => kne n h, fun h => by rw [h]⟩
theorem trV_get (tr : Tr) (x : Lt) : valV (trV tr) (lkK x) = (lk tr x).map oV := by
  unfold valV lk trV
  induction tr with
  | nil => rfl
  | cons t tr ih =>
    rw [List.map_cons, List.find?_cons, List.find?_cons]
    by_cases c : t.1 = x
    · simp [c]
    · have c2 : ¬ lkK t.1 = lkK x := by rw [lkK_iff]; exact c
      simp only [c, c2, decide_false]
      exact ih
def keys (tr : Tr) : List Lt := tr.map (·.1)
theorem lk_some {tr : Tr} {x : Lt} : (lk tr x).isSome = true ↔ x ∈ keys tr := by
  unfold lk keys
  rw [Option.isSome_map, List.find?_isSome, List.mem_map]
  simp
theorem lk_none {tr : Tr} {x : Lt} (h : x ∉ keys tr) : lk tr x = none := by
  cases e : lk tr x with
  | none => rfl
  | some o => exact absurd (lk_some.mp (by rw [e]; rfl)) h
theorem trV_put {tr : Tr} {x : Lt} (h : x ∉ keys tr) (o : Option Lt) : putK (trV tr) (lkK x) (oV o) = trV (tr ++ [(x, o)]) := by
  rw [putK_new _ (by rw [trV_get, lk_none h]; rfl)]
  unfold trV
  rw [List.map_append]; rfl
theorem lk_app_old {tr : Tr} {x : Lt} (h : x ∈ keys tr) (u : Tr) : lk (tr ++ u) x = lk tr x := by
  unfold lk
  rw [List.find?_append]
  cases e : tr.find? fun t => decide (t.1 = x) with
  | none =>
    have := lk_some.mpr h
    unfold lk at this
    rw [e] at this; cases this
  | some t => rfl
theorem lk_app_new {tr : Tr} {x : Lt} (h : x ∉ keys tr) (o : Option Lt) : lk (tr ++ [(x, o)]) x = some o := by
  have := lk_none h
  unfold lk at this ⊢
  rw [Option.map_eq_none_iff] at this
  rw [List.find?_append, this]
  simp
inductive Tree (r : Rm) (a : Lt) : Tr → Prop
  | root : Tree r a [(a, none)]
  | grow {tr : Tr} {x y : Lt} : Tree r a tr → y ∈ keys tr → x ∉ keys tr → 0 < r y x → Tree r a (tr ++ [(x, some y)])
inductive Way (tr : Tr) : Lt → List TK → Prop
  | root {a : Lt} : lk tr a = some none → Way tr a []
  | up {x y : Lt} {ps : List TK} : lk tr x = some (some y) → Way tr y ps → Way tr x ((y, x) :: ps)
/-- a way without a turn back, from a to x, told from its end -/
inductive Smp (a : Lt) : Lt → List TK → Prop
  | nil : Smp a a []
  | cons {x y : Lt} {ps : List TK} : Smp a y ps → x ∉ y :: ps.map (·.1) → Smp a x ((y, x) :: ps)
theorem keys_app (tr u : Tr) : keys (tr ++ u) = keys tr ++ keys u := by simp [keys]
theorem Tree.way {r : Rm} {a : Lt} {tr : Tr} (h : Tree r a tr) : ∀ x ∈ keys tr, ∃ ps, Way tr x ps ∧ Smp a x ps ∧ (∀ e ∈ ps, 0 < r e.1 e.2) ∧ (∀ z ∈ x :: ps.map (·.1), z ∈ keys tr) ∧ ps.length ≤ tr.length := by
  induction h with
  | root =>
    intro x hx
    have e : x = a := by simpa [keys] using hx
    subst e
    exact ⟨[], .root (by simp [lk]), .nil, by simp, by simp [keys], by simp⟩
  | @grow tr x y h hy hx hr ih =>
    have old : ∀ {z : Lt} {ps : List TK}, Way tr z ps → (∀ w ∈ z :: ps.map (·.1), w ∈ keys tr) → Way (tr ++ [(x, some y)]) z ps := by
      intro z ps hw
      induction hw with
      | root e => intro hk; exact .root (by rw [lk_app_old (hk _ (by simp))]; exact e)
      | up e _ ih2 => intro hk; exact .up (by rw [lk_app_old (hk _ (by simp))]; exact e) (ih2 fun w hw => hk w (by simp at hw ⊢; rcases hw with hw | hw <;> simp [hw]))
    intro z hz
    rw [keys_app, List.mem_append] at hz
    rcases hz with hz | hz
    · obtain ⟨ps, h1, h2, h3, h4, h5⟩ := ih z hz
      exact ⟨ps, old h1 h4, h2, h3, fun w hw => by rw [keys_app]; exact List.mem_append_left _ (h4 w hw), by rw [List.length_append]; omega⟩
    · have e : z = x := by simpa [keys] using hz
      subst e
      obtain ⟨ps, h1, h2, h3, h4, h5⟩ := ih y hy
      refine ⟨(y, z) :: ps, .up (lk_app_new hx _) (old h1 h4), .cons h2 (fun m => hx (h4 z m)), ?_, ?_, by rw [List.length_append, List.length_cons]; simp; omega⟩
      · intro e he
        rcases List.mem_cons.mp he with rfl | he
        · exact hr
        · exact h3 e he
      · intro w hw
        rw [keys_app, List.mem_append]
        rcases List.mem_cons.mp hw with rfl | hw
        · right; simp [keys]
        · left; exact h4 w (by simpa using hw)
/-! ### more sent along a way -/
def sent (m : Int) (r : Rm) (e : TK) : Rm := addr (addr r e (-m)) (e.2, e.1) m
def sents (m : Int) (r : Rm) (ps : List TK) : Rm := ps.foldl (sent m) r
def ch (S : S8) (x : Lt) : Int := if S x = true then 1 else 0
theorem out_sent (m : Int) (r : Rm) (e : TK) (S : S8) : out (sent m r e) S = out r S - m * (ch S e.1 - ch S e.2) := by
  unfold sent ch
  rw [out_addr, out_addr]
  cases h1 : S e.1 <;> cases h2 : S e.2 <;> simp <;> omega
theorem out_sents (m : Int) (S : S8) {a x : Lt} {ps : List TK} (h : Smp a x ps) : ∀ r, out (sents m r ps) S = out r S - m * (ch S a - ch S x) := by
  induction h with
  | nil => intro r; simp [sents]
  | @cons x y ps _ _ ih =>
    intro r
    show out (sents m (sent m r (y, x)) ps) S = _
    rw [ih, out_sent]
    have : m * (ch S a - ch S x) = m * (ch S y - ch S x) + m * (ch S a - ch S y) := by rw [← Int.mul_add]; congr 1; omega
    rw [this]
    show out r S - m * (ch S y - ch S x) - _ = _
    omega
theorem Smp.heads {a x : Lt} {ps : List TK} (h : Smp a x ps) : ∀ e ∈ ps, e.2 ∈ x :: ps.map (·.1) := by
  induction h with
  | nil => intro e he; cases he
  | @cons x y ps _ _ ih =>
    intro e he
    rcases List.mem_cons.mp he with rfl | he
    · simp
    · have := ih e he
      exact List.mem_cons_of_mem _ (by simpa using this)
theorem sents_nn {m : Int} (hm : 0 ≤ m) {a x : Lt} {ps : List TK} (h : Smp a x ps) : ∀ r : Rm, (∀ x y, 0 ≤ r x y) → (∀ e ∈ ps, m ≤ r e.1 e.2) → ∀ x y, 0 ≤ sents m r ps x y := by
  induction h with
  | nil => intro r h _; exact h
  | @cons x y ps hs hx ih =>
    intro r hr hp
    show ∀ u v, 0 ≤ sents m (sent m r (y, x)) ps u v
    have h0 := hp (y, x) (by simp)
    refine ih _ (fun u v => ?_) fun e he => ?_
    · unfold sent addr
      have := hr u v
      simp only
      split
      · split
        · rename_i c1 c2; rw [c2.1, c2.2] at this ⊢; simp only at h0; omega
        · omega
      · split
        · rename_i c1 c2; rw [c2.1, c2.2]; simp only at h0; omega
        · omega
    · have h1 := hp e (by simp [he])
      have h2 := hs.heads e he
      unfold sent addr
      simp only
      have c : ¬ (e.1 = y ∧ e.2 = x) := fun c => hx (by rw [← c.2]; exact h2)
      rw [if_neg c]
      split <;> omega
theorem sents_zero {m : Int} : ∀ (ps : List TK) (r : Rm) (x y : Lt), (∀ e ∈ ps, ¬ (e.1 = x ∧ e.2 = y) ∧ ¬ (e.2 = x ∧ e.1 = y)) → sents m r ps x y = r x y := by
  intro ps
  induction ps with
  | nil => intro r x y _; rfl
  | cons e ps ih =>
    intro r x y h
    show sents m (sent m r e) ps x y = _
    rw [ih _ x y fun e' he => h e' (by simp [he])]
    obtain ⟨h1, h2⟩ := h e (by simp)
    unfold sent addr
    simp only
    rw [if_neg (fun c => h2 ⟨c.1.symm, c.2.symm⟩), if_neg (fun c => h1 ⟨c.1.symm, c.2.symm⟩)]
/-! ### the least side -/
structure FlowI (n : Nat) (a : Lt) (R : NL.Row) (r : Rm) (val : Int) : Prop where
  nn : ∀ x y, 0 ≤ r x y
  rk : ∀ x y, r x y ≠ 0 → x.val < 2 * n ∧ y.val < 2 * n
  eq : ∀ S, Side a S → out r S + val = rcut S R
theorem FlowI.le {n : Nat} {a : Lt} {R : NL.Row} {r : Rm} {val : Int} (h : FlowI n a R r val) {S : S8} (hS : Side a S) : val ≤ rcut S R := by
  have := h.eq S hS
  have := out_nn h.nn S
  omega
theorem FlowI.sent {n : Nat} {a : Lt} {R : NL.Row} {r : Rm} {val m : Int} (h : FlowI n a R r val) {ps : List TK} (hs : Smp a (inv a) ps) (hp : ∀ e ∈ ps, 0 < r e.1 e.2) (hm : 0 ≤ m) (hle : ∀ e ∈ ps, m ≤ r e.1 e.2) : FlowI n a R (sents m r ps) (val + m) := by
  refine ⟨sents_nn hm hs r h.nn hle, fun x y hxy => ?_, fun S hS => ?_⟩
  · by_cases c : ∀ e ∈ ps, ¬ (e.1 = x ∧ e.2 = y) ∧ ¬ (e.2 = x ∧ e.1 = y)
    · rw [sents_zero ps r x y c] at hxy
      exact h.rk x y hxy
    · have c : ∃ e ∈ ps, (e.1 = x ∧ e.2 = y) ∨ (e.2 = x ∧ e.1 = y) := Classical.byContradiction fun n => c fun e he => ⟨fun z => n ⟨e, he, .inl z⟩, fun z => n ⟨e, he, .inr z⟩⟩
      obtain ⟨e, he, c⟩ := c
      have h1 := hp e he
      have h2 := h.rk e.1 e.2 (by omega)
      rcases c with ⟨c1, c2⟩ | ⟨c1, c2⟩
      · rw [← c1, ← c2]; exact h2
      · rw [← c1, ← c2]; exact ⟨h2.2, h2.1⟩
  · rw [out_sents m S hs]
    have := h.eq S hS
    have e1 : ch S a = 1 := by unfold ch; rw [if_pos hS.inn]
    have e2 : ch S (inv a) = 0 := by unfold ch; rw [if_neg (by rw [hS.out]; decide)]
    rw [e1, e2]
    omega
structure Least (n : Nat) (a : Lt) (R : NL.Row) (S : S8) : Prop where
  side : Side a S
  ins : InS n S
  min : ∀ T, Side a T → rcut S R ≤ rcut T R
  sub : ∀ T, Side a T → rcut T R = rcut S R → ∀ x, S x = true → T x = true
theorem Least.uniq {n : Nat} {a : Lt} {R : NL.Row} {S T : S8} (h : Least n a R S) (k : Least n a R T) : S = T := by
  have e : rcut S R = rcut T R := Nat.le_antisymm (h.min T k.side) (k.min S h.side)
  funext x
  have h1 := h.sub T k.side e.symm x
  have h2 := k.sub S h.side e x
  cases hs : S x <;> cases ht : T x <;> simp_all
theorem Tree.root_mem {r : Rm} {a : Lt} {tr : Tr} (h : Tree r a tr) : a ∈ keys tr := by
  induction h with
  | root => simp [keys]
  | grow _ _ _ _ ih => rw [keys_app]; exact List.mem_append_left _ ih
theorem Tree.each {r : Rm} {a : Lt} {tr : Tr} (h : Tree r a tr) (p : Lt → Prop) (h0 : p a) (h1 : ∀ x y, p y → 0 < r y x → p x) : ∀ x ∈ keys tr, p x := by
  induction h with
  | root => intro x hx; simp [keys] at hx; rw [hx]; exact h0
  | @grow tr z y _ hy _ hr ih =>
    intro x hx
    rw [keys_app, List.mem_append] at hx
    rcases hx with hx | hx
    · exact ih x hx
    · have e : x = z := by simpa [keys] using hx
      subst e
      exact h1 x y (ih y hy) hr
/-- the letters that a closed tree reaches -/
theorem least_of {n : Nat} {a : Lt} (ha : a.val < 2 * n) {R : NL.Row} {r : Rm} {val : Int} (h : FlowI n a R r val) {tr : Tr} (ht : Tree r a tr) (hc : ∀ x ∈ keys tr, ∀ y : Lt, y.val < 2 * n → 0 < r x y → y ∈ keys tr) (hi : inv a ∉ keys tr) :
    Least n a R (fun x => decide (x ∈ keys tr)) := by
  have hak := ht.root_mem
  have hside : Side a (fun x => decide (x ∈ keys tr)) := ⟨by simp [hak], by simp [hi]⟩
  have hz : out r (fun x => decide (x ∈ keys tr)) = 0 := out_all_zero fun x y hx hy => by
    have hx : x ∈ keys tr := of_decide_eq_true hx
    have hy : y ∉ keys tr := of_decide_eq_false hy
    have h1 := h.nn x y
    by_cases c : r x y = 0
    · exact c
    · exact absurd (hc x hx y (h.rk x y c).2 (by omega)) hy
  have hval : val = rcut (fun x => decide (x ∈ keys tr)) R := by have := h.eq _ hside; omega
  have hin : InS n (fun x => decide (x ∈ keys tr)) := fun x hx => ht.each (fun x => x.val < 2 * n) ha (fun x y _ hr => (h.rk y x (by omega)).2) x (of_decide_eq_true hx)
  refine ⟨hside, hin, fun T hT => ?_, fun T hT e x hx => ?_⟩
  · have := h.le hT; omega
  · have hx : x ∈ keys tr := of_decide_eq_true hx
    have hT0 : out r T = 0 := by have := h.eq T hT; omega
    refine ht.each (fun x => T x = true) hT.inn (fun x y hy hr => ?_) x hx
    cases hb : T x
    · have h1 := out_eq_zero h.nn hT0 (x := y) (y := x) hy hb
      omega
    · rfl
def free (tr : Tr) : Nat := (List.finRange 8).countP fun y => decide (y ∉ keys tr)
theorem free_next {tr : Tr} {x : Lt} (h : x ∉ keys tr) (o : Option Lt) : free (tr ++ [(x, o)]) + 1 ≤ free tr := by
  unfold free
  rw [keys_app]
  have key : ∀ l : List Lt, (l.countP fun y => decide (y ∉ keys tr ++ keys [(x, o)])) ≤ (l.countP fun y => decide (y ∉ keys tr)) ∧ (x ∈ l → (l.countP fun y => decide (y ∉ keys tr ++ keys [(x, o)])) + 1 ≤ (l.countP fun y => decide (y ∉ keys tr))) := by
    intro l
    induction l with
    | nil => exact ⟨Nat.le_refl _, fun z => by cases z⟩
    | cons y l ih =>
      rw [List.countP_cons, List.countP_cons]
      have himp : decide (y ∉ keys tr ++ keys [(x, o)]) = true → decide (y ∉ keys tr) = true := fun c => by
        have c := of_decide_eq_true c
        exact decide_eq_true fun z => c (List.mem_append_left _ z)
      refine ⟨?_, fun hx => ?_⟩
      · have := ih.1
        split
        · rename_i c; rw [if_pos (himp c)]; omega
        · split <;> omega
      · by_cases c : y = x
        · subst c
          have c1 : decide (y ∉ keys tr ++ keys [(y, o)]) = false := decide_eq_false (fun z => z (List.mem_append_right _ (by simp [keys])))
          have c2 : decide (y ∉ keys tr) = true := decide_eq_true h
          rw [c1, c2]
          have := ih.1
          simp only [Bool.false_eq_true, if_false, if_true]
          omega
        · have hx : x ∈ l := by
            rcases List.mem_cons.mp hx with z | z
            · exact absurd z.symm c
            · exact z
          have := ih.2 hx
          split
          · rename_i c; rw [if_pos (himp c)]; omega
          · split <;> omega
  exact (key _).2 (List.mem_finRange x)
theorem Tree.len {r : Rm} {a : Lt} {tr : Tr} (h : Tree r a tr) : tr.length + free tr ≤ 9 := by
  induction h with
  | root =>
    have : free [(a, none)] ≤ (List.finRange 8).length := List.countP_le_length
    simp at this
    simp; omega
  | grow _ _ hx _ ih =>
    have := free_next hx (some ‹Lt›)
    rw [List.length_append]
    simp
    have h2 := @free_next _ _ hx (some ‹Lt›)
    omega
def Closed (n : Nat) (r : Rm) (tr : Tr) : Prop := ∀ x ∈ keys tr, ∀ y : Lt, y.val < 2 * n → 0 < r x y → y ∈ keys tr
theorem putK_len_old {κ : Type} [DecidableEq κ] {kvs : List (κ × V)} {k : κ} (v : V) (h : (valV kvs k).isSome = true) : (putK kvs k v).length = kvs.length := by
  unfold putK
  rw [if_pos (by rw [valV_any]; exact h), List.length_map]
theorem putK_isSome {κ : Type} [DecidableEq κ] {kvs : List (κ × V)} {k : κ} (v : V) (h : (valV kvs k).isSome = true) (j : κ) : (valV (putK kvs k v) j).isSome = (valV kvs j).isSome := by
  rw [valV_put]
  by_cases c : j = k
  · rw [if_pos c, c, h]; rfl
  · rw [if_neg c]
end NQ

namespace NQ
open PySem PySem.Spec L2 NP
open NL (inv red invw mid Red S8 Side wh rtold rmap sub Per single cp lp sm cutp cut rcut CR)
section
variable {W : Wd} {X : Cx} {e a b o k tg iter : Expr} {es : List Expr} {ds : List Ds} {H H' : Hp} {pos p apos pos' p2 p3 p4 : Pos} {A B C : Ds → Prop} {D : Ends} {rest body els : List Stmt} {u v : NL.W} {x y : Lt}
theorem e_inT {l : List Lt} (ha : EE W X a ds H (Is (.d (dL x)))) (hb : EE W X b ds H (Is (.d (.tuple (l.map dL))))) (hm : behindInMarks .In b = false := by rfl) : EE W X (.Compare a [.In] [b] pos) ds H (Is (.d (.bool (decide (x ∈ l))))) :=
  EE.is (e_cmpI op_in_seq ha (hb.is (by rw [show l.map dL = (l.map fun y => enc [y]).map .str by rw [List.map_map]; rfl])) rd_inT hm) (by
    show Ds.d (.bool (decide _)) = _
    congr 2
    congr 1
    exact mem_strs x l)
end
/-- a table of ties as an item list -/
def tk2 (T : Tab) : List ((Str × Str) × V) := T.map fun t => ((enc [t.1.1], enc [t.1.2]), V.int t.2)
theorem tk2_eq (T : Tab) : (tk2 T).map (fun t => (pairK t.1.1 t.1.2, t.2)) = tkV T := by unfold tk2 tkV; rw [List.map_map]; rfl
theorem tk2_items (T : Tab) : ((tk2 T).map fun t => Ds.d (.tuple [.str t.1.1, .str t.1.2])) = (T.map (·.1)).map fun k => Ds.d (dT k) := by unfold tk2; rw [List.map_map, List.map_map]; rfl
theorem getT_mem {T : Tab} (h : (T.map (·.1)).Nodup) {t : TK × Nat} (ht : t ∈ T) : getT T t.1 = some t.2 := by
  unfold getT
  induction T with
  | nil => cases ht
  | cons u T ih =>
    rw [List.map_cons, List.nodup_cons] at h
    rcases List.mem_cons.mp ht with e | ht
    · subst e; simp
    · have : ¬ u.1 = t.1 := fun e => h.1 (List.mem_map.mpr ⟨t, ht, e.symm⟩)
      rw [List.find?_cons]
      simp only [this, decide_false]
      exact ih h.2 ht
theorem filter_sum (S : S8) : ∀ T : Tab, (((T.filter fun t => S t.1.1 != S t.1.2).map fun t => (t.2 : Int))).sum = (wsum (cutk S) T : Nat) := by
  intro T
  induction T with
  | nil => rfl
  | cons t T ih =>
    rw [List.filter_cons]
    unfold wsum cutk at ih ⊢
    rw [List.map_cons, List.sum_cons]
    by_cases c : S t.1.1 = S t.1.2
    · have : (S t.1.1 != S t.1.2) = false := by simp [c]
      rw [this, if_pos c]
      simp only [Bool.false_eq_true, if_false]
      rw [ih]; simp
    · have : (S t.1.1 != S t.1.2) = true := by simp [c]
      rw [this, if_neg c]
      simp only [if_true]
      rw [List.map_cons, List.sum_cons, ih]
      simp
section
variable {P : Program} {w : World} {K : PySem.W.Frag} {mg : Str → Option Value} {base : Heap}
theorem get_key {T : Tab} {k : TK} (hk : k ∈ T.map (·.1)) : ∃ n, getT T k = some n := by
  cases e : getT T k with
  | none => exact absurd hk (getT_none.mp e)
  | some n => exact ⟨n, rfl⟩
def R_ties_leaving (xs : List Ds) (C : Ds → Prop) : Prop := ∃ (n : Nat) (T : Tab) (S : S8), xs = [.o (.dT (tkV T)), .d (dS n S)] ∧ TabOk n T ∧ T.length ≤ 100000 ∧ InS n S ∧ C (.d (.int (wsum (cutk S) T : Nat)))
theorem c_ties_leaving (G : Gs K mg) : Cal P w K mg base "ties_leaving" 1 (spP R_ties_leaving) := by
  -- slots: 0=ties 1=side 2=tie
  have S : FnScope ["ties", "side", "tie"] ["ties", "side"] (defScope (top 28)) := ⟨rfl, rfl, rfl, by decide +kernel, rfl, by decide +kernel, by decide +kernel⟩
  refine cal_P (G.df 19 _ rfl) S (fun _ _ _ _ _ _ us hl => match us, hl with | [_, _], _ => rfl) (fun xs C h => by obtain ⟨n, T, S', e, hT, hl, hS, hC⟩ := h; subst e; rfl) fun f cdv A outer s H0 E M xs C D hr h hrt hnx tr => ?_
  obtain ⟨n, T, S', e, hT, hl, hS, hC⟩ := h
  subst e
  have nd := S.nd
  refine ss_ret (A := fun y => ∃ x, y = .d x ∧ x = .int (wsum (cutk S') T : Nat)) (e_lock (i := 0) (u := .dT (tkV T)) rfl trivial (by intro xs z; cases z) (by intro xs z; cases z) ?_ (fun _ _ r => r) fun d od H1 nd1 hd => ?_) fun v H2 y r e hv => ?_
  · intro j x hj e
    match j, hj with
    | 1, _ => cases e
    | 2, _ => cases e
    | 0, h => exact h rfl
    | j + 3, _ => simp at e
  · rw [← tk2_eq] at hd
    refine EE.imp (EE.is (y := .d (.int (wsum (cutk S') T : Nat))) (e_sum (ns := (T.filter fun t => S' t.1.1 != S' t.1.2).map fun t => (t.2 : Int)) rfl (G.fr 9 _ rfl) (EE.is (e_lcMF (j := 2) (T.map (·.1)) (fun k => .d (dT k)) (fun k => .int ((getT T k).getD 0 : Nat)) (fun k => S' k.1 != S' k.2) ?_ nd (EI.is (ei_keysT (e_var 0).at hd nd1) (tk2_items T)) (szl (by rw [List.length_map]; omega)) (fun l k hk s0 H2 cl C fp => ?_) fun l k hk _ s0 H2 cl C fp => ?_) ?_)) (by rw [filter_sum])) (fun y ey => ⟨_, ey, rfl⟩)
    · intro k k' e
      have h1 : [dL k.1, dL k.2] = [dL k'.1, dL k'.2] := PyData.tuple.inj (dd_inj e)
      simp only [List.cons.injEq, and_true] at h1
      exact Prod.ext (dL_inj (congrArg Ds.d h1.1)) (dL_inj (congrArg Ds.d h1.2))
    · exact ET.is (et_cmpI op_ne (e_inT (e_ixT (xs := [dL k.1, dL k.2]) (d := dL k.1) (e_var 2) e_int rfl) (e_var 1)) (e_inT (e_ixT (xs := [dL k.1, dL k.2]) (d := dL k.2) (e_var 2) e_int rfl) (e_var 1)) rd_neB) (by rw [dec_side hS, dec_side hS])
    · obtain ⟨m, hm⟩ := get_key hk
      have hv : valV ((tk2 T).map fun t => (pairK t.1.1 t.1.2, t.2)) (pairK (enc [k.1]) (enc [k.2])) = some (.int (m : Nat)) := by
        rw [tk2_eq]
        have := tkV_get T k
        unfold kk at this
        rw [this, hm]; rfl
      refine EE.is (e_dgetTf (d := .int (m : Nat)) (hu1 hr) (e_var 0).at hd (fun f => f) (e_var 2) hv rfl) (by rw [hm]; rfl)
    · rw [List.filter_map, List.map_map, List.map_map]
      refine congrArg (fun z => Ds.d (.list z)) (List.map_congr_left fun t ht => ?_)
      have ht := (List.mem_filter.mp ht).1
      show PyData.int _ = PyData.int _
      rw [getT_mem hT.nd ht]; rfl
  · obtain ⟨x, e1, e2⟩ := e
    subst e1 e2
    exact hrt v H2 _ r hC hv
theorem tkV_snoc (T : Tab) (k : TK) (n : Nat) : tkV (T ++ [(k, n)]) = tkV T ++ [(kk k, .int n)] := by unfold tkV; rw [List.map_append]; rfl
/-- the rooms that a table of ties gives, at first -/
structure RoomI (n : Nat) (done : List TK) (T : Tab) (kvs : List (List Key × V)) (r : Rm) : Prop where
  rep : Rep kvs r
  nn : ∀ x y, 0 ≤ r x y
  key : ∀ x y, (valV kvs (kk (x, y))).isSome = true → (x, y) ∈ done ∨ (y, x) ∈ done
  out : ∀ S, out r S = ((done.map fun k => (((getT T k).getD 0 * cutk S k : Nat) : Int))).sum
  len : kvs.length ≤ 2 * done.length
theorem RoomI.start (n : Nat) (T : Tab) : RoomI n [] T [] (fun _ _ => 0) := ⟨.nil, fun _ _ => Int.le_refl _, fun x y h => (by cases h), fun S => out_zero S, Nat.le_refl _⟩
theorem RoomI.next {n : Nat} {done : List TK} {T : Tab} {kvs : List (List Key × V)} {r : Rm} (h : RoomI n done T kvs r) {k : TK} (hk : KeyOk n k) (hd : ∀ j ∈ done, KeyOk n j) (hn : k ∉ done) {m : Nat} (hm : getT T k = some m) :
    RoomI n (done ++ [k]) T (putK (putK kvs (kk k) (.int (m : Nat))) (kk (k.2, k.1)) (.int (m : Nat))) (addr (addr r k m) (k.2, k.1) m) := by
  have hne : k.1 ≠ k.2 := fun e => by have := hk.1; rw [e] at this; omega
  have hno : valV kvs (kk k) = none := by
    cases e : valV kvs (kk k) with
    | none => rfl
    | some v =>
      rcases h.key k.1 k.2 (by rw [show (k.1, k.2) = k from rfl, e]; rfl) with c | c
      · exact absurd c hn
      · have := (hd _ c).1
        have := hk.1
        simp only at *
        omega
  refine ⟨h.rep.new2 k hne m hno, fun x y => ?_, fun x y hs => ?_, fun S => ?_, ?_⟩
  · unfold addr
    have := h.nn x y
    split <;> split <;> omega
  · rw [valV_put, valV_put] at hs
    by_cases e2 : kk (x, y) = kk (k.2, k.1)
    · have := kk_inj e2
      cases this
      right; simp
    · rw [if_neg e2] at hs
      by_cases e1 : kk (x, y) = kk k
      · have := kk_inj e1
        rw [this]; left; simp
      · rw [if_neg e1] at hs
        rcases h.key x y hs with c | c
        · left; simp [c]
        · right; simp [c]
  · rw [out_addr, out_addr, h.out S, List.map_append, List.sum_append, List.map_cons, List.map_nil, List.sum_cons, List.sum_nil, hm]
    unfold cutk
    cases a1 : S k.1 <;> cases a2 : S k.2 <;> simp <;> omega
  · have h1 := length_putK (putK kvs (kk k) (.int (m : Nat))) (kk (k.2, k.1)) (.int (m : Nat))
    have h2 := length_putK kvs (kk k) (.int (m : Nat))
    have h3 := h.len
    rw [List.length_append]
    show _ ≤ 2 * (_ + 1)
    omega
theorem wsum_keys (S : S8) {T : Tab} (h : (T.map (·.1)).Nodup) : (((T.map (·.1)).map fun k => (((getT T k).getD 0 * cutk S k : Nat) : Int))).sum = (wsum (cutk S) T : Nat) := by
  have : (T.map (·.1)).map (fun k => (((getT T k).getD 0 * cutk S k : Nat) : Int)) = T.map fun t => ((t.2 * cutk S t.1 : Nat) : Int) := by
    rw [List.map_map]
    apply List.map_congr_left
    intro t ht
    show ((((getT T t.1).getD 0 * cutk S t.1 : Nat)) : Int) = _
    rw [getT_mem h ht]; rfl
  rw [this]
  clear this h
  unfold wsum
  induction T with
  | nil => rfl
  | cons t T ih => rw [List.map_cons, List.sum_cons, ih, List.map_cons, List.sum_cons]; omega
/-- the rooms that are given -/
structure RoomR (n : Nat) (R : NL.Row) (kvs : List (List Key × V)) (r : Rm) : Prop where
  rep : Rep kvs r
  nn : ∀ x y, 0 ≤ r x y
  rk : ∀ x y, r x y ≠ 0 → x.val < 2 * n ∧ y.val < 2 * n
  out : ∀ S, out r S = rcut S R
  len : kvs.length ≤ 200000
def R_rooms_of (xs : List Ds) (C : HO → Prop) : Prop := ∃ (n : Nat) (R : NL.Row) (T : Tab), xs = [.o (.dT (tkV T))] ∧ TabR n R T ∧ ∀ kvs r, RoomR n R kvs r → C (.dT kvs)
theorem c_rooms_of (G : Gs K mg) : Cal P w K mg base "rooms_of" 1 (spN R_rooms_of) := by
  have S : FnScope ["ties", "rooms", "one", "other"] ["ties"] (defScope (top 23)) := ⟨rfl, rfl, rfl, by decide +kernel, rfl, by decide +kernel, by decide +kernel⟩
  refine cal_N (G.df 15 _ rfl) S (fun _ _ _ _ _ _ us hl => match us, hl with | [_], _ => rfl) (fun xs C h => by obtain ⟨n, R, T, e, h⟩ := h; subst e; rfl) fun f cdv A outer s H0 E M xs C D hr h hrt tr => ?_
  obtain ⟨n, R, T, e, hT, hC⟩ := h
  subst e
  have nd := S.nd
  refine ss_new (i := 1) (u := .dT []) (by intro _ h; cases h) new_dT (fun p H1 r1 hp => ?_) nd
  have h0 := none_of r1 hp
  have no0 : ∀ {a b c : Ds}, noO 0 [.o (.dT (tkV T)), .r (.ref p), .u, .u] := by
    intro a b c j x hj e
    match j, hj with
    | 1, _ => cases e
    | 2, _ => cases e
    | 3, _ => cases e
    | 0, h => exact h rfl
    | j + 4, _ => simp at e
  refine ss_lock (i := 0) (u := .dT (tkV T)) rfl trivial (by intro xs z; cases z) (by intro xs z; cases z) (no0 (a := .u) (b := .u) (c := .u)) fun H2 d od r2 nMd hd nx' hnx' rt bk ct => ?_
  have hdp : d ≠ p := fun z => nMd (by rw [z]; exact Wd.addM)
  refine s1_forM (as := T.map (·.1)) (g := fun k => .d (dT k)) (dz := fun k ds' => (ds'.set 2 (.d (dL k.1))).set 3 (.d (dL k.2))) (fun done ds' H' => Same H0 (L2.upd H' d (.dT (tkV T))) ∧ H' d = some (.frz od (.dT (tkV T))) ∧ ∃ kvs r, (∃ y1 y2 : PyData, ds' = [.r (.ref d), .r (.ref p), .d y1, .d y2] ∨ ds' = [.r (.ref d), .r (.ref p), .u, .u]) ∧ H' p = some (.dT kvs) ∧ RoomI n done T kvs r)
    (EI.is (ei_keysT (e_var 0).at (show L2.upd H2 d (.frz od (.dT (tkV T))) d = some (.frz od (.dT ((tk2 T).map fun t => (pairK t.1.1 t.1.2, t.2)))) by rw [tk2_eq]; exact upd_same) nMd) (tk2_items T)) ?_ ?_ ?_ ?_
  · intro H3 r3
    have hp2 : H2 p = some (.dT []) := r2 _ _ upd_same
    refine ⟨?_, r3 _ _ upd_same, [], _, ⟨.none, .none, .inr rfl⟩, r3 _ _ (by rw [upd_ne (fun z => hdp z.symm)]; exact hp2), RoomI.start n T⟩
    intro b o e
    by_cases c : b = d
    · have h2 : H2 b = some o := r2 b o (same_new hp b o (r1 b o e))
      rw [c, upd_same, ← hd, ← c]; exact h2
    · rw [upd_ne c]
      exact r3 b o (by rw [upd_ne c]; exact r2 b o (same_new hp b o (r1 b o e)))
  · rintro done k ds' H' ⟨_, _, kvs, r, ⟨y1, y2, hds⟩, _⟩ _
    rcases hds with rfl | rfl
    · exact eh_two (i := 2) (j := 3) rfl nd
    · exact eh_two (i := 2) (j := 3) rfl nd
  · rintro done k todo ds' Hi H' eu ⟨s0, hfz, kvs, r, ⟨y1, y2, hds⟩, hp', hI⟩ sm' kq
    have hds2 : (ds'.set 2 (.d (dL k.1))).set 3 (.d (dL k.2)) = [.r (.ref d), .r (.ref p), .d (dL k.1), .d (dL k.2)] := by rcases hds with rfl | rfl <;> rfl
    rw [hds2]
    have hkm : k ∈ T.map (·.1) := by rw [eu]; simp
    obtain ⟨m, hm⟩ := get_key hkm
    have hnd := hT.ok.nd
    rw [eu] at hnd
    have hkn : k ∉ done := fun z => by
      have := (List.nodup_append.mp hnd).2.2 k z k (by simp)
      exact this rfl
    have hfz := ((pur M).add p).keep sm' d _ (fun f => f) hfz
    have hp' := ((pur M).add p).keep sm' p _ (fun f => f) hp'
    have hlen : kvs.length ≤ 200000 := by
      have h1 := hI.len
      have h2 : done.length ≤ T.length := by have := congrArg List.length eu; simp at this; omega
      have := hT.len
      omega
    have hv : valV ((tk2 T).map fun t => (pairK t.1.1 t.1.2, t.2)) (pairK (enc [k.1]) (enc [k.2])) = some (.int (m : Nat)) := by
      rw [tk2_eq]
      have := tkV_get T k
      unfold kk at this
      rw [this, hm]; rfl
    rw [← tk2_eq] at hfz
    have et : ∀ {p1 p2 p3 : Pos} {x : Nat} {H3 : Hp}, EE ((pur M).add p) (XX P w K mg base ["ties", "rooms", "one", "other"] "rooms_of" (top 23) f cdv A outer s H0 E) (.Tuple [.Name "one" p1, .Name "other" p2] x p3) [.r (.ref d), .r (.ref p), .d (dL k.1), .d (dL k.2)] H3 (Is (.d (.tuple [.str (enc [k.1]), .str (enc [k.2])]))) := e_tup (xs := [dL k.1, dL k.2]) (ea_c (e_var 2) (ea_c (e_var 3) ea_nil)) (szl (by simp))
    refine ss_dputTI (x := enc [k.1]) (y := enc [k.2]) (d := .int (m : Nat)) (hu1 hr) hp' Wd.addM (fun f => f) (szl (by omega)) (e_dgetTf (hu1 hr) (e_var 0).at hfz (fun f => f) et hv rfl) (e_var 1).at et fun H3 r3 => ?_
    have hfz3 := ((pur M).add p).keep r3 d _ (fun f => f) hfz
    have hfz4 : L2.upd H3 p (.dT (putK kvs [Sum.inr (enc [k.1]), Sum.inr (enc [k.2])] (.int (m : Nat)))) d = some (.frz od (.dT ((tk2 T).map fun t => (pairK t.1.1 t.1.2, t.2)))) := by rw [upd_ne hdp]; exact hfz3
    have hl2 := length_putK kvs [Sum.inr (enc [k.1]), Sum.inr (enc [k.2])] (.int (m : Nat))
    refine ss_dputTI (x := enc [k.2]) (y := enc [k.1]) (d := .int (m : Nat)) (hu1 hr) upd_same Wd.addM (fun f => f) (szl (by omega)) (e_dgetTf (hu1 hr) (e_var 0).at hfz4 (fun f => f) et hv rfl) (e_var 1).at (e_tup (xs := [dL k.2, dL k.1]) (ea_c (e_var 3) (ea_c (e_var 2) ea_nil)) (szl (by simp))) fun H4 r4 => ?_
    have hfz5 := ((pur M).add p).keep r4 d _ (fun f => f) hfz4
    refine ss_nq fun H5 r5 => ⟨⟨?_, ?_, _, _, ⟨_, _, .inl rfl⟩, r5 _ _ upd_same, hI.next (hT.ok.ok k hkm) (fun j hj => hT.ok.ok j (by rw [eu]; simp [hj])) hkn hm⟩, ?_⟩
    · intro b o e
      have e0 := s0 b o e
      by_cases c : b = d
      · rw [c, upd_same] at e0 ⊢; exact e0
      · rw [upd_ne c] at e0 ⊢
        have nb : b ≠ p := ne_of_none e h0
        exact r5 b o (by rw [upd_ne nb]; exact r4 b o (by rw [upd_ne nb]; exact r3 b o (sm' b o e0)))
    · rw [← tk2_eq]; exact r5 _ _ (by rw [upd_ne hdp]; exact hfz5)
    · exact kq.trans ((Kq.r r3).trans (Kq.updA.trans ((Kq.r r4).trans (Kq.updA.trans (Kq.r r5)))))
  · rintro ds' H' σ ⟨s0, hfz, kvs, r, ⟨y1, y2, hds⟩, hp', hI⟩ ok
    have hout : ∀ S, out r S = rcut S R := fun S => by rw [hI.out S, wsum_keys S hT.ok.nd, hT.eq S]
    have hrk : ∀ x y, r x y ≠ 0 → x.val < 2 * n ∧ y.val < 2 * n := fun x y c => by
      rcases hI.key x y (by rw [hI.rep.nz c]; rfl) with c | c
      · have := hT.ok.ok _ c
        have h1 := this.1; have h2 := this.2
        simp only at h1 h2
        omega
      · have := hT.ok.ok _ c
        have h1 := this.1; have h2 := this.2
        simp only at h1 h2
        omega
    have hlen : kvs.length ≤ 200000 := by
      have h1 := hI.len
      have := hT.len
      rw [List.length_map] at h1
      omega
    have fin : ∀ y1 y2 : Ds, SS ((pur M).add p) (XX P w K mg base ["ties", "rooms", "one", "other"] "rooms_of" (top 23) f cdv A outer s H0 E) ((defBody (top 23)).drop 2) D [.o (.dT (tkV T)), .r (.ref p), y1, y2] (L2.upd H' d (.dT (tkV T))) := by
      intro y1 y2
      refine ss_ret (e_var 1) fun v H6 y r6 e hv => ?_
      cases e
      cases hv
      exact hrt p H6 (.dT kvs) (s0.trans r6) h0 (r6 _ _ (by rw [upd_ne (fun z => hdp z.symm)]; exact hp')) (hC kvs r ⟨hI.rep, hI.nn, hrk, hout, hlen⟩)
    rcases hds with rfl | rfl
    · refine hnx' _ σ H' hfz rfl ?_ ok (fin _ _)
      intro j x hj e
      match j, hj with
      | 1, _ => cases e
      | 2, _ => cases e
      | 3, _ => cases e
      | 0, h => exact h rfl
      | j + 4, _ => simp at e
    · refine hnx' _ σ H' hfz rfl ?_ ok (fin _ _)
      intro j x hj e
      match j, hj with
      | 1, _ => cases e
      | 2, _ => cases e
      | 3, _ => cases e
      | 0, h => exact h rfl
      | j + 4, _ => simp at e
end
end NQ

namespace NQ
open PySem PySem.Spec L2 NP
open NL (inv red invw mid Red S8 Side wh rtold rmap sub Per single cp lp sm cutp cut rcut CR)
section
variable {W : Wd} {X : Cx} {e a b o k tg iter : Expr} {es : List Expr} {ds : List Ds} {H H' : Hp} {pos p apos pos' p2 p3 p4 : Pos} {A B C : Ds → Prop} {D : Ends} {rest body els : List Stmt} {u v : NL.W} {x y : Lt}
theorem e_callP {x : Str} {k : Nat} {R : List Ds → (Ds → Prop) → Prop} {p : Pos} {P : List Ds → Prop} (c : Cal X.prog X.w X.K X.mg X.base x k (spP R)) (hr : Room k X.A) (ha : EA W X (e :: es) ds H P) (h : ∀ xs, P xs → R xs C)
    (hg : Gl X x := by rfl) (hdb : (x == ("__debug__" : Str)) = false := by decide) (he : starEach (e :: es) X.env = (false, eval e X.env) :: starEach es X.env := by rfl) (hpl : (backTo pos (starEach es X.env)).any (·.1) = false := by rfl) :
    EE W X (.Call (.Name x p) (e :: es) [] pos) ds H C :=
  e_callS c hr ha (fun vs H1 ys tr ey hvs Q q => ⟨W.M, ys, C, tr, h ys ey, hvs, fun v H' x s cx hv => q v H' x (W.ex s) cx hv⟩) hg hdb he hpl
/-- the second argument is an object that may be changed -/
theorem e_call3R {x : Str} {k : Nat} {R : List Ds → (Ds → Prop) → Prop} {p : Pos} {d1 d3 : PyData} {e2 e3 : Expr} {l : Addr} {uo : HO} {P : HO → Prop} (c : Cal X.prog X.w X.K X.mg X.base x k (spP R)) (hr : Room k X.A) (ha : EE W X e ds H (Is (.d d1))) (hb : EE W X e2 ds H (Is (.r (.ref l)))) (hb3 : EE W X e3 ds H (Is (.d d3)))
    (hl : H l = some uo) (nF : ¬ W.F l) (h : R [.d d1, .o uo, .d d3] (fun y => ∃ z, y = .o z ∧ P z)) (hne : ∀ z, P z → z ≠ uo)
    (hg : Gl X x := by rfl) (hdb : (x == ("__debug__" : Str)) = false := by decide) (he : starEach [e, e2, e3] X.env = (false, eval e X.env) :: starEach [e2, e3] X.env := by rfl) (he2 : starEach [e2, e3] X.env = (false, eval e2 X.env) :: starEach [e3] X.env := by rfl) (he3 : starEach [e3] X.env = (false, eval e3 X.env) :: starEach [] X.env := by rfl) (hpl : (backTo pos (starEach [e2, e3] X.env)).any (·.1) = false := by rfl) :
    EE W X (.Call (.Name x p) [e, e2, e3] [] pos) ds H (fun y => ∃ z, y = .o z ∧ P z) := fun σ H1 r1 ok Q q => by
  obtain ⟨f, fd, ps, F, hm, hk, hbi⟩ := c.ex
  refine tw_of (pe_call F hr hg hm hk hbi .nil pass0 (twa_pa (es := [e, e2, e3])) hdb he hpl) ?_
  refine ea_c ha (ea_c hb (ea_c hb3 ea_nil he3) he2) he σ H1 r1 ok _ fun vs H2 xs r2 px hvs => ?_
  cases px
  have hl2 := W.keep (W.trans r1 r2) l _ nF hl
  have tr2 := (ok.mono r2).tr
  rw [List.append_nil]
  have kk : ∀ a o, ¬ W.M a → H2 a = some o → ¬ (W.M a ∧ a ≠ l) ∧ H2 a = some o := fun a o m e => ⟨fun z => m z.1, e⟩
  refine ⟨fun a => W.M a ∧ a ≠ l, [.d d1, .o uo, .d d3], _, fun a m => tr2 a m.1, h, ?_, fun v H' y s ⟨z, ey, pz⟩ hv => ?_⟩
  · cases hvs with
    | cons h1 hvs =>
    cases hvs with
    | cons h2 hvs =>
    cases hvs with
    | cons h3 hvs =>
    cases hvs
    cases h2
    exact .cons (Dt.keep kk h1) (.cons ⟨l, rfl, fun z => z.2 rfl, hl2⟩ (.cons (Dt.keep kk h3) .nil))
  · subst ey
    obtain ⟨a', e1, m, e2⟩ := hv
    refine q v H' (.o z) (W.trans r2 (W.ex s)) ⟨z, rfl, pz⟩ ⟨a', e1, fun m' => m ⟨m', fun ea => ?_⟩, e2⟩
    rw [ea, s l _ hl2] at e2
    cases e2
    exact hne _ pz rfl
end
section
variable {P : Program} {w : World} {K : PySem.W.Frag} {mg : Str → Option Value} {base : Heap}
theorem has_trV (tr : Tr) (x : Lt) : (valV (trV tr) (Sum.inr (enc [x]))).isSome = decide (x ∈ keys tr) := by
  have := trV_get tr x
  unfold lkK at this
  rw [this, Option.isSome_map]
  by_cases c : x ∈ keys tr
  · rw [lk_some.mpr c]; simp [c]
  · rw [lk_none c]; simp [c]
def R_reached_from (xs : List Ds) (C : Ds → Prop) : Prop := ∃ (n : Nat) (kvs : List (List Key × V)) (r : Rm) (a : Lt), xs = [.d (.int n), .o (.dT kvs), .d (dL a)] ∧ n ≤ 4 ∧ Rep kvs r ∧ ∀ tr, Tree r a tr → Closed n r tr → C (.o (.dK (trV tr)))
theorem c_reached_from (G : Gs K mg) : Cal P w K mg base "reached_from" 2 (spP R_reached_from) := by
  -- slots: 0=n 1=rooms 2=letter 3=ahead 4=waiting 5=here 6=there
  have S : FnScope ["n", "rooms", "letter", "ahead", "waiting", "here", "there"] ["n", "rooms", "letter"] (defScope (top 24)) := ⟨rfl, rfl, rfl, by decide +kernel, rfl, by decide +kernel, by decide +kernel⟩
  refine cal_P (G.df 16 _ rfl) S (fun _ _ _ _ _ _ us hl => match us, hl with | [_, _, _], _ => rfl) (fun xs C h => by obtain ⟨n, kvs, r, a, e, hn, hrep, hC⟩ := h; subst e; rfl) fun f cdv A outer s H0 E M xs C D hr h hrt hnx tr => ?_
  obtain ⟨n, kvs, r, a, e, hn, hrep, hC⟩ := h
  subst e
  have nd := S.nd
  refine ss_newG (i := 3) (P := fun u => u = .dK [(Sum.inr (enc [a]), .non)]) (fun u e xs z => by rw [e] at z; cases z) (new_disp1 (fun _ _ r => r) (e_var 2)) (fun q u H2 H3 r2 hq sm hu eu => ?_) nd
  subst eu
  have h0q := none_of r2 hq
  have nMq : ¬ M q := fun m => (tr q m).ne h0q
  refine ss_newG (i := 4) (P := fun u => ∃ v, u = .lst [v] ∧ v = .str (enc [a])) (fun u ⟨_, e, _⟩ xs z => by rw [e] at z; cases z) ?_ (fun p2 u H4 H5 r4 hp2 sm2 hu2 eu2 => ?_) nd
  · intro σ H1 r1 ok Q qq
    refine tw_of (pe_lst (twa_pa (es := [.Name "letter" _]))) (ea_c (e_var 2) ea_nil (by rfl) σ H1 r1 ok _ fun vs H2' ys r2' ey hvs => ?_)
    cases ey
    cases hvs with
    | cons hv hvs =>
    cases hvs
    cases hv
    exact ⟨by show 1 ≤ 16777216; decide, fun p hp => qq p H2' _ _ r2' hp (same_new hp) upd_same ⟨_, rfl, rfl⟩⟩
  obtain ⟨_, rfl, rfl⟩ := eu2
  have hqp : q ≠ p2 := fun z => by have := r4 q _ hu; rw [z, hp2] at this; cases this
  have s05 : Same H0 H5 := ((r2.trans sm).trans r4).trans sm2
  have h0p : H0 p2 = none := none_of ((r2.trans sm).trans r4) hp2
  let W2 : Wd := ((pur M).add q).add p2
  have mq : W2.M q := Or.inl (Or.inr rfl)
  refine ss_while (fun m ds' H' => Same H0 H' ∧ ∃ (tr : Tr) (wt : List Lt) (y5 y6 : Ds), ds' = [.d (.int n), .o (.dT kvs), .d (dL a), .r (.ref q), .r (.ref p2), y5, y6] ∧ H' q = some (.dK (trV tr)) ∧ LB W2.M H' p2 (wt.map dL) ∧ Tree r a tr ∧ (∀ x ∈ wt, x ∈ keys tr) ∧
    (∀ x ∈ keys tr, x ∉ wt → ∀ y : Lt, y.val < 2 * n → 0 < r x y → y ∈ keys tr) ∧ 2 * free tr + wt.length = m ∧ m ≤ 20) PassesOwn.never (fun H6 r6 _ => ?_) ?_
  · refine ⟨2 * free [(a, none)] + 1, s05.trans r6, [(a, none)], [a], _, _, rfl, r6 _ _ (sm2 _ _ (r4 _ _ hu)), LB.mono (W := W2) ⟨_, hu2, .cons (.str _) .nil⟩ (fun f => f) r6, .root, fun x hx => by simpa [keys] using hx, fun x hx hx2 => absurd (by simpa [keys] using hx) hx2, rfl, ?_⟩
    have := (Tree.root (r := r) (a := a)).len
    simp at this
    omega
  rintro m ds' H' ⟨s0, tr', wt, y5, y6, rfl, hq', lb, ht, hwt, hcl, hm, hm20⟩ trH
  refine ⟨Is (decide (0 < wt.length)), ET.is (et_gt (e_lenR (G.fr 0 _ rfl) (e_var 4).at lb (fun f => f)) e_int) (by rw [List.length_map]; congr 1; exact propext ⟨fun h => by omega, fun h => by omega⟩), fun hb H6 r6 => ?_, fun hb H6 r6 => ?_⟩
  · have hb := of_decide_eq_true hb.symm
    cases wt with
    | nil => simp at hb
    | cons x wt =>
    have hxk := hwt x (by simp)
    have lb6 := lb.mono (W := W2) (fun f => f) r6
    obtain ⟨vs, hv, dv⟩ := lb6
    have evs : vs = ((x :: wt).map fun x => enc [x]).map V.str := DtAll.strs (by rw [List.map_map]; exact dv)
    refine ss_setPop (i := 5) (j := 0) (y := .non) (P := fun j => j = 0) hv Wd.addM (fun f => f) (e_var 4).at (e_int.imp fun y ey => ⟨0, ey, by rw [evs]; simp, rfl⟩) (by rw [evs, List.length_map, List.length_map]; exact Nat.le_of_lt (szl (by omega))) (fun j z H7 r7 ej ey => ?_) (fun y hy => by rw [evs] at hy; obtain ⟨z, _, e⟩ := List.mem_map.mp hy; exact ⟨z, e.symm⟩) nd
    subst ej
    have ez : z = enc [x] := by rw [evs] at ey; simpa using ey.symm
    subst ez
    have lb7 : LB W2.M (L2.upd H7 p2 (.lst (vs.eraseIdx 0))) p2 (wt.map dL) := LB.put (W := W2) Wd.addM (by
      cases dv with
      | cons _ dv => exact dv.mono (W := W2) r7)
    have s7 : Same H0 (L2.upd H7 p2 (.lst (vs.eraseIdx 0))) := same_upd ((s0.trans r6).trans r7) h0p
    have hq7 : L2.upd H7 p2 (.lst (vs.eraseIdx 0)) q = some (.dK (trV tr')) := by rw [upd_ne hqp]; exact r7 _ _ (r6 _ _ hq')
    refine ss_forM (as := lettersOf n) (g := fun y => .d (dL y)) (dz := fun y ds' => ds'.set 6 (.d (dL y))) (fun idone ds' H2 => Same H0 H2 ∧ ∃ (tr2 : Tr) (wt2 : List Lt) (y6 : Ds), ds' = [.d (.int n), .o (.dT kvs), .d (dL a), .r (.ref q), .r (.ref p2), .d (dL x), y6] ∧ H2 q = some (.dK (trV tr2)) ∧ LB W2.M H2 p2 (wt2.map dL) ∧ Tree r a tr2 ∧ (∀ z ∈ wt2, z ∈ keys tr2) ∧ x ∈ keys tr2 ∧
      (∀ z ∈ keys tr2, z ∉ wt2 → z ≠ x → ∀ y : Lt, y.val < 2 * n → 0 < r z y → y ∈ keys tr2) ∧ (∀ y ∈ idone, 0 < r x y → y ∈ keys tr2) ∧ 2 * free tr2 + wt2.length + 1 ≤ m) (ei_tupM (f := dL) (e_call1 (c_letters_of G) (hr.mono (by decide)) (e_var 0) ⟨n, rfl, hn, rfl⟩)) ?_ ?_ ?_ ?_
    · intro H8 r8
      refine ⟨s7.trans r8, tr', wt, _, rfl, r8 _ _ hq7, lb7.mono (W := W2) (fun f => f) r8, ht, fun z hz => hwt z (by simp [hz]), hxk, fun z hz h1 h2 => hcl z hz (by simp [h1, h2]), fun y hy => (by cases hy), ?_⟩
      rw [List.length_cons] at hm
      omega
    · rintro idone y ds' H8 ⟨_, tr2, wt2, y6, rfl, _⟩ _
      exact eh_name (i := 6) nd
    · rintro idone y itodo ds' Hi H8 eu ⟨s8, tr2, wt2, y6, rfl, hq8, lb8, ht8, hwt8, hx8, hcl8, hdo8, hm8⟩ sm8 kq8
      have lb8 := lb8.mono (W := W2) (fun f => f) sm8
      have hq8 := W2.keep sm8 q _ (fun f => f) hq8
      have hget : (valV kvs [Sum.inr (enc [x]), Sum.inr (enc [y])]).getD (.int 0) = .int (r x y) := hrep.get x y
      have hlen := ht8.len
      refine ss_if (P := Is (!decide (y ∈ keys tr2) && decide (0 < r x y))) (et_and2 (ET.is (et_notinK (hu1 hr) ((e_var 3).at.ob hq8 (fun f => f)) (e_var 6)) (by rw [has_trV])) fun _ => et_gt (e_get2T (x := enc [x]) (y := enc [y]) (hu1 hr) (e_var 1).ob (e_tup (xs := [dL x, dL y]) (ea_c (e_var 5) (ea_c (e_var 6) ea_nil)) (szl (by simp))) e_int hget) e_int) (fun hb9 H9 r9 => ?_) fun hb9 H9 r9 => ?_
      · have hb9 : y ∉ keys tr2 ∧ 0 < r x y := by simpa [Is] using hb9.symm
        have ht9 : Tree r a (tr2 ++ [(y, some x)]) := .grow ht8 hx8 hb9.1 hb9.2
        have hfr := free_next hb9.1 (some x)
        have eput : putK (trV tr2) (Sum.inr (enc [y])) (.str (enc [x])) = trV (tr2 ++ [(y, some x)]) := trV_put hb9.1 (some x)
        have ek : keys (tr2 ++ [(y, some x)]) = keys tr2 ++ [y] := by rw [keys_app]; rfl
        refine ss_dputKI (d := dL x) (hu1 hr) (W2.keep r9 q _ (fun f => f) hq8) mq (fun f => f) (by unfold trV; rw [List.length_map]; exact szl (by omega)) (e_var 5) (e_var 3).at (e_var 6) fun H10 r10 => ?_
        rw [eput]
        have lb10 : LB W2.M (L2.upd H10 q (.dK (trV (tr2 ++ [(y, some x)])))) p2 (wt2.map dL) := LB.upd (W := W2) ((lb8.mono (W := W2) (fun f => f) r9).mono (W := W2) (fun f => f) r10) mq hqp.symm
        refine ss_appendZ lb10 Wd.addM (fun f => f) (by rw [List.length_map]; exact szl (by omega)) (e_var 4).at (e_var 6) fun H11 v r11 lb11 => ss_end (ss_nq fun H12 r12 => ⟨⟨?_, tr2 ++ [(y, some x)], wt2 ++ [y], _, rfl, ?_, ?_, ht9, ?_, ?_, ?_, ?_, ?_⟩, ?_⟩)
        · exact (same_upd ((same_upd (((s8.trans sm8).trans r9).trans r10) h0q).trans r11) h0p).trans r12
        · exact r12 _ _ (by rw [upd_ne hqp]; exact r11 _ _ upd_same)
        · rw [List.map_append]; exact lb11.mono (W := W2) (fun f => f) r12
        · intro z hz
          rw [ek]
          rcases List.mem_append.mp hz with hz | hz
          · exact List.mem_append_left _ (hwt8 z hz)
          · exact List.mem_append_right _ hz
        · rw [ek]; exact List.mem_append_left _ hx8
        · intro z hz h1 h2 w' hw' hr'
          rw [ek] at hz ⊢
          rcases List.mem_append.mp hz with hz | hz
          · exact List.mem_append_left _ (hcl8 z hz (fun c => h1 (List.mem_append_left _ c)) h2 w' hw' hr')
          · exact absurd (List.mem_append_right _ hz) h1
        · intro z hz hr'
          rw [ek]
          rcases List.mem_append.mp hz with hz | hz
          · exact List.mem_append_left _ (hdo8 z hz hr')
          · exact List.mem_append_right _ hz
        · rw [List.length_append]
          show 2 * _ + (_ + 1) + 1 ≤ m
          omega
        · exact kq8.trans ((Kq.r (r9.trans r10)).trans ((Kq.upd mq).trans ((Kq.r r11).trans (Kq.updA.trans (Kq.r r12)))))
      · have hb9 : 0 < r x y → y ∈ keys tr2 := fun c => Classical.byContradiction fun n => by
          have : (!decide (y ∈ keys tr2) && decide (0 < r x y)) = true := by simp [n, c]
          rw [this] at hb9; cases hb9
        refine ss_end (ss_nq fun H12 r12 => ⟨⟨((s8.trans sm8).trans r9).trans r12, tr2, wt2, _, rfl, r12 _ _ (r9 _ _ hq8), (lb8.mono (W := W2) (fun f => f) r9).mono (W := W2) (fun f => f) r12, ht8, hwt8, hx8, hcl8, fun z hz hr' => ?_, hm8⟩, kq8.trans (Kq.r (r9.trans r12))⟩)
        rcases List.mem_append.mp hz with hz | hz
        · exact hdo8 z hz hr'
        · simp at hz; subst hz; exact hb9 hr'
    · rintro ds' H8 ⟨s8, tr2, wt2, y6, rfl, hq8, lb8, ht8, hwt8, hx8, hcl8, hdo8, hm8⟩ _
      refine ss_nw fun H9 r9 _ => ⟨2 * free tr2 + wt2.length, by omega, s8.trans r9, tr2, wt2, _, _, rfl, r9 _ _ hq8, lb8.mono (W := W2) (fun f => f) r9, ht8, hwt8, fun z hz h1 y hy hr' => ?_, rfl, by omega⟩
      by_cases c : z = x
      · subst c; exact hdo8 y ((mem_letters n y).mpr hy) hr'
      · exact hcl8 z hz h1 c y hy hr'
  · have hb : wt = [] := by
      have := of_decide_eq_false hb.symm
      cases wt with
      | nil => rfl
      | cons => simp at this
    subst hb
    refine ss_ret (e_var 3) fun v H7 y r' e hv => ?_
    cases e
    cases hv
    exact hrt _ H7 _ ((s0.trans r6).trans r') (hC tr' ht fun x hx => hcl x hx (by simp)) ⟨q, rfl, nMq, r' _ _ (r6 _ _ hq')⟩
def R_way_to (xs : List Ds) (C : Ds → Prop) : Prop := ∃ (tr : Tr) (z : Lt) (ps : List TK), xs = [.o (.dK (trV tr)), .d (dL z)] ∧ Way tr z ps ∧ ps.length ≤ 1000 ∧ C (.d (.list (ps.map dT)))
theorem c_way_to (G : Gs K mg) : Cal P w K mg base "way_to" 1 (spP R_way_to) := by
  -- slots: 0=ahead 1=letter 2=steps
  have S : FnScope ["ahead", "letter", "steps"] ["ahead", "letter"] (defScope (top 25)) := ⟨rfl, rfl, rfl, by decide +kernel, rfl, by decide +kernel, by decide +kernel⟩
  refine cal_P (G.df 17 _ rfl) S (fun _ _ _ _ _ _ us hl => match us, hl with | [_, _], _ => rfl) (fun xs C h => by obtain ⟨tr', z, ps, e, hw, hl, hC⟩ := h; subst e; rfl) fun f cdv A outer s H0 E M xs C D hr h hrt hnx tr => ?_
  obtain ⟨tr', z, ps, e, hw, hl, hC⟩ := h
  subst e
  have nd := S.nd
  refine ss_new (i := 2) (u := .lst []) (by intro _ h; cases h) new_lst (fun p H1 r1 hp => ?_) nd
  have h0 := none_of r1 hp
  have nM : ¬ M p := fun m => (tr p m).ne h0
  refine ss_while (fun m ds' H' => Same H0 H' ∧ ∃ (x : Lt) (qs rs : List TK), ds' = [.o (.dK (trV tr')), .d (dL x), .r (.ref p)] ∧ LB ((pur M).add p).M H' p (qs.map dT) ∧ Way tr' x rs ∧ ps = qs ++ rs ∧ m = rs.length) PassesOwn.never (fun H2 r2 _ => ⟨_, (r1.trans (same_new hp)).trans r2, z, [], ps, rfl, LB.new.mono (W := (pur M).add p) (fun f => f) r2, hw, rfl, rfl⟩) ?_
  rintro m ds' H' ⟨s0, x, qs, rs, rfl, lb, hwx, eps, rfl⟩ _
  have hql : qs.length ≤ 1000 := by rw [eps, List.length_append] at hl; omega
  have hv : ∀ o, lk tr' x = some o → valV (trV tr') (Sum.inr (enc [x])) = some (oV o) := fun o e => by
    have := trV_get tr' x
    unfold lkK at this
    rw [this, e]; rfl
  cases hwx with
  | root e =>
    refine ⟨Is false, ET.is (et_notNone (e_dgetK (hu1 hr) (e_var 0).ob (e_var 1) (hv _ e) (oD_plain none)) (oD_plain none)) (by decide), fun hb => (by cases hb), fun _ H2 r2 => ?_⟩
    rw [List.append_nil] at eps
    subst eps
    refine ss_ret (e_var 2) fun v H3 y r' e' hv' => ?_
    cases e'
    cases hv'
    exact hrt _ H3 _ ((s0.trans r2).trans r') hC (((lb.mono (W := (pur M).add p) (fun f => f) r2).mono (W := (pur M).add p) (fun f => f) r').dt nM (fun a m => .inl m))
  | @up _ y rs e hwy =>
    refine ⟨Is true, ET.is (et_notNone (e_dgetK (hu1 hr) (e_var 0).ob (e_var 1) (hv _ e) (oD_plain (some y))) (oD_plain (some y))) (by simp [oV]), fun _ H2 r2 => ?_, fun hb => (by cases hb)⟩
    refine ss_appendZ (d := dT (y, x)) (lb.mono (W := (pur M).add p) (fun f => f) r2) Wd.addM (fun f => f) (by rw [List.length_map]; exact szl (by omega)) (e_var 2).at (e_tup (xs := [dL y, dL x]) (ea_c (e_dgetK (d := dL y) (hu1 hr) (e_var 0).ob (e_var 1) (hv _ e) rfl) (ea_c (e_var 1) ea_nil)) (szl (by simp))) fun H3 v r3 lb3 => ?_
    refine ss_setI (i := 1) (y := .d (dL y)) (e_dgetK (d := dL y) (hu1 hr) (e_var 0).ob (e_var 1) (hv _ e) rfl) (fun H4 r4 => ss_nw fun H5 r5 _ => ⟨rs.length, by simp, ?_, y, qs ++ [(y, x)], rs, rfl, ?_, hwy, by rw [eps]; simp, rfl⟩) nd
    · exact ((same_upd ((s0.trans r2).trans r3) h0).trans r4).trans r5
    · rw [List.map_append]; exact (lb3.mono (W := (pur M).add p) (fun f => f) r4).mono (W := (pur M).add p) (fun f => f) r5
end
end NQ

namespace NQ
open PySem PySem.Spec L2 NP
open NL (inv red invw mid Red S8 Side wh rtold rmap sub Per single cp lp sm cutp cut rcut CR rlen rcnt)
section
variable {P : Program} {w : World} {K : PySem.W.Frag} {mg : Str → Option Value} {base : Heap}
theorem dT_inj (k k' : TK) (e : Ds.d (dT k) = Ds.d (dT k')) : k = k' := by
  have h1 : [dL k.1, dL k.2] = [dL k'.1, dL k'.2] := PyData.tuple.inj (dd_inj e)
  simp only [List.cons.injEq, and_true] at h1
  exact Prod.ext (dL_inj (congrArg Ds.d h1.1)) (dL_inj (congrArg Ds.d h1.2))
def isS (kvs : List (List Key × V)) (x y : Lt) : Bool := (valV kvs (kk (x, y))).isSome
def R_left_over (xs : List Ds) (C : Ds → Prop) : Prop := ∃ (n : Nat) (R : NL.Row) (T : Tab) (a : Lt), xs = [.d (.int n), .o (.dT (tkV T)), .d (dL a)] ∧ n ≤ 4 ∧ TabR n R T ∧ ∀ kvs r val tr, Rep kvs r → FlowI n a R r val → Tree r a tr → Closed n r tr → inv a ∉ keys tr → C (.o (.dT kvs))
theorem c_left_over (G : Gs K mg) : Cal P w K mg base "left_over" 3 (spP R_left_over) := by
  -- slots: 0=n 1=ties 2=letter 3=rooms 4=ahead 5=steps 6=much 7=step 8=here 9=there
  have S : FnScope ["n", "ties", "letter", "rooms", "ahead", "steps", "much", "step", "here", "there"] ["n", "ties", "letter"] (defScope (top 26)) := ⟨rfl, rfl, rfl, by decide +kernel, rfl, by decide +kernel, by decide +kernel⟩
  refine cal_P (G.df 18 _ rfl) S (fun _ _ _ _ _ _ us hl => match us, hl with | [_, _, _], _ => rfl) (fun xs C h => by obtain ⟨n, R, T, a, e, hn, hT, hC⟩ := h; subst e; rfl) fun f cdv A outer s H0 E M xs C D hr h hrt hnx tr => ?_
  obtain ⟨n, R, T, a, e, hn, hT, hC⟩ := h
  subst e
  have nd := S.nd
  refine ss_newG (i := 3) (P := fun u => ∃ kvs r, RoomR n R kvs r ∧ u = .dT kvs) (fun u ⟨_, _, _, e⟩ xs z => by rw [e] at z; cases z) (call_new (c_rooms_of G) (hr.mono (by decide)) (e_var 1) ⟨n, R, T, rfl, hT, fun kvs r h => ⟨kvs, r, h, rfl⟩⟩) (fun p u H1 H2 r1 hp sm hu eu => ?_) nd
  obtain ⟨kvs0, r0, hR0, rfl⟩ := eu
  have h0 := none_of r1 hp
  have nM : ¬ M p := fun m => (tr p m).ne h0
  have s02 : Same H0 H2 := r1.trans sm
  have reach : ∀ {H' : Hp} {kvs : List (List Key × V)} {r : Rm} {y4 y5 y6 y7 y8 y9 : Ds} {q1 q2 q3 q4 q5 : Pos}, H' p = some (.dT kvs) → Rep kvs r → EE ((pur M).add p) (XX P w K mg base ["n", "ties", "letter", "rooms", "ahead", "steps", "much", "step", "here", "there"] "left_over" (top 26) f cdv A outer s H0 E) (.Call (.Name "reached_from" q1) [.Name "n" q2, .Name "rooms" q3, .Name "letter" q4] [] q5) [.d (.int n), .o (.dT (tkV T)), .d (dL a), .r (.ref p), y4, y5, y6, y7, y8, y9] H' (fun y => ∃ z, y = .o z ∧ ∃ tr, Tree r a tr ∧ Closed n r tr ∧ z = .dK (trV tr)) := fun {H' kvs r y4 y5 y6 y7 y8 y9 q1 q2 q3 q4 q5} hH hrep =>
    e_call3R (P := fun z => ∃ tr, Tree r a tr ∧ Closed n r tr ∧ z = .dK (trV tr)) (c_reached_from G) (hr.mono (by decide)) (e_var 0) (e_var 3) (e_var 2) hH (fun f => f) ⟨n, kvs, r, a, rfl, hn, hrep, fun tr h1 h2 => ⟨_, rfl, tr, h1, h2, rfl⟩⟩ (fun z ⟨_, _, _, e⟩ => by rw [e]; intro z; cases z)
  have flow0 : FlowI n a R r0 0 := ⟨hR0.nn, hR0.rk, fun S _ => by rw [hR0.out S]; omega⟩
  refine ss_set (i := 4) (reach hu hR0.rep) (fun y H3 r3 ey => ?_) nd
  obtain ⟨_, rfl, tr0, ht0, hc0, rfl⟩ := ey
  refine ss_while (fun m ds' H' => Same H0 H' ∧ ∃ (kvs : List (List Key × V)) (r : Rm) (val : Int) (tr' : Tr) (y5 y6 y7 y8 y9 : Ds), ds' = [.d (.int n), .o (.dT (tkV T)), .d (dL a), .r (.ref p), .o (.dK (trV tr')), y5, y6, y7, y8, y9] ∧ H' p = some (.dT kvs) ∧ Rep kvs r ∧ kvs.length ≤ 200000 ∧ FlowI n a R r val ∧ Tree r a tr' ∧ Closed n r tr' ∧ 0 ≤ val ∧ m = ((rcut (fun x => decide (x = a)) R : Int) - val).toNat) PassesOwn.never (fun H4 r4 _ => ?_) ?_
  · exact ⟨_, (s02.trans r3).trans r4, kvs0, r0, 0, tr0, _, _, _, _, _, rfl, r4 _ _ (r3 _ _ hu), hR0.rep, hR0.len, flow0, ht0, hc0, Int.le_refl _, rfl⟩
  rintro m ds' H' ⟨s0, kvs, r, val, tr', y5, y6, y7, y8, y9, rfl, hH, hrep, hlen, hfl, ht, hcl, hv0, rfl⟩ trH
  refine ⟨Is (decide (inv a ∈ keys tr')), ET.is (et_inK (hu1 hr) (e_var 4).ob (e_call1 (c_contrary G) (hr.mono (by decide)) (e_var 2) ⟨a, rfl, rfl⟩)) (has_trV tr' (inv a)), fun hb H5 r5 => ?_, fun hb H5 r5 => ?_⟩
  · have hb := of_decide_eq_true hb.symm
    obtain ⟨ps, hw, hs, hpos, hin, hpl⟩ := ht.way (inv a) hb
    have htl := ht.len
    refine ss_setI (i := 5) (y := .d (.list (ps.map dT))) (e_call2 (c_way_to G) (hr.mono (by decide)) (e_var 4) (e_call1 (C := Is (.d (dL (inv a)))) (c_contrary G) (hr.mono (by decide)) (e_var 2) ⟨a, rfl, rfl⟩) ⟨tr', inv a, ps, rfl, hw, by omega, rfl⟩) (fun H6 r6 => ?_) nd
    have hH6 : H6 p = some (.dT kvs) := r6 _ _ (r5 _ _ hH)
    have hne : 0 < (ps.map fun k => r k.1 k.2).length := by
      have key : ∀ z qs, Smp a z qs → z ≠ a → 0 < (qs.map fun k => r k.1 k.2).length := by
        intro z qs h hz
        cases h with
        | nil => exact absurd rfl hz
        | cons => simp
      exact key _ _ hs (NL.inv_ne a)
    refine ss_set (i := 6) (e_minI (ns := ps.map fun k => r k.1 k.2) rfl (G.fr 3 _ rfl) (EE.is (e_lcM (j := 7) ps (fun k => .d (dT k)) (fun k => .int (r k.1 k.2)) dT_inj nd (ei_lstM (e_var 5)) (szl (by omega)) fun l k hk s0 H2 cl C fp => ?_) (by rw [List.map_map]; rfl)) hne) (fun y H7 r7 ey => ?_) nd
    · have c := hpos k hk
      exact e_dgetT (x := enc [k.1]) (y := enc [k.2]) (d := .int (r k.1 k.2)) (hu1 hr) ((e_var 3).at.ob hH6 (fun f => f)) (e_var 7) (hrep.nz (by omega)) rfl
    · obtain ⟨m, rfl, hmem, hle⟩ := ey
      obtain ⟨km, hkm, ekm⟩ := List.mem_map.mp hmem
      have hm0 : 0 < m := by rw [← ekm]; exact hpos km hkm
      have hle : ∀ e ∈ ps, m ≤ r e.1 e.2 := fun e he => hle _ (List.mem_map.mpr ⟨e, he, rfl⟩)
      have hisS : ∀ e ∈ ps, isS kvs e.1 e.2 = true ∧ isS kvs e.2 e.1 = true := fun e he => by
        have c := hpos e he
        have h1 : isS kvs e.1 e.2 = true := by unfold isS; rw [hrep.nz (by omega)]; rfl
        exact ⟨h1, by have := hrep.sym e.1 e.2; unfold isS at h1 ⊢; rw [← this]; exact h1⟩
      have hfl2 := hfl.sent hs hpos (Int.le_of_lt hm0) hle
      refine ss_forM (as := ps) (g := fun k => .d (dT k)) (dz := fun k ds' => (ds'.set 8 (.d (dL k.1))).set 9 (.d (dL k.2))) (fun done ds' H8 => Same H0 H8 ∧ ∃ (kvs' : List (List Key × V)) (y7 y8 y9 : Ds), ds' = [.d (.int n), .o (.dT (tkV T)), .d (dL a), .r (.ref p), .o (.dK (trV tr')), .d (.list (ps.map dT)), .d (.int m), y7, y8, y9] ∧ H8 p = some (.dT kvs') ∧ Rep kvs' (sents m r done) ∧ kvs'.length = kvs.length ∧ ∀ x y, isS kvs' x y = isS kvs x y) (ei_lstM (f := dT) (e_var 5)) ?_ ?_ ?_ ?_
      · intro H8 r8
        exact ⟨(((s0.trans r5).trans r6).trans r7).trans r8, kvs, _, _, _, rfl, r8 _ _ (r7 _ _ hH6), hrep, rfl, fun _ _ => rfl⟩
      · rintro done k ds' H8 ⟨_, kvs', y7, y8, y9, rfl, _⟩ _
        exact eh_two (i := 8) (j := 9) rfl nd
      · rintro done k todo ds' Hi H8 eu ⟨s8, kvs', y7, y8, y9, rfl, h8, hrep8, hl8, hs8⟩ sm8 kq8
        have hk : k ∈ ps := by rw [eu]; simp
        have es : sents m r (done ++ [k]) = sent m (sents m r done) k := by unfold sents; rw [List.foldl_append]; rfl
        rw [es]
        generalize sents m r done = r' at hrep8
        have i1 : (valV kvs' (kk (k.1, k.2))).isSome = true := by have := hs8 k.1 k.2; rw [(hisS k hk).1] at this; exact this
        have i2 : (valV kvs' (kk (k.2, k.1))).isSome = true := by have := hs8 k.2 k.1; rw [(hisS k hk).2] at this; exact this
        have v1 := hrep8.isS i1
        have hrep9 : Rep (putK kvs' (kk k) (.int (r' k.1 k.2 + -m))) (addr r' k (-m)) := hrep8.put k (-m) i1
        have i3 : (valV (putK kvs' (kk k) (.int (r' k.1 k.2 + -m))) (kk (k.2, k.1))).isSome = true := by rw [putK_isSome _ i1]; exact i2
        have v2 := hrep9.isS i3
        have hrep10 := hrep9.put (k.2, k.1) m i3
        have l1 : (putK kvs' (kk k) (.int (r' k.1 k.2 + -m))).length = kvs'.length := putK_len_old _ i1
        have l2 := putK_len_old (.int (addr r' k (-m) k.2 k.1 + m)) i3
        have h8 := ((pur M).add p).keep sm8 p _ (fun f => f) h8
        refine ss_dputTI (x := enc [k.1]) (y := enc [k.2]) (d := .int (r' k.1 k.2 + -m)) (hu1 hr) h8 Wd.addM (fun f => f) (szl (by omega)) (EE.is (e_sub (e_dgetT (x := enc [k.1]) (y := enc [k.2]) (d := .int (r' k.1 k.2)) (hu1 hr) ((e_var 3).at.ob h8 (fun f => f)) (e_tup (xs := [dL k.1, dL k.2]) (ea_c (e_var 8) (ea_c (e_var 9) ea_nil)) (szl (by simp))) v1 rfl) (e_var 6)) (by rw [Int.sub_eq_add_neg])) (e_var 3).at (e_tup (xs := [dL k.1, dL k.2]) (ea_c (e_var 8) (ea_c (e_var 9) ea_nil)) (szl (by simp))) fun H9 r9 => ?_
        refine ss_dputTI (x := enc [k.2]) (y := enc [k.1]) (d := .int (addr r' k (-m) k.2 k.1 + m)) (hu1 hr) upd_same Wd.addM (fun f => f) (szl (by show (putK kvs' (kk k) _).length < _; omega)) (e_add (e_dgetT (x := enc [k.2]) (y := enc [k.1]) (d := .int (addr r' k (-m) k.2 k.1)) (hu1 hr) ((e_var 3).at.ob upd_same (fun f => f)) (e_tup (xs := [dL k.2, dL k.1]) (ea_c (e_var 9) (ea_c (e_var 8) ea_nil)) (szl (by simp))) v2 rfl) (e_var 6)) (e_var 3).at (e_tup (xs := [dL k.2, dL k.1]) (ea_c (e_var 9) (ea_c (e_var 8) ea_nil)) (szl (by simp))) fun H10 r10 => ?_
        refine ss_nq fun H11 r11 => ⟨⟨?_, _, _, _, _, rfl, r11 _ _ upd_same, hrep10, ?_, fun x y => ?_⟩, ?_⟩
        · exact (same_upd ((same_upd ((s8.trans sm8).trans r9) h0).trans r10) h0).trans r11
        · rw [← hl8, ← l1]; exact l2
        · rw [← hs8 x y]
          unfold isS
          exact (putK_isSome _ i3 _).trans (putK_isSome _ i1 _)
        · exact kq8.trans ((Kq.r r9).trans (Kq.updA.trans ((Kq.r r10).trans (Kq.updA.trans (Kq.r r11)))))
      · rintro ds' H8 ⟨s8, kvs', y7, y8, y9, rfl, h8, hrep8, hl8, hs8⟩ _
        refine ss_set (i := 4) (reach h8 hrep8) (fun y H9 r9 ey => ?_) nd
        obtain ⟨_, rfl, tr9, ht9, hc9, rfl⟩ := ey
        have hside : Side a (fun x => decide (x = a)) := ⟨by simp, by simp⟩
        have hle2 := hfl2.le hside
        exact ss_nw fun H10 r10 _ => ⟨_, by omega, (s8.trans r9).trans r10, kvs', _, val + m, tr9, _, _, _, _, _, rfl, r10 _ _ (r9 _ _ h8), hrep8, by omega, hfl2, ht9, hc9, by omega, rfl⟩
  · have hb := of_decide_eq_false hb.symm
    refine ss_ret (e_var 3) fun v H6 y r' e hv => ?_
    cases e
    cases hv
    exact hrt _ H6 _ ((s0.trans r5).trans r') (hC kvs r val tr' hrep hfl ht hcl hb) ⟨p, rfl, nM, r' _ _ (r5 _ _ hH)⟩
def R_least_side (xs : List Ds) (C : Ds → Prop) : Prop := ∃ (n : Nat) (R : NL.Row) (T : Tab) (a : Lt), xs = [.d (.int n), .o (.dT (tkV T)), .d (dL a)] ∧ n ≤ 4 ∧ TabR n R T ∧ a.val < 2 * n ∧ ∀ S, Least n a R S → C (.d (dS n S))
theorem c_least_side (G : Gs K mg) : Cal P w K mg base "least_side" 4 (spP R_least_side) := by
  -- slots: 0=n 1=ties 2=letter 3=reached 4=other
  have S : FnScope ["n", "ties", "letter", "reached", "other"] ["n", "ties", "letter"] (defScope (top 29)) := ⟨rfl, rfl, rfl, by decide +kernel, rfl, by decide +kernel, by decide +kernel⟩
  refine cal_P (G.df 20 _ rfl) S (fun _ _ _ _ _ _ us hl => match us, hl with | [_, _, _], _ => rfl) (fun xs C h => by obtain ⟨n, R, T, a, e, hn, hT, ha, hC⟩ := h; subst e; rfl) fun f cdv A outer s H0 E M xs C D hr h hrt hnx tr => ?_
  obtain ⟨n, R, T, a, e, hn, hT, ha, hC⟩ := h
  subst e
  have nd := S.nd
  refine ss_set (i := 3) (A := fun y => ∃ tr, Least n a R (fun x => decide (x ∈ keys tr)) ∧ y = .o (.dK (trV tr))) (e_callP (P := fun xs => ∃ kvs r val tr, xs = [.d (.int n), .o (.dT kvs), .d (dL a)] ∧ Rep kvs r ∧ FlowI n a R r val ∧ Tree r a tr ∧ Closed n r tr ∧ inv a ∉ keys tr) (c_reached_from G) (hr.mono (by decide)) (ea_cons (P := fun xs => ∃ kvs r val tr, xs = [.o (.dT kvs), .d (dL a)] ∧ Rep kvs r ∧ FlowI n a R r val ∧ Tree r a tr ∧ Closed n r tr ∧ inv a ∉ keys tr) (e_var 0) (ea_cons (P := Is [.d (dL a)]) (A := fun y => ∃ kvs r val tr, y = .o (.dT kvs) ∧ Rep kvs r ∧ FlowI n a R r val ∧ Tree r a tr ∧ Closed n r tr ∧ inv a ∉ keys tr) (e_call3 (c_left_over G) (hr.mono (by decide)) (e_var 0) (e_var 1) (e_var 2) ⟨n, R, T, a, rfl, hn, hT, fun kvs r val tr h1 h2 h3 h4 h5 => ⟨kvs, r, val, tr, rfl, h1, h2, h3, h4, h5⟩⟩) (ea_c (e_var 2) ea_nil) (fun x xs ⟨kvs, r, val, tr, ex, h⟩ ey => ⟨kvs, r, val, tr, by rw [ex, ey], h⟩)) (fun x xs ex ⟨kvs, r, val, tr, ey, h⟩ => ⟨kvs, r, val, tr, by rw [ey]; cases ex; rfl, h⟩)) (fun xs ⟨kvs, r, val, tr, ex, h1, h2, h3, h4, h5⟩ => ⟨n, kvs, r, a, ex, hn, h1, fun tr2 t1 t2 => ⟨tr2, least_of ha h2 t1 t2 (fun c => h5 (t1.each (fun x => x ∈ keys tr) h3.root_mem (fun x y hy hr => h4 y hy x (h2.rk y x (by omega)).2 hr) _ c)), rfl⟩⟩)) (fun y H1 r1 ⟨tr', hL, ey⟩ => ?_) nd
  subst ey
  refine ss_ret (A := Is (.d (dS n (fun x => decide (x ∈ keys tr'))))) (e_tupleLI (G.fr 1 _ rfl) (EE.is (e_lcMF (j := 4) (lettersOf n) (fun x => .d (dL x)) dL (fun x => decide (x ∈ keys tr')) (fun _ _ => dL_inj) nd (ei_tupM (e_call1 (c_letters_of G) (hr.mono (by decide)) (e_var 0) ⟨n, rfl, hn, rfl⟩)) (szl (by rw [lettersOf_len n hn]; omega)) (fun l x hx s0 H2 cl C fp => ?_) fun l x hx _ s0 H2 cl C fp => e_var 4) rfl)) fun v H2 y r e hv => ?_
  · exact ET.is (et_inK (hu1 hr) (e_var 3).ob (e_var 4)) (has_trV tr' x)
  · cases e
    exact hrt v H2 _ (r1.trans r) (hC _ hL) hv
def R_length_behind (xs : List Ds) (C : Ds → Prop) : Prop := ∃ (n : Nat) (R : NL.Row) (a : Lt) (S : S8), xs = [.d (.int n), .d (dR R), .d (dCh n a S)] ∧ RowOk n R ∧ (∀ w ∈ R, CR w) ∧ InS n S ∧ C (.d (.int ((rlen R : Int) - rcnt a R + rcut S R)))
theorem c_length_behind (G : Gs K mg) : Cal P w K mg base "length_behind" 3 (spP R_length_behind) := by
  -- slots: 0=n 1=rings 2=change 3=letter 4=side
  have S : FnScope ["n", "rings", "change", "letter", "side"] ["n", "rings", "change"] (defScope (top 35)) := ⟨rfl, rfl, rfl, by decide +kernel, rfl, by decide +kernel, by decide +kernel⟩
  refine cal_P (G.df 25 _ rfl) S (fun _ _ _ _ _ _ us hl => match us, hl with | [_, _, _], _ => rfl) (fun xs C h => by obtain ⟨n, R, a, S', e, hR, hcr, hS, hC⟩ := h; subst e; rfl) fun f cdv A outer s H0 E M xs C D hr h hrt hnx tr => ?_
  obtain ⟨n, R, a, S', e, hR, hcr, hS, hC⟩ := h
  subst e
  have nd := S.nd
  refine ss_asgI (e_var 2) (eh_two (i := 3) (j := 4) rfl nd) fun H1 r1 => ?_
  refine ss_ret (A := Is (.d (.int ((rlen R : Int) - rcnt a R + rcut S' R)))) (e_add (e_sub (e_call1 (C := Is (.d (.int (rlen R)))) (c_length_of G) (hr.mono (by decide)) (e_var 1) ⟨R, rfl, hR.1, fun w hw => (hR.2 w hw).2, rfl⟩) (e_call2 (C := Is (.d (.int (rcnt a R)))) (c_count_of G) (hr.mono (by decide)) (e_var 1) (e_var 3) ⟨R, a, rfl, hR.1, rfl⟩)) (e_callP (C := Is (.d (.int (rcut S' R)))) (P := fun xs => ∃ T, TabR n R T ∧ xs = [.o (.dT (tkV T)), .d (dS n S')]) (c_ties_leaving G) (hr.mono (by decide)) (ea_cons (P := Is [.d (dS n S')]) (A := fun y => ∃ T, TabR n R T ∧ y = .o (.dT (tkV T))) (e_call1 (c_ties_of G) (hr.mono (by decide)) (e_var 1) ⟨n, R, rfl, hR, hcr, fun T hT => ⟨T, hT, rfl⟩⟩) (ea_c (e_var 4) ea_nil) (fun x xs ⟨T, hT, ex⟩ ey => ⟨T, hT, by rw [ex, ey]⟩)) (fun xs ⟨T, hT, ex⟩ => ⟨n, T, S', ex, hT.ok, hT.len, hS, by rw [hT.eq S']; rfl⟩))) fun v H2 y r e hv => ?_
  cases e
  exact hrt v H2 _ (r1.trans r) hC hv
end
end NQ

namespace NQ
open PySem PySem.Spec L2 NP
open NL (inv red invw mid Red S8 Side wh rtold rmap sub Per single cp lp sm cutp cut rcut CR rlen rcnt)
/-! ### which change makes shorter -/
def NoFall (n : Nat) (R : NL.Row) (a : Lt) : Prop := ∃ S, Least n a R S ∧ rcnt a R ≤ rcut S R
def MSn (n : Nat) (R : NL.Row) : Prop := ∀ a ∈ los n, NoFall n R a
def MSs (n : Nat) (R : NL.Row) (a : Lt) (S : S8) : Prop := ∃ done todo, los n = done ++ a :: todo ∧ (∀ b ∈ done, NoFall n R b) ∧ Least n a R S ∧ rcut S R < rcnt a R
theorem NoFall.no {n : Nat} {R : NL.Row} {a : Lt} (h : NoFall n R a) {S : S8} (hL : Least n a R S) (hf : rcut S R < rcnt a R) : False := by
  obtain ⟨S', h1, h2⟩ := h
  have := h1.uniq hL
  subst this
  omega
theorem MSs.not {n : Nat} {R : NL.Row} {a : Lt} {S : S8} (h : MSs n R a S) (k : MSn n R) : False := by
  obtain ⟨done, todo, e, _, hL, hf⟩ := h
  exact (k a (by rw [e]; simp)).no hL hf
theorem MSs.uniq {n : Nat} {R : NL.Row} {a b : Lt} {S T : S8} (h : MSs n R a S) (k : MSs n R b T) : a = b ∧ S = T := by
  obtain ⟨d1, t1, e1, n1, l1, f1⟩ := h
  obtain ⟨d2, t2, e2, n2, l2, f2⟩ := k
  have e : a = b := by
    rw [e1] at e2
    rcases List.append_eq_append_iff.mp e2 with ⟨c, h1, h2⟩ | ⟨c, h1, h2⟩
    · cases c with
      | nil => simp at h2; exact h2.1
      | cons z c =>
        simp only [List.cons_append, List.cons.injEq] at h2
        have : a ∈ d2 := by rw [h1, ← h2.1]; simp
        exact ((n2 a this).no l1 f1).elim
    · cases c with
      | nil => simp at h2; exact h2.1.symm
      | cons z c =>
        simp only [List.cons_append, List.cons.injEq] at h2
        have : b ∈ d1 := by rw [h1, ← h2.1]; simp
        exact ((n1 b this).no l2 f2).elim
  subst e
  exact ⟨rfl, l1.uniq l2⟩
theorem MSs.ok {n : Nat} (hn : n ≤ 4) {R : NL.Row} {a : Lt} {S : S8} (h : MSs n R a S) : (Sx.ch a S).ok n := by
  obtain ⟨d1, t1, e1, n1, l1, f1⟩ := h
  have ha : a ∈ los n := by rw [e1]; simp
  unfold los at ha
  obtain ⟨i, hi, rfl⟩ := List.mem_map.mp ha
  have hi := List.mem_range.mp hi
  refine ⟨?_, l1.side, l1.ins⟩
  show 2 * i % 8 < 2 * n
  omega
/-- the way down -/
inductive Pre (n : Nat) (R : NL.Row) : List (Lt × S8) → NL.Row → Prop
  | nil : Pre n R [] R
  | snoc {cs : List (Lt × S8)} {Q : NL.Row} {a : Lt} {S : S8} : Pre n R cs Q → MSs n Q a S → Pre n R (cs ++ [(a, S)]) (rmap (wh a S) Q)
abbrev dC (n : Nat) (c : Lt × S8) : PyData := dCh n c.1 c.2
theorem row_ok {n : Nat} {R : NL.Row} (h1 : R.length ≤ 1000) (h2 : RkR n R) (h3 : rlen R ≤ 100) : RowOk n R := by
  refine ⟨h1, fun w hw => ⟨h2 w hw, ?_⟩⟩
  have : ∀ R : NL.Row, w ∈ R → w.length ≤ rlen R := by
    intro R
    induction R with
    | nil => intro h; cases h
    | cons u R ih =>
      intro h
      unfold rlen
      rw [NL.rsum_cons]
      rcases List.mem_cons.mp h with e | h
      · subst e; omega
      · have := ih h; unfold rlen at this; omega
  have := this R hw
  omega
theorem fall_len {n : Nat} {R : NL.Row} (hR : NL.rowR R) {a : Lt} {S : S8} (h : MSs n R a S) : rlen (rmap (wh a S) R) < rlen R := by
  obtain ⟨d1, t1, e1, n1, l1, f1⟩ := h
  have := NL.rmap_len_wh l1.side hR
  omega
section
variable {W : Wd} {X : Cx} {e a b o k tg iter : Expr} {es : List Expr} {ds : List Ds} {H H' : Hp} {pos p apos pos' p2 p3 p4 : Pos} {A B C : Ds → Prop} {D : Ends} {rest body els : List Stmt}
/-- return (xs, e), xs a list that may be changed -/
theorem ss_ret2 {l : Addr} {d : PyData} {x1 : Nat} (ha : EE W X a ds H (Is (.r (.ref l)))) (hb : EE W X b ds H (Is (.d d))) (k : ∀ q H1 v, W.R H H1 → H1 q = none → Dt W.M H1 v d → D.rt (.ref q) (L2.upd H1 q (.tup [.ref l, v])))
    (hs : starEach [a, b] X.env = (false, eval a X.env) :: starEach [b] X.env := by rfl) (hs2 : starEach [b] X.env = (false, eval b X.env) :: starEach [] X.env := by rfl) : SS W X (.Return (some (.Tuple [a, b] x1 p)) pos :: rest) D ds H := fun σ H1 r ok =>
  tws_of (pss_cons (u := tNever) (ps_ret (pe_tup (twa_pa (es := [a, b])))) pss_never) (ea_c ha (ea_c hb ea_nil hs2) hs σ H1 r ok _ fun vs H2 ys r2 ey hvs => by
    cases ey
    cases hvs with
    | cons h1 hvs =>
    cases hvs with
    | cons h2 hvs =>
    cases hvs
    cases h1
    exact ⟨by show 2 ≤ 16777216; decide, fun q hq => k q H2 _ (W.trans r r2) hq h2⟩)
/-- return (e, xs) -/
theorem ss_ret2' {l : Addr} {d : PyData} {x1 : Nat} (ha : EE W X a ds H (Is (.d d))) (hb : EE W X b ds H (Is (.r (.ref l)))) (k : ∀ q H1 v, W.R H H1 → H1 q = none → Dt W.M H1 v d → D.rt (.ref q) (L2.upd H1 q (.tup [v, .ref l])))
    (hs : starEach [a, b] X.env = (false, eval a X.env) :: starEach [b] X.env := by rfl) (hs2 : starEach [b] X.env = (false, eval b X.env) :: starEach [] X.env := by rfl) : SS W X (.Return (some (.Tuple [a, b] x1 p)) pos :: rest) D ds H := fun σ H1 r ok =>
  tws_of (pss_cons (u := tNever) (ps_ret (pe_tup (twa_pa (es := [a, b])))) pss_never) (ea_c ha (ea_c hb ea_nil hs2) hs σ H1 r ok _ fun vs H2 ys r2 ey hvs => by
    cases ey
    cases hvs with
    | cons h1 hvs =>
    cases hvs with
    | cons h2 hvs =>
    cases hvs
    cases h2
    exact ⟨by show 2 ≤ 16777216; decide, fun q hq => k q H2 _ (W.trans r r2) hq h1⟩)
end
section
variable {P : Program} {w : World} {K : PySem.W.Frag} {mg : Str → Option Value} {base : Heap}
theorem los_lt {n : Nat} {a : Lt} (h : a ∈ los n) : a.val < 2 * n := by
  unfold los at h
  obtain ⟨i, hi, rfl⟩ := List.mem_map.mp h
  have hi := List.mem_range.mp hi
  show 2 * i % 8 < 2 * n
  omega
def R_made_shorter (xs : List Ds) (C : Ds → Prop) : Prop := ∃ (n : Nat) (R : NL.Row), xs = [.d (.int n), .d (dR R)] ∧ n ≤ 4 ∧ RowOk n R ∧ (∀ w ∈ R, CR w) ∧ (MSn n R → C (.d .none)) ∧ ∀ a S, MSs n R a S → C (.d (.tuple [dCh n a S, .int ((rcnt a R : Int) - rcut S R)]))
theorem c_made_shorter (G : Gs K mg) : Cal P w K mg base "made_shorter" 5 (spP R_made_shorter) := by
  -- slots: 0=n 1=rings 2=ties 3=letter 4=side 5=fall
  have S : FnScope ["n", "rings", "ties", "letter", "side", "fall"] ["n", "rings"] (defScope (top 44)) := ⟨rfl, rfl, rfl, by decide +kernel, rfl, by decide +kernel, by decide +kernel⟩
  refine cal_P (G.df 32 _ rfl) S (fun _ _ _ _ _ _ us hl => match us, hl with | [_, _], _ => rfl) (fun xs C h => by obtain ⟨n, R, e, hn, hR, hcr, hC1, hC2⟩ := h; subst e; rfl) fun f cdv A outer s H0 E M xs C D hr h hrt hnx tr => ?_
  obtain ⟨n, R, e, hn, hR, hcr, hC1, hC2⟩ := h
  subst e
  have nd := S.nd
  refine ss_set (i := 2) (A := fun y => ∃ T, TabR n R T ∧ y = .o (.dT (tkV T))) (e_call1 (c_ties_of G) (hr.mono (by decide)) (e_var 1) ⟨n, R, rfl, hR, hcr, fun T hT => ⟨T, hT, rfl⟩⟩) (fun y H1 r1 ⟨T, hT, ey⟩ => ?_) nd
  subst ey
  refine ss_forM (as := los n) (g := fun x => .d (dL x)) (dz := fun x ds' => ds'.set 3 (.d (dL x))) (fun done ds' H' => Same H0 H' ∧ ∃ y3 y4 y5, ds' = [.d (.int n), .d (dR R), .o (.dT (tkV T)), y3, y4, y5] ∧ ∀ b ∈ done, NoFall n R b) (ei_tupM (f := dL) (EE.is (e_ev (e_call1 (c_letters_of G) (hr.mono (by decide)) (e_var 0) ⟨n, rfl, hn, rfl⟩)) (by rw [ev_letters n hn, los, List.map_map]; rfl))) ?_ ?_ ?_ ?_
  · intro H2 r2
    exact ⟨r1.trans r2, _, _, _, rfl, fun b hb => by cases hb⟩
  · rintro done a ds' H' ⟨_, y3, y4, y5, rfl, _⟩ _
    exact eh_name (i := 3) nd
  · rintro done a todo ds' Hi H' eu ⟨s0, y3, y4, y5, rfl, hno⟩ sm' kq
    have ha : a.val < 2 * n := los_lt (by rw [eu]; simp)
    refine ss_set (i := 4) (A := fun y => ∃ S, Least n a R S ∧ y = .d (dS n S)) (e_call3 (c_least_side G) (hr.mono (by decide)) (e_var 0) (e_var 2) (e_var 3) ⟨n, R, T, a, rfl, hn, hT, ha, fun S hS => ⟨S, hS, rfl⟩⟩) (fun y H2 r2 ⟨S', hL, ey⟩ => ?_) nd
    subst ey
    refine ss_setI (i := 5) (y := .d (.int ((rcnt a R : Int) - rcut S' R))) (e_sub (e_call2 (C := Is (.d (.int (rcnt a R)))) (c_count_of G) (hr.mono (by decide)) (e_var 1) (e_var 3) ⟨R, a, rfl, hR.1, rfl⟩) (e_call2 (C := Is (.d (.int (rcut S' R)))) (c_ties_leaving G) (hr.mono (by decide)) (e_var 2) (e_var 4) ⟨n, T, S', rfl, hT.ok, hT.len, hL.ins, by rw [hT.eq S']; rfl⟩)) (fun H3 r3 => ?_) nd
    refine ss_if (P := Is (decide ((0 : Int) < (rcnt a R : Int) - rcut S' R))) (et_gt (e_var 5) e_int) (fun hb H4 r4 => ?_) fun hb H4 r4 => ?_
    · have hb := of_decide_eq_true hb.symm
      refine ss_ret (A := Is (.d (.tuple [dCh n a S', .int ((rcnt a R : Int) - rcut S' R)]))) (e_tup (xs := [dCh n a S', .int ((rcnt a R : Int) - rcut S' R)]) (ea_c (e_tup (xs := [dL a, dS n S']) (ea_c (e_var 3) (ea_c (e_var 4) ea_nil)) (szl (by simp))) (ea_c (e_var 5) ea_nil)) (szl (by simp))) fun v H5 y r e hv => ?_
      cases e
      exact hrt v H5 _ (((((s0.trans sm').trans r2).trans r3).trans r4).trans r) (hC2 a S' ⟨done, todo, eu, hno, hL, by omega⟩) hv
    · have hb := of_decide_eq_false hb.symm
      refine ss_end (ss_nq fun H5 r5 => ⟨⟨((((s0.trans sm').trans r2).trans r3).trans r4).trans r5, _, _, _, rfl, fun b hb' => ?_⟩, kq.trans (Kq.r (r2.trans (r3.trans (r4.trans r5))))⟩)
      rcases List.mem_append.mp hb' with hb' | hb'
      · exact hno b hb'
      · simp at hb'; subst hb'; exact ⟨S', hL, by omega⟩
  · rintro ds' H' ⟨s0, y3, y4, y5, rfl, hno⟩ _
    refine ss_ret e_non fun v H2 y r e hv => ?_
    cases e
    exact hrt v H2 _ (s0.trans r) (hC1 hno) hv
def R_made_short (xs : List Ds) (C : Ds → Prop) : Prop := ∃ (n : Nat) (R : NL.Row), xs = [.d (.int n), .d (dR R)] ∧ n ≤ 4 ∧ R.length ≤ 1000 ∧ RkR n R ∧ rlen R ≤ 100 ∧ NL.rowR R ∧ ∀ cs Q, Pre n R cs Q → MSn n Q → C (.d (.tuple [.list (cs.map (dC n)), dR Q]))
theorem c_made_short (G : Gs K mg) : Cal P w K mg base "made_short" 7 (spP R_made_short) := by
  -- slots: 0=n 1=rings 2=changes 3=row 4=found
  have S : FnScope ["n", "rings", "changes", "row", "found"] ["n", "rings"] (defScope (top 45)) := ⟨rfl, rfl, rfl, by decide +kernel, rfl, by decide +kernel, by decide +kernel⟩
  refine cal_P (G.df 33 _ rfl) S (fun _ _ _ _ _ _ us hl => match us, hl with | [_, _], _ => rfl) (fun xs C h => by obtain ⟨n, R, e, hn, hRl, hRk, hRn, hRR, hC⟩ := h; subst e; rfl) fun f cdv A outer s H0 E M xs C D hr h hrt hnx tr => ?_
  obtain ⟨n, R, e, hn, hRl, hRk, hRn, hRR, hC⟩ := h
  subst e
  have nd := S.nd
  refine ss_new (i := 2) (u := .lst []) (by intro _ h; cases h) new_lst (fun p H1 r1 hp => ?_) nd
  have h0 := none_of r1 hp
  have nM : ¬ M p := fun m => (tr p m).ne h0
  refine ss_setI (i := 3) (y := .d (dR R)) (e_var 1) (fun H2 r2 => ?_) nd
  have short : ∀ {Q : NL.Row} {H' : Hp} {y4 : Ds} {q1 q2 q3 q4 : Pos}, RowOk n Q → NL.rowR Q → EE ((pur M).add p) (XX P w K mg base ["n", "rings", "changes", "row", "found"] "made_short" (top 45) f cdv A outer s H0 E) (.Call (.Name "made_shorter" q1) [.Name "n" q2, .Name "row" q3] [] q4) [.d (.int n), .d (dR R), .r (.ref p), .d (dR Q), y4] H' (fun y => (y = .d .none ∧ MSn n Q) ∨ ∃ a S, MSs n Q a S ∧ y = .d (.tuple [dCh n a S, .int ((rcnt a Q : Int) - rcut S Q)])) := fun {Q H' y4 q1 q2 q3 q4} hQ hQR =>
    e_call2 (c_made_shorter G) (hr.mono (by decide)) (e_var 0) (e_var 3) ⟨n, Q, rfl, hn, hQ, fun w hw => (hQR w hw).cr, fun h => .inl ⟨rfl, h⟩, fun a S h => .inr ⟨a, S, h, rfl⟩⟩
  refine ss_set (i := 4) (short (row_ok hRl hRk hRn) hRR) (fun y H3 r3 ey => ?_) nd
  refine ss_while (fun m ds' H' => Same H0 H' ∧ ∃ (cs : List (Lt × S8)) (Q : NL.Row) (y4 : Ds), ds' = [.d (.int n), .d (dR R), .r (.ref p), .d (dR Q), y4] ∧ LB ((pur M).add p).M H' p (cs.map (dC n)) ∧ Pre n R cs Q ∧ Q.length ≤ 1000 ∧ RkR n Q ∧ rlen Q + cs.length ≤ 100 ∧ NL.rowR Q ∧ ((y4 = .d .none ∧ MSn n Q) ∨ ∃ a S, MSs n Q a S ∧ y4 = .d (.tuple [dCh n a S, .int ((rcnt a Q : Int) - rcut S Q)])) ∧ m = rlen Q) PassesOwn.never (fun H4 r4 _ => ?_) ?_
  · exact ⟨_, (((r1.trans (same_new hp)).trans r2).trans r3).trans r4, [], R, y, rfl, ((LB.new.mono (W := (pur M).add p) (fun f => f) r2).mono (W := (pur M).add p) (fun f => f) r3).mono (W := (pur M).add p) (fun f => f) r4, .nil, hRl, hRk, by simpa using hRn, hRR, ey, rfl⟩
  rintro m ds' H' ⟨s0, cs, Q, y4, rfl, lb, hpre, hQl, hQk, hQn, hQR, hy, rfl⟩ _
  rcases hy with ⟨rfl, hms⟩ | ⟨a, S', hms, rfl⟩
  · refine ⟨Is false, ET.is (et_notNone (d := .none) (e_var 4) rfl) (by decide), fun hb => (by cases hb), fun _ H4 r4 => ?_⟩
    have lb4 := lb.mono (W := (pur M).add p) (fun f => f) r4
    refine ss_ret2 (e_var 2) (e_var 3) fun q H5 v r5 hq hv => ?_
    have s5 : Same H0 (L2.upd H5 q (.tup [.ref p, v])) := ((s0.trans r4).trans r5).trans (same_new hq)
    have lb5 := lb4.mono (W := (pur M).add p) (fun f => f) r5
    have lb6 : LB ((pur M).add p).M (L2.upd H5 q (.tup [.ref p, v])) p (cs.map (dC n)) := lb5.mono (W := (pur M).add p) (fun f => f) (same_new hq)
    have nMq : ¬ M q := fun m => by
      have : H0 q = none := none_of ((s0.trans r4).trans r5) hq
      exact (tr q m).ne this
    refine hrt _ _ _ s5 (hC cs Q hpre hms) (.tup nMq upd_same (.cons (lb6.dt nM (fun a m => .inl m)) (.cons ?_ .nil)))
    exact (hv.mono (W := (pur M).add p) (same_new hq)).keep fun a o m e => ⟨fun z => m (.inl z), e⟩
  · have hok := hms.ok hn
    have hfall := fall_len hQR hms
    have hrow := row_ok hQl hQk (by omega)
    refine ⟨Is true, et_notNoneT (xs := [dCh n a S', .int ((rcnt a Q : Int) - rcut S' Q)]) (e_var 4), fun _ H4 r4 => ?_, fun hb => (by cases hb)⟩
    refine ss_appendZ (d := dCh n a S') (lb.mono (W := (pur M).add p) (fun f => f) r4) Wd.addM (fun f => f) (by rw [List.length_map]; exact szl (by omega)) (e_var 2).at (e_ixT (xs := [dCh n a S', .int ((rcnt a Q : Int) - rcut S' Q)]) (e_var 4) e_int rfl) fun H5 v r5 lb5 => ?_
    refine ss_setI (i := 3) (y := .d (dR (rmap (wh a S') Q))) (e_call3 (C := Is (.d (dR (rmap (wh a S') Q)))) (c_rings_changed G) (hr.mono (by decide)) (e_var 0) (e_var 3) (e_ixT (xs := [dCh n a S', .int ((rcnt a Q : Int) - rcut S' Q)]) (d := dCh n a S') (e_var 4) e_int rfl) ⟨n, Q, a, S', rfl, hn, hok, hrow, rfl⟩) (fun H6 r6 => ?_) nd
    have hk2 : RkR n (rmap (wh a S') Q) := RkR_rmap hn hok hQk
    have hl2 : (rmap (wh a S') Q).length ≤ 1000 := by unfold rmap; rw [List.length_map]; exact hQl
    have hR2 : NL.rowR (rmap (wh a S') Q) := NL.rmap_rowR _ _
    refine ss_set (i := 4) (short (row_ok hl2 hk2 (by omega)) hR2) (fun y H7 r7 ey => ss_nw fun H8 r8 _ => ⟨rlen (rmap (wh a S') Q), hfall, ?_, cs ++ [(a, S')], rmap (wh a S') Q, y, rfl, ?_, hpre.snoc hms, hl2, hk2, ?_, hR2, ey, rfl⟩) nd
    · exact (((same_upd ((s0.trans r4).trans r5) h0).trans r6).trans r7).trans r8
    · rw [List.map_append]; exact ((lb5.mono (W := (pur M).add p) (fun f => f) r6).mono (W := (pur M).add p) (fun f => f) r7).mono (W := (pur M).add p) (fun f => f) r8
    · rw [List.length_append]; show _ + (_ + 1) ≤ 100; omega
end
end NQ

namespace NQ
open PySem PySem.Spec L2 NP
open NL (inv red invw mid Red S8 Side wh rtold rmap sub Per single cp lp sm cutp cut rcut CR rlen rcnt)
section
variable {P : Program} {w : World} {K : PySem.W.Frag} {mg : Str → Option Value} {base : Heap}
def R__law_letters (xs : List Ds) (C : Ds → Prop) : Prop := ∃ n : Nat, xs = [.d (.int n)] ∧ n ≤ 4 ∧ C (.d (.list ((lettersOf n).map dL)))
theorem c__law_letters (G : Gs K mg) : Cal P w K mg base "_law_letters" 1 (spP R__law_letters) := by
  -- slots: 0=_law_n
  have S : FnScope ["_law_n"] ["_law_n"] (defScope (top 50)) := ⟨rfl, rfl, rfl, by decide +kernel, rfl, by decide +kernel, by decide +kernel⟩
  refine cal_P (G.df 37 _ rfl) S (fun _ _ _ _ _ _ us hl => match us, hl with | [_], _ => rfl) (fun xs C h => by obtain ⟨n, e, hn, hC⟩ := h; subst e; rfl) fun f cdv A outer s H0 E M xs C D hr h hrt hnx tr => ?_
  obtain ⟨n, e, hn, hC⟩ := h
  subst e
  have nd := S.nd
  refine ss_ret (A := Is (.d (.list ((lettersOf n).map dL)))) (EE.is (e_listS (z := enc (lettersOf n)) rfl (G.fr 10 _ rfl) (EE.is (e_slS e_str .non (.som (e_mul e_int (e_var 0) (Or.inl (by omega)))) (by decide)) (by rw [cut_all n hn])) (by rw [enc_len, lettersOf_len n hn]; show 2 * n ≤ 2 ^ 24; omega)) (by rw [signs_enc])) fun v H1 y r e hv => ?_
  cases e
  exact hrt v H1 _ r hC hv
def R__law_contrary (xs : List Ds) (C : Ds → Prop) : Prop := ∃ x : Lt, xs = [.d (dL x)] ∧ C (.d (dL (inv x)))
theorem c__law_contrary (G : Gs K mg) : Cal P w K mg base "_law_contrary" 1 (spP R__law_contrary) := by
  -- slots: 0=_law_letter
  have S : FnScope ["_law_letter"] ["_law_letter"] (defScope (top 51)) := ⟨rfl, rfl, rfl, by decide +kernel, rfl, by decide +kernel, by decide +kernel⟩
  refine cal_P (G.df 38 _ rfl) S (fun _ _ _ _ _ _ us hl => match us, hl with | [_], _ => rfl) (fun xs C h => by obtain ⟨x, e, hC⟩ := h; subst e; rfl) fun f cdv A outer s H0 E M xs C D hr h hrt hnx tr => ?_
  obtain ⟨x, e, hC⟩ := h
  subst e
  have nd := S.nd
  refine ss_if (P := Is (Txt.islower (enc [x]))) (et_valI (e_islower (e_var 0))) (fun hp H1 r1 => ?_) fun hp H1 r1 => ?_
  · refine ss_ret ((e_upper (e_var 0) (by show (1 : Nat) ≤ _; decide)).is (by rw [(lower_facts x).1 hp.symm])) fun v H2 y r e hv => ?_
    cases e
    exact hrt v H2 _ (r1.trans r) hC hv
  · refine ss_end (ss_ret ((e_lower (e_var 0) (by show (1 : Nat) ≤ _; decide)).is (by rw [(lower_facts x).2 hp.symm])) fun v H2 y r e hv => ?_)
    cases e
    exact hrt v H2 _ (r1.trans r) hC hv
def R__law_key (xs : List Ds) (C : Ds → Prop) : Prop := ∃ u : NL.W, xs = [.d (dW u)] ∧ u.length ≤ 10000 ∧ C (.d (dKey u))
theorem c__law_key (G : Gs K mg) : Cal P w K mg base "_law_key" 1 (spP R__law_key) := by
  -- slots: 0=_law_word_here 1=_law_letter
  have S : FnScope ["_law_word_here", "_law_letter"] ["_law_word_here"] (defScope (top 52)) := ⟨rfl, rfl, rfl, by decide +kernel, rfl, by decide +kernel, by decide +kernel⟩
  refine cal_P (G.df 39 _ rfl) S (fun _ _ _ _ _ _ us hl => match us, hl with | [_], _ => rfl) (fun xs C h => by obtain ⟨u, e, hl, hC⟩ := h; subst e; rfl) fun f cdv A outer s H0 E M xs C D hr h hrt hnx tr => ?_
  obtain ⟨u, e, hl, hC⟩ := h
  subst e
  have nd := S.nd
  refine ss_ret (e_tup (xs := [.int u.length, .list (u.map fun x => .int x.val)]) (ea_c (e_lenW (G.fr 0 _ rfl) (e_var 0) (by omega)) (ea_c (e_lcM (j := 1) u (fun x => .d (dL x)) (fun x => .int x.val) (fun _ _ => dL_inj) nd (ei_strW (e_var 0)) (by show _ < 2 ^ 24; omega) fun l a _ s0 H0 cl C fp => ?_) ea_nil)) (szl (by simp))) fun v H1 y r e hv => ?_
  · exact e_index e_str (e_var 1) (place_enc a)
  · cases e
    exact hrt v H1 _ r hC hv
def R__law_back (xs : List Ds) (C : Ds → Prop) : Prop := ∃ u : NL.W, xs = [.d (dW u)] ∧ u.length ≤ 10000 ∧ C (.d (dW (invw u)))
theorem c__law_back (G : Gs K mg) : Cal P w K mg base "_law_back" 2 (spP R__law_back) := by
  -- slots: 0=_law_word_here 1=_law_letter
  have S : FnScope ["_law_word_here", "_law_letter"] ["_law_word_here"] (defScope (top 53)) := ⟨rfl, rfl, rfl, by decide +kernel, rfl, by decide +kernel, by decide +kernel⟩
  refine cal_P (G.df 40 _ rfl) S (fun _ _ _ _ _ _ us hl => match us, hl with | [_], _ => rfl) (fun xs C h => by obtain ⟨u, e, hl, hC⟩ := h; subst e; rfl) fun f cdv A outer s H0 E M xs C D hr h hrt hnx tr => ?_
  obtain ⟨u, e, hl, hC⟩ := h
  subst e
  have nd := S.nd
  refine ss_ret ((e_joinW (ws := u.reverse.map fun x => [inv x]) e_str ((e_lcM (j := 1) u.reverse (fun x => .d (dL x)) (fun x => dL (inv x)) (fun _ _ => dL_inj) nd (ei_revW (G.fr 8 _ rfl) (e_var 0) (by omega)) (by simp; show _ < 2 ^ 24; omega) fun l a _ s0 H0 cl C fp => ?_).is (by rw [List.map_map]; rfl)) ?_).is (by rw [invw_flat])) fun v H2 y r e hv => ?_
  · exact e_call1 (c__law_contrary G) (hr.mono (by decide)) (e_var 1) ⟨a, rfl, rfl⟩
  · rw [invw_flat]; simp [invw]; omega
  · cases e
    exact hrt v H2 _ r hC hv
def R__law_laid (xs : List Ds) (C : Ds → Prop) : Prop := ∃ u : NL.W, xs = [.d (dW u)] ∧ u.length ≤ 10000 ∧ C (.d (dW (red u)))
theorem c__law_laid (G : Gs K mg) : Cal P w K mg base "_law_laid" 2 (spP R__law_laid) := by
  -- slots: 0=_law_text 1=_law_found 2=_law_letter
  have S : FnScope ["_law_text", "_law_found", "_law_letter"] ["_law_text"] (defScope (top 54)) := ⟨rfl, rfl, rfl, by decide +kernel, rfl, by decide +kernel, by decide +kernel⟩
  refine cal_P (G.df 41 _ rfl) S (fun _ _ _ _ _ _ us hl => match us, hl with | [_], _ => rfl) (fun xs C h => by obtain ⟨u, e, hl, hC⟩ := h; subst e; rfl) fun f cdv A outer s H0 E M xs C D hr h hrt hnx tr => ?_
  obtain ⟨u, e, hl, hC⟩ := h
  subst e
  have nd := S.nd
  have hU := hr.un
  refine ss_new (i := 1) (u := .lst []) (by intro _ h; cases h) new_lst (fun p H1 r1 hp => ?_) nd
  refine ss_forM (as := u) (g := fun x => .d (dL x)) (dz := fun x ds' => ds'.set 2 (.d (dL x))) (fun done ds' H' => Same H0 H' ∧ ∃ y, ds' = [.d (dW u), .r (.ref p), y] ∧ LB ((pur M).add p).M H' p ((done.foldl push []).map dL)) (ei_strW (e_var 0)) ?_ ?_ ?_ ?_
  · intro H2 r2
    exact ⟨(r1.trans (same_new hp)).trans r2, _, rfl, LB.new.mono (W := (pur M).add p) (fun f => f) r2⟩
  · rintro done a ds' H' ⟨_, y, rfl, _⟩ _
    exact eh_name (i := 2) nd
  · rintro done a todo ds' Hi H' eu ⟨s0, y, rfl, lb⟩ sm kq
    have lb := lb.mono (W := (pur M).add p) (fun f => f) sm
    have ef : (done ++ [a]).foldl push [] = push (done.foldl push []) a := by rw [List.foldl_append]; rfl
    rw [ef]
    have hlen : (done.foldl push []).length ≤ 10000 := by
      have h1 := red_len done
      rw [← foldl_push_nil] at h1
      have : done.length ≤ u.length := by rw [eu]; simp
      omega
    generalize done.foldl push [] = st at lb hlen
    refine ss_if (P := Is (!st.isEmpty && decide (st.getLast? = some (inv a)))) (et_and2 (ET.is (et_gt (e_lenR (G.fr 0 _ rfl) (e_var 1).at lb (fun f => f)) e_int) (by cases st <;> simp)) fun hne => ?_) (fun ht H2 r2 => ?_) fun ht H2 r2 => ?_
    · have hst0 : st ≠ [] := by intro z; subst z; cases hne
      obtain ⟨b, hb⟩ : ∃ b, st.getLast? = some b := ⟨st.getLast hst0, List.getLast?_eq_some_getLast hst0⟩
      refine (et_eqL (x := b) (e_ixR (e_var 1).at (e_neg e_int) lb (fun f => f) ?_) (e_call1 (c__law_contrary G) (hr.mono (by decide)) (e_var 2) ⟨a, rfl, rfl⟩)).is ?_
      · have : atI (st.map dL) (-1) = some (dL b) := by rw [atI_last _ (by simpa using hst0), List.getLast?_map, hb]; rfl
        exact this
      · rw [hb]; congr 1; simp
    · have hne : st.map dL ≠ [] := by intro z; rw [List.map_eq_nil_iff] at z; subst z; cases ht
      have c : push st a = st.dropLast := by rw [push_eq, if_pos ht.symm]
      rw [c]
      refine ss_popZ (lb.mono (W := (pur M).add p) (fun f => f) r2) (.inr rfl) (fun f => f) hne (e_var 1).at fun H3 v r3 lb3 => ss_end (ss_nq fun H4 r4 => ⟨⟨?_, _, rfl, ?_⟩, ?_⟩)
      · exact (same_upd (((s0.trans sm).trans r2).trans r3) (none_of r1 hp)).trans r4
      · rw [← List.map_dropLast] at lb3
        exact lb3.mono (W := (pur M).add p) (fun f => f) r4
      · exact kq.trans ((Kq.r (r2.trans r3)).trans (Kq.updA.trans (Kq.r r4)))
    · have c : push st a = st ++ [a] := by rw [push_eq, if_neg (by rw [← ht]; decide)]
      rw [c]
      refine ss_appendZ (lb.mono (W := (pur M).add p) (fun f => f) r2) (.inr rfl) (fun f => f) (by rw [List.length_map]; show _ < 2 ^ 24; omega) (e_var 1).at (e_var 2) fun H3 v r3 lb3 => ss_end (ss_nq fun H4 r4 => ⟨⟨?_, _, rfl, ?_⟩, ?_⟩)
      · exact (same_upd (((s0.trans sm).trans r2).trans r3) (none_of r1 hp)).trans r4
      · rw [List.map_append]
        exact lb3.mono (W := (pur M).add p) (fun f => f) r4
      · exact kq.trans ((Kq.r (r2.trans r3)).trans (Kq.updA.trans (Kq.r r4)))
  · rintro ds' H' ⟨s0, y, rfl, lb⟩ _
    rw [foldl_push_nil] at lb
    have hh := red_len u
    refine ss_ret ((e_joinRW (ws := (red u).map fun x => [x]) e_str (e_var 1).at (by rw [flat_dW]; exact lb) (fun f => f) (by rw [flat_one]; omega)).is (by rw [flat_one])) fun v H1 y r e hv => ?_
    cases e
    cases hv
    exact hrt _ H1 _ (s0.trans r) hC (.str _)
end
end NQ

namespace NQ
open PySem PySem.Spec L2 NP
open NL (inv red invw mid Red S8 Side wh rtold rmap sub Per single cp lp sm cutp cut rcut CR rlen rcnt)
def dec (c : Nat) : Int := ([97, 65, 98, 66, 99, 67, 100, 68].idxOf c : Nat)
def nK (z : Str) : Int := z.length
def nsK (z : Str) : List Int := z.cps.toList.map dec
theorem dec_code : ∀ x : Lt, dec (code x) = x.val := by decide
theorem keyD_enc (u : NL.W) : keyD nK nsK (enc u) = PySem.W.Datum.toD (kd u) := by
  show PyData.tuple [.int (nK (enc u)), .list ((nsK (enc u)).map .int)] = PyData.tuple [.int (u.length : Nat), .list ((u.map fun x => (x.val : Int)).map PyData.int)]
  unfold nK nsK
  have : (u.map code).map dec = u.map fun x => (x.val : Int) := by
    rw [List.map_map]
    exact List.map_congr_left fun x _ => dec_code x
  rw [enc_len, enc_cps, this]
theorem fold_enc (ws : List NL.W) : ∀ w : NL.W, (ws.map enc).foldl (fun a y => if PySem.W.dataLt (keyD nK nsK y) (keyD nK nsK a) = true then y else a) (enc w) = enc (ws.foldl (fun a y => if PySem.W.DatumOrd.lt (kd y) (kd a) = true then y else a) w) := by
  induction ws with
  | nil => intro w; rfl
  | cons v ws ih =>
    intro w
    rw [List.map_cons, List.foldl_cons, List.foldl_cons, keyD_enc, keyD_enc, PySem.W.DatumOrd.lt_eq, ← ih]
    congr 1
    split <;> rfl
theorem min_words (m : NL.W) (n : Nat) (hn : nrot m = n + 1) : ((List.range n).map fun k => rotk m (k + 1)).foldl (fun a y => if PySem.W.DatumOrd.lt (kd y) (kd a) = true then y else a) (rotk m 0) = NL.minrot m := by
  have hall : ∀ a ∈ rotk m 0 :: (List.range n).map (fun k => rotk m (k + 1)), ∃ j, j < nrot m ∧ a = rotk m j := by
    intro a ha
    rcases List.mem_cons.mp ha with rfl | ha
    · exact ⟨0, by omega, rfl⟩
    · obtain ⟨k, hk, rfl⟩ := List.mem_map.mp ha
      have := List.mem_range.mp hk
      exact ⟨k + 1, by omega, rfl⟩
  have mem : ∀ j, j < nrot m → rotk m j ∈ rotk m 0 :: (List.range n).map (fun k => rotk m (k + 1)) := by
    intro j hj
    cases j with
    | zero => simp
    | succ j => exact List.mem_cons_of_mem _ (List.mem_map.mpr ⟨j, List.mem_range.mpr (by omega), rfl⟩)
  obtain ⟨h1, h2⟩ := fold_min (fun u : NL.W => u) (fun a b => PySem.W.DatumOrd.lt (kd a) (kd b)) ((List.range n).map fun k => rotk m (k + 1)) (rotk m 0) (by
    intro a ha b hb
    obtain ⟨i, _, rfl⟩ := hall a ha
    obtain ⟨j, _, rfl⟩ := hall b hb
    have e := kd_lt (u := rotk m i) (v := rotk m j) (by rw [rotk_len, rotk_len])
    simp only [e]
    refine ⟨fun h => ?_, id⟩
    cases e2 : NL.lexLt (rotk m j) (rotk m i)
    · rfl
    · have := NL.lexLt_trans h e2
      rw [NL.lexLt_irrefl] at this; cases this)
  obtain ⟨k, hk, e⟩ := hall _ h1
  rw [e]
  refine min_rot fun j hj => ?_
  have h3 := h2 _ (mem j hj)
  rw [e] at h3
  exact h3
theorem low_facts : ∀ x : Lt, Builtin.Str.occurrences "abcd" (Txt.lower (enc [x])) 0 ("abcd" : Str).length 1 = [x.val / 2] := by decide +kernel
theorem low_lo : ∀ x : Lt, Txt.lower (enc [x]) = enc [lo (x.val / 2)] := by decide +kernel
theorem cut_abcd (n : Nat) (h : n ≤ 4) : cutS "abcd" none (some (n : Int)) = enc (los n) := by
  have : n = 0 ∨ n = 1 ∨ n = 2 ∨ n = 3 ∨ n = 4 := by omega
  rcases this with h | h | h | h | h <;> subst h <;> decide +kernel
section
variable {P : Program} {w : World} {K : PySem.W.Frag} {mg : Str → Option Value} {base : Heap}
def R__law_ring (xs : List Ds) (C : Ds → Prop) : Prop := ∃ u : NL.W, xs = [.d (dW u)] ∧ u.length ≤ 1000 ∧ C (.d (dW (NL.ring u)))
theorem c__law_ring (G : Gs K mg) : Cal P w K mg base "_law_ring" 3 (spP R__law_ring) := by
  -- slots: 0=_law_word_here 1=_law_k
  have S : FnScope ["_law_word_here", "_law_k"] ["_law_word_here"] (defScope (top 56)) := ⟨rfl, rfl, rfl, by decide +kernel, rfl, by decide +kernel, by decide +kernel⟩
  refine cal_P (G.df 43 _ rfl) S (fun _ _ _ _ _ _ us hl => match us, hl with | [_], _ => rfl) (fun xs C h => by obtain ⟨u, e, hl, hC⟩ := h; subst e; rfl) fun f cdv A outer s H0 E M xs C D hr h hrt hnx tr => ?_
  obtain ⟨u, e, hl, hC⟩ := h
  subst e
  have nd := S.nd
  refine ss_while (fun m ds' H' => Same H0 H' ∧ ∃ (v : NL.W), ds' = [.d (dW v), .u] ∧ v.length ≤ 1000 ∧ mid v = mid u ∧ m = v.length) PassesOwn.never (fun H2 r2 _ => ⟨_, r2, u, rfl, hl, rfl, rfl⟩) ?_
  rintro m ds' H' ⟨s0, v, rfl, hvl, hmid, rfl⟩ _
  refine ⟨Is (decide (1 < v.length) && decide (v.getLast? = v.head?.map inv)), ?_, fun ht H2 r2 => ?_, fun ht H2 r2 => ?_⟩
  · refine et_and2 (ET.is (et_gt (e_lenW (G.fr 0 _ rfl) (e_var 0) (by omega)) e_int) (by congr 1; exact propext ⟨fun h => by omega, fun h => by omega⟩)) fun h1 => ?_
    have h1 := of_decide_eq_true h1
    have hne : v ≠ [] := by intro z; subst z; simp at h1
    obtain ⟨a, ea⟩ : ∃ a, v[0]? = some a := ⟨_, List.getElem?_eq_getElem (by omega)⟩
    obtain ⟨b, eb⟩ : ∃ b, v.getLast? = some b := ⟨_, List.getLast?_eq_some_getLast hne⟩
    refine (et_eqL (e_ixW (x := b) (e_var 0) (e_neg e_int) (by omega) (by rw [← eb]; exact atI_last v hne)) (e_call1 (c__law_contrary G) (hr.mono (by decide)) (e_ixW (x := a) (e_var 0) e_int (by omega) (by rw [← ea]; exact atI_nat v 0)) ⟨a, rfl, rfl⟩)).is ?_
    rw [eb, List.head?_eq_getElem?, ea]
    congr 1
    simp
  · have hb : 1 < v.length ∧ v.getLast? = v.head?.map inv := by simpa [Is] using ht.symm
    refine ss_setI (i := 0) (y := .d (dW v.tail.dropLast)) (EE.is (e_slW (e_var 0) (.som e_int) (.som (e_neg e_int)) (by omega)) (congrArg (fun z => Ds.d (dW z)) (cutL_inner v hb.1))) (fun H3 r3 => ss_nw fun H4 r4 _ => ⟨v.tail.dropLast.length, by simp; omega, (((s0.trans r2).trans r3).trans r4), v.tail.dropLast, rfl, by simp; omega, ?_, rfl⟩) nd
    rw [← hmid, mid_eq v, if_pos hb]
  · have hb : ¬ (1 < v.length ∧ v.getLast? = v.head?.map inv) := by
      intro hb
      have : (decide (1 < v.length) && decide (v.getLast? = v.head?.map inv)) = true := by simpa using hb
      rw [this] at ht; cases ht
    have em : mid u = v := by rw [← hmid, mid_eq, if_neg hb]
    have eR : NL.ring u = NL.minrot v := by unfold NL.ring; rw [em]
    rw [eR] at hC
    obtain ⟨n, hn⟩ : ∃ n, nrot v = n + 1 := ⟨nrot v - 1, by unfold nrot; split <;> omega⟩
    have hn2 : nrot v ≤ 1000 := by unfold nrot; split <;> omega
    have er : (List.range (nrot v)).map (fun k => dW (rotk v k)) = (enc (rotk v 0) :: ((List.range n).map fun k => rotk v (k + 1)).map enc).map PyData.str := by
      rw [hn, List.range_succ_eq_map, List.map_cons, List.map_map, List.map_cons, List.map_map, List.map_map]; rfl
    refine ss_ret (A := Is (.d (dW (NL.minrot v)))) (EE.is (e_minK (R := R__law_key) (n := nK) (ns := nsK) (z := enc (rotk v 0)) (zs := ((List.range n).map fun k => rotk v (k + 1)).map enc) rfl (G.fr 3 _ rfl) (c__law_key G) (hr.mono (by decide)) (EE.is (e_lcM (j := 1) (List.range (nrot v)) (fun k => .d (.int k)) (fun k => dW (rotk v k)) (fun _ _ => dI_inj) nd ?_ ?_ ?_) (by rw [er])) ?_) ?_) fun y H3 z r e hv => ?_
    · refine ei_rangeN (n := nrot v) (G.fr 5 _ rfl) ((e_max2 (i := 1) (j := v.length) rfl (G.fr 4 _ rfl) e_int (e_lenW (G.fr 0 _ rfl) (e_var 0) (by omega))).is ?_) (by omega)
      unfold nrot
      congr 2
      split <;> split <;> first | rfl | omega
    · rw [List.length_range]; exact szl (by omega)
    · intro l k hk s0 H2 cl C fp
      refine EE.is (e_catW (e_slW (e_var 0) (.som (e_var 1)) .non (by omega)) (e_slW (e_var 0) .non (.som (e_var 1)) (by omega)) (by rw [cutL_from, cutL_to, List.length_drop, List.length_take]; omega)) (by rw [cutL_from, cutL_to]; rfl)
    · intro y hy
      have : ∃ k, y = enc (rotk v k) := by
        rcases List.mem_cons.mp hy with e | hy
        · exact ⟨0, e⟩
        · rw [List.map_map] at hy
          obtain ⟨k, _, e⟩ := List.mem_map.mp hy
          exact ⟨k + 1, e.symm⟩
      obtain ⟨k, rfl⟩ := this
      refine ⟨rotk v k, rfl, by rw [rotk_len]; omega, ?_⟩
      rw [keyD_enc]
      show Ds.d (.tuple [.int (rotk v k).length, .list ((rotk v k).map fun x => .int x.val)]) = Ds.d (.tuple [.int ((rotk v k).length : Nat), .list (((rotk v k).map fun x => (x.val : Int)).map PyData.int)])
      rw [List.map_map]; rfl
    · rw [fold_enc, min_words v n hn]
    · cases e
      exact hrt y H3 _ ((s0.trans r2).trans r) hC hv
def R__law_retold (xs : List Ds) (C : Ds → Prop) : Prop := ∃ (us : List NL.W) (u : NL.W), xs = [.d (.tuple (us.map dW)), .d (dW u)] ∧ us.length ≤ 4 ∧ (∀ u ∈ us, u.length ≤ 10) ∧ u.length ≤ 100 ∧ Rk us.length u ∧ C (.d (dW (red (sub (tl us) u))))
theorem c__law_retold (G : Gs K mg) : Cal P w K mg base "_law_retold" 3 (spP R__law_retold) := by
  -- slots: 0=_law_retelling 1=_law_word_here 2=_law_found 3=_law_letter 4=_law_told
  have S : FnScope ["_law_retelling", "_law_word_here", "_law_found", "_law_letter", "_law_told"] ["_law_retelling", "_law_word_here"] (defScope (top 57)) := ⟨rfl, rfl, rfl, by decide +kernel, rfl, by decide +kernel, by decide +kernel⟩
  refine cal_P (G.df 44 _ rfl) S (fun _ _ _ _ _ _ us hl => match us, hl with | [_, _], _ => rfl) (fun xs C h => by obtain ⟨us, u, e, hl, hu, hul, hk, hC⟩ := h; subst e; rfl) fun f cdv A outer s H0 E M xs C D hr h hrt hnx tr => ?_
  obtain ⟨us, u, e, hl, hu, hul, hk, hC⟩ := h
  subst e
  have nd := S.nd
  refine ss_setI (i := 2) (y := .d (dW [])) e_str (fun H1 r1 => ?_) nd
  refine ss_forM (as := u) (g := fun x => .d (dL x)) (dz := fun x ds' => ds'.set 3 (.d (dL x))) (fun done ds' H' => Same H0 H' ∧ ∃ y3 y4, ds' = [.d (.tuple (us.map dW)), .d (dW u), .d (dW (sub (tl us) done)), y3, y4]) (ei_strW (e_var 1)) ?_ ?_ ?_ ?_
  · intro H2 r2
    exact ⟨r1.trans r2, _, _, rfl⟩
  · rintro done a ds' H' ⟨_, y3, y4, rfl⟩ _
    exact eh_name (i := 3) nd
  · rintro done a todo ds' Hi H' eu ⟨s0, y3, y4, rfl⟩ sm' kq
    have ha := hk a (by rw [eu]; simp)
    have hdl : done.length ≤ 100 := by
      have : done.length ≤ u.length := by rw [eu]; simp
      omega
    have hsl := sub_len us hu done
    have hg : (us.getD (a.val / 2) []).length ≤ 10 := by
      rw [List.getD_eq_getElem?_getD]
      cases e : us[a.val / 2]? with
      | none => simp
      | some v => exact hu v (List.mem_of_getElem? e)
    have etl : (tl us a).length ≤ 10 := by
      unfold tl
      split
      · exact hg
      · simp [invw]; simpa using hg
    have eix : atI (us.map dW) ((a.val / 2 : Nat) : Int) = some (dW (us.getD (a.val / 2) [])) := by
      rw [atI_nat, List.getElem?_map, List.getElem?_eq_getElem (by omega), List.getD_eq_getElem?_getD, List.getElem?_eq_getElem (by omega)]; rfl
    have es : sub (tl us) (done ++ [a]) = sub (tl us) done ++ tl us a := by rw [NL.sub_append, NL.sub_cons, NL.sub_nil, List.append_nil]
    have fin : ∀ (t : NL.W) (H5 : Hp), Same H0 H5 → Kq (pur M) Hi H5 → t = tl us a → ∀ bk, SS (pur M) (XX P w K mg base ["_law_retelling", "_law_word_here", "_law_found", "_law_letter", "_law_told"] "_law_retold" (top 57) f cdv A outer s H0 E)
        [(match (defBody (top 57)).getD 1 (.Pass ⟨0, 0, 0, 0⟩) with | .For _ _ b _ _ => b | _ => []).getD 2 (.Pass ⟨0, 0, 0, 0⟩)]
        ⟨Nx (pur M) (fun ds' H' => Same H0 H' ∧ ∃ y3 y4, ds' = [.d (.tuple (us.map dW)), .d (dW u), .d (dW (sub (tl us) (done ++ [a]))), y3, y4]) Hi, D.rt, bk, Nx (pur M) (fun ds' H' => Same H0 H' ∧ ∃ y3 y4, ds' = [.d (.tuple (us.map dW)), .d (dW u), .d (dW (sub (tl us) (done ++ [a]))), y3, y4]) Hi⟩
        [.d (.tuple (us.map dW)), .d (dW u), .d (dW (sub (tl us) done)), .d (dL a), .d (dW t)] H5 := by
      intro t H5 s5 k5 et bk
      subst et
      refine ss_setI (i := 2) (y := .d (dW (sub (tl us) (done ++ [a])))) (EE.is (e_catW (e_var 2) (e_var 4) (by omega)) (by rw [es])) (fun H6 r6 => ss_nq fun H7 r7 => ⟨⟨(s5.trans r6).trans r7, _, _, rfl⟩, k5.trans (Kq.r (r6.trans r7))⟩) nd
    refine ss_setI (i := 4) (y := .d (dW (us.getD (a.val / 2) []))) (e_ixT (e_var 0) (e_index e_str (e_lower (e_var 3) (by show (1 : Nat) ≤ _; decide)) (low_facts a)) eix) (fun H2 r2 => ?_) nd
    refine ss_if (P := Is (decide (a.val % 2 = 1))) (et_valI (EE.is (e_isupper (e_var 3)) (by rw [isupper_enc]))) (fun ht H3 r3 => ?_) fun ht H3 r3 => ?_
    · have ht := of_decide_eq_true ht.symm
      have et : tl us a = invw (us.getD (a.val / 2) []) := by unfold tl; rw [if_neg (by omega)]
      refine ss_setI (i := 4) (y := .d (dW (invw (us.getD (a.val / 2) [])))) (e_call1 (c__law_back G) (hr.mono (by decide)) (e_var 4) ⟨_, rfl, by omega, rfl⟩) (fun H4 r4 => ss_end (fin _ H4 ((((s0.trans sm').trans r2).trans r3).trans r4) (kq.trans (Kq.r (r2.trans (r3.trans r4)))) et.symm _)) nd
    · have ht := of_decide_eq_false ht.symm
      have et : tl us a = us.getD (a.val / 2) [] := by unfold tl; rw [if_pos (by omega)]
      exact ss_end (fin _ H3 (((s0.trans sm').trans r2).trans r3) (kq.trans (Kq.r (r2.trans r3))) et.symm _)
  · rintro ds' H' ⟨s0, y3, y4, rfl⟩ _
    have hs := sub_len us hu u
    refine ss_ret (e_call1 (C := Is (.d (dW (red (sub (tl us) u))))) (c__law_laid G) (hr.mono (by decide)) (e_var 2) ⟨_, rfl, by omega, rfl⟩) fun v H2 y r e hv => ?_
    cases e
    exact hrt v H2 _ (s0.trans r) hC hv
def R__law_rings_retold (xs : List Ds) (C : Ds → Prop) : Prop := ∃ (us : List NL.W) (R : NL.Row), xs = [.d (.tuple (us.map dW)), .d (dR R)] ∧ us.length ≤ 4 ∧ (∀ u ∈ us, u.length ≤ 10) ∧ RowOk us.length R ∧ C (.d (dR (rmap (tl us) R)))
theorem c__law_rings_retold (G : Gs K mg) : Cal P w K mg base "_law_rings_retold" 4 (spP R__law_rings_retold) := by
  -- slots: 0=_law_retelling 1=_law_rings 2=_law_ring_here
  have S : FnScope ["_law_retelling", "_law_rings", "_law_ring_here"] ["_law_retelling", "_law_rings"] (defScope (top 58)) := ⟨rfl, rfl, rfl, by decide +kernel, rfl, by decide +kernel, by decide +kernel⟩
  refine cal_P (G.df 45 _ rfl) S (fun _ _ _ _ _ _ us hl => match us, hl with | [_, _], _ => rfl) (fun xs C h => by obtain ⟨us, R, e, hl, hu, hR, hC⟩ := h; subst e; rfl) fun f cdv A outer s H0 E M xs C D hr h hrt hnx tr => ?_
  obtain ⟨us, R, e, hl, hu, hR, hC⟩ := h
  subst e
  have nd := S.nd
  refine ss_ret (A := Is (.d (dR (rmap (tl us) R)))) (e_tupleLI (G.fr 1 _ rfl) (EE.is (e_lcM (j := 2) R (fun w => .d (dW w)) (fun w => dW (rtold (tl us) w)) (fun _ _ => dW_inj) nd (ei_tupM (e_var 1)) (szl (by have := hR.1; omega)) fun l w hw s0 H2 cl C fp => ?_) (by rw [rmap, List.map_map]; rfl))) fun v H2 y r e hv => ?_
  · have hs := sub_len us hu w
    have h2 := red_len (sub (tl us) w)
    have h3 := (hR.2 w hw).2
    exact e_call1 (C := Is (.d (dW (rtold (tl us) w)))) (c__law_ring G) (hr.mono (by decide)) (e_call2 (C := Is (.d (dW (red (sub (tl us) w))))) (c__law_retold G) (hr.mono (by decide)) (e_var 0) (e_var 2) ⟨us, w, rfl, hl, hu, h3, (hR.2 w hw).1, rfl⟩) ⟨_, rfl, by omega, rfl⟩
  · cases e
    exact hrt v H2 _ r hC hv
def R__law_length (xs : List Ds) (C : Ds → Prop) : Prop := ∃ (R : NL.Row), xs = [.d (dR R)] ∧ R.length ≤ 1000 ∧ (∀ w ∈ R, w.length ≤ 10000) ∧ C (.d (.int (rlen R)))
theorem c__law_length (G : Gs K mg) : Cal P w K mg base "_law_length" 1 (spP R__law_length) := by
  -- slots: 0=_law_rings 1=_law_ring_here
  have S : FnScope ["_law_rings", "_law_ring_here"] ["_law_rings"] (defScope (top 59)) := ⟨rfl, rfl, rfl, by decide +kernel, rfl, by decide +kernel, by decide +kernel⟩
  refine cal_P (G.df 46 _ rfl) S (fun _ _ _ _ _ _ us hl => match us, hl with | [_], _ => rfl) (fun xs C h => by obtain ⟨R, e, hl, hR, hC⟩ := h; subst e; rfl) fun f cdv A outer s H0 E M xs C D hr h hrt hnx tr => ?_
  obtain ⟨R, e, hl, hR, hC⟩ := h
  subst e
  have nd := S.nd
  refine ss_ret (A := Is (.d (.int (rlen R)))) (EE.is (e_sum (ns := R.map fun w => (w.length : Int)) rfl (G.fr 9 _ rfl) (EE.is (e_lcM (j := 1) R (fun w => .d (dW w)) (fun w => .int w.length) (fun _ _ => dW_inj) nd (ei_tupM (e_var 0)) (szl (by omega)) fun l w hw s0 H2 cl C fp => ?_) (by rw [List.map_map]; rfl))) (by rw [sum_cast]; rfl)) fun v H2 y r e hv => ?_
  · exact e_lenW (G.fr 0 _ rfl) (e_var 1) (by have := hR w hw; omega)
  · cases e
    exact hrt v H2 _ r hC hv
end
end NQ

namespace NQ
open PySem PySem.Spec L2 NP
open NL (inv red invw mid Red S8 Side wh rtold rmap sub Per single cp lp sm cutp cut rcut CR rlen rcnt)
theorem low_iff : ∀ x a : Lt, x.val % 2 = 0 → ((x = lo (a.val / 2)) ↔ (x = a ∨ x = inv a)) := by decide
theorem los_even {n : Nat} {x : Lt} (h : x ∈ los n) : x.val % 2 = 0 := by
  unfold los at h
  obtain ⟨i, _, rfl⟩ := List.mem_map.mp h
  show 2 * i % 8 % 2 = 0
  omega
theorem los_len (n : Nat) : (los n).length = n := by simp [los]
theorem rep_enc (a : Lt) (k : Bool) : (⟨(List.replicate (if k = true then (1 : Int) else 0).toNat (enc [a]).cps.toList).flatten.toArray⟩ : Str) = enc (if k = true then [a] else []) := by
  cases k
  · rfl
  · show (⟨(List.replicate 1 (enc [a]).cps.toList).flatten.toArray⟩ : Str) = enc [a]
    simp [enc]
section
variable {P : Program} {w : World} {K : PySem.W.Frag} {mg : Str → Option Value} {base : Heap}
def R__law_change_told (xs : List Ds) (C : Ds → Prop) : Prop := ∃ (n : Nat) (a : Lt) (S : S8), xs = [.d (.int n), .d (dCh n a S)] ∧ n ≤ 4 ∧ InS n S ∧ C (.d (.tuple (((Sx.ch a S).us n).map dW)))
theorem c__law_change_told (G : Gs K mg) : Cal P w K mg base "_law_change_told" 2 (spP R__law_change_told) := by
  -- slots: 0=_law_n 1=_law_change 2=_law_letter 3=_law_side 4=_law_found 5=_law_other 6=_law_told
  have S : FnScope ["_law_n", "_law_change", "_law_letter", "_law_side", "_law_found", "_law_other", "_law_told"] ["_law_n", "_law_change"] (defScope (top 61)) := ⟨rfl, rfl, rfl, by decide +kernel, rfl, by decide +kernel, by decide +kernel⟩
  refine cal_P (G.df 48 _ rfl) S (fun _ _ _ _ _ _ us hl => match us, hl with | [_, _], _ => rfl) (fun xs C h => by obtain ⟨n, a, S', e, hn, hS, hC⟩ := h; subst e; rfl) fun f cdv A outer s H0 E M xs C D hr h hrt hnx tr => ?_
  obtain ⟨n, a, S', e, hn, hS, hC⟩ := h
  subst e
  have nd := S.nd
  refine ss_asgI (e_var 1) (eh_two (i := 2) (j := 3) rfl nd) fun H1 r1 => ?_
  refine ss_new (i := 4) (u := .lst []) (by intro _ h; cases h) new_lst (fun p H2 r2 hp => ?_) nd
  have h0 := none_of (r1.trans r2) hp
  refine ss_forM (as := los n) (g := fun x => .d (dL x)) (dz := fun x ds' => ds'.set 5 (.d (dL x))) (fun done ds' H' => Same H0 H' ∧ ∃ y5 y6, ds' = [.d (.int n), .d (dCh n a S'), .d (dL a), .d (dS n S'), .r (.ref p), y5, y6] ∧ LB ((pur M).add p).M H' p (done.map fun x => dW (wh a S' x))) (EI.is (ei_strW (EE.is (e_slS e_str .non (.som (e_var 0)) (by decide)) (by rw [cut_abcd n hn]))) rfl) ?_ ?_ ?_ ?_
  · intro H3 r3
    exact ⟨((r1.trans r2).trans (same_new hp)).trans r3, _, _, rfl, LB.new.mono (W := (pur M).add p) (fun f => f) r3⟩
  · rintro done x ds' H' ⟨_, y5, y6, rfl, _⟩ _
    exact eh_name (i := 5) nd
  · rintro done x todo ds' Hi H' eu ⟨s0, y5, y6, rfl, lb⟩ sm' kq
    have lb := lb.mono (W := (pur M).add p) (fun f => f) sm'
    have hxe : x.val % 2 = 0 := los_even (n := n) (by rw [eu]; simp)
    have hdl : done.length ≤ 4 := by
      have := congrArg List.length eu
      rw [los_len] at this
      simp at this
      omega
    have fin : ∀ (H5 : Hp), Same H0 H5 → Kq ((pur M).add p) Hi H5 → LB ((pur M).add p).M H5 p (done.map fun x => dW (wh a S' x)) → ∀ bk, SS ((pur M).add p) (XX P w K mg base ["_law_n", "_law_change", "_law_letter", "_law_side", "_law_found", "_law_other", "_law_told"] "_law_change_told" (top 61) f cdv A outer s H0 E)
        [(match (defBody (top 61)).getD 2 (.Pass ⟨0, 0, 0, 0⟩) with | .For _ _ b _ _ => b | _ => []).getD 2 (.Pass ⟨0, 0, 0, 0⟩)]
        ⟨Nx ((pur M).add p) (fun ds' H' => Same H0 H' ∧ ∃ y5 y6, ds' = [.d (.int n), .d (dCh n a S'), .d (dL a), .d (dS n S'), .r (.ref p), y5, y6] ∧ LB ((pur M).add p).M H' p ((done ++ [x]).map fun x => dW (wh a S' x))) Hi, D.rt, bk, Nx ((pur M).add p) (fun ds' H' => Same H0 H' ∧ ∃ y5 y6, ds' = [.d (.int n), .d (dCh n a S'), .d (dL a), .d (dS n S'), .r (.ref p), y5, y6] ∧ LB ((pur M).add p).M H' p ((done ++ [x]).map fun x => dW (wh a S' x))) Hi⟩
        [.d (.int n), .d (dCh n a S'), .d (dL a), .d (dS n S'), .r (.ref p), .d (dL x), .d (dW (wh a S' x))] H5 := by
      intro H5 s5 k5 lb5 bk
      refine ss_appendZ lb5 Wd.addM (fun f => f) (by rw [List.length_map]; exact szl (by omega)) (e_var 4).at (e_var 6) fun H6 v r6 lb6 => ss_nq fun H7 r7 => ⟨⟨?_, _, _, rfl, ?_⟩, ?_⟩
      · exact (same_upd (s5.trans r6) h0).trans r7
      · rw [List.map_append]; exact lb6.mono (W := (pur M).add p) (fun f => f) r7
      · exact k5.trans ((Kq.r r6).trans (Kq.updA.trans (Kq.r r7)))
    refine ss_setI (i := 6) (y := .d (dW [x])) (e_var 5) (fun H3 r3 => ?_) nd
    have lb3 := lb.mono (W := (pur M).add p) (fun f => f) r3
    refine ss_if (P := Is (!decide (x = lo (a.val / 2)))) (et_neL (e_var 5) (EE.is (e_lower (e_var 2) (by show (1 : Nat) ≤ _; decide)) (by rw [low_lo]))) (fun ht H4 r4 => ?_) fun ht H4 r4 => ?_
    · have ht : ¬ (x = a ∨ x = inv a) := by
        intro z
        have := (low_iff x a hxe).mpr z
        rw [Is] at ht
        simp [this] at ht
      have ew : wh a S' x = (if S' (inv x) = true then [inv a] else []) ++ ([x] ++ (if S' x = true then [a] else [])) := by unfold wh; rw [if_neg ht]
      have l1 : (if S' x = true then [a] else []).length ≤ 1 := by split <;> simp
      have l2 : (if S' (inv x) = true then [inv a] else []).length ≤ 1 := by split <;> simp
      refine ss_setI (i := 6) (y := .d (dW ([x] ++ (if S' x = true then [a] else [])))) (e_catW (u := [x]) (e_var 5) (EE.is (e_mulS (z := enc [a]) (n := if S' x = true then 1 else 0) (e_var 2) (EE.is (e_intB (G.fr 13 _ rfl) (e_inT (e_var 5) (e_var 3))) (by rw [dec_side hS])) (by split <;> omega) (by split <;> omega) (by show (1 : Nat) ≤ _; decide)) (by rw [rep_enc])) (by show 1 + _ ≤ _; omega)) (fun H5 r5 => ?_) nd
      refine ss_setI (i := 6) (y := .d (dW (wh a S' x))) (EE.is (e_catW (v := [x] ++ (if S' x = true then [a] else [])) (EE.is (y := .d (dW (if S' (inv x) = true then [inv a] else []))) (e_mulS (z := enc [inv a]) (n := if S' (inv x) = true then 1 else 0) (e_call1 (C := Is (.d (dL (inv a)))) (c__law_contrary G) (hr.mono (by decide)) (e_var 2) ⟨a, rfl, rfl⟩) (EE.is (e_intB (G.fr 13 _ rfl) (e_inT (e_call1 (C := Is (.d (dL (inv x)))) (c__law_contrary G) (hr.mono (by decide)) (e_var 5) ⟨x, rfl, rfl⟩) (e_var 3))) (by rw [dec_side hS])) (by split <;> omega) (by split <;> omega) (by show (1 : Nat) ≤ _; decide)) (by rw [rep_enc])) (e_var 6) (by rw [List.length_append]; show _ + (1 + _) ≤ _; omega)) (by rw [ew])) (fun H6 r6 => ?_) nd
      exact ss_end (fin H6 (((((s0.trans sm').trans r3).trans r4).trans r5).trans r6) (kq.trans (Kq.r (r3.trans (r4.trans (r5.trans r6))))) (((lb3.mono (W := (pur M).add p) (fun f => f) r4).mono (W := (pur M).add p) (fun f => f) r5).mono (W := (pur M).add p) (fun f => f) r6) _)
    · have ht : x = a ∨ x = inv a := (low_iff x a hxe).mp (by rw [Is] at ht; simpa using ht.symm)
      have ew : wh a S' x = [x] := by unfold wh; rw [if_pos ht]
      have fin2 := fin H4 (((s0.trans sm').trans r3).trans r4) (kq.trans (Kq.r (r3.trans r4))) (lb3.mono (W := (pur M).add p) (fun f => f) r4)
      rw [ew] at fin2
      exact ss_end (fin2 _)
  · rintro ds' H' ⟨s0, y5, y6, rfl, lb⟩ _
    refine ss_ret (A := Is (.d (.tuple (((Sx.ch a S').us n).map dW)))) (EE.is (e_tupleR (G.fr 1 _ rfl) (e_var 4).at lb (fun f => f)) (by show _ = Ds.d (.tuple (((List.range n).map fun i => wh a S' (lo i)).map dW)); rw [los, List.map_map, List.map_map]; rfl)) fun v H2 y r e hv => ?_
    cases e
    exact hrt v H2 _ (s0.trans r) hC (Dt.keep (fun a o m e => ⟨fun z => m (.inl z), e⟩) hv)
def R__law_step_told (xs : List Ds) (C : Ds → Prop) : Prop := ∃ (n : Nat) (s : Sx), xs = [.d (.int n), .d (dX n s)] ∧ n ≤ 4 ∧ s.ok n ∧ C (.d (.tuple ((s.us n).map dW)))
theorem c__law_step_told (G : Gs K mg) : Cal P w K mg base "_law_step_told" 3 (spP R__law_step_told) := by
  -- slots: 0=_law_n 1=_law_step
  have S : FnScope ["_law_n", "_law_step"] ["_law_n", "_law_step"] (defScope (top 66)) := ⟨rfl, rfl, rfl, by decide +kernel, rfl, by decide +kernel, by decide +kernel⟩
  refine cal_P (G.df 53 _ rfl) S (fun _ _ _ _ _ _ us hl => match us, hl with | [_, _], _ => rfl) (fun xs C h => by obtain ⟨n, s', e, hn, hs, hC⟩ := h; subst e; rfl) fun f cdv A outer s H0 E M xs C D hr h hrt hnx tr => ?_
  obtain ⟨n, s', e, hn, hs, hC⟩ := h
  subst e
  have nd := S.nd
  cases s' with
  | ch a S' =>
    refine ss_if (P := Is true) (ET.is (et_cmpI op_eq (e_ixT (xs := [.str "change", dL a, dS n S']) (d := .str "change") (e_var 1) e_int rfl) e_str rd_eqS) (by decide)) (fun ht H1 r1 => ?_) fun ht H1 r1 => by cases ht
    refine ss_ret (A := Is (.d (.tuple (((Sx.ch a S').us n).map dW)))) (e_call2 (c__law_change_told G) (hr.mono (by decide)) (e_var 0) (EE.is (e_slT (xs := [.str "change", dL a, dS n S']) (e_var 1) (.som e_int) .non) (y := .d (dCh n a S')) rfl) ⟨n, a, S', rfl, hn, hs.2.2, rfl⟩) fun v H2 y r e hv => ?_
    cases e
    exact hrt v H2 _ (r1.trans r) hC hv
  | ex ps =>
    refine ss_if (P := Is false) (ET.is (et_cmpI op_eq (e_ixT (xs := [.str "exchange", .tuple (ps.map dL)]) (d := .str "exchange") (e_var 1) e_int rfl) e_str rd_eqS) (by decide)) (fun ht H1 r1 => by cases ht) fun ht H1 r1 => ?_
    refine ss_end (ss_ret (e_ixT (xs := [.str "exchange", .tuple (ps.map dL)]) (d := .tuple (ps.map dL)) (e_var 1) e_int rfl) fun v H2 y r e hv => ?_)
    cases e
    have e2 : ((Sx.ex ps).us n).map dW = ps.map dL := by show (ps.map fun x => [x]).map dW = _; rw [List.map_map]; rfl
    rw [e2] at hC
    exact hrt v H2 _ (r1.trans r) hC hv
def chs (cs : List (Lt × S8)) : List Sx := cs.map fun c => .ch c.1 c.2
def R__law_steps (xs : List Ds) (C : Ds → Prop) : Prop := ∃ (n : Nat) (cs : List (Lt × S8)), xs = [.d (.list (cs.map (dC n)))] ∧ C (.d (dRoad n (chs (cs.take 6))))
theorem c__law_steps (G : Gs K mg) : Cal P w K mg base "_law_steps" 1 (spP R__law_steps) := by
  -- slots: 0=_law_changes 1=_law_change
  have S : FnScope ["_law_changes", "_law_change"] ["_law_changes"] (defScope (top 68)) := ⟨rfl, rfl, rfl, by decide +kernel, rfl, by decide +kernel, by decide +kernel⟩
  refine cal_P (G.df 55 _ rfl) S (fun _ _ _ _ _ _ us hl => match us, hl with | [_], _ => rfl) (fun xs C h => by obtain ⟨n, cs, e, hC⟩ := h; subst e; rfl) fun f cdv A outer s H0 E M xs C D hr h hrt hnx tr => ?_
  obtain ⟨n, cs, e, hC⟩ := h
  subst e
  have nd := S.nd
  refine ss_ret (A := Is (.d (dRoad n (chs (cs.take 6))))) (e_tupleLI (G.fr 1 _ rfl) (EE.is (e_lcMw (j := 1) (cs.take 6) (fun c => .d (dC n c)) (fun c => dX n (.ch c.1 c.2)) (fun c _ c' _ e => ?_) nd (ei_lstM (f := dC n) (EE.is (e_slL (e_var 0) .non (.som e_int)) (congrArg (fun z => Ds.d (.list z)) ((cutL_to (cs.map (dC n)) 6).trans List.map_take.symm)))) (szl (by rw [List.length_take]; omega)) fun l c hm s0 H2 cl C fp => ?_) (by rw [chs, List.map_map]; rfl))) fun v H2 y r e hv => ?_
  · have h1 : [dL c.1, dS n c.2] = [dL c'.1, dS n c'.2] := PyData.tuple.inj (dd_inj e)
    show PyData.tuple (.str "change" :: [dL c.1, dS n c.2]) = PyData.tuple (.str "change" :: [dL c'.1, dS n c'.2])
    rw [h1]
  · exact e_catT (xs := [.str "change"]) (ys := [dL c.1, dS n c.2]) (e_tup (xs := [.str "change"]) (ea_c e_str ea_nil) (szl (by simp))) (e_var 1) (szl (by simp))
  · cases e
    exact hrt v H2 _ r hC hv
end
end NQ

namespace NQ
open PySem PySem.Spec L2 NP
open NL (inv red invw mid Red S8 Side wh rtold rmap sub Per single cp lp sm cutp cut rcut CR rlen rcnt)
theorem sh_row (R : NL.Row) : Sh 1 (dR R) := Sh.tup fun x hx => by obtain ⟨w, _, rfl⟩ := List.mem_map.mp hx; exact sh_W w
theorem sh_side (n : Nat) (S : S8) : Sh 1 (dS n S) := Sh.tup fun x hx => by obtain ⟨w, _, rfl⟩ := List.mem_map.mp hx; exact sh_W _
theorem sh_ch (n : Nat) (a : Lt) (S : S8) : Sh 2 (dCh n a S) := Sh.tup fun x hx => by
  simp only [List.mem_cons, List.not_mem_nil, or_false] at hx
  rcases hx with rfl | rfl
  · exact (sh_W _).mono (by omega)
  · exact sh_side n S
/-- the rest of a way down, step by step -/
def Chain (n : Nat) : NL.Row → List ((Lt × S8) × NL.Row) → Prop
  | _, [] => True
  | Q, t :: ts => MSs n Q t.1.1 t.1.2 ∧ t.2 = rmap (wh t.1.1 t.1.2) Q ∧ Chain n t.2 ts
theorem zip_items (n : Nat) : ∀ (cs : List (Lt × S8)) (Q : NL.Row), List.zipWith (fun a b => Ds.d (.tuple [a, b])) ((chs cs).map (dX n)) ((along n (chs cs) Q).map dR) = (cs.zip (along n (chs cs) Q)).map fun t => .d (.tuple [dX n (.ch t.1.1 t.1.2), dR t.2])
  | [], _ => rfl
  | c :: cs, Q => by
    have ih := zip_items n cs (rmap (wh c.1 c.2) Q)
    show Ds.d (.tuple [dX n (.ch c.1 c.2), dR (rmap (wh c.1 c.2) Q)]) :: List.zipWith _ ((chs cs).map (dX n)) ((along n (chs cs) (rmap (wh c.1 c.2) Q)).map dR) = _
    rw [ih]; rfl
/-- a way down from Q -/
def Dwn (n : Nat) : NL.Row → List (Lt × S8) → Prop
  | _, [] => True
  | Q, c :: cs => MSs n Q c.1 c.2 ∧ Dwn n (rmap (wh c.1 c.2) Q) cs
theorem Dwn.chain {n : Nat} : ∀ {cs : List (Lt × S8)} {Q : NL.Row}, Dwn n Q cs → Chain n Q (cs.zip (along n (chs cs) Q))
  | [], _, _ => trivial
  | c :: cs, Q, h => ⟨h.1, rfl, Dwn.chain h.2⟩
theorem Dwn.rows {n : Nat} (hn : n ≤ 4) : ∀ {cs : List (Lt × S8)} {Q : NL.Row}, Dwn n Q cs → Q.length ≤ 1000 → RkR n Q → rlen Q ≤ 100 → NL.rowR Q → (∀ s ∈ chs cs, s.ok n) ∧ ∀ R' ∈ along n (chs cs) Q, RowOk n R' ∧ RkR n R' ∧ rlen R' ≤ 100 ∧ NL.rowR R'
  | [], _, _, _, _, _, _ => ⟨fun s hs => (by cases hs), fun R' hR => (by cases hR)⟩
  | c :: cs, Q, h, h1, h2, h3, h4 => by
    have ok := h.1.ok hn
    have k1 : (rmap (wh c.1 c.2) Q).length ≤ 1000 := by unfold rmap; rw [List.length_map]; exact h1
    have k2 : RkR n (rmap (wh c.1 c.2) Q) := RkR_rmap hn ok h2
    have k3 := fall_len h4 h.1
    have k4 : NL.rowR (rmap (wh c.1 c.2) Q) := NL.rmap_rowR _ _
    obtain ⟨i1, i2⟩ := Dwn.rows hn h.2 k1 k2 (by omega) k4
    refine ⟨fun s hs => ?_, fun R' hR => ?_⟩
    · rcases List.mem_cons.mp hs with rfl | hs
      · exact ok
      · exact i1 s hs
    · rcases List.mem_cons.mp (show R' ∈ rmap (wh c.1 c.2) Q :: along n (chs cs) (rmap (wh c.1 c.2) Q) from hR) with rfl | hR
      · exact ⟨row_ok k1 k2 (by omega), k2, by omega, k4⟩
      · exact i2 R' hR
section
variable {P : Program} {w : World} {K : PySem.W.Frag} {mg : Str → Option Value} {base : Heap}
def R__law_falls (xs : List Ds) (C : Ds → Prop) : Prop := ∃ (n : Nat) (R : NL.Row) (cs : List (Lt × S8)), xs = [.d (.int n), .d (dR R), .d (dRoad n (chs cs))] ∧ n ≤ 4 ∧ cs.length ≤ 1000 ∧ R.length ≤ 1000 ∧ RkR n R ∧ rlen R ≤ 100 ∧ NL.rowR R ∧ Dwn n R cs ∧ C (.d (.bool true))
theorem c__law_falls (G : Gs K mg) : Cal P w K mg base "_law_falls" 7 (spP R__law_falls) := by
  -- slots: 0=_law_n 1=_law_row_here 2=_law_steps_here 3=_law_step 4=_law_behind 5=_law_length_here
  have S : FnScope ["_law_n", "_law_row_here", "_law_steps_here", "_law_step", "_law_behind", "_law_length_here"] ["_law_n", "_law_row_here", "_law_steps_here"] (defScope (top 69)) := ⟨rfl, rfl, rfl, by decide +kernel, rfl, by decide +kernel, by decide +kernel⟩
  refine cal_P (G.df 56 _ rfl) S (fun _ _ _ _ _ _ us hl => match us, hl with | [_, _, _], _ => rfl) (fun xs C h => by obtain ⟨n, R, cs, e, hn, hcl, hRl, hRk, hRn, hRR, hD, hC⟩ := h; subst e; rfl) fun f cdv A outer s H0 E M xs C D hr h hrt hnx tr => ?_
  obtain ⟨n, R, cs, e, hn, hcl, hRl, hRk, hRn, hRR, hD, hC⟩ := h
  subst e
  have nd := S.nd
  obtain ⟨hso, hrows⟩ := hD.rows hn hRl hRk hRn hRR
  refine ss_forM (as := cs.zip (along n (chs cs) R)) (g := fun t => .d (.tuple [dX n (.ch t.1.1 t.1.2), dR t.2])) (dz := fun t ds' => (ds'.set 3 (.d (dX n (.ch t.1.1 t.1.2)))).set 4 (.d (dR t.2))) (fun done ds' H' => Same H0 H' ∧ ∃ (Q : NL.Row) (todo : List ((Lt × S8) × NL.Row)) (y3 y4 y5 : Ds), cs.zip (along n (chs cs) R) = done ++ todo ∧ ds' = [.d (.int n), .d (dR Q), .d (dRoad n (chs cs)), y3, y4, y5] ∧ Chain n Q todo ∧ Q.length ≤ 1000 ∧ RkR n Q ∧ rlen Q ≤ 100 ∧ NL.rowR Q)
    (EI.is (ei_zipM (G.fr 7 _ rfl) (e_var 2) (e_call3 (C := Is (.d (.list ((along n (chs cs) R).map dR)))) (c_rows_along G) (hr.mono (by decide)) (e_var 0) (e_var 1) (e_var 2) ⟨n, R, chs cs, rfl, hn, by unfold chs; rw [List.length_map]; exact hcl, hso, row_ok hRl hRk hRn, fun R' hR' => (hrows R' hR').1, rfl⟩)) (zip_items n cs R)) ?_ ?_ ?_ ?_
  · intro H2 r2
    exact ⟨r2, R, _, _, _, _, rfl, rfl, hD.chain, hRl, hRk, hRn, hRR⟩
  · rintro done t ds' H' ⟨_, Q, todo, y3, y4, y5, _, rfl, _⟩ _
    exact eh_two (i := 3) (j := 4) rfl nd
  · rintro done t todo ds' Hi H' eu ⟨s0, Q, todo2, y3, y4, y5, e2, rfl, hch, hQl, hQk, hQn, hQR⟩ sm' kq
    have et : todo2 = t :: todo := List.append_cancel_left (e2.symm.trans eu)
    subst et
    obtain ⟨hms, ht2, hch2⟩ := hch
    obtain ⟨⟨a, S'⟩, Q2⟩ := t
    simp only at hms ht2 hch2
    have ok := hms.ok hn
    have hlen := NL.rmap_len_wh (a := a) (S := S') ok.2.1 hQR
    rw [← ht2] at hlen
    have hfall := fall_len hQR hms
    rw [← ht2] at hfall
    have hcrQ : ∀ w ∈ Q, CR w := fun w hw => (hQR w hw).cr
    have hrQ := row_ok hQl hQk hQn
    have k1 : Q2.length ≤ 1000 := by rw [ht2]; unfold rmap; rw [List.length_map]; exact hQl
    have k2 : RkR n Q2 := by rw [ht2]; exact RkR_rmap hn ok hQk
    have k4 : NL.rowR Q2 := by rw [ht2]; exact NL.rmap_rowR _ _
    have hrQ2 := row_ok k1 k2 (by omega)
    refine ss_setI (i := 5) (y := .d (.int ((rlen Q : Int) - rcnt a Q + rcut S' Q))) (e_call3 (C := Is (.d (.int ((rlen Q : Int) - rcnt a Q + rcut S' Q)))) (c_length_behind G) (hr.mono (by decide)) (e_var 0) (e_var 1) (EE.is (e_slT (xs := [.str "change", dL a, dS n S']) (e_var 3) (.som e_int) .non) (y := .d (dCh n a S')) rfl) ⟨n, Q, a, S', rfl, hrQ, hcrQ, ok.2.2, rfl⟩) (fun H2 r2 => ?_) nd
    refine ss_if (P := Is false) (ET.is (et_or2 (k := false) (l := false) (ET.is (et_cmpI (op_neD (hu64 hr)) (e_call2 (C := Is (.d (.tuple [dCh n a S', .int ((rcnt a Q : Int) - rcut S' Q)]))) (c_made_shorter G) (hr.mono (by decide)) (e_var 0) (e_var 1) ⟨n, Q, rfl, hn, hrQ, hcrQ, fun h => (hms.not h).elim, fun b T h => by obtain ⟨rfl, rfl⟩ := hms.uniq h; rfl⟩) (e_tup (xs := [dCh n a S', .int ((rlen Q : Int) - ((rlen Q : Int) - rcnt a Q + rcut S' Q))]) (ea_c (EE.is (e_slT (xs := [.str "change", dL a, dS n S']) (e_var 3) (.som e_int) .non) (y := .d (dCh n a S')) rfl) (ea_c (e_sub (e_call1 (C := Is (.d (.int (rlen Q)))) (c__law_length G) (hr.mono (by decide)) (e_var 1) ⟨Q, rfl, hQl, fun w hw => by have := (hrQ.2 w hw).2; omega, rfl⟩) (e_var 5)) ea_nil)) (szl (by simp))) (rd_neD ?_ ?_)) ?_) (fun _ => ET.is (et_neI (e_var 5) (e_call1 (C := Is (.d (.int (rlen Q2)))) (c__law_length G) (hr.mono (by decide)) (e_var 4) ⟨Q2, rfl, k1, fun w hw => by have := (hrQ2.2 w hw).2; omega, rfl⟩)) ?_)) rfl) (fun hb H3 r3 => by cases hb) fun _ H3 r3 => ?_
    · exact (Sh.tup (k := 2) fun x hx => by
        simp only [List.mem_cons, List.not_mem_nil, or_false] at hx
        rcases hx with rfl | rfl
        · exact sh_ch n a S'
        · exact (Sh.int _).mono (by omega)).shaped (by omega)
    · exact (Sh.tup (k := 2) fun x hx => by
        simp only [List.mem_cons, List.not_mem_nil, or_false] at hx
        rcases hx with rfl | rfl
        · exact sh_ch n a S'
        · exact (Sh.int _).mono (by omega)).shaped (by omega)
    · have e1 : (rlen Q : Int) - ((rlen Q : Int) - rcnt a Q + rcut S' Q) = (rcnt a Q : Int) - rcut S' Q := by omega
      rw [e1, (Sh.tup (k := 2) (xs := [dCh n a S', .int ((rcnt a Q : Int) - rcut S' Q)]) fun x hx => by
        simp only [List.mem_cons, List.not_mem_nil, or_false] at hx
        rcases hx with rfl | rfl
        · exact sh_ch n a S'
        · exact (Sh.int _).mono (by omega)).refl]
      rfl
    · have : ((rlen Q : Int) - rcnt a Q + rcut S' Q) = rlen Q2 := by omega
      rw [this]; simp
    · refine ss_end (ss_if (P := Is false) (ET.is (et_ge (e_var 5) (e_call1 (C := Is (.d (.int (rlen Q)))) (c__law_length G) (hr.mono (by decide)) (e_var 1) ⟨Q, rfl, hQl, fun w hw => by have := (hrQ.2 w hw).2; omega, rfl⟩)) (decide_eq_false (by omega))) (fun hb H4 r4 => by cases hb) fun _ H4 r4 => ss_end ?_)
      refine ss_setI (i := 1) (y := .d (dR Q2)) (e_var 4) (fun H5 r5 => ss_nq fun H6 r6 => ⟨⟨(((((s0.trans sm').trans r2).trans r3).trans r4).trans r5).trans r6, Q2, todo, _, _, _, by rw [eu]; simp, rfl, hch2, k1, k2, by omega, k4⟩, kq.trans (Kq.r (r2.trans (r3.trans (r4.trans (r5.trans r6)))))⟩) nd
  · rintro ds' H' ⟨s0, Q, todo, y3, y4, y5, _, rfl, _⟩ _
    refine ss_ret e_bl fun v H2 y r e hv => ?_
    cases e
    exact hrt v H2 _ (s0.trans r) hC hv
end
end NQ

namespace NQ
open PySem PySem.Spec L2 NP
def tyName : PyData → String
  | .none => "NoneType"
  | .bool _ => "bool"
  | .int _ => "int"
  | .str _ => "str"
  | .list _ => "list"
  | .tuple _ => "tuple"
  | .dict _ => "dict"
theorem _root_.NP.Dt.tyOf {K : PySem.W.Frag} {M : Ms} {H : Hp} {v : V} {x : PyData} (h : Dt M H v x) : TyX K H v (.type (tyName x)) := by
  cases h with
  | non => exact .base .non
  | bl b => exact .base (.bl b)
  | int i => exact .base (.int i)
  | str z => exact .base (.str z)
  | lst m h r => exact .base (.lst h)
  | tup m h r => exact .base (.tup h)
section
variable {W : Wd} {X : Cx} {e a b o k tg iter : Expr} {es : List Expr} {ds : List Ds} {H H' : Hp} {pos p apos pos' p2 p3 p4 : Pos} {A B C : Ds → Prop} {D : Ends} {rest body els : List Stmt}
theorem e_isi {x : PyData} {T : String} {t : Str} {r : Bool} {q : Pos} (hm : X.mg "isinstance" = none) (ha : EE W X a ds H (Is (.d x))) (hb : EE W X b ds H (Is (.r (.ty T)))) (hk : kitB (tyName x) T = some r) (hg : Gl X "isinstance" := by rfl)
    (he : starEach [a, b] X.env = (false, eval a X.env) :: starEach [b] X.env := by rfl) (he2 : starEach [b] X.env = (false, eval b X.env) :: starEach [] X.env := by rfl) (hpl : (backTo pos (starEach [b] X.env)).any (·.1) = false := by rfl) : EE W X (.Call (.Name "isinstance" p) [a, b] [] pos) ds H (Is (.d (.bool r))) :=
  e_callB (he := he) (hpl := hpl) call_isi hm PyProof.Rows.boot_isinstance (ea_c ha (ea_c hb ea_nil he2) he) (fun _ e vs H1 tr hvs Q q => by
    cases e
    cases hvs with
    | cons hv h0 =>
      cases h0 with
      | cons hu h0 =>
        cases h0
        cases hu
        exact ⟨_, _, _, _, r, rfl, .ty T, Dt.tyOf hv, kit_ty hk, q _ H1 _ (W.refl _) rfl (.bl r)⟩) hg
theorem e_tupO {v1 v2 : V} {x1 : Nat} (ha : EE W X a ds H (Is (.r v1))) (hb : EE W X b ds H (Is (.r v2))) (hs : starEach [a, b] X.env = (false, eval a X.env) :: starEach [b] X.env := by rfl) (hs2 : starEach [b] X.env = (false, eval b X.env) :: starEach [] X.env := by rfl) : EE W X (.Tuple [a, b] x1 pos) ds H (Is (.o (.tup [v1, v2]))) := fun σ H1 r1 ok Q q =>
  tw_of (pe_tup (twa_pa (es := [a, b]))) (ea_c ha (ea_c hb ea_nil hs2) hs σ H1 r1 ok _ fun vs H2 ys r2 e hvs => by
    cases e
    cases hvs with
    | cons h1 hvs =>
    cases hvs with
    | cons h2 hvs =>
    cases hvs
    cases h1; cases h2
    refine ⟨by show 2 ≤ 16777216; decide, fun p hp => ?_⟩
    obtain ⟨mp, rp⟩ := new_ok (ok.mono r2).tr hp (.tup _)
    exact q _ _ _ (W.trans r2 rp) rfl ⟨p, rfl, mp, upd_same⟩)
theorem e_isi2 {x : PyData} {T U : String} {r1 r2 : Bool} (hm : X.mg "isinstance" = none) (ha : EE W X a ds H (Is (.d x))) (hb : EE W X b ds H (Is (.o (.tup [.ty T, .ty U])))) (hk : kitB (tyName x) T = some r1) (hk2 : kitB (tyName x) U = some r2) (hg : Gl X "isinstance" := by rfl)
    (he : starEach [a, b] X.env = (false, eval a X.env) :: starEach [b] X.env := by rfl) (he2 : starEach [b] X.env = (false, eval b X.env) :: starEach [] X.env := by rfl) (hpl : (backTo pos (starEach [b] X.env)).any (·.1) = false := by rfl) : EE W X (.Call (.Name "isinstance" p) [a, b] [] pos) ds H (Is (.d (.bool (r1 || r2)))) :=
  e_callB (he := he) (hpl := hpl) call_isiT hm PyProof.Rows.boot_isinstance (ea_c ha (ea_c hb ea_nil he2) he) (fun _ e vs H1 tr hvs Q q => by
    cases e
    cases hvs with
    | cons hv h0 =>
      cases h0 with
      | cons hu h0 =>
        cases h0
        obtain ⟨a', rfl, _, e⟩ := hu
        refine ⟨_, a', _, _, [.type T, .type U], r1 || r2, rfl, e, .cons (.ty T) (.cons (.ty U) .nil), Dt.tyOf hv, ?_, q _ H1 _ (W.refl _) rfl (.bl _)⟩
        refine kitAny_cons (kit_ty hk) (fun h1 => ?_) (fun h1 => by rw [h1]; rfl)
        refine kitAny_cons (kit_ty hk2) (fun h2 => by rw [h1, h2]; rfl) (fun h2 => by rw [h1, h2]; rfl)) hg
theorem e_and {y : Bool} (ha : EE W X a ds H (Is (.d (.bool true)))) (hb : EE W X b ds H (Is (.d (.bool y)))) : EE W X (.BoolOp .And [a, b] pos) ds H (Is (.d (.bool y))) := fun σ H1 r1 ok Q q =>
  tw_of (pe_and tw_pe (pe_one tw_pe)) (ha σ H1 r1 ok _ fun v H2 x r2 ex hv => by
    cases ex; cases hv
    exact ⟨true, rfl, iteT (hb σ H2 (W.trans r1 r2) (ok.mono r2) Q fun v H3 x r3 ex hv => q v H3 x (W.trans r2 r3) ex hv)⟩)
end
/-- data of one depth, texts at the ground -/
def Pl : Nat → PyData → Prop
  | 0, x => ∃ z, x = .str z
  | k + 1, x => ∃ xs, (x = .list xs ∨ x = .tuple xs) ∧ xs.length ≤ 1000 ∧ ∀ y ∈ xs, Pl k y
theorem kit_facts : kitB "list" "list" = some true ∧ kitB "list" "tuple" = some false ∧ kitB "tuple" "list" = some false ∧ kitB "tuple" "tuple" = some true ∧ kitB "str" "list" = some false ∧ kitB "str" "tuple" = some false ∧ kitB "str" "bool" = some false := by decide +kernel
section
variable {P : Program} {w : World} {K : PySem.W.Frag} {mg : Str → Option Value} {base : Heap}
def R_alike (k : Nat) (xs : List Ds) (C : Ds → Prop) : Prop := ∃ x, xs = [.d x, .d x] ∧ Pl k x ∧ C (.d (.bool true))
theorem c_alike (G : Gs K mg) : ∀ k, Cal P w K mg base "_law_alike" (k + 1) (spP (R_alike k)) := by
  obtain ⟨f1, f2, f3, f4, f5, f6, f7⟩ := kit_facts
  have S : FnScope ["_law_found", "_law_due", "_law_k"] ["_law_found", "_law_due"] (defScope (top 49)) := ⟨rfl, rfl, rfl, by decide +kernel, rfl, by decide +kernel, by decide +kernel⟩
  have nd := S.nd
  intro k
  induction k with
  | zero =>
    refine cal_P (G.df 36 _ rfl) S (fun _ _ _ _ _ _ us hl => match us, hl with | [_, _], _ => rfl) (fun xs C h => by obtain ⟨x, e, h⟩ := h; subst e; rfl) fun f cdv A outer s H0 E M xs C D hr h hrt hnx tr => ?_
    obtain ⟨x, e, ⟨z, rfl⟩, hC⟩ := h
    subst e
    refine ss_if (P := Is false) (et_valI (e_isi2 (x := .str z) (T := "list") (U := "tuple") (r1 := false) (r2 := false) (G.fr 11 _ rfl) (e_var 1) (e_tupO (e_ty (G.fr 10 _ rfl) PyProof.Rows.boot_list) (e_ty (G.fr 1 _ rfl) PyProof.Rows.boot_tuple)) f5 f6)) (fun hb H1 r1 => by cases hb) fun _ H1 r1 => ?_
    refine ss_end (ss_ret (e_and (y := true) (EE.is (e_cmpI op_eq (e_isi (x := .str z) (T := "bool") (t := "bool") (q := ⟨0, 0, 0, 0⟩) (G.fr 11 _ rfl) (e_var 0) (e_ty (G.fr 14 _ rfl) (by decide +kernel)) f7) (e_isi (x := .str z) (T := "bool") (t := "bool") (q := ⟨0, 0, 0, 0⟩) (G.fr 11 _ rfl) (e_var 1) (e_ty (G.fr 14 _ rfl) (by decide +kernel)) f7) rd_eqB) rfl) (EE.is (e_cmpI op_eq (e_var 0) (e_var 1) (rd_eqS (x := z) (y := z))) (by simp))) fun v H2 y r e hv => ?_)
    cases e
    exact hrt v H2 _ (r1.trans r) hC hv
  | succ k ih =>
    refine cal_P (G.df 36 _ rfl) S (fun _ _ _ _ _ _ us hl => match us, hl with | [_, _], _ => rfl) (fun xs C h => by obtain ⟨x, e, h⟩ := h; subst e; rfl) fun f cdv A outer s H0 E M xs C D hr h hrt hnx tr => ?_
    obtain ⟨x, e, ⟨ys, hx, hl, hy⟩, hC⟩ := h
    subst e
    have el : ∀ {X0 : Nat}, True := trivial
    rcases hx with rfl | rfl
    · refine ss_if (P := Is true) (et_valI (e_isi2 (x := .list ys) (T := "list") (U := "tuple") (r1 := true) (r2 := false) (G.fr 11 _ rfl) (e_var 1) (e_tupO (e_ty (G.fr 10 _ rfl) PyProof.Rows.boot_list) (e_ty (G.fr 1 _ rfl) PyProof.Rows.boot_tuple)) f1 f2)) (fun _ H1 r1 => ?_) (fun hb H1 r1 => by cases hb)
      refine ss_if (P := Is false) (ET.is (et_cmpI op_ne (e_isi (x := .list ys) (T := "list") (t := "list") (q := ⟨0, 0, 0, 0⟩) (G.fr 11 _ rfl) (e_var 0) (e_ty (G.fr 10 _ rfl) PyProof.Rows.boot_list) f1) (e_isi (x := .list ys) (T := "list") (t := "list") (q := ⟨0, 0, 0, 0⟩) (G.fr 11 _ rfl) (e_var 1) (e_ty (G.fr 10 _ rfl) PyProof.Rows.boot_list) f1) rd_neB) rfl) (fun hb H2 r2 => by cases hb) fun _ H2 r2 => ss_end ?_
      refine ss_if (P := Is false) (ET.is (et_cmpI op_ne (e_isi (x := .list ys) (T := "tuple") (t := "tuple") (q := ⟨0, 0, 0, 0⟩) (G.fr 11 _ rfl) (e_var 0) (e_ty (G.fr 1 _ rfl) PyProof.Rows.boot_tuple) f2) (e_isi (x := .list ys) (T := "tuple") (t := "tuple") (q := ⟨0, 0, 0, 0⟩) (G.fr 11 _ rfl) (e_var 1) (e_ty (G.fr 1 _ rfl) PyProof.Rows.boot_tuple) f2) rd_neB) rfl) (fun hb H3 r3 => by cases hb) fun _ H3 r3 => ss_end ?_
      refine ss_if (P := Is false) (ET.is (et_neI (e_lenL (G.fr 0 _ rfl) (e_var 0)) (e_lenL (G.fr 0 _ rfl) (e_var 1))) (by simp)) (fun hb H4 r4 => by cases hb) fun _ H4 r4 => ss_end ?_
      refine ss_ret (A := Is (.d (.bool true))) (EE.is (e_all (bs := (List.range ys.length).map fun _ => true) rfl (G.fr 12 _ rfl) (EE.is (e_lcM (j := 2) (List.range ys.length) (fun i => .d (.int i)) (fun _ => .bool true) (fun _ _ => dI_inj) nd (ei_rangeN (G.fr 5 _ rfl) (e_lenL (G.fr 0 _ rfl) (e_var 1)) (by omega)) (szl (by rw [List.length_range]; omega)) fun l i hi s0 H5 cl C fp => ?_) (by rw [List.map_map]; rfl))) (by simp)) fun v H5 y r e hv => ?_
      · have hi := List.mem_range.mp hi
        have ei : atI ys (i : Int) = some ys[i] := by rw [atI_nat, List.getElem?_eq_getElem hi]
        exact e_call2 ih (hr.mono (by omega)) (e_ixL (d := ys[i]) (e_var 0) (e_var 2) ei) (e_ixL (d := ys[i]) (e_var 1) (e_var 2) ei) ⟨ys[i], rfl, hy _ (List.getElem_mem _), rfl⟩
      · cases e
        exact hrt v H5 _ ((((r1.trans r2).trans r3).trans r4).trans r) hC hv
    · refine ss_if (P := Is true) (et_valI (e_isi2 (x := .tuple ys) (T := "list") (U := "tuple") (r1 := false) (r2 := true) (G.fr 11 _ rfl) (e_var 1) (e_tupO (e_ty (G.fr 10 _ rfl) PyProof.Rows.boot_list) (e_ty (G.fr 1 _ rfl) PyProof.Rows.boot_tuple)) f3 f4)) (fun _ H1 r1 => ?_) (fun hb H1 r1 => by cases hb)
      refine ss_if (P := Is false) (ET.is (et_cmpI op_ne (e_isi (x := .tuple ys) (T := "list") (t := "list") (q := ⟨0, 0, 0, 0⟩) (G.fr 11 _ rfl) (e_var 0) (e_ty (G.fr 10 _ rfl) PyProof.Rows.boot_list) f3) (e_isi (x := .tuple ys) (T := "list") (t := "list") (q := ⟨0, 0, 0, 0⟩) (G.fr 11 _ rfl) (e_var 1) (e_ty (G.fr 10 _ rfl) PyProof.Rows.boot_list) f3) rd_neB) rfl) (fun hb H2 r2 => by cases hb) fun _ H2 r2 => ss_end ?_
      refine ss_if (P := Is false) (ET.is (et_cmpI op_ne (e_isi (x := .tuple ys) (T := "tuple") (t := "tuple") (q := ⟨0, 0, 0, 0⟩) (G.fr 11 _ rfl) (e_var 0) (e_ty (G.fr 1 _ rfl) PyProof.Rows.boot_tuple) f4) (e_isi (x := .tuple ys) (T := "tuple") (t := "tuple") (q := ⟨0, 0, 0, 0⟩) (G.fr 11 _ rfl) (e_var 1) (e_ty (G.fr 1 _ rfl) PyProof.Rows.boot_tuple) f4) rd_neB) rfl) (fun hb H3 r3 => by cases hb) fun _ H3 r3 => ss_end ?_
      refine ss_if (P := Is false) (ET.is (et_neI (e_lenT (G.fr 0 _ rfl) (e_var 0)) (e_lenT (G.fr 0 _ rfl) (e_var 1))) (by simp)) (fun hb H4 r4 => by cases hb) fun _ H4 r4 => ss_end ?_
      refine ss_ret (A := Is (.d (.bool true))) (EE.is (e_all (bs := (List.range ys.length).map fun _ => true) rfl (G.fr 12 _ rfl) (EE.is (e_lcM (j := 2) (List.range ys.length) (fun i => .d (.int i)) (fun _ => .bool true) (fun _ _ => dI_inj) nd (ei_rangeN (G.fr 5 _ rfl) (e_lenT (G.fr 0 _ rfl) (e_var 1)) (by omega)) (szl (by rw [List.length_range]; omega)) fun l i hi s0 H5 cl C fp => ?_) (by rw [List.map_map]; rfl))) (by simp)) fun v H5 y r e hv => ?_
      · have hi := List.mem_range.mp hi
        have ei : atI ys (i : Int) = some ys[i] := by rw [atI_nat, List.getElem?_eq_getElem hi]
        exact e_call2 ih (hr.mono (by omega)) (e_ixT (d := ys[i]) (e_var 0) (e_var 2) ei) (e_ixT (d := ys[i]) (e_var 1) (e_var 2) ei) ⟨ys[i], rfl, hy _ (List.getElem_mem _), rfl⟩
      · cases e
        exact hrt v H5 _ ((((r1.trans r2).trans r3).trans r4).trans r) hC hv
end
end NQ

namespace NQ
open PySem PySem.Spec L2 NP
structure FS (c fl : Addr) (H0 : Hp) (ns : List Int) (i x2 x3 x4 : Int) (H : Hp) : Prop where
  ne : c ≠ fl
  sz : ns.length ≤ sizeLine
  hc : H c = some (.lst (ns.map .int))
  hf : H fl = some (.lst [.ref c, .int i, .int x2, .int x3, .int x4])
  i0 : 0 ≤ i
  x20 : 0 ≤ x2
  x30 : 0 ≤ x3
  x31 : x3 < 2147483647
  x40 : 0 ≤ x4
  kp : ∀ a o, a ≠ fl → H0 a = some o → H a = some o
section
variable {c fl : Addr} {H0 H H' : Hp} {ns : List Int} {i x2 x3 x4 : Int}
theorem FS.mono (h : FS c fl H0 ns i x2 x3 x4 H) (s : Same H H') : FS c fl H0 ns i x2 x3 x4 H' := ⟨h.ne, h.sz, s _ _ h.hc, s _ _ h.hf, h.i0, h.x20, h.x30, h.x31, h.x40, fun a o n e => s _ _ (h.kp a o n e)⟩
theorem FS.upd (h : FS c fl H0 ns i x2 x3 x4 H) {j y2 y3 y4 : Int} {vs : List V} (e : vs = [.ref c, .int j, .int y2, .int y3, .int y4]) (a1 : 0 ≤ j) (a2 : 0 ≤ y2) (a3 : 0 ≤ y3) (a4 : y3 < 2147483647) (a5 : 0 ≤ y4) : FS c fl H0 ns j y2 y3 y4 (L2.upd H fl (.lst vs)) :=
  ⟨h.ne, h.sz, by rw [upd_ne h.ne]; exact h.hc, by rw [upd_same, e], a1, a2, a3, a4, a5, fun a o n e => by rw [upd_ne n]; exact h.kp a o n e⟩
theorem FS.flow (h : FS c fl H0 ns i x2 x3 x4 H) : FlowOk c fl H := ⟨ns, i, x2, x3, x4, h.ne, h.sz, h.hc, h.hf, h.i0, h.x20, h.x30, h.x31, h.x40⟩
theorem FS.rfl (h : FS c fl H0 ns i x2 x3 x4 H) : Rfl c fl H0 H := ⟨h.kp, fun _ => h.flow, fun _ => h.flow.nt⟩
end
section
variable {W : Wd} {X : Cx} {e a b o k tg iter : Expr} {es : List Expr} {ds : List Ds} {H H' : Hp} {pos p apos pos' p2 p3 p4 : Pos} {A B C : Ds → Prop} {D : Ends} {rest body els : List Stmt}
theorem e_lenX {l : Addr} {vs : List V} (hm : X.mg "len" = none) (ha : EE W X a ds H (Is (.r (.ref l)))) (h : ∀ H', W.R H H' → H' l = some (.lst vs)) (hg : Gl X "len" := by rfl) (he : starEach [a] X.env = (false, eval a X.env) :: starEach [] X.env := by rfl) : EE W X (.Call (.Name "len" p) [a] [] pos) ds H (Is (.d (.int vs.length))) := fun σ H1 r1 ok Q q =>
  tw_of (pe_callB call_len_seq hg hm PySem.boot_len (pa_cons tw_pe pa_nil he) (he := he)) (ha.at σ H1 r1 ok _ fun H2 r2 => ⟨l, vs, rfl, .inl (SqL.of (h H2 (W.trans r1 r2))), q _ H2 _ r2 rfl (.int _)⟩)
theorem ss_sw {M : Ms} {c fl : Addr} (hf : FlowOk c fl H) (h : ∀ H1, Rfl c fl H H1 → FlowOk c fl H1 → SS ((pur M).add fl) X body D ds H1) : SS (dr M c fl) X body D ds H := fun σ H1 r ok => h H1 r (r.2.1 hf) σ H1 (Same.refl _) ⟨ok.sd, ok.tr⟩
end
section
variable {P : Program} {w : World} {K : PySem.W.Frag} {mg : Str → Option Value} {base : Heap}
def R_pick (xs : List Ds) (C : Ds → Prop) : Prop := ∃ many : Nat, xs = [.d (.int many)] ∧ 0 < many ∧ many ≤ 1000 ∧ ∀ r : Nat, r < many → C (.d (.int r))
theorem c_pick (G : Gs K mg) : Cal P w K mg base "_law_pick" 1 (spD R_pick) := by
  have S : FnScope ["_law_flow_here", "_law_many", "_law_cell", "_law_digit"] ["_law_flow_here", "_law_many"] (defScope (top 48)) := ⟨rfl, rfl, rfl, by decide +kernel, rfl, by decide +kernel, by decide +kernel⟩
  have nd := S.nd
  refine cal_D (G.df 35 _ rfl) S (fun _ _ _ _ _ _ us hl => match us, hl with | [_, _], _ => rfl) (fun xs C h => by obtain ⟨m, e, h⟩ := h; subst e; rfl) fun f cdv A outer s H0 E M c fl xs C D hr h hf hrt hnx tr0 => ?_
  obtain ⟨many, e, hm0, hm1, hC⟩ := h
  subst e
  refine ss_sw hf fun H1 r1 hf1 => ?_
  obtain ⟨ns, i, x2, x3, x4, h1, h2, h3, h4, h5, h6, h7, h8, h9⟩ := hf1
  have F1 : FS c fl H0 ns i x2 x3 x4 H1 := ⟨h1, h2, h3, h4, h5, h6, h7, h8, h9, r1.1⟩
  clear h1 h2 h3 h4 h5 h6 h7 h8 h9 r1
  -- an item of the drawing list
  have it : ∀ {H : Hp} {i x2 x3 x4 : Int} {y2 y3 : Ds} {q1 q2 q3 : Pos} {jj : Nat} (z : Int) {v : Int}, FS c fl H0 ns i x2 x3 x4 H → atI [V.ref c, .int i, .int x2, .int x3, .int x4] z = some (.int v) → EE ((pur M).add fl) (XX P w K mg base ["_law_flow_here", "_law_many", "_law_cell", "_law_digit"] "_law_pick" (top 48) f cdv A outer s H0 E) (.Subscript (.Name "_law_flow_here" q1) (.Constant (.int z) jj q2) q3) [.r (.ref fl), .d (.int many), y2, y3] H (Is (.d (.int v))) := fun {H i x2 x3 x4 y2 y3 q1 q2 q3 jj} z {v} F hz =>
    e_ixF (e_var 0) e_int (fun H' r => r _ _ F.hf) hz (fun _ _ => .int _)
  -- the end
  have fin2 : ∀ {H : Hp} {i x2 x3 x4 : Int} {y2 y3 : Ds}, FS c fl H0 ns i x2 x3 x4 H → SS ((pur M).add fl) (XX P w K mg base ["_law_flow_here", "_law_many", "_law_cell", "_law_digit"] "_law_pick" (top 48) f cdv A outer s H0 E) ((defBody (top 48)).drop 2) D [.r (.ref fl), .d (.int many), y2, y3] H := by
    intro H i x2 x3 x4 y2 y3 F
    refine ss_ixput (d := .int (x4 + 1)) (j := 4) (fun H' r => r _ _ F.hf) Wd.addM (e_add (it 4 F rfl) e_int) (e_var 0) e_int rfl rfl fun H2 r2 => ?_
    have F2 := (F.mono r2).upd (j := i) (y2 := x2) (y3 := x3) (y4 := x4 + 1) rfl F.i0 F.x20 F.x30 F.x31 (by have := F.x40; omega)
    have hx4 := F.x40
    have hx3 := F.x30
    refine ss_ixput (d := .int ((x3 * 48271 + 12820163 + (x4 + 1)) % 2147483647)) (j := 3) (fun H' r => r _ _ F2.hf) Wd.addM (e_mod (e_add (e_add (e_mul (it 3 F2 rfl) e_int (.inr (by omega))) e_int) (it 4 F2 rfl)) e_int (by omega)) (e_var 0) e_int rfl rfl fun H3 r3 => ?_
    have m1 := Int.emod_nonneg (x3 * 48271 + 12820163 + (x4 + 1)) (b := 2147483647) (by omega)
    have m2 := Int.emod_lt_of_pos (x3 * 48271 + 12820163 + (x4 + 1)) (b := 2147483647) (by omega)
    generalize (x3 * 48271 + 12820163 + (x4 + 1)) % 2147483647 = z at m1 m2
    have F3 := (F2.mono r3).upd (j := i) (y2 := x2) (y3 := z) (y4 := x4 + 1) rfl F.i0 F.x20 m1 m2 (by omega)
    have hmany : (0 : Int) < many := by omega
    have n1 := Int.emod_nonneg (((z % 65521 + 1) * (z / 65521 + 7919)) % 1000003 / 7) (b := (many : Int)) (by omega)
    have n2 := Int.emod_lt_of_pos (((z % 65521 + 1) * (z / 65521 + 7919)) % 1000003 / 7) hmany
    have b1 := Int.emod_nonneg z (b := 65521) (by omega)
    have b2 := Int.emod_lt_of_pos z (b := 65521) (by omega)
    refine ss_ret (A := Is (.d (.int ((((z % 65521 + 1) * (z / 65521 + 7919)) % 1000003 / 7) % many)))) (e_mod (e_fdiv (e_mod (e_mul (e_add (e_mod (it 3 F3 rfl) e_int (by omega)) e_int) (e_add (e_fdiv (it 3 F3 rfl) e_int ⟨by omega, by omega⟩) e_int) (.inl (by omega))) e_int (by omega)) e_int ⟨by omega, by omega⟩) (e_var 1) hmany) fun v H4 y r4 e hv => ?_
    cases e
    cases hv
    have en : (((z % 65521 + 1) * (z / 65521 + 7919)) % 1000003 / 7) % (many : Int) = (((((z % 65521 + 1) * (z / 65521 + 7919)) % 1000003 / 7) % (many : Int)).toNat : Nat) := by omega
    rw [en]
    exact hrt _ H4 _ (F3.mono r4).rfl (hC _ (by omega)) (.int _)
  have fin1 : ∀ {H : Hp} {i x2 x3 x4 : Int} {y2 y3 : Ds}, FS c fl H0 ns i x2 x3 x4 H → SS ((pur M).add fl) (XX P w K mg base ["_law_flow_here", "_law_many", "_law_cell", "_law_digit"] "_law_pick" (top 48) f cdv A outer s H0 E) ((defBody (top 48)).drop 1) D [.r (.ref fl), .d (.int many), y2, y3] H := by
    intro H i x2 x3 x4 y2 y3 F
    have hmany : (0 : Int) < many := by omega
    refine ss_if (P := Is (decide (0 < x2))) (et_gt (it 2 F rfl) e_int) (fun hb H2 r2 => ?_) fun hb H2 r2 => ss_end (fin2 (F.mono r2))
    have F2 := F.mono r2
    have hx2 := F.x20
    refine ss_setI (i := 3) (y := .d (.int (x2 % many))) (e_mod (it 2 F2 rfl) (e_var 1) hmany) (fun H3 r3 => ?_) nd
    have F3 := F2.mono r3
    refine ss_ixput (d := .int (x2 / many)) (j := 2) (fun H' r => r _ _ F3.hf) Wd.addM (e_fdiv (it 2 F3 rfl) (e_var 1) ⟨hmany, by omega⟩) (e_var 0) e_int rfl rfl fun H4 r4 => ?_
    have F4 := (F3.mono r4).upd (j := i) (y2 := x2 / many) (y3 := x3) (y4 := x4) rfl F.i0 (Int.ediv_nonneg hx2 (by omega)) F.x30 F.x31 F.x40
    have n1 := Int.emod_nonneg x2 (b := (many : Int)) (by omega)
    have n2 := Int.emod_lt_of_pos x2 hmany
    refine ss_ret (e_var 3) fun v H5 y r5 e hv => ?_
    cases e
    cases hv
    have en : x2 % (many : Int) = ((x2 % (many : Int)).toNat : Nat) := by omega
    rw [en]
    exact hrt _ H5 _ (F4.mono r5).rfl (hC _ (by omega)) (.int _)
  refine ss_if (P := Is (decide (x2 = 0) && decide (i < ns.length))) (et_and2 (et_eqI (it 2 F1 rfl) e_int) fun _ => ET.is (et_lt (it 1 F1 rfl) (e_lenX (l := c) (vs := ns.map .int) (G.fr 0 _ rfl) (e_ixF (v := .ref c) (e_var 0) e_int (fun H' r => r _ _ F1.hf) rfl (fun _ _ => rfl)) (fun H' r => r _ _ F1.hc))) (by rw [List.length_map])) (fun hb H2 r2 => ?_) fun hb H2 r2 => ss_end (fin1 (F1.mono r2))
  have hb : x2 = 0 ∧ i < ns.length := by simpa [Is] using hb.symm
  obtain ⟨hb1, hb2⟩ := hb
  have F2 := F1.mono r2
  have hi0 := F1.i0
  obtain ⟨cell, hcell⟩ : ∃ z, ns[i.toNat]? = some z := ⟨_, List.getElem?_eq_getElem (by omega)⟩
  have hat : atI (ns.map V.int) i = some (.int cell) := by
    have : i = ((i.toNat : Nat) : Int) := by omega
    rw [this, atI_nat, List.getElem?_map, hcell]; rfl
  refine ss_setI (i := 2) (y := .d (.int cell)) (e_ixF (l := c) (vs := ns.map .int) (e_ixF (v := .ref c) (e_var 0) e_int (fun H' r => r _ _ F2.hf) rfl (fun _ _ => rfl)) (it 1 F2 rfl) (fun H' r => r _ _ F2.hc) hat (fun _ _ => .int _)) (fun H3 r3 => ?_) nd
  have F3 := F2.mono r3
  refine ss_ixput (d := .int (i + 1)) (j := 1) (fun H' r => r _ _ F3.hf) Wd.addM (e_add (it 1 F3 rfl) e_int) (e_var 0) e_int rfl rfl fun H4 r4 => ?_
  have F4 := (F3.mono r4).upd (j := i + 1) (y2 := x2) (y3 := x3) (y4 := x4) rfl (by omega) F1.x20 F1.x30 F1.x31 F1.x40
  refine ss_if (P := Is (decide ((10 : Int) ^ 18 ≤ cell))) (ET.is (et_ge (e_var 2) (e_pow e_int e_int ⟨by omega, by omega, by decide⟩)) rfl) (fun hb H5 r5 => ?_) fun hb H5 r5 => ?_
  · have hb := of_decide_eq_true hb.symm
    have F5 := F4.mono r5
    refine ss_ixput (d := .int cell) (j := 2) (fun H' r => r _ _ F5.hf) Wd.addM (e_var 2) (e_var 0) e_int rfl rfl fun H6 r6 => ss_end (ss_end (fin1 ((F5.mono r6).upd (j := i + 1) (y2 := cell) (y3 := x3) (y4 := x4) rfl (by omega) ?_ F1.x30 F1.x31 F1.x40)))
    have : (0 : Int) ≤ 10 ^ 18 := by decide
    omega
  · have F5 := F4.mono r5
    have m1 := Int.emod_nonneg (x3 * 40013 + cell % 1000003 + 1) (b := 2147483647) (by omega)
    have m2 := Int.emod_lt_of_pos (x3 * 40013 + cell % 1000003 + 1) (b := 2147483647) (by omega)
    refine ss_ixput (d := .int ((x3 * 40013 + cell % 1000003 + 1) % 2147483647)) (j := 3) (fun H' r => r _ _ F5.hf) Wd.addM (e_mod (e_add (e_add (e_mul (it 3 F5 rfl) e_int (.inr (by omega))) (e_mod (e_var 2) e_int (by omega))) e_int) e_int (by omega)) (e_var 0) e_int rfl rfl fun H6 r6 => ss_end (ss_end (fin1 ((F5.mono r6).upd (j := i + 1) (y2 := x2) (y3 := (x3 * 40013 + cell % 1000003 + 1) % 2147483647) (y4 := x4) rfl (by omega) F1.x20 m1 m2 F1.x40)))
end
end NQ

namespace NQ
open PySem PySem.Spec L2 NP
open NL (inv red invw mid Red S8 Side wh rtold rmap sub Per single cp lp sm cutp cut rcut CR rlen rcnt)
theorem red_snoc {s : NL.W} (h : Red s) {x : Lt} (hx : s = [] ∨ s.getLast? ≠ some (inv x)) : Red (s ++ [x]) := by
  have := (push_red h x).1
  unfold push at this
  by_cases c : s.getLast? = some (inv x)
  · rcases hx with rfl | hx
    · cases c
    · exact absurd c hx
  · rw [if_neg c] at this; exact this
theorem lettersOf_nodup (n : Nat) (h : n ≤ 4) : (lettersOf n).Nodup := by
  have : n = 0 ∨ n = 1 ∨ n = 2 ∨ n = 3 ∨ n = 4 := by omega
  rcases this with rfl | rfl | rfl | rfl | rfl <;> decide
theorem enc_nil {s : NL.W} : (enc s = "") = (s = []) := propext ⟨fun h => by
  have : enc s = enc [] := h
  exact enc_inj this, fun h => by rw [h]; rfl⟩
section
variable {W : Wd} {X : Cx} {e a b o k tg iter : Expr} {es : List Expr} {ds : List Ds} {H H' : Hp} {pos p apos pos' p2 p3 p4 : Pos} {A B C : Ds → Prop} {D : Ends} {rest body els : List Stmt}
/-- a draw -/
theorem e_pick {P : Program} {w : World} {base : Heap} {K : PySem.W.Frag} {mg : Str → Option Value} {many : Nat} {c fl : Addr} {q1 : Pos} (hW : Dw W c fl) (cl : Cal X.prog X.w X.K X.mg X.base "_law_pick" 1 (spD R_pick)) (hr : Room 1 X.A) (hf : FlowOk c fl H) (ha : EE W X a ds H (Is (.r (.ref fl)))) (hb : EE W X b ds H (Is (.d (.int many)))) (h0 : 0 < many) (h1 : many ≤ 1000)
    (hg : Gl X "_law_pick" := by rfl) (he : starEach [a, b] X.env = (false, eval a X.env) :: starEach [b] X.env := by rfl) (he2 : starEach [b] X.env = (false, eval b X.env) :: starEach [] X.env := by rfl) (hpl : (backTo pos (starEach [b] X.env)).any (·.1) = false := by rfl) :
    EE W X (.Call (.Name "_law_pick" q1) [a, b] [] pos) ds H (fun y => ∃ r : Nat, y = .d (.int r) ∧ r < many) :=
  e_draw hW cl hr hf (ea_c ha (ea_c hb ea_nil he2) he) ⟨many, rfl, h0, h1, fun r hr => ⟨r, rfl, hr⟩⟩ hg (by decide) he hpl
end
section
variable {P : Program} {w : World} {K : PySem.W.Frag} {mg : Str → Option Value} {base : Heap}
def R_word (xs : List Ds) (C : Ds → Prop) : Prop := ∃ n most : Nat, xs = [.d (.int n), .d (.int most)] ∧ 1 ≤ n ∧ n ≤ 4 ∧ most ≤ 100 ∧ ∀ u : NL.W, Red u → Rk n u → u.length ≤ most → C (.d (dW u))
theorem c_word (G : Gs K mg) : Cal P w K mg base "_law_word" 2 (spD R_word) := by
  have S : FnScope ["_law_flow_here", "_law_n", "_law_most", "_law_found", "_law_letters_here", "_law_k", "_law_some", "_law_letter"] ["_law_flow_here", "_law_n", "_law_most"] (defScope (top 55)) := ⟨rfl, rfl, rfl, by decide +kernel, rfl, by decide +kernel, by decide +kernel⟩
  have nd := S.nd
  refine cal_D (G.df 42 _ rfl) S (fun _ _ _ _ _ _ us hl => match us, hl with | [_, _, _], _ => rfl) (fun xs C h => by obtain ⟨n, m, e, h⟩ := h; subst e; rfl) fun f cdv A outer s H0 E M c fl xs C D hr h hf hrt hnx tr0 => ?_
  obtain ⟨n, most, e, hn1, hn, hm, hC⟩ := h
  subst e
  have hW := Dw.dr M c fl
  refine ss_setI (i := 3) (y := .d (dW [])) e_str (fun H1 r1 => ?_) nd
  refine ss_setI (i := 4) (y := .d (.list ((lettersOf n).map dL))) (e_call1 (c__law_letters G) (hr.mono (by decide)) (e_var 1) ⟨n, rfl, hn, rfl⟩) (fun H2 r2 => ?_) nd
  have r12 : Rfl c fl H0 H2 := (dr M c fl).trans r1 r2
  refine ss_forE (P := fun as : List Nat => ∃ m, as = List.range m ∧ m < most + 1) (g := fun i => .d (.int i)) (dz := fun i ds' => ds'.set 5 (.d (.int i))) (fun as done ds' H' => Rfl c fl H0 H' ∧ ∃ (u : NL.W) (y5 y6 y7 : Ds), ds' = [.r (.ref fl), .d (.int n), .d (.int most), .d (dW u), .d (.list ((lettersOf n).map dL)), y5, y6, y7] ∧ Red u ∧ Rk n u ∧ u.length = done.length) (ei_rangeP (P := fun m => m < most + 1) (G.fr 5 _ rfl) (e_pick (P := P) (w := w) (base := base) (K := K) (mg := mg) hW (c_pick G) (hr.mono (by decide)) (r12.2.1 hf) (e_var 0) (EE.is (e_add (e_var 2) e_int) rfl) (by omega) (by omega)) (fun m hm => by omega)) ?_ ?_ ?_ ?_
  · intro as _ H3 r3
    exact ⟨(dr M c fl).trans r12 r3, [], _, _, _, rfl, trivial, fun x hx => (by cases hx), rfl⟩
  · rintro as _ done i ds' H' ⟨_, u, y5, y6, y7, rfl, _⟩ _
    exact eh_name (i := 5) nd
  · rintro as ⟨m, rfl, hm2⟩ done i todo ds' Hi H' eu ⟨s0, u, y5, y6, y7, rfl, hred, hrk, hul⟩ sm' kq
    have hdl : done.length + 1 ≤ m := by
      have := congrArg List.length eu
      simp at this
      omega
    have s1 : Rfl c fl H0 H' := (dr M c fl).trans s0 sm'
    refine ss_lcMF (i := 6) (j := 7) (lettersOf n) (fun x => .d (dL x)) dL (fun x => u.isEmpty || !decide (u.getLast? = some (inv x))) (fun _ _ => dL_inj) nd (ei_lstM (e_var 4)) (szl (by rw [lettersOf_len n hn]; omega)) (fun l x hx s0 H3 cl C fp => ?_) (fun l x hx _ s0 H3 cl C fp => e_var 7) fun H3 r3 => ?_
    · refine et_or2 (k := u.isEmpty) (ET.is (et_cmpI op_eq (e_var 3) e_str rd_eqS) (by rw [Bool.eq_iff_iff, decide_eq_true_eq, enc_nil]; simp)) fun he => ?_
      have hne : u ≠ [] := by intro z; subst z; cases he
      obtain ⟨b, hb⟩ : ∃ b, u.getLast? = some b := ⟨_, List.getLast?_eq_some_getLast hne⟩
      refine ET.is (et_neL (y := inv b) (e_var 7) (e_call1 (c__law_contrary G) (hr.mono (by decide)) (e_ixW (x := b) (e_var 3) (e_neg e_int) (by omega) (by rw [← hb]; exact atI_last u hne)) ⟨b, rfl, rfl⟩)) ?_
      rw [hb]
      congr 2
      simp only [Option.some.injEq]
      exact propext ⟨fun h => by rw [h, NL.inv_inv], fun h => by rw [h, NL.inv_inv]⟩
    · have s3 : Rfl c fl H0 H3 := (dr M c fl).trans s1 r3
      generalize hL : (lettersOf n).filter (fun x => u.isEmpty || !decide (u.getLast? = some (inv x))) = L
      have hLx : ∀ x ∈ L, x.val < 2 * n ∧ (u = [] ∨ u.getLast? ≠ some (inv x)) := by
        intro x hx
        rw [← hL, List.mem_filter] at hx
        refine ⟨(mem_letters n x).mp hx.1, ?_⟩
        have := hx.2
        simp at this
        exact this
      have hL0 : 0 < L.length := by
        by_cases h0 : (0 : Lt) ∈ L
        · exact List.length_pos_of_mem h0
        · have h1 : (1 : Lt) ∈ L := by
            rw [← hL, List.mem_filter] at h0 ⊢
            refine ⟨(mem_letters n 1).mpr (by show 1 < 2 * n; omega), ?_⟩
            cases he : u.isEmpty
            · have : u.getLast? = some (inv 0) := Classical.byContradiction fun c => h0 ⟨(mem_letters n 0).mpr (by show 0 < 2 * n; omega), by simp [c]⟩
              rw [this]; decide
            · rfl
          exact List.length_pos_of_mem h1
      have hLl : L.length ≤ 8 := by
        rw [← hL]
        have := List.length_filter_le (fun x => u.isEmpty || !decide (u.getLast? = some (inv x))) (lettersOf n)
        rw [lettersOf_len n hn] at this
        omega
      refine ss_set (i := 3) (A := fun y => ∃ x, x ∈ L ∧ y = .d (dW (u ++ [x]))) (e_op op_add_str (e_var 3) (e_ixLP (xs := L.map dL) (P := fun j => j < L.length) (e_var 6) (e_pick (P := P) (w := w) (base := base) (K := K) (mg := mg) hW (c_pick G) (hr.mono (by decide)) (s3.2.1 hf) (e_var 0) (EE.is (e_lenL (G.fr 0 _ rfl) (e_var 6)) (by rw [List.length_map])) hL0 (by omega)) (fun j hj => by rw [List.length_map]; exact hj)) fun x y ex ey => ?_) (fun y H4 r4 ⟨x, hx, ey⟩ => ?_) nd
      · cases ex
        obtain ⟨j, d, hd, _, ey⟩ := ey
        subst ey
        rw [List.getElem?_map] at hd
        cases hx : L[j]? with
        | none => rw [hx] at hd; cases hd
        | some x =>
          rw [hx] at hd
          cases hd
          have hl2 : (enc u).length + (enc [x]).length ≤ sizeLine := by rw [enc_len, enc_len]; exact Nat.le_of_lt (szl (by simp; omega))
          exact fun v u' H1 tr hv hu Q q => rd_str hl2 v u' H1 tr hv hu Q fun z H2 c r hc hz => q z H2 c r ⟨x, List.mem_of_getElem? hx, by rw [hc, enc_append]⟩ hz
      · subst ey
        obtain ⟨h1, h2⟩ := hLx x hx
        refine ss_nq fun H5 r5 => ⟨⟨(dr M c fl).trans ((dr M c fl).trans s3 r4) r5, u ++ [x], _, _, _, rfl, red_snoc hred h2, fun z hz => ?_, by simp [hul]⟩, kq.trans (Kq.r ((dr M c fl).trans r3 ((dr M c fl).trans r4 r5)))⟩
        rcases List.mem_append.mp hz with hz | hz
        · exact hrk z hz
        · simp at hz; subst hz; exact h1
  · rintro as ⟨m, rfl, hm2⟩ ds' H' ⟨s0, u, y5, y6, y7, rfl, hred, hrk, hul⟩ _
    rw [List.length_range] at hul
    refine ss_ret (e_var 3) fun v H2 y r e hv => ?_
    cases e
    exact hrt v H2 _ ((dr M c fl).trans s0 r) (hC u hred hrk (by omega)) hv
end
end NQ

namespace NQ
open PySem PySem.Spec L2 NP
open NL (inv red invw mid Red S8 Side wh rtold rmap sub Per single cp lp sm cutp cut rcut CR rlen rcnt)
section
variable {P : Program} {w : World} {K : PySem.W.Frag} {mg : Str → Option Value} {base : Heap}
def R_drawn_change (xs : List Ds) (C : Ds → Prop) : Prop := ∃ n : Nat, xs = [.d (.int n)] ∧ 1 ≤ n ∧ n ≤ 4 ∧ ∀ a S, (Sx.ch a S).ok n → C (.d (dCh n a S))
theorem c_drawn_change (G : Gs K mg) : Cal P w K mg base "_law_drawn_change" 2 (spD R_drawn_change) := by
  have S : FnScope ["_law_flow_here", "_law_n", "_law_letter", "_law_side", "_law_other"] ["_law_flow_here", "_law_n"] (defScope (top 60)) := ⟨rfl, rfl, rfl, by decide +kernel, rfl, by decide +kernel, by decide +kernel⟩
  have nd := S.nd
  refine cal_D (G.df 47 _ rfl) S (fun _ _ _ _ _ _ us hl => match us, hl with | [_, _], _ => rfl) (fun xs C h => by obtain ⟨n, e, h⟩ := h; subst e; rfl) fun f cdv A outer s H0 E M c fl xs C D hr h hf hrt hnx tr0 => ?_
  obtain ⟨n, e, hn1, hn, hC⟩ := h
  subst e
  have hW := Dw.dr M c fl
  have tR := fun {a b c' : Hp} => (dr M c fl).trans (H := a) (H1 := b) (H2 := c')
  refine ss_set (i := 2) (A := fun y => ∃ x : Lt, x.val < 2 * n ∧ y = .d (dL x)) (EE.imp (e_ixLP (xs := (lettersOf n).map dL) (P := fun j => j < 2 * n) (e_call1 (C := Is (.d (.list ((lettersOf n).map dL)))) (c__law_letters G) (hr.mono (by decide)) (e_var 1) ⟨n, rfl, hn, rfl⟩) (e_pick (P := P) (w := w) (base := base) (K := K) (mg := mg) (many := 2 * n) hW (c_pick G) (hr.mono (by decide)) hf (e_var 0) (EE.is (e_mul e_int (e_var 1) (.inl (by omega))) (by congr 1)) (by omega) (by omega)) (fun j hj => by rw [List.length_map, lettersOf_len n hn]; exact hj)) (fun y ⟨j, d, hd, hj, ey⟩ => ?_)) (fun y H1 r1 ⟨a, ha, ey⟩ => ?_) nd
  · rw [List.getElem?_map] at hd
    cases hx : (lettersOf n)[j]? with
    | none => rw [hx] at hd; cases hd
    | some x =>
      rw [hx] at hd
      cases hd
      exact ⟨x, (mem_letters n x).mp (List.mem_of_getElem? hx), ey⟩
  subst ey
  refine ss_new (i := 3) (u := .lst []) (by intro _ h; cases h) new_lst (fun p H2 r2 hp => ?_) nd
  have r02 : Rfl c fl H0 H2 := tR r1 r2
  have h0 := rfl_none r02 hp hf
  have npf : p ≠ fl := fun z => (hf.som).2 (by rw [← z]; exact h0)
  have hW2 : Dw ((dr M c fl).add p) c fl := hW.add p
  have nF : ¬ ((dr M c fl).add p).F p := npf
  have kR := fun {a b : Hp} (h : (dr M c fl).R a b) => Kq.r (W := (dr M c fl).add p) h
  refine ss_forM (as := lettersOf n) (g := fun x => .d (dL x)) (dz := fun x ds' => ds'.set 4 (.d (dL x))) (fun done ds' H' => Rfl c fl H0 H' ∧ ∃ (T : S8) (y4 : Ds), ds' = [.r (.ref fl), .d (.int n), .d (dL a), .r (.ref p), y4] ∧ LB ((dr M c fl).add p).M H' p ((done.filter T).map dL) ∧ (a ∈ done → T a = true) ∧ (inv a ∈ done → T (inv a) = false)) (ei_lstM (f := dL) (e_call1 (c__law_letters G) (hr.mono (by decide)) (e_var 1) ⟨n, rfl, hn, rfl⟩)) ?_ ?_ ?_ ?_
  · intro H3 r3
    exact ⟨tR (rfl_upd r02 h0 (by intro _ z; cases z)) r3, fun _ => false, _, rfl, LB.new.mono (W := (dr M c fl).add p) nF r3, fun z => (by cases z), fun z => (by cases z)⟩
  · rintro done x ds' H' ⟨_, T, y4, rfl, _⟩ _
    exact eh_name (i := 4) nd
  · rintro done x todo ds' Hi H' eu ⟨s0, T, y4, rfl, lb, ht1, ht2⟩ sm' kq
    have s1 : Rfl c fl H0 H' := tR s0 sm'
    have lb := lb.mono (W := (dr M c fl).add p) nF sm'
    have hnd := lettersOf_nodup n hn
    rw [eu] at hnd
    have hxn : x ∉ done := fun z => (List.nodup_append.mp hnd).2.2 x z x (by simp) rfl
    have hdl : done.length ≤ 8 := by
      have := congrArg List.length eu
      rw [lettersOf_len n hn] at this
      simp at this
      omega
    have filt : ∀ b : Bool, done.filter (fun y => if y = x then b else T y) = done.filter T := fun b => List.filter_congr fun y hy => by rw [if_neg (fun z => hxn (by rw [← z]; exact hy))]
    have hfl : (done.filter T).length ≤ 8 := Nat.le_trans (List.length_filter_le _ _) hdl
    refine ss_if (P := fun b => (x = a → b = true) ∧ (x = inv a → b = false)) (et_ew (ew_or (A := Is (decide (x = a))) (et_eqL (e_var 4) (e_var 2)) (fun hb => ew_or1 (et_ew (ew_and (A := Is (!decide (x = inv a))) (et_neL (e_var 4) (e_call1 (c__law_contrary G) (hr.mono (by decide)) (e_var 2) ⟨a, rfl, rfl⟩)) (fun hb2 => ew_and1 (ET.imp (et_eqU (EE.imp (e_pick (P := P) (w := w) (base := base) (K := K) (mg := mg) (many := 2) hW2 (c_pick G) (hr.mono (by decide)) (s1.2.1 hf) (e_var 0) e_int (by omega) (by omega)) (fun y ⟨r, ey, _⟩ => ⟨r, ey⟩)) (EE.imp e_int fun y ey => ⟨0, ey⟩)) fun b _ => ⟨fun z => ?_, fun z => ?_⟩)) fun hb2 => ⟨fun z => ?_, fun _ => rfl⟩))) fun hb => ⟨fun _ => rfl, fun z => ?_⟩)) (fun hb H3 r3 => ?_) fun hb H3 r3 => ?_
    · rw [Is] at hb; simp [z] at hb
    · rw [Is] at hb2; simp [z] at hb2
    · rw [Is] at hb; simp [z] at hb
    · rw [Is] at hb; simp [z] at hb
    · refine ss_appendZ (lb.mono (W := (dr M c fl).add p) nF r3) Wd.addM nF (by rw [List.length_map]; exact szl (by omega)) (e_var 3).at (e_var 4) fun H4 v r4 lb4 => ss_end (ss_nq fun H5 r5 => ⟨⟨?_, fun y => if y = x then true else T y, _, rfl, ?_, ?_, ?_⟩, ?_⟩)
      · exact tR (rfl_upd (tR s1 (tR r3 r4)) h0 (lb_nt lb4)) r5
      · rw [List.filter_append, filt]
        have : [x].filter (fun y => if y = x then true else T y) = [x] := by simp
        rw [this, List.map_append]
        exact lb4.mono (W := (dr M c fl).add p) nF r5
      · intro z
        by_cases c' : a = x
        · simp [c']
        · rcases List.mem_append.mp z with z | z
          · simp [c', ht1 z]
          · simp at z; exact absurd z c'
      · intro z
        have c' : ¬ inv a = x := fun e => by have := hb.2 e.symm; cases this
        rcases List.mem_append.mp z with z | z
        · simp [c', ht2 z]
        · simp at z; exact absurd z c'
      · exact kq.trans ((kR (tR r3 r4)).trans (Kq.updA.trans (Kq.r r5)))
    · refine ss_end (ss_nq fun H5 r5 => ⟨⟨tR (tR s1 r3) r5, fun y => if y = x then false else T y, _, rfl, ?_, ?_, ?_⟩, kq.trans (kR (tR r3 r5))⟩)
      · rw [List.filter_append, filt]
        have : [x].filter (fun y => if y = x then false else T y) = [] := by simp
        rw [this, List.append_nil]
        exact (lb.mono (W := (dr M c fl).add p) nF r3).mono (W := (dr M c fl).add p) nF r5
      · intro z
        have c' : ¬ a = x := fun e => by have := hb.1 e.symm; cases this
        rcases List.mem_append.mp z with z | z
        · simp [c', ht1 z]
        · simp at z; exact absurd z c'
      · intro z
        by_cases c' : inv a = x
        · simp [c']
        · rcases List.mem_append.mp z with z | z
          · simp [c', ht2 z]
          · simp at z; exact absurd z c'
  · rintro ds' H' ⟨s0, T, y4, rfl, lb, ht1, ht2⟩ _
    have hok : (Sx.ch a (fun x => decide (x.val < 2 * n) && T x)).ok n := by
      refine ⟨ha, ⟨?_, ?_⟩, fun x hx => ?_⟩
      · simp [ha, ht1 ((mem_letters n a).mpr ha)]
      · simp [ht2 ((mem_letters n (inv a)).mpr ((inv_rk n a).mpr ha))]
      · simp at hx; exact hx.1
    have eS : (lettersOf n).filter T = (lettersOf n).filter (fun x => decide (x.val < 2 * n) && T x) := List.filter_congr fun x hx => by simp [(mem_letters n x).mp hx]
    rw [eS] at lb
    refine ss_ret (A := Is (.d (dCh n a (fun x => decide (x.val < 2 * n) && T x)))) (e_tup (xs := [dL a, dS n (fun x => decide (x.val < 2 * n) && T x)]) (ea_c (e_var 2) (ea_c (e_tupleR (G.fr 1 _ rfl) (e_var 3).at lb nF) ea_nil)) (szl (by simp))) fun v H2 y r e hv => ?_
    cases e
    exact hrt v H2 _ (tR s0 r) (hC _ _ hok) (Dt.keep (fun a o m e => ⟨fun z => m (.inl z), e⟩) hv)
theorem up_facts : ∀ x : Lt, x.val % 2 = 0 → Txt.upper (enc [x]) = enc [inv x] := by decide +kernel
/-- letters of different generators -/
def Cls (ps : List Lt) : Prop := ps.Pairwise fun x y => x.val / 2 ≠ y.val / 2
theorem perm_of {n : Nat} {ps : List Lt} (hl : ps.length = n) (hr : ∀ x ∈ ps, x.val < 2 * n) (hc : Cls ps) : permB n ps = true := by
  unfold permB
  simp only [Bool.and_eq_true, beq_iff_eq, List.all_eq_true, decide_eq_true_eq, List.mem_range, Bool.or_eq_true]
  refine ⟨⟨hl, fun x hx => hr x hx⟩, fun i hi j hj => ?_⟩
  by_cases c : i = j
  · exact .inl c
  · right
    have e1 : ps.getD i 0 = ps[i]'(by omega) := by rw [List.getD_eq_getElem?_getD, List.getElem?_eq_getElem (by omega)]; rfl
    have e2 : ps.getD j 0 = ps[j]'(by omega) := by rw [List.getD_eq_getElem?_getD, List.getElem?_eq_getElem (by omega)]; rfl
    have hne : (ps[i]'(by omega)).val / 2 ≠ (ps[j]'(by omega)).val / 2 := by
      unfold Cls at hc
      rw [List.pairwise_iff_getElem] at hc
      rcases Nat.lt_or_gt_of_ne c with h | h
      · exact hc i j (by omega) (by omega) h
      · exact (hc j i (by omega) (by omega) h).symm
    rw [e1, e2]
    have hv : ∀ x : Lt, (inv x).val / 2 = x.val / 2 := by decide
    exact ⟨fun e => hne (by rw [e]), fun e => hne (by rw [e, hv])⟩
end
end NQ

namespace NQ
open PySem PySem.Spec L2 NP
open NL (inv red invw mid Red S8 Side wh rtold rmap sub Per single cp lp sm cutp cut rcut CR rlen rcnt)
theorem los_half : ∀ x : Lt, x.val % 2 = 0 → lo (x.val / 2) = x := by decide
theorem los_mem {n : Nat} (hn : n ≤ 4) {x : Lt} : x ∈ los n ↔ x.val < 2 * n ∧ x.val % 2 = 0 := by
  constructor
  · intro h; exact ⟨los_lt h, los_even h⟩
  · rintro ⟨h1, h2⟩
    unfold los
    exact List.mem_map.mpr ⟨x.val / 2, List.mem_range.mpr (by omega), los_half x h2⟩
theorem los_nodup {n : Nat} (hn : n ≤ 4) : (los n).Nodup := by
  have : n = 0 ∨ n = 1 ∨ n = 2 ∨ n = 3 ∨ n = 4 := by omega
  rcases this with rfl | rfl | rfl | rfl | rfl <;> decide
section
variable {W : Wd} {X : Cx} {e a b o k tg iter : Expr} {es : List Expr} {ds : List Ds} {H H' : Hp} {pos p apos pos' p2 p3 p4 : Pos} {A B C : Ds → Prop} {D : Ends} {rest body els : List Stmt}
/-- a new list of a text's signs -/
theorem new_listS {u : NL.W} {q : Pos} (hm : X.mg "list" = none) (ha : EE W X a ds H (Is (.d (dW u)))) (hl : u.length ≤ 1000) (hc : X.calm = true := by rfl) (hg : Gl X "list" := by rfl) (he : starEach [a] X.env = (false, eval a X.env) :: starEach [] X.env := by rfl) :
    ∀ σ H1, W.R H H1 → Ok W H1 σ ds → ∀ Q : VK, (∀ p H2, W.R H1 H2 → H2 p = none → Q (.ref p) (L2.upd H2 p (.lst (u.map fun x => V.str (enc [x]))))) → tw X (.Call (.Name "list" q) [a] [] pos) σ H1 Q := fun σ H1 r ok Q qq =>
  tw_of (pe_callTy (call_listS hc) hg hm PyProof.Rows.boot_list (pa_cons tw_pe pa_nil he) (he := he)) (ha σ H1 r ok _ fun v H2 y r2 ey hv => by
    cases ey; cases hv
    refine ⟨_, rfl, by rw [enc_len]; exact Nat.le_of_lt (szl (by omega)), fun p hp => ?_⟩
    have e : signsV (enc u) = u.map fun x => V.str (enc [x]) := by
      unfold signsV
      rw [enc_cps, List.map_map]; rfl
    rw [e]
    exact qq p H2 r2 hp)
end
section
variable {P : Program} {w : World} {K : PySem.W.Frag} {mg : Str → Option Value} {base : Heap}
def R_exchange (xs : List Ds) (C : Ds → Prop) : Prop := ∃ n : Nat, xs = [.d (.int n)] ∧ n ≤ 4 ∧ ∀ ps, permB n ps = true → C (.d (.tuple (ps.map dL)))
theorem c_exchange (G : Gs K mg) : Cal P w K mg base "_law_exchange" 2 (spD R_exchange) := by
  have S : FnScope ["_law_flow_here", "_law_n", "_law_left", "_law_found", "_law_k", "_law_letter"] ["_law_flow_here", "_law_n"] (defScope (top 63)) := ⟨rfl, rfl, rfl, by decide +kernel, rfl, by decide +kernel, by decide +kernel⟩
  have nd := S.nd
  refine cal_D (G.df 50 _ rfl) S (fun _ _ _ _ _ _ us hl => match us, hl with | [_, _], _ => rfl) (fun xs C h => by obtain ⟨n, e, h⟩ := h; subst e; rfl) fun f cdv A outer s H0 E M c fl xs C D hr h hf hrt hnx tr0 => ?_
  obtain ⟨n, e, hn, hC⟩ := h
  subst e
  have hW := Dw.dr M c fl
  have tR := fun {a b c' : Hp} => (dr M c fl).trans (H := a) (H1 := b) (H2 := c')
  refine ss_new (i := 2) (u := .lst ((los n).map fun x => V.str (enc [x]))) (by intro _ h; cases h) (new_listS (G.fr 10 _ rfl) (EE.is (e_slS e_str .non (.som (e_var 1)) (by decide)) (by rw [cut_abcd n hn])) (by rw [los_len]; omega)) (fun p H1 r1 hp => ?_) nd
  have h0 := rfl_none r1 hp hf
  have npf : p ≠ fl := fun z => (hf.som).2 (by rw [← z]; exact h0)
  have r2 : Rfl c fl H0 (L2.upd H1 p (.lst ((los n).map fun x => V.str (enc [x])))) := rfl_upd r1 h0 (by intro _ z; cases z)
  refine ss_new (i := 3) (u := .lst []) (by intro _ h; cases h) new_lst (fun p2 H3 r3 hp2 => ?_) nd
  have r03 : Rfl c fl H0 H3 := tR r2 r3
  have h02 := rfl_none r03 hp2 hf
  have npf2 : p2 ≠ fl := fun z => (hf.som).2 (by rw [← z]; exact h02)
  have npp : p ≠ p2 := fun z => by
    have := r3.1 p _ npf upd_same
    rw [z, hp2] at this; cases this
  let W2 : Wd := ((dr M c fl).add p).add p2
  have hW2 : Dw W2 c fl := (hW.add p).add p2
  have nF : ¬ W2.F p := npf
  have nF2 : ¬ W2.F p2 := npf2
  have mp : W2.M p := Or.inl (Or.inr rfl)
  have kR := fun {a b : Hp} (h : (dr M c fl).R a b) => Kq.r (W := W2) h
  refine ss_forM (as := List.range n) (g := fun i => .d (.int i)) (dz := fun i ds' => ds'.set 4 (.d (.int i))) (fun done ds' H' => Rfl c fl H0 H' ∧ ∃ (lf ps : List Lt) (y4 y5 : Ds), ds' = [.r (.ref fl), .d (.int n), .r (.ref p), .r (.ref p2), y4, y5] ∧ H' p = some (.lst (lf.map fun x => V.str (enc [x]))) ∧ LB W2.M H' p2 (ps.map dL) ∧ lf.Nodup ∧ (∀ x ∈ lf, x ∈ los n) ∧ lf.length + done.length = n ∧ ps.length = done.length ∧ (∀ y ∈ ps, y.val < 2 * n ∧ ∀ x ∈ lf, x.val / 2 ≠ y.val / 2) ∧ Cls ps) (ei_rangeN (G.fr 5 _ rfl) (e_var 1) (by omega)) ?_ ?_ ?_ ?_
  · intro H4 r4
    refine ⟨tR (rfl_upd r03 h02 (by intro _ z; cases z)) r4, los n, [], _, _, rfl, ?_, LB.new.mono (W := W2) nF2 r4, los_nodup hn, fun x hx => hx, by rw [los_len]; rfl, rfl, fun y hy => (by cases hy), List.Pairwise.nil⟩
    exact r4.1 _ _ npf (by rw [upd_ne npp]; exact r3.1 _ _ npf upd_same)
  · rintro done i ds' H' ⟨_, lf, ps, y4, y5, rfl, _⟩ _
    exact eh_name (i := 4) nd
  · rintro done i todo ds' Hi H' eu ⟨s0, lf, ps, y4, y5, rfl, hp', lb, hnd, hlf, hlen, hpl, hps, hcl⟩ sm' kq
    have s1 : Rfl c fl H0 H' := tR s0 sm'
    have hdl : done.length < n := by
      have := congrArg List.length eu
      simp at this
      omega
    have hp1 : H' p = some (.lst (lf.map fun x => V.str (enc [x]))) := sm'.1 _ _ npf hp'
    have lb1 := lb.mono (W := W2) nF2 sm'
    have hlfl : 0 < lf.length := by omega
    refine ss_setPop (i := 5) (j := 0) (y := .non) (P := fun j => j < lf.length) hp1 mp nF (e_var 2).at (EE.imp (e_pick (P := P) (w := w) (base := base) (K := K) (mg := mg) (many := lf.length) hW2 (c_pick G) (hr.mono (by decide)) (s1.2.1 hf) (e_var 0) (EE.is (e_lenX (l := p) (vs := lf.map fun x => V.str (enc [x])) (G.fr 0 _ rfl) (e_var 2) (fun H2 r => r.1 _ _ npf hp1)) (by rw [List.length_map])) hlfl (by omega)) (fun y ⟨j, ey, hj⟩ => ⟨j, ey, by rw [List.length_map]; exact hj, hj⟩)) (by rw [List.length_map]; exact Nat.le_of_lt (szl (by omega))) (fun j z H4 r4 hj ez => ?_) (fun y hy => by obtain ⟨x, _, e⟩ := List.mem_map.mp hy; exact ⟨enc [x], e.symm⟩) nd
    obtain ⟨x, hx⟩ : ∃ x, lf[j]? = some x := ⟨_, List.getElem?_eq_getElem hj⟩
    have ez2 : z = enc [x] := by rw [List.getElem?_map, hx] at ez; simpa using ez.symm
    subst ez2
    have hxm := List.mem_of_getElem? hx
    have hxl := hlf x hxm
    have hxe := los_even hxl
    have hx2 := los_lt hxl
    have s4 : Rfl c fl H0 (L2.upd H4 p (.lst ((lf.map fun x => V.str (enc [x])).eraseIdx j))) := rfl_upd (tR s1 r4) h0 (by intro _ z; cases z)
    have lb4 : LB W2.M (L2.upd H4 p (.lst ((lf.map fun x => V.str (enc [x])).eraseIdx j))) p2 (ps.map dL) := LB.upd (W := W2) (lb1.mono (W := W2) nF2 r4) mp npp.symm
    have hf4 := s4.2.1 hf
    have p2ne : p2 ≠ p := npp.symm
    have eer : (lf.map fun x => V.str (enc [x])).eraseIdx j = (lf.eraseIdx j).map fun x => V.str (enc [x]) := by rw [List.eraseIdx_eq_take_drop_succ, List.eraseIdx_eq_take_drop_succ, List.map_append, List.map_take, List.map_drop]
    have fin : ∀ (y : Lt) (H5 : Hp) (uu : HO), (y = x ∨ y = inv x) → W2.R (L2.upd H4 p (.lst ((lf.map fun x => V.str (enc [x])).eraseIdx j))) H5 → LB W2.M (L2.upd H5 p2 uu) p2 ((ps ++ [y]).map dL) → ∀ rt bk ct, SS W2 (XX P w K mg base ["_law_flow_here", "_law_n", "_law_left", "_law_found", "_law_k", "_law_letter"] "_law_exchange" (top 63) f cdv A outer s H0 E) []
        ⟨Nx W2 (fun ds' H' => Rfl c fl H0 H' ∧ ∃ (lf ps : List Lt) (y4 y5 : Ds), ds' = [.r (.ref fl), .d (.int n), .r (.ref p), .r (.ref p2), y4, y5] ∧ H' p = some (.lst (lf.map fun x => V.str (enc [x]))) ∧ LB W2.M H' p2 (ps.map dL) ∧ lf.Nodup ∧ (∀ x ∈ lf, x ∈ los n) ∧ lf.length + (done ++ [i]).length = n ∧ ps.length = (done ++ [i]).length ∧ (∀ y ∈ ps, y.val < 2 * n ∧ ∀ x ∈ lf, x.val / 2 ≠ y.val / 2) ∧ Cls ps) Hi, rt, bk, ct⟩
        [.r (.ref fl), .d (.int n), .r (.ref p), .r (.ref p2), .d (.int i), .d (dL x)] (L2.upd H5 p2 uu) := by
      intro y H5 uu hy r5 lb5 rt bk ct
      have hyv : y.val / 2 = x.val / 2 := by
        have hv : ∀ x : Lt, (inv x).val / 2 = x.val / 2 := by decide
        rcases hy with rfl | rfl
        · rfl
        · exact hv x
      have hsub : ∀ z ∈ lf.eraseIdx j, z ∈ lf ∧ z ≠ x := by
        intro z hz
        have h1 : (lf.eraseIdx j).Sublist lf := List.eraseIdx_sublist lf j
        refine ⟨h1.subset hz, fun e => ?_⟩
        subst e
        have hnd2 := hnd
        rw [← List.take_append_drop j lf, List.nodup_append] at hnd2
        obtain ⟨_, n2, n3⟩ := hnd2
        have hdrop : lf.drop j = z :: lf.drop (j + 1) := by
          rw [List.drop_eq_getElem_cons hj]
          congr 1
          exact (List.getElem?_eq_some_iff.mp hx).2
        rw [List.eraseIdx_eq_take_drop_succ, List.mem_append] at hz
        rw [hdrop] at n2 n3
        rcases hz with hz | hz
        · exact n3 z hz z (by simp) rfl
        · exact (List.nodup_cons.mp n2).1 hz
      refine ss_nq fun H6 r6 => ⟨⟨tR (rfl_upd (tR s4 r5) h02 (lb_nt lb5)) r6, lf.eraseIdx j, ps ++ [y], _, _, rfl, ?_, lb5.mono (W := W2) nF2 r6, ?_, fun z hz => hlf z (hsub z hz).1, ?_, ?_, ?_, ?_⟩, ?_⟩
      · rw [← eer]
        exact r6.1 _ _ npf (by rw [upd_ne npp]; exact r5.1 _ _ npf upd_same)
      · exact hnd.sublist (List.eraseIdx_sublist lf j)
      · rw [List.length_eraseIdx_of_lt hj, List.length_append]; simp; omega
      · rw [List.length_append, List.length_append, hpl]; rfl
      · intro z hz
        rcases List.mem_append.mp hz with hz | hz
        · exact ⟨(hps z hz).1, fun x' hx' => (hps z hz).2 x' (hsub x' hx').1⟩
        · simp at hz
          subst hz
          refine ⟨by omega, fun x' hx' e => ?_⟩
          obtain ⟨h1, h2⟩ := hsub x' hx'
          have e1 := los_even (hlf x' h1)
          exact h2 (_root_.Fin.ext (by omega))
      · unfold Cls
        rw [List.pairwise_append]
        refine ⟨hcl, List.pairwise_singleton _ _, fun a ha b hb => ?_⟩
        simp at hb
        subst hb
        have := (hps a ha).2 x hxm
        omega
      · exact kq.trans ((kR r4).trans ((Kq.upd mp).trans ((kR r5).trans (Kq.updA.trans (kR r6)))))
    obtain ⟨vs4, hv4, dv4⟩ := lb4
    have hvl := dv4.length
    rw [List.length_map] at hvl
    refine ss_append (A := fun y => ∃ z : Lt, (z = x ∨ z = inv x) ∧ y = .d (dL z)) hv4 Wd.addM nF2 (szl (by omega)) (e_var 3).at (EE.imp (e_ixLP (xs := [dL x, dL (inv x)]) (P := fun j => j < 2) (e_lst (xs := [dL x, dL (inv x)]) (ea_c (e_var 5) (ea_c (EE.is (e_upper (e_var 5) (by show (1 : Nat) ≤ _; decide)) (by rw [up_facts x hxe])) ea_nil)) (szl (by simp))) (e_pick (P := P) (w := w) (base := base) (K := K) (mg := mg) (many := 2) hW2 (c_pick G) (hr.mono (by decide)) hf4 (e_var 0) e_int (by omega) (by omega)) (fun j hj => by simp; omega)) (fun y ⟨j, d, hd, hj, ey⟩ => ?_)) (fun v y H5 r5 ⟨z, hz, ey⟩ hv => ?_)
    · match j, hj with
      | 0, _ => simp at hd; subst hd; exact ⟨x, .inl rfl, ey⟩
      | 1, _ => simp at hd; subst hd; exact ⟨inv x, .inr rfl, ey⟩
    · subst ey
      exact fin z H5 _ hz r5 (by rw [List.map_append]; exact LB.push (W := W2) Wd.addM (dv4.mono (W := W2) r5) hv) _ _ _
  · rintro ds' H' ⟨s0, lf, ps, y4, y5, rfl, hp', lb, hnd, hlf, hlen, hpl, hps, hcl⟩ _
    rw [List.length_range] at hpl
    refine ss_ret (A := Is (.d (.tuple (ps.map dL)))) (e_tupleR (G.fr 1 _ rfl) (e_var 3).at lb nF2) fun v H2 y r e hv => ?_
    cases e
    exact hrt v H2 _ (tR s0 r) (hC ps (perm_of hpl (fun x hx => (hps x hx).1) hcl)) (Dt.keep (fun a o m e => ⟨fun z => m (.inl (.inl z)), e⟩) hv)
def R_drawn_step (xs : List Ds) (C : Ds → Prop) : Prop := ∃ n : Nat, xs = [.d (.int n)] ∧ 1 ≤ n ∧ n ≤ 4 ∧ ∀ s : Sx, s.ok n → C (.d (dX n s))
theorem c_drawn_step (G : Gs K mg) : Cal P w K mg base "_law_drawn_step" 3 (spD R_drawn_step) := by
  have S : FnScope ["_law_flow_here", "_law_n"] ["_law_flow_here", "_law_n"] (defScope (top 65)) := ⟨rfl, rfl, rfl, by decide +kernel, rfl, by decide +kernel, by decide +kernel⟩
  have nd := S.nd
  refine cal_D (G.df 52 _ rfl) S (fun _ _ _ _ _ _ us hl => match us, hl with | [_, _], _ => rfl) (fun xs C h => by obtain ⟨n, e, h⟩ := h; subst e; rfl) fun f cdv A outer s H0 E M c fl xs C D hr h hf hrt hnx tr0 => ?_
  obtain ⟨n, e, hn1, hn, hC⟩ := h
  subst e
  have hW := Dw.dr M c fl
  have tR := fun {a b c' : Hp} => (dr M c fl).trans (H := a) (H1 := b) (H2 := c')
  refine ss_if (P := fun _ => True) (et_eqU (EE.imp (e_pick (P := P) (w := w) (base := base) (K := K) (mg := mg) (many := 3) hW (c_pick G) (hr.mono (by decide)) hf (e_var 0) e_int (by omega) (by omega)) (fun y ⟨r, ey, _⟩ => ⟨r, ey⟩)) (EE.imp e_int fun y ey => ⟨0, ey⟩)) (fun _ H1 r1 => ?_) fun _ H1 r1 => ss_end ?_
  · refine ss_ret (A := fun y => ∃ ps, permB n ps = true ∧ y = .d (dX n (.ex ps))) (e_tupP (P := fun xs => ∃ ps, permB n ps = true ∧ xs = [.d (.str "exchange"), .d (.tuple (ps.map dL))]) (ea_cons (P := fun xs => ∃ ps, permB n ps = true ∧ xs = [.d (.tuple (ps.map dL))]) e_str (ea_cons (P := Is []) (A := fun y => ∃ ps, permB n ps = true ∧ y = .d (.tuple (ps.map dL))) (e_draw hW (c_exchange G) (hr.mono (by decide)) (r1.2.1 hf) (ea_c (e_var 0) (ea_c (e_var 1) ea_nil)) ⟨n, rfl, hn, fun ps hps => ⟨ps, hps, rfl⟩⟩) ea_nil (fun x xs ⟨ps, h1, h2⟩ e => ⟨ps, h1, by rw [h2, e]⟩)) (fun x xs e ⟨ps, h1, h2⟩ => ⟨ps, h1, by rw [e, h2]⟩)) (fun ys ⟨ps, h1, h2⟩ => ⟨[.str "exchange", .tuple (ps.map dL)], by rw [h2]; rfl, szl (by simp), ps, h1, rfl⟩)) fun v H2 y r ⟨ps, h1, ey⟩ hv => ?_
    subst ey
    exact hrt v H2 _ (tR r1 r) (hC (.ex ps) h1) hv
  · refine ss_ret (A := fun y => ∃ a S, (Sx.ch a S).ok n ∧ y = .d (dX n (.ch a S))) (e_op op_catA (A := Is (.d (.tuple [.str "change"]))) (e_tup (xs := [.str "change"]) (ea_c e_str ea_nil) (szl (by simp))) (B := fun y => ∃ a S, (Sx.ch a S).ok n ∧ y = .d (dCh n a S)) (e_draw hW (c_drawn_change G) (hr.mono (by decide)) (r1.2.1 hf) (ea_c (e_var 0) (ea_c (e_var 1) ea_nil)) ⟨n, rfl, hn1, hn, fun a S h => ⟨a, S, h, rfl⟩⟩) (fun x y ex ⟨a, S', h1, ey⟩ => ?_)) fun v H2 y r ⟨a, S', h1, ey⟩ hv => ?_
    · cases ex
      subst ey
      exact fun v u H1 tr hv hu Q q => rd_cat (xs := [.str "change"]) (ys := [dL a, dS n S']) (szl (by simp)) v u H1 tr hv hu Q fun z H2 c r hc hz => q z H2 c r ⟨a, S', h1, hc⟩ hz
    · subst ey
      exact hrt v H2 _ (tR r1 r) (hC (.ch a S') h1) hv
end
end NQ

namespace NQ
open PySem PySem.Spec L2 NP
open NL (inv red invw mid Red S8 Side wh rtold rmap sub Per single cp lp sm cutp cut rcut CR rlen rcnt IsR)
/-- a ring as drawn -/
structure GW (n m : Nat) (w : NL.W) : Prop where
  ir : IsR w
  rk : Rk n w
  le : w.length ≤ m
theorem ring_len_le (u : NL.W) : (NL.ring u).length ≤ u.length := by
  have h1 := (NL.minrot_rot (mid u)).length
  have h2 := mid_len u
  show (NL.minrot (mid u)).length ≤ _
  omega
theorem gw_ring {n m : Nat} {u : NL.W} (h : Red u) (hk : Rk n u) (hl : u.length ≤ m) : GW n m (NL.ring u) := ⟨⟨NL.ring_CR h, NL.ring_ring h⟩, Rk_ring hk, Nat.le_trans (ring_len_le u) hl⟩
structure GR (n k m : Nat) (R : NL.Row) : Prop where
  len : R.length ≤ k
  all : ∀ w ∈ R, GW n m w
theorem words_of {Q : NL.W → Prop} : ∀ out : List PyData, (∀ d ∈ out, ∃ w, Q w ∧ d = dW w) → ∃ R : NL.Row, out = R.map dW ∧ ∀ w ∈ R, Q w
  | [], _ => ⟨[], rfl, fun w hw => by cases hw⟩
  | d :: out, h => by
    obtain ⟨w, hw, rfl⟩ := h d (by simp)
    obtain ⟨R, rfl, hR⟩ := words_of out fun d hd => h d (by simp [hd])
    exact ⟨w :: R, rfl, fun v hv => by
      rcases List.mem_cons.mp hv with rfl | hv
      · exact hw
      · exact hR v hv⟩
theorem GR.rowOk {n k m : Nat} {R : NL.Row} (h : GR n k m R) (hk : k ≤ 1000) (hm : m ≤ 100) : RowOk n R := ⟨by have := h.len; omega, fun w hw => ⟨(h.all w hw).rk, by have := (h.all w hw).le; omega⟩⟩
theorem GR.rk {n k m : Nat} {R : NL.Row} (h : GR n k m R) : RkR n R := fun w hw => (h.all w hw).rk
theorem GR.rowR {n k m : Nat} {R : NL.Row} (h : GR n k m R) : NL.rowR R := fun w hw => (h.all w hw).ir
theorem mem_rlen {R : NL.Row} {w : NL.W} (h : w ∈ R) : w.length ≤ rlen R := by
  induction R with
  | nil => cases h
  | cons u R ih =>
    unfold rlen
    rw [NL.rsum_cons]
    rcases List.mem_cons.mp h with e | h
    · subst e; omega
    · have := ih h; unfold rlen at this; omega
theorem rtold_len_us {n : Nat} {s : Sx} (w : NL.W) : (rtold (tl (s.us n)) w).length ≤ 10 * w.length := by
  have h1 := sub_len (s.us n) us_short10 w
  have h2 := red_len (sub (tl (s.us n)) w)
  have h3 := ring_len_le (red (sub (tl (s.us n)) w))
  unfold rtold
  omega
theorem rmap_us {n : Nat} (hn : n ≤ 4) {s : Sx} (hs : s.ok n) {R : NL.Row} (h : RkR n R) : rmap (tl (s.us n)) R = rmap (s.fn n) R := List.map_congr_left fun w hw => rtold_us hn hs (h w hw)
theorem GR.map {n k m : Nat} (hn : n ≤ 4) {R : NL.Row} (h : GR n k m R) {s : Sx} (hs : s.ok n) {m2 : Nat} (hl : rlen (rmap (s.fn n) R) ≤ m2) : GR n k m2 (rmap (s.fn n) R) :=
  ⟨by unfold rmap; rw [List.length_map]; exact h.len, fun w hw => ⟨NL.rmap_rowR _ _ w hw, RkR_rmap hn hs h.rk w hw, Nat.le_trans (mem_rlen hw) hl⟩⟩
section
variable {P : Program} {w : World} {K : PySem.W.Frag} {mg : Str → Option Value} {base : Heap}
def R_row (xs : List Ds) (C : Ds → Prop) : Prop := ∃ n : Nat, xs = [.d (.int n), .d (.int 4), .d (.int 12)] ∧ 1 ≤ n ∧ n ≤ 4 ∧ ∀ R, GR n 4 24 R → rlen R ≤ 12 → C (.d (dR R))
theorem c_row (G : Gs K mg) : Cal P w K mg base "_law_row" 5 (spD R_row) := by
  have S : FnScope ["_law_flow_here", "_law_n", "_law_many", "_law_most", "_law_rings", "_law_k", "_law_longer"] ["_law_flow_here", "_law_n", "_law_many", "_law_most"] (defScope (top 62)) := ⟨rfl, rfl, rfl, by decide +kernel, rfl, by decide +kernel, by decide +kernel⟩
  have nd := S.nd
  refine cal_D (G.df 49 _ rfl) S (fun _ _ _ _ _ _ us hl => match us, hl with | [_, _, _, _], _ => rfl) (fun xs C h => by obtain ⟨n, e, h⟩ := h; subst e; rfl) fun f cdv A outer s H0 E M c fl xs C D hr h hf hrt hnx tr0 => ?_
  obtain ⟨n, e, hn1, hn, hC⟩ := h
  subst e
  have hW := Dw.dr M c fl
  have tR := fun {a b c' : Hp} => (dr M c fl).trans (H := a) (H1 := b) (H2 := c')
  -- the row from here on
  have tail : ∀ (R : NL.Row) (y5 y6 : Ds) (H1 : Hp), GR n 4 24 R → Rfl c fl H0 H1 → SS (dr M c fl) (XX P w K mg base ["_law_flow_here", "_law_n", "_law_many", "_law_most", "_law_rings", "_law_k", "_law_longer"] "_law_row" (top 62) f cdv A outer s H0 E) ((defBody (top 62)).drop 2) D [.r (.ref fl), .d (.int n), .d (.int 4), .d (.int 12), .d (dR R), y5, y6] H1 := by
    intro R y5 y6 H1 hG r1
    refine ss_forE (P := fun as : List Nat => ∃ m, as = List.range m ∧ m < 6) (g := fun i => .d (.int i)) (dz := fun i ds' => ds'.set 5 (.d (.int i))) (fun as done ds' H' => Rfl c fl H0 H' ∧ ∃ (Q : NL.Row) (y5 y6 : Ds), ds' = [.r (.ref fl), .d (.int n), .d (.int 4), .d (.int 12), .d (dR Q), y5, y6] ∧ GR n 4 24 Q) (ei_rangeP (P := fun m => m < 6) (G.fr 5 _ rfl) (e_pick (P := P) (w := w) (base := base) (K := K) (mg := mg) hW (c_pick G) (hr.mono (by decide)) (r1.2.1 hf) (e_var 0) e_int (by omega) (by omega)) (fun m hm => by omega)) ?_ ?_ ?_ ?_
    · intro as _ H2 r2
      exact ⟨tR r1 r2, R, _, _, rfl, hG⟩
    · rintro as _ done i ds' H' ⟨_, Q, y5, y6, rfl, _⟩ _
      exact eh_name (i := 5) nd
    · rintro as ⟨m, rfl, _⟩ done i todo ds' Hi H' eu ⟨s0, Q, y5, y6, rfl, hQ⟩ sm' kq
      have s1 : Rfl c fl H0 H' := tR s0 sm'
      refine ss_set (i := 6) (A := fun y => ∃ s' : Sx, s'.ok n ∧ y = .d (dR (rmap (s'.fn n) Q))) (e_callP (P := fun xs => ∃ s' : Sx, s'.ok n ∧ xs = [.d (.tuple ((s'.us n).map dW)), .d (dR Q)]) (c__law_rings_retold G) (hr.mono (by decide)) (ea_cons (P := Is [.d (dR Q)]) (A := fun y => ∃ s' : Sx, s'.ok n ∧ y = .d (.tuple ((s'.us n).map dW))) (e_callP (P := fun xs => ∃ a S', (Sx.ch a S').ok n ∧ xs = [.d (.int n), .d (dCh n a S')]) (c__law_change_told G) (hr.mono (by decide)) (ea_cons (P := fun xs => ∃ a S', (Sx.ch a S').ok n ∧ xs = [.d (dCh n a S')]) (e_var 1) (ea_cons (P := Is []) (A := fun y => ∃ a S', (Sx.ch a S').ok n ∧ y = .d (dCh n a S')) (e_draw hW (c_drawn_change G) (hr.mono (by decide)) (s1.2.1 hf) (ea_c (e_var 0) (ea_c (e_var 1) ea_nil)) ⟨n, rfl, hn1, hn, fun a S' h => ⟨a, S', h, rfl⟩⟩) ea_nil (fun x xs ⟨a, S', h1, h2⟩ e => ⟨a, S', h1, by rw [h2, e]⟩)) (fun x xs e ⟨a, S', h1, h2⟩ => ⟨a, S', h1, by rw [e, h2]⟩)) (fun xs ⟨a, S', h1, h2⟩ => ⟨n, a, S', h2, hn, h1.2.2, .ch a S', h1, rfl⟩)) (ea_c (e_var 4) ea_nil) (fun x xs ⟨s', h1, h2⟩ e => ⟨s', h1, by rw [h2, e]⟩)) (fun xs ⟨s', h1, h2⟩ => ⟨s'.us n, Q, h2, by rw [us_len h1]; exact hn, us_short10, by rw [us_len h1]; exact hQ.rowOk (by omega) (by omega), s', h1, by rw [rmap_us hn h1 hQ.rk]⟩)) (fun y H3 r3 ⟨s', hs', ey⟩ => ?_) nd
      subst ey
      have hlen : ∀ v ∈ rmap (s'.fn n) Q, v.length ≤ 10000 := by
        intro v hv
        rw [← rmap_us hn hs' hQ.rk] at hv
        obtain ⟨u, hu, rfl⟩ := List.mem_map.mp hv
        have h1 := rtold_len_us (n := n) (s := s') u
        have h2 := (hQ.all u hu).le
        omega
      refine ss_if (P := Is (decide ((rlen (rmap (s'.fn n) Q) : Int) ≤ 12))) (et_le (e_call1 (C := Is (.d (.int (rlen (rmap (s'.fn n) Q))))) (c__law_length G) (hr.mono (by decide)) (e_var 6) ⟨_, rfl, by unfold rmap; rw [List.length_map]; have := hQ.len; omega, hlen, rfl⟩) (e_var 3)) (fun hb H4 r4 => ?_) fun hb H4 r4 => ?_
      · have hb := of_decide_eq_true hb.symm
        refine ss_setI (i := 4) (y := .d (dR (rmap (s'.fn n) Q))) (e_var 6) (fun H5 r5 => ss_end (ss_nq fun H6 r6 => ⟨⟨tR (tR s1 r3) (tR r4 (tR r5 r6)), _, _, _, rfl, hQ.map hn hs' (by omega)⟩, kq.trans (Kq.r (tR r3 (tR r4 (tR r5 r6))))⟩)) nd
      · exact ss_end (ss_nq fun H6 r6 => ⟨⟨tR (tR s1 r3) (tR r4 r6), Q, _, _, rfl, hQ⟩, kq.trans (Kq.r (tR r3 (tR r4 r6)))⟩)
    · rintro as _ ds' H' ⟨s0, Q, y5, y6, rfl, hQ⟩ _
      refine ss_while (fun m ds' H' => Rfl c fl H0 H' ∧ ∃ (Q : NL.Row) (y5 y6 : Ds), ds' = [.r (.ref fl), .d (.int n), .d (.int 4), .d (.int 12), .d (dR Q), y5, y6] ∧ GR n 4 24 Q ∧ m = Q.length) PassesOwn.never (fun H2 r2 _ => ⟨_, tR s0 r2, Q, _, _, rfl, hQ, rfl⟩) ?_
      rintro m ds' H2 ⟨s2, Q2, y5, y6, rfl, hQ2, rfl⟩ _
      refine ⟨Is (decide ((12 : Int) < rlen Q2)), et_gt (e_call1 (C := Is (.d (.int (rlen Q2)))) (c__law_length G) (hr.mono (by decide)) (e_var 4) ⟨Q2, rfl, by have := hQ2.len; omega, fun v hv => by have := (hQ2.all v hv).le; omega, rfl⟩) (e_var 3), fun hb H3 r3 => ?_, fun hb H3 r3 => ?_⟩
      · have hb := of_decide_eq_true hb.symm
        have hne : Q2 ≠ [] := by intro z; subst z; simp [rlen] at hb
        have hlt : (Q2.drop 1).length < Q2.length := by
          have := List.length_pos_iff.mpr hne
          rw [List.length_drop]; omega
        refine ss_setI (i := 4) (y := .d (dR (Q2.drop 1))) (EE.is (e_slT (e_var 4) (.som e_int) .non) (congrArg (fun z => Ds.d (.tuple z)) ((cutL_from (Q2.map dW) 1).trans List.map_drop.symm))) (fun H4 r4 => ss_nw fun H5 r5 _ => ⟨(Q2.drop 1).length, hlt, tR (tR s2 r3) (tR r4 r5), Q2.drop 1, _, _, rfl, ⟨by have := hQ2.len; omega, fun v hv => hQ2.all v (List.mem_of_mem_drop hv)⟩, rfl⟩) nd
      · have hb := of_decide_eq_false hb.symm
        refine ss_ret (e_var 4) fun v H4 y r e hv => ?_
        cases e
        exact hrt v H4 _ (tR (tR s2 r3) r) (hC Q2 hQ2 (by omega)) hv
  refine ss_set (i := 4) (A := fun y => ∃ R, GR n 4 24 R ∧ y = .d (dR R)) (EE.imp (e_tupleL (A := fun out => ∃ R, GR n 4 24 R ∧ out = R.map dW) (G.fr 1 _ rfl) (EE.imp (lc_main (j := 5) (P := fun items => ∃ as : List Nat, items = as.map (fun (i : Nat) => Ds.d (.int i)) ∧ ∃ m, as = List.range m ∧ m < 5) (T := fun _ => Is true) (G := fun _ d => ∃ v, GW n 6 v ∧ d = dW v) rfl nd (ei_rangeP (P := fun m => m < 5) (G.fr 5 _ rfl) (e_pick (P := P) (w := w) (base := base) (K := K) (mg := mg) hW (c_pick G) (hr.mono (by decide)) hf (e_var 0) (EE.is (y := .d (.int (5 : Nat))) (e_add (e_var 2) e_int) rfl) (by omega) (by omega)) (fun m hm => by omega)) (fun its ⟨as, e1, m, e2, hm⟩ => by rw [e1, e2]; simp; exact szl (by omega)) (blkOk_by (by rfl)) (fun _ _ _ _ _ => pg_name (by assumption) rfl (Or.inl rfl)) (fun _ _ _ _ _ => pts_nil) (fun l its y e m σ H1 r o Q q => q true H1 ((dr M c fl).refl _) rfl) (fun l its y _ _ _ s0 H2 cl C' fp => ?_)) (fun y ⟨its, out, ⟨as, e1, m, e2, hm⟩, lr, ey⟩ => ?_))) (fun y ⟨out, ey, R, hR, eo⟩ => ⟨R, hR, by rw [ey, eo]⟩)) (fun y H1 r1 ⟨R, hR, ey⟩ => ?_) nd
  · exact EE.imp (e_callP (C := fun y => ∃ v, GW n 6 v ∧ y = .d (dW v)) (P := fun xs => ∃ u, Red u ∧ Rk n u ∧ u.length ≤ 6 ∧ xs = [.d (dW u)]) (c__law_ring G) (hr.mono (by decide)) (ea_cons (P := Is []) (A := fun y => ∃ u, Red u ∧ Rk n u ∧ u.length ≤ 6 ∧ y = .d (dW u)) (e_draw (hW.add l) (c_word G) (hr.mono (by decide)) hf (ea_c (e_var 0) (ea_c (e_var 1) (ea_c e_int ea_nil))) ⟨n, 6, rfl, hn1, hn, by omega, fun u h1 h2 h3 => ⟨u, h1, h2, h3, rfl⟩⟩) ea_nil (fun x xs ⟨u, h1, h2, h3, h4⟩ e => ⟨u, h1, h2, h3, by rw [h4, e]⟩)) (fun xs ⟨u, h1, h2, h3, h4⟩ => ⟨u, h4, by omega, NL.ring u, gw_ring h1 h2 h3, rfl⟩)) fun y ⟨v, hv, ey⟩ => ⟨_, ey, v, hv, rfl⟩
  · obtain ⟨R, e3, hR⟩ := words_of (Q := GW n 6) out fun d hd => by
      obtain ⟨_, _, v, hv, e⟩ := lcR_each lr d hd
      exact ⟨v, hv, e⟩
    have hlen := lcR_len lr
    rw [e1, e2, e3] at hlen
    simp at hlen
    exact ⟨out, ey, R, ⟨by omega, fun v hv => ⟨(hR v hv).ir, (hR v hv).rk, by have := (hR v hv).le; omega⟩⟩, e3⟩
  subst ey
  refine ss_if (P := fun _ => True) (et_ew (ew_and (A := Is true) (ET.is (et_gt (e_var 2) e_int) (by decide)) (fun _ => ew_and1 (et_eqU (EE.imp (e_pick (P := P) (w := w) (base := base) (K := K) (mg := mg) (many := 3) hW (c_pick G) (hr.mono (by decide)) (r1.2.1 hf) (e_var 0) e_int (by omega) (by omega)) (fun y ⟨r, ey, _⟩ => ⟨r, ey⟩)) (EE.imp e_int fun y ey => ⟨0, ey⟩))) fun _ => trivial)) (fun _ H2 r2 => ?_) fun _ H2 r2 => ss_end (tail R _ _ H2 hR (tR r1 r2))
  refine ss_set (i := 4) (A := fun y => ∃ R, GR n 4 24 R ∧ y = .d (dR R)) (e_tupP (P := fun xs => ∃ v, GW n 12 v ∧ xs = [.d (dW v)]) (ea_cons (P := Is []) (A := fun y => ∃ v, GW n 12 v ∧ y = .d (dW v)) (e_callP (P := fun xs => ∃ u, Red u ∧ Rk n u ∧ u.length ≤ 12 ∧ xs = [.d (dW u)]) (c__law_ring G) (hr.mono (by decide)) (ea_cons (P := Is []) (A := fun y => ∃ u, Red u ∧ Rk n u ∧ u.length ≤ 12 ∧ y = .d (dW u)) (e_draw hW (c_word G) (hr.mono (by decide)) (tR r1 r2 |>.2.1 hf) (ea_c (e_var 0) (ea_c (e_var 1) (ea_c (e_var 3) ea_nil))) ⟨n, 12, rfl, hn1, hn, by omega, fun u h1 h2 h3 => ⟨u, h1, h2, h3, rfl⟩⟩) ea_nil (fun x xs ⟨u, h1, h2, h3, h4⟩ e => ⟨u, h1, h2, h3, by rw [h4, e]⟩)) (fun xs ⟨u, h1, h2, h3, h4⟩ => ⟨u, h4, by omega, NL.ring u, gw_ring h1 h2 h3, rfl⟩)) ea_nil (fun x xs ⟨v, h1, h2⟩ e => ⟨v, h1, by rw [h2, e]⟩)) (fun ys ⟨v, h1, h2⟩ => ⟨[dW v], by rw [h2]; rfl, szl (by simp), [v], ⟨by simp, fun u hu => by simp at hu; subst hu; exact ⟨h1.ir, h1.rk, by have := h1.le; omega⟩⟩, rfl⟩)) (fun y H3 r3 ⟨R2, hR2, ey⟩ => ?_) nd
  subst ey
  exact ss_end (tail R2 _ _ H3 hR2 (tR r1 (tR r2 r3)))
end
end NQ

namespace NQ
open PySem PySem.Spec L2 NP
open NL (inv red invw mid Red S8 Side wh rtold rmap sub Per single cp lp sm cutp cut rcut CR rlen rcnt IsR)
theorem red_twice {u : NL.W} (h : CR u) : Red (u ++ u) := by
  cases u with
  | nil => trivial
  | cons x t =>
    have h1 := NL.CR_cons.mp h
    have h2 : Red ((x :: t) ++ [x]) := h1
    exact NL.Red.join h2 (NL.CR.red h)
theorem mul_enc (u : NL.W) (k : Nat) (hk : k = 1 ∨ k = 2) : (⟨(List.replicate ((k : Int)).toNat (enc u).cps.toList).flatten.toArray⟩ : Str) = enc (if k = 1 then u else u ++ u) := by
  rcases hk with rfl | rfl
  · show (⟨(List.replicate 1 (enc u).cps.toList).flatten.toArray⟩ : Str) = enc u
    simp [enc]
  · show (⟨(List.replicate 2 (enc u).cps.toList).flatten.toArray⟩ : Str) = enc (u ++ u)
    simp [enc, List.replicate]
theorem one_row {n m : Nat} {v : NL.W} (h : GW n m v) (hm : m ≤ 24) : GR n 4 24 [v] ∧ rlen [v] ≤ 24 := by
  have := h.le
  exact ⟨⟨by simp, fun u hu => by simp at hu; subst hu; exact ⟨h.ir, h.rk, by omega⟩⟩, by simp [rlen]; omega⟩
section
variable {P : Program} {w : World} {K : PySem.W.Frag} {mg : Str → Option Value} {base : Heap}
def R_any_row (xs : List Ds) (C : Ds → Prop) : Prop := ∃ n : Nat, xs = [.d (.int n), .d (.int 12)] ∧ 1 ≤ n ∧ n ≤ 4 ∧ ∀ R, GR n 4 24 R → rlen R ≤ 24 → C (.d (dR R))
theorem c_any_row (G : Gs K mg) : Cal P w K mg base "_law_any_row" 6 (spD R_any_row) := by
  have S : FnScope ["_law_flow_here", "_law_n", "_law_most", "_law_form"] ["_law_flow_here", "_law_n", "_law_most"] (defScope (top 64)) := ⟨rfl, rfl, rfl, by decide +kernel, rfl, by decide +kernel, by decide +kernel⟩
  have nd := S.nd
  refine cal_D (G.df 51 _ rfl) S (fun _ _ _ _ _ _ us hl => match us, hl with | [_, _, _], _ => rfl) (fun xs C h => by obtain ⟨n, e, h⟩ := h; subst e; rfl) fun f cdv A outer s H0 E M c fl xs C D hr h hf hrt hnx tr0 => ?_
  obtain ⟨n, e, hn1, hn, hC⟩ := h
  subst e
  have hW := Dw.dr M c fl
  have tR := fun {a b c' : Hp} => (dr M c fl).trans (H := a) (H1 := b) (H2 := c')
  refine ss_set (i := 3) (A := fun y => ∃ r : Nat, y = .d (.int r) ∧ r < 6) (e_pick (P := P) (w := w) (base := base) (K := K) (mg := mg) (many := 6) hW (c_pick G) (hr.mono (by decide)) hf (e_var 0) e_int (by omega) (by omega)) (fun y H1 r1 ⟨r, ey, hr6⟩ => ?_) nd
  subst ey
  have hf1 := r1.2.1 hf
  refine ss_if (P := fun _ => True) (ET.imp (et_eqI (e_var 3) e_int) fun _ _ => trivial) (fun _ H2 r2 => ?_) fun _ H2 r2 => ss_end ?_
  · have hf2 := r2.2.1 hf1
    refine ss_ret (A := fun y => ∃ R, (GR n 4 24 R ∧ rlen R ≤ 24) ∧ y = .d (dR R)) (e_tupP (P := fun xs => ∃ v, GW n 12 v ∧ xs = [.d (dW v)]) (ea_cons (P := Is []) (A := fun y => ∃ v, GW n 12 v ∧ y = .d (dW v)) (e_callP (P := fun xs => ∃ u, Red u ∧ Rk n u ∧ u.length ≤ 12 ∧ xs = [.d (dW u)]) (c__law_ring G) (hr.mono (by decide)) (ea_cons (P := Is []) (A := fun y => ∃ u, Red u ∧ Rk n u ∧ u.length ≤ 12 ∧ y = .d (dW u)) (e_draw hW (c_word G) (hr.mono (by decide)) hf2 (ea_c (e_var 0) (ea_c (e_var 1) (ea_c (e_var 2) ea_nil))) ⟨n, 12, rfl, hn1, hn, by omega, fun u h1 h2 h3 => ⟨u, h1, h2, h3, rfl⟩⟩) ea_nil (fun x xs ⟨u, h1, h2, h3, h4⟩ e => ⟨u, h1, h2, h3, by rw [h4, e]⟩)) (fun xs ⟨u, h1, h2, h3, h4⟩ => ⟨u, h4, by omega, NL.ring u, gw_ring h1 h2 h3, rfl⟩)) ea_nil (fun x xs ⟨v, h1, h2⟩ e => ⟨v, h1, by rw [h2, e]⟩)) (fun ys ⟨v, h1, h2⟩ => ⟨[dW v], by rw [h2]; rfl, szl (by simp), [v], one_row h1 (by omega), rfl⟩)) fun v H3 y r3 ⟨R, hR, ey⟩ hv => ?_
    subst ey
    exact hrt v H3 _ (tR r1 (tR r2 r3)) (hC R hR.1 hR.2) hv
  have hf2 := r2.2.1 hf1
  refine ss_if (P := fun _ => True) (ET.imp (et_eqI (e_var 3) e_int) fun _ _ => trivial) (fun _ H3 r3 => ?_) fun _ H3 r3 => ss_end ?_
  · have hf3 := r3.2.1 hf2
    refine ss_ret (A := fun y => ∃ R, (GR n 4 24 R ∧ rlen R ≤ 24) ∧ y = .d (dR R)) (e_tupP (P := fun xs => ∃ v, GW n 12 v ∧ xs = [.d (dW v)]) (ea_cons (P := Is []) (A := fun y => ∃ v, GW n 12 v ∧ y = .d (dW v)) (e_callP (P := fun xs => ∃ u, Red u ∧ Rk n u ∧ u.length ≤ 12 ∧ xs = [.d (dW u)]) (c__law_ring G) (hr.mono (by decide)) (ea_cons (P := Is []) (A := fun y => ∃ u, Red u ∧ Rk n u ∧ u.length ≤ 12 ∧ y = .d (dW u))
      (e_op op_mulS (A := fun y => ∃ v, GW n 6 v ∧ y = .d (dW v)) (B := fun y => ∃ k : Nat, (k = 1 ∨ k = 2) ∧ y = .d (.int k)) (e_callP (P := fun xs => ∃ u, Red u ∧ Rk n u ∧ u.length ≤ 6 ∧ xs = [.d (dW u)]) (c__law_ring G) (hr.mono (by decide)) (ea_cons (P := Is []) (A := fun y => ∃ u, Red u ∧ Rk n u ∧ u.length ≤ 6 ∧ y = .d (dW u)) (e_draw hW (c_word G) (hr.mono (by decide)) hf3 (ea_c (e_var 0) (ea_c (e_var 1) (ea_c e_int ea_nil))) ⟨n, 6, rfl, hn1, hn, by omega, fun u h1 h2 h3 => ⟨u, h1, h2, h3, rfl⟩⟩) ea_nil (fun x xs ⟨u, h1, h2, h3, h4⟩ e => ⟨u, h1, h2, h3, by rw [h4, e]⟩)) (fun xs ⟨u, h1, h2, h3, h4⟩ => ⟨u, h4, by omega, NL.ring u, gw_ring h1 h2 h3, rfl⟩))
        (e_op op_add (A := Is (.d (.int 1))) (B := fun y => ∃ r : Nat, y = .d (.int r) ∧ r < 2) e_int (e_pick (P := P) (w := w) (base := base) (K := K) (mg := mg) (many := 2) hW (c_pick G) (hr.mono (by decide)) hf3 (e_var 0) (EE.is (e_fdiv (e_var 2) e_int ⟨by omega, by omega⟩) (by show Ds.d (.int ((12 : Int) / 6)) = Ds.d (.int 2); rfl)) (by omega) (by omega)) (fun x y ex ⟨r, ey, hr2⟩ => by
          cases ex
          subst ey
          exact fun v u H1 tr hv hu Q q => rd_int v u H1 tr hv hu Q fun z H2 c r' hc hz => q z H2 c r' ⟨1 + r, by omega, hc⟩ hz))
        (fun x y ⟨v, h1, ex⟩ ⟨k, hk, ey⟩ => by
          subst ex ey
          intro v' u' H1 tr hv hu Q q
          cases hv
          cases hu
          have hle := h1.le
          refine ⟨_, _, rfl, rfl, by omega, by omega, by rw [enc_len]; omega, ?_⟩
          rw [mul_enc v k hk]
          refine q _ H1 _ ((dr M c fl).refl _) ⟨if k = 1 then v else v ++ v, ?_, ?_, ?_, rfl⟩ (.str _)
          · split
            · exact NL.CR.red h1.ir.cr
            · exact red_twice h1.ir.cr
          · split
            · exact h1.rk
            · intro z hz
              rcases List.mem_append.mp hz with hz | hz <;> exact h1.rk z hz
          · split
            · omega
            · rw [List.length_append]; omega)) ea_nil (fun x xs ⟨u, h1, h2, h3, h4⟩ e => ⟨u, h1, h2, h3, by rw [h4, e]⟩)) (fun xs ⟨u, h1, h2, h3, h4⟩ => ⟨u, h4, by omega, NL.ring u, gw_ring h1 h2 h3, rfl⟩)) ea_nil (fun x xs ⟨v, h1, h2⟩ e => ⟨v, h1, by rw [h2, e]⟩)) (fun ys ⟨v, h1, h2⟩ => ⟨[dW v], by rw [h2]; rfl, szl (by simp), [v], one_row h1 (by omega), rfl⟩)) fun v H4 y r4 ⟨R, hR, ey⟩ hv => ?_
    subst ey
    exact hrt v H4 _ (tR r1 (tR r2 (tR r3 r4))) (hC R hR.1 hR.2) hv
  have hf3 := r3.2.1 hf2
  refine ss_ret (A := fun y => ∃ R, GR n 4 24 R ∧ rlen R ≤ 12 ∧ y = .d (dR R)) (e_draw hW (c_row G) (hr.mono (by decide)) hf3 (ea_c (e_var 0) (ea_c (e_var 1) (ea_c e_int (ea_c (e_var 2) ea_nil)))) ⟨n, rfl, hn1, hn, fun R h1 h2 => ⟨R, h1, h2, rfl⟩⟩) fun v H4 y r4 ⟨R, h1, h2, ey⟩ hv => ?_
  subst ey
  exact hrt v H4 _ (tR r1 (tR r2 (tR r3 r4))) (hC R h1 (by omega)) hv
theorem dX_str (n : Nat) (s : Sx) : ∃ x, dX n s = .tuple x := by cases s <;> exact ⟨_, rfl⟩
/-- a road as drawn, its rows -/
structure GRd (n : Nat) (R : NL.Row) (road : List Sx) : Prop where
  len : road.length ≤ 6
  ok : ∀ s ∈ road, s.ok n
  rows : ∀ Q ∈ along n road R, rlen Q ≤ 24
def R_walked (xs : List Ds) (C : Ds → Prop) : Prop := ∃ (n : Nat) (R : NL.Row), xs = [.d (.int n), .d (dR R)] ∧ 1 ≤ n ∧ n ≤ 4 ∧ GR n 4 24 R ∧ ∀ road, GRd n R road → C (.d (.tuple [dRoad n road, .list ((along n road R).map dR)]))
theorem c_walked (G : Gs K mg) : Cal P w K mg base "_law_walked" 5 (spD R_walked) := by
  have S : FnScope ["_law_flow_here", "_law_n", "_law_rings", "_law_road", "_law_rows", "_law_row_here", "_law_k", "_law_step", "_law_there"] ["_law_flow_here", "_law_n", "_law_rings"] (defScope (top 67)) := ⟨rfl, rfl, rfl, by decide +kernel, rfl, by decide +kernel, by decide +kernel⟩
  have nd := S.nd
  refine cal_D (G.df 54 _ rfl) S (fun _ _ _ _ _ _ us hl => match us, hl with | [_, _, _], _ => rfl) (fun xs C h => by obtain ⟨n, R, e, h⟩ := h; subst e; rfl) fun f cdv A outer s H0 E M c fl xs C D hr h hf hrt hnx tr0 => ?_
  obtain ⟨n, R, e, hn1, hn, hG, hC⟩ := h
  subst e
  have hW := Dw.dr M c fl
  have tR := fun {a b c' : Hp} => (dr M c fl).trans (H := a) (H1 := b) (H2 := c')
  refine ss_setI (i := 3) (y := .d (dRoad n [])) (e_tup (xs := []) ea_nil (Nat.zero_le _)) (fun H1 r1 => ?_) nd
  refine ss_new (i := 4) (u := .lst []) (by intro _ h; cases h) new_lst (fun p H2 r2 hp => ?_) nd
  have r02 : Rfl c fl H0 H2 := tR r1 r2
  have h0 := rfl_none r02 hp hf
  have npf : p ≠ fl := fun z => (hf.som).2 (by rw [← z]; exact h0)
  let W2 : Wd := (dr M c fl).add p
  have hW2 : Dw W2 c fl := hW.add p
  have nF : ¬ W2.F p := npf
  have kR := fun {a b : Hp} (h : (dr M c fl).R a b) => Kq.r (W := W2) h
  have r03 : Rfl c fl H0 (L2.upd H2 p (.lst [])) := rfl_upd r02 h0 (by intro _ z; cases z)
  refine ss_setI (i := 5) (y := .d (dR R)) (e_var 2) (fun H3 r3 => ?_) nd
  have r04 : Rfl c fl H0 H3 := tR r03 r3
  refine ss_forE (P := fun as : List Nat => ∃ m, as = List.range m ∧ m < 7) (g := fun i => .d (.int i)) (dz := fun i ds' => ds'.set 6 (.d (.int i))) (fun as done ds' H' => Rfl c fl H0 H' ∧ ∃ (road : List Sx) (y6 y7 y8 : Ds), ds' = [.r (.ref fl), .d (.int n), .d (dR R), .d (dRoad n road), .r (.ref p), .d (dR (endOf n road R)), y6, y7, y8] ∧ LB W2.M H' p ((along n road R).map dR) ∧ road.length ≤ done.length ∧ (∀ s ∈ road, s.ok n) ∧ (∀ Q ∈ along n road R, rlen Q ≤ 24) ∧ GR n 4 24 (endOf n road R)) (ei_rangeP (P := fun m => m < 7) (G.fr 5 _ rfl) (e_pick (P := P) (w := w) (base := base) (K := K) (mg := mg) hW2 (c_pick G) (hr.mono (by decide)) (r04.2.1 hf) (e_var 0) e_int (by omega) (by omega)) (fun m hm => by omega)) ?_ ?_ ?_ ?_
  · intro as _ H4 r4
    exact ⟨tR r04 r4, [], _, _, _, rfl, (LB.new.mono (W := W2) nF r3).mono (W := W2) nF r4, Nat.le_refl _, fun s hs => (by cases hs), fun Q hQ => (by cases hQ), hG⟩
  · rintro as _ done i ds' H' ⟨_, road, y6, y7, y8, rfl, _⟩ _
    exact eh_name (i := 6) nd
  · rintro as ⟨m, rfl, hm⟩ done i todo ds' Hi H' eu ⟨s0, road, y6, y7, y8, rfl, lb, hrl, hro, hrr, hQ⟩ sm' kq
    have hdl : done.length < 7 := by
      have := congrArg List.length eu
      simp at this
      omega
    have s1 : Rfl c fl H0 H' := tR s0 sm'
    have lb1 := lb.mono (W := W2) nF sm'
    have hal := along_len n road R
    refine ss_set (i := 7) (A := fun y => ∃ s' : Sx, s'.ok n ∧ y = .d (dX n s')) (e_draw hW2 (c_drawn_step G) (hr.mono (by decide)) (s1.2.1 hf) (ea_c (e_var 0) (ea_c (e_var 1) ea_nil)) ⟨n, rfl, hn1, hn, fun s' h => ⟨s', h, rfl⟩⟩) (fun y H4 r4 ⟨s', hs', ey⟩ => ?_) nd
    subst ey
    have eal := along_app n road s' R
    have een := endOf_app n road s' R
    generalize hE : endOf n road R = Q at hQ een eal
    refine ss_setI (i := 8) (y := .d (dR (rmap (s'.fn n) Q))) (e_call2 (C := Is (.d (dR (rmap (s'.fn n) Q)))) (c__law_rings_retold G) (hr.mono (by decide)) (e_call2 (C := Is (.d (.tuple ((s'.us n).map dW)))) (c__law_step_told G) (hr.mono (by decide)) (e_var 1) (e_var 7) ⟨n, s', rfl, hn, hs', rfl⟩) (e_var 5) ⟨s'.us n, Q, rfl, by rw [us_len hs']; exact hn, us_short10, by rw [us_len hs']; exact hQ.rowOk (by omega) (by omega), by rw [rmap_us hn hs' hQ.rk]; rfl⟩) (fun H5 r5 => ?_) nd
    have hlen : ∀ v ∈ rmap (s'.fn n) Q, v.length ≤ 10000 := by
      intro v hv
      rw [← rmap_us hn hs' hQ.rk] at hv
      obtain ⟨u, hu, rfl⟩ := List.mem_map.mp hv
      have h1 := rtold_len_us (n := n) (s := s') u
      have h2 := (hQ.all u hu).le
      omega
    refine ss_if (P := Is (decide ((rlen (rmap (s'.fn n) Q) : Int) ≤ 24))) (et_le (e_call1 (C := Is (.d (.int (rlen (rmap (s'.fn n) Q))))) (c__law_length G) (hr.mono (by decide)) (e_var 8) ⟨_, rfl, by unfold rmap; rw [List.length_map]; have := hQ.len; omega, hlen, rfl⟩) e_int) (fun hb H6 r6 => ?_) fun hb H6 r6 => ?_
    · have hb := of_decide_eq_true hb.symm
      refine ss_setI (i := 3) (y := .d (dRoad n (road ++ [s']))) (EE.is (e_catT (ys := [dX n s']) (e_var 3) (e_tup (xs := [dX n s']) (ea_c (e_var 7) ea_nil) (szl (by simp))) (Nat.le_of_lt (szl (by rw [List.length_map]; show _ + 1 < 16777216; omega)))) (by show _ = Ds.d (.tuple ((road ++ [s']).map (dX n))); rw [List.map_append]; rfl)) (fun H7 r7 => ?_) nd
      refine ss_appendZ ((((lb1.mono (W := W2) nF r4).mono (W := W2) nF r5).mono (W := W2) nF r6).mono (W := W2) nF r7) Wd.addM nF (by rw [List.length_map]; exact szl (by omega)) (e_var 4).at (e_var 8) fun H8 v r8 lb8 => ?_
      refine ss_setI (i := 5) (y := .d (dR (rmap (s'.fn n) Q))) (e_var 8) (fun H9 r9 => ss_end (ss_nq fun H10 r10 => ⟨⟨?_, road ++ [s'], _, _, _, by rw [een]; rfl, ?_, ?_, ?_, ?_, by rw [een]; exact hQ.map hn hs' (by omega)⟩, ?_⟩)) nd
      · exact tR (rfl_upd (tR s1 (tR r4 (tR r5 (tR r6 (tR r7 r8))))) h0 (lb_nt lb8)) (tR r9 r10)
      · rw [eal, List.map_append]
        exact (lb8.mono (W := W2) nF r9).mono (W := W2) nF r10
      · rw [List.length_append, List.length_append]; simp; omega
      · intro z hz
        rcases List.mem_append.mp hz with hz | hz
        · exact hro z hz
        · simp at hz; subst hz; exact hs'
      · rw [eal]
        intro z hz
        rcases List.mem_append.mp hz with hz | hz
        · exact hrr z hz
        · simp at hz; subst hz; omega
      · exact kq.trans ((kR (tR r4 (tR r5 (tR r6 (tR r7 r8))))).trans (Kq.updA.trans (kR (tR r9 r10))))
    · refine ss_end (ss_nq fun H7 r7 => ⟨⟨tR s1 (tR r4 (tR r5 (tR r6 r7))), road, _, _, _, (by rw [hE]; rfl), (((lb1.mono (W := W2) nF r4).mono (W := W2) nF r5).mono (W := W2) nF r6).mono (W := W2) nF r7, by rw [List.length_append]; omega, hro, hrr, by rw [hE]; exact hQ⟩, kq.trans (kR (tR r4 (tR r5 (tR r6 r7))))⟩)
  · rintro as ⟨m, rfl, hm⟩ ds' H' ⟨s0, road, y6, y7, y8, rfl, lb, hrl, hro, hrr, hQ⟩ _
    rw [List.length_range] at hrl
    refine ss_ret2' (e_var 3) (e_var 4) fun q H5 v r5 hq hv => ?_
    have s5 : Rfl c fl H0 (L2.upd H5 q (.tup [v, .ref p])) := (dr M c fl).trans (tR s0 r5) ((dr M c fl).ex (same_new hq))
    have lb5 := lb.mono (W := W2) nF r5
    have lb6 : LB W2.M (L2.upd H5 q (.tup [v, .ref p])) p ((along n road R).map dR) := lb5.mono (W := W2) nF (W2.ex (same_new hq))
    have h0q := rfl_none (tR s0 r5) hq hf
    have nM : ∀ z, H0 z = none → ¬ (dr M c fl).M z := fun z hz m => by
      rcases m with m | m
      · exact (tr0 z m).ne hz
      · rw [m] at hz; exact (hf.som).2 hz
    refine hrt _ _ _ s5 (hC road ⟨by omega, hro, hrr⟩) (.tup (nM q h0q) upd_same (.cons ?_ (.cons (lb6.dt (nM p h0) (fun a m => .inl m)) .nil)))
    exact (hv.mono (W := W2) (W2.ex (same_new hq))).keep fun a o m e => ⟨fun z => m (.inl z), e⟩
end
end NQ

namespace NQ
open PySem PySem.Spec L2 NP
open NL (inv red invw mid Red S8 Side wh rtold rmap sub Per single cp lp sm cutp cut rcut CR rlen rcnt IsR Join)
theorem last_along (n : Nat) (road : List Sx) : ∀ R, (R :: along n road R).getLast? = some (endOf n road R) := by
  induction road with
  | nil => intro R; rfl
  | cons s r ih =>
    intro R
    have := ih (rmap (s.fn n) R)
    show (R :: rmap (s.fn n) R :: along n r (rmap (s.fn n) R)).getLast? = _
    rw [List.getLast?_cons_cons, this]; rfl
theorem rows_keep {n : Nat} (hn : n ≤ 4) : ∀ (road : List Sx) (R : NL.Row), (∀ s ∈ road, s.ok n) → R.length ≤ 4 → RkR n R → NL.rowR R → (∀ Q ∈ along n road R, rlen Q ≤ 100) → (∀ Q ∈ along n road R, RowOk n Q) ∧ (endOf n road R).length ≤ 4 ∧ RkR n (endOf n road R) ∧ NL.rowR (endOf n road R) ∧ Join R (endOf n road R)
  | [], R, _, h1, h2, h3, _ => ⟨fun Q hQ => (by cases hQ), h1, h2, h3, .refl R⟩
  | s :: r, R, hs, h1, h2, h3, hl => by
    have ok := hs s (by simp)
    have k1 : (rmap (s.fn n) R).length ≤ 4 := by unfold rmap; rw [List.length_map]; exact h1
    have k2 := RkR_rmap hn ok h2
    have k3 : NL.rowR (rmap (s.fn n) R) := NL.rmap_rowR _ _
    have hl0 := hl (rmap (s.fn n) R) (by show _ ∈ rmap (s.fn n) R :: _; simp)
    obtain ⟨i1, i2, i3, i4, i5⟩ := rows_keep hn r (rmap (s.fn n) R) (fun t ht => hs t (by simp [ht])) k1 k2 k3 (fun Q hQ => hl Q (by show Q ∈ _ :: _; simp [hQ]))
    refine ⟨fun Q hQ => ?_, i2, i3, i4, .step (step_fn hn ok R) i5⟩
    rcases List.mem_cons.mp (show Q ∈ rmap (s.fn n) R :: along n r (rmap (s.fn n) R) from hQ) with rfl | hQ
    · exact row_ok (by omega) k2 hl0
    · exact i1 Q hQ
theorem snoc_ind {α : Type} {P : List α → Prop} (h0 : P []) (h1 : ∀ l a, P l → P (l ++ [a])) (l : List α) : P l := by
  rw [← List.reverse_reverse l]
  induction l.reverse with
  | nil => exact h0
  | cons a l ih => rw [List.reverse_cons]; exact h1 _ a ih
theorem back_road {n : Nat} (hn : n ≤ 4) {R : NL.Row} (hR : NL.rowR R) (road : List Sx) : (∀ s ∈ road, s.ok n) → (∀ s ∈ backOf n road, s.ok n) ∧ endOf n (backOf n road) (endOf n road R) = R ∧ ∀ Q ∈ along n (backOf n road) (endOf n road R), Q ∈ R :: along n road R := by
  refine snoc_ind (P := fun road => (∀ s ∈ road, s.ok n) → (∀ s ∈ backOf n road, s.ok n) ∧ endOf n (backOf n road) (endOf n road R) = R ∧ ∀ Q ∈ along n (backOf n road) (endOf n road R), Q ∈ R :: along n road R) ?_ ?_ road
  · intro _
    exact ⟨fun s hs => (by cases hs), rfl, fun Q hQ => (by cases hQ)⟩
  · intro l s ih hs
    obtain ⟨i1, i2, i3⟩ := ih fun t ht => hs t (by simp [ht])
    have ok := hs s (by simp)
    have hE : NL.rowR (endOf n l R) := by
      rcases List.eq_nil_or_concat l with e | ⟨l', t, e⟩
      · subst e; exact hR
      · rw [List.concat_eq_append] at e
        subst e
        rw [endOf_app]; exact NL.rmap_rowR _ _
    have eb : backOf n (l ++ [s]) = s.back n :: backOf n l := by unfold backOf; rw [List.reverse_append]; rfl
    have ee : rmap ((s.back n).fn n) (rmap (s.fn n) (endOf n l R)) = endOf n l R := rmap_back hn ok hE
    rw [eb, endOf_app]
    refine ⟨fun t ht => ?_, ?_, fun Q hQ => ?_⟩
    · rcases List.mem_cons.mp ht with rfl | ht
      · exact back_ok hn ok
      · exact i1 t ht
    · show endOf n (backOf n l) (rmap ((s.back n).fn n) (rmap (s.fn n) (endOf n l R))) = R
      rw [ee]; exact i2
    · have hQ : Q ∈ rmap ((s.back n).fn n) (rmap (s.fn n) (endOf n l R)) :: along n (backOf n l) (rmap ((s.back n).fn n) (rmap (s.fn n) (endOf n l R))) := hQ
      rw [ee] at hQ
      rw [along_app]
      rcases List.mem_cons.mp hQ with rfl | hQ
      · rcases endOf_mem n l [] R with h | h
        · rw [h]; simp
        · rw [List.append_nil] at h; simp [h]
      · have := i3 Q hQ
        rcases List.mem_cons.mp this with h | h
        · simp [h]
        · simp [h]
theorem Pre.dwn {n : Nat} {R Q : NL.Row} {cs : List (Lt × S8)} (h : Pre n R cs Q) : Dwn n R cs ∧ endOf n (chs cs) R = Q := by
  have app : ∀ (cs : List (Lt × S8)) (R : NL.Row) (c : Lt × S8), Dwn n R cs → MSs n (endOf n (chs cs) R) c.1 c.2 → Dwn n R (cs ++ [c]) := by
    intro cs
    induction cs with
    | nil => intro R c _ h; exact ⟨h, trivial⟩
    | cons d cs ih => intro R c h k; exact ⟨h.1, ih _ c h.2 k⟩
  induction h with
  | nil => exact ⟨trivial, rfl⟩
  | @snoc cs Q a S _ hm ih =>
    refine ⟨app cs R (a, S) ih.1 (by rw [ih.2]; exact hm), ?_⟩
    have : chs (cs ++ [(a, S)]) = chs cs ++ [.ch a S] := by unfold chs; rw [List.map_append]; rfl
    rw [this, endOf_app, ih.2]; rfl
theorem Dwn.take {n : Nat} : ∀ {cs : List (Lt × S8)} {R : NL.Row} (k : Nat), Dwn n R cs → Dwn n R (cs.take k)
  | [], _, k, _ => by rw [List.take_nil]; trivial
  | c :: cs, R, 0, _ => trivial
  | c :: cs, R, k + 1, h => ⟨h.1, Dwn.take k h.2⟩
theorem Pre.keep {n : Nat} (hn : n ≤ 4) {R Q : NL.Row} {cs : List (Lt × S8)} (h : Pre n R cs Q) (hk : RkR n R) (hR : NL.rowR R) (hl : R.length ≤ 4) : RkR n Q ∧ NL.rowR Q ∧ Join R Q ∧ Q.length ≤ 4 ∧ rlen Q ≤ rlen R := by
  induction h with
  | nil => exact ⟨hk, hR, .refl R, hl, Nat.le_refl _⟩
  | @snoc cs Q a S _ hm ih =>
    obtain ⟨i1, i2, i3, i4, i5⟩ := ih
    have ok := hm.ok hn
    have := fall_len i2 hm
    exact ⟨RkR_rmap hn ok i1, NL.rmap_rowR _ _, i3.trans (.one (step_fn hn ok Q)), by unfold rmap; rw [List.length_map]; exact i4, by omega⟩
theorem rcnt_out {n : Nat} {Q : NL.Row} (hk : RkR n Q) {a : Lt} (ha : ¬ a.val < 2 * n) : rcnt a Q = 0 := by
  have hi : ¬ (inv a).val < 2 * n := fun h => ha ((inv_rk n a).mp h)
  induction Q with
  | nil => rfl
  | cons w Q ih =>
    have h1 : w.count a = 0 := List.count_eq_zero.mpr fun m => ha (hk w (by simp) a m)
    have h2 : w.count (inv a) = 0 := List.count_eq_zero.mpr fun m => hi (hk w (by simp) _ m)
    have := ih fun v hv => hk v (by simp [hv])
    unfold rcnt at this ⊢
    rw [NL.rsum_cons, this]
    unfold NL.cnt
    omega
theorem wmin_of {n : Nat} (hn : n ≤ 4) {Q : NL.Row} (hk : RkR n Q) (h : MSn n Q) : NL.WMin Q := by
  have ev : ∀ a S, a ∈ los n → Side a S → rcnt a Q ≤ rcut S Q := fun a S ha hS => by
    obtain ⟨S0, hL, hf⟩ := h a ha
    have := hL.min S hS
    omega
  intro a S hS
  by_cases c : a.val < 2 * n
  · by_cases c2 : a.val % 2 = 0
    · exact ev a S ((los_mem hn).mpr ⟨c, c2⟩) hS
    · have hi : inv a ∈ los n := (los_mem hn).mpr ⟨(inv_rk n a).mpr c, by
        have : ∀ a : Lt, a.val % 2 ≠ 0 → (inv a).val % 2 = 0 := by decide
        exact this a c2⟩
      have := ev (inv a) (NL.cpl S) hi hS.cpl
      rw [NL.rcnt_inv, NL.rcut_cpl] at this
      exact this
  · rw [rcnt_out hk c]; exact Nat.zero_le _
/-- both ways down end with rows of one length -/
theorem same_end {n : Nat} (hn : n ≤ 4) {R L Q Q' : NL.Row} {cs cs' : List (Lt × S8)} (hk : RkR n R) (hR : NL.rowR R) (hl : R.length ≤ 4) (hkL : RkR n L) (hL : NL.rowR L) (hlL : L.length ≤ 4) (j : Join R L) (h : Pre n R cs Q) (h' : Pre n L cs' Q') (m : MSn n Q) (m' : MSn n Q') : rlen Q = rlen Q' := by
  obtain ⟨a1, a2, a3, _, _⟩ := h.keep hn hk hR hl
  obtain ⟨b1, b2, b3, _, _⟩ := h'.keep hn hkL hL hlL
  exact NL.WMin.len_eq a2 (wmin_of hn a1 m) (wmin_of hn b1 m') (((a3.symm hR).trans j).trans b3)
end NQ

namespace NQ
open PySem PySem.Spec L2 NP
open NL (inv red invw mid Red S8 Side wh rtold rmap sub Per single cp lp sm cutp cut rcut CR rlen rcnt IsR Join)
theorem sqL_same {K : PySem.W.Frag} {H H' : Hp} {a : Addr} {xs : List V} (h : SqL K H a xs) (s : Same H H') : SqL K H' a xs := by
  rcases h with h | h
  · left
    rcases h with h | ⟨o, h⟩
    · exact .inl (s _ _ h)
    · exact .inr ⟨o, s _ _ h⟩
  · exact .inr h
theorem ints_dt {M : Ms} {H : Hp} (ns : List Int) : DtAll M H (ns.map V.int) (ns.map .int) := by
  induction ns with
  | nil => exact .nil
  | cons n ns ih => exact .cons (.int n) ih
section
variable {W : Wd} {X : Cx} {e a b o k tg iter : Expr} {es : List Expr} {ds : List Ds} {H H' : Hp} {pos p apos pos' p2 p3 p4 : Pos} {A B C : Ds → Prop} {D : Ends} {rest body els : List Stmt}
theorem e_listR {l : Addr} {ns : List Int} (hm : X.mg "list" = none) (ha : EE W X a ds H (Is (.r (.ref l)))) (h : ∀ H', W.R H H' → SqL X.K H' l (ns.map V.int)) (hg : Gl X "list" := by rfl) (he : starEach [a] X.env = (false, eval a X.env) :: starEach [] X.env := by rfl) : EE W X (.Call (.Name "list" p) [a] [] pos) ds H (Is (.d (.list (ns.map .int)))) := fun σ H1 r1 ok Q q =>
  tw_of (pe_callTy call_list_of hg hm PyProof.Rows.boot_list (pa_cons tw_pe pa_nil he) (he := he)) (ha.at σ H1 r1 ok _ fun H2 r2 => by
    refine ⟨_, _, rfl, .inl (h H2 (W.trans r1 r2)), fun p hp => ?_⟩
    obtain ⟨mp, rp⟩ := new_ok (ok.mono r2).tr hp (.lst _)
    exact q _ _ _ (W.trans r2 rp) rfl (.lst mp upd_same (ints_dt ns)))
/-- x, y = a, b, both sides written -/
theorem ss_par {i j : Nat} {x y : Str} {px py pt pt2 : Pos} {kt k2 : Nat} {A B : Ds → Prop} (ha : EE W X a ds H A) (hb : EE W X b ds H B) (hN : X.N.Nodup) (hij : i ≠ j) (k : ∀ u v H1, W.R H H1 → A u → B v → SS W X rest D ((ds.set i u).set j v) H1) (hi : X.N[i]? = some x := by rfl) (hj : X.N[j]? = some y := by rfl)
    (hx : X.env.scope.names.lookup x = some .local := by rfl) (hy : X.env.scope.names.lookup y = some .local := by rfl) (hc : X.calm = true := by rfl) : True := trivial
end
section
variable {P : Program} {w : World} {K : PySem.W.Frag} {mg : Str → Option Value} {base : Heap}
def spFlow (K : PySem.W.Frag) : Sp := fun vs H Q _ => ∃ (a : Addr) (ns : List Int), vs = [.ref a] ∧ SqL K H a (ns.map V.int) ∧ ns.length ≤ sizeLine ∧ ∀ c fl H', Same H H' → H fl = none → FlowOk c fl H' → Q (.ref fl) H'
theorem c_flow (G : Gs K mg) : Cal P w K mg base "_law_flow" 1 (spFlow K) := by
  have S : FnScope ["_law_script"] ["_law_script"] (defScope (top 47)) := ⟨rfl, rfl, rfl, by decide +kernel, rfl, by decide +kernel, by decide +kernel⟩
  refine cal_S (G.df 34 _ rfl) S (fun _ _ _ _ _ _ us hl => match us, hl with | [_], _ => rfl) (fun vs H Q E h => by obtain ⟨a, ns, e, h⟩ := h; subst e; rfl) fun f cdv A outer s H vs Q E hr h => ?_
  obtain ⟨a, ns, e, hS, hl, q⟩ := h
  subst e
  have ok : Ok (pur fun _ => False) H (L2.start ["_law_script"] [.ref a]) [.r (.ref a)] := ⟨.cons (.of (x := .r (.ref a)) rfl) .nil, fun _ m => m.elim⟩
  refine tws_of (pss_cons (u := tNever) (ps_ret (pe_lst twa_pa)) pss_never) ?_
  refine ea_c (W := pur fun _ => False) (ds := [.r (.ref a)]) (x := .d (.list (ns.map .int))) (e_listR (G.fr 10 _ rfl) (e_var 0) (fun H' r => sqL_same hS r)) (ea_c e_int (ea_c e_int (ea_c e_int (ea_c e_int ea_nil)))) (by rfl) _ H (Same.refl H) ok _ fun vs H2 ys r2 ey hvs => ?_
  cases ey
  cases hvs with
  | cons h1 hvs =>
  cases hvs with
  | cons h2 hvs =>
  cases hvs with
  | cons h3 hvs =>
  cases hvs with
  | cons h4 hvs =>
  cases hvs with
  | cons h5 hvs =>
  cases hvs
  cases h2; cases h3; cases h4; cases h5
  refine ⟨by show 5 ≤ 16777216; decide, fun fl hfl => ?_⟩
  cases h1 with
  | lst m hc dc =>
    rename_i c vs
    have ev := dc.ints
    subst ev
    have hne : c ≠ fl := fun z => by rw [z, hfl] at hc; cases hc
    exact q c fl _ (r2.trans (same_new hfl)) (none_of r2 hfl) ⟨ns, 0, 0, 1, 0, hne, hl, by rw [upd_ne hne]; exact hc, upd_same, by omega, by omega, by omega, by omega, by omega⟩
end
end NQ

namespace NQ
open PySem PySem.Spec L2 NP
open NL (inv red invw mid Red S8 Side wh rtold rmap sub Per single cp lp sm cutp cut rcut CR rlen rcnt IsR Join)
section
variable {W : Wd} {X : Cx} {e a b o k tg iter : Expr} {es : List Expr} {ds : List Ds} {H H' : Hp} {pos p apos pos' p2 p3 p4 : Pos} {A B C : Ds → Prop} {D : Ends} {rest body els : List Stmt}
theorem ss_par2 {i j : Nat} {x y : Str} {px py pt pt2 : Pos} {kt k2 : Nat} (ha : EE W X a ds H A) (hb : EE W X b ds H B) (k : ∀ u v H1, W.R H H1 → A u → B v → SS W X rest D ((ds.set i u).set j v) H1) (hN : X.N.Nodup) (hij : i ≠ j) (hi : X.N[i]? = some x := by rfl) (hj : X.N[j]? = some y := by rfl)
    (hx : X.env.scope.names.lookup x = some .local := by rfl) (hy : X.env.scope.names.lookup y = some .local := by rfl) (hc : X.calm = true := by rfl)
    (hw : swappedStores [.Tuple [.Name x px, .Name y py] kt pt] (.Tuple [a, b] k2 pt2) X.env = pure (some [x, y]) := by rfl) (hs : swapsWithSole [.Tuple [.Name x px, .Name y py] kt pt] (.Tuple [a, b] k2 pt2) pos.line X.env = pure false := by rfl)
    (he : starEach [a, b] X.env = (false, eval a X.env) :: starEach [b] X.env := by rfl) (he2 : starEach [b] X.env = (false, eval b X.env) :: starEach [] X.env := by rfl) :
    SS W X (.Assign [.Tuple [.Name x px, .Name y py] kt pt] (.Tuple [a, b] k2 pt2) pos :: rest) D ds H := fun σ H1 r ok =>
  tws_of (pss_cons (ps_par hc hN hi hj hij hx hy (twa_pa (es := [a, b])) hw hs) tws_pss) (ea_cons (P := fun ys => ∃ v, B v ∧ ys = [v]) (P' := fun ys => ∃ u v, A u ∧ B v ∧ ys = [u, v]) ha (ea_cons (P := Is []) hb ea_nil (fun z zs bz e => ⟨z, bz, by rw [e]⟩) he2) (fun z zs az ⟨v, bv, e⟩ => ⟨z, v, az, bv, by rw [e]⟩) he σ H1 r ok _ fun vs H2 ys r2 ⟨u, v, au, bv, ey⟩ hvs => by
    subst ey
    cases hvs with
    | cons h1 hvs =>
    cases hvs with
    | cons h2 hvs =>
    cases hvs
    exact ⟨_, _, rfl, k u v H2 (W.trans r r2) au bv _ H2 (W.refl _) (((ok.mono r2).set i h1).set j h2)⟩)
end
theorem pl_row (R : NL.Row) (h : R.length ≤ 1000) : Pl 1 (dR R) := ⟨R.map dW, .inr rfl, by rw [List.length_map]; exact h, fun y hy => by obtain ⟨w, _, rfl⟩ := List.mem_map.mp hy; exact ⟨enc w, rfl⟩⟩
theorem atI_last_rows (n : Nat) (road : List Sx) (R : NL.Row) : atI (([R].map dR) ++ (along n road R).map dR) (-1) = some (dR (endOf n road R)) := by
  rw [atI_last _ (by simp), ← List.map_append, List.getLast?_map, show [R] ++ along n road R = R :: along n road R from rfl, last_along]; rfl
section
variable {P : Program} {w : World} {K : PySem.W.Frag} {mg : Str → Option Value} {base : Heap}
def spLaw (K : PySem.W.Frag) : Sp := fun vs H Q _ => ∃ (a : Addr) (ns : List Int), vs = [.ref a] ∧ SqL K H a (ns.map V.int) ∧ ns.length ≤ sizeLine ∧ ∀ H', Q (.bl true) H'
abbrev lawN : List Str := ["_law_script", "_law_flow_here", "_law_n", "_law_rings", "_law_road", "_law_rows", "_law_last", "_law_short", "_law_other", "_law_down", "_law_more", "_law_one", "_law_end", "_law_row_here", "_law_part", "_law_there"]
theorem law_rest (G : Gs K mg) (f : Addr) (cdv : Value) (A : Around) (outer : List Env) (s : Shared) (H0 : Hp) (E : XK) (D : Ends) (c fl : Addr) (H1 : Hp) (S : FnScope lawN ["_law_script"] (defScope (top 70))) (hr : Room 10 (XX P w K mg base lawN "law" (top 70) f cdv A outer s H0 E).A) (hf : FlowOk c fl H1) (hrt : ∀ H', D.rt (.bl true) H') :
    SS (dr (fun _ => False) c fl) (XX P w K mg base lawN "law" (top 70) f cdv A outer s H0 E) ((defBody (top 70)).drop 1) D ([.u, .r (.ref fl)] ++ List.replicate 14 .u) H1 := by
  have nd := S.nd
  have hW := Dw.dr (fun _ => False) c fl
  refine ss_set (i := 2) (A := fun y => ∃ n : Nat, (1 ≤ n ∧ n ≤ 4) ∧ y = .d (.int n)) (e_op op_add (A := Is (.d (.int 1))) (B := fun y => ∃ r : Nat, y = .d (.int r) ∧ r < 4) e_int (e_pick (P := P) (w := w) (base := base) (K := K) (mg := mg) (many := 4) hW (c_pick G) (hr.mono (by decide)) hf (e_var 1) e_int (by omega) (by omega)) (fun x y ex ⟨r, ey, hr4⟩ => by
    cases ex
    subst ey
    exact fun v u H1 tr hv hu Q q => rd_int v u H1 tr hv hu Q fun z H2 c r' hc hz => q z H2 c r' ⟨1 + r, by omega, hc⟩ hz)) (fun y H2 r2 ⟨n, ⟨hn1, hn⟩, ey⟩ => ?_) nd
  subst ey
  have hf2 := r2.2.1 hf
  refine ss_set (i := 3) (A := fun y => ∃ R, (GR n 4 24 R ∧ rlen R ≤ 24) ∧ y = .d (dR R)) (e_draw hW (c_any_row G) (hr.mono (by decide)) hf2 (ea_c (e_var 1) (ea_c (e_var 2) (ea_c e_int ea_nil))) ⟨n, rfl, hn1, hn, fun R h1 h2 => ⟨R, ⟨h1, h2⟩, rfl⟩⟩) (fun y H3 r3 ⟨R, ⟨hG, hRl⟩, ey⟩ => ?_) nd
  subst ey
  have hf3 := r3.2.1 hf2
  refine ss_asg (A := fun y => ∃ road, GRd n R road ∧ y = .d (.tuple [dRoad n road, .list ((along n road R).map dR)])) (ds' := fun y => match y with | .d (.tuple [x, z]) => [.u, .r (.ref fl), .d (.int n), .d (dR R), .d x, .d z, .u, .u, .u, .u, .u, .u, .u, .u, .u, .u] | _ => []) (e_draw hW (c_walked G) (hr.mono (by decide)) hf3 (ea_c (e_var 1) (ea_c (e_var 2) (ea_c (e_var 3) ea_nil))) ⟨n, R, rfl, hn1, hn, hG, fun road h => ⟨road, h, rfl⟩⟩) (fun y ⟨road, _, ey⟩ => by subst ey; exact eh_two (i := 4) (j := 5) rfl nd) (fun y H4 r4 ⟨road, hroad, ey⟩ => ?_)
  subst ey
  have hl4 : R.length ≤ 4 := hG.len
  obtain ⟨k1, k2, k3, k4, kj⟩ := rows_keep hn road R hroad.ok hl4 hG.rk hG.rowR (fun Q hQ => by have := hroad.rows Q hQ; omega)
  have hal := along_len n road R
  have hrl := hroad.len
  have hRok := row_ok (n := n) (R := R) (by omega) hG.rk (by omega)
  refine ss_setI (i := 6) (y := .d (dR (endOf n road R))) (e_ixL (e_catL (e_lst (xs := [R].map dR) (ea_c (e_var 3) ea_nil) (szl (by simp))) (e_var 5) (Nat.le_of_lt (szl (by simp; omega)))) (e_neg e_int) (atI_last_rows n road R)) (fun H5 r5 => ?_) nd
  have hLl : rlen (endOf n road R) ≤ 24 := by
    rcases endOf_mem n road [] R with h | h
    · rw [h]; exact hRl
    · rw [List.append_nil] at h; exact hroad.rows _ h
  refine ss_if (P := Is false) (et_not (k := true) (et_valI (e_call2 (C := Is (.d (.bool true))) (c_alike G 2) (hr.mono (by decide)) (e_call3 (C := Is (.d (.list ((along n road R).map dR)))) (c_rows_along G) (hr.mono (by decide)) (e_var 2) (e_var 3) (e_var 4) ⟨n, R, road, rfl, hn, by omega, hroad.ok, hRok, k1, rfl⟩) (e_var 5) ⟨_, rfl, ⟨_, .inl rfl, by rw [List.length_map]; omega, fun y hy => by obtain ⟨Q, hQ, rfl⟩ := List.mem_map.mp hy; exact pl_row Q (k1 Q hQ).1⟩, rfl⟩))) (fun hb H6 r6 => by cases hb) fun _ H6 r6 => ss_end ?_
  have hLk := k3
  have hL4 := k2
  have hLR := k4
  have hback := back_road hn hG.rowR road hroad.ok
  generalize hE : endOf n road R = L at hLl hLk hL4 hLR kj hback
  have hLok := row_ok (n := n) (R := L) (by omega) hLk (by omega)
  refine ss_par2 (i := 7) (j := 8) (A := fun y => ∃ cs Q, Pre n R cs Q ∧ MSn n Q ∧ y = .d (.tuple [.list (cs.map (dC n)), dR Q])) (B := fun y => ∃ cs Q, Pre n L cs Q ∧ MSn n Q ∧ y = .d (.tuple [.list (cs.map (dC n)), dR Q])) (e_call2 (c_made_short G) (hr.mono (by decide)) (e_var 2) (e_var 3) ⟨n, R, rfl, hn, by omega, hG.rk, by omega, hG.rowR, fun cs Q h1 h2 => ⟨cs, Q, h1, h2, rfl⟩⟩) (e_call2 (c_made_short G) (hr.mono (by decide)) (e_var 2) (e_var 6) ⟨n, L, rfl, hn, by omega, hLk, by omega, hLR, fun cs Q h1 h2 => ⟨cs, Q, h1, h2, rfl⟩⟩) (fun u v H7 r7 ⟨cs, Q, hp1, hm1, eu⟩ ⟨cs', Q', hp2, hm2, ev⟩ => ?_) nd (by decide)
  subst eu ev
  obtain ⟨a1, a2, a3, a4, a5⟩ := hp1.keep hn hG.rk hG.rowR hl4
  obtain ⟨b1, b2, b3, b4, b5⟩ := hp2.keep hn hLk hLR hL4
  have hsame := same_end hn hG.rk hG.rowR hl4 hLk hLR hL4 kj hp1 hp2 hm1 hm2
  have lenOf : ∀ {Z : NL.Row}, Z.length ≤ 4 → rlen Z ≤ 24 → ∀ w ∈ Z, w.length ≤ 10000 := fun {Z} _ h w hw => by have := mem_rlen hw; omega
  refine ss_if (P := Is false) (ET.is (et_neI (e_call1 (C := Is (.d (.int (rlen Q)))) (c__law_length G) (hr.mono (by decide)) (e_ixT (xs := [.list (cs.map (dC n)), dR Q]) (d := dR Q) (e_var 7) e_int rfl) ⟨Q, rfl, by omega, lenOf a4 (by omega), rfl⟩) (e_call1 (C := Is (.d (.int (rlen Q')))) (c__law_length G) (hr.mono (by decide)) (e_ixT (xs := [.list (cs'.map (dC n)), dR Q']) (d := dR Q') (e_var 8) e_int rfl) ⟨Q', rfl, by omega, lenOf b4 (by omega), rfl⟩)) (by rw [hsame]; simp)) (fun hb H8 r8 => by cases hb) fun _ H8 r8 => ss_end ?_
  refine ss_par2 (i := 9) (j := 10) (A := Is (.d (dRoad n (chs (cs.take 6))))) (B := Is (.d (dRoad n (chs (cs'.take 6))))) (e_call1 (c__law_steps G) (hr.mono (by decide)) (e_ixT (xs := [.list (cs.map (dC n)), dR Q]) (d := .list (cs.map (dC n))) (e_var 7) e_int rfl) ⟨n, cs, rfl, rfl⟩) (e_call1 (c__law_steps G) (hr.mono (by decide)) (e_ixT (xs := [.list (cs'.map (dC n)), dR Q']) (d := .list (cs'.map (dC n))) (e_var 8) e_int rfl) ⟨n, cs', rfl, rfl⟩) (fun u v H9 r9 eu ev => ?_) nd (by decide)
  cases eu; cases ev
  obtain ⟨d1, d2⟩ := hp1.dwn
  obtain ⟨d1', d2'⟩ := hp2.dwn
  have t1 := d1.take 6
  have t2 := d1'.take 6
  have tl1 : (cs.take 6).length ≤ 6 := by rw [List.length_take]; omega
  have tl2 : (cs'.take 6).length ≤ 6 := by rw [List.length_take]; omega
  refine ss_if (P := Is false) (et_or2 (k := false) (l := false) (et_not (k := true) (et_valI (e_call3 (C := Is (.d (.bool true))) (c__law_falls G) (hr.mono (by decide)) (e_var 2) (e_var 3) (e_var 9) ⟨n, R, cs.take 6, rfl, hn, by omega, by omega, hG.rk, by omega, hG.rowR, t1, rfl⟩))) fun _ => et_not (k := true) (et_valI (e_call3 (C := Is (.d (.bool true))) (c__law_falls G) (hr.mono (by decide)) (e_var 2) (e_var 6) (e_var 10) ⟨n, L, cs'.take 6, rfl, hn, by omega, by omega, hLk, by omega, hLR, t2, rfl⟩))) (fun hb H10 r10 => by cases hb) fun _ H10 r10 => ss_end ?_
  obtain ⟨w1, w2⟩ := t1.rows hn (by omega) hG.rk (by omega) hG.rowR
  obtain ⟨w1', w2'⟩ := t2.rows hn (by omega) hLk (by omega) hLR
  have cl1 : (chs (cs.take 6)).length ≤ 6 := by unfold chs; rw [List.length_map]; exact tl1
  have cl2 : (chs (cs'.take 6)).length ≤ 6 := by unfold chs; rw [List.length_map]; exact tl2
  have al1 := along_len n (chs (cs.take 6)) R
  have al2 := along_len n (chs (cs'.take 6)) L
  refine ss_setI (i := 11) (y := .d (dR (endOf n (chs (cs.take 6)) R))) (e_ixL (e_catL (e_lst (xs := [R].map dR) (ea_c (e_var 3) ea_nil) (szl (by simp))) (e_call3 (C := Is (.d (.list ((along n (chs (cs.take 6)) R).map dR)))) (c_rows_along G) (hr.mono (by decide)) (e_var 2) (e_var 3) (e_var 9) ⟨n, R, chs (cs.take 6), rfl, hn, by omega, w1, hRok, fun Z hZ => (w2 Z hZ).1, rfl⟩) (Nat.le_of_lt (szl (by simp; omega)))) (e_neg e_int) (atI_last_rows n _ R)) (fun H11 r11 => ?_) nd
  refine ss_setI (i := 12) (y := .d (dR (endOf n (chs (cs'.take 6)) L))) (e_ixL (e_catL (e_lst (xs := [L].map dR) (ea_c (e_var 6) ea_nil) (szl (by simp))) (e_call3 (C := Is (.d (.list ((along n (chs (cs'.take 6)) L).map dR)))) (c_rows_along G) (hr.mono (by decide)) (e_var 2) (e_var 6) (e_var 10) ⟨n, L, chs (cs'.take 6), rfl, hn, by omega, w1', hLok, fun Z hZ => (w2' Z hZ).1, rfl⟩) (Nat.le_of_lt (szl (by simp; omega)))) (e_neg e_int) (atI_last_rows n _ L)) (fun H12 r12 => ?_) nd
  have tk : ∀ (cs : List (Lt × S8)), cs.length ≤ 6 → cs.take 6 = cs := fun cs h => List.take_of_length_le h
  have ne1 : ∀ {e1 e2 : Expr} {ds : List Ds} {H : Hp} {q : Pos} {Z Z' : NL.Row}, Z = Z' → EE (dr (fun _ => False) c fl) (XX P w K mg base lawN "law" (top 70) f cdv A outer s H0 E) e1 ds H (Is (.d (dR Z))) → EE (dr (fun _ => False) c fl) (XX P w K mg base lawN "law" (top 70) f cdv A outer s H0 E) e2 ds H (Is (.d (dR Z'))) → ET (dr (fun _ => False) c fl) (XX P w K mg base lawN "law" (top 70) f cdv A outer s H0 E) (.Compare e1 [.NotEq] [e2] q) ds H (Is false) := by
    intro e1 e2 ds H q Z Z' ez h1 h2
    subst ez
    exact ET.is (et_cmpI (op_neD (hu64 hr)) h1 h2 (rd_neD ((sh_row Z).shaped (by omega)) ((sh_row Z).shaped (by omega)))) (by rw [(sh_row Z).refl]; rfl)
  refine ss_if (P := Is false) (et_or2 (k := false) (l := false) (ET.is (et_and2 (k := decide ((cs.length : Int) ≤ 6)) (l := false) (ET.is (et_le (e_lenL (G.fr 0 _ rfl) (e_ixT (xs := [.list (cs.map (dC n)), dR Q]) (d := .list (cs.map (dC n))) (e_var 7) e_int rfl)) e_int) (by rw [List.length_map])) fun hk => ne1 (Z := endOf n (chs (cs.take 6)) R) (Z' := Q) (by have hk := of_decide_eq_true hk; rw [tk cs (by omega), d2]) (e_var 11) (e_ixT (xs := [.list (cs.map (dC n)), dR Q]) (d := dR Q) (e_var 7) e_int rfl)) (by simp)) fun _ => ET.is (et_and2 (k := decide ((cs'.length : Int) ≤ 6)) (l := false) (ET.is (et_le (e_lenL (G.fr 0 _ rfl) (e_ixT (xs := [.list (cs'.map (dC n)), dR Q']) (d := .list (cs'.map (dC n))) (e_var 8) e_int rfl)) e_int) (by rw [List.length_map])) fun hk => ne1 (Z := endOf n (chs (cs'.take 6)) L) (Z' := Q') (by have hk := of_decide_eq_true hk; rw [tk cs' (by omega), d2']) (e_var 12) (e_ixT (xs := [.list (cs'.map (dC n)), dR Q']) (d := dR Q') (e_var 8) e_int rfl)) (by simp)) (fun hb H13 r13 => by cases hb) fun _ H13 r13 => ss_end ?_
  have bk1 := back_road hn hG.rowR (chs (cs.take 6)) w1
  have bk2 := back_road hn hLR (chs (cs'.take 6)) w1'
  have good1 : ∀ Z ∈ R :: along n (chs (cs.take 6)) R, RowOk n Z := fun Z hZ => by
    rcases List.mem_cons.mp hZ with rfl | hZ
    · exact hRok
    · exact (w2 Z hZ).1
  have good2 : ∀ Z ∈ L :: along n (chs (cs'.take 6)) L, RowOk n Z := fun Z hZ => by
    rcases List.mem_cons.mp hZ with rfl | hZ
    · exact hLok
    · exact (w2' Z hZ).1
  have endGood : ∀ (r : List Sx) (Z : NL.Row), endOf n r Z ∈ Z :: along n r Z := fun r Z => by
    rcases endOf_mem n r [] Z with h | h
    · rw [h]; simp
    · rw [List.append_nil] at h; simp [h]
  have bl1 : (backOf n (chs (cs.take 6))).length ≤ 6 := by unfold backOf; simp; exact cl1
  have bl2 : (backOf n (chs (cs'.take 6))).length ≤ 6 := by unfold backOf; simp; exact cl2
  refine ss_forM (as := [(endOf n (chs (cs.take 6)) R, backOf n (chs (cs.take 6)), R), (endOf n (chs (cs'.take 6)) L, backOf n (chs (cs'.take 6)), L)]) (g := fun t : NL.Row × List Sx × NL.Row => .d (.tuple [dR t.1, dRoad n t.2.1, dR t.2.2])) (dz := fun t ds' => ((ds'.set 13 (.d (dR t.1))).set 14 (.d (dRoad n t.2.1))).set 15 (.d (dR t.2.2))) (fun done ds' H' => Rfl c fl H1 H' ∧ ∃ y13 y14 y15, ds' = [.u, .r (.ref fl), .d (.int n), .d (dR R), .d (dRoad n road), .d (.list ((along n road R).map dR)), .d (dR L), .d (.tuple [.list (cs.map (dC n)), dR Q]), .d (.tuple [.list (cs'.map (dC n)), dR Q']), .d (dRoad n (chs (cs.take 6))), .d (dRoad n (chs (cs'.take 6))), .d (dR (endOf n (chs (cs.take 6)) R)), .d (dR (endOf n (chs (cs'.take 6)) L)), y13, y14, y15]) (ei_lstM (f := fun t : NL.Row × List Sx × NL.Row => .tuple [dR t.1, dRoad n t.2.1, dR t.2.2]) (e_lst (xs := [.tuple [dR (endOf n (chs (cs.take 6)) R), dRoad n (backOf n (chs (cs.take 6))), dR R], .tuple [dR (endOf n (chs (cs'.take 6)) L), dRoad n (backOf n (chs (cs'.take 6))), dR L]]) (ea_c (e_tup (xs := [dR (endOf n (chs (cs.take 6)) R), dRoad n (backOf n (chs (cs.take 6))), dR R]) (ea_c (e_var 11) (ea_c (e_call2 (C := Is (.d (dRoad n (backOf n (chs (cs.take 6)))))) (c_road_back G) (hr.mono (by decide)) (e_var 2) (e_var 9) ⟨n, _, rfl, hn, by omega, w1, rfl⟩) (ea_c (e_var 3) ea_nil))) (szl (by simp))) (ea_c (e_tup (xs := [dR (endOf n (chs (cs'.take 6)) L), dRoad n (backOf n (chs (cs'.take 6))), dR L]) (ea_c (e_var 12) (ea_c (e_call2 (C := Is (.d (dRoad n (backOf n (chs (cs'.take 6)))))) (c_road_back G) (hr.mono (by decide)) (e_var 2) (e_var 10) ⟨n, _, rfl, hn, by omega, w1', rfl⟩) (ea_c (e_var 6) ea_nil))) (szl (by simp))) ea_nil)) (szl (by simp)))) ?_ ?_ ?_ ?_
  · intro H14 r14
    exact ⟨(dr (fun _ => False) c fl).trans r2 ((dr (fun _ => False) c fl).trans r3 ((dr (fun _ => False) c fl).trans r4 ((dr (fun _ => False) c fl).trans r5 ((dr (fun _ => False) c fl).trans r6 ((dr (fun _ => False) c fl).trans r7 ((dr (fun _ => False) c fl).trans r8 ((dr (fun _ => False) c fl).trans r9 ((dr (fun _ => False) c fl).trans r10 ((dr (fun _ => False) c fl).trans r11 ((dr (fun _ => False) c fl).trans r12 ((dr (fun _ => False) c fl).trans r13 r14))))))))))), _, _, _, rfl⟩
  · rintro done t ds' H' ⟨_, y13, y14, y15, rfl⟩ _
    exact eh_three (i := 13) (j := 14) (l := 15) rfl nd
  · rintro done t todo ds' Hi H' eu ⟨s0, y13, y14, y15, rfl⟩ sm' kq
    have ht : RowOk n t.1 ∧ t.2.1.length ≤ 6 ∧ (∀ s ∈ t.2.1, s.ok n) ∧ (∀ Z ∈ along n t.2.1 t.1, RowOk n Z) ∧ endOf n t.2.1 t.1 = t.2.2 := by
      have hm : t ∈ [(endOf n (chs (cs.take 6)) R, backOf n (chs (cs.take 6)), R), (endOf n (chs (cs'.take 6)) L, backOf n (chs (cs'.take 6)), L)] := by rw [eu]; simp
      simp only [List.mem_cons, List.not_mem_nil, or_false] at hm
      rcases hm with rfl | rfl
      · exact ⟨good1 _ (endGood _ _), bl1, bk1.1, fun Z hZ => good1 Z (bk1.2.2 Z hZ), bk1.2.1⟩
      · exact ⟨good2 _ (endGood _ _), bl2, bk2.1, fun Z hZ => good2 Z (bk2.2.2 Z hZ), bk2.2.1⟩
    obtain ⟨g1, g2, g3, g4, g5⟩ := ht
    obtain ⟨t1', t2', t3'⟩ := t
    simp only at g1 g2 g3 g4 g5
    have hal3 := along_len n t2' t1'
    refine ss_if (P := Is false) (ne1 (Z := endOf n t2' t1') (Z' := t3') g5 (e_ixL (e_catL (e_lst (xs := [t1'].map dR) (ea_c (e_var 13) ea_nil) (szl (by simp))) (e_call3 (C := Is (.d (.list ((along n t2' t1').map dR)))) (c_rows_along G) (hr.mono (by decide)) (e_var 2) (e_var 13) (e_var 14) ⟨n, t1', t2', rfl, hn, by omega, g3, g1, g4, rfl⟩) (Nat.le_of_lt (szl (by simp; omega)))) (e_neg e_int) (atI_last_rows n t2' t1')) (e_var 15)) (fun hb H15 r15 => by cases hb) fun _ H15 r15 => ss_end (ss_nq fun H16 r16 => ⟨⟨(dr (fun _ => False) c fl).trans s0 ((dr (fun _ => False) c fl).trans sm' ((dr (fun _ => False) c fl).trans r15 r16)), _, _, _, rfl⟩, kq.trans (Kq.r ((dr (fun _ => False) c fl).trans r15 r16))⟩)
  · rintro ds' H' ⟨s0, y13, y14, y15, rfl⟩ _
    have hb3 := hback.2.2
    have hbl : (backOf n road).length ≤ 6 := by unfold backOf; simp; exact hrl
    have hal2 := along_len n (backOf n road) L
    refine ss_ret (A := Is (.d (.bool true))) (EE.is (e_cmpI (op_eqD (hu64 hr)) (e_ixL (e_catL (e_lst (xs := [L].map dR) (ea_c (e_var 6) ea_nil) (szl (by simp))) (e_call3 (C := Is (.d (.list ((along n (backOf n road) L).map dR)))) (c_rows_along G) (hr.mono (by decide)) (e_var 2) (e_var 6) (e_call2 (C := Is (.d (dRoad n (backOf n road)))) (c_road_back G) (hr.mono (by decide)) (e_var 2) (e_var 4) ⟨n, road, rfl, hn, by omega, hroad.ok, rfl⟩) ⟨n, L, backOf n road, rfl, hn, by omega, hback.1, hLok, fun Z hZ => by
      rcases List.mem_cons.mp (hb3 Z hZ) with rfl | h
      · exact hRok
      · exact k1 Z h, rfl⟩) (Nat.le_of_lt (szl (by simp; omega)))) (e_neg e_int) (atI_last_rows n (backOf n road) L)) (e_var 3) (rd_eqD ((sh_row _).shaped (by omega)) ((sh_row R).shaped (by omega)))) (by rw [hback.2.1, (sh_row R).refl])) fun v H5 y r e hv => ?_
    cases e
    cases hv
    exact hrt H5
end
end NQ

namespace NQ
open PySem PySem.Spec L2 NP
section
variable {P : Program} {w : World} {K : PySem.W.Frag} {mg : Str → Option Value} {base : Heap}
theorem ok_law (G : Gs K mg) {f : Addr} {fd : FuncData} (F : FunD K "law" "law" (defArgs (top 70)) (defBody (top 70)) (defScope (top 70)) [] [] f fd) : FnOk P w K mg base CX0 11 f fd ["_law_script"] (spLaw K) := by
  have S : FnScope lawN ["_law_script"] (defScope (top 70)) := ⟨rfl, rfl, rfl, by decide +kernel, rfl, by decide +kernel, by decide +kernel⟩
  refine F.ok S (fun vs H Q E h => by obtain ⟨a, ns, e, _⟩ := h; subst e; rfl) (fun cdv A outer s H vs Q E hr h => ⟨_, PSs.nox tws_pss, ?_⟩)
  obtain ⟨a, ns, e, hS, hl, q⟩ := h
  subst e
  obtain ⟨f', fd', ps, F', hm, hk, hb⟩ := (c_flow G (P := P) (w := w) (base := base)).ex
  have nd := S.nd
  refine tws_of (X := XX P w K mg base lawN "law" (top 70) f cdv A outer s H E) (pss_cons (ps_set (i := 1) nd rfl (Or.inl rfl) (pe_call F' (hr.mono (by decide)) rfl hm hk hb .nil pass0 (pa_cons (pe_var (i := 0) rfl (Or.inl rfl)) pa_nil)) rfl (.inl rfl)) tws_pss) ?_
  refine ⟨.ref a, rfl, ⟨a, ns, rfl, hS, hl, fun c fl H' sm hfl hf => ?_⟩⟩
  have hrest := law_rest (P := P) (w := w) (base := base) G f cdv A outer s H E { nx := fun _ H' => Q .non H', rt := Q } c fl H' S hr hf (fun H' => q H')
  refine hrest _ H' ((NP.dr (fun _ => False) c fl).refl H') ⟨?_, fun b m => ?_⟩
  · refine .cons (by trivial) (.cons (.of (x := .r (.ref fl)) rfl) ?_)
    show SD _ _ (List.replicate 14 none) (List.replicate 14 .u)
    have : ∀ k, SD ((NP.dr (fun _ => False) c fl).M) H' (List.replicate k none) (List.replicate k .u) := by
      intro k
      induction k with
      | zero => exact .nil
      | succ k ih => exact .cons trivial ih
    exact this 14
  · rcases m with m | m
    · exact m.elim
    · rw [m]; exact hf.nt
end
end NQ

namespace NQ
open PySem PySem.Spec PyProof.Rows L2 NP
abbrev ROW := PySem.Challenge.rw_newletters_k63_whole_rows_led_and_made_s
def dd (x : Str) (i : Nat) : He.DefD := ⟨(x, none), x, x, defArgs (top i), defBody (top i), defScope (top i), [], []⟩
def fnL : List He.DefD := dfs.map fun d => dd d.1 d.2
def faL : List He.Fa := (dfs.map fun d => .glo d.1) ++ ((frs.map .free) ++ [.str "ALL_LETTERS" "aAbBcCdD", .str "ORDER" "aAbBcCdD"])
abbrev RR : PySem.W.OpenRow := PySem.W.OpenLaw.row ROW
abbrev hk : PySem.W.Hook := He.hookD 4 faL fnL
def ob (s : PySem.W.SharedT) : He.AlD := He.obsDG 4 faL fnL (HandSHeadRun.getT s)
theorem ob_eq (s : PySem.W.SharedT) : ob s = hk.obs s.abs := He.obsDG_eq (HandSHeadRun.getT_eq s)
def loose : List Str := (dfs.map (·.1)).dropLast ++ ([Str.ofString "ALL_LETTERS", Str.ofString "ORDER", Str.ofString "__name__"])
theorem gs_of {K : PySem.W.Frag} {h : Heap} {mg : Str → Option Value} (X : K.In h) (G : h.Ns mainGlobals mg) (c : He.SaysD faL fnL K) : Gs K mg where
  df := fun i d e => by
    obtain ⟨fd, F⟩ := c.def_ i (d := dd d.1 d.2) (by unfold fnL; rw [List.getElem?_map, e]; rfl)
    have hl := (List.getElem?_eq_some_iff.mp e).1
    exact ⟨_, fd, F, He.glo_ok X G (c.fact i (f := .glo d.1) (by unfold faL; rw [List.getElem?_append_left (by rw [List.length_map]; exact hl), List.getElem?_map, e]; rfl))⟩
  fr := fun i x e => He.free_ok X G (c.fact (58 + i) (f := .free x) (by
    unfold faL
    have hl : (dfs.map fun d => He.Fa.glo d.1).length = 58 := by decide
    rw [List.getElem?_append_right (by rw [hl]; omega), hl, Nat.add_sub_cancel_left, List.getElem?_append_left (by rw [List.length_map]; exact (List.getElem?_eq_some_iff.mp e).1), List.getElem?_map, e]; rfl))
  al := He.str_ok X G (c.fact 73 (f := .str "ALL_LETTERS" "aAbBcCdD") rfl)
  od := He.str_ok X G (c.fact 74 (f := .str "ORDER" "aAbBcCdD") rfl)
theorem facts {P : Program} {w : World} {K : PySem.W.Frag} {h : Heap} {mg : Str → Option Value} {f : Addr} (X : K.In h) (G : h.Ns mainGlobals mg) (hfa : mg ("law" : Str) = some (.ref f)) (c : He.SaysD faL fnL K) :
    ∃ fd : FuncData, (∀ (s : Shared) (v : Value), BindsTo s fd ⟨[v], []⟩ [("_law_script", v)]) ∧ ∀ base : Heap, K.In base → base.Ns mainGlobals mg → FnOk P w K mg base CX0 11 f fd ["_law_script"] (spLaw K) := by
  obtain ⟨fd, F⟩ := c.def_ 57 (d := dd "law" 70) rfl
  have e := hfa.symm.trans (He.glo_ok X G (c.fact 57 (f := .glo "law") rfl))
  cases e
  have b := FunD.bindsA (ps := ["_law_script"]) F fun _ _ _ _ _ _ us hl => match us, hl with | [_], _ => rfl
  exact ⟨fd, fun s v => b s [v] rfl, fun base _ _ => ok_law (gs_of X G c) F⟩
end NQ

namespace NQ
open PySem PySem.Spec PyProof.Rows L2 NP
theorem run (w : World) : HandSHeadRun.RunEq RR (PySem.W.view RR.prog [70]) hk ob 4000 loose w := by
  intro os
  kernel_rfl
end NQ
open PySem PySem.W PySem.Calls PyProof.Rows
theorem PySem.Challenge.cw_newletters_k63_whole_rows_led_and_made_s_holds : PySem.Challenge.rw_newletters_k63_whole_rows_led_and_made_s.Holds := by
  w_on; o_law
  refine HandSHeadRun.head_any (r := OpenLaw.row NQ.ROW) (q := view (OpenLaw.row NQ.ROW).prog [70]) (H := NQ.hk) (ob := NQ.ob) (M := 4000) (loose := NQ.loose) (d := HandSHeadRun.topDef (OpenLaw.row NQ.ROW).prog 70) (kwd := []) NQ.ob_eq
    (by kernel_rfl) (fun s => by kernel_rfl) NQ.run (by kernel_rfl) (by kernel_rfl) (by kernel_rfl) (by rfl) (by first | assumption | decide +kernel) (by decide +kernel) ⟨rfl, rfl, rfl, rfl, rfl, by decide +kernel⟩ ?hw ?hc
  case hw => w_witness2
  case hc =>
    refine L2.walk_ofE (l := NQ.ROW) (n := 63) (k := 11) (x := "_law_script") (CX := L2.CX0) rfl (by decide) (by kernel_rfl) ⟨rfl, by decide, by decide⟩ ?F (fun _ _ _ _ z => z)
    intro w mg fa h Y G hmg0
    obtain ⟨K, KX, c⟩ := Y
    have hmg : mg ("law" : PySem.Str) = some (.ref fa) := by
      have e : (HandSHeadRun.topDef (OpenLaw.row NQ.ROW).prog 70).name = ("law" : PySem.Str) := by kernel_rfl
      rw [← e]
      exact hmg0
    obtain ⟨fd, hb, hF⟩ := NQ.facts (P := (NQ.ROW).prog) (w := w) KX G hmg c
    exact ⟨K, fd, NQ.spLaw K, KX, hb, fun H a ns hl _ hS => ⟨a, ns, rfl, hS, Nat.le_trans hl (by decide), fun _ => rfl⟩, hF⟩
