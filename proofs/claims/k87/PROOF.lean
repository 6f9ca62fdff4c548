import PyProof.Rows.All
import Wide.All
import OpenK.AllK
import Wide.FinOn
import HandS.ForMost
import HandS.ForExc
import HandS.TupAny
import HandS.TupMul
import HandS.Strs
import HandS.ExcInit
import HandS.IsInst
import KE.KeyNested
import KE.KDictKeyed
import KE.KDictDisplayH
import HandS.TupLen
import PyProof.MaxThree
import KE.DataMinMax
import KE.SortData
import PyProof.DictTable
import HandS.ClsMeth
import HandS.TryMany
import HandS.Defaults
import HandS.SetFor
import HandS.Style
import HandS.Rev
import HandS.Wide
import KE.OsRunLaw
import PySem.Challenge.RW_risemarks_k87_whole_words_never
section
set_option linter.all false
set_option autoImplicit false
/-! K87Math: the plain side: what a hand and a small world compute, and that no forbidden word is due. No program here. -/
namespace K87

/-! ### places, marks -/
abbrev Pl := Int × Int
abbrev Ar := Int × Int × Int
/-- the four rules that hands keep -/
structure Rl where
  ahead : Bool
  ends : Bool
  once : Bool
  spoken : Bool
deriving DecidableEq
def boundOf (p : Pl) : Int := if p.2 = 0 then p.1 else p.1 + 1
def raised (p : Pl) (b : Int) : Pl := if p.1 < b ∨ (p.1 = b ∧ p.2 < 0) then (b, 0) else p
def nextPlace (counts : Int) (p : Pl) : Pl := if p.2 + 1 = counts then (p.1 + 1, 0) else (p.1, p.2 + 1)
def max3 (a b c : Int) : Int := max (max a b) c
def momentAt (a : Ar) (p : Pl) (r : Int) : Int := max3 p.1 r a.2.1
def markOf (counts slots m sl ct : Int) : Int := (m * slots + sl) * counts + ct
def momentOf (counts slots x : Int) : Int := x / counts / slots
inductive Mkd where
  | noRoom
  | wait (r : Int)
  | ok (x : Int) (p : Pl)
def countAt (p : Pl) (m : Int) : Int := if m = p.1 then p.2 else 0
def made (counts slots far : Int) (a : Ar) (p : Pl) (r : Int) : Mkd :=
  if a.2.2 ≤ momentAt a p r then .noRoom
  else if r + far < momentAt a p r then .wait (momentAt a p r - far)
  else .ok (markOf counts slots (momentAt a p r) a.1 (countAt p (momentAt a p r))) (nextPlace counts (momentAt a p r, countAt p (momentAt a p r)))

/-! ### what a hand is, without how it is written down -/
structure Hd where
  place : Option Pl
  grant : Int
  area : Option Ar
  held : Int
  heard : Int
  most : Int
deriving DecidableEq

/-- the world's size -/
structure Sz where
  counts : Int
  slots : Int
  areas : List Ar
structure Sz.Ok (z : Sz) : Prop where
  c1 : 1 ≤ z.counts
  c3 : z.counts ≤ 3
  s1 : 1 ≤ z.slots
  s3 : z.slots ≤ 3
  ar : ∀ a ∈ z.areas, 0 ≤ a.1 ∧ a.1 < z.slots ∧ 0 ≤ a.2.1 ∧ a.2.1 < a.2.2

theorem three {c : Int} (h1 : 1 ≤ c) (h3 : c ≤ 3) : c = 1 ∨ c = 2 ∨ c = 3 := by omega
/-- splits a claim over counts and slots in nine -/
theorem nine {P : Int → Int → Prop} (h : ∀ c s, (c = 1 ∨ c = 2 ∨ c = 3) → (s = 1 ∨ s = 2 ∨ s = 3) → P c s) {c s : Int} (c1 : 1 ≤ c) (c3 : c ≤ 3) (s1 : 1 ≤ s) (s3 : s ≤ 3) : P c s := h c s (three c1 c3) (three s1 s3)

theorem moment_mark {c s m sl ct : Int} (c1 : 1 ≤ c) (c3 : c ≤ 3) (s1 : 1 ≤ s) (s3 : s ≤ 3) (h0 : 0 ≤ sl) (h1 : sl < s) (k0 : 0 ≤ ct) (k1 : ct < c) : momentOf c s (markOf c s m sl ct) = m := by
  unfold momentOf markOf
  rcases three c1 c3 with rfl | rfl | rfl <;> rcases three s1 s3 with rfl | rfl | rfl <;> omega
/-- all marks of a moment below h are below this -/
def wall (c s h : Int) : Int := h * s * c
theorem mark_wall {c s m sl ct h : Int} (c1 : 1 ≤ c) (c3 : c ≤ 3) (s1 : 1 ≤ s) (s3 : s ≤ 3) (h0 : 0 ≤ sl) (h1 : sl < s) (k0 : 0 ≤ ct) (k1 : ct < c) (hm : m < h) : markOf c s m sl ct < wall c s h := by
  unfold wall markOf
  rcases three c1 c3 with rfl | rfl | rfl <;> rcases three s1 s3 with rfl | rfl | rfl <;> omega
theorem wall_mark {c s m sl ct h : Int} (c1 : 1 ≤ c) (c3 : c ≤ 3) (s1 : 1 ≤ s) (s3 : s ≤ 3) (h0 : 0 ≤ sl) (k0 : 0 ≤ ct) (hm : h ≤ m) : wall c s h ≤ markOf c s m sl ct := by
  unfold wall markOf
  rcases three c1 c3 with rfl | rfl | rfl <;> rcases three s1 s3 with rfl | rfl | rfl <;> omega
theorem wall_mono {c s g h : Int} (c1 : 1 ≤ c) (c3 : c ≤ 3) (s1 : 1 ≤ s) (s3 : s ≤ 3) (hm : g ≤ h) : wall c s g ≤ wall c s h := by
  unfold wall
  rcases three c1 c3 with rfl | rfl | rfl <;> rcases three s1 s3 with rfl | rfl | rfl <;> omega

/-- what was made, heard and given back, as told -/
structure Past where
  M : Int → Prop
  bound : Int
  G : Int → Option Int

/-- what holds of a hand and its past along all deeds -/
structure Good (R : Rl) (z : Sz) (h : Hd) (t : Past) : Prop where
  pl : ∀ p, h.place = some p → 0 ≤ p.1 ∧ 0 ≤ p.2 ∧ p.2 < z.counts
  ar : ∀ a, h.area = some a → 0 ≤ a.1 ∧ a.1 < z.slots ∧ 0 ≤ a.2.1 ∧ 1 ≤ h.grant ∧ h.grant ≤ z.areas.length
  held : 0 ≤ h.held
  heard : 0 ≤ h.heard
  bd : 0 ≤ t.bound
  ah : R.ahead = true → ∀ x, t.M x → x < wall z.counts z.slots h.held
  ap : R.ahead = true → ∀ p, h.place = some p → ∀ x, t.M x → x < wall z.counts z.slots p.1 ∨ (0 < p.2 ∧ ∃ a, h.area = some a ∧ x < markOf z.counts z.slots p.1 a.1 p.2)
  sp : R.spoken = true → t.bound ≤ h.heard ∧ ∀ p, h.place = some p → t.bound ≤ p.1
  gv : R.ends = true → R.once = true → (∀ g e, t.G g = some e → g ≤ h.most) ∧ h.grant ≤ h.most ∧ ∀ a e, h.area = some a → t.G h.grant = some e → a.2.2 ≤ e

theorem raised_le (p : Pl) (b : Int) : p.1 ≤ (raised p b).1 := by
  unfold raised
  split
  · simp only; omega
  · omega
theorem raised_ge (p : Pl) (b : Int) : b ≤ (raised p b).1 := by
  unfold raised
  split
  · simp
  · omega
theorem raised_cases (p : Pl) (b : Int) (h : 0 ≤ p.2) : (raised p b = (b, 0) ∧ p.1 < b) ∨ (raised p b = p ∧ b ≤ p.1) := by
  unfold raised
  by_cases q : p.1 < b ∨ (p.1 = b ∧ p.2 < 0)
  · rw [if_pos q]; exact .inl ⟨rfl, by omega⟩
  · rw [if_neg q]; exact .inr ⟨rfl, by omega⟩
theorem boundOf_cases (p : Pl) : (p.2 = 0 ∧ boundOf p = p.1) ∨ (p.2 ≠ 0 ∧ boundOf p = p.1 + 1) := by
  unfold boundOf
  by_cases q : p.2 = 0
  · rw [if_pos q]; exact .inl ⟨q, rfl⟩
  · rw [if_neg q]; exact .inr ⟨q, rfl⟩
theorem momentAt_ge (a : Ar) (p : Pl) (r : Int) : p.1 ≤ momentAt a p r ∧ r ≤ momentAt a p r ∧ a.2.1 ≤ momentAt a p r := by
  unfold momentAt max3; omega
theorem countAt_ok {c : Int} {p : Pl} {m : Int} (c1 : 1 ≤ c) (h : 0 ≤ p.2 ∧ p.2 < c) : 0 ≤ countAt p m ∧ countAt p m < c := by
  unfold countAt
  split <;> omega

/-- behind any mark of the area that a hand in the state might be at: x is less than the mark -/
theorem less_of {R : Rl} {z : Sz} {h : Hd} {t : Past} (Z : z.Ok) (I : Good R z h t) {p : Pl} {a : Ar} (hp : h.place = some p) (ha : h.area = some a) (ra : R.ahead = true) {x m : Int} (hx : t.M x) (hm : p.1 ≤ m) :
    x < markOf z.counts z.slots m a.1 (countAt p m) := by
  obtain ⟨p0, p1, p2⟩ := I.pl p hp
  obtain ⟨a0, a1, a2, _, _⟩ := I.ar a ha
  have hc := countAt_ok (m := m) Z.c1 ⟨p1, p2⟩
  rcases I.ap ra p hp x hx with q | ⟨q0, a', ha', q⟩
  · exact Int.lt_of_lt_of_le q (wall_mark Z.c1 Z.c3 Z.s1 Z.s3 a0 hc.1 hm)
  · rw [ha] at ha'
    cases ha'
    by_cases e : m = p.1
    · have : countAt p m = p.2 := if_pos e
      rw [this, e]; exact q
    · have h1 := mark_wall (m := p.1) (h := m) Z.c1 Z.c3 Z.s1 Z.s3 a0 a1 p1 p2 (by omega)
      have h2 := wall_mark (c := z.counts) (s := z.slots) (h := m) (m := m) Z.c1 Z.c3 Z.s1 Z.s3 a0 hc.1 (Int.le_refl m)
      omega

/-- NO FORBIDDEN WORD: of a mark that the hand makes in a good state -/
theorem no_word {R : Rl} {z : Sz} {h : Hd} {t : Past} (Z : z.Ok) (I : Good R z h t) {p : Pl} {a : Ar} (hp : h.place = some p) (ha : h.area = some a) {far r x : Int} {q : Pl} (hm : made z.counts z.slots far a p r = .ok x q) :
    (R.ahead = true → ∀ y, t.M y → y < x) ∧ (R.spoken = true → t.bound ≤ momentOf z.counts z.slots x) ∧ (R.ends = true → R.once = true → ∀ e, t.G h.grant = some e → momentOf z.counts z.slots x < e) := by
  obtain ⟨p0, p1, p2⟩ := I.pl p hp
  obtain ⟨a0, a1, a2, _, _⟩ := I.ar a ha
  have hc := countAt_ok (m := momentAt a p r) Z.c1 ⟨p1, p2⟩
  have hg := momentAt_ge a p r
  unfold made at hm
  by_cases n1 : a.2.2 ≤ momentAt a p r
  · rw [if_pos n1] at hm; cases hm
  rw [if_neg n1] at hm
  by_cases n2 : r + far < momentAt a p r
  · rw [if_pos n2] at hm; cases hm
  rw [if_neg n2] at hm
  injection hm with hx hq
  have hmo := moment_mark (m := momentAt a p r) Z.c1 Z.c3 Z.s1 Z.s3 a0 a1 hc.1 hc.2
  rw [hx] at hmo
  refine ⟨fun ra y hy => ?_, fun rs => ?_, fun re ro e he => ?_⟩
  · rw [← hx]; exact less_of Z I hp ha ra hy hg.1
  · rw [hmo]; have := (I.sp rs).2 p hp; omega
  · rw [hmo]; have := (I.gv re ro).2.2 a e ha he; omega

/-! ### the deeds keep it -/
section
variable {R : Rl} {z : Sz} {h : Hd} {t : Past}
theorem good_begin (hz : z.Ok) : Good R z ⟨some (0, 0), 0, none, 0, 0, 0⟩ ⟨fun _ => False, 0, fun _ => none⟩ where
  pl := fun p e => by
    cases e
    have := hz.c1
    exact ⟨Int.le_refl _, Int.le_refl _, by show (0:Int) < _; omega⟩
  ar := fun a e => by cases e
  held := Int.le_refl _
  heard := Int.le_refl _
  bd := Int.le_refl _
  ah := fun _ _ q => False.elim q
  ap := fun _ _ _ _ q => False.elim q
  sp := fun _ => ⟨Int.le_refl _, fun p e => by cases e; exact Int.le_refl _⟩
  gv := fun _ _ => ⟨fun _ _ q => (by cases q), Int.le_refl _, fun _ _ q => (by cases q)⟩
theorem good_fall (I : Good R z h t) : Good R z { h with place := none } t where
  pl := fun p e => by cases e
  ar := I.ar
  held := I.held
  heard := I.heard
  bd := I.bd
  ah := I.ah
  ap := fun _ p e => by cases e
  sp := fun rs => ⟨(I.sp rs).1, fun p e => by cases e⟩
  gv := I.gv
theorem good_rise (Z : z.Ok) (I : Good R z h t) : Good R z { h with place := some (max h.held h.heard, 0) } t :=
  ⟨fun p e => by
      cases e
      have := I.held; have := Z.c1
      refine ⟨?_, Int.le_refl _, ?_⟩
      · show 0 ≤ max h.held h.heard; omega
      · show (0 : Int) < _; omega, I.ar, I.held, I.heard, I.bd, I.ah, fun ra p e x hx => by
      cases e
      left
      have h1 := I.ah ra x hx
      have h2 := wall_mono (c := z.counts) (s := z.slots) (g := h.held) (h := max h.held h.heard) Z.c1 Z.c3 Z.s1 Z.s3 (by omega)
      show x < wall z.counts z.slots (max h.held h.heard)
      omega, fun rs => ⟨(I.sp rs).1, fun p e => by
      cases e
      have := (I.sp rs).1
      show t.bound ≤ max h.held h.heard
      omega⟩, I.gv⟩
theorem good_take (Z : z.Ok) (I : Good R z h t) {p : Pl} (hp : h.place = some p) {g : Int} {a : Ar} (g1 : 1 ≤ g) (g2 : g ≤ z.areas.length) (ha : a ∈ z.areas) (ho : ¬ (R.once = true ∧ g ≤ h.most)) :
    Good R z { h with place := some (raised p (boundOf p)), grant := g, area := some a, most := max h.most g } t := by
  obtain ⟨p0, p1, p2⟩ := I.pl p hp
  obtain ⟨a0, a1, a2, a3⟩ := Z.ar a ha
  have c1 := Z.c1
  have rc := raised_cases p (boundOf p) p1
  have bc := boundOf_cases p
  refine ⟨fun q e => ?_, fun b e => ?_, I.held, I.heard, I.bd, I.ah, fun ra q e x hx => ?_, fun rs => ⟨(I.sp rs).1, fun q e => ?_⟩, fun re ro => ⟨fun g' e' q => ?_, ?_, fun b e q r => ?_⟩⟩
  · cases e
    rcases rc with ⟨e, h1⟩ | ⟨e, h1⟩ <;> rw [e]
    · exact ⟨by show 0 ≤ boundOf p; omega, Int.le_refl _, by show (0 : Int) < _; omega⟩
    · exact ⟨p0, p1, p2⟩
  · cases e
    exact ⟨a0, a1, a2, g1, g2⟩
  · cases e
    left
    rcases I.ap ra p hp x hx with q | ⟨q0, b, hb, q⟩
    · have h2 := wall_mono (c := z.counts) (s := z.slots) Z.c1 Z.c3 Z.s1 Z.s3 (raised_le p (boundOf p))
      omega
    · obtain ⟨b0, b1, _⟩ := I.ar b hb
      have h1 := mark_wall (c := z.counts) (s := z.slots) (m := p.1) (h := (raised p (boundOf p)).1) Z.c1 Z.c3 Z.s1 Z.s3 b0 b1 p1 p2 (by
        have := raised_ge p (boundOf p)
        omega)
      omega
  · cases e
    have h1 := (I.sp rs).2 p hp
    have h2 := raised_le p (boundOf p)
    omega
  · have := (I.gv re ro).1 g' e' q
    show g' ≤ max h.most g
    omega
  · show g ≤ max h.most g
    omega
  · have h1 := (I.gv re ro).1 g e r
    exact (ho ⟨ro, h1⟩).elim
theorem good_write (I : Good R z h t) (Z : z.Ok) {n : Int} (hn : h.held ≤ n) : Good R z { h with held := n } t :=
  ⟨I.pl, I.ar, by have := I.held; show 0 ≤ n; omega, I.heard, I.bd, fun ra x hx => by
    have h1 := I.ah ra x hx
    have h2 := wall_mono (c := z.counts) (s := z.slots) (g := h.held) (h := n) Z.c1 Z.c3 Z.s1 Z.s3 hn
    show x < wall z.counts z.slots n
    omega, I.ap, I.sp, I.gv⟩
theorem good_hear (I : Good R z h t) (Z : z.Ok) {p : Pl} (hp : h.place = some p) {b n : Int} (hb : 0 ≤ b) (hn : n = if R.spoken = true then max h.heard b else h.heard) :
    Good R z { h with place := some (raised p b), heard := n } { t with bound := max t.bound b } := by
  obtain ⟨p0, p1, p2⟩ := I.pl p hp
  have c1 := Z.c1
  have rc := raised_cases p b p1
  have h0 := I.heard
  have b0 := I.bd
  refine ⟨fun q e => ?_, I.ar, I.held, ?_, ?_, I.ah, fun ra q e x hx => ?_, fun rs => ⟨?_, fun q e => ?_⟩, I.gv⟩
  · cases e
    rcases rc with ⟨e, h1⟩ | ⟨e, h1⟩ <;> rw [e]
    · exact ⟨hb, Int.le_refl _, by show (0 : Int) < _; omega⟩
    · exact ⟨p0, p1, p2⟩
  · show 0 ≤ n
    rw [hn]
    split <;> omega
  · show 0 ≤ max t.bound b
    omega
  · cases e
    rcases rc with ⟨e, h1⟩ | ⟨e, h1⟩
    · left
      rw [e]
      show x < wall z.counts z.slots b
      rcases I.ap ra p hp x hx with q | ⟨q0, a, ha, q⟩
      · have h2 := wall_mono (c := z.counts) (s := z.slots) (g := p.1) (h := b) Z.c1 Z.c3 Z.s1 Z.s3 (by omega)
        omega
      · obtain ⟨a0, a1, _⟩ := I.ar a ha
        have h1 := mark_wall (c := z.counts) (s := z.slots) (m := p.1) (h := b) Z.c1 Z.c3 Z.s1 Z.s3 a0 a1 p1 p2 h1
        omega
    · rw [e]
      exact I.ap ra p hp x hx
  · rw [if_pos rs] at hn
    have := (I.sp rs).1
    show max t.bound b ≤ n
    omega
  · cases e
    have h1 := (I.sp rs).2 p hp
    have h2 := raised_le p b
    have h3 := raised_ge p b
    show max t.bound b ≤ _
    omega
/-- back: the end e of the giving back, which is below the area's end -/
theorem good_back (I : Good R z h t) {a : Ar} (ha : h.area = some a) {e : Int} (he : e < a.2.2) {b : Option Ar} (hb : b = if R.ends = true then some (a.1, a.2.1, e) else some a) :
    Good R z { h with area := b } { t with G := fun g => if g = h.grant then some (match t.G h.grant with | none => e | some y => if e < y then e else y) else t.G g } := by
  obtain ⟨a0, a1, a2, g1, g2⟩ := I.ar a ha
  have hsl : ∀ b', b = some b' → b'.1 = a.1 ∧ b'.2.1 = a.2.1 := fun b' e' => by
    rw [hb] at e'
    split at e'
    · cases e'; exact ⟨rfl, rfl⟩
    · cases e'; exact ⟨rfl, rfl⟩
  have hbs : ∃ b', b = some b' := by rw [hb]; split <;> exact ⟨_, rfl⟩
  refine ⟨I.pl, fun b' e' => ?_, I.held, I.heard, I.bd, I.ah, fun ra p hp x hx => ?_, I.sp, fun re ro => ⟨fun g y q => ?_, (I.gv re ro).2.1, fun b' y e' q => ?_⟩⟩
  · obtain ⟨e1, e2⟩ := hsl b' e'
    rw [e1, e2]
    exact ⟨a0, a1, a2, g1, g2⟩
  · rcases I.ap ra p hp x hx with q | ⟨q0, a', ha', q⟩
    · exact .inl q
    · rw [ha] at ha'
      cases ha'
      obtain ⟨b', hb'⟩ := hbs
      refine .inr ⟨q0, b', hb', ?_⟩
      rw [(hsl b' hb').1]
      exact q
  · by_cases eg : g = h.grant
    · rw [eg]; exact (I.gv re ro).2.1
    · have q : (if g = h.grant then some (match t.G h.grant with | none => e | some y => if e < y then e else y) else t.G g) = some y := q
      rw [if_neg eg] at q
      exact (I.gv re ro).1 g y q
  · have q : (if h.grant = h.grant then some (match t.G h.grant with | none => e | some y => if e < y then e else y) else t.G h.grant) = some y := q
    rw [if_pos rfl] at q
    rw [hb, if_pos re] at e'
    cases e'
    cases hG : t.G h.grant with
    | none =>
      rw [hG] at q
      cases q
      exact Int.le_refl _
    | some w =>
      rw [hG] at q
      have h1 := (I.gv re ro).2.2 a w ha hG
      have q2 : (if e < w then e else w) = y := Option.some.inj q
      show e ≤ y
      rw [if_pos (by omega)] at q2
      omega
theorem good_make (I : Good R z h t) (Z : z.Ok) {p : Pl} {a : Ar} (hp : h.place = some p) (ha : h.area = some a) {far r x : Int} {q : Pl} (hm : made z.counts z.slots far a p r = .ok x q)
    (hh : ¬ (R.ahead = true ∧ h.held ≤ momentOf z.counts z.slots x)) : Good R z { h with place := some q } { t with M := fun y => t.M y ∨ y = x } := by
  obtain ⟨p0, p1, p2⟩ := I.pl p hp
  obtain ⟨a0, a1, a2, g1, g2⟩ := I.ar a ha
  have hc := countAt_ok (m := momentAt a p r) Z.c1 ⟨p1, p2⟩
  have hg := momentAt_ge a p r
  have c1 := Z.c1
  unfold made at hm
  by_cases n1 : a.2.2 ≤ momentAt a p r
  · rw [if_pos n1] at hm; cases hm
  rw [if_neg n1] at hm
  by_cases n2 : r + far < momentAt a p r
  · rw [if_pos n2] at hm; cases hm
  rw [if_neg n2] at hm
  injection hm with hx hq
  have hmo := moment_mark (m := momentAt a p r) Z.c1 Z.c3 Z.s1 Z.s3 a0 a1 hc.1 hc.2
  rw [hx] at hmo
  rw [hmo] at hh
  generalize hmm : momentAt a p r = m at *
  generalize hct : countAt p m = ct at *
  have hnp : (q = (m + 1, 0) ∧ ct + 1 = z.counts) ∨ (q = (m, ct + 1) ∧ ct + 1 < z.counts) := by
    rw [← hq]
    unfold nextPlace
    by_cases e : ct + 1 = z.counts
    · rw [if_pos e]; exact .inl ⟨rfl, e⟩
    · rw [if_neg e]; exact .inr ⟨rfl, by omega⟩
  refine ⟨fun q' e => ?_, I.ar, I.held, I.heard, I.bd, fun ra y hy => ?_, fun ra q' e y hy => ?_, fun rs => ⟨(I.sp rs).1, fun q' e => ?_⟩, I.gv⟩
  · cases e
    rcases hnp with ⟨e, h1⟩ | ⟨e, h1⟩ <;> rw [e]
    · exact ⟨by show 0 ≤ m + 1; omega, Int.le_refl _, by show (0 : Int) < _; omega⟩
    · exact ⟨by show 0 ≤ m; omega, by show 0 ≤ ct + 1; omega, h1⟩
  · rcases hy with hy | rfl
    · exact I.ah ra y hy
    · rw [← hx]
      refine mark_wall Z.c1 Z.c3 Z.s1 Z.s3 a0 a1 hc.1 hc.2 ?_
      have hh' : ¬ h.held ≤ m := fun q => hh ⟨ra, q⟩
      show m < h.held
      omega
  · cases e
    have lt : ∀ y', t.M y' → y' < x := fun y' hy' => by
      rw [← hx, ← hct]
      exact less_of Z I hp ha ra hy' hg.1
    have hle : y ≤ x := by
      rcases hy with hy | rfl
      · exact Int.le_of_lt (lt y hy)
      · exact Int.le_refl _
    rcases hnp with ⟨e, h1⟩ | ⟨e, h1⟩ <;> rw [e]
    · left
      have h2 := mark_wall (c := z.counts) (s := z.slots) (m := m) (h := m + 1) Z.c1 Z.c3 Z.s1 Z.s3 a0 a1 hc.1 hc.2 (by omega)
      show y < wall z.counts z.slots (m + 1)
      omega
    · right
      refine ⟨by show 0 < ct + 1; omega, a, ha, ?_⟩
      show y < markOf z.counts z.slots m a.1 (ct + 1)
      have h2 : markOf z.counts z.slots m a.1 (ct + 1) = markOf z.counts z.slots m a.1 ct + 1 := by unfold markOf; omega
      omega
  · cases e
    have h1 := (I.sp rs).2 p hp
    rcases hnp with ⟨e, _⟩ | ⟨e, _⟩ <;> rw [e]
    · show t.bound ≤ m + 1
      omega
    · show t.bound ≤ m
      omega
end
end K87
end
section
set_option linter.all false
set_option autoImplicit false
/-! K87Mir: the small world's and the hand's deeds as plain functions, and that they keep what is Good. -/
namespace K87

inductive Deed where
  | take (g : Int)
  | write (r : Int)
  | make (r : Int)
  | hear (b : Int)
  | back
  | fall
  | rise
deriving DecidableEq
inductive W4 where
  | twice
  | fallen
  | astray
  | below
deriving DecidableEq
structure Cf where
  counts : Int
  slots : Int
  far : Int
  room : Int
  areas : List Ar
  moments : Nat
  rl : Rl
def Cf.sz (c : Cf) : Sz := ⟨c.counts, c.slots, c.areas⟩
/-- a small world that may be walked -/
structure Cf.Ok (c : Cf) : Prop where
  sz : c.sz.Ok
  far : 0 ≤ c.far
  room : 1 ≤ c.room
  some : 1 ≤ c.areas.length
  two : c.areas.length ≤ 2
  mom : 1 ≤ c.moments
  mom4 : c.moments ≤ 4
structure S where
  hd : Hd
  marks : List Int
  bound : Int
  given : List (Option Int)
deriving DecidableEq

def areaAt (c : Cf) (g : Int) : Ar := c.areas.getD (g - 1).toNat (0, 0, 0)
/-! ### a hand's deeds -/
def nextMark (c : Cf) (h : Hd) (r : Int) : Option (Int × Pl) :=
  match h.place, h.area with
  | some p, some a => match made c.counts c.slots c.far a p r with
    | .ok x q => some (x, q)
    | _ => none
  | _, _ => none
def marked (c : Cf) (h : Hd) (r : Int) : Option (Int × Pl) :=
  match nextMark c h r with
  | some f => if c.rl.ahead = true ∧ h.held ≤ momentOf c.counts c.slots f.1 then none else some f
  | none => none
def takeH (c : Cf) (h : Hd) (p : Pl) (g : Int) : Hd := { h with place := some (raised p (boundOf p)), grant := g, area := some (areaAt c g), most := max h.most g }
def writeTo (c : Cf) (h : Hd) (p : Pl) (a : Ar) (r : Int) : Int := max h.held (momentAt a p r + c.room)
def hearH (c : Cf) (h : Hd) (p : Pl) (b : Int) : Hd := { h with place := some (raised p b), heard := if c.rl.spoken = true then max h.heard b else h.heard }
def backAt (h : Hd) (p : Pl) (a : Ar) : Int := max3 a.2.1 (boundOf p) h.held
def backH (c : Cf) (h : Hd) (a : Ar) (e : Int) : Hd := { h with area := if c.rl.ends = true then some (a.1, a.2.1, e) else some a }
def riseH (h : Hd) : Hd := { h with place := some (max h.held h.heard, 0) }

/-! ### the small world -/
def ins (x : Int) : List Int → List Int
  | [] => [x]
  | y :: r => if x < y then x :: y :: r else if x = y then y :: r else y :: ins x r
def giveAt (l : List (Option Int)) (i : Nat) (e : Int) : List (Option Int) :=
  match l.getD i none with
  | none => l.set i (some e)
  | some y => if e < y then l.set i (some e) else l
def takenS (c : Cf) (s : S) (p : Pl) (g : Int) : S := if c.rl.once = true ∧ g ≤ s.hd.most then s else { s with hd := takeH c s.hd p g }
def writtenS (c : Cf) (s : S) (p : Pl) (r : Int) : S := match nextMark c s.hd r, s.hd.area with
  | some _, some a => { s with hd := { s.hd with held := writeTo c s.hd p a r } }
  | _, _ => s
def heardS (c : Cf) (s : S) (p : Pl) (b : Int) : S := { s with hd := hearH c s.hd p b, bound := max s.bound b }
def backS (c : Cf) (s : S) (p : Pl) : S := match s.hd.area with
  | none => s
  | some a => if a.2.2 ≤ backAt s.hd p a then s else { s with hd := backH c s.hd a (backAt s.hd p a), given := giveAt s.given (s.hd.grant - 1).toNat (backAt s.hd p a) }
def makeS (c : Cf) (s : S) (r : Int) : S := match marked c s.hd r with
  | none => s
  | some f => { s with hd := { s.hd with place := some f.2 }, marks := ins f.1 s.marks }
def done (c : Cf) (s : S) (d : Deed) : S := match s.hd.place with
  | none => match d with
    | .rise => { s with hd := riseH s.hd }
    | _ => s
  | some p => match d with
    | .take g => takenS c s p g
    | .write r => writtenS c s p r
    | .make r => makeS c s r
    | .hear b => heardS c s p b
    | .back => backS c s p
    | .fall => { s with hd := { s.hd with place := none } }
    | .rise => s
def after (c : Cf) (s : S) (d : Deed) : Option S := if done c s d = s then none else some (done c s d)
def givenAt (s : S) : Option Int := s.given.getD (s.hd.grant - 1).toNat none
def badMark (c : Cf) (s : S) (x : Int) : Option W4 :=
  if x ∈ s.marks then some .twice
  else if s.marks ≠ [] ∧ x < s.marks.getLastD 0 then some .fallen
  else if (match givenAt s with | some e => decide (e ≤ momentOf c.counts c.slots x) | none => false) = true then some .astray
  else if momentOf c.counts c.slots x < s.bound then some .below
  else none
def bad (c : Cf) (s : S) (d : Deed) : Option W4 := match d with
  | .make r => match marked c s.hd r with
    | none => none
    | some f => badMark c s f.1
  | _ => none
def begin0 (c : Cf) : S := ⟨⟨some (0, 0), 0, none, 0, 0, 0⟩, [], 0, c.areas.map fun _ => none⟩
def deedsOf (c : Cf) : List Deed :=
  ((List.range c.areas.length).map fun k => Deed.take ((k : Nat) + 1 : Int)) ++ ((List.range c.moments).map fun k => Deed.write (k : Nat)) ++ ((List.range c.moments).map fun k => Deed.make (k : Nat)) ++
    ((List.range c.moments).map fun k => Deed.hear ((k : Nat) + 1 : Int)) ++ [.back, .fall, .rise]
/-- a deed of the small world -/
def Deed.Ok (c : Cf) : Deed → Prop
  | .take g => 1 ≤ g ∧ g ≤ c.areas.length
  | .write r => 0 ≤ r ∧ r < c.moments
  | .make r => 0 ≤ r ∧ r < c.moments
  | .hear b => 1 ≤ b ∧ b ≤ c.moments
  | _ => True
theorem deedsOf_ok (c : Cf) : ∀ d ∈ deedsOf c, d.Ok c := by
  intro d hd
  unfold deedsOf at hd
  rcases List.mem_append.mp hd with hd | hd
  · rcases List.mem_append.mp hd with hd | hd
    · rcases List.mem_append.mp hd with hd | hd
      · rcases List.mem_append.mp hd with hd | hd
        · obtain ⟨k, hk, rfl⟩ := List.mem_map.mp hd
          have := List.mem_range.mp hk
          show 1 ≤ ((k : Nat) + 1 : Int) ∧ ((k : Nat) + 1 : Int) ≤ (c.areas.length : Int)
          omega
        · obtain ⟨k, hk, rfl⟩ := List.mem_map.mp hd
          have := List.mem_range.mp hk
          show 0 ≤ ((k : Nat) : Int) ∧ ((k : Nat) : Int) < c.moments
          omega
      · obtain ⟨k, hk, rfl⟩ := List.mem_map.mp hd
        have := List.mem_range.mp hk
        show 0 ≤ ((k : Nat) : Int) ∧ ((k : Nat) : Int) < c.moments
        omega
    · obtain ⟨k, hk, rfl⟩ := List.mem_map.mp hd
      have := List.mem_range.mp hk
      show 1 ≤ ((k : Nat) + 1 : Int) ∧ ((k : Nat) + 1 : Int) ≤ (c.moments : Int)
      omega
  · rcases List.mem_cons.mp hd with rfl | hd
    · trivial
    · rcases List.mem_cons.mp hd with rfl | hd
      · trivial
      · rcases List.mem_cons.mp hd with rfl | hd
        · trivial
        · cases hd

/-! ### the marks -/
theorem mem_ins (x y : Int) : ∀ l : List Int, y ∈ ins x l ↔ (y ∈ l ∨ y = x)
  | [] => by simp [ins]
  | z :: r => by
    unfold ins
    by_cases h1 : x < z
    · rw [if_pos h1]; grind
    · rw [if_neg h1]
      by_cases h2 : x = z
      · rw [if_pos h2]; subst h2; grind
      · rw [if_neg h2]
        simp only [List.mem_cons, mem_ins x y r]
        constructor
        · rintro (a | a | a)
          · exact .inl (.inl a)
          · exact .inl (.inr a)
          · exact .inr a
        · rintro ((a | a) | a)
          · exact .inl a
          · exact .inr (.inl a)
          · exact .inr (.inr a)
theorem ins_len (x : Int) : ∀ l : List Int, (ins x l).length ≤ l.length + 1
  | [] => by simp [ins]
  | z :: r => by
    unfold ins
    split
    · simp
    · split
      · simp
      · simp only [List.length_cons]
        have := ins_len x r
        omega
theorem ins_up (x : Int) : ∀ l : List Int, l.Pairwise (· < ·) → (ins x l).Pairwise (· < ·)
  | [], _ => by simp [ins]
  | z :: r, h => by
    obtain ⟨h1, h2⟩ := List.pairwise_cons.mp h
    unfold ins
    by_cases e1 : x < z
    · rw [if_pos e1]
      refine List.pairwise_cons.mpr ⟨fun y hy => ?_, h⟩
      rcases List.mem_cons.mp hy with rfl | hy
      · exact e1
      · have := h1 y hy; omega
    · rw [if_neg e1]
      by_cases e2 : x = z
      · rw [if_pos e2]; exact h
      · rw [if_neg e2]
        refine List.pairwise_cons.mpr ⟨fun y hy => ?_, ins_up x r h2⟩
        rcases (mem_ins x y r).mp hy with hy | rfl
        · exact h1 y hy
        · omega
/-- two rising lists with the same items are one -/
theorem up_unique : ∀ {l m : List Int}, l.Pairwise (· < ·) → m.Pairwise (· < ·) → (∀ x, x ∈ l ↔ x ∈ m) → l = m
  | [], [], _, _, _ => rfl
  | [], y :: m, _, _, h => by have := (h y).mpr List.mem_cons_self; cases this
  | x :: l, [], _, _, h => by have := (h x).mp List.mem_cons_self; cases this
  | x :: l, y :: m, hl, hm, h => by
    obtain ⟨l1, l2⟩ := List.pairwise_cons.mp hl
    obtain ⟨m1, m2⟩ := List.pairwise_cons.mp hm
    have e : x = y := by
      have a := (h x).mp List.mem_cons_self
      have b := (h y).mpr List.mem_cons_self
      rcases List.mem_cons.mp a with a | a
      · exact a
      · rcases List.mem_cons.mp b with b | b
        · exact b.symm
        · have := m1 x a
          have := l1 y b
          omega
    subst e
    have ih := up_unique l2 m2 fun z => by
      constructor
      · intro hz
        have := (h z).mp (List.mem_cons_of_mem _ hz)
        rcases List.mem_cons.mp this with rfl | q
        · exact absurd (l1 z hz) (Int.lt_irrefl _)
        · exact q
      · intro hz
        have := (h z).mpr (List.mem_cons_of_mem _ hz)
        rcases List.mem_cons.mp this with rfl | q
        · exact absurd (m1 z hz) (Int.lt_irrefl _)
        · exact q
    rw [ih]

/-! ### what holds along all deeds of a small world -/
def pastOf (s : S) : Past := ⟨fun x => x ∈ s.marks, s.bound, fun g => if 1 ≤ g then s.given.getD (g - 1).toNat none else none⟩
structure Sok (c : Cf) (s : S) : Prop where
  good : Good c.rl c.sz s.hd (pastOf s)
  giv : s.given.length = c.areas.length
  up : s.marks.Pairwise (· < ·)
theorem Good.congr {R : Rl} {z : Sz} {h : Hd} {t t' : Past} (I : Good R z h t) (hM : ∀ x, t'.M x → t.M x) (hb : t'.bound = t.bound) (hG : ∀ g, 1 ≤ g → t'.G g = t.G g) (h0 : ∀ g e, t'.G g = some e → 1 ≤ g) : Good R z h t' where
  pl := I.pl
  ar := I.ar
  held := I.held
  heard := I.heard
  bd := by rw [hb]; exact I.bd
  ah := fun ra x hx => I.ah ra x (hM x hx)
  ap := fun ra p hp x hx => I.ap ra p hp x (hM x hx)
  sp := fun rs => by rw [hb]; exact I.sp rs
  gv := fun re ro => ⟨fun g e q => by
    have h1 := h0 g e q
    rw [hG g h1] at q
    exact (I.gv re ro).1 g e q, (I.gv re ro).2.1, fun a e ha q => by
    have h1 := h0 _ e q
    rw [hG _ h1] at q
    exact (I.gv re ro).2.2 a e ha q⟩
theorem past_pos (s : S) : ∀ g e, (pastOf s).G g = some e → 1 ≤ g := fun g e q => by
  have q : (if 1 ≤ g then s.given.getD (g - 1).toNat none else none) = some e := q
  by_cases h : 1 ≤ g
  · exact h
  · rw [if_neg h] at q; cases q
theorem begin_ok {c : Cf} (hc : c.Ok) : Sok c (begin0 c) where
  good := (good_begin (R := c.rl) hc.sz).congr (fun x hx => by cases hx) rfl (fun g h1 => by
    show (if 1 ≤ g then (c.areas.map fun _ => (none : Option Int)).getD (g - 1).toNat none else none) = none
    rw [if_pos h1]
    rw [List.getD_eq_getElem?_getD, List.getElem?_map]
    cases c.areas[(g - 1).toNat]? <;> rfl) (past_pos _)
  giv := by simp [begin0]
  up := by simp [begin0]
theorem areaAt_mem {c : Cf} {g : Int} (h1 : 1 ≤ g) (h2 : g ≤ c.areas.length) : areaAt c g ∈ c.areas := by
  unfold areaAt
  have h : (g - 1).toNat < c.areas.length := by omega
  rw [List.getD_eq_getElem?_getD, List.getElem?_eq_getElem h]
  exact List.getElem_mem h
theorem nextMark_some {c : Cf} {h : Hd} {r : Int} {f : Int × Pl} (e : nextMark c h r = some f) : ∃ p a, h.place = some p ∧ h.area = some a ∧ made c.counts c.slots c.far a p r = .ok f.1 f.2 := by
  unfold nextMark at e
  split at e
  · rename_i p a hp ha
    split at e
    · rename_i x q hm
      cases e
      exact ⟨p, a, hp, ha, hm⟩
    · cases e
  · cases e
theorem marked_some {c : Cf} {h : Hd} {r : Int} {f : Int × Pl} (e : marked c h r = some f) : nextMark c h r = some f ∧ ¬ (c.rl.ahead = true ∧ h.held ≤ momentOf c.counts c.slots f.1) := by
  unfold marked at e
  split at e
  · rename_i f' hf
    split at e
    · cases e
    · rename_i hn
      cases e
      exact ⟨hf, hn⟩
  · cases e
theorem getD_set {l : List (Option Int)} {i j : Nat} {e : Option Int} (hi : i < l.length) : (l.set i e).getD j none = if j = i then e else l.getD j none := by
  rw [List.getD_eq_getElem?_getD, List.getD_eq_getElem?_getD, List.getElem?_set]
  by_cases h : i = j
  · subst h
    simp [hi]
  · rw [if_neg h, if_neg (Ne.symm h)]
theorem giveAt_getD {l : List (Option Int)} {i j : Nat} {e : Int} (hi : i < l.length) :
    (giveAt l i e).getD j none = if j = i then some (match l.getD i none with | none => e | some y => if e < y then e else y) else l.getD j none := by
  unfold giveAt
  cases h : l.getD i none with
  | none =>
    show (l.set i (some e)).getD j none = _
    rw [getD_set hi]
  | some y =>
    show (if e < y then l.set i (some e) else l).getD j none = _
    by_cases q : e < y
    · rw [if_pos q, getD_set hi]
      simp only [if_pos q]
    · rw [if_neg q]
      by_cases hj : j = i
      · subst hj
        rw [if_pos rfl, h]
        simp only [if_neg q]
      · rw [if_neg hj]
theorem giveAt_len (l : List (Option Int)) (i : Nat) (e : Int) : (giveAt l i e).length = l.length := by
  unfold giveAt
  split
  · simp
  · split <;> simp

theorem done_ok {c : Cf} {s : S} (hc : c.Ok) (I : Sok c s) {d : Deed} (hd : d.Ok c) : Sok c (done c s d) := by
  have Z : c.sz.Ok := hc.sz
  unfold done
  split
  · rename_i hp
    split
    · exact ⟨(good_rise Z I.good).congr (fun _ q => q) rfl (fun _ _ => rfl) (past_pos _), I.giv, I.up⟩
    · exact I
  · rename_i p hp
    split
    · rename_i g
      unfold takenS
      by_cases ho : c.rl.once = true ∧ g ≤ s.hd.most
      · rw [if_pos ho]; exact I
      · rw [if_neg ho]
        exact ⟨(good_take Z I.good hp hd.1 hd.2 (areaAt_mem hd.1 hd.2) ho).congr (fun _ q => q) rfl (fun _ _ => rfl) (past_pos _), I.giv, I.up⟩
    · rename_i r
      unfold writtenS
      split
      · rename_i f a hf ha
        exact ⟨(good_write I.good Z (n := writeTo c s.hd p a r) (by unfold writeTo; omega)).congr (fun _ q => q) rfl (fun _ _ => rfl) (past_pos _), I.giv, I.up⟩
      · exact I
    · rename_i r
      unfold makeS
      split
      · exact I
      · rename_i f hf
        obtain ⟨h1, h2⟩ := marked_some hf
        obtain ⟨p', a, hp', ha, hm⟩ := nextMark_some h1
        exact ⟨(good_make I.good Z hp' ha hm h2).congr (fun x q => (mem_ins f.1 x s.marks).mp q) rfl (fun _ _ => rfl) (past_pos _), I.giv, ins_up _ _ I.up⟩
    · rename_i b
      exact ⟨(good_hear I.good Z hp (by have := hd.1; omega) (n := if c.rl.spoken = true then max s.hd.heard b else s.hd.heard) rfl).congr (fun _ q => q) rfl (fun _ _ => rfl) (past_pos _), I.giv, I.up⟩
    · unfold backS
      split
      · exact I
      · rename_i a ha
        by_cases he : a.2.2 ≤ backAt s.hd p a
        · rw [if_pos he]; exact I
        · rw [if_neg he]
          obtain ⟨_, _, _, g1, g2⟩ := I.good.ar a ha
          have hi : (s.hd.grant - 1).toNat < s.given.length := by
            have : s.hd.grant ≤ (c.areas.length : Int) := g2
            rw [I.giv]
            omega
          refine ⟨(good_back I.good ha (e := backAt s.hd p a) (by omega) (b := if c.rl.ends = true then some (a.1, a.2.1, backAt s.hd p a) else some a) rfl).congr (fun _ q => q) rfl (fun g h1 => ?_) (past_pos _), ?_, I.up⟩
          · show (if 1 ≤ g then (giveAt s.given (s.hd.grant - 1).toNat (backAt s.hd p a)).getD (g - 1).toNat none else none) =
              if g = s.hd.grant then some (match (if 1 ≤ s.hd.grant then s.given.getD (s.hd.grant - 1).toNat none else none) with | none => backAt s.hd p a | some y => if backAt s.hd p a < y then backAt s.hd p a else y)
              else (if 1 ≤ g then s.given.getD (g - 1).toNat none else none)
            rw [if_pos h1, if_pos h1, if_pos g1, giveAt_getD hi]
            by_cases eg : g = s.hd.grant
            · rw [if_pos eg, if_pos (by rw [eg])]
            · rw [if_neg eg, if_neg (by omega)]
          · show (giveAt s.given _ _).length = _
            rw [giveAt_len]; exact I.giv
    · exact ⟨(good_fall I.good).congr (fun _ q => q) rfl (fun _ _ => rfl) (past_pos _), I.giv, I.up⟩
    · exact I

/-- the words that rules forbid -/
def forbids (R : Rl) : W4 → Bool
  | .twice => R.ahead
  | .fallen => R.ahead
  | .below => R.spoken
  | .astray => R.ends && R.once
theorem getLastD_mem : ∀ {l : List Int} {d : Int}, l ≠ [] → l.getLastD d ∈ l
  | [], _, h => absurd rfl h
  | [x], _, _ => by simp
  | x :: y :: r, d, _ => by
    have := getLastD_mem (l := y :: r) (d := x) (by simp)
    simp only [List.getLastD_cons] at this ⊢
    exact List.mem_cons_of_mem _ this
/-- NO FORBIDDEN WORD in a small world -/
theorem bad_ok {c : Cf} {s : S} (hc : c.Ok) (I : Sok c s) {d : Deed} {w : W4} (hb : bad c s d = some w) : forbids c.rl w = false := by
  unfold bad at hb
  split at hb
  · rename_i r
    split at hb
    · cases hb
    · rename_i f hf
      obtain ⟨h1, h2⟩ := marked_some hf
      obtain ⟨p, a, hp, ha, hm⟩ := nextMark_some h1
      obtain ⟨n1, n2, n3⟩ := no_word hc.sz I.good hp ha hm
      obtain ⟨_, _, _, g1, g2⟩ := I.good.ar a ha
      unfold badMark at hb
      by_cases b1 : f.1 ∈ s.marks
      · rw [if_pos b1] at hb
        cases hb
        show c.rl.ahead = false
        cases ra : c.rl.ahead with
        | false => rfl
        | true => exact absurd (n1 ra f.1 b1) (Int.lt_irrefl _)
      rw [if_neg b1] at hb
      by_cases b2 : s.marks ≠ [] ∧ f.1 < s.marks.getLastD 0
      · rw [if_pos b2] at hb
        cases hb
        show c.rl.ahead = false
        cases ra : c.rl.ahead with
        | false => rfl
        | true =>
          have := n1 ra _ (getLastD_mem (d := 0) b2.1)
          have := b2.2
          omega
      rw [if_neg b2] at hb
      by_cases b3 : (match givenAt s with | some e => decide (e ≤ momentOf c.counts c.slots f.1) | none => false) = true
      · rw [if_pos b3] at hb
        cases hb
        show (c.rl.ends && c.rl.once) = false
        cases re : c.rl.ends with
        | false => rfl
        | true =>
          cases ro : c.rl.once with
          | false => rfl
          | true =>
            cases hg : givenAt s with
            | none => rw [hg] at b3; cases b3
            | some e =>
              rw [hg] at b3
              have b3 : e ≤ momentOf c.counts c.slots f.1 := of_decide_eq_true b3
              have := n3 re ro e (by
                show (if 1 ≤ s.hd.grant then s.given.getD (s.hd.grant - 1).toNat none else none) = some e
                rw [if_pos g1]
                exact hg)
              have : momentOf c.counts c.slots f.1 < e := this
              omega
      rw [if_neg b3] at hb
      by_cases b4 : momentOf c.counts c.slots f.1 < s.bound
      · rw [if_pos b4] at hb
        cases hb
        show c.rl.spoken = false
        cases rs : c.rl.spoken with
        | false => rfl
        | true =>
          have : s.bound ≤ momentOf c.counts c.slots f.1 := n2 rs
          omega
      rw [if_neg b4] at hb
      cases hb
  · cases hb
end K87
end
section
set_option linter.all false
set_option autoImplicit false
set_option maxRecDepth 100000
set_option maxHeartbeats 4000000
set_option Elab.async false
/-! K87Look: the looker's layers as a plain function; in each small world that the law looks through there are at most 2000 states. -/
namespace K87
def foundStep (c : Cf) (known : List S) (s : S) (acc : List S) (d : Deed) : List S :=
  match after c s d with
  | none => acc
  | some b => if b ∈ known ++ acc then acc else acc ++ [b]
def foundOf (c : Cf) (known : List S) (acc : List S) (s : S) : List S := (deedsOf c).foldl (foundStep c known s) acc
def nextLayer (c : Cf) (known layer : List S) : List S := layer.foldl (foundOf c known) []
def isBad (c : Cf) (layer : List S) : Bool := layer.any fun s => (deedsOf c).any fun d => (bad c s d).isSome
def runs (c : Cf) : Nat → List S → List S → Bool
  | 0, _, _ => false
  | n + 1, layer, known => isBad c layer || (nextLayer c known layer).isEmpty || (decide ((known ++ nextLayer c known layer).length ≤ 2000) && runs c n (nextLayer c known layer) (known ++ nextLayer c known layer))
def cfL (counts far first : Int) (R : Rl) : Cf := ⟨counts, 1, far, 1, [(0, first, first + 3 - counts)], (3 - counts).toNat, R⟩
def allB (p : Bool → Bool) : Bool := p true && p false
def allR (p : Rl → Bool) : Bool := allB fun a => allB fun e => allB fun o => allB fun s => p ⟨a, e, o, s⟩
theorem allB_of {p : Bool → Bool} (h : allB p = true) : ∀ b, p b = true := fun b => by
  have h := Bool.and_eq_true_iff.mp h
  cases b
  · exact h.2
  · exact h.1
theorem allR_of {p : Rl → Bool} (h : allR p = true) : ∀ R, p R = true := fun R => by
  obtain ⟨a, e, o, s⟩ := R
  exact allB_of (allB_of (allB_of (allB_of h a) e) o) s
theorem look_1_0_0 : allR (fun R => runs (cfL 1 0 0 R) 12 [begin0 (cfL 1 0 0 R)] [begin0 (cfL 1 0 0 R)]) = true := by decide +kernel
theorem look_1_0_1 : allR (fun R => runs (cfL 1 0 1 R) 12 [begin0 (cfL 1 0 1 R)] [begin0 (cfL 1 0 1 R)]) = true := by decide +kernel
theorem look_1_1_0 : allR (fun R => runs (cfL 1 1 0 R) 12 [begin0 (cfL 1 1 0 R)] [begin0 (cfL 1 1 0 R)]) = true := by decide +kernel
theorem look_1_1_1 : allR (fun R => runs (cfL 1 1 1 R) 12 [begin0 (cfL 1 1 1 R)] [begin0 (cfL 1 1 1 R)]) = true := by decide +kernel
theorem look_2_0_0 : allR (fun R => runs (cfL 2 0 0 R) 12 [begin0 (cfL 2 0 0 R)] [begin0 (cfL 2 0 0 R)]) = true := by decide +kernel
theorem look_2_0_1 : allR (fun R => runs (cfL 2 0 1 R) 12 [begin0 (cfL 2 0 1 R)] [begin0 (cfL 2 0 1 R)]) = true := by decide +kernel
theorem look_2_1_0 : allR (fun R => runs (cfL 2 1 0 R) 12 [begin0 (cfL 2 1 0 R)] [begin0 (cfL 2 1 0 R)]) = true := by decide +kernel
theorem look_2_1_1 : allR (fun R => runs (cfL 2 1 1 R) 12 [begin0 (cfL 2 1 1 R)] [begin0 (cfL 2 1 1 R)]) = true := by decide +kernel
/-- the small worlds that the law looks through -/
theorem runs_all {c f g : Int} (hc : c = 1 ∨ c = 2) (hf : f = 0 ∨ f = 1) (hg : g = 0 ∨ g = 1) (R : Rl) : runs (cfL c f g R) 12 [begin0 (cfL c f g R)] [begin0 (cfL c f g R)] = true := by
  rcases hc with rfl | rfl <;> rcases hf with rfl | rfl <;> rcases hg with rfl | rfl
  · exact allR_of look_1_0_0 R
  · exact allR_of look_1_0_1 R
  · exact allR_of look_1_1_0 R
  · exact allR_of look_1_1_1 R
  · exact allR_of look_2_0_0 R
  · exact allR_of look_2_0_1 R
  · exact allR_of look_2_1_0 R
  · exact allR_of look_2_1_1 R
end K87
end
section
set_option Elab.async false
set_option linter.all false
set_option maxRecDepth 100000
set_option maxHeartbeats 4000000
/-! K87Kit1: data that never changes (numbers, texts, None, nested tuples), told as NestedKey; dicts keyed by it. -/
namespace K87
open PySem PySem.Spec PyProof.Rows L2

abbrev Dat := NestedKey
mutual
/-- v is the datum k, its tuples stand in H -/
inductive Dt (H : Hp) : Dat → V → Prop
  | non : Dt H .none .non
  | num (i : Int) : Dt H (.num i) (.int i)
  | txt (x : Str) : Dt H (.text x) (.str x)
  | tup {a : Addr} {vs : List V} {ks : List Dat} : H a = some (.tup vs) → Dts H ks vs → Dt H (.tup ks) (.ref a)
inductive Dts (H : Hp) : List Dat → List V → Prop
  | nil : Dts H [] []
  | cons {k : Dat} {v : V} {ks : List Dat} {vs : List V} : Dt H k v → Dts H ks vs → Dts H (k :: ks) (v :: vs)
end
section
variable {H H' : Hp} {k : Dat} {ks : List Dat} {v : V} {vs : List V} {i : Int} {x : Str}
theorem Dt.num_inv (h : Dt H (.num i) v) : v = .int i := by cases h; rfl
theorem Dt.txt_inv (h : Dt H (.text x) v) : v = .str x := by cases h; rfl
theorem Dt.non_inv (h : Dt H .none v) : v = .non := by cases h; rfl
theorem Dt.tup_inv (h : Dt H (.tup ks) v) : ∃ a vs, v = .ref a ∧ H a = some (.tup vs) ∧ Dts H ks vs := by
  cases h with
  | tup e r => exact ⟨_, _, rfl, e, r⟩
theorem Dts.nil_inv (h : Dts H [] vs) : vs = [] := by cases h; rfl
theorem Dts.cons_inv (h : Dts H (k :: ks) vs) : ∃ v ws, vs = v :: ws ∧ Dt H k v ∧ Dts H ks ws := by
  cases h with
  | cons a b => exact ⟨_, _, rfl, a, b⟩
/-- the tuples stay -/
def TSame (H H' : Hp) : Prop := ∀ a xs, H a = some (.tup xs) → H' a = some (.tup xs)
theorem _root_.L2.Same.ts (h : Same H H') : TSame H H' := fun a xs e => h a _ e
theorem TSame.refl (H : Hp) : TSame H H := fun _ _ e => e
theorem TSame.trans {H'' : Hp} (a : TSame H H') (b : TSame H' H'') : TSame H H'' := fun c xs e => b c xs (a c xs e)
mutual
theorem Dt.mono (hs : TSame H H') : ∀ (k : Dat) (v : V), Dt H k v → Dt H' k v
  | .none, _, h => by cases h; exact .non
  | .num _, _, h => by cases h; exact .num _
  | .text _, _, h => by cases h; exact .txt _
  | .tup ks, _, h => by
    cases h with
    | tup e r => exact .tup (hs _ _ e) (Dts.mono hs ks _ r)
theorem Dts.mono (hs : TSame H H') : ∀ (ks : List Dat) (vs : List V), Dts H ks vs → Dts H' ks vs
  | [], _, h => by cases h; exact .nil
  | k :: ks, _, h => by
    cases h with
    | cons a b => exact .cons (Dt.mono hs k _ a) (Dts.mono hs ks _ b)
end
theorem Dt.on (h : Dt H k v) (hs : TSame H H') : Dt H' k v := Dt.mono hs _ _ h
theorem Dts.on (h : Dts H ks vs) (hs : TSame H H') : Dts H' ks vs := Dts.mono hs _ _ h
theorem Dts.len : ∀ {ks : List Dat} {vs : List V}, Dts H ks vs → vs.length = ks.length
  | [], _, h => by cases h; rfl
  | _ :: _, _, h => by
    cases h with
    | cons _ b => simp [Dts.len b]
theorem Dts.app : ∀ {ks ls : List Dat} {vs ws : List V}, Dts H ks vs → Dts H ls ws → Dts H (ks ++ ls) (vs ++ ws)
  | [], _, _, _, h, g => by cases h; exact g
  | _ :: _, _, _, _, h, g => by
    cases h with
    | cons a b => exact .cons a (Dts.app b g)
theorem Dts.get : ∀ {ks : List Dat} {vs : List V} {j : Nat} {k : Dat}, Dts H ks vs → ks[j]? = some k → ∃ v, vs[j]? = some v ∧ Dt H k v
  | [], _, _, _, h, e => by simp at e
  | k :: _, _, 0, _, h, e => by
    cases h with
    | cons a b =>
      have e' : k = _ := Option.some.inj e
      subst e'
      exact ⟨_, rfl, a⟩
  | _ :: _, _, j + 1, _, h, e => by
    cases h with
    | cons a b =>
      obtain ⟨v, e1, d⟩ := Dts.get (j := j) b e
      exact ⟨v, e1, d⟩
theorem Dts.nums : ∀ {ns : List Int} {vs : List V}, Dts H (ns.map NestedKey.num) vs → vs = ns.map V.int
  | [], _, h => by cases h; rfl
  | n :: ns, _, h => by
    cases h with
    | cons a b => rw [Dt.num_inv a, Dts.nums b]; rfl
theorem Dts.ofNums : ∀ (ns : List Int), Dts H (ns.map NestedKey.num) (ns.map V.int)
  | [] => .nil
  | _ :: ns => .cons (.num _) (Dts.ofNums ns)
mutual
theorem Dt.dp {K : PySem.W.Frag} : ∀ (k : Dat) (v : V), Dt H k v → Dp K H v k.data
  | .none, _, h => by cases h; exact .non
  | .num _, _, h => by cases h; exact .int _
  | .text _, _, h => by cases h; exact .str _
  | .tup ks, _, h => by
    cases h with
    | tup e r => exact .tup (SqT.of e) (Dts.dp ks _ r)
theorem Dts.dp {K : PySem.W.Frag} : ∀ (ks : List Dat) (vs : List V), Dts H ks vs → DpAll K H vs (NestedKey.datas ks)
  | [], _, h => by cases h; exact .nil
  | k :: ks, _, h => by
    cases h with
    | cons a b => exact .cons (Dt.dp k _ a) (Dts.dp ks _ b)
end
mutual
theorem Dt.nested {P : Program} {w : World} {h : Heap} (ok : HOk P w H h) : ∀ (k : Dat) (v : V) (u : Value), Dt H k v → RelV v u → NestedIs h k u
  | .none, _, _, d, r => by cases d; cases r; exact .none
  | .num _, _, _, d, r => by cases d; obtain ⟨t, rfl⟩ := r; exact .int _ _
  | .text _, _, _, d, r => by cases d; obtain ⟨t, rfl⟩ := r; exact .text _ _
  | .tup ks, _, _, d, r => by
    cases d with
    | tup e q =>
      cases r
      have x : ObjOk P w H h _ (.tup _) := ok _ _ e
      obtain ⟨_, its, rv, o, ho, hc, n, hd⟩ := x
      exact .tup ho hc hd (by simpa using Dts.nested ok ks _ _ q rv)
theorem Dts.nested {P : Program} {w : World} {h : Heap} (ok : HOk P w H h) : ∀ (ks : List Dat) (vs : List V) (us : List Value), Dts H ks vs → Vals vs us → NestedAll h ks us
  | [], _, _, d, r => by cases d; cases r; exact .nil
  | k :: ks, _, _, d, r => by
    cases d with
    | cons a b =>
      cases r with
      | cons r1 r2 => exact .cons (Dt.nested ok k _ _ a r1) (Dts.nested ok ks _ _ b r2)
end
end

/-! ### == of data -/
mutual
theorem eqv_data : ∀ a b : Dat, PyData.eqv a.data b.data = NestedKey.beq a b
  | .none, .none => by simp [NestedKey.data, NestedKey.beq, PyData.eqv]
  | .num a, .num b => by simp [NestedKey.data, NestedKey.beq, PyData.eqv, Bool.beq_eq_decide_eq]
  | .text a, .text b => by simp [NestedKey.data, NestedKey.beq, PyData.eqv, Bool.beq_eq_decide_eq]
  | .tup a, .tup b => by
    simp only [NestedKey.data, NestedKey.beq, PyData.eqv]
    exact eqv_datas a b
  | .none, .num _ => by simp [NestedKey.data, NestedKey.beq, PyData.eqv]
  | .none, .text _ => by simp [NestedKey.data, NestedKey.beq, PyData.eqv]
  | .none, .tup _ => by simp [NestedKey.data, NestedKey.beq, PyData.eqv]
  | .num _, .none => by simp [NestedKey.data, NestedKey.beq, PyData.eqv]
  | .num _, .text _ => by simp [NestedKey.data, NestedKey.beq, PyData.eqv]
  | .num _, .tup _ => by simp [NestedKey.data, NestedKey.beq, PyData.eqv]
  | .text _, .none => by simp [NestedKey.data, NestedKey.beq, PyData.eqv]
  | .text _, .num _ => by simp [NestedKey.data, NestedKey.beq, PyData.eqv]
  | .text _, .tup _ => by simp [NestedKey.data, NestedKey.beq, PyData.eqv]
  | .tup _, .none => by simp [NestedKey.data, NestedKey.beq, PyData.eqv]
  | .tup _, .num _ => by simp [NestedKey.data, NestedKey.beq, PyData.eqv]
  | .tup _, .text _ => by simp [NestedKey.data, NestedKey.beq, PyData.eqv]
theorem eqv_datas : ∀ a b : List Dat, PyData.eqvAll (NestedKey.datas a) (NestedKey.datas b) = NestedKey.beqAll a b
  | [], [] => by simp [NestedKey.datas, NestedKey.beqAll, PyData.eqvAll]
  | a :: as, b :: bs => by
    simp only [NestedKey.datas, NestedKey.beqAll, PyData.eqvAll]
    rw [eqv_data a b, eqv_datas as bs]
  | [], _ :: _ => by simp [NestedKey.datas, NestedKey.beqAll, PyData.eqvAll]
  | _ :: _, [] => by simp [NestedKey.datas, NestedKey.beqAll, PyData.eqvAll]
end
end K87
end
section
set_option Elab.async false
set_option linter.all false
set_option maxRecDepth 100000
set_option maxHeartbeats 4000000
/-! K87Kit2: dicts keyed by data; == of data; max of three numbers, of two pairs, of a tuple. -/
namespace K87
open PySem PySem.Spec L2
open PySem.W (dataLt alike alikeAll iter_tupleW cmpIn_gt moved_old reads_keeps AlikeAll)
open PyProof.Rows hiding St

/-! ### == -/
mutual
def okT : Dat → Bool
  | .none => true
  | .num _ => true
  | .text x => PyData.canLay0 (.str x)
  | .tup ks => okTs ks
def okTs : List Dat → Bool
  | [] => true
  | k :: ks => okT k && okTs ks
end
mutual
theorem canLay_data : ∀ k : Dat, okT k = true → PyData.canLay0 k.data = true
  | .none, _ => by simp [NestedKey.data, PyData.canLay0]
  | .num _, _ => by simp [NestedKey.data, PyData.canLay0]
  | .text x, h => h
  | .tup ks, h => by
    have q := canLay_datas ks h
    simp only [NestedKey.data, PyData.canLay0]
    exact q
theorem canLay_datas : ∀ ks : List Dat, okTs ks = true → PyData.canLayAll0 (NestedKey.datas ks) = true
  | [], _ => by simp [NestedKey.datas, PyData.canLayAll0]
  | k :: ks, h => by
    have h := Bool.and_eq_true_iff.mp h
    simp only [NestedKey.datas, PyData.canLayAll0]
    rw [canLay_data k h.1, canLay_datas ks h.2]
    rfl
end
mutual
theorem depth_data : ∀ k : Dat, PyData.depth k.data = k.depth
  | .none => by simp [NestedKey.data, NestedKey.depth, PyData.depth]
  | .num _ => by simp [NestedKey.data, NestedKey.depth, PyData.depth]
  | .text x => by simp [NestedKey.data, NestedKey.depth, PyData.depth]
  | .tup ks => by
    simp only [NestedKey.data, NestedKey.depth, PyData.depth]
    rw [depth_datas ks]
theorem depth_datas : ∀ ks : List Dat, PyData.depthAll (NestedKey.datas ks) = NestedKey.depthAll ks
  | [] => by simp [NestedKey.datas, NestedKey.depthAll, PyData.depthAll]
  | k :: ks => by
    simp only [NestedKey.datas, NestedKey.depthAll, PyData.depthAll]
    rw [depth_data k, depth_datas ks]
end
theorem shaped_data {k : Dat} (h : okT k = true) (d : k.depth ≤ 64) : SeqAt.shaped k.data = true := by
  unfold SeqAt.shaped
  rw [canLay_data k h, depth_data, decide_eq_true d]
  rfl
def rEqN (neg : Bool) : R2 := fun x y H Q => ∃ a b : Dat, Dt H a x ∧ Dt H b y ∧ (okT a = true ∧ a.depth ≤ 64) ∧ (okT b = true ∧ b.depth ≤ 64) ∧ Q (.bl (if neg then !decide (a = b) else decide (a = b))) H
theorem op_eqN {X : Cx} (hu : X.A.units + 64 < cLine) : OpR X (compareOp .Eq) (rEqN false) := by
  intro pins s σ H x y v u Q I rx ry h
  obtain ⟨a, b, ha, hb, sa, sb, q⟩ := h
  refine op_eqD hu pins s σ H x y v u Q I rx ry ⟨a.data, b.data, Dt.dp _ _ ha, Dt.dp _ _ hb, shaped_data sa.1 sa.2, shaped_data sb.1 sb.2, ?_⟩
  rw [eqv_data, ← NestedKey.decide_eq]
  exact q
theorem op_neN {X : Cx} (hu : X.A.units + 64 < cLine) : OpR X (compareOp .NotEq) (rEqN true) := by
  intro pins s σ H x y v u Q I rx ry h
  obtain ⟨a, b, ha, hb, sa, sb, q⟩ := h
  refine op_neD hu pins s σ H x y v u Q I rx ry ⟨a.data, b.data, Dt.dp _ _ ha, Dt.dp _ _ hb, shaped_data sa.1 sa.2, shaped_data sb.1 sb.2, ?_⟩
  rw [eqv_data, ← NestedKey.decide_eq]
  exact q

/-! ### a dict whose keys are data (its values are all True) -/
abbrev Es := List (Dat × Addr)
def esX (es : Es) : List (Dat × Addr × Value) := es.map fun e => (e.1, e.2, Value.bool true)
def KdP (P : Program) (w : World) (d : Addr) (es : Es) (h : Heap) : Prop :=
  ∃ o tb ep, h.get? d = some o ∧ o.ExactDict ∧ o.data = .dict tb ep ∧ tb.toList = (esX es).map (entryOfKey (nestedKind P w))
def KdO (P : Program) (w : World) (d : Addr) (es : Es) : HO := .ext (KdP P w d es)
/-- at d: the dict with the keys ks, in order -/
structure KdAt (P : Program) (w : World) (H : Hp) (d : Addr) (ks : List Dat) : Prop where
  ex : ∃ es : Es, es.map (·.1) = ks ∧ H d = some (KdO P w d es) ∧ ∀ e ∈ es, Dt H e.1 (.ref e.2)
  nm : (d == sysModules) = false
  nd : ks.Nodup
  dp : ∀ k ∈ ks, k.depth ≤ 8
  sz : ks.length < sizeLine
theorem kdO_ok {P : Program} {w : World} {H : Hp} {h : Heap} {d : Addr} {es : Es} (x : KdP P w d es h) : ObjOk P w H h d (KdO P w d es) := by
  obtain ⟨o, tb, ep, ho, r⟩ := id x
  refine ⟨x, ⟨o, ho⟩, fun h1 h2 z k => ?_⟩
  obtain ⟨o, tb, ep, ho, r⟩ := z
  exact ⟨o, tb, ep, k _ ho, r⟩
theorem kdO_tup {P : Program} {w : World} {d : Addr} {es : Es} {xs : List V} : HO.tup xs ≠ KdO P w d es := fun z => by
  have z' : HO.tup xs = HO.ext _ := z
  cases z'
section
variable {X : Cx} {pins : List (Addr × Obj)} {σ : St} {H : Hp} {s : Shared} {d : Addr} {ks : List Dat} {k : Dat} {a : Addr} {A : Around} {E : Value → Shared → Prop}
theorem esX_keys (es : Es) : (esX es).map (·.1) = es.map (·.1) := by
  unfold esX
  rw [List.map_map]
  rfl
/-- the library's own word of the dict -/
theorem kd_of {P : Program} {w : World} {h : Heap} (ok : HOk P w H h) {es : Es} (hd : H d = some (KdO P w d es)) (hk : ∀ e ∈ es, Dt H e.1 (.ref e.2)) (nd : (es.map (·.1)).Nodup) (dp : ∀ e ∈ es, e.1.depth ≤ 8) :
    h.DictOfH (nestedKind P w) d (esX es) := by
  have x : ObjOk P w H h d (.ext (KdP P w d es)) := ok d _ hd
  obtain ⟨⟨o, tb, ep, ho, hx, hdat, he⟩, _, _⟩ := x
  refine ⟨o, tb, ep, ho, hx, hdat, he, fun x hx => ?_, by rw [esX_keys]; exact nd⟩
  obtain ⟨e, hm, rfl⟩ := List.mem_map.mp hx
  exact ⟨Dt.nested ok _ _ _ (hk e hm) rfl, dp e hm⟩
theorem atKey_mem (es : Es) (k : Dat) : (atKey (esX es) k).isSome = decide (k ∈ es.map (·.1)) := by
  induction es with
  | nil => rfl
  | cons e es ih =>
    by_cases h : e.1 = k
    · simp [esX, atKey, h]
    · have q : (atKey (esX es) k).isSome = decide (k ∈ es.map (·.1)) := ih
      have h' : ¬ k = e.1 := fun z => h z.symm
      have e1 : decide (k ∈ (e :: es).map (·.1)) = decide (k ∈ es.map (·.1)) := by simp [h']
      rw [e1, ← q]
      simp [esX, atKey, h]
/-- k not in d, k in d -/
def rKd (P : Program) (w : World) (neg : Bool) : R2 := fun x y H Q => ∃ (d : Addr) (ks : List Dat) (k : Dat) (a : Addr), x = .ref a ∧ y = .ref d ∧ KdAt P w H d ks ∧ Dt H k (.ref a) ∧ k.depth ≤ 8 ∧ Q (.bl (if neg then !decide (k ∈ ks) else decide (k ∈ ks))) H
theorem op_notInKd (hu : X.A.units + 1 + 8 < cLine) : OpR X (compareOp .NotIn) (rKd X.prog X.w true) := by
  intro pins s σ H x y v u Q I rx ry h
  obtain ⟨d, ks, k, a, rfl, rfl, ⟨⟨es, rfl, hd, hk⟩, nm, nd, dp, sz⟩, da, dk, q⟩ := h
  cases rx
  cases ry
  have D := kd_of I.hok hd hk nd fun e he => dp _ (List.mem_map.mpr ⟨e, he, rfl⟩)
  show wpAny _ _ (do return Value.bool (!(← contains (.ref d) (.ref a)))) _ _ s
  refine wpAny_bind (wpAny_contains_heap (knd := nestedKind X.prog X.w) (k := k) hu ⟨Dt.nested I.hok _ _ _ da rfl, dk⟩ nm D (wpAny_pure ?_))
  refine ⟨.bl _, H, I.tok _, ?_, q⟩
  rw [atKey_mem]
  rfl
/-- d[k] = True, k new -/
def rKdSet (P : Program) (w : World) : V → V → V → Hp → (Hp → Prop) → Prop := fun o i v H Q => ∃ (d : Addr) (ks : List Dat) (k : Dat) (a : Addr), o = .ref d ∧ i = .ref a ∧ v = .bl true ∧ KdAt P w H d ks ∧ Dt H k (.ref a) ∧ k.depth ≤ 8 ∧ k ∉ ks ∧ ks.length + 1 < sizeLine ∧
  ∀ H', KdAt P w H' d (ks ++ [k]) → (∀ b, b ≠ d → H' b = H b) → Q H'
theorem atKey_none : ∀ {es : Es} {k : Dat}, k ∉ es.map (·.1) → atKey (esX es) k = none := fun {es k} h => by
  have q := atKey_mem es k
  rw [decide_eq_false h] at q
  cases e : atKey (esX es) k with
  | none => rfl
  | some p => rw [e] at q; cases q
theorem set_kd (hu : X.A.units + 1 + 8 < cLine) : PSet X (rKdSet X.prog X.w) := by
  intro pins s σ H o i v ov iv u Q I ro ri rv h
  obtain ⟨d, ks, k, a, rfl, rfl, rfl, ⟨⟨es, rfl, hd, hk⟩, nm, nd, dp, sz⟩, da, dk, nk, sz', q⟩ := h
  cases ro
  cases ri
  cases rv
  have D := kd_of I.hok hd hk nd fun e he => dp _ (List.mem_map.mpr ⟨e, he, rfl⟩)
  refine wpAny_setItem_heap (knd := nestedKind X.prog X.w) (k := k) (hsz := by
    have e : (esX es).length = es.length := by unfold esX; rw [List.length_map]
    have e2 : (es.map (·.1)).length = es.length := List.length_map ..
    rw [e]
    rw [e2] at sz'
    omega) hu ⟨Dt.nested I.hok _ _ _ da rfl, dk⟩ D fun h' D' hs => ?_
  · have eS : storedH (esX es) k a (Value.bool true) = esX (es ++ [(k, a)]) := by
      unfold storedH
      rw [atKey_none nk]
      unfold esX
      simp
    obtain ⟨o', tb, ep, ho, hx, hdat, he, _, _⟩ := D'
    rw [eS] at he
    have J : Inv X pins σ (upd H d (KdO X.prog X.w d (es ++ [(k, a)]))) { s with heap := h', toks := s.toks + (nestedKind X.prog X.w).draws k } :=
      I.write (x := d) (e := d) (by rw [hd]; exact True.intro) (.inl rfl) (fun b z hb e => (hs.2 b hb).trans e) ⟨o', ho⟩ (kdO_ok ⟨o', tb, ep, ho, hx, hdat, he⟩)
    have ts : TSame H (upd H d (KdO X.prog X.w d (es ++ [(k, a)]))) := fun b xs e => by
      rw [upd_ne (ne_of e hd kdO_tup)]
      exact e
    refine ⟨_, J, q _ ⟨⟨es ++ [(k, a)], by simp, upd_same, fun e he => ?_⟩, nm, ?_, fun z hz => ?_, by simp at sz' ⊢; omega⟩ fun b hb => upd_ne hb⟩
    · rcases List.mem_append.mp he with he | he
      · exact (hk e he).on ts
      · have e' : e = (k, a) := by simpa using he
        subst e'
        exact da.on ts
    · exact nd_snoc nd nk
    · rcases List.mem_append.mp hz with hz | hz
      · exact dp z hz
      · have e' : z = k := by simpa using hz
        rw [e']
        exact dk
/-- len(d) -/
def rKdLen (P : Program) (w : World) : List V → Hp → VK → Prop := fun xs H Q => ∃ (d : Addr) (ks : List Dat), xs = [.ref d] ∧ KdAt P w H d ks ∧ Q (.int ((ks.length : Nat) : Int)) H
theorem call_lenKd : CallR X (.builtin "len") (rKdLen X.prog X.w) := by
  intro pins s σ H xs us Q I r h
  obtain ⟨d, ks, rfl, ⟨⟨es, rfl, hd, hk⟩, nm, nd, dp, sz⟩, q⟩ := h
  obtain ⟨u, rfl, rx⟩ := vals1 r
  obtain rfl : u = .ref d := rx
  have D := kd_of I.hok hd hk nd fun e he => dp _ (List.mem_map.mpr ⟨e, he, rfl⟩)
  have e1 : (esX es).length = (es.map (·.1)).length := by unfold esX; rw [List.length_map, List.length_map]
  refine call_len_dictH nm D (by rw [e1]; rw [sizeLine_eq] at sz; omega) ?_
  rw [e1]
  exact ⟨.int _, H, I.tok _, ⟨_, rfl⟩, q⟩
end

/-! ### {k: True} -/
theorem dict_pairsX {prog : Program} {w : World} {K : Type} [DecidableEq K] {knd : HeapKind prog w K} {A : Around} {E : Value → Shared → Prop} {s : Shared} {env : Env} {keys : List (Option Expr)} {values : List Expr} {pos : Pos} {pairs : List (Sem Value × Sem Value)} {Q : Value → Shared → Prop} (hu : knd.room A)
    (hshape : (evalEachOpt keys env).zip ((evalEach values env).map fun v => do let x ← v; standAt pos; pure x) = pairs.map fun p => (some p.1, p.2)) (h0 : pairs ≠ []) (hlen : pairs.length ≤ 15)
    (h : wpAny (model prog w) A (evalPairs pairs) (fun vs s₁ => ∃ ps, CarriesH knd s₁.heap vs ps ∧ s₁.heap.DictOfH knd s.heap.objs.size [] ∧
      ∀ h' tk, h'.DictOfH knd s.heap.objs.size (storedAllH [] ps) → Heap.SameBut s.heap.objs.size s₁.heap h' → Q (.ref s.heap.objs.size) { s₁ with heap := h', toks := tk }) E
      { s with heap := s.heap.push { cls := .type "dict", data := .dict #[] } }) :
    wpAny (model prog w) A (eval (.Dict keys values pos) env) Q E s := by
  rw [arm_eval_Dict, hshape, dictDisplay_pairs pairs h0 (by omega)]
  exact wpAny_bind (wpAny_standAt (wpAny_bind (wpAny_subDictH (knd := knd) (Q := fun d s' => wpAny (model prog w) A (pure (Value.ref d)) Q E s') hu hlen
    (wpAny_mono h (fun vs s₁ h₁ => by obtain ⟨ps, hc, hm, hq⟩ := h₁; exact ⟨ps, hc, hm, fun h' tk a b => wpAny_pure (hq h' tk a b)⟩) fun _ _ e => e))))
def tDispN (P : Program) (w : World) (tk tv : TE) : TE := fun σ H Q => ∀ p, H p = none → tPairs [(tk, tv)] σ (upd H p (KdO P w p [])) fun ps H2 => H2 p = some (KdO P w p []) ∧
  ∃ (k : Dat) (a : Addr), ps = [(.ref a, .bl true)] ∧ Dt H2 k (.ref a) ∧ k.depth ≤ 8 ∧ ∀ H', KdAt P w H' p [k] → (∀ b, b ≠ p → H' b = H2 b) → Q (.ref p) H'
theorem pe_dispN {X : Cx} {pos : Pos} {ke ve : Expr} {tk tv : TE} (hu : X.A.units + 8 < cLine) (hk : PE X ke tk) (hv : PE X ve tv) : PE X (.Dict [some ke] [ve] pos) (tDispN X.prog X.w tk tv) := by
  have h : PPs X pos [some ke] [ve] [(tk, tv)] := pps_cons hk hv pps_nil
  refine ⟨fun pins s σ H Q I q => ?_⟩
  have hn := I.hok.fresh (Nat.le_refl s.heap.objs.size)
  have hbig := I.big
  have I1 := I.laid (a := s.heap.objs.size) (o := KdO X.prog X.w s.heap.objs.size []) (h' := s.heap.push { cls := .type "dict", data := .dict #[] }) (t' := s.toks) (fun _ _ q => Heap.get?_push_of_some _ q) (Nat.le_refl _)
    (kdO_ok ⟨_, #[], 0, Heap.get?_push_size _ rfl, ⟨rfl, rfl, rfl⟩, rfl, rfl⟩)
  have nm : (s.heap.objs.size == sysModules) = false := beq_eq_false_iff_ne.mpr (Ne.symm (Nat.ne_of_lt hbig))
  have hl : (pairTrees [some ke] [ve] X.env pos).length = 1 := pairTrees_length [some ke] [ve] X.env pos rfl rfl
  refine dict_pairsX (knd := nestedKind X.prog X.w) (pairs := pairTrees [some ke] [ve] X.env pos) (by exact hu) (zip_pairTrees [some ke] [ve] X.env pos rfl rfl) (by intro z; rw [z] at hl; cases hl) (by rw [hl]; decide)
    (thn (h.run pins _ σ _ _ I1 (q _ hn)) fun ws s2 ⟨ps, H2, I2, rel, e, k, a, ep, da, dk, q2⟩ => ?_)
  subst ep
  obtain ⟨u1, u2, rfl, ra, rb⟩ : ∃ u1 u2, ws = [(u1, u2)] ∧ u1 = Value.ref a ∧ u2 = Value.bool true := by
    cases rel with
    | cons r1 r2 =>
      cases r2
      exact ⟨_, _, rfl, r1.1, r1.2⟩
  subst ra rb
  have D := kd_of I2.hok e (es := []) (fun _ z => nomatch z) List.nodup_nil (fun _ z => nomatch z)
  refine ⟨[(k, a, Value.bool true)], ⟨rfl, rfl, ⟨Dt.nested I2.hok _ _ _ da rfl, dk⟩, True.intro⟩, D, fun h' tk D' hs => ?_⟩
  obtain ⟨o', tb, ep, ho, hx, hdat, he, hi, hnd⟩ := D'
  have J : Inv X pins σ (upd H2 s.heap.objs.size (KdO X.prog X.w s.heap.objs.size [(k, a)])) { s2 with heap := h', toks := tk } :=
    I2.write (x := s.heap.objs.size) (e := s.heap.objs.size) (by rw [e]; exact True.intro) (.inl rfl) (fun b z hb e => (hs.2 b hb).trans e) ⟨o', ho⟩ (kdO_ok ⟨o', tb, ep, ho, hx, hdat, he⟩)
  have ts : TSame H2 (upd H2 s.heap.objs.size (KdO X.prog X.w s.heap.objs.size [(k, a)])) := fun b xs e' => by
    rw [upd_ne (ne_of e' e kdO_tup)]
    exact e'
  exact ⟨.ref s.heap.objs.size, _, J, rfl, q2 _ ⟨⟨[(k, a)], rfl, upd_same, fun e he => by
    have e' : e = (k, a) := by simpa using he
    subst e'
    exact da.on ts⟩, nm, by simp, fun z hz => by
      have e' : z = k := by simpa using hz
      rw [e']
      exact dk, by rw [sizeLine_eq]; show 1 < 16777216; decide⟩ fun b hb => upd_ne hb⟩

/-! ### max -/
theorem vals3 {x y z : V} {us : List Value} (r : Vals [x, y, z] us) : ∃ u v t, us = [u, v, t] ∧ RelV x u ∧ RelV y v ∧ RelV z t := by
  cases r with
  | cons a r =>
    cases r with
    | cons b r =>
      cases r with
      | cons c r =>
        cases r
        exact ⟨_, _, _, rfl, a, b, c⟩
theorem call_max3 {X : Cx} (hc : X.calm = true) : CallR X (.builtin "max") (fun xs H Q => ∃ i j k, xs = [.int i, .int j, .int k] ∧ Q (.int (max (max i j) k)) H) := by
  intro pins s σ H xs us Q I r h
  obtain ⟨i, j, k, rfl, q⟩ := h
  obtain ⟨u, v, z, rfl, ⟨t, rfl⟩, ⟨t', rfl⟩, ⟨t'', rfl⟩⟩ := vals3 r
  refine max_three_ints (I.ok.hd hc) fun h' tk hk => ⟨_, H, I.kept hk, ?_, q⟩
  by_cases h1 : j > i
  · rw [if_pos h1]
    by_cases h2 : k > j
    · rw [if_pos h2]
      exact ⟨_, congrArg (fun n => Value.int n t'') (show k = max (max i j) k by omega)⟩
    · rw [if_neg h2]
      exact ⟨_, congrArg (fun n => Value.int n t') (show j = max (max i j) k by omega)⟩
  · rw [if_neg h1]
    by_cases h2 : k > i
    · rw [if_pos h2]
      exact ⟨_, congrArg (fun n => Value.int n t'') (show k = max (max i j) k by omega)⟩
    · rw [if_neg h2]
      exact ⟨_, congrArg (fun n => Value.int n t) (show i = max (max i j) k by omega)⟩
section
variable {prog : Program} {w : World} {A : Around} {E : Value → Shared → Prop} {s : Shared}
theorem call_max_twoH {a b : Value} {Q : Value → Shared → Prop}
    (h : wpAny (model prog w) A.in1 (pyIter (.ref s.heap.objs.size)) (fun it s₂ => ∃ I fp wr G n P St H bt, it = .ref I ∧ WalksS prog w A.in1 I fp wr G n P St ∧ St 0 s₂ ∧ (∀ b ∈ fp, b < s₂.heap.objs.size) ∧ 0 < n ∧
      (∀ b o, H.get? b = some o → b ∉ wr) ∧ (∀ b o, H.get? b = some o → s₂.heap.get? b = some o) ∧ CmpIn prog w A.in1 .Gt H P bt ∧ ∀ v s', P (argBest bt (n - 1)) v → Moved wr G s₂ s' → Q v s') E
      { s with heap := s.heap.push { cls := .type "tuple", data := .seq #[a, b] } }) :
    wpAny (model prog w) A (call (.builtin "max") [a, b]) Q E s := by
  have hname : (toString "max" ++ toString ".loop" : String) = "max.loop" := by decide
  refine call_function_tree F.kind_max F.plain_max F.entry_max (F.args_max2 _ _) ?_
  show wpAny _ A.in1 (Builtin.Builtins.bindParams "max" ["key", "default"] 0 ⟨[], []⟩ >>= _) _ _ s
  refine wpAny_bind (wpAny_of_eq (show Builtin.Builtins.bindParams "max" ["key", "default"] 0 ⟨[], []⟩ = pure [none, none] from rfl) ?_)
  show wpAny _ A.in1 (newTuple [a, b] >>= _) _ _ s
  refine wpAny_bind (wpAny_newObj_type ?_)
  refine wpAny_bind (wpAny_mono h (fun it s₂ h₂ => ?_) fun _ _ e => e)
  obtain ⟨I, fp, wr, G, n, P, St, H, bt, rfl, W, hst, hfp, hn, hw, hkeep, hcmp, hQ⟩ := h₂
  refine wpAny_bind (wpAny_newObj_type ?_)
  have hSf : s₂.heap.objs.size ∉ fp := fun hm => Nat.lt_irrefl _ (hfp _ hm)
  rw [hname]
  refine wpAny_pure ⟨plainId_quiet F.plain_max_loop _, codeAny_max_loop_firstH W H hw bt hcmp s₂.heap.objs.size hSf (fresh_in hkeep) _ hn (fun b o e => Heap.get?_push_of_some _ (hkeep b o e)) (W.frame 0 s₂ _ s₂.toks hst (Nat.le_refl _) fun b _ o e => Heap.get?_push_of_some _ e) (Heap.get?_push_size _ rfl) fun v s' hP hm => ?_⟩
  exact hQ v s' hP (Moved.drop_new (tk := s₂.toks) hm (Nat.le_refl _))
/-- max of two pairs of whole numbers -/
theorem max_pairs {a b : Addr} {x1 y1 x2 y2 : Int} {as bs : List Addr} {Q : Value → Shared → Prop} (hh : A.handled = none) (hu : A.units + 2 < cLine)
    (ra : Reads s.heap (.ref a) (.tuple [.int x1, .int y1]) as) (rb : Reads s.heap (.ref b) (.tuple [.int x2, .int y2]) bs)
    (h : ∀ h' tk, (∀ d o, s.heap.get? d = some o → h'.get? d = some o) → Q (if x1 < x2 ∨ (x1 = x2 ∧ y1 < y2) then .ref b else .ref a) { s with heap := h', toks := tk }) :
    wpAny (model prog w) A (call (.builtin "max") [.ref a, .ref b]) Q E s := by
  have kp : ∀ d o, s.heap.get? d = some o → (s.heap.push { cls := .type "tuple", data := .seq #[.ref a, .ref b] }).get? d = some o := fun d o e => Heap.get?_push_of_some _ e
  have hT : (s.heap.push { cls := .type "tuple", data := .seq #[.ref a, .ref b] }).IsTuple s.heap.objs.size #[.ref a, .ref b] := ⟨_, Heap.get?_push_size _ rfl, rfl, 0, rfl⟩
  refine call_max_twoH (iter_tupleW (A := A.in1) hh hT fun s₂ e W st hfp hw hk => ?_)
  have hr : ReadsAll (s.heap.push { cls := .type "tuple", data := .seq #[.ref a, .ref b] }) (#[.ref a, .ref b] : Array Value).toList [.tuple [.int x1, .int y1], .tuple [.int x2, .int y2]] (as ++ (bs ++ [])) :=
    .cons (reads_keeps kp ra) (.cons (reads_keeps kp rb) .nil)
  have hal : AlikeAll [PyData.tuple [.int x1, .int y1], .tuple [.int x2, .int y2]] := by
    refine ⟨fun x hx y hy => ?_, fun x hx => ?_⟩
    · rcases List.mem_cons.mp hx with rfl | hx
      · rcases List.mem_cons.mp hy with rfl | hy
        · simp [alike, alikeAll]
        · rcases List.mem_cons.mp hy with rfl | hy
          · simp [alike, alikeAll]
          · cases hy
      · rcases List.mem_cons.mp hx with rfl | hx
        · rcases List.mem_cons.mp hy with rfl | hy
          · simp [alike, alikeAll]
          · rcases List.mem_cons.mp hy with rfl | hy
            · simp [alike, alikeAll]
            · cases hy
        · cases hx
    · rcases List.mem_cons.mp hx with rfl | hx
      · intro z; cases z
      · rcases List.mem_cons.mp hx with rfl | hx
        · intro z; cases z
        · cases hx
  have hdp : PyData.depthAll [PyData.tuple [.int x1, .int y1], .tuple [.int x2, .int y2]] = 1 := by simp [PyData.depthAll, PyData.depth]
  refine ⟨_, _, _, _, _, _, _, _, _, rfl, W, st, hfp, Nat.zero_lt_succ 1, hw, hk, cmpIn_gt (s := { s with heap := s.heap.push { cls := .type "tuple", data := .seq #[.ref a, .ref b] } }) (A := A.in1) hr hal (by rw [hdp]; show A.units + 1 + 1 < _; omega), fun v s' hP m => ?_⟩
  obtain ⟨h', tk, rfl, hk'⟩ := moved_old e rfl m
  have hq := h h' tk fun d o e => hk' d o (kp d o e)
  have e1 : dataLt (([PyData.tuple [.int x1, .int y1], .tuple [.int x2, .int y2]] : List PyData).getD 0 .none) (([PyData.tuple [.int x1, .int y1], .tuple [.int x2, .int y2]] : List PyData).getD 1 .none) = decide (x1 < x2 ∨ (x1 = x2 ∧ y1 < y2)) := PySem.W.dataLt_ii x1 y1 x2 y2
  have ev : v = if x1 < x2 ∨ (x1 = x2 ∧ y1 < y2) then Value.ref b else Value.ref a := by
    have hP' : (#[.ref a, .ref b] : Array Value)[argBest (fun i j => dataLt (([PyData.tuple [.int x1, .int y1], .tuple [.int x2, .int y2]] : List PyData).getD j .none) (([PyData.tuple [.int x1, .int y1], .tuple [.int x2, .int y2]] : List PyData).getD i .none)) 1]? = some v := hP
    by_cases c : x1 < x2 ∨ (x1 = x2 ∧ y1 < y2)
    · rw [if_pos c]
      rw [decide_eq_true c] at e1
      have e2 : argBest (fun i j => dataLt (([PyData.tuple [.int x1, .int y1], .tuple [.int x2, .int y2]] : List PyData).getD j .none) (([PyData.tuple [.int x1, .int y1], .tuple [.int x2, .int y2]] : List PyData).getD i .none)) 1 = 1 := if_pos e1
      rw [e2] at hP'
      exact (Option.some.inj hP').symm
    · rw [if_neg c]
      rw [decide_eq_false c] at e1
      have e2 : argBest (fun i j => dataLt (([PyData.tuple [.int x1, .int y1], .tuple [.int x2, .int y2]] : List PyData).getD j .none) (([PyData.tuple [.int x1, .int y1], .tuple [.int x2, .int y2]] : List PyData).getD i .none)) 1 = 0 := if_neg fun z => absurd (e1.symm.trans z) Bool.false_ne_true
      rw [e2] at hP'
      exact (Option.some.inj hP').symm
  rw [ev]
  exact hq
end
section
variable {X : Cx}
theorem reads_pair {P : Program} {w : World} {H : Hp} {h : Heap} (ok : HOk P w H h) {a : Addr} {x y : Int} (e : Dt H (.tup [.num x, .num y]) (.ref a)) : ∃ as, Reads h (.ref a) (.tuple [.int x, .int y]) as := by
  obtain ⟨a', vs, ea, ha, hd⟩ := e.tup_inv
  cases ea
  obtain ⟨v1, r1, rfl, d1, q1⟩ := hd.cons_inv
  obtain ⟨v2, r2, rfl, d2, q2⟩ := q1.cons_inv
  cases q2.nil_inv
  cases d1.num_inv
  cases d2.num_inv
  have x : ObjOk P w H h a (.tup [V.int x, V.int y]) := ok a _ ha
  obtain ⟨_, its, rv, o, ho, hc, n, hdat⟩ := x
  cases rv with
  | cons q r =>
    cases r with
    | cons q2 r =>
      cases r
      obtain ⟨t, rfl⟩ := q
      obtain ⟨t2, rfl⟩ := q2
      exact ⟨_, .tuple ho hc hdat (.cons (.int _ _) (.cons (.int _ _) .nil))⟩
/-- max of two places -/
def rMaxP : List V → Hp → VK → Prop := fun xs H Q => ∃ (a b : Addr) (x1 y1 x2 y2 : Int), xs = [.ref a, .ref b] ∧ Dt H (.tup [.num x1, .num y1]) (.ref a) ∧ Dt H (.tup [.num x2, .num y2]) (.ref b) ∧ Q (if x1 < x2 ∨ (x1 = x2 ∧ y1 < y2) then .ref b else .ref a) H
theorem call_maxP (hc : X.calm = true) (hu : X.A.units + 2 < cLine) : CallR X (.builtin "max") rMaxP := by
  intro pins s σ H xs us Q I r h
  obtain ⟨a, b, x1, y1, x2, y2, rfl, da, db, q⟩ := h
  obtain ⟨u, w', rfl, ra, rb⟩ := vals2 r
  obtain rfl : u = .ref a := ra
  obtain rfl : w' = .ref b := rb
  obtain ⟨as, r1⟩ := reads_pair I.hok da
  obtain ⟨bs, r2⟩ := reads_pair I.hok db
  refine max_pairs (I.ok.hd hc) hu r1 r2 fun h' tk k => ⟨_, H, I.kept k, ?_, q⟩
  by_cases c : x1 < x2 ∨ (x1 = x2 ∧ y1 < y2)
  · rw [if_pos c, if_pos c]; rfl
  · rw [if_neg c, if_neg c]; rfl
/-- max of a tuple of two whole numbers -/
def rMaxT2 : List V → Hp → VK → Prop := fun xs H Q => ∃ (a : Addr) (x y : Int), xs = [.ref a] ∧ Dt H (.tup [.num x, .num y]) (.ref a) ∧ Q (.int (max x y)) H
theorem call_maxT2 (hc : X.calm = true) (hu : X.A.units + 2 < cLine) : CallR X (.builtin "max") rMaxT2 := by
  intro pins s σ H xs us Q I r h
  obtain ⟨a, x, y, rfl, da, q⟩ := h
  obtain ⟨u, rfl, ra⟩ := vals1 r
  obtain rfl : u = .ref a := ra
  obtain ⟨as, r1⟩ := reads_pair I.hok da
  cases r1 with
  | tuple ho hcl hd hr =>
    refine PySem.W.max_tuple_data (I.ok.hd hc) (⟨_, ho, hcl, _, hd⟩) hr ⟨fun z hz w' hw => ?_, fun z hz => ?_⟩ (by simp [PyData.depthAll, PyData.depth]; omega) fun i v h' tk bs hv rv k => ?_
    · rcases List.mem_cons.mp hz with rfl | hz
      · rcases List.mem_cons.mp hw with rfl | hw
        · simp [alike]
        · rcases List.mem_cons.mp hw with rfl | hw
          · simp [alike]
          · cases hw
      · rcases List.mem_cons.mp hz with rfl | hz
        · rcases List.mem_cons.mp hw with rfl | hw
          · simp [alike]
          · rcases List.mem_cons.mp hw with rfl | hw
            · simp [alike]
            · cases hw
        · cases hz
    · rcases List.mem_cons.mp hz with rfl | hz
      · intro z; cases z
      · rcases List.mem_cons.mp hz with rfl | hz
        · intro z; cases z
        · cases hz
    · have e : PySem.W.maxD (.int x) [.int y] = .int (max x y) := PySem.W.maxD_ints x [y]
      rw [e] at rv
      cases rv with
      | int i t => exact ⟨.int _, H, I.kept k, ⟨t, rfl⟩, q⟩
end

/-! ### t * 1: the tuple itself -/
theorem tuple_mul1 (l : Addr) (items : Array Value) (n : Nat) (u : Tok) :
    Meets (Builtin.«tuple.__mul__» ⟨[.ref l, .int 1 u], []⟩) (fun _ R s => (∃ o, s.heap.get? l = some o ∧ o.cls = .type "tuple" ∧ o.data = .seq items n) ∧ R (.ok (.ret (Value.ref l))) s) :=
  .of_wp fun prog w A R s h => by
    obtain ⟨hp, g, d, tk, os⟩ := s
    obtain ⟨⟨⟨cls, dd, data, sl⟩, hl, hc, hd⟩, h⟩ := h
    simp only at hc hd
    subst hc hd
    have f1 := AutoSeq1.idx_int
    have c1 : (items.isEmpty || (1 : Int) == 1) = true := by simp
    wp_walk using wpAny_loadPart' hl
    repeat (first
      | (refine wpAny_ite_true (decide_eq_true c1) ?_; wp_walk using wpAny_loadPart' hl))
    exact ⟨_, rfl, h⟩
end K87
end
section
set_option Elab.async false
set_option linter.all false
set_option maxRecDepth 100000
set_option maxHeartbeats 4000000
/-! K87Kit3: an own base class's __init__ called by name; except (A, B); t * 1. -/
namespace K87
open PySem PySem.Spec L2
open PyProof.Rows hiding St

/-! ### t * 1 -/
def rRep1 (K : PySem.W.Frag) : R2 := fun x y H Q => ∃ l xs, x = .ref l ∧ y = .int 1 ∧ SqT K H l xs ∧ Q (.ref l) H
theorem op_rep1 {X : Cx} : OpR X (binaryOp .Mult) (rRep1 X.K) := by
  intro pins s σ H x y v u Q I rx ry h
  obtain ⟨l, xs, rfl, rfl, hT, q⟩ := h
  cases rx
  obtain ⟨t, rfl⟩ := ry
  obtain ⟨its, r, ⟨⟨cls, dd, data, sl⟩, ho, hc, n, hd⟩, hs⟩ := I.tuple hT
  simp only at hc hd
  subst hc hd
  refine wpAny_binaryOp_repeat_ref (T := "tuple") (U := "int") (by decide) ⟨_, ho, rfl⟩ (fun s' => typeIs_int s' 1 t) noFill_tuple_mul F.fills_int_mul F.slot_int_rmul repeat_tuple F.slot_int_index.lookup
    (call_meets F.slot_int_rmul (typeIs_int s 1 t) F.entry_int_rmul (F.args_int_rmul_2 _ _) (int_rmul_tuple 1 t l its.toArray n dd sl)
      ⟨ho, rfl, ⟨_, ho, rfl⟩, call_meets F.slot_tuple_mul ⟨_, ho, rfl⟩ F.entry_tuple_mul (F.args_tuple_mul_2 _ _) (tuple_mul1 l its.toArray n t) ⟨⟨_, ho, rfl, rfl⟩, ?_⟩⟩)
  exact ⟨.ref l, H, I, rfl, q⟩

/-! ### Base.__init__(self, ..), Base an own class that inherits it -/
theorem pe_ownInit {X : Cx} {x : Str} {C0 : Addr} {mc : Value} {e : Expr} {es : List Expr} {ta : TA} {p1 p2 pos : Pos} {pl : Sem Bool} (hg : Gl X x) (hm : X.mg x = some (.ref C0)) (r : ClX.CRead X.K C0 mc)
    (vV : PySem.W.findCls X.K (.ref C0) mc "__init__" = some (.val (.builtin "ValueError.__init__"))) (ha : PA X (e :: es) ta)
    (hc : eval (.Call (.Attribute (.Name x p1) "__init__" p2) (e :: es) [] pos) X.env = (do
      let ov ← eval (.Name x p1) X.env
      standAt p2.atName
      let (f, first) ← holding [ov] (getMethod ov "__init__" pl)
      callWith pos f first (backTo pos (starEach (e :: es) X.env)) (backToKw pos (keywordEach [] X.env))) := by rfl)
    (he : starEach (e :: es) X.env = (false, eval e X.env) :: starEach es X.env := by rfl) (hpl : (backTo pos (starEach es X.env)).any (·.1) = false := by rfl)
    (hd : (x == ("__debug__" : Str)) = false := by decide) :
    PE X (.Call (.Attribute (.Name x p1) "__init__" p2) (e :: es) [] pos) (tVeI X.K ta) := by
  refine ⟨fun pins s σ H Q I h => ?_⟩
  refine PySem.W.methodCall_KW (ld_glob I hg hm ?_ hd) hc
  refine PySem.W.method_cls I.kIn r.ga (PySem.W.cls_value I.kIn r.rd vV (by decide +kernel) ?_)
  show wpAny _ _ (callWith pos (Value.builtin "ValueError.__init__") [] (backTo pos (starEach (e :: es) X.env)) []) _ _ _
  refine PyProof.Rows.callWith_method1 (thn (ha.run pos pins _ σ H _ (I.tok _) h) fun us s1 ⟨vs, H1, I1, r1, a, C, ws, ev, hl, T, ea, q⟩ => ?_) he hpl
  subst ev
  cases r1 with
  | @cons _ u0 _ ur ra rw' =>
    obtain rfl : u0 = Value.ref a := ra
    have hlen : ur.length ≤ sizeLine := by
      rw [← Paired.length rw', sizeLine_eq]
      omega
    exact oinit_ok T I1 ea hlen fun s' J => ⟨.non, H1, J, rfl, q⟩

/-! ### except (A, B): suite -/
theorem flying_kept {base h h' : Heap} {l : List Env} {e : Addr} {Z : Obj → Prop} (x : HandSPX.FlyingZ base l e Z h) (k : ∀ b o, h.get? b = some o → h'.get? b = some o) : HandSPX.FlyingZ base l e Z h' := by
  obtain ⟨a, b, c, oe, vs, T, oT, ts, h1, h2, h3, h4, h5, h6, h7, h8, h9⟩ := x
  exact ⟨fun q o z => k q o (a q o z), b, Heap.FunFrames.of_keeps (fun q o z _ => ⟨o, k q o z, rfl⟩) c, oe, vs, T, oT, ts, k _ _ h1, h2, h3, h4, h5, h6, k _ _ h7, h8, h9⟩
/-- what the clause 'except (x1, x2)' wishes of an exception of the body -/
def wTup2 (K : PySem.W.Frag) (c1 c2 : Value) (ts : Addr → Value → Option Addr → TS) (D : Ends) : WX := fun cls d σ H =>
  PySem.W.exmAny K cls [c1, c2] = some true ∧ ∀ a, H a = none → ts a cls d D σ H
section
variable {X : Cx} {x1 x2 : Str} {c1 c2 : Value} {v1 v2 : V} {body suite : List Stmt} {b₀ : Stmt} {np1 np2 tp pos pos' : Pos} {kk : Nat} {tb : WX → TS} {ts : Addr → Value → Option Addr → TS}
theorem ps_try_tup2 (hs : X.stack = X.env :: X.outer) (hf : X.env.frame = some X.env.locals) (hc1 : Gl X x1 ∧ X.mg x1 = some c1 ∧ (x1 == ("__debug__" : Str)) = false) (hc2 : Gl X x2 ∧ X.mg x2 = some c2 ∧ (x2 == ("__debug__" : Str)) = false) (r1 : RelV v1 c1) (r2 : RelV v2 c2)
    (hb : ∀ (W : WX) (pn : List (Addr × Obj)) (xe : Value → Shared → Prop), Takes (X.tr pn xe) W → PassesOwn (model X.prog X.w) X.A X.env xe → PSs (X.tr pn xe) body (tb W))
    (hsu : ∀ (a : Addr) (oe : Obj) (cls : Value) (d : Option Addr) (pn : List (Addr × Obj)), Zc cls d oe → (∃ vs, oe.data = .fields vs) → PSs (X.suite a ((a, oe) :: pn)) (b₀ :: suite) (ts a cls d)) :
    PS X (.Try body [.ExceptHandler (some (.Tuple [.Name x1 np1, .Name x2 np2] kk tp)) none (b₀ :: suite) pos'] [] [] pos) (fun D σ H => tb (wTup2 X.K c1 c2 ts D) D σ H) := by
  refine ⟨fun pins s σ H D I h => ?_⟩
  have ok := I.ok
  have hfr : X.A.frames = some (X.env :: X.outer) := by rw [ok.frames, hs]
  refine wpAny_Try_except ?_
  refine wpAny_mono ((hb (wTup2 X.K c1 c2 ts D) (X.pn ++ pins) (fun e s₁ => wpAny (model X.prog X.w) X.A (noteFrame e X.env) (fun _ s₂ => wpAny (model X.prog X.w) X.A (setFlight e none) (fun _ s₃ =>
    wpAny (model X.prog X.w) X.A (handleBy e X.env [.ExceptHandler (some (.Tuple [.Name x1 np1, .Name x2 np2] kk tp)) none (b₀ :: suite) pos']) (SP X pins D) X.xe s₃) X.xe s₂) X.xe s₁) (fun u s' xx => ?_) PassesOwn.looking).run [] s σ H D (I.toTry _) h) (fun f s1 hsp => ?_) (fun e s1 he => he)
  · -- the catch
    obtain ⟨a, B, sI, pins', σ', H', cls, d, rfl, J', nb, up, sky, na, os, ag, hx, hyes⟩ := xx
    have J : L2.Inv X pins σ' H' sI := J'.ofTry ok
    have sky' : Sky B (X.env :: X.outer) a (Zc cls d) X.env.locals s'.heap := by rw [← hs]; exact sky
    show wpAny (model X.prog X.w) X.A (noteFrame (.ref a) X.env) _ _ _
    refine Sky.land Zc.steady hfr hf sky' fun h3 fl3 up3 => ?_
    have J3 : L2.Inv X pins σ' H' { s' with heap := h3 } := J.landed nb fl3.1 (up.trans up3) os ag
    obtain ⟨oe3, vs3, he3, hz3, hd3⟩ := fl3.there
    have notFr : ∀ {h : Heap} {o : Obj} {vs : Array Value}, h.FunFrames B (X.env :: X.outer) → h.get? a = some o → o.data = .fields vs → a ∉ frs (X.env :: X.outer) := fun {h o vs} ff e dd hm => by
      obtain ⟨_, o', e', hnf⟩ := ff.mem hm
      rw [e] at e'; cases e'
      exact hnf _ dd
    have nfr := notFr fl3.2.2.1 he3 hd3
    have nL : a ≠ X.env.locals := fun z => nfr (List.mem_filterMap.mpr ⟨X.env, List.mem_cons_self, by rw [hf, z]⟩)
    have nF : a ∉ X.fs := fun hm => by
      obtain ⟨e, he, q⟩ := List.mem_filterMap.mp hm
      exact nfr (List.mem_filterMap.mpr ⟨e, List.mem_cons_of_mem _ he, q⟩)
    have S3 := J3.suite he3 hd3 na nL nF
    refine wpAny_handleBy_cons (codeAny_handlers_test ?_) (by intro q; cases q)
    have g1 : PE (X.suite a ((a, oe3) :: (X.pn ++ pins))) (.Name x1 np1) (tC v1) := pe_glob hc1.1 hc1.2.1 r1 hc1.2.2
    have g2 : PE (X.suite a ((a, oe3) :: (X.pn ++ pins))) (.Name x2 np2) (tC v2) := pe_glob hc2.1 hc2.2.1 r2 hc2.2.2
    have hpa : PA (X.suite a ((a, oe3) :: (X.pn ++ pins))) [.Name x1 np1, .Name x2 np2] (tCons (tC v1) (tCons (tC v2) tNil)) := pa_cons g1 (pa_cons g2 pa_nil)
    refine wpAny_Tuple_spliced ?_
    have e1 : ∀ {E' : Value → Shared → Prop} {Q' : Value → Shared → Prop}, Q' c1 { s' with heap := h3 } → wpAny (model X.prog X.w) (X.A.mark (some (.ref a))) (eval (.Name x1 np1) X.env) Q' E' { s' with heap := h3 } := fun {E' Q'} q =>
      ld_glob (X := X.suite a ((a, oe3) :: (X.pn ++ pins))) S3 hc1.1 hc1.2.1 q hc1.2.2
    have e2 : ∀ {E' : Value → Shared → Prop} {Q' : Value → Shared → Prop}, Q' c2 { s' with heap := h3 } → wpAny (model X.prog X.w) (X.A.mark (some (.ref a))) (eval (.Name x2 np2) X.env) Q' E' { s' with heap := h3 } := fun {E' Q'} q =>
      ld_glob (X := X.suite a ((a, oe3) :: (X.pn ++ pins))) S3 hc2.1 hc2.2.1 q hc2.2.2
    refine Calls.spliced_cons (e1 (Calls.spliced_cons (e2 (Calls.spliced_nil ⟨by rw [sizeLine_eq]; show 2 ≤ 16777216; decide, ?_⟩))))
    have kp : ∀ b o, h3.get? b = some o → (h3.push { cls := .type "tuple", data := .seq #[c1, c2] }).get? b = some o := fun b o e => Heap.get?_push_of_some _ e
    have fl3' := flying_kept fl3 kp
    have hp : (h3.push { cls := .type "tuple", data := .seq #[c1, c2] }).get? h3.objs.size = some { cls := .type "tuple", data := .seq [c1, c2].toArray } := Heap.get?_push_size _ rfl
    have LT : PySem.W.Looks (model X.prog X.w) (h3.push { cls := .type "tuple", data := .seq #[c1, c2] }) (typeOf (.ref a)) cls := fun A Q E s k q => wpAny_typeOf_ref (k _ _ (kp _ _ he3)) (by rw [hz3.1]; exact q)
    have LM := PySem.W.exm_tup2 (M := model X.prog X.w) (J3.kIn.keeps kp) LT hp hx
    refine LM.here ?_
    refine codeAny_handlers_suite ?_
    refine HandSPX.lands_againZ fl3' fun h4 fl4 up4 => ?_
    have up3' : h3.UpToSlots (h3.push { cls := .type "tuple", data := .seq #[c1, c2] }) := Heap.UpToSlots.of_keeps kp
    have J4 : L2.Inv X pins σ' H' { s' with heap := h4 } := J.landed nb fl4.1 (((up.trans up3).trans up3').trans up4) os ag
    obtain ⟨oe4, vs4, he4, hz4, hd4⟩ := fl4.there
    have S4 := J4.suite he4 hd4 na nL nF
    refine wpAny_mono ((hsu a oe4 cls d (X.pn ++ pins) hz4 ⟨_, hd4⟩).run [] _ _ H' _ S4 (hyes a na)) (fun f s6 hsp => ?_) (fun _ _ z => False.elim z)
    cases f with
    | next =>
      obtain ⟨σ6, H6, S6, q6⟩ := hsp
      exact ⟨_, _, S6.unsuite ok, q6⟩
    | brk =>
      obtain ⟨σ6, H6, S6, q6⟩ := hsp
      exact ⟨_, _, S6.unsuite ok, q6⟩
    | cont =>
      obtain ⟨σ6, H6, S6, q6⟩ := hsp
      exact ⟨_, _, S6.unsuite ok, q6⟩
    | ret u =>
      obtain ⟨v6, σ6, H6, S6, r6, q6⟩ := hsp
      exact ⟨_, _, _, S6.unsuite ok, r6, q6⟩
  · cases f with
    | next =>
      obtain ⟨σ', H', J', q⟩ := hsp
      exact wpAny_execs_nil ⟨σ', H', J'.ofTry ok, q⟩
    | brk =>
      obtain ⟨σ', H', J', q⟩ := hsp
      exact ⟨σ', H', J'.ofTry ok, q⟩
    | cont =>
      obtain ⟨σ', H', J', q⟩ := hsp
      exact ⟨σ', H', J'.ofTry ok, q⟩
    | ret u =>
      obtain ⟨v, σ', H', J', r, q⟩ := hsp
      exact ⟨v, σ', H', J'.ofTry ok, r, q⟩
end
end K87
end
section
set_option Elab.async false
set_option linter.all false
set_option maxRecDepth 100000
set_option maxHeartbeats 4000000
/-! K87Enc: how places, areas, notes, states and deeds stand in Python's memory. -/
namespace K87
open PySem PySem.Spec L2
open PyProof.Rows hiding St

def eO (o : Option Int) : Dat := match o with | none => .none | some i => .num i
def ePl (p : Pl) : Dat := .tup [.num p.1, .num p.2]
def ePlO (o : Option Pl) : Dat := match o with | none => .none | some p => ePl p
def eAr (a : Ar) : Dat := .tup [.num a.1, .num a.2.1, .num a.2.2]
def eArO (o : Option Ar) : Dat := match o with | none => .none | some a => eAr a
def eNote (h : Hd) : Dat := .tup [.num h.grant, eArO h.area, .num h.held, .num h.heard]
def eMarks (l : List Int) : Dat := .tup (l.map .num)
def eGiven (l : List (Option Int)) : Dat := .tup (l.map eO)
def eS (s : S) : Dat := .tup [ePlO s.hd.place, eNote s.hd, .num s.hd.most, eMarks s.marks, .num s.bound, eGiven s.given]
def eD (d : Deed) : Dat := match d with
  | .take g => .tup [.text "take", .num g]
  | .write r => .tup [.text "write", .num r]
  | .make r => .tup [.text "make", .num r]
  | .hear b => .tup [.text "hear", .num b]
  | .back => .tup [.text "back"]
  | .fall => .tup [.text "fall"]
  | .rise => .tup [.text "rise"]

/-! ### they are told apart -/
theorem eO_inj {a b : Option Int} (h : eO a = eO b) : a = b := by
  cases a with
  | none =>
    cases b with
    | none => rfl
    | some j => exact absurd h (by intro z; cases z)
  | some i =>
    cases b with
    | none => exact absurd h (by intro z; cases z)
    | some j =>
      have h : NestedKey.num i = .num j := h
      injection h with h
      rw [h]
theorem ePl_inj {a b : Pl} (h : ePl a = ePl b) : a = b := by
  obtain ⟨a1, a2⟩ := a
  obtain ⟨b1, b2⟩ := b
  have h : NestedKey.tup [.num a1, .num a2] = .tup [.num b1, .num b2] := h
  simp only [NestedKey.tup.injEq, List.cons.injEq, NestedKey.num.injEq] at h
  rw [h.1, h.2.1]
theorem ePlO_inj {a b : Option Pl} (h : ePlO a = ePlO b) : a = b := by
  cases a with
  | none =>
    cases b with
    | none => rfl
    | some j => exact absurd h (by intro z; cases z)
  | some i =>
    cases b with
    | none => exact absurd h (by intro z; cases z)
    | some j => rw [ePl_inj h]
theorem eArO_inj {a b : Option Ar} (h : eArO a = eArO b) : a = b := by
  cases a with
  | none =>
    cases b with
    | none => rfl
    | some j => exact absurd h (by intro z; cases z)
  | some i =>
    cases b with
    | none => exact absurd h (by intro z; cases z)
    | some j =>
      obtain ⟨a1, a2, a3⟩ := i
      obtain ⟨b1, b2, b3⟩ := j
      have h : NestedKey.tup [.num a1, .num a2, .num a3] = .tup [.num b1, .num b2, .num b3] := h
      simp only [NestedKey.tup.injEq, List.cons.injEq, NestedKey.num.injEq] at h
      rw [h.1, h.2.1, h.2.2.1]
theorem map_inj {α : Type} {f : α → Dat} (hf : ∀ a b, f a = f b → a = b) : ∀ {l m : List α}, l.map f = m.map f → l = m
  | [], [], _ => rfl
  | [], _ :: _, h => by simp at h
  | _ :: _, [], h => by simp at h
  | a :: l, b :: m, h => by
    simp only [List.map_cons, List.cons.injEq] at h
    rw [hf _ _ h.1, map_inj hf h.2]
theorem eS_inj {a b : S} (h : eS a = eS b) : a = b := by
  obtain ⟨⟨p1, g1, r1, d1, e1, m1⟩, k1, o1, v1⟩ := a
  obtain ⟨⟨p2, g2, r2, d2, e2, m2⟩, k2, o2, v2⟩ := b
  unfold eS eNote eMarks eGiven at h
  simp only [NestedKey.tup.injEq, List.cons.injEq, NestedKey.num.injEq, and_true] at h
  obtain ⟨h1, ⟨h2, h3, h4, h5⟩, h6, h7, h8, h9⟩ := h
  have e1 := ePlO_inj h1
  have e3 := eArO_inj h3
  have e7 := map_inj (f := NestedKey.num) (fun a b z => by injection z) h7
  have e9 := map_inj (f := eO) (fun a b z => eO_inj z) h9
  rw [e1, h2, e3, h4, h5, h6, e7, h8, e9]
theorem eS_iff {a b : S} : (eS a = eS b) ↔ a = b := ⟨eS_inj, fun h => by rw [h]⟩

/-! ### they are flat enough -/
theorem okTs_nums : ∀ l : List Int, okTs (l.map NestedKey.num) = true
  | [] => rfl
  | _ :: l => by simp [okTs, okT, okTs_nums l]
theorem okT_O (o : Option Int) : okT (eO o) = true := by cases o <;> rfl
theorem okTs_Os : ∀ l : List (Option Int), okTs (l.map eO) = true
  | [] => rfl
  | o :: l => by simp [okTs, okT_O, okTs_Os l]
theorem depth_nums : ∀ l : List Int, NestedKey.depthAll (l.map NestedKey.num) = 0
  | [] => rfl
  | _ :: l => by simp [NestedKey.depthAll, NestedKey.depth, depth_nums l]
theorem depth_O (o : Option Int) : NestedKey.depth (eO o) = 0 := by cases o <;> rfl
theorem depth_Os : ∀ l : List (Option Int), NestedKey.depthAll (l.map eO) = 0
  | [] => rfl
  | o :: l => by simp [NestedKey.depthAll, depth_O, depth_Os l]
theorem okT_S (s : S) : okT (eS s) = true := by
  have h1 : okT (ePlO s.hd.place) = true := by cases s.hd.place <;> rfl
  have h2 : okT (eArO s.hd.area) = true := by cases s.hd.area <;> rfl
  simp [eS, eNote, eMarks, eGiven, okT, okTs, h1, h2, okTs_nums, okTs_Os]
theorem depth_S (s : S) : (eS s).depth ≤ 3 := by
  have h1 : NestedKey.depth (ePlO s.hd.place) ≤ 1 := by cases s.hd.place <;> simp [ePlO, ePl, NestedKey.depth, NestedKey.depthAll]
  have h2 : NestedKey.depth (eArO s.hd.area) ≤ 1 := by cases s.hd.area <;> simp [eArO, eAr, NestedKey.depth, NestedKey.depthAll]
  simp only [eS, eNote, eMarks, eGiven, NestedKey.depth, NestedKey.depthAll, depth_nums, depth_Os]
  omega
theorem okT_D (d : Deed) : okT (eD d) = true := by
  cases d <;> (show (PyData.canLay0 _ && _) = true; rw [Bool.and_eq_true]; exact ⟨by decide +kernel, rfl⟩)
theorem depth_D (d : Deed) : (eD d).depth ≤ 1 := by
  cases d <;> simp [eD, NestedKey.depth, NestedKey.depthAll]
/-- a deed's word -/
def Deed.word : Deed → Str
  | .take _ => "take"
  | .write _ => "write"
  | .make _ => "make"
  | .hear _ => "hear"
  | .back => "back"
  | .fall => "fall"
  | .rise => "rise"
def W4.str : W4 → Str
  | .twice => "twice"
  | .fallen => "fallen"
  | .astray => "astray"
  | .below => "below"

/-! ### heaps -/
theorem same_new {H : Hp} {p : Addr} {o : HO} (h : H p = none) : Same H (upd H p o) := fun b u e => by
  rw [upd_ne (ne_of_none e h)]
  exact e
/-- all that was tracked is as it was, but at the places of l -/
def SameBut (l : List Addr) (H H' : Hp) : Prop := ∀ b o, H b = some o → b ∉ l → H' b = some o
theorem SameBut.of {l : List Addr} {H H' : Hp} (h : Same H H') : SameBut l H H' := fun b o e _ => h b o e
theorem SameBut.trans {l : List Addr} {H H1 H2 : Hp} (a : SameBut l H H1) (b : SameBut l H1 H2) : SameBut l H H2 := fun c o e h => b c o (a c o e h) h
theorem SameBut.put {l : List Addr} {H H1 : Hp} {p : Addr} {o : HO} (a : SameBut l H H1) (hp : p ∈ l) : SameBut l H (upd H1 p o) := fun c u e h => by
  have hc : c ≠ p := fun z => h (by rw [z]; exact hp)
  rw [upd_ne hc]
  exact a c u e h
theorem Dt.at2 {H : Hp} {k1 k2 : Dat} {v : V} (h : Dt H (.tup [k1, k2]) v) : ∃ a v1 v2, v = .ref a ∧ H a = some (.tup [v1, v2]) ∧ Dt H k1 v1 ∧ Dt H k2 v2 := by
  obtain ⟨a, vs, rfl, ha, hd⟩ := h.tup_inv
  obtain ⟨v1, r1, rfl, d1, q1⟩ := hd.cons_inv
  obtain ⟨v2, r2, rfl, d2, q2⟩ := q1.cons_inv
  cases q2.nil_inv
  exact ⟨a, v1, v2, rfl, ha, d1, d2⟩
theorem Dt.pl {H : Hp} {p : Pl} {v : V} (h : Dt H (ePl p) v) : ∃ a, v = .ref a ∧ H a = some (.tup [.int p.1, .int p.2]) := by
  obtain ⟨a, v1, v2, rfl, ha, d1, d2⟩ := Dt.at2 h
  cases d1.num_inv
  cases d2.num_inv
  exact ⟨a, rfl, ha⟩
theorem Dt.ofPl {H : Hp} {x y : Int} {a : Addr} (h : H a = some (.tup [.int x, .int y])) : Dt H (ePl (x, y)) (.ref a) := .tup h (.cons (.num _) (.cons (.num _) .nil))
theorem Dt.ar {H : Hp} {p : Ar} {v : V} (h : Dt H (eAr p) v) : ∃ a, v = .ref a ∧ H a = some (.tup [.int p.1, .int p.2.1, .int p.2.2]) := by
  obtain ⟨a, vs, rfl, ha, hd⟩ := Dt.tup_inv h
  obtain ⟨v1, r1, rfl, d1, q1⟩ := hd.cons_inv
  obtain ⟨v2, r2, rfl, d2, q2⟩ := q1.cons_inv
  obtain ⟨v3, r3, rfl, d3, q3⟩ := q2.cons_inv
  cases q3.nil_inv
  cases d1.num_inv
  cases d2.num_inv
  cases d3.num_inv
  exact ⟨a, rfl, ha⟩
theorem Dt.ofAr {H : Hp} {x y z : Int} {a : Addr} (h : H a = some (.tup [.int x, .int y, .int z])) : Dt H (eAr (x, y, z)) (.ref a) := .tup h (.cons (.num _) (.cons (.num _) (.cons (.num _) .nil)))
theorem Dt.note {H : Hp} {h : Hd} {v : V} (d : Dt H (eNote h) v) : ∃ a va, v = .ref a ∧ H a = some (.tup [.int h.grant, va, .int h.held, .int h.heard]) ∧ Dt H (eArO h.area) va := by
  obtain ⟨a, vs, rfl, ha, hd⟩ := Dt.tup_inv d
  obtain ⟨v1, r1, rfl, d1, q1⟩ := hd.cons_inv
  obtain ⟨v2, r2, rfl, d2, q2⟩ := q1.cons_inv
  obtain ⟨v3, r3, rfl, d3, q3⟩ := q2.cons_inv
  obtain ⟨v4, r4, rfl, d4, q4⟩ := q3.cons_inv
  cases q4.nil_inv
  cases d1.num_inv
  cases d3.num_inv
  cases d4.num_inv
  exact ⟨a, v2, rfl, ha, d2⟩
/-- a state's six parts -/
theorem Dt.st {H : Hp} {s : S} {v : V} (d : Dt H (eS s) v) : ∃ a v1 v2 v4 v6, v = .ref a ∧ H a = some (.tup [v1, v2, .int s.hd.most, v4, .int s.bound, v6]) ∧ Dt H (ePlO s.hd.place) v1 ∧ Dt H (eNote s.hd) v2 ∧ Dt H (eMarks s.marks) v4 ∧ Dt H (eGiven s.given) v6 := by
  obtain ⟨a, vs, rfl, ha, hd⟩ := Dt.tup_inv d
  obtain ⟨v1, r1, rfl, d1, q1⟩ := hd.cons_inv
  obtain ⟨v2, r2, rfl, d2, q2⟩ := q1.cons_inv
  obtain ⟨v3, r3, rfl, d3, q3⟩ := q2.cons_inv
  obtain ⟨v4, r4, rfl, d4, q4⟩ := q3.cons_inv
  obtain ⟨v5, r5, rfl, d5, q5⟩ := q4.cons_inv
  obtain ⟨v6, r6, rfl, d6, q6⟩ := q5.cons_inv
  cases q6.nil_inv
  cases d3.num_inv
  cases d5.num_inv
  exact ⟨a, v1, v2, v4, v6, rfl, ha, d1, d2, d4, d6⟩
theorem Dt.ofSt {H : Hp} {s : S} {a : Addr} {v1 v2 v4 v6 : V} (h : H a = some (.tup [v1, v2, .int s.hd.most, v4, .int s.bound, v6])) (d1 : Dt H (ePlO s.hd.place) v1) (d2 : Dt H (eNote s.hd) v2) (d4 : Dt H (eMarks s.marks) v4) (d6 : Dt H (eGiven s.given) v6) : Dt H (eS s) (.ref a) :=
  .tup h (.cons d1 (.cons d2 (.cons (.num _) (.cons d4 (.cons (.num _) (.cons d6 .nil))))))
theorem Dt.marks {H : Hp} {l : List Int} {v : V} (d : Dt H (eMarks l) v) : ∃ a, v = .ref a ∧ H a = some (.tup (l.map .int)) := by
  obtain ⟨a, vs, rfl, ha, hd⟩ := Dt.tup_inv d
  rw [hd.nums] at ha
  exact ⟨a, rfl, ha⟩
theorem Dt.plO_some {H : Hp} {o : Option Pl} {v : V} (d : Dt H (ePlO o) v) : (o = none ∧ v = .non) ∨ ∃ p a, o = some p ∧ v = .ref a ∧ H a = some (.tup [.int p.1, .int p.2]) := by
  cases o with
  | none => exact .inl ⟨rfl, d.non_inv⟩
  | some p =>
    obtain ⟨a, e, ha⟩ := Dt.pl d
    exact .inr ⟨p, a, rfl, e, ha⟩
theorem Dt.arO_some {H : Hp} {o : Option Ar} {v : V} (d : Dt H (eArO o) v) : (o = none ∧ v = .non) ∨ ∃ p a, o = some p ∧ v = .ref a ∧ H a = some (.tup [.int p.1, .int p.2.1, .int p.2.2]) := by
  cases o with
  | none => exact .inl ⟨rfl, d.non_inv⟩
  | some p =>
    obtain ⟨a, e, ha⟩ := Dt.ar d
    exact .inr ⟨p, a, rfl, e, ha⟩
end K87
end
section
set_option Elab.async false
set_option linter.all false
set_option maxRecDepth 100000
set_option maxHeartbeats 4000000
/-! K87Txt: the text by places, and what the walk asks of it as the top has left it. Printed by gen_txt.py. -/
namespace K87
open PySem PySem.Spec L2
open PyProof.Rows hiding St

def top (i : Nat) : Stmt := PySem.Challenge.pw_risemarks_k87_whole_words_never.main.body.getD i (.Pass ⟨0, 0, 0, 0⟩)
abbrev s_is_whole : Stmt := top 15
theorem sc_is_whole : FnScope ["thing"] ["thing"] (defScope s_is_whole) := ⟨rfl, rfl, rfl, by decide +kernel, rfl, by decide +kernel, by decide +kernel⟩
abbrev s_mark_of : Stmt := top 17
theorem sc_mark_of : FnScope ["shape", "moment", "slot", "count"] ["shape", "moment", "slot", "count"] (defScope s_mark_of) := ⟨rfl, rfl, rfl, by decide +kernel, rfl, by decide +kernel, by decide +kernel⟩
abbrev s_parts_of : Stmt := top 18
theorem sc_parts_of : FnScope ["shape", "mark", "rest", "count", "moment", "slot"] ["shape", "mark"] (defScope s_parts_of) := ⟨rfl, rfl, rfl, by decide +kernel, rfl, by decide +kernel, by decide +kernel⟩
abbrev s_worst_of : Stmt := top 22
theorem sc_worst_of : FnScope ["small", "layer", "found", "place", "state", "deed", "ahead", "one", "word"] ["small", "layer"] (defScope s_worst_of) := ⟨rfl, rfl, rfl, by decide +kernel, rfl, by decide +kernel, by decide +kernel⟩
abbrev s_next_layer : Stmt := top 23
theorem sc_next_layer : FnScope ["small", "layer", "known", "found", "place", "state", "deed", "ahead", "one", "behind"] ["small", "layer", "known"] (defScope s_next_layer) := ⟨rfl, rfl, rfl, by decide +kernel, rfl, by decide +kernel, by decide +kernel⟩
abbrev s_row_to : Stmt := top 24
theorem sc_row_to : FnScope ["layers", "place", "row", "layer", "state", "deed", "ahead"] ["layers", "place"] (defScope s_row_to) := ⟨rfl, rfl, rfl, by decide +kernel, rfl, by decide +kernel, by decide +kernel⟩
abbrev s_look : Stmt := top 25
theorem sc_look : FnScope ["small", "most", "layers", "known", "worst", "layer"] ["small", "most"] (defScope s_look) := ⟨rfl, rfl, rfl, by decide +kernel, rfl, by decide +kernel, by decide +kernel⟩
abbrev s_bound_of : Stmt := top 27
theorem sc_bound_of : FnScope ["place", "moment", "count"] ["place"] (defScope s_bound_of) := ⟨rfl, rfl, rfl, by decide +kernel, rfl, by decide +kernel, by decide +kernel⟩
abbrev s_raised : Stmt := top 28
theorem sc_raised : FnScope ["place", "bound"] ["place", "bound"] (defScope s_raised) := ⟨rfl, rfl, rfl, by decide +kernel, rfl, by decide +kernel, by decide +kernel⟩
abbrev s_next_place : Stmt := top 29
theorem sc_next_place : FnScope ["shape", "place", "moment", "count"] ["shape", "place"] (defScope s_next_place) := ⟨rfl, rfl, rfl, by decide +kernel, rfl, by decide +kernel, by decide +kernel⟩
abbrev s_moment_at : Stmt := top 30
theorem sc_moment_at : FnScope ["area", "place", "reading"] ["area", "place", "reading"] (defScope s_moment_at) := ⟨rfl, rfl, rfl, by decide +kernel, rfl, by decide +kernel, by decide +kernel⟩
abbrev s_made : Stmt := top 31
theorem sc_made : FnScope ["shape", "far", "area", "place", "reading", "moment", "count"] ["shape", "far", "area", "place", "reading"] (defScope s_made) := ⟨rfl, rfl, rfl, by decide +kernel, rfl, by decide +kernel, by decide +kernel⟩
abbrev s_read_note : Stmt := top 33
theorem sc_read_note : FnScope ["lines", "grant", "area", "held", "heard", "line"] ["lines"] (defScope s_read_note) := ⟨rfl, rfl, rfl, by decide +kernel, rfl, by decide +kernel, by decide +kernel⟩
abbrev s_greatest_taken : Stmt := top 34
theorem sc_greatest_taken : FnScope ["lines", "most", "line"] ["lines"] (defScope s_greatest_taken) := ⟨rfl, rfl, rfl, by decide +kernel, rfl, by decide +kernel, by decide +kernel⟩
abbrev s_are_rules : Stmt := top 38
theorem sc_are_rules : FnScope ["thing", "seen", "word"] ["thing"] (defScope s_are_rules) := ⟨rfl, rfl, rfl, by decide +kernel, rfl, by decide +kernel, by decide +kernel⟩
abbrev s_has_rule : Stmt := top 40
theorem sc_has_rule : FnScope ["settings", "word"] ["settings", "word"] (defScope s_has_rule) := ⟨rfl, rfl, rfl, by decide +kernel, rfl, by decide +kernel, by decide +kernel⟩
abbrev s_place_by : Stmt := top 42
theorem sc_place_by : FnScope ["lines", "grant", "area", "held", "heard"] ["lines"] (defScope s_place_by) := ⟨rfl, rfl, rfl, by decide +kernel, rfl, by decide +kernel, by decide +kernel⟩
abbrev s_law_hand : Stmt := top 47
theorem sc_law_hand : FnScope ["_law_script", "_law_k", "_law_hand_here"] ["_law_script", "_law_k"] (defScope s_law_hand) := ⟨rfl, rfl, rfl, by decide +kernel, rfl, by decide +kernel, by decide +kernel⟩
abbrev s_law_pick : Stmt := top 48
theorem sc_law_pick : FnScope ["_law_hand_here", "_law_many", "_law_found", "_law_low", "_law_by", "_law_one", "_law_two"] ["_law_hand_here", "_law_many"] (defScope s_law_pick) := ⟨rfl, rfl, rfl, by decide +kernel, rfl, by decide +kernel, by decide +kernel⟩
abbrev s_law_rules : Stmt := top 49
theorem sc_law_rules : FnScope ["_law_hand_here", "_law_rules_here", "_law_word"] ["_law_hand_here"] (defScope s_law_rules) := ⟨rfl, rfl, rfl, by decide +kernel, rfl, by decide +kernel, by decide +kernel⟩
abbrev s_law_large : Stmt := top 50
theorem sc_law_large : FnScope ["_law_hand_here", "_law_slots", "_law_counts", "_law_areas", "_law_k", "_law_slot", "_law_first", "_law_rules_here", "_law_far", "_law_room", "_law_moments", "_law_settings"] ["_law_hand_here"] (defScope s_law_large) := ⟨rfl, rfl, rfl, by decide +kernel, rfl, by decide +kernel, by decide +kernel⟩
abbrev s_law_deed : Stmt := top 51
theorem sc_law_deed : FnScope ["_law_hand_here", "_law_numbers", "_law_up", "_law_way"] ["_law_hand_here", "_law_numbers", "_law_up"] (defScope s_law_deed) := ⟨rfl, rfl, rfl, by decide +kernel, rfl, by decide +kernel, by decide +kernel⟩
abbrev s_law_asked : Stmt := top 52
theorem sc_law_asked : FnScope ["_law_hand_here", "_law_numbers", "_law_deed_here", "_law_told"] ["_law_hand_here", "_law_numbers", "_law_deed_here"] (defScope s_law_asked) := ⟨rfl, rfl, rfl, by decide +kernel, rfl, by decide +kernel, by decide +kernel⟩
abbrev s_law_forbidden : Stmt := top 53
theorem sc_law_forbidden : FnScope ["_law_rules_here", "_law_words"] ["_law_rules_here"] (defScope s_law_forbidden) := ⟨rfl, rfl, rfl, by decide +kernel, rfl, by decide +kernel, by decide +kernel⟩
abbrev s_law_mark_words : Stmt := top 54
theorem sc_law_mark_words : FnScope ["_law_numbers", "_law_mark", "_law_marks", "_law_bound", "_law_end", "_law_moment", "_law_words"] ["_law_numbers", "_law_mark", "_law_marks", "_law_bound", "_law_end"] (defScope s_law_mark_words) := ⟨rfl, rfl, rfl, by decide +kernel, rfl, by decide +kernel, by decide +kernel⟩
abbrev s_law_hand_right : Stmt := top 55
theorem sc_law_hand_right : FnScope ["_law_settings", "_law_numbers", "_law_deeds", "_law_hand_here", "_law_marks", "_law_bound", "_law_given", "_law_grant", "_law_deed_here", "_law_done", "_law_told", "_law_word"] ["_law_settings", "_law_numbers", "_law_deeds"] (defScope s_law_hand_right) := ⟨rfl, rfl, rfl, by decide +kernel, rfl, by decide +kernel, by decide +kernel⟩
abbrev s_law_world_right : Stmt := top 56
theorem sc_law_world_right : FnScope ["_law_small", "_law_numbers", "_law_deeds", "_law_state", "_law_deed_here", "_law_word", "_law_behind"] ["_law_small", "_law_numbers", "_law_deeds"] (defScope s_law_world_right) := ⟨rfl, rfl, rfl, by decide +kernel, rfl, by decide +kernel, by decide +kernel⟩
abbrev s_law : Stmt := top 57
theorem sc_law : FnScope ["_law_script", "_law_head", "_law_small", "_law_numbers", "_law_deeds", "_law_k", "_law_counts", "_law_settings", "_law_first", "_law_word", "_law_layers", "_law_found"] ["_law_script"] (defScope s_law) := ⟨rfl, rfl, rfl, by decide +kernel, rfl, by decide +kernel, by decide +kernel⟩
abbrev s_Shape_init : Stmt := inClass (top 16) 0
theorem sc_Shape_init : FnScope ["self", "counts", "slots", "thing"] ["self", "counts", "slots"] (defScope s_Shape_init) := ⟨rfl, rfl, rfl, by decide +kernel, rfl, by decide +kernel, by decide +kernel⟩
abbrev s_Settings_init : Stmt := inClass (top 39) 0
theorem sc_Settings_init : FnScope ["self", "shape", "far", "room", "term", "rules", "word", "thing", "least"] ["self", "shape", "far", "room", "term", "rules"] (defScope s_Settings_init) := ⟨rfl, rfl, rfl, by decide +kernel, rfl, by decide +kernel, by decide +kernel⟩
abbrev s_Hand_init : Stmt := inClass (top 43) 0
theorem sc_Hand_init : FnScope ["self", "name", "settings", "lines"] ["self", "name", "settings", "lines"] (defScope s_Hand_init) := ⟨rfl, rfl, rfl, by decide +kernel, rfl, by decide +kernel, by decide +kernel⟩
abbrev s_Hand_need_up : Stmt := inClass (top 43) 5
theorem sc_Hand_need_up : FnScope ["self"] ["self"] (defScope s_Hand_need_up) := ⟨rfl, rfl, rfl, by decide +kernel, rfl, by decide +kernel, by decide +kernel⟩
abbrev s_Hand_need_area : Stmt := inClass (top 43) 6
theorem sc_Hand_need_area : FnScope ["self", "told"] ["self"] (defScope s_Hand_need_area) := ⟨rfl, rfl, rfl, by decide +kernel, rfl, by decide +kernel, by decide +kernel⟩
abbrev s_Hand_fall : Stmt := inClass (top 43) 7
theorem sc_Hand_fall : FnScope ["self"] ["self"] (defScope s_Hand_fall) := ⟨rfl, rfl, rfl, by decide +kernel, rfl, by decide +kernel, by decide +kernel⟩
abbrev s_Hand_rise : Stmt := inClass (top 43) 8
theorem sc_Hand_rise : FnScope ["self"] ["self"] (defScope s_Hand_rise) := ⟨rfl, rfl, rfl, by decide +kernel, rfl, by decide +kernel, by decide +kernel⟩
abbrev s_Hand_take : Stmt := inClass (top 43) 9
theorem sc_Hand_take : FnScope ["self", "grant", "area"] ["self", "grant", "area"] (defScope s_Hand_take) := ⟨rfl, rfl, rfl, by decide +kernel, rfl, by decide +kernel, by decide +kernel⟩
abbrev s_Hand_write : Stmt := inClass (top 43) 10
theorem sc_Hand_write : FnScope ["self", "reading", "grant", "area", "held", "heard", "upto"] ["self", "reading"] (defScope s_Hand_write) := ⟨rfl, rfl, rfl, by decide +kernel, rfl, by decide +kernel, by decide +kernel⟩
abbrev s_Hand_make : Stmt := inClass (top 43) 11
theorem sc_Hand_make : FnScope ["self", "reading", "grant", "area", "held", "heard", "mark", "behind", "moment"] ["self", "reading"] (defScope s_Hand_make) := ⟨rfl, rfl, rfl, by decide +kernel, rfl, by decide +kernel, by decide +kernel⟩
abbrev s_Hand_hear : Stmt := inClass (top 43) 12
theorem sc_Hand_hear : FnScope ["self", "bound"] ["self", "bound"] (defScope s_Hand_hear) := ⟨rfl, rfl, rfl, by decide +kernel, rfl, by decide +kernel, by decide +kernel⟩
abbrev s_Hand_give_back : Stmt := inClass (top 43) 14
theorem sc_Hand_give_back : FnScope ["self", "grant", "area", "held", "heard", "end"] ["self"] (defScope s_Hand_give_back) := ⟨rfl, rfl, rfl, by decide +kernel, rfl, by decide +kernel, by decide +kernel⟩
abbrev s_Small_init : Stmt := inClass (top 45) 0
theorem sc_Small_init : FnScope ["self", "settings", "areas", "moments"] ["self", "settings", "areas", "moments"] (defScope s_Small_init) := ⟨rfl, rfl, rfl, by decide +kernel, rfl, by decide +kernel, by decide +kernel⟩
abbrev s_Small_deeds : Stmt := inClass (top 45) 1
theorem sc_Small_deeds : FnScope ["self", "some", "k", "reading", "bound"] ["self"] (defScope s_Small_deeds) := ⟨rfl, rfl, rfl, by decide +kernel, rfl, by decide +kernel, by decide +kernel⟩
abbrev s_Small_begin : Stmt := inClass (top 45) 2
theorem sc_Small_begin : FnScope ["self"] ["self"] (defScope s_Small_begin) := ⟨rfl, rfl, rfl, by decide +kernel, rfl, by decide +kernel, by decide +kernel⟩
abbrev s_Small_next_mark : Stmt := inClass (top 45) 3
theorem sc_Small_next_mark : FnScope ["self", "state", "reading", "place", "note", "found"] ["self", "state", "reading"] (defScope s_Small_next_mark) := ⟨rfl, rfl, rfl, by decide +kernel, rfl, by decide +kernel, by decide +kernel⟩
abbrev s_Small_marked : Stmt := inClass (top 45) 4
theorem sc_Small_marked : FnScope ["self", "state", "reading", "found", "moment"] ["self", "state", "reading"] (defScope s_Small_marked) := ⟨rfl, rfl, rfl, by decide +kernel, rfl, by decide +kernel, by decide +kernel⟩
abbrev s_Small_taken : Stmt := inClass (top 45) 5
theorem sc_Small_taken : FnScope ["self", "state", "grant", "place", "note", "most", "marks", "bound", "given", "area"] ["self", "state", "grant"] (defScope s_Small_taken) := ⟨rfl, rfl, rfl, by decide +kernel, rfl, by decide +kernel, by decide +kernel⟩
abbrev s_Small_written : Stmt := inClass (top 45) 6
theorem sc_Small_written : FnScope ["self", "state", "reading", "place", "note", "most", "marks", "bound", "given", "held"] ["self", "state", "reading"] (defScope s_Small_written) := ⟨rfl, rfl, rfl, by decide +kernel, rfl, by decide +kernel, by decide +kernel⟩
abbrev s_Small_heard : Stmt := inClass (top 45) 7
theorem sc_Small_heard : FnScope ["self", "state", "told", "place", "note", "most", "marks", "bound", "given"] ["self", "state", "told"] (defScope s_Small_heard) := ⟨rfl, rfl, rfl, by decide +kernel, rfl, by decide +kernel, by decide +kernel⟩
abbrev s_Small_given_back : Stmt := inClass (top 45) 8
theorem sc_Small_given_back : FnScope ["self", "state", "place", "note", "most", "marks", "bound", "given", "slot", "first", "upto", "end", "at"] ["self", "state"] (defScope s_Small_given_back) := ⟨rfl, rfl, rfl, by decide +kernel, rfl, by decide +kernel, by decide +kernel⟩
abbrev s_Small_done : Stmt := inClass (top 45) 9
theorem sc_Small_done : FnScope ["self", "state", "deed", "word", "found", "marks"] ["self", "state", "deed"] (defScope s_Small_done) := ⟨rfl, rfl, rfl, by decide +kernel, rfl, by decide +kernel, by decide +kernel⟩
abbrev s_Small_after : Stmt := inClass (top 45) 10
theorem sc_Small_after : FnScope ["self", "state", "deed", "behind"] ["self", "state", "deed"] (defScope s_Small_after) := ⟨rfl, rfl, rfl, by decide +kernel, rfl, by decide +kernel, by decide +kernel⟩
abbrev s_Small_bad : Stmt := inClass (top 45) 11
theorem sc_Small_bad : FnScope ["self", "state", "deed", "found", "place", "note", "most", "marks", "bound", "given", "moment", "end"] ["self", "state", "deed"] (defScope s_Small_bad) := ⟨rfl, rfl, rfl, by decide +kernel, rfl, by decide +kernel, by decide +kernel⟩
abbrev s_Wait_init : Stmt := inClass (top 11) 0
theorem sc_Wait_init : FnScope ["self", "reading"] ["self", "reading"] (defScope s_Wait_init) := ⟨rfl, rfl, rfl, by decide +kernel, rfl, by decide +kernel, by decide +kernel⟩
abbrev s_NoNote_init : Stmt := inClass (top 12) 0
theorem sc_NoNote_init : FnScope ["self", "moment"] ["self", "moment"] (defScope s_NoNote_init) := ⟨rfl, rfl, rfl, by decide +kernel, rfl, by decide +kernel, by decide +kernel⟩

/-- a def of the module's -/
structure DefAt (K : PySem.W.Frag) (mg : Str → Option Value) (x : Str) (st : Stmt) (ps : List Str) (f : Addr) (fd : FuncData) : Prop where
  fn : Fun K x x st f fd
  bd : Binds K fd ps []
  gl : mg x = some (.ref f)
/-- a method -/
structure MethAt (K : PySem.W.Frag) (C : Addr) (m qual : Str) (st : Stmt) (ps : List Str) (f : Addr) (fd : FuncData) : Prop where
  fn : Fun K m qual st f fd
  bd : Binds K fd ps []
  me : Meth K C m f
theorem defAt_mk {K : PySem.W.Frag} {h : Heap} {mg : Str → Option Value} {x : Str} {st : Stmt} {ps : List Str} {f : Addr} {oc : Value} {od an : Option Addr} {osl : Array (Option Value)} {kV doc pm cdv ct : Value} (X : K.In h) (G : h.Ns mainGlobals mg)
    (hb : ∀ (kV doc pm : Value) (an : Option Addr) (cdv ct : Value) (us : List Value), us.length = ps.length → bindArgs (PySem.W.fnOf x x (defArgs st) (defBody st) (defScope st) .none kV doc pm an cdv ct) ⟨us, []⟩ = pure (ps.zip us))
    (a : PySem.W.nsIn K mainGlobals x = some (some (.ref f))) (l : K.lookup f = some ⟨oc, od, .func (PySem.W.fnOf x x (defArgs st) (defBody st) (defScope st) .none kV doc pm an cdv ct), osl⟩)
    (c : PySem.W.codeIn K cdv x = true) (k : PySem.W.keepIn K (.ref f) = true) : ∃ fd, DefAt K mg x st ps f fd :=
  ⟨_, fun_mk l c k, (fun_mk l c k).binds hb, PySem.W.mg_of X G a⟩
theorem methAt_mk {K : PySem.W.Frag} {C : Addr} {m qual : Str} {st : Stmt} {ps : List Str} {f : Addr} {oc : Value} {od an : Option Addr} {osl : Array (Option Value)} {kV doc pm cdv ct : Value}
    (hb : ∀ (kV doc pm : Value) (an : Option Addr) (cdv ct : Value) (us : List Value), us.length = ps.length → bindArgs (PySem.W.fnOf m qual (defArgs st) (defBody st) (defScope st) .none kV doc pm an cdv ct) ⟨us, []⟩ = pure (ps.zip us))
    (a : PySem.W.findIn K (.ref C) m = some (some (.ref f))) (i : PySem.W.isFn K (.ref f) = true) (l : K.lookup f = some ⟨oc, od, .func (PySem.W.fnOf m qual (defArgs st) (defBody st) (defScope st) .none kV doc pm an cdv ct), osl⟩)
    (c : PySem.W.codeIn K cdv qual = true) (k : PySem.W.keepIn K (.ref f) = true) : ∃ f fd, MethAt K C m qual st ps f fd :=
  ⟨f, _, fun_mk l c k, (fun_mk l c k).binds hb, ⟨a, i, k⟩⟩
/-- a class without an __init__ of its own, over RiseError at CR -/
structure ExcAt (K : PySem.W.Frag) (mg : Str → Option Value) (CR : Addr) (x : Str) (C : Addr) : Prop where
  gC : mg x = some (.ref C)
  xP : PySem.W.excIn K C [.type "ValueError", .type "Exception", .type "BaseException", .type "object"] "ValueError.__new__" = true
  kP : PySem.W.keepIn K (.ref C) = true
  bP : PySem.W.subIn K (.ref C) (.type "BaseException") = some true
  tP : PySem.W.typeIn K (.ref C) = some (.type "type")
  eR : PySem.W.exmOne K (.ref C) (.ref CR) = some true
/-- a class with an __init__ of its own, over RiseError at CR -/
structure ExiAt (K : PySem.W.Frag) (mg : Str → Option Value) (CR : Addr) (x qual f : Str) (st : Stmt) (ps : List Str) (C fI : Addr) (fd : FuncData) : Prop where
  gC : mg x = some (.ref C)
  ox : OexC K C
  iC : PySem.W.findIn K (.ref C) "__init__" = some (some (.ref fI))
  tI : PySem.W.typeIn K (.ref fI) = some (.type "function")
  noF : PySem.W.findIn K (.ref C) f = some none
  fn : Fun K "__init__" qual st fI fd
  bd : Binds K fd ps []
  eR : PySem.W.exmOne K (.ref C) (.ref CR) = some true

/-- where all stands -/
structure Ads where
  f_is_whole : Addr
  d_is_whole : FuncData
  f_mark_of : Addr
  d_mark_of : FuncData
  f_parts_of : Addr
  d_parts_of : FuncData
  f_worst_of : Addr
  d_worst_of : FuncData
  f_next_layer : Addr
  d_next_layer : FuncData
  f_row_to : Addr
  d_row_to : FuncData
  f_look : Addr
  d_look : FuncData
  f_bound_of : Addr
  d_bound_of : FuncData
  f_raised : Addr
  d_raised : FuncData
  f_next_place : Addr
  d_next_place : FuncData
  f_moment_at : Addr
  d_moment_at : FuncData
  f_made : Addr
  d_made : FuncData
  f_read_note : Addr
  d_read_note : FuncData
  f_greatest_taken : Addr
  d_greatest_taken : FuncData
  f_are_rules : Addr
  d_are_rules : FuncData
  f_has_rule : Addr
  d_has_rule : FuncData
  f_place_by : Addr
  d_place_by : FuncData
  f_law_hand : Addr
  d_law_hand : FuncData
  f_law_pick : Addr
  d_law_pick : FuncData
  f_law_rules : Addr
  d_law_rules : FuncData
  f_law_large : Addr
  d_law_large : FuncData
  f_law_deed : Addr
  d_law_deed : FuncData
  f_law_asked : Addr
  d_law_asked : FuncData
  f_law_forbidden : Addr
  d_law_forbidden : FuncData
  f_law_mark_words : Addr
  d_law_mark_words : FuncData
  f_law_hand_right : Addr
  d_law_hand_right : FuncData
  f_law_world_right : Addr
  d_law_world_right : FuncData
  f_law : Addr
  d_law : FuncData
  f_Shape_init : Addr
  d_Shape_init : FuncData
  f_Settings_init : Addr
  d_Settings_init : FuncData
  f_Hand_init : Addr
  d_Hand_init : FuncData
  f_Hand_need_up : Addr
  d_Hand_need_up : FuncData
  f_Hand_need_area : Addr
  d_Hand_need_area : FuncData
  f_Hand_fall : Addr
  d_Hand_fall : FuncData
  f_Hand_rise : Addr
  d_Hand_rise : FuncData
  f_Hand_take : Addr
  d_Hand_take : FuncData
  f_Hand_write : Addr
  d_Hand_write : FuncData
  f_Hand_make : Addr
  d_Hand_make : FuncData
  f_Hand_hear : Addr
  d_Hand_hear : FuncData
  f_Hand_give_back : Addr
  d_Hand_give_back : FuncData
  f_Small_init : Addr
  d_Small_init : FuncData
  f_Small_deeds : Addr
  d_Small_deeds : FuncData
  f_Small_begin : Addr
  d_Small_begin : FuncData
  f_Small_next_mark : Addr
  d_Small_next_mark : FuncData
  f_Small_marked : Addr
  d_Small_marked : FuncData
  f_Small_taken : Addr
  d_Small_taken : FuncData
  f_Small_written : Addr
  d_Small_written : FuncData
  f_Small_heard : Addr
  d_Small_heard : FuncData
  f_Small_given_back : Addr
  d_Small_given_back : FuncData
  f_Small_done : Addr
  d_Small_done : FuncData
  f_Small_after : Addr
  d_Small_after : FuncData
  f_Small_bad : Addr
  d_Small_bad : FuncData
  c_Shape : Addr
  c_Settings : Addr
  c_Hand : Addr
  c_Small : Addr
  c_Rise : Addr
  c_NoRoom : Addr
  c_NoArea : Addr
  c_Down : Addr
  c_Up : Addr
  c_Wait : Addr
  f_Wait_init : Addr
  d_Wait_init : FuncData
  c_NoNote : Addr
  f_NoNote_init : Addr
  d_NoNote_init : FuncData
  a_WORDS : Addr
  a_RULES : Addr

structure Txt (K : PySem.W.Frag) (mg : Str → Option Value) (A : Ads) : Prop where
  t_is_whole : DefAt K mg "is_whole" s_is_whole ["thing"] A.f_is_whole A.d_is_whole
  t_mark_of : DefAt K mg "mark_of" s_mark_of ["shape", "moment", "slot", "count"] A.f_mark_of A.d_mark_of
  t_parts_of : DefAt K mg "parts_of" s_parts_of ["shape", "mark"] A.f_parts_of A.d_parts_of
  t_worst_of : DefAt K mg "worst_of" s_worst_of ["small", "layer"] A.f_worst_of A.d_worst_of
  t_next_layer : DefAt K mg "next_layer" s_next_layer ["small", "layer", "known"] A.f_next_layer A.d_next_layer
  t_row_to : DefAt K mg "row_to" s_row_to ["layers", "place"] A.f_row_to A.d_row_to
  F_look : FunD K "look" "look" (defArgs s_look) (defBody s_look) (defScope s_look) [.int 400] [] A.f_look A.d_look
  B_look : Binds K A.d_look ["small", "most"] []
  G_look : mg "look" = some (.ref A.f_look)
  t_bound_of : DefAt K mg "bound_of" s_bound_of ["place"] A.f_bound_of A.d_bound_of
  t_raised : DefAt K mg "raised" s_raised ["place", "bound"] A.f_raised A.d_raised
  t_next_place : DefAt K mg "next_place" s_next_place ["shape", "place"] A.f_next_place A.d_next_place
  t_moment_at : DefAt K mg "moment_at" s_moment_at ["area", "place", "reading"] A.f_moment_at A.d_moment_at
  t_made : DefAt K mg "made" s_made ["shape", "far", "area", "place", "reading"] A.f_made A.d_made
  t_read_note : DefAt K mg "read_note" s_read_note ["lines"] A.f_read_note A.d_read_note
  t_greatest_taken : DefAt K mg "greatest_taken" s_greatest_taken ["lines"] A.f_greatest_taken A.d_greatest_taken
  t_are_rules : DefAt K mg "are_rules" s_are_rules ["thing"] A.f_are_rules A.d_are_rules
  t_has_rule : DefAt K mg "has_rule" s_has_rule ["settings", "word"] A.f_has_rule A.d_has_rule
  t_place_by : DefAt K mg "place_by" s_place_by ["lines"] A.f_place_by A.d_place_by
  t_law_hand : DefAt K mg "_law_hand" s_law_hand ["_law_script", "_law_k"] A.f_law_hand A.d_law_hand
  t_law_pick : DefAt K mg "_law_pick" s_law_pick ["_law_hand_here", "_law_many"] A.f_law_pick A.d_law_pick
  t_law_rules : DefAt K mg "_law_rules" s_law_rules ["_law_hand_here"] A.f_law_rules A.d_law_rules
  t_law_large : DefAt K mg "_law_large" s_law_large ["_law_hand_here"] A.f_law_large A.d_law_large
  t_law_deed : DefAt K mg "_law_deed" s_law_deed ["_law_hand_here", "_law_numbers", "_law_up"] A.f_law_deed A.d_law_deed
  t_law_asked : DefAt K mg "_law_asked" s_law_asked ["_law_hand_here", "_law_numbers", "_law_deed_here"] A.f_law_asked A.d_law_asked
  t_law_forbidden : DefAt K mg "_law_forbidden" s_law_forbidden ["_law_rules_here"] A.f_law_forbidden A.d_law_forbidden
  t_law_mark_words : DefAt K mg "_law_mark_words" s_law_mark_words ["_law_numbers", "_law_mark", "_law_marks", "_law_bound", "_law_end"] A.f_law_mark_words A.d_law_mark_words
  t_law_hand_right : DefAt K mg "_law_hand_right" s_law_hand_right ["_law_settings", "_law_numbers", "_law_deeds"] A.f_law_hand_right A.d_law_hand_right
  t_law_world_right : DefAt K mg "_law_world_right" s_law_world_right ["_law_small", "_law_numbers", "_law_deeds"] A.f_law_world_right A.d_law_world_right
  t_law : DefAt K mg "law" s_law ["_law_script"] A.f_law A.d_law
  t_Shape_init : MethAt K A.c_Shape "__init__" "Shape.__init__" s_Shape_init ["self", "counts", "slots"] A.f_Shape_init A.d_Shape_init
  F_Settings_init : FunD K "__init__" "Settings.__init__" (defArgs s_Settings_init) (defBody s_Settings_init) (defScope s_Settings_init) [.non] [] A.f_Settings_init A.d_Settings_init
  F_Hand_init : FunD K "__init__" "Hand.__init__" (defArgs s_Hand_init) (defBody s_Hand_init) (defScope s_Hand_init) [.non] [] A.f_Hand_init A.d_Hand_init
  t_Hand_need_up : MethAt K A.c_Hand "need_up" "Hand.need_up" s_Hand_need_up ["self"] A.f_Hand_need_up A.d_Hand_need_up
  t_Hand_need_area : MethAt K A.c_Hand "need_area" "Hand.need_area" s_Hand_need_area ["self"] A.f_Hand_need_area A.d_Hand_need_area
  t_Hand_fall : MethAt K A.c_Hand "fall" "Hand.fall" s_Hand_fall ["self"] A.f_Hand_fall A.d_Hand_fall
  t_Hand_rise : MethAt K A.c_Hand "rise" "Hand.rise" s_Hand_rise ["self"] A.f_Hand_rise A.d_Hand_rise
  t_Hand_take : MethAt K A.c_Hand "take" "Hand.take" s_Hand_take ["self", "grant", "area"] A.f_Hand_take A.d_Hand_take
  t_Hand_write : MethAt K A.c_Hand "write" "Hand.write" s_Hand_write ["self", "reading"] A.f_Hand_write A.d_Hand_write
  t_Hand_make : MethAt K A.c_Hand "make" "Hand.make" s_Hand_make ["self", "reading"] A.f_Hand_make A.d_Hand_make
  t_Hand_hear : MethAt K A.c_Hand "hear" "Hand.hear" s_Hand_hear ["self", "bound"] A.f_Hand_hear A.d_Hand_hear
  t_Hand_give_back : MethAt K A.c_Hand "give_back" "Hand.give_back" s_Hand_give_back ["self"] A.f_Hand_give_back A.d_Hand_give_back
  t_Small_init : MethAt K A.c_Small "__init__" "Small.__init__" s_Small_init ["self", "settings", "areas", "moments"] A.f_Small_init A.d_Small_init
  t_Small_deeds : MethAt K A.c_Small "deeds" "Small.deeds" s_Small_deeds ["self"] A.f_Small_deeds A.d_Small_deeds
  t_Small_begin : MethAt K A.c_Small "begin" "Small.begin" s_Small_begin ["self"] A.f_Small_begin A.d_Small_begin
  t_Small_next_mark : MethAt K A.c_Small "next_mark" "Small.next_mark" s_Small_next_mark ["self", "state", "reading"] A.f_Small_next_mark A.d_Small_next_mark
  t_Small_marked : MethAt K A.c_Small "marked" "Small.marked" s_Small_marked ["self", "state", "reading"] A.f_Small_marked A.d_Small_marked
  t_Small_taken : MethAt K A.c_Small "taken" "Small.taken" s_Small_taken ["self", "state", "grant"] A.f_Small_taken A.d_Small_taken
  t_Small_written : MethAt K A.c_Small "written" "Small.written" s_Small_written ["self", "state", "reading"] A.f_Small_written A.d_Small_written
  t_Small_heard : MethAt K A.c_Small "heard" "Small.heard" s_Small_heard ["self", "state", "told"] A.f_Small_heard A.d_Small_heard
  t_Small_given_back : MethAt K A.c_Small "given_back" "Small.given_back" s_Small_given_back ["self", "state"] A.f_Small_given_back A.d_Small_given_back
  t_Small_done : MethAt K A.c_Small "done" "Small.done" s_Small_done ["self", "state", "deed"] A.f_Small_done A.d_Small_done
  t_Small_after : MethAt K A.c_Small "after" "Small.after" s_Small_after ["self", "state", "deed"] A.f_Small_after A.d_Small_after
  t_Small_bad : MethAt K A.c_Small "bad" "Small.bad" s_Small_bad ["self", "state", "deed"] A.f_Small_bad A.d_Small_bad
  B_Settings_init : Binds K A.d_Settings_init ["self", "shape", "far", "room", "term", "rules"] []
  B_Hand_init : Binds K A.d_Hand_init ["self", "name", "settings", "lines"] [.none]
  cl_Shape : Cls K A.c_Shape
  mk_Shape : Mk K A.c_Shape A.f_Shape_init
  g_Shape : mg "Shape" = some (.ref A.c_Shape)
  n_Shape_counts : NoAttr K A.c_Shape "counts"
  n_Shape_slots : NoAttr K A.c_Shape "slots"
  cl_Settings : Cls K A.c_Settings
  mk_Settings : Mk K A.c_Settings A.f_Settings_init
  g_Settings : mg "Settings" = some (.ref A.c_Settings)
  n_Settings_shape : NoAttr K A.c_Settings "shape"
  n_Settings_far : NoAttr K A.c_Settings "far"
  n_Settings_room : NoAttr K A.c_Settings "room"
  n_Settings_term : NoAttr K A.c_Settings "term"
  n_Settings_rules : NoAttr K A.c_Settings "rules"
  cl_Hand : Cls K A.c_Hand
  mk_Hand : Mk K A.c_Hand A.f_Hand_init
  g_Hand : mg "Hand" = some (.ref A.c_Hand)
  n_Hand_name : NoAttr K A.c_Hand "name"
  n_Hand_settings : NoAttr K A.c_Hand "settings"
  n_Hand_lines : NoAttr K A.c_Hand "lines"
  n_Hand_stand : NoAttr K A.c_Hand "stand"
  cl_Small : Cls K A.c_Small
  mk_Small : Mk K A.c_Small A.f_Small_init
  g_Small : mg "Small" = some (.ref A.c_Small)
  n_Small_settings : NoAttr K A.c_Small "settings"
  n_Small_areas : NoAttr K A.c_Small "areas"
  n_Small_moments : NoAttr K A.c_Small "moments"
  g_Rise : mg "RiseError" = some (.ref A.c_Rise)
  rd_Rise : ClX.CRead K A.c_Rise (.type "type")
  in_Rise : PySem.W.findCls K (.ref A.c_Rise) (.type "type") "__init__" = some (.val (.builtin "ValueError.__init__"))
  x_NoRoom : ExcAt K mg A.c_Rise "NoRoom" A.c_NoRoom
  x_NoArea : ExcAt K mg A.c_Rise "NoArea" A.c_NoArea
  x_Down : ExcAt K mg A.c_Rise "Down" A.c_Down
  x_Up : ExcAt K mg A.c_Rise "Up" A.c_Up
  x_Wait : ExiAt K mg A.c_Rise "Wait" "Wait.__init__" "reading" s_Wait_init ["self", "reading"] A.c_Wait A.f_Wait_init A.d_Wait_init
  x_NoNote : ExiAt K mg A.c_Rise "NoNote" "NoNote.__init__" "moment" s_NoNote_init ["self", "moment"] A.c_NoNote A.f_NoNote_init A.d_NoNote_init
  e2_NoRoom : PySem.W.exmAny K (.ref A.c_NoRoom) [.ref A.c_NoRoom, .ref A.c_Wait] = some true
  e2_Wait : PySem.W.exmAny K (.ref A.c_Wait) [.ref A.c_NoRoom, .ref A.c_Wait] = some true
  z_isinstance : mg "isinstance" = none
  z_int : mg "int" = none
  z_bool : mg "bool" = none
  z_list : mg "list" = none
  z_tuple : mg "tuple" = none
  z_str : mg "str" = none
  z_divmod : mg "divmod" = none
  z_enumerate : mg "enumerate" = none
  z_reversed : mg "reversed" = none
  z_len : mg "len" = none
  z_max : mg "max" = none
  z_min : mg "min" = none
  z_range : mg "range" = none
  z_set : mg "set" = none
  z_sorted : mg "sorted" = none
  k_WIDEST : ∃ t, mg "WIDEST" = some (.int 1000 t)
  k_MOST : ∃ t, mg "MOST" = some (.int 2000 t)
  k_GREATEST : ∃ t, mg "GREATEST" = some (.int 1000000000000 t)
  k_WORDS : mg "WORDS" = some (.ref A.a_WORDS) ∧ ∀ H, SqT K H A.a_WORDS [.str "twice", .str "fallen", .str "astray", .str "below"]
  k_RULES : mg "RULES" = some (.ref A.a_RULES) ∧ ∀ H, SqT K H A.a_RULES [.str "ahead", .str "apart", .str "ends", .str "once", .str "spoken"]
end K87
end
section
set_option Elab.async false
set_option linter.all false
set_option maxRecDepth 100000
set_option maxHeartbeats 4000000
/-! K87W0: objects' fields; the small defs: is_whole, Shape, mark_of, parts_of, bound_of, raised, next_place, moment_at. -/
namespace K87
open PySem PySem.Spec L2
open PyProof.Rows hiding St

/-! ### fields -/
theorem lk_hit {f : Str} {v : V} {r : List (Str × V)} : List.lookup f ((f, v) :: r) = some v := by simp [List.lookup]
theorem lk_miss {f g : Str} {v : V} {r : List (Str × V)} {o : Option V} (h : (f == g) = false) (k : List.lookup f r = o) : List.lookup f ((g, v) :: r) = o := by
  simp [List.lookup, h, k]
theorem lk_nil {f : Str} : List.lookup f ([] : List (Str × V)) = none := rfl
theorem pf_nil {f : Str} {v : V} : putF f v [] = [(f, v)] := rfl
theorem pf_hit {f : Str} {u v : V} {r : List (Str × V)} : putF f v ((f, u) :: r) = (f, v) :: r := by simp [putF]
theorem pf_miss {f g : Str} {u v : V} {r q : List (Str × V)} (h : (g == f) = false) (k : putF f v r = q) : putF f v ((g, u) :: r) = (g, u) :: q := by
  have h' : ¬ g = f := by simpa using h
  simp [putF, h', k]

/-! ### room -/
theorem ru2 {k : Nat} {A : Around} (hr : Room k A) : A.units + 2 < cLine := by have := hr.units; omega
theorem ru8 {k : Nat} {A : Around} (hr : Room k A) : A.units + 8 < cLine := by have := hr.units; omega
theorem ru9 {k : Nat} {A : Around} (hr : Room k A) : A.units + 1 + 8 < cLine := by have := hr.units; omega
/-! ### tests whose answer is known -/
theorem ifd {c A B : Prop} [Decidable c] (hc : c) (h : A) : if decide c = true then A else B := by
  rw [decide_eq_true hc]
  exact iteT h
theorem ifdn {c A B : Prop} [Decidable c] (hc : ¬ c) (h : B) : if decide c = true then A else B := by
  rw [decide_eq_false hc]
  exact iteF h
theorem ifnd {c A B : Prop} [Decidable c] (hc : c) (h : B) : if (!decide c) = true then A else B := by
  rw [decide_eq_true hc]
  exact iteF h
theorem ifndn {c A B : Prop} [Decidable c] (hc : ¬ c) (h : A) : if (!decide c) = true then A else B := by
  rw [decide_eq_false hc]
  exact iteT h
theorem ifd2 {c A B : Prop} [Decidable c] (h1 : c → A) (h2 : ¬ c → B) : if decide c = true then A else B := by
  by_cases h : c
  · exact ifd h (h1 h)
  · exact ifdn h (h2 h)
theorem ifb {b : Bool} {A B : Prop} (h1 : b = true → A) (h2 : b = false → B) : if b = true then A else B := by
  cases b
  · exact iteF (h2 rfl)
  · exact iteT (h1 rfl)

/-- a Shape -/
def ShapeAt (A : Ads) (H : Hp) (p : Addr) (counts slots : Int) : Prop := ∃ dx, H p = some (.ins A.c_Shape dx [("counts", .int counts), ("slots", .int slots)])
/-- Settings -/
def SetsAt (A : Ads) (K : PySem.W.Frag) (H : Hp) (p : Addr) (counts slots far room term : Int) (rs : List Str) : Prop :=
  ∃ (dx sh ru : Addr), H p = some (.ins A.c_Settings dx [("shape", .ref sh), ("far", .int far), ("room", .int room), ("term", .int term), ("rules", .ref ru)]) ∧ ShapeAt A H sh counts slots ∧ H ru = some (.tup (rs.map .str))
theorem ShapeAt.on {A : Ads} {H H' : Hp} {p : Addr} {c s : Int} (h : ShapeAt A H p c s) (e : Same H H') : ShapeAt A H' p c s := by
  obtain ⟨dx, h⟩ := h
  exact ⟨dx, e _ _ h⟩
theorem SetsAt.on {A : Ads} {K : PySem.W.Frag} {H H' : Hp} {p : Addr} {c s f r t : Int} {rs : List Str} (h : SetsAt A K H p c s f r t rs) (e : Same H H') : SetsAt A K H' p c s f r t rs := by
  obtain ⟨dx, sh, ru, h1, h2, h3⟩ := h
  exact ⟨dx, sh, ru, e _ _ h1, h2.on e, e _ _ h3⟩

section
variable {P : Program} {w : World} {K : PySem.W.Frag} {mg : Str → Option Value} {base : Heap} {A : Ads}

def spIsWhole : Sp := fun vs H Q _ => ∃ i : Int, vs = [.int i] ∧ Q (.bl true) H
theorem ok_is_whole (T : Txt K mg A) : FnOk P w K mg base CX0 1 A.f_is_whole A.d_is_whole ["thing"] spIsWhole := by
  refine T.t_is_whole.fn.ok sc_is_whole (fun vs H Q E h => ?_) (fun cdv A' outer s H vs Q E hr h => ?_)
  · obtain ⟨i, rfl, _⟩ := h
    rfl
  · obtain ⟨i, rfl, k⟩ := h
    refine ⟨_, pss_one (ps_ret (pe_and (pe_callB call_isi (by rfl) T.z_isinstance boot_isinstance (pa_cons (pv 0) (pa_cons (pe_bltn (v := .ty "int") (by rfl) T.z_int boot_int rfl) pa_nil)))
      (pe_one (pe_not (pe_callB call_isi (by rfl) T.z_isinstance boot_isinstance (pa_cons (pv 0) (pa_cons (pe_bltn (v := .ty "bool") (by rfl) T.z_bool boot_bool rfl) pa_nil))))))), ?_⟩
    refine ⟨_, rfl, .int i, .ty "int", .type "int", .type "int", true, rfl, .ty _, .base (.int i), kit_ty (by decide +kernel), true, rfl, iteT ?_⟩
    exact ⟨_, rfl, .int i, .ty "bool", .type "int", .type "bool", false, rfl, .ty _, .base (.int i), kit_ty (by decide +kernel), false, rfl, k⟩

/-- Shape(counts, slots) -/
def spShapeI (A : Ads) : Sp := fun vs H Q _ => ∃ (p dx : Addr) (c s : Int), vs = [.ref p, .int c, .int s] ∧ (1 ≤ c ∧ c ≤ 1000) ∧ (1 ≤ s ∧ s ≤ 1000) ∧ H p = some (.ins A.c_Shape dx []) ∧
  ∀ H', SameBut [p] H H' → ShapeAt A H' p c s → Q .non H'
theorem ok_shapeI (T : Txt K mg A) : FnOk P w K mg base CX0 2 A.f_Shape_init A.d_Shape_init ["self", "counts", "slots"] (spShapeI A) := by
  refine T.t_Shape_init.fn.ok sc_Shape_init (fun vs H Q E h => ?_) (fun cdv A' outer s0 H vs Q E hr h => ?_)
  · obtain ⟨p, dx, c, s, rfl, _⟩ := h
    rfl
  · obtain ⟨p, dx, c, s, rfl, hc, hs, hp, k⟩ := h
    obtain ⟨tW, gW⟩ := T.k_WIDEST
    refine ⟨_, pss_cons (ps_for PassesOwn.never rfl (pi_tup (pe_tup (pa_cons (pv 1) (pa_cons (pv 2) pa_nil)))) (pg_name (i := 3) sc_Shape_init.nd rfl (.inl rfl))
        (pss_one (ps_if (PW.pt (pw_or (pt_not (pt_val (pe_call (ok_is_whole T) hr rfl T.t_is_whole.gl T.t_is_whole.fn.kp T.t_is_whole.bd .nil pass0 (pa_cons (pv 3) pa_nil))))
          (pw_or1 (pt_not (pt_chain op_le op_le pe_int (pv 3) (pe_glob (v := .int 1000) (by rfl) gW ⟨_, rfl⟩)))))) (pss_one ps_never) pss_nil)))
      (pss_cons (ps_fld (pv 0) (pv 1) rfl) (pss_one (ps_fld (pv 0) (pv 2) rfl))), ?_⟩
    refine ⟨_, rfl, _, rfl, (by show 2 ≤ sizeLine; decide), fun t ht => ?_⟩
    have npt : p ≠ t := ne_of_none hp ht
    refine ⟨t, rfl, ⟨_, .inl (.inl upd_same)⟩, for_tup (K := K) (a := t) (xs := [.int c, .int s]) (fun i σ H' => ∃ v, σ = [some (.ref p), some (.int c), some (.int s), v] ∧ H' = upd H t (.tup [.int c, .int s])) ⟨none, rfl, rfl⟩ (fun i σ H' _ ⟨v, _, e⟩ => by rw [e]; exact SqT.of upd_same) ?_ ?_⟩
    · rintro i x σ H' hi ⟨v, rfl, rfl⟩
      obtain ⟨z, rfl, hz⟩ : ∃ z : Int, x = .int z ∧ 1 ≤ z ∧ z ≤ 1000 := by
        rcases i with _ | _ | i
        · cases hi; exact ⟨c, rfl, hc⟩
        · cases hi; exact ⟨s, rfl, hs⟩
        · cases hi
      refine ⟨_, rfl, z, rfl, true, rfl, iteF ?_⟩
      refine ⟨_, rfl, _, _, rfl, rfl, _, rfl, ifd hz.1 ?_⟩
      exact ⟨_, _, rfl, rfl, _, rfl, ifnd hz.2 ⟨_, rfl, rfl⟩⟩
    · rintro σ H' ⟨v, rfl, rfl⟩
      refine ⟨_, rfl, _, rfl, p, A.c_Shape, dx, [], rfl, (upd_ne npt).trans hp, T.cl_Shape, T.n_Shape_counts, (by show 0 < 1000; decide), ?_⟩
      refine ⟨_, rfl, _, rfl, p, A.c_Shape, dx, _, rfl, upd_same, T.cl_Shape, T.n_Shape_slots, (by show 1 < 1000; decide), ?_⟩
      refine k _ (((SameBut.of (same_new ht)).put (by simp)).put (by simp)) ⟨dx, ?_⟩
      rw [upd_same]
      exact congrArg (fun l => some (HO.ins A.c_Shape dx l)) (pf_miss (by decide +kernel) pf_nil)

/-- mark_of(shape, moment, slot, count) -/
def spMarkOf (A : Ads) : Sp := fun vs H Q _ => ∃ (p : Addr) (c s m sl ct : Int), vs = [.ref p, .int m, .int sl, .int ct] ∧ ShapeAt A H p c s ∧ (1 ≤ c ∧ c ≤ 1000) ∧ (1 ≤ s ∧ s ≤ 1000) ∧ Q (.int (markOf c s m sl ct)) H
theorem ok_mark_of (T : Txt K mg A) : FnOk P w K mg base CX0 1 A.f_mark_of A.d_mark_of ["shape", "moment", "slot", "count"] (spMarkOf A) := by
  refine T.t_mark_of.fn.ok sc_mark_of (fun vs H Q E h => ?_) (fun cdv A' outer s0 H vs Q E hr h => ?_)
  · obtain ⟨p, c, s, m, sl, ct, rfl, _⟩ := h
    rfl
  · obtain ⟨p, c, s, m, sl, ct, rfl, ⟨dx, hp⟩, hc, hs, k⟩ := h
    refine ⟨_, pss_one (ps_ret (pe_op op_add (pe_op op_mul (pe_op op_add (pe_op op_mul (pv 1) (pe_fld (pv 0) rfl)) (pv 2)) (pe_fld (pv 0) rfl)) (pv 3))), ?_⟩
    refine ⟨_, rfl, _, rfl, p, A.c_Shape, dx, _, _, rfl, hp, T.cl_Shape, T.n_Shape_slots, lk_miss (by decide +kernel) lk_hit, _, _, rfl, rfl, .inr ⟨by omega, by omega⟩, ?_⟩
    refine ⟨_, rfl, _, _, rfl, rfl, ?_⟩
    refine ⟨_, rfl, p, A.c_Shape, dx, _, _, rfl, hp, T.cl_Shape, T.n_Shape_counts, lk_hit, _, _, rfl, rfl, .inr ⟨by omega, by omega⟩, ?_⟩
    exact ⟨_, rfl, _, _, rfl, rfl, k⟩

/-- parts_of(shape, mark): a new tuple, its moment -/
def spPartsOf (A : Ads) : Sp := fun vs H Q _ => ∃ (p : Addr) (c s x : Int), vs = [.ref p, .int x] ∧ ShapeAt A H p c s ∧ (1 ≤ c ∧ c ≤ 1000) ∧ (1 ≤ s ∧ s ≤ 1000) ∧
  ∀ t H' v2 v3, Same H H' → H' t = some (.tup [.int (momentOf c s x), v2, v3]) → Q (.ref t) H'
theorem ok_parts_of (T : Txt K mg A) : FnOk P w K mg base CX0 1 A.f_parts_of A.d_parts_of ["shape", "mark"] (spPartsOf A) := by
  refine T.t_parts_of.fn.ok sc_parts_of (fun vs H Q E h => ?_) (fun cdv A' outer s0 H vs Q E hr h => ?_)
  · obtain ⟨p, c, s, x, rfl, _⟩ := h
    rfl
  · obtain ⟨p, c, s, x, rfl, ⟨dx, hp⟩, hc, hs, k⟩ := h
    refine ⟨_, pss_cons (ps_asg (pe_callB call_divmod (by rfl) T.z_divmod boot_divmod (pa_cons (pv 1) (pa_cons (pe_fld (pv 0) rfl) pa_nil))) (pg_tup rfl (pgs_cons (pg_name (i := 2) sc_parts_of.nd rfl (.inl rfl)) (pgs_cons (pg_name (i := 3) sc_parts_of.nd rfl (.inl rfl)) pgs_nil))))
      (pss_cons (ps_asg (pe_callB call_divmod (by rfl) T.z_divmod boot_divmod (pa_cons (pv 2) (pa_cons (pe_fld (pv 0) rfl) pa_nil))) (pg_tup rfl (pgs_cons (pg_name (i := 4) sc_parts_of.nd rfl (.inl rfl)) (pgs_cons (pg_name (i := 5) sc_parts_of.nd rfl (.inl rfl)) pgs_nil))))
      (pss_one (ps_ret (pe_tup (pa_cons (pv 4) (pa_cons (pv 5) (pa_cons (pv 3) pa_nil))))))), ?_⟩
    refine ⟨_, rfl, _, rfl, p, A.c_Shape, dx, _, _, rfl, hp, T.cl_Shape, T.n_Shape_counts, lk_hit, x, c, rfl, ⟨by omega, by omega⟩, fun t ht => ?_⟩
    refine ⟨t, _, rfl, SqT.of upd_same, rfl, _, _, rfl, _, _, rfl, rfl, ?_⟩
    have s1 := same_new (o := .tup [.int (x / c), .int (x % c)]) ht
    refine ⟨_, rfl, _, rfl, p, A.c_Shape, dx, _, _, rfl, s1 _ _ hp, T.cl_Shape, T.n_Shape_slots, lk_miss (by decide +kernel) lk_hit, x / c, s, rfl, ⟨by omega, by omega⟩, fun t2 ht2 => ?_⟩
    refine ⟨t2, _, rfl, SqT.of upd_same, rfl, _, _, rfl, _, _, rfl, rfl, ?_⟩
    have s2 := same_new (o := .tup [.int (x / c / s), .int (x / c % s)]) ht2
    refine ⟨_, rfl, _, rfl, _, rfl, (by show 3 ≤ sizeLine; decide), fun t3 ht3 => ?_⟩
    exact k t3 _ _ _ ((s1.trans s2).trans (same_new ht3)) upd_same

/-- bound_of(place) -/
def spBoundOf : Sp := fun vs H Q _ => ∃ (a : Addr) (p : Pl), vs = [.ref a] ∧ H a = some (.tup [.int p.1, .int p.2]) ∧ Q (.int (boundOf p)) H
theorem ok_bound_of (T : Txt K mg A) : FnOk P w K mg base CX0 1 A.f_bound_of A.d_bound_of ["place"] spBoundOf := by
  refine T.t_bound_of.fn.ok sc_bound_of (fun vs H Q E h => ?_) (fun cdv A' outer s0 H vs Q E hr h => ?_)
  · obtain ⟨a, p, rfl, _⟩ := h
    rfl
  · obtain ⟨a, p, rfl, ha, k⟩ := h
    refine ⟨_, pss_cons (ps_asg (pv 0) (pg_tup rfl (pgs_cons (pg_name (i := 1) sc_bound_of.nd rfl (.inl rfl)) (pgs_cons (pg_name (i := 2) sc_bound_of.nd rfl (.inl rfl)) pgs_nil))))
      (pss_cons (ps_if (pt_cmp (pc_eqI (pv 2) pe_int)) (pss_one (ps_ret (pv 1))) pss_nil) (pss_one (ps_ret (pe_op op_add (pv 1) pe_int)))), ?_⟩
    refine ⟨_, rfl, a, _, rfl, SqT.of ha, rfl, _, _, rfl, _, _, rfl, rfl, ?_⟩
    refine ⟨_, rfl, _, _, rfl, rfl, _, rfl, ifd2 (fun c => ?_) (fun c => ?_)⟩
    · refine ⟨_, rfl, ?_⟩
      have e : boundOf p = p.1 := if_pos c
      rw [e] at k
      exact k
    · refine ⟨_, rfl, _, _, rfl, rfl, ?_⟩
      have e : boundOf p = p.1 + 1 := if_neg c
      rw [e] at k
      exact k

/-- raised(place, bound) -/
def spRaised : Sp := fun vs H Q _ => ∃ (a : Addr) (p : Pl) (b : Int), vs = [.ref a, .int b] ∧ H a = some (.tup [.int p.1, .int p.2]) ∧ ∀ v H', Same H H' → Dt H' (ePl (raised p b)) v → Q v H'
theorem ok_raised (T : Txt K mg A) : FnOk P w K mg base CX0 1 A.f_raised A.d_raised ["place", "bound"] spRaised := by
  refine T.t_raised.fn.ok sc_raised (fun vs H Q E h => ?_) (fun cdv A' outer s0 H vs Q E hr h => ?_)
  · obtain ⟨a, p, b, rfl, _⟩ := h
    rfl
  · obtain ⟨a, p, b, rfl, ha, k⟩ := h
    refine ⟨_, pss_one (ps_ret (pe_callB (call_maxP rfl (ru2 hr)) (by rfl) T.z_max boot_max (pa_cons (pv 0) (pa_cons (pe_tup (pa_cons (pv 1) (pa_cons pe_int pa_nil))) pa_nil)))), ?_⟩
    refine ⟨_, rfl, _, rfl, (by show 2 ≤ sizeLine; decide), fun t ht => ?_⟩
    have s1 := same_new (o := .tup [.int b, .int 0]) ht
    refine ⟨a, t, p.1, p.2, b, 0, rfl, Dt.ofPl (s1 _ _ ha), Dt.ofPl upd_same, ?_⟩
    by_cases c : p.1 < b ∨ (p.1 = b ∧ p.2 < 0)
    · rw [if_pos c]
      refine k _ _ s1 ?_
      rw [show raised p b = (b, 0) from if_pos c]
      exact Dt.ofPl upd_same
    · rw [if_neg c]
      refine k _ _ s1 ?_
      rw [show raised p b = p from if_neg c]
      exact Dt.ofPl (s1 _ _ ha)

/-- next_place(shape, place) -/
def spNext (A : Ads) : Sp := fun vs H Q _ => ∃ (sh a : Addr) (c s : Int) (p : Pl), vs = [.ref sh, .ref a] ∧ ShapeAt A H sh c s ∧ H a = some (.tup [.int p.1, .int p.2]) ∧ ∀ v H', Same H H' → Dt H' (ePl (nextPlace c p)) v → Q v H'
theorem ok_next_place (T : Txt K mg A) : FnOk P w K mg base CX0 1 A.f_next_place A.d_next_place ["shape", "place"] (spNext A) := by
  refine T.t_next_place.fn.ok sc_next_place (fun vs H Q E h => ?_) (fun cdv A' outer s0 H vs Q E hr h => ?_)
  · obtain ⟨sh, a, c, s, p, rfl, _⟩ := h
    rfl
  · obtain ⟨sh, a, c, s, p, rfl, ⟨dx, hp⟩, ha, k⟩ := h
    refine ⟨_, pss_cons (ps_asg (pv 1) (pg_tup rfl (pgs_cons (pg_name (i := 2) sc_next_place.nd rfl (.inl rfl)) (pgs_cons (pg_name (i := 3) sc_next_place.nd rfl (.inl rfl)) pgs_nil))))
      (pss_cons (ps_if (pt_cmp (pc_eqI (pe_op op_add (pv 3) pe_int) (pe_fld (pv 0) rfl))) (pss_one (ps_ret (pe_tup (pa_cons (pe_op op_add (pv 2) pe_int) (pa_cons pe_int pa_nil))))) pss_nil)
      (pss_one (ps_ret (pe_tup (pa_cons (pv 2) (pa_cons (pe_op op_add (pv 3) pe_int) pa_nil)))))), ?_⟩
    refine ⟨_, rfl, a, _, rfl, SqT.of ha, rfl, _, _, rfl, _, _, rfl, rfl, ?_⟩
    refine ⟨_, rfl, _, _, rfl, rfl, _, rfl, sh, A.c_Shape, dx, _, _, rfl, hp, T.cl_Shape, T.n_Shape_counts, lk_hit, _, _, rfl, rfl, _, rfl, ifd2 (fun q => ?_) (fun q => ?_)⟩
    · refine ⟨_, rfl, _, _, rfl, rfl, (by show 2 ≤ sizeLine; decide), fun t ht => ?_⟩
      refine k _ _ (same_new ht) ?_
      rw [show nextPlace c p = (p.1 + 1, 0) from if_pos q]
      exact Dt.ofPl upd_same
    · refine ⟨_, rfl, _, rfl, _, _, rfl, rfl, (by show 2 ≤ sizeLine; decide), fun t ht => ?_⟩
      refine k _ _ (same_new ht) ?_
      rw [show nextPlace c p = (p.1, p.2 + 1) from if_neg q]
      exact Dt.ofPl upd_same

/-- moment_at(area, place, reading) -/
def spMoment : Sp := fun vs H Q _ => ∃ (a b : Addr) (p : Pl) (r : Ar) (z : Int), vs = [.ref a, .ref b, .int z] ∧ H a = some (.tup [.int r.1, .int r.2.1, .int r.2.2]) ∧ H b = some (.tup [.int p.1, .int p.2]) ∧ Q (.int (momentAt r p z)) H
theorem ok_moment_at (T : Txt K mg A) : FnOk P w K mg base CX0 1 A.f_moment_at A.d_moment_at ["area", "place", "reading"] spMoment := by
  refine T.t_moment_at.fn.ok sc_moment_at (fun vs H Q E h => ?_) (fun cdv A' outer s0 H vs Q E hr h => ?_)
  · obtain ⟨a, b, p, r, z, rfl, _⟩ := h
    rfl
  · obtain ⟨a, b, p, r, z, rfl, ha, hb, k⟩ := h
    refine ⟨_, pss_one (ps_ret (pe_callB (call_max3 rfl) (by rfl) T.z_max boot_max (pa_cons (pe_ix ix_tup (pv 1) pe_int (fun _ _ => rfl)) (pa_cons (pv 2) (pa_cons (pe_ix ix_tup (pv 0) pe_int (fun _ _ => rfl)) pa_nil))))), ?_⟩
    exact ⟨_, rfl, b, _, 0, _, rfl, rfl, SqT.of hb, atI_nat (j := 0) rfl, _, rfl, _, rfl, a, _, 1, _, rfl, rfl, SqT.of ha, atI_nat (j := 1) rfl, _, _, _, rfl, k⟩
end
end K87
end
section
set_option Elab.async false
set_option linter.all false
set_option maxRecDepth 100000
set_option maxHeartbeats 4000000
/-! K87W1: Wait and NoNote made; made. -/
namespace K87
open PySem PySem.Spec L2
open PyProof.Rows hiding St
section
variable {P : Program} {w : World} {K : PySem.W.Frag} {mg : Str → Option Value} {base : Heap} {A : Ads}

def spExI (C : Addr) (f : Str) : Sp := fun vs H Q _ => ∃ (a : Addr) (z : Int), vs = [.ref a, .int z] ∧ H a = some (exo a C none) ∧ ∀ dx, H dx = none → dx ≠ a → Q .non (upd (upd H dx (exd dx [(f, .int z)])) a (exo a C (some dx)))
theorem ok_waitI (T : Txt K mg A) : FnOk P w K mg base CX0 1 A.f_Wait_init A.d_Wait_init ["self", "reading"] (spExI A.c_Wait "reading") := by
  refine T.x_Wait.fn.ok sc_Wait_init (fun vs H Q E h => ?_) (fun cdv A' outer s0 H vs Q E hr h => ?_)
  · obtain ⟨a, z, rfl, _⟩ := h
    rfl
  · obtain ⟨a, z, rfl, ha, k⟩ := h
    refine ⟨_, pss_cons (ps_expr (pe_ownInit (by rfl) T.g_Rise T.rd_Rise T.in_Rise (pa_cons (pv 0) (pa_cons pe_str pa_nil)))) (pss_one (ps_ost (pv 0) (pv 1))), ?_⟩
    refine ⟨_, rfl, a, A.c_Wait, [.str "the clock lags"], rfl, (by show 1 ≤ 1000; decide), T.x_Wait.ox, ha, ?_⟩
    exact ⟨_, rfl, _, rfl, a, A.c_Wait, rfl, T.x_Wait.ox, T.x_Wait.noF, .inl ⟨ha, k⟩⟩
theorem ok_noteI (T : Txt K mg A) : FnOk P w K mg base CX0 1 A.f_NoNote_init A.d_NoNote_init ["self", "moment"] (spExI A.c_NoNote "moment") := by
  refine T.x_NoNote.fn.ok sc_NoNote_init (fun vs H Q E h => ?_) (fun cdv A' outer s0 H vs Q E hr h => ?_)
  · obtain ⟨a, z, rfl, _⟩ := h
    rfl
  · obtain ⟨a, z, rfl, ha, k⟩ := h
    refine ⟨_, pss_cons (ps_expr (pe_ownInit (by rfl) T.g_Rise T.rd_Rise T.in_Rise (pa_cons (pv 0) (pa_cons pe_str pa_nil)))) (pss_one (ps_ost (pv 0) (pv 1))), ?_⟩
    refine ⟨_, rfl, a, A.c_NoNote, [.str "a moment that is not held"], rfl, (by show 1 ≤ 1000; decide), T.x_NoNote.ox, ha, ?_⟩
    exact ⟨_, rfl, _, rfl, a, A.c_NoNote, rfl, T.x_NoNote.ox, T.x_NoNote.noF, .inl ⟨ha, k⟩⟩
/-- behind raise Wait(z) (NoNote(z)): all that was tracked is as it was -/
theorem exI_end {H : Hp} {C : Addr} {f : Str} {z : Int} {Q : XK} (q : ∀ d H', Same H H' → Q (.ref C) (some d) H') : ∀ a, H a = none → spExI C f (.ref a :: ([.int z] ++ [])) (upd H a (exo a C none))
    (fun v H2 => v = .non ∧ ∃ (d : Addr) (fs : List (Str × V)), H2 a = some (exo a C (some d)) ∧ H2 d = some (exd d fs) ∧ H d = none ∧ Q (.ref C) (some d) (upd (del H2 a) d (.xd fs))) (fun _ _ _ => False) := by
  intro a ha
  refine ⟨a, z, rfl, upd_same, fun dx hd ne => ⟨rfl, dx, [(f, .int z)], upd_same, by rw [upd_ne ne, upd_same], by rw [upd_ne ne] at hd; exact hd, ?_⟩⟩
  rw [upd_ne ne] at hd
  refine q dx _ fun b o e => ?_
  have nb : b ≠ a := ne_of_none e ha
  rw [upd_ne (ne_of_none e hd), del_ne nb, upd_ne nb, upd_ne (ne_of_none e hd), upd_ne nb]
  exact e

def spMade (A : Ads) : Sp := fun vs H Q E => ∃ (sh aa pa : Addr) (c s far r : Int) (ar : Ar) (p : Pl), vs = [.ref sh, .int far, .ref aa, .ref pa, .int r] ∧ ShapeAt A H sh c s ∧ (1 ≤ c ∧ c ≤ 1000) ∧ (1 ≤ s ∧ s ≤ 1000) ∧
  H aa = some (.tup [.int ar.1, .int ar.2.1, .int ar.2.2]) ∧ H pa = some (.tup [.int p.1, .int p.2]) ∧
  (∀ x q t va H', made c s far ar p r = .ok x q → Same H H' → H' t = some (.tup [.int x, va]) → Dt H' (ePl q) va → Q (.ref t) H') ∧
  (∀ C d H', ((made c s far ar p r = .noRoom ∧ C = A.c_NoRoom) ∨ ∃ z, made c s far ar p r = .wait z ∧ C = A.c_Wait) → Same H H' → E (.ref C) d H')
theorem ok_made (T : Txt K mg A) : FnOk P w K mg base (L2.CX P w) 3 A.f_made A.d_made ["shape", "far", "area", "place", "reading"] (spMade A) := by
  refine T.t_made.fn.okX sc_made (fun vs H Q E h => ?_) (fun cdv A' outer s0 H vs Q E hr h => ?_)
  · obtain ⟨sh, aa, pa, c, s, far, r, ar, p, rfl, _⟩ := h
    rfl
  · obtain ⟨sh, aa, pa, c, s, far, r, ar, p, rfl, hS, hc, hs, ha, hp, k, ke⟩ := h
    have hr1 : Room 1 _ := hr.mono (by decide)
    refine ⟨_, pss_cons (ps_set (i := 5) sc_made.nd rfl (.inl rfl) (pe_call (ok_moment_at T) hr1 rfl T.t_moment_at.gl T.t_moment_at.fn.kp T.t_moment_at.bd .nil pass0 (pa_cons (pv 2) (pa_cons (pv 3) (pa_cons (pv 4) pa_nil)))))
      (pss_cons (ps_if (pt_cmp (pc_ge (pv 5) (pe_ix ix_tup (pv 2) pe_int (fun _ _ => rfl)))) (pss_one (ps_raise rfl (takes_of rfl rfl rfl rfl) (pmk_own PySem.F.excBase_ValueError T.x_NoRoom.xP T.x_NoRoom.gC T.x_NoRoom.kP (raises_own T.x_NoRoom.bP T.x_NoRoom.tP) rfl))) pss_nil)
      (pss_cons (ps_if (pt_cmp (pc_gt (pv 5) (pe_op op_add (pv 4) (pv 1)))) (pss_one (ps_raise rfl (takes_of rfl rfl rfl rfl) (pmk_oex T.x_Wait.ox T.x_Wait.iC T.x_Wait.tI (ok_waitI T) hr T.x_Wait.bd .nil pass0 rfl T.x_Wait.gC (pa_cons (pe_op op_sub (pv 5) (pv 1)) pa_nil)))) pss_nil)
      (pss_cons (ps_set (i := 6) sc_made.nd rfl (.inl rfl) pe_int)
      (pss_cons (ps_if (pt_cmp (pc_eqI (pv 5) (pe_ix ix_tup (pv 3) pe_int (fun _ _ => rfl)))) (pss_one (ps_set (i := 6) sc_made.nd rfl (.inl rfl) (pe_ix ix_tup (pv 3) pe_int (fun _ _ => rfl)))) pss_nil)
      (pss_one (ps_ret (pe_tup (pa_cons (pe_call (ok_mark_of T) hr1 rfl T.t_mark_of.gl T.t_mark_of.fn.kp T.t_mark_of.bd .nil pass0 (pa_cons (pv 0) (pa_cons (pv 5) (pa_cons (pe_ix ix_tup (pv 2) pe_int (fun _ _ => rfl)) (pa_cons (pv 6) pa_nil)))))
        (pa_cons (pe_call (ok_next_place T) hr1 rfl T.t_next_place.gl T.t_next_place.fn.kp T.t_next_place.bd .nil pass0 (pa_cons (pv 0) (pa_cons (pe_tup (pa_cons (pv 5) (pa_cons (pv 6) pa_nil))) pa_nil))) pa_nil))))))))), ?_⟩
    refine ⟨_, rfl, _, rfl, _, rfl, aa, pa, p, ar, r, rfl, ha, hp, ?_⟩
    refine ⟨_, rfl, _, rfl, aa, _, 2, _, rfl, rfl, SqT.of ha, atI_nat (j := 2) rfl, _, _, rfl, rfl, _, rfl, ifd2 (fun q => ?_) (fun q => ?_)⟩
    · exact ke _ _ _ (.inl ⟨if_pos q, rfl⟩) (Same.refl H)
    refine ⟨_, rfl, _, rfl, _, rfl, _, _, rfl, rfl, _, _, rfl, rfl, _, rfl, ifd2 (fun q2 => ?_) (fun q2 => ?_)⟩
    · refine ⟨_, rfl, _, rfl, _, _, rfl, rfl, (by show 1 ≤ 1000; decide), exI_end fun d H' e => ke _ _ _ (.inr ⟨momentAt ar p r - far, ?_, rfl⟩) e⟩
      unfold made
      rw [if_neg q, if_pos q2]
    have fin : ∀ ct : Int, ct = countAt p (momentAt ar p r) → ∀ (σ : List (Option V)), σ = [some (.ref sh), some (.int far), some (.ref aa), some (.ref pa), some (.int r), some (.int (momentAt ar p r)), some (.int ct)] → True := fun _ _ _ _ => True.intro
    have hm : made c s far ar p r = .ok (markOf c s (momentAt ar p r) ar.1 (countAt p (momentAt ar p r))) (nextPlace c (momentAt ar p r, countAt p (momentAt ar p r))) := by
      unfold made
      rw [if_neg q, if_neg q2]
    refine ⟨_, rfl, _, rfl, pa, _, 0, _, rfl, rfl, SqT.of hp, atI_nat (j := 0) rfl, _, _, rfl, rfl, _, rfl, ifd2 (fun q3 => ?_) (fun q3 => ?_)⟩
    · have ec : countAt p (momentAt ar p r) = p.2 := if_pos q3
      rw [ec] at hm
      refine ⟨_, rfl, pa, _, 1, _, rfl, rfl, SqT.of hp, atI_nat (j := 1) rfl, ?_⟩
      refine ⟨_, rfl, _, rfl, _, rfl, aa, _, 0, _, rfl, rfl, SqT.of ha, atI_nat (j := 0) rfl, _, rfl, sh, c, s, _, _, _, rfl, hS, hc, hs, ?_⟩
      refine ⟨_, rfl, _, rfl, _, rfl, (by show 2 ≤ sizeLine; decide), fun t ht => ?_⟩
      have s1 := same_new (o := .tup [.int (momentAt ar p r), .int p.2]) ht
      refine ⟨sh, t, c, s, (momentAt ar p r, p.2), rfl, hS.on s1, upd_same, fun v H' s2 d2 => ?_⟩
      refine ⟨(by show 2 ≤ sizeLine; decide), fun t2 ht2 => ?_⟩
      exact k _ _ t2 v _ hm ((s1.trans s2).trans (same_new ht2)) upd_same (d2.on (same_new ht2).ts)
    · have ec : countAt p (momentAt ar p r) = 0 := if_neg q3
      rw [ec] at hm
      refine ⟨_, rfl, _, rfl, _, rfl, aa, _, 0, _, rfl, rfl, SqT.of ha, atI_nat (j := 0) rfl, _, rfl, sh, c, s, _, _, _, rfl, hS, hc, hs, ?_⟩
      refine ⟨_, rfl, _, rfl, _, rfl, (by show 2 ≤ sizeLine; decide), fun t ht => ?_⟩
      have s1 := same_new (o := .tup [.int (momentAt ar p r), .int 0]) ht
      refine ⟨sh, t, c, s, (momentAt ar p r, 0), rfl, hS.on s1, upd_same, fun v H' s2 d2 => ?_⟩
      refine ⟨(by show 2 ≤ sizeLine; decide), fun t2 ht2 => ?_⟩
      exact k _ _ t2 v _ hm ((s1.trans s2).trans (same_new ht2)) upd_same (d2.on (same_new ht2).ts)
end
end K87
end
section
set_option Elab.async false
set_option linter.all false
set_option maxRecDepth 100000
set_option maxHeartbeats 4000000
/-! K87W2: notes (read_note, greatest_taken, place_by), has_rule, are_rules, Settings. -/
namespace K87
open PySem PySem.Spec L2
open PyProof.Rows hiding St

inductive Line where
  | took (g : Int) (a : Ar)
  | held (m : Int)
  | heard (b : Int)
  | ends (g e : Int)
def eL (l : Line) : Dat := match l with
  | .took g a => .tup [.text "took", .num g, eAr a]
  | .held m => .tup [.text "held", .num m]
  | .heard b => .tup [.text "heard", .num b]
  | .ends g e => .tup [.text "ends", .num g, .num e]
def gOk (l : Line) : Prop := match l with
  | .took g _ => 1 ≤ g
  | .ends g _ => 1 ≤ g
  | _ => True
structure Nt where
  grant : Int
  area : Option Ar
  held : Int
  heard : Int
def stepL (n : Nt) (l : Line) : Nt := match l with
  | .took g a => { n with grant := g, area := some a }
  | .held m => { n with held := max n.held m }
  | .heard b => { n with heard := max n.heard b }
  | .ends g e => if g = n.grant then { n with area := n.area.map fun a => (a.1, a.2.1, min a.2.2 e) } else n
def readL (ls : List Line) : Nt := ls.foldl stepL ⟨0, none, 0, 0⟩
def stepG (m : Int) (l : Line) : Int := match l with
  | .took g _ => max m g
  | _ => m
def greatL (ls : List Line) : Int := ls.foldl stepG 0
theorem readL_snoc (ls : List Line) (x : Line) : readL (ls ++ [x]) = stepL (readL ls) x := by unfold readL; rw [List.foldl_append]; rfl
theorem greatL_snoc (ls : List Line) (x : Line) : greatL (ls ++ [x]) = stepG (greatL ls) x := by unfold greatL; rw [List.foldl_append]; rfl
/-- a grant is told with an area, none without -/
def NtOk (n : Nt) : Prop := (n.grant = 0 ∧ n.area = none) ∨ (1 ≤ n.grant ∧ ∃ a, n.area = some a)
theorem stepL_ok {n : Nt} {l : Line} (h : NtOk n) (g : gOk l) : NtOk (stepL n l) := by
  cases l with
  | took g' a => exact .inr ⟨g, a, rfl⟩
  | held m => exact h
  | heard b => exact h
  | ends g' e =>
    unfold stepL
    simp only
    by_cases c : g' = n.grant
    · rw [if_pos c]
      rcases h with ⟨h1, h2⟩ | ⟨h1, a, h2⟩
      · exact .inl ⟨h1, by simp [h2]⟩
      · exact .inr ⟨h1, (a.1, a.2.1, min a.2.2 e), by simp [h2]⟩
    · rw [if_neg c]; exact h
theorem readL_ok : ∀ {ls : List Line} {n : Nt}, NtOk n → (∀ x ∈ ls, gOk x) → NtOk (ls.foldl stepL n)
  | [], _, h, _ => h
  | x :: ls, n, h, g => readL_ok (ls := ls) (stepL_ok h (g x List.mem_cons_self)) fun y hy => g y (List.mem_cons_of_mem _ hy)
theorem take_snoc {α : Type} {l : List α} {i : Nat} {x : α} (h : l[i]? = some x) : l.take (i + 1) = l.take i ++ [x] := by
  rw [List.take_add_one, h]
  rfl
theorem vstr_ne {a b : Str} (h : (a == b) = false) : ¬ (V.str a = V.str b) := fun z => by
  injection z with z
  rw [z] at h
  simp at h
theorem mm (i j : Int) : (if j > i then j else i) = max i j := by
  split <;> omega
theorem mn (i j : Int) : (if j < i then j else i) = min i j := by
  split <;> omega
theorem call_mx2 {X : Cx} (hc : X.calm = true) : CallR X (.builtin "max") (fun xs H Q => ∃ i j, xs = [.int i, .int j] ∧ Q (.int (max i j)) H) := by
  intro pins s σ H xs us Q I r ⟨i, j, e, q⟩
  refine call_max2 hc pins s σ H xs us Q I r ⟨i, j, e, ?_⟩
  rw [mm]
  exact q
theorem call_mn2 {X : Cx} (hc : X.calm = true) : CallR X (.builtin "min") (fun xs H Q => ∃ i j, xs = [.int i, .int j] ∧ Q (.int (min i j)) H) := by
  intro pins s σ H xs us Q I r ⟨i, j, e, q⟩
  refine call_min2 hc pins s σ H xs us Q I r ⟨i, j, e, ?_⟩
  rw [mn]
  exact q

section
variable {P : Program} {w : World} {K : PySem.W.Frag} {mg : Str → Option Value} {base : Heap} {A : Ads}

def spReadNote : Sp := fun vs H Q _ => ∃ (l : Addr) (vls : List V) (ls : List Line), vs = [.ref l] ∧ H l = some (.lst vls) ∧ Dts H (ls.map eL) vls ∧ (∀ x ∈ ls, gOk x) ∧
  ∀ t va H', Same H H' → H' t = some (.tup [.int (readL ls).grant, va, .int (readL ls).held, .int (readL ls).heard]) → Dt H' (eArO (readL ls).area) va → Q (.ref t) H'
theorem ok_read_note (T : Txt K mg A) : FnOk P w K mg base CX0 1 A.f_read_note A.d_read_note ["lines"] spReadNote := by
  refine T.t_read_note.fn.ok sc_read_note (fun vs H Q E h => ?_) (fun cdv A' outer s0 H vs Q E hr h => ?_)
  · obtain ⟨l, vls, ls, rfl, _⟩ := h
    rfl
  · obtain ⟨l, vls, ls, rfl, hl, hd, hg, k⟩ := h
    refine ⟨_, (pss_cons (ps_set (i := 1) sc_read_note.nd rfl (.inl rfl) pe_int) (pss_cons (ps_set (i := 2) sc_read_note.nd rfl (.inl rfl) pe_non) (pss_cons (ps_set (i := 3) sc_read_note.nd rfl (.inl rfl) pe_int) (pss_cons (ps_set (i := 4) sc_read_note.nd rfl (.inl rfl) pe_int) (pss_cons (ps_for PassesOwn.never rfl (pi_list (pv 0)) (pg_name (i := 5) sc_read_note.nd rfl (.inl rfl)) (pss_one (ps_if (pt_cmpR op_eq (pe_ix ix_tup (pv 5) pe_int (fun _ _ => rfl)) pe_str (nomark _)) (pss_cons (ps_set (i := 1) sc_read_note.nd rfl (.inl rfl) (pe_ix ix_tup (pv 5) pe_int (fun _ _ => rfl))) (pss_one (ps_set (i := 2) sc_read_note.nd rfl (.inl rfl) (pe_ix ix_tup (pv 5) pe_int (fun _ _ => rfl))))) (pss_one (ps_if (pt_cmpR op_eq (pe_ix ix_tup (pv 5) pe_int (fun _ _ => rfl)) pe_str (nomark _)) (pss_one (ps_set (i := 3) sc_read_note.nd rfl (.inl rfl) (pe_callB (call_mx2 rfl) (by rfl) T.z_max boot_max (pa_cons (pv 3) (pa_cons (pe_ix ix_tup (pv 5) pe_int (fun _ _ => rfl)) pa_nil))))) (pss_one (ps_if (pt_cmpR op_eq (pe_ix ix_tup (pv 5) pe_int (fun _ _ => rfl)) pe_str (nomark _)) (pss_one (ps_set (i := 4) sc_read_note.nd rfl (.inl rfl) (pe_callB (call_mx2 rfl) (by rfl) T.z_max boot_max (pa_cons (pv 4) (pa_cons (pe_ix ix_tup (pv 5) pe_int (fun _ _ => rfl)) pa_nil))))) (pss_one (ps_if (pt_cmpR op_eq (pe_ix ix_tup (pv 5) pe_int (fun _ _ => rfl)) (pv 1) (nomark _)) (pss_one (ps_set (i := 2) sc_read_note.nd rfl (.inl rfl) (pe_tup (pa_cons (pe_ix ix_tup (pv 2) pe_int (fun _ _ => rfl)) (pa_cons (pe_ix ix_tup (pv 2) pe_int (fun _ _ => rfl)) (pa_cons (pe_callB (call_mn2 rfl) (by rfl) T.z_min boot_min (pa_cons (pe_ix ix_tup (pv 2) pe_int (fun _ _ => rfl)) (pa_cons (pe_ix ix_tup (pv 5) pe_int (fun _ _ => rfl)) pa_nil))) pa_nil)))))) pss_nil))))))))) (pss_one (ps_ret (pe_tup (pa_cons (pv 1) (pa_cons (pv 2) (pa_cons (pv 3) (pa_cons (pv 4) pa_nil)))))))))))), ?_⟩
    refine ⟨_, rfl, l, rfl, ⟨_, SqL.of hl⟩, for_list (K := K) (a := l) (xs := vls) (fun i σ H' => ∃ va v, σ = [some (.ref l), some (.int (readL (ls.take i)).grant), some va, some (.int (readL (ls.take i)).held), some (.int (readL (ls.take i)).heard), v] ∧ Same H H' ∧ Dt H' (eArO (readL (ls.take i)).area) va)
      ⟨.non, none, rfl, Same.refl H, .non⟩ (fun i σ H' _ ⟨_, _, _, e, _⟩ => SqL.of (e _ _ hl)) ?_ ?_⟩
    · rintro i x σ H' hi ⟨va, v, rfl, sm, da⟩
      have hlen := hd.len
      obtain ⟨y, hy⟩ : ∃ y, ls[i]? = some y := by
        have h1 := (List.getElem?_eq_some_iff.mp hi).1
        rw [hlen, List.length_map] at h1
        exact ⟨_, List.getElem?_eq_getElem h1⟩
      have hgy : gOk y := hg y (List.mem_of_getElem? hy)
      obtain ⟨x', hx', dx⟩ := hd.get (k := eL y) (j := i) (by rw [List.getElem?_map, hy]; rfl)
      rw [hi] at hx'
      cases hx'
      have dx := dx.on sm.ts
      have nok : NtOk (readL (ls.take i)) := readL_ok (.inl ⟨rfl, rfl⟩) fun z hz => hg z (List.mem_of_mem_take hz)
      rw [take_snoc hy, readL_snoc]
      generalize readL (ls.take i) = n at *
      cases y with
      | took g a =>
        obtain ⟨ad, vs, rfl, ha, hds⟩ := Dt.tup_inv dx
        obtain ⟨v1, r1, rfl, d1, q1⟩ := hds.cons_inv
        obtain ⟨v2, r2, rfl, d2, q2⟩ := q1.cons_inv
        obtain ⟨v3, r3, rfl, d3, q3⟩ := q2.cons_inv
        cases q3.nil_inv
        cases d1.txt_inv
        cases d2.num_inv
        refine ⟨_, rfl, ad, _, 0, _, rfl, rfl, SqT.of ha, atI_nat (j := 0) rfl, rfl, _, rfl, ifd rfl ?_⟩
        refine ⟨_, rfl, ad, _, 1, _, rfl, rfl, SqT.of ha, atI_nat (j := 1) rfl, ?_⟩
        refine ⟨_, rfl, ad, _, 2, _, rfl, rfl, SqT.of ha, atI_nat (j := 2) rfl, ?_⟩
        exact ⟨v3, _, rfl, sm, d3⟩
      | held m =>
        obtain ⟨ad, v1, v2, rfl, ha, d1, d2⟩ := Dt.at2 dx
        cases d1.txt_inv
        cases d2.num_inv
        refine ⟨_, rfl, ad, _, 0, _, rfl, rfl, SqT.of ha, atI_nat (j := 0) rfl, rfl, _, rfl, ifdn (vstr_ne (by decide +kernel)) ?_⟩
        refine ⟨_, rfl, ad, _, 0, _, rfl, rfl, SqT.of ha, atI_nat (j := 0) rfl, rfl, _, rfl, ifd rfl ?_⟩
        refine ⟨_, rfl, _, rfl, ad, _, 1, _, rfl, rfl, SqT.of ha, atI_nat (j := 1) rfl, _, _, rfl, ?_⟩
        exact ⟨va, _, rfl, sm, da⟩
      | heard b =>
        obtain ⟨ad, v1, v2, rfl, ha, d1, d2⟩ := Dt.at2 dx
        cases d1.txt_inv
        cases d2.num_inv
        refine ⟨_, rfl, ad, _, 0, _, rfl, rfl, SqT.of ha, atI_nat (j := 0) rfl, rfl, _, rfl, ifdn (vstr_ne (by decide +kernel)) ?_⟩
        refine ⟨_, rfl, ad, _, 0, _, rfl, rfl, SqT.of ha, atI_nat (j := 0) rfl, rfl, _, rfl, ifdn (vstr_ne (by decide +kernel)) ?_⟩
        refine ⟨_, rfl, ad, _, 0, _, rfl, rfl, SqT.of ha, atI_nat (j := 0) rfl, rfl, _, rfl, ifd rfl ?_⟩
        refine ⟨_, rfl, _, rfl, ad, _, 1, _, rfl, rfl, SqT.of ha, atI_nat (j := 1) rfl, _, _, rfl, ?_⟩
        exact ⟨va, _, rfl, sm, da⟩
      | ends g e =>
        obtain ⟨ad, vs, rfl, ha, hds⟩ := Dt.tup_inv dx
        obtain ⟨v1, r1, rfl, d1, q1⟩ := hds.cons_inv
        obtain ⟨v2, r2, rfl, d2, q2⟩ := q1.cons_inv
        obtain ⟨v3, r3, rfl, d3, q3⟩ := q2.cons_inv
        cases q3.nil_inv
        cases d1.txt_inv
        cases d2.num_inv
        cases d3.num_inv
        refine ⟨_, rfl, ad, _, 0, _, rfl, rfl, SqT.of ha, atI_nat (j := 0) rfl, rfl, _, rfl, ifdn (vstr_ne (by decide +kernel)) ?_⟩
        refine ⟨_, rfl, ad, _, 0, _, rfl, rfl, SqT.of ha, atI_nat (j := 0) rfl, rfl, _, rfl, ifdn (vstr_ne (by decide +kernel)) ?_⟩
        refine ⟨_, rfl, ad, _, 0, _, rfl, rfl, SqT.of ha, atI_nat (j := 0) rfl, rfl, _, rfl, ifdn (vstr_ne (by decide +kernel)) ?_⟩
        refine ⟨_, rfl, ad, _, 1, _, rfl, rfl, SqT.of ha, atI_nat (j := 1) rfl, _, rfl, rfl, _, rfl, ifd2 (fun c => ?_) (fun c => ?_)⟩
        · have c : g = n.grant := by injection c
          have hg1 : 1 ≤ g := hgy
          have e1 : stepL n (.ends g e) = { n with area := n.area.map fun a => (a.1, a.2.1, min a.2.2 e) } := if_pos c
          rw [e1]
          rcases nok with ⟨h1, _⟩ | ⟨_, a, h2⟩
          · omega
          rw [h2] at da ⊢
          obtain ⟨aa, rfl, haa⟩ := Dt.ar da
          refine ⟨_, rfl, aa, _, 0, _, rfl, rfl, SqT.of haa, atI_nat (j := 0) rfl, _, rfl, aa, _, 1, _, rfl, rfl, SqT.of haa, atI_nat (j := 1) rfl, ?_⟩
          refine ⟨_, rfl, aa, _, 2, _, rfl, rfl, SqT.of haa, atI_nat (j := 2) rfl, _, rfl, ad, _, 2, _, rfl, rfl, SqT.of ha, atI_nat (j := 2) rfl, _, _, rfl, ?_⟩
          refine ⟨(by show 3 ≤ sizeLine; decide), fun t ht => ?_⟩
          refine ⟨.ref t, _, rfl, sm.trans (same_new ht), ?_⟩
          exact Dt.ofAr upd_same
        · have c : ¬ g = n.grant := fun z => c (by rw [z])
          have e1 : stepL n (.ends g e) = n := if_neg c
          rw [e1]
          exact ⟨va, _, rfl, sm, da⟩
    · rintro σ H' ⟨va, v, rfl, sm, da⟩
      have e : ls.take vls.length = ls := by
        rw [hd.len, List.length_map, List.take_length]
      rw [e] at da ⊢
      refine ⟨_, rfl, _, rfl, _, rfl, _, rfl, (by show 4 ≤ sizeLine; decide), fun t ht => ?_⟩
      exact k t va _ (sm.trans (same_new ht)) upd_same (da.on (same_new ht).ts)
end
end K87
end
section
set_option Elab.async false
set_option linter.all false
set_option maxRecDepth 100000
set_option maxHeartbeats 4000000
/-! K87W3: greatest_taken, place_by, has_rule, are_rules, Settings. -/
namespace K87
open PySem PySem.Spec L2
open PyProof.Rows hiding St

/-! ### in, of texts and of numbers -/
theorem flat_strs (ws : List Str) : (ws.map V.str).all flatV = true := by
  induction ws with
  | nil => rfl
  | cons a r ih => rw [List.map_cons, List.all_cons, ih]; rfl
theorem flat_ints (ws : List Int) : (ws.map V.int).all flatV = true := by
  induction ws with
  | nil => rfl
  | cons a r ih => rw [List.map_cons, List.all_cons, ih]; rfl
theorem inV_strs (a : Str) (ws : List Str) : inV (.str a) (ws.map V.str) = decide (a ∈ ws) := by
  induction ws with
  | nil => rfl
  | cons b r ih =>
    have e : inV (.str a) ((b :: r).map V.str) = ((b == a) || inV (.str a) (r.map V.str)) := rfl
    rw [e, ih]
    by_cases h : b = a
    · simp [h]
    · have h' : ¬ a = b := fun z => h z.symm
      simp [h, h']
theorem inV_ints (a : Int) (ws : List Int) : inV (.int a) (ws.map V.int) = decide (a ∈ ws) := by
  induction ws with
  | nil => rfl
  | cons b r ih =>
    have e : inV (.int a) ((b :: r).map V.int) = ((b == a) || inV (.int a) (r.map V.int)) := rfl
    rw [e, ih]
    by_cases h : b = a
    · simp [h]
    · have h' : ¬ a = b := fun z => h z.symm
      simp [h, h']
def rInS (K : PySem.W.Frag) : R2 := fun x y H Q => ∃ (a : Str) (p : Addr) (ws : List Str), x = .str a ∧ y = .ref p ∧ (SqL K H p (ws.map .str) ∨ SqT K H p (ws.map .str)) ∧ Q (.bl (decide (a ∈ ws))) H
def rNotInS (K : PySem.W.Frag) : R2 := fun x y H Q => ∃ (a : Str) (p : Addr) (ws : List Str), x = .str a ∧ y = .ref p ∧ (SqL K H p (ws.map .str) ∨ SqT K H p (ws.map .str)) ∧ Q (.bl (!decide (a ∈ ws))) H
def rInI (K : PySem.W.Frag) : R2 := fun x y H Q => ∃ (a : Int) (p : Addr) (ws : List Int), x = .int a ∧ y = .ref p ∧ (SqL K H p (ws.map .int) ∨ SqT K H p (ws.map .int)) ∧ Q (.bl (decide (a ∈ ws))) H
theorem op_inS {X : Cx} : OpR X (compareOp .In) (rInS X.K) := by
  intro pins s σ H x y v u Q I rx ry ⟨a, p, ws, ex, ey, hs, q⟩
  refine op_in_seq pins s σ H x y v u Q I rx ry ⟨p, _, ey, hs, by rw [ex]; rfl, flat_strs ws, ?_⟩
  rw [ex]
  show Q (.bl (inV (.str a) (ws.map .str))) H
  rw [inV_strs]
  exact q
theorem op_notInS {X : Cx} : OpR X (compareOp .NotIn) (rNotInS X.K) := by
  intro pins s σ H x y v u Q I rx ry ⟨a, p, ws, ex, ey, hs, q⟩
  refine op_notIn_seq pins s σ H x y v u Q I rx ry ⟨p, _, ey, hs, by rw [ex]; rfl, flat_strs ws, ?_⟩
  rw [ex]
  show Q (.bl (!inV (.str a) (ws.map .str))) H
  rw [inV_strs]
  exact q
theorem op_inI {X : Cx} : OpR X (compareOp .In) (rInI X.K) := by
  intro pins s σ H x y v u Q I rx ry ⟨a, p, ws, ex, ey, hs, q⟩
  refine op_in_seq pins s σ H x y v u Q I rx ry ⟨p, _, ey, hs, by rw [ex]; rfl, flat_ints ws, ?_⟩
  rw [ex]
  show Q (.bl (inV (.int a) (ws.map .int))) H
  rw [inV_ints]
  exact q

def five : List Str := ["ahead", "apart", "ends", "once", "spoken"]
section
variable {P : Program} {w : World} {K : PySem.W.Frag} {mg : Str → Option Value} {base : Heap} {A : Ads}

def spGreat : Sp := fun vs H Q _ => ∃ (l : Addr) (vls : List V) (ls : List Line), vs = [.ref l] ∧ H l = some (.lst vls) ∧ Dts H (ls.map eL) vls ∧ Q (.int (greatL ls)) H
theorem ok_greatest_taken (T : Txt K mg A) : FnOk P w K mg base CX0 1 A.f_greatest_taken A.d_greatest_taken ["lines"] spGreat := by
  refine T.t_greatest_taken.fn.ok sc_greatest_taken (fun vs H Q E h => ?_) (fun cdv A' outer s0 H vs Q E hr h => ?_)
  · obtain ⟨l, vls, ls, rfl, _⟩ := h
    rfl
  · obtain ⟨l, vls, ls, rfl, hl, hd, k⟩ := h
    refine ⟨_, (pss_cons (ps_set (i := 1) sc_greatest_taken.nd rfl (.inl rfl) pe_int) (pss_cons (ps_for PassesOwn.never rfl (pi_list (pv 0)) (pg_name (i := 2) sc_greatest_taken.nd rfl (.inl rfl)) (pss_one (ps_if (pt_cmpR op_eq (pe_ix ix_tup (pv 2) pe_int (fun _ _ => rfl)) pe_str (nomark _)) (pss_one (ps_set (i := 1) sc_greatest_taken.nd rfl (.inl rfl) (pe_callB (call_mx2 rfl) (by rfl) T.z_max boot_max (pa_cons (pv 1) (pa_cons (pe_ix ix_tup (pv 2) pe_int (fun _ _ => rfl)) pa_nil))))) pss_nil))) (pss_one (ps_ret (pv 1))))), ?_⟩
    refine ⟨_, rfl, l, rfl, ⟨_, SqL.of hl⟩, for_list (K := K) (a := l) (xs := vls) (fun i σ H' => ∃ v, σ = [some (.ref l), some (.int (greatL (ls.take i))), v] ∧ H' = H) ⟨none, rfl, rfl⟩ (fun i σ H' _ ⟨_, _, e⟩ => by rw [e]; exact SqL.of hl) ?_ ?_⟩
    · rintro i x σ H' hi ⟨v, rfl, rfl⟩
      have hlen := hd.len
      obtain ⟨y, hy⟩ : ∃ y, ls[i]? = some y := by
        have h1 := (List.getElem?_eq_some_iff.mp hi).1
        rw [hlen, List.length_map] at h1
        exact ⟨_, List.getElem?_eq_getElem h1⟩
      obtain ⟨x', hx', dx⟩ := hd.get (k := eL y) (j := i) (by rw [List.getElem?_map, hy]; rfl)
      rw [hi] at hx'
      cases hx'
      rw [take_snoc hy, greatL_snoc]
      generalize greatL (ls.take i) = n at *
      cases y with
      | took g a =>
        obtain ⟨ad, vs, rfl, ha, hds⟩ := Dt.tup_inv dx
        obtain ⟨v1, r1, rfl, d1, q1⟩ := hds.cons_inv
        obtain ⟨v2, r2, rfl, d2, q2⟩ := q1.cons_inv
        cases d1.txt_inv
        cases d2.num_inv
        refine ⟨_, rfl, ad, _, 0, _, rfl, rfl, SqT.of ha, atI_nat (j := 0) rfl, rfl, _, rfl, ifd rfl ?_⟩
        refine ⟨_, rfl, _, rfl, ad, _, 1, _, rfl, rfl, SqT.of ha, atI_nat (j := 1) rfl, _, _, rfl, ?_⟩
        exact ⟨_, rfl, rfl⟩
      | held m =>
        obtain ⟨ad, v1, v2, rfl, ha, d1, d2⟩ := Dt.at2 dx
        cases d1.txt_inv
        refine ⟨_, rfl, ad, _, 0, _, rfl, rfl, SqT.of ha, atI_nat (j := 0) rfl, rfl, _, rfl, ifdn (vstr_ne (by decide +kernel)) ?_⟩
        exact ⟨_, rfl, rfl⟩
      | heard b =>
        obtain ⟨ad, v1, v2, rfl, ha, d1, d2⟩ := Dt.at2 dx
        cases d1.txt_inv
        refine ⟨_, rfl, ad, _, 0, _, rfl, rfl, SqT.of ha, atI_nat (j := 0) rfl, rfl, _, rfl, ifdn (vstr_ne (by decide +kernel)) ?_⟩
        exact ⟨_, rfl, rfl⟩
      | ends g e =>
        obtain ⟨ad, vs, rfl, ha, hds⟩ := Dt.tup_inv dx
        obtain ⟨v1, r1, rfl, d1, q1⟩ := hds.cons_inv
        cases d1.txt_inv
        refine ⟨_, rfl, ad, _, 0, _, rfl, rfl, SqT.of ha, atI_nat (j := 0) rfl, rfl, _, rfl, ifdn (vstr_ne (by decide +kernel)) ?_⟩
        exact ⟨_, rfl, rfl⟩
    · rintro σ H' ⟨v, rfl, rfl⟩
      have e : ls.take vls.length = ls := by
        rw [hd.len, List.length_map, List.take_length]
      rw [e]
      exact ⟨_, rfl, k⟩

def spPlaceBy : Sp := fun vs H Q _ => ∃ (l : Addr) (vls : List V) (ls : List Line), vs = [.ref l] ∧ H l = some (.lst vls) ∧ Dts H (ls.map eL) vls ∧ (∀ x ∈ ls, gOk x) ∧
  ∀ t H', Same H H' → H' t = some (.tup [.int (max (readL ls).held (readL ls).heard), .int 0]) → Q (.ref t) H'
theorem ok_place_by (T : Txt K mg A) : FnOk P w K mg base CX0 2 A.f_place_by A.d_place_by ["lines"] spPlaceBy := by
  refine T.t_place_by.fn.ok sc_place_by (fun vs H Q E h => ?_) (fun cdv A' outer s0 H vs Q E hr h => ?_)
  · obtain ⟨l, vls, ls, rfl, _⟩ := h
    rfl
  · obtain ⟨l, vls, ls, rfl, hl, hd, hg, k⟩ := h
    refine ⟨_, (pss_cons (ps_asg (pe_call (ok_read_note T) (hr.mono (by decide)) (by rfl) T.t_read_note.gl T.t_read_note.fn.kp T.t_read_note.bd .nil pass0 (pa_cons (pv 0) pa_nil)) (pg_tup rfl (pgs_cons (pg_name (i := 1) sc_place_by.nd rfl (.inl rfl)) (pgs_cons (pg_name (i := 2) sc_place_by.nd rfl (.inl rfl)) (pgs_cons (pg_name (i := 3) sc_place_by.nd rfl (.inl rfl)) (pgs_cons (pg_name (i := 4) sc_place_by.nd rfl (.inl rfl)) pgs_nil)))))) (pss_one (ps_ret (pe_tup (pa_cons (pe_callB (call_mx2 rfl) (by rfl) T.z_max boot_max (pa_cons (pv 3) (pa_cons (pv 4) pa_nil))) (pa_cons pe_int pa_nil)))))), ?_⟩
    refine ⟨_, rfl, l, vls, ls, rfl, hl, hd, hg, fun t va H1 s1 ht da => ?_⟩
    refine ⟨t, _, rfl, SqT.of ht, rfl, _, _, rfl, _, _, rfl, _, _, rfl, _, _, rfl, rfl, ?_⟩
    refine ⟨_, rfl, _, rfl, _, _, rfl, (by show 2 ≤ sizeLine; decide), fun t2 ht2 => ?_⟩
    exact k t2 _ (s1.trans (same_new ht2)) upd_same

def spHasRule (A : Ads) (K : PySem.W.Frag) : Sp := fun vs H Q _ => ∃ (se : Addr) (x : Str) (c s f r t : Int) (rs : List Str), vs = [.ref se, .str x] ∧ SetsAt A K H se c s f r t rs ∧ Q (.bl (decide (x ∈ rs))) H
theorem ok_has_rule (T : Txt K mg A) : FnOk P w K mg base CX0 1 A.f_has_rule A.d_has_rule ["settings", "word"] (spHasRule A K) := by
  refine T.t_has_rule.fn.ok sc_has_rule (fun vs H Q E h => ?_) (fun cdv A' outer s0 H vs Q E hr h => ?_)
  · obtain ⟨se, x, c, s, f, r, t, rs, rfl, _⟩ := h
    rfl
  · obtain ⟨se, x, c, s, f, r, t, rs, rfl, ⟨dx, sh, ru, h1, h2, h3⟩, k⟩ := h
    refine ⟨_, (pss_one (ps_ret (pe_cmpR op_inS (pv 1) (pe_fld (pv 0) rfl) (by rfl)))), ?_⟩
    exact ⟨_, rfl, _, rfl, se, A.c_Settings, dx, _, _, rfl, h1, T.cl_Settings, T.n_Settings_rules, lk_miss (by decide +kernel) (lk_miss (by decide +kernel) (lk_miss (by decide +kernel) (lk_miss (by decide +kernel) lk_hit))), x, ru, rs, rfl, rfl, .inr (SqT.of h3), k⟩

def spAreRules : Sp := fun vs H Q _ => ∃ (a : Addr) (rs : List Str), vs = [.ref a] ∧ H a = some (.lst (rs.map .str)) ∧ rs.Nodup ∧ (∀ x ∈ rs, x ∈ five) ∧ rs.length ≤ 5 ∧ ∀ H', Same H H' → Q (.bl true) H'
theorem ok_are_rules (T : Txt K mg A) : FnOk P w K mg base CX0 1 A.f_are_rules A.d_are_rules ["thing"] spAreRules := by
  refine T.t_are_rules.fn.ok sc_are_rules (fun vs H Q E h => ?_) (fun cdv A' outer s0 H vs Q E hr h => ?_)
  · obtain ⟨a, rs, rfl, _⟩ := h
    rfl
  · obtain ⟨a, rs, rfl, ha, nd, h5, hl5, k⟩ := h
    refine ⟨_, (pss_cons (ps_if (pt_not (pt_val (pe_callB call_isiT (by rfl) T.z_isinstance boot_isinstance (pa_cons (pv 0) (pa_cons (pe_tup (pa_cons (pe_bltn (v := .ty "list") (by rfl) T.z_list boot_list rfl) (pa_cons (pe_bltn (v := .ty "tuple") (by rfl) T.z_tuple boot_tuple rfl) pa_nil))) pa_nil))))) (pss_one (ps_ret pe_bl)) pss_nil) (pss_cons (ps_set (i := 1) sc_are_rules.nd rfl (.inl rfl) (pe_lst pa_nil)) (pss_cons (ps_for PassesOwn.never rfl (pi_list (pv 0)) (pg_name (i := 2) sc_are_rules.nd rfl (.inl rfl)) (pss_cons (ps_if (PW.pt (pw_or (pt_not (pt_val (pe_callB call_isi (by rfl) T.z_isinstance boot_isinstance (pa_cons (pv 2) (pa_cons (pe_bltn (v := .ty "str") (by rfl) T.z_str boot_str rfl) pa_nil))))) (pw_or (pt_cmpR op_notInS (pv 2) (pe_glob (v := .ref A.a_RULES) (by rfl) T.k_RULES.1 rfl) (by rfl)) (pw_or1 (pt_cmpR op_inS (pv 2) (pv 1) (by rfl)))))) (pss_one (ps_ret pe_bl)) pss_nil) (pss_one (ps_expr (pe_bm PySem.F.plainAttrs_list PySem.F.slot_list_append PySem.F.type_list_append mt_append (pv 1) (pa_cons (pv 2) pa_nil)))))) (pss_one (ps_ret pe_bl))))), ?_⟩
    refine ⟨_, rfl, (by show 2 ≤ sizeLine; decide), fun t ht => ?_⟩
    have s1 := same_new (o := .tup [.ty "list", .ty "tuple"]) ht
    refine ⟨.ref a, t, _, .type "list", [.type "list", .type "tuple"], true, rfl, upd_same, .cons (.ty _) (.cons (.ty _) .nil), .base (.lst (s1 _ _ ha)), kitAny_cons (b := true) (kit_ty (by decide +kernel)) (fun z => nomatch z) (fun _ => rfl), true, rfl, iteF ?_⟩
    refine ⟨Nat.zero_le _, fun d hd => ?_⟩
    have s2 := s1.trans (same_new (o := .lst []) hd)
    refine ⟨_, rfl, a, rfl, ⟨_, SqL.of (s2 _ _ ha)⟩, for_list (K := K) (a := a) (xs := rs.map .str) (fun i σ H' => ∃ v, σ = [some (.ref a), some (.ref d), v] ∧ Same H H' ∧ H' d = some (.lst ((rs.take i).map .str))) ⟨none, rfl, s2, upd_same⟩ (fun i σ H' _ ⟨_, _, e, _⟩ => SqL.of (e _ _ ha)) ?_ ?_⟩
    · rintro i x σ H' hi ⟨v, rfl, sm, hd'⟩
      obtain ⟨y, hy, rfl⟩ : ∃ y, rs[i]? = some y ∧ x = .str y := by
        rw [List.getElem?_map] at hi
        cases e : rs[i]? with
        | none => rw [e] at hi; cases hi
        | some y => rw [e] at hi; exact ⟨y, rfl, (Option.some.inj hi).symm⟩
      have y5 := h5 y (List.mem_of_getElem? hy)
      have hnot : y ∉ rs.take i := fun z => by
        obtain ⟨j, hj⟩ := List.getElem?_of_mem z
        have hji : j < i := by
          have q := (List.getElem?_eq_some_iff.mp hj).1
          rw [List.length_take] at q
          omega
        rw [List.getElem?_take, if_pos hji] at hj
        exact absurd (nd_ix nd hj hy) (Nat.ne_of_lt hji)
      refine ⟨_, rfl, .str y, .ty "str", .type "str", .type "str", true, rfl, .ty _, .base (.str y), kit_ty (by decide +kernel), true, rfl, iteF ?_⟩
      refine ⟨_, rfl, y, A.a_RULES, five, rfl, rfl, .inr (T.k_RULES.2 _), _, rfl, ifnd y5 ?_⟩
      refine ⟨_, rfl, _, rfl, y, d, rs.take i, rfl, rfl, .inl (SqL.of hd'), _, rfl, ifdn hnot ?_⟩
      refine ⟨_, rfl, .inl ⟨rfl, _, SqL.of hd'⟩, _, rfl, d, _, _, rfl, rfl, hd', ?_, ?_⟩
      · rw [List.length_map, List.length_take]
        exact Nat.lt_of_le_of_lt (Nat.le_trans (Nat.min_le_right _ _) hl5) (by decide)
      · refine ⟨_, rfl, fun b o e => ?_, ?_⟩
        · by_cases hb : b = d
          · rw [hb] at e
            rw [s1.free hd] at e
            cases e
          · rw [upd_ne hb]; exact sm _ _ e
        · rw [upd_same, take_snoc hy, List.map_append]
          rfl
    · rintro σ H' ⟨v, rfl, sm, _⟩
      exact k H' sm

/-- Settings(shape, far, room, term, rules) -/
def spSettingsI (A : Ads) (K : PySem.W.Frag) : Sp := fun vs H Q _ => ∃ (p dx sh ru : Addr) (c s far room term : Int) (rs : List Str), vs = [.ref p, .ref sh, .int far, .int room, .int term, .ref ru] ∧ H p = some (.ins A.c_Settings dx []) ∧ ShapeAt A H sh c s ∧
  (0 ≤ far ∧ far ≤ 1000000000000) ∧ (1 ≤ room ∧ room ≤ 1000000000000) ∧ (1 ≤ term ∧ term ≤ 1000000000000) ∧ H ru = some (.lst (rs.map .str)) ∧ rs.Nodup ∧ (∀ x ∈ rs, x ∈ five) ∧ rs.length ≤ 5 ∧
  ∀ H' rs', SameBut [p] H H' → SetsAt A K H' p c s far room term rs' → (∀ x, x ∈ rs' ↔ x ∈ rs) → Q .non H'
theorem ok_SettingsI (T : Txt K mg A) : FnOk P w K mg base CX0 2 A.f_Settings_init A.d_Settings_init ["self", "shape", "far", "room", "term", "rules"] (spSettingsI A K) := by
  refine T.F_Settings_init.ok sc_Settings_init (fun vs H Q E h => ?_) (fun cdv A' outer s0 H vs Q E hr h => ?_)
  · obtain ⟨p, dx, sh, ru, c, s, far, room, term, rs, rfl, _⟩ := h
    rfl
  · obtain ⟨p, dx, sh, ru, c, s, far, room, term, rs, rfl, hp, hS, hf, ho, ht, hru, nd, h5, hl5, k⟩ := h
    obtain ⟨tG, gG⟩ := T.k_GREATEST
    refine ⟨_, PSs.nox (pss_cons (ps_if (pt_cmp (pc_isN (pv 5)) rfl) (pss_one (ps_set (i := 5) sc_Settings_init.nd rfl (.inl rfl) (pe_glob (v := .ref A.a_RULES) (by rfl) T.k_RULES.1 rfl))) pss_nil) (pss_cons (ps_for PassesOwn.never rfl (pi_list (pe_lst (pa_cons (pe_tup (pa_cons pe_str (pa_cons (pv 2) (pa_cons pe_int pa_nil)))) (pa_cons (pe_tup (pa_cons pe_str (pa_cons (pv 3) (pa_cons pe_int pa_nil)))) (pa_cons (pe_tup (pa_cons pe_str (pa_cons (pv 4) (pa_cons pe_int pa_nil)))) pa_nil))))) (pg_tup rfl (pgs_cons (pg_name (i := 6) sc_Settings_init.nd rfl (.inl rfl)) (pgs_cons (pg_name (i := 7) sc_Settings_init.nd rfl (.inl rfl)) (pgs_cons (pg_name (i := 8) sc_Settings_init.nd rfl (.inl rfl)) pgs_nil)))) (pss_one (ps_if (PW.pt (pw_or (pt_not (pt_val (pe_call (ok_is_whole T) (hr.mono (by decide)) (by rfl) T.t_is_whole.gl T.t_is_whole.fn.kp T.t_is_whole.bd .nil pass0 (pa_cons (pv 7) pa_nil)))) (pw_or1 (pt_not (pt_chain op_le op_le (pv 8) (pv 7) (pe_glob (v := .int 1000000000000) (by rfl) gG ⟨_, rfl⟩)))))) (pss_one ps_never) pss_nil))) (pss_cons (ps_if (pt_not (pt_val (pe_call (ok_are_rules T) (hr.mono (by decide)) (by rfl) T.t_are_rules.gl T.t_are_rules.fn.kp T.t_are_rules.bd .nil pass0 (pa_cons (pv 5) pa_nil)))) (pss_one ps_never) pss_nil) (pss_cons (ps_fld (pv 0) (pv 1) rfl) (pss_cons (ps_fld (pv 0) (pv 2) rfl) (pss_cons (ps_fld (pv 0) (pv 3) rfl) (pss_cons (ps_fld (pv 0) (pv 4) rfl) (pss_one (ps_fld (pv 0) (pe_callTy call_tuple_of (by rfl) T.z_tuple boot_tuple (pa_cons (pe_callB cr_sortedS (by rfl) T.z_sorted boot_sorted (pa_cons (pv 5) pa_nil)) pa_nil)) rfl))))))))), ?_⟩
    refine ⟨_, rfl, _, rfl, ifdn (fun z => by cases z) ?_⟩
    refine ⟨_, rfl, (by show 3 ≤ sizeLine; decide), fun t1 h1 => ?_⟩
    refine ⟨_, rfl, (by show 3 ≤ sizeLine; decide), fun t2 h2 => ?_⟩
    refine ⟨_, rfl, (by show 3 ≤ sizeLine; decide), fun t3 h3 => ?_⟩
    refine ⟨(by show 3 ≤ sizeLine; decide), fun l hl => ?_⟩
    have s1 := same_new (o := .tup [.str "far", .int far, .int 0]) h1
    have s2 := same_new (o := .tup [.str "room", .int room, .int 1]) h2
    have s3 := same_new (o := .tup [.str "term", .int term, .int 1]) h3
    have s4 := same_new (o := .lst [.ref t1, .ref t2, .ref t3]) hl
    have sa := ((s1.trans s2).trans s3).trans s4
    have e1 := s4 _ _ (s3 _ _ (s2 _ _ (upd_same (H := H) (a := t1) (o := .tup [.str "far", .int far, .int 0]))))
    have e2 := s4 _ _ (s3 _ _ (upd_same (H := upd H t1 (.tup [.str "far", .int far, .int 0])) (a := t2) (o := .tup [.str "room", .int room, .int 1])))
    have e3 := s4 _ _ (upd_same (H := upd (upd H t1 (.tup [.str "far", .int far, .int 0])) t2 (.tup [.str "room", .int room, .int 1])) (a := t3) (o := .tup [.str "term", .int term, .int 1]))
    have e4 := upd_same (H := upd (upd (upd H t1 (.tup [.str "far", .int far, .int 0])) t2 (.tup [.str "room", .int room, .int 1])) t3 (.tup [.str "term", .int term, .int 1])) (a := l) (o := .lst [.ref t1, .ref t2, .ref t3])
    generalize upd (upd (upd (upd H t1 (.tup [.str "far", .int far, .int 0])) t2 (.tup [.str "room", .int room, .int 1])) t3 (.tup [.str "term", .int term, .int 1])) l (.lst [.ref t1, .ref t2, .ref t3]) = H4 at *
    refine ⟨l, rfl, ⟨_, SqL.of e4⟩, for_list (K := K) (a := l) (xs := [.ref t1, .ref t2, .ref t3]) (fun i σ H' => ∃ a b d, σ = [some (.ref p), some (.ref sh), some (.int far), some (.int room), some (.int term), some (.ref ru), a, b, d] ∧ H' = H4) ⟨none, none, none, rfl, rfl⟩ (fun i σ H' _ ⟨_, _, _, _, e⟩ => by rw [e]; exact SqL.of e4) ?_ ?_⟩
    · rintro i x σ H' hi ⟨a, b, d, rfl, rfl⟩
      obtain ⟨t, wd, z, lo, rfl, et, hz⟩ : ∃ (t : Addr) (wd : Str) (z lo : Int), x = .ref t ∧ H' t = some (.tup [.str wd, .int z, .int lo]) ∧ lo ≤ z ∧ z ≤ 1000000000000 := by
        rcases i with _ | _ | _ | i
        · cases hi; exact ⟨t1, _, _, _, rfl, e1, hf⟩
        · cases hi; exact ⟨t2, _, _, _, rfl, e2, ho⟩
        · cases hi; exact ⟨t3, _, _, _, rfl, e3, ht⟩
        · cases hi
      refine ⟨t, _, rfl, SqT.of et, rfl, _, _, rfl, _, _, rfl, _, _, rfl, rfl, ?_⟩
      refine ⟨_, rfl, z, rfl, true, rfl, iteF ?_⟩
      refine ⟨_, rfl, _, rfl, _, _, rfl, rfl, _, rfl, ifd hz.1 ?_⟩
      exact ⟨_, _, rfl, rfl, _, rfl, ifnd hz.2 ⟨_, _, _, rfl, rfl⟩⟩
    · rintro σ H' ⟨a, b, d, rfl, rfl⟩
      refine ⟨_, rfl, ru, rs, rfl, sa _ _ hru, nd, h5, hl5, fun H5 s5 => ⟨true, rfl, iteF ?_⟩⟩
      have hp5 := s5 _ _ (sa _ _ hp)
      have hS5 := (hS.on sa).on s5
      have hr5 := s5 _ _ (sa _ _ hru)
      have pr : ru ≠ p := ne_of hr5 hp5 (by intro z; cases z)
      have psh : sh ≠ p := by
        obtain ⟨dx', q⟩ := hS5
        exact ne_of q hp5 (by intro z; injection z with _ _ z; cases z)
      refine ⟨_, rfl, _, rfl, p, A.c_Settings, dx, [], rfl, hp5, T.cl_Settings, T.n_Settings_shape, (by show 0 < 1000; decide), ?_⟩
      refine ⟨_, rfl, _, rfl, p, A.c_Settings, dx, _, rfl, upd_same, T.cl_Settings, T.n_Settings_far, (by show 1 < 1000; decide), ?_⟩
      refine ⟨_, rfl, _, rfl, p, A.c_Settings, dx, _, rfl, upd_same, T.cl_Settings, T.n_Settings_room, (by rw [pf_nil, pf_miss (by decide +kernel) pf_nil]; show 2 < 1000; decide), ?_⟩
      refine ⟨_, rfl, _, rfl, p, A.c_Settings, dx, _, rfl, upd_same, T.cl_Settings, T.n_Settings_term, (by rw [pf_nil, pf_miss (by decide +kernel) pf_nil, pf_miss (by decide +kernel) (pf_miss (by decide +kernel) pf_nil)]; show 3 < 1000; decide), ?_⟩
      rw [upd_upd, upd_upd, upd_upd, pf_nil, pf_miss (by decide +kernel) pf_nil, pf_miss (by decide +kernel) (pf_miss (by decide +kernel) pf_nil), pf_miss (by decide +kernel) (pf_miss (by decide +kernel) (pf_miss (by decide +kernel) pf_nil))]
      refine ⟨_, rfl, ru, rs, rfl, .inl (.inl (by rw [upd_ne pr]; exact hr5)), Nat.lt_of_le_of_lt hl5 (by decide), fun ys q hperm _ hq => ?_⟩
      refine ⟨q, _, rfl, .inl ⟨SqL.of upd_same, fun tp htp => ?_⟩⟩
      have npq : p ≠ q := fun z => by rw [← z, upd_same] at hq; cases hq
      have nptp : p ≠ tp := fun z => by rw [← z, upd_ne npq, upd_same] at htp; cases htp
      refine ⟨_, rfl, p, A.c_Settings, dx, _, rfl, by rw [upd_ne nptp, upd_ne npq, upd_same], T.cl_Settings, T.n_Settings_rules, (by show 4 < 1000; decide), ?_⟩
      rw [pf_miss (by decide +kernel) (pf_miss (by decide +kernel) (pf_miss (by decide +kernel) (pf_miss (by decide +kernel) pf_nil)))]
      have hq5 : H5 q = none := by rw [upd_ne npq.symm] at hq; exact hq
      have htp5 : H5 tp = none := by
        by_cases z : tp = q
        · rw [z]; exact hq5
        · rw [upd_ne z, upd_ne nptp.symm] at htp; exact htp
      refine k _ ys (fun b o e nb => ?_) ⟨dx, sh, tp, upd_same, ?_, ?_⟩ (fun x => hperm.mem_iff)
      · have nb : b ≠ p := fun z => nb (by simp [z])
        have e5 := s5 _ _ (sa _ _ e)
        rw [upd_ne nb, upd_ne (ne_of_none e5 htp5), upd_ne (ne_of_none e5 hq5), upd_ne nb]
        exact e5
      · obtain ⟨dx', q'⟩ := hS5
        refine ⟨dx', ?_⟩
        rw [upd_ne psh, upd_ne (ne_of_none q' htp5), upd_ne (ne_of_none q' hq5), upd_ne psh]
        exact q'
      · rw [upd_ne nptp.symm, upd_same]
end
end K87
end
section
set_option Elab.async false
set_option linter.all false
set_option maxRecDepth 100000
set_option maxHeartbeats 4000000
/-! K87W4: a Hand's methods. -/
namespace K87
open PySem PySem.Spec L2
open PyProof.Rows hiding St

def rlOf (rs : List Str) : Rl := ⟨decide (("ahead" : Str) ∈ rs), decide (("ends" : Str) ∈ rs), decide (("once" : Str) ∈ rs), decide (("spoken" : Str) ∈ rs)⟩
/-- the settings of c -/
structure SetC (A : Ads) (K : PySem.W.Frag) (H : Hp) (se : Addr) (c : Cf) (rs : List Str) : Prop where
  at_ : ∃ term, SetsAt A K H se c.counts c.slots c.far c.room term rs
  rl : c.rl = rlOf rs
  c1 : 1 ≤ c.counts ∧ c.counts ≤ 1000
  s1 : 1 ≤ c.slots ∧ c.slots ≤ 1000
theorem SetC.on {A : Ads} {K : PySem.W.Frag} {H H' : Hp} {se : Addr} {c : Cf} {rs : List Str} (h : SetC A K H se c rs) (e : Same H H') : SetC A K H' se c rs :=
  ⟨h.at_.elim fun t q => ⟨t, q.on e⟩, h.rl, h.c1, h.s1⟩
abbrev hfs (nm : V) (se l : Addr) (vst : V) : List (Str × V) := [("name", nm), ("settings", .ref se), ("lines", .ref l), ("stand", vst)]
/-- a Hand at p, its lines' list at l (n of them), its settings at se -/
def HandAt (A : Ads) (H : Hp) (p l se : Addr) (n : Nat) (h : Hd) : Prop := ∃ (dx : Addr) (nm vst : V) (vls : List V) (ls : List Line), H p = some (.ins A.c_Hand dx (hfs nm se l vst)) ∧ H l = some (.lst vls) ∧ Dts H (ls.map eL) vls ∧ ls.length = n ∧ (∀ x ∈ ls, gOk x) ∧
  readL ls = ⟨h.grant, h.area, h.held, h.heard⟩ ∧ greatL ls = h.most ∧ Dt H (ePlO h.place) vst
theorem HandAt.on {A : Ads} {H H' : Hp} {p l se : Addr} {n : Nat} {h : Hd} (x : HandAt A H p l se n h) (e : Same H H') : HandAt A H' p l se n h := by
  obtain ⟨dx, nm, vst, vls, ls, h1, h2, h3, h4, h5, h6, h7, h8⟩ := x
  exact ⟨dx, nm, vst, vls, ls, e _ _ h1, e _ _ h2, h3.on e.ts, h4, h5, h6, h7, h8.on e.ts⟩
/-- the stand is stored -/
theorem HandAt.stand {A : Ads} {H : Hp} {p l se dx : Addr} {nm vst v : V} {vls : List V} {ls : List Line} {h : Hd} {pl : Option Pl} (h1 : H p = some (.ins A.c_Hand dx (hfs nm se l vst))) (h2 : H l = some (.lst vls)) (h3 : Dts H (ls.map eL) vls) (h5 : ∀ x ∈ ls, gOk x)
    (h6 : readL ls = ⟨h.grant, h.area, h.held, h.heard⟩) (h7 : greatL ls = h.most) (d : Dt H (ePlO pl) v) : HandAt A (upd H p (.ins A.c_Hand dx (hfs nm se l v))) p l se ls.length { h with place := pl } := by
  have npl : l ≠ p := ne_of h2 h1 (by intro z; cases z)
  have ts : TSame H (upd H p (.ins A.c_Hand dx (hfs nm se l v))) := fun b xs e => by rw [upd_ne (ne_of e h1 (by intro z; cases z))]; exact e
  exact ⟨dx, nm, v, vls, ls, upd_same, by rw [upd_ne npl]; exact h2, h3.on ts, rfl, h5, h6, h7, d.on ts⟩
/-- a line is written: the parts behind -/
theorem line_put {A : Ads} {H H1 : Hp} {p l se dx : Addr} {nm vst v : V} {vls : List V} {ls : List Line} {x : Line} (s : Same H H1) (h1 : H p = some (.ins A.c_Hand dx (hfs nm se l vst))) (h2 : H l = some (.lst vls)) (h3 : Dts H (ls.map eL) vls) (h5 : ∀ x ∈ ls, gOk x) (d : Dt H1 (eL x) v) (g : gOk x) :
    (upd H1 l (.lst (vls ++ [v]))) p = some (.ins A.c_Hand dx (hfs nm se l vst)) ∧ Dts (upd H1 l (.lst (vls ++ [v]))) ((ls ++ [x]).map eL) (vls ++ [v]) ∧ (∀ y ∈ ls ++ [x], gOk y) ∧ TSame H1 (upd H1 l (.lst (vls ++ [v]))) := by
  have npl : p ≠ l := ne_of h1 h2 (by intro z; cases z)
  have ts : TSame H1 (upd H1 l (.lst (vls ++ [v]))) := fun b xs e => by rw [upd_ne (ne_of e (s _ _ h2) (by intro z; cases z))]; exact e
  refine ⟨by rw [upd_ne npl]; exact s _ _ h1, ?_, fun y hy => ?_, ts⟩
  · rw [List.map_append]
    exact Dts.app ((h3.on s.ts).on ts) (.cons (d.on ts) .nil)
  · rcases List.mem_append.mp hy with hy | hy
    · exact h5 y hy
    · rw [List.mem_singleton.mp hy]; exact g
theorem hlk_settings {nm vst : V} {se l : Addr} : (hfs nm se l vst).lookup ("settings" : Str) = some (.ref se) := lk_miss (by decide +kernel) lk_hit
theorem hlk_lines {nm vst : V} {se l : Addr} : (hfs nm se l vst).lookup ("lines" : Str) = some (.ref l) := lk_miss (by decide +kernel) (lk_miss (by decide +kernel) lk_hit)
theorem hlk_stand {nm vst : V} {se l : Addr} : (hfs nm se l vst).lookup ("stand" : Str) = some vst := lk_miss (by decide +kernel) (lk_miss (by decide +kernel) (lk_miss (by decide +kernel) lk_hit))
theorem hpf_stand {nm vst v : V} {se l : Addr} : putF ("stand" : Str) v (hfs nm se l vst) = hfs nm se l v := pf_miss (by decide +kernel) (pf_miss (by decide +kernel) (pf_miss (by decide +kernel) pf_hit))
theorem hlk_none {nm vst : V} {se l : Addr} {f : Str} (h1 : (f == ("name" : Str)) = false) (h2 : (f == ("settings" : Str)) = false) (h3 : (f == ("lines" : Str)) = false) (h4 : (f == ("stand" : Str)) = false) : (hfs nm se l vst).lookup f = none :=
  lk_miss h1 (lk_miss h2 (lk_miss h3 (lk_miss h4 rfl)))
theorem hlen {nm vst : V} {se l : Addr} : (hfs nm se l vst).length < 1000 := by show 4 < 1000; decide

section
variable {P : Program} {w : World} {K : PySem.W.Frag} {mg : Str → Option Value} {base : Heap} {A : Ads}
def Rs (K : PySem.W.Frag) (A : Ads) (C : Addr) : Prop := PySem.W.exmOne K (.ref C) (.ref A.c_Rise) = some true
/-- a refusal is wanted of -/
def Ref (K : PySem.W.Frag) (A : Ads) (H : Hp) (E : XK) : Prop := ∀ C d H', Rs K A C → Same H H' → E (.ref C) d H'
theorem Ref.on {H H' : Hp} {E : XK} (r : Ref K A H E) (e : Same H H') : Ref K A H' E := fun C d H2 c s => r C d H2 c (e.trans s)

def spHandI (A : Ads) : Sp := fun vs H Q _ => ∃ (p dx se : Addr) (nm : V), vs = [.ref p, nm, .ref se, .non] ∧ H p = some (.ins A.c_Hand dx []) ∧
  ∀ H' l, SameBut [p] H H' → H l = none → HandAt A H' p l se 0 ⟨some (0, 0), 0, none, 0, 0, 0⟩ → Q .non H'
theorem ok_HandI (T : Txt K mg A) : FnOk P w K mg base CX0 3 A.f_Hand_init A.d_Hand_init ["self", "name", "settings", "lines"] (spHandI A) := by
  refine T.F_Hand_init.ok sc_Hand_init (fun vs H Q E h => ?_) (fun cdv A' outer s0 H vs Q E hr h => ?_)
  · obtain ⟨p, dx, se, nm, rfl, _⟩ := h
    rfl
  · obtain ⟨p, dx, se, nm, rfl, hp, k⟩ := h
    refine ⟨_, PSs.nox (pss_cons (ps_fld (pv 0) (pv 1) rfl) (pss_cons (ps_fld (pv 0) (pv 2) rfl) (pss_cons (ps_fld (pv 0) (pe_lst pa_nil) rfl) (pss_cons (ps_if (pt_cmp (pc_notN (pv 3)) rfl) (pss_one (ps_fld (pv 0) (pe_callTy call_list_of (by rfl) T.z_list boot_list (pa_cons (pv 3) pa_nil)) rfl)) pss_nil) (pss_one (ps_fld (pv 0) (pe_call (ok_place_by T) (hr.mono (by decide)) (by rfl) T.t_place_by.gl T.t_place_by.fn.kp T.t_place_by.bd .nil pass0 (pa_cons (pe_fld (pv 0) rfl) pa_nil)) rfl)))))), ?_⟩
    refine ⟨_, rfl, _, rfl, p, A.c_Hand, dx, [], rfl, hp, T.cl_Hand, T.n_Hand_name, (by show 0 < 1000; decide), ?_⟩
    refine ⟨_, rfl, _, rfl, p, A.c_Hand, dx, _, rfl, upd_same, T.cl_Hand, T.n_Hand_settings, (by show 1 < 1000; decide), ?_⟩
    rw [upd_upd, pf_nil, pf_miss (by decide +kernel) pf_nil]
    refine ⟨Nat.zero_le _, fun l hl => ?_⟩
    have npl : p ≠ l := fun z => by rw [← z, upd_same] at hl; cases hl
    have hl0 : H l = none := by rw [upd_ne npl.symm] at hl; exact hl
    refine ⟨_, rfl, p, A.c_Hand, dx, _, rfl, (by rw [upd_ne npl, upd_same]), T.cl_Hand, T.n_Hand_lines, (by show 2 < 1000; decide), ?_⟩
    rw [pf_miss (by decide +kernel) (pf_miss (by decide +kernel) pf_nil)]
    refine ⟨_, rfl, _, rfl, ifnd rfl ?_⟩
    generalize hH : upd (upd (upd H p (.ins A.c_Hand dx [("name", nm), ("settings", .ref se)])) l (.lst [])) p (.ins A.c_Hand dx [("name", nm), ("settings", .ref se), ("lines", .ref l)]) = H4 at *
    have e1 : H4 p = some (.ins A.c_Hand dx [("name", nm), ("settings", .ref se), ("lines", .ref l)]) := by rw [← hH]; exact upd_same
    have e2 : H4 l = some (.lst []) := by rw [← hH, upd_ne npl.symm, upd_same]
    have e3 : SameBut [p] H H4 := fun b o e nb => by
      have nb : b ≠ p := fun z => nb (by simp [z])
      rw [← hH, upd_ne nb, upd_ne (ne_of_none e hl0), upd_ne nb]
      exact e
    refine ⟨_, rfl, p, A.c_Hand, dx, _, _, rfl, e1, T.cl_Hand, T.n_Hand_lines, lk_miss (by decide +kernel) (lk_miss (by decide +kernel) lk_hit), l, [], [], rfl, e2, .nil, (fun _ z => nomatch z), fun t H5 s5 ht => ?_⟩
    refine ⟨_, rfl, p, A.c_Hand, dx, _, rfl, s5 _ _ e1, T.cl_Hand, T.n_Hand_stand, (by show 3 < 1000; decide), ?_⟩
    rw [pf_miss (by decide +kernel) (pf_miss (by decide +kernel) (pf_miss (by decide +kernel) pf_nil))]
    have ntp : t ≠ p := ne_of ht (s5 _ _ e1) (by intro z; cases z)
    refine k _ l ((e3.trans (SameBut.of s5)).put (by simp)) hl0 ⟨dx, nm, .ref t, [], [], upd_same, by rw [upd_ne npl.symm]; exact s5 _ _ e2, .nil, rfl, (fun _ z => nomatch z), rfl, rfl, Dt.ofPl ?_⟩
    rw [upd_ne ntp]
    exact ht

def spNeedUp (K : PySem.W.Frag) (A : Ads) : Sp := fun vs H Q E => ∃ (p l se : Addr) (n : Nat) (h : Hd), vs = [.ref p] ∧ HandAt A H p l se n h ∧ (h.place ≠ none → Q .non H) ∧ (h.place = none → Ref K A H E)
theorem ok_Hand_need_up (T : Txt K mg A) : FnOk P w K mg base (L2.CX P w) 1 A.f_Hand_need_up A.d_Hand_need_up ["self"] (spNeedUp K A) := by
  refine T.t_Hand_need_up.fn.okX sc_Hand_need_up (fun vs H Q E h => ?_) (fun cdv A' outer s0 H vs Q E hr h => ?_)
  · obtain ⟨p, l, se, n, h, rfl, _⟩ := h
    rfl
  · obtain ⟨p, l, se, n, h, rfl, ⟨dx, nm, vst, vls, ls, h1, h2, h3, h4, h5, h6, h7, h8⟩, k, ke⟩ := h
    refine ⟨_, (pss_one (ps_if (pt_cmp (pc_isN (pe_fld (pv 0) rfl)) rfl) (pss_one (ps_raise rfl (takes_of rfl rfl rfl rfl) (pmk_own PySem.F.excBase_ValueError T.x_Down.xP T.x_Down.gC T.x_Down.kP (raises_own T.x_Down.bP T.x_Down.tP) rfl))) pss_nil)), ?_⟩
    refine ⟨_, rfl, p, A.c_Hand, dx, _, _, rfl, h1, T.cl_Hand, T.n_Hand_stand, hlk_stand, _, rfl, ?_⟩
    rcases h8.plO_some with ⟨e, rfl⟩ | ⟨q, a, e, rfl, ha⟩
    · refine ifd rfl ?_
      exact ke e _ _ _ T.x_Down.eR (Same.refl H)
    · refine ifdn (fun z => by cases z) ?_
      exact k (by rw [e]; intro z; cases z)

def spNeedArea (K : PySem.W.Frag) (A : Ads) : Sp := fun vs H Q E => ∃ (p l se : Addr) (n : Nat) (h : Hd), vs = [.ref p] ∧ HandAt A H p l se n h ∧
  (∀ q a t va H', h.place = some q → h.area = some a → Same H H' → H' t = some (.tup [.int h.grant, .ref va, .int h.held, .int h.heard]) → H' va = some (.tup [.int a.1, .int a.2.1, .int a.2.2]) → Q (.ref t) H') ∧
  (h.place = none ∨ h.area = none → Ref K A H E)
theorem ok_Hand_need_area (T : Txt K mg A) : FnOk P w K mg base (L2.CX P w) 2 A.f_Hand_need_area A.d_Hand_need_area ["self"] (spNeedArea K A) := by
  refine T.t_Hand_need_area.fn.okX sc_Hand_need_area (fun vs H Q E h => ?_) (fun cdv A' outer s0 H vs Q E hr h => ?_)
  · obtain ⟨p, l, se, n, h, rfl, _⟩ := h
    rfl
  · obtain ⟨p, l, se, n, h, rfl, hA, k, ke⟩ := h
    refine ⟨_, (pss_cons (ps_expr (pe_meth0 (pv 0) T.cl_Hand T.t_Hand_need_up.me (ok_Hand_need_up T) (hr.mono (by decide)) T.t_Hand_need_up.bd .nil (passes_call (takes_of rfl rfl rfl rfl) fun _ _ _ _ h => h))) (pss_cons (ps_set (i := 1) sc_Hand_need_area.nd rfl (.inl rfl) (pe_call (ok_read_note T) (hr.mono (by decide)) (by rfl) T.t_read_note.gl T.t_read_note.fn.kp T.t_read_note.bd .nil pass0 (pa_cons (pe_fld (pv 0) rfl) pa_nil))) (pss_cons (ps_if (pt_cmp (pc_isN (pe_ix ix_tup (pv 1) pe_int (fun _ _ => rfl))) rfl) (pss_one (ps_raise rfl (takes_of rfl rfl rfl rfl) (pmk_own PySem.F.excBase_ValueError T.x_NoArea.xP T.x_NoArea.gC T.x_NoArea.kP (raises_own T.x_NoArea.bP T.x_NoArea.tP) rfl))) pss_nil) (pss_one (ps_ret (pv 1)))))), ?_⟩
    obtain ⟨dx, nm, vst, vls, ls, h1, h2, h3, h4, h5, h6, h7, h8⟩ := id hA
    refine ⟨_, rfl, p, dx, _, rfl, h1, hlk_none (by decide +kernel) (by decide +kernel) (by decide +kernel) (by decide +kernel), p, l, se, n, h, rfl, hA, fun hup => ?_, fun hd => ke (.inl hd)⟩
    refine ⟨_, rfl, p, A.c_Hand, dx, _, _, rfl, h1, T.cl_Hand, T.n_Hand_lines, hlk_lines, l, vls, ls, rfl, h2, h3, h5, fun t va H1 s1 ht da => ?_⟩
    rw [h6] at ht da
    refine ⟨_, rfl, t, _, 1, _, rfl, rfl, SqT.of ht, atI_nat (j := 1) rfl, _, rfl, ?_⟩
    rcases Dt.arO_some da with ⟨e, rfl⟩ | ⟨a, aa, e, rfl, ha⟩
    · refine ifd rfl ?_
      exact (ke (.inr e)) _ _ _ T.x_NoArea.eR s1
    · refine ifdn (fun z => by cases z) ?_
      cases hpl : h.place with
      | none => exact absurd hpl hup
      | some q => exact ⟨_, rfl, k q a t aa H1 hpl e s1 ht ha⟩

def spFall (K : PySem.W.Frag) (A : Ads) : Sp := fun vs H Q E => ∃ (p l se : Addr) (n : Nat) (h : Hd), vs = [.ref p] ∧ HandAt A H p l se n h ∧ (∀ q H', h.place = some q → SameBut [p, l] H H' → HandAt A H' p l se n { h with place := none } → Q .non H') ∧ (h.place = none → Ref K A H E)
theorem ok_Hand_fall (T : Txt K mg A) : FnOk P w K mg base (L2.CX P w) 2 A.f_Hand_fall A.d_Hand_fall ["self"] (spFall K A) := by
  refine T.t_Hand_fall.fn.okX sc_Hand_fall (fun vs H Q E h => ?_) (fun cdv A' outer s0 H vs Q E hr h => ?_)
  · obtain ⟨p, l, se, n, h, rfl, _⟩ := h
    rfl
  · obtain ⟨p, l, se, n, h, rfl, hA, k, ke⟩ := h
    refine ⟨_, (pss_cons (ps_expr (pe_meth0 (pv 0) T.cl_Hand T.t_Hand_need_up.me (ok_Hand_need_up T) (hr.mono (by decide)) T.t_Hand_need_up.bd .nil (passes_call (takes_of rfl rfl rfl rfl) fun _ _ _ _ h => h))) (pss_one (ps_fld (pv 0) pe_non rfl))), ?_⟩
    obtain ⟨dx, nm, vst, vls, ls, h1, h2, h3, h4, h5, h6, h7, h8⟩ := id hA
    refine ⟨_, rfl, p, dx, _, rfl, h1, hlk_none (by decide +kernel) (by decide +kernel) (by decide +kernel) (by decide +kernel), p, l, se, n, h, rfl, hA, fun hup => ?_, ke⟩
    refine ⟨_, rfl, p, A.c_Hand, dx, _, rfl, h1, T.cl_Hand, T.n_Hand_stand, hlen, ?_⟩
    rw [hpf_stand]
    cases hpl : h.place with
    | none => exact absurd hpl hup
    | some q => exact k q _ hpl ((SameBut.of (Same.refl H)).put (by simp)) (h4 ▸ HandAt.stand (pl := none) h1 h2 h3 h5 h6 h7 .non)

def spRise (K : PySem.W.Frag) (A : Ads) : Sp := fun vs H Q E => ∃ (p l se : Addr) (n : Nat) (h : Hd), vs = [.ref p] ∧ HandAt A H p l se n h ∧ (∀ H', h.place = none → SameBut [p, l] H H' → HandAt A H' p l se n (riseH h) → Q .non H') ∧ (h.place ≠ none → Ref K A H E)
theorem ok_Hand_rise (T : Txt K mg A) : FnOk P w K mg base (L2.CX P w) 3 A.f_Hand_rise A.d_Hand_rise ["self"] (spRise K A) := by
  refine T.t_Hand_rise.fn.okX sc_Hand_rise (fun vs H Q E h => ?_) (fun cdv A' outer s0 H vs Q E hr h => ?_)
  · obtain ⟨p, l, se, n, h, rfl, _⟩ := h
    rfl
  · obtain ⟨p, l, se, n, h, rfl, ⟨dx, nm, vst, vls, ls, h1, h2, h3, h4, h5, h6, h7, h8⟩, k, ke⟩ := h
    refine ⟨_, (pss_cons (ps_if (pt_cmp (pc_notN (pe_fld (pv 0) rfl)) rfl) (pss_one (ps_raise rfl (takes_of rfl rfl rfl rfl) (pmk_own PySem.F.excBase_ValueError T.x_Up.xP T.x_Up.gC T.x_Up.kP (raises_own T.x_Up.bP T.x_Up.tP) rfl))) pss_nil) (pss_one (ps_fld (pv 0) (pe_call (ok_place_by T) (hr.mono (by decide)) (by rfl) T.t_place_by.gl T.t_place_by.fn.kp T.t_place_by.bd .nil pass0 (pa_cons (pe_fld (pv 0) rfl) pa_nil)) rfl))), ?_⟩
    refine ⟨_, rfl, p, A.c_Hand, dx, _, _, rfl, h1, T.cl_Hand, T.n_Hand_stand, hlk_stand, _, rfl, ?_⟩
    rcases h8.plO_some with ⟨e, rfl⟩ | ⟨q, a, e, rfl, ha⟩
    · refine ifnd rfl ?_
      refine ⟨_, rfl, p, A.c_Hand, dx, _, _, rfl, h1, T.cl_Hand, T.n_Hand_lines, hlk_lines, l, vls, ls, rfl, h2, h3, h5, fun t H1 s1 ht => ?_⟩
      refine ⟨_, rfl, p, A.c_Hand, dx, _, rfl, s1 _ _ h1, T.cl_Hand, T.n_Hand_stand, hlen, ?_⟩
      rw [hpf_stand]
      rw [h6] at ht
      exact k _ e ((SameBut.of s1).put (by simp)) (h4 ▸ HandAt.stand (pl := some (max h.held h.heard, 0)) (s1 _ _ h1) (s1 _ _ h2) (h3.on s1.ts) h5 h6 h7 (Dt.ofPl ht))
    · refine ifndn (fun z => by cases z) ?_
      exact ke (by rw [e]; intro z; cases z) _ _ _ T.x_Up.eR (Same.refl H)
end
end K87
end
section
set_option Elab.async false
set_option linter.all false
set_option maxRecDepth 100000
set_option maxHeartbeats 4000000
/-! K87W5: a Hand's deeds: take, write, make, hear, give_back. -/
namespace K87
open PySem PySem.Spec L2
open PyProof.Rows hiding St

theorem and_if {c1 c2 A B G : Prop} [Decidable c1] [Decidable c2] (hA : c1 ∧ c2 → A) (hB : ¬ (c1 ∧ c2) → B) (h2 : c1 → (if decide c2 = true then A else B) → G) : if decide c1 = true then G else (if false = true then A else B) := by
  by_cases h1 : c1
  · refine ifd h1 (h2 h1 ?_)
    by_cases h : c2
    · exact ifd h (hA ⟨h1, h⟩)
    · exact ifdn h (hB fun z => h z.2)
  · exact ifdn h1 (iteF (hB fun z => h1 z.1))
theorem slk_shape {sh ru : Addr} {f r t : Int} : ([("shape", .ref sh), ("far", .int f), ("room", .int r), ("term", .int t), ("rules", .ref ru)] : List (Str × V)).lookup ("shape" : Str) = some (.ref sh) := lk_hit
theorem slk_far {sh ru : Addr} {f r t : Int} : ([("shape", .ref sh), ("far", .int f), ("room", .int r), ("term", .int t), ("rules", .ref ru)] : List (Str × V)).lookup ("far" : Str) = some (.int f) := lk_miss (by decide +kernel) lk_hit
theorem slk_room {sh ru : Addr} {f r t : Int} : ([("shape", .ref sh), ("far", .int f), ("room", .int r), ("term", .int t), ("rules", .ref ru)] : List (Str × V)).lookup ("room" : Str) = some (.int r) := lk_miss (by decide +kernel) (lk_miss (by decide +kernel) lk_hit)
theorem small1k {n : Nat} (h : n < 1000) : n < sizeLine := Nat.lt_of_lt_of_le h (by decide)
theorem vls_len {H : Hp} {ls : List Line} {vls : List V} (d : Dts H (ls.map eL) vls) : vls.length = ls.length := by rw [d.len, List.length_map]

section
variable {P : Program} {w : World} {K : PySem.W.Frag} {mg : Str → Option Value} {base : Heap} {A : Ads}

def spTake (K : PySem.W.Frag) (A : Ads) : Sp := fun vs H Q E => ∃ (p l se : Addr) (n : Nat) (h : Hd) (g : Int) (va : V) (c : Cf) (rs : List Str), vs = [.ref p, .int g, va] ∧ HandAt A H p l se n h ∧ SetC A K H se c rs ∧ Dt H (eAr (areaAt c g)) va ∧ 1 ≤ g ∧ n < 1000 ∧
  (∀ H', h.place ≠ none → (c.rl.once = true ∧ g ≤ h.most) → Same H H' → Q (.bl false) H') ∧
  (∀ q H', h.place = some q → ¬ (c.rl.once = true ∧ g ≤ h.most) → SameBut [p, l] H H' → HandAt A H' p l se (n + 1) (takeH c h q g) → Q (.bl true) H') ∧ (h.place = none → Ref K A H E)
theorem ok_Hand_take (T : Txt K mg A) : FnOk P w K mg base (L2.CX P w) 3 A.f_Hand_take A.d_Hand_take ["self", "grant", "area"] (spTake K A) := by
  refine T.t_Hand_take.fn.okX sc_Hand_take (fun vs H Q E h => ?_) (fun cdv A' outer s0 H vs Q E hr h => ?_)
  · obtain ⟨p, l, se, n, h, g, va, c, rs, rfl, _⟩ := h
    rfl
  · obtain ⟨p, l, se, n, h, g, va, c, rs, rfl, hA, hS, hva, hg, hn, k0, k1, ke⟩ := h
    obtain ⟨term, hS1⟩ := hS.at_
    obtain ⟨dx, nm, vst, vls, ls, h1, h2, h3, h4, h5, h6, h7, h8⟩ := id hA
    refine ⟨_, (pss_cons (ps_expr (pe_meth0 (pv 0) T.cl_Hand T.t_Hand_need_up.me (ok_Hand_need_up T) (hr.mono (by decide)) T.t_Hand_need_up.bd .nil (passes_call (takes_of rfl rfl rfl rfl) fun _ _ _ _ h => h))) (pss_cons (ps_if (PW.pt (pw_and (pt_val (pe_call (ok_has_rule T) (hr.mono (by decide)) (by rfl) T.t_has_rule.gl T.t_has_rule.fn.kp T.t_has_rule.bd .nil pass0 (pa_cons (pe_fld (pv 0) rfl) (pa_cons pe_str pa_nil)))) (pw_and1 (pt_cmpR op_le (pv 1) (pe_call (ok_greatest_taken T) (hr.mono (by decide)) (by rfl) T.t_greatest_taken.gl T.t_greatest_taken.fn.kp T.t_greatest_taken.bd .nil pass0 (pa_cons (pe_fld (pv 0) rfl) pa_nil)) (nomark _))))) (pss_one (ps_ret pe_bl)) pss_nil) (pss_cons (ps_expr (pe_bm PySem.F.plainAttrs_list PySem.F.slot_list_append PySem.F.type_list_append mt_append (pe_fld (pv 0) rfl) (pa_cons (pe_tup (pa_cons pe_str (pa_cons (pv 1) (pa_cons (pv 2) pa_nil)))) pa_nil))) (pss_cons (ps_fld (pv 0) (pe_call (ok_raised T) (hr.mono (by decide)) (by rfl) T.t_raised.gl T.t_raised.fn.kp T.t_raised.bd .nil pass0 (pa_cons (pe_fld (pv 0) rfl) (pa_cons (pe_call (ok_bound_of T) (hr.mono (by decide)) (by rfl) T.t_bound_of.gl T.t_bound_of.fn.kp T.t_bound_of.bd .nil pass0 (pa_cons (pe_fld (pv 0) rfl) pa_nil)) pa_nil))) rfl) (pss_one (ps_ret pe_bl)))))), ?_⟩
    refine ⟨_, rfl, p, dx, _, rfl, h1, hlk_none (by decide +kernel) (by decide +kernel) (by decide +kernel) (by decide +kernel), p, l, se, n, h, rfl, hA, fun hup => ?_, ke⟩
    obtain ⟨q, hq⟩ : ∃ q, h.place = some q := by
      cases e : h.place with
      | none => exact absurd e hup
      | some q => exact ⟨q, rfl⟩
    have ro : c.rl.once = decide (("once" : Str) ∈ rs) := by rw [hS.rl]; rfl
    refine ⟨_, rfl, p, A.c_Hand, dx, _, _, rfl, h1, T.cl_Hand, T.n_Hand_settings, hlk_settings, se, "once", _, _, _, _, _, rs, rfl, hS1, _, rfl, and_if (c2 := g ≤ greatL ls) (fun z => ?_) (fun z => ?_) (fun _ x =>
      ⟨_, rfl, _, rfl, p, A.c_Hand, dx, _, _, rfl, h1, T.cl_Hand, T.n_Hand_lines, hlk_lines, l, vls, ls, rfl, h2, h3, _, _, rfl, rfl, _, rfl, x⟩)⟩
    · exact k0 H hup ⟨by rw [ro]; exact decide_eq_true z.1, by rw [← h7]; exact z.2⟩ (Same.refl H)
    · have z' : ¬ (c.rl.once = true ∧ g ≤ h.most) := fun y => z ⟨of_decide_eq_true (by rw [← ro]; exact y.1), by rw [h7]; exact y.2⟩
      refine ⟨_, rfl, p, A.c_Hand, dx, _, _, rfl, h1, T.cl_Hand, T.n_Hand_lines, hlk_lines, .inl ⟨rfl, _, SqL.of h2⟩, ?_⟩
      refine ⟨_, rfl, _, rfl, (by show 3 ≤ sizeLine; decide), fun t ht => ?_⟩
      have s1 := same_new (o := .tup [.str "took", .int g, va]) ht
      have dl : Dt (upd H t (.tup [.str "took", .int g, va])) (eL (.took g (areaAt c g))) (.ref t) := .tup upd_same (.cons (.txt _) (.cons (.num _) (.cons (hva.on s1.ts) .nil)))
      obtain ⟨j1, j2, j3, j4⟩ := line_put (x := .took g (areaAt c g)) s1 h1 h2 h3 h5 dl hg
      refine ⟨l, vls, .ref t, rfl, rfl, s1 _ _ h2, by rw [vls_len h3, h4]; exact small1k hn, ?_⟩
      have e2 : (upd (upd H t (.tup [.str "took", .int g, va])) l (.lst (vls ++ [.ref t]))) l = some (.lst (vls ++ [.ref t])) := upd_same
      have sb : SameBut [p, l] H (upd (upd H t (.tup [.str "took", .int g, va])) l (.lst (vls ++ [.ref t]))) := (SameBut.of s1).put (by simp)
      have h8' := (h8.on s1.ts).on j4
      generalize upd (upd H t (.tup [.str "took", .int g, va])) l (.lst (vls ++ [.ref t])) = H2 at *
      rw [hq] at h8'
      obtain ⟨a, rfl, ha⟩ := Dt.pl h8'
      refine ⟨_, rfl, p, A.c_Hand, dx, _, _, rfl, j1, T.cl_Hand, T.n_Hand_stand, hlk_stand, ?_⟩
      refine ⟨_, rfl, p, A.c_Hand, dx, _, _, rfl, j1, T.cl_Hand, T.n_Hand_stand, hlk_stand, a, q, rfl, ha, ?_⟩
      refine ⟨a, q, _, rfl, ha, fun v H3 s3 d3 => ?_⟩
      refine ⟨_, rfl, p, A.c_Hand, dx, _, rfl, s3 _ _ j1, T.cl_Hand, T.n_Hand_stand, hlen, ?_⟩
      rw [hpf_stand]
      have hfin := HandAt.stand (h := takeH c h q g) (pl := some (raised q (boundOf q))) (s3 _ _ j1) (s3 _ _ e2) (j2.on s3.ts) j3 (by rw [readL_snoc, h6]; rfl) (by rw [greatL_snoc, h7]; rfl) d3
      rw [List.length_append, h4] at hfin
      exact k1 q _ hq z' ((sb.trans (SameBut.of s3)).put (by simp)) hfin

def spWrite (K : PySem.W.Frag) (A : Ads) : Sp := fun vs H Q E => ∃ (p l se : Addr) (n : Nat) (h : Hd) (r : Int) (c : Cf) (rs : List Str), vs = [.ref p, .int r] ∧ HandAt A H p l se n h ∧ SetC A K H se c rs ∧ n < 1000 ∧
  (∀ q a f H' n', h.place = some q → h.area = some a → nextMark c h r = some f → n' ≤ n + 1 → SameBut [p, l] H H' → HandAt A H' p l se n' { h with held := writeTo c h q a r } → ∀ v, Q v H') ∧
  (h.place = none ∨ nextMark c h r = none → Ref K A H E)
theorem ok_Hand_write (T : Txt K mg A) : FnOk P w K mg base (L2.CX P w) 4 A.f_Hand_write A.d_Hand_write ["self", "reading"] (spWrite K A) := by
  refine T.t_Hand_write.fn.okX sc_Hand_write (fun vs H Q E h => ?_) (fun cdv A' outer s0 H vs Q E hr h => ?_)
  · obtain ⟨p, l, se, n, h, r, c, rs, rfl, _⟩ := h
    rfl
  · obtain ⟨p, l, se, n, h, r, c, rs, rfl, hA, hS, hn, k, ke⟩ := h
    obtain ⟨dx, nm, vst, vls, ls, h1, h2, h3, h4, h5, h6, h7, h8⟩ := id hA
    refine ⟨_, (pss_cons (ps_asg (pe_meth0 (pv 0) T.cl_Hand T.t_Hand_need_area.me (ok_Hand_need_area T) (hr.mono (by decide)) T.t_Hand_need_area.bd .nil (passes_call (takes_of rfl rfl rfl rfl) fun _ _ _ _ h => h)) (pg_tup rfl (pgs_cons (pg_name (i := 2) sc_Hand_write.nd rfl (.inl rfl)) (pgs_cons (pg_name (i := 3) sc_Hand_write.nd rfl (.inl rfl)) (pgs_cons (pg_name (i := 4) sc_Hand_write.nd rfl (.inl rfl)) (pgs_cons (pg_name (i := 5) sc_Hand_write.nd rfl (.inl rfl)) pgs_nil)))))) (pss_cons (ps_expr (pe_call (ok_made T) (hr.mono (by decide)) (by rfl) T.t_made.gl T.t_made.fn.kp T.t_made.bd .nil (passes_call (takes_of rfl rfl rfl rfl) fun _ _ _ _ h => h) (pa_cons (pe_fld (pe_fld (pv 0) rfl) rfl) (pa_cons (pe_fld (pe_fld (pv 0) rfl) rfl) (pa_cons (pv 3) (pa_cons (pe_fld (pv 0) rfl) (pa_cons (pv 1) pa_nil))))))) (pss_cons (ps_set (i := 6) sc_Hand_write.nd rfl (.inl rfl) (pe_op op_add (pe_call (ok_moment_at T) (hr.mono (by decide)) (by rfl) T.t_moment_at.gl T.t_moment_at.fn.kp T.t_moment_at.bd .nil pass0 (pa_cons (pv 3) (pa_cons (pe_fld (pv 0) rfl) (pa_cons (pv 1) pa_nil)))) (pe_fld (pe_fld (pv 0) rfl) rfl))) (pss_cons (ps_if (pt_cmpR op_gt (pv 6) (pv 4) (nomark _)) (pss_one (ps_expr (pe_bm PySem.F.plainAttrs_list PySem.F.slot_list_append PySem.F.type_list_append mt_append (pe_fld (pv 0) rfl) (pa_cons (pe_tup (pa_cons pe_str (pa_cons (pv 6) pa_nil))) pa_nil)))) pss_nil) (pss_one (ps_ret (pe_callB (call_mx2 rfl) (by rfl) T.z_max boot_max (pa_cons (pv 4) (pa_cons (pv 6) pa_nil))))))))), ?_⟩
    refine ⟨_, rfl, p, dx, _, rfl, h1, hlk_none (by decide +kernel) (by decide +kernel) (by decide +kernel) (by decide +kernel), p, l, se, n, h, rfl, hA, fun q a t va H1 hq ha s1 ht hva => ?_, fun z => ke ?_⟩
    · refine ⟨t, _, rfl, SqT.of ht, rfl, _, _, rfl, _, _, rfl, _, _, rfl, _, _, rfl, rfl, ?_⟩
      obtain ⟨term, dx2, sh, ru, y1, y2, y3⟩ := (hS.on s1).at_
      have g1 := s1 _ _ h1
      have h8' := h8.on s1.ts
      rw [hq] at h8'
      obtain ⟨pa, rfl, hpa⟩ := Dt.pl h8'
      refine ⟨_, rfl, p, A.c_Hand, dx, _, _, rfl, g1, T.cl_Hand, T.n_Hand_settings, hlk_settings, se, A.c_Settings, dx2, _, _, rfl, y1, T.cl_Settings, T.n_Settings_shape, slk_shape, ?_⟩
      refine ⟨_, rfl, p, A.c_Hand, dx, _, _, rfl, g1, T.cl_Hand, T.n_Hand_settings, hlk_settings, se, A.c_Settings, dx2, _, _, rfl, y1, T.cl_Settings, T.n_Settings_far, slk_far, ?_⟩
      refine ⟨_, rfl, _, rfl, p, A.c_Hand, dx, _, _, rfl, g1, T.cl_Hand, T.n_Hand_stand, hlk_stand, _, rfl, ?_⟩
      refine ⟨sh, va, pa, c.counts, c.slots, c.far, r, a, q, rfl, y2, hS.c1, hS.s1, hva, hpa, fun x q' t2 va2 H2 hm s2 ht2 hd2 => ?_, fun C d H2 hm s2 => ke (.inr ?_) C d H2 ?_ (s1.trans s2)⟩
      · have hnm : nextMark c h r = some (x, q') := by
          unfold nextMark
          rw [hq, ha]
          simp only
          rw [hm]
        refine ⟨_, rfl, _, rfl, p, A.c_Hand, dx, _, _, rfl, s2 _ _ g1, T.cl_Hand, T.n_Hand_stand, hlk_stand, _, rfl, va, pa, q, a, r, rfl, s2 _ _ hva, s2 _ _ hpa, ?_⟩
        refine ⟨_, rfl, p, A.c_Hand, dx, _, _, rfl, s2 _ _ g1, T.cl_Hand, T.n_Hand_settings, hlk_settings, se, A.c_Settings, dx2, _, _, rfl, s2 _ _ y1, T.cl_Settings, T.n_Settings_room, slk_room, _, _, rfl, rfl, ?_⟩
        have s12 := s1.trans s2
        have g2 := s2 _ _ g1
        refine ⟨_, rfl, _, rfl, _, _, rfl, rfl, _, rfl, ifd2 (fun z => ?_) (fun z => ?_)⟩
        · refine ⟨_, rfl, p, A.c_Hand, dx, _, _, rfl, g2, T.cl_Hand, T.n_Hand_lines, hlk_lines, .inl ⟨rfl, _, SqL.of (s12 _ _ h2)⟩, ?_⟩
          refine ⟨_, rfl, (by show 2 ≤ sizeLine; decide), fun t3 ht3 => ?_⟩
          have s3 := same_new (o := .tup [.str "held", .int (momentAt a q r + c.room)]) ht3
          have dl : Dt (upd H2 t3 (.tup [.str "held", .int (momentAt a q r + c.room)])) (eL (.held (momentAt a q r + c.room))) (.ref t3) := .tup upd_same (.cons (.txt _) (.cons (.num _) .nil))
          obtain ⟨j1, j2, j3, j4⟩ := line_put (x := .held (momentAt a q r + c.room)) s3 g2 (s12 _ _ h2) (h3.on s12.ts) h5 dl True.intro
          refine ⟨l, vls, .ref t3, rfl, rfl, s3 _ _ (s12 _ _ h2), by rw [vls_len h3, h4]; exact small1k hn, ?_⟩
          refine ⟨_, rfl, _, rfl, _, _, rfl, ?_⟩
          refine k q a _ _ (n + 1) hq ha hnm (Nat.le_refl _) ((SameBut.of (s12.trans s3)).put (by simp)) ⟨dx, nm, _, _, _, j1, upd_same, j2, by rw [List.length_append, h4]; rfl, j3, ?_, by rw [greatL_snoc, h7]; rfl, ?_⟩ _
          · rw [readL_snoc, h6]
            rfl
          · rw [hq]
            exact (h8'.on (s2.trans s3).ts).on j4
        · refine ⟨_, rfl, _, rfl, _, _, rfl, ?_⟩
          have e : writeTo c h q a r = h.held := by unfold writeTo; omega
          refine k q a _ H2 n hq ha hnm (Nat.le_succ _) (SameBut.of s12) ?_ _
          rw [e]
          exact hA.on s12
      · unfold nextMark
        rw [hq, ha]
        simp only
        rcases hm with ⟨hm, _⟩ | ⟨z, hm, _⟩ <;> rw [hm]
      · rcases hm with ⟨_, e⟩ | ⟨z, _, e⟩
        · rw [e]; exact T.x_NoRoom.eR
        · rw [e]; exact T.x_Wait.eR
    · rcases z with z | z
      · exact .inl z
      · refine .inr ?_
        unfold nextMark
        rw [z]
        cases h.place <;> rfl
end
end K87
end
section
set_option Elab.async false
set_option linter.all false
set_option maxRecDepth 100000
set_option maxHeartbeats 4000000
/-! K87W6: a Hand's deeds: make, hear, give_back. -/
namespace K87
open PySem PySem.Spec L2
open PyProof.Rows hiding St

section
variable {P : Program} {w : World} {K : PySem.W.Frag} {mg : Str → Option Value} {base : Heap} {A : Ads}

/-- the moment of a mark that is made -/
theorem made_moment {c : Cf} {a : Ar} {q : Pl} {r x : Int} {q' : Pl} (hc : c.Ok) (ha : 0 ≤ a.1 ∧ a.1 < c.slots) (hq : 0 ≤ q.2 ∧ q.2 < c.counts) (hm : made c.counts c.slots c.far a q r = .ok x q') : momentOf c.counts c.slots x = momentAt a q r := by
  have hcc := countAt_ok (m := momentAt a q r) (show 1 ≤ c.counts from hc.sz.c1) hq
  unfold made at hm
  by_cases n1 : a.2.2 ≤ momentAt a q r
  · rw [if_pos n1] at hm; cases hm
  rw [if_neg n1] at hm
  by_cases n2 : r + c.far < momentAt a q r
  · rw [if_pos n2] at hm; cases hm
  rw [if_neg n2] at hm
  injection hm with hx hq
  rw [← hx]
  exact moment_mark hc.sz.c1 hc.sz.c3 hc.sz.s1 hc.sz.s3 ha.1 ha.2 hcc.1 hcc.2

def spMake (K : PySem.W.Frag) (A : Ads) : Sp := fun vs H Q E => ∃ (p l se : Addr) (n : Nat) (h : Hd) (r : Int) (c : Cf) (rs : List Str), vs = [.ref p, .int r] ∧ HandAt A H p l se n h ∧ SetC A K H se c rs ∧ c.Ok ∧
  (∀ a, h.area = some a → 0 ≤ a.1 ∧ a.1 < c.slots) ∧ (∀ q, h.place = some q → 0 ≤ q.2 ∧ q.2 < c.counts) ∧
  (∀ f H', marked c h r = some f → SameBut [p, l] H H' → HandAt A H' p l se n { h with place := some f.2 } → Q (.int f.1) H') ∧
  (h.place = none ∨ marked c h r = none → Ref K A H E)
theorem ok_Hand_make (T : Txt K mg A) : FnOk P w K mg base (L2.CX P w) 4 A.f_Hand_make A.d_Hand_make ["self", "reading"] (spMake K A) := by
  refine T.t_Hand_make.fn.okX sc_Hand_make (fun vs H Q E h => ?_) (fun cdv A' outer s0 H vs Q E hr h => ?_)
  · obtain ⟨p, l, se, n, h, r, c, rs, rfl, _⟩ := h
    rfl
  · obtain ⟨p, l, se, n, h, r, c, rs, rfl, hA, hS, hcOk, ha0, hq0, k, ke⟩ := h
    obtain ⟨dx, nm, vst, vls, ls, h1, h2, h3, h4, h5, h6, h7, h8⟩ := id hA
    refine ⟨_, (pss_cons (ps_asg (pe_meth0 (pv 0) T.cl_Hand T.t_Hand_need_area.me (ok_Hand_need_area T) (hr.mono (by decide)) T.t_Hand_need_area.bd .nil (passes_call (takes_of rfl rfl rfl rfl) fun _ _ _ _ h => h)) (pg_tup rfl (pgs_cons (pg_name (i := 2) sc_Hand_make.nd rfl (.inl rfl)) (pgs_cons (pg_name (i := 3) sc_Hand_make.nd rfl (.inl rfl)) (pgs_cons (pg_name (i := 4) sc_Hand_make.nd rfl (.inl rfl)) (pgs_cons (pg_name (i := 5) sc_Hand_make.nd rfl (.inl rfl)) pgs_nil)))))) (pss_cons (ps_asg (pe_call (ok_made T) (hr.mono (by decide)) (by rfl) T.t_made.gl T.t_made.fn.kp T.t_made.bd .nil (passes_call (takes_of rfl rfl rfl rfl) fun _ _ _ _ h => h) (pa_cons (pe_fld (pe_fld (pv 0) rfl) rfl) (pa_cons (pe_fld (pe_fld (pv 0) rfl) rfl) (pa_cons (pv 3) (pa_cons (pe_fld (pv 0) rfl) (pa_cons (pv 1) pa_nil)))))) (pg_tup rfl (pgs_cons (pg_name (i := 6) sc_Hand_make.nd rfl (.inl rfl)) (pgs_cons (pg_name (i := 7) sc_Hand_make.nd rfl (.inl rfl)) pgs_nil)))) (pss_cons (ps_set (i := 8) sc_Hand_make.nd rfl (.inl rfl) (pe_call (ok_moment_at T) (hr.mono (by decide)) (by rfl) T.t_moment_at.gl T.t_moment_at.fn.kp T.t_moment_at.bd .nil pass0 (pa_cons (pv 3) (pa_cons (pe_fld (pv 0) rfl) (pa_cons (pv 1) pa_nil))))) (pss_cons (ps_if (PW.pt (pw_and (pt_val (pe_call (ok_has_rule T) (hr.mono (by decide)) (by rfl) T.t_has_rule.gl T.t_has_rule.fn.kp T.t_has_rule.bd .nil pass0 (pa_cons (pe_fld (pv 0) rfl) (pa_cons pe_str pa_nil)))) (pw_and1 (pt_cmpR op_ge (pv 8) (pv 4) (nomark _))))) (pss_one (ps_raise rfl (takes_of rfl rfl rfl rfl) (pmk_oex T.x_NoNote.ox T.x_NoNote.iC T.x_NoNote.tI (ok_noteI T) (hr.mono (by decide)) T.x_NoNote.bd .nil pass0 rfl T.x_NoNote.gC (pa_cons (pv 8) pa_nil)))) pss_nil) (pss_cons (ps_fld (pv 0) (pv 7) rfl) (pss_one (ps_ret (pv 6)))))))), ?_⟩
    refine ⟨_, rfl, p, dx, _, rfl, h1, hlk_none (by decide +kernel) (by decide +kernel) (by decide +kernel) (by decide +kernel), p, l, se, n, h, rfl, hA, fun q a t va H1 hq ha s1 ht hva => ?_, fun z => ke ?_⟩
    · refine ⟨t, _, rfl, SqT.of ht, rfl, _, _, rfl, _, _, rfl, _, _, rfl, _, _, rfl, rfl, ?_⟩
      obtain ⟨term, dx2, sh, ru, y1, y2, y3⟩ := (hS.on s1).at_
      have g1 := s1 _ _ h1
      have h8' := h8.on s1.ts
      rw [hq] at h8'
      obtain ⟨pa, rfl, hpa⟩ := Dt.pl h8'
      refine ⟨_, rfl, p, A.c_Hand, dx, _, _, rfl, g1, T.cl_Hand, T.n_Hand_settings, hlk_settings, se, A.c_Settings, dx2, _, _, rfl, y1, T.cl_Settings, T.n_Settings_shape, slk_shape, ?_⟩
      refine ⟨_, rfl, p, A.c_Hand, dx, _, _, rfl, g1, T.cl_Hand, T.n_Hand_settings, hlk_settings, se, A.c_Settings, dx2, _, _, rfl, y1, T.cl_Settings, T.n_Settings_far, slk_far, ?_⟩
      refine ⟨_, rfl, _, rfl, p, A.c_Hand, dx, _, _, rfl, g1, T.cl_Hand, T.n_Hand_stand, hlk_stand, _, rfl, ?_⟩
      refine ⟨sh, va, pa, c.counts, c.slots, c.far, r, a, q, rfl, y2, hS.c1, hS.s1, hva, hpa, fun x q' t2 va2 H2 hm s2 ht2 hd2 => ?_, fun C d H2 hm s2 => ke (.inr ?_) C d H2 ?_ (s1.trans s2)⟩
      · have hnm : nextMark c h r = some (x, q') := by
          unfold nextMark
          rw [hq, ha]
          simp only
          rw [hm]
        have g2 := s2 _ _ g1
        have s12 := s1.trans s2
        refine ⟨t2, _, rfl, SqT.of ht2, rfl, _, _, rfl, _, _, rfl, rfl, ?_⟩
        refine ⟨_, rfl, _, rfl, p, A.c_Hand, dx, _, _, rfl, g2, T.cl_Hand, T.n_Hand_stand, hlk_stand, _, rfl, va, pa, q, a, r, rfl, s2 _ _ hva, s2 _ _ hpa, ?_⟩
        have hmo := made_moment hcOk (ha0 a ha) (hq0 q hq) hm
        have ra : c.rl.ahead = decide (("ahead" : Str) ∈ rs) := by rw [hS.rl]; rfl
        obtain ⟨term2, hS2⟩ := (hS.on s12).at_
        refine ⟨_, rfl, p, A.c_Hand, dx, _, _, rfl, g2, T.cl_Hand, T.n_Hand_settings, hlk_settings, se, "ahead", _, _, _, _, _, rs, rfl, hS2, _, rfl, and_if (c2 := h.held ≤ momentAt a q r) (fun z => ?_) (fun z => ?_) (fun _ x =>
          ⟨_, rfl, _, rfl, _, _, rfl, rfl, _, rfl, x⟩)⟩
        · refine ⟨_, rfl, (by show 1 ≤ 1000; decide), exI_end fun d H' e => ke (.inr ?_) _ _ _ T.x_NoNote.eR (s12.trans e)⟩
          unfold marked
          rw [hnm]
          simp only
          rw [if_pos ⟨by rw [ra]; exact decide_eq_true z.1, by rw [hmo]; exact z.2⟩]
        · have hmk : marked c h r = some (x, q') := by
            unfold marked
            rw [hnm]
            simp only
            rw [if_neg fun y => z ⟨of_decide_eq_true (by rw [← ra]; exact y.1), by rw [← hmo]; exact y.2⟩]
          refine ⟨_, rfl, _, rfl, p, A.c_Hand, dx, _, rfl, g2, T.cl_Hand, T.n_Hand_stand, hlen, ?_⟩
          rw [hpf_stand]
          exact ⟨_, rfl, k (x, q') _ hmk ((SameBut.of s12).put (by simp)) (h4 ▸ HandAt.stand (h := h) (pl := some q') g2 (s12 _ _ h2) (h3.on s12.ts) h5 h6 h7 hd2)⟩
      · unfold marked nextMark
        rw [hq, ha]
        simp only
        rcases hm with ⟨hm, _⟩ | ⟨z, hm, _⟩ <;> rw [hm]
      · rcases hm with ⟨_, e⟩ | ⟨z, _, e⟩
        · rw [e]; exact T.x_NoRoom.eR
        · rw [e]; exact T.x_Wait.eR
    · rcases z with z | z
      · exact .inl z
      · refine .inr ?_
        unfold marked nextMark
        rw [z]
        cases h.place <;> rfl

def spHear (K : PySem.W.Frag) (A : Ads) : Sp := fun vs H Q E => ∃ (p l se : Addr) (n : Nat) (h : Hd) (b : Int) (c : Cf) (rs : List Str), vs = [.ref p, .int b] ∧ HandAt A H p l se n h ∧ SetC A K H se c rs ∧ n < 1000 ∧
  (∀ q H' n', h.place = some q → n' ≤ n + 1 → SameBut [p, l] H H' → HandAt A H' p l se n' (hearH c h q b) → Q .non H') ∧ (h.place = none → Ref K A H E)
theorem ok_Hand_hear (T : Txt K mg A) : FnOk P w K mg base (L2.CX P w) 3 A.f_Hand_hear A.d_Hand_hear ["self", "bound"] (spHear K A) := by
  refine T.t_Hand_hear.fn.okX sc_Hand_hear (fun vs H Q E h => ?_) (fun cdv A' outer s0 H vs Q E hr h => ?_)
  · obtain ⟨p, l, se, n, h, b, c, rs, rfl, _⟩ := h
    rfl
  · obtain ⟨p, l, se, n, h, b, c, rs, rfl, hA, hS, hn, k, ke⟩ := h
    obtain ⟨term, hS1⟩ := hS.at_
    obtain ⟨dx, nm, vst, vls, ls, h1, h2, h3, h4, h5, h6, h7, h8⟩ := id hA
    refine ⟨_, (pss_cons (ps_expr (pe_meth0 (pv 0) T.cl_Hand T.t_Hand_need_up.me (ok_Hand_need_up T) (hr.mono (by decide)) T.t_Hand_need_up.bd .nil (passes_call (takes_of rfl rfl rfl rfl) fun _ _ _ _ h => h))) (pss_cons (ps_if (PW.pt (pw_and (pt_val (pe_call (ok_has_rule T) (hr.mono (by decide)) (by rfl) T.t_has_rule.gl T.t_has_rule.fn.kp T.t_has_rule.bd .nil pass0 (pa_cons (pe_fld (pv 0) rfl) (pa_cons pe_str pa_nil)))) (pw_and1 (pt_cmpR op_gt (pv 1) (pe_ix ix_tup (pe_call (ok_read_note T) (hr.mono (by decide)) (by rfl) T.t_read_note.gl T.t_read_note.fn.kp T.t_read_note.bd .nil pass0 (pa_cons (pe_fld (pv 0) rfl) pa_nil)) pe_int (fun _ _ => rfl)) (nomark _))))) (pss_one (ps_expr (pe_bm PySem.F.plainAttrs_list PySem.F.slot_list_append PySem.F.type_list_append mt_append (pe_fld (pv 0) rfl) (pa_cons (pe_tup (pa_cons pe_str (pa_cons (pv 1) pa_nil))) pa_nil)))) pss_nil) (pss_one (ps_fld (pv 0) (pe_call (ok_raised T) (hr.mono (by decide)) (by rfl) T.t_raised.gl T.t_raised.fn.kp T.t_raised.bd .nil pass0 (pa_cons (pe_fld (pv 0) rfl) (pa_cons (pv 1) pa_nil))) rfl)))), ?_⟩
    refine ⟨_, rfl, p, dx, _, rfl, h1, hlk_none (by decide +kernel) (by decide +kernel) (by decide +kernel) (by decide +kernel), p, l, se, n, h, rfl, hA, fun hup => ?_, ke⟩
    obtain ⟨q, hq⟩ : ∃ q, h.place = some q := by
      cases e : h.place with
      | none => exact absurd e hup
      | some q => exact ⟨q, rfl⟩
    have rsp : c.rl.spoken = decide (("spoken" : Str) ∈ rs) := by rw [hS.rl]; rfl
    -- what is left, at a heap where the Hand's lines read as the heard one is n2
    have fin : ∀ (H2 : Hp) (vls2 : List V) (ls2 : List Line) (n2 : Int), SameBut [p, l] H H2 → H2 p = some (.ins A.c_Hand dx (hfs nm se l vst)) → H2 l = some (.lst vls2) → Dts H2 (ls2.map eL) vls2 → ls2.length ≤ n + 1 → (∀ x ∈ ls2, gOk x) →
        readL ls2 = ⟨h.grant, h.area, h.held, n2⟩ → greatL ls2 = h.most → Dt H2 (ePlO h.place) vst → n2 = (if c.rl.spoken = true then max h.heard b else h.heard) → ∀ (R : Hp → Prop), (∀ H', R H' → Q .non H') →
        ∃ (a : Addr) (z : V), z = vst ∧ vst = .ref a ∧ H2 a = some (.tup [.int q.1, .int q.2]) ∧ ∀ v H3, Same H2 H3 → Dt H3 (ePl (raised q b)) v → H3 p = some (.ins A.c_Hand dx (hfs nm se l vst)) ∧ Q .non (upd H3 p (.ins A.c_Hand dx (hfs nm se l v))) := by
      intro H2 vls2 ls2 n2 sb e1 e2 e3 e4 e5 e6 e7 e8 e9 R hR
      rw [hq] at e8
      obtain ⟨a, rfl, ha⟩ := Dt.pl e8
      refine ⟨a, _, rfl, rfl, ha, fun v H3 s3 d3 => ⟨s3 _ _ e1, ?_⟩⟩
      have hh := HandAt.stand (h := hearH c h q b) (pl := some (raised q b)) (s3 _ _ e1) (s3 _ _ e2) (e3.on s3.ts) e5 (by rw [e6, e9]; rfl) (by rw [e7]; rfl) d3
      exact k q _ _ hq e4 ((sb.trans (SameBut.of s3)).put (by simp)) hh
    refine ⟨_, rfl, p, A.c_Hand, dx, _, _, rfl, h1, T.cl_Hand, T.n_Hand_settings, hlk_settings, se, "spoken", _, _, _, _, _, rs, rfl, hS1, _, rfl, ?_⟩
    by_cases hsp : ("spoken" : Str) ∈ rs
    · refine ifd hsp ?_
      refine ⟨_, rfl, _, rfl, p, A.c_Hand, dx, _, _, rfl, h1, T.cl_Hand, T.n_Hand_lines, hlk_lines, l, vls, ls, rfl, h2, h3, h5, fun t va H1 s1 ht da => ?_⟩
      rw [h6] at ht
      refine ⟨t, _, 3, _, rfl, rfl, SqT.of ht, atI_nat (j := 3) rfl, _, _, rfl, rfl, _, rfl, ifd2 (fun z => ?_) (fun z => ?_)⟩
      · have g1 := s1 _ _ h1
        refine ⟨_, rfl, p, A.c_Hand, dx, _, _, rfl, g1, T.cl_Hand, T.n_Hand_lines, hlk_lines, .inl ⟨rfl, _, SqL.of (s1 _ _ h2)⟩, ?_⟩
        refine ⟨_, rfl, (by show 2 ≤ sizeLine; decide), fun t2 ht2 => ?_⟩
        have s2 := same_new (o := .tup [.str "heard", .int b]) ht2
        have dl : Dt (upd H1 t2 (.tup [.str "heard", .int b])) (eL (.heard b)) (.ref t2) := .tup upd_same (.cons (.txt _) (.cons (.num _) .nil))
        obtain ⟨j1, j2, j3, j4⟩ := line_put (x := .heard b) s2 g1 (s1 _ _ h2) (h3.on s1.ts) h5 dl True.intro
        refine ⟨l, vls, .ref t2, rfl, rfl, s2 _ _ (s1 _ _ h2), by rw [vls_len h3, h4]; exact small1k hn, ?_⟩
        obtain ⟨a, zz, e0, ea, ha, q5⟩ := fin _ _ _ (max h.heard b) ((SameBut.of (s1.trans s2)).put (by simp)) j1 upd_same j2 (by rw [List.length_append, h4]; exact Nat.le_refl _) j3 (by rw [readL_snoc, h6]; rfl) (by rw [greatL_snoc, h7]; rfl) ((h8.on (s1.trans s2).ts).on j4)
          (by rw [if_pos (by rw [rsp]; exact decide_eq_true hsp)]) (fun H' => Q .non H') (fun _ z => z)
        subst ea
        refine ⟨_, rfl, p, A.c_Hand, dx, _, _, rfl, j1, T.cl_Hand, T.n_Hand_stand, hlk_stand, _, rfl, a, q, b, rfl, ha, fun v H3 s3 d3 => ?_⟩
        obtain ⟨e3, q6⟩ := q5 v H3 s3 d3
        refine ⟨_, rfl, p, A.c_Hand, dx, _, rfl, e3, T.cl_Hand, T.n_Hand_stand, hlen, ?_⟩
        rw [hpf_stand]
        exact q6
      · have g1 := s1 _ _ h1
        obtain ⟨a, zz, e0, ea, ha, q5⟩ := fin H1 vls ls h.heard (SameBut.of s1) g1 (s1 _ _ h2) (h3.on s1.ts) (by rw [h4]; exact Nat.le_succ _) h5 h6 h7 (h8.on s1.ts)
          (by rw [if_pos (by rw [rsp]; exact decide_eq_true hsp)]; have z : ¬ h.heard < b := z; omega) (fun H' => Q .non H') (fun _ z => z)
        subst ea
        refine ⟨_, rfl, p, A.c_Hand, dx, _, _, rfl, g1, T.cl_Hand, T.n_Hand_stand, hlk_stand, _, rfl, a, q, b, rfl, ha, fun v H3 s3 d3 => ?_⟩
        obtain ⟨e3, q6⟩ := q5 v H3 s3 d3
        refine ⟨_, rfl, p, A.c_Hand, dx, _, rfl, e3, T.cl_Hand, T.n_Hand_stand, hlen, ?_⟩
        rw [hpf_stand]
        exact q6
    · refine ifdn hsp (iteF ?_)
      obtain ⟨a, zz, e0, ea, ha, q5⟩ := fin H vls ls h.heard (SameBut.of (Same.refl H)) h1 h2 h3 (by rw [h4]; exact Nat.le_succ _) h5 h6 h7 h8
          (by rw [if_neg (by rw [rsp, decide_eq_false hsp]; exact Bool.false_ne_true)]) (fun H' => Q .non H') (fun _ z => z)
      subst ea
      refine ⟨_, rfl, p, A.c_Hand, dx, _, _, rfl, h1, T.cl_Hand, T.n_Hand_stand, hlk_stand, _, rfl, a, q, b, rfl, ha, fun v H3 s3 d3 => ?_⟩
      obtain ⟨e3, q6⟩ := q5 v H3 s3 d3
      refine ⟨_, rfl, p, A.c_Hand, dx, _, rfl, e3, T.cl_Hand, T.n_Hand_stand, hlen, ?_⟩
      rw [hpf_stand]
      exact q6

def spBack (K : PySem.W.Frag) (A : Ads) : Sp := fun vs H Q E => ∃ (p l se : Addr) (n : Nat) (h : Hd) (c : Cf) (rs : List Str), vs = [.ref p] ∧ HandAt A H p l se n h ∧ SetC A K H se c rs ∧ n < 1000 ∧ (∀ a, h.area = some a → 1 ≤ h.grant) ∧
  (∀ q a t H' n', h.place = some q → h.area = some a → ¬ a.2.2 ≤ backAt h q a → n' ≤ n + 1 → SameBut [p, l] H H' → H' t = some (.tup [.int h.grant, .int (backAt h q a)]) → HandAt A H' p l se n' (backH c h a (backAt h q a)) → Q (.ref t) H') ∧
  (h.place = none ∨ h.area = none ∨ (∃ q a, h.place = some q ∧ h.area = some a ∧ a.2.2 ≤ backAt h q a) → Ref K A H E)
theorem ok_Hand_give_back (T : Txt K mg A) : FnOk P w K mg base (L2.CX P w) 3 A.f_Hand_give_back A.d_Hand_give_back ["self"] (spBack K A) := by
  refine T.t_Hand_give_back.fn.okX sc_Hand_give_back (fun vs H Q E h => ?_) (fun cdv A' outer s0 H vs Q E hr h => ?_)
  · obtain ⟨p, l, se, n, h, c, rs, rfl, _⟩ := h
    rfl
  · obtain ⟨p, l, se, n, h, c, rs, rfl, hA, hS, hn, hgr, k, ke⟩ := h
    obtain ⟨dx, nm, vst, vls, ls, h1, h2, h3, h4, h5, h6, h7, h8⟩ := id hA
    refine ⟨_, (pss_cons (ps_asg (pe_meth0 (pv 0) T.cl_Hand T.t_Hand_need_area.me (ok_Hand_need_area T) (hr.mono (by decide)) T.t_Hand_need_area.bd .nil (passes_call (takes_of rfl rfl rfl rfl) fun _ _ _ _ h => h)) (pg_tup rfl (pgs_cons (pg_name (i := 1) sc_Hand_give_back.nd rfl (.inl rfl)) (pgs_cons (pg_name (i := 2) sc_Hand_give_back.nd rfl (.inl rfl)) (pgs_cons (pg_name (i := 3) sc_Hand_give_back.nd rfl (.inl rfl)) (pgs_cons (pg_name (i := 4) sc_Hand_give_back.nd rfl (.inl rfl)) pgs_nil)))))) (pss_cons (ps_set (i := 5) sc_Hand_give_back.nd rfl (.inl rfl) (pe_callB (call_max3 rfl) (by rfl) T.z_max boot_max (pa_cons (pe_ix ix_tup (pv 2) pe_int (fun _ _ => rfl)) (pa_cons (pe_call (ok_bound_of T) (hr.mono (by decide)) (by rfl) T.t_bound_of.gl T.t_bound_of.fn.kp T.t_bound_of.bd .nil pass0 (pa_cons (pe_fld (pv 0) rfl) pa_nil)) (pa_cons (pv 3) pa_nil))))) (pss_cons (ps_if (pt_cmpR op_ge (pv 5) (pe_ix ix_tup (pv 2) pe_int (fun _ _ => rfl)) (nomark _)) (pss_one (ps_raise rfl (takes_of rfl rfl rfl rfl) (pmk_own PySem.F.excBase_ValueError T.x_NoRoom.xP T.x_NoRoom.gC T.x_NoRoom.kP (raises_own T.x_NoRoom.bP T.x_NoRoom.tP) rfl))) pss_nil) (pss_cons (ps_if (pt_val (pe_call (ok_has_rule T) (hr.mono (by decide)) (by rfl) T.t_has_rule.gl T.t_has_rule.fn.kp T.t_has_rule.bd .nil pass0 (pa_cons (pe_fld (pv 0) rfl) (pa_cons pe_str pa_nil)))) (pss_one (ps_expr (pe_bm PySem.F.plainAttrs_list PySem.F.slot_list_append PySem.F.type_list_append mt_append (pe_fld (pv 0) rfl) (pa_cons (pe_tup (pa_cons pe_str (pa_cons (pv 1) (pa_cons (pv 5) pa_nil)))) pa_nil)))) pss_nil) (pss_one (ps_ret (pe_tup (pa_cons (pv 1) (pa_cons (pv 5) pa_nil))))))))), ?_⟩
    refine ⟨_, rfl, p, dx, _, rfl, h1, hlk_none (by decide +kernel) (by decide +kernel) (by decide +kernel) (by decide +kernel), p, l, se, n, h, rfl, hA, fun q a t va H1 hq ha s1 ht hva => ?_, fun z => ke (z.elim .inl fun z => .inr (.inl z))⟩
    refine ⟨t, _, rfl, SqT.of ht, rfl, _, _, rfl, _, _, rfl, _, _, rfl, _, _, rfl, rfl, ?_⟩
    have g1 := s1 _ _ h1
    have h8' := h8.on s1.ts
    rw [hq] at h8'
    obtain ⟨pa, rfl, hpa⟩ := Dt.pl h8'
    refine ⟨_, rfl, va, _, 1, _, rfl, rfl, SqT.of hva, atI_nat (j := 1) rfl, ?_⟩
    refine ⟨_, rfl, p, A.c_Hand, dx, _, _, rfl, g1, T.cl_Hand, T.n_Hand_stand, hlk_stand, pa, q, rfl, hpa, ?_⟩
    refine ⟨_, rfl, a.2.1, boundOf q, h.held, rfl, ?_⟩
    have eb : max (max a.2.1 (boundOf q)) h.held = backAt h q a := rfl
    rw [eb]
    refine ⟨_, rfl, _, rfl, va, _, 2, _, rfl, rfl, SqT.of hva, atI_nat (j := 2) rfl, _, _, rfl, rfl, _, rfl, ifd2 (fun z => ?_) (fun z => ?_)⟩
    · exact ke (.inr (.inr ⟨q, a, hq, ha, z⟩)) _ _ _ T.x_NoRoom.eR s1
    · have re : c.rl.ends = decide (("ends" : Str) ∈ rs) := by rw [hS.rl]; rfl
      obtain ⟨term, hS1⟩ := (hS.on s1).at_
      refine ⟨_, rfl, p, A.c_Hand, dx, _, _, rfl, g1, T.cl_Hand, T.n_Hand_settings, hlk_settings, se, "ends", _, _, _, _, _, rs, rfl, hS1, _, rfl, ifd2 (fun hes => ?_) (fun hes => ?_)⟩
      · refine ⟨_, rfl, p, A.c_Hand, dx, _, _, rfl, g1, T.cl_Hand, T.n_Hand_lines, hlk_lines, .inl ⟨rfl, _, SqL.of (s1 _ _ h2)⟩, ?_⟩
        refine ⟨_, rfl, _, rfl, (by show 3 ≤ sizeLine; decide), fun t2 ht2 => ?_⟩
        have s2 := same_new (o := .tup [.str "ends", .int h.grant, .int (backAt h q a)]) ht2
        have dl : Dt (upd H1 t2 (.tup [.str "ends", .int h.grant, .int (backAt h q a)])) (eL (.ends h.grant (backAt h q a))) (.ref t2) := .tup upd_same (.cons (.txt _) (.cons (.num _) (.cons (.num _) .nil)))
        obtain ⟨j1, j2, j3, j4⟩ := line_put (x := .ends h.grant (backAt h q a)) s2 g1 (s1 _ _ h2) (h3.on s1.ts) h5 dl (hgr a ha)
        refine ⟨l, vls, .ref t2, rfl, rfl, s2 _ _ (s1 _ _ h2), by rw [vls_len h3, h4]; exact small1k hn, ?_⟩
        refine ⟨_, rfl, _, rfl, (by show 2 ≤ sizeLine; decide), fun t3 ht3 => ?_⟩
        have s3 := same_new (o := .tup [.int h.grant, .int (backAt h q a)]) ht3
        refine k q a t3 _ (n + 1) hq ha z (Nat.le_refl _) (((SameBut.of (s1.trans s2)).put (by simp)).trans (SameBut.of s3)) upd_same ?_
        refine HandAt.on ⟨dx, nm, _, _, _, j1, upd_same, j2, by rw [List.length_append, h4]; rfl, j3, ?_, by rw [greatL_snoc, h7]; rfl, ?_⟩ s3
        · rw [readL_snoc, h6]
          show stepL ⟨h.grant, h.area, h.held, h.heard⟩ (.ends h.grant (backAt h q a)) = _
          unfold stepL
          simp only [if_true]
          unfold backH
          rw [if_pos (by rw [re]; exact decide_eq_true hes), ha]
          have e : min a.2.2 (backAt h q a) = backAt h q a := by omega
          simp [e]
        · show Dt _ (ePlO h.place) _
          rw [hq]
          exact (h8'.on s2.ts).on j4
      · refine ⟨_, rfl, _, rfl, (by show 2 ≤ sizeLine; decide), fun t3 ht3 => ?_⟩
        have s3 := same_new (o := .tup [.int h.grant, .int (backAt h q a)]) ht3
        refine k q a t3 _ n hq ha z (Nat.le_succ _) (SameBut.of (s1.trans s3)) upd_same ?_
        have e : backH c h a (backAt h q a) = h := by
          unfold backH
          rw [if_neg (by rw [re, decide_eq_false hes]; exact Bool.false_ne_true), ← ha]
        rw [e]
        exact hA.on (s1.trans s3)
end
end K87
end
section
set_option Elab.async false
set_option linter.all false
set_option maxRecDepth 100000
set_option maxHeartbeats 4000000
/-! K87W7: a Small's __init__, deeds, begin. -/
namespace K87
open PySem PySem.Spec L2
open PyProof.Rows hiding St

abbrev sfs (se ar : Addr) (m : Int) : List (Str × V) := [("settings", .ref se), ("areas", .ref ar), ("moments", .int m)]
/-- a Small of the world c at p, its settings at se, its areas at ar -/
def SmallP (A : Ads) (K : PySem.W.Frag) (H : Hp) (p se ar : Addr) (c : Cf) (rs : List Str) : Prop := ∃ (dx : Addr) (vas : List V), H p = some (.ins A.c_Small dx (sfs se ar (c.moments : Nat))) ∧ SetC A K H se c rs ∧ H ar = some (.lst vas) ∧ Dts H (c.areas.map eAr) vas
theorem SmallP.on {A : Ads} {K : PySem.W.Frag} {H H' : Hp} {p se ar : Addr} {c : Cf} {rs : List Str} (h : SmallP A K H p se ar c rs) (e : Same H H') : SmallP A K H' p se ar c rs := by
  obtain ⟨dx, vas, h1, h2, h3, h4⟩ := h
  exact ⟨dx, vas, e _ _ h1, h2.on e, e _ _ h3, h4.on e.ts⟩
def SmallAt (A : Ads) (K : PySem.W.Frag) (H : Hp) (p : Addr) (c : Cf) (rs : List Str) : Prop := ∃ se ar, SmallP A K H p se ar c rs
theorem SmallAt.on {A : Ads} {K : PySem.W.Frag} {H H' : Hp} {p : Addr} {c : Cf} {rs : List Str} (h : SmallAt A K H p c rs) (e : Same H H') : SmallAt A K H' p c rs := by
  obtain ⟨se, ar, h⟩ := h
  exact ⟨se, ar, h.on e⟩
theorem mlk_settings {se ar : Addr} {m : Int} : (sfs se ar m).lookup ("settings" : Str) = some (.ref se) := lk_hit
theorem mlk_areas {se ar : Addr} {m : Int} : (sfs se ar m).lookup ("areas" : Str) = some (.ref ar) := lk_miss (by decide +kernel) lk_hit
theorem mlk_moments {se ar : Addr} {m : Int} : (sfs se ar m).lookup ("moments" : Str) = some (.int m) := lk_miss (by decide +kernel) (lk_miss (by decide +kernel) lk_hit)
theorem mlk_none {se ar : Addr} {m : Int} {f : Str} (h1 : (f == ("settings" : Str)) = false) (h2 : (f == ("areas" : Str)) = false) (h3 : (f == ("moments" : Str)) = false) : (sfs se ar m).lookup f = none :=
  lk_miss h1 (lk_miss h2 (lk_miss h3 rfl))
/-- over data lists -/
theorem Dts.snoc {H : Hp} {ks : List Dat} {vs : List V} {k : Dat} {v : V} (h : Dts H ks vs) (d : Dt H k v) : Dts H (ks ++ [k]) (vs ++ [v]) := h.app (.cons d .nil)
theorem TSame.lst {H : Hp} {p : Addr} {xs ys : List V} (h : H p = some (.lst xs)) : TSame H (upd H p (.lst ys)) := fun b zs e => by rw [upd_ne (ne_of e h (by intro z; cases z))]; exact e

/-- a comprehension's list at D, i of its items made -/
def Lc (H0 : Hp) (D : Addr) (f : Nat → Dat) (i : Nat) (H : Hp) : Prop := Same H0 H ∧ ∃ vs, H D = some (.lst vs) ∧ Dts H ((List.range i).map f) vs
theorem Lc.start {H0 : Hp} {D : Addr} {f : Nat → Dat} (hD : H0 D = none) : Lc H0 D f 0 (upd H0 D (.lst [])) := ⟨same_new hD, [], upd_same, .nil⟩
theorem Lc.two {H0 H : Hp} {D t : Addr} {f : Nat → Dat} {i : Nat} {x : Str} {z : Int} (h : Lc H0 D f i H) (hD : H0 D = none) (hi : i < 1000) (ht : H t = none) (e : f i = .tup [.text x, .num z]) :
    ∃ acc, (upd H t (.tup [.str x, .int z])) D = some (.lst acc) ∧ acc.length < sizeLine ∧ Lc H0 D f (i + 1) (upd (upd H t (.tup [.str x, .int z])) D (.lst (acc ++ [.ref t]))) := by
  obtain ⟨s, vs, hd, hv⟩ := h
  have s1 := same_new (o := .tup [.str x, .int z]) ht
  have hd1 := s1 _ _ hd
  refine ⟨vs, hd1, ?_, fun b o q => ?_, _, upd_same, ?_⟩
  · rw [hv.len, List.length_map, List.length_range]; exact Nat.lt_of_lt_of_le hi (by decide)
  · rw [upd_ne (ne_of_none q hD)]
    exact s1 _ _ (s _ _ q)
  · rw [List.range_succ, List.map_append]
    refine Dts.snoc ((hv.on s1.ts).on (TSame.lst hd1)) ?_
    show Dt _ (f i) _
    rw [e]
    exact Dt.on (.tup upd_same (.cons (.txt _) (.cons (.num _) .nil))) (TSame.lst hd1)

section
variable {P : Program} {w : World} {K : PySem.W.Frag} {mg : Str → Option Value} {base : Heap} {A : Ads}

def spSmallI (A : Ads) (K : PySem.W.Frag) : Sp := fun vs H Q _ => ∃ (p dx se la : Addr) (vas : List V) (c : Cf) (rs : List Str), vs = [.ref p, .ref se, .ref la, .int (c.moments : Nat)] ∧ H p = some (.ins A.c_Small dx []) ∧ SetC A K H se c rs ∧ H la = some (.lst vas) ∧ Dts H (c.areas.map eAr) vas ∧
  ∀ H' ar, SameBut [p] H H' → H ar = none → SmallP A K H' p se ar c rs → Q .non H'
theorem ok_SmallI (T : Txt K mg A) : FnOk P w K mg base CX0 1 A.f_Small_init A.d_Small_init ["self", "settings", "areas", "moments"] (spSmallI A K) := by
  refine T.t_Small_init.fn.ok sc_Small_init (fun vs H Q E h => ?_) (fun cdv A' outer s0 H vs Q E hr h => ?_)
  · obtain ⟨p, dx, se, la, vas, c, rs, rfl, _⟩ := h
    rfl
  · obtain ⟨p, dx, se, la, vas, c, rs, rfl, hp, hS, hl, hd, k⟩ := h
    refine ⟨_, (pss_cons (ps_fld (pv 0) (pv 1) rfl) (pss_cons (ps_fld (pv 0) (pe_callTy call_list_of (by rfl) T.z_list boot_list (pa_cons (pv 2) pa_nil)) rfl) (pss_one (ps_fld (pv 0) (pv 3) rfl)))), ?_⟩
    have np : ∀ {q : Addr} {o : HO}, H q = some o → o ≠ .ins A.c_Small dx [] → q ≠ p := fun e n => ne_of e hp n
    have nlp : la ≠ p := np hl (by intro z; cases z)
    refine ⟨_, rfl, _, rfl, p, A.c_Small, dx, [], rfl, hp, T.cl_Small, T.n_Small_settings, (by show 0 < 1000; decide), ?_⟩
    rw [pf_nil]
    refine ⟨_, rfl, la, vas, rfl, .inl (SqL.of (by rw [upd_ne nlp]; exact hl)), fun l hln => ?_⟩
    have npl : p ≠ l := fun z => by rw [← z, upd_same] at hln; cases hln
    have hl0 : H l = none := by rw [upd_ne npl.symm] at hln; exact hln
    refine ⟨_, rfl, p, A.c_Small, dx, _, rfl, (by rw [upd_ne npl, upd_same]), T.cl_Small, T.n_Small_areas, (by show 1 < 1000; decide), ?_⟩
    rw [pf_miss (by decide +kernel) pf_nil]
    refine ⟨_, rfl, _, rfl, p, A.c_Small, dx, _, rfl, upd_same, T.cl_Small, T.n_Small_moments, (by show 2 < 1000; decide), ?_⟩
    rw [pf_miss (by decide +kernel) (pf_miss (by decide +kernel) pf_nil), upd_upd]
    have sb : SameBut [p] H (upd (upd (upd H p (.ins A.c_Small dx [("settings", .ref se)])) l (.lst vas)) p (.ins A.c_Small dx [("settings", .ref se), ("areas", .ref l), ("moments", .int (c.moments : Nat))])) := fun b o e nb => by
      have nb : b ≠ p := fun z => nb (by simp [z])
      rw [upd_ne nb, upd_ne (ne_of_none e hl0), upd_ne nb]
      exact e
    have ts : TSame H (upd (upd (upd H p (.ins A.c_Small dx [("settings", .ref se)])) l (.lst vas)) p (.ins A.c_Small dx [("settings", .ref se), ("areas", .ref l), ("moments", .int (c.moments : Nat))])) := fun b xs e => sb b _ e (by simpa using np e (by intro z; cases z))
    refine k _ l sb hl0 ⟨dx, vas, upd_same, ?_, by rw [upd_ne npl.symm, upd_same], hd.on ts⟩
    obtain ⟨⟨term, ddx, sh, ru, e1, ⟨dx2, e2⟩, e3⟩, f1, f2, f3⟩ := hS
    exact ⟨⟨term, ddx, sh, ru, sb _ _ e1 (by simpa using np e1 (by simp)), ⟨dx2, sb _ _ e2 (by simpa using np e2 (by simp))⟩, sb _ _ e3 (by simpa using np e3 (by intro z; cases z))⟩, f1, f2, f3⟩

def spDeeds (A : Ads) (K : PySem.W.Frag) : Sp := fun vs H Q _ => ∃ (p : Addr) (c : Cf) (rs : List Str), vs = [.ref p] ∧ SmallAt A K H p c rs ∧ c.Ok ∧ ∀ l vds H', Same H H' → H l = none → H' l = some (.lst vds) → Dts H' ((deedsOf c).map eD) vds → Q (.ref l) H'
theorem ok_Small_deeds (T : Txt K mg A) : FnOk P w K mg base CX0 1 A.f_Small_deeds A.d_Small_deeds ["self"] (spDeeds A K) := by
  refine T.t_Small_deeds.fn.ok sc_Small_deeds (fun vs H Q E h => ?_) (fun cdv A' outer s0 H vs Q E hr h => ?_)
  · obtain ⟨p, c, rs, rfl, _⟩ := h
    rfl
  · obtain ⟨p, c, rs, rfl, ⟨se, ar, dx, vas, h1, hS, h2, h3⟩, hc, k⟩ := h
    have hn : vas.length = c.areas.length := by rw [h3.len, List.length_map]
    have n1 := hc.some; have n2 := hc.two; have m1 := hc.mom; have m4 := hc.mom4
    refine ⟨_, (pss_cons (ps_setLc (i := 1) (own := [("k", 2)]) (g := gName 2) (tt := tYes) (by rfl) sc_Small_deeds.nd rfl rfl (sw_true rfl rfl rfl (by decide +kernel)) (pi_range1 (by rfl) T.z_range (pa_cons (pe_callB call_len_seq (by rfl) T.z_len PySem.boot_len (pa_cons (pe_fld (pv 0) rfl) pa_nil)) pa_nil)) (blkOk_by (own := [("k", 2)]) (N := ["self", "some", "k", "reading", "bound"]) (sc := defScope s_Small_deeds) (by decide +kernel)) (fun _ _ _ _ _ => pg_name (i := 2) sc_Small_deeds.nd rfl (.inl rfl)) (fun _ _ _ _ _ => pts_nil) (fun _ _ _ _ _ => (pe_tup (pa_cons pe_str (pa_cons (pe_op op_add (pv 2) pe_int) pa_nil))))) (pss_cons (ps_expr (pe_bm PySem.F.plainAttrs_list PySem.F.slot_list_extend PySem.F.type_list_extend mt_extend (pv 1) (pa_cons (pe_lc (own := [("reading", 3)]) (g := gName 3) (tt := tYes) (by rfl) sc_Small_deeds.nd (pi_range1 (by rfl) T.z_range (pa_cons (pe_fld (pv 0) rfl) pa_nil)) (blkOk_by (own := [("reading", 3)]) (N := ["self", "some", "k", "reading", "bound"]) (sc := defScope s_Small_deeds) (by decide +kernel)) (fun _ _ _ _ _ => pg_name (i := 3) sc_Small_deeds.nd rfl (.inl rfl)) (fun _ _ _ _ _ => pts_nil) (fun _ _ _ _ _ => (pe_tup (pa_cons pe_str (pa_cons (pv 3) pa_nil))))) pa_nil))) (pss_cons (ps_expr (pe_bm PySem.F.plainAttrs_list PySem.F.slot_list_extend PySem.F.type_list_extend mt_extend (pv 1) (pa_cons (pe_lc (own := [("reading", 3)]) (g := gName 3) (tt := tYes) (by rfl) sc_Small_deeds.nd (pi_range1 (by rfl) T.z_range (pa_cons (pe_fld (pv 0) rfl) pa_nil)) (blkOk_by (own := [("reading", 3)]) (N := ["self", "some", "k", "reading", "bound"]) (sc := defScope s_Small_deeds) (by decide +kernel)) (fun _ _ _ _ _ => pg_name (i := 3) sc_Small_deeds.nd rfl (.inl rfl)) (fun _ _ _ _ _ => pts_nil) (fun _ _ _ _ _ => (pe_tup (pa_cons pe_str (pa_cons (pv 3) pa_nil))))) pa_nil))) (pss_cons (ps_expr (pe_bm PySem.F.plainAttrs_list PySem.F.slot_list_extend PySem.F.type_list_extend mt_extend (pv 1) (pa_cons (pe_lc (own := [("bound", 4)]) (g := gName 4) (tt := tYes) (by rfl) sc_Small_deeds.nd (pi_range1 (by rfl) T.z_range (pa_cons (pe_fld (pv 0) rfl) pa_nil)) (blkOk_by (own := [("bound", 4)]) (N := ["self", "some", "k", "reading", "bound"]) (sc := defScope s_Small_deeds) (by decide +kernel)) (fun _ _ _ _ _ => pg_name (i := 4) sc_Small_deeds.nd rfl (.inl rfl)) (fun _ _ _ _ _ => pts_nil) (fun _ _ _ _ _ => (pe_tup (pa_cons pe_str (pa_cons (pe_op op_add (pv 4) pe_int) pa_nil))))) pa_nil))) (pss_one (ps_ret (pe_op op_cat (pv 1) (pe_lst (pa_cons (pe_tup (pa_cons pe_str pa_nil)) (pa_cons (pe_tup (pa_cons pe_str pa_nil)) (pa_cons (pe_tup (pa_cons pe_str pa_nil)) pa_nil))))))))))), ?_⟩
    refine ⟨_, rfl, p, A.c_Small, dx, _, _, rfl, h1, T.cl_Small, T.n_Small_areas, mlk_areas, ar, vas, rfl, .inl (SqL.of h2), ?_⟩
    refine ⟨_, rfl, by omega, by omega, fun D1 hD1 => ?_⟩
    have en : ((vas.length : Nat) : Int).toNat = c.areas.length := by rw [hn]; rfl
    rw [en]
    refine lc_range (n := c.areas.length) (Lc H D1 fun k => eD (.take ((k : Nat) + 1 : Int))) (Lc.start hD1) (fun i H2 hi q => ⟨rfl, ?_⟩) (fun H2 q => ?_)
    · refine ⟨_, rfl, _, _, rfl, rfl, (by show 2 ≤ sizeLine; decide), fun t ht => ?_⟩
      exact q.two hD1 (by omega) ht (by show eD _ = _; rw [Int.zero_add]; rfl)
    obtain ⟨s1, v1, e1, d1⟩ := q
    -- a list of moments, put behind
    have ext : ∀ (H2 : Hp) (xs : List V) (ks : List Dat) (f : Nat → Dat) (D : Addr) (H3 : Hp), Same H H2 → H2 D1 = some (.lst xs) → Dts H2 ks xs → ks.length ≤ 100 → H2 D = none → Lc H2 D f c.moments H3 →
        ∃ zs, H3 D1 = some (.lst xs) ∧ H3 D = some (.lst zs) ∧ xs.length + zs.length ≤ sizeLine ∧ Same H (upd H3 D1 (.lst (xs ++ zs))) ∧ (upd H3 D1 (.lst (xs ++ zs))) D1 = some (.lst (xs ++ zs)) ∧ Dts (upd H3 D1 (.lst (xs ++ zs))) (ks ++ (List.range c.moments).map f) (xs ++ zs) := by
      intro H2 xs ks f D H3 s2 g1 g2 g3 g4 ⟨s3, zs, g5, g6⟩
      refine ⟨zs, s3 _ _ g1, g5, ?_, fun b o q => ?_, upd_same, ?_⟩
      · rw [g2.len, g6.len, List.length_map, List.length_range]
        show ks.length + c.moments ≤ sizeLine
        have : 104 ≤ sizeLine := by decide
        omega
      · rw [upd_ne (ne_of_none q hD1)]
        exact s3 _ _ (s2 _ _ q)
      · exact ((g2.on s3.ts).on (TSame.lst (s3 _ _ g1))).app (g6.on (TSame.lst (s3 _ _ g1)))
    have hm : (((c.moments : Nat) : Int)).toNat = c.moments := rfl
    refine ⟨_, rfl, .inl ⟨rfl, _, SqL.of e1⟩, ?_⟩
    refine ⟨_, rfl, p, A.c_Small, dx, _, _, rfl, s1 _ _ h1, T.cl_Small, T.n_Small_moments, mlk_moments, _, rfl, by omega, by omega, fun D2 hD2 => ?_⟩
    rw [hm]
    refine lc_range (n := c.moments) (Lc H2 D2 fun k => eD (.write (k : Nat))) (Lc.start hD2) (fun i H3 hi q => ⟨rfl, ?_⟩) (fun H3 q => ?_)
    · exact ⟨_, rfl, (by show 2 ≤ sizeLine; decide), fun t ht => q.two hD2 (by omega) ht (by show eD _ = _; rw [Int.zero_add]; rfl)⟩
    obtain ⟨z2, f1, f2, f3, s2, e2, d2⟩ := ext H2 v1 _ _ D2 H3 s1 e1 d1 (by simp; omega) hD2 q
    refine ⟨_, _, _, _, rfl, rfl, f1, f2, f3, ?_⟩
    generalize upd H3 D1 (.lst (v1 ++ z2)) = H4 at *
    refine ⟨_, rfl, .inl ⟨rfl, _, SqL.of e2⟩, ?_⟩
    refine ⟨_, rfl, p, A.c_Small, dx, _, _, rfl, s2 _ _ h1, T.cl_Small, T.n_Small_moments, mlk_moments, _, rfl, by omega, by omega, fun D3 hD3 => ?_⟩
    rw [hm]
    refine lc_range (n := c.moments) (Lc H4 D3 fun k => eD (.make (k : Nat))) (Lc.start hD3) (fun i H3 hi q => ⟨rfl, ?_⟩) (fun H5 q => ?_)
    · exact ⟨_, rfl, (by show 2 ≤ sizeLine; decide), fun t ht => q.two hD3 (by omega) ht (by show eD _ = _; rw [Int.zero_add]; rfl)⟩
    obtain ⟨z3, f1, f2, f3, s3, e3, d3⟩ := ext H4 _ _ _ D3 H5 s2 e2 d2 (by simp; omega) hD3 q
    refine ⟨_, _, _, _, rfl, rfl, f1, f2, f3, ?_⟩
    generalize upd H5 D1 (.lst (v1 ++ z2 ++ z3)) = H6 at *
    refine ⟨_, rfl, .inl ⟨rfl, _, SqL.of e3⟩, ?_⟩
    refine ⟨_, rfl, p, A.c_Small, dx, _, _, rfl, s3 _ _ h1, T.cl_Small, T.n_Small_moments, mlk_moments, _, rfl, by omega, by omega, fun D4 hD4 => ?_⟩
    rw [hm]
    refine lc_range (n := c.moments) (Lc H6 D4 fun k => eD (.hear ((k : Nat) + 1 : Int))) (Lc.start hD4) (fun i H3 hi q => ⟨rfl, ?_⟩) (fun H7 q => ?_)
    · exact ⟨_, rfl, _, _, rfl, rfl, (by show 2 ≤ sizeLine; decide), fun t ht => q.two hD4 (by omega) ht (by show eD _ = _; rw [Int.zero_add]; rfl)⟩
    obtain ⟨z4, f1, f2, f3, s4, e4, d4⟩ := ext H6 _ _ _ D4 H7 s3 e3 d3 (by simp; omega) hD4 q
    refine ⟨_, _, _, _, rfl, rfl, f1, f2, f3, ?_⟩
    generalize upd H7 D1 (.lst (v1 ++ z2 ++ z3 ++ z4)) = H8 at *
    refine ⟨_, rfl, ?_⟩
    refine ⟨(by show 1 ≤ sizeLine; decide), fun t1 ht1 => ⟨(by show 1 ≤ sizeLine; decide), fun t2 ht2 => ⟨(by show 1 ≤ sizeLine; decide), fun t3 ht3 => ⟨(by show 3 ≤ sizeLine; decide), fun t4 ht4 => ?_⟩⟩⟩⟩
    have u1 := same_new (o := .tup [.str "back"]) ht1
    have u2 := same_new (o := .tup [.str "fall"]) ht2
    have u3 := same_new (o := .tup [.str "rise"]) ht3
    have b1 : Dt (upd H8 t1 (.tup [.str "back"])) (eD .back) (.ref t1) := .tup upd_same (.cons (.txt _) .nil)
    have b2 : Dt (upd (upd H8 t1 (.tup [.str "back"])) t2 (.tup [.str "fall"])) (eD .fall) (.ref t2) := .tup upd_same (.cons (.txt _) .nil)
    have b3 : Dt (upd (upd (upd H8 t1 (.tup [.str "back"])) t2 (.tup [.str "fall"])) t3 (.tup [.str "rise"])) (eD .rise) (.ref t3) := .tup upd_same (.cons (.txt _) .nil)
    generalize upd H8 t1 (.tup [.str "back"]) = H9 at *
    generalize upd H9 t2 (.tup [.str "fall"]) = H10 at *
    generalize upd H10 t3 (.tup [.str "rise"]) = H11 at *
    have u4 := same_new (o := .lst [.ref t1, .ref t2, .ref t3]) ht4
    have u := ((u1.trans u2).trans u3).trans u4
    refine ⟨_, _, _, _, rfl, rfl, u _ _ e4, upd_same, ?_, fun l hl => ?_⟩
    · rw [d4.len]
      show _ + 3 ≤ sizeLine
      have : 104 ≤ sizeLine := by decide
      simp
      omega
    have u5 := same_new (o := .lst (v1 ++ z2 ++ z3 ++ z4 ++ [.ref t1, .ref t2, .ref t3])) hl
    refine k l _ _ ((s4.trans u).trans u5) ((s4.trans u).free hl) upd_same ?_
    have fin : Dts H11 [eD .back, eD .fall, eD .rise] [.ref t1, .ref t2, .ref t3] := .cons (b1.on (u2.trans u3).ts) (.cons (b2.on u3.ts) (.cons b3 .nil))
    have d5 := ((d4.on u.ts).app (fin.on u4.ts)).on u5.ts
    have ee : (deedsOf c).map eD = List.map (fun k => eD (Deed.take ((k : Nat) + 1 : Int))) (List.range c.areas.length) ++ List.map (fun k => eD (Deed.write (k : Nat))) (List.range c.moments) ++ List.map (fun k => eD (Deed.make (k : Nat))) (List.range c.moments) ++
        List.map (fun k => eD (Deed.hear ((k : Nat) + 1 : Int))) (List.range c.moments) ++ [eD .back, eD .fall, eD .rise] := by
      unfold deedsOf
      simp only [List.map_append, List.map_map, List.map_cons, List.map_nil]
      rfl
    rw [ee]
    exact d5
end
end K87
end
section
set_option Elab.async false
set_option linter.all false
set_option maxRecDepth 100000
set_option maxHeartbeats 4000000
/-! K87Kit4: set(t) of a tuple of whole numbers; tuples' slices and sums by data. -/
namespace K87
open PySem PySem.Spec L2
open PyProof.Rows hiding St
def rSetT (K : PySem.W.Frag) (w : World) : List V → Hp → VK → Prop := fun xs H Q => ∃ (p : Addr) (ns : List Int), xs = [.ref p] ∧ SqT K H p (ns.map V.int) ∧ ns.length ≤ 1000 ∧ ∀ q c, H q = none → c ≤ ns.length → Q (.ref q) (upd H q (SetO w q (fun j => decide (j ∈ ns)) c))
theorem cr_setT {X : Cx} (hc : X.calm = true) : CallR X (.type "set") (rSetT X.K X.w) := by
  intro pins s σ H xs us Q I r h
  obtain ⟨p, ns, rfl, hq, hl, q⟩ := h
  rw [Vals.ref1 r]
  obtain ⟨its, rv, pt, hz⟩ := I.tuple hq
  have hi : IntsAre its.toArray.toList ns := ints_of_vals rv
  refine call_set_tupI ns (I.ok.hd hc) (show s.heap.IsTuple p its.toArray from pt) hi (by unfold scanBound; omega) fun h' tk c R1 hcn k => ?_
  have hn := I.hok.fresh (Nat.le_refl s.heap.objs.size)
  exact ⟨.ref _, upd H s.heap.objs.size (SetO X.w s.heap.objs.size (fun j => decide (j ∈ ns)) c), I.laid (t' := tk) k (Nat.le_refl _) (setO_new R1), rfl, q _ c hn hcn⟩
/-- t[:j] of data -/
theorem Dts.take {H : Hp} : ∀ {ks : List Dat} {vs : List V} (j : Nat), Dts H ks vs → Dts H (ks.take j) (vs.take j)
  | [], _, j, h => by cases h; simp; exact .nil
  | _ :: _, _, 0, h => by cases h; exact .nil
  | k :: ks, _, j + 1, h => by
    cases h with
    | cons a b => exact .cons a (Dts.take j b)
theorem Dts.drop {H : Hp} : ∀ {ks : List Dat} {vs : List V} (j : Nat), Dts H ks vs → Dts H (ks.drop j) (vs.drop j)
  | [], _, j, h => by cases h; simp; exact .nil
  | _ :: _, _, 0, h => h
  | k :: ks, _, j + 1, h => by
    cases h with
    | cons a b => exact Dts.drop j b
theorem Dts.repl {H : Hp} {k : Dat} {v : V} (d : Dt H k v) : ∀ n : Nat, Dts H (List.replicate n k) (List.replicate n v)
  | 0 => .nil
  | n + 1 => .cons d (Dts.repl d n)
/-- t[:j], 0 ≤ j -/
theorem slUp {K : PySem.W.Frag} {H : Hp} {a : Addr} {xs : List V} {j : Nat} {Q : VK} (h : H a = some (.tup xs)) (hj : j ≤ xs.length) (q : ∀ p H', Same H H' → H' p = some (.tup (xs.take j)) → Q (.ref p) H') : rSlA K (.ref a) none (some (j : Int)) H Q := by
  have e1 : HT.sIx xs.length 0 none = 0 := rfl
  have e2 : HT.sIx xs.length xs.length (some (j : Int)) = j := by rw [HT.sIx_nat]; omega
  refine ⟨a, xs, rfl, SqT.of h, fun z => ?_, fun z p hp => ?_⟩
  · rw [e2] at z
    refine q a H (Same.refl H) ?_
    rw [z.2, List.take_length]
    exact h
  · refine q p _ (same_new hp) ?_
    unfold cutV
    rw [e1, e2]
    exact upd_same
theorem slFrom {K : PySem.W.Frag} {σ : L2.St} {H : Hp} {a : Addr} {xs : List V} {j : Nat} {Q : VK} (h : H a = some (.tup xs)) (hj : j ≤ xs.length) (q : ∀ p H', Same H H' → H' p = some (.tup (xs.drop j)) → Q (.ref p) H') : tNoPart σ H (fun u H1 => rSlA K (.ref a) (some (j : Int)) u H1 Q) := by
  have e1 : HT.sIx xs.length xs.length none = xs.length := rfl
  have e2 : HT.sIx xs.length 0 (some (j : Int)) = j := by rw [HT.sIx_nat]; omega
  refine ⟨a, xs, rfl, SqT.of h, fun z => ?_, fun z p hp => ?_⟩
  · rw [e2] at z
    refine q a H (Same.refl H) ?_
    rw [z.1, List.drop_zero]
    exact h
  · refine q p _ (same_new hp) ?_
    unfold cutV
    rw [e1, e2]
    have e3 : (xs.drop j).take (xs.length - j) = xs.drop j := List.take_of_length_le (by rw [List.length_drop]; omega)
    rw [e3]
    exact upd_same
/-- t + u -/
theorem catT {K : PySem.W.Frag} {H : Hp} {a b : Addr} {xs ys : List V} {Q : VK} (h1 : H a = some (.tup xs)) (h2 : H b = some (.tup ys)) (hn : xs.length + ys.length ≤ 1000) (q : ∀ p H', Same H H' → H' p = some (.tup (xs ++ ys)) → Q (.ref p) H') : rCatA K (.ref a) (.ref b) H Q := by
  refine ⟨a, b, xs, ys, rfl, rfl, SqT.of h1, SqT.of h2, Nat.le_trans hn (by decide), fun z => ?_, fun _ z => ?_, fun _ _ p hp => q p _ (same_new hp) upd_same⟩
  · subst z
    exact q b H (Same.refl H) h2
  · subst z
    refine q a H (Same.refl H) ?_
    rw [List.append_nil]
    exact h1
end K87
end
section
set_option Elab.async false
set_option linter.all false
set_option maxRecDepth 100000
set_option maxHeartbeats 4000000
/-! K87W8: a Small's begin, next_mark, marked. -/
namespace K87
open PySem PySem.Spec L2
open PyProof.Rows hiding St
section
variable {P : Program} {w : World} {K : PySem.W.Frag} {mg : Str → Option Value} {base : Heap} {A : Ads}

def spBegin (A : Ads) (K : PySem.W.Frag) : Sp := fun vs H Q _ => ∃ (p : Addr) (c : Cf) (rs : List Str), vs = [.ref p] ∧ SmallAt A K H p c rs ∧ c.Ok ∧ ∀ t H', Same H H' → Dt H' (eS (begin0 c)) (.ref t) → Q (.ref t) H'
theorem ok_Small_begin (T : Txt K mg A) : FnOk P w K mg base CX0 1 A.f_Small_begin A.d_Small_begin ["self"] (spBegin A K) := by
  refine T.t_Small_begin.fn.ok sc_Small_begin (fun vs H Q E h => ?_) (fun cdv A' outer s0 H vs Q E hr h => ?_)
  · obtain ⟨p, c, rs, rfl, _⟩ := h
    rfl
  · obtain ⟨p, c, rs, rfl, ⟨se, ar, dx, vas, h1, hS, h2, h3⟩, hc, k⟩ := h
    have hn : vas.length = c.areas.length := by rw [h3.len, List.length_map]
    have n1 := hc.some; have n2 := hc.two
    refine ⟨_, (pss_one (ps_ret (pe_tup (pa_cons (pe_tup (pa_cons pe_int (pa_cons pe_int pa_nil))) (pa_cons (pe_tup (pa_cons pe_int (pa_cons pe_non (pa_cons pe_int (pa_cons pe_int pa_nil))))) (pa_cons pe_int (pa_cons (pe_tup pa_nil) (pa_cons pe_int (pa_cons (pe_op (op_rep1.or op_repT) (pe_tup (pa_cons pe_non pa_nil)) (pe_callB call_len_seq (by rfl) T.z_len PySem.boot_len (pa_cons (pe_fld (pv 0) rfl) pa_nil))) pa_nil))))))))), ?_⟩
    refine ⟨(by show 2 ≤ sizeLine; decide), fun t1 ht1 => ⟨(by show 4 ≤ sizeLine; decide), fun t2 ht2 => ⟨Nat.zero_le _, fun t3 ht3 => ⟨(by show 1 ≤ sizeLine; decide), fun t4 ht4 => ?_⟩⟩⟩⟩
    have s1 := same_new (o := .tup [.int 0, .int 0]) ht1
    have d1 : Dt (upd H t1 (.tup [.int 0, .int 0])) (ePl (0, 0)) (.ref t1) := Dt.ofPl upd_same
    generalize upd H t1 (.tup [.int 0, .int 0]) = H1 at *
    have s2 := same_new (o := .tup [.int 0, .non, .int 0, .int 0]) ht2
    have d2 : Dt (upd H1 t2 (.tup [.int 0, .non, .int 0, .int 0])) (eNote ⟨some (0, 0), 0, none, 0, 0, 0⟩) (.ref t2) := .tup upd_same (.cons (.num _) (.cons .non (.cons (.num _) (.cons (.num _) .nil))))
    generalize upd H1 t2 (.tup [.int 0, .non, .int 0, .int 0]) = H2 at *
    have s3 := same_new (o := .tup []) ht3
    have d3 : Dt (upd H2 t3 (.tup [])) (eMarks []) (.ref t3) := .tup upd_same .nil
    generalize upd H2 t3 (.tup []) = H3 at *
    have s4 := same_new (o := .tup [.non]) ht4
    have e4 : (upd H3 t4 (.tup [.non])) t4 = some (.tup [.non]) := upd_same
    generalize upd H3 t4 (.tup [.non]) = H4 at *
    have s := ((s1.trans s2).trans s3).trans s4
    refine ⟨_, rfl, p, A.c_Small, dx, _, _, rfl, s _ _ h1, T.cl_Small, T.n_Small_areas, mlk_areas, ar, vas, rfl, .inl (SqL.of (s _ _ h2)), ?_⟩
    have fin : ∀ (t5 : Addr) (H5 : Hp), Same H4 H5 → H5 t5 = some (.tup (List.replicate c.areas.length .non)) → ∀ t6, H5 t6 = none → Q (.ref t6) (upd H5 t6 (.tup [.ref t1, .ref t2, .int 0, .ref t3, .int 0, .ref t5])) := by
      intro t5 H5 s5 e5 t6 ht6
      have s6 := same_new (o := .tup [.ref t1, .ref t2, .int 0, .ref t3, .int 0, .ref t5]) ht6
      refine k t6 _ ((s.trans s5).trans s6) (Dt.ofSt (s := begin0 c) upd_same (d1.on (((s2.trans s3).trans s4).trans (s5.trans s6)).ts) (d2.on ((s3.trans s4).trans (s5.trans s6)).ts) (d3.on (s4.trans (s5.trans s6)).ts) ?_)
      refine .tup (s6 _ _ e5) ?_
      have e : (begin0 c).given.map eO = List.replicate c.areas.length NestedKey.none := by
        show (c.areas.map fun _ => (none : Option Int)).map eO = _
        rw [List.map_map]
        exact List.map_const'
      rw [e]
      exact Dts.repl .non _
    by_cases h1' : c.areas.length = 1
    · refine .inl ⟨t4, [.non], rfl, by rw [hn, h1']; rfl, SqT.of e4, (by show 6 ≤ sizeLine; decide), fun t6 ht6 => ?_⟩
      exact fin t4 H4 (Same.refl H4) (by rw [h1']; exact e4) t6 ht6
    · refine .inr ⟨t4, 2, [.non], rfl, by rw [hn, show c.areas.length = 2 by omega]; rfl, SqT.of e4, by simp, by decide, by decide, by decide, fun t5 ht5 => ⟨(by show 6 ≤ sizeLine; decide), fun t6 ht6 => ?_⟩⟩
      exact fin t5 _ (same_new ht5) (by rw [show c.areas.length = 2 by omega]; exact upd_same) t6 ht6

def spNextM (A : Ads) (K : PySem.W.Frag) : Sp := fun vs H Q _ => ∃ (p : Addr) (c : Cf) (rs : List Str) (s : S) (vst : V) (r : Int), vs = [.ref p, vst, .int r] ∧ SmallAt A K H p c rs ∧ Dt H (eS s) vst ∧
  (nextMark c s.hd r = none → ∀ H', Same H H' → Q .non H') ∧ (∀ x q, nextMark c s.hd r = some (x, q) → ∀ t va H', Same H H' → H' t = some (.tup [.int x, va]) → Dt H' (ePl q) va → Q (.ref t) H')
theorem ok_Small_next_mark (T : Txt K mg A) : FnOk P w K mg base CX0 4 A.f_Small_next_mark A.d_Small_next_mark ["self", "state", "reading"] (spNextM A K) := by
  refine T.t_Small_next_mark.fn.ok sc_Small_next_mark (fun vs H Q E h => ?_) (fun cdv A' outer s0 H vs Q E hr h => ?_)
  · obtain ⟨p, c, rs, s, vst, r, rfl, _⟩ := h
    rfl
  · obtain ⟨p, c, rs, s, vst, r, rfl, ⟨se, ar, dx, vas, h1, hS, h2, h3⟩, hd, k0, k1⟩ := h
    obtain ⟨sa, v1, v2, v4, v6, rfl, hsa, d1, d2, d4, d6⟩ := Dt.st hd
    obtain ⟨term, dx2, sh, ru, y1, y2, y3⟩ := hS.at_
    refine ⟨_, (pss_cons (ps_asg (pe_slice sl_tupA (pv 1) po_none (po_some pe_int)) (pg_tup rfl (pgs_cons (pg_name (i := 3) sc_Small_next_mark.nd rfl (.inl rfl)) (pgs_cons (pg_name (i := 4) sc_Small_next_mark.nd rfl (.inl rfl)) pgs_nil)))) (pss_cons (ps_if (PW.pt (pw_or (pt_cmp (pc_isN (pv 3)) rfl) (pw_or1 (pt_cmp (pc_isN (pe_ix ix_tup (pv 4) pe_int (fun _ _ => rfl))) rfl)))) (pss_one (ps_ret pe_non)) pss_nil) (pss_cons (ps_try_tup2 (tb := fun W => tAsg (tCallS (spMade A) (WE W) (tCons (tFld K (tFld K (tVar 0) "settings") "shape") (tCons (tFld K (tFld K (tVar 0) "settings") "far") (tCons (tOp (rIxT K) (tVar 4) (tC (.int 1))) (tCons (tVar 3) (tCons (tVar 2) tNil)))))) (gName 5)) rfl rfl ⟨rfl, T.x_NoRoom.gC, by decide⟩ ⟨rfl, T.x_Wait.gC, by decide⟩ (v1 := .ref A.c_NoRoom) (v2 := .ref A.c_Wait) rfl rfl (by exact fun W pn xe tk _ => pss_one (ps_set (i := 5) sc_Small_next_mark.nd rfl (.inl rfl) (pe_callS (ok_made T) (hr.mono (by decide)) rfl T.t_made.gl T.t_made.fn.kp T.t_made.bd (fun σ => passAt tk σ) (by exact (pa_cons (pe_fld (pe_fld (pv 0) rfl) rfl) (pa_cons (pe_fld (pe_fld (pv 0) rfl) rfl) (pa_cons (pe_ix ix_tup (pv 4) pe_int (fun _ _ => rfl)) (pa_cons (pv 3) (pa_cons (pv 2) pa_nil))))))))) (by exact fun a oe cls d pn _ _ => pss_one (ps_ret pe_non))) (pss_one (ps_ret (pv 5)))))), ?_⟩
    refine ⟨_, rfl, _, rfl, slUp (j := 2) hsa (by show 2 ≤ 6; decide) fun t H1 s1 ht => ?_⟩
    refine ⟨t, _, rfl, SqT.of ht, rfl, _, _, rfl, _, _, rfl, rfl, ?_⟩
    have e1 := d1.on s1.ts
    have e2 := d2.on s1.ts
    refine ⟨_, rfl, _, rfl, ?_⟩
    rcases e1.plO_some with ⟨ep, rfl⟩ | ⟨q, qa, ep, rfl, hqa⟩
    · refine ifd rfl (iteT ?_)
      refine k0 ?_ H1 s1
      unfold nextMark
      rw [ep]
    refine ifdn (fun z => by cases z) ?_
    obtain ⟨na, va, rfl, hna, da⟩ := Dt.note e2
    refine ⟨_, rfl, na, _, 1, _, rfl, rfl, SqT.of hna, atI_nat (j := 1) rfl, _, rfl, ?_⟩
    rcases da.arO_some with ⟨ea, rfl⟩ | ⟨a, aa, ea, rfl, haa⟩
    · refine ifd rfl ?_
      refine k0 ?_ H1 s1
      unfold nextMark
      rw [ep, ea]
    refine ifdn (fun z => by cases z) ?_
    refine ⟨_, rfl, p, A.c_Small, dx, _, _, rfl, s1 _ _ h1, T.cl_Small, T.n_Small_settings, mlk_settings, se, A.c_Settings, dx2, _, _, rfl, s1 _ _ y1, T.cl_Settings, T.n_Settings_shape, slk_shape, ?_⟩
    refine ⟨_, rfl, p, A.c_Small, dx, _, _, rfl, s1 _ _ h1, T.cl_Small, T.n_Small_settings, mlk_settings, se, A.c_Settings, dx2, _, _, rfl, s1 _ _ y1, T.cl_Settings, T.n_Settings_far, slk_far, ?_⟩
    refine ⟨_, rfl, na, _, 1, _, rfl, rfl, SqT.of hna, atI_nat (j := 1) rfl, _, rfl, _, rfl, ?_⟩
    refine ⟨sh, aa, qa, c.counts, c.slots, c.far, r, a, q, rfl, y2.on s1, hS.c1, hS.s1, haa, hqa, fun x q' t2 va2 H2 hm s2 ht2 hd2 => ?_, fun C d H2 hm s2 => ⟨?_, fun a' ha' => k0 ?_ H2 (s1.trans s2)⟩⟩
    · refine ⟨_, rfl, k1 x q' ?_ t2 va2 H2 (s1.trans s2) ht2 hd2⟩
      unfold nextMark
      rw [ep, ea]
      simp only
      rw [hm]
    · rcases hm with ⟨_, e⟩ | ⟨z, _, e⟩
      · rw [e]; exact T.e2_NoRoom
      · rw [e]; exact T.e2_Wait
    · unfold nextMark
      rw [ep, ea]
      simp only
      rcases hm with ⟨hm, _⟩ | ⟨z, hm, _⟩ <;> rw [hm]

def spMarked (A : Ads) (K : PySem.W.Frag) : Sp := fun vs H Q _ => ∃ (p : Addr) (c : Cf) (rs : List Str) (s : S) (vst : V) (r : Int), vs = [.ref p, vst, .int r] ∧ SmallAt A K H p c rs ∧ Dt H (eS s) vst ∧
  (marked c s.hd r = none → ∀ H', Same H H' → Q .non H') ∧ (∀ x q, marked c s.hd r = some (x, q) → ∀ t va H', Same H H' → H' t = some (.tup [.int x, va]) → Dt H' (ePl q) va → Q (.ref t) H')
theorem ok_Small_marked (T : Txt K mg A) : FnOk P w K mg base CX0 5 A.f_Small_marked A.d_Small_marked ["self", "state", "reading"] (spMarked A K) := by
  refine T.t_Small_marked.fn.ok sc_Small_marked (fun vs H Q E h => ?_) (fun cdv A' outer s0 H vs Q E hr h => ?_)
  · obtain ⟨p, c, rs, s, vst, r, rfl, _⟩ := h
    rfl
  · obtain ⟨p, c, rs, s, vst, r, rfl, hM, hd, k0, k1⟩ := h
    obtain ⟨se, ar, dx, vas, h1, hS, h2, h3⟩ := id hM
    refine ⟨_, (pss_cons (ps_set (i := 3) sc_Small_marked.nd rfl (.inl rfl) (pe_meth (pv 0) T.cl_Small T.t_Small_next_mark.me (ok_Small_next_mark T) (hr.mono (by decide)) T.t_Small_next_mark.bd .nil pass0 (pa_cons (pv 1) (pa_cons (pv 2) pa_nil)))) (pss_cons (ps_if (pt_cmp (pc_isN (pv 3)) rfl) (pss_one (ps_ret pe_non)) pss_nil) (pss_cons (ps_set (i := 4) sc_Small_marked.nd rfl (.inl rfl) (pe_ix ix_tup (pe_call (ok_parts_of T) (hr.mono (by decide)) (by rfl) T.t_parts_of.gl T.t_parts_of.fn.kp T.t_parts_of.bd .nil pass0 (pa_cons (pe_fld (pe_fld (pv 0) rfl) rfl) (pa_cons (pe_ix ix_tup (pv 3) pe_int (fun _ _ => rfl)) pa_nil))) pe_int (fun _ _ => rfl))) (pss_cons (ps_if (PW.pt (pw_and (pt_val (pe_call (ok_has_rule T) (hr.mono (by decide)) (by rfl) T.t_has_rule.gl T.t_has_rule.fn.kp T.t_has_rule.bd .nil pass0 (pa_cons (pe_fld (pv 0) rfl) (pa_cons pe_str pa_nil)))) (pw_and1 (pt_cmpR op_ge (pv 4) (pe_ix ix_tup (pe_ix ix_tup (pv 1) pe_int (fun _ _ => rfl)) pe_int (fun _ _ => rfl)) (nomark _))))) (pss_one (ps_ret pe_non)) pss_nil) (pss_one (ps_ret (pv 3))))))), ?_⟩
    refine ⟨_, rfl, p, dx, _, rfl, h1, mlk_none (by decide +kernel) (by decide +kernel) (by decide +kernel), _, rfl, _, rfl, p, c, rs, s, vst, r, rfl, hM, hd, fun hn H1 s1 => ?_, fun x q hn t va H1 s1 ht dq => ?_⟩
    · refine ⟨_, rfl, _, rfl, ifd rfl (k0 ?_ H1 s1)⟩
      unfold marked
      rw [hn]
    · refine ⟨_, rfl, _, rfl, ifdn (fun z => by cases z) ?_⟩
      obtain ⟨term, hS1⟩ := (hS.on s1).at_
      obtain ⟨dx2, sh, ru, y1, y2, y3⟩ := id hS1
      have g1 := s1 _ _ h1
      obtain ⟨sa, v1, v2, v4, v6, rfl, hsa, d1, d2, d4, d6⟩ := Dt.st (hd.on s1.ts)
      obtain ⟨na, nva, rfl, hna, da⟩ := Dt.note d2
      refine ⟨_, rfl, p, A.c_Small, dx, _, _, rfl, g1, T.cl_Small, T.n_Small_settings, mlk_settings, se, A.c_Settings, dx2, _, _, rfl, y1, T.cl_Settings, T.n_Settings_shape, slk_shape, ?_⟩
      refine ⟨_, rfl, t, _, 0, _, rfl, rfl, SqT.of ht, atI_nat (j := 0) rfl, ?_⟩
      refine ⟨sh, c.counts, c.slots, x, rfl, y2, hS.c1, hS.s1, fun t2 H2 w2 w3 s2 ht2 => ?_⟩
      refine ⟨t2, _, 0, _, rfl, rfl, SqT.of ht2, atI_nat (j := 0) rfl, ?_⟩
      have ra : c.rl.ahead = decide (("ahead" : Str) ∈ rs) := by rw [hS.rl]; rfl
      have hmk : ¬ (("ahead" : Str) ∈ rs ∧ s.hd.held ≤ momentOf c.counts c.slots x) → marked c s.hd r = some (x, q) := fun z => by
        unfold marked
        rw [hn]
        simp only
        rw [if_neg fun y => z ⟨of_decide_eq_true (by rw [← ra]; exact y.1), y.2⟩]
      refine ⟨_, rfl, p, A.c_Small, dx, _, _, rfl, s2 _ _ g1, T.cl_Small, T.n_Small_settings, mlk_settings, se, "ahead", _, _, _, _, _, rs, rfl, hS1.on s2, _, rfl, and_if (c2 := s.hd.held ≤ momentOf c.counts c.slots x) (fun z => ?_) (fun z => ?_) (fun _ x' => ?_)⟩
      · refine k0 ?_ H2 (s1.trans s2)
        unfold marked
        rw [hn]
        simp only
        rw [if_pos ⟨by rw [ra]; exact decide_eq_true z.1, z.2⟩]
      · exact ⟨_, rfl, k1 x q (hmk z) t va H2 (s1.trans s2) (s2 _ _ ht) (dq.on s2.ts)⟩
      · exact ⟨_, rfl, _, rfl, sa, _, 1, _, rfl, rfl, SqT.of (s2 _ _ hsa), atI_nat (j := 1) rfl, na, _, 2, _, rfl, rfl, SqT.of (s2 _ _ hna), atI_nat (j := 2) rfl, _, _, rfl, rfl, _, rfl, x'⟩
end
end K87
end
section
set_option Elab.async false
set_option linter.all false
set_option maxRecDepth 100000
set_option maxHeartbeats 4000000
/-! K87W9: a Small's taken, written, heard, given_back. -/
namespace K87
open PySem PySem.Spec L2
open PyProof.Rows hiding St
theorem Dt.ofNote {H : Hp} {h : Hd} {a : Addr} {va : V} (e : H a = some (.tup [.int h.grant, va, .int h.held, .int h.heard])) (d : Dt H (eArO h.area) va) : Dt H (eNote h) (.ref a) := .tup e (.cons (.num _) (.cons d (.cons (.num _) (.cons (.num _) .nil))))
theorem six_le : 6 ≤ sizeLine := by decide
section
variable {P : Program} {w : World} {K : PySem.W.Frag} {mg : Str → Option Value} {base : Heap} {A : Ads}

def spTaken (A : Ads) (K : PySem.W.Frag) : Sp := fun vs H Q _ => ∃ (p : Addr) (c : Cf) (rs : List Str) (s : S) (vst : V) (g : Int) (q : Pl), vs = [.ref p, vst, .int g] ∧ SmallAt A K H p c rs ∧ Dt H (eS s) vst ∧ s.hd.place = some q ∧ (1 ≤ g ∧ g ≤ c.areas.length) ∧
  ∀ t H', Same H H' → Dt H' (eS (takenS c s q g)) (.ref t) → Q (.ref t) H'
theorem ok_Small_taken (T : Txt K mg A) : FnOk P w K mg base CX0 2 A.f_Small_taken A.d_Small_taken ["self", "state", "grant"] (spTaken A K) := by
  refine T.t_Small_taken.fn.ok sc_Small_taken (fun vs H Q E h => ?_) (fun cdv A' outer s0 H vs Q E hr h => ?_)
  · obtain ⟨p, c, rs, s, vst, g, q, rfl, _⟩ := h
    rfl
  · obtain ⟨p, c, rs, s, vst, g, q, rfl, ⟨se, ar, dx, vas, h1, hS, h2, h3⟩, hd, hq, hg, k⟩ := h
    obtain ⟨sa, v1, v2, v4, v6, rfl, hsa, d1, d2, d4, d6⟩ := Dt.st hd
    obtain ⟨na, nva, rfl, hna, da⟩ := Dt.note d2
    rw [hq] at d1
    obtain ⟨qa, rfl, hqa⟩ := Dt.pl d1
    obtain ⟨term, hS1⟩ := hS.at_
    refine ⟨_, (pss_cons (ps_asg (pv 1) (pg_tup rfl (pgs_cons (pg_name (i := 3) sc_Small_taken.nd rfl (.inl rfl)) (pgs_cons (pg_name (i := 4) sc_Small_taken.nd rfl (.inl rfl)) (pgs_cons (pg_name (i := 5) sc_Small_taken.nd rfl (.inl rfl)) (pgs_cons (pg_name (i := 6) sc_Small_taken.nd rfl (.inl rfl)) (pgs_cons (pg_name (i := 7) sc_Small_taken.nd rfl (.inl rfl)) (pgs_cons (pg_name (i := 8) sc_Small_taken.nd rfl (.inl rfl)) pgs_nil)))))))) (pss_cons (ps_if (PW.pt (pw_and (pt_val (pe_call (ok_has_rule T) (hr.mono (by decide)) (by rfl) T.t_has_rule.gl T.t_has_rule.fn.kp T.t_has_rule.bd .nil pass0 (pa_cons (pe_fld (pv 0) rfl) (pa_cons pe_str pa_nil)))) (pw_and1 (pt_cmpR op_le (pv 2) (pv 5) (nomark _))))) (pss_one (ps_ret (pv 1))) pss_nil) (pss_cons (ps_set (i := 9) sc_Small_taken.nd rfl (.inl rfl) (pe_ix ix_list (pe_fld (pv 0) rfl) (pe_op op_sub (pv 2) pe_int) (fun _ _ => rfl))) (pss_one (ps_ret (pe_tup (pa_cons (pe_call (ok_raised T) (hr.mono (by decide)) (by rfl) T.t_raised.gl T.t_raised.fn.kp T.t_raised.bd .nil pass0 (pa_cons (pv 3) (pa_cons (pe_call (ok_bound_of T) (hr.mono (by decide)) (by rfl) T.t_bound_of.gl T.t_bound_of.fn.kp T.t_bound_of.bd .nil pass0 (pa_cons (pv 3) pa_nil)) pa_nil))) (pa_cons (pe_op op_catA (pe_tup (pa_cons (pv 2) (pa_cons (pv 9) pa_nil))) (pe_slice sl_tupA (pv 4) (po_some pe_int) po_none)) (pa_cons (pe_callB (call_mx2 rfl) (by rfl) T.z_max boot_max (pa_cons (pv 5) (pa_cons (pv 2) pa_nil))) (pa_cons (pv 6) (pa_cons (pv 7) (pa_cons (pv 8) pa_nil)))))))))))), ?_⟩
    refine ⟨_, rfl, sa, _, rfl, SqT.of hsa, rfl, _, _, rfl, _, _, rfl, _, _, rfl, _, _, rfl, _, _, rfl, _, _, rfl, rfl, ?_⟩
    have ro : c.rl.once = decide (("once" : Str) ∈ rs) := by rw [hS.rl]; rfl
    refine ⟨_, rfl, p, A.c_Small, dx, _, _, rfl, h1, T.cl_Small, T.n_Small_settings, mlk_settings, se, "once", _, _, _, _, _, rs, rfl, hS1, _, rfl, and_if (c2 := g ≤ s.hd.most) (fun z => ?_) (fun z => ?_) (fun _ x => ⟨_, rfl, _, rfl, _, _, rfl, rfl, _, rfl, x⟩)⟩
    · refine ⟨_, rfl, k sa H (Same.refl H) ?_⟩
      unfold takenS
      rw [if_pos ⟨by rw [ro]; exact decide_eq_true z.1, z.2⟩]
      exact hd
    · have et : takenS c s q g = { s with hd := takeH c s.hd q g } := by
        unfold takenS
        rw [if_neg fun y => z ⟨of_decide_eq_true (by rw [← ro]; exact y.1), y.2⟩]
      rw [et] at k
      have hj : (g - 1).toNat < c.areas.length := by omega
      have ej : g - 1 = (((g - 1).toNat : Nat) : Int) := by omega
      have ea : areaAt c g = c.areas[(g - 1).toNat] := by
        unfold areaAt
        rw [List.getD_eq_getElem?_getD, List.getElem?_eq_getElem hj]
        rfl
      obtain ⟨va, hva, dva⟩ := h3.get (j := (g - 1).toNat) (k := eAr (areaAt c g)) (by rw [List.getElem?_map, List.getElem?_eq_getElem hj, ea]; rfl)
      refine ⟨_, rfl, p, A.c_Small, dx, _, _, rfl, h1, T.cl_Small, T.n_Small_areas, mlk_areas, _, rfl, _, _, rfl, rfl, ar, _, g - 1, va, rfl, rfl, SqL.of h2, (by rw [ej]; exact atI_nat hva), ?_⟩
      obtain ⟨aa, rfl, haa⟩ := Dt.ar dva
      refine ⟨_, rfl, _, rfl, qa, q, rfl, hqa, qa, q, _, rfl, hqa, fun vp H1 s1 dp => ?_⟩
      refine ⟨_, rfl, _, rfl, (by show 2 ≤ sizeLine; decide), fun t1 ht1 => ?_⟩
      have s2 := same_new (o := .tup [.int g, .ref aa]) ht1
      have e1 : (upd H1 t1 (.tup [.int g, .ref aa])) t1 = some (.tup [.int g, .ref aa]) := upd_same
      generalize upd H1 t1 (.tup [.int g, .ref aa]) = H2 at *
      have s12 := s1.trans s2
      refine ⟨_, rfl, _, rfl, slFrom (j := 2) (s12 _ _ hna) (by show 2 ≤ 4; decide) fun t2 H3 s3 e2 => ?_⟩
      refine catT (s3 _ _ e1) e2 (by show 4 ≤ 1000; decide) fun t3 H4 s4 e3 => ?_
      refine ⟨_, rfl, _, rfl, _, _, rfl, _, rfl, _, rfl, _, rfl, six_le, fun t ht => ?_⟩
      have s5 := same_new (o := .tup [vp, .ref t3, .int (max s.hd.most g), v4, .int s.bound, v6]) ht
      have s35 := (s3.trans s4).trans s5
      have sall := s12.trans s35
      refine k t _ sall (Dt.ofSt (s := { s with hd := takeH c s.hd q g }) upd_same (dp.on (s2.trans s35).ts) ?_ (d4.on sall.ts) (d6.on sall.ts))
      exact Dt.ofNote (h := takeH c s.hd q g) (s5 _ _ e3) (.tup (sall _ _ haa) (.cons (.num _) (.cons (.num _) (.cons (.num _) .nil))))

def spWritten (A : Ads) (K : PySem.W.Frag) : Sp := fun vs H Q _ => ∃ (p : Addr) (c : Cf) (rs : List Str) (s : S) (sa : Addr) (r : Int) (q : Pl), vs = [.ref p, .ref sa, .int r] ∧ SmallAt A K H p c rs ∧ Dt H (eS s) (.ref sa) ∧ s.hd.place = some q ∧
  ∀ t H', Same H H' → Dt H' (eS (writtenS c s q r)) (.ref t) → Q (.ref t) H'
theorem ok_Small_written (T : Txt K mg A) : FnOk P w K mg base CX0 5 A.f_Small_written A.d_Small_written ["self", "state", "reading"] (spWritten A K) := by
  refine T.t_Small_written.fn.ok sc_Small_written (fun vs H Q E h => ?_) (fun cdv A' outer s0 H vs Q E hr h => ?_)
  · obtain ⟨p, c, rs, s, sa, r, q, rfl, _⟩ := h
    rfl
  · obtain ⟨p, c, rs, s, sa, r, q, rfl, hM, hd, hq, k⟩ := h
    obtain ⟨se, ar, dx, vas, h1, hS, h2, h3⟩ := id hM
    obtain ⟨sa', v1, v2, v4, v6, e0, hsa, d1, d2, d4, d6⟩ := Dt.st hd
    cases e0
    obtain ⟨na, nva, rfl, hna, da⟩ := Dt.note d2
    rw [hq] at d1
    obtain ⟨qa, rfl, hqa⟩ := Dt.pl d1
    refine ⟨_, (pss_cons (ps_asg (pv 1) (pg_tup rfl (pgs_cons (pg_name (i := 3) sc_Small_written.nd rfl (.inl rfl)) (pgs_cons (pg_name (i := 4) sc_Small_written.nd rfl (.inl rfl)) (pgs_cons (pg_name (i := 5) sc_Small_written.nd rfl (.inl rfl)) (pgs_cons (pg_name (i := 6) sc_Small_written.nd rfl (.inl rfl)) (pgs_cons (pg_name (i := 7) sc_Small_written.nd rfl (.inl rfl)) (pgs_cons (pg_name (i := 8) sc_Small_written.nd rfl (.inl rfl)) pgs_nil)))))))) (pss_cons (ps_if (pt_cmp (pc_isN (pe_meth (pv 0) T.cl_Small T.t_Small_next_mark.me (ok_Small_next_mark T) (hr.mono (by decide)) T.t_Small_next_mark.bd .nil pass0 (pa_cons (pv 1) (pa_cons (pv 2) pa_nil)))) rfl) (pss_one (ps_ret (pv 1))) pss_nil) (pss_cons (ps_set (i := 9) sc_Small_written.nd rfl (.inl rfl) (pe_callB (call_mx2 rfl) (by rfl) T.z_max boot_max (pa_cons (pe_ix ix_tup (pv 4) pe_int (fun _ _ => rfl)) (pa_cons (pe_op op_add (pe_call (ok_moment_at T) (hr.mono (by decide)) (by rfl) T.t_moment_at.gl T.t_moment_at.fn.kp T.t_moment_at.bd .nil pass0 (pa_cons (pe_ix ix_tup (pv 4) pe_int (fun _ _ => rfl)) (pa_cons (pv 3) (pa_cons (pv 2) pa_nil)))) (pe_fld (pe_fld (pv 0) rfl) rfl)) pa_nil)))) (pss_one (ps_ret (pe_tup (pa_cons (pv 3) (pa_cons (pe_op op_catA (pe_slice sl_tupA (pv 4) po_none (po_some pe_int)) (pe_tup (pa_cons (pv 9) (pa_cons (pe_ix ix_tup (pv 4) pe_int (fun _ _ => rfl)) pa_nil)))) (pa_cons (pv 5) (pa_cons (pv 6) (pa_cons (pv 7) (pa_cons (pv 8) pa_nil)))))))))))), ?_⟩
    refine ⟨_, rfl, sa, _, rfl, SqT.of hsa, rfl, _, _, rfl, _, _, rfl, _, _, rfl, _, _, rfl, _, _, rfl, _, _, rfl, rfl, ?_⟩
    refine ⟨_, rfl, p, dx, _, rfl, h1, mlk_none (by decide +kernel) (by decide +kernel) (by decide +kernel), _, rfl, _, rfl, p, c, rs, s, _, r, rfl, hM, hd, fun hn H1 s1 => ?_, fun x q' hn t va H1 s1 ht dq => ?_⟩
    · refine ⟨_, rfl, ifd rfl ⟨_, rfl, k sa H1 s1 ?_⟩⟩
      unfold writtenS
      rw [hn]
      exact hd.on s1.ts
    · refine ⟨_, rfl, ifdn (fun z => by cases z) ?_⟩
      obtain ⟨q0, a, hq0, ha, hm⟩ := nextMark_some hn
      rw [ha] at da
      obtain ⟨aa, rfl, haa⟩ := Dt.ar da
      obtain ⟨term, dx2, sh, ru, y1, y2, y3⟩ := (hS.on s1).at_
      have ew : writtenS c s q r = { s with hd := { s.hd with held := writeTo c s.hd q a r } } := by
        unfold writtenS
        rw [hn, ha]
      rw [ew] at k
      refine ⟨_, rfl, na, _, 2, _, rfl, rfl, SqT.of (s1 _ _ hna), atI_nat (j := 2) rfl, ?_⟩
      refine ⟨_, rfl, na, _, 1, _, rfl, rfl, SqT.of (s1 _ _ hna), atI_nat (j := 1) rfl, _, rfl, _, rfl, aa, qa, q, a, r, rfl, s1 _ _ haa, s1 _ _ hqa, ?_⟩
      refine ⟨_, rfl, p, A.c_Small, dx, _, _, rfl, s1 _ _ h1, T.cl_Small, T.n_Small_settings, mlk_settings, se, A.c_Settings, dx2, _, _, rfl, y1, T.cl_Settings, T.n_Settings_room, slk_room, _, _, rfl, rfl, _, _, rfl, ?_⟩
      refine ⟨_, rfl, _, rfl, _, rfl, slUp (j := 2) (s1 _ _ hna) (by show 2 ≤ 4; decide) fun t2 H3 s3 e2 => ?_⟩
      refine ⟨_, rfl, _, rfl, na, _, 3, _, rfl, rfl, SqT.of ((s1.trans s3) _ _ hna), atI_nat (j := 3) rfl, (by show 2 ≤ sizeLine; decide), fun t1 ht1 => ?_⟩
      have s4 := same_new (o := .tup [.int (max s.hd.held (momentAt a q r + c.room)), .int s.hd.heard]) ht1
      refine catT (s4 _ _ e2) upd_same (by show 4 ≤ 1000; decide) fun t3 H4 s5 e3 => ?_
      refine ⟨_, rfl, _, rfl, _, rfl, _, rfl, six_le, fun t ht => ?_⟩
      have s6 := same_new (o := .tup [.ref qa, .ref t3, .int s.hd.most, v4, .int s.bound, v6]) ht
      have sall := (s1.trans (s3.trans s4)).trans (s5.trans s6)
      refine k t _ sall (Dt.ofSt (s := { s with hd := { s.hd with held := writeTo c s.hd q a r } }) upd_same ?_ ?_ (d4.on sall.ts) (d6.on sall.ts))
      · show Dt _ (ePlO s.hd.place) _
        rw [hq]
        exact d1.on sall.ts
      · refine Dt.ofNote (h := { s.hd with held := writeTo c s.hd q a r }) (va := .ref aa) (s6 _ _ e3) ?_
        show Dt _ (eArO s.hd.area) _
        rw [ha]
        exact da.on sall.ts

def spHeard (A : Ads) (K : PySem.W.Frag) : Sp := fun vs H Q _ => ∃ (p : Addr) (c : Cf) (rs : List Str) (s : S) (sa : Addr) (b : Int) (q : Pl), vs = [.ref p, .ref sa, .int b] ∧ SmallAt A K H p c rs ∧ Dt H (eS s) (.ref sa) ∧ s.hd.place = some q ∧
  ∀ t H', Same H H' → Dt H' (eS (heardS c s q b)) (.ref t) → Q (.ref t) H'
theorem ok_Small_heard (T : Txt K mg A) : FnOk P w K mg base CX0 2 A.f_Small_heard A.d_Small_heard ["self", "state", "told"] (spHeard A K) := by
  refine T.t_Small_heard.fn.ok sc_Small_heard (fun vs H Q E h => ?_) (fun cdv A' outer s0 H vs Q E hr h => ?_)
  · obtain ⟨p, c, rs, s, sa, b, q, rfl, _⟩ := h
    rfl
  · obtain ⟨p, c, rs, s, sa, b, q, rfl, ⟨se, ar, dx, vas, h1, hS, h2, h3⟩, hd, hq, k⟩ := h
    obtain ⟨sa', v1, v2, v4, v6, e0, hsa, d1, d2, d4, d6⟩ := Dt.st hd
    cases e0
    obtain ⟨na, nva, rfl, hna, da⟩ := Dt.note d2
    rw [hq] at d1
    obtain ⟨qa, rfl, hqa⟩ := Dt.pl d1
    obtain ⟨term, hS1⟩ := hS.at_
    refine ⟨_, (pss_cons (ps_asg (pv 1) (pg_tup rfl (pgs_cons (pg_name (i := 3) sc_Small_heard.nd rfl (.inl rfl)) (pgs_cons (pg_name (i := 4) sc_Small_heard.nd rfl (.inl rfl)) (pgs_cons (pg_name (i := 5) sc_Small_heard.nd rfl (.inl rfl)) (pgs_cons (pg_name (i := 6) sc_Small_heard.nd rfl (.inl rfl)) (pgs_cons (pg_name (i := 7) sc_Small_heard.nd rfl (.inl rfl)) (pgs_cons (pg_name (i := 8) sc_Small_heard.nd rfl (.inl rfl)) pgs_nil)))))))) (pss_cons (ps_if (pt_val (pe_call (ok_has_rule T) (hr.mono (by decide)) (by rfl) T.t_has_rule.gl T.t_has_rule.fn.kp T.t_has_rule.bd .nil pass0 (pa_cons (pe_fld (pv 0) rfl) (pa_cons pe_str pa_nil)))) (pss_one (ps_set (i := 4) sc_Small_heard.nd rfl (.inl rfl) (pe_op op_catA (pe_slice sl_tupA (pv 4) po_none (po_some pe_int)) (pe_tup (pa_cons (pe_callB (call_mx2 rfl) (by rfl) T.z_max boot_max (pa_cons (pe_ix ix_tup (pv 4) pe_int (fun _ _ => rfl)) (pa_cons (pv 2) pa_nil))) pa_nil))))) pss_nil) (pss_one (ps_ret (pe_tup (pa_cons (pe_call (ok_raised T) (hr.mono (by decide)) (by rfl) T.t_raised.gl T.t_raised.fn.kp T.t_raised.bd .nil pass0 (pa_cons (pv 3) (pa_cons (pv 2) pa_nil))) (pa_cons (pv 4) (pa_cons (pv 5) (pa_cons (pv 6) (pa_cons (pe_callB (call_mx2 rfl) (by rfl) T.z_max boot_max (pa_cons (pv 7) (pa_cons (pv 2) pa_nil))) (pa_cons (pv 8) pa_nil))))))))))), ?_⟩
    refine ⟨_, rfl, sa, _, rfl, SqT.of hsa, rfl, _, _, rfl, _, _, rfl, _, _, rfl, _, _, rfl, _, _, rfl, _, _, rfl, rfl, ?_⟩
    have rsp : c.rl.spoken = decide (("spoken" : Str) ∈ rs) := by rw [hS.rl]; rfl
    -- the end, whatever the note
    have fin : ∀ (t3 : Addr) (H1 : Hp), Same H H1 → Dt H1 (eNote (hearH c s.hd q b)) (.ref t3) → ∀ vp H2, Same H1 H2 → Dt H2 (ePl (raised q b)) vp → ∀ t, H2 t = none → Q (.ref t) (upd H2 t (.tup [vp, .ref t3, .int s.hd.most, v4, .int (max s.bound b), v6])) := by
      intro t3 H1 s1 dn vp H2 s2 dp t ht
      have s3 := same_new (o := .tup [vp, .ref t3, .int s.hd.most, v4, .int (max s.bound b), v6]) ht
      have sall := s1.trans (s2.trans s3)
      exact k t _ sall (Dt.ofSt (s := heardS c s q b) upd_same (dp.on s3.ts) (dn.on (s2.trans s3).ts) (d4.on sall.ts) (d6.on sall.ts))
    refine ⟨_, rfl, p, A.c_Small, dx, _, _, rfl, h1, T.cl_Small, T.n_Small_settings, mlk_settings, se, "spoken", _, _, _, _, _, rs, rfl, hS1, _, rfl, ifd2 (fun z => ?_) (fun z => ?_)⟩
    · refine ⟨_, rfl, _, rfl, slUp (j := 3) hna (by show 3 ≤ 4; decide) fun t2 H3 s3 e2 => ?_⟩
      refine ⟨_, rfl, na, _, 3, _, rfl, rfl, SqT.of (s3 _ _ hna), atI_nat (j := 3) rfl, _, rfl, _, _, rfl, (by show 1 ≤ sizeLine; decide), fun t1 ht1 => ?_⟩
      have s4 := same_new (o := .tup [.int (max s.hd.heard b)]) ht1
      refine catT (s4 _ _ e2) upd_same (by show 4 ≤ 1000; decide) fun t3 H4 s5 e3 => ?_
      have s45 := (s3.trans s4).trans s5
      refine ⟨_, rfl, _, rfl, qa, q, b, rfl, s45 _ _ hqa, fun vp H5 s6 dp => ?_⟩
      refine ⟨_, rfl, _, rfl, _, rfl, _, rfl, _, rfl, _, _, rfl, _, rfl, six_le, fun t ht => ?_⟩
      refine fin t3 H4 s45 (Dt.ofNote (h := hearH c s.hd q b) (va := nva) ?_ (da.on s45.ts)) vp H5 s6 dp t ht
      have e : (hearH c s.hd q b).heard = max s.hd.heard b := if_pos (by rw [rsp]; exact decide_eq_true z)
      rw [e]
      exact e3
    · refine ⟨_, rfl, _, rfl, qa, q, b, rfl, hqa, fun vp H5 s6 dp => ?_⟩
      refine ⟨_, rfl, _, rfl, _, rfl, _, rfl, _, rfl, _, _, rfl, _, rfl, six_le, fun t ht => ?_⟩
      refine fin na H (Same.refl H) (Dt.ofNote (h := hearH c s.hd q b) (va := nva) ?_ da) vp H5 s6 dp t ht
      have e : (hearH c s.hd q b).heard = s.hd.heard := if_neg (by rw [rsp, decide_eq_false z]; exact Bool.false_ne_true)
      rw [e]
      exact hna
end
end K87
end
section
set_option Elab.async false
set_option linter.all false
set_option maxRecDepth 100000
set_option maxHeartbeats 4000000
/-! K87W10: a Small's given_back. -/
namespace K87
open PySem PySem.Spec L2
open PyProof.Rows hiding St
section
variable {P : Program} {w : World} {K : PySem.W.Frag} {mg : Str → Option Value} {base : Heap} {A : Ads}

def spSBack (A : Ads) (K : PySem.W.Frag) : Sp := fun vs H Q _ => ∃ (p : Addr) (c : Cf) (rs : List Str) (s : S) (sa : Addr) (q : Pl), vs = [.ref p, .ref sa] ∧ SmallAt A K H p c rs ∧ Dt H (eS s) (.ref sa) ∧ s.hd.place = some q ∧ (∀ a, s.hd.area = some a → 1 ≤ s.hd.grant ∧ s.hd.grant ≤ s.given.length) ∧ s.given.length ≤ 2 ∧
  ∀ t H', Same H H' → Dt H' (eS (backS c s q)) (.ref t) → Q (.ref t) H'
theorem ok_Small_given_back (T : Txt K mg A) : FnOk P w K mg base CX0 2 A.f_Small_given_back A.d_Small_given_back ["self", "state"] (spSBack A K) := by
  refine T.t_Small_given_back.fn.ok sc_Small_given_back (fun vs H Q E h => ?_) (fun cdv A' outer s0 H vs Q E hr h => ?_)
  · obtain ⟨p, c, rs, s, sa, q, rfl, _⟩ := h
    rfl
  · obtain ⟨p, c, rs, s, sa, q, rfl, ⟨se, ar, dx, vas, h1, hS, h2, h3⟩, hd, hq, hgr, hg2, k⟩ := h
    obtain ⟨sa', v1, v2, v4, v6, e0, hsa, d1, d2, d4, d6⟩ := Dt.st hd
    cases e0
    obtain ⟨na, nva, rfl, hna, da⟩ := Dt.note d2
    rw [hq] at d1
    obtain ⟨qa, rfl, hqa⟩ := Dt.pl d1
    obtain ⟨ga, vgs, rfl, hga, dgs⟩ := Dt.tup_inv d6
    obtain ⟨term, hS1⟩ := hS.at_
    have lg : vgs.length = s.given.length := by rw [dgs.len, List.length_map]
    refine ⟨_, (pss_cons (ps_asg (pv 1) (pg_tup rfl (pgs_cons (pg_name (i := 2) sc_Small_given_back.nd rfl (.inl rfl)) (pgs_cons (pg_name (i := 3) sc_Small_given_back.nd rfl (.inl rfl)) (pgs_cons (pg_name (i := 4) sc_Small_given_back.nd rfl (.inl rfl)) (pgs_cons (pg_name (i := 5) sc_Small_given_back.nd rfl (.inl rfl)) (pgs_cons (pg_name (i := 6) sc_Small_given_back.nd rfl (.inl rfl)) (pgs_cons (pg_name (i := 7) sc_Small_given_back.nd rfl (.inl rfl)) pgs_nil)))))))) (pss_cons (ps_if (pt_cmp (pc_isN (pe_ix ix_tup (pv 3) pe_int (fun _ _ => rfl))) rfl) (pss_one (ps_ret (pv 1))) pss_nil) (pss_cons (ps_asg (pe_ix ix_tup (pv 3) pe_int (fun _ _ => rfl)) (pg_tup rfl (pgs_cons (pg_name (i := 8) sc_Small_given_back.nd rfl (.inl rfl)) (pgs_cons (pg_name (i := 9) sc_Small_given_back.nd rfl (.inl rfl)) (pgs_cons (pg_name (i := 10) sc_Small_given_back.nd rfl (.inl rfl)) pgs_nil))))) (pss_cons (ps_set (i := 11) sc_Small_given_back.nd rfl (.inl rfl) (pe_callB (call_max3 rfl) (by rfl) T.z_max boot_max (pa_cons (pv 9) (pa_cons (pe_call (ok_bound_of T) (hr.mono (by decide)) (by rfl) T.t_bound_of.gl T.t_bound_of.fn.kp T.t_bound_of.bd .nil pass0 (pa_cons (pv 2) pa_nil)) (pa_cons (pe_ix ix_tup (pv 3) pe_int (fun _ _ => rfl)) pa_nil))))) (pss_cons (ps_if (pt_cmpR op_ge (pv 11) (pv 10) (nomark _)) (pss_one (ps_ret (pv 1))) pss_nil) (pss_cons (ps_set (i := 12) sc_Small_given_back.nd rfl (.inl rfl) (pe_op op_sub (pe_ix ix_tup (pv 3) pe_int (fun _ _ => rfl)) pe_int)) (pss_cons (ps_if (PW.pt (pw_or (pt_cmp (pc_isN (pe_ix ix_tup (pv 7) (pv 12) (fun _ _ => rfl))) rfl) (pw_or1 (pt_cmpR op_lt (pv 11) (pe_ix ix_tup (pv 7) (pv 12) (fun _ _ => rfl)) (nomark _))))) (pss_one (ps_set (i := 7) sc_Small_given_back.nd rfl (.inl rfl) (pe_op op_catA (pe_op op_catA (pe_slice sl_tupA (pv 7) po_none (po_some (pv 12))) (pe_tup (pa_cons (pv 11) pa_nil))) (pe_slice sl_tupA (pv 7) (po_some (pe_op op_add (pv 12) pe_int)) po_none)))) pss_nil) (pss_cons (ps_if (pt_val (pe_call (ok_has_rule T) (hr.mono (by decide)) (by rfl) T.t_has_rule.gl T.t_has_rule.fn.kp T.t_has_rule.bd .nil pass0 (pa_cons (pe_fld (pv 0) rfl) (pa_cons pe_str pa_nil)))) (pss_one (ps_set (i := 3) sc_Small_given_back.nd rfl (.inl rfl) (pe_op op_catA (pe_tup (pa_cons (pe_ix ix_tup (pv 3) pe_int (fun _ _ => rfl)) (pa_cons (pe_tup (pa_cons (pv 8) (pa_cons (pv 9) (pa_cons (pv 11) pa_nil)))) pa_nil))) (pe_slice sl_tupA (pv 3) (po_some pe_int) po_none)))) pss_nil) (pss_one (ps_ret (pe_tup (pa_cons (pv 2) (pa_cons (pv 3) (pa_cons (pv 4) (pa_cons (pv 5) (pa_cons (pv 6) (pa_cons (pv 7) pa_nil))))))))))))))))), ?_⟩
    refine ⟨_, rfl, sa, _, rfl, SqT.of hsa, rfl, _, _, rfl, _, _, rfl, _, _, rfl, _, _, rfl, _, _, rfl, _, _, rfl, rfl, ?_⟩
    dsimp only [L2.start, List.map, List.length, List.replicate, List.set, HAppend.hAppend, Append.append, List.append]
    refine ⟨_, rfl, na, _, 1, _, rfl, rfl, SqT.of hna, atI_nat (j := 1) rfl, _, rfl, ?_⟩
    rcases da.arO_some with ⟨ea, rfl⟩ | ⟨a, aa, ea, rfl, haa⟩
    · refine ifd rfl ⟨_, rfl, k sa H (Same.refl H) ?_⟩
      unfold backS
      rw [ea]
      exact hd
    refine ifdn (fun z => by cases z) ?_
    refine ⟨_, rfl, na, _, 1, _, rfl, rfl, SqT.of hna, atI_nat (j := 1) rfl, ?_⟩
    refine ⟨aa, _, rfl, SqT.of haa, rfl, _, _, rfl, _, _, rfl, _, _, rfl, rfl, ?_⟩
    dsimp only [List.set]
    refine ⟨_, rfl, _, rfl, qa, q, rfl, hqa, ?_⟩
    refine ⟨_, rfl, na, _, 2, _, rfl, rfl, SqT.of hna, atI_nat (j := 2) rfl, a.2.1, boundOf q, s.hd.held, rfl, ?_⟩
    have eb : max (max a.2.1 (boundOf q)) s.hd.held = backAt s.hd q a := rfl
    rw [eb]
    dsimp only [List.set]
    refine ⟨_, rfl, _, rfl, _, _, rfl, rfl, _, rfl, ifd2 (fun z => ?_) (fun z => ?_)⟩
    · refine ⟨_, rfl, k sa H (Same.refl H) ?_⟩
      unfold backS
      rw [ea]
      simp only
      rw [if_pos z]
      exact hd
    have eS' : backS c s q = { s with hd := backH c s.hd a (backAt s.hd q a), given := giveAt s.given (s.hd.grant - 1).toNat (backAt s.hd q a) } := by
      unfold backS
      rw [ea]
      simp only
      rw [if_neg z]
    rw [eS'] at k
    generalize he : backAt s.hd q a = e at *
    obtain ⟨g1, g2⟩ := hgr a ea
    have hj : (s.hd.grant - 1).toNat < s.given.length := by omega
    have ej : s.hd.grant - 1 = (((s.hd.grant - 1).toNat : Nat) : Int) := by omega
    generalize hjj : (s.hd.grant - 1).toNat = j at *
    have egj : s.given.getD j none = s.given[j] := by rw [List.getD_eq_getElem?_getD, List.getElem?_eq_getElem hj]; rfl
    obtain ⟨vg, hvg, dvg⟩ := dgs.get (j := j) (k := eO (s.given.getD j none)) (by rw [List.getElem?_map, List.getElem?_eq_getElem hj, egj]; rfl)
    refine ⟨_, rfl, na, _, 0, _, rfl, rfl, SqT.of hna, atI_nat (j := 0) rfl, _, _, rfl, rfl, ?_⟩
    have ren : c.rl.ends = decide (("ends" : Str) ∈ rs) := by rw [hS.rl]; rfl
    -- the end, whatever was given
    have fin : ∀ (t3 gv : Addr) (H1 : Hp), Same H H1 → Dt H1 (eNote (backH c s.hd a e)) (.ref t3) → Dt H1 (eGiven (giveAt s.given j e)) (.ref gv) → ∀ t, H1 t = none → Q (.ref t) (upd H1 t (.tup [.ref qa, .ref t3, .int s.hd.most, v4, .int s.bound, .ref gv])) := by
      intro t3 gv H1 s1 dn dg t ht
      have s3 := same_new (o := .tup [.ref qa, .ref t3, .int s.hd.most, v4, .int s.bound, .ref gv]) ht
      have sall := s1.trans s3
      refine k t _ sall (Dt.ofSt (s := { s with hd := backH c s.hd a e, given := giveAt s.given j e }) upd_same ?_ (dn.on s3.ts) (d4.on sall.ts) (dg.on s3.ts))
      show Dt _ (ePlO s.hd.place) _
      rw [hq]
      exact d1.on sall.ts
    dsimp only [List.set]
    refine ⟨_, rfl, _, rfl, ga, _, s.hd.grant - 1, vg, rfl, rfl, SqT.of hga, (by rw [ej]; exact atI_nat hvg), _, rfl, ?_⟩
    cases hG : s.given.getD j none with
    | none =>
      rw [hG] at dvg
      cases dvg.non_inv
      have gset : giveAt s.given j e = s.given.set j (some e) := by
        unfold giveAt
        rw [hG]
      refine ifd rfl (iteT ?_)
      have dset : ∀ {H' : Hp}, TSame H H' → Dts H' ((s.given.set j (some e)).map eO) (vgs.take j ++ [.int e] ++ vgs.drop (j + 1)) := fun ts => by
        have e1 : (s.given.set j (some e)).map eO = (s.given.map eO).take j ++ [eO (some e)] ++ (s.given.map eO).drop (j + 1) := by
          rw [List.set_eq_take_append_cons_drop, if_pos hj, List.map_append, List.map_cons, List.map_take, List.map_drop, List.append_assoc]
          rfl
        rw [e1]
        exact (((dgs.on ts).take j).app (.cons (.num _) .nil)).app ((dgs.on ts).drop (j + 1))
      refine ⟨_, rfl, _, rfl, (j : Int), congrArg V.int ej, slUp (j := j) hga (by rw [lg]; omega) fun u1 H1 s1 f1 => ?_⟩
      refine ⟨_, rfl, (by show 1 ≤ sizeLine; decide), fun u2 hu2 => ?_⟩
      have s2 := same_new (o := .tup [.int e]) hu2
      have f2 : (upd H1 u2 (.tup [.int e])) u2 = some (.tup [.int e]) := upd_same
      generalize upd H1 u2 (.tup [.int e]) = H2 at *
      refine catT (s2 _ _ f1) f2 (by rw [List.length_take]; show _ + 1 ≤ 1000; omega) fun u3 H3 s3 f3 => ?_
      have s13 := (s1.trans s2).trans s3
      refine ⟨_, rfl, _, rfl, _, _, rfl, rfl, ((j + 1 : Nat) : Int), congrArg V.int (by omega), slFrom (j := j + 1) (s13 _ _ hga) (by rw [lg]; omega) fun u4 H4 s4 f4 => ?_⟩
      refine catT (s4 _ _ f3) f4 (by rw [List.length_append, List.length_take, List.length_drop]; show _ + 1 + _ ≤ 1000; omega) fun gv HG s5 f5 => ?_
      have sg := (s13.trans s4).trans s5
      have dg : Dt HG (eGiven (giveAt s.given j e)) (.ref gv) := by
        refine .tup f5 ?_
        rw [gset]
        exact dset sg.ts
      dsimp only [List.set]
      refine ⟨_, rfl, p, A.c_Small, dx, _, _, rfl, sg _ _ h1, T.cl_Small, T.n_Small_settings, mlk_settings, se, "ends", _, _, _, _, _, rs, rfl, hS1.on sg, _, rfl, ifd2 (fun z2 => ?_) (fun z2 => ?_)⟩
      · refine ⟨_, rfl, na, _, 0, _, rfl, rfl, SqT.of (sg _ _ hna), atI_nat (j := 0) rfl, ?_⟩
        refine ⟨_, rfl, _, rfl, _, rfl, (by show 3 ≤ sizeLine; decide), fun t1 ht1 => ⟨(by show 2 ≤ sizeLine; decide), fun t2 ht2 => ?_⟩⟩
        have s1 := same_new (o := .tup [.int a.1, .int a.2.1, .int e]) ht1
        have e1 : (upd HG t1 (.tup [.int a.1, .int a.2.1, .int e])) t1 = some (.tup [.int a.1, .int a.2.1, .int e]) := upd_same
        generalize upd HG t1 (.tup [.int a.1, .int a.2.1, .int e]) = H2 at *
        have s2 := same_new (o := .tup [.int s.hd.grant, .ref t1]) ht2
        have e2 : (upd H2 t2 (.tup [.int s.hd.grant, .ref t1])) t2 = some (.tup [.int s.hd.grant, .ref t1]) := upd_same
        generalize upd H2 t2 (.tup [.int s.hd.grant, .ref t1]) = H3 at *
        have s12 := (sg.trans s1).trans s2
        refine ⟨_, rfl, _, rfl, slFrom (j := 2) (s12 _ _ hna) (by show 2 ≤ 4; decide) fun t3 H4 s3 e3 => ?_⟩
        refine catT (s3 _ _ e2) e3 (by show 4 ≤ 1000; decide) fun t4 H5 s4 e4 => ?_
        dsimp only [List.set]
        refine ⟨_, rfl, _, rfl, _, rfl, _, rfl, _, rfl, _, rfl, six_le, fun t ht => ?_⟩
        refine fin t4 gv H5 ((s12.trans s3).trans s4) (Dt.ofNote (h := backH c s.hd a e) (va := .ref t1) e4 ?_) (dg.on ((s1.trans s2).trans (s3.trans s4)).ts) t ht
        have ee : (backH c s.hd a e).area = some (a.1, a.2.1, e) := if_pos (by rw [ren]; exact decide_eq_true z2)
        rw [ee]
        exact Dt.ofAr (((s2.trans s3).trans s4) _ _ e1)
      · refine ⟨_, rfl, _, rfl, _, rfl, _, rfl, _, rfl, _, rfl, six_le, fun t ht => ?_⟩
        refine fin na gv HG sg (Dt.ofNote (h := backH c s.hd a e) (va := .ref aa) (sg _ _ hna) ?_) dg t ht
        have ee : (backH c s.hd a e).area = some a := if_neg (by rw [ren, decide_eq_false z2]; exact Bool.false_ne_true)
        rw [ee]
        exact Dt.ofAr (sg _ _ haa)
    | some y =>
      rw [hG] at dvg
      cases dvg.num_inv
      refine ifdn (fun z => by cases z) ?_
      refine ⟨_, rfl, _, rfl, _, rfl, ga, _, s.hd.grant - 1, .int y, rfl, rfl, SqT.of hga, (by rw [ej]; exact atI_nat hvg), _, _, rfl, rfl, _, rfl, ifd2 (fun z3 => ?_) (fun z3 => ?_)⟩
      · have gset : giveAt s.given j e = s.given.set j (some e) := by
          unfold giveAt
          rw [hG]
          exact if_pos z3
        have dset : ∀ {H' : Hp}, TSame H H' → Dts H' ((s.given.set j (some e)).map eO) (vgs.take j ++ [.int e] ++ vgs.drop (j + 1)) := fun ts => by
          have e1 : (s.given.set j (some e)).map eO = (s.given.map eO).take j ++ [eO (some e)] ++ (s.given.map eO).drop (j + 1) := by
            rw [List.set_eq_take_append_cons_drop, if_pos hj, List.map_append, List.map_cons, List.map_take, List.map_drop, List.append_assoc]
            rfl
          rw [e1]
          exact (((dgs.on ts).take j).app (.cons (.num _) .nil)).app ((dgs.on ts).drop (j + 1))
        refine ⟨_, rfl, _, rfl, (j : Int), congrArg V.int ej, slUp (j := j) hga (by rw [lg]; omega) fun u1 H1 s1 f1 => ?_⟩
        refine ⟨_, rfl, (by show 1 ≤ sizeLine; decide), fun u2 hu2 => ?_⟩
        have s2 := same_new (o := .tup [.int e]) hu2
        have f2 : (upd H1 u2 (.tup [.int e])) u2 = some (.tup [.int e]) := upd_same
        generalize upd H1 u2 (.tup [.int e]) = H2 at *
        refine catT (s2 _ _ f1) f2 (by rw [List.length_take]; show _ + 1 ≤ 1000; omega) fun u3 H3 s3 f3 => ?_
        have s13 := (s1.trans s2).trans s3
        refine ⟨_, rfl, _, rfl, _, _, rfl, rfl, ((j + 1 : Nat) : Int), congrArg V.int (by omega), slFrom (j := j + 1) (s13 _ _ hga) (by rw [lg]; omega) fun u4 H4 s4 f4 => ?_⟩
        refine catT (s4 _ _ f3) f4 (by rw [List.length_append, List.length_take, List.length_drop]; show _ + 1 + _ ≤ 1000; omega) fun gv HG s5 f5 => ?_
        have sg := (s13.trans s4).trans s5
        have dg : Dt HG (eGiven (giveAt s.given j e)) (.ref gv) := by
          refine .tup f5 ?_
          rw [gset]
          exact dset sg.ts
        dsimp only [List.set]
        refine ⟨_, rfl, p, A.c_Small, dx, _, _, rfl, sg _ _ h1, T.cl_Small, T.n_Small_settings, mlk_settings, se, "ends", _, _, _, _, _, rs, rfl, hS1.on sg, _, rfl, ifd2 (fun z2 => ?_) (fun z2 => ?_)⟩
        · refine ⟨_, rfl, na, _, 0, _, rfl, rfl, SqT.of (sg _ _ hna), atI_nat (j := 0) rfl, ?_⟩
          refine ⟨_, rfl, _, rfl, _, rfl, (by show 3 ≤ sizeLine; decide), fun t1 ht1 => ⟨(by show 2 ≤ sizeLine; decide), fun t2 ht2 => ?_⟩⟩
          have s1 := same_new (o := .tup [.int a.1, .int a.2.1, .int e]) ht1
          have e1 : (upd HG t1 (.tup [.int a.1, .int a.2.1, .int e])) t1 = some (.tup [.int a.1, .int a.2.1, .int e]) := upd_same
          generalize upd HG t1 (.tup [.int a.1, .int a.2.1, .int e]) = H2 at *
          have s2 := same_new (o := .tup [.int s.hd.grant, .ref t1]) ht2
          have e2 : (upd H2 t2 (.tup [.int s.hd.grant, .ref t1])) t2 = some (.tup [.int s.hd.grant, .ref t1]) := upd_same
          generalize upd H2 t2 (.tup [.int s.hd.grant, .ref t1]) = H3 at *
          have s12 := (sg.trans s1).trans s2
          refine ⟨_, rfl, _, rfl, slFrom (j := 2) (s12 _ _ hna) (by show 2 ≤ 4; decide) fun t3 H4 s3 e3 => ?_⟩
          refine catT (s3 _ _ e2) e3 (by show 4 ≤ 1000; decide) fun t4 H5 s4 e4 => ?_
          dsimp only [List.set]
          refine ⟨_, rfl, _, rfl, _, rfl, _, rfl, _, rfl, _, rfl, six_le, fun t ht => ?_⟩
          refine fin t4 gv H5 ((s12.trans s3).trans s4) (Dt.ofNote (h := backH c s.hd a e) (va := .ref t1) e4 ?_) (dg.on ((s1.trans s2).trans (s3.trans s4)).ts) t ht
          have ee : (backH c s.hd a e).area = some (a.1, a.2.1, e) := if_pos (by rw [ren]; exact decide_eq_true z2)
          rw [ee]
          exact Dt.ofAr (((s2.trans s3).trans s4) _ _ e1)
        · refine ⟨_, rfl, _, rfl, _, rfl, _, rfl, _, rfl, _, rfl, six_le, fun t ht => ?_⟩
          refine fin na gv HG sg (Dt.ofNote (h := backH c s.hd a e) (va := .ref aa) (sg _ _ hna) ?_) dg t ht
          have ee : (backH c s.hd a e).area = some a := if_neg (by rw [ren, decide_eq_false z2]; exact Bool.false_ne_true)
          rw [ee]
          exact Dt.ofAr (sg _ _ haa)
      · have gset : giveAt s.given j e = s.given := by
          unfold giveAt
          rw [hG]
          exact if_neg z3
        have sg := Same.refl H
        have dg : Dt H (eGiven (giveAt s.given j e)) (.ref ga) := by rw [gset]; exact d6
        dsimp only [List.set]
        refine ⟨_, rfl, p, A.c_Small, dx, _, _, rfl, sg _ _ h1, T.cl_Small, T.n_Small_settings, mlk_settings, se, "ends", _, _, _, _, _, rs, rfl, hS1.on sg, _, rfl, ifd2 (fun z2 => ?_) (fun z2 => ?_)⟩
        · refine ⟨_, rfl, na, _, 0, _, rfl, rfl, SqT.of (sg _ _ hna), atI_nat (j := 0) rfl, ?_⟩
          refine ⟨_, rfl, _, rfl, _, rfl, (by show 3 ≤ sizeLine; decide), fun t1 ht1 => ⟨(by show 2 ≤ sizeLine; decide), fun t2 ht2 => ?_⟩⟩
          have s1 := same_new (o := .tup [.int a.1, .int a.2.1, .int e]) ht1
          have e1 : (upd H t1 (.tup [.int a.1, .int a.2.1, .int e])) t1 = some (.tup [.int a.1, .int a.2.1, .int e]) := upd_same
          generalize upd H t1 (.tup [.int a.1, .int a.2.1, .int e]) = H2 at *
          have s2 := same_new (o := .tup [.int s.hd.grant, .ref t1]) ht2
          have e2 : (upd H2 t2 (.tup [.int s.hd.grant, .ref t1])) t2 = some (.tup [.int s.hd.grant, .ref t1]) := upd_same
          generalize upd H2 t2 (.tup [.int s.hd.grant, .ref t1]) = H3 at *
          have s12 := (sg.trans s1).trans s2
          refine ⟨_, rfl, _, rfl, slFrom (j := 2) (s12 _ _ hna) (by show 2 ≤ 4; decide) fun t3 H4 s3 e3 => ?_⟩
          refine catT (s3 _ _ e2) e3 (by show 4 ≤ 1000; decide) fun t4 H5 s4 e4 => ?_
          dsimp only [List.set]
          refine ⟨_, rfl, _, rfl, _, rfl, _, rfl, _, rfl, _, rfl, six_le, fun t ht => ?_⟩
          refine fin t4 ga H5 ((s12.trans s3).trans s4) (Dt.ofNote (h := backH c s.hd a e) (va := .ref t1) e4 ?_) (dg.on ((s1.trans s2).trans (s3.trans s4)).ts) t ht
          have ee : (backH c s.hd a e).area = some (a.1, a.2.1, e) := if_pos (by rw [ren]; exact decide_eq_true z2)
          rw [ee]
          exact Dt.ofAr (((s2.trans s3).trans s4) _ _ e1)
        · refine ⟨_, rfl, _, rfl, _, rfl, _, rfl, _, rfl, _, rfl, six_le, fun t ht => ?_⟩
          refine fin na ga H sg (Dt.ofNote (h := backH c s.hd a e) (va := .ref aa) (sg _ _ hna) ?_) dg t ht
          have ee : (backH c s.hd a e).area = some a := if_neg (by rw [ren, decide_eq_false z2]; exact Bool.false_ne_true)
          rw [ee]
          exact Dt.ofAr (sg _ _ haa)
end
end K87
end
section
set_option Elab.async false
set_option linter.all false
set_option maxRecDepth 100000
set_option maxHeartbeats 4000000
/-! K87W11: a Small's done. -/
namespace K87
open PySem PySem.Spec L2
open PyProof.Rows hiding St
theorem ru64 {k : Nat} {A : Around} (hr : Room k A) : A.units + 64 < cLine := by have := hr.units; omega
/-- sorted(set(marks + (x,))) -/
theorem sorted_ins {l ns : List Int} {x : Int} (hl : l.Pairwise (· < ·)) (hn : ns.Pairwise (· < ·)) (h : ∀ k : Int, k ∈ ns ↔ decide (k ∈ l ++ [x]) = true) : ns = ins x l := by
  refine up_unique hn (ins_up x l hl) fun k => ?_
  rw [h k, mem_ins, decide_eq_true_iff, List.mem_append, List.mem_singleton]
/-- the heap with a name -/
theorem gen46 {H3 : Hp} {t5 : Addr} {o : HO} {G : Hp → Prop} (H6 : Hp) (s : Same H3 H6) (f : H6 t5 = some o) (k : ∀ H', Same H3 H' → H' t5 = some o → G H') : G H6 := k H6 s f
theorem done_rise {c : Cf} {s : S} (h : s.hd.place = none) : done c s .rise = { s with hd := riseH s.hd } := by unfold done; rw [h]
theorem done_down {c : Cf} {s : S} {d : Deed} (h : s.hd.place = none) (hd : d ≠ .rise) : done c s d = s := by
  unfold done
  rw [h]
  cases d <;> first | rfl | exact absurd rfl hd
theorem done_take {c : Cf} {s : S} {p : Pl} {g : Int} (h : s.hd.place = some p) : done c s (.take g) = takenS c s p g := by unfold done; rw [h]
theorem done_write {c : Cf} {s : S} {p : Pl} {g : Int} (h : s.hd.place = some p) : done c s (.write g) = writtenS c s p g := by unfold done; rw [h]
theorem done_make {c : Cf} {s : S} {p : Pl} {g : Int} (h : s.hd.place = some p) : done c s (.make g) = makeS c s g := by unfold done; rw [h]
theorem done_hear {c : Cf} {s : S} {p : Pl} {g : Int} (h : s.hd.place = some p) : done c s (.hear g) = heardS c s p g := by unfold done; rw [h]
theorem done_back {c : Cf} {s : S} {p : Pl} (h : s.hd.place = some p) : done c s .back = backS c s p := by unfold done; rw [h]
theorem done_fall {c : Cf} {s : S} {p : Pl} (h : s.hd.place = some p) : done c s .fall = { s with hd := { s.hd with place := none } } := by unfold done; rw [h]
theorem done_up {c : Cf} {s : S} {p : Pl} (h : s.hd.place = some p) : done c s .rise = s := by unfold done; rw [h]
section
variable {P : Program} {w : World} {K : PySem.W.Frag} {mg : Str → Option Value} {base : Heap} {A : Ads}

def spDone (A : Ads) (K : PySem.W.Frag) : Sp := fun vs H Q _ => ∃ (p : Addr) (c : Cf) (rs : List Str) (s : S) (sa dd : Addr) (d : Deed), vs = [.ref p, .ref sa, .ref dd] ∧ SmallAt A K H p c rs ∧ Dt H (eS s) (.ref sa) ∧ Dt H (eD d) (.ref dd) ∧ c.Ok ∧ Sok c s ∧ d.Ok c ∧ s.marks.length < 63 ∧
  ∀ t H', Same H H' → Dt H' (eS (done c s d)) (.ref t) → Q (.ref t) H'
theorem ok_Small_done (T : Txt K mg A) : FnOk P w K mg base CX0 6 A.f_Small_done A.d_Small_done ["self", "state", "deed"] (spDone A K) := by
  refine T.t_Small_done.fn.ok sc_Small_done (fun vs H Q E h => ?_) (fun cdv A' outer s0 H vs Q E hr h => ?_)
  · obtain ⟨p, c, rs, s, sa, dd, d, rfl, _⟩ := h
    rfl
  · obtain ⟨p, c, rs, s, sa, dd, d, rfl, hM, hd, hD, hc, hI, hok, hm63, k⟩ := h
    obtain ⟨se, ar, dx, vas, h1, hS, h2, h3⟩ := id hM
    obtain ⟨sa', v1, v2, v4, v6, e0, hsa, d1, d2, d4, d6⟩ := Dt.st hd
    cases e0
    obtain ⟨na, nva, rfl, hna, da⟩ := Dt.note d2
    obtain ⟨ma, rfl, hma⟩ := Dt.marks d4
    have mnone : ∀ {f : Str}, (f == ("settings" : Str)) = false → (f == ("areas" : Str)) = false → (f == ("moments" : Str)) = false → (sfs se ar (c.moments : Nat)).lookup f = none := fun a b c => mlk_none a b c
    -- the deed's word
    obtain ⟨vds, hdd⟩ : ∃ vds, H dd = some (.tup (.str d.word :: vds)) := by
      cases d <;> (obtain ⟨a', vs', e', hv, hds⟩ := Dt.tup_inv hD; cases e'; obtain ⟨v1, r1, rfl, q1, q2⟩ := hds.cons_inv; cases q1.txt_inv; exact ⟨r1, hv⟩)
    refine ⟨_, (pss_cons (ps_set (i := 3) sc_Small_done.nd rfl (.inl rfl) (pe_ix ix_tup (pv 2) pe_int (fun _ _ => rfl))) (pss_cons (ps_if (pt_cmp (pc_isN (pe_ix ix_tup (pv 1) pe_int (fun _ _ => rfl))) rfl) (pss_cons (ps_if (pt_cmpR op_eq (pv 3) pe_str (nomark _)) (pss_one (ps_ret (pe_op op_catA (pe_tup (pa_cons (pe_tup (pa_cons (pe_callB (call_maxT2 rfl (ru2 hr)) (by rfl) T.z_max boot_max (pa_cons (pe_slice sl_tupA (pe_ix ix_tup (pv 1) pe_int (fun _ _ => rfl)) (po_some pe_int) po_none) pa_nil)) (pa_cons pe_int pa_nil))) pa_nil)) (pe_slice sl_tupA (pv 1) (po_some pe_int) po_none)))) pss_nil) (pss_one (ps_ret (pv 1)))) pss_nil) (pss_cons (ps_if (pt_cmpR op_eq (pv 3) pe_str (nomark _)) (pss_one (ps_ret (pe_meth (pv 0) T.cl_Small T.t_Small_taken.me (ok_Small_taken T) (hr.mono (by decide)) T.t_Small_taken.bd .nil pass0 (pa_cons (pv 1) (pa_cons (pe_ix ix_tup (pv 2) pe_int (fun _ _ => rfl)) pa_nil))))) pss_nil) (pss_cons (ps_if (pt_cmpR op_eq (pv 3) pe_str (nomark _)) (pss_one (ps_ret (pe_meth (pv 0) T.cl_Small T.t_Small_written.me (ok_Small_written T) (hr.mono (by decide)) T.t_Small_written.bd .nil pass0 (pa_cons (pv 1) (pa_cons (pe_ix ix_tup (pv 2) pe_int (fun _ _ => rfl)) pa_nil))))) pss_nil) (pss_cons (ps_if (pt_cmpR op_eq (pv 3) pe_str (nomark _)) (pss_one (ps_ret (pe_meth (pv 0) T.cl_Small T.t_Small_heard.me (ok_Small_heard T) (hr.mono (by decide)) T.t_Small_heard.bd .nil pass0 (pa_cons (pv 1) (pa_cons (pe_ix ix_tup (pv 2) pe_int (fun _ _ => rfl)) pa_nil))))) pss_nil) (pss_cons (ps_if (pt_cmpR op_eq (pv 3) pe_str (nomark _)) (pss_one (ps_ret (pe_meth (pv 0) T.cl_Small T.t_Small_given_back.me (ok_Small_given_back T) (hr.mono (by decide)) T.t_Small_given_back.bd .nil pass0 (pa_cons (pv 1) pa_nil)))) pss_nil) (pss_cons (ps_if (pt_cmpR op_eq (pv 3) pe_str (nomark _)) (pss_one (ps_ret (pe_op op_catA (pe_tup (pa_cons pe_non pa_nil)) (pe_slice sl_tupA (pv 1) (po_some pe_int) po_none)))) pss_nil) (pss_cons (ps_set (i := 4) sc_Small_done.nd rfl (.inl rfl) pe_non) (pss_cons (ps_if (pt_cmpR op_eq (pv 3) pe_str (nomark _)) (pss_one (ps_set (i := 4) sc_Small_done.nd rfl (.inl rfl) (pe_meth (pv 0) T.cl_Small T.t_Small_marked.me (ok_Small_marked T) (hr.mono (by decide)) T.t_Small_marked.bd .nil pass0 (pa_cons (pv 1) (pa_cons (pe_ix ix_tup (pv 2) pe_int (fun _ _ => rfl)) pa_nil))))) pss_nil) (pss_cons (ps_if (pt_cmp (pc_isN (pv 4)) rfl) (pss_one (ps_ret (pv 1))) pss_nil) (pss_cons (ps_set (i := 5) sc_Small_done.nd rfl (.inl rfl) (pe_callTy call_tuple_of (by rfl) T.z_tuple boot_tuple (pa_cons (pe_callB (cr_sortedSet rfl) (by rfl) T.z_sorted boot_sorted (pa_cons (pe_callTy (cr_setT rfl) (by rfl) T.z_set boot_set (pa_cons (pe_op op_catA (pe_ix ix_tup (pv 1) pe_int (fun _ _ => rfl)) (pe_tup (pa_cons (pe_ix ix_tup (pv 4) pe_int (fun _ _ => rfl)) pa_nil))) pa_nil)) pa_nil)) pa_nil))) (pss_one (ps_ret (pe_op op_catA (pe_tup (pa_cons (pe_ix ix_tup (pv 4) pe_int (fun _ _ => rfl)) (pa_cons (pe_ix ix_tup (pv 1) pe_int (fun _ _ => rfl)) (pa_cons (pe_ix ix_tup (pv 1) pe_int (fun _ _ => rfl)) (pa_cons (pv 5) pa_nil))))) (pe_slice sl_tupA (pv 1) (po_some pe_int) po_none))))))))))))))), ?_⟩
    refine ⟨_, rfl, dd, _, 0, _, rfl, rfl, SqT.of hdd, atI_nat (j := 0) rfl, ?_⟩
    dsimp only [L2.start, List.map, List.length, List.replicate, List.set, HAppend.hAppend, Append.append, List.append]
    refine ⟨_, rfl, sa, _, 0, _, rfl, rfl, SqT.of hsa, atI_nat (j := 0) rfl, _, rfl, ?_⟩
    rcases d1.plO_some with ⟨ep, rfl⟩ | ⟨q, qa, ep, rfl, hqa⟩
    · refine ifd rfl ?_
      refine ⟨_, rfl, rfl, _, rfl, ?_⟩
      by_cases hw : d = .rise
      · subst hw
        refine ifd rfl ?_
        rw [done_rise ep] at k
        refine ⟨_, rfl, sa, _, 1, _, rfl, rfl, SqT.of hsa, atI_nat (j := 1) rfl, _, rfl, slFrom (j := 2) hna (by show 2 ≤ 4; decide) fun t1 H1 s1 f1 => ?_⟩
        refine ⟨t1, s.hd.held, s.hd.heard, rfl, .tup f1 (.cons (.num _) (.cons (.num _) .nil)), (by show 2 ≤ sizeLine; decide), fun t2 ht2 => ⟨(by show 1 ≤ sizeLine; decide), fun t3 ht3 => ?_⟩⟩
        have s2 := same_new (o := .tup [.int (max s.hd.held s.hd.heard), .int 0]) ht2
        have f2 : (upd H1 t2 (.tup [.int (max s.hd.held s.hd.heard), .int 0])) t2 = some (.tup [.int (max s.hd.held s.hd.heard), .int 0]) := upd_same
        generalize upd H1 t2 (.tup [.int (max s.hd.held s.hd.heard), .int 0]) = H2 at *
        have s3 := same_new (o := .tup [.ref t2]) ht3
        have f3 : (upd H2 t3 (.tup [.ref t2])) t3 = some (.tup [.ref t2]) := upd_same
        generalize upd H2 t3 (.tup [.ref t2]) = H3 at *
        have s13 := (s1.trans s2).trans s3
        refine ⟨_, rfl, _, rfl, slFrom (j := 1) (s13 _ _ hsa) (by show 1 ≤ 6; decide) fun t4 H4 s4 f4 => ?_⟩
        refine catT (s4 _ _ f3) f4 (by show 6 ≤ 1000; decide) fun t H5 s5 f5 => ?_
        have sall := (s13.trans s4).trans s5
        exact k t H5 sall (Dt.ofSt (s := { s with hd := riseH s.hd }) f5 (Dt.ofPl ((s3.trans (s4.trans s5)) _ _ f2)) (Dt.ofNote (h := riseH s.hd) (sall _ _ hna) (da.on sall.ts)) (d4.on sall.ts) (d6.on sall.ts))
      · refine ifdn (fun z => hw ?_) ⟨_, rfl, k sa H (Same.refl H) ?_⟩
        · cases d <;> first | rfl | (exfalso; revert z; dsimp only [Deed.word]; exact vstr_ne (by decide +kernel))
        · rw [done_down ep hw]
          exact hd
    refine ifdn (fun z => by cases z) ?_
    -- behind the words: what is left where the deed is no one of the first five
    cases d with
    | take g =>
      dsimp only [Deed.word]
      rw [done_take ep] at k
      obtain ⟨a', v1, v2, e', hv, q1, q2⟩ := Dt.at2 hD
      cases e'
      cases q2.num_inv
      refine ⟨_, rfl, rfl, _, rfl, ifd rfl ?_⟩
      exact ⟨_, rfl, p, dx, _, rfl, h1, mnone (by decide +kernel) (by decide +kernel) (by decide +kernel), _, rfl, _, rfl, dd, _, 1, _, rfl, rfl, SqT.of hv, atI_nat (j := 1) rfl, p, c, rs, s, _, g, q, rfl, hM, hd, ep, hok, k⟩
    | write g =>
      dsimp only [Deed.word]
      rw [done_write ep] at k
      obtain ⟨a', v1, v2, e', hv, q1, q2⟩ := Dt.at2 hD
      cases e'
      cases q2.num_inv
      refine ⟨_, rfl, rfl, _, rfl, ifdn (vstr_ne (by decide +kernel)) ?_⟩
      refine ⟨_, rfl, rfl, _, rfl, ifd rfl ?_⟩
      exact ⟨_, rfl, p, dx, _, rfl, h1, mnone (by decide +kernel) (by decide +kernel) (by decide +kernel), _, rfl, _, rfl, dd, _, 1, _, rfl, rfl, SqT.of hv, atI_nat (j := 1) rfl, p, c, rs, s, _, g, q, rfl, hM, hd, ep, k⟩
    | hear g =>
      dsimp only [Deed.word]
      rw [done_hear ep] at k
      obtain ⟨a', v1, v2, e', hv, q1, q2⟩ := Dt.at2 hD
      cases e'
      cases q2.num_inv
      refine ⟨_, rfl, rfl, _, rfl, ifdn (vstr_ne (by decide +kernel)) ?_⟩
      refine ⟨_, rfl, rfl, _, rfl, ifdn (vstr_ne (by decide +kernel)) ?_⟩
      refine ⟨_, rfl, rfl, _, rfl, ifd rfl ?_⟩
      exact ⟨_, rfl, p, dx, _, rfl, h1, mnone (by decide +kernel) (by decide +kernel) (by decide +kernel), _, rfl, _, rfl, dd, _, 1, _, rfl, rfl, SqT.of hv, atI_nat (j := 1) rfl, p, c, rs, s, _, g, q, rfl, hM, hd, ep, k⟩
    | back =>
      dsimp only [Deed.word]
      rw [done_back ep] at k
      refine ⟨_, rfl, rfl, _, rfl, ifdn (vstr_ne (by decide +kernel)) ?_⟩
      refine ⟨_, rfl, rfl, _, rfl, ifdn (vstr_ne (by decide +kernel)) ?_⟩
      refine ⟨_, rfl, rfl, _, rfl, ifdn (vstr_ne (by decide +kernel)) ?_⟩
      refine ⟨_, rfl, rfl, _, rfl, ifd rfl ?_⟩
      refine ⟨_, rfl, p, dx, _, rfl, h1, mnone (by decide +kernel) (by decide +kernel) (by decide +kernel), _, rfl, p, c, rs, s, _, q, rfl, hM, hd, ep, fun a ha => ?_, ?_, k⟩
      · obtain ⟨_, _, _, g1, g2⟩ := hI.good.ar a ha
        exact ⟨g1, by rw [hI.giv]; exact g2⟩
      · rw [hI.giv]; exact hc.two
    | fall =>
      dsimp only [Deed.word]
      rw [done_fall ep] at k
      refine ⟨_, rfl, rfl, _, rfl, ifdn (vstr_ne (by decide +kernel)) ?_⟩
      refine ⟨_, rfl, rfl, _, rfl, ifdn (vstr_ne (by decide +kernel)) ?_⟩
      refine ⟨_, rfl, rfl, _, rfl, ifdn (vstr_ne (by decide +kernel)) ?_⟩
      refine ⟨_, rfl, rfl, _, rfl, ifdn (vstr_ne (by decide +kernel)) ?_⟩
      refine ⟨_, rfl, rfl, _, rfl, ifd rfl ?_⟩
      refine ⟨(by show 1 ≤ sizeLine; decide), fun t1 ht1 => ?_⟩
      have s1 := same_new (o := .tup [.non]) ht1
      refine ⟨_, rfl, _, rfl, slFrom (j := 1) (s1 _ _ hsa) (by show 1 ≤ 6; decide) fun t4 H4 s4 f4 => ?_⟩
      refine catT (s4 _ _ upd_same) f4 (by show 6 ≤ 1000; decide) fun t H5 s5 f5 => ?_
      have sall := (s1.trans s4).trans s5
      exact k t H5 sall (Dt.ofSt (s := { s with hd := { s.hd with place := none } }) f5 .non (Dt.ofNote (h := { s.hd with place := none }) (sall _ _ hna) (da.on sall.ts)) (d4.on sall.ts) (d6.on sall.ts))
    | rise =>
      dsimp only [Deed.word]
      rw [done_up ep] at k
      refine ⟨_, rfl, rfl, _, rfl, ifdn (vstr_ne (by decide +kernel)) ?_⟩
      refine ⟨_, rfl, rfl, _, rfl, ifdn (vstr_ne (by decide +kernel)) ?_⟩
      refine ⟨_, rfl, rfl, _, rfl, ifdn (vstr_ne (by decide +kernel)) ?_⟩
      refine ⟨_, rfl, rfl, _, rfl, ifdn (vstr_ne (by decide +kernel)) ?_⟩
      refine ⟨_, rfl, rfl, _, rfl, ifdn (vstr_ne (by decide +kernel)) ?_⟩
      refine ⟨_, rfl, rfl, _, rfl, ifdn (vstr_ne (by decide +kernel)) ?_⟩
      refine ⟨_, rfl, _, rfl, ifd rfl ⟨_, rfl, k sa H (Same.refl H) hd⟩⟩
    | make g =>
      dsimp only [Deed.word]
      rw [done_make ep] at k
      obtain ⟨a', v1, v2, e', hv, q1, q2⟩ := Dt.at2 hD
      cases e'
      cases q2.num_inv
      refine ⟨_, rfl, rfl, _, rfl, ifdn (vstr_ne (by decide +kernel)) ?_⟩
      refine ⟨_, rfl, rfl, _, rfl, ifdn (vstr_ne (by decide +kernel)) ?_⟩
      refine ⟨_, rfl, rfl, _, rfl, ifdn (vstr_ne (by decide +kernel)) ?_⟩
      refine ⟨_, rfl, rfl, _, rfl, ifdn (vstr_ne (by decide +kernel)) ?_⟩
      refine ⟨_, rfl, rfl, _, rfl, ifdn (vstr_ne (by decide +kernel)) ?_⟩
      refine ⟨_, rfl, rfl, _, rfl, ifd rfl ?_⟩
      dsimp only [List.set]
      refine ⟨_, rfl, p, dx, _, rfl, h1, mnone (by decide +kernel) (by decide +kernel) (by decide +kernel), _, rfl, _, rfl, dd, _, 1, _, rfl, rfl, SqT.of hv, atI_nat (j := 1) rfl, p, c, rs, s, _, g, rfl, hM, hd, fun hn H1 s1 => ?_, fun x q' hn t va H1 s1 ht dq => ?_⟩
      · refine ⟨_, rfl, _, rfl, ifd rfl ⟨_, rfl, k sa H1 s1 ?_⟩⟩
        have e : makeS c s g = s := by unfold makeS; rw [hn]
        rw [e]
        exact hd.on s1.ts
      · have e : makeS c s g = { s with hd := { s.hd with place := some q' }, marks := ins x s.marks } := by unfold makeS; rw [hn]
        rw [e] at k
        refine ⟨_, rfl, _, rfl, ifdn (fun z => by cases z) ?_⟩
        dsimp only [List.set]
        refine ⟨_, rfl, sa, _, 3, _, rfl, rfl, SqT.of (s1 _ _ hsa), atI_nat (j := 3) rfl, _, rfl, t, _, 0, _, rfl, rfl, SqT.of ht, atI_nat (j := 0) rfl, (by show 1 ≤ sizeLine; decide), fun t1 ht1 => ?_⟩
        have s2 := same_new (o := .tup [.int x]) ht1
        have f2 : (upd H1 t1 (.tup [.int x])) t1 = some (.tup [.int x]) := upd_same
        generalize upd H1 t1 (.tup [.int x]) = H2 at *
        refine catT ((s1.trans s2) _ _ hma) f2 (by rw [List.length_map]; show _ + 1 ≤ 1000; omega) fun t2 H3 s3 f3 => ?_
        have f3' : H3 t2 = some (.tup ((s.marks ++ [x]).map .int)) := by rw [List.map_append]; exact f3
        refine ⟨t2, s.marks ++ [x], rfl, SqT.of f3', by rw [List.length_append]; show _ + 1 ≤ 1000; omega, fun t3 n ht3 hn3 => ?_⟩
        have s4 := same_new (o := SetO w t3 (fun j => decide (j ∈ s.marks ++ [x])) n) ht3
        refine ⟨t3, _, n, rfl, upd_same, by rw [List.length_append] at hn3; have : ([x] : List Int).length = 1 := rfl; omega, fun ns t4 hns hmem hlen ht4 => ?_⟩
        have ens := sorted_ins hI.up hns hmem
        subst ens
        have s5 := same_new (o := .lst ((ins x s.marks).map V.int)) ht4
        refine ⟨t4, _, rfl, .inl ⟨SqL.of upd_same, fun t5 ht5 => ?_⟩⟩
        have s6 := same_new (o := .tup ((ins x s.marks).map V.int)) ht5
        have s46 : Same H3 _ := (s4.trans s5).trans s6
        have f6 : (upd (upd (upd H3 t3 (SetO w t3 (fun j => decide (j ∈ s.marks ++ [x])) n)) t4 (.lst ((ins x s.marks).map V.int))) t5 (.tup ((ins x s.marks).map V.int))) t5 = some (.tup ((ins x s.marks).map V.int)) := upd_same
        clear s4 s5 s6
        refine gen46 _ s46 f6 ?_
        intro H6 s46 f6
        have s26 := (s2.trans s3).trans s46
        have s16 := s1.trans s26
        dsimp only [List.set]
        refine ⟨_, rfl, t, _, 1, _, rfl, rfl, SqT.of (s26 _ _ ht), atI_nat (j := 1) rfl, ?_⟩
        refine ⟨_, rfl, sa, _, 1, _, rfl, rfl, SqT.of (s16 _ _ hsa), atI_nat (j := 1) rfl, ?_⟩
        refine ⟨_, rfl, sa, _, 2, _, rfl, rfl, SqT.of (s16 _ _ hsa), atI_nat (j := 2) rfl, _, rfl, (by show 4 ≤ sizeLine; decide), fun t6 ht6 => ?_⟩
        have s7 := same_new (o := .tup [va, .ref na, .int s.hd.most, .ref t5]) ht6
        have f7 : (upd H6 t6 (.tup [va, .ref na, .int s.hd.most, .ref t5])) t6 = some (.tup [va, .ref na, .int s.hd.most, .ref t5]) := upd_same
        generalize upd H6 t6 (.tup [va, .ref na, .int s.hd.most, .ref t5]) = H7 at *
        refine ⟨_, rfl, _, rfl, slFrom (j := 4) ((s16.trans s7) _ _ hsa) (by show 4 ≤ 6; decide) fun t7 H8 s8 f8 => ?_⟩
        refine catT (s8 _ _ f7) f8 (by show 6 ≤ 1000; decide) fun t8 H9 s9 f9 => ?_
        have s79 := (s7.trans s8).trans s9
        have sall := s16.trans s79
        exact k t8 H9 sall (Dt.ofSt (s := { s with hd := { s.hd with place := some q' }, marks := ins x s.marks }) f9 (dq.on (s26.trans s79).ts) (Dt.ofNote (h := { s.hd with place := some q' }) (sall _ _ hna) (da.on sall.ts)) (.tup (s79 _ _ f6) (Dts.ofNums (ins x s.marks))) (d6.on sall.ts))
end
end K87
end
section
set_option Elab.async false
set_option linter.all false
set_option maxRecDepth 100000
set_option maxHeartbeats 4000000
/-! K87W12: a Small's after, bad. -/
namespace K87
open PySem PySem.Spec L2
open PyProof.Rows hiding St
section
variable {P : Program} {w : World} {K : PySem.W.Frag} {mg : Str → Option Value} {base : Heap} {A : Ads}

def spAfter (A : Ads) (K : PySem.W.Frag) : Sp := fun vs H Q _ => ∃ (p : Addr) (c : Cf) (rs : List Str) (s : S) (sa dd : Addr) (d : Deed), vs = [.ref p, .ref sa, .ref dd] ∧ SmallAt A K H p c rs ∧ Dt H (eS s) (.ref sa) ∧ Dt H (eD d) (.ref dd) ∧ c.Ok ∧ Sok c s ∧ d.Ok c ∧ s.marks.length < 63 ∧
  (after c s d = none → ∀ H', Same H H' → Q .non H') ∧ (∀ b, after c s d = some b → ∀ t H', Same H H' → Dt H' (eS b) (.ref t) → Q (.ref t) H')
theorem ok_Small_after (T : Txt K mg A) : FnOk P w K mg base CX0 7 A.f_Small_after A.d_Small_after ["self", "state", "deed"] (spAfter A K) := by
  refine T.t_Small_after.fn.ok sc_Small_after (fun vs H Q E h => ?_) (fun cdv A' outer s0 H vs Q E hr h => ?_)
  · obtain ⟨p, c, rs, s, sa, dd, d, rfl, _⟩ := h
    rfl
  · obtain ⟨p, c, rs, s, sa, dd, d, rfl, hM, hd, hD, hc, hI, hok, hm63, k0, k1⟩ := h
    obtain ⟨se, ar, dx, vas, h1, hS, h2, h3⟩ := id hM
    refine ⟨_, (pss_cons (ps_set (i := 3) sc_Small_after.nd rfl (.inl rfl) (pe_meth (pv 0) T.cl_Small T.t_Small_done.me (ok_Small_done T) (hr.mono (by decide)) T.t_Small_done.bd .nil pass0 (pa_cons (pv 1) (pa_cons (pv 2) pa_nil)))) (pss_cons (ps_if (pt_cmpR (op_eqN (ru64 hr)) (pv 3) (pv 1) (by rfl)) (pss_one (ps_ret pe_non)) pss_nil) (pss_one (ps_ret (pv 3))))), ?_⟩
    refine ⟨_, rfl, p, dx, _, rfl, h1, mlk_none (by decide +kernel) (by decide +kernel) (by decide +kernel), _, rfl, _, rfl, p, c, rs, s, sa, dd, d, rfl, hM, hd, hD, hc, hI, hok, hm63, fun t H1 s1 dt => ?_⟩
    refine ⟨_, rfl, _, rfl, eS (done c s d), eS s, dt, hd.on s1.ts, ⟨okT_S _, Nat.le_trans (depth_S _) (by decide)⟩, ⟨okT_S _, Nat.le_trans (depth_S _) (by decide)⟩, _, rfl, ifd2 (fun z => ?_) (fun z => ?_)⟩
    · exact k0 (if_pos (eS_inj z)) H1 s1
    · exact ⟨_, rfl, k1 _ (if_neg fun y => z (by rw [y])) t H1 s1 dt⟩

theorem last_at {l : List Int} (h : l ≠ []) : atI (l.map V.int) (-1) = some (.int (l.getLastD 0)) := by
  have e : l = l.dropLast ++ [l.getLast h] := (List.dropLast_concat_getLast h).symm
  have e2 : l.getLastD 0 = l.getLast h := by
    cases l with
    | nil => exact absurd rfl h
    | cons a r => simp [List.getLastD_eq_getLast?, List.getLast?_eq_getLast]
  rw [e2]
  conv => lhs; rw [e]
  rw [List.map_append]
  exact atI_last _ _
theorem eMarks_nil {l : List Int} : (eMarks l = eMarks []) ↔ l = [] := by
  constructor
  · intro h
    cases l with
    | nil => rfl
    | cons a r => exact absurd h (by simp [eMarks])
  · rintro rfl; rfl
theorem okT_marks (l : List Int) : okT (eMarks l) = true := okTs_nums l
theorem depth_marks (l : List Int) : (eMarks l).depth ≤ 1 := by simp [eMarks, NestedKey.depth, depth_nums]

def spBad (A : Ads) (K : PySem.W.Frag) : Sp := fun vs H Q _ => ∃ (p : Addr) (c : Cf) (rs : List Str) (s : S) (sa dd : Addr) (d : Deed), vs = [.ref p, .ref sa, .ref dd] ∧ SmallAt A K H p c rs ∧ Dt H (eS s) (.ref sa) ∧ Dt H (eD d) (.ref dd) ∧ (∀ a, s.hd.area = some a → 1 ≤ s.hd.grant ∧ s.hd.grant ≤ s.given.length) ∧
  (bad c s d = none → ∀ H', Same H H' → Q .non H') ∧ (∀ b, bad c s d = some b → ∀ H', Same H H' → Q (.str b.str) H')
theorem ok_Small_bad (T : Txt K mg A) : FnOk P w K mg base CX0 6 A.f_Small_bad A.d_Small_bad ["self", "state", "deed"] (spBad A K) := by
  refine T.t_Small_bad.fn.ok sc_Small_bad (fun vs H Q E h => ?_) (fun cdv A' outer s0 H vs Q E hr h => ?_)
  · obtain ⟨p, c, rs, s, sa, dd, d, rfl, _⟩ := h
    rfl
  · obtain ⟨p, c, rs, s, sa, dd, d, rfl, hM, hd, hD, hgr, k0, k1⟩ := h
    obtain ⟨se, ar, dx, vas, h1, hS, h2, h3⟩ := id hM
    obtain ⟨sa', v1, v2, v4, v6, e0, hsa, d1, d2, d4, d6⟩ := Dt.st hd
    cases e0
    obtain ⟨na, nva, rfl, hna, da⟩ := Dt.note d2
    obtain ⟨ma, rfl, hma⟩ := Dt.marks d4
    obtain ⟨ga, vgs, rfl, hga, dgs⟩ := Dt.tup_inv d6
    obtain ⟨vds, hdd⟩ : ∃ vds, H dd = some (.tup (.str d.word :: vds)) := by
      cases d <;> (obtain ⟨a', vs', e', hv, hds⟩ := Dt.tup_inv hD; cases e'; obtain ⟨v1, r1, rfl, q1, q2⟩ := hds.cons_inv; cases q1.txt_inv; exact ⟨r1, hv⟩)
    refine ⟨_, (pss_cons (ps_set (i := 3) sc_Small_bad.nd rfl (.inl rfl) pe_non) (pss_cons (ps_if (pt_cmpR op_eq (pe_ix ix_tup (pv 2) pe_int (fun _ _ => rfl)) pe_str (nomark _)) (pss_one (ps_set (i := 3) sc_Small_bad.nd rfl (.inl rfl) (pe_meth (pv 0) T.cl_Small T.t_Small_marked.me (ok_Small_marked T) (hr.mono (by decide)) T.t_Small_marked.bd .nil pass0 (pa_cons (pv 1) (pa_cons (pe_ix ix_tup (pv 2) pe_int (fun _ _ => rfl)) pa_nil))))) pss_nil) (pss_cons (ps_if (pt_cmp (pc_isN (pv 3)) rfl) (pss_one (ps_ret pe_non)) pss_nil) (pss_cons (ps_asg (pv 1) (pg_tup rfl (pgs_cons (pg_name (i := 4) sc_Small_bad.nd rfl (.inl rfl)) (pgs_cons (pg_name (i := 5) sc_Small_bad.nd rfl (.inl rfl)) (pgs_cons (pg_name (i := 6) sc_Small_bad.nd rfl (.inl rfl)) (pgs_cons (pg_name (i := 7) sc_Small_bad.nd rfl (.inl rfl)) (pgs_cons (pg_name (i := 8) sc_Small_bad.nd rfl (.inl rfl)) (pgs_cons (pg_name (i := 9) sc_Small_bad.nd rfl (.inl rfl)) pgs_nil)))))))) (pss_cons (ps_set (i := 10) sc_Small_bad.nd rfl (.inl rfl) (pe_ix ix_tup (pe_call (ok_parts_of T) (hr.mono (by decide)) (by rfl) T.t_parts_of.gl T.t_parts_of.fn.kp T.t_parts_of.bd .nil pass0 (pa_cons (pe_fld (pe_fld (pv 0) rfl) rfl) (pa_cons (pe_ix ix_tup (pv 3) pe_int (fun _ _ => rfl)) pa_nil))) pe_int (fun _ _ => rfl))) (pss_cons (ps_set (i := 11) sc_Small_bad.nd rfl (.inl rfl) (pe_ix ix_tup (pv 9) (pe_op op_sub (pe_ix ix_tup (pv 5) pe_int (fun _ _ => rfl)) pe_int) (fun _ _ => rfl))) (pss_cons (ps_if (pt_cmpR op_inI (pe_ix ix_tup (pv 3) pe_int (fun _ _ => rfl)) (pv 7) (by rfl)) (pss_one (ps_ret pe_str)) pss_nil) (pss_cons (ps_if (PW.pt (pw_and (pt_cmpR (op_neN (ru64 hr)) (pv 7) (pe_tup pa_nil) (by rfl)) (pw_and1 (pt_cmpR op_lt (pe_ix ix_tup (pv 3) pe_int (fun _ _ => rfl)) (pe_ix ix_tup (pv 7) (pe_un un_neg pe_int) (fun _ _ => rfl)) (nomark _))))) (pss_one (ps_ret pe_str)) pss_nil) (pss_cons (ps_if (PW.pt (pw_and (pt_cmp (pc_notN (pv 11)) rfl) (pw_and1 (pt_cmpR op_ge (pv 10) (pv 11) (nomark _))))) (pss_one (ps_ret pe_str)) pss_nil) (pss_cons (ps_if (pt_cmpR op_lt (pv 10) (pv 8) (nomark _)) (pss_one (ps_ret pe_str)) pss_nil) (pss_one (ps_ret pe_non)))))))))))), ?_⟩
    dsimp only [L2.start, List.map, List.length, List.replicate, List.set, HAppend.hAppend, Append.append, List.append]
    refine ⟨_, rfl, dd, _, 0, _, rfl, rfl, SqT.of hdd, atI_nat (j := 0) rfl, rfl, _, rfl, ?_⟩
    by_cases hmk : ∃ r, d = .make r
    · obtain ⟨r, rfl⟩ := hmk
      refine ifd rfl ?_
      obtain ⟨a', v1', v2', e', hv, q1, q2⟩ := Dt.at2 hD
      cases e'
      cases q2.num_inv
      have eb : bad c s (.make r) = match marked c s.hd r with | none => none | some f => badMark c s f.1 := rfl
      refine ⟨_, rfl, p, dx, _, rfl, h1, mlk_none (by decide +kernel) (by decide +kernel) (by decide +kernel), _, rfl, _, rfl, dd, _, 1, _, rfl, rfl, SqT.of hv, atI_nat (j := 1) rfl, p, c, rs, s, _, r, rfl, hM, hd, fun hn H1 s1 => ?_, fun x q' hn t va H1 s1 ht dq => ?_⟩
      · exact ⟨_, rfl, _, rfl, ifd rfl (k0 (by rw [eb, hn]) H1 s1)⟩
      · rw [hn] at eb
        have eb : bad c s (.make r) = badMark c s x := eb
        rw [eb] at k0 k1
        refine ⟨_, rfl, _, rfl, ifdn (fun z => by cases z) ?_⟩
        dsimp only [List.set]
        refine ⟨_, rfl, sa, _, rfl, SqT.of (s1 _ _ hsa), rfl, _, _, rfl, _, _, rfl, _, _, rfl, _, _, rfl, _, _, rfl, _, _, rfl, rfl, ?_⟩
        dsimp only [List.set]
        obtain ⟨term, dx2, sh, ru, y1, y2, y3⟩ := (hS.on s1).at_
        obtain ⟨f1, f2⟩ := marked_some hn
        obtain ⟨q0, a, hq0, ha, hm⟩ := nextMark_some f1
        obtain ⟨g1, g2⟩ := hgr a ha
        refine ⟨_, rfl, p, A.c_Small, dx, _, _, rfl, s1 _ _ h1, T.cl_Small, T.n_Small_settings, mlk_settings, se, A.c_Settings, dx2, _, _, rfl, y1, T.cl_Settings, T.n_Settings_shape, slk_shape, ?_⟩
        refine ⟨_, rfl, t, _, 0, _, rfl, rfl, SqT.of ht, atI_nat (j := 0) rfl, ?_⟩
        refine ⟨sh, c.counts, c.slots, x, rfl, y2, hS.c1, hS.s1, fun t2 H2 w2 w3 s2 ht2 => ?_⟩
        refine ⟨t2, _, 0, _, rfl, rfl, SqT.of ht2, atI_nat (j := 0) rfl, ?_⟩
        have s12 := s1.trans s2
        have hj : (s.hd.grant - 1).toNat < s.given.length := by omega
        have ej : s.hd.grant - 1 = (((s.hd.grant - 1).toNat : Nat) : Int) := by omega
        have egj : givenAt s = s.given[(s.hd.grant - 1).toNat] := by
          unfold givenAt
          rw [List.getD_eq_getElem?_getD, List.getElem?_eq_getElem hj]; rfl
        obtain ⟨vg, hvg, dvg⟩ := dgs.get (j := (s.hd.grant - 1).toNat) (k := eO (givenAt s)) (by rw [List.getElem?_map, List.getElem?_eq_getElem hj, egj]; rfl)
        dsimp only [List.set]
        refine ⟨_, rfl, _, rfl, na, _, 0, _, rfl, rfl, SqT.of (s12 _ _ hna), atI_nat (j := 0) rfl, _, _, rfl, rfl, ga, _, s.hd.grant - 1, vg, rfl, rfl, SqT.of (s12 _ _ hga), (by rw [ej]; exact atI_nat hvg), ?_⟩
        dsimp only [List.set]
        unfold badMark at k0 k1
        refine ⟨_, rfl, t, _, 0, _, rfl, rfl, SqT.of (s2 _ _ ht), atI_nat (j := 0) rfl, _, rfl, x, ma, s.marks, rfl, rfl, .inr (SqT.of (s12 _ _ hma)), _, rfl, ifd2 (fun b1 => ?_) (fun b1 => ?_)⟩
        · rw [if_pos b1] at k1
          exact k1 .twice rfl H2 s12
        rw [if_neg b1] at k0 k1
        refine ⟨_, rfl, Nat.zero_le _, fun t3 ht3 => ?_⟩
        have s3 := same_new (o := .tup []) ht3
        have s13 := s12.trans s3
        refine ⟨eMarks s.marks, eMarks [], d4.on s13.ts, .tup upd_same .nil, ⟨okT_marks _, Nat.le_trans (depth_marks _) (by decide)⟩, ⟨okT_marks _, Nat.le_trans (depth_marks _) (by decide)⟩, _, rfl, ?_⟩
        generalize upd H2 t3 (.tup []) = H3 at *
        -- what is left behind «fallen»
        have tail : ∀ (G : Prop), ¬ (s.marks ≠ [] ∧ x < s.marks.getLastD 0) → True := fun _ _ => True.intro
        by_cases b2 : s.marks = []
        · have n2 : ¬ (s.marks ≠ [] ∧ x < s.marks.getLastD 0) := fun z => z.1 b2
          rw [if_neg n2] at k0 k1
          refine ifnd (eMarks_nil.mpr b2) (iteF ?_)
          cases hG : givenAt s with
          | none =>
            rw [hG] at dvg k0 k1
            cases dvg.non_inv
            refine ⟨_, rfl, _, rfl, ifnd rfl (iteF ?_)⟩
            rw [if_neg (fun z => by cases z)] at k0 k1
            refine ⟨_, rfl, _, rfl, _, _, rfl, rfl, _, rfl, ifd2 (fun b4 => ?_) (fun b4 => ?_)⟩
            · rw [if_pos b4] at k1
              exact k1 .below rfl H3 s13
            · rw [if_neg b4] at k0
              exact k0 rfl H3 s13
          | some y =>
            rw [hG] at dvg k0 k1
            cases dvg.num_inv
            refine ⟨_, rfl, _, rfl, ifndn (fun z => by cases z) ?_⟩
            refine ⟨_, rfl, _, rfl, _, _, rfl, rfl, _, rfl, ifd2 (fun b5 => ?_) (fun b5 => ?_)⟩
            · rw [if_pos (decide_eq_true b5)] at k1
              exact k1 .astray rfl H3 s13
            · rw [if_neg (fun z => b5 (of_decide_eq_true z))] at k0 k1
              refine ⟨_, rfl, _, rfl, _, _, rfl, rfl, _, rfl, ifd2 (fun b4 => ?_) (fun b4 => ?_)⟩
              · rw [if_pos b4] at k1
                exact k1 .below rfl H3 s13
              · rw [if_neg b4] at k0
                exact k0 rfl H3 s13
        · refine ifndn (fun z => b2 (eMarks_nil.mp z)) ?_
          refine ⟨_, rfl, t, _, 0, _, rfl, rfl, SqT.of ((s2.trans s3) _ _ ht), atI_nat (j := 0) rfl, _, rfl, _, rfl, ma, _, -1, _, rfl, rfl, SqT.of (s13 _ _ hma), last_at b2, _, _, rfl, rfl, _, rfl, ifd2 (fun b3 => ?_) (fun b3 => ?_)⟩
          · rw [if_pos ⟨b2, b3⟩] at k1
            exact k1 .fallen rfl H3 s13
          · rw [if_neg fun z => b3 z.2] at k0 k1
            cases hG : givenAt s with
            | none =>
              rw [hG] at dvg k0 k1
              cases dvg.non_inv
              refine ⟨_, rfl, _, rfl, ifnd rfl (iteF ?_)⟩
              rw [if_neg (fun z => by cases z)] at k0 k1
              refine ⟨_, rfl, _, rfl, _, _, rfl, rfl, _, rfl, ifd2 (fun b4 => ?_) (fun b4 => ?_)⟩
              · rw [if_pos b4] at k1
                exact k1 .below rfl H3 s13
              · rw [if_neg b4] at k0
                exact k0 rfl H3 s13
            | some y =>
              rw [hG] at dvg k0 k1
              cases dvg.num_inv
              refine ⟨_, rfl, _, rfl, ifndn (fun z => by cases z) ?_⟩
              refine ⟨_, rfl, _, rfl, _, _, rfl, rfl, _, rfl, ifd2 (fun b5 => ?_) (fun b5 => ?_)⟩
              · rw [if_pos (decide_eq_true b5)] at k1
                exact k1 .astray rfl H3 s13
              · rw [if_neg (fun z => b5 (of_decide_eq_true z))] at k0 k1
                refine ⟨_, rfl, _, rfl, _, _, rfl, rfl, _, rfl, ifd2 (fun b4 => ?_) (fun b4 => ?_)⟩
                · rw [if_pos b4] at k1
                  exact k1 .below rfl H3 s13
                · rw [if_neg b4] at k0
                  exact k0 rfl H3 s13
    · refine ifdn (fun z => hmk ?_) ?_
      · cases d <;> first | exact ⟨_, rfl⟩ | (exfalso; revert z; dsimp only [Deed.word]; exact vstr_ne (by decide +kernel))
      · refine ⟨_, rfl, _, rfl, ifd rfl (k0 ?_ H (Same.refl H))⟩
        unfold bad
        cases d <;> first | rfl | exact absurd ⟨_, rfl⟩ hmk
end
end K87
end
section
set_option Elab.async false
set_option linter.all false
set_option maxRecDepth 100000
set_option maxHeartbeats 4000000
/-! K87W13: the looker: next_layer. -/
namespace K87
open PySem PySem.Spec L2
open PyProof.Rows hiding St

/-- all that was tracked stays, but what is told by a predicate of its own -/
def ESame (H H' : Hp) : Prop := ∀ b o, H b = some o → (∀ φ, o ≠ .ext φ) → H' b = some o
theorem ESame.of {H H' : Hp} (h : Same H H') : ESame H H' := fun b o e _ => h b o e
theorem ESame.refl (H : Hp) : ESame H H := fun _ _ e _ => e
theorem ESame.trans {H H1 H2 : Hp} (a : ESame H H1) (b : ESame H1 H2) : ESame H H2 := fun c o e n => b c o (a c o e n) n
theorem ESame.ts {H H' : Hp} (h : ESame H H') : TSame H H' := fun a xs e => h a _ e (by intro φ z; cases z)
theorem ESame.lst {H H' : Hp} (h : ESame H H') {a : Addr} {xs : List V} (e : H a = some (.lst xs)) : H' a = some (.lst xs) := h a _ e (by intro φ z; cases z)
theorem ESame.tup {H H' : Hp} (h : ESame H H') {a : Addr} {xs : List V} (e : H a = some (.tup xs)) : H' a = some (.tup xs) := h a _ e (by intro φ z; cases z)
theorem ESame.ins {H H' : Hp} (h : ESame H H') {a C dx : Addr} {xs : List (Str × V)} (e : H a = some (.ins C dx xs)) : H' a = some (.ins C dx xs) := h a _ e (by intro φ z; cases z)
theorem SmallP.onE {A : Ads} {K : PySem.W.Frag} {H H' : Hp} {p se ar : Addr} {c : Cf} {rs : List Str} (h : SmallP A K H p se ar c rs) (e : ESame H H') : SmallP A K H' p se ar c rs := by
  obtain ⟨dx, vas, h1, ⟨⟨term, ddx, sh, ru, e1, ⟨dx2, e2⟩, e3⟩, f1, f2, f3⟩, h3, h4⟩ := h
  exact ⟨dx, vas, e.ins h1, ⟨⟨term, ddx, sh, ru, e.ins e1, ⟨dx2, e.ins e2⟩, e.tup e3⟩, f1, f2, f3⟩, e.lst h3, h4.on e.ts⟩
theorem SmallAt.onE {A : Ads} {K : PySem.W.Frag} {H H' : Hp} {p : Addr} {c : Cf} {rs : List Str} (h : SmallAt A K H p c rs) (e : ESame H H') : SmallAt A K H' p c rs := by
  obtain ⟨se, ar, h⟩ := h
  exact ⟨se, ar, h.onE e⟩

theorem KdAt.keep {P : Program} {w : World} {H H' : Hp} {d : Addr} {ks : List Dat} (h : KdAt P w H d ks) (e : ∀ o, H d = some o → H' d = some o) (ts : TSame H H') : KdAt P w H' d ks := by
  obtain ⟨⟨es, e1, e2, e3⟩, n1, n2, n3, n4⟩ := h
  exact ⟨⟨es, e1, e _ e2, fun x hx => (e3 x hx).on ts⟩, n1, n2, n3, n4⟩
theorem KdAt.on {P : Program} {w : World} {H H' : Hp} {d : Addr} {ks : List Dat} (h : KdAt P w H d ks) (e : Same H H') : KdAt P w H' d ks := h.keep (fun _ q => e _ _ q) e.ts
theorem KdAt.put {P : Program} {w : World} {H H' : Hp} {d : Addr} {ks : List Dat} (h : KdAt P w H d ks) (e : ∀ b, b ≠ d → H' b = H b) : ESame H H' := by
  obtain ⟨⟨es, e1, e2, e3⟩, _⟩ := h
  intro b o q n
  have hb : b ≠ d := fun z => by
    rw [z, e2] at q
    exact n _ (Option.some.inj q).symm
  rw [e b hb]
  exact q
theorem KdAt.apart {P : Program} {w : World} {H : Hp} {d a : Addr} {ks : List Dat} {xs : List V} (h : KdAt P w H d ks) (e : H a = some (.lst xs)) : d ≠ a := fun z => by
  obtain ⟨⟨es, e1, e2, e3⟩, _⟩ := h
  rw [z, e] at e2
  have e2 := Option.some.inj e2
  have z' : HO.lst xs = HO.ext _ := e2
  cases z'
theorem mem_mapS {b : S} {l : List S} : eS b ∈ l.map eS ↔ b ∈ l := by
  constructor
  · intro h
    obtain ⟨x, hx, e⟩ := List.mem_map.mp h
    rw [← eS_inj e]
    exact hx
  · intro h; exact List.mem_map.mpr ⟨b, h, rfl⟩
/-! ### layers -/
def ItemOk (H : Hp) (prev : Option Nat) (s : S) (v : V) : Prop := ∃ (t sa : Addr) (vd va : V), v = .ref t ∧ H t = some (.tup [.ref sa, vd, va]) ∧ Dt H (eS s) (.ref sa) ∧
  match prev with
  | none => vd = .non
  | some m => (∃ dd d, vd = .ref dd ∧ Dt H (eD d) (.ref dd)) ∧ ∃ pl : Nat, va = .int pl ∧ pl < m
theorem ItemOk.on {H H' : Hp} {prev : Option Nat} {s : S} {v : V} (h : ItemOk H prev s v) (ts : TSame H H') : ItemOk H' prev s v := by
  obtain ⟨t, sa, vd, va, e, h1, h2, h3⟩ := h
  refine ⟨t, sa, vd, va, e, ts _ _ h1, h2.on ts, ?_⟩
  cases prev with
  | none => exact h3
  | some m =>
    obtain ⟨⟨dd, d, e1, e2⟩, e3⟩ := h3
    exact ⟨⟨dd, d, e1, e2.on ts⟩, e3⟩
inductive Items (H : Hp) (prev : Option Nat) : List S → List V → Prop
  | nil : Items H prev [] []
  | cons {s : S} {v : V} {ss : List S} {vs : List V} : ItemOk H prev s v → Items H prev ss vs → Items H prev (s :: ss) (v :: vs)
theorem Items.on {H H' : Hp} {prev : Option Nat} {ss : List S} {vs : List V} (h : Items H prev ss vs) (ts : TSame H H') : Items H' prev ss vs := by
  induction h with
  | nil => exact .nil
  | cons a b ih => exact .cons (a.on ts) ih
theorem Items.len {H : Hp} {prev : Option Nat} {ss : List S} {vs : List V} (h : Items H prev ss vs) : vs.length = ss.length := by
  induction h with
  | nil => rfl
  | cons a b ih => simp [ih]
theorem Items.get {H : Hp} {prev : Option Nat} {ss : List S} {vs : List V} (h : Items H prev ss vs) : ∀ {i : Nat} {v : V}, vs[i]? = some v → ∃ s, ss[i]? = some s ∧ ItemOk H prev s v := by
  induction h with
  | nil => intro i v e; simp at e
  | cons a b ih =>
    intro i v e
    cases i with
    | zero => have e : _ = v := Option.some.inj e; subst e; exact ⟨_, rfl, a⟩
    | succ i => exact ih (i := i) e
theorem Items.snoc {H : Hp} {prev : Option Nat} {ss : List S} {vs : List V} {s : S} {v : V} (h : Items H prev ss vs) (a : ItemOk H prev s v) : Items H prev (ss ++ [s]) (vs ++ [v]) := by
  induction h with
  | nil => exact .cons a .nil
  | cons b c ih => exact .cons b ih
def LayOk (H : Hp) (prev : Option Nat) (ss : List S) (l : Addr) : Prop := ∃ vls, H l = some (.lst vls) ∧ Items H prev ss vls
theorem LayOk.on {H H' : Hp} {prev : Option Nat} {ss : List S} {l : Addr} (h : LayOk H prev ss l) (e : ESame H H') : LayOk H' prev ss l := by
  obtain ⟨vls, h1, h2⟩ := h
  exact ⟨vls, e.lst h1, h2.on e.ts⟩

/-! ### for x in enumerate(list) -/
theorem for_enum {K : PySem.W.Frag} {a : Addr} {xs : List V} {g : TG} {tb : TS} {D : Ends} {σ : L2.St} {H : Hp} (Pv : Nat → L2.St → Hp → Prop) (h0 : Pv 0 σ H) (hl : ∀ i σ H, i ≤ xs.length → Pv i σ H → SqL K H a xs)
    (hs : ∀ i x σ H T, xs[i]? = some x → Pv i σ H → H T = none → g (.ref T) σ (upd H T (.tup [.int (i : Nat), x])) fun σ2 H2 => tb { D with nx := Pv (i + 1), ct := Pv (i + 1), bk := D.nx } σ2 H2) (hd : ∀ σ H, Pv xs.length σ H → D.nx σ H) :
    ∃ W : Nat → Nat → L2.St → Hp → Prop, (∃ m, W 0 m σ H) ∧ ∀ i m σ H, W i m σ H →
      ((Ite K a).stop i H ∧ D.nx σ H) ∨ ((Ite K a).go i H ∧ ∃ N : L2.St → Hp → Prop, (∀ σ' H', N σ' H' → ∃ m', m' < m ∧ W (i + 1) m' σ' H') ∧ ∀ x H', (Ite K a).yld i H x H' → g x σ H' fun σ2 H2 => tb { D with nx := N, ct := N, bk := D.nx } σ2 H2) := by
  refine ⟨fun i m σ H => m = xs.length - i ∧ i ≤ xs.length ∧ Pv i σ H, ⟨xs.length, by simp, Nat.zero_le _, h0⟩, ?_⟩
  rintro i m σ H ⟨rfl, hi, p⟩
  have q := hl i σ H hi p
  by_cases hlt : i < xs.length
  · refine .inr ⟨⟨xs, xs[i], q, by simp [hlt]⟩, Pv (i + 1), fun σ' H' p' => ⟨xs.length - (i + 1), by omega, rfl, hlt, p'⟩, fun x H' y => ?_⟩
    obtain ⟨T, z, e, hT, eH, y⟩ := y
    subst e eH
    exact hs i z _ _ T (y xs q) p hT
  · have e : i = xs.length := by omega
    subst e
    exact .inl ⟨⟨xs, q, Nat.le_refl _⟩, hd σ H p⟩

/-! ### the layer's plain side -/
theorem foundStep_len (c : Cf) (known : List S) (s : S) (acc : List S) (d : Deed) : (foundStep c known s acc d).length ≤ acc.length + 1 := by
  unfold foundStep
  split
  · omega
  · split
    · omega
    · simp
theorem fold_len {α : Type} {f : List S → α → List S} {k : Nat} (hf : ∀ a x, (f a x).length ≤ a.length + k) : ∀ (l : List α) (a : List S), (l.foldl f a).length ≤ a.length + l.length * k
  | [], a => by simp
  | x :: l, a => by
    have h1 := fold_len hf l (f a x)
    have h2 := hf a x
    rw [List.foldl_cons, List.length_cons, Nat.add_mul]
    omega
theorem deeds_len {c : Cf} (hc : c.Ok) : (deedsOf c).length ≤ 17 := by
  have := hc.two; have := hc.mom4
  unfold deedsOf
  simp
  omega
theorem foundOf_len {c : Cf} (hc : c.Ok) (known acc : List S) (s : S) : (foundOf c known acc s).length ≤ acc.length + 17 := by
  have h1 := fold_len (foundStep_len c known s) (deedsOf c) acc
  have h2 := deeds_len hc
  unfold foundOf
  omega

section
variable {P : Program} {w : World} {K : PySem.W.Frag} {mg : Str → Option Value} {base : Heap} {A : Ads}

def spNextLayer (P : Program) (w : World) (A : Ads) (K : PySem.W.Frag) : Sp := fun vs H Q _ => ∃ (p l kd : Addr) (c : Cf) (rs : List Str) (prev : Option Nat) (ss known : List S), vs = [.ref p, .ref l, .ref kd] ∧ SmallAt A K H p c rs ∧ c.Ok ∧ LayOk H prev ss l ∧ KdAt P w H kd (known.map eS) ∧
  (∀ s ∈ ss, Sok c s ∧ s.marks.length < 63) ∧ known.length + ss.length * 17 ≤ 100000 ∧
  ∀ l' H', ESame H H' → H l' = none → LayOk H' (some ss.length) (nextLayer c known ss) l' → KdAt P w H' kd ((known ++ nextLayer c known ss).map eS) → Q (.ref l') H'
theorem ok_next_layer (T : Txt K mg A) : FnOk P w K mg base CX0 8 A.f_next_layer A.d_next_layer ["small", "layer", "known"] (spNextLayer P w A K) := by
  refine T.t_next_layer.fn.ok sc_next_layer (fun vs H Q E h => ?_) (fun cdv A' outer s0 H vs Q E hr h => ?_)
  · obtain ⟨p, l, kd, c, rs, prev, ss, known, rfl, _⟩ := h
    rfl
  · obtain ⟨p, l, kd, c, rs, prev, ss, known, rfl, hM, hc, hL, hK, hI, hsz, k⟩ := h
    refine ⟨_, (pss_cons (ps_set (i := 3) sc_next_layer.nd rfl (.inl rfl) (pe_lst pa_nil)) (pss_cons (ps_for PassesOwn.never rfl (pi_enum (by rfl) T.z_enumerate (pa_cons (pv 1) pa_nil)) (pg_tup rfl (pgs_cons (pg_name (i := 4) sc_next_layer.nd rfl (.inl rfl)) (pgs_cons (pg_tup rfl (pgs_cons (pg_name (i := 5) sc_next_layer.nd rfl (.inl rfl)) (pgs_cons (pg_name (i := 6) sc_next_layer.nd rfl (.inl rfl)) (pgs_cons (pg_name (i := 7) sc_next_layer.nd rfl (.inl rfl)) pgs_nil)))) pgs_nil))) (pss_one (ps_for PassesOwn.never rfl (pi_list (pe_meth0 (pv 0) T.cl_Small T.t_Small_deeds.me (ok_Small_deeds T) (hr.mono (by decide)) T.t_Small_deeds.bd .nil pass0)) (pg_name (i := 8) sc_next_layer.nd rfl (.inl rfl)) (pss_cons (ps_set (i := 9) sc_next_layer.nd rfl (.inl rfl) (pe_meth (pv 0) T.cl_Small T.t_Small_after.me (ok_Small_after T) (hr.mono (by decide)) T.t_Small_after.bd .nil pass0 (pa_cons (pv 5) (pa_cons (pv 8) pa_nil)))) (pss_one (ps_if (PW.pt (pw_and (pt_cmp (pc_notN (pv 9)) rfl) (pw_and1 (pt_cmpR (op_notInKd (ru9 hr)) (pv 9) (pv 2) (by rfl))))) (pss_cons (ps_asg pe_bl (pg_sub (pv 2) (pv 9) (set_kd (ru9 hr)))) (pss_one (ps_expr (pe_bm PySem.F.plainAttrs_list PySem.F.slot_list_append PySem.F.type_list_append mt_append (pv 3) (pa_cons (pe_tup (pa_cons (pv 9) (pa_cons (pv 8) (pa_cons (pv 4) pa_nil)))) pa_nil))))) pss_nil)))))) (pss_one (ps_ret (pv 3))))), ?_⟩
    obtain ⟨se, ar, dx, vas, h1, hS, h2, h3⟩ := id hM
    obtain ⟨vls, hl, hit⟩ := id hL
    refine ⟨Nat.zero_le _, fun f hf => ?_⟩
    have s1 := same_new (o := .lst []) hf
    have fl : ∀ {H1 : Hp}, ESame H H1 → ∀ xs, ESame H (upd H1 f (.lst xs)) := fun e xs b o q n => by
      rw [upd_ne (ne_of_none q hf)]
      exact e b o q n
    refine ⟨_, rfl, l, vls, rfl, SqL.of (s1 _ _ hl), for_enum (K := K) (a := l) (xs := vls) (fun i σ H' => ∃ v4 v5 v6 v7 v8 v9 vf, σ = [some (.ref p), some (.ref l), some (.ref kd), some (.ref f), v4, v5, v6, v7, v8, v9] ∧ ESame H H' ∧ H' f = some (.lst vf) ∧
      Items H' (some ss.length) ((ss.take i).foldl (foundOf c known) []) vf ∧ KdAt P w H' kd ((known ++ (ss.take i).foldl (foundOf c known) []).map eS) ∧ ((ss.take i).foldl (foundOf c known) []).length ≤ i * 17)
      ⟨none, none, none, none, none, none, [], rfl, .of s1, upd_same, .nil, by rw [List.take_zero, List.foldl_nil, List.append_nil]; exact hK.on s1, Nat.zero_le _⟩ (fun i σ H' _ ⟨_, _, _, _, _, _, _, _, e, _⟩ => SqL.of (e.lst hl)) ?_ ?_⟩
    · rintro i x σ H1 t hi ⟨v4, v5, v6, v7, v8, v9, vf, rfl, e1, hf1, it1, hk1, len1⟩ ht
      obtain ⟨s, hs, ta, sa, vd, va, rfl, hta, dsa, _⟩ := hit.get hi
      obtain ⟨hIs, hm63⟩ := hI s (List.mem_of_getElem? hs)
      have hin : i < ss.length := (List.getElem?_eq_some_iff.mp hs).1
      rw [take_snoc hs, List.foldl_append, List.foldl_cons, List.foldl_nil]
      generalize hacc : (ss.take i).foldl (foundOf c known) [] = acc at *
      have s2 := same_new (o := .tup [.int (i : Nat), .ref ta]) ht
      have e2 : ESame H (upd H1 t (.tup [.int (i : Nat), .ref ta])) := e1.trans (.of s2)
      have hf2 := s2 _ _ hf1
      have it2 := it1.on s2.ts
      have hk2 := hk1.on s2
      have hta2 := e2.tup hta
      have ht2 : (upd H1 t (.tup [.int (i : Nat), .ref ta])) t = some (.tup [.int (i : Nat), .ref ta]) := upd_same
      generalize upd H1 t (.tup [.int (i : Nat), .ref ta]) = H2 at *
      refine ⟨t, _, rfl, SqT.of ht2, rfl, _, _, rfl, _, _, rfl, ta, _, rfl, SqT.of hta2, rfl, _, _, rfl, _, _, rfl, _, _, rfl, rfl, rfl, ?_⟩
      dsimp only [List.set]
      refine ⟨_, rfl, p, dx, _, rfl, e2.ins h1, mlk_none (by decide +kernel) (by decide +kernel) (by decide +kernel), p, c, rs, rfl, hM.onE e2, hc, fun dl vds H3 s3 hdl0 hdl hdd => ?_⟩
      have dlf : dl ≠ f := fun z => by rw [z, hf2] at hdl0; cases hdl0
      have e3 := e2.trans (.of s3)
      refine ⟨dl, rfl, ⟨_, SqL.of hdl⟩, for_list (K := K) (a := dl) (xs := vds) (fun j σ H' => ∃ v8 v9 vf, σ = [some (.ref p), some (.ref l), some (.ref kd), some (.ref f), some (.int (i : Nat)), some (.ref sa), some vd, some va, v8, v9] ∧ ESame H H' ∧ (TSame H3 H' ∧ H' dl = some (.lst vds)) ∧ H' f = some (.lst vf) ∧ 
        Items H' (some ss.length) (((deedsOf c).take j).foldl (foundStep c known s) acc) vf ∧ KdAt P w H' kd ((known ++ ((deedsOf c).take j).foldl (foundStep c known s) acc).map eS) ∧ (((deedsOf c).take j).foldl (foundStep c known s) acc).length ≤ i * 17 + j)
        ⟨v8, v9, vf, rfl, e3, ⟨.refl _, hdl⟩, s3 _ _ hf2, it2.on s3.ts, hk2.on s3, by simpa using len1⟩ (fun j σ H' _ ⟨_, _, _, _, _, e, _⟩ => SqL.of e.2) ?_ ?_⟩
      · rintro j x σ H4 hj ⟨v8, v9, vf, rfl, e4, e34, hf4, it4, hk4, len4⟩
        have hdl17 := deeds_len hc
        have hjl : j < (deedsOf c).length := by
          have := (List.getElem?_eq_some_iff.mp hj).1
          rw [hdd.len, List.length_map] at this
          exact this
        obtain ⟨x', hx', dx'⟩ := hdd.get (k := eD (deedsOf c)[j]) (j := j) (by rw [List.getElem?_map, List.getElem?_eq_getElem hjl]; rfl)
        rw [hj] at hx'
        cases hx'
        have hd0 : (deedsOf c)[j]? = some (deedsOf c)[j] := List.getElem?_eq_getElem hjl
        have hdok := deedsOf_ok c _ (List.getElem_mem hjl)
        generalize (deedsOf c)[j] = d at *
        obtain ⟨da, rfl⟩ : ∃ a, x = .ref a := by
          cases d <;> (obtain ⟨a, vs, e, _⟩ := Dt.tup_inv dx'; exact ⟨a, e⟩)
        rw [take_snoc hd0, List.foldl_append, List.foldl_cons, List.foldl_nil]
        generalize hac2 : ((deedsOf c).take j).foldl (foundStep c known s) acc = ac at *
        -- nothing found
        have stay : ∀ (H5 : Hp) (v : V), Same H4 H5 → foundStep c known s ac d = ac → ∃ v8 v9 vf, ([some (.ref p), some (.ref l), some (.ref kd), some (.ref f), some (.int (i : Nat)), some (.ref sa), some vd, some va, some (.ref da), some v] : L2.St) = [some (.ref p), some (.ref l), some (.ref kd), some (.ref f), some (.int (i : Nat)), some (.ref sa), some vd, some va, v8, v9] ∧ ESame H H5 ∧ (TSame H3 H5 ∧ H5 dl = some (.lst vds)) ∧ H5 f = some (.lst vf) ∧ 
          Items H5 (some ss.length) (foundStep c known s ac d) vf ∧ KdAt P w H5 kd ((known ++ foundStep c known s ac d).map eS) ∧ (foundStep c known s ac d).length ≤ i * 17 + (j + 1) := fun H5 v s5 ef => by
          rw [ef]
          exact ⟨_, _, vf, rfl, e4.trans (.of s5), ⟨e34.1.trans s5.ts, s5 _ _ e34.2⟩, s5 _ _ hf4, it4.on s5.ts, hk4.on s5, by omega⟩
        refine ⟨_, rfl, p, dx, _, rfl, e4.ins h1, mlk_none (by decide +kernel) (by decide +kernel) (by decide +kernel), _, rfl, _, rfl, p, c, rs, s, sa, da, d, rfl, hM.onE e4, dsa.on e4.ts, dx'.on e34.1, hc, hIs, hdok, hm63, fun ha H5 s5 => ?_, fun b ha tb H5 s5 db => ?_⟩
        · have ef : foundStep c known s ac d = ac := by unfold foundStep; rw [ha]
          exact ⟨_, rfl, _, rfl, ifnd rfl (iteF (stay H5 .non s5 ef))⟩
        · refine ⟨_, rfl, _, rfl, ifndn (fun z => by cases z) ?_⟩
          dsimp only [List.set]
          have hk5 := hk4.on s5
          refine ⟨_, rfl, _, rfl, kd, _, eS b, tb, rfl, rfl, hk5, db, Nat.le_trans (depth_S b) (by decide), _, rfl, ?_⟩
          by_cases hb : b ∈ known ++ ac
          · refine ifnd (mem_mapS.mpr hb) (stay H5 (.ref tb) s5 ?_)
            unfold foundStep
            rw [ha]
            exact if_pos hb
          · refine ifndn (fun z => hb (mem_mapS.mp z)) ?_
            have ef : foundStep c known s ac d = ac ++ [b] := by unfold foundStep; rw [ha]; exact if_neg hb
            rw [ef]
            have hlk : (known ++ ac).length < 200000 := by
              rw [List.length_append]
              have : ss.length * 17 ≤ 100000 := by omega
              have : i * 17 ≤ ss.length * 17 := Nat.mul_le_mul_right 17 (Nat.le_of_lt hin)
              omega
            refine ⟨_, rfl, _, rfl, kd, _, eS b, tb, rfl, rfl, rfl, hk5, db, Nat.le_trans (depth_S b) (by decide), fun z => hb (mem_mapS.mp z), ?_, fun H6 hk6 sm6 => ?_⟩
            · rw [List.length_map]
              exact Nat.lt_of_lt_of_le (show (known ++ ac).length + 1 < 200001 by omega) (by decide)
            have e56 := hk5.put sm6
            have hf6 : H6 f = some (.lst vf) := e56.lst (s5 _ _ hf4)
            refine ⟨_, rfl, .inl ⟨rfl, _, SqL.of hf6⟩, ?_⟩
            refine ⟨_, rfl, _, rfl, _, rfl, (by show 3 ≤ sizeLine; decide), fun u hu => ?_⟩
            have s7 := same_new (o := .tup [.ref tb, .ref da, .int (i : Nat)]) hu
            have hu7 : (upd H6 u (.tup [.ref tb, .ref da, .int (i : Nat)])) u = some (.tup [.ref tb, .ref da, .int (i : Nat)]) := upd_same
            have hk7 := hk6.on s7
            generalize upd H6 u (.tup [.ref tb, .ref da, .int (i : Nat)]) = H7 at *
            have e57 := e56.trans (.of s7)
            have e47 := (ESame.of s5).trans e57
            have hf7 := s7 _ _ hf6
            refine ⟨f, vf, .ref u, rfl, rfl, hf7, ?_, ?_⟩
            · rw [it4.len]
              rw [List.length_append] at hlk
              exact Nat.lt_of_lt_of_le (show ac.length < 200000 by omega) (by decide)
            have tl := TSame.lst (ys := vf ++ [.ref u]) hf7
            refine ⟨_, _, vf ++ [.ref u], rfl, fl (e4.trans e47) _, ⟨(e34.1.trans e47.ts).trans tl, by rw [upd_ne dlf]; exact e47.lst e34.2⟩, upd_same, ?_, ?_, ?_⟩
            · refine ((it4.on e47.ts).on tl).snoc ⟨u, tb, _, _, rfl, by rw [upd_ne (ne_of hu7 hf7 (by intro z; cases z))]; exact hu7, (db.on e57.ts).on tl, ⟨da, d, rfl, ((dx'.on e34.1).on e47.ts).on tl⟩, i, rfl, hin⟩
            · have e : (known ++ (ac ++ [b])).map eS = (known ++ ac).map eS ++ [eS b] := by simp
              rw [e]
              exact hk7.keep (fun o q => by rw [upd_ne (hk7.apart hf7)]; exact q) tl
            · rw [List.length_append]
              show ac.length + 1 ≤ _
              omega
      · rintro σ H4 ⟨v8, v9, vf, rfl, e4, e34, hf4, it4, hk4, len4⟩
        have e : (deedsOf c).take vds.length = deedsOf c := by rw [hdd.len, List.length_map, List.take_length]
        rw [e] at it4 hk4
        have hl4 := foundOf_len hc known acc s
        exact ⟨_, _, _, _, _, _, vf, rfl, e4, hf4, it4, hk4, by omega⟩
    · rintro σ H1 ⟨v4, v5, v6, v7, v8, v9, vf, rfl, e1, hf1, it1, hk1, len1⟩
      have e : ss.take vls.length = ss := by rw [hit.len, List.take_length]
      rw [e] at it1 hk1
      exact ⟨_, rfl, k f H1 e1 hf ⟨vf, hf1, it1⟩ hk1⟩
end
end K87
end
section
set_option Elab.async false
set_option linter.all false
set_option maxRecDepth 100000
set_option maxHeartbeats 4000000
/-! K87W14: the looker: worst_of. -/
namespace K87
open PySem PySem.Spec L2
open PyProof.Rows hiding St

/-- an entry of the found dict -/
def Ent (H : Hp) (n : Nat) (R : Rl) (e : Key × V) : Prop := ∃ (b : W4) (t : Addr) (pl : Nat) (v : V), e = (Sum.inr b.str, .ref t) ∧ H t = some (.tup [.str b.str, .int pl, v]) ∧ pl < n ∧ forbids R b = false
theorem Ent.on {H H' : Hp} {n : Nat} {R : Rl} {e : Key × V} (h : Ent H n R e) (ts : TSame H H') : Ent H' n R e := by
  obtain ⟨b, t, pl, v, e1, e2, e3, e4⟩ := h
  exact ⟨b, t, pl, v, e1, ts _ _ e2, e3, e4⟩
theorem mem_putK {kvs : List (Key × V)} {k : Key} {v : V} {e : Key × V} (h : e ∈ putK kvs k v) : e ∈ kvs ∨ e = (k, v) := by
  unfold putK at h
  split at h
  · obtain ⟨x, hx, rfl⟩ := List.mem_map.mp h
    by_cases hk : x.1 = k
    · rw [if_pos hk]; right; rw [hk]
    · rw [if_neg hk]; exact .inl hx
  · rcases List.mem_append.mp h with h | h
    · exact .inl h
    · exact .inr (List.mem_singleton.mp h)
theorem putK_ne {kvs : List (Key × V)} {k : Key} {v : V} : putK kvs k v ≠ [] := by
  unfold putK
  split
  · rename_i h
    intro z
    have z := List.map_eq_nil_iff.mp z
    rw [z] at h
    cases h
  · simp
theorem putK_len {kvs : List (Key × V)} {k : Key} {v : V} : (putK kvs k v).length ≤ kvs.length + 1 := by
  unfold putK
  split <;> simp
theorem valV_mem {kvs : List (Key × V)} {k : Key} {v : V} (h : valV kvs k = some v) : (k, v) ∈ kvs := by
  unfold valV at h
  cases e : kvs.find? (fun kv => decide (kv.1 = k)) with
  | none => rw [e] at h; cases h
  | some x =>
    rw [e] at h
    have h : x.2 = v := Option.some.inj h
    have hx := List.find?_some e
    have hx := of_decide_eq_true hx
    have hm := List.mem_of_find?_eq_some e
    rw [← hx, ← h]
    exact hm
theorem valV_none {kvs : List (Key × V)} {k : Key} {e : Key × V} (h : valV kvs k = none) (he : e ∈ kvs) : e.1 ≠ k := by
  unfold valV at h
  intro z
  cases e' : kvs.find? (fun kv => decide (kv.1 = k)) with
  | none =>
    have := List.find?_eq_none.mp e' e he
    exact this (decide_eq_true z)
  | some x => rw [e'] at h; cases h

theorem isBad_take {c : Cf} {ss : List S} {i : Nat} {s : S} (h : ss[i]? = some s) : isBad c (ss.take (i + 1)) = (isBad c (ss.take i) || (deedsOf c).any fun d => (bad c s d).isSome) := by
  unfold isBad
  rw [take_snoc h, List.any_append]
  simp

section
variable {P : Program} {w : World} {K : PySem.W.Frag} {mg : Str → Option Value} {base : Heap} {A : Ads}

def spWorst (A : Ads) (K : PySem.W.Frag) : Sp := fun vs H Q _ => ∃ (p l : Addr) (c : Cf) (rs : List Str) (prev : Option Nat) (ss : List S), vs = [.ref p, .ref l] ∧ SmallAt A K H p c rs ∧ c.Ok ∧ LayOk H prev ss l ∧ (∀ s ∈ ss, Sok c s) ∧ ss.length ≤ 5000 ∧
  (isBad c ss = false → ∀ H', Same H H' → Q .non H') ∧ (∀ t b (pl : Nat) v H', Same H H' → H' t = some (.tup [.str (W4.str b), .int pl, v]) → pl < ss.length → forbids c.rl b = false → Q (.ref t) H')
theorem ok_worst_of (T : Txt K mg A) : FnOk P w K mg base CX0 7 A.f_worst_of A.d_worst_of ["small", "layer"] (spWorst A K) := by
  refine T.t_worst_of.fn.ok sc_worst_of (fun vs H Q E h => ?_) (fun cdv A' outer s0 H vs Q E hr h => ?_)
  · obtain ⟨p, l, c, rs, prev, ss, rfl, _⟩ := h
    rfl
  · obtain ⟨p, l, c, rs, prev, ss, rfl, hM, hc, hL, hI, hsz, k0, k1⟩ := h
    refine ⟨_, (pss_cons (ps_set (i := 2) sc_worst_of.nd rfl (.inl rfl) (pe_dnewK)) (pss_cons (ps_for PassesOwn.never rfl (pi_enum (by rfl) T.z_enumerate (pa_cons (pv 1) pa_nil)) (pg_tup rfl (pgs_cons (pg_name (i := 3) sc_worst_of.nd rfl (.inl rfl)) (pgs_cons (pg_tup rfl (pgs_cons (pg_name (i := 4) sc_worst_of.nd rfl (.inl rfl)) (pgs_cons (pg_name (i := 5) sc_worst_of.nd rfl (.inl rfl)) (pgs_cons (pg_name (i := 6) sc_worst_of.nd rfl (.inl rfl)) pgs_nil)))) pgs_nil))) (pss_one (ps_for PassesOwn.never rfl (pi_list (pe_meth0 (pv 0) T.cl_Small T.t_Small_deeds.me (ok_Small_deeds T) (hr.mono (by decide)) T.t_Small_deeds.bd .nil pass0)) (pg_name (i := 7) sc_worst_of.nd rfl (.inl rfl)) (pss_cons (ps_set (i := 8) sc_worst_of.nd rfl (.inl rfl) (pe_meth (pv 0) T.cl_Small T.t_Small_bad.me (ok_Small_bad T) (hr.mono (by decide)) T.t_Small_bad.bd .nil pass0 (pa_cons (pv 4) (pa_cons (pv 7) pa_nil)))) (pss_one (ps_if (PW.pt (pw_and (pt_cmp (pc_notN (pv 8)) rfl) (pw_and1 (pt_cmp (pc_dnotin (hu_of hr) (pv 8) (pv 2)))))) (pss_one (ps_dput (hu_of hr) (pv 2) (pv 8) (pe_tup (pa_cons (pv 8) (pa_cons (pv 3) (pa_cons (pv 7) pa_nil)))) rfl)) pss_nil)))))) (pss_cons (ps_for PassesOwn.never rfl (pi_tup (pe_glob (v := .ref A.a_WORDS) (by rfl) T.k_WORDS.1 rfl)) (pg_name (i := 8) sc_worst_of.nd rfl (.inl rfl)) (pss_one (ps_if (pt_cmp (pc_din (hu_of hr) (pv 8) (pv 2))) (pss_one (ps_ret (pe_dget (hu_of hr) (pv 2) (pv 8) (fun _ _ => rfl)))) pss_nil))) (pss_one (ps_ret pe_non))))), ?_⟩
    obtain ⟨se, ar, dx, vas, h1, hS, h2, h3⟩ := id hM
    obtain ⟨vls, hl, hit⟩ := id hL
    intro f hf
    have s1 := same_new (o := .dK []) hf
    have fl : ∀ {H1 : Hp}, Same H H1 → ∀ kvs, Same H (upd H1 f (.dK kvs)) := fun e kvs b o q => by
      rw [upd_ne (ne_of_none q hf)]
      exact e b o q
    refine ⟨_, rfl, l, vls, rfl, SqL.of (s1 _ _ hl), for_enum (K := K) (a := l) (xs := vls) (fun i σ H' => ∃ v3 v4 v5 v6 v7 v8 kvs, σ = [some (.ref p), some (.ref l), some (.ref f), v3, v4, v5, v6, v7, v8] ∧ Same H H' ∧ H' f = some (.dK kvs) ∧
      (∀ e ∈ kvs, Ent H' ss.length c.rl e) ∧ (kvs = [] → isBad c (ss.take i) = false) ∧ kvs.length ≤ i * 17)
      ⟨none, none, none, none, none, none, [], rfl, s1, upd_same, (fun _ z => nomatch z), (fun _ => rfl), Nat.zero_le _⟩ (fun i σ H' _ ⟨_, _, _, _, _, _, _, _, e, _⟩ => SqL.of (e _ _ hl)) ?_ ?_⟩
    · rintro i x σ H1 t hi ⟨v3, v4, v5, v6, v7, v8, kvs, rfl, e1, hf1, hent, hbad, len1⟩ ht
      obtain ⟨s, hs, ta, sa, vd, va, rfl, hta, dsa, _⟩ := hit.get hi
      have hIs := hI s (List.mem_of_getElem? hs)
      have hin : i < ss.length := (List.getElem?_eq_some_iff.mp hs).1
      rw [isBad_take hs]
      have s2 := same_new (o := .tup [.int (i : Nat), .ref ta]) ht
      have e2 : Same H (upd H1 t (.tup [.int (i : Nat), .ref ta])) := e1.trans s2
      have hf2 := s2 _ _ hf1
      have hta2 := e2 _ _ hta
      have ent2 : ∀ e ∈ kvs, Ent (upd H1 t (.tup [.int (i : Nat), .ref ta])) ss.length c.rl e := fun e he => (hent e he).on s2.ts
      have ht2 : (upd H1 t (.tup [.int (i : Nat), .ref ta])) t = some (.tup [.int (i : Nat), .ref ta]) := upd_same
      generalize upd H1 t (.tup [.int (i : Nat), .ref ta]) = H2 at *
      refine ⟨t, _, rfl, SqT.of ht2, rfl, _, _, rfl, _, _, rfl, ta, _, rfl, SqT.of hta2, rfl, _, _, rfl, _, _, rfl, _, _, rfl, rfl, rfl, ?_⟩
      dsimp only [List.set]
      refine ⟨_, rfl, p, dx, _, rfl, e2 _ _ h1, mlk_none (by decide +kernel) (by decide +kernel) (by decide +kernel), p, c, rs, rfl, hM.on e2, hc, fun dl vds H3 s3 hdl0 hdl hdd => ?_⟩
      have e3 := e2.trans s3
      have dlf : dl ≠ f := fun z => by rw [z, hf2] at hdl0; cases hdl0
      refine ⟨dl, rfl, ⟨_, SqL.of hdl⟩, for_list (K := K) (a := dl) (xs := vds) (fun j σ H' => ∃ v7 v8 kvs, σ = [some (.ref p), some (.ref l), some (.ref f), some (.int (i : Nat)), some (.ref sa), some vd, some va, v7, v8] ∧ Same H H' ∧ (TSame H3 H' ∧ H' dl = some (.lst vds)) ∧ H' f = some (.dK kvs) ∧
        (∀ e ∈ kvs, Ent H' ss.length c.rl e) ∧ (kvs = [] → (isBad c (ss.take i) || ((deedsOf c).take j).any fun d => (bad c s d).isSome) = false) ∧ kvs.length ≤ i * 17 + j)
        ⟨v7, v8, kvs, rfl, e3, ⟨.refl _, hdl⟩, s3 _ _ hf2, fun e he => (ent2 e he).on s3.ts, fun z => by rw [hbad z]; simp, by omega⟩ (fun j σ H' _ ⟨_, _, _, _, _, e, _⟩ => SqL.of e.2) ?_ ?_⟩
      · rintro j x σ H4 hj ⟨v7, v8, kvs, rfl, e4, e34, hf4, ent4, bad4, len4⟩
        have hdl17 := deeds_len hc
        have hjl : j < (deedsOf c).length := by
          have := (List.getElem?_eq_some_iff.mp hj).1
          rw [hdd.len, List.length_map] at this
          exact this
        obtain ⟨x', hx', dx'⟩ := hdd.get (k := eD (deedsOf c)[j]) (j := j) (by rw [List.getElem?_map, List.getElem?_eq_getElem hjl]; rfl)
        rw [hj] at hx'
        cases hx'
        have hd0 : (deedsOf c)[j]? = some (deedsOf c)[j] := List.getElem?_eq_getElem hjl
        generalize (deedsOf c)[j] = d at *
        obtain ⟨da, rfl⟩ : ∃ a, x = .ref a := by
          cases d <;> (obtain ⟨a, vs, e, _⟩ := Dt.tup_inv dx'; exact ⟨a, e⟩)
        have eany : ((deedsOf c).take (j + 1)).any (fun d => (bad c s d).isSome) = (((deedsOf c).take j).any (fun d => (bad c s d).isSome) || (bad c s d).isSome) := by
          rw [take_snoc hd0, List.any_append]; simp
        have hgr : ∀ a, s.hd.area = some a → 1 ≤ s.hd.grant ∧ s.hd.grant ≤ s.given.length := fun a ha => by
          obtain ⟨_, _, _, g1, g2⟩ := hIs.good.ar a ha
          exact ⟨g1, by rw [hIs.giv]; exact g2⟩
        refine ⟨_, rfl, p, dx, _, rfl, e4 _ _ h1, mlk_none (by decide +kernel) (by decide +kernel) (by decide +kernel), _, rfl, _, rfl, p, c, rs, s, sa, da, d, rfl, hM.on e4, dsa.on e4.ts, dx'.on e34.1, hgr, fun hb H5 s5 => ?_, fun b hb H5 s5 => ?_⟩
        · refine ⟨_, rfl, _, rfl, ifnd rfl (iteF ?_)⟩
          refine ⟨_, _, kvs, rfl, e4.trans s5, ⟨e34.1.trans s5.ts, s5 _ _ e34.2⟩, s5 _ _ hf4, fun e he => (ent4 e he).on s5.ts, fun z => ?_, by omega⟩
          rw [eany, hb]
          have := bad4 z
          simpa using this
        · refine ⟨_, rfl, _, rfl, ifndn (fun z => by cases z) ?_⟩
          dsimp only [List.set]
          have hf5 := s5 _ _ hf4
          refine ⟨_, rfl, _, rfl, f, _, rfl, DGet.k (k := Sum.inr b.str) hf5, _, rfl, ?_⟩
          cases hv : valV kvs (Sum.inr b.str) with
          | some z =>
            refine iteF ?_
            refine ⟨_, _, kvs, rfl, e4.trans s5, ⟨e34.1.trans s5.ts, s5 _ _ e34.2⟩, hf5, fun e he => (ent4 e he).on s5.ts, fun z => ?_, by omega⟩
            rw [z] at hv
            cases hv
          | none =>
            refine iteT ?_
            refine ⟨_, rfl, _, rfl, _, rfl, (by show 3 ≤ sizeLine; decide), fun u hu => ?_⟩
            have s6 := same_new (o := .tup [.str b.str, .int (i : Nat), .ref da]) hu
            have hu6 : (upd H5 u (.tup [.str b.str, .int (i : Nat), .ref da])) u = some (.tup [.str b.str, .int (i : Nat), .ref da]) := upd_same
            generalize upd H5 u (.tup [.str b.str, .int (i : Nat), .ref da]) = H6 at *
            have hf6 := s6 _ _ hf5
            have s56 := s5.trans s6
            have hk17 : kvs.length < sizeLine := by
              have : i * 17 ≤ ss.length * 17 := Nat.mul_le_mul_right 17 (Nat.le_of_lt hin)
              have : ss.length * 17 ≤ 5000 * 17 := Nat.mul_le_mul_right 17 hsz
              exact Nat.lt_of_lt_of_le (show kvs.length < 200000 by omega) (by decide)
            refine ⟨_, rfl, _, rfl, f, _, rfl, DPut.k (k := Sum.inr b.str) hf6 hk17, ?_⟩
            have tl : TSame H6 (upd H6 f (.dK (putK kvs (Sum.inr b.str) (.ref u)))) := fun a xs e => by rw [upd_ne (ne_of e hf6 (by intro z; cases z))]; exact e
            refine ⟨_, _, putK kvs (Sum.inr b.str) (.ref u), rfl, fl (e4.trans s56) _, ⟨(e34.1.trans s56.ts).trans tl, by rw [upd_ne dlf]; exact s56 _ _ e34.2⟩, upd_same, fun e he => ?_, fun z => absurd z putK_ne, ?_⟩
            · rcases mem_putK he with he | rfl
              · exact ((ent4 e he).on s56.ts).on tl
              · exact ⟨b, u, i, .ref da, rfl, tl _ _ hu6, hin, bad_ok hc hIs hb⟩
            · have := putK_len (kvs := kvs) (k := Sum.inr b.str) (v := .ref u)
              omega
      · rintro σ H4 ⟨v7, v8, kvs, rfl, e4, e34, hf4, ent4, bad4, len4⟩
        have hdl17 := deeds_len hc
        have e : (deedsOf c).take vds.length = deedsOf c := by rw [hdd.len, List.length_map, List.take_length]
        have el : vds.length = (deedsOf c).length := by rw [hdd.len, List.length_map]
        rw [e] at bad4
        exact ⟨_, _, _, _, _, _, kvs, rfl, e4, hf4, ent4, bad4, by omega⟩
    · rintro σ H1 ⟨v3, v4, v5, v6, v7, v8, kvs, rfl, e1, hf1, hent, hbad, len1⟩
      have e : ss.take vls.length = ss := by rw [hit.len, List.take_length]
      rw [e] at hbad
      refine ⟨A.a_WORDS, rfl, ⟨_, T.k_WORDS.2 _⟩, for_tup (K := K) (a := A.a_WORDS) (xs := [.str "twice", .str "fallen", .str "astray", .str "below"]) (fun i σ H' => H' = H1 ∧ (∃ v8, σ = [some (.ref p), some (.ref l), some (.ref f), v3, v4, v5, v6, v7, v8]) ∧
        ∀ j b, j < i → ([W4.twice, .fallen, .astray, .below] : List W4)[j]? = some b → valV kvs (Sum.inr b.str) = none) ⟨rfl, ⟨_, rfl⟩, fun _ _ z => absurd z (Nat.not_lt_zero _)⟩ (fun i σ H' _ _ => T.k_WORDS.2 _) ?_ ?_⟩
      · rintro i x σ H' hi ⟨rfl, ⟨v8, rfl⟩, hno⟩
        obtain ⟨b, hb, rfl⟩ : ∃ b : W4, ([W4.twice, .fallen, .astray, .below] : List W4)[i]? = some b ∧ x = .str b.str := by
          rcases i with _ | _ | _ | _ | i
          · cases hi; exact ⟨.twice, rfl, rfl⟩
          · cases hi; exact ⟨.fallen, rfl, rfl⟩
          · cases hi; exact ⟨.astray, rfl, rfl⟩
          · cases hi; exact ⟨.below, rfl, rfl⟩
          · cases hi
        refine ⟨_, rfl, _, rfl, f, _, rfl, DGet.k (k := Sum.inr b.str) hf1, _, rfl, ?_⟩
        cases hv : valV kvs (Sum.inr b.str) with
        | some z =>
          obtain ⟨b', t, pl, v, e1', e2', e3', e4'⟩ := hent _ (valV_mem hv)
          have ez := (Prod.mk.inj e1').2
          subst ez
          exact iteT ⟨_, rfl, _, rfl, f, _, rfl, hv ▸ DGet.k (k := Sum.inr b.str) hf1, k1 t b' pl v _ e1 e2' e3' e4'⟩
        | none =>
          refine iteF ⟨rfl, ⟨_, rfl⟩, fun j b' hj hb' => ?_⟩
          by_cases hji : j = i
          · rw [hji, hb] at hb'
            cases hb'
            exact hv
          · exact hno j b' (by omega) hb'
      · rintro σ H' ⟨rfl, ⟨v8, rfl⟩, hno⟩
        refine k0 (hbad ?_) _ e1
        cases kvs with
        | nil => rfl
        | cons x r =>
          obtain ⟨b, t, pl, v, e1', _⟩ := hent x List.mem_cons_self
          have hn : valV (x :: r) (Sum.inr b.str) = none := by
            cases b
            · exact hno 0 .twice (by decide) rfl
            · exact hno 1 .fallen (by decide) rfl
            · exact hno 2 .astray (by decide) rfl
            · exact hno 3 .below (by decide) rfl
          exact absurd (by rw [e1']) (valV_none hn List.mem_cons_self)
end
end K87
end
section
set_option Elab.async false
set_option linter.all false
set_option maxRecDepth 100000
set_option maxHeartbeats 4000000
/-! K87W15: the looker: row_to. -/
namespace K87
open PySem PySem.Spec L2
open PyProof.Rows hiding St

abbrev Lays := List (Addr × List S)
/-- the layers, the last one first -/
def Chain (H : Hp) (cs : Lays) : Prop := ∀ i x, cs[i]? = some x → LayOk H ((cs[i + 1]?).map fun y => y.2.length) x.2 x.1
theorem Chain.on {H H' : Hp} {cs : Lays} (h : Chain H cs) (e : ESame H H') : Chain H' cs := fun i x q => (h i x q).on e
theorem Chain.cons {H : Hp} {cs : Lays} {x : Addr × List S} (h : Chain H cs) (a : LayOk H ((cs[0]?).map fun y => y.2.length) x.2 x.1) : Chain H (x :: cs) := fun i y q => by
  cases i with
  | zero =>
    have q : x = y := Option.some.inj q
    subst q
    exact a
  | succ i => exact h i y q
abbrev refsOf (cs : Lays) : List V := (cs.map fun x => V.ref x.1).reverse
theorem refsOf_at {cs : Lays} {i : Nat} {x : V} (hi : i < (refsOf cs).length) (h : (refsOf cs)[(refsOf cs).length - 1 - i]? = some x) : ∃ y, cs[i]? = some y ∧ x = .ref y.1 := by
  have hl : (refsOf cs).length = cs.length := by simp
  rw [hl] at hi h
  rw [List.getElem?_reverse (by simp; omega)] at h
  have e : (cs.map fun x => V.ref x.1).length - 1 - (cs.length - 1 - i) = i := by simp; omega
  rw [e, List.getElem?_map] at h
  cases hc : cs[i]? with
  | none => rw [hc] at h; cases h
  | some y => rw [hc] at h; exact ⟨y, rfl, (Option.some.inj h).symm⟩

section
variable {P : Program} {w : World} {K : PySem.W.Frag} {mg : Str → Option Value} {base : Heap} {A : Ads}

def spRow : Sp := fun vs H Q _ => ∃ (L : Addr) (pl : Nat) (cs : Lays), vs = [.ref L, .int pl] ∧ H L = some (.lst (refsOf cs)) ∧ Chain H cs ∧ (∀ y, cs[0]? = some y → pl < y.2.length) ∧ cs.length ≤ 100 ∧
  ∀ r vr H', Same H H' → H' r = some (.lst vr) → vr.length ≤ 100 → Q (.ref r) H'
theorem ok_row_to (T : Txt K mg A) : FnOk P w K mg base CX0 1 A.f_row_to A.d_row_to ["layers", "place"] spRow := by
  refine T.t_row_to.fn.ok sc_row_to (fun vs H Q E h => ?_) (fun cdv A' outer s0 H vs Q E hr h => ?_)
  · obtain ⟨L, pl, cs, rfl, _⟩ := h
    rfl
  · obtain ⟨L, pl, cs, rfl, hL, hC, hpl, h100, k⟩ := h
    refine ⟨_, (pss_cons (ps_set (i := 2) sc_row_to.nd rfl (.inl rfl) (pe_lst pa_nil)) (pss_cons (ps_for PassesOwn.never rfl (pi_reversed (by rfl) T.z_reversed (pa_cons (pv 0) pa_nil)) (pg_name (i := 3) sc_row_to.nd rfl (.inl rfl)) (pss_cons (ps_asg (pe_ix ix_list (pv 3) (pv 1) (fun _ _ => rfl)) (pg_tup rfl (pgs_cons (pg_name (i := 4) sc_row_to.nd rfl (.inl rfl)) (pgs_cons (pg_name (i := 5) sc_row_to.nd rfl (.inl rfl)) (pgs_cons (pg_name (i := 6) sc_row_to.nd rfl (.inl rfl)) pgs_nil))))) (pss_one (ps_if (pt_cmp (pc_notN (pv 5)) rfl) (pss_cons (ps_expr (pe_bm PySem.F.plainAttrs_list PySem.F.slot_list_append PySem.F.type_list_append mt_append (pv 2) (pa_cons (pv 5) pa_nil))) (pss_one (ps_set (i := 1) sc_row_to.nd rfl (.inl rfl) (pv 6)))) pss_nil)))) (pss_one (ps_ret (pe_revL (pv 2)))))), ?_⟩
    refine ⟨Nat.zero_le _, fun r hrn => ?_⟩
    have s1 := same_new (o := .lst []) hrn
    have hlen : (refsOf cs).length = cs.length := by simp
    have fl : ∀ {H1 : Hp}, Same H H1 → ∀ kvs, Same H (upd H1 r (.lst kvs)) := fun e kvs b o q => by
      rw [upd_ne (ne_of_none q hrn)]
      exact e b o q
    refine ⟨_, rfl, L, refsOf cs, rfl, SqL.of (s1 _ _ hL), RT.for_Itv (K := K) (a := L) (xs := refsOf cs) (fun i σ H' => ∃ (pl : Nat) (v3 v4 v5 v6 : Option V) (vr : List V), σ = [some (.ref L), some (.int pl), some (.ref r), v3, v4, v5, v6] ∧ Same H H' ∧ H' r = some (.lst vr) ∧ vr.length ≤ i ∧ ∀ y, cs[i]? = some y → pl < y.2.length)
      ⟨pl, none, none, none, none, [], rfl, s1, upd_same, Nat.le_refl _, hpl⟩ (fun i σ H' ⟨_, _, _, _, _, _, _, e, _⟩ => SqL.of (e _ _ hL)) ?_ ?_⟩
    · rintro i x σ H1 hi hx ⟨pl, v3, v4, v5, v6, vr, rfl, e1, hr1, len1, hpl1⟩
      obtain ⟨y, hy, rfl⟩ := refsOf_at hi hx
      obtain ⟨vls, hl, hit⟩ := hC i y hy
      have hp1 := hpl1 y hy
      obtain ⟨v, hv⟩ : ∃ v, vls[pl]? = some v := ⟨_, List.getElem?_eq_getElem (by rw [hit.len]; exact hp1)⟩
      obtain ⟨s, hs, t, sa, vd, va, rfl, ht, dsa, hrest⟩ := hit.get hv
      refine ⟨_, rfl, _, rfl, y.1, vls, (pl : Int), _, rfl, rfl, SqL.of (e1 _ _ hl), atI_nat hv, ?_⟩
      refine ⟨t, _, rfl, SqT.of (e1 _ _ ht), rfl, _, _, rfl, _, _, rfl, _, _, rfl, rfl, ?_⟩
      dsimp only [List.set]
      cases hn : cs[i + 1]? with
      | none =>
        rw [hn] at hrest
        have hrest : vd = .non := hrest
        subst hrest
        refine ⟨_, rfl, _, rfl, ifnd rfl ?_⟩
        exact ⟨pl, _, _, _, _, vr, rfl, e1, hr1, by omega, fun z hz => by cases hz⟩
      | some m =>
        rw [hn] at hrest
        obtain ⟨⟨dd, d, rfl, hd⟩, pl', rfl, hlt⟩ := hrest
        refine ⟨_, rfl, _, rfl, ifndn (fun z => by cases z) ?_⟩
        refine ⟨_, rfl, .inl ⟨rfl, _, SqL.of hr1⟩, _, rfl, r, vr, _, rfl, rfl, hr1, small1k (by omega), ?_⟩
        refine ⟨_, rfl, pl', _, _, _, _, vr ++ [.ref dd], rfl, fl e1 _, upd_same, by rw [List.length_append]; show vr.length + 1 ≤ _; omega, fun z hz => ?_⟩
        cases hz
        exact hlt
    · rintro σ H1 ⟨pl, v3, v4, v5, v6, vr, rfl, e1, hr1, len1, _⟩
      refine ⟨_, rfl, r, vr, rfl, SqL.of hr1, fun u hu => ?_⟩
      exact k u _ _ (e1.trans (same_new hu)) upd_same (by rw [List.length_reverse]; omega)
end
end K87
end
section
set_option Elab.async false
set_option linter.all false
set_option maxRecDepth 100000
set_option maxHeartbeats 4000000
/-! K87W16: look. -/
namespace K87
open PySem PySem.Spec L2
open PyProof.Rows hiding St

/-! ### the plain side -/
theorem done_marks (c : Cf) (s : S) (d : Deed) : (done c s d).marks.length ≤ s.marks.length + 1 := by
  unfold done
  split
  · split <;> simp
  · split
    · unfold takenS; split <;> simp
    · unfold writtenS; split <;> simp
    · unfold makeS
      split
      · simp
      · exact ins_len _ _
    · simp [heardS]
    · unfold backS
      split
      · simp
      · split <;> simp
    · simp
    · simp
def From (c : Cf) (ss : List S) (b : S) : Prop := ∃ s ∈ ss, ∃ d ∈ deedsOf c, after c s d = some b
theorem foundStep_mem {c : Cf} {known : List S} {s : S} {acc : List S} {d : Deed} {b : S} (h : b ∈ foundStep c known s acc d) : b ∈ acc ∨ after c s d = some b := by
  unfold foundStep at h
  split at h
  · exact .inl h
  · rename_i b' hb'
    split at h
    · exact .inl h
    · rcases List.mem_append.mp h with h | h
      · exact .inl h
      · right; rw [hb', List.mem_singleton.mp h]
theorem foundOf_mem {c : Cf} {known : List S} {s : S} {b : S} : ∀ {ds : List Deed} {acc : List S}, b ∈ ds.foldl (foundStep c known s) acc → b ∈ acc ∨ ∃ d ∈ ds, after c s d = some b
  | [], acc, h => .inl h
  | d :: ds, acc, h => by
    rcases foundOf_mem (ds := ds) h with h | ⟨d', hd', h⟩
    · rcases foundStep_mem h with h | h
      · exact .inl h
      · exact .inr ⟨d, List.mem_cons_self, h⟩
    · exact .inr ⟨d', List.mem_cons_of_mem _ hd', h⟩
theorem next_mem {c : Cf} {known : List S} {b : S} : ∀ {ss : List S} {acc : List S}, b ∈ ss.foldl (foundOf c known) acc → b ∈ acc ∨ From c ss b
  | [], acc, h => .inl h
  | s :: ss, acc, h => by
    rcases next_mem (ss := ss) h with h | ⟨s', hs', d, hd, h⟩
    · rcases foundOf_mem h with h | ⟨d, hd, h⟩
      · exact .inl h
      · exact .inr ⟨s, List.mem_cons_self, d, hd, h⟩
    · exact .inr ⟨s', List.mem_cons_of_mem _ hs', d, hd, h⟩
theorem after_some {c : Cf} {s b : S} {d : Deed} (h : after c s d = some b) : b = done c s d := by
  unfold after at h
  split at h
  · cases h
  · exact (Option.some.inj h).symm
theorem next_ok {c : Cf} (hc : c.Ok) {known ss : List S} {n : Nat} (h : ∀ s ∈ ss, Sok c s ∧ s.marks.length ≤ n) : ∀ s ∈ nextLayer c known ss, Sok c s ∧ s.marks.length ≤ n + 1 := by
  intro b hb
  rcases next_mem hb with hb | ⟨s, hs, d, hd, e⟩
  · cases hb
  · rw [after_some e]
    have := done_marks c s d
    have := (h s hs).2
    exact ⟨done_ok hc (h s hs).1 (deedsOf_ok c d hd), by omega⟩
theorem runs_cases {c : Cf} {n : Nat} {ss known : List S} (h : runs c (n + 1) ss known = true) (h1 : isBad c ss = false) (h2 : nextLayer c known ss ≠ []) : (known ++ nextLayer c known ss).length ≤ 2000 ∧ runs c n (nextLayer c known ss) (known ++ nextLayer c known ss) = true := by
  have h : (isBad c ss || (nextLayer c known ss).isEmpty || (decide ((known ++ nextLayer c known ss).length ≤ 2000) && runs c n (nextLayer c known ss) (known ++ nextLayer c known ss))) = true := h
  have h3 : (nextLayer c known ss).isEmpty = false := by
    cases e : nextLayer c known ss with
    | nil => exact absurd e h2
    | cons a r => rfl
  rw [h1, h3] at h
  have h := Bool.and_eq_true_iff.mp h
  exact ⟨of_decide_eq_true h.1, h.2⟩
/-- a layer as data -/
theorem Items.dp {H : Hp} {K : PySem.W.Frag} {m : Nat} {ss : List S} {vs : List V} (h : Items H (some m) ss vs) : ∃ ds, DpAll K H vs ds ∧ PyData.canLayAll0 ds = true ∧ PyData.depthAll ds ≤ 4 ∧ ds.length = ss.length := by
  induction h with
  | nil => exact ⟨[], .nil, rfl, by simp [PyData.depthAll], rfl⟩
  | @cons s v ss vs a b ih =>
    obtain ⟨ds, h1, h2, h3, h4⟩ := ih
    obtain ⟨t, sa, vd, va, rfl, ht, dsa, ⟨dd, d, rfl, hd⟩, pl, rfl, _⟩ := a
    refine ⟨.tuple [(eS s).data, (eD d).data, .int pl] :: ds, .cons (.tup (SqT.of ht) (.cons (Dt.dp _ _ dsa) (.cons (Dt.dp _ _ hd) (.cons (.int _) .nil)))) h1, ?_, ?_, by simp [h4]⟩
    · simp only [PyData.canLayAll0, PyData.canLay0]
      rw [canLay_data _ (okT_S s), canLay_data _ (okT_D d), h2]
      rfl
    · have e1 := depth_S s
      have e2 := depth_D d
      simp only [PyData.depthAll, PyData.depth, depth_data]
      omega
theorem shaped_list {ds : List PyData} (h1 : PyData.canLayAll0 ds = true) (h2 : PyData.depthAll ds ≤ 4) : SeqAt.shaped (.list ds) = true := by
  unfold SeqAt.shaped
  have e1 : PyData.canLay0 (.list ds) = true := by simp only [PyData.canLay0]; exact h1
  have e2 : PyData.depth (.list ds) ≤ 64 := by simp only [PyData.depth]; omega
  rw [e1, decide_eq_true e2]
  rfl
theorem eqv_nil (ds : List PyData) : PyData.eqv (.list ds) (.list []) = ds.isEmpty := by
  cases ds <;> simp [PyData.eqv, PyData.eqvAll]

section
variable {P : Program} {w : World} {K : PySem.W.Frag} {mg : Str → Option Value} {base : Heap} {A : Ads}

def spLook (A : Ads) (K : PySem.W.Frag) : Sp := fun vs H Q _ => ∃ (p : Addr) (c : Cf) (rs : List Str), vs = [.ref p, .int 2000] ∧ SmallAt A K H p c rs ∧ c.Ok ∧ runs c 12 [begin0 c] [begin0 c] = true ∧
  ∀ t x v2 v3 H', ESame H H' → H' t = some (.tup [.str x, v2, v3]) → (x = "never" ∨ ∃ b : W4, x = b.str ∧ forbids c.rl b = false) → Q (.ref t) H'
theorem ok_look (T : Txt K mg A) : FnOk P w K mg base CX0 9 A.f_look A.d_look ["small", "most"] (spLook A K) := by
  refine T.F_look.ok sc_look (fun vs H Q E h => ?_) (fun cdv A' outer s0 H vs Q E hr h => ?_)
  · obtain ⟨p, c, rs, rfl, _⟩ := h
    rfl
  · obtain ⟨p, c, rs, rfl, hM, hc, hruns, k⟩ := h
    obtain ⟨tM, gM⟩ := T.k_MOST
    refine ⟨_, PSs.nox (pss_cons (ps_if (PW.pt (pw_or (pt_not (pt_val (pe_call (ok_is_whole T) (hr.mono (by decide)) (by rfl) T.t_is_whole.gl T.t_is_whole.fn.kp T.t_is_whole.bd .nil pass0 (pa_cons (pv 1) pa_nil)))) (pw_or1 (pt_not (pt_chain op_le op_le pe_int (pv 1) (pe_glob (v := .int 2000) (by rfl) gM ⟨_, rfl⟩)))))) (pss_one ps_never) pss_nil) (pss_cons (ps_set (i := 2) sc_look.nd rfl (.inl rfl) (pe_lst (pa_cons (pe_lst (pa_cons (pe_tup (pa_cons (pe_meth0 (pv 0) T.cl_Small T.t_Small_begin.me (ok_Small_begin T) (hr.mono (by decide)) T.t_Small_begin.bd .nil pass0) (pa_cons pe_non (pa_cons pe_non pa_nil)))) pa_nil)) pa_nil))) (pss_cons (ps_set (i := 3) sc_look.nd rfl (.inl rfl) (pe_dispN (ru8 hr) (pe_meth0 (pv 0) T.cl_Small T.t_Small_begin.me (ok_Small_begin T) (hr.mono (by decide)) T.t_Small_begin.bd .nil pass0) pe_bl)) (pss_one (ps_while PassesOwn.never (pt_val pe_bl) (pss_cons (ps_set (i := 4) sc_look.nd rfl (.inl rfl) (pe_call (ok_worst_of T) (hr.mono (by decide)) (by rfl) T.t_worst_of.gl T.t_worst_of.fn.kp T.t_worst_of.bd .nil pass0 (pa_cons (pv 0) (pa_cons (pe_ix ix_list (pv 2) (pe_un un_neg pe_int) (fun _ _ => rfl)) pa_nil)))) (pss_cons (ps_if (pt_cmp (pc_notN (pv 4)) rfl) (pss_one (ps_ret (pe_tup (pa_cons (pe_ix ix_tup (pv 4) pe_int (fun _ _ => rfl)) (pa_cons (pv 2) (pa_cons (pe_op op_cat (pe_call (ok_row_to T) (hr.mono (by decide)) (by rfl) T.t_row_to.gl T.t_row_to.fn.kp T.t_row_to.bd .nil pass0 (pa_cons (pv 2) (pa_cons (pe_ix ix_tup (pv 4) pe_int (fun _ _ => rfl)) pa_nil))) (pe_lst (pa_cons (pe_ix ix_tup (pv 4) pe_int (fun _ _ => rfl)) pa_nil))) pa_nil)))))) pss_nil) (pss_cons (ps_set (i := 5) sc_look.nd rfl (.inl rfl) (pe_call (ok_next_layer T) (hr.mono (by decide)) (by rfl) T.t_next_layer.gl T.t_next_layer.fn.kp T.t_next_layer.bd .nil pass0 (pa_cons (pv 0) (pa_cons (pe_ix ix_list (pv 2) (pe_un un_neg pe_int) (fun _ _ => rfl)) (pa_cons (pv 3) pa_nil))))) (pss_cons (ps_if (pt_cmpR (op_eqD (ru64 hr)) (pv 5) (pe_lst pa_nil) (by rfl)) (pss_one (ps_ret (pe_tup (pa_cons pe_str (pa_cons (pv 2) (pa_cons (pe_lst pa_nil) pa_nil)))))) pss_nil) (pss_cons (ps_if (pt_cmpR op_gt (pe_callB call_lenKd (by rfl) T.z_len PySem.boot_len (pa_cons (pv 3) pa_nil)) (pv 1) (nomark _)) (pss_one ps_never) pss_nil) (pss_one (ps_expr (pe_bm PySem.F.plainAttrs_list PySem.F.slot_list_append PySem.F.type_list_append mt_append (pv 2) (pa_cons (pv 5) pa_nil)))))))))))))), ?_⟩
    obtain ⟨se, ar, dx, vas, h1, hS, h2, h3⟩ := id hM
    refine ⟨_, rfl, 2000, rfl, true, rfl, iteF ?_⟩
    refine ⟨_, rfl, _, _, rfl, rfl, _, rfl, ifd (by decide) ?_⟩
    refine ⟨_, _, rfl, rfl, _, rfl, ifnd (by decide) ?_⟩
    refine ⟨_, rfl, p, dx, _, rfl, h1, mlk_none (by decide +kernel) (by decide +kernel) (by decide +kernel), p, c, rs, rfl, hM, hc, fun b0 H1 s1 d1 => ?_⟩
    refine ⟨(by show 3 ≤ sizeLine; decide), fun u hu => ⟨(by show 1 ≤ sizeLine; decide), fun l0 hl0 => ⟨(by show 1 ≤ sizeLine; decide), fun L hL => ?_⟩⟩⟩
    have s2 := same_new (o := .tup [.ref b0, .non, .non]) hu
    have hu2 : (upd H1 u (.tup [.ref b0, .non, .non])) u = some (.tup [.ref b0, .non, .non]) := upd_same
    generalize upd H1 u (.tup [.ref b0, .non, .non]) = H2 at *
    have s3 := same_new (o := .lst [.ref u]) hl0
    have hl3 : (upd H2 l0 (.lst [.ref u])) l0 = some (.lst [.ref u]) := upd_same
    generalize upd H2 l0 (.lst [.ref u]) = H3 at *
    have s4 := same_new (o := .lst [.ref l0]) hL
    have hL4 : (upd H3 L (.lst [.ref l0])) L = some (.lst [.ref l0]) := upd_same
    have nl0L : l0 ≠ L := fun z => by rw [z, hL] at hl3; cases hl3
    generalize upd H3 L (.lst [.ref l0]) = H4 at *
    have s14 := (s1.trans s2).trans (s3.trans s4)
    have hLn : H L = none := ((s1.trans s2).trans s3).free hL
    have fl : ∀ {H1 : Hp}, ESame H H1 → ∀ xs, ESame H (upd H1 L (.lst xs)) := fun e xs b o q n => by
      rw [upd_ne (ne_of_none q hLn)]
      exact e b o q n
    have ch0 : Chain H4 [(l0, [begin0 c])] := fun i x q => by
      cases i with
      | zero =>
        have q : (l0, [begin0 c]) = x := Option.some.inj q
        subst q
        exact ⟨[.ref u], s4 _ _ hl3, .cons ⟨u, b0, .non, .non, rfl, (s3.trans s4) _ _ hu2, d1.on ((s2.trans s3).trans s4).ts, rfl⟩ .nil⟩
      | succ i => simp at q
    intro kd hkd
    have s5 := same_new (o := KdO P w kd []) hkd
    have h15 := (s14.trans s5)
    refine ⟨_, rfl, p, dx, _, rfl, h15 _ _ h1, mlk_none (by decide +kernel) (by decide +kernel) (by decide +kernel), p, c, rs, rfl, hM.on h15, hc, fun b1 H6 s6 d6 => ?_⟩
    refine ⟨s6 _ _ upd_same, eS (begin0 c), b1, rfl, d6, Nat.le_trans (depth_S _) (by decide), fun H7 hk7 sm7 => ?_⟩
    have e67 := hk7.put (H' := H6) (fun b hb => (sm7 b hb).symm)
    have e7 : ESame H4 H7 := by
      intro b o q n
      have hb : b ≠ kd := ne_of_none q hkd
      rw [sm7 b hb]
      exact (s5.trans s6) b o q
    have e07 := (ESame.of s14).trans e7
    dsimp only [L2.start, List.map, List.length, List.replicate, List.set, HAppend.hAppend, Append.append, List.append]
    refine ⟨fun m σ H' => ∃ (v4 v5 : Option V) (l : Addr) (ss : List S) (cs : Lays) (known : List S), σ = [some (.ref p), some (.int 2000), some (.ref L), some (.ref kd), v4, v5] ∧ ESame H H' ∧ H' L = some (.lst (refsOf ((l, ss) :: cs))) ∧ Chain H' ((l, ss) :: cs) ∧ (∀ x ∈ (l, ss) :: cs, x.1 ≠ L) ∧ KdAt P w H' kd (known.map eS) ∧
      (∀ s ∈ ss, Sok c s ∧ s.marks.length ≤ cs.length) ∧ runs c m ss known = true ∧ known.length ≤ 2000 ∧ ss.length ≤ 2000 ∧ cs.length + m = 12, ⟨12, none, none, l0, [begin0 c], [], [begin0 c], rfl, e07, e7.lst hL4, ch0.on e7, ?_, hk7, ?_, hruns, by show 1 ≤ 2000; decide, by show 1 ≤ 2000; decide, rfl⟩, ?_⟩
    · intro x hx
      rw [List.mem_singleton.mp hx]
      exact nl0L
    · intro s hs
      rw [List.mem_singleton.mp hs]
      exact ⟨begin_ok hc, Nat.le_refl _⟩
    · rintro m σ H8 ⟨v4, v5, l, ss, cs, known, rfl, e8, hL8, hC8, hne8, hk8, hI8, hr8, hkn, hss, hm⟩
      refine ⟨_, rfl, iteT ?_⟩
      obtain ⟨n, rfl⟩ : ∃ n, m = n + 1 := by
        cases m with
        | zero => cases hr8
        | succ n => exact ⟨n, rfl⟩
      refine ⟨fun σ' H' => ∃ (v4 v5 : Option V) (l : Addr) (ss : List S) (cs : Lays) (known : List S), σ' = [some (.ref p), some (.int 2000), some (.ref L), some (.ref kd), v4, v5] ∧ ESame H H' ∧ H' L = some (.lst (refsOf ((l, ss) :: cs))) ∧ Chain H' ((l, ss) :: cs) ∧ (∀ x ∈ (l, ss) :: cs, x.1 ≠ L) ∧ KdAt P w H' kd (known.map eS) ∧
        (∀ s ∈ ss, Sok c s ∧ s.marks.length ≤ cs.length) ∧ runs c n ss known = true ∧ known.length ≤ 2000 ∧ ss.length ≤ 2000 ∧ cs.length + n = 12, fun σ' H' z => ⟨n, Nat.lt_succ_self n, z⟩, ?_⟩
      have erefs : refsOf ((l, ss) :: cs) = refsOf cs ++ [.ref l] := by simp [refsOf]
      have hlay := hC8 0 _ rfl
      have h12 : cs.length ≤ 12 := by omega
      refine ⟨_, rfl, _, rfl, _, rfl, L, _, -1, _, rfl, rfl, SqL.of hL8, (by rw [erefs]; exact atI_last _ _), ?_⟩
      refine ⟨p, l, c, rs, _, ss, rfl, hM.onE e8, hc, hlay, fun s hs => (hI8 s hs).1, by omega, fun hb H9 s9 => ?_, fun t b pl v H9 s9 ht hpl hfb => ?_⟩
      · -- no bad word here
        refine ⟨_, rfl, _, rfl, ifnd rfl ?_⟩
        dsimp only [List.set]
        have e9 := e8.trans (.of s9)
        have hL9 := s9 _ _ hL8
        refine ⟨_, rfl, _, rfl, _, rfl, L, _, -1, _, rfl, rfl, SqL.of hL9, (by rw [erefs]; exact atI_last _ _), _, rfl, ?_⟩
        refine ⟨p, l, kd, c, rs, _, ss, known, rfl, hM.onE e9, hc, hlay.on (.of s9), hk8.on s9, fun s hs => ⟨(hI8 s hs).1, ?_⟩, by omega, fun l' H10 e910 hl' hlay' hk' => ?_⟩
        · have := (hI8 s hs).2
          omega
        have e10 := e9.trans e910
        obtain ⟨vls', hv', hit'⟩ := id hlay'
        refine ⟨_, rfl, Nat.zero_le _, fun z hz => ?_⟩
        have s11 := same_new (o := .lst []) hz
        obtain ⟨ds, dp1', dp2, dp3, dp4⟩ := (hit'.on s11.ts).dp (K := K)
        refine ⟨.list ds, .list [], .lst (SqL.of (s11 _ _ hv')) dp1', .lst (SqL.of upd_same) .nil, shaped_list dp2 dp3, shaped_list rfl (by simp [PyData.depthAll]), _, rfl, ?_⟩
        rw [eqv_nil]
        generalize upd H10 z (.lst []) = H11 at *
        have e11 := e10.trans (.of s11)
        cases hds : ds with
        | nil =>
          refine iteT ?_
          refine ⟨_, rfl, Nat.zero_le _, fun y hy => ⟨(by show 3 ≤ sizeLine; decide), fun t ht => ?_⟩⟩
          have s12 := same_new (o := .lst []) hy
          exact k t "never" _ _ _ (e11.trans (.of (s12.trans (same_new ht)))) upd_same (.inl rfl)
        | cons d0 dr =>
          refine iteF ?_
          have hnn : nextLayer c known ss ≠ [] := fun z => by
            rw [z, hds] at dp4
            cases dp4
          obtain ⟨hlen, hr'⟩ := runs_cases hr8 hb hnn
          have hk11 := hk'.on s11
          refine ⟨_, rfl, kd, _, rfl, hk11, _, rfl, _, _, rfl, rfl, _, rfl, ifdn ?_ ?_⟩
          · rw [List.length_map]
            omega
          have hL11 : H11 L = some (.lst (refsOf ((l, ss) :: cs))) := s11 _ _ (e910.lst hL9)
          refine ⟨_, rfl, .inl ⟨rfl, _, SqL.of hL11⟩, _, rfl, L, _, .ref l', rfl, rfl, hL11, ?_, ?_⟩
          · rw [show (refsOf ((l, ss) :: cs)).length = cs.length + 1 by simp]
            exact small1k (by omega)
          have tl := TSame.lst (ys := refsOf ((l, ss) :: cs) ++ [.ref l']) hL11
          have nl' : l' ≠ L := fun z => by rw [z, hL9] at hl'; cases hl'
          have keep : ∀ {prev : Option Nat} {ss : List S} {a : Addr}, a ≠ L → LayOk H11 prev ss a → LayOk (upd H11 L (.lst (refsOf ((l, ss) :: cs) ++ [.ref l']))) prev ss a := fun ha h => by
            obtain ⟨vls, g1, g2⟩ := h
            exact ⟨vls, by rw [upd_ne ha]; exact g1, g2.on tl⟩
          have hlen' : known.length + (nextLayer c known ss).length ≤ 2000 := by rw [← List.length_append]; exact hlen
          refine ⟨_, _, l', nextLayer c known ss, (l, ss) :: cs, known ++ nextLayer c known ss, rfl, fl e11 _, ?_, ?_, ?_, ?_, ?_, hr', hlen, by omega, ?_⟩
          · rw [upd_same, show refsOf ((l', nextLayer c known ss) :: (l, ss) :: cs) = refsOf ((l, ss) :: cs) ++ [.ref l'] by simp [refsOf]]
          · refine Chain.cons (fun i x q => keep (hne8 x (List.mem_of_getElem? q)) ((hC8.on ((ESame.of s9).trans (e910.trans (.of s11)))) i x q)) (keep nl' (hlay'.on (.of s11)))
          · intro x hx
            rcases List.mem_cons.mp hx with rfl | hx
            · exact nl'
            · exact hne8 x hx
          · exact hk11.keep (fun o q => by rw [upd_ne (hk11.apart hL11)]; exact q) tl
          · exact next_ok hc (n := cs.length) hI8
          · show cs.length + 1 + n = 12
            omega
      · -- a bad word
        refine ⟨_, rfl, _, rfl, ifndn (fun z => by cases z) ?_⟩
        dsimp only [List.set]
        refine ⟨_, rfl, t, _, 0, _, rfl, rfl, SqT.of ht, atI_nat (j := 0) rfl, _, rfl, ?_⟩
        refine ⟨_, rfl, _, rfl, t, _, 1, _, rfl, rfl, SqT.of ht, atI_nat (j := 1) rfl, L, pl, (l, ss) :: cs, rfl, s9 _ _ hL8, hC8.on (.of s9), fun y hy => ?_, by show cs.length + 1 ≤ 100; omega, fun r vr H10 s10 hr10 hvr => ?_⟩
        · have hy := Option.some.inj hy
          subst hy
          exact hpl
        refine ⟨_, rfl, t, _, 2, _, rfl, rfl, SqT.of (s10 _ _ ht), atI_nat (j := 2) rfl, (by show 1 ≤ sizeLine; decide), fun q hq => ?_⟩
        have s11 := same_new (o := .lst [v]) hq
        refine ⟨r, q, vr, [v], rfl, rfl, s11 _ _ hr10, upd_same, ?_, fun z hz => ⟨(by show 3 ≤ sizeLine; decide), fun t2 ht2 => ?_⟩⟩
        · show vr.length + 1 ≤ sizeLine
          exact small1k (by omega)
        have s12 := same_new (o := .lst (vr ++ [v])) hz
        exact k t2 b.str _ _ _ (e8.trans (.of ((s9.trans s10).trans (s11.trans (s12.trans (same_new ht2)))))) upd_same (.inr ⟨b, rfl, hfb⟩)
end
end K87
end
section
set_option Elab.async false
set_option linter.all false
set_option maxRecDepth 100000
set_option maxHeartbeats 4000000
/-! K87W17: the law's helpers: _law_hand, _law_pick, _law_rules, _law_forbidden. -/
namespace K87
open PySem PySem.Spec L2
open PyProof.Rows hiding St

/-- a hand of numbers at p, at most k of them drawn -/
def HandL (H : Hp) (p : Addr) (k : Nat) : Prop := ∃ n0 n1 n2 : Int, H p = some (.lst [.int n0, .int n1, .int n2]) ∧ 0 ≤ n1 ∧ n1 ≤ k
theorem HandL.on {H H' : Hp} {p : Addr} {k : Nat} (h : HandL H p k) (e : Same H H') : HandL H' p k := by
  obtain ⟨n0, n1, n2, h1, h2, h3⟩ := h
  exact ⟨n0, n1, n2, e _ _ h1, h2, h3⟩
theorem HandL.mono {H : Hp} {p : Addr} {j k : Nat} (h : HandL H p j) (e : j ≤ k) : HandL H p k := by
  obtain ⟨n0, n1, n2, h1, h2, h3⟩ := h
  exact ⟨n0, n1, n2, h1, h2, by omega⟩

theorem SqL.onS {K : PySem.W.Frag} {H H' : Hp} {a : Addr} {xs : List V} (h : SqL K H a xs) (e : Same H H') : SqL K H' a xs :=
  h.elim (fun h => .inl (h.elim (fun h => .inl (e _ _ h)) fun ⟨o, h⟩ => .inr ⟨o, e _ _ h⟩)) fun h => .inr h
theorem pow60 : CMulW ((10 : Int) ^ (60 : Int).toNat) ((10 : Int) ^ (60 : Int).toNat) := wide_mul (a := 200) (b := 200) (by decide +kernel) (by decide +kernel) (by decide) (by decide) (by decide)
def fw (rs : List Str) : List Str := (if ("ahead" : Str) ∈ rs then (["twice", "fallen"] : List Str) else []) ++ (if ("spoken" : Str) ∈ rs then (["below"] : List Str) else []) ++ (if ("ends" : Str) ∈ rs ∧ ("once" : Str) ∈ rs then (["astray"] : List Str) else [])
theorem fw_iff (rs : List Str) (b : W4) : b.str ∈ fw rs ↔ forbids (rlOf rs) b = true := by
  unfold fw forbids rlOf
  by_cases h1 : ("ahead" : Str) ∈ rs <;> by_cases h2 : ("spoken" : Str) ∈ rs <;> by_cases h3 : ("ends" : Str) ∈ rs <;> by_cases h4 : ("once" : Str) ∈ rs <;> simp only [h1, h2, h3, h4, if_true, if_false, and_true, and_false, true_and, false_and] <;> cases b <;> decide +kernel
theorem fw_never (rs : List Str) : ("never" : Str) ∉ fw rs := by
  unfold fw
  by_cases h1 : ("ahead" : Str) ∈ rs <;> by_cases h2 : ("spoken" : Str) ∈ rs <;> by_cases h3 : ("ends" : Str) ∈ rs ∧ ("once" : Str) ∈ rs <;> simp only [h1, h2, h3, if_true, if_false] <;> decide +kernel
theorem fw_len (rs : List Str) : (fw rs).length ≤ 4 := by
  unfold fw
  split <;> split <;> split <;> simp

section
variable {P : Program} {w : World} {K : PySem.W.Frag} {mg : Str → Option Value} {base : Heap} {A : Ads}

def spLHand (K : PySem.W.Frag) : Sp := fun vs H Q _ => ∃ (sc : Addr) (ns : List Int) (k : Int), vs = [.ref sc, .int k] ∧ SqL K H sc (ns.map .int) ∧ 0 ≤ k ∧ ∀ p H', Same H H' → H p = none → HandL H' p 0 → Q (.ref p) H'
theorem ok_law_hand (T : Txt K mg A) : FnOk P w K mg base CX0 1 A.f_law_hand A.d_law_hand ["_law_script", "_law_k"] (spLHand K) := by
  refine T.t_law_hand.fn.ok sc_law_hand (fun vs H Q E h => ?_) (fun cdv A' outer s0 H vs Q E hr h => ?_)
  · obtain ⟨sc, ns, k, rfl, _⟩ := h
    rfl
  · obtain ⟨sc, ns, k, rfl, hsc, hk0, q⟩ := h
    refine ⟨_, (pss_cons (ps_set (i := 2) sc_law_hand.nd rfl (.inl rfl) (pe_lst (pa_cons pe_int (pa_cons pe_int (pa_cons pe_int pa_nil))))) (pss_cons (ps_if (pt_cmpR op_lt (pv 1) (pe_callB call_len_seq (by rfl) T.z_len PySem.boot_len (pa_cons (pv 0) pa_nil)) (nomark _)) (pss_one (ps_asg (pe_op op_mod (pe_ix ix_list (pv 0) (pv 1) (fun _ _ => rfl)) (pe_op op_mulW (pe_op op_pow pe_int pe_int) (pe_op op_pow pe_int pe_int))) (pg_sub (pv 2) pe_int set_list))) pss_nil) (pss_cons (ps_if (PW.pt (pw_and (pt_cmpR op_ge (pe_ix ix_list (pv 2) pe_int (fun _ _ => rfl)) (pe_op op_pow pe_int pe_int) (nomark _)) (pw_and1 (pt_cmpR op_eq (pe_op op_mod (pe_ix ix_list (pv 0) pe_int (fun _ _ => rfl)) pe_int) pe_int (nomark _))))) (pss_one (ps_asg pe_int (pg_sub (pv 2) pe_int set_list))) pss_nil) (pss_cons (ps_if (pt_cmpR op_eq (pv 1) pe_int (nomark _)) (pss_one (ps_asg (pe_op op_fdiv (pe_ix ix_list (pv 2) pe_int (fun _ _ => rfl)) pe_int) (pg_sub (pv 2) pe_int set_list))) pss_nil) (pss_one (ps_ret (pv 2))))))), ?_⟩
    refine ⟨(by show 3 ≤ sizeLine; decide), fun p hp => ?_⟩
    have s1 := same_new (o := .lst [.int 0, .int 0, .int 1]) hp
    have fl : ∀ {H1 : Hp}, Same H H1 → ∀ xs, Same H (upd H1 p (.lst xs)) := fun e xs b o q => by
      rw [upd_ne (ne_of_none q hp)]
      exact e b o q
    have e1 : (upd H p (.lst [.int 0, .int 0, .int 1])) p = some (.lst [.int 0, .int 0, .int 1]) := upd_same
    generalize upd H p (.lst [.int 0, .int 0, .int 1]) = H1 at *
    refine ⟨_, rfl, _, rfl, sc, _, rfl, .inl (SqL.onS hsc s1), _, _, rfl, rfl, _, rfl, ?_⟩
    rw [List.length_map]
    by_cases hk : k < (ns.length : Int)
    · refine ifd hk ?_
      obtain ⟨j, rfl⟩ := Int.eq_ofNat_of_zero_le hk0
      have hj : j < ns.length := by omega
      have hne : ns ≠ [] := by intro z; rw [z] at hj; simp at hj
      obtain ⟨a, r, rfl⟩ : ∃ a r, ns = a :: r := by
        cases ns with
        | nil => exact absurd rfl hne
        | cons a r => exact ⟨a, r, rfl⟩
      refine ⟨_, rfl, _, rfl, sc, _, (j : Int), _, rfl, rfl, SqL.onS hsc s1, atI_nat (v := .int ((a :: r)[j]'hj)) (by rw [List.getElem?_map, List.getElem?_eq_getElem hj]; rfl), ?_⟩
      refine ⟨_, _, rfl, rfl, ⟨by decide, by decide, by decide +kernel⟩, _, _, rfl, rfl, ⟨by decide, by decide, by decide +kernel⟩, _, _, rfl, rfl, pow60, _, _, rfl, rfl, (by show (0 : Int) < (10 : Int) ^ (60 : Int).toNat * (10 : Int) ^ (60 : Int).toNat; decide +kernel), ?_⟩
      generalize ((a :: r)[j]'hj % ((10 : Int) ^ (60 : Int).toNat * (10 : Int) ^ (60 : Int).toNat)) = n0
      refine ⟨_, rfl, p, _, 0, 0, rfl, rfl, e1, rfl, ?_⟩
      refine ⟨_, rfl, p, _, 0, _, rfl, rfl, SqL.of upd_same, atI_nat (j := 0) rfl, _, _, rfl, rfl, ⟨by decide, by decide, by decide +kernel⟩, _, _, rfl, rfl, _, rfl, ifd2 (fun hb => ?_) (fun hb => ?_)⟩
      · refine ⟨_, rfl, sc, _, 0, .int a, rfl, rfl, SqL.onS hsc (fl s1 _), atI_nat (j := 0) rfl, _, _, rfl, rfl, (by show (0 : Int) < 2; decide), rfl, _, rfl, ifd2 (fun z => ?_) (fun z => ?_)⟩
        · refine ⟨_, rfl, p, _, 2, 2, rfl, rfl, upd_same, rfl, ?_⟩
          refine ⟨_, rfl, rfl, _, rfl, ifd2 (fun z => ?_) (fun z => ?_)⟩
          · refine ⟨_, rfl, p, _, 0, _, rfl, rfl, SqL.of upd_same, atI_nat (j := 0) rfl, _, _, rfl, rfl, ⟨by decide, by decide⟩, _, rfl, p, _, 0, 0, rfl, rfl, upd_same, rfl, ?_⟩
            exact ⟨_, rfl, q p _ (fl (fl (fl s1 _) _) _) hp ⟨_, _, _, upd_same, Int.le_refl _, Int.le_refl _⟩⟩
          · exact ⟨_, rfl, q p _ (fl (fl s1 _) _) hp ⟨_, _, _, upd_same, Int.le_refl _, Int.le_refl _⟩⟩
        · refine ⟨_, rfl, rfl, _, rfl, ifd2 (fun z => ?_) (fun z => ?_)⟩
          · refine ⟨_, rfl, p, _, 0, _, rfl, rfl, SqL.of upd_same, atI_nat (j := 0) rfl, _, _, rfl, rfl, ⟨by decide, by decide⟩, _, rfl, p, _, 0, 0, rfl, rfl, upd_same, rfl, ?_⟩
            exact ⟨_, rfl, q p _ (fl (fl s1 _) _) hp ⟨_, _, _, upd_same, Int.le_refl _, Int.le_refl _⟩⟩
          · exact ⟨_, rfl, q p _ (fl s1 _) hp ⟨_, _, _, upd_same, Int.le_refl _, Int.le_refl _⟩⟩
      · refine iteF ?_
        refine ⟨_, rfl, rfl, _, rfl, ifd2 (fun z => ?_) (fun z => ?_)⟩
        · refine ⟨_, rfl, p, _, 0, _, rfl, rfl, SqL.of upd_same, atI_nat (j := 0) rfl, _, _, rfl, rfl, ⟨by decide, by decide⟩, _, rfl, p, _, 0, 0, rfl, rfl, upd_same, rfl, ?_⟩
          exact ⟨_, rfl, q p _ (fl (fl s1 _) _) hp ⟨_, _, _, upd_same, Int.le_refl _, Int.le_refl _⟩⟩
        · exact ⟨_, rfl, q p _ (fl s1 _) hp ⟨_, _, _, upd_same, Int.le_refl _, Int.le_refl _⟩⟩
    · refine ifdn hk ?_
      refine ⟨_, rfl, p, _, 0, _, rfl, rfl, SqL.of e1, atI_nat (j := 0) rfl, _, _, rfl, rfl, ⟨by decide, by decide, by decide +kernel⟩, _, _, rfl, rfl, _, rfl, ifd2 (fun hb => ?_) (fun hb => ?_)⟩
      · exact absurd hb (by decide +kernel)
      · refine iteF ?_
        refine ⟨_, rfl, rfl, _, rfl, ifd2 (fun z => ?_) (fun z => ?_)⟩
        · refine ⟨_, rfl, p, _, 0, _, rfl, rfl, SqL.of e1, atI_nat (j := 0) rfl, _, _, rfl, rfl, ⟨by decide, by decide⟩, _, rfl, p, _, 0, 0, rfl, rfl, e1, rfl, ?_⟩
          exact ⟨_, rfl, q p _ (fl s1 _) hp ⟨_, _, _, upd_same, Int.le_refl _, Int.le_refl _⟩⟩
        · exact ⟨_, rfl, q p _ s1 hp ⟨_, _, _, e1, Int.le_refl _, Int.le_refl _⟩⟩
end
end K87
end
section
set_option Elab.async false
set_option linter.all false
set_option maxRecDepth 100000
set_option maxHeartbeats 4000000
/-! K87W18: _law_pick, _law_rules, _law_forbidden, _law_mark_words. -/
namespace K87
open PySem PySem.Spec L2
open PyProof.Rows hiding St
section
variable {P : Program} {w : World} {K : PySem.W.Frag} {mg : Str → Option Value} {base : Heap} {A : Ads}

def spPick : Sp := fun vs H Q _ => ∃ (p : Addr) (m : Int) (k : Nat), vs = [.ref p, .int m] ∧ HandL H p k ∧ k ≤ 1000 ∧ 1 ≤ m ∧ m ≤ 1000000 ∧ ∀ x H', 0 ≤ x → x < m → SameBut [p] H H' → HandL H' p (k + 1) → Q (.int x) H'
theorem ok_law_pick (T : Txt K mg A) : FnOk P w K mg base CX0 1 A.f_law_pick A.d_law_pick ["_law_hand_here", "_law_many"] spPick := by
  refine T.t_law_pick.fn.ok sc_law_pick (fun vs H Q E h => ?_) (fun cdv A' outer s0 H vs Q E hr h => ?_)
  · obtain ⟨p, m, k, rfl, _⟩ := h
    rfl
  · obtain ⟨p, m, k, rfl, ⟨n0, n1, n2, hp, hn0, hnk⟩, hk, hm1, hm2, q⟩ := h
    refine ⟨_, (pss_cons (ps_if (pt_cmpR op_eq (pe_ix ix_list (pv 0) pe_int (fun _ _ => rfl)) pe_int (nomark _)) (pss_cons (ps_set (i := 2) sc_law_pick.nd rfl (.inl rfl) (pe_op op_mod (pe_ix ix_list (pv 0) pe_int (fun _ _ => rfl)) (pv 1))) (pss_cons (ps_asg (pe_op op_fdiv (pe_ix ix_list (pv 0) pe_int (fun _ _ => rfl)) (pv 1)) (pg_sub (pv 0) pe_int set_list)) (pss_one (ps_ret (pv 2))))) pss_nil) (pss_cons (ps_if (pt_cmpR op_gt (pv 1) pe_int (nomark _)) (pss_cons (ps_never) (pss_one (ps_never))) pss_nil) (pss_cons (ps_asg (pe_op op_add (pe_ix ix_list (pv 0) pe_int (fun _ _ => rfl)) pe_int) (pg_sub (pv 0) pe_int set_list)) (pss_cons (ps_set (i := 4) sc_law_pick.nd rfl (.inl rfl) (pe_op op_add pe_int (pe_op op_mul (pe_op op_mul pe_int (pe_ix ix_list (pv 0) pe_int (fun _ _ => rfl))) (pe_ix ix_list (pv 0) pe_int (fun _ _ => rfl))))) (pss_cons (ps_set (i := 5) sc_law_pick.nd rfl (.inl rfl) (pe_op op_mod (pe_op op_mul (pe_op op_add (pe_op op_mod (pe_ix ix_list (pv 0) pe_int (fun _ _ => rfl)) pe_int) pe_int) (pv 4)) pe_int)) (pss_cons (ps_set (i := 6) sc_law_pick.nd rfl (.inl rfl) (pe_op op_mod (pe_op op_add (pe_op op_mul (pv 5) (pv 5)) (pe_op op_mul pe_int (pv 5))) pe_int)) (pss_one (ps_ret (pe_op op_mod (pe_op op_fdiv (pe_op op_mod (pe_op op_mul (pv 6) pe_int) pe_int) pe_int) (pv 1)))))))))), ?_⟩
    have sb : ∀ xs, SameBut [p] H (upd H p (.lst xs)) := fun xs => (SameBut.of (Same.refl H)).put (by simp)
    refine ⟨_, rfl, p, _, 2, _, rfl, rfl, SqL.of hp, atI_nat (j := 2) rfl, rfl, _, rfl, ifd2 (fun z => ?_) (fun z => ?_)⟩
    · refine ⟨_, rfl, p, _, 0, _, rfl, rfl, SqL.of hp, atI_nat (j := 0) rfl, _, rfl, _, _, rfl, rfl, (by show (0 : Int) < m; omega), ?_⟩
      refine ⟨_, rfl, p, _, 0, _, rfl, rfl, SqL.of hp, atI_nat (j := 0) rfl, _, rfl, _, _, rfl, rfl, ⟨by omega, by omega⟩, _, rfl, p, _, 0, 0, rfl, rfl, hp, rfl, ?_⟩
      refine ⟨_, rfl, q _ _ (Int.emod_nonneg _ (by omega)) (Int.emod_lt_of_pos _ (by omega)) (sb _) ⟨_, n1, n2, upd_same, hn0, by omega⟩⟩
    · refine ⟨_, rfl, _, _, rfl, rfl, _, rfl, ifdn (by omega) ?_⟩
      refine ⟨_, rfl, p, _, 1, _, rfl, rfl, SqL.of hp, atI_nat (j := 1) rfl, _, _, rfl, rfl, _, rfl, p, _, 1, 1, rfl, rfl, hp, rfl, ?_⟩
      have e1 : (upd H p (.lst [.int n0, .int (n1 + 1), .int n2])) p = some (.lst [.int n0, .int (n1 + 1), .int n2]) := upd_same
      have hfin : HandL (upd H p (.lst [.int n0, .int (n1 + 1), .int n2])) p (k + 1) := ⟨n0, n1 + 1, n2, upd_same, by omega, by omega⟩
      have hsb := sb [.int n0, .int (n1 + 1), .int n2]
      refine ⟨_, rfl, p, _, 1, _, rfl, rfl, SqL.of e1, atI_nat (j := 1) rfl, _, _, rfl, rfl, .inl ⟨by decide, by decide⟩, _, rfl, p, _, 1, _, rfl, rfl, SqL.of e1, atI_nat (j := 1) rfl, _, _, rfl, rfl, .inr ⟨by omega, by omega⟩, _, _, rfl, rfl, ?_⟩
      have hby : 0 ≤ 39916801 * (n1 + 1) * (n1 + 1) ∧ 39916801 * (n1 + 1) * (n1 + 1) ≤ 39916801 * 1001 * 1001 := by
        have h1 : 0 ≤ n1 + 1 := by omega
        have h2 : n1 + 1 ≤ 1001 := by omega
        constructor
        · exact Int.mul_nonneg (Int.mul_nonneg (by decide) h1) h1
        · exact Int.mul_le_mul (Int.mul_le_mul_of_nonneg_left h2 (by decide)) h2 h1 (by decide)
      generalize 39916801 * (n1 + 1) * (n1 + 1) = by0 at *
      refine ⟨_, rfl, p, _, 0, _, rfl, rfl, SqL.of e1, atI_nat (j := 0) rfl, _, _, rfl, rfl, (by show (0 : Int) < 2147483629; decide), _, _, rfl, rfl, _, rfl, _, _, rfl, rfl, .inr ⟨by omega, by omega⟩, _, _, rfl, rfl, (by show (0 : Int) < 998244353; decide), ?_⟩
      have h1 : 0 ≤ (n0 % 2147483629 + 11) * (716151937 + by0) % 998244353 := Int.emod_nonneg _ (by decide)
      have h2 : (n0 % 2147483629 + 11) * (716151937 + by0) % 998244353 < 998244353 := Int.emod_lt_of_pos _ (by decide)
      generalize (n0 % 2147483629 + 11) * (716151937 + by0) % 998244353 = one at *
      refine ⟨_, rfl, _, rfl, _, _, rfl, rfl, .inl ⟨by omega, by omega⟩, _, rfl, _, _, rfl, rfl, .inl ⟨by decide, by decide⟩, _, _, rfl, rfl, _, _, rfl, rfl, (by show (0 : Int) < 1000000007; decide), ?_⟩
      have h3 : 0 ≤ (one * one + 48271 * one) % 1000000007 := Int.emod_nonneg _ (by decide)
      have h4 : (one * one + 48271 * one) % 1000000007 < 1000000007 := Int.emod_lt_of_pos _ (by decide)
      generalize (one * one + 48271 * one) % 1000000007 = two at *
      refine ⟨_, rfl, _, _, rfl, rfl, .inl ⟨by omega, by omega⟩, _, _, rfl, rfl, (by show (0 : Int) < 2147483399; decide), _, _, rfl, rfl, ⟨by decide, by decide⟩, _, rfl, _, _, rfl, rfl, (by show (0 : Int) < m; omega), ?_⟩
      exact q _ _ (Int.emod_nonneg _ (by omega)) (Int.emod_lt_of_pos _ (by omega)) hsb hfin
end
end K87
end
section
set_option Elab.async false
set_option linter.all false
set_option maxRecDepth 100000
set_option maxHeartbeats 4000000
/-! K87W19: _law_rules, _law_forbidden, _law_mark_words. -/
namespace K87
open PySem PySem.Spec L2
open PyProof.Rows hiding St
structure RsOk (rs : List Str) : Prop where
  nd : rs.Nodup
  five : ∀ x ∈ rs, x ∈ five
  len : rs.length ≤ 5
  src : rs.length < 5 ∨ ∀ x ∈ K87.five, x ∈ rs
def revFive : List Str := ["spoken", "once", "ends", "apart", "ahead"]
theorem rsOk_five : RsOk five := ⟨by decide +kernel, fun x h => h, by decide, .inr fun x h => h⟩
theorem rsOk_rev {rs : List Str} {i : Nat} (h : rs.Sublist (revFive.take i)) : RsOk rs := by
  have h5 : rs.Sublist revFive := h.trans (List.take_sublist _ _)
  exact ⟨h5.nodup (by decide +kernel), fun x hx => by
    have := h5.subset hx
    unfold revFive at this
    unfold K87.five
    simp only [List.mem_cons, List.not_mem_nil, or_false] at this ⊢
    grind, h5.length_le, by
    by_cases hl : rs.length < 5
    · exact .inl hl
    · right
      have e : rs = revFive := h5.eq_of_length (by have := h5.length_le; have e5 : revFive.length = 5 := rfl; omega)
      rw [e]
      decide +kernel⟩
section
variable {P : Program} {w : World} {K : PySem.W.Frag} {mg : Str → Option Value} {base : Heap} {A : Ads}

def spLRules : Sp := fun vs H Q _ => ∃ (p : Addr) (k : Nat), vs = [.ref p] ∧ HandL H p k ∧ k ≤ 900 ∧ ∀ l rs H', SameBut [p] H H' → HandL H' p (k + 6) → H l = none → H' l = some (.lst (rs.map .str)) → RsOk rs → Q (.ref l) H'
theorem ok_law_rules (T : Txt K mg A) : FnOk P w K mg base CX0 2 A.f_law_rules A.d_law_rules ["_law_hand_here"] spLRules := by
  refine T.t_law_rules.fn.ok sc_law_rules (fun vs H Q E h => ?_) (fun cdv A' outer s0 H vs Q E hr h => ?_)
  · obtain ⟨p, k, rfl, _⟩ := h
    rfl
  · obtain ⟨p, k, rfl, hp, hk, q⟩ := h
    refine ⟨_, (pss_cons (ps_if (pt_cmpR op_eq (pe_call (ok_law_pick T) (hr.mono (by decide)) (by rfl) T.t_law_pick.gl T.t_law_pick.fn.kp T.t_law_pick.bd .nil pass0 (pa_cons (pv 0) (pa_cons pe_int pa_nil))) pe_int (nomark _)) (pss_one (ps_ret (pe_lst (pa_cons pe_str (pa_cons pe_str (pa_cons pe_str (pa_cons pe_str (pa_cons pe_str pa_nil)))))))) pss_nil) (pss_cons (ps_set (i := 1) sc_law_rules.nd rfl (.inl rfl) (pe_lst pa_nil)) (pss_cons (ps_for PassesOwn.never rfl (pi_list (pe_lst (pa_cons pe_str (pa_cons pe_str (pa_cons pe_str (pa_cons pe_str (pa_cons pe_str pa_nil))))))) (pg_name (i := 2) sc_law_rules.nd rfl (.inl rfl)) (pss_one (ps_if (pt_cmpR op_gt (pe_call (ok_law_pick T) (hr.mono (by decide)) (by rfl) T.t_law_pick.gl T.t_law_pick.fn.kp T.t_law_pick.bd .nil pass0 (pa_cons (pv 0) (pa_cons pe_int pa_nil))) pe_int (nomark _)) (pss_one (ps_expr (pe_bm PySem.F.plainAttrs_list PySem.F.slot_list_append PySem.F.type_list_append mt_append (pv 1) (pa_cons (pv 2) pa_nil)))) pss_nil))) (pss_one (ps_ret (pv 1)))))), ?_⟩
    refine ⟨_, rfl, p, 3, k, rfl, hp, by omega, by decide, by decide, fun x H1 x0 x3 s1 hp1 => ⟨rfl, _, rfl, ifd2 (fun z => ?_) (fun z => ?_)⟩⟩
    · refine ⟨(by show 5 ≤ sizeLine; decide), fun l hl => ?_⟩
      have hl0 : H l = none := by
        cases e : H l with
        | none => rfl
        | some o =>
          by_cases hlp : l = p
          · obtain ⟨n0, n1, n2, e1, _⟩ := hp1
            rw [← hlp, hl] at e1; cases e1
          · have := s1 _ _ e (by simpa using hlp)
            rw [hl] at this; cases this
      exact q l five _ (s1.trans (SameBut.of (same_new hl))) ((hp1.on (same_new hl)).mono (by omega)) hl0 upd_same rsOk_five
    · refine ⟨Nat.zero_le _, fun l hl => ?_⟩
      have hl0 : H l = none := by
        cases e : H l with
        | none => rfl
        | some o =>
          by_cases hlp : l = p
          · obtain ⟨n0, n1, n2, e1, _⟩ := hp1
            rw [← hlp, hl] at e1; cases e1
          · have := s1 _ _ e (by simpa using hlp)
            rw [hl] at this; cases this
      have s2 := same_new (o := .lst []) hl
      have npl : l ≠ p := fun z => by
        obtain ⟨n0, n1, n2, e1, _⟩ := hp1
        rw [← z, hl] at e1; cases e1
      refine ⟨(by show 5 ≤ sizeLine; decide), fun t ht => ?_⟩
      have s3 := same_new (o := .lst [.str "spoken", .str "once", .str "ends", .str "apart", .str "ahead"]) ht
      have ntp : t ≠ p := fun z => by
        obtain ⟨n0, n1, n2, e1, _⟩ := hp1.on s2
        rw [← z, ht] at e1; cases e1
      have ntl : t ≠ l := fun z => by rw [z, upd_same] at ht; cases ht
      refine ⟨t, rfl, ⟨_, SqL.of upd_same⟩, for_list (K := K) (a := t) (xs := revFive.map .str) (fun i σ H' => ∃ (rs : List Str) (v : Option V), σ = [some (.ref p), some (.ref l), v] ∧ SameBut [p] H H' ∧ HandL H' p (k + 1 + i) ∧ H' l = some (.lst (rs.map .str)) ∧ H' t = some (.lst (revFive.map .str)) ∧ rs.Sublist (revFive.take i))
        ⟨[], none, rfl, (s1.trans (SameBut.of s2)).trans (SameBut.of s3), (hp1.on s2).on s3, s3 _ _ upd_same, upd_same, List.Sublist.slnil⟩ (fun i σ H' _ ⟨_, _, _, _, _, _, e, _⟩ => SqL.of e) ?_ ?_⟩
      · rintro i x σ H2 hi ⟨rs, v, rfl, sb2, hp2, hl2, ht2, hsub⟩
        obtain ⟨y, hy, rfl⟩ : ∃ y, revFive[i]? = some y ∧ x = .str y := by
          rw [List.getElem?_map] at hi
          cases e : revFive[i]? with
          | none => rw [e] at hi; cases hi
          | some y => rw [e] at hi; exact ⟨y, rfl, (Option.some.inj hi).symm⟩
        have hi5 : i < 5 := (List.getElem?_eq_some_iff.mp hy).1
        refine ⟨_, rfl, p, 3, k + 1 + i, rfl, hp2, by omega, by decide, by decide, fun x H3 x0 x3 s4 hp3 => ⟨_, _, rfl, rfl, _, rfl, ifd2 (fun z => ?_) (fun z => ?_)⟩⟩
        · have hl3 := s4 _ _ hl2 (by simpa using npl)
          refine ⟨_, rfl, .inl ⟨rfl, _, SqL.of hl3⟩, _, rfl, l, _, _, rfl, rfl, hl3, ?_, ?_⟩
          · have := hsub.length_le
            rw [List.length_take] at this
            rw [List.length_map]
            exact small1k (by omega)
          · refine ⟨rs ++ [y], _, rfl, ?_, ?_, ?_, ?_, ?_⟩
            · intro b o q' nb
              have hbl : b ≠ l := ne_of_none q' hl0
              rw [upd_ne hbl]
              exact (sb2.trans s4) b o q' nb
            · obtain ⟨n0, n1, n2, e1, e2, e3⟩ := hp3
              exact ⟨n0, n1, n2, by rw [upd_ne npl.symm]; exact e1, e2, by omega⟩
            · rw [upd_same, List.map_append]; rfl
            · rw [upd_ne ntl]
              exact s4 _ _ ht2 (by simpa using ntp)
            · rw [take_snoc hy]
              exact List.Sublist.append hsub (List.Sublist.refl _)
        · refine ⟨rs, _, rfl, sb2.trans s4, hp3.mono (by omega), s4 _ _ hl2 (by simpa using npl), s4 _ _ ht2 (by simpa using ntp), ?_⟩
          rw [take_snoc hy]
          exact hsub.trans (List.sublist_append_left _ _)
      · rintro σ H2 ⟨rs, v, rfl, sb2, hp2, hl2, ht2, hsub⟩
        exact ⟨_, rfl, q l rs H2 sb2 (hp2.mono (by show k + 1 + 5 ≤ k + 6; omega)) hl0 hl2 (rsOk_rev hsub)⟩

def spForbidden (K : PySem.W.Frag) : Sp := fun vs H Q _ => ∃ (a : Addr) (rs : List Str), vs = [.ref a] ∧ SqL K H a (rs.map .str) ∧ ∀ l H', Same H H' → H' l = some (.lst ((fw rs).map .str)) → Q (.ref l) H'
theorem ok_law_forbidden (T : Txt K mg A) : FnOk P w K mg base CX0 1 A.f_law_forbidden A.d_law_forbidden ["_law_rules_here"] (spForbidden K) := by
  refine T.t_law_forbidden.fn.ok sc_law_forbidden (fun vs H Q E h => ?_) (fun cdv A' outer s0 H vs Q E hr h => ?_)
  · obtain ⟨a, rs, rfl, _⟩ := h
    rfl
  · obtain ⟨a, rs, rfl, ha, q⟩ := h
    refine ⟨_, (pss_cons (ps_set (i := 1) sc_law_forbidden.nd rfl (.inl rfl) (pe_lst pa_nil)) (pss_cons (ps_if (pt_cmpR op_inS pe_str (pv 0) (by rfl)) (pss_one (ps_set (i := 1) sc_law_forbidden.nd rfl (.inl rfl) (pe_op op_cat (pv 1) (pe_lst (pa_cons pe_str (pa_cons pe_str pa_nil)))))) pss_nil) (pss_cons (ps_if (pt_cmpR op_inS pe_str (pv 0) (by rfl)) (pss_one (ps_expr (pe_bm PySem.F.plainAttrs_list PySem.F.slot_list_append PySem.F.type_list_append mt_append (pv 1) (pa_cons pe_str pa_nil)))) pss_nil) (pss_cons (ps_if (PW.pt (pw_and (pt_cmpR op_inS pe_str (pv 0) (by rfl)) (pw_and1 (pt_cmpR op_inS pe_str (pv 0) (by rfl))))) (pss_one (ps_expr (pe_bm PySem.F.plainAttrs_list PySem.F.slot_list_append PySem.F.type_list_append mt_append (pv 1) (pa_cons pe_str pa_nil)))) pss_nil) (pss_one (ps_ret (pv 1))))))), ?_⟩
    have fl : ∀ (d : Addr), H d = none → ∀ {H1 : Hp}, Same H H1 → ∀ xs, Same H (upd H1 d (.lst xs)) := fun d hd {H1} e xs b o q => by
      rw [upd_ne (ne_of_none q hd)]
      exact e b o q
    refine ⟨Nat.zero_le _, fun l hl => ?_⟩
    have s1 := same_new (o := .lst []) hl
    have hl1 : (upd H l (.lst [])) l = some (.lst (([] : List Str).map .str)) := upd_same
    generalize upd H l (.lst []) = H1 at *
    refine ⟨_, rfl, "ahead", a, rs, rfl, rfl, .inl (SqL.onS ha s1), _, rfl, ifd2 (fun z1 => ?_) (fun z1 => ?_)⟩
    · refine ⟨_, rfl, (by show 2 ≤ sizeLine; decide), fun b hb => ?_⟩
      have s2 := same_new (o := .lst [.str "twice", .str "fallen"]) hb
      refine ⟨l, b, _, _, rfl, rfl, s2 _ _ hl1, upd_same, (by show 2 ≤ sizeLine; decide), fun d hd => ?_⟩
      have s3 := same_new (o := .lst [.str "twice", .str "fallen"]) hd
      have sd := (s1.trans s2).trans s3
      have hd0 := (s1.trans s2).free hd
      have hD : (upd (upd H1 b (.lst [.str "twice", .str "fallen"])) d (.lst [.str "twice", .str "fallen"])) d = some (.lst ((["twice", "fallen"] : List Str).map .str)) := upd_same
      have e0 : (if ("ahead" : Str) ∈ rs then (["twice", "fallen"] : List Str) else []) = (["twice", "fallen"] : List Str) := if_pos z1
      refine ⟨_, rfl, "spoken", a, rs, rfl, rfl, .inl (SqL.onS ha sd), _, rfl, ifd2 (fun z2 => ?_) (fun z2 => ?_)⟩
      · refine ⟨_, rfl, .inl ⟨rfl, _, SqL.of hD⟩, d, _, _, rfl, rfl, hD, (by show 2 < sizeLine; decide), ?_⟩
        have s5 : Same H _ := fl d hd0 sd ([.str "twice", .str "fallen"] ++ [.str "below"])
        refine ⟨_, rfl, "ends", a, rs, rfl, rfl, .inl (SqL.onS ha s5), _, rfl, and_if (c2 := ("once" : Str) ∈ rs) (fun z3 => ?_) (fun z3 => ?_) (fun _ x => ⟨_, rfl, "once", a, rs, rfl, rfl, .inl (SqL.onS ha s5), _, rfl, x⟩)⟩
        · refine ⟨_, rfl, .inl ⟨rfl, _, SqL.of upd_same⟩, d, _, _, rfl, rfl, upd_same, (by show 2 + 1 < sizeLine; decide), ?_⟩
          refine ⟨_, rfl, q d _ (fl d hd0 s5 _) ?_⟩
          rw [upd_same]
          unfold fw
          rw [e0, if_pos z2, if_pos z3]
          rfl
        · refine ⟨_, rfl, q d _ s5 ?_⟩
          rw [upd_same]
          unfold fw
          rw [e0, if_pos z2, if_neg z3]
          rfl
      · refine ⟨_, rfl, "ends", a, rs, rfl, rfl, .inl (SqL.onS ha sd), _, rfl, and_if (c2 := ("once" : Str) ∈ rs) (fun z3 => ?_) (fun z3 => ?_) (fun _ x => ⟨_, rfl, "once", a, rs, rfl, rfl, .inl (SqL.onS ha sd), _, rfl, x⟩)⟩
        · refine ⟨_, rfl, .inl ⟨rfl, _, SqL.of hD⟩, d, _, _, rfl, rfl, hD, (by show 2 < sizeLine; decide), ?_⟩
          refine ⟨_, rfl, q d _ (fl d hd0 sd _) ?_⟩
          rw [upd_same]
          unfold fw
          rw [e0, if_neg z2, if_pos z3]
          rfl
        · refine ⟨_, rfl, q d _ sd ?_⟩
          unfold fw
          rw [e0, if_neg z2, if_neg z3]
          exact hD
    · have sd := s1
      have hd0 := hl
      have hD := hl1
      have e0 : (if ("ahead" : Str) ∈ rs then (["twice", "fallen"] : List Str) else []) = [] := if_neg z1
      refine ⟨_, rfl, "spoken", a, rs, rfl, rfl, .inl (SqL.onS ha sd), _, rfl, ifd2 (fun z2 => ?_) (fun z2 => ?_)⟩
      · refine ⟨_, rfl, .inl ⟨rfl, _, SqL.of hD⟩, l, _, _, rfl, rfl, hD, (by show 0 < sizeLine; decide), ?_⟩
        have s5 : Same H _ := fl l hd0 sd ([] ++ [.str "below"])
        refine ⟨_, rfl, "ends", a, rs, rfl, rfl, .inl (SqL.onS ha s5), _, rfl, and_if (c2 := ("once" : Str) ∈ rs) (fun z3 => ?_) (fun z3 => ?_) (fun _ x => ⟨_, rfl, "once", a, rs, rfl, rfl, .inl (SqL.onS ha s5), _, rfl, x⟩)⟩
        · refine ⟨_, rfl, .inl ⟨rfl, _, SqL.of upd_same⟩, l, _, _, rfl, rfl, upd_same, (by show 0 + 1 < sizeLine; decide), ?_⟩
          refine ⟨_, rfl, q l _ (fl l hd0 s5 _) ?_⟩
          rw [upd_same]
          unfold fw
          rw [e0, if_pos z2, if_pos z3]
          rfl
        · refine ⟨_, rfl, q l _ s5 ?_⟩
          rw [upd_same]
          unfold fw
          rw [e0, if_pos z2, if_neg z3]
          rfl
      · refine ⟨_, rfl, "ends", a, rs, rfl, rfl, .inl (SqL.onS ha sd), _, rfl, and_if (c2 := ("once" : Str) ∈ rs) (fun z3 => ?_) (fun z3 => ?_) (fun _ x => ⟨_, rfl, "once", a, rs, rfl, rfl, .inl (SqL.onS ha sd), _, rfl, x⟩)⟩
        · refine ⟨_, rfl, .inl ⟨rfl, _, SqL.of hD⟩, l, _, _, rfl, rfl, hD, (by show 0 < sizeLine; decide), ?_⟩
          refine ⟨_, rfl, q l _ (fl l hd0 sd _) ?_⟩
          rw [upd_same]
          unfold fw
          rw [e0, if_neg z2, if_pos z3]
          rfl
        · refine ⟨_, rfl, q l _ sd ?_⟩
          unfold fw
          rw [e0, if_neg z2, if_neg z3]
          exact hD
end
end K87
end
section
set_option Elab.async false
set_option linter.all false
set_option maxRecDepth 100000
set_option maxHeartbeats 4000000
/-! K87W20: _law_mark_words. -/
namespace K87
open PySem PySem.Spec L2
open PyProof.Rows hiding St
theorem optW {c : Prop} [Decidable c] {B : Prop} {K : Hp → Prop} {Hc : Hp} {I : List Str → Hp → Prop} {ws : List Str} {w : Str} (i : I ws Hc) (k : ∀ ws' H', I ws' H' → K H') (b : c → (∀ H', I (ws ++ [w]) H' → K H') → B) : if decide c = true then B else K Hc := by
  by_cases h : c
  · exact ifd h (b h fun H' z => k _ _ z)
  · exact ifdn h (k _ _ i)
theorem optAnd {b1 : Bool} {G B : Prop} {K : Hp → Prop} {Hc : Hp} {I : List Str → Hp → Prop} {ws : List Str} {w : Str} {good : Prop} (i : I ws Hc) (k : ∀ ws' H', I ws' H' → K H') (b : good → (∀ H', I (ws ++ [w]) H' → K H') → B)
    (m : b1 = true → (∀ {c2 : Prop} [Decidable c2], (c2 → good) → if decide c2 = true then B else K Hc) → G) : if b1 = true then G else (if false = true then B else K Hc) := by
  cases b1 with
  | true =>
    refine iteT (m rfl fun {c2} _ h => ?_)
    by_cases hc : c2
    · exact ifd hc (b (h hc) fun H' z => k _ _ z)
    · exact ifdn hc (k _ _ i)
  | false => exact iteF (iteF (k _ _ i))
/-- what a word tells of a mark -/
def Told (c s : Int) (ms : List Int) (bound : Int) (en : Option Int) (x : Int) : W4 → Prop
  | .twice => x ∈ ms
  | .fallen => ∃ y ∈ ms, x < y
  | .astray => ∃ e, en = some e ∧ e ≤ momentOf c s x
  | .below => momentOf c s x < bound
def WI (H : Hp) (l : Addr) (c s : Int) (ms : List Int) (bound : Int) (en : Option Int) (x : Int) (n : Nat) (ws : List Str) (H' : Hp) : Prop := Same H H' ∧ H' l = some (.lst (ws.map .str)) ∧ ws.length ≤ n ∧ ∀ y ∈ ws, ∃ b : W4, y = b.str ∧ Told c s ms bound en x b
theorem WI.up {H H' : Hp} {l : Addr} {c s : Int} {ms : List Int} {bound : Int} {en : Option Int} {x : Int} {n : Nat} {ws : List Str} (i : WI H l c s ms bound en x n ws H') : WI H l c s ms bound en x (n + 1) ws H' := ⟨i.1, i.2.1, Nat.le_succ_of_le i.2.2.1, i.2.2.2⟩
theorem WI.on {H H' H2 : Hp} {l : Addr} {c s : Int} {ms : List Int} {bound : Int} {en : Option Int} {x : Int} {n : Nat} {ws : List Str} (i : WI H l c s ms bound en x n ws H') (e : Same H' H2) : WI H l c s ms bound en x n ws H2 := ⟨i.1.trans e, e _ _ i.2.1, i.2.2⟩
theorem WI.put {H H' : Hp} {l : Addr} {c s : Int} {ms : List Int} {bound : Int} {en : Option Int} {x : Int} {n : Nat} {ws : List Str} (i : WI H l c s ms bound en x n ws H') (hl : H l = none) {b : W4} (t : Told c s ms bound en x b) : WI H l c s ms bound en x (n + 1) (ws ++ [b.str]) (upd H' l (.lst (ws.map .str ++ [.str b.str]))) := by
  refine ⟨fun a o q => ?_, ?_, ?_, fun y hy => ?_⟩
  · rw [upd_ne (ne_of_none q hl)]
    exact i.1 a o q
  · rw [upd_same, List.map_append]; rfl
  · rw [List.length_append]
    exact Nat.add_le_add_right i.2.2.1 1
  · rcases List.mem_append.mp hy with hy | hy
    · exact i.2.2.2 y hy
    · exact ⟨b, List.mem_singleton.mp hy, t⟩
theorem datas_nums (ms : List Int) : ∀ {H : Hp} {K : PySem.W.Frag}, DpAll K H (ms.map V.int) (ms.map PyData.int) := by
  induction ms with
  | nil => intro H K; exact .nil
  | cons a r ih => intro H K; exact .cons (.int a) ih
theorem canLay_nums (ms : List Int) : PyData.canLayAll0 (ms.map PyData.int) = true := by
  induction ms with
  | nil => rfl
  | cons a r ih => simp [PyData.canLayAll0, PyData.canLay0, ih]
theorem depthAll_nums (ms : List Int) : PyData.depthAll (ms.map PyData.int) = 0 := by
  induction ms with
  | nil => rfl
  | cons a r ih => simp [PyData.depthAll, PyData.depth, ih]
section
variable {P : Program} {w : World} {K : PySem.W.Frag} {mg : Str → Option Value} {base : Heap} {A : Ads}

def spMarkWords : Sp := fun vs H Q _ => ∃ (nu ml : Addr) (x bound c s : Int) (rest : List V) (ms : List Int) (en : Option Int) (ve : V), vs = [.ref nu, .int x, .ref ml, .int bound, ve] ∧ H nu = some (.tup (.int c :: .int s :: rest)) ∧ (1 ≤ c ∧ c ≤ 3) ∧ (1 ≤ s ∧ s ≤ 3) ∧ H ml = some (.lst (ms.map .int)) ∧ Dt H (eO en) ve ∧
  ∀ (l : Addr) (ws : List Str) (H' : Hp), Same H H' → H' l = some (.lst (ws.map .str)) → (∀ y ∈ ws, ∃ b : W4, y = b.str ∧ Told c s ms bound en x b) → Q (.ref l) H'
theorem ok_law_mark_words (T : Txt K mg A) : FnOk P w K mg base CX0 1 A.f_law_mark_words A.d_law_mark_words ["_law_numbers", "_law_mark", "_law_marks", "_law_bound", "_law_end"] spMarkWords := by
  refine T.t_law_mark_words.fn.ok sc_law_mark_words (fun vs H Q E h => ?_) (fun cdv A' outer s0 H vs Q E hr h => ?_)
  · obtain ⟨nu, ml, x, bound, c, s, rest, ms, en, ve, rfl, _⟩ := h
    rfl
  · obtain ⟨nu, ml, x, bound, c, s, rest, ms, en, ve, rfl, hnu, hc, hs, hml, hen, q⟩ := h
    refine ⟨_, (pss_cons (ps_set (i := 5) sc_law_mark_words.nd rfl (.inl rfl) (pe_op op_fdiv (pe_op op_fdiv (pv 1) (pe_ix ix_tup (pv 0) pe_int (fun _ _ => rfl))) (pe_ix ix_tup (pv 0) pe_int (fun _ _ => rfl)))) (pss_cons (ps_set (i := 6) sc_law_mark_words.nd rfl (.inl rfl) (pe_lst pa_nil)) (pss_cons (ps_if (pt_cmpR op_inI (pv 1) (pv 2) (by rfl)) (pss_one (ps_expr (pe_bm PySem.F.plainAttrs_list PySem.F.slot_list_append PySem.F.type_list_append mt_append (pv 6) (pa_cons pe_str pa_nil)))) pss_nil) (pss_cons (ps_if (PW.pt (pw_and (pt_cmpR (op_neD (ru64 hr)) (pv 2) (pe_lst pa_nil) (by rfl)) (pw_and1 (pt_cmpR op_gt (pe_callB (cr_max rfl) (by rfl) T.z_max boot_max (pa_cons (pv 2) pa_nil)) (pv 1) (nomark _))))) (pss_one (ps_expr (pe_bm PySem.F.plainAttrs_list PySem.F.slot_list_append PySem.F.type_list_append mt_append (pv 6) (pa_cons pe_str pa_nil)))) pss_nil) (pss_cons (ps_if (PW.pt (pw_and (pt_cmp (pc_notN (pv 4)) rfl) (pw_and1 (pt_cmpR op_le (pv 4) (pv 5) (nomark _))))) (pss_one (ps_expr (pe_bm PySem.F.plainAttrs_list PySem.F.slot_list_append PySem.F.type_list_append mt_append (pv 6) (pa_cons pe_str pa_nil)))) pss_nil) (pss_cons (ps_if (pt_cmpR op_lt (pv 5) (pv 3) (nomark _)) (pss_one (ps_expr (pe_bm PySem.F.plainAttrs_list PySem.F.slot_list_append PySem.F.type_list_append mt_append (pv 6) (pa_cons pe_str pa_nil)))) pss_nil) (pss_one (ps_ret (pv 6))))))))), ?_⟩
    refine ⟨_, rfl, _, rfl, nu, _, 0, _, rfl, rfl, SqT.of hnu, atI_nat (j := 0) rfl, _, _, rfl, rfl, ⟨by omega, by omega⟩, _, rfl, nu, _, 1, _, rfl, rfl, SqT.of hnu, atI_nat (j := 1) rfl, _, _, rfl, rfl, ⟨by omega, by omega⟩, ?_⟩
    refine ⟨Nat.zero_le _, fun l hl => ?_⟩
    have i0 : WI H l c s ms bound en x 0 [] (upd H l (.lst [])) := ⟨same_new hl, upd_same, Nat.zero_le _, fun _ z => nomatch z⟩
    generalize upd H l (.lst []) = H1 at *
    have app : ∀ {n : Nat} {ws : List Str} {H' : Hp}, n ≤ 10 → WI H l c s ms bound en x n ws H' → (ws.map V.str).length < sizeLine := fun hn i => by
      rw [List.length_map]
      exact small1k (by have := i.2.2.1; omega)
    refine ⟨_, rfl, _, rfl, x, ml, ms, rfl, rfl, .inl (SqL.of (i0.1 _ _ hml)), _, rfl, optW (I := WI H l c s ms bound en x 1) (w := W4.twice.str) i0.up (fun ws2 H2 i2 => ?_) (fun z kk => ?_)⟩
    rotate_left
    · exact ⟨_, rfl, .inl ⟨rfl, _, SqL.of i0.2.1⟩, l, _, _, rfl, rfl, i0.2.1, app (by decide) i0, kk _ (i0.put hl (b := .twice) z)⟩
    refine ⟨_, rfl, Nat.zero_le _, fun z hz => ?_⟩
    have s3 := same_new (o := .lst []) hz
    have i3 := i2.on s3
    refine ⟨.list (ms.map PyData.int), .list [], .lst (SqL.of (i3.1 _ _ hml)) (datas_nums ms), .lst (SqL.of upd_same) .nil, shaped_list (canLay_nums ms) (by rw [depthAll_nums]; decide), shaped_list rfl (by simp [PyData.depthAll]), _, rfl, ?_⟩
    rw [eqv_nil]
    generalize upd H2 z (.lst []) = H3 at *
    refine optAnd (I := WI H l c s ms bound en x 2) (w := W4.fallen.str) (good := ∃ y ∈ ms, x < y) i3.up (fun ws4 H4 i4 => ?_) (fun z kk => ?_) (fun hb m => ?_)
    rotate_left
    · exact ⟨_, rfl, .inl ⟨rfl, _, SqL.of i3.2.1⟩, l, _, _, rfl, rfl, i3.2.1, app (by decide) i3, kk _ (i3.put hl (b := .fallen) z)⟩
    · have hne : 0 < ms.length := by
        cases ms with
        | nil => cases hb
        | cons a r => exact Nat.succ_pos _
      exact ⟨_, rfl, ml, ms, rfl, SqL.of (i3.1 _ _ hml), hne, fun y hy _ => ⟨_, rfl, _, _, rfl, rfl, _, rfl, m fun h => ⟨y, hy, h⟩⟩⟩
    refine ⟨_, rfl, _, rfl, optAnd (I := WI H l c s ms bound en x 3) (w := W4.astray.str) (good := ∃ e, en = some e ∧ e ≤ momentOf c s x) i4.up (fun ws5 H5 i5 => ?_) (fun z kk => ?_) (fun hb m => ?_)⟩
    rotate_left
    · exact ⟨_, rfl, .inl ⟨rfl, _, SqL.of i4.2.1⟩, l, _, _, rfl, rfl, i4.2.1, app (by decide) i4, kk _ (i4.put hl (b := .astray) z)⟩
    · cases en with
      | none =>
        cases hen.non_inv
        cases hb
      | some e =>
        cases hen.num_inv
        exact ⟨_, rfl, _, rfl, _, _, rfl, rfl, _, rfl, m fun h => ⟨e, rfl, h⟩⟩
    refine ⟨_, rfl, _, rfl, _, _, rfl, rfl, _, rfl, optW (I := WI H l c s ms bound en x 4) (w := W4.below.str) i5.up (fun ws6 H6 i6 => ?_) (fun z kk => ?_)⟩
    rotate_left
    · exact ⟨_, rfl, .inl ⟨rfl, _, SqL.of i5.2.1⟩, l, _, _, rfl, rfl, i5.2.1, app (by decide) i5, kk _ (i5.put hl (b := .below) z)⟩
    exact ⟨_, rfl, q l ws6 H6 i6.1 i6.2.1 i6.2.2.2⟩
end
end K87
end
section
set_option Elab.async false
set_option linter.all false
set_option maxRecDepth 100000
set_option maxHeartbeats 4000000
/-! K87W21: _law_deed. -/
namespace K87
open PySem PySem.Spec L2
open PyProof.Rows hiding St

/-- the law's numbers of the world c -/
def NumsAt (H : Hp) (nu : Addr) (c : Cf) (rs : List Str) : Prop := ∃ (rl al : Addr) (vas : List V), H nu = some (.tup [.int c.counts, .int c.slots, .int c.far, .int c.room, .ref rl, .ref al, .int (c.moments : Nat)]) ∧ H rl = some (.lst (rs.map .str)) ∧ c.rl = rlOf rs ∧ RsOk rs ∧ H al = some (.lst vas) ∧ Dts H (c.areas.map eAr) vas
theorem NumsAt.onE {H H' : Hp} {nu : Addr} {c : Cf} {rs : List Str} (h : NumsAt H nu c rs) (e : ESame H H') : NumsAt H' nu c rs := by
  obtain ⟨rl, al, vas, h1, h2, h3, h4, h5, h6⟩ := h
  exact ⟨rl, al, vas, e.tup h1, e.lst h2, h3, h4, e.lst h5, h6.on e.ts⟩
theorem NumsAt.on {H H' : Hp} {nu : Addr} {c : Cf} {rs : List Str} (h : NumsAt H nu c rs) (e : Same H H') : NumsAt H' nu c rs := h.onE (.of e)
theorem hand_ne_strs {H : Hp} {p a : Addr} {k : Nat} {rs : List Str} (h : HandL H p k) (e : H a = some (.lst (rs.map .str))) : a ≠ p := fun z => by
  obtain ⟨n0, n1, n2, h1, _⟩ := h
  rw [z, h1] at e
  cases rs with
  | nil => cases e
  | cons x r => cases e
theorem hand_ne_areas {H : Hp} {p a : Addr} {k : Nat} {vs : List V} {l : List Ar} (h : HandL H p k) (e : H a = some (.lst vs)) (d : Dts H (l.map eAr) vs) : a ≠ p := fun z => by
  obtain ⟨n0, n1, n2, h1, _⟩ := h
  rw [z, h1] at e
  cases e
  cases l with
  | nil => cases d.nil_inv
  | cons x r =>
    obtain ⟨v, ws, e1, d1, _⟩ := d.cons_inv
    obtain ⟨a', e2, _⟩ := Dt.ar d1
    rw [e2] at e1
    cases e1
theorem SameBut.ts1 {H H' : Hp} {p : Addr} {k : Nat} (h : SameBut [p] H H') (hp : HandL H p k) : TSame H H' := fun a xs e => h a _ e (by
  obtain ⟨n0, n1, n2, h1, _⟩ := hp
  simpa using ne_of e h1 (by intro z; cases z))
theorem NumsAt.sb {H H' : Hp} {p nu : Addr} {k : Nat} {c : Cf} {rs : List Str} (h : NumsAt H nu c rs) (e : SameBut [p] H H') (hp : HandL H p k) : NumsAt H' nu c rs := by
  obtain ⟨rl, al, vas, h1, h2, h3, h4, h5, h6⟩ := h
  exact ⟨rl, al, vas, e.ts1 hp _ _ h1, e _ _ h2 (by simpa using hand_ne_strs hp h2), h3, h4, e _ _ h5 (by simpa using hand_ne_areas hp h5 h6), h6.on (e.ts1 hp)⟩

section
variable {P : Program} {w : World} {K : PySem.W.Frag} {mg : Str → Option Value} {base : Heap} {A : Ads}

def spLDeed : Sp := fun vs H Q _ => ∃ (p nu : Addr) (up : Bool) (k : Nat) (c : Cf) (rs : List Str), vs = [.ref p, .ref nu, .bl up] ∧ HandL H p k ∧ k ≤ 900 ∧ NumsAt H nu c rs ∧ c.Ok ∧ ∀ (d : Deed) (t : Addr) (H' : Hp), SameBut [p] H H' → d.Ok c → Dt H' (eD d) (.ref t) → Q (.ref t) H'
theorem ok_law_deed (T : Txt K mg A) : FnOk P w K mg base CX0 2 A.f_law_deed A.d_law_deed ["_law_hand_here", "_law_numbers", "_law_up"] spLDeed := by
  refine T.t_law_deed.fn.ok sc_law_deed (fun vs H Q E h => ?_) (fun cdv A' outer s0 H vs Q E hr h => ?_)
  · obtain ⟨p, nu, up, k, c, rs, rfl, _⟩ := h
    rfl
  · obtain ⟨p, nu, up, k, c, rs, rfl, hp, hk, hN, hc, q⟩ := h
    have hmom := hc.mom; have hmom4 := hc.mom4; have hs1 := hc.some; have hs2 := hc.two
    refine ⟨_, (pss_cons (ps_if (PW.pt (pw_and (pt_not (pt_val (pv 2))) (pw_and1 (pt_cmpR op_gt (pe_call (ok_law_pick T) (hr.mono (by decide)) (by rfl) T.t_law_pick.gl T.t_law_pick.fn.kp T.t_law_pick.bd .nil pass0 (pa_cons (pv 0) (pa_cons pe_int pa_nil))) pe_int (nomark _))))) (pss_one (ps_ret (pe_tup (pa_cons pe_str pa_nil)))) pss_nil) (pss_cons (ps_set (i := 3) sc_law_deed.nd rfl (.inl rfl) (pe_call (ok_law_pick T) (hr.mono (by decide)) (by rfl) T.t_law_pick.gl T.t_law_pick.fn.kp T.t_law_pick.bd .nil pass0 (pa_cons (pv 0) (pa_cons pe_int pa_nil)))) (pss_cons (ps_if (pt_cmpR op_lt (pv 3) pe_int (nomark _)) (pss_one (ps_ret (pe_tup (pa_cons pe_str (pa_cons (pe_call (ok_law_pick T) (hr.mono (by decide)) (by rfl) T.t_law_pick.gl T.t_law_pick.fn.kp T.t_law_pick.bd .nil pass0 (pa_cons (pv 0) (pa_cons (pe_ix ix_tup (pv 1) pe_int (fun _ _ => rfl)) pa_nil))) pa_nil))))) pss_nil) (pss_cons (ps_if (pt_cmpR op_lt (pv 3) pe_int (nomark _)) (pss_one (ps_ret (pe_tup (pa_cons pe_str (pa_cons (pe_call (ok_law_pick T) (hr.mono (by decide)) (by rfl) T.t_law_pick.gl T.t_law_pick.fn.kp T.t_law_pick.bd .nil pass0 (pa_cons (pv 0) (pa_cons (pe_ix ix_tup (pv 1) pe_int (fun _ _ => rfl)) pa_nil))) pa_nil))))) pss_nil) (pss_cons (ps_if (pt_cmpR op_eq (pv 3) pe_int (nomark _)) (pss_one (ps_ret (pe_tup (pa_cons pe_str (pa_cons (pe_op op_add pe_int (pe_call (ok_law_pick T) (hr.mono (by decide)) (by rfl) T.t_law_pick.gl T.t_law_pick.fn.kp T.t_law_pick.bd .nil pass0 (pa_cons (pv 0) (pa_cons (pe_callB call_len_seq (by rfl) T.z_len PySem.boot_len (pa_cons (pe_ix ix_tup (pv 1) pe_int (fun _ _ => rfl)) pa_nil)) pa_nil)))) pa_nil))))) pss_nil) (pss_cons (ps_if (pt_cmpR op_eq (pv 3) pe_int (nomark _)) (pss_one (ps_ret (pe_tup (pa_cons pe_str (pa_cons (pe_op op_add pe_int (pe_call (ok_law_pick T) (hr.mono (by decide)) (by rfl) T.t_law_pick.gl T.t_law_pick.fn.kp T.t_law_pick.bd .nil pass0 (pa_cons (pv 0) (pa_cons (pe_ix ix_tup (pv 1) pe_int (fun _ _ => rfl)) pa_nil)))) pa_nil))))) pss_nil) (pss_one (ps_ret (pe_ix ix_list (pe_lst (pa_cons (pe_tup (pa_cons pe_str pa_nil)) (pa_cons (pe_tup (pa_cons pe_str pa_nil)) (pa_cons (pe_tup (pa_cons pe_str pa_nil)) pa_nil)))) (pe_call (ok_law_pick T) (hr.mono (by decide)) (by rfl) T.t_law_pick.gl T.t_law_pick.fn.kp T.t_law_pick.bd .nil pass0 (pa_cons (pv 0) (pa_cons pe_int pa_nil))) (fun _ _ => rfl)))))))))), ?_⟩
    -- behind the way's choice
    have ways : ∀ (H1 : Hp) (j : Nat) (σ : L2.St), SameBut [p] H H1 → HandL H1 p j → j ≤ 902 → True := fun _ _ _ _ _ _ => True.intro
    cases up with
    | true =>
      refine ⟨_, rfl, true, rfl, iteF (iteF ?_)⟩
      refine ⟨_, rfl, p, _, _, rfl, hp, (by omega), (by decide), (by decide), fun way H2 w0 w8 s2 hp2 => ?_⟩
      have hN2 := hN.sb s2 hp
      obtain ⟨rl, al, vas, g1, g2, g3, g4, g5, g6⟩ := id hN2
      have hvl : vas.length = c.areas.length := by rw [g6.len, List.length_map]
      dsimp only [List.set, L2.start, List.map, List.length, List.replicate, HAppend.hAppend, Append.append, List.append]
      refine ⟨_, rfl, _, _, rfl, rfl, _, rfl, ifd2 (fun z => ?_) (fun z => ?_)⟩
      · exact ⟨_, rfl, _, rfl, nu, _, 6, _, rfl, rfl, SqT.of g1, atI_nat (j := 6) rfl, p, _, _, rfl, hp2, (by omega), (by omega), (by omega), fun x H3 x0 x1 s3 hp3 => ⟨(by show 2 ≤ sizeLine; decide), fun t ht => q (.write x) t _ ((s2.trans s3).trans (SameBut.of (same_new ht))) ⟨x0, by omega⟩ (.tup upd_same (.cons (.txt _) (.cons (.num _) .nil)))⟩⟩
      refine ⟨_, rfl, _, _, rfl, rfl, _, rfl, ifd2 (fun z => ?_) (fun z => ?_)⟩
      · exact ⟨_, rfl, _, rfl, nu, _, 6, _, rfl, rfl, SqT.of g1, atI_nat (j := 6) rfl, p, _, _, rfl, hp2, (by omega), (by omega), (by omega), fun x H3 x0 x1 s3 hp3 => ⟨(by show 2 ≤ sizeLine; decide), fun t ht => q (.make x) t _ ((s2.trans s3).trans (SameBut.of (same_new ht))) ⟨x0, by omega⟩ (.tup upd_same (.cons (.txt _) (.cons (.num _) .nil)))⟩⟩
      refine ⟨_, rfl, rfl, _, rfl, ifd2 (fun z => ?_) (fun z => ?_)⟩
      · refine ⟨_, rfl, _, rfl, nu, _, 5, _, rfl, rfl, SqT.of g1, atI_nat (j := 5) rfl, al, _, rfl, .inl (SqL.of g5), ?_⟩
        rw [hvl]
        exact ⟨p, _, _, rfl, hp2, (by omega), (by omega), (by omega), fun x H3 x0 x1 s3 hp3 => ⟨_, _, rfl, rfl, (by show 2 ≤ sizeLine; decide), fun t ht => q (.take (1 + x)) t _ ((s2.trans s3).trans (SameBut.of (same_new ht))) ⟨by omega, by omega⟩ (.tup upd_same (.cons (.txt _) (.cons (.num _) .nil)))⟩⟩
      refine ⟨_, rfl, rfl, _, rfl, ifd2 (fun z => ?_) (fun z => ?_)⟩
      · exact ⟨_, rfl, _, rfl, nu, _, 6, _, rfl, rfl, SqT.of g1, atI_nat (j := 6) rfl, p, _, _, rfl, hp2, (by omega), (by omega), (by omega), fun x H3 x0 x1 s3 hp3 => ⟨_, _, rfl, rfl, (by show 2 ≤ sizeLine; decide), fun t ht => q (.hear (1 + x)) t _ ((s2.trans s3).trans (SameBut.of (same_new ht))) ⟨by omega, by omega⟩ (.tup upd_same (.cons (.txt _) (.cons (.num _) .nil)))⟩⟩
      refine ⟨(by show 1 ≤ sizeLine; decide), fun t1 ht1 => ⟨(by show 1 ≤ sizeLine; decide), fun t2 ht2 => ⟨(by show 1 ≤ sizeLine; decide), fun t3 ht3 => ⟨(by show 3 ≤ sizeLine; decide), fun t4 ht4 => ?_⟩⟩⟩⟩
      have u1 := same_new (o := .tup [.str "back"]) ht1
      have b1 : Dt (upd H2 t1 (.tup [.str "back"])) (eD .back) (.ref t1) := .tup upd_same (.cons (.txt _) .nil)
      generalize upd H2 t1 (.tup [.str "back"]) = H3 at *
      have u2 := same_new (o := .tup [.str "fall"]) ht2
      have b2 : Dt (upd H3 t2 (.tup [.str "fall"])) (eD .fall) (.ref t2) := .tup upd_same (.cons (.txt _) .nil)
      generalize upd H3 t2 (.tup [.str "fall"]) = H4 at *
      have u3 := same_new (o := .tup [.str "rise"]) ht3
      have b3 : Dt (upd H4 t3 (.tup [.str "rise"])) (eD .rise) (.ref t3) := .tup upd_same (.cons (.txt _) .nil)
      generalize upd H4 t3 (.tup [.str "rise"]) = H5 at *
      have u4 := same_new (o := .lst [.ref t1, .ref t2, .ref t3]) ht4
      have hl6 : (upd H5 t4 (.lst [.ref t1, .ref t2, .ref t3])) t4 = some (.lst [.ref t1, .ref t2, .ref t3]) := upd_same
      generalize upd H5 t4 (.lst [.ref t1, .ref t2, .ref t3]) = H6 at *
      have u14 := (u1.trans u2).trans (u3.trans u4)
      have n4 : t4 ≠ p := fun z => by
        obtain ⟨n0, n1, n2, e1, _⟩ := hp2.on ((u1.trans u2).trans u3)
        rw [← z, ht4] at e1; cases e1
      refine ⟨_, rfl, p, _, _, rfl, (hp2.on u14), (by omega), (by decide), (by decide), fun x H7 x0 x3 s7 hp7 => ?_⟩
      have hl7 := s7 _ _ hl6 (by simpa using n4)
      have st7 := ((SameBut.of u14).trans s7).ts1 hp2
      have sb7 := (s2.trans (SameBut.of u14)).trans s7
      have b1' := b1.on (((u2.trans u3).trans u4).ts.trans (s7.ts1 (hp2.on u14)))
      have b2' := b2.on ((u3.trans u4).ts.trans (s7.ts1 (hp2.on u14)))
      have b3' := b3.on (u4.ts.trans (s7.ts1 (hp2.on u14)))
      obtain rfl | rfl | rfl : x = 0 ∨ x = 1 ∨ x = 2 := by omega
      · exact ⟨t4, _, 0, _, rfl, rfl, SqL.of hl7, atI_nat (j := 0) rfl, q .back t1 H7 sb7 True.intro b1'⟩
      · exact ⟨t4, _, 1, _, rfl, rfl, SqL.of hl7, atI_nat (j := 1) rfl, q .fall t2 H7 sb7 True.intro b2'⟩
      · exact ⟨t4, _, 2, _, rfl, rfl, SqL.of hl7, atI_nat (j := 2) rfl, q .rise t3 H7 sb7 True.intro b3'⟩
    | false =>
      refine ⟨_, rfl, false, rfl, iteT ?_⟩
      refine ⟨_, rfl, p, _, _, rfl, hp, (by omega), (by decide), (by decide), fun x H1 x0 x4 s1 hp1 => ⟨_, _, rfl, rfl, _, rfl, ifd2 (fun z => ?_) (fun z => ?_)⟩⟩
      · exact ⟨(by show 1 ≤ sizeLine; decide), fun t ht => q .rise t _ (s1.trans (SameBut.of (same_new ht))) True.intro (.tup upd_same (.cons (.txt _) .nil))⟩
      refine ⟨_, rfl, p, _, _, rfl, hp1, (by omega), (by decide), (by decide), fun way H2 w0 w8 s2' hp2 => ?_⟩
      have s2 := s1.trans s2'
      have hN2 := hN.sb s2 hp
      obtain ⟨rl, al, vas, g1, g2, g3, g4, g5, g6⟩ := id hN2
      have hvl : vas.length = c.areas.length := by rw [g6.len, List.length_map]
      dsimp only [List.set, L2.start, List.map, List.length, List.replicate, HAppend.hAppend, Append.append, List.append]
      refine ⟨_, rfl, _, _, rfl, rfl, _, rfl, ifd2 (fun z => ?_) (fun z => ?_)⟩
      · exact ⟨_, rfl, _, rfl, nu, _, 6, _, rfl, rfl, SqT.of g1, atI_nat (j := 6) rfl, p, _, _, rfl, hp2, (by omega), (by omega), (by omega), fun x H3 x0 x1 s3 hp3 => ⟨(by show 2 ≤ sizeLine; decide), fun t ht => q (.write x) t _ ((s2.trans s3).trans (SameBut.of (same_new ht))) ⟨x0, by omega⟩ (.tup upd_same (.cons (.txt _) (.cons (.num _) .nil)))⟩⟩
      refine ⟨_, rfl, _, _, rfl, rfl, _, rfl, ifd2 (fun z => ?_) (fun z => ?_)⟩
      · exact ⟨_, rfl, _, rfl, nu, _, 6, _, rfl, rfl, SqT.of g1, atI_nat (j := 6) rfl, p, _, _, rfl, hp2, (by omega), (by omega), (by omega), fun x H3 x0 x1 s3 hp3 => ⟨(by show 2 ≤ sizeLine; decide), fun t ht => q (.make x) t _ ((s2.trans s3).trans (SameBut.of (same_new ht))) ⟨x0, by omega⟩ (.tup upd_same (.cons (.txt _) (.cons (.num _) .nil)))⟩⟩
      refine ⟨_, rfl, rfl, _, rfl, ifd2 (fun z => ?_) (fun z => ?_)⟩
      · refine ⟨_, rfl, _, rfl, nu, _, 5, _, rfl, rfl, SqT.of g1, atI_nat (j := 5) rfl, al, _, rfl, .inl (SqL.of g5), ?_⟩
        rw [hvl]
        exact ⟨p, _, _, rfl, hp2, (by omega), (by omega), (by omega), fun x H3 x0 x1 s3 hp3 => ⟨_, _, rfl, rfl, (by show 2 ≤ sizeLine; decide), fun t ht => q (.take (1 + x)) t _ ((s2.trans s3).trans (SameBut.of (same_new ht))) ⟨by omega, by omega⟩ (.tup upd_same (.cons (.txt _) (.cons (.num _) .nil)))⟩⟩
      refine ⟨_, rfl, rfl, _, rfl, ifd2 (fun z => ?_) (fun z => ?_)⟩
      · exact ⟨_, rfl, _, rfl, nu, _, 6, _, rfl, rfl, SqT.of g1, atI_nat (j := 6) rfl, p, _, _, rfl, hp2, (by omega), (by omega), (by omega), fun x H3 x0 x1 s3 hp3 => ⟨_, _, rfl, rfl, (by show 2 ≤ sizeLine; decide), fun t ht => q (.hear (1 + x)) t _ ((s2.trans s3).trans (SameBut.of (same_new ht))) ⟨by omega, by omega⟩ (.tup upd_same (.cons (.txt _) (.cons (.num _) .nil)))⟩⟩
      refine ⟨(by show 1 ≤ sizeLine; decide), fun t1 ht1 => ⟨(by show 1 ≤ sizeLine; decide), fun t2 ht2 => ⟨(by show 1 ≤ sizeLine; decide), fun t3 ht3 => ⟨(by show 3 ≤ sizeLine; decide), fun t4 ht4 => ?_⟩⟩⟩⟩
      have u1 := same_new (o := .tup [.str "back"]) ht1
      have b1 : Dt (upd H2 t1 (.tup [.str "back"])) (eD .back) (.ref t1) := .tup upd_same (.cons (.txt _) .nil)
      generalize upd H2 t1 (.tup [.str "back"]) = H3 at *
      have u2 := same_new (o := .tup [.str "fall"]) ht2
      have b2 : Dt (upd H3 t2 (.tup [.str "fall"])) (eD .fall) (.ref t2) := .tup upd_same (.cons (.txt _) .nil)
      generalize upd H3 t2 (.tup [.str "fall"]) = H4 at *
      have u3 := same_new (o := .tup [.str "rise"]) ht3
      have b3 : Dt (upd H4 t3 (.tup [.str "rise"])) (eD .rise) (.ref t3) := .tup upd_same (.cons (.txt _) .nil)
      generalize upd H4 t3 (.tup [.str "rise"]) = H5 at *
      have u4 := same_new (o := .lst [.ref t1, .ref t2, .ref t3]) ht4
      have hl6 : (upd H5 t4 (.lst [.ref t1, .ref t2, .ref t3])) t4 = some (.lst [.ref t1, .ref t2, .ref t3]) := upd_same
      generalize upd H5 t4 (.lst [.ref t1, .ref t2, .ref t3]) = H6 at *
      have u14 := (u1.trans u2).trans (u3.trans u4)
      have n4 : t4 ≠ p := fun z => by
        obtain ⟨n0, n1, n2, e1, _⟩ := hp2.on ((u1.trans u2).trans u3)
        rw [← z, ht4] at e1; cases e1
      refine ⟨_, rfl, p, _, _, rfl, (hp2.on u14), (by omega), (by decide), (by decide), fun x H7 x0 x3 s7 hp7 => ?_⟩
      have hl7 := s7 _ _ hl6 (by simpa using n4)
      have st7 := ((SameBut.of u14).trans s7).ts1 hp2
      have sb7 := (s2.trans (SameBut.of u14)).trans s7
      have b1' := b1.on (((u2.trans u3).trans u4).ts.trans (s7.ts1 (hp2.on u14)))
      have b2' := b2.on ((u3.trans u4).ts.trans (s7.ts1 (hp2.on u14)))
      have b3' := b3.on (u4.ts.trans (s7.ts1 (hp2.on u14)))
      obtain rfl | rfl | rfl : x = 0 ∨ x = 1 ∨ x = 2 := by omega
      · exact ⟨t4, _, 0, _, rfl, rfl, SqL.of hl7, atI_nat (j := 0) rfl, q .back t1 H7 sb7 True.intro b1'⟩
      · exact ⟨t4, _, 1, _, rfl, rfl, SqL.of hl7, atI_nat (j := 1) rfl, q .fall t2 H7 sb7 True.intro b2'⟩
      · exact ⟨t4, _, 2, _, rfl, rfl, SqL.of hl7, atI_nat (j := 2) rfl, q .rise t3 H7 sb7 True.intro b3'⟩
end
end K87
end
section
set_option Elab.async false
set_option linter.all false
set_option maxRecDepth 100000
set_option maxHeartbeats 4000000
/-! K87Kit5: methods called within a try. -/
namespace K87
open PySem PySem.Spec L2
open PyProof.Rows hiding St
/-- o.m(e, ..) within a try: what it raises is wished for at the slots as they stand -/
def tMethT (C : Addr) (m : Str) (sp : Sp) (E : L2.St → XK) (ta : TE) (t : TA) : TE := fun σ H Q => ta σ H fun x H1 => ∃ a dx fs, x = .ref a ∧ H1 a = some (.ins C dx fs) ∧ fs.lookup m = none ∧ t σ H1 fun vs H2 => sp (x :: vs) H2 Q (E σ)
section
variable {X : Cx} {CX : CXT} {k : Nat} {f C : Addr} {fd : FuncData} {ps : List Str} {sp : Sp} {E : L2.St → XK} {m : Str} {pos apos : Pos} {e o : Expr} {es : List Expr} {ta : TE} {t : TA} {pl : Sem Bool}
theorem pe_methT (he : PE X o ta) (c : Cls X.K C) (hm : Meth X.K C m f)
    (F : FnOk X.prog X.w X.K X.mg X.base CX k f fd ps sp) (hr : Room k X.A) (hb : Binds X.K fd ps []) (hx : ∀ σ, PassesAt CX X σ (E σ)) (ha : PA X (e :: es) t)
    (hst : starEach (e :: es) X.env = (false, eval e X.env) :: starEach es X.env := by rfl) (hpl : (backTo pos (starEach es X.env)).any (·.1) = false := by rfl)
    (ht : eval (.Call (.Attribute o m apos) (e :: es) [] pos) X.env = (do
      let ov ← eval o X.env
      standAt apos.atName
      let (f, first) ← holding [ov] (getMethod ov m pl)
      callWith pos f first (backTo pos (starEach (e :: es) X.env)) (backToKw pos (keywordEach [] X.env))) := by rfl) :
    PE X (.Call (.Attribute o m apos) (e :: es) [] pos) (tMethT C m sp E ta t) := by
  refine ⟨fun pins s σ H Q I h => ?_⟩
  refine PySem.W.methodCall_KW (pl := pl) (thn (he.run pins s σ H _ I h) fun u s1 ⟨x, H1, I1, rx, a, dx, fs, ex, ea, l, q⟩ => ?_) ht
  subst ex
  obtain rfl : u = Value.ref a := rx
  refine getmeth_ok I1 ea c hm l ?_
  refine PySem.W.callWith_K (first := [.ref a]) (h₀ := X.base) I.ok.mod.kin hm.kp (thn (ha.run pos pins s1 σ H1 _ I1 q) fun us s2 ⟨vs, H2, I2, r, q2⟩ => ⟨I2.kIn, ?_⟩) hst hpl
  exact run_fnS (us := .ref a :: us) (vs := .ref a :: vs) F hr hb (hx σ) I2 (.cons rfl r) q2
theorem pe_methT0 (he : PE X o ta) (c : Cls X.K C) (hm : Meth X.K C m f)
    (F : FnOk X.prog X.w X.K X.mg X.base CX k f fd ps sp) (hr : Room k X.A) (hb : Binds X.K fd ps []) (hx : ∀ σ, PassesAt CX X σ (E σ))
    (ht : eval (.Call (.Attribute o m apos) [] [] pos) X.env = (do
      let ov ← eval o X.env
      standAt apos.atName
      let (f, first) ← holding [ov] (getMethod ov m pl)
      callWith pos f first (backTo pos (starEach [] X.env)) (backToKw pos (keywordEach [] X.env))) := by rfl) :
    PE X (.Call (.Attribute o m apos) [] [] pos) (tMethT C m sp E ta tNil) := by
  refine ⟨fun pins s σ H Q I h => ?_⟩
  refine PySem.W.methodCall_KW (pl := pl) (thn (he.run pins s σ H _ I h) fun u s1 ⟨x, H1, I1, rx, a, dx, fs, ex, ea, l, q⟩ => ?_) ht
  subst ex
  obtain rfl : u = Value.ref a := rx
  refine getmeth_ok I1 ea c hm l ?_
  exact PySem.W.callWith_K0 (first := [.ref a]) I1.kIn hm.kp (run_fnS (us := [.ref a]) (vs := [.ref a]) F hr hb (hx σ) I1 (.cons rfl .nil) q)
theorem takesN {X : Cx} : Takes X (fun _ _ _ _ => False) := fun _ _ x => by
  obtain ⟨_, _, _, _, _, _, _, _, _, _, _, _, _, _, _, _, z⟩ := x
  exact z.elim
end
end K87
end
section
set_option Elab.async false
set_option linter.all false
set_option maxRecDepth 100000
set_option maxHeartbeats 4000000
/-! K87W22: _law_asked. -/
namespace K87
open PySem PySem.Spec L2
open PyProof.Rows hiding St

inductive Tell where
  | nothing
  | yes (b : Bool)
  | mark (x : Int)
  | upto (g e : Int)
def TellV (H : Hp) : Tell → V → Prop
  | .nothing, v => v = .non
  | .yes b, v => v = .bl b
  | .mark x, v => v = .int x
  | .upto g e, v => ∃ a, v = .ref a ∧ H a = some (.tup [.int g, .int e])
/-- a deed that a hand does: what it tells, and the hand behind it -/
inductive HDone (c : Cf) (h : Hd) : Deed → Tell → Hd → Prop
  | stay {q : Pl} {g : Int} : h.place = some q → (c.rl.once = true ∧ g ≤ h.most) → HDone c h (.take g) (.yes false) h
  | take {q : Pl} {g : Int} : h.place = some q → ¬ (c.rl.once = true ∧ g ≤ h.most) → HDone c h (.take g) (.yes true) (takeH c h q g)
  | write {q : Pl} {a : Ar} {r : Int} {f : Int × Pl} : h.place = some q → h.area = some a → nextMark c h r = some f → HDone c h (.write r) .nothing { h with held := writeTo c h q a r }
  | make {r : Int} {f : Int × Pl} : marked c h r = some f → HDone c h (.make r) (.mark f.1) { h with place := some f.2 }
  | hear {q : Pl} {b : Int} : h.place = some q → HDone c h (.hear b) .nothing (hearH c h q b)
  | back {q : Pl} {a : Ar} : h.place = some q → h.area = some a → ¬ a.2.2 ≤ backAt h q a → HDone c h .back (.upto h.grant (backAt h q a)) (backH c h a (backAt h q a))
  | fall {q : Pl} : h.place = some q → HDone c h .fall .nothing { h with place := none }
  | rise : h.place = none → HDone c h .rise .nothing (riseH h)
theorem HandAt.ins {A : Ads} {H : Hp} {p l se : Addr} {n : Nat} {h : Hd} (x : HandAt A H p l se n h) : ∃ dx nm vst, H p = some (.ins A.c_Hand dx (hfs nm se l vst)) := by
  obtain ⟨dx, nm, vst, _, _, h1, _⟩ := x
  exact ⟨dx, nm, vst, h1⟩
section
variable {P : Program} {w : World} {K : PySem.W.Frag} {mg : Str → Option Value} {base : Heap} {A : Ads}

def spAsked (K : PySem.W.Frag) (A : Ads) : Sp := fun vs H Q _ => ∃ (p l se nu dd : Addr) (n : Nat) (h : Hd) (c : Cf) (rs rs' : List Str) (d : Deed), vs = [.ref p, .ref nu, .ref dd] ∧ HandAt A H p l se n h ∧ SetC A K H se c rs ∧ NumsAt H nu c rs' ∧ Dt H (eD d) (.ref dd) ∧ d.Ok c ∧ c.Ok ∧ n < 1000 ∧
  (∀ a, h.area = some a → 0 ≤ a.1 ∧ a.1 < c.slots) ∧ (∀ q, h.place = some q → 0 ≤ q.2 ∧ q.2 < c.counts) ∧ (∀ a, h.area = some a → 1 ≤ h.grant) ∧
  (∀ t H', Same H H' → H' t = some (.tup [.bl false, .non]) → Q (.ref t) H') ∧
  (∀ (te : Tell) (h' : Hd) (t : Addr) (v : V) (n' : Nat) (H' : Hp), HDone c h d te h' → n' ≤ n + 1 → SameBut [p, l] H H' → HandAt A H' p l se n' h' → H' t = some (.tup [.bl true, v]) → TellV H' te v → Q (.ref t) H')
theorem ok_law_asked (T : Txt K mg A) : FnOk P w K mg base CX0 5 A.f_law_asked A.d_law_asked ["_law_hand_here", "_law_numbers", "_law_deed_here"] (spAsked K A) := by
  refine T.t_law_asked.fn.ok sc_law_asked (fun vs H Q E h => ?_) (fun cdv A' outer s0 H vs Q E hr h => ?_)
  · obtain ⟨p, l, se, nu, dd, n, h, c, rs, rs', d, rfl, _⟩ := h
    rfl
  · obtain ⟨p, l, se, nu, dd, n, h, c, rs, rs', d, rfl, hA, hS, hN, hD, hok, hc, hn, ha0, hq0, hgr, k0, k1⟩ := h
    obtain ⟨dx, nm, vst, h1⟩ := hA.ins
    obtain ⟨rl, al, vas, g1, g2, g3, g4, g5, g6⟩ := id hN
    obtain ⟨vds, hdd⟩ : ∃ vds, H dd = some (.tup (.str d.word :: vds)) := by
      cases d <;> (obtain ⟨a', vs', e', hv, hds⟩ := Dt.tup_inv hD; cases e'; obtain ⟨v1, r1, rfl, q1, q2⟩ := hds.cons_inv; cases q1.txt_inv; exact ⟨r1, hv⟩)
    have hno : ∀ {f : Str}, (f == ("name" : Str)) = false → (f == ("settings" : Str)) = false → (f == ("lines" : Str)) = false → (f == ("stand" : Str)) = false → (hfs nm se l vst).lookup f = none := fun a b c d => hlk_none a b c d
    have fin0 : ∀ H1, Same H H1 → ∀ t, H1 t = none → Q (.ref t) (upd H1 t (.tup [.bl false, .non])) := fun H1 s1 t ht => k0 t _ (s1.trans (same_new ht)) upd_same
    have fin1 : ∀ (te : Tell) (h' : Hd) (v : V) (n' : Nat) (H1 : Hp), HDone c h d te h' → n' ≤ n + 1 → SameBut [p, l] H H1 → HandAt A H1 p l se n' h' → TellV H1 te v → ∀ t, H1 t = none → Q (.ref t) (upd H1 t (.tup [.bl true, v])) := by
      intro te h' v n' H1 hd hn' sb hA1 tv t ht
      have s := same_new (o := .tup [.bl true, v]) ht
      refine k1 te h' t v n' _ hd hn' (sb.trans (SameBut.of s)) (hA1.on s) upd_same ?_
      cases te with
      | nothing => exact tv
      | yes b => exact tv
      | mark x => exact tv
      | upto g e => obtain ⟨a, e1, e2⟩ := tv; exact ⟨a, e1, s _ _ e2⟩
    refine ⟨_, (pss_cons (ps_set (i := 3) sc_law_asked.nd rfl (.inl rfl) pe_non) (pss_cons (ps_try_only (tb := fun W => (tIfS (tTest (tOp rEq (tOp (rIxT K) (tVar 2) (tC (.int 0))) (tC (.str "take")))) (tAsg (tMethT A.c_Hand "take" (spTake K A) (WE W) (tVar 0) (tCons (tOp (rIxT K) (tVar 2) (tC (.int 1))) (tCons (tOp (rIxL K) (tOp (rIxT K) (tVar 1) (tC (.int 5))) (tOp (rI0 fun i j => .int (i - j)) (tOp (rIxT K) (tVar 2) (tC (.int 1))) (tC (.int 1)))) tNil))) (gName 3)) (tIfS (tTest (tOp rEq (tOp (rIxT K) (tVar 2) (tC (.int 0))) (tC (.str "write")))) (tDrop (tMethT A.c_Hand "write" (spWrite K A) (WE W) (tVar 0) (tCons (tOp (rIxT K) (tVar 2) (tC (.int 1))) tNil))) (tIfS (tTest (tOp rEq (tOp (rIxT K) (tVar 2) (tC (.int 0))) (tC (.str "make")))) (tAsg (tMethT A.c_Hand "make" (spMake K A) (WE W) (tVar 0) (tCons (tOp (rIxT K) (tVar 2) (tC (.int 1))) tNil)) (gName 3)) (tIfS (tTest (tOp rEq (tOp (rIxT K) (tVar 2) (tC (.int 0))) (tC (.str "hear")))) (tDrop (tMethT A.c_Hand "hear" (spHear K A) (WE W) (tVar 0) (tCons (tOp (rIxT K) (tVar 2) (tC (.int 1))) tNil))) (tIfS (tTest (tOp rEq (tOp (rIxT K) (tVar 2) (tC (.int 0))) (tC (.str "back")))) (tAsg (tMethT A.c_Hand "give_back" (spBack K A) (WE W) (tVar 0) tNil) (gName 3)) (tIfS (tTest (tOp rEq (tOp (rIxT K) (tVar 2) (tC (.int 0))) (tC (.str "fall")))) (tDrop (tMethT A.c_Hand "fall" (spFall K A) (WE W) (tVar 0) tNil)) (tDrop (tMethT A.c_Hand "rise" (spRise K A) (WE W) (tVar 0) tNil))))))))) (Wout := fun _ _ _ _ => False) rfl rfl ⟨rfl, by decide, .inl T.g_Rise⟩ takesN (by exact fun W pn xe tk _ => pss_one (ps_if (pt_cmpR op_eq (pe_ix ix_tup (pv 2) pe_int (fun _ _ => rfl)) pe_str (nomark _)) (pss_one (ps_set (i := 3) sc_law_asked.nd rfl (.inl rfl) (pe_methT (pv 0) T.cl_Hand T.t_Hand_take.me (ok_Hand_take T) (hr.mono (by decide)) T.t_Hand_take.bd (fun σ => passAt tk σ) (by exact (pa_cons (pe_ix ix_tup (pv 2) pe_int (fun _ _ => rfl)) (pa_cons (pe_ix ix_list (pe_ix ix_tup (pv 1) pe_int (fun _ _ => rfl)) (pe_op op_sub (pe_ix ix_tup (pv 2) pe_int (fun _ _ => rfl)) pe_int) (fun _ _ => rfl)) pa_nil)))))) (pss_one (ps_if (pt_cmpR op_eq (pe_ix ix_tup (pv 2) pe_int (fun _ _ => rfl)) pe_str (nomark _)) (pss_one (ps_expr (pe_methT (pv 0) T.cl_Hand T.t_Hand_write.me (ok_Hand_write T) (hr.mono (by decide)) T.t_Hand_write.bd (fun σ => passAt tk σ) (by exact (pa_cons (pe_ix ix_tup (pv 2) pe_int (fun _ _ => rfl)) pa_nil))))) (pss_one (ps_if (pt_cmpR op_eq (pe_ix ix_tup (pv 2) pe_int (fun _ _ => rfl)) pe_str (nomark _)) (pss_one (ps_set (i := 3) sc_law_asked.nd rfl (.inl rfl) (pe_methT (pv 0) T.cl_Hand T.t_Hand_make.me (ok_Hand_make T) (hr.mono (by decide)) T.t_Hand_make.bd (fun σ => passAt tk σ) (by exact (pa_cons (pe_ix ix_tup (pv 2) pe_int (fun _ _ => rfl)) pa_nil))))) (pss_one (ps_if (pt_cmpR op_eq (pe_ix ix_tup (pv 2) pe_int (fun _ _ => rfl)) pe_str (nomark _)) (pss_one (ps_expr (pe_methT (pv 0) T.cl_Hand T.t_Hand_hear.me (ok_Hand_hear T) (hr.mono (by decide)) T.t_Hand_hear.bd (fun σ => passAt tk σ) (by exact (pa_cons (pe_ix ix_tup (pv 2) pe_int (fun _ _ => rfl)) pa_nil))))) (pss_one (ps_if (pt_cmpR op_eq (pe_ix ix_tup (pv 2) pe_int (fun _ _ => rfl)) pe_str (nomark _)) (pss_one (ps_set (i := 3) sc_law_asked.nd rfl (.inl rfl) (pe_methT0 (pv 0) T.cl_Hand T.t_Hand_give_back.me (ok_Hand_give_back T) (hr.mono (by decide)) T.t_Hand_give_back.bd (fun σ => passAt tk σ)))) (pss_one (ps_if (pt_cmpR op_eq (pe_ix ix_tup (pv 2) pe_int (fun _ _ => rfl)) pe_str (nomark _)) (pss_one (ps_expr (pe_methT0 (pv 0) T.cl_Hand T.t_Hand_fall.me (ok_Hand_fall T) (hr.mono (by decide)) T.t_Hand_fall.bd (fun σ => passAt tk σ)))) (pss_one (ps_expr (pe_methT0 (pv 0) T.cl_Hand T.t_Hand_rise.me (ok_Hand_rise T) (hr.mono (by decide)) T.t_Hand_rise.bd (fun σ => passAt tk σ)))))))))))))))) (by exact fun a oe cls d pn _ _ => pss_one (ps_ret (pe_tup (pa_cons pe_bl (pa_cons pe_non pa_nil)))))) (pss_one (ps_ret (pe_tup (pa_cons pe_bl (pa_cons (pv 3) pa_nil))))))), ?_⟩
    dsimp only [L2.start, List.map, List.length, List.replicate, List.set, HAppend.hAppend, Append.append, List.append]
    cases d with
    | take g =>
      dsimp only [Deed.word] at hdd
      obtain ⟨a', v1', v2', e', hv, q1, q2⟩ := Dt.at2 hD
      cases e'
      cases q2.num_inv
      refine ⟨_, rfl, dd, _, 0, _, rfl, rfl, SqT.of hdd, atI_nat (j := 0) rfl, rfl, _, rfl, ifd rfl ?_⟩
      have hj : (g - 1).toNat < c.areas.length := by
        have := hok.1; have := hok.2
        omega
      have ej : g - 1 = (((g - 1).toNat : Nat) : Int) := by
        have := hok.1
        omega
      have ea : areaAt c g = c.areas[(g - 1).toNat] := by
        unfold areaAt
        rw [List.getD_eq_getElem?_getD, List.getElem?_eq_getElem hj]
        rfl
      obtain ⟨va, hva, dva⟩ := g6.get (j := (g - 1).toNat) (k := eAr (areaAt c g)) (by rw [List.getElem?_map, List.getElem?_eq_getElem hj, ea]; rfl)
      exact ⟨_, rfl, p, dx, _, rfl, h1, (hno (by decide +kernel) (by decide +kernel) (by decide +kernel) (by decide +kernel)), _, rfl, dd, _, 1, _, rfl, rfl, SqT.of hv, atI_nat (j := 1) rfl, _, rfl, nu, _, 5, _, rfl, rfl, SqT.of g1, atI_nat (j := 5) rfl, _, rfl, dd, _, 1, _, rfl, rfl, SqT.of hv, atI_nat (j := 1) rfl, _, _, rfl, rfl, al, _, g - 1, va, rfl, rfl, SqL.of g5, (by rw [ej]; exact atI_nat hva), p, l, se, n, h, g, va, c, rs, rfl, hA, hS, dva, hok.1, hn,
        fun H1 hup ho s1 => ⟨_, rfl, (by show 2 ≤ sizeLine; decide), fun t ht => (match e : h.place, hup with | some q, _ => fin1 (.yes false) h _ n H1 (.stay e ho) (Nat.le_succ _) (.of s1) (hA.on s1) rfl | none, z => absurd rfl z) t ht⟩, fun q H1 hq ho sb hA1 => ⟨_, rfl, (by show 2 ≤ sizeLine; decide), fun t ht => fin1 (.yes true) _ _ (n + 1) H1 (.take hq ho) (Nat.le_refl _) sb hA1 rfl t ht⟩, (fun z => fun C dc H1 hC s1 => ⟨true, hC, fun _ a ha => ⟨(by show 2 ≤ sizeLine; decide), fun t ht => fin0 H1 s1 t ht⟩, fun z => nomatch z⟩)⟩
    | write g =>
      dsimp only [Deed.word] at hdd
      obtain ⟨a', v1', v2', e', hv, q1, q2⟩ := Dt.at2 hD
      cases e'
      cases q2.num_inv
      refine ⟨_, rfl, dd, _, 0, _, rfl, rfl, SqT.of hdd, atI_nat (j := 0) rfl, rfl, _, rfl, ifdn (vstr_ne (by decide +kernel)) ?_⟩
      refine ⟨_, rfl, dd, _, 0, _, rfl, rfl, SqT.of hdd, atI_nat (j := 0) rfl, rfl, _, rfl, ifd rfl ?_⟩
      exact ⟨_, rfl, p, dx, _, rfl, h1, (hno (by decide +kernel) (by decide +kernel) (by decide +kernel) (by decide +kernel)), _, rfl, dd, _, 1, _, rfl, rfl, SqT.of hv, atI_nat (j := 1) rfl, p, l, se, n, h, g, c, rs, rfl, hA, hS, hn, fun q a f H1 n' hq ha hf hn' sb hA1 v => ⟨_, rfl, (by show 2 ≤ sizeLine; decide), fun t ht => fin1 .nothing _ _ n' H1 (.write hq ha hf) hn' sb hA1 rfl t ht⟩, (fun z => fun C dc H1 hC s1 => ⟨true, hC, fun _ a ha => ⟨(by show 2 ≤ sizeLine; decide), fun t ht => fin0 H1 s1 t ht⟩, fun z => nomatch z⟩)⟩
    | make g =>
      dsimp only [Deed.word] at hdd
      obtain ⟨a', v1', v2', e', hv, q1, q2⟩ := Dt.at2 hD
      cases e'
      cases q2.num_inv
      refine ⟨_, rfl, dd, _, 0, _, rfl, rfl, SqT.of hdd, atI_nat (j := 0) rfl, rfl, _, rfl, ifdn (vstr_ne (by decide +kernel)) ?_⟩
      refine ⟨_, rfl, dd, _, 0, _, rfl, rfl, SqT.of hdd, atI_nat (j := 0) rfl, rfl, _, rfl, ifdn (vstr_ne (by decide +kernel)) ?_⟩
      refine ⟨_, rfl, dd, _, 0, _, rfl, rfl, SqT.of hdd, atI_nat (j := 0) rfl, rfl, _, rfl, ifd rfl ?_⟩
      exact ⟨_, rfl, p, dx, _, rfl, h1, (hno (by decide +kernel) (by decide +kernel) (by decide +kernel) (by decide +kernel)), _, rfl, dd, _, 1, _, rfl, rfl, SqT.of hv, atI_nat (j := 1) rfl, p, l, se, n, h, g, c, rs, rfl, hA, hS, hc, ha0, hq0, fun f H1 hf sb hA1 => ⟨_, rfl, (by show 2 ≤ sizeLine; decide), fun t ht => fin1 (.mark f.1) _ _ n H1 (.make hf) (Nat.le_succ _) sb hA1 rfl t ht⟩, (fun z => fun C dc H1 hC s1 => ⟨true, hC, fun _ a ha => ⟨(by show 2 ≤ sizeLine; decide), fun t ht => fin0 H1 s1 t ht⟩, fun z => nomatch z⟩)⟩
    | hear g =>
      dsimp only [Deed.word] at hdd
      obtain ⟨a', v1', v2', e', hv, q1, q2⟩ := Dt.at2 hD
      cases e'
      cases q2.num_inv
      refine ⟨_, rfl, dd, _, 0, _, rfl, rfl, SqT.of hdd, atI_nat (j := 0) rfl, rfl, _, rfl, ifdn (vstr_ne (by decide +kernel)) ?_⟩
      refine ⟨_, rfl, dd, _, 0, _, rfl, rfl, SqT.of hdd, atI_nat (j := 0) rfl, rfl, _, rfl, ifdn (vstr_ne (by decide +kernel)) ?_⟩
      refine ⟨_, rfl, dd, _, 0, _, rfl, rfl, SqT.of hdd, atI_nat (j := 0) rfl, rfl, _, rfl, ifdn (vstr_ne (by decide +kernel)) ?_⟩
      refine ⟨_, rfl, dd, _, 0, _, rfl, rfl, SqT.of hdd, atI_nat (j := 0) rfl, rfl, _, rfl, ifd rfl ?_⟩
      exact ⟨_, rfl, p, dx, _, rfl, h1, (hno (by decide +kernel) (by decide +kernel) (by decide +kernel) (by decide +kernel)), _, rfl, dd, _, 1, _, rfl, rfl, SqT.of hv, atI_nat (j := 1) rfl, p, l, se, n, h, g, c, rs, rfl, hA, hS, hn, fun q H1 n' hq hn' sb hA1 => ⟨_, rfl, (by show 2 ≤ sizeLine; decide), fun t ht => fin1 .nothing _ _ n' H1 (.hear hq) hn' sb hA1 rfl t ht⟩, (fun z => fun C dc H1 hC s1 => ⟨true, hC, fun _ a ha => ⟨(by show 2 ≤ sizeLine; decide), fun t ht => fin0 H1 s1 t ht⟩, fun z => nomatch z⟩)⟩
    | back =>
      dsimp only [Deed.word] at hdd
      refine ⟨_, rfl, dd, _, 0, _, rfl, rfl, SqT.of hdd, atI_nat (j := 0) rfl, rfl, _, rfl, ifdn (vstr_ne (by decide +kernel)) ?_⟩
      refine ⟨_, rfl, dd, _, 0, _, rfl, rfl, SqT.of hdd, atI_nat (j := 0) rfl, rfl, _, rfl, ifdn (vstr_ne (by decide +kernel)) ?_⟩
      refine ⟨_, rfl, dd, _, 0, _, rfl, rfl, SqT.of hdd, atI_nat (j := 0) rfl, rfl, _, rfl, ifdn (vstr_ne (by decide +kernel)) ?_⟩
      refine ⟨_, rfl, dd, _, 0, _, rfl, rfl, SqT.of hdd, atI_nat (j := 0) rfl, rfl, _, rfl, ifdn (vstr_ne (by decide +kernel)) ?_⟩
      refine ⟨_, rfl, dd, _, 0, _, rfl, rfl, SqT.of hdd, atI_nat (j := 0) rfl, rfl, _, rfl, ifd rfl ?_⟩
      exact ⟨_, rfl, p, dx, _, rfl, h1, (hno (by decide +kernel) (by decide +kernel) (by decide +kernel) (by decide +kernel)), p, l, se, n, h, c, rs, rfl, hA, hS, hn, hgr, fun q a tb H1 n' hq ha hlt hn' sb htb hA1 => ⟨_, rfl, (by show 2 ≤ sizeLine; decide), fun t ht => fin1 (.upto h.grant (backAt h q a)) _ _ n' H1 (.back hq ha hlt) hn' sb hA1 ⟨tb, rfl, htb⟩ t ht⟩, (fun z => fun C dc H1 hC s1 => ⟨true, hC, fun _ a ha => ⟨(by show 2 ≤ sizeLine; decide), fun t ht => fin0 H1 s1 t ht⟩, fun z => nomatch z⟩)⟩
    | fall =>
      dsimp only [Deed.word] at hdd
      refine ⟨_, rfl, dd, _, 0, _, rfl, rfl, SqT.of hdd, atI_nat (j := 0) rfl, rfl, _, rfl, ifdn (vstr_ne (by decide +kernel)) ?_⟩
      refine ⟨_, rfl, dd, _, 0, _, rfl, rfl, SqT.of hdd, atI_nat (j := 0) rfl, rfl, _, rfl, ifdn (vstr_ne (by decide +kernel)) ?_⟩
      refine ⟨_, rfl, dd, _, 0, _, rfl, rfl, SqT.of hdd, atI_nat (j := 0) rfl, rfl, _, rfl, ifdn (vstr_ne (by decide +kernel)) ?_⟩
      refine ⟨_, rfl, dd, _, 0, _, rfl, rfl, SqT.of hdd, atI_nat (j := 0) rfl, rfl, _, rfl, ifdn (vstr_ne (by decide +kernel)) ?_⟩
      refine ⟨_, rfl, dd, _, 0, _, rfl, rfl, SqT.of hdd, atI_nat (j := 0) rfl, rfl, _, rfl, ifdn (vstr_ne (by decide +kernel)) ?_⟩
      refine ⟨_, rfl, dd, _, 0, _, rfl, rfl, SqT.of hdd, atI_nat (j := 0) rfl, rfl, _, rfl, ifd rfl ?_⟩
      exact ⟨_, rfl, p, dx, _, rfl, h1, (hno (by decide +kernel) (by decide +kernel) (by decide +kernel) (by decide +kernel)), p, l, se, n, h, rfl, hA, fun q H1 hq sb hA1 => ⟨_, rfl, (by show 2 ≤ sizeLine; decide), fun t ht => fin1 .nothing _ _ n H1 (.fall hq) (Nat.le_succ _) sb hA1 rfl t ht⟩, (fun z => fun C dc H1 hC s1 => ⟨true, hC, fun _ a ha => ⟨(by show 2 ≤ sizeLine; decide), fun t ht => fin0 H1 s1 t ht⟩, fun z => nomatch z⟩)⟩
    | rise =>
      dsimp only [Deed.word] at hdd
      refine ⟨_, rfl, dd, _, 0, _, rfl, rfl, SqT.of hdd, atI_nat (j := 0) rfl, rfl, _, rfl, ifdn (vstr_ne (by decide +kernel)) ?_⟩
      refine ⟨_, rfl, dd, _, 0, _, rfl, rfl, SqT.of hdd, atI_nat (j := 0) rfl, rfl, _, rfl, ifdn (vstr_ne (by decide +kernel)) ?_⟩
      refine ⟨_, rfl, dd, _, 0, _, rfl, rfl, SqT.of hdd, atI_nat (j := 0) rfl, rfl, _, rfl, ifdn (vstr_ne (by decide +kernel)) ?_⟩
      refine ⟨_, rfl, dd, _, 0, _, rfl, rfl, SqT.of hdd, atI_nat (j := 0) rfl, rfl, _, rfl, ifdn (vstr_ne (by decide +kernel)) ?_⟩
      refine ⟨_, rfl, dd, _, 0, _, rfl, rfl, SqT.of hdd, atI_nat (j := 0) rfl, rfl, _, rfl, ifdn (vstr_ne (by decide +kernel)) ?_⟩
      refine ⟨_, rfl, dd, _, 0, _, rfl, rfl, SqT.of hdd, atI_nat (j := 0) rfl, rfl, _, rfl, ifdn (vstr_ne (by decide +kernel)) ?_⟩
      exact ⟨_, rfl, p, dx, _, rfl, h1, (hno (by decide +kernel) (by decide +kernel) (by decide +kernel) (by decide +kernel)), p, l, se, n, h, rfl, hA, fun H1 hq sb hA1 => ⟨_, rfl, (by show 2 ≤ sizeLine; decide), fun t ht => fin1 .nothing _ _ n H1 (.rise hq) (Nat.le_succ _) sb hA1 rfl t ht⟩, (fun z => fun C dc H1 hC s1 => ⟨true, hC, fun _ a ha => ⟨(by show 2 ≤ sizeLine; decide), fun t ht => fin0 H1 s1 t ht⟩, fun z => nomatch z⟩)⟩
end
end K87
end
section
set_option Elab.async false
set_option linter.all false
set_option maxRecDepth 100000
set_option maxHeartbeats 4000000
/-! K87W23: _law_world_right. -/
namespace K87
open PySem PySem.Spec L2
open PyProof.Rows hiding St
section
variable {P : Program} {w : World} {K : PySem.W.Frag} {mg : Str → Option Value} {base : Heap} {A : Ads}
def spWorld (A : Ads) (K : PySem.W.Frag) : Sp := fun vs H Q _ => ∃ (p nu dl : Addr) (c : Cf) (rs rs' : List Str) (ds : List Deed) (vds : List V), vs = [.ref p, .ref nu, .ref dl] ∧ SmallAt A K H p c rs ∧ NumsAt H nu c rs' ∧ c.Ok ∧ H dl = some (.lst vds) ∧ Dts H (ds.map eD) vds ∧ (∀ d ∈ ds, d.Ok c) ∧ ds.length ≤ 60 ∧ ∀ H', Same H H' → Q (.bl true) H'
theorem ok_law_world_right (T : Txt K mg A) : FnOk P w K mg base CX0 8 A.f_law_world_right A.d_law_world_right ["_law_small", "_law_numbers", "_law_deeds"] (spWorld A K) := by
  refine T.t_law_world_right.fn.ok sc_law_world_right (fun vs H Q E h => ?_) (fun cdv A' outer s0 H vs Q E hr h => ?_)
  · obtain ⟨p, nu, dl, c, rs, rs', ds, vds, rfl, _⟩ := h
    rfl
  · obtain ⟨p, nu, dl, c, rs, rs', ds, vds, rfl, hM, hN, hc, hdl, hds, hok, h60, k⟩ := h
    obtain ⟨se, ar, dx, vas, h1, hS, h2, h3⟩ := id hM
    obtain ⟨rl, al, vas', g1, g2, g3, g4, g5, g6⟩ := id hN
    refine ⟨_, (pss_cons (ps_set (i := 3) sc_law_world_right.nd rfl (.inl rfl) (pe_meth0 (pv 0) T.cl_Small T.t_Small_begin.me (ok_Small_begin T) (hr.mono (by decide)) T.t_Small_begin.bd .nil pass0)) (pss_cons (ps_for PassesOwn.never rfl (pi_list (pv 2)) (pg_name (i := 4) sc_law_world_right.nd rfl (.inl rfl)) (pss_cons (ps_set (i := 5) sc_law_world_right.nd rfl (.inl rfl) (pe_meth (pv 0) T.cl_Small T.t_Small_bad.me (ok_Small_bad T) (hr.mono (by decide)) T.t_Small_bad.bd .nil pass0 (pa_cons (pv 3) (pa_cons (pv 4) pa_nil)))) (pss_cons (ps_if (PW.pt (pw_and (pt_cmp (pc_notN (pv 5)) rfl) (pw_and1 (pt_cmpR op_inS (pv 5) (pe_call (ok_law_forbidden T) (hr.mono (by decide)) (by rfl) T.t_law_forbidden.gl T.t_law_forbidden.fn.kp T.t_law_forbidden.bd .nil pass0 (pa_cons (pe_ix ix_tup (pv 1) pe_int (fun _ _ => rfl)) pa_nil)) (by rfl))))) (pss_one (ps_ret pe_bl)) pss_nil) (pss_one (ps_if (pt_cmp (pc_isN (pv 5)) rfl) (pss_cons (ps_set (i := 6) sc_law_world_right.nd rfl (.inl rfl) (pe_meth (pv 0) T.cl_Small T.t_Small_after.me (ok_Small_after T) (hr.mono (by decide)) T.t_Small_after.bd .nil pass0 (pa_cons (pv 3) (pa_cons (pv 4) pa_nil)))) (pss_one (ps_if (pt_cmp (pc_notN (pv 6)) rfl) (pss_one (ps_set (i := 3) sc_law_world_right.nd rfl (.inl rfl) (pv 6))) pss_nil))) pss_nil))))) (pss_one (ps_ret pe_bl)))), ?_⟩
    refine ⟨_, rfl, p, dx, _, rfl, h1, mlk_none (by decide +kernel) (by decide +kernel) (by decide +kernel), p, c, rs, rfl, hM, hc, fun b0 H1 s1 d1 => ?_⟩
    refine ⟨_, rfl, dl, rfl, ⟨_, SqL.of (s1 _ _ hdl)⟩, for_list (K := K) (a := dl) (xs := vds) (fun i σ H' => ∃ (s : S) (sa : Addr) (v4 v5 v6 : Option V), σ = [some (.ref p), some (.ref nu), some (.ref dl), some (.ref sa), v4, v5, v6] ∧ Same H H' ∧ Dt H' (eS s) (.ref sa) ∧ Sok c s ∧ s.marks.length ≤ i)
      ⟨begin0 c, b0, none, none, none, rfl, s1, d1, begin_ok hc, Nat.le_refl _⟩ (fun i σ H' _ ⟨_, _, _, _, _, _, e, _⟩ => SqL.of (e _ _ hdl)) ?_ ?_⟩
    · rintro i x σ H2 hi ⟨s, sa, v4, v5, v6, rfl, e2, hsa, hI, hm⟩
      have hil : i < ds.length := by
        have := (List.getElem?_eq_some_iff.mp hi).1
        rw [hds.len, List.length_map] at this
        exact this
      obtain ⟨x', hx', dx'⟩ := hds.get (k := eD ds[i]) (j := i) (by rw [List.getElem?_map, List.getElem?_eq_getElem hil]; rfl)
      rw [hi] at hx'
      cases hx'
      have hdok := hok _ (List.getElem_mem hil)
      generalize ds[i] = d at *
      obtain ⟨da, rfl⟩ : ∃ a, x = .ref a := by
        cases d <;> (obtain ⟨a, vs, e, _⟩ := Dt.tup_inv dx'; exact ⟨a, e⟩)
      have hgr : ∀ a, s.hd.area = some a → 1 ≤ s.hd.grant ∧ s.hd.grant ≤ s.given.length := fun a ha => by
        obtain ⟨_, _, _, q1, q2⟩ := hI.good.ar a ha
        exact ⟨q1, by rw [hI.giv]; exact q2⟩
      refine ⟨_, rfl, p, dx, _, rfl, e2 _ _ h1, mlk_none (by decide +kernel) (by decide +kernel) (by decide +kernel), _, rfl, _, rfl, p, c, rs, s, sa, da, d, rfl, hM.on e2, hsa, dx'.on e2.ts, hgr, fun hb H3 s3 => ?_, fun b hb H3 s3 => ?_⟩
      · have e3 := e2.trans s3
        refine ⟨_, rfl, _, rfl, ifnd rfl (iteF ?_)⟩
        dsimp only [List.set]
        refine ⟨_, rfl, _, rfl, ifd rfl ?_⟩
        refine ⟨_, rfl, p, dx, _, rfl, e3 _ _ h1, mlk_none (by decide +kernel) (by decide +kernel) (by decide +kernel), _, rfl, _, rfl, p, c, rs, s, sa, da, d, rfl, hM.on e3, hsa.on s3.ts, dx'.on e3.ts, hc, hI, hdok, by omega, fun ha H4 s4 => ?_, fun b ha t H4 s4 dt => ?_⟩
        · exact ⟨_, rfl, _, rfl, ifnd rfl ⟨s, sa, _, _, _, rfl, e3.trans s4, hsa.on (s3.trans s4).ts, hI, by omega⟩⟩
        · refine ⟨_, rfl, _, rfl, ifndn (fun z => by cases z) ?_⟩
          have hb := after_some ha
          refine ⟨_, rfl, b, t, _, _, _, rfl, e3.trans s4, dt, ?_, ?_⟩
          · rw [hb]; exact done_ok hc hI hdok
          · rw [hb]
            have := done_marks c s d
            omega
      · have e3 := e2.trans s3
        refine ⟨_, rfl, _, rfl, ifndn (fun z => by cases z) ?_⟩
        dsimp only [List.set]
        refine ⟨_, rfl, _, rfl, nu, _, 4, _, rfl, rfl, SqT.of (e3 _ _ g1), atI_nat (j := 4) rfl, rl, rs', rfl, SqL.of (e3 _ _ g2), fun fl H4 s4 hfl => ?_⟩
        have hnf : b.str ∉ fw rs' := fun z => by
          have q1 := (fw_iff rs' b).mp z
          have q2 := bad_ok hc hI hb
          rw [g3] at q2
          rw [q1] at q2
          cases q2
        refine ⟨b.str, fl, fw rs', rfl, rfl, .inl (SqL.of hfl), _, rfl, ifdn hnf ?_⟩
        refine ⟨_, rfl, _, rfl, ifdn (fun z => by cases z) ?_⟩
        exact ⟨s, sa, _, _, _, rfl, e3.trans s4, hsa.on (s3.trans s4).ts, hI, by omega⟩
    · rintro σ H2 ⟨s, sa, v4, v5, v6, rfl, e2, _⟩
      exact k H2 e2
end
end K87
end
section
set_option Elab.async false
set_option linter.all false
set_option maxRecDepth 100000
set_option maxHeartbeats 4000000
/-! K87W24: _law_hand_right. -/
namespace K87
open PySem PySem.Spec L2
open PyProof.Rows hiding St

def gOf (kvs : List (Key × V)) (g : Int) : Option Int := match valV kvs (Sum.inl g) with | some (.int e) => some e | _ => none
def KInts (kvs : List (Key × V)) : Prop := ∀ e ∈ kvs, ∃ g z : Int, e = (Sum.inl g, .int z)
theorem gOf_dt {H : Hp} {kvs : List (Key × V)} (h : KInts kvs) (g : Int) : Dt H (eO (gOf kvs g)) ((valV kvs (Sum.inl g)).getD .non) := by
  unfold gOf
  cases e : valV kvs (Sum.inl g) with
  | none => exact .non
  | some v =>
    obtain ⟨g', z, e'⟩ := h _ (valV_mem e)
    have e2 := (Prod.mk.inj e').2
    subst e2
    exact .num z
theorem gOf_cases {kvs : List (Key × V)} (h : KInts kvs) (g : Int) : (valV kvs (Sum.inl g) = none ∧ gOf kvs g = none) ∨ ∃ z, valV kvs (Sum.inl g) = some (.int z) ∧ gOf kvs g = some z := by
  unfold gOf
  cases e : valV kvs (Sum.inl g) with
  | none => exact .inl ⟨rfl, rfl⟩
  | some v =>
    obtain ⟨g', z, e'⟩ := h _ (valV_mem e)
    have e2 := (Prod.mk.inj e').2
    subst e2
    exact .inr ⟨z, rfl, rfl⟩
theorem gOf_put {kvs : List (Key × V)} {g z g' : Int} : gOf (putK kvs (Sum.inl g) (.int z)) g' = if g' = g then some z else gOf kvs g' := by
  unfold gOf
  rw [valV_put]
  by_cases e : g' = g
  · subst e
    rw [if_pos rfl, if_pos rfl]
  · rw [if_neg e, if_neg fun q => e (Sum.inl.inj q)]
theorem kInts_put {kvs : List (Key × V)} {g z : Int} (h : KInts kvs) : KInts (putK kvs (Sum.inl g) (.int z)) := fun e he => by
  rcases mem_putK he with he | rfl
  · exact h e he
  · exact ⟨g, z, rfl⟩
abbrev pst (ms : List Int) (bound : Int) (kvs : List (Key × V)) : Past := ⟨fun x => x ∈ ms, bound, gOf kvs⟩
/-- NO FORBIDDEN WORD: of a mark that the Hand makes -/
theorem told_ok {c : Cf} (hc : c.Ok) {h : Hd} {ms : List Int} {bound : Int} {kvs : List (Key × V)} (I : Good c.rl c.sz h (pst ms bound kvs)) {r : Int} {f : Int × Pl} (hm : marked c h r = some f) {b : W4} (t : Told c.counts c.slots ms bound (gOf kvs h.grant) f.1 b) : forbids c.rl b = false := by
  obtain ⟨h1, h2⟩ := marked_some hm
  obtain ⟨p, a, hp, ha, hmd⟩ := nextMark_some h1
  obtain ⟨n1, n2, n3⟩ := no_word hc.sz I hp ha hmd
  cases b with
  | twice =>
    show c.rl.ahead = false
    cases ra : c.rl.ahead with
    | false => rfl
    | true => exact absurd (n1 ra _ t) (Int.lt_irrefl _)
  | fallen =>
    show c.rl.ahead = false
    cases ra : c.rl.ahead with
    | false => rfl
    | true =>
      obtain ⟨y, hy, hlt⟩ := t
      have := n1 ra y hy
      omega
  | astray =>
    show (c.rl.ends && c.rl.once) = false
    cases re : c.rl.ends with
    | false => rfl
    | true =>
      cases ro : c.rl.once with
      | false => rfl
      | true =>
        obtain ⟨e, he, hle⟩ := t
        have h3 : momentOf c.counts c.slots f.1 < e := n3 re ro e he
        omega
  | below =>
    show c.rl.spoken = false
    cases rs : c.rl.spoken with
    | false => rfl
    | true =>
      have h2 : bound ≤ momentOf c.counts c.slots f.1 := n2 rs
      have t : momentOf c.counts c.slots f.1 < bound := t
      omega
section
variable {P : Program} {w : World} {K : PySem.W.Frag} {mg : Str → Option Value} {base : Heap} {A : Ads}

def spHandRight (K : PySem.W.Frag) (A : Ads) : Sp := fun vs H Q _ => ∃ (se nu dl : Addr) (c : Cf) (rs rs' : List Str) (ds : List Deed) (vds : List V), vs = [.ref se, .ref nu, .ref dl] ∧ SetC A K H se c rs ∧ NumsAt H nu c rs' ∧ c.Ok ∧ H dl = some (.lst vds) ∧ Dts H (ds.map eD) vds ∧ (∀ d ∈ ds, d.Ok c) ∧ ds.length ≤ 60 ∧ ∀ H', Same H H' → Q (.bl true) H'
theorem ok_law_hand_right (T : Txt K mg A) : FnOk P w K mg base CX0 6 A.f_law_hand_right A.d_law_hand_right ["_law_settings", "_law_numbers", "_law_deeds"] (spHandRight K A) := by
  refine T.t_law_hand_right.fn.ok sc_law_hand_right (fun vs H Q E h => ?_) (fun cdv A' outer s0 H vs Q E hr h => ?_)
  · obtain ⟨se, nu, dl, c, rs, rs', ds, vds, rfl, _⟩ := h
    rfl
  · obtain ⟨se, nu, dl, c, rs, rs', ds, vds, rfl, hS, hN, hc, hdl, hds, hok, h60, k⟩ := h
    obtain ⟨rl, al, vas', g1, g2, g3, g4, g5, g6⟩ := id hN
    refine ⟨_, (pss_cons (ps_set (i := 3) sc_law_hand_right.nd rfl (.inl rfl) (pe_make T.mk_Hand (ok_HandI T) (hr.mono (by decide)) (by rfl) T.g_Hand T.B_Hand_init (show Vals [V.non] [Value.none] from .cons rfl .nil) pass0 (pa_cons pe_str (pa_cons (pv 0) pa_nil)))) (pss_cons (ps_set (i := 4) sc_law_hand_right.nd rfl (.inl rfl) (pe_lst pa_nil)) (pss_cons (ps_set (i := 5) sc_law_hand_right.nd rfl (.inl rfl) pe_int) (pss_cons (ps_set (i := 6) sc_law_hand_right.nd rfl (.inl rfl) (pe_dnewK)) (pss_cons (ps_set (i := 7) sc_law_hand_right.nd rfl (.inl rfl) pe_int) (pss_cons (ps_for PassesOwn.never rfl (pi_list (pv 2)) (pg_name (i := 8) sc_law_hand_right.nd rfl (.inl rfl)) (pss_cons (ps_asg (pe_call (ok_law_asked T) (hr.mono (by decide)) (by rfl) T.t_law_asked.gl T.t_law_asked.fn.kp T.t_law_asked.bd .nil pass0 (pa_cons (pv 3) (pa_cons (pv 1) (pa_cons (pv 8) pa_nil)))) (pg_tup rfl (pgs_cons (pg_name (i := 9) sc_law_hand_right.nd rfl (.inl rfl)) (pgs_cons (pg_name (i := 10) sc_law_hand_right.nd rfl (.inl rfl)) pgs_nil)))) (pss_cons (ps_if (PW.pt (pw_and (pt_val (pv 9)) (pw_and1 (pt_cmpR op_eq (pe_ix ix_tup (pv 8) pe_int (fun _ _ => rfl)) pe_str (nomark _))))) (pss_cons (ps_for PassesOwn.never rfl (pi_list (pe_call (ok_law_mark_words T) (hr.mono (by decide)) (by rfl) T.t_law_mark_words.gl T.t_law_mark_words.fn.kp T.t_law_mark_words.bd .nil pass0 (pa_cons (pv 1) (pa_cons (pv 10) (pa_cons (pv 4) (pa_cons (pv 5) (pa_cons (pe_dget1 (hu_of hr) (pv 6) (pv 7) ⟨rfl, rfl, rfl, rfl⟩) pa_nil))))))) (pg_name (i := 11) sc_law_hand_right.nd rfl (.inl rfl)) (pss_one (ps_if (pt_cmpR op_inS (pv 11) (pe_call (ok_law_forbidden T) (hr.mono (by decide)) (by rfl) T.t_law_forbidden.gl T.t_law_forbidden.fn.kp T.t_law_forbidden.bd .nil pass0 (pa_cons (pe_ix ix_tup (pv 1) pe_int (fun _ _ => rfl)) pa_nil)) (by rfl)) (pss_one (ps_ret pe_bl)) pss_nil))) (pss_one (ps_expr (pe_bm PySem.F.plainAttrs_list PySem.F.slot_list_append PySem.F.type_list_append mt_append (pv 4) (pa_cons (pv 10) pa_nil))))) pss_nil) (pss_cons (ps_if (PW.pt (pw_and (pt_val (pv 9)) (pw_and1 (pt_cmpR op_eq (pe_ix ix_tup (pv 8) pe_int (fun _ _ => rfl)) pe_str (nomark _))))) (pss_one (ps_set (i := 5) sc_law_hand_right.nd rfl (.inl rfl) (pe_callB (call_mx2 rfl) (by rfl) T.z_max boot_max (pa_cons (pv 5) (pa_cons (pe_ix ix_tup (pv 8) pe_int (fun _ _ => rfl)) pa_nil))))) pss_nil) (pss_cons (ps_if (PW.pt (pw_and (pt_val (pv 9)) (pw_and1 (pt_cmpR op_eq (pe_ix ix_tup (pv 8) pe_int (fun _ _ => rfl)) pe_str (nomark _))))) (pss_one (ps_dput (hu_of hr) (pv 6) (pe_ix ix_tup (pv 10) pe_int (fun _ _ => rfl)) (pe_callB (call_mn2 rfl) (by rfl) T.z_min boot_min (pa_cons (pe_ix ix_tup (pv 10) pe_int (fun _ _ => rfl)) (pa_cons (pe_dget2 (hu_of hr) (pv 6) (pe_ix ix_tup (pv 10) pe_int (fun _ _ => rfl)) (pe_ix ix_tup (pv 10) pe_int (fun _ _ => rfl)) ⟨rfl, rfl, rfl, rfl⟩) pa_nil))) rfl)) pss_nil) (pss_one (ps_if (PW.pt (pw_and (pt_val (pv 9)) (pw_and (pt_cmpR op_eq (pe_ix ix_tup (pv 8) pe_int (fun _ _ => rfl)) pe_str (nomark _)) (pw_and1 (pt_val (pv 10)))))) (pss_one (ps_set (i := 7) sc_law_hand_right.nd rfl (.inl rfl) (pe_ix ix_tup (pv 8) pe_int (fun _ _ => rfl)))) pss_nil))))))) (pss_one (ps_ret pe_bl)))))))), ?_⟩
    refine ⟨_, rfl, fun p dx hp hdx ne => ⟨p, dx, se, .str "ann", rfl, upd_same, fun H1 l sb1 hl hA1 => ⟨rfl, ?_⟩⟩⟩
    have s1 : Same H H1 := fun b o e => by
      have nb : b ≠ p := ne_of_none e hp
      refine sb1 b o ?_ (by simpa using nb)
      rw [upd_ne nb, upd_ne (ne_of_none e hdx)]
      exact e
    have hl0 : H l = none := by
      cases e : H l with
      | none => rfl
      | some o =>
        have nb : l ≠ p := ne_of_none e hp
        rw [upd_ne nb, upd_ne (ne_of_none e hdx), e] at hl
        cases hl
    obtain ⟨_, _, _, hpi⟩ := hA1.ins
    obtain ⟨vl1, hll1⟩ : ∃ vl, H1 l = some (.lst vl) := by
      obtain ⟨_, _, _, vl, _, _, h2, _⟩ := id hA1
      exact ⟨vl, h2⟩
    refine ⟨Nat.zero_le _, fun ml hml => ?_⟩
    have nml : ml ≠ l := fun z => by rw [z, hll1] at hml; cases hml
    have nmp : ml ≠ p := fun z => by rw [z, hpi] at hml; cases hml
    have s2 := same_new (o := .lst []) hml
    have hml0 := s1.free hml
    have hA2 := hA1.on s2
    have hml2 : (upd H1 ml (.lst [])) ml = some (.lst (([] : List Int).map .int)) := upd_same
    have hpi2 := s2 _ _ hpi
    have hll2 := s2 _ _ hll1
    have s12 := s1.trans s2
    generalize upd H1 ml (.lst []) = H2 at *
    intro gd hgd
    have ngl : gd ≠ l := fun z => by rw [z, hll2] at hgd; cases hgd
    have ngp : gd ≠ p := fun z => by rw [z, hpi2] at hgd; cases hgd
    have ngm : gd ≠ ml := fun z => by rw [z, hml2] at hgd; cases hgd
    have s3 := same_new (o := .dK []) hgd
    have hgd0 := s12.free hgd
    have s13 := s12.trans s3
    have keep : ∀ {H1 H2 : Hp}, Same H H1 → SameBut [p, l] H1 H2 → Same H H2 := fun a b q o e => b q o (a q o e) (by
      have n1 : q ≠ p := ne_of_none e hp
      have n2 : q ≠ l := ne_of_none e hl0
      simp [n1, n2])
    dsimp only [L2.start, List.map, List.length, List.replicate, List.set, HAppend.hAppend, Append.append, List.append]
    refine ⟨_, rfl, dl, rfl, ⟨_, SqL.of (s13 _ _ hdl)⟩, for_list (K := K) (a := dl) (xs := vds) (fun i σ H' => ∃ (h : Hd) (n : Nat) (ms : List Int) (bound : Int) (kvs : List (Key × V)) (v8 v9 v10 v11 : Option V), σ = [some (.ref se), some (.ref nu), some (.ref dl), some (.ref p), some (.ref ml), some (.int bound), some (.ref gd), some (.int h.grant), v8, v9, v10, v11] ∧ Same H H' ∧ HandAt A H' p l se n h ∧ n ≤ i ∧
      H' ml = some (.lst (ms.map .int)) ∧ ms.length ≤ i ∧ H' gd = some (.dK kvs) ∧ KInts kvs ∧ kvs.length ≤ i ∧ Good c.rl c.sz h (pst ms bound kvs))
      ⟨⟨some (0, 0), 0, none, 0, 0, 0⟩, 0, [], 0, [], none, none, none, none, rfl, s13, hA2.on s3, Nat.le_refl _, s3 _ _ hml2, Nat.le_refl _, upd_same, (fun _ z => nomatch z), Nat.le_refl _, ?_⟩ (fun i σ H' _ ⟨_, _, _, _, _, _, _, _, _, _, e, _⟩ => SqL.of (e _ _ hdl)) ?_ ?_⟩
    · have e : pst [] 0 [] = ⟨fun _ => False, 0, fun _ => none⟩ := by
        show (⟨_, _, _⟩ : Past) = _
        congr 1
        funext x
        simp
      rw [e]
      exact good_begin hc.sz
    · rintro i x σ H4 hi ⟨h, n, ms, bound, kvs, v8, v9, v10, v11, rfl, e4, hA4, hn, hm4, hml4, hg4, hki, hkl, hI⟩
      have hil : i < ds.length := by
        have := (List.getElem?_eq_some_iff.mp hi).1
        rw [hds.len, List.length_map] at this
        exact this
      obtain ⟨x', hx', dx'⟩ := hds.get (k := eD ds[i]) (j := i) (by rw [List.getElem?_map, List.getElem?_eq_getElem hil]; rfl)
      rw [hi] at hx'
      cases hx'
      have hdok := hok _ (List.getElem_mem hil)
      generalize ds[i] = d at *
      obtain ⟨dd, rfl⟩ : ∃ a, x = .ref a := by
        cases d <;> (obtain ⟨a, vs, e, _⟩ := Dt.tup_inv dx'; exact ⟨a, e⟩)
      obtain ⟨vdd, hdd0⟩ : ∃ vdd, H dd = some (.tup (.str d.word :: vdd)) := by
        cases d <;> (obtain ⟨a', vs', e', hv, hds⟩ := Dt.tup_inv dx'; cases e'; obtain ⟨v1, r1, rfl, q1, q2⟩ := hds.cons_inv; cases q1.txt_inv; exact ⟨r1, hv⟩)
      have n60 : n < 1000 := by omega
      refine ⟨_, rfl, _, rfl, _, rfl, p, l, se, nu, dd, n, h, c, rs, rs', d, rfl, hA4, hS.on e4, hN.on e4, dx'.on e4.ts, hdok, hc, n60, fun a ha => ?_, fun q hq => ?_, fun a ha => ?_, fun t H5 s5 ht => ?_, fun te h' t v n' H5 hd hn' sb5 hA5 ht hte => ?_⟩
      · obtain ⟨a0, a1, _⟩ := hI.ar a ha
        exact ⟨a0, a1⟩
      · obtain ⟨_, q1, q2⟩ := hI.pl q hq
        exact ⟨q1, q2⟩
      · obtain ⟨_, _, _, q1, _⟩ := hI.ar a ha
        exact q1
      · refine ⟨t, _, rfl, SqT.of ht, rfl, _, _, rfl, _, _, rfl, rfl, ?_⟩
        dsimp only [List.set]
        refine ⟨_, rfl, false, rfl, iteF (iteF ?_)⟩
        refine ⟨_, rfl, false, rfl, iteF (iteF ?_)⟩
        refine ⟨_, rfl, false, rfl, iteF (iteF ?_)⟩
        refine ⟨_, rfl, false, rfl, iteF (iteF ?_)⟩
        exact ⟨h, n, ms, bound, kvs, _, _, _, _, rfl, e4.trans s5, hA4.on s5, by omega, s5 _ _ hm4, by omega, s5 _ _ hg4, hki, by omega, hI⟩
      · have e5 := keep e4 sb5
        have hm5 := sb5 _ _ hm4 (by simp [nmp, nml])
        have hg5 := sb5 _ _ hg4 (by simp [ngp, ngl])
        have hdd := e5 _ _ hdd0
        have dx5 := dx'.on e5.ts
        refine ⟨t, _, rfl, SqT.of ht, rfl, _, _, rfl, _, _, rfl, rfl, ?_⟩
        dsimp only [List.set]
        cases hd with
        | stay hq ho =>
          dsimp only [Deed.word] at hdd hdd0
          refine ⟨_, rfl, true, rfl, iteT ⟨_, rfl, dd, _, 0, _, rfl, rfl, SqT.of hdd, atI_nat (j := 0) rfl, rfl, _, rfl, ifdn (vstr_ne (by decide +kernel)) ?_⟩⟩
          refine ⟨_, rfl, true, rfl, iteT ⟨_, rfl, dd, _, 0, _, rfl, rfl, SqT.of hdd, atI_nat (j := 0) rfl, rfl, _, rfl, ifdn (vstr_ne (by decide +kernel)) ?_⟩⟩
          refine ⟨_, rfl, true, rfl, iteT ⟨_, rfl, dd, _, 0, _, rfl, rfl, SqT.of hdd, atI_nat (j := 0) rfl, rfl, _, rfl, ifdn (vstr_ne (by decide +kernel)) ?_⟩⟩
          cases hte
          refine ⟨_, rfl, true, rfl, iteT ⟨_, rfl, dd, _, 0, _, rfl, rfl, SqT.of hdd, atI_nat (j := 0) rfl, rfl, _, rfl, ifd rfl ⟨_, rfl, false, rfl, iteF ?_⟩⟩⟩
          exact ⟨h, n', ms, bound, kvs, _, _, _, _, rfl, e5, hA5, by omega, hm5, by omega, hg5, hki, by omega, hI⟩
        | @take q g hq ho =>
          dsimp only [Deed.word] at hdd hdd0
          refine ⟨_, rfl, true, rfl, iteT ⟨_, rfl, dd, _, 0, _, rfl, rfl, SqT.of hdd, atI_nat (j := 0) rfl, rfl, _, rfl, ifdn (vstr_ne (by decide +kernel)) ?_⟩⟩
          refine ⟨_, rfl, true, rfl, iteT ⟨_, rfl, dd, _, 0, _, rfl, rfl, SqT.of hdd, atI_nat (j := 0) rfl, rfl, _, rfl, ifdn (vstr_ne (by decide +kernel)) ?_⟩⟩
          refine ⟨_, rfl, true, rfl, iteT ⟨_, rfl, dd, _, 0, _, rfl, rfl, SqT.of hdd, atI_nat (j := 0) rfl, rfl, _, rfl, ifdn (vstr_ne (by decide +kernel)) ?_⟩⟩
          cases hte
          obtain ⟨a', v1', v2', e', hv, q1, q2⟩ := Dt.at2 dx5
          cases e'
          cases q2.num_inv
          refine ⟨_, rfl, true, rfl, iteT ⟨_, rfl, dd, _, 0, _, rfl, rfl, SqT.of hdd, atI_nat (j := 0) rfl, rfl, _, rfl, ifd rfl ⟨_, rfl, true, rfl, iteT ?_⟩⟩⟩
          refine ⟨_, rfl, dd, _, 1, _, rfl, rfl, SqT.of hv, atI_nat (j := 1) rfl, ?_⟩
          have hG := good_take hc.sz hI hq hdok.1 hdok.2 (areaAt_mem hdok.1 hdok.2) ho
          exact ⟨(takeH c h q g), n', ms, bound, kvs, _, _, _, _, rfl, e5, hA5, by omega, hm5, by omega, hg5, hki, by omega, hG⟩
        | @write q a r f hq ha hf =>
          dsimp only [Deed.word] at hdd hdd0
          refine ⟨_, rfl, true, rfl, iteT ⟨_, rfl, dd, _, 0, _, rfl, rfl, SqT.of hdd, atI_nat (j := 0) rfl, rfl, _, rfl, ifdn (vstr_ne (by decide +kernel)) ?_⟩⟩
          refine ⟨_, rfl, true, rfl, iteT ⟨_, rfl, dd, _, 0, _, rfl, rfl, SqT.of hdd, atI_nat (j := 0) rfl, rfl, _, rfl, ifdn (vstr_ne (by decide +kernel)) ?_⟩⟩
          refine ⟨_, rfl, true, rfl, iteT ⟨_, rfl, dd, _, 0, _, rfl, rfl, SqT.of hdd, atI_nat (j := 0) rfl, rfl, _, rfl, ifdn (vstr_ne (by decide +kernel)) ?_⟩⟩
          refine ⟨_, rfl, true, rfl, iteT ⟨_, rfl, dd, _, 0, _, rfl, rfl, SqT.of hdd, atI_nat (j := 0) rfl, rfl, _, rfl, ifdn (vstr_ne (by decide +kernel)) (iteF ?_)⟩⟩
          have hG := good_write hI hc.sz (n := writeTo c h q a r) (by unfold writeTo; omega)
          exact ⟨{ h with held := writeTo c h q a r }, n', ms, bound, kvs, _, _, _, _, rfl, e5, hA5, by omega, hm5, by omega, hg5, hki, by omega, hG⟩
        | fall hq =>
          dsimp only [Deed.word] at hdd hdd0
          refine ⟨_, rfl, true, rfl, iteT ⟨_, rfl, dd, _, 0, _, rfl, rfl, SqT.of hdd, atI_nat (j := 0) rfl, rfl, _, rfl, ifdn (vstr_ne (by decide +kernel)) ?_⟩⟩
          refine ⟨_, rfl, true, rfl, iteT ⟨_, rfl, dd, _, 0, _, rfl, rfl, SqT.of hdd, atI_nat (j := 0) rfl, rfl, _, rfl, ifdn (vstr_ne (by decide +kernel)) ?_⟩⟩
          refine ⟨_, rfl, true, rfl, iteT ⟨_, rfl, dd, _, 0, _, rfl, rfl, SqT.of hdd, atI_nat (j := 0) rfl, rfl, _, rfl, ifdn (vstr_ne (by decide +kernel)) ?_⟩⟩
          refine ⟨_, rfl, true, rfl, iteT ⟨_, rfl, dd, _, 0, _, rfl, rfl, SqT.of hdd, atI_nat (j := 0) rfl, rfl, _, rfl, ifdn (vstr_ne (by decide +kernel)) (iteF ?_)⟩⟩
          exact ⟨{ h with place := none }, n', ms, bound, kvs, _, _, _, _, rfl, e5, hA5, by omega, hm5, by omega, hg5, hki, by omega, good_fall hI⟩
        | rise hq =>
          dsimp only [Deed.word] at hdd hdd0
          refine ⟨_, rfl, true, rfl, iteT ⟨_, rfl, dd, _, 0, _, rfl, rfl, SqT.of hdd, atI_nat (j := 0) rfl, rfl, _, rfl, ifdn (vstr_ne (by decide +kernel)) ?_⟩⟩
          refine ⟨_, rfl, true, rfl, iteT ⟨_, rfl, dd, _, 0, _, rfl, rfl, SqT.of hdd, atI_nat (j := 0) rfl, rfl, _, rfl, ifdn (vstr_ne (by decide +kernel)) ?_⟩⟩
          refine ⟨_, rfl, true, rfl, iteT ⟨_, rfl, dd, _, 0, _, rfl, rfl, SqT.of hdd, atI_nat (j := 0) rfl, rfl, _, rfl, ifdn (vstr_ne (by decide +kernel)) ?_⟩⟩
          refine ⟨_, rfl, true, rfl, iteT ⟨_, rfl, dd, _, 0, _, rfl, rfl, SqT.of hdd, atI_nat (j := 0) rfl, rfl, _, rfl, ifdn (vstr_ne (by decide +kernel)) (iteF ?_)⟩⟩
          exact ⟨(riseH h), n', ms, bound, kvs, _, _, _, _, rfl, e5, hA5, by omega, hm5, by omega, hg5, hki, by omega, good_rise hc.sz hI⟩
        | @hear q b hq =>
          dsimp only [Deed.word] at hdd hdd0
          refine ⟨_, rfl, true, rfl, iteT ⟨_, rfl, dd, _, 0, _, rfl, rfl, SqT.of hdd, atI_nat (j := 0) rfl, rfl, _, rfl, ifdn (vstr_ne (by decide +kernel)) ?_⟩⟩
          refine ⟨_, rfl, true, rfl, iteT ⟨_, rfl, dd, _, 0, _, rfl, rfl, SqT.of hdd, atI_nat (j := 0) rfl, rfl, _, rfl, ifd rfl ?_⟩⟩
          obtain ⟨a', v1', v2', e', hv, q1, q2⟩ := Dt.at2 dx5
          cases e'
          cases q2.num_inv
          refine ⟨_, rfl, _, rfl, dd, _, 1, _, rfl, rfl, SqT.of hv, atI_nat (j := 1) rfl, _, _, rfl, ?_⟩
          dsimp only [List.set]
          refine ⟨_, rfl, true, rfl, iteT ⟨_, rfl, dd, _, 0, _, rfl, rfl, SqT.of hdd, atI_nat (j := 0) rfl, rfl, _, rfl, ifdn (vstr_ne (by decide +kernel)) ?_⟩⟩
          refine ⟨_, rfl, true, rfl, iteT ⟨_, rfl, dd, _, 0, _, rfl, rfl, SqT.of hdd, atI_nat (j := 0) rfl, rfl, _, rfl, ifdn (vstr_ne (by decide +kernel)) (iteF ?_)⟩⟩
          have hG := good_hear hI hc.sz hq (by have := hdok.1; omega) (n := if c.rl.spoken = true then max h.heard b else h.heard) rfl
          exact ⟨(hearH c h q b), n', ms, (max bound b), kvs, _, _, _, _, rfl, e5, hA5, by omega, hm5, by omega, hg5, hki, by omega, hG⟩
        | @back q a hq ha hlt =>
          dsimp only [Deed.word] at hdd hdd0
          refine ⟨_, rfl, true, rfl, iteT ⟨_, rfl, dd, _, 0, _, rfl, rfl, SqT.of hdd, atI_nat (j := 0) rfl, rfl, _, rfl, ifdn (vstr_ne (by decide +kernel)) ?_⟩⟩
          refine ⟨_, rfl, true, rfl, iteT ⟨_, rfl, dd, _, 0, _, rfl, rfl, SqT.of hdd, atI_nat (j := 0) rfl, rfl, _, rfl, ifdn (vstr_ne (by decide +kernel)) ?_⟩⟩
          refine ⟨_, rfl, true, rfl, iteT ⟨_, rfl, dd, _, 0, _, rfl, rfl, SqT.of hdd, atI_nat (j := 0) rfl, rfl, _, rfl, ifd rfl ?_⟩⟩
          obtain ⟨ta, rfl, hta⟩ := hte
          refine ⟨_, rfl, ta, _, 1, _, rfl, rfl, SqT.of hta, atI_nat (j := 1) rfl, ?_⟩
          refine ⟨_, rfl, gd, rfl, .inl ⟨kvs, .inl hg5⟩, _, rfl, ta, _, 0, _, rfl, rfl, SqT.of hta, atI_nat (j := 0) rfl, _, rfl, ta, _, 1, _, rfl, rfl, SqT.of hta, atI_nat (j := 1) rfl, _, DGet.k (k := Sum.inl h.grant) hg5, ?_⟩
          obtain ⟨z, hz, hzG⟩ : ∃ z : Int, (valV kvs (Sum.inl h.grant)).getD (.int (backAt h q a)) = .int z ∧ min (backAt h q a) z = (match gOf kvs h.grant with | none => backAt h q a | some y => if backAt h q a < y then backAt h q a else y) := by
            rcases gOf_cases hki h.grant with ⟨e1, e2⟩ | ⟨y, e1, e2⟩
            · rw [e1, e2]
              exact ⟨_, rfl, by simp⟩
            · rw [e1, e2]
              refine ⟨y, rfl, ?_⟩
              show min _ y = if backAt h q a < y then backAt h q a else y
              split <;> omega
          rw [hz]
          refine ⟨_, _, rfl, _, rfl, _, rfl, ta, _, 0, _, rfl, rfl, SqT.of hta, atI_nat (j := 0) rfl, gd, _, rfl, DPut.k (k := Sum.inl h.grant) hg5 (small1k (by omega)), ?_⟩
          have tl : ∀ b o, b ≠ gd → H5 b = some o → (upd H5 gd (.dK (putK kvs (Sum.inl h.grant) (.int (min (backAt h q a) z))))) b = some o := fun b o nb e => by rw [upd_ne nb]; exact e
          have e6 : Same H (upd H5 gd (.dK (putK kvs (Sum.inl h.grant) (.int (min (backAt h q a) z))))) := fun b o e => tl b o (ne_of_none e hgd0) (e5 b o e)
          have hA6 : HandAt A (upd H5 gd (.dK (putK kvs (Sum.inl h.grant) (.int (min (backAt h q a) z))))) p l se n' (backH c h a (backAt h q a)) := by
            obtain ⟨dx3, nm3, vst3, vls3, ls3, f1, f2, f3, f4, f5, f6, f7, f8⟩ := hA5
            have ts : TSame H5 (upd H5 gd (.dK (putK kvs (Sum.inl h.grant) (.int (min (backAt h q a) z))))) := fun b xs e => tl b _ (ne_of e hg5 (by intro z; cases z)) e
            exact ⟨dx3, nm3, vst3, vls3, ls3, tl _ _ ngp.symm f1, tl _ _ ngl.symm f2, f3.on ts, f4, f5, f6, f7, f8.on ts⟩
          have hG0 := good_back hI ha (e := backAt h q a) (by omega) (b := if c.rl.ends = true then some (a.1, a.2.1, backAt h q a) else some a) rfl
          have eP : pst ms bound (putK kvs (Sum.inl h.grant) (.int (min (backAt h q a) z))) = { (pst ms bound kvs) with G := fun g => if g = h.grant then some (match (pst ms bound kvs).G h.grant with | none => backAt h q a | some y => if backAt h q a < y then backAt h q a else y) else (pst ms bound kvs).G g } := by
            show (⟨_, _, _⟩ : Past) = ⟨_, _, _⟩
            congr 1
            funext g
            rw [gOf_put, hzG]
          have hG1 : Good c.rl c.sz (backH c h a (backAt h q a)) (pst ms bound (putK kvs (Sum.inl h.grant) (.int (min (backAt h q a) z)))) := by
            rw [eP]
            exact hG0
          refine ⟨_, rfl, true, rfl, iteT ⟨_, rfl, dd, _, 0, _, rfl, rfl, SqT.of (e6 _ _ hdd0), atI_nat (j := 0) rfl, rfl, _, rfl, ifdn (vstr_ne (by decide +kernel)) (iteF ?_)⟩⟩
          exact ⟨backH c h a (backAt h q a), n', ms, bound, _, _, _, _, _, rfl, e6, hA6, by omega, tl _ _ ngm.symm hm5, by omega, upd_same, kInts_put hki, Nat.le_trans putK_len (by omega), hG1⟩
        | @make r f hm =>
          dsimp only [Deed.word] at hdd hdd0
          refine ⟨_, rfl, true, rfl, iteT ⟨_, rfl, dd, _, 0, _, rfl, rfl, SqT.of hdd, atI_nat (j := 0) rfl, rfl, _, rfl, ifd rfl ?_⟩⟩
          cases hte
          obtain ⟨h1', h2'⟩ := marked_some hm
          obtain ⟨q0, a0, hq0, ha0, hmd⟩ := nextMark_some h1'
          have hc3 := hc.sz
          refine ⟨_, rfl, _, rfl, _, rfl, _, rfl, _, rfl, gd, rfl, .inl ⟨kvs, .inl hg5⟩, _, rfl, _, DGet.k (k := Sum.inl h.grant) hg5, nu, ml, f.1, bound, c.counts, c.slots, _, ms, gOf kvs h.grant, _, rfl, e5 _ _ g1, ⟨hc3.c1, hc3.c3⟩, ⟨hc3.s1, hc3.s3⟩, hm5, gOf_dt hki h.grant, fun l2 ws H6 s6 hl2 hws => ?_⟩
          refine ⟨l2, rfl, ⟨_, SqL.of hl2⟩, for_list (K := K) (a := l2) (xs := ws.map .str) (fun j σ H' => ∃ v11, σ = [some (.ref se), some (.ref nu), some (.ref dl), some (.ref p), some (.ref ml), some (.int bound), some (.ref gd), some (.int h.grant), some (.ref dd), some (.bl true), some (.int f.1), v11] ∧ Same H6 H') ⟨_, rfl, Same.refl _⟩ (fun j σ H' _ ⟨_, _, e⟩ => SqL.of (e _ _ hl2)) ?_ ?_⟩
          · rintro j y σ H7 hj ⟨v11, rfl, s7⟩
            obtain ⟨b, rfl, hb⟩ : ∃ b : W4, y = .str b.str ∧ Told c.counts c.slots ms bound (gOf kvs h.grant) f.1 b := by
              rw [List.getElem?_map] at hj
              cases e : ws[j]? with
              | none => rw [e] at hj; cases hj
              | some y' =>
                rw [e] at hj
                obtain ⟨b, e1, e2⟩ := hws y' (List.mem_of_getElem? e)
                exact ⟨b, by rw [← e1]; exact (Option.some.inj hj).symm, e2⟩
            have e7 := e5.trans (s6.trans s7)
            refine ⟨_, rfl, _, rfl, nu, _, 4, _, rfl, rfl, SqT.of (e7 _ _ g1), atI_nat (j := 4) rfl, rl, rs', rfl, SqL.of (e7 _ _ g2), fun fl H8 s8 hfl => ?_⟩
            have hnf : b.str ∉ fw rs' := fun z => by
              have q1 := (fw_iff rs' b).mp z
              have q2 := told_ok hc hI hm hb
              rw [g3] at q2
              rw [q1] at q2
              cases q2
            exact ⟨b.str, fl, fw rs', rfl, rfl, .inl (SqL.of hfl), _, rfl, ifdn hnf ⟨_, rfl, s7.trans s8⟩⟩
          · rintro σ H7 ⟨v11, rfl, s7⟩
            have s57 := s6.trans s7
            have e7 := e5.trans s57
            have hm7 := s57 _ _ hm5
            refine ⟨_, rfl, .inl ⟨rfl, _, SqL.of hm7⟩, _, rfl, ml, _, _, rfl, rfl, hm7, small1k (by rw [List.length_map]; omega), ?_⟩
            have tl : ∀ b o, b ≠ ml → H7 b = some o → (upd H7 ml (.lst (ms.map .int ++ [.int f.1]))) b = some o := fun b o nb e => by rw [upd_ne nb]; exact e
            have e8 : Same H (upd H7 ml (.lst (ms.map .int ++ [.int f.1]))) := fun b o e => tl b o (ne_of_none e hml0) (e7 b o e)
            have hA8 : HandAt A (upd H7 ml (.lst (ms.map .int ++ [.int f.1]))) p l se n' { h with place := some f.2 } := by
              obtain ⟨dx3, nm3, vst3, vls3, ls3, f1, f2, f3, f4, f5, f6, f7, f8⟩ := hA5.on s57
              have ts : TSame H7 (upd H7 ml (.lst (ms.map .int ++ [.int f.1]))) := TSame.lst hm7
              exact ⟨dx3, nm3, vst3, vls3, ls3, tl _ _ nmp.symm f1, tl _ _ nml.symm f2, f3.on ts, f4, f5, f6, f7, f8.on ts⟩
            have hG0 := good_make hI hc.sz hq0 ha0 hmd h2'
            have eP : pst (ms ++ [f.1]) bound kvs = { (pst ms bound kvs) with M := fun y => (pst ms bound kvs).M y ∨ y = f.1 } := by
              show (⟨_, _, _⟩ : Past) = ⟨_, _, _⟩
              congr 1
              funext y
              simp
            have hG1 : Good c.rl c.sz { h with place := some f.2 } (pst (ms ++ [f.1]) bound kvs) := by
              rw [eP]
              exact hG0
            refine ⟨_, rfl, true, rfl, iteT ⟨_, rfl, dd, _, 0, _, rfl, rfl, SqT.of (e8 _ _ hdd0), atI_nat (j := 0) rfl, rfl, _, rfl, ifdn (vstr_ne (by decide +kernel)) ?_⟩⟩
            refine ⟨_, rfl, true, rfl, iteT ⟨_, rfl, dd, _, 0, _, rfl, rfl, SqT.of (e8 _ _ hdd0), atI_nat (j := 0) rfl, rfl, _, rfl, ifdn (vstr_ne (by decide +kernel)) ?_⟩⟩
            refine ⟨_, rfl, true, rfl, iteT ⟨_, rfl, dd, _, 0, _, rfl, rfl, SqT.of (e8 _ _ hdd0), atI_nat (j := 0) rfl, rfl, _, rfl, ifdn (vstr_ne (by decide +kernel)) (iteF ?_)⟩⟩
            exact ⟨{ h with place := some f.2 }, n', ms ++ [f.1], bound, kvs, _, _, _, _, rfl, e8, hA8, by omega, by rw [upd_same, List.map_append]; rfl, by rw [List.length_append]; show ms.length + 1 ≤ _; omega, tl _ _ ngm (s57 _ _ hg5), hki, by omega, hG1⟩
    · rintro σ H4 ⟨h, n, ms, bound, kvs, v8, v9, v10, v11, rfl, e4, _⟩
      exact k H4 e4
end
end K87
end
section
set_option Elab.async false
set_option linter.all false
set_option maxRecDepth 100000
set_option maxHeartbeats 4000000
/-! K87W25: _law_large. -/
namespace K87
open PySem PySem.Spec L2
open PyProof.Rows hiding St
theorem rlOf_ext {a b : List Str} (h : ∀ x, x ∈ a ↔ x ∈ b) : rlOf a = rlOf b := by
  unfold rlOf
  simp only [h]
theorem made_same {H1 H' : Hp} {x dx : Addr} {o1 o2 : HO} (hx : H1 x = none) (hdx : H1 dx = none) (sb : SameBut [x] (upd (upd H1 dx o1) x o2) H') : Same H1 H' := fun b o e => by
  have nb : b ≠ x := ne_of_none e hx
  refine sb b o ?_ (by simpa using nb)
  rw [upd_ne nb, upd_ne (ne_of_none e hdx)]
  exact e
theorem hand_ne_ins {H : Hp} {p a C dx : Addr} {k : Nat} {fs : List (Str × V)} (h : HandL H p k) (e : H a = some (.ins C dx fs)) : a ≠ p := fun z => by
  obtain ⟨n0, n1, n2, h1, _⟩ := h
  rw [z, h1] at e
  cases e
theorem ShapeAt.sb {A : Ads} {H H' : Hp} {p q : Addr} {k : Nat} {c s : Int} (h : ShapeAt A H q c s) (e : SameBut [p] H H') (hp : HandL H p k) : ShapeAt A H' q c s := by
  obtain ⟨dx, h⟩ := h
  exact ⟨dx, e _ _ h (by simpa using hand_ne_ins hp h)⟩
section
variable {P : Program} {w : World} {K : PySem.W.Frag} {mg : Str → Option Value} {base : Heap} {A : Ads}
theorem ok_ShapeI (T : Txt K mg A) : FnOk P w K mg base CX0 2 A.f_Shape_init A.d_Shape_init ["self", "counts", "slots"] (spShapeI A) := ok_shapeI T

def spLarge (A : Ads) (K : PySem.W.Frag) : Sp := fun vs H Q _ => ∃ (p : Addr), vs = [.ref p] ∧ HandL H p 0 ∧
  ∀ (t sm nu : Addr) (c : Cf) (rs rs' : List Str) (H' : Hp), SameBut [p] H H' → HandL H' p 100 → H' t = some (.tup [.ref sm, .ref nu]) → SmallAt A K H' sm c rs → NumsAt H' nu c rs' → c.Ok → Q (.ref t) H'
theorem ok_law_large (T : Txt K mg A) : FnOk P w K mg base CX0 4 A.f_law_large A.d_law_large ["_law_hand_here"] (spLarge A K) := by
  refine T.t_law_large.fn.ok sc_law_large (fun vs H Q E h => ?_) (fun cdv A' outer s0 H vs Q E hr h => ?_)
  · obtain ⟨p, rfl, _⟩ := h
    rfl
  · obtain ⟨p, rfl, hp, k⟩ := h
    refine ⟨_, (pss_cons (ps_set (i := 1) sc_law_large.nd rfl (.inl rfl) (pe_op op_add pe_int (pe_call (ok_law_pick T) (hr.mono (by decide)) (by rfl) T.t_law_pick.gl T.t_law_pick.fn.kp T.t_law_pick.bd .nil pass0 (pa_cons (pv 0) (pa_cons pe_int pa_nil))))) (pss_cons (ps_set (i := 2) sc_law_large.nd rfl (.inl rfl) (pe_op op_add pe_int (pe_call (ok_law_pick T) (hr.mono (by decide)) (by rfl) T.t_law_pick.gl T.t_law_pick.fn.kp T.t_law_pick.bd .nil pass0 (pa_cons (pv 0) (pa_cons pe_int pa_nil))))) (pss_cons (ps_set (i := 3) sc_law_large.nd rfl (.inl rfl) (pe_lst pa_nil)) (pss_cons (ps_for PassesOwn.never rfl (pi_range1 (by rfl) T.z_range (pa_cons (pe_op op_add pe_int (pe_call (ok_law_pick T) (hr.mono (by decide)) (by rfl) T.t_law_pick.gl T.t_law_pick.fn.kp T.t_law_pick.bd .nil pass0 (pa_cons (pv 0) (pa_cons pe_int pa_nil)))) pa_nil)) (pg_name (i := 4) sc_law_large.nd rfl (.inl rfl)) (pss_cons (ps_set (i := 5) sc_law_large.nd rfl (.inl rfl) (pe_call (ok_law_pick T) (hr.mono (by decide)) (by rfl) T.t_law_pick.gl T.t_law_pick.fn.kp T.t_law_pick.bd .nil pass0 (pa_cons (pv 0) (pa_cons (pv 1) pa_nil)))) (pss_cons (ps_set (i := 6) sc_law_large.nd rfl (.inl rfl) (pe_call (ok_law_pick T) (hr.mono (by decide)) (by rfl) T.t_law_pick.gl T.t_law_pick.fn.kp T.t_law_pick.bd .nil pass0 (pa_cons (pv 0) (pa_cons pe_int pa_nil)))) (pss_one (ps_expr (pe_bm PySem.F.plainAttrs_list PySem.F.slot_list_append PySem.F.type_list_append mt_append (pv 3) (pa_cons (pe_tup (pa_cons (pv 5) (pa_cons (pv 6) (pa_cons (pe_op op_add (pe_op op_add (pv 6) pe_int) (pe_call (ok_law_pick T) (hr.mono (by decide)) (by rfl) T.t_law_pick.gl T.t_law_pick.fn.kp T.t_law_pick.bd .nil pass0 (pa_cons (pv 0) (pa_cons pe_int pa_nil)))) pa_nil)))) pa_nil))))))) (pss_cons (ps_set (i := 7) sc_law_large.nd rfl (.inl rfl) (pe_call (ok_law_rules T) (hr.mono (by decide)) (by rfl) T.t_law_rules.gl T.t_law_rules.fn.kp T.t_law_rules.bd .nil pass0 (pa_cons (pv 0) pa_nil))) (pss_cons (ps_set (i := 8) sc_law_large.nd rfl (.inl rfl) (pe_call (ok_law_pick T) (hr.mono (by decide)) (by rfl) T.t_law_pick.gl T.t_law_pick.fn.kp T.t_law_pick.bd .nil pass0 (pa_cons (pv 0) (pa_cons pe_int pa_nil)))) (pss_cons (ps_set (i := 9) sc_law_large.nd rfl (.inl rfl) (pe_op op_add pe_int (pe_call (ok_law_pick T) (hr.mono (by decide)) (by rfl) T.t_law_pick.gl T.t_law_pick.fn.kp T.t_law_pick.bd .nil pass0 (pa_cons (pv 0) (pa_cons pe_int pa_nil))))) (pss_cons (ps_set (i := 10) sc_law_large.nd rfl (.inl rfl) (pe_op op_add pe_int (pe_call (ok_law_pick T) (hr.mono (by decide)) (by rfl) T.t_law_pick.gl T.t_law_pick.fn.kp T.t_law_pick.bd .nil pass0 (pa_cons (pv 0) (pa_cons pe_int pa_nil))))) (pss_cons (ps_set (i := 11) sc_law_large.nd rfl (.inl rfl) (pe_make T.mk_Settings (ok_SettingsI T) (hr.mono (by decide)) (by rfl) T.g_Settings T.B_Settings_init .nil pass0 (pa_cons (pe_make T.mk_Shape (ok_ShapeI T) (hr.mono (by decide)) (by rfl) T.g_Shape T.t_Shape_init.bd .nil pass0 (pa_cons (pv 2) (pa_cons (pv 1) pa_nil))) (pa_cons (pv 8) (pa_cons (pv 9) (pa_cons (pe_op op_add pe_int (pe_call (ok_law_pick T) (hr.mono (by decide)) (by rfl) T.t_law_pick.gl T.t_law_pick.fn.kp T.t_law_pick.bd .nil pass0 (pa_cons (pv 0) (pa_cons pe_int pa_nil)))) (pa_cons (pv 7) pa_nil))))))) (pss_one (ps_ret (pe_tup (pa_cons (pe_make T.mk_Small (ok_SmallI T) (hr.mono (by decide)) (by rfl) T.g_Small T.t_Small_init.bd .nil pass0 (pa_cons (pv 11) (pa_cons (pv 3) (pa_cons (pv 10) pa_nil)))) (pa_cons (pe_tup (pa_cons (pv 2) (pa_cons (pv 1) (pa_cons (pv 8) (pa_cons (pv 9) (pa_cons (pv 7) (pa_cons (pv 3) (pa_cons (pv 10) pa_nil)))))))) pa_nil)))))))))))))), ?_⟩
    refine ⟨_, rfl, p, 3, 0, rfl, hp, by decide, by decide, by decide, fun sl H1 a1 b1 s1 hp1 => ⟨_, _, rfl, rfl, ?_⟩⟩
    refine ⟨_, rfl, p, 3, 1, rfl, hp1, by decide, by decide, by decide, fun ct H2 a2 b2 s2' hp2 => ⟨_, _, rfl, rfl, ?_⟩⟩
    have s2 := s1.trans s2'
    refine ⟨Nat.zero_le _, fun al hal => ?_⟩
    have nap : al ≠ p := fun z => by
      obtain ⟨n0, n1, n2, e1, _⟩ := hp2
      rw [z, e1] at hal; cases hal
    have hal0 : H al = none := by
      cases e : H al with
      | none => rfl
      | some o =>
        have := s2 _ _ e (by simpa using nap)
        rw [hal] at this; cases this
    have u3 := same_new (o := .lst []) hal
    have hp3 := hp2.on u3
    have s3 := s2.trans (SameBut.of u3)
    have hal3 : (upd H2 al (.lst [])) al = some (.lst []) := upd_same
    generalize upd H2 al (.lst []) = H3 at *
    dsimp only [L2.start, List.map, List.length, List.replicate, List.set, HAppend.hAppend, Append.append, List.append]
    refine ⟨_, rfl, p, 2, 2, rfl, hp3, by decide, by decide, by decide, fun nx H4 a4 b4 s4' hp4 => ⟨_, _, rfl, rfl, _, rfl, by omega, by omega, ?_⟩⟩
    have s4 := s3.trans s4'
    have hal4 := s4' _ _ hal3 (by simpa using nap)
    refine for_range (n := (1 + nx).toNat) (fun i σ H' => ∃ (as : List Ar) (vas : List V) (v4 v5 v6 : Option V), σ = [some (.ref p), some (.int (1 + sl)), some (.int (1 + ct)), some (.ref al), v4, v5, v6, none, none, none, none, none] ∧ SameBut [p] H H' ∧ HandL H' p (3 + 3 * i) ∧ H' al = some (.lst vas) ∧ Dts H' (as.map eAr) vas ∧ as.length = i ∧
      ∀ a ∈ as, 0 ≤ a.1 ∧ a.1 < 1 + sl ∧ 0 ≤ a.2.1 ∧ a.2.1 < a.2.2) ⟨[], [], none, none, none, rfl, s4, hp4, hal4, .nil, rfl, (fun _ z => nomatch z)⟩ ?_ ?_
    · rintro i σ H5 hi ⟨as, vas, v4, v5, v6, rfl, s5, hp5, hal5, das, len5, hok5⟩
      have hi2 : i < 2 := by omega
      refine ⟨_, rfl, _, rfl, p, 1 + sl, _, rfl, hp5, by omega, by omega, by omega, fun x1 H6 c1 d1 s6' hp6 => ?_⟩
      have s6 := s5.trans s6'
      have t6 := s6'.ts1 hp5
      have hal6 := s6' _ _ hal5 (by simpa using nap)
      dsimp only [List.set]
      refine ⟨_, rfl, p, 4, _, rfl, hp6, by omega, by decide, by decide, fun x2 H7 c2 d2 s7' hp7 => ?_⟩
      have s7 := s6.trans s7'
      have t7 := t6.trans (s7'.ts1 hp6)
      have hal7 := s7' _ _ hal6 (by simpa using nap)
      dsimp only [List.set]
      refine ⟨_, rfl, .inl ⟨rfl, _, SqL.of hal7⟩, ?_⟩
      refine ⟨_, rfl, _, rfl, _, rfl, _, _, rfl, rfl, _, rfl, p, 4, _, rfl, hp7, by omega, by decide, by decide, fun x3 H8 c3 d3 s8' hp8 => ⟨_, _, rfl, rfl, (by show 3 ≤ sizeLine; decide), fun t ht => ?_⟩⟩
      have s8 := s7.trans s8'
      have t8 := t7.trans (s8'.ts1 hp7)
      have hal8 := s8' _ _ hal7 (by simpa using nap)
      have u9 := same_new (o := .tup [.int x1, .int x2, .int (x2 + 1 + x3)]) ht
      have hal9 := u9 _ _ hal8
      have hp9 := hp8.on u9
      refine ⟨al, vas, .ref t, rfl, rfl, hal9, ?_, ?_⟩
      · rw [das.len, List.length_map, len5]
        exact small1k (by omega)
      · refine ⟨as ++ [(x1, x2, x2 + 1 + x3)], vas ++ [.ref t], _, _, _, rfl, ?_, ?_, upd_same, ?_, by rw [List.length_append, len5]; rfl, ?_⟩
        · intro b o q nb
          rw [upd_ne (ne_of_none q hal0)]
          exact (s8.trans (SameBut.of u9)) b o q nb
        · obtain ⟨n0, n1, n2, e1, e2, e3⟩ := hp9
          exact ⟨n0, n1, n2, by rw [upd_ne nap.symm]; exact e1, e2, by omega⟩
        · rw [List.map_append]
          refine Dts.snoc ((das.on (t8.trans u9.ts)).on (TSame.lst hal9)) (Dt.on (Dt.ofAr upd_same) (TSame.lst hal9))
        · intro a ha
          rcases List.mem_append.mp ha with ha | ha
          · exact hok5 a ha
          · rw [List.mem_singleton.mp ha]
            exact ⟨c1, d1, c2, by show x2 < x2 + 1 + x3; omega⟩
    · rintro σ H5 ⟨as, vas, v4, v5, v6, rfl, s5, hp5, hal5, das, len5, hok5⟩
      have hlen : as.length = 1 ∨ as.length = 2 := by omega
      have hp5' : HandL H5 p 9 := hp5.mono (by omega)
      refine ⟨_, rfl, p, 9, rfl, hp5', by decide, fun rl rs H6 s6' hp6 hrl0 hrl6 hRs => ?_⟩
      have s6 := s5.trans s6'
      have t6 := s6'.ts1 hp5'
      have hal6 := s6' _ _ hal5 (by simpa using nap)
      have nrp : rl ≠ p := hand_ne_strs hp6 hrl6
      dsimp only [List.set]
      refine ⟨_, rfl, p, 4, 15, rfl, hp6, by decide, by decide, by decide, fun far H7 f0 f4 s7' hp7 => ?_⟩
      have t7 := t6.trans (s7'.ts1 hp6)
      have hal7 := s7' _ _ hal6 (by simpa using nap)
      have hrl7 := s7' _ _ hrl6 (by simpa using nrp)
      dsimp only [List.set]
      refine ⟨_, rfl, p, 3, 16, rfl, hp7, by decide, by decide, by decide, fun rm H8 r0 r3 s8' hp8 => ⟨_, _, rfl, rfl, ?_⟩⟩
      have t8 := t7.trans (s8'.ts1 hp7)
      have hal8 := s8' _ _ hal7 (by simpa using nap)
      have hrl8 := s8' _ _ hrl7 (by simpa using nrp)
      dsimp only [List.set]
      refine ⟨_, rfl, p, 4, 17, rfl, hp8, by decide, by decide, by decide, fun mo H9 m0 m4 s9' hp9 => ?_⟩
      obtain ⟨m, rfl⟩ := Int.eq_ofNat_of_zero_le m0
      refine ⟨_, _, rfl, rfl, ?_⟩
      have t9 := t8.trans (s9'.ts1 hp8)
      have hal9 := s9' _ _ hal8 (by simpa using nap)
      have hrl9 := s9' _ _ hrl8 (by simpa using nrp)
      have s9 := ((s6.trans s7').trans s8').trans s9'
      dsimp only [List.set]
      -- Shape(counts, slots)
      refine ⟨_, rfl, _, rfl, fun x dx hx hdx hne => ⟨x, dx, 1 + ct, 1 + sl, rfl, ⟨by omega, by omega⟩, ⟨by omega, by omega⟩, upd_same, fun H10 sb10 hSh => ⟨rfl, ?_⟩⟩⟩
      have u10 := made_same hx hdx sb10
      have hp10 := hp9.on u10
      refine ⟨_, rfl, _, rfl, _, rfl, p, 5, 18, rfl, hp10, by decide, by decide, by decide, fun term H11 e0 e5 s11' hp11 => ⟨_, _, rfl, rfl, _, rfl, ?_⟩⟩
      have hSh11 := hSh.sb s11' hp10
      have t11 := (t9.trans u10.ts).trans (s11'.ts1 hp10)
      have hal11 := s11' _ _ (u10 _ _ hal9) (by simpa using nap)
      have hrl11 := s11' _ _ (u10 _ _ hrl9) (by simpa using nrp)
      have s11 := (s9.trans (SameBut.of u10)).trans s11'
      intro x2 dx2 hx2 hdx2 hne2
      have u12 : Same H11 (upd (upd H11 dx2 (.own x2)) x2 (.ins A.c_Settings dx2 [])) := fun b o e => by
        rw [upd_ne (ne_of_none e hx2), upd_ne (ne_of_none e hdx2)]
        exact e
      refine ⟨x2, dx2, x, rl, 1 + ct, 1 + sl, far, 1 + rm, 1 + term, rs, rfl, upd_same, hSh11.on u12, ⟨by omega, by omega⟩, ⟨by omega, by omega⟩, ⟨by omega, by omega⟩, u12 _ _ hrl11, hRs.nd, hRs.five, hRs.len, fun H13 rs2 sb13 hSe hrs2 => ⟨rfl, ?_⟩⟩
      have u13 := made_same hx2 hdx2 sb13
      have hp13 := hp11.on u13
      have hal13 := u13 _ _ hal11
      have hrl13 := u13 _ _ hrl11
      have d13 := das.on (t11.trans u13.ts)
      have s13 := s11.trans (SameBut.of u13)
      have hrlE : rlOf rs = rlOf rs2 := rlOf_ext fun y => (hrs2 y).symm
      -- the world
      have hC : SetC A K H13 x2 ⟨1 + ct, 1 + sl, far, 1 + rm, as, 1 + m, rlOf rs⟩ rs2 := ⟨⟨_, hSe⟩, hrlE, ⟨by show 1 ≤ 1 + ct; omega, by show 1 + ct ≤ 1000; omega⟩, ⟨by show 1 ≤ 1 + sl; omega, by show 1 + sl ≤ 1000; omega⟩⟩
      have hOk : Cf.Ok ⟨1 + ct, 1 + sl, far, 1 + rm, as, 1 + m, rlOf rs⟩ := by
        refine ⟨⟨?_, ?_, ?_, ?_, hok5⟩, f0, ?_, ?_, ?_, ?_, ?_⟩
        · show 1 ≤ 1 + ct; omega
        · show 1 + ct ≤ 3; omega
        · show 1 ≤ 1 + sl; omega
        · show 1 + sl ≤ 3; omega
        · show 1 ≤ 1 + rm; omega
        · show 1 ≤ as.length; omega
        · show as.length ≤ 2; omega
        · show 1 ≤ 1 + m; omega
        · show 1 + m ≤ 4; omega
      dsimp only [List.set]
      refine ⟨_, rfl, _, rfl, _, rfl, ?_⟩
      intro x3 dx3 hx3 hdx3 hne3
      have u14 : Same H13 (upd (upd H13 dx3 (.own x3)) x3 (.ins A.c_Small dx3 [])) := fun b o e => by
        rw [upd_ne (ne_of_none e hx3), upd_ne (ne_of_none e hdx3)]
        exact e
      refine ⟨x3, dx3, x2, al, vas, ⟨1 + ct, 1 + sl, far, 1 + rm, as, 1 + m, rlOf rs⟩, rs2, rfl, upd_same, hC.on u14, u14 _ _ hal13, d13.on u14.ts, fun H15 ar sb15 har hSm => ⟨rfl, ?_⟩⟩
      have u15 := made_same hx3 hdx3 sb15
      refine ⟨_, rfl, _, rfl, _, rfl, _, rfl, _, rfl, _, rfl, _, rfl, (by show 7 ≤ sizeLine; decide), fun nu hnu => ⟨(by show 2 ≤ sizeLine; decide), fun t ht => ?_⟩⟩
      have u16 := same_new (o := .tup [.int (1 + ct), .int (1 + sl), .int far, .int (1 + rm), .ref rl, .ref al, .int (1 + (m : Int))]) hnu
      have hN : NumsAt (upd H15 nu (.tup [.int (1 + ct), .int (1 + sl), .int far, .int (1 + rm), .ref rl, .ref al, .int (1 + (m : Int))])) nu ⟨1 + ct, 1 + sl, far, 1 + rm, as, 1 + m, rlOf rs⟩ rs :=
        ⟨rl, al, vas, upd_same, u16 _ _ (u15 _ _ hrl13), rfl, hRs, u16 _ _ (u15 _ _ hal13), d13.on (u15.trans u16).ts⟩
      have u17 := same_new (o := .tup [.ref x3, .ref nu]) ht
      have uall := (u15.trans u16).trans u17
      exact k t x3 nu _ rs2 rs _ (s13.trans (SameBut.of uall)) ((hp13.on uall).mono (by decide)) upd_same ⟨x2, ar, (hSm.on u16).on u17⟩ (hN.on u17) hOk
end
end K87
end
section
set_option Elab.async false
set_option linter.all false
set_option maxRecDepth 100000
set_option maxHeartbeats 4000000
/-! K87W26: law. -/
namespace K87
open PySem PySem.Spec L2
open PyProof.Rows hiding St
theorem okTs_D : ∀ ds : List Deed, okTs (ds.map eD) = true
  | [] => rfl
  | d :: ds => by
    show (okT (eD d) && okTs (ds.map eD)) = true
    rw [okT_D, okTs_D ds]
    rfl
theorem depth_Ds : ∀ ds : List Deed, NestedKey.depthAll (ds.map eD) ≤ 1
  | [] => by simp [NestedKey.depthAll]
  | d :: ds => by
    have h1 := depth_D d
    have h2 := depth_Ds ds
    show max _ _ ≤ 1
    omega
/-- a list of deeds as data -/
theorem deeds_dp {H : Hp} {K : PySem.W.Frag} {ds : List Deed} {vs : List V} (h : Dts H (ds.map eD) vs) : DpAll K H vs (NestedKey.datas (ds.map eD)) ∧ SeqAt.shaped (.list (NestedKey.datas (ds.map eD))) = true := by
  refine ⟨Dts.dp _ _ h, shaped_list (canLay_datas _ (okTs_D ds)) ?_⟩
  rw [depth_datas]
  have := depth_Ds ds
  omega
theorem datas_nil {ds : List Deed} : (NestedKey.datas (ds.map eD)).isEmpty = ds.isEmpty := by cases ds <;> simp [NestedKey.datas]
theorem Dts.last {H : Hp} : ∀ {ks : List Dat} {vs : List V}, ks ≠ [] → Dts H ks vs → ∃ ini v k, vs = ini ++ [v] ∧ k ∈ ks ∧ Dt H k v
  | [], _, h, _ => absurd rfl h
  | [k], _, _, d => by
    obtain ⟨v, ws, rfl, d1, d2⟩ := d.cons_inv
    cases d2.nil_inv
    exact ⟨[], v, k, rfl, List.mem_cons_self, d1⟩
  | k :: k2 :: r, _, _, d => by
    obtain ⟨v, ws, rfl, d1, d2⟩ := d.cons_inv
    obtain ⟨ini, v', k', e, hk, hd⟩ := Dts.last (ks := k2 :: r) (by simp) d2
    exact ⟨v :: ini, v', k', by rw [e]; rfl, List.mem_cons_of_mem _ hk, hd⟩
theorem cfL_ok {c f g : Int} {R : Rl} (hc : c = 1 ∨ c = 2) (hf : f = 0 ∨ f = 1) (hg : g = 0 ∨ g = 1) : (cfL c f g R).Ok := by
  refine ⟨⟨?_, ?_, ?_, ?_, fun a ha => ?_⟩, ?_, ?_, ?_, ?_, ?_, ?_⟩
  · show 1 ≤ c; omega
  · show c ≤ 3; omega
  · show (1 : Int) ≤ 1; omega
  · show (1 : Int) ≤ 3; omega
  · rw [List.mem_singleton.mp ha]
    exact ⟨Int.le_refl _, by show (0 : Int) < 1; decide, by show 0 ≤ g; omega, by show g < g + 3 - c; omega⟩
  · show 0 ≤ f; omega
  · show (1 : Int) ≤ 1; omega
  · show 1 ≤ 1; omega
  · show 1 ≤ 2; omega
  · show 1 ≤ (3 - c).toNat; omega
  · show (3 - c).toNat ≤ 4; omega
theorem all_forbidden {rs : List Str} (h : ∀ x ∈ five, x ∈ rs) (b : W4) : forbids (rlOf rs) b = true := by
  have h1 : ("ahead" : Str) ∈ rs := h _ (by decide +kernel)
  have h2 : ("ends" : Str) ∈ rs := h _ (by decide +kernel)
  have h3 : ("once" : Str) ∈ rs := h _ (by decide +kernel)
  have h4 : ("spoken" : Str) ∈ rs := h _ (by decide +kernel)
  cases b <;> simp [forbids, rlOf, h1, h2, h3, h4]
section
variable {P : Program} {w : World} {K : PySem.W.Frag} {mg : Str → Option Value} {base : Heap} {A : Ads}

def spLaw (K : PySem.W.Frag) : Sp := fun vs H Q _ => ∃ (a : Addr) (ns : List Int), vs = [.ref a] ∧ SqL K H a (ns.map V.int) ∧ ns.length ≤ 63 ∧ ∀ H', Q (.bl true) H'
theorem ok_law (T : Txt K mg A) : FnOk P w K mg base CX0 20 A.f_law A.d_law ["_law_script"] (spLaw K) := by
  refine T.t_law.fn.ok sc_law (fun vs H Q E h => ?_) (fun cdv A' outer s0 H vs Q E hr h => ?_)
  · obtain ⟨sc, ns, rfl, _⟩ := h
    rfl
  · obtain ⟨sc, ns, rfl, hsc, h63, k⟩ := h
    refine ⟨_, (pss_cons (ps_set (i := 1) sc_law.nd rfl (.inl rfl) (pe_call (ok_law_hand T) (hr.mono (by decide)) (by rfl) T.t_law_hand.gl T.t_law_hand.fn.kp T.t_law_hand.bd .nil pass0 (pa_cons (pv 0) (pa_cons pe_int pa_nil)))) (pss_cons (ps_asg (pe_call (ok_law_large T) (hr.mono (by decide)) (by rfl) T.t_law_large.gl T.t_law_large.fn.kp T.t_law_large.bd .nil pass0 (pa_cons (pv 1) pa_nil)) (pg_tup rfl (pgs_cons (pg_name (i := 2) sc_law.nd rfl (.inl rfl)) (pgs_cons (pg_name (i := 3) sc_law.nd rfl (.inl rfl)) pgs_nil)))) (pss_cons (ps_set (i := 4) sc_law.nd rfl (.inl rfl) (pe_lst pa_nil)) (pss_cons (ps_for PassesOwn.never rfl (pi_range2 (by rfl) T.z_range (pa_cons pe_int (pa_cons (pe_callB (call_mn2 rfl) (by rfl) T.z_min boot_min (pa_cons (pe_callB call_len_seq (by rfl) T.z_len PySem.boot_len (pa_cons (pv 0) pa_nil)) (pa_cons pe_int pa_nil))) pa_nil))) (pg_name (i := 5) sc_law.nd rfl (.inl rfl)) (pss_one (ps_expr (pe_bm PySem.F.plainAttrs_list PySem.F.slot_list_append PySem.F.type_list_append mt_append (pv 4) (pa_cons (pe_call (ok_law_deed T) (hr.mono (by decide)) (by rfl) T.t_law_deed.gl T.t_law_deed.fn.kp T.t_law_deed.bd .nil pass0 (pa_cons (pe_call (ok_law_hand T) (hr.mono (by decide)) (by rfl) T.t_law_hand.gl T.t_law_hand.fn.kp T.t_law_hand.bd .nil pass0 (pa_cons (pv 0) (pa_cons (pv 5) pa_nil))) (pa_cons (pv 3) (pa_cons (pe_or (pe_cmpR (op_eqD (ru64 hr)) (pv 4) (pe_lst pa_nil) (by rfl)) (pe_one (pe_cmpR (op_neN (ru64 hr)) (pe_ix ix_list (pv 4) (pe_un un_neg pe_int) (fun _ _ => rfl)) (pe_tup (pa_cons pe_str pa_nil)) (by rfl)))) pa_nil)))) pa_nil))))) (pss_cons (ps_if (PW.pt (pw_or (pt_not (pt_val (pe_call (ok_law_world_right T) (hr.mono (by decide)) (by rfl) T.t_law_world_right.gl T.t_law_world_right.fn.kp T.t_law_world_right.bd .nil pass0 (pa_cons (pv 2) (pa_cons (pv 3) (pa_cons (pv 4) pa_nil)))))) (pw_or1 (pt_not (pt_val (pe_call (ok_law_hand_right T) (hr.mono (by decide)) (by rfl) T.t_law_hand_right.gl T.t_law_hand_right.fn.kp T.t_law_hand_right.bd .nil pass0 (pa_cons (pe_fld (pv 2) rfl) (pa_cons (pv 3) (pa_cons (pv 4) pa_nil))))))))) (pss_one (ps_ret pe_bl)) pss_nil) (pss_cons (ps_set (i := 6) sc_law.nd rfl (.inl rfl) (pe_op op_add pe_int (pe_call (ok_law_pick T) (hr.mono (by decide)) (by rfl) T.t_law_pick.gl T.t_law_pick.fn.kp T.t_law_pick.bd .nil pass0 (pa_cons (pv 1) (pa_cons pe_int pa_nil))))) (pss_cons (ps_set (i := 7) sc_law.nd rfl (.inl rfl) (pe_make T.mk_Settings (ok_SettingsI T) (hr.mono (by decide)) (by rfl) T.g_Settings T.B_Settings_init .nil pass0 (pa_cons (pe_make T.mk_Shape (ok_ShapeI T) (hr.mono (by decide)) (by rfl) T.g_Shape T.t_Shape_init.bd .nil pass0 (pa_cons (pv 6) (pa_cons pe_int pa_nil))) (pa_cons (pe_call (ok_law_pick T) (hr.mono (by decide)) (by rfl) T.t_law_pick.gl T.t_law_pick.fn.kp T.t_law_pick.bd .nil pass0 (pa_cons (pv 1) (pa_cons pe_int pa_nil))) (pa_cons pe_int (pa_cons pe_int (pa_cons (pe_ix ix_tup (pv 3) pe_int (fun _ _ => rfl)) pa_nil))))))) (pss_cons (ps_set (i := 8) sc_law.nd rfl (.inl rfl) (pe_call (ok_law_pick T) (hr.mono (by decide)) (by rfl) T.t_law_pick.gl T.t_law_pick.fn.kp T.t_law_pick.bd .nil pass0 (pa_cons (pv 1) (pa_cons pe_int pa_nil)))) (pss_cons (ps_asg (pe_call (ok_look T) (hr.mono (by decide)) (by rfl) T.G_look T.F_look.kp T.B_look .nil pass0 (pa_cons (pe_make T.mk_Small (ok_SmallI T) (hr.mono (by decide)) (by rfl) T.g_Small T.t_Small_init.bd .nil pass0 (pa_cons (pv 7) (pa_cons (pe_lst (pa_cons (pe_tup (pa_cons pe_int (pa_cons (pv 8) (pa_cons (pe_op op_sub (pe_op op_add (pv 8) pe_int) (pv 6)) pa_nil)))) pa_nil)) (pa_cons (pe_op op_sub pe_int (pv 6)) pa_nil)))) (pa_cons pe_int pa_nil))) (pg_tup rfl (pgs_cons (pg_name (i := 9) sc_law.nd rfl (.inl rfl)) (pgs_cons (pg_name (i := 10) sc_law.nd rfl (.inl rfl)) (pgs_cons (pg_name (i := 11) sc_law.nd rfl (.inl rfl)) pgs_nil))))) (pss_cons (ps_if (pt_cmpR op_inS (pv 9) (pe_call (ok_law_forbidden T) (hr.mono (by decide)) (by rfl) T.t_law_forbidden.gl T.t_law_forbidden.fn.kp T.t_law_forbidden.bd .nil pass0 (pa_cons (pe_ix ix_tup (pv 3) pe_int (fun _ _ => rfl)) pa_nil)) (by rfl)) (pss_one (ps_ret pe_bl)) pss_nil) (pss_one (ps_ret (pe_or (pe_cmpR op_eq (pv 9) pe_str (nomark _)) (pe_one (pe_cmpR op_lt (pe_callB call_len_seq (by rfl) T.z_len PySem.boot_len (pa_cons (pe_ix ix_tup (pv 3) pe_int (fun _ _ => rfl)) pa_nil)) pe_int (nomark _)))))))))))))))), ?_⟩
    refine ⟨_, rfl, sc, ns, 0, rfl, hsc, Int.le_refl _, fun hd H1 s1 hhd hL => ?_⟩
    refine ⟨_, rfl, hd, rfl, hL, fun t sm nu c rs rs' H2 s2 hL2 ht hM hN hc => ?_⟩
    refine ⟨t, _, rfl, SqT.of ht, rfl, _, _, rfl, _, _, rfl, rfl, ?_⟩
    have e2 : Same H H2 := fun b o q => s2 b o (s1 _ _ q) (by
      have n1 : b ≠ hd := ne_of_none q hhd
      simp [n1])
    refine ⟨Nat.zero_le _, fun dl hdl => ?_⟩
    have u3 := same_new (o := .lst []) hdl
    have hdl3 : (upd H2 dl (.lst [])) dl = some (.lst []) := upd_same
    have fl : ∀ {H1 : Hp}, Same H2 H1 → ∀ xs, Same H2 (upd H1 dl (.lst xs)) := fun e xs b o q => by
      rw [upd_ne (ne_of_none q hdl)]
      exact e b o q
    generalize upd H2 dl (.lst []) = H3 at *
    dsimp only [L2.start, List.map, List.length, List.replicate, List.set, HAppend.hAppend, Append.append, List.append]
    refine ⟨_, rfl, sc, _, rfl, .inl (SqL.onS hsc (e2.trans u3)), _, _, rfl, _, _, rfl, ?_, ?_⟩
    · rw [List.length_map]
      refine ⟨by decide, by decide, by omega, by omega⟩
    refine for_range (fun i σ H' => ∃ (ds : List Deed) (vds : List V) (v5 : Option V), σ = [some (.ref sc), some (.ref hd), some (.ref sm), some (.ref nu), some (.ref dl), v5, none, none, none, none, none, none] ∧ Same H2 H' ∧ H' dl = some (.lst vds) ∧ Dts H' (ds.map eD) vds ∧ (∀ d ∈ ds, d.Ok c) ∧ ds.length = i)
      ⟨[], [], none, rfl, u3, hdl3, .nil, (fun _ z => nomatch z), rfl⟩ ?_ ?_
    · rintro i σ H4 hi ⟨ds, vds, v5, rfl, s4, hdl4, hds, hdok, hlen⟩
      have hi60 : i < 60 := by
        rw [List.length_map] at hi
        omega
      refine ⟨_, rfl, .inl ⟨rfl, _, SqL.of hdl4⟩, ?_⟩
      refine ⟨_, rfl, _, rfl, sc, ns, _, rfl, SqL.onS hsc (e2.trans s4), by omega, fun hp H5 s5 hpn hp5 => ?_⟩
      have s45 := s4.trans s5
      have hdl5 := s5 _ _ hdl4
      have hds5 := hds.on s5.ts
      refine ⟨_, rfl, _, rfl, Nat.zero_le _, fun z hz => ?_⟩
      have u6 := same_new (o := .lst []) hz
      obtain ⟨dp1, dp2⟩ := deeds_dp (K := K) (hds5.on u6.ts)
      refine ⟨.list (NestedKey.datas (ds.map eD)), .list [], .lst (SqL.of (u6 _ _ hdl5)) dp1, .lst (SqL.of upd_same) .nil, dp2, shaped_list rfl (by simp [PyData.depthAll]), ?_⟩
      rw [eqv_nil, datas_nil]
      generalize upd H5 z (.lst []) = H6 at *
      cases ds with
      | nil =>
        refine ⟨true, rfl, iteT ?_⟩
        refine ⟨hp, nu, true, 0, c, rs', rfl, hp5.on u6, by decide, hN.on (s45.trans u6), hc, fun d t H' s' ok' dt' => ?_⟩
        · have sall : Same H4 H' := fun b o q => s' b o ((s5.trans u6) _ _ q) (by
            have n1 : b ≠ hp := ne_of_none q hpn
            simp [n1])
          have hdl' := sall _ _ hdl4
          refine ⟨dl, vds, .ref t, rfl, rfl, hdl', ?_, ?_⟩
          · rw [hds.len, List.length_map, hlen]
            exact small1k (by omega)
          · refine ⟨[] ++ [d], vds ++ [.ref t], _, rfl, fl (s4.trans sall) _, upd_same, ?_, ?_, by rw [List.length_append, hlen]; rfl⟩
            · rw [List.map_append]
              exact Dts.snoc ((hds.on sall.ts).on (TSame.lst hdl')) (dt'.on (TSame.lst hdl'))
            · intro d' hd'
              rcases List.mem_append.mp hd' with hd' | hd'
              · exact hdok d' hd'
              · rw [List.mem_singleton.mp hd']; exact ok'
      | cons d0 dr =>
        refine ⟨false, rfl, iteF ?_⟩
        obtain ⟨ini, v, kd, hv, hkm, dv⟩ := Dts.last (by simp) (hds5.on u6.ts)
        obtain ⟨dd, _, rfl⟩ := List.mem_map.mp hkm
        refine ⟨_, rfl, _, rfl, dl, _, -1, v, rfl, rfl, SqL.of (u6 _ _ hdl5), (by rw [hv]; exact atI_last _ _), (by show 1 ≤ sizeLine; decide), fun y hy => ?_⟩
        have u7 := same_new (o := .tup [.str "fall"]) hy
        refine ⟨eD dd, eD .fall, dv.on u7.ts, .tup upd_same (.cons (.txt _) .nil), ⟨okT_D _, Nat.le_trans (depth_D _) (by decide)⟩, ⟨okT_D _, Nat.le_trans (depth_D _) (by decide)⟩, ?_⟩
        refine ⟨hp, nu, _, 0, c, rs', rfl, hp5.on (u6.trans u7), by decide, hN.on (s45.trans (u6.trans u7)), hc, fun d t H' s' ok' dt' => ?_⟩
        · have sall : Same H4 H' := fun b o q => s' b o ((s5.trans (u6.trans u7)) _ _ q) (by
            have n1 : b ≠ hp := ne_of_none q hpn
            simp [n1])
          have hdl' := sall _ _ hdl4
          refine ⟨dl, vds, .ref t, rfl, rfl, hdl', ?_, ?_⟩
          · rw [hds.len, List.length_map, hlen]
            exact small1k (by omega)
          · refine ⟨(d0 :: dr) ++ [d], vds ++ [.ref t], _, rfl, fl (s4.trans sall) _, upd_same, ?_, ?_, by rw [List.length_append, hlen]; rfl⟩
            · rw [List.map_append]
              exact Dts.snoc ((hds.on sall.ts).on (TSame.lst hdl')) (dt'.on (TSame.lst hdl'))
            · intro d' hd'
              rcases List.mem_append.mp hd' with hd' | hd'
              · exact hdok d' hd'
              · rw [List.mem_singleton.mp hd']; exact ok'
    · rintro σ H4 ⟨ds, vds, v5, rfl, s4, hdl4, hds, hdok, hlen⟩
      have hn60 : ds.length ≤ 60 := by
        rw [hlen, List.length_map]
        omega
      have hM4 := hM.on s4
      obtain ⟨se, ar, hMP⟩ := id hM4
      obtain ⟨dx, vas, f1, fS, f3, f4⟩ := id hMP
      refine ⟨_, rfl, _, rfl, _, rfl, sm, nu, dl, c, rs, rs', ds, vds, rfl, hM4, hN.on s4, hc, hdl4, hds, hdok, hn60, fun H5 s5 => ⟨true, rfl, iteF ?_⟩⟩
      refine ⟨_, rfl, sm, A.c_Small, dx, _, _, rfl, s5 _ _ f1, T.cl_Small, T.n_Small_settings, mlk_settings, _, rfl, _, rfl, se, nu, dl, c, rs, rs', ds, vds, rfl, fS.on s5, hN.on (s4.trans s5), hc, s5 _ _ hdl4, hds.on s5.ts, hdok, hn60, fun H6 s6 => ⟨true, rfl, iteF ?_⟩⟩
      have s26 := s4.trans (s5.trans s6)
      have hL6 := hL2.on s26
      have hN6 := hN.on s26
      obtain ⟨rl, al, vas2, n1, n2, n3, n4, n5, n6⟩ := id hN6
      have nrp : rl ≠ hd := hand_ne_strs hL6 n2
      refine ⟨_, rfl, hd, 2, 100, rfl, hL6, by decide, by decide, by decide, fun ct H7 c0 c2 s7 hL7 => ⟨_, _, rfl, rfl, ?_⟩⟩
      dsimp only [List.set]
      have rl7 := s7 _ _ n2 (by simpa using nrp)
      have nu7 := s7.ts1 hL6 _ _ n1
      -- Settings(Shape(counts, 1), ..)
      refine ⟨_, rfl, fun x dx2 hx hdx hne => ⟨x, dx2, 1 + ct, 1, rfl, ⟨by omega, by omega⟩, ⟨by decide, by decide⟩, upd_same, fun H8 sb8 hSh => ⟨rfl, ?_⟩⟩⟩
      have u8 := made_same hx hdx sb8
      have hL8 := hL7.on u8
      refine ⟨_, rfl, hd, 2, 101, rfl, hL8, by decide, by decide, by decide, fun far H9 g0 g2 s9 hL9 => ?_⟩
      have hSh9 := hSh.sb s9 hL8
      have rl9 := s9 _ _ (u8 _ _ rl7) (by simpa using nrp)
      have nu9 := s9.ts1 hL8 _ _ (u8 _ _ nu7)
      refine ⟨_, rfl, nu, _, 4, _, rfl, rfl, SqT.of nu9, atI_nat (j := 4) rfl, ?_⟩
      intro x2 dx3 hx2 hdx2 hne2
      have u10 : Same H9 (upd (upd H9 dx3 (.own x2)) x2 (.ins A.c_Settings dx3 [])) := fun b o e => by
        rw [upd_ne (ne_of_none e hx2), upd_ne (ne_of_none e hdx2)]
        exact e
      refine ⟨x2, dx3, x, rl, 1 + ct, 1, far, 1, 1, rs', rfl, upd_same, hSh9.on u10, ⟨by omega, by omega⟩, ⟨by decide, by decide⟩, ⟨by decide, by decide⟩, u10 _ _ rl9, n4.nd, n4.five, n4.len, fun H11 rs2 sb11 hSe hrs2 => ⟨rfl, ?_⟩⟩
      have u11 := made_same hx2 hdx2 sb11
      have hL11 := hL9.on u11
      have rl11 := u11 _ _ rl9
      have nu11 := u11 _ _ nu9
      have hrlE : rlOf rs' = rlOf rs2 := rlOf_ext fun y => (hrs2 y).symm
      dsimp only [List.set]
      refine ⟨_, rfl, hd, 2, 102, rfl, hL11, by decide, by decide, by decide, fun fi H12 h0 h2 s12 hL12 => ?_⟩
      have rl12 := s12 _ _ rl11 (by simpa using nrp)
      have nu12 := s12.ts1 hL11 _ _ nu11
      obtain ⟨ddx, sh, ru, q1, q2, q3⟩ := hSe
      have hSe12 : SetsAt A K H12 x2 (1 + ct) 1 far 1 1 rs2 := ⟨ddx, sh, ru, s12 _ _ q1 (by simpa using hand_ne_ins hL11 q1), q2.sb s12 hL11, s12.ts1 hL11 _ _ q3⟩
      dsimp only [List.set]
      have hct : 1 + ct = 1 ∨ 1 + ct = 2 := by omega
      have hfa : far = 0 ∨ far = 1 := by omega
      have hfi : fi = 0 ∨ fi = 1 := by omega
      have em : 3 - (1 + ct) = (((3 - (1 + ct)).toNat : Nat) : Int) := by omega
      refine ⟨_, rfl, _, rfl, _, rfl, _, _, rfl, rfl, _, rfl, _, _, rfl, rfl, (by show 3 ≤ sizeLine; decide), fun t1 ht1 => ⟨(by show 1 ≤ sizeLine; decide), fun la hla => ⟨_, rfl, _, _, rfl, rfl, ?_⟩⟩⟩
      have u13 := same_new (o := .tup [.int 0, .int fi, .int (fi + 3 - (1 + ct))]) ht1
      have u14 := same_new (o := .lst [.ref t1]) hla
      have ht14 := u14 _ _ (show (upd H12 t1 (.tup [.int 0, .int fi, .int (fi + 3 - (1 + ct))])) t1 = some (.tup [.int 0, .int fi, .int (fi + 3 - (1 + ct))]) from upd_same)
      have hla14 : (upd (upd H12 t1 (.tup [.int 0, .int fi, .int (fi + 3 - (1 + ct))])) la (.lst [.ref t1])) la = some (.lst [.ref t1]) := upd_same
      have s14 := u13.trans u14
      intro x3 dx4 hx3 hdx3 hne3
      have u15 : ∀ {H1 : Hp}, H1 x3 = none → H1 dx4 = none → Same H1 (upd (upd H1 dx4 (.own x3)) x3 (.ins A.c_Small dx4 [])) := fun h1 h2 b o e => by
        rw [upd_ne (ne_of_none e h1), upd_ne (ne_of_none e h2)]
        exact e
      have u15' := u15 hx3 hdx3
      have s15 := s14.trans u15'
      refine ⟨x3, dx4, x2, la, [.ref t1], cfL (1 + ct) far fi (rlOf rs'), rs2, congrArg (fun z => [V.ref x3, V.ref x2, V.ref la, V.int z]) em, upd_same, ⟨⟨1, hSe12.on s15⟩, hrlE, ⟨by show 1 ≤ 1 + ct; omega, by show 1 + ct ≤ 1000; omega⟩, ⟨by show (1 : Int) ≤ 1; decide, by show (1 : Int) ≤ 1000; decide⟩⟩, u15' _ _ hla14, .cons (Dt.ofAr (u15' _ _ ht14)) .nil, fun H16 ar2 sb16 har2 hSm => ⟨rfl, ?_⟩⟩
      have u16 := made_same hx3 hdx3 sb16
      have s16 := s14.trans u16
      refine ⟨x3, cfL (1 + ct) far fi (rlOf rs'), rs2, rfl, ⟨x2, ar2, hSm⟩, cfL_ok hct hfa hfi, runs_all hct hfa hfi (rlOf rs'), fun tl x v2 v3 H17 e17 htl hx => ?_⟩
      refine ⟨tl, _, rfl, SqT.of htl, rfl, _, _, rfl, _, _, rfl, _, _, rfl, rfl, ?_⟩
      dsimp only [List.set]
      have nu17 := e17.tup (s16 _ _ nu12)
      have rl17 := e17.lst (s16 _ _ rl12)
      have hnot : x ∉ fw rs' := by
        rcases hx with rfl | ⟨b, rfl, hb⟩
        · exact fw_never rs'
        · intro z
          have q := (fw_iff rs' b).mp z
          have hb : forbids (rlOf rs') b = false := hb
          rw [q] at hb
          cases hb
      refine ⟨_, rfl, _, rfl, nu, _, 4, _, rfl, rfl, SqT.of nu17, atI_nat (j := 4) rfl, rl, rs', rfl, SqL.of rl17, fun fl H18 s18 hfl => ?_⟩
      refine ⟨x, fl, fw rs', rfl, rfl, .inl (SqL.of hfl), _, rfl, ifdn hnot ?_⟩
      refine ⟨_, rfl, rfl, _, rfl, ifd2 (fun z => k _) (fun z => ?_)⟩
      have hl5 : rs'.length < 5 := by
        rcases hx with rfl | ⟨b, rfl, hb⟩
        · exact absurd rfl z
        · rcases n4.src with h | h
          · exact h
          · have hb : forbids (rlOf rs') b = false := hb
            rw [all_forbidden h b] at hb
            cases hb
      refine ⟨_, rfl, nu, _, 4, _, rfl, rfl, SqT.of (s18 _ _ nu17), atI_nat (j := 4) rfl, rl, _, rfl, .inl (SqL.of (s18 _ _ rl17)), _, _, rfl, rfl, ?_⟩
      have e5 : decide (((rs'.map V.str).length : Int) < 5) = true := decide_eq_true (by rw [List.length_map]; omega)
      show Q (.bl (decide (((rs'.map V.str).length : Int) < 5))) _
      rw [e5]
      exact k _
end
end K87
end
section
set_option Elab.async false
set_option linter.all false
set_option maxRecDepth 100000
set_option maxHeartbeats 4000000
namespace K87
open PySem PySem.Spec L2
open PyProof.Rows hiding St
theorem exm_mk {K : PySem.W.Frag} {C D : Addr} {b : Bool} (h1 : PySem.W.subIn K (.ref D) (.type "BaseException") = some true) (h2 : PySem.W.isClsIn K D = true) (h3 : PySem.W.typeIn K (.ref D) = some (.type "type")) (h4 : PySem.W.subIn K (.ref C) (.ref D) = some b) :
    PySem.W.exmOne K (.ref C) (.ref D) = some b := by
  have e1 : (PySem.W.subIn K (.ref D) (.type "BaseException") == some true) = true := by rw [h1] <;> rfl
  have e2 : ((PySem.W.clsIn K D).isSome && PySem.W.typeIn K (.ref D) == some (.type "type")) = true := by
    have h2' : (PySem.W.clsIn K D).isSome = true := h2
    rw [h2', h3] <;> rfl
  show (if (PySem.W.subIn K (.ref D) (.type "BaseException") == some true) = true then (if ((PySem.W.clsIn K D).isSome && PySem.W.typeIn K (.ref D) == some (.type "type")) = true then PySem.W.subIn K (.ref C) (.ref D) else none) else none) = some b
  rw [if_pos e1, if_pos e2]
  exact h4
theorem exm2_mk {K : PySem.W.Frag} {C D E : Addr} {b d : Bool} (h1 : PySem.W.exmOne K (.ref C) (.ref D) = some b) (h2 : PySem.W.exmOne K (.ref C) (.ref E) = some d) (h : (b || d) = true) : PySem.W.exmAny K (.ref C) [.ref D, .ref E] = some true := by
  show (match PySem.W.exmOne K (.ref C) (.ref D), (match PySem.W.exmOne K (.ref C) (.ref E), (some false : Option Bool) with | some b, some d => some (b || d) | _, _ => none) with | some b, some d => some (b || d) | _, _ => none) = some true
  rw [h1, h2]
  cases b <;> cases d <;> first | rfl | cases h
theorem law_mk {K : PySem.W.Frag} {h : Heap} {mg : Str → Option Value} {f : Addr} {oc : Value} {od an : Option Addr} {osl : Array (Option Value)} {kV doc pm cdv ct : Value} (X : K.In h) (G : h.Ns mainGlobals mg)
    (a : PySem.W.nsIn K mainGlobals "law" = some (some (.ref f))) (l : K.lookup f = some ⟨oc, od, .func (PySem.W.fnOf "law" "law" (defArgs s_law) (defBody s_law) (defScope s_law) .none kV doc pm an cdv ct), osl⟩)
    (c : PySem.W.codeIn K cdv "law" = true) (k : PySem.W.keepIn K (.ref f) = true) : ∃ f fd, DefAt K mg "law" s_law ["_law_script"] f fd ∧ ∀ (s : Shared) (u : Value), BindsTo s fd ⟨[u], []⟩ [("_law_script", u)] :=
  ⟨f, _, ⟨fun_mk l c k, (fun_mk l c k).binds (fun _ _ _ _ _ _ us hl => match us, hl with | [_], _ => rfl), PySem.W.mg_of X G a⟩, fun _ _ => .of_eq rfl⟩
theorem look_mk {K : PySem.W.Frag} {h : Heap} {mg : Str → Option Value} {f D : Addr} {oc oc2 : Value} {od od2 an : Option Addr} {osl osl2 : Array (Option Value)} {kV doc pm cdv ct : Value} {n : Nat} {tk : Tok} (X : K.In h) (G : h.Ns mainGlobals mg)
    (a : PySem.W.nsIn K mainGlobals "look" = some (some (.ref f))) (l : K.lookup f = some ⟨oc, od, .func (PySem.W.fnOf "look" "look" (defArgs s_look) (defBody s_look) (defScope s_look) (.ref D) kV doc pm an cdv ct), osl⟩)
    (c : PySem.W.codeIn K cdv "look" = true) (k : PySem.W.keepIn K (.ref f) = true) (d : K.lookup D = some ⟨oc2, od2, .seq #[.int 400 tk] n, osl2⟩) :
    ∃ f fd, FunD K "look" "look" (defArgs s_look) (defBody s_look) (defScope s_look) [.int 400] [] f fd ∧ Binds K fd ["small", "most"] [] ∧ mg "look" = some (.ref f) := by
  have F : FunD K "look" "look" (defArgs s_look) (defBody s_look) (defScope s_look) [.int 400] [] f _ := ⟨⟨_, _, _, _, _, _, _, _, _, _, rfl, l, c, .inr ⟨by simp, D, _, [.int 400 tk], n, rfl, d, rfl, .cons ⟨_, rfl⟩ .nil⟩, .inl rfl⟩, k⟩
  obtain ⟨ds, hv, hb⟩ := F.binds1 (ps := ["small", "most"]) 2 1 (by simp) rfl fun T kV doc pm an cdv ct us its h1 h2 => match us, its, h1, h2 with
    | [_, _], [_], _, _ => ⟨_, rfl, rfl⟩
  have e : ds = [] := by cases hv; rfl
  subst e
  exact ⟨f, _, F, hb, PySem.W.mg_of X G a⟩
theorem great_mk {K : PySem.W.Frag} {h : Heap} {mg : Str → Option Value} {x : Str} {y z : Int} {t : Tok} (X : K.In h) (G : h.Ns mainGlobals mg) (e : PySem.W.nsIn K mainGlobals x = some (some (.int z t))) (hz : z = y) : ∃ t, mg x = some (.int y t) := ⟨t, by subst hz; exact PySem.W.mg_of X G e⟩
theorem words_mk {K : PySem.W.Frag} {h : Heap} {mg : Str → Option Value} {a : Addr} {od : Option Addr} {osl : Array (Option Value)} {n : Nat} {t1 t2 t3 t4 : Tok} (X : K.In h) (G : h.Ns mainGlobals mg)
    (e : PySem.W.nsIn K mainGlobals "WORDS" = some (some (.ref a))) (l : K.lookup a = some ⟨.type "tuple", od, .seq #[.str "twice" t1, .str "fallen" t2, .str "astray" t3, .str "below" t4] n, osl⟩) :
    ∃ a, mg "WORDS" = some (.ref a) ∧ ∀ H, SqT K H a [.str "twice", .str "fallen", .str "astray", .str "below"] :=
  ⟨a, PySem.W.mg_of X G e, fun _ => .inr ⟨_, _, n, l, rfl, rfl, (by show 4 ≤ sizeLine; decide), .cons ⟨_, rfl⟩ (.cons ⟨_, rfl⟩ (.cons ⟨_, rfl⟩ (.cons ⟨_, rfl⟩ .nil)))⟩⟩
theorem rules_mk {K : PySem.W.Frag} {h : Heap} {mg : Str → Option Value} {a : Addr} {od : Option Addr} {osl : Array (Option Value)} {n : Nat} {t1 t2 t3 t4 t5 : Tok} (X : K.In h) (G : h.Ns mainGlobals mg)
    (e : PySem.W.nsIn K mainGlobals "RULES" = some (some (.ref a))) (l : K.lookup a = some ⟨.type "tuple", od, .seq #[.str "ahead" t1, .str "apart" t2, .str "ends" t3, .str "once" t4, .str "spoken" t5] n, osl⟩) :
    ∃ a, mg "RULES" = some (.ref a) ∧ ∀ H, SqT K H a [.str "ahead", .str "apart", .str "ends", .str "once", .str "spoken"] :=
  ⟨a, PySem.W.mg_of X G e, fun _ => .inr ⟨_, _, n, l, rfl, rfl, (by show 5 ≤ sizeLine; decide), .cons ⟨_, rfl⟩ (.cons ⟨_, rfl⟩ (.cons ⟨_, rfl⟩ (.cons ⟨_, rfl⟩ (.cons ⟨_, rfl⟩ .nil))))⟩⟩
theorem cls_Shape {K : PySem.W.Frag} {h : Heap} {mg : Str → Option Value} {C : Addr} {f0 : Addr} {oc0 kV0 dc0 pm0 cd0 ct0 : Value} {od0 an0 : Option Addr} {sl0 : Array (Option Value)} (X : K.In h) (G : h.Ns mainGlobals mg)
    (a : PySem.W.nsIn K mainGlobals "Shape" = some (some (.ref C)))
    (pg : PySem.W.plainGet K C Str.empty = true)
    (hd : PySem.W.hasDictIn K C = true)
    (po : PySem.W.plainOver K C = true)
    (sa : PySem.W.findIn K (.ref C) "__setattr__" = some (some (.builtin "object.__setattr__")))
    (mk : PySem.W.makesIn K C = true)
    (kc : PySem.W.keepIn K (.ref C) = true)
    (n_counts : PySem.W.findIn K (.ref C) "counts" = some none)
    (n_slots : PySem.W.findIn K (.ref C) "slots" = some none)
    (a0 : PySem.W.findIn K (.ref C) "__init__" = some (some (.ref f0)))
    (i0 : PySem.W.isFn K (.ref f0) = true)
    (l0 : K.lookup f0 = some ⟨oc0, od0, .func (PySem.W.fnOf "__init__" "Shape.__init__" (defArgs s_Shape_init) (defBody s_Shape_init) (defScope s_Shape_init) .none kV0 dc0 pm0 an0 cd0 ct0), sl0⟩)
    (c0 : PySem.W.codeIn K cd0 "Shape.__init__" = true)
    (k0 : PySem.W.keepIn K (.ref f0) = true)
    : ∃ (C : Addr) (f0 : Addr) (d0 : FuncData), mg "Shape" = some (.ref C) ∧ Cls K C ∧ MethAt K C "__init__" "Shape.__init__" s_Shape_init ["self", "counts", "slots"] f0 d0 ∧ Mk K C f0 ∧ NoAttr K C "counts" ∧ NoAttr K C "slots" := by
  skip
  exact ⟨C, f0, _, PySem.W.mg_of X G a, ⟨pg, hd, po, sa⟩, ⟨fun_mk l0 c0 k0, (fun_mk l0 c0 k0).binds (fun _ _ _ _ _ _ us hl => match us, hl with | [_, _, _], _ => rfl), ⟨a0, i0, k0⟩⟩, ⟨mk, a0, i0, kc⟩, n_counts, n_slots⟩
theorem cls_Settings {K : PySem.W.Frag} {h : Heap} {mg : Str → Option Value} {C : Addr} {f0 : Addr} {oc0 kV0 dc0 pm0 cd0 ct0 : Value} {od0 an0 : Option Addr} {sl0 : Array (Option Value)} {D0 : Addr} {oe0 : Value} {oo0 : Option Addr} {ol0 : Array (Option Value)} {nn0 : Nat} (X : K.In h) (G : h.Ns mainGlobals mg)
    (a : PySem.W.nsIn K mainGlobals "Settings" = some (some (.ref C)))
    (pg : PySem.W.plainGet K C Str.empty = true)
    (hd : PySem.W.hasDictIn K C = true)
    (po : PySem.W.plainOver K C = true)
    (sa : PySem.W.findIn K (.ref C) "__setattr__" = some (some (.builtin "object.__setattr__")))
    (mk : PySem.W.makesIn K C = true)
    (kc : PySem.W.keepIn K (.ref C) = true)
    (n_shape : PySem.W.findIn K (.ref C) "shape" = some none)
    (n_far : PySem.W.findIn K (.ref C) "far" = some none)
    (n_room : PySem.W.findIn K (.ref C) "room" = some none)
    (n_term : PySem.W.findIn K (.ref C) "term" = some none)
    (n_rules : PySem.W.findIn K (.ref C) "rules" = some none)
    (a0 : PySem.W.findIn K (.ref C) "__init__" = some (some (.ref f0)))
    (i0 : PySem.W.isFn K (.ref f0) = true)
    (l0 : K.lookup f0 = some ⟨oc0, od0, .func (PySem.W.fnOf "__init__" "Settings.__init__" (defArgs s_Settings_init) (defBody s_Settings_init) (defScope s_Settings_init) (.ref D0) kV0 dc0 pm0 an0 cd0 ct0), sl0⟩)
    (c0 : PySem.W.codeIn K cd0 "Settings.__init__" = true)
    (k0 : PySem.W.keepIn K (.ref f0) = true)
    (e0 : K.lookup D0 = some ⟨oe0, oo0, .seq #[.none] nn0, ol0⟩)
    : ∃ (C : Addr) (f0 : Addr) (d0 : FuncData), mg "Settings" = some (.ref C) ∧ Cls K C ∧ FunD K "__init__" "Settings.__init__" (defArgs s_Settings_init) (defBody s_Settings_init) (defScope s_Settings_init) [.non] [] f0 d0 ∧ Binds K d0 ["self", "shape", "far", "room", "term", "rules"] [] ∧ Mk K C f0 ∧ NoAttr K C "shape" ∧ NoAttr K C "far" ∧ NoAttr K C "room" ∧ NoAttr K C "term" ∧ NoAttr K C "rules" := by
  have F0 : FunD K "__init__" "Settings.__init__" (defArgs s_Settings_init) (defBody s_Settings_init) (defScope s_Settings_init) [.non] [] f0 _ := ⟨⟨_, _, _, _, _, _, _, _, _, _, rfl, l0, c0, .inr ⟨by simp, D0, _, [.none], nn0, rfl, e0, rfl, .cons rfl .nil⟩, .inl rfl⟩, k0⟩
  obtain ⟨ds, hv, hb0⟩ := F0.binds1 (ps := ["self", "shape", "far", "room", "term", "rules"]) 6 1 (by simp) rfl fun T kV doc pm an cdv ct us its h1 h2 => match us, its, h1, h2 with
    | [_, _, _, _, _, _], [_], _, _ => ⟨_, rfl, rfl⟩
  have e : ds = [] := by cases hv; rfl
  subst e
  exact ⟨C, f0, _, PySem.W.mg_of X G a, ⟨pg, hd, po, sa⟩, F0, hb0, ⟨mk, a0, i0, kc⟩, n_shape, n_far, n_room, n_term, n_rules⟩
theorem cls_Hand {K : PySem.W.Frag} {h : Heap} {mg : Str → Option Value} {C : Addr} {f0 : Addr} {oc0 kV0 dc0 pm0 cd0 ct0 : Value} {od0 an0 : Option Addr} {sl0 : Array (Option Value)} {f1 : Addr} {oc1 kV1 dc1 pm1 cd1 ct1 : Value} {od1 an1 : Option Addr} {sl1 : Array (Option Value)} {f2 : Addr} {oc2 kV2 dc2 pm2 cd2 ct2 : Value} {od2 an2 : Option Addr} {sl2 : Array (Option Value)} {f3 : Addr} {oc3 kV3 dc3 pm3 cd3 ct3 : Value} {od3 an3 : Option Addr} {sl3 : Array (Option Value)} {f4 : Addr} {oc4 kV4 dc4 pm4 cd4 ct4 : Value} {od4 an4 : Option Addr} {sl4 : Array (Option Value)} {f5 : Addr} {oc5 kV5 dc5 pm5 cd5 ct5 : Value} {od5 an5 : Option Addr} {sl5 : Array (Option Value)} {f6 : Addr} {oc6 kV6 dc6 pm6 cd6 ct6 : Value} {od6 an6 : Option Addr} {sl6 : Array (Option Value)} {f7 : Addr} {oc7 kV7 dc7 pm7 cd7 ct7 : Value} {od7 an7 : Option Addr} {sl7 : Array (Option Value)} {f8 : Addr} {oc8 kV8 dc8 pm8 cd8 ct8 : Value} {od8 an8 : Option Addr} {sl8 : Array (Option Value)} {f9 : Addr} {oc9 kV9 dc9 pm9 cd9 ct9 : Value} {od9 an9 : Option Addr} {sl9 : Array (Option Value)} {D0 : Addr} {oe0 : Value} {oo0 : Option Addr} {ol0 : Array (Option Value)} {nn0 : Nat} (X : K.In h) (G : h.Ns mainGlobals mg)
    (a : PySem.W.nsIn K mainGlobals "Hand" = some (some (.ref C)))
    (pg : PySem.W.plainGet K C Str.empty = true)
    (hd : PySem.W.hasDictIn K C = true)
    (po : PySem.W.plainOver K C = true)
    (sa : PySem.W.findIn K (.ref C) "__setattr__" = some (some (.builtin "object.__setattr__")))
    (mk : PySem.W.makesIn K C = true)
    (kc : PySem.W.keepIn K (.ref C) = true)
    (n_name : PySem.W.findIn K (.ref C) "name" = some none)
    (n_settings : PySem.W.findIn K (.ref C) "settings" = some none)
    (n_lines : PySem.W.findIn K (.ref C) "lines" = some none)
    (n_stand : PySem.W.findIn K (.ref C) "stand" = some none)
    (a0 : PySem.W.findIn K (.ref C) "__init__" = some (some (.ref f0)))
    (i0 : PySem.W.isFn K (.ref f0) = true)
    (l0 : K.lookup f0 = some ⟨oc0, od0, .func (PySem.W.fnOf "__init__" "Hand.__init__" (defArgs s_Hand_init) (defBody s_Hand_init) (defScope s_Hand_init) (.ref D0) kV0 dc0 pm0 an0 cd0 ct0), sl0⟩)
    (c0 : PySem.W.codeIn K cd0 "Hand.__init__" = true)
    (k0 : PySem.W.keepIn K (.ref f0) = true)
    (e0 : K.lookup D0 = some ⟨oe0, oo0, .seq #[.none] nn0, ol0⟩)
    (a1 : PySem.W.findIn K (.ref C) "need_up" = some (some (.ref f1)))
    (i1 : PySem.W.isFn K (.ref f1) = true)
    (l1 : K.lookup f1 = some ⟨oc1, od1, .func (PySem.W.fnOf "need_up" "Hand.need_up" (defArgs s_Hand_need_up) (defBody s_Hand_need_up) (defScope s_Hand_need_up) .none kV1 dc1 pm1 an1 cd1 ct1), sl1⟩)
    (c1 : PySem.W.codeIn K cd1 "Hand.need_up" = true)
    (k1 : PySem.W.keepIn K (.ref f1) = true)
    (a2 : PySem.W.findIn K (.ref C) "need_area" = some (some (.ref f2)))
    (i2 : PySem.W.isFn K (.ref f2) = true)
    (l2 : K.lookup f2 = some ⟨oc2, od2, .func (PySem.W.fnOf "need_area" "Hand.need_area" (defArgs s_Hand_need_area) (defBody s_Hand_need_area) (defScope s_Hand_need_area) .none kV2 dc2 pm2 an2 cd2 ct2), sl2⟩)
    (c2 : PySem.W.codeIn K cd2 "Hand.need_area" = true)
    (k2 : PySem.W.keepIn K (.ref f2) = true)
    (a3 : PySem.W.findIn K (.ref C) "fall" = some (some (.ref f3)))
    (i3 : PySem.W.isFn K (.ref f3) = true)
    (l3 : K.lookup f3 = some ⟨oc3, od3, .func (PySem.W.fnOf "fall" "Hand.fall" (defArgs s_Hand_fall) (defBody s_Hand_fall) (defScope s_Hand_fall) .none kV3 dc3 pm3 an3 cd3 ct3), sl3⟩)
    (c3 : PySem.W.codeIn K cd3 "Hand.fall" = true)
    (k3 : PySem.W.keepIn K (.ref f3) = true)
    (a4 : PySem.W.findIn K (.ref C) "rise" = some (some (.ref f4)))
    (i4 : PySem.W.isFn K (.ref f4) = true)
    (l4 : K.lookup f4 = some ⟨oc4, od4, .func (PySem.W.fnOf "rise" "Hand.rise" (defArgs s_Hand_rise) (defBody s_Hand_rise) (defScope s_Hand_rise) .none kV4 dc4 pm4 an4 cd4 ct4), sl4⟩)
    (c4 : PySem.W.codeIn K cd4 "Hand.rise" = true)
    (k4 : PySem.W.keepIn K (.ref f4) = true)
    (a5 : PySem.W.findIn K (.ref C) "take" = some (some (.ref f5)))
    (i5 : PySem.W.isFn K (.ref f5) = true)
    (l5 : K.lookup f5 = some ⟨oc5, od5, .func (PySem.W.fnOf "take" "Hand.take" (defArgs s_Hand_take) (defBody s_Hand_take) (defScope s_Hand_take) .none kV5 dc5 pm5 an5 cd5 ct5), sl5⟩)
    (c5 : PySem.W.codeIn K cd5 "Hand.take" = true)
    (k5 : PySem.W.keepIn K (.ref f5) = true)
    (a6 : PySem.W.findIn K (.ref C) "write" = some (some (.ref f6)))
    (i6 : PySem.W.isFn K (.ref f6) = true)
    (l6 : K.lookup f6 = some ⟨oc6, od6, .func (PySem.W.fnOf "write" "Hand.write" (defArgs s_Hand_write) (defBody s_Hand_write) (defScope s_Hand_write) .none kV6 dc6 pm6 an6 cd6 ct6), sl6⟩)
    (c6 : PySem.W.codeIn K cd6 "Hand.write" = true)
    (k6 : PySem.W.keepIn K (.ref f6) = true)
    (a7 : PySem.W.findIn K (.ref C) "make" = some (some (.ref f7)))
    (i7 : PySem.W.isFn K (.ref f7) = true)
    (l7 : K.lookup f7 = some ⟨oc7, od7, .func (PySem.W.fnOf "make" "Hand.make" (defArgs s_Hand_make) (defBody s_Hand_make) (defScope s_Hand_make) .none kV7 dc7 pm7 an7 cd7 ct7), sl7⟩)
    (c7 : PySem.W.codeIn K cd7 "Hand.make" = true)
    (k7 : PySem.W.keepIn K (.ref f7) = true)
    (a8 : PySem.W.findIn K (.ref C) "hear" = some (some (.ref f8)))
    (i8 : PySem.W.isFn K (.ref f8) = true)
    (l8 : K.lookup f8 = some ⟨oc8, od8, .func (PySem.W.fnOf "hear" "Hand.hear" (defArgs s_Hand_hear) (defBody s_Hand_hear) (defScope s_Hand_hear) .none kV8 dc8 pm8 an8 cd8 ct8), sl8⟩)
    (c8 : PySem.W.codeIn K cd8 "Hand.hear" = true)
    (k8 : PySem.W.keepIn K (.ref f8) = true)
    (a9 : PySem.W.findIn K (.ref C) "give_back" = some (some (.ref f9)))
    (i9 : PySem.W.isFn K (.ref f9) = true)
    (l9 : K.lookup f9 = some ⟨oc9, od9, .func (PySem.W.fnOf "give_back" "Hand.give_back" (defArgs s_Hand_give_back) (defBody s_Hand_give_back) (defScope s_Hand_give_back) .none kV9 dc9 pm9 an9 cd9 ct9), sl9⟩)
    (c9 : PySem.W.codeIn K cd9 "Hand.give_back" = true)
    (k9 : PySem.W.keepIn K (.ref f9) = true)
    : ∃ (C : Addr) (f0 : Addr) (d0 : FuncData) (f1 : Addr) (d1 : FuncData) (f2 : Addr) (d2 : FuncData) (f3 : Addr) (d3 : FuncData) (f4 : Addr) (d4 : FuncData) (f5 : Addr) (d5 : FuncData) (f6 : Addr) (d6 : FuncData) (f7 : Addr) (d7 : FuncData) (f8 : Addr) (d8 : FuncData) (f9 : Addr) (d9 : FuncData), mg "Hand" = some (.ref C) ∧ Cls K C ∧ FunD K "__init__" "Hand.__init__" (defArgs s_Hand_init) (defBody s_Hand_init) (defScope s_Hand_init) [.non] [] f0 d0 ∧ Binds K d0 ["self", "name", "settings", "lines"] [.none] ∧ MethAt K C "need_up" "Hand.need_up" s_Hand_need_up ["self"] f1 d1 ∧ MethAt K C "need_area" "Hand.need_area" s_Hand_need_area ["self"] f2 d2 ∧ MethAt K C "fall" "Hand.fall" s_Hand_fall ["self"] f3 d3 ∧ MethAt K C "rise" "Hand.rise" s_Hand_rise ["self"] f4 d4 ∧ MethAt K C "take" "Hand.take" s_Hand_take ["self", "grant", "area"] f5 d5 ∧ MethAt K C "write" "Hand.write" s_Hand_write ["self", "reading"] f6 d6 ∧ MethAt K C "make" "Hand.make" s_Hand_make ["self", "reading"] f7 d7 ∧ MethAt K C "hear" "Hand.hear" s_Hand_hear ["self", "bound"] f8 d8 ∧ MethAt K C "give_back" "Hand.give_back" s_Hand_give_back ["self"] f9 d9 ∧ Mk K C f0 ∧ NoAttr K C "name" ∧ NoAttr K C "settings" ∧ NoAttr K C "lines" ∧ NoAttr K C "stand" := by
  have F0 : FunD K "__init__" "Hand.__init__" (defArgs s_Hand_init) (defBody s_Hand_init) (defScope s_Hand_init) [.non] [] f0 _ := ⟨⟨_, _, _, _, _, _, _, _, _, _, rfl, l0, c0, .inr ⟨by simp, D0, _, [.none], nn0, rfl, e0, rfl, .cons rfl .nil⟩, .inl rfl⟩, k0⟩
  obtain ⟨ds, hv, hb0⟩ := F0.binds1 (ps := ["self", "name", "settings", "lines"]) 3 0 (by simp) rfl fun T kV doc pm an cdv ct us its h1 h2 => match us, its, h1, h2 with
    | [_, _, _], [_], _, _ => ⟨_, rfl, rfl⟩
  have e : ds = [.none] := by
    obtain ⟨u, rfl, ru⟩ := vals1 hv
    have ru : u = .none := ru
    rw [ru]
  subst e
  exact ⟨C, f0, _, f1, _, f2, _, f3, _, f4, _, f5, _, f6, _, f7, _, f8, _, f9, _, PySem.W.mg_of X G a, ⟨pg, hd, po, sa⟩, F0, hb0, ⟨fun_mk l1 c1 k1, (fun_mk l1 c1 k1).binds (fun _ _ _ _ _ _ us hl => match us, hl with | [_], _ => rfl), ⟨a1, i1, k1⟩⟩, ⟨fun_mk l2 c2 k2, (fun_mk l2 c2 k2).binds (fun _ _ _ _ _ _ us hl => match us, hl with | [_], _ => rfl), ⟨a2, i2, k2⟩⟩, ⟨fun_mk l3 c3 k3, (fun_mk l3 c3 k3).binds (fun _ _ _ _ _ _ us hl => match us, hl with | [_], _ => rfl), ⟨a3, i3, k3⟩⟩, ⟨fun_mk l4 c4 k4, (fun_mk l4 c4 k4).binds (fun _ _ _ _ _ _ us hl => match us, hl with | [_], _ => rfl), ⟨a4, i4, k4⟩⟩, ⟨fun_mk l5 c5 k5, (fun_mk l5 c5 k5).binds (fun _ _ _ _ _ _ us hl => match us, hl with | [_, _, _], _ => rfl), ⟨a5, i5, k5⟩⟩, ⟨fun_mk l6 c6 k6, (fun_mk l6 c6 k6).binds (fun _ _ _ _ _ _ us hl => match us, hl with | [_, _], _ => rfl), ⟨a6, i6, k6⟩⟩, ⟨fun_mk l7 c7 k7, (fun_mk l7 c7 k7).binds (fun _ _ _ _ _ _ us hl => match us, hl with | [_, _], _ => rfl), ⟨a7, i7, k7⟩⟩, ⟨fun_mk l8 c8 k8, (fun_mk l8 c8 k8).binds (fun _ _ _ _ _ _ us hl => match us, hl with | [_, _], _ => rfl), ⟨a8, i8, k8⟩⟩, ⟨fun_mk l9 c9 k9, (fun_mk l9 c9 k9).binds (fun _ _ _ _ _ _ us hl => match us, hl with | [_], _ => rfl), ⟨a9, i9, k9⟩⟩, ⟨mk, a0, i0, kc⟩, n_name, n_settings, n_lines, n_stand⟩
theorem cls_Small {K : PySem.W.Frag} {h : Heap} {mg : Str → Option Value} {C : Addr} {f0 : Addr} {oc0 kV0 dc0 pm0 cd0 ct0 : Value} {od0 an0 : Option Addr} {sl0 : Array (Option Value)} {f1 : Addr} {oc1 kV1 dc1 pm1 cd1 ct1 : Value} {od1 an1 : Option Addr} {sl1 : Array (Option Value)} {f2 : Addr} {oc2 kV2 dc2 pm2 cd2 ct2 : Value} {od2 an2 : Option Addr} {sl2 : Array (Option Value)} {f3 : Addr} {oc3 kV3 dc3 pm3 cd3 ct3 : Value} {od3 an3 : Option Addr} {sl3 : Array (Option Value)} {f4 : Addr} {oc4 kV4 dc4 pm4 cd4 ct4 : Value} {od4 an4 : Option Addr} {sl4 : Array (Option Value)} {f5 : Addr} {oc5 kV5 dc5 pm5 cd5 ct5 : Value} {od5 an5 : Option Addr} {sl5 : Array (Option Value)} {f6 : Addr} {oc6 kV6 dc6 pm6 cd6 ct6 : Value} {od6 an6 : Option Addr} {sl6 : Array (Option Value)} {f7 : Addr} {oc7 kV7 dc7 pm7 cd7 ct7 : Value} {od7 an7 : Option Addr} {sl7 : Array (Option Value)} {f8 : Addr} {oc8 kV8 dc8 pm8 cd8 ct8 : Value} {od8 an8 : Option Addr} {sl8 : Array (Option Value)} {f9 : Addr} {oc9 kV9 dc9 pm9 cd9 ct9 : Value} {od9 an9 : Option Addr} {sl9 : Array (Option Value)} {f10 : Addr} {oc10 kV10 dc10 pm10 cd10 ct10 : Value} {od10 an10 : Option Addr} {sl10 : Array (Option Value)} {f11 : Addr} {oc11 kV11 dc11 pm11 cd11 ct11 : Value} {od11 an11 : Option Addr} {sl11 : Array (Option Value)} (X : K.In h) (G : h.Ns mainGlobals mg)
    (a : PySem.W.nsIn K mainGlobals "Small" = some (some (.ref C)))
    (pg : PySem.W.plainGet K C Str.empty = true)
    (hd : PySem.W.hasDictIn K C = true)
    (po : PySem.W.plainOver K C = true)
    (sa : PySem.W.findIn K (.ref C) "__setattr__" = some (some (.builtin "object.__setattr__")))
    (mk : PySem.W.makesIn K C = true)
    (kc : PySem.W.keepIn K (.ref C) = true)
    (n_settings : PySem.W.findIn K (.ref C) "settings" = some none)
    (n_areas : PySem.W.findIn K (.ref C) "areas" = some none)
    (n_moments : PySem.W.findIn K (.ref C) "moments" = some none)
    (a0 : PySem.W.findIn K (.ref C) "__init__" = some (some (.ref f0)))
    (i0 : PySem.W.isFn K (.ref f0) = true)
    (l0 : K.lookup f0 = some ⟨oc0, od0, .func (PySem.W.fnOf "__init__" "Small.__init__" (defArgs s_Small_init) (defBody s_Small_init) (defScope s_Small_init) .none kV0 dc0 pm0 an0 cd0 ct0), sl0⟩)
    (c0 : PySem.W.codeIn K cd0 "Small.__init__" = true)
    (k0 : PySem.W.keepIn K (.ref f0) = true)
    (a1 : PySem.W.findIn K (.ref C) "deeds" = some (some (.ref f1)))
    (i1 : PySem.W.isFn K (.ref f1) = true)
    (l1 : K.lookup f1 = some ⟨oc1, od1, .func (PySem.W.fnOf "deeds" "Small.deeds" (defArgs s_Small_deeds) (defBody s_Small_deeds) (defScope s_Small_deeds) .none kV1 dc1 pm1 an1 cd1 ct1), sl1⟩)
    (c1 : PySem.W.codeIn K cd1 "Small.deeds" = true)
    (k1 : PySem.W.keepIn K (.ref f1) = true)
    (a2 : PySem.W.findIn K (.ref C) "begin" = some (some (.ref f2)))
    (i2 : PySem.W.isFn K (.ref f2) = true)
    (l2 : K.lookup f2 = some ⟨oc2, od2, .func (PySem.W.fnOf "begin" "Small.begin" (defArgs s_Small_begin) (defBody s_Small_begin) (defScope s_Small_begin) .none kV2 dc2 pm2 an2 cd2 ct2), sl2⟩)
    (c2 : PySem.W.codeIn K cd2 "Small.begin" = true)
    (k2 : PySem.W.keepIn K (.ref f2) = true)
    (a3 : PySem.W.findIn K (.ref C) "next_mark" = some (some (.ref f3)))
    (i3 : PySem.W.isFn K (.ref f3) = true)
    (l3 : K.lookup f3 = some ⟨oc3, od3, .func (PySem.W.fnOf "next_mark" "Small.next_mark" (defArgs s_Small_next_mark) (defBody s_Small_next_mark) (defScope s_Small_next_mark) .none kV3 dc3 pm3 an3 cd3 ct3), sl3⟩)
    (c3 : PySem.W.codeIn K cd3 "Small.next_mark" = true)
    (k3 : PySem.W.keepIn K (.ref f3) = true)
    (a4 : PySem.W.findIn K (.ref C) "marked" = some (some (.ref f4)))
    (i4 : PySem.W.isFn K (.ref f4) = true)
    (l4 : K.lookup f4 = some ⟨oc4, od4, .func (PySem.W.fnOf "marked" "Small.marked" (defArgs s_Small_marked) (defBody s_Small_marked) (defScope s_Small_marked) .none kV4 dc4 pm4 an4 cd4 ct4), sl4⟩)
    (c4 : PySem.W.codeIn K cd4 "Small.marked" = true)
    (k4 : PySem.W.keepIn K (.ref f4) = true)
    (a5 : PySem.W.findIn K (.ref C) "taken" = some (some (.ref f5)))
    (i5 : PySem.W.isFn K (.ref f5) = true)
    (l5 : K.lookup f5 = some ⟨oc5, od5, .func (PySem.W.fnOf "taken" "Small.taken" (defArgs s_Small_taken) (defBody s_Small_taken) (defScope s_Small_taken) .none kV5 dc5 pm5 an5 cd5 ct5), sl5⟩)
    (c5 : PySem.W.codeIn K cd5 "Small.taken" = true)
    (k5 : PySem.W.keepIn K (.ref f5) = true)
    (a6 : PySem.W.findIn K (.ref C) "written" = some (some (.ref f6)))
    (i6 : PySem.W.isFn K (.ref f6) = true)
    (l6 : K.lookup f6 = some ⟨oc6, od6, .func (PySem.W.fnOf "written" "Small.written" (defArgs s_Small_written) (defBody s_Small_written) (defScope s_Small_written) .none kV6 dc6 pm6 an6 cd6 ct6), sl6⟩)
    (c6 : PySem.W.codeIn K cd6 "Small.written" = true)
    (k6 : PySem.W.keepIn K (.ref f6) = true)
    (a7 : PySem.W.findIn K (.ref C) "heard" = some (some (.ref f7)))
    (i7 : PySem.W.isFn K (.ref f7) = true)
    (l7 : K.lookup f7 = some ⟨oc7, od7, .func (PySem.W.fnOf "heard" "Small.heard" (defArgs s_Small_heard) (defBody s_Small_heard) (defScope s_Small_heard) .none kV7 dc7 pm7 an7 cd7 ct7), sl7⟩)
    (c7 : PySem.W.codeIn K cd7 "Small.heard" = true)
    (k7 : PySem.W.keepIn K (.ref f7) = true)
    (a8 : PySem.W.findIn K (.ref C) "given_back" = some (some (.ref f8)))
    (i8 : PySem.W.isFn K (.ref f8) = true)
    (l8 : K.lookup f8 = some ⟨oc8, od8, .func (PySem.W.fnOf "given_back" "Small.given_back" (defArgs s_Small_given_back) (defBody s_Small_given_back) (defScope s_Small_given_back) .none kV8 dc8 pm8 an8 cd8 ct8), sl8⟩)
    (c8 : PySem.W.codeIn K cd8 "Small.given_back" = true)
    (k8 : PySem.W.keepIn K (.ref f8) = true)
    (a9 : PySem.W.findIn K (.ref C) "done" = some (some (.ref f9)))
    (i9 : PySem.W.isFn K (.ref f9) = true)
    (l9 : K.lookup f9 = some ⟨oc9, od9, .func (PySem.W.fnOf "done" "Small.done" (defArgs s_Small_done) (defBody s_Small_done) (defScope s_Small_done) .none kV9 dc9 pm9 an9 cd9 ct9), sl9⟩)
    (c9 : PySem.W.codeIn K cd9 "Small.done" = true)
    (k9 : PySem.W.keepIn K (.ref f9) = true)
    (a10 : PySem.W.findIn K (.ref C) "after" = some (some (.ref f10)))
    (i10 : PySem.W.isFn K (.ref f10) = true)
    (l10 : K.lookup f10 = some ⟨oc10, od10, .func (PySem.W.fnOf "after" "Small.after" (defArgs s_Small_after) (defBody s_Small_after) (defScope s_Small_after) .none kV10 dc10 pm10 an10 cd10 ct10), sl10⟩)
    (c10 : PySem.W.codeIn K cd10 "Small.after" = true)
    (k10 : PySem.W.keepIn K (.ref f10) = true)
    (a11 : PySem.W.findIn K (.ref C) "bad" = some (some (.ref f11)))
    (i11 : PySem.W.isFn K (.ref f11) = true)
    (l11 : K.lookup f11 = some ⟨oc11, od11, .func (PySem.W.fnOf "bad" "Small.bad" (defArgs s_Small_bad) (defBody s_Small_bad) (defScope s_Small_bad) .none kV11 dc11 pm11 an11 cd11 ct11), sl11⟩)
    (c11 : PySem.W.codeIn K cd11 "Small.bad" = true)
    (k11 : PySem.W.keepIn K (.ref f11) = true)
    : ∃ (C : Addr) (f0 : Addr) (d0 : FuncData) (f1 : Addr) (d1 : FuncData) (f2 : Addr) (d2 : FuncData) (f3 : Addr) (d3 : FuncData) (f4 : Addr) (d4 : FuncData) (f5 : Addr) (d5 : FuncData) (f6 : Addr) (d6 : FuncData) (f7 : Addr) (d7 : FuncData) (f8 : Addr) (d8 : FuncData) (f9 : Addr) (d9 : FuncData) (f10 : Addr) (d10 : FuncData) (f11 : Addr) (d11 : FuncData), mg "Small" = some (.ref C) ∧ Cls K C ∧ MethAt K C "__init__" "Small.__init__" s_Small_init ["self", "settings", "areas", "moments"] f0 d0 ∧ MethAt K C "deeds" "Small.deeds" s_Small_deeds ["self"] f1 d1 ∧ MethAt K C "begin" "Small.begin" s_Small_begin ["self"] f2 d2 ∧ MethAt K C "next_mark" "Small.next_mark" s_Small_next_mark ["self", "state", "reading"] f3 d3 ∧ MethAt K C "marked" "Small.marked" s_Small_marked ["self", "state", "reading"] f4 d4 ∧ MethAt K C "taken" "Small.taken" s_Small_taken ["self", "state", "grant"] f5 d5 ∧ MethAt K C "written" "Small.written" s_Small_written ["self", "state", "reading"] f6 d6 ∧ MethAt K C "heard" "Small.heard" s_Small_heard ["self", "state", "told"] f7 d7 ∧ MethAt K C "given_back" "Small.given_back" s_Small_given_back ["self", "state"] f8 d8 ∧ MethAt K C "done" "Small.done" s_Small_done ["self", "state", "deed"] f9 d9 ∧ MethAt K C "after" "Small.after" s_Small_after ["self", "state", "deed"] f10 d10 ∧ MethAt K C "bad" "Small.bad" s_Small_bad ["self", "state", "deed"] f11 d11 ∧ Mk K C f0 ∧ NoAttr K C "settings" ∧ NoAttr K C "areas" ∧ NoAttr K C "moments" := by
  skip
  exact ⟨C, f0, _, f1, _, f2, _, f3, _, f4, _, f5, _, f6, _, f7, _, f8, _, f9, _, f10, _, f11, _, PySem.W.mg_of X G a, ⟨pg, hd, po, sa⟩, ⟨fun_mk l0 c0 k0, (fun_mk l0 c0 k0).binds (fun _ _ _ _ _ _ us hl => match us, hl with | [_, _, _, _], _ => rfl), ⟨a0, i0, k0⟩⟩, ⟨fun_mk l1 c1 k1, (fun_mk l1 c1 k1).binds (fun _ _ _ _ _ _ us hl => match us, hl with | [_], _ => rfl), ⟨a1, i1, k1⟩⟩, ⟨fun_mk l2 c2 k2, (fun_mk l2 c2 k2).binds (fun _ _ _ _ _ _ us hl => match us, hl with | [_], _ => rfl), ⟨a2, i2, k2⟩⟩, ⟨fun_mk l3 c3 k3, (fun_mk l3 c3 k3).binds (fun _ _ _ _ _ _ us hl => match us, hl with | [_, _, _], _ => rfl), ⟨a3, i3, k3⟩⟩, ⟨fun_mk l4 c4 k4, (fun_mk l4 c4 k4).binds (fun _ _ _ _ _ _ us hl => match us, hl with | [_, _, _], _ => rfl), ⟨a4, i4, k4⟩⟩, ⟨fun_mk l5 c5 k5, (fun_mk l5 c5 k5).binds (fun _ _ _ _ _ _ us hl => match us, hl with | [_, _, _], _ => rfl), ⟨a5, i5, k5⟩⟩, ⟨fun_mk l6 c6 k6, (fun_mk l6 c6 k6).binds (fun _ _ _ _ _ _ us hl => match us, hl with | [_, _, _], _ => rfl), ⟨a6, i6, k6⟩⟩, ⟨fun_mk l7 c7 k7, (fun_mk l7 c7 k7).binds (fun _ _ _ _ _ _ us hl => match us, hl with | [_, _, _], _ => rfl), ⟨a7, i7, k7⟩⟩, ⟨fun_mk l8 c8 k8, (fun_mk l8 c8 k8).binds (fun _ _ _ _ _ _ us hl => match us, hl with | [_, _], _ => rfl), ⟨a8, i8, k8⟩⟩, ⟨fun_mk l9 c9 k9, (fun_mk l9 c9 k9).binds (fun _ _ _ _ _ _ us hl => match us, hl with | [_, _, _], _ => rfl), ⟨a9, i9, k9⟩⟩, ⟨fun_mk l10 c10 k10, (fun_mk l10 c10 k10).binds (fun _ _ _ _ _ _ us hl => match us, hl with | [_, _, _], _ => rfl), ⟨a10, i10, k10⟩⟩, ⟨fun_mk l11 c11 k11, (fun_mk l11 c11 k11).binds (fun _ _ _ _ _ _ us hl => match us, hl with | [_, _, _], _ => rfl), ⟨a11, i11, k11⟩⟩, ⟨mk, a0, i0, kc⟩, n_settings, n_areas, n_moments⟩
theorem exc_all {K : PySem.W.Frag} {h : Heap} {mg : Str → Option Value} {CRise CNoRoom CNoArea CDown CUp CWait CNoNote : Addr} {f0 : Addr} {oc0 kV0 dc0 pm0 cd0 ct0 : Value} {od0 an0 : Option Addr} {sl0 : Array (Option Value)} {nmWait qnWait : Str} {NWait ddWait : _} {bsWait bmWait : List Value} {snWait subWait abWait : _} {colWait : _} {m0Wait m1Wait m2Wait m3Wait m5Wait : _} {f1 : Addr} {oc1 kV1 dc1 pm1 cd1 ct1 : Value} {od1 an1 : Option Addr} {sl1 : Array (Option Value)} {nmNoNote qnNoNote : Str} {NNoNote ddNoNote : _} {bsNoNote bmNoNote : List Value} {snNoNote subNoNote abNoNote : _} {colNoNote : _} {m0NoNote m1NoNote m2NoNote m3NoNote m5NoNote : _} (X : K.In h) (G : h.Ns mainGlobals mg)
    (aRise : PySem.W.nsIn K mainGlobals "RiseError" = some (some (.ref CRise)))
    (aNoRoom : PySem.W.nsIn K mainGlobals "NoRoom" = some (some (.ref CNoRoom)))
    (aNoArea : PySem.W.nsIn K mainGlobals "NoArea" = some (some (.ref CNoArea)))
    (aDown : PySem.W.nsIn K mainGlobals "Down" = some (some (.ref CDown)))
    (aUp : PySem.W.nsIn K mainGlobals "Up" = some (some (.ref CUp)))
    (aWait : PySem.W.nsIn K mainGlobals "Wait" = some (some (.ref CWait)))
    (aNoNote : PySem.W.nsIn K mainGlobals "NoNote" = some (some (.ref CNoNote)))
    (bRise : PySem.W.subIn K (.ref CRise) (.type "BaseException") = some true)
    (iRise : PySem.W.isClsIn K CRise = true)
    (tRise : PySem.W.typeIn K (.ref CRise) = some (.type "type"))
    (rRise : PySem.W.readsIn K CRise (.type "type") = true)
    (gRise : PySem.W.specialIn K (.ref CRise) "__getattribute__" = some (some (.builtin "type.__getattribute__")))
    (nRise : PySem.W.findCls K (.ref CRise) (.type "type") "__init__" = some (.val (.builtin "ValueError.__init__")))
    (xNoRoom : PySem.W.excIn K CNoRoom [.type "ValueError", .type "Exception", .type "BaseException", .type "object"] "ValueError.__new__" = true)
    (xNoArea : PySem.W.excIn K CNoArea [.type "ValueError", .type "Exception", .type "BaseException", .type "object"] "ValueError.__new__" = true)
    (xDown : PySem.W.excIn K CDown [.type "ValueError", .type "Exception", .type "BaseException", .type "object"] "ValueError.__new__" = true)
    (xUp : PySem.W.excIn K CUp [.type "ValueError", .type "Exception", .type "BaseException", .type "object"] "ValueError.__new__" = true)
    (kNoRoom : PySem.W.keepIn K (.ref CNoRoom) = true)
    (bNoRoom : PySem.W.subIn K (.ref CNoRoom) (.type "BaseException") = some true)
    (tNoRoom : PySem.W.typeIn K (.ref CNoRoom) = some (.type "type"))
    (sNoRoom : PySem.W.subIn K (.ref CNoRoom) (.ref CRise) = some true)
    (kNoArea : PySem.W.keepIn K (.ref CNoArea) = true)
    (bNoArea : PySem.W.subIn K (.ref CNoArea) (.type "BaseException") = some true)
    (tNoArea : PySem.W.typeIn K (.ref CNoArea) = some (.type "type"))
    (sNoArea : PySem.W.subIn K (.ref CNoArea) (.ref CRise) = some true)
    (kDown : PySem.W.keepIn K (.ref CDown) = true)
    (bDown : PySem.W.subIn K (.ref CDown) (.type "BaseException") = some true)
    (tDown : PySem.W.typeIn K (.ref CDown) = some (.type "type"))
    (sDown : PySem.W.subIn K (.ref CDown) (.ref CRise) = some true)
    (kUp : PySem.W.keepIn K (.ref CUp) = true)
    (bUp : PySem.W.subIn K (.ref CUp) (.type "BaseException") = some true)
    (tUp : PySem.W.typeIn K (.ref CUp) = some (.type "type"))
    (sUp : PySem.W.subIn K (.ref CUp) (.ref CRise) = some true)
    (kWait : PySem.W.keepIn K (.ref CWait) = true)
    (bWait : PySem.W.subIn K (.ref CWait) (.type "BaseException") = some true)
    (tWait : PySem.W.typeIn K (.ref CWait) = some (.type "type"))
    (sWait : PySem.W.subIn K (.ref CWait) (.ref CRise) = some true)
    (kNoNote : PySem.W.keepIn K (.ref CNoNote) = true)
    (bNoNote : PySem.W.subIn K (.ref CNoNote) (.type "BaseException") = some true)
    (tNoNote : PySem.W.typeIn K (.ref CNoNote) = some (.type "type"))
    (sNoNote : PySem.W.subIn K (.ref CNoNote) (.ref CRise) = some true)
    (oWait : K.lookup CWait = some (excClassObj nmWait qnWait CWait NWait bsWait bmWait true snWait subWait abWait colWait ddWait m0Wait m1Wait m2Wait m3Wait m5Wait "ValueError.__new__"))
    (vWait : PySem.HandSPX.refsVE bmWait = true)
    (saWait : PySem.W.findIn K (.ref CWait) "__setattr__" = some (some (.builtin "object.__setattr__")))
    (noWait : PySem.W.findIn K (.ref CWait) "reading" = some none)
    (inWait : PySem.W.findIn K (.ref CWait) "__init__" = some (some (.ref f0)))
    (tfWait : PySem.W.typeIn K (.ref f0) = some (.type "function"))
    (lWait : K.lookup f0 = some ⟨oc0, od0, .func (PySem.W.fnOf "__init__" "Wait.__init__" (defArgs s_Wait_init) (defBody s_Wait_init) (defScope s_Wait_init) .none kV0 dc0 pm0 an0 cd0 ct0), sl0⟩)
    (cWait : PySem.W.codeIn K cd0 "Wait.__init__" = true)
    (kfWait : PySem.W.keepIn K (.ref f0) = true)
    (oNoNote : K.lookup CNoNote = some (excClassObj nmNoNote qnNoNote CNoNote NNoNote bsNoNote bmNoNote true snNoNote subNoNote abNoNote colNoNote ddNoNote m0NoNote m1NoNote m2NoNote m3NoNote m5NoNote "ValueError.__new__"))
    (vNoNote : PySem.HandSPX.refsVE bmNoNote = true)
    (saNoNote : PySem.W.findIn K (.ref CNoNote) "__setattr__" = some (some (.builtin "object.__setattr__")))
    (noNoNote : PySem.W.findIn K (.ref CNoNote) "moment" = some none)
    (inNoNote : PySem.W.findIn K (.ref CNoNote) "__init__" = some (some (.ref f1)))
    (tfNoNote : PySem.W.typeIn K (.ref f1) = some (.type "function"))
    (lNoNote : K.lookup f1 = some ⟨oc1, od1, .func (PySem.W.fnOf "__init__" "NoNote.__init__" (defArgs s_NoNote_init) (defBody s_NoNote_init) (defScope s_NoNote_init) .none kV1 dc1 pm1 an1 cd1 ct1), sl1⟩)
    (cNoNote : PySem.W.codeIn K cd1 "NoNote.__init__" = true)
    (kfNoNote : PySem.W.keepIn K (.ref f1) = true)
    (iNoRoom : PySem.W.isClsIn K CNoRoom = true)
    (iWait : PySem.W.isClsIn K CWait = true)
    (sNN : PySem.W.subIn K (.ref CNoRoom) (.ref CNoRoom) = some true)
    (sNW : PySem.W.subIn K (.ref CNoRoom) (.ref CWait) = some false)
    (sWN : PySem.W.subIn K (.ref CWait) (.ref CNoRoom) = some false)
    (sWW : PySem.W.subIn K (.ref CWait) (.ref CWait) = some true)
    : ∃ (CRise : Addr) (CNoRoom : Addr) (CNoArea : Addr) (CDown : Addr) (CUp : Addr) (CWait fWait : Addr) (dWait : FuncData) (CNoNote fNoNote : Addr) (dNoNote : FuncData), mg "RiseError" = some (.ref CRise) ∧ ClX.CRead K CRise (.type "type") ∧ PySem.W.findCls K (.ref CRise) (.type "type") "__init__" = some (.val (.builtin "ValueError.__init__")) ∧ ExcAt K mg CRise "NoRoom" CNoRoom ∧ ExcAt K mg CRise "NoArea" CNoArea ∧ ExcAt K mg CRise "Down" CDown ∧ ExcAt K mg CRise "Up" CUp ∧ ExiAt K mg CRise "Wait" "Wait.__init__" "reading" s_Wait_init ["self", "reading"] CWait fWait dWait ∧ ExiAt K mg CRise "NoNote" "NoNote.__init__" "moment" s_NoNote_init ["self", "moment"] CNoNote fNoNote dNoNote ∧ PySem.W.exmAny K (.ref CNoRoom) [.ref CNoRoom, .ref CWait] = some true ∧ PySem.W.exmAny K (.ref CWait) [.ref CNoRoom, .ref CWait] = some true :=
  ⟨CRise, CNoRoom, CNoArea, CDown, CUp, CWait, f0, _, CNoNote, f1, _, PySem.W.mg_of X G aRise, ⟨rRise, gRise⟩, nRise, ⟨PySem.W.mg_of X G aNoRoom, xNoRoom, kNoRoom, bNoRoom, tNoRoom, exm_mk bRise iRise tRise sNoRoom⟩, ⟨PySem.W.mg_of X G aNoArea, xNoArea, kNoArea, bNoArea, tNoArea, exm_mk bRise iRise tRise sNoArea⟩, ⟨PySem.W.mg_of X G aDown, xDown, kDown, bDown, tDown, exm_mk bRise iRise tRise sDown⟩, ⟨PySem.W.mg_of X G aUp, xUp, kUp, bUp, tUp, exm_mk bRise iRise tRise sUp⟩, ⟨PySem.W.mg_of X G aWait, ⟨⟨_, _, _, _, _, _, _, _, _, _, _, _, _, _, _, oWait, vWait⟩, saWait, bWait, tWait, kWait⟩, inWait, tfWait, noWait, fun_mk lWait cWait kfWait, (fun_mk lWait cWait kfWait).binds (fun _ _ _ _ _ _ us hl => match us, hl with | [_, _], _ => rfl), exm_mk bRise iRise tRise sWait⟩, ⟨PySem.W.mg_of X G aNoNote, ⟨⟨_, _, _, _, _, _, _, _, _, _, _, _, _, _, _, oNoNote, vNoNote⟩, saNoNote, bNoNote, tNoNote, kNoNote⟩, inNoNote, tfNoNote, noNoNote, fun_mk lNoNote cNoNote kfNoNote, (fun_mk lNoNote cNoNote kfNoNote).binds (fun _ _ _ _ _ _ us hl => match us, hl with | [_, _], _ => rfl), exm_mk bRise iRise tRise sNoNote⟩, exm2_mk (exm_mk bNoRoom iNoRoom tNoRoom sNN) (exm_mk bWait iWait tWait sNW) rfl, exm2_mk (exm_mk bNoRoom iNoRoom tNoRoom sWN) (exm_mk bWait iWait tWait sWW) rfl⟩
theorem walk {l : PySem.W.OpenLaw} {q : Program} {loose : List Str} {XP : (Str → Option Value) → Heap → Prop} {YP : World → Heap → Prop} {d : DefRec} {K : Params → PySem.W.Frag} (hn : l.most = some 63) (hdf : d.params.defaults = [])
    (hY : ∀ (w : World) (h : Heap), YP w h → (K w.params).In h)
    (F : ∀ (w : World) (mg : Str → Option Value) (fa : Addr) (h : Heap), (K w.params).In h → h.Ns mainGlobals mg → mg d.name = some (.ref fa) →
      ∃ fd : FuncData, (∀ (s : Shared) (u : Value), BindsTo s fd ⟨[u], []⟩ [("_law_script", u)]) ∧ ∀ base : Heap, (K w.params).In base → base.Ns mainGlobals mg → FnOk l.prog w (K w.params) mg base CX0 20 fa fd ["_law_script"] (spLaw (K w.params))) :
    PySem.W.WalkO q loose XP YP l.row.toRowW d [] (fun f vs => PySem.call f vs) :=
  L2.walk_of (n := 63) (k := 20) (x := "_law_script") (CX := fun _ => CX0) (sp := fun w => spLaw (K w.params)) hn (by decide) hdf ⟨rfl, by decide, by decide⟩ hY F (fun _ _ a ns hl _ hS => ⟨a, ns, rfl, hS, hl, fun _ => rfl⟩) fun _ _ _ _ _ z => z
end K87

end
set_option Elab.async false
set_option linter.all false
open PySem PySem.W PyProof.Rows in
set_option maxRecDepth 100000 in
set_option maxHeartbeats 0 in
theorem PySem.Challenge.cw_risemarks_k87_whole_words_never_holds : PySem.Challenge.rw_risemarks_k87_whole_words_never.Holds := by
  w_on; o_law; k_headLK; (case hw => w_witness2)
  k_fill
  refine K87.walk (l := PySem.Challenge.rw_risemarks_k87_whole_words_never) rfl rfl (fun w h Y => PySem.W.kIn_of Y) ?F
  case F =>
    intro w mg fa h KX G hmg
    obtain ⟨f_is_whole, d_is_whole, t_is_whole⟩ : ∃ f fd, K87.DefAt _ mg "is_whole" K87.s_is_whole ["thing"] f fd := by
      refine' ⟨_, K87.defAt_mk KX G (fun _ _ _ _ _ _ us hl => match us, hl with | [_], _ => rfl) ?a ?l ?c ?k⟩
      case a => k_is
      case l => k_is
      case c => k_is
      case k => k_is
    obtain ⟨f_mark_of, d_mark_of, t_mark_of⟩ : ∃ f fd, K87.DefAt _ mg "mark_of" K87.s_mark_of ["shape", "moment", "slot", "count"] f fd := by
      refine' ⟨_, K87.defAt_mk KX G (fun _ _ _ _ _ _ us hl => match us, hl with | [_, _, _, _], _ => rfl) ?a ?l ?c ?k⟩
      case a => k_is
      case l => k_is
      case c => k_is
      case k => k_is
    obtain ⟨f_parts_of, d_parts_of, t_parts_of⟩ : ∃ f fd, K87.DefAt _ mg "parts_of" K87.s_parts_of ["shape", "mark"] f fd := by
      refine' ⟨_, K87.defAt_mk KX G (fun _ _ _ _ _ _ us hl => match us, hl with | [_, _], _ => rfl) ?a ?l ?c ?k⟩
      case a => k_is
      case l => k_is
      case c => k_is
      case k => k_is
    obtain ⟨f_worst_of, d_worst_of, t_worst_of⟩ : ∃ f fd, K87.DefAt _ mg "worst_of" K87.s_worst_of ["small", "layer"] f fd := by
      refine' ⟨_, K87.defAt_mk KX G (fun _ _ _ _ _ _ us hl => match us, hl with | [_, _], _ => rfl) ?a ?l ?c ?k⟩
      case a => k_is
      case l => k_is
      case c => k_is
      case k => k_is
    obtain ⟨f_next_layer, d_next_layer, t_next_layer⟩ : ∃ f fd, K87.DefAt _ mg "next_layer" K87.s_next_layer ["small", "layer", "known"] f fd := by
      refine' ⟨_, K87.defAt_mk KX G (fun _ _ _ _ _ _ us hl => match us, hl with | [_, _, _], _ => rfl) ?a ?l ?c ?k⟩
      case a => k_is
      case l => k_is
      case c => k_is
      case k => k_is
    obtain ⟨f_row_to, d_row_to, t_row_to⟩ : ∃ f fd, K87.DefAt _ mg "row_to" K87.s_row_to ["layers", "place"] f fd := by
      refine' ⟨_, K87.defAt_mk KX G (fun _ _ _ _ _ _ us hl => match us, hl with | [_, _], _ => rfl) ?a ?l ?c ?k⟩
      case a => k_is
      case l => k_is
      case c => k_is
      case k => k_is
    obtain ⟨f_look, d_look, F_look, B_look, G_look⟩ : ∃ f fd, L2.FunD _ "look" "look" (L2.defArgs K87.s_look) (L2.defBody K87.s_look) (L2.defScope K87.s_look) [.int 400] [] f fd ∧ L2.Binds _ fd ["small", "most"] [] ∧ mg "look" = some (.ref f) := by
      refine' K87.look_mk KX G ?a ?l ?c ?k ?d
      case a => k_is
      case l => k_is
      case c => k_is
      case k => k_is
      case d => k_is
    obtain ⟨f_bound_of, d_bound_of, t_bound_of⟩ : ∃ f fd, K87.DefAt _ mg "bound_of" K87.s_bound_of ["place"] f fd := by
      refine' ⟨_, K87.defAt_mk KX G (fun _ _ _ _ _ _ us hl => match us, hl with | [_], _ => rfl) ?a ?l ?c ?k⟩
      case a => k_is
      case l => k_is
      case c => k_is
      case k => k_is
    obtain ⟨f_raised, d_raised, t_raised⟩ : ∃ f fd, K87.DefAt _ mg "raised" K87.s_raised ["place", "bound"] f fd := by
      refine' ⟨_, K87.defAt_mk KX G (fun _ _ _ _ _ _ us hl => match us, hl with | [_, _], _ => rfl) ?a ?l ?c ?k⟩
      case a => k_is
      case l => k_is
      case c => k_is
      case k => k_is
    obtain ⟨f_next_place, d_next_place, t_next_place⟩ : ∃ f fd, K87.DefAt _ mg "next_place" K87.s_next_place ["shape", "place"] f fd := by
      refine' ⟨_, K87.defAt_mk KX G (fun _ _ _ _ _ _ us hl => match us, hl with | [_, _], _ => rfl) ?a ?l ?c ?k⟩
      case a => k_is
      case l => k_is
      case c => k_is
      case k => k_is
    obtain ⟨f_moment_at, d_moment_at, t_moment_at⟩ : ∃ f fd, K87.DefAt _ mg "moment_at" K87.s_moment_at ["area", "place", "reading"] f fd := by
      refine' ⟨_, K87.defAt_mk KX G (fun _ _ _ _ _ _ us hl => match us, hl with | [_, _, _], _ => rfl) ?a ?l ?c ?k⟩
      case a => k_is
      case l => k_is
      case c => k_is
      case k => k_is
    obtain ⟨f_made, d_made, t_made⟩ : ∃ f fd, K87.DefAt _ mg "made" K87.s_made ["shape", "far", "area", "place", "reading"] f fd := by
      refine' ⟨_, K87.defAt_mk KX G (fun _ _ _ _ _ _ us hl => match us, hl with | [_, _, _, _, _], _ => rfl) ?a ?l ?c ?k⟩
      case a => k_is
      case l => k_is
      case c => k_is
      case k => k_is
    obtain ⟨f_read_note, d_read_note, t_read_note⟩ : ∃ f fd, K87.DefAt _ mg "read_note" K87.s_read_note ["lines"] f fd := by
      refine' ⟨_, K87.defAt_mk KX G (fun _ _ _ _ _ _ us hl => match us, hl with | [_], _ => rfl) ?a ?l ?c ?k⟩
      case a => k_is
      case l => k_is
      case c => k_is
      case k => k_is
    obtain ⟨f_greatest_taken, d_greatest_taken, t_greatest_taken⟩ : ∃ f fd, K87.DefAt _ mg "greatest_taken" K87.s_greatest_taken ["lines"] f fd := by
      refine' ⟨_, K87.defAt_mk KX G (fun _ _ _ _ _ _ us hl => match us, hl with | [_], _ => rfl) ?a ?l ?c ?k⟩
      case a => k_is
      case l => k_is
      case c => k_is
      case k => k_is
    obtain ⟨f_are_rules, d_are_rules, t_are_rules⟩ : ∃ f fd, K87.DefAt _ mg "are_rules" K87.s_are_rules ["thing"] f fd := by
      refine' ⟨_, K87.defAt_mk KX G (fun _ _ _ _ _ _ us hl => match us, hl with | [_], _ => rfl) ?a ?l ?c ?k⟩
      case a => k_is
      case l => k_is
      case c => k_is
      case k => k_is
    obtain ⟨f_has_rule, d_has_rule, t_has_rule⟩ : ∃ f fd, K87.DefAt _ mg "has_rule" K87.s_has_rule ["settings", "word"] f fd := by
      refine' ⟨_, K87.defAt_mk KX G (fun _ _ _ _ _ _ us hl => match us, hl with | [_, _], _ => rfl) ?a ?l ?c ?k⟩
      case a => k_is
      case l => k_is
      case c => k_is
      case k => k_is
    obtain ⟨f_place_by, d_place_by, t_place_by⟩ : ∃ f fd, K87.DefAt _ mg "place_by" K87.s_place_by ["lines"] f fd := by
      refine' ⟨_, K87.defAt_mk KX G (fun _ _ _ _ _ _ us hl => match us, hl with | [_], _ => rfl) ?a ?l ?c ?k⟩
      case a => k_is
      case l => k_is
      case c => k_is
      case k => k_is
    obtain ⟨f_law_hand, d_law_hand, t_law_hand⟩ : ∃ f fd, K87.DefAt _ mg "_law_hand" K87.s_law_hand ["_law_script", "_law_k"] f fd := by
      refine' ⟨_, K87.defAt_mk KX G (fun _ _ _ _ _ _ us hl => match us, hl with | [_, _], _ => rfl) ?a ?l ?c ?k⟩
      case a => k_is
      case l => k_is
      case c => k_is
      case k => k_is
    obtain ⟨f_law_pick, d_law_pick, t_law_pick⟩ : ∃ f fd, K87.DefAt _ mg "_law_pick" K87.s_law_pick ["_law_hand_here", "_law_many"] f fd := by
      refine' ⟨_, K87.defAt_mk KX G (fun _ _ _ _ _ _ us hl => match us, hl with | [_, _], _ => rfl) ?a ?l ?c ?k⟩
      case a => k_is
      case l => k_is
      case c => k_is
      case k => k_is
    obtain ⟨f_law_rules, d_law_rules, t_law_rules⟩ : ∃ f fd, K87.DefAt _ mg "_law_rules" K87.s_law_rules ["_law_hand_here"] f fd := by
      refine' ⟨_, K87.defAt_mk KX G (fun _ _ _ _ _ _ us hl => match us, hl with | [_], _ => rfl) ?a ?l ?c ?k⟩
      case a => k_is
      case l => k_is
      case c => k_is
      case k => k_is
    obtain ⟨f_law_large, d_law_large, t_law_large⟩ : ∃ f fd, K87.DefAt _ mg "_law_large" K87.s_law_large ["_law_hand_here"] f fd := by
      refine' ⟨_, K87.defAt_mk KX G (fun _ _ _ _ _ _ us hl => match us, hl with | [_], _ => rfl) ?a ?l ?c ?k⟩
      case a => k_is
      case l => k_is
      case c => k_is
      case k => k_is
    obtain ⟨f_law_deed, d_law_deed, t_law_deed⟩ : ∃ f fd, K87.DefAt _ mg "_law_deed" K87.s_law_deed ["_law_hand_here", "_law_numbers", "_law_up"] f fd := by
      refine' ⟨_, K87.defAt_mk KX G (fun _ _ _ _ _ _ us hl => match us, hl with | [_, _, _], _ => rfl) ?a ?l ?c ?k⟩
      case a => k_is
      case l => k_is
      case c => k_is
      case k => k_is
    obtain ⟨f_law_asked, d_law_asked, t_law_asked⟩ : ∃ f fd, K87.DefAt _ mg "_law_asked" K87.s_law_asked ["_law_hand_here", "_law_numbers", "_law_deed_here"] f fd := by
      refine' ⟨_, K87.defAt_mk KX G (fun _ _ _ _ _ _ us hl => match us, hl with | [_, _, _], _ => rfl) ?a ?l ?c ?k⟩
      case a => k_is
      case l => k_is
      case c => k_is
      case k => k_is
    obtain ⟨f_law_forbidden, d_law_forbidden, t_law_forbidden⟩ : ∃ f fd, K87.DefAt _ mg "_law_forbidden" K87.s_law_forbidden ["_law_rules_here"] f fd := by
      refine' ⟨_, K87.defAt_mk KX G (fun _ _ _ _ _ _ us hl => match us, hl with | [_], _ => rfl) ?a ?l ?c ?k⟩
      case a => k_is
      case l => k_is
      case c => k_is
      case k => k_is
    obtain ⟨f_law_mark_words, d_law_mark_words, t_law_mark_words⟩ : ∃ f fd, K87.DefAt _ mg "_law_mark_words" K87.s_law_mark_words ["_law_numbers", "_law_mark", "_law_marks", "_law_bound", "_law_end"] f fd := by
      refine' ⟨_, K87.defAt_mk KX G (fun _ _ _ _ _ _ us hl => match us, hl with | [_, _, _, _, _], _ => rfl) ?a ?l ?c ?k⟩
      case a => k_is
      case l => k_is
      case c => k_is
      case k => k_is
    obtain ⟨f_law_hand_right, d_law_hand_right, t_law_hand_right⟩ : ∃ f fd, K87.DefAt _ mg "_law_hand_right" K87.s_law_hand_right ["_law_settings", "_law_numbers", "_law_deeds"] f fd := by
      refine' ⟨_, K87.defAt_mk KX G (fun _ _ _ _ _ _ us hl => match us, hl with | [_, _, _], _ => rfl) ?a ?l ?c ?k⟩
      case a => k_is
      case l => k_is
      case c => k_is
      case k => k_is
    obtain ⟨f_law_world_right, d_law_world_right, t_law_world_right⟩ : ∃ f fd, K87.DefAt _ mg "_law_world_right" K87.s_law_world_right ["_law_small", "_law_numbers", "_law_deeds"] f fd := by
      refine' ⟨_, K87.defAt_mk KX G (fun _ _ _ _ _ _ us hl => match us, hl with | [_, _, _], _ => rfl) ?a ?l ?c ?k⟩
      case a => k_is
      case l => k_is
      case c => k_is
      case k => k_is
    obtain ⟨f_law, d_law, t_law, b_law⟩ : ∃ f fd, K87.DefAt _ mg "law" K87.s_law ["_law_script"] f fd ∧ ∀ (s : Shared) (u : Value), BindsTo s fd ⟨[u], []⟩ [("_law_script", u)] := by
      refine' K87.law_mk KX G ?a ?l ?c ?k
      case a => k_is
      case l => k_is
      case c => k_is
      case k => k_is
    have G_Shape := by
      refine' K87.cls_Shape (mg := mg) KX G ?a ?pg ?hd ?po ?sa ?mk ?kc ?n_counts ?n_slots ?a0 ?i0 ?l0 ?c0 ?k0
      case a => k_is
      case pg => k_is
      case hd => k_is
      case po => k_is
      case sa => k_is
      case mk => k_is
      case kc => k_is
      case n_counts => k_is
      case n_slots => k_is
      case a0 => k_is
      case i0 => k_is
      case l0 => k_is
      case c0 => k_is
      case k0 => k_is
    obtain ⟨c_Shape, f_Shape_init, d_Shape_init, g_Shape, cl_Shape, t_Shape_init, mk_Shape, n_Shape_counts, n_Shape_slots⟩ := G_Shape
    have G_Settings := by
      refine' K87.cls_Settings (mg := mg) KX G ?a ?pg ?hd ?po ?sa ?mk ?kc ?n_shape ?n_far ?n_room ?n_term ?n_rules ?a0 ?i0 ?l0 ?c0 ?k0 ?e0
      case a => k_is
      case pg => k_is
      case hd => k_is
      case po => k_is
      case sa => k_is
      case mk => k_is
      case kc => k_is
      case n_shape => k_is
      case n_far => k_is
      case n_room => k_is
      case n_term => k_is
      case n_rules => k_is
      case a0 => k_is
      case i0 => k_is
      case l0 => k_is
      case c0 => k_is
      case k0 => k_is
      case e0 => k_is
    obtain ⟨c_Settings, f_Settings_init, d_Settings_init, g_Settings, cl_Settings, F_Settings_init, B_Settings_init, mk_Settings, n_Settings_shape, n_Settings_far, n_Settings_room, n_Settings_term, n_Settings_rules⟩ := G_Settings
    have G_Hand := by
      refine' K87.cls_Hand (mg := mg) KX G ?a ?pg ?hd ?po ?sa ?mk ?kc ?n_name ?n_settings ?n_lines ?n_stand ?a0 ?i0 ?l0 ?c0 ?k0 ?e0 ?a1 ?i1 ?l1 ?c1 ?k1 ?a2 ?i2 ?l2 ?c2 ?k2 ?a3 ?i3 ?l3 ?c3 ?k3 ?a4 ?i4 ?l4 ?c4 ?k4 ?a5 ?i5 ?l5 ?c5 ?k5 ?a6 ?i6 ?l6 ?c6 ?k6 ?a7 ?i7 ?l7 ?c7 ?k7 ?a8 ?i8 ?l8 ?c8 ?k8 ?a9 ?i9 ?l9 ?c9 ?k9
      case a => k_is
      case pg => k_is
      case hd => k_is
      case po => k_is
      case sa => k_is
      case mk => k_is
      case kc => k_is
      case n_name => k_is
      case n_settings => k_is
      case n_lines => k_is
      case n_stand => k_is
      case a0 => k_is
      case i0 => k_is
      case l0 => k_is
      case c0 => k_is
      case k0 => k_is
      case e0 => k_is
      case a1 => k_is
      case i1 => k_is
      case l1 => k_is
      case c1 => k_is
      case k1 => k_is
      case a2 => k_is
      case i2 => k_is
      case l2 => k_is
      case c2 => k_is
      case k2 => k_is
      case a3 => k_is
      case i3 => k_is
      case l3 => k_is
      case c3 => k_is
      case k3 => k_is
      case a4 => k_is
      case i4 => k_is
      case l4 => k_is
      case c4 => k_is
      case k4 => k_is
      case a5 => k_is
      case i5 => k_is
      case l5 => k_is
      case c5 => k_is
      case k5 => k_is
      case a6 => k_is
      case i6 => k_is
      case l6 => k_is
      case c6 => k_is
      case k6 => k_is
      case a7 => k_is
      case i7 => k_is
      case l7 => k_is
      case c7 => k_is
      case k7 => k_is
      case a8 => k_is
      case i8 => k_is
      case l8 => k_is
      case c8 => k_is
      case k8 => k_is
      case a9 => k_is
      case i9 => k_is
      case l9 => k_is
      case c9 => k_is
      case k9 => k_is
    obtain ⟨c_Hand, f_Hand_init, d_Hand_init, f_Hand_need_up, d_Hand_need_up, f_Hand_need_area, d_Hand_need_area, f_Hand_fall, d_Hand_fall, f_Hand_rise, d_Hand_rise, f_Hand_take, d_Hand_take, f_Hand_write, d_Hand_write, f_Hand_make, d_Hand_make, f_Hand_hear, d_Hand_hear, f_Hand_give_back, d_Hand_give_back, g_Hand, cl_Hand, F_Hand_init, B_Hand_init, t_Hand_need_up, t_Hand_need_area, t_Hand_fall, t_Hand_rise, t_Hand_take, t_Hand_write, t_Hand_make, t_Hand_hear, t_Hand_give_back, mk_Hand, n_Hand_name, n_Hand_settings, n_Hand_lines, n_Hand_stand⟩ := G_Hand
    have G_Small := by
      refine' K87.cls_Small (mg := mg) KX G ?a ?pg ?hd ?po ?sa ?mk ?kc ?n_settings ?n_areas ?n_moments ?a0 ?i0 ?l0 ?c0 ?k0 ?a1 ?i1 ?l1 ?c1 ?k1 ?a2 ?i2 ?l2 ?c2 ?k2 ?a3 ?i3 ?l3 ?c3 ?k3 ?a4 ?i4 ?l4 ?c4 ?k4 ?a5 ?i5 ?l5 ?c5 ?k5 ?a6 ?i6 ?l6 ?c6 ?k6 ?a7 ?i7 ?l7 ?c7 ?k7 ?a8 ?i8 ?l8 ?c8 ?k8 ?a9 ?i9 ?l9 ?c9 ?k9 ?a10 ?i10 ?l10 ?c10 ?k10 ?a11 ?i11 ?l11 ?c11 ?k11
      case a => k_is
      case pg => k_is
      case hd => k_is
      case po => k_is
      case sa => k_is
      case mk => k_is
      case kc => k_is
      case n_settings => k_is
      case n_areas => k_is
      case n_moments => k_is
      case a0 => k_is
      case i0 => k_is
      case l0 => k_is
      case c0 => k_is
      case k0 => k_is
      case a1 => k_is
      case i1 => k_is
      case l1 => k_is
      case c1 => k_is
      case k1 => k_is
      case a2 => k_is
      case i2 => k_is
      case l2 => k_is
      case c2 => k_is
      case k2 => k_is
      case a3 => k_is
      case i3 => k_is
      case l3 => k_is
      case c3 => k_is
      case k3 => k_is
      case a4 => k_is
      case i4 => k_is
      case l4 => k_is
      case c4 => k_is
      case k4 => k_is
      case a5 => k_is
      case i5 => k_is
      case l5 => k_is
      case c5 => k_is
      case k5 => k_is
      case a6 => k_is
      case i6 => k_is
      case l6 => k_is
      case c6 => k_is
      case k6 => k_is
      case a7 => k_is
      case i7 => k_is
      case l7 => k_is
      case c7 => k_is
      case k7 => k_is
      case a8 => k_is
      case i8 => k_is
      case l8 => k_is
      case c8 => k_is
      case k8 => k_is
      case a9 => k_is
      case i9 => k_is
      case l9 => k_is
      case c9 => k_is
      case k9 => k_is
      case a10 => k_is
      case i10 => k_is
      case l10 => k_is
      case c10 => k_is
      case k10 => k_is
      case a11 => k_is
      case i11 => k_is
      case l11 => k_is
      case c11 => k_is
      case k11 => k_is
    obtain ⟨c_Small, f_Small_init, d_Small_init, f_Small_deeds, d_Small_deeds, f_Small_begin, d_Small_begin, f_Small_next_mark, d_Small_next_mark, f_Small_marked, d_Small_marked, f_Small_taken, d_Small_taken, f_Small_written, d_Small_written, f_Small_heard, d_Small_heard, f_Small_given_back, d_Small_given_back, f_Small_done, d_Small_done, f_Small_after, d_Small_after, f_Small_bad, d_Small_bad, g_Small, cl_Small, t_Small_init, t_Small_deeds, t_Small_begin, t_Small_next_mark, t_Small_marked, t_Small_taken, t_Small_written, t_Small_heard, t_Small_given_back, t_Small_done, t_Small_after, t_Small_bad, mk_Small, n_Small_settings, n_Small_areas, n_Small_moments⟩ := G_Small
    have G_exc := by
      refine' K87.exc_all (mg := mg) KX G ?aRise ?aNoRoom ?aNoArea ?aDown ?aUp ?aWait ?aNoNote ?bRise ?iRise ?tRise ?rRise ?gRise ?nRise ?xNoRoom ?xNoArea ?xDown ?xUp ?kNoRoom ?bNoRoom ?tNoRoom ?sNoRoom ?kNoArea ?bNoArea ?tNoArea ?sNoArea ?kDown ?bDown ?tDown ?sDown ?kUp ?bUp ?tUp ?sUp ?kWait ?bWait ?tWait ?sWait ?kNoNote ?bNoNote ?tNoNote ?sNoNote ?oWait ?vWait ?saWait ?noWait ?inWait ?tfWait ?lWait ?cWait ?kfWait ?oNoNote ?vNoNote ?saNoNote ?noNoNote ?inNoNote ?tfNoNote ?lNoNote ?cNoNote ?kfNoNote ?iNoRoom ?iWait ?sNN ?sNW ?sWN ?sWW
      case aRise => k_is
      case aNoRoom => k_is
      case aNoArea => k_is
      case aDown => k_is
      case aUp => k_is
      case aWait => k_is
      case aNoNote => k_is
      case bRise => k_is
      case iRise => k_is
      case tRise => k_is
      case rRise => k_is
      case gRise => k_is
      case nRise => k_is
      case xNoRoom => k_exc
      case xNoArea => k_exc
      case xDown => k_exc
      case xUp => k_exc
      case kNoRoom => k_is
      case bNoRoom => k_is
      case tNoRoom => k_is
      case sNoRoom => k_is
      case kNoArea => k_is
      case bNoArea => k_is
      case tNoArea => k_is
      case sNoArea => k_is
      case kDown => k_is
      case bDown => k_is
      case tDown => k_is
      case sDown => k_is
      case kUp => k_is
      case bUp => k_is
      case tUp => k_is
      case sUp => k_is
      case kWait => k_is
      case bWait => k_is
      case tWait => k_is
      case sWait => k_is
      case kNoNote => k_is
      case bNoNote => k_is
      case tNoNote => k_is
      case sNoNote => k_is
      case oWait => k_is
      case vWait => decide +kernel
      case saWait => k_is
      case noWait => k_is
      case inWait => k_is
      case tfWait => k_is
      case lWait => k_is
      case cWait => k_is
      case kfWait => k_is
      case oNoNote => k_is
      case vNoNote => decide +kernel
      case saNoNote => k_is
      case noNoNote => k_is
      case inNoNote => k_is
      case tfNoNote => k_is
      case lNoNote => k_is
      case cNoNote => k_is
      case kfNoNote => k_is
      case iNoRoom => k_is
      case iWait => k_is
      case sNN => k_is
      case sNW => k_is
      case sWN => k_is
      case sWW => k_is
    obtain ⟨c_Rise, c_NoRoom, c_NoArea, c_Down, c_Up, c_Wait, f_Wait_init, d_Wait_init, c_NoNote, f_NoNote_init, d_NoNote_init, g_Rise, rd_Rise, in_Rise, x_NoRoom, x_NoArea, x_Down, x_Up, x_Wait, x_NoNote, e2_NoRoom, e2_Wait⟩ := G_exc
    obtain ⟨a_WORDS, k_WORDS⟩ : ∃ a, mg "WORDS" = some (.ref a) ∧ ∀ H, L2.SqT _ H a [.str "twice", .str "fallen", .str "astray", .str "below"] := by
      refine' K87.words_mk KX G ?e ?l
      case e => k_is
      case l => k_is
    obtain ⟨a_RULES, k_RULES⟩ : ∃ a, mg "RULES" = some (.ref a) ∧ ∀ H, L2.SqT _ H a [.str "ahead", .str "apart", .str "ends", .str "once", .str "spoken"] := by
      refine' K87.rules_mk KX G ?e ?l
      case e => k_is
      case l => k_is
    have z_isinstance : mg "isinstance" = none := by
      refine' PySem.W.mg_none_of KX G ?e
      case e => k_is
    have z_int : mg "int" = none := by
      refine' PySem.W.mg_none_of KX G ?e
      case e => k_is
    have z_bool : mg "bool" = none := by
      refine' PySem.W.mg_none_of KX G ?e
      case e => k_is
    have z_list : mg "list" = none := by
      refine' PySem.W.mg_none_of KX G ?e
      case e => k_is
    have z_tuple : mg "tuple" = none := by
      refine' PySem.W.mg_none_of KX G ?e
      case e => k_is
    have z_str : mg "str" = none := by
      refine' PySem.W.mg_none_of KX G ?e
      case e => k_is
    have z_divmod : mg "divmod" = none := by
      refine' PySem.W.mg_none_of KX G ?e
      case e => k_is
    have z_enumerate : mg "enumerate" = none := by
      refine' PySem.W.mg_none_of KX G ?e
      case e => k_is
    have z_reversed : mg "reversed" = none := by
      refine' PySem.W.mg_none_of KX G ?e
      case e => k_is
    have z_len : mg "len" = none := by
      refine' PySem.W.mg_none_of KX G ?e
      case e => k_is
    have z_max : mg "max" = none := by
      refine' PySem.W.mg_none_of KX G ?e
      case e => k_is
    have z_min : mg "min" = none := by
      refine' PySem.W.mg_none_of KX G ?e
      case e => k_is
    have z_range : mg "range" = none := by
      refine' PySem.W.mg_none_of KX G ?e
      case e => k_is
    have z_set : mg "set" = none := by
      refine' PySem.W.mg_none_of KX G ?e
      case e => k_is
    have z_sorted : mg "sorted" = none := by
      refine' PySem.W.mg_none_of KX G ?e
      case e => k_is
    have k_WIDEST : ∃ t, mg "WIDEST" = some (.int 1000 t) := by
      refine' K87.great_mk KX G ?e ?z
      case e => k_is
      case z => decide +kernel
    have k_MOST : ∃ t, mg "MOST" = some (.int 2000 t) := by
      refine' K87.great_mk KX G ?e ?z
      case e => k_is
      case z => decide +kernel
    have k_GREATEST : ∃ t, mg "GREATEST" = some (.int 1000000000000 t) := by
      refine' K87.great_mk KX G ?e ?z
      case e => k_is
      case z => decide +kernel
    have T : K87.Txt _ mg ⟨f_is_whole, d_is_whole, f_mark_of, d_mark_of, f_parts_of, d_parts_of, f_worst_of, d_worst_of, f_next_layer, d_next_layer, f_row_to, d_row_to, f_look, d_look, f_bound_of, d_bound_of, f_raised, d_raised, f_next_place, d_next_place, f_moment_at, d_moment_at, f_made, d_made, f_read_note, d_read_note, f_greatest_taken, d_greatest_taken, f_are_rules, d_are_rules, f_has_rule, d_has_rule, f_place_by, d_place_by, f_law_hand, d_law_hand, f_law_pick, d_law_pick, f_law_rules, d_law_rules, f_law_large, d_law_large, f_law_deed, d_law_deed, f_law_asked, d_law_asked, f_law_forbidden, d_law_forbidden, f_law_mark_words, d_law_mark_words, f_law_hand_right, d_law_hand_right, f_law_world_right, d_law_world_right, f_law, d_law, f_Shape_init, d_Shape_init, f_Settings_init, d_Settings_init, f_Hand_init, d_Hand_init, f_Hand_need_up, d_Hand_need_up, f_Hand_need_area, d_Hand_need_area, f_Hand_fall, d_Hand_fall, f_Hand_rise, d_Hand_rise, f_Hand_take, d_Hand_take, f_Hand_write, d_Hand_write, f_Hand_make, d_Hand_make, f_Hand_hear, d_Hand_hear, f_Hand_give_back, d_Hand_give_back, f_Small_init, d_Small_init, f_Small_deeds, d_Small_deeds, f_Small_begin, d_Small_begin, f_Small_next_mark, d_Small_next_mark, f_Small_marked, d_Small_marked, f_Small_taken, d_Small_taken, f_Small_written, d_Small_written, f_Small_heard, d_Small_heard, f_Small_given_back, d_Small_given_back, f_Small_done, d_Small_done, f_Small_after, d_Small_after, f_Small_bad, d_Small_bad, c_Shape, c_Settings, c_Hand, c_Small, c_Rise, c_NoRoom, c_NoArea, c_Down, c_Up, c_Wait, f_Wait_init, d_Wait_init, c_NoNote, f_NoNote_init, d_NoNote_init, a_WORDS, a_RULES⟩ := { t_is_whole := t_is_whole, t_mark_of := t_mark_of, t_parts_of := t_parts_of, t_worst_of := t_worst_of, t_next_layer := t_next_layer, t_row_to := t_row_to, F_look := F_look, B_look := B_look, G_look := G_look, t_bound_of := t_bound_of, t_raised := t_raised, t_next_place := t_next_place, t_moment_at := t_moment_at, t_made := t_made, t_read_note := t_read_note, t_greatest_taken := t_greatest_taken, t_are_rules := t_are_rules, t_has_rule := t_has_rule, t_place_by := t_place_by, t_law_hand := t_law_hand, t_law_pick := t_law_pick, t_law_rules := t_law_rules, t_law_large := t_law_large, t_law_deed := t_law_deed, t_law_asked := t_law_asked, t_law_forbidden := t_law_forbidden, t_law_mark_words := t_law_mark_words, t_law_hand_right := t_law_hand_right, t_law_world_right := t_law_world_right, t_law := t_law, g_Shape := g_Shape, cl_Shape := cl_Shape, t_Shape_init := t_Shape_init, mk_Shape := mk_Shape, n_Shape_counts := n_Shape_counts, n_Shape_slots := n_Shape_slots, g_Settings := g_Settings, cl_Settings := cl_Settings, F_Settings_init := F_Settings_init, B_Settings_init := B_Settings_init, mk_Settings := mk_Settings, n_Settings_shape := n_Settings_shape, n_Settings_far := n_Settings_far, n_Settings_room := n_Settings_room, n_Settings_term := n_Settings_term, n_Settings_rules := n_Settings_rules, g_Hand := g_Hand, cl_Hand := cl_Hand, F_Hand_init := F_Hand_init, B_Hand_init := B_Hand_init, t_Hand_need_up := t_Hand_need_up, t_Hand_need_area := t_Hand_need_area, t_Hand_fall := t_Hand_fall, t_Hand_rise := t_Hand_rise, t_Hand_take := t_Hand_take, t_Hand_write := t_Hand_write, t_Hand_make := t_Hand_make, t_Hand_hear := t_Hand_hear, t_Hand_give_back := t_Hand_give_back, mk_Hand := mk_Hand, n_Hand_name := n_Hand_name, n_Hand_settings := n_Hand_settings, n_Hand_lines := n_Hand_lines, n_Hand_stand := n_Hand_stand, g_Small := g_Small, cl_Small := cl_Small, t_Small_init := t_Small_init, t_Small_deeds := t_Small_deeds, t_Small_begin := t_Small_begin, t_Small_next_mark := t_Small_next_mark, t_Small_marked := t_Small_marked, t_Small_taken := t_Small_taken, t_Small_written := t_Small_written, t_Small_heard := t_Small_heard, t_Small_given_back := t_Small_given_back, t_Small_done := t_Small_done, t_Small_after := t_Small_after, t_Small_bad := t_Small_bad, mk_Small := mk_Small, n_Small_settings := n_Small_settings, n_Small_areas := n_Small_areas, n_Small_moments := n_Small_moments, g_Rise := g_Rise, rd_Rise := rd_Rise, in_Rise := in_Rise, x_NoRoom := x_NoRoom, x_NoArea := x_NoArea, x_Down := x_Down, x_Up := x_Up, x_Wait := x_Wait, x_NoNote := x_NoNote, e2_NoRoom := e2_NoRoom, e2_Wait := e2_Wait, z_isinstance := z_isinstance, z_int := z_int, z_bool := z_bool, z_list := z_list, z_tuple := z_tuple, z_str := z_str, z_divmod := z_divmod, z_enumerate := z_enumerate, z_reversed := z_reversed, z_len := z_len, z_max := z_max, z_min := z_min, z_range := z_range, z_set := z_set, z_sorted := z_sorted, k_WIDEST := k_WIDEST, k_MOST := k_MOST, k_GREATEST := k_GREATEST, k_WORDS := k_WORDS, k_RULES := k_RULES }
    have ef : f_law = fa := by
      have e := t_law.gl.symm.trans hmg
      injection e with e
      injection e with e
    subst ef
    exact ⟨d_law, b_law, fun base _ _ => K87.ok_law T⟩
