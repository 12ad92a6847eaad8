import PyProof.Rows.All
import Wide.All
import OpenK.AllK
import Wide.FinOn
import HandS.ForMost
import HandS.EndTab
import HandS.Codes
import HandS.Nested
import HandS.Defaults
import HandS.IsInst
import HandS.Style
import HandS.Star
import HandS.SortRule
import HandS.SortInts
import HandS.Deep
import HandS.OwnEq
import HandS.TupLen
import HandS.TupAny
import HandS.Wide
import HandS.WideBits
import HandS.Flow
import HandS.Steps
import KE.KNestM
import KE.SortKeyHeap
import PyProof.InstNe
import HandS.Walk
import HandS.TupLe
import HandS.DictComp
import HandS.DictTup
import KE.GoesMore
import PySem.Challenge.RW_planesplits_k67_whole_forests_and_their
set_option Elab.async false
set_option linter.all false
set_option maxRecDepth 100000
set_option maxHeartbeats 4000000
section
set_option autoImplicit false
/-! The mathematics of the law, no program in sight: points, the order of keys, trees, forests. -/
namespace Wd
abbrev Pt := Int × Int
def kx (ax : Bool) (p : Pt) : Int := if ax then p.2 else p.1
def ky (ax : Bool) (p : Pt) : Int := if ax then p.1 else p.2
def le (ax : Bool) (p q : Pt) : Bool := decide (kx ax p < kx ax q ∨ (kx ax p = kx ax q ∧ ky ax p ≤ ky ax q))
def lt (ax : Bool) (p q : Pt) : Bool := decide (kx ax p < kx ax q ∨ (kx ax p = kx ax q ∧ ky ax p < ky ax q))
theorem pt_ext {ax : Bool} {p q : Pt} (h1 : kx ax p = kx ax q) (h2 : ky ax p = ky ax q) : p = q := by
  obtain ⟨a, b⟩ := p
  obtain ⟨c, d⟩ := q
  cases ax <;> simp [kx, ky] at h1 h2 <;> simp [h1, h2]
theorem le_iff {ax : Bool} {p q : Pt} : le ax p q = true ↔ (kx ax p < kx ax q ∨ (kx ax p = kx ax q ∧ ky ax p ≤ ky ax q)) := by simp [le]
theorem lt_iff {ax : Bool} {p q : Pt} : lt ax p q = true ↔ (kx ax p < kx ax q ∨ (kx ax p = kx ax q ∧ ky ax p < ky ax q)) := by simp [lt]
theorem le_trans (ax : Bool) (p q r : Pt) (h1 : le ax p q = true) (h2 : le ax q r = true) : le ax p r = true := by
  rw [le_iff] at *
  omega
theorem le_total (ax : Bool) (p q : Pt) : (le ax p q || le ax q p) = true := by
  rw [Bool.or_eq_true, le_iff, le_iff]
  omega
theorem le_antisymm {ax : Bool} {p q : Pt} (h1 : le ax p q = true) (h2 : le ax q p = true) : p = q := by
  rw [le_iff] at *
  exact pt_ext (ax := ax) (by omega) (by omega)
theorem lt_of_le_ne {ax : Bool} {p q : Pt} (h1 : le ax p q = true) (h2 : p ≠ q) : lt ax p q = true := by
  rw [le_iff] at h1
  rw [lt_iff]
  by_cases e : kx ax p = kx ax q ∧ ky ax p = ky ax q
  · exact absurd (pt_ext e.1 e.2) h2
  · omega
theorem lt_trans {ax : Bool} {p q r : Pt} (h1 : lt ax p q = true) (h2 : lt ax q r = true) : lt ax p r = true := by
  rw [lt_iff] at *
  omega
/-- sorted by the key on an axis -/
def srt (ax : Bool) (ps : List Pt) : List Pt := ps.mergeSort (le ax)
theorem srt_perm (ax : Bool) (ps : List Pt) : (srt ax ps).Perm ps := List.mergeSort_perm _ _
theorem srt_len (ax : Bool) (ps : List Pt) : (srt ax ps).length = ps.length := List.length_mergeSort _
theorem srt_pw (ax : Bool) (ps : List Pt) : (srt ax ps).Pairwise (fun a b => le ax a b = true) := List.pairwise_mergeSort (fun a b c => le_trans ax a b c) (fun a b => le_total ax a b) ps
theorem sorted_unique {ax : Bool} {xs ys : List Pt} (h : xs.Perm ys) (h1 : xs.Pairwise (fun a b => le ax a b = true)) (h2 : ys.Pairwise (fun a b => le ax a b = true)) : xs = ys :=
  List.Perm.eq_of_pairwise (fun _ _ _ _ a b => le_antisymm a b) h1 h2 h
theorem srt_congr {ax : Bool} {ps qs : List Pt} (h : ps.Perm qs) : srt ax ps = srt ax qs :=
  sorted_unique (((srt_perm ax ps).trans h).trans (srt_perm ax qs).symm) (srt_pw ax ps) (srt_pw ax qs)
theorem srt_is {ax : Bool} {xs ps : List Pt} (h : xs.Perm ps) (h1 : xs.Pairwise (fun a b => le ax a b = true)) : xs = srt ax ps := sorted_unique (h.trans (srt_perm ax ps).symm) h1 (srt_pw ax ps)
theorem srt_nodup {ax : Bool} {ps : List Pt} (h : ps.Nodup) : (srt ax ps).Nodup := (srt_perm ax ps).symm.nodup h

/-! ### trees -/
inductive Tree where
  | nil | node (p : Pt) (l r : Tree)
def rd : Tree → List Pt
  | .nil => []
  | .node p l r => p :: (rd l ++ rd r)
def ht : Tree → Nat
  | .nil => 0
  | .node _ l r => max (ht l) (ht r) + 1
def isNil : Tree → Bool
  | .nil => true
  | .node _ _ _ => false
theorem rd_nil_iff {t : Tree} : rd t = [] ↔ t = .nil := by cases t <;> simp [rd]
/-- the tree of points (for fewer than 2 ^ d points) -/
def bt : Nat → Bool → List Pt → Tree
  | 0, _, _ => .nil
  | d + 1, ax, ps => match (srt ax ps)[ps.length / 2]? with
    | none => .nil
    | some p => .node p (bt d (!ax) ((srt ax ps).take (ps.length / 2))) (bt d (!ax) ((srt ax ps).drop (ps.length / 2 + 1)))
theorem bt_nil (d : Nat) (ax : Bool) : bt d ax [] = .nil := by
  cases d with
  | zero => rfl
  | succ d => simp [bt, srt]
theorem bt_cons {d : Nat} {ax : Bool} {ps : List Pt} (h : ps ≠ []) : ∃ p, (srt ax ps)[ps.length / 2]? = some p ∧ bt (d + 1) ax ps = .node p (bt d (!ax) ((srt ax ps).take (ps.length / 2))) (bt d (!ax) ((srt ax ps).drop (ps.length / 2 + 1))) := by
  have hl : ps.length / 2 < (srt ax ps).length := by
    rw [srt_len]
    have := List.length_pos_iff.mpr h
    omega
  refine ⟨(srt ax ps)[ps.length / 2], List.getElem?_eq_getElem hl, ?_⟩
  simp [bt, List.getElem?_eq_getElem hl]
theorem split_at {α : Type} : ∀ {xs : List α} {i : Nat} {p : α}, xs[i]? = some p → xs = xs.take i ++ p :: xs.drop (i + 1)
  | [], _, _, h => by simp at h
  | x :: xs, 0, p, h => by simp at h; simp [h]
  | x :: xs, i + 1, p, h => by
    have := split_at (xs := xs) (i := i) (p := p) (by simpa using h)
    simp only [List.take_succ_cons, List.drop_succ_cons, List.cons_append]
    exact congrArg (List.cons x) this
theorem half_lt {d n : Nat} (h : n < 2 ^ (d + 1)) : n / 2 < 2 ^ d ∧ n - (n / 2 + 1) < 2 ^ d := by
  have e : 2 ^ (d + 1) = 2 * 2 ^ d := by rw [Nat.pow_succ]; omega
  omega
theorem bt_perm : ∀ {d : Nat} {ax : Bool} {ps : List Pt}, ps.length < 2 ^ d → (rd (bt d ax ps)).Perm ps
  | 0, ax, ps, h => by
    have : ps = [] := List.length_eq_zero_iff.mp (by simpa using h)
    subst this
    exact .refl _
  | d + 1, ax, ps, h => by
    by_cases hp : ps = []
    · subst hp
      rw [bt_nil]
      exact .refl _
    · obtain ⟨p, h1, h2⟩ := bt_cons (d := d) (ax := ax) hp
      obtain ⟨l1, l2⟩ := half_lt h
      rw [h2]
      have e := split_at h1
      have i1 := bt_perm (d := d) (ax := !ax) (ps := (srt ax ps).take (ps.length / 2)) (by rw [List.length_take, srt_len]; omega)
      have i2 := bt_perm (d := d) (ax := !ax) (ps := (srt ax ps).drop (ps.length / 2 + 1)) (by rw [List.length_drop, srt_len]; omega)
      refine List.Perm.trans ?_ (srt_perm ax ps)
      rw [e]
      refine List.Perm.trans ?_ List.perm_middle.symm
      refine List.Perm.cons p ?_
      have e1 : ((srt ax ps).take (ps.length / 2) ++ p :: (srt ax ps).drop (ps.length / 2 + 1)) = srt ax ps := e.symm
      rw [e1]
      exact i1.append i2
theorem bt_congr {d : Nat} {ax : Bool} {ps qs : List Pt} (h : ps.Perm qs) : bt d ax ps = bt d ax qs := by
  cases d with
  | zero => rfl
  | succ d =>
    show (match (srt ax ps)[ps.length / 2]? with | none => Tree.nil | some p => _) = (match (srt ax qs)[qs.length / 2]? with | none => Tree.nil | some p => _)
    rw [srt_congr h, h.length_eq]
theorem bt_more : ∀ {d : Nat} {ax : Bool} {ps : List Pt}, ps.length < 2 ^ d → bt (d + 1) ax ps = bt d ax ps
  | 0, ax, ps, h => by
    have : ps = [] := List.length_eq_zero_iff.mp (by simpa using h)
    subst this
    rw [bt_nil, bt_nil]
  | d + 1, ax, ps, h => by
    by_cases hp : ps = []
    · subst hp
      rw [bt_nil, bt_nil]
    · obtain ⟨p, h1, h2⟩ := bt_cons (d := d) (ax := ax) hp
      obtain ⟨q, h3, h4⟩ := bt_cons (d := d + 1) (ax := ax) hp
      obtain ⟨l1, l2⟩ := half_lt h
      rw [h1] at h3
      cases h3
      rw [h2, h4, bt_more (by rw [List.length_take, srt_len]; omega), bt_more (by rw [List.length_drop, srt_len]; omega)]
theorem bt_up {d e : Nat} {ax : Bool} {ps : List Pt} (h : ps.length < 2 ^ d) (he : d ≤ e) : bt e ax ps = bt d ax ps := by
  induction e with
  | zero =>
    have : d = 0 := by omega
    subst this
    rfl
  | succ e ih =>
    by_cases hd : d = e + 1
    · subst hd
      rfl
    · have hde : d ≤ e := by omega
      rw [bt_more (Nat.lt_of_lt_of_le h (Nat.pow_le_pow_right (by decide) hde)), ih hde]
theorem bt_ht : ∀ (d : Nat) (ax : Bool) (ps : List Pt), ht (bt d ax ps) ≤ d
  | 0, ax, ps => Nat.le_refl _
  | d + 1, ax, ps => by
    by_cases hp : ps = []
    · subst hp
      rw [bt_nil]
      exact Nat.zero_le _
    · obtain ⟨p, h1, h2⟩ := bt_cons (d := d) (ax := ax) hp
      rw [h2]
      have i1 := bt_ht d (!ax) ((srt ax ps).take (ps.length / 2))
      have i2 := bt_ht d (!ax) ((srt ax ps).drop (ps.length / 2 + 1))
      simp only [ht]
      omega
/-- the keys' rule of a middle tree -/
def Kd : Bool → Tree → Prop
  | _, .nil => True
  | ax, .node p l r => (∀ q ∈ rd l, lt ax q p = true) ∧ (∀ q ∈ rd r, lt ax p q = true) ∧ Kd (!ax) l ∧ Kd (!ax) r
theorem bt_kd : ∀ {d : Nat} {ax : Bool} {ps : List Pt}, ps.Nodup → ps.length < 2 ^ d → Kd ax (bt d ax ps)
  | 0, _, _, _, _ => trivial
  | d + 1, ax, ps, nd, h => by
    by_cases hp : ps = []
    · subst hp
      rw [bt_nil]
      trivial
    · obtain ⟨p, h1, h2⟩ := bt_cons (d := d) (ax := ax) hp
      obtain ⟨l1, l2⟩ := half_lt h
      have hl1 : ((srt ax ps).take (ps.length / 2)).length < 2 ^ d := by rw [List.length_take, srt_len]; omega
      have hl2 : ((srt ax ps).drop (ps.length / 2 + 1)).length < 2 ^ d := by rw [List.length_drop, srt_len]; omega
      have e := split_at h1
      have nds := srt_nodup (ax := ax) nd
      have pw := srt_pw ax ps
      rw [e] at nds pw
      rw [List.pairwise_append] at pw
      obtain ⟨_, pw2, pw3⟩ := pw
      rw [List.nodup_append] at nds
      obtain ⟨n1, n2, n3⟩ := nds
      rw [List.nodup_cons] at n2
      rw [List.pairwise_cons] at pw2
      rw [h2]
      refine ⟨fun q hq => ?_, fun q hq => ?_, bt_kd n1 hl1, bt_kd n2.2 hl2⟩
      · have hq' := (bt_perm hl1).mem_iff.mp hq
        exact lt_of_le_ne (pw3 q hq' p (List.mem_cons_self ..)) (n3 q hq' p (List.mem_cons_self ..))
      · have hq' := (bt_perm hl2).mem_iff.mp hq
        exact lt_of_le_ne (pw2.1 q hq') fun z => n2.1 (by rw [z]; exact hq')
/-- built again of its own points -/
theorem bt_again {d : Nat} {ps : List Pt} (h : ps.length < 2 ^ d) : bt d false (rd (bt d false ps)) = bt d false ps := bt_congr (bt_perm h)
theorem rd_len {d : Nat} {ax : Bool} {ps : List Pt} (h : ps.length < 2 ^ d) : (rd (bt d ax ps)).length = ps.length := (bt_perm h).length_eq
end Wd
end
section
set_option autoImplicit false
/-! Forests: the places as blocks of the points in their order. -/
namespace Wd
/-- a whole tree: deep enough for all that come here (fewer than 64 points) -/
abbrev bt6 (ps : List Pt) : Tree := bt 6 false ps
def carry : List Tree → List Pt → List Tree
  | [], so => [bt6 so]
  | .nil :: r, so => bt6 so :: r
  | .node p a b :: r, so => .nil :: carry r (so ++ rd (.node p a b))
/-- how many points are built when so is carried in -/
def clen : List Tree → Nat → Nat
  | [], n => n
  | .nil :: _, n => n
  | .node p a b :: r, n => clen r (n + (rd (.node p a b)).length)
/-- the trees from the place i on hold the points ps in their order, in blocks -/
def Rep : Nat → List Tree → List Pt → Prop
  | _, [], ps => ps = []
  | i, t :: r, ps => ∃ qs bs, ps = qs ++ bs ∧ Rep (i + 1) r qs ∧ ((t = .nil ∧ bs = []) ∨ (t ≠ .nil ∧ bs.length = 2 ^ i ∧ ∃ cs : List Pt, cs.Perm bs ∧ t = bt6 cs))
theorem Rep.dvd : ∀ {i : Nat} {pl : List Tree} {ps : List Pt}, Rep i pl ps → 2 ^ i ∣ ps.length
  | i, [], ps, h => by
    have h : ps = [] := h
    subst h
    exact Nat.dvd_zero _
  | i, t :: r, ps, ⟨qs, bs, e, h1, h2⟩ => by
    have d := Rep.dvd h1
    have d' : 2 ^ i ∣ qs.length := Nat.dvd_trans ⟨2, by rw [Nat.pow_succ]⟩ d
    subst e
    rw [List.length_append]
    rcases h2 with ⟨_, e⟩ | ⟨_, e, _⟩
    · subst e
      exact d'
    · rw [e]
      exact Nat.dvd_add d' (Nat.dvd_refl _)
theorem bt6_ne {cs : List Pt} (h : cs ≠ []) : bt6 cs ≠ .nil := by
  obtain ⟨p, _, e⟩ := bt_cons (d := 5) (ax := false) h
  show bt 6 false cs ≠ .nil
  rw [e]
  exact fun z => Tree.noConfusion z
theorem pow_pos2 (i : Nat) : 0 < 2 ^ i := Nat.pow_pos (by decide)
theorem ne_of_len {α : Type} {l : List α} {i : Nat} (h : l.length = 2 ^ i) : l ≠ [] := fun e => by
  subst e
  have := pow_pos2 i
  simp at h
  omega
/-- a block comes -/
theorem Rep.carry : ∀ {i : Nat} {pl : List Tree} {ps cs so : List Pt}, Rep i pl ps → cs.length = 2 ^ i → so.Perm cs → ps.length + cs.length < 64 → Rep i (carry pl so) (ps ++ cs)
  | i, [], ps, cs, so, h, hc, hp, hl => by
    have h : ps = [] := h
    subst h
    exact ⟨[], cs, rfl, rfl, .inr ⟨bt6_ne (fun z => ne_of_len hc (by rw [z] at hp; exact hp.nil_eq.symm)), hc, so, hp, rfl⟩⟩
  | i, .nil :: r, ps, cs, so, ⟨qs, bs, e, h1, h2⟩, hc, hp, hl => by
    rcases h2 with ⟨_, e2⟩ | ⟨e2, _⟩
    · subst e2
      subst e
      rw [List.append_nil]
      exact ⟨qs, cs, rfl, h1, .inr ⟨bt6_ne (fun z => ne_of_len hc (by rw [z] at hp; exact hp.nil_eq.symm)), hc, so, hp, rfl⟩⟩
    · exact absurd rfl e2
  | i, .node p a b :: r, ps, cs, so, ⟨qs, bs, e, h1, h2⟩, hc, hp, hl => by
    rcases h2 with ⟨e2, _⟩ | ⟨_, hb, ds, hd, et⟩
    · exact Tree.noConfusion e2
    · subst e
      have hlen : ds.length < 2 ^ 6 := by
        rw [hd.length_eq]
        simp only [List.length_append] at hl
        omega
      have hr : (rd (.node p a b)).Perm ds := by
        rw [et]
        exact bt_perm hlen
      refine ⟨qs ++ (bs ++ cs), [], by simp, ?_, .inl ⟨rfl, rfl⟩⟩
      refine Rep.carry h1 ?_ ?_ ?_
      · rw [List.length_append, hb, hc, Nat.pow_succ]
        omega
      · exact List.Perm.trans List.perm_append_comm ((hr.trans hd).append hp)
      · simp only [List.length_append] at hl ⊢
        omega
/-- the last place is not empty -/
def Top : List Tree → Prop
  | [] => True
  | [t] => t ≠ .nil
  | _ :: t :: r => Top (t :: r)
theorem Top.tail {t : Tree} {r : List Tree} (h : Top (t :: r)) : Top r := by
  cases r with
  | nil => trivial
  | cons u r => exact h
theorem Top.cons {t : Tree} {r : List Tree} (h : Top r) (hr : r ≠ []) : Top (t :: r) := by
  cases r with
  | nil => exact absurd rfl hr
  | cons u r => exact h
theorem carry_ne (pl : List Tree) (so : List Pt) : carry pl so ≠ [] := by
  cases pl with
  | nil => simp [carry]
  | cons t r => cases t <;> simp [carry]
theorem Top.carry : ∀ {pl : List Tree} {so : List Pt}, Top pl → so ≠ [] → Top (carry pl so)
  | [], so, _, hs => bt6_ne hs
  | .nil :: r, so, h, hs => by
    cases r with
    | nil => exact bt6_ne hs
    | cons u r => exact h
  | .node p a b :: r, so, h, hs => Top.cons (Top.carry h.tail (fun z => hs (List.append_eq_nil_iff.mp z).1)) (carry_ne _ _)
theorem Rep.nil_of : ∀ {i : Nat} {pl : List Tree}, Rep i pl [] → Top pl → pl = []
  | _, [], _, _ => rfl
  | i, t :: r, ⟨qs, bs, e, h1, h2⟩, ht => by
    have e' := List.append_eq_nil_iff.mp e.symm
    obtain ⟨e1, e2⟩ := e'
    subst e1
    subst e2
    have hr := Rep.nil_of h1 ht.tail
    subst hr
    rcases h2 with ⟨e3, _⟩ | ⟨_, e3, _⟩
    · exact absurd e3 ht
    · exact absurd rfl (ne_of_len e3)
theorem split_unique {i : Nat} {qs bs qs' bs' : List Pt} (e : qs ++ bs = qs' ++ bs') (h : 2 ^ (i + 1) ∣ qs.length) (h' : 2 ^ (i + 1) ∣ qs'.length) (hb : bs = [] ∨ bs.length = 2 ^ i) (hb' : bs' = [] ∨ bs'.length = 2 ^ i) : qs = qs' ∧ bs = bs' := by
  have hl : qs.length + bs.length = qs'.length + bs'.length := by rw [← List.length_append, ← List.length_append, e]
  have hp := pow_pos2 i
  have e2 : 2 ^ (i + 1) = 2 * 2 ^ i := by rw [Nat.pow_succ]; omega
  obtain ⟨a, ha⟩ := h
  obtain ⟨b, hb2⟩ := h'
  rw [e2] at ha hb2
  have key : bs.length = bs'.length := by
    rcases hb with z | z <;> rcases hb' with z' | z'
    · subst z; subst z'; rfl
    · subst z
      simp at hl
      rw [ha, hb2, z'] at hl
      have : 2 ^ i * (2 * a) = 2 ^ i * (2 * b + 1) := by
        rw [Nat.mul_add, Nat.mul_one]
        rw [Nat.mul_assoc, Nat.mul_assoc] at hl
        rw [Nat.mul_left_comm, Nat.mul_left_comm (2 ^ i) 2 b]
        exact hl
      have := Nat.eq_of_mul_eq_mul_left hp this
      omega
    · subst z'
      simp at hl
      rw [ha, hb2, z] at hl
      have : 2 ^ i * (2 * a + 1) = 2 ^ i * (2 * b) := by
        rw [Nat.mul_add, Nat.mul_one]
        rw [Nat.mul_assoc, Nat.mul_assoc] at hl
        rw [Nat.mul_left_comm, Nat.mul_left_comm (2 ^ i) 2 b]
        exact hl
      have := Nat.eq_of_mul_eq_mul_left hp this
      omega
    · rw [z, z']
  exact List.append_inj' e key
theorem Rep.split_ok {i : Nat} {t : Tree} {bs : List Pt} (h2 : (t = .nil ∧ bs = []) ∨ (t ≠ .nil ∧ bs.length = 2 ^ i ∧ ∃ cs : List Pt, cs.Perm bs ∧ t = bt6 cs)) : bs = [] ∨ bs.length = 2 ^ i := by
  rcases h2 with ⟨_, e⟩ | ⟨_, e, _⟩
  · exact .inl e
  · exact .inr e
/-- the points in their order tell the trees -/
theorem Rep.unique : ∀ {i : Nat} {pl pl' : List Tree} {ps : List Pt}, Rep i pl ps → Rep i pl' ps → Top pl → Top pl' → pl = pl'
  | i, [], pl', ps, h, h', _, ht' => by
    have h : ps = [] := h
    subst h
    exact (h'.nil_of ht').symm
  | i, t :: r, [], ps, h, h', ht, _ => by
    have h' : ps = [] := h'
    subst h'
    exact h.nil_of ht
  | i, t :: r, t' :: r', ps, ⟨qs, bs, e, h1, h2⟩, ⟨qs', bs', e', h1', h2'⟩, ht, ht' => by
    subst e
    obtain ⟨eq, eb⟩ := split_unique e' h1.dvd h1'.dvd (Rep.split_ok h2) (Rep.split_ok h2')
    subst eq
    subst eb
    have er := Rep.unique h1 h1' ht.tail ht'.tail
    subst er
    rcases h2 with ⟨e1, e2⟩ | ⟨e1, e2, cs, p, et⟩ <;> rcases h2' with ⟨e1', e2'⟩ | ⟨e1', e2', cs', p', et'⟩
    · rw [e1, e1']
    · exact absurd e2 (ne_of_len e2')
    · exact absurd e2' (ne_of_len e2)
    · rw [et, et', show bt6 cs = bt6 cs' from bt_congr (p.trans p'.symm)]
/-! ### blocks that change within themselves -/
inductive Bp : Nat → List Pt → List Pt → Prop where
  | nil (k : Nat) : Bp k [] []
  | skip {k : Nat} {qs qs' : List Pt} (h : Bp (k + 1) qs qs') : Bp k qs qs'
  | step {k : Nat} {qs qs' bs bs' : List Pt} (h : Bp (k + 1) qs qs') (hl : bs.length = 2 ^ k) (hp : bs'.Perm bs) : Bp k (qs ++ bs) (qs' ++ bs')
theorem Bp.dvd {k : Nat} {ps ps' : List Pt} (h : Bp k ps ps') : 2 ^ k ∣ ps.length := by
  induction h with
  | nil k => exact Nat.dvd_zero _
  | skip h ih => exact Nat.dvd_trans ⟨2, by rw [Nat.pow_succ]⟩ ih
  | step h hl hp ih =>
    rw [List.length_append, hl]
    exact Nat.dvd_add (Nat.dvd_trans ⟨2, by rw [Nat.pow_succ]⟩ ih) (Nat.dvd_refl _)
theorem Bp.perm {k : Nat} {ps ps' : List Pt} (h : Bp k ps ps') : ps'.Perm ps := by
  induction h with
  | nil k => exact .refl _
  | skip h ih => exact ih
  | step h hl hp ih => exact ih.append hp
theorem Bp.rep {k : Nat} {ps ps' : List Pt} (h : Bp k ps ps') : ∀ {pl : List Tree}, Rep k pl ps → Rep k pl ps' := by
  induction h with
  | nil k => exact fun h => h
  | @skip k qs qs' h ih =>
    intro pl hr
    cases pl with
    | nil =>
      have hr : qs = [] := hr
      subst hr
      have := h.perm
      exact this.eq_nil
    | cons t r =>
      obtain ⟨as, bs, e, h1, h2⟩ := hr
      have e0 : as ++ bs = qs ++ [] := by rw [List.append_nil]; exact e.symm
      obtain ⟨e1, e2⟩ := split_unique e0 h1.dvd h.dvd (Rep.split_ok h2) (.inl rfl)
      subst e1
      subst e2
      exact ⟨qs', [], (List.append_nil _).symm, ih h1, h2⟩
  | @step k qs qs' bs bs' h hl hp ih =>
    intro pl hr
    cases pl with
    | nil =>
      have hr : qs ++ bs = [] := hr
      exact absurd (List.append_eq_nil_iff.mp hr).2 (ne_of_len hl)
    | cons t r =>
      obtain ⟨as, cs, e, h1, h2⟩ := hr
      obtain ⟨e1, e2⟩ := split_unique e.symm h1.dvd h.dvd (Rep.split_ok h2) (.inr hl)
      subst e1
      subst e2
      refine ⟨qs', bs', rfl, ih h1, ?_⟩
      rcases h2 with ⟨_, z⟩ | ⟨z1, z2, ds, z3, z4⟩
      · exact absurd z (ne_of_len hl)
      · exact .inr ⟨z1, by rw [hp.length_eq, hl], ds, z3.trans hp.symm, z4⟩
/-! ### what each place holds -/
def Wf : Nat → List Tree → Prop
  | _, [] => True
  | i, t :: r => (t = .nil ∨ ∃ cs : List Pt, cs.Nodup ∧ cs.length = 2 ^ i ∧ 2 ^ i < 64 ∧ t = bt6 cs) ∧ Wf (i + 1) r
def pts (pl : List Tree) : List Pt := pl.flatMap rd
theorem pts_nil : pts [] = [] := rfl
theorem pts_cons (t : Tree) (r : List Tree) : pts (t :: r) = rd t ++ pts r := rfl
theorem Rep.wf : ∀ {i : Nat} {pl : List Tree} {ps : List Pt}, Rep i pl ps → ps.Nodup → ps.length < 64 → Wf i pl
  | _, [], _, _, _, _ => trivial
  | i, t :: r, ps, ⟨qs, bs, e, h1, h2⟩, nd, hl => by
    subst e
    rw [List.nodup_append] at nd
    rw [List.length_append] at hl
    refine ⟨?_, Rep.wf h1 nd.1 (by omega)⟩
    rcases h2 with ⟨e, _⟩ | ⟨_, e, cs, p, et⟩
    · exact .inl e
    · exact .inr ⟨cs, p.symm.nodup nd.2.1, by rw [p.length_eq, e], by omega, et⟩
theorem Rep.pts : ∀ {i : Nat} {pl : List Tree} {ps : List Pt}, Rep i pl ps → ps.length < 64 → (pts pl).Perm ps
  | _, [], ps, h, _ => by
    have h : ps = [] := h
    subst h
    exact .refl _
  | i, t :: r, ps, ⟨qs, bs, e, h1, h2⟩, hl => by
    subst e
    rw [List.length_append] at hl
    rw [pts_cons]
    refine List.Perm.trans List.perm_append_comm (List.Perm.append (Rep.pts h1 (by omega)) ?_)
    rcases h2 with ⟨e, e2⟩ | ⟨_, e, cs, p, et⟩
    · subst e; subst e2; exact .refl _
    · rw [et]
      exact (bt_perm (by rw [p.length_eq]; omega)).trans p
theorem carry_pts : ∀ {pl : List Tree} {so : List Pt}, (pts pl).length + so.length < 64 → (pts (carry pl so)).Perm (so ++ pts pl)
  | [], so, h => by
    show (rd (bt6 so) ++ pts []).Perm (so ++ pts [])
    rw [pts_nil, List.append_nil, List.append_nil]
    rw [pts_nil] at h
    exact bt_perm (by simpa using h)
  | .nil :: r, so, h => by
    rw [pts_cons] at h ⊢
    show (rd (bt6 so) ++ pts r).Perm (so ++ ([] ++ pts r))
    rw [List.nil_append]
    exact List.Perm.append_right _ (bt_perm (by omega))
  | .node p a b :: r, so, h => by
    rw [pts_cons] at h ⊢
    show (pts (.nil :: carry r (so ++ rd (.node p a b)))).Perm _
    rw [pts_cons]
    show ([] ++ pts (carry r (so ++ rd (.node p a b)))).Perm _
    rw [List.nil_append, ← List.append_assoc]
    exact carry_pts (by simp only [List.length_append] at h ⊢; omega)
end Wd
end
section
set_option autoImplicit false
/-! Searches: what lies in a rectangle, counts, the nearest; moved and stretched points. -/
namespace Wd
abbrev Rect := Option Int × Option Int × Option Int × Option Int
def lo (r : Rect) (ax : Bool) : Option Int := if ax then r.2.1 else r.1
def hi (r : Rect) (ax : Bool) : Option Int := if ax then r.2.2.2 else r.2.2.1
def ltO (x : Int) : Option Int → Bool
  | none => false
  | some l => decide (x < l)
def gtO (x : Int) : Option Int → Bool
  | none => false
  | some h => decide (h < x)
def outAx (r : Rect) (p : Pt) (ax : Bool) : Bool := ltO (kx ax p) (lo r ax) || gtO (kx ax p) (hi r ax)
def hold (r : Rect) (p : Pt) : Bool := !outAx r p false && !outAx r p true
def mLow (r : Rect) (ax : Bool) (b : Int) : Bool := match lo r ax with
  | none => true
  | some l => decide (l ≤ b)
def mHigh (r : Rect) (ax : Bool) (b : Int) : Bool := match hi r ax with
  | none => true
  | some h => decide (b ≤ h)
theorem hold_ax {r : Rect} {p : Pt} (h : hold r p = true) (ax : Bool) : outAx r p ax = false := by
  unfold hold at h
  rw [Bool.and_eq_true, Bool.not_eq_true', Bool.not_eq_true'] at h
  cases ax
  · exact h.1
  · exact h.2
theorem hold_of {r : Rect} {p : Pt} (h : ∀ ax, outAx r p ax = false) : hold r p = true := by
  unfold hold
  rw [h, h]
  rfl
def fnd (r : Rect) : Bool → Tree → List Pt
  | _, .nil => []
  | ax, .node p a b => (if hold r p then [p] else []) ++ ((if mLow r ax (kx ax p) then fnd r (!ax) a else []) ++ (if mHigh r ax (kx ax p) then fnd r (!ax) b else []))
def vis (r : Rect) : Bool → Tree → List Pt
  | _, .nil => []
  | ax, .node p a b => p :: ((if mLow r ax (kx ax p) then vis r (!ax) a else []) ++ (if mHigh r ax (kx ax p) then vis r (!ax) b else []))
theorem lt_kx {ax : Bool} {p q : Pt} (h : lt ax p q = true) : kx ax p ≤ kx ax q := by
  rw [lt_iff] at h
  omega
theorem low_none {r : Rect} {ax : Bool} {p : Pt} {l : List Pt} (h : ∀ q ∈ l, lt ax q p = true) (hm : mLow r ax (kx ax p) = false) : l.filter (hold r) = [] := by
  rw [List.filter_eq_nil_iff]
  intro q hq hh
  have o := hold_ax hh ax
  have k := lt_kx (h q hq)
  unfold mLow at hm
  unfold outAx at o
  rw [Bool.or_eq_false_iff] at o
  cases e : lo r ax with
  | none => rw [e] at hm; cases hm
  | some l =>
    rw [e] at hm o
    have h1 := of_decide_eq_false hm
    have h2 := of_decide_eq_false o.1
    omega
theorem high_none {r : Rect} {ax : Bool} {p : Pt} {l : List Pt} (h : ∀ q ∈ l, lt ax p q = true) (hm : mHigh r ax (kx ax p) = false) : l.filter (hold r) = [] := by
  rw [List.filter_eq_nil_iff]
  intro q hq hh
  have o := hold_ax hh ax
  have k := lt_kx (h q hq)
  unfold mHigh at hm
  unfold outAx at o
  rw [Bool.or_eq_false_iff] at o
  cases e : hi r ax with
  | none => rw [e] at hm; cases hm
  | some l =>
    rw [e] at hm o
    have h1 := of_decide_eq_false hm
    have h2 := of_decide_eq_false o.2
    omega
/-- what is found is what the rectangle holds -/
theorem filter_node {r : Rect} {ax : Bool} {p : Pt} {a b : Tree} (h : Kd ax (.node p a b)) : (rd (.node p a b)).filter (hold r) =
    (if hold r p then [p] else []) ++ ((if mLow r ax (kx ax p) then (rd a).filter (hold r) else []) ++ (if mHigh r ax (kx ax p) then (rd b).filter (hold r) else [])) := by
  obtain ⟨h1, h2, _, _⟩ := h
  have e1 : (if mLow r ax (kx ax p) then (rd a).filter (hold r) else []) = (rd a).filter (hold r) := by
    cases e : mLow r ax (kx ax p) with
    | true => rfl
    | false => exact (low_none h1 e).symm
  have e2 : (if mHigh r ax (kx ax p) then (rd b).filter (hold r) else []) = (rd b).filter (hold r) := by
    cases e : mHigh r ax (kx ax p) with
    | true => rfl
    | false => exact (high_none h2 e).symm
  rw [e1, e2]
  show (p :: (rd a ++ rd b)).filter (hold r) = _
  rw [List.filter_cons, List.filter_append]
  cases hold r p <;> rfl
theorem fnd_eq {r : Rect} : ∀ {t : Tree} {ax : Bool}, Kd ax t → fnd r ax t = (rd t).filter (hold r)
  | .nil, _, _ => rfl
  | .node p a b, ax, h => by
    rw [filter_node h]
    show (if hold r p then [p] else []) ++ ((if mLow r ax (kx ax p) then fnd r (!ax) a else []) ++ (if mHigh r ax (kx ax p) then fnd r (!ax) b else [])) = _
    rw [fnd_eq h.2.2.1, fnd_eq h.2.2.2]
theorem vis_len {r : Rect} : ∀ {t : Tree} {ax : Bool}, (vis r ax t).length ≤ (rd t).length
  | .nil, _ => Nat.le_refl _
  | .node p a b, ax => by
    have i1 := vis_len (r := r) (t := a) (ax := !ax)
    have i2 := vis_len (r := r) (t := b) (ax := !ax)
    show (p :: ((if mLow r ax (kx ax p) then vis r (!ax) a else []) ++ (if mHigh r ax (kx ax p) then vis r (!ax) b else []))).length ≤ (p :: (rd a ++ rd b)).length
    rw [List.length_cons, List.length_cons, List.length_append, List.length_append]
    split <;> split <;> (try simp only [List.length_nil]) <;> omega
/-! ### boxes -/
def boxOk (bx : Rect) (t : Tree) : Prop := ∀ q ∈ rd t, hold bx q = true
def cut (bx : Rect) (ax : Bool) (b : Int) (side : Bool) : Rect := match ax, side with
  | false, true => (some b, bx.2.1, bx.2.2.1, bx.2.2.2)
  | false, false => (bx.1, bx.2.1, some b, bx.2.2.2)
  | true, true => (bx.1, some b, bx.2.2.1, bx.2.2.2)
  | true, false => (bx.1, bx.2.1, bx.2.2.1, some b)
def all4 : Rect := (none, none, none, none)
theorem all4_ok (t : Tree) : boxOk all4 t := fun _ _ => rfl
theorem cut_hold {bx : Rect} {ax side : Bool} {b : Int} {q : Pt} (h : hold bx q = true) (hk : if side then b ≤ kx ax q else kx ax q ≤ b) : hold (cut bx ax b side) q = true := by
  refine hold_of fun ax' => ?_
  have o := hold_ax h ax'
  unfold outAx at o ⊢
  rw [Bool.or_eq_false_iff] at o ⊢
  obtain ⟨o1, o2⟩ := o
  cases ax <;> cases side <;> cases ax' <;> simp [cut, lo, hi, ltO, gtO, kx] at o1 o2 hk ⊢ <;> first | exact ⟨o1, o2⟩ | exact ⟨hk, o2⟩ | exact ⟨o1, hk⟩ | omega
theorem box_low {bx : Rect} {ax : Bool} {p : Pt} {a b : Tree} (h : boxOk bx (.node p a b)) (k : Kd ax (.node p a b)) : boxOk (cut bx ax (kx ax p) false) a := fun q hq =>
  cut_hold (h q (List.mem_cons_of_mem _ (List.mem_append_left _ hq))) (lt_kx (k.1 q hq))
theorem box_high {bx : Rect} {ax : Bool} {p : Pt} {a b : Tree} (h : boxOk bx (.node p a b)) (k : Kd ax (.node p a b)) : boxOk (cut bx ax (kx ax p) true) b := fun q hq =>
  cut_hold (h q (List.mem_cons_of_mem _ (List.mem_append_right _ hq))) (lt_kx (k.2.1 q hq))
/-- does a rectangle cover another one: on an axis -/
def uncov (r bx : Rect) (ax : Bool) : Bool :=
  (match lo r ax with
    | none => false
    | some l => match lo bx ax with
      | none => true
      | some b => decide (b < l)) ||
  (match hi r ax with
    | none => false
    | some h => match hi bx ax with
      | none => true
      | some b => decide (h < b))
def cover (r bx : Rect) : Bool := !uncov r bx false && !uncov r bx true
theorem cover_hold {r bx : Rect} (h : cover r bx = true) {q : Pt} (hq : hold bx q = true) : hold r q = true := by
  unfold cover at h
  rw [Bool.and_eq_true, Bool.not_eq_true', Bool.not_eq_true'] at h
  refine hold_of fun ax => ?_
  have c : uncov r bx ax = false := by
    cases ax
    · exact h.1
    · exact h.2
  have o := hold_ax hq ax
  unfold uncov at c
  unfold outAx at o ⊢
  rw [Bool.or_eq_false_iff] at c o ⊢
  obtain ⟨c1, c2⟩ := c
  obtain ⟨o1, o2⟩ := o
  constructor
  · cases e1 : lo r ax with
    | none => rfl
    | some l =>
      rw [e1] at c1
      cases e2 : lo bx ax with
      | none => rw [e2] at c1; cases c1
      | some b =>
        rw [e2] at c1 o1
        have h1 := of_decide_eq_false c1
        have h2 := of_decide_eq_false o1
        exact decide_eq_false (by omega)
  · cases e1 : hi r ax with
    | none => rfl
    | some l =>
      rw [e1] at c2
      cases e2 : hi bx ax with
      | none => rw [e2] at c2; cases c2
      | some b =>
        rw [e2] at c2 o2
        have h1 := of_decide_eq_false c2
        have h2 := of_decide_eq_false o2
        exact decide_eq_false (by omega)
theorem cover_all {r bx : Rect} {t : Tree} (h : cover r bx = true) (hb : boxOk bx t) : ((rd t).filter (hold r)).length = (rd t).length := by
  rw [List.filter_eq_self.mpr fun q hq => cover_hold h (hb q hq)]
/-! ### distances -/
def dst (q p : Pt) : Int := (q.1 - p.1) * (q.1 - p.1) + (q.2 - p.2) * (q.2 - p.2)
def gapAx (q : Pt) (r : Rect) (ax : Bool) : Int :=
  (match lo r ax with
    | none => 0
    | some l => if kx ax q < l then (l - kx ax q) * (l - kx ax q) else 0) +
  (match hi r ax with
    | none => 0
    | some h => if h < kx ax q then (kx ax q - h) * (kx ax q - h) else 0)
def gap (q : Pt) (r : Rect) : Int := gapAx q r false + gapAx q r true
theorem sq_mono {a b : Int} (h0 : 0 ≤ a) (h : a ≤ b) : a * a ≤ b * b := Int.mul_le_mul h h h0 (by omega)
theorem sq_nn (a : Int) : 0 ≤ a * a := by
  rcases Int.le_total 0 a with h | h
  · exact Int.mul_nonneg h h
  · exact Int.mul_nonneg_of_nonpos_of_nonpos h h
theorem sq_neg (a b : Int) : (a - b) * (a - b) = (b - a) * (b - a) := by
  rw [show a - b = -(b - a) by omega, Int.neg_mul_neg]
theorem gapAx_le {q p : Pt} {r : Rect} {ax : Bool} (h : outAx r p ax = false) : gapAx q r ax ≤ (kx ax q - kx ax p) * (kx ax q - kx ax p) := by
  unfold outAx at h
  rw [Bool.or_eq_false_iff] at h
  obtain ⟨h1, h2⟩ := h
  unfold gapAx
  have nn := sq_nn (kx ax q - kx ax p)
  cases e1 : lo r ax with
  | none =>
    cases e2 : hi r ax with
    | none =>
      dsimp only
      omega
    | some u =>
      dsimp only
      rw [e2] at h2
      have g2 := of_decide_eq_false h2
      split
      · have := sq_mono (a := kx ax q - u) (b := kx ax q - kx ax p) (by omega) (by omega)
        omega
      · omega
  | some l =>
    rw [e1] at h1
    have g1 := of_decide_eq_false h1
    have low : kx ax q < l → (l - kx ax q) * (l - kx ax q) ≤ (kx ax q - kx ax p) * (kx ax q - kx ax p) := fun z => by
      rw [sq_neg (kx ax q)]
      exact sq_mono (by omega) (by omega)
    cases e2 : hi r ax with
    | none =>
      dsimp only
      split
      · rename_i z
        have := low z
        omega
      · omega
    | some u =>
      dsimp only
      rw [e2] at h2
      have g2 := of_decide_eq_false h2
      split
      · rename_i z
        have := low z
        split
        · omega
        · omega
      · split
        · have := sq_mono (a := kx ax q - u) (b := kx ax q - kx ax p) (by omega) (by omega)
          omega
        · omega
theorem gap_le {q p : Pt} {r : Rect} (h : hold r p = true) : gap q r ≤ dst q p := by
  have h1 := gapAx_le (q := q) (hold_ax h false)
  have h2 := gapAx_le (q := q) (hold_ax h true)
  unfold gap dst
  exact Int.add_le_add h1 h2
/-! ### moved and stretched -/
structure Aff where
  a : Int
  b : Int
  g : Int
  pos : 1 ≤ g
def Aff.off (c : Aff) (ax : Bool) : Int := if ax then c.b else c.a
def Aff.pt (c : Aff) (p : Pt) : Pt := (c.a + c.g * p.1, c.b + c.g * p.2)
def Aff.end_ (c : Aff) (ax : Bool) : Option Int → Option Int
  | none => none
  | some e => some (c.off ax + c.g * e)
def Aff.rect (c : Aff) (r : Rect) : Rect := (c.end_ false r.1, c.end_ true r.2.1, c.end_ false r.2.2.1, c.end_ true r.2.2.2)
def Aff.tree (c : Aff) : Tree → Tree
  | .nil => .nil
  | .node p a b => .node (c.pt p) (c.tree a) (c.tree b)
theorem Aff.kx (c : Aff) (ax : Bool) (p : Pt) : Wd.kx ax (c.pt p) = c.off ax + c.g * Wd.kx ax p := by cases ax <;> rfl
theorem Aff.ky (c : Aff) (ax : Bool) (p : Pt) : Wd.ky ax (c.pt p) = c.off (!ax) + c.g * Wd.ky ax p := by cases ax <;> rfl
theorem Aff.lt_iff (c : Aff) (o x y : Int) : o + c.g * x < o + c.g * y ↔ x < y := by
  have h : 0 < c.g := by have := c.pos; omega
  have := Int.mul_lt_mul_left (a := c.g) (b := x) (c := y) h
  omega
theorem Aff.le_iff (c : Aff) (o x y : Int) : o + c.g * x ≤ o + c.g * y ↔ x ≤ y := by
  have := c.lt_iff o y x
  omega
theorem Aff.eq_iff (c : Aff) (o x y : Int) : o + c.g * x = o + c.g * y ↔ x = y := by
  have := c.lt_iff o y x
  have := c.lt_iff o x y
  omega
theorem Aff.le (c : Aff) (ax : Bool) (p q : Pt) : Wd.le ax p q = Wd.le ax (c.pt p) (c.pt q) := by
  unfold Wd.le
  rw [c.kx, c.kx, c.ky, c.ky]
  refine decide_eq_decide.mpr ?_
  rw [c.lt_iff, c.eq_iff, c.le_iff]
theorem Aff.inj (c : Aff) {p q : Pt} (h : c.pt p = c.pt q) : p = q := by
  have h1 : c.a + c.g * p.1 = c.a + c.g * q.1 := congrArg Prod.fst h
  have h2 : c.b + c.g * p.2 = c.b + c.g * q.2 := congrArg Prod.snd h
  exact Prod.ext ((c.eq_iff _ _ _).mp h1) ((c.eq_iff _ _ _).mp h2)
theorem Aff.srt (c : Aff) (ax : Bool) (ps : List Pt) : Wd.srt ax (ps.map c.pt) = (Wd.srt ax ps).map c.pt := (List.map_mergeSort fun a _ b _ => c.le ax a b).symm
theorem Aff.bt (c : Aff) : ∀ (d : Nat) (ax : Bool) (ps : List Pt), Wd.bt d ax (ps.map c.pt) = c.tree (Wd.bt d ax ps)
  | 0, _, _ => rfl
  | d + 1, ax, ps => by
    show (match (Wd.srt ax (ps.map c.pt))[(ps.map c.pt).length / 2]? with | none => Tree.nil | some p => .node p (Wd.bt d (!ax) ((Wd.srt ax (ps.map c.pt)).take ((ps.map c.pt).length / 2))) (Wd.bt d (!ax) ((Wd.srt ax (ps.map c.pt)).drop ((ps.map c.pt).length / 2 + 1)))) =
      c.tree (match (Wd.srt ax ps)[ps.length / 2]? with | none => Tree.nil | some p => .node p (Wd.bt d (!ax) ((Wd.srt ax ps).take (ps.length / 2))) (Wd.bt d (!ax) ((Wd.srt ax ps).drop (ps.length / 2 + 1))))
    rw [c.srt, List.length_map, List.getElem?_map]
    cases (Wd.srt ax ps)[ps.length / 2]? with
    | none => rfl
    | some p =>
      show Tree.node (c.pt p) _ _ = Tree.node (c.pt p) _ _
      rw [← List.map_take, ← List.map_drop, Aff.bt c d, Aff.bt c d]
theorem Aff.rd (c : Aff) : ∀ t : Tree, Wd.rd (c.tree t) = (Wd.rd t).map c.pt
  | .nil => rfl
  | .node p a b => by
    show c.pt p :: (Wd.rd (c.tree a) ++ Wd.rd (c.tree b)) = (p :: (Wd.rd a ++ Wd.rd b)).map c.pt
    rw [Aff.rd c a, Aff.rd c b, List.map_cons, List.map_append]
theorem Aff.lo (c : Aff) (r : Rect) (ax : Bool) : Wd.lo (c.rect r) ax = c.end_ ax (Wd.lo r ax) := by cases ax <;> rfl
theorem Aff.hi (c : Aff) (r : Rect) (ax : Bool) : Wd.hi (c.rect r) ax = c.end_ ax (Wd.hi r ax) := by cases ax <;> rfl
theorem Aff.hold (c : Aff) (r : Rect) (p : Pt) : Wd.hold (c.rect r) (c.pt p) = Wd.hold r p := by
  have key : ∀ ax, outAx (c.rect r) (c.pt p) ax = outAx r p ax := fun ax => by
    unfold outAx
    rw [c.lo, c.hi, c.kx]
    congr 1
    · cases Wd.lo r ax with
      | none => rfl
      | some l => exact decide_eq_decide.mpr (c.lt_iff _ _ _)
    · cases Wd.hi r ax with
      | none => rfl
      | some l => exact decide_eq_decide.mpr (c.lt_iff _ _ _)
  unfold Wd.hold
  rw [key, key]
theorem Aff.mLow (c : Aff) (r : Rect) (ax : Bool) (p : Pt) : Wd.mLow (c.rect r) ax (Wd.kx ax (c.pt p)) = Wd.mLow r ax (Wd.kx ax p) := by
  unfold Wd.mLow
  rw [c.lo, c.kx]
  cases Wd.lo r ax with
  | none => rfl
  | some l => exact decide_eq_decide.mpr (c.le_iff _ _ _)
theorem Aff.mHigh (c : Aff) (r : Rect) (ax : Bool) (p : Pt) : Wd.mHigh (c.rect r) ax (Wd.kx ax (c.pt p)) = Wd.mHigh r ax (Wd.kx ax p) := by
  unfold Wd.mHigh
  rw [c.hi, c.kx]
  cases Wd.hi r ax with
  | none => rfl
  | some l => exact decide_eq_decide.mpr (c.le_iff _ _ _)
theorem Aff.fnd (c : Aff) (r : Rect) : ∀ (t : Tree) (ax : Bool), Wd.fnd (c.rect r) ax (c.tree t) = (Wd.fnd r ax t).map c.pt
  | .nil, _ => rfl
  | .node p a b, ax => by
    show (if Wd.hold (c.rect r) (c.pt p) then [c.pt p] else []) ++ ((if Wd.mLow (c.rect r) ax (Wd.kx ax (c.pt p)) then Wd.fnd (c.rect r) (!ax) (c.tree a) else []) ++ (if Wd.mHigh (c.rect r) ax (Wd.kx ax (c.pt p)) then Wd.fnd (c.rect r) (!ax) (c.tree b) else [])) =
      ((if Wd.hold r p then [p] else []) ++ ((if Wd.mLow r ax (Wd.kx ax p) then Wd.fnd r (!ax) a else []) ++ (if Wd.mHigh r ax (Wd.kx ax p) then Wd.fnd r (!ax) b else []))).map c.pt
    rw [c.hold, c.mLow, c.mHigh, Aff.fnd c r a, Aff.fnd c r b, List.map_append, List.map_append]
    cases Wd.hold r p <;> cases Wd.mLow r ax (Wd.kx ax p) <;> cases Wd.mHigh r ax (Wd.kx ax p) <;> rfl
theorem Aff.vis (c : Aff) (r : Rect) : ∀ (t : Tree) (ax : Bool), Wd.vis (c.rect r) ax (c.tree t) = (Wd.vis r ax t).map c.pt
  | .nil, _ => rfl
  | .node p a b, ax => by
    show c.pt p :: ((if Wd.mLow (c.rect r) ax (Wd.kx ax (c.pt p)) then Wd.vis (c.rect r) (!ax) (c.tree a) else []) ++ (if Wd.mHigh (c.rect r) ax (Wd.kx ax (c.pt p)) then Wd.vis (c.rect r) (!ax) (c.tree b) else [])) =
      (p :: ((if Wd.mLow r ax (Wd.kx ax p) then Wd.vis r (!ax) a else []) ++ (if Wd.mHigh r ax (Wd.kx ax p) then Wd.vis r (!ax) b else []))).map c.pt
    rw [c.mLow, c.mHigh, Aff.vis c r a, Aff.vis c r b, List.map_cons, List.map_append]
    cases Wd.mLow r ax (Wd.kx ax p) <;> cases Wd.mHigh r ax (Wd.kx ax p) <;> rfl
theorem Aff.carry (c : Aff) : ∀ (pl : List Tree) (so : List Pt), Wd.carry (pl.map c.tree) (so.map c.pt) = (Wd.carry pl so).map c.tree
  | [], so => by
    show [bt6 (so.map c.pt)] = [c.tree (bt6 so)]
    rw [show bt6 (so.map c.pt) = c.tree (bt6 so) from c.bt 6 false so]
  | .nil :: r, so => by
    show bt6 (so.map c.pt) :: r.map c.tree = c.tree (bt6 so) :: r.map c.tree
    rw [show bt6 (so.map c.pt) = c.tree (bt6 so) from c.bt 6 false so]
  | .node p a b :: r, so => by
    show Tree.nil :: Wd.carry (r.map c.tree) (so.map c.pt ++ Wd.rd (c.tree (.node p a b))) = Tree.nil :: (Wd.carry r (so ++ Wd.rd (.node p a b))).map c.tree
    rw [Aff.rd, ← List.map_append, Aff.carry c r]
end Wd
end
section
set_option autoImplicit false
/-! What a forest knows: points with a mark each (there, or gone). -/
namespace Wd
abbrev Kn := List (Pt × Bool)
def keys (ks : Kn) : List Pt := ks.map (·.1)
def alive (ks : Kn) : List Pt := (ks.filter (·.2)).map (·.1)
def gone (ks : Kn) : List Pt := (ks.filter (!·.2)).map (·.1)
def getB (ks : Kn) (p : Pt) : Option Bool := (ks.find? fun q => decide (q.1 = p)).map (·.2)
def putB (ks : Kn) (p : Pt) (b : Bool) : Kn := if (ks.any fun q => decide (q.1 = p)) = true then ks.map (fun q => if q.1 = p then (q.1, b) else q) else ks ++ [(p, b)]
theorem getB_cons (q : Pt × Bool) (ks : Kn) (p : Pt) : getB (q :: ks) p = if q.1 = p then some q.2 else getB ks p := by
  unfold getB
  by_cases h : q.1 = p <;> simp [List.find?_cons, h]
theorem getB_none {ks : Kn} {p : Pt} : getB ks p = none ↔ p ∉ keys ks := by
  induction ks with
  | nil => simp [getB, keys]
  | cons q ks ih =>
    rw [getB_cons]
    by_cases h : q.1 = p
    · rw [if_pos h]
      simp [keys, h]
    · rw [if_neg h, ih]
      unfold keys
      rw [List.map_cons, List.mem_cons, not_or]
      exact ⟨fun z => ⟨fun e => h e.symm, z⟩, fun z => z.2⟩
theorem getB_mem {ks : Kn} {p : Pt} {b : Bool} (h : getB ks p = some b) : (p, b) ∈ ks := by
  induction ks with
  | nil => simp [getB] at h
  | cons q ks ih =>
    rw [getB_cons] at h
    by_cases e : q.1 = p
    · rw [if_pos e] at h
      have h2 : q.2 = b := Option.some.inj h
      rw [← e, ← h2]
      exact List.mem_cons_self ..
    · rw [if_neg e] at h
      exact List.mem_cons_of_mem _ (ih h)
theorem getB_of {ks : Kn} {p : Pt} {b : Bool} (nd : (keys ks).Nodup) (h : (p, b) ∈ ks) : getB ks p = some b := by
  induction ks with
  | nil => cases h
  | cons q ks ih =>
    unfold keys at nd
    rw [List.map_cons, List.nodup_cons] at nd
    rw [getB_cons]
    rcases List.mem_cons.mp h with e | h
    · rw [← e, if_pos rfl]
    · rw [if_neg fun e => nd.1 (by rw [e]; exact List.mem_map.mpr ⟨_, h, rfl⟩)]
      exact ih nd.2 h
theorem mem_alive {ks : Kn} {p : Pt} : p ∈ alive ks ↔ (p, true) ∈ ks := by
  unfold alive
  rw [List.mem_map]
  constructor
  · rintro ⟨⟨a, b⟩, h, rfl⟩
    rw [List.mem_filter] at h
    obtain ⟨h1, h2⟩ := h
    have h2 : b = true := h2
    rw [h2] at h1
    exact h1
  · intro h
    exact ⟨(p, true), List.mem_filter.mpr ⟨h, rfl⟩, rfl⟩
theorem mem_gone {ks : Kn} {p : Pt} : p ∈ gone ks ↔ (p, false) ∈ ks := by
  unfold gone
  rw [List.mem_map]
  constructor
  · rintro ⟨⟨a, b⟩, h, rfl⟩
    rw [List.mem_filter] at h
    obtain ⟨h1, h2⟩ := h
    have h2 : (!b) = true := h2
    cases b with
    | true => cases h2
    | false => exact h1
  · intro h
    exact ⟨(p, false), List.mem_filter.mpr ⟨h, rfl⟩, rfl⟩
theorem alive_gone (ks : Kn) : (alive ks ++ gone ks).Perm (keys ks) := by
  unfold alive gone keys
  rw [← List.map_append]
  exact (List.filter_append_perm (fun q : Pt × Bool => q.2) ks).map _
theorem alive_sub (ks : Kn) : (alive ks).Sublist (keys ks) := List.filter_sublist.map _
theorem gone_sub (ks : Kn) : (gone ks).Sublist (keys ks) := List.filter_sublist.map _
theorem alive_nodup {ks : Kn} (nd : (keys ks).Nodup) : (alive ks).Nodup := nd.sublist (alive_sub ks)
theorem gone_nodup {ks : Kn} (nd : (keys ks).Nodup) : (gone ks).Nodup := nd.sublist (gone_sub ks)
theorem putB_new {ks : Kn} {p : Pt} {b : Bool} (h : p ∉ keys ks) : putB ks p b = ks ++ [(p, b)] := by
  unfold putB
  rw [if_neg]
  intro z
  obtain ⟨q, hq, e⟩ := List.any_eq_true.mp z
  exact h (List.mem_map.mpr ⟨q, hq, of_decide_eq_true e⟩)
theorem putB_old {ks : Kn} {p : Pt} {b : Bool} (h : p ∈ keys ks) : putB ks p b = ks.map (fun q => if q.1 = p then (q.1, b) else q) := by
  unfold putB
  obtain ⟨q, hq, e⟩ := List.mem_map.mp h
  rw [if_pos (List.any_eq_true.mpr ⟨q, hq, decide_eq_true e⟩)]
theorem keys_old {ks : Kn} {p : Pt} {b : Bool} (h : p ∈ keys ks) : keys (putB ks p b) = keys ks := by
  rw [putB_old h]
  unfold keys
  rw [List.map_map]
  refine List.map_congr_left fun q _ => ?_
  show (if q.1 = p then (q.1, b) else q).1 = q.1
  split <;> rfl
theorem putB_len {ks : Kn} {p : Pt} {b : Bool} : (putB ks p b).length ≤ ks.length + 1 := by
  unfold putB
  split
  · rw [List.length_map]; omega
  · rw [List.length_append]; exact Nat.le_refl _
/-- one mark changes: the counts -/
theorem count_old : ∀ {ks : Kn} {p : Pt} {b : Bool}, (keys ks).Nodup → (p, !b) ∈ ks → (gone (ks.map fun q => if q.1 = p then (q.1, b) else q)).length + (if b then 1 else 0) = (gone ks).length + (if b then 0 else 1)
  | [], _, _, _, h => by cases h
  | q :: ks, p, b, nd, h => by
    unfold keys at nd
    rw [List.map_cons, List.nodup_cons] at nd
    by_cases e : q.1 = p
    · have hq : q = (p, !b) := by
        rcases List.mem_cons.mp h with z | z
        · exact z.symm
        · exact absurd (List.mem_map.mpr ⟨_, z, rfl⟩) (by rw [← e] at *; exact nd.1)
      have rest : (ks.map fun q => if q.1 = p then (q.1, b) else q) = ks := by
        conv => rhs; rw [← List.map_id ks]
        refine List.map_congr_left fun r hr => ?_
        rw [if_neg fun z => nd.1 (by rw [e, ← z]; exact List.mem_map.mpr ⟨r, hr, rfl⟩)]
        rfl
      rw [List.map_cons, rest, if_pos e, hq]
      cases b <;> simp [gone]
    · have hm : (p, !b) ∈ ks := by
        rcases List.mem_cons.mp h with z | z
        · exact absurd (by rw [← z]) e
        · exact z
      have ih := count_old nd.2 hm
      rw [List.map_cons, if_neg e]
      obtain ⟨a, m⟩ := q
      cases m
      · simp only [gone, List.filter_cons, Bool.not_false, if_true, List.map_cons, List.length_cons] at ih ⊢
        omega
      · simp only [gone, List.filter_cons, Bool.not_true, Bool.false_eq_true, if_false] at ih ⊢
        exact ih
theorem gone_more {ks : Kn} {p : Pt} (nd : (keys ks).Nodup) (h : (p, true) ∈ ks) : (gone (putB ks p false)).length = (gone ks).length + 1 := by
  rw [putB_old (List.mem_map.mpr ⟨_, h, rfl⟩)]
  have := count_old (b := false) nd h
  simpa using this
theorem gone_less {ks : Kn} {p : Pt} (nd : (keys ks).Nodup) (h : (p, false) ∈ ks) : (gone (putB ks p true)).length + 1 = (gone ks).length := by
  rw [putB_old (List.mem_map.mpr ⟨_, h, rfl⟩)]
  have := count_old (b := true) nd h
  simpa using this
/-- all there -/
def fresh (ps : List Pt) : Kn := ps.map fun p => (p, true)
theorem keys_fresh (ps : List Pt) : keys (fresh ps) = ps := by
  unfold keys fresh
  rw [List.map_map]
  exact List.map_id _
theorem alive_fresh (ps : List Pt) : alive (fresh ps) = ps := by
  unfold alive fresh
  rw [List.filter_map]
  rw [List.filter_eq_self.mpr (by intro a _; rfl), List.map_map]
  exact List.map_id _
theorem gone_fresh (ps : List Pt) : gone (fresh ps) = [] := by
  unfold gone fresh
  rw [List.filter_map]
  rw [List.filter_eq_nil_iff.mpr (by intro a _; simp)]
  rfl
/-! ### the state of a forest -/
structure FInv (ks : Kn) (pl : List Tree) : Prop where
  nd : (keys ks).Nodup
  wf : Wf 0 pl
  top : Top pl
  pp : (pts pl).Perm (keys ks)
  half : 2 * (gone ks).length ≤ ks.length
  few : ks.length ≤ 40
theorem FInv.of_rep {ps : List Pt} {pl : List Tree} (r : Rep 0 pl ps) (t : Top pl) (nd : ps.Nodup) (few : ps.length ≤ 40) : FInv (fresh ps) pl := by
  refine ⟨by rw [keys_fresh]; exact nd, r.wf nd (by omega), t, by rw [keys_fresh]; exact r.pts (by omega), ?_, ?_⟩
  · rw [gone_fresh]
    exact Nat.zero_le _
  · unfold fresh
    rw [List.length_map]
    exact few
theorem keys_len (ks : Kn) : (keys ks).length = ks.length := List.length_map ..
theorem FInv.back {ks : Kn} {pl : List Tree} (f : FInv ks pl) {p : Pt} (h : (p, false) ∈ ks) : FInv (putB ks p true) pl := by
  have hk : p ∈ keys ks := List.mem_map.mpr ⟨_, h, rfl⟩
  have e := keys_old (b := true) hk
  have l : (putB ks p true).length = ks.length := by rw [← keys_len, e, keys_len]
  have g := gone_less f.nd h
  have := f.half
  have := f.few
  exact ⟨by rw [e]; exact f.nd, f.wf, f.top, by rw [e]; exact f.pp, by omega, by omega⟩
/-- what a carry leaves is well made -/
theorem Wf.carry : ∀ {i : Nat} {pl : List Tree} {so : List Pt}, Wf i pl → so.length = 2 ^ i → so.Nodup → (∀ p ∈ so, p ∉ pts pl) → (pts pl).Nodup → (pts pl).length + so.length < 64 → Wf i (carry pl so)
  | i, [], so, _, hl, nd, _, _, h64 => ⟨.inr ⟨so, nd, hl, by rw [← hl]; exact Nat.lt_of_le_of_lt (Nat.le_add_left _ _) h64, rfl⟩, trivial⟩
  | i, .nil :: r, so, w, hl, nd, _, _, h64 => ⟨.inr ⟨so, nd, hl, by rw [← hl]; exact Nat.lt_of_le_of_lt (Nat.le_add_left _ _) h64, rfl⟩, w.2⟩
  | i, .node p a b :: r, so, w, hl, nd, dis, ndp, h64 => by
    obtain ⟨w1, w2⟩ := w
    rw [pts_cons] at dis ndp h64
    rw [List.nodup_append] at ndp
    rw [List.length_append] at h64
    rcases w1 with z | ⟨cs, c1, c2, c3, c4⟩
    · exact Tree.noConfusion z
    · have hr : (rd (.node p a b)).Perm cs := by rw [c4]; exact bt_perm (by rw [c2]; exact c3)
      refine ⟨.inl rfl, Wf.carry w2 ?_ ?_ ?_ ndp.2.1 ?_⟩
      · rw [List.length_append, hl, hr.length_eq, c2, Nat.pow_succ]
        omega
      · rw [List.nodup_append]
        exact ⟨nd, ndp.1, fun x hx y hy e => dis x hx (List.mem_append_left _ (by rw [e]; exact hy))⟩
      · intro q hq hq'
        rcases List.mem_append.mp hq with z | z
        · exact dis q z (List.mem_append_right _ hq')
        · exact ndp.2.2 q z q hq' rfl
      · rw [List.length_append]
        omega
theorem FInv.put {ks : Kn} {pl : List Tree} (f : FInv ks pl) {p : Pt} (h : p ∉ keys ks) (few : ks.length < 40) : FInv (putB ks p true) (carry pl [p]) := by
  rw [putB_new h]
  have kl := keys_len ks
  have pl1 := f.pp.length_eq
  have gn : gone (ks ++ [(p, true)]) = gone ks := by
    unfold gone
    rw [List.filter_append, List.map_append]
    exact List.append_nil _
  have hk : keys (ks ++ [(p, true)]) = keys ks ++ [p] := by
    unfold keys
    rw [List.map_append]
    rfl
  refine ⟨?_, ?_, f.top.carry (by simp), ?_, ?_, ?_⟩
  · rw [hk, List.nodup_append]
    refine ⟨f.nd, by simp, fun a ha b hb e => ?_⟩
    rw [List.mem_singleton] at hb
    exact h (by rw [← hb, ← e]; exact ha)
  · refine f.wf.carry rfl (by simp) (fun q hq => ?_) (f.pp.symm.nodup f.nd) (by rw [List.length_singleton]; omega)
    rw [List.mem_singleton] at hq
    rw [hq]
    exact fun z => h (f.pp.mem_iff.mp z)
  · rw [hk]
    refine (carry_pts (by rw [List.length_singleton]; omega)).trans ?_
    exact (List.perm_append_comm).trans (f.pp.append_right _)
  · rw [gn, List.length_append]
    have := f.half
    omega
  · rw [List.length_append]
    exact few
theorem FInv.lost {ks : Kn} {pl : List Tree} (f : FInv ks pl) {p : Pt} (h : (p, true) ∈ ks) (half : 2 * (gone (putB ks p false)).length ≤ (putB ks p false).length) : FInv (putB ks p false) pl := by
  have hk : p ∈ keys ks := List.mem_map.mpr ⟨_, h, rfl⟩
  have e := keys_old (b := false) hk
  have l : (putB ks p false).length = ks.length := by rw [← keys_len, e, keys_len]
  exact ⟨by rw [e]; exact f.nd, f.wf, f.top, by rw [e]; exact f.pp, half, by rw [l]; exact f.few⟩
end Wd
end
section
set_option autoImplicit false
/-! Lengths and costs of forests. -/
namespace Wd
theorem rep_pow : ∀ {i : Nat} {pl : List Tree} {ps : List Pt}, Rep i pl ps → Top pl → pl ≠ [] → 2 ^ (i + pl.length) ≤ 2 * ps.length
  | _, [], _, _, _, h => absurd rfl h
  | i, [t], ps, ⟨qs, bs, e, h1, h2⟩, ht, _ => by
    rcases h2 with ⟨z, _⟩ | ⟨_, hb, _⟩
    · exact absurd z ht
    · subst e
      rw [List.length_append, hb]
      show 2 ^ (i + 1) ≤ _
      rw [Nat.pow_succ]
      omega
  | i, t :: u :: r, ps, ⟨qs, bs, e, h1, h2⟩, ht, _ => by
    have ih := rep_pow h1 ht (by simp)
    subst e
    rw [List.length_append]
    have e2 : i + (t :: u :: r).length = i + 1 + (u :: r).length := by simp only [List.length_cons]; omega
    rw [e2]
    omega
theorem pow_small {n : Nat} (h : 2 ^ n < 128) : n ≤ 6 := by
  have h2 : (128 : Nat) = 2 ^ 7 := by decide
  rw [h2] at h
  have := (Nat.pow_lt_pow_iff_right (a := 2) (by decide)).mp h
  omega
theorem rep_len {pl : List Tree} {ps : List Pt} (h : Rep 0 pl ps) (t : Top pl) (hl : ps.length < 64) : pl.length ≤ 6 := by
  by_cases e : pl = []
  · rw [e]; exact Nat.zero_le _
  · have := rep_pow h t e
    rw [Nat.zero_add] at this
    exact pow_small (by omega)
theorem wf_pow : ∀ {i : Nat} {pl : List Tree}, Wf i pl → Top pl → pl ≠ [] → 2 ^ (i + pl.length) < 128
  | _, [], _, _, h => absurd rfl h
  | i, [t], ⟨h, _⟩, ht, _ => by
    rcases h with z | ⟨cs, _, _, h64, _⟩
    · exact absurd z ht
    · show 2 ^ (i + 1) < 128
      rw [Nat.pow_succ]
      omega
  | i, t :: u :: r, ⟨_, h⟩, ht, _ => by
    have ih := wf_pow h ht (by simp)
    have e2 : i + (t :: u :: r).length = i + 1 + (u :: r).length := by simp only [List.length_cons]; omega
    rw [e2]
    exact ih
theorem wf_len {pl : List Tree} (h : Wf 0 pl) (t : Top pl) : pl.length ≤ 6 := by
  by_cases e : pl = []
  · rw [e]; exact Nat.zero_le _
  · have := wf_pow h t e
    rw [Nat.zero_add] at this
    exact pow_small this
/-- the trees of a forest: even, of a power of two points, keys right -/
theorem wf_get : ∀ {i : Nat} {pl : List Tree} {j : Nat} {t : Tree}, Wf i pl → pl[j]? = some t → t = .nil ∨ ∃ cs : List Pt, cs.Nodup ∧ cs.length = 2 ^ (i + j) ∧ 2 ^ (i + j) < 64 ∧ t = bt6 cs
  | _, [], _, _, _, h => by simp at h
  | i, u :: r, 0, t, w, h => by
    simp at h
    subst h
    exact w.1
  | i, u :: r, j + 1, t, w, h => by
    have := wf_get (j := j) w.2 (by simpa using h)
    rw [show i + 1 + j = i + (j + 1) by omega] at this
    exact this
theorem wf_mem {pl : List Tree} {t : Tree} (w : Wf 0 pl) (h : t ∈ pl) : t = .nil ∨ ∃ cs : List Pt, cs.Nodup ∧ cs.length < 64 ∧ t = bt6 cs := by
  obtain ⟨j, hj⟩ := List.mem_iff_getElem?.mp h
  rcases wf_get w hj with z | ⟨cs, h1, h2, h3, h4⟩
  · exact .inl z
  · exact .inr ⟨cs, h1, by omega, h4⟩
theorem wf_kd {pl : List Tree} {t : Tree} (w : Wf 0 pl) (h : t ∈ pl) : Kd false t := by
  rcases wf_mem w h with rfl | ⟨cs, h1, h2, rfl⟩
  · trivial
  · exact bt_kd h1 h2
theorem wf_ht {pl : List Tree} {t : Tree} (w : Wf 0 pl) (h : t ∈ pl) : ht t ≤ 6 := by
  rcases wf_mem w h with rfl | ⟨cs, h1, h2, rfl⟩
  · exact Nat.zero_le _
  · exact bt_ht 6 false cs
/-! ### what a put builds -/
def cl : Nat → Nat → Nat → Nat → Nat
  | 0, _, k, _ => k
  | f + 1, i, k, m => if m % 2 = 0 then k else cl f (i + 1) (k + 2 ^ i) (m / 2)
theorem clen_cl : ∀ {f i : Nat} {pl : List Tree} {ps : List Pt} {k m : Nat}, Rep i pl ps → ps.length = 2 ^ i * m → pl.length < f → ps.length < 64 → clen pl k = cl f i k m
  | 0, _, _, _, _, _, _, _, h, _ => by omega
  | f + 1, i, [], ps, k, m, h, hl, _, _ => by
    have h : ps = [] := h
    subst h
    have hp := pow_pos2 i
    have hm : m = 0 := by
      rcases Nat.mul_eq_zero.mp hl.symm with z | z
      · omega
      · exact z
    subst hm
    rfl
  | f + 1, i, t :: r, ps, k, m, ⟨qs, bs, e, h1, h2⟩, hl, hf, h64 => by
    subst e
    rw [List.length_append] at hl h64
    have hp := pow_pos2 i
    obtain ⟨q, hq⟩ := h1.dvd
    have e2 : 2 ^ (i + 1) = 2 ^ i * 2 := Nat.pow_succ ..
    rw [e2, Nat.mul_assoc] at hq
    rcases h2 with ⟨rfl, rfl⟩ | ⟨ht, hb, cs, pc, et⟩
    · have hm : m = 2 * q := by
        rw [hq] at hl
        exact (Nat.eq_of_mul_eq_mul_left hp (by simpa using hl)).symm
      subst hm
      show k = if (2 * q) % 2 = 0 then k else _
      rw [if_pos (by omega)]
    · have hm : m = 2 * q + 1 := by
        rw [hq, hb] at hl
        have : 2 ^ i * (2 * q + 1) = 2 ^ i * m := by rw [← hl, Nat.mul_add, Nat.mul_one]
        exact (Nat.eq_of_mul_eq_mul_left hp this).symm
      subst hm
      have hrd : (rd t).length = 2 ^ i := by rw [et, rd_len (by rw [pc.length_eq]; omega), pc.length_eq, hb]
      have hc : clen (t :: r) k = clen r (k + (rd t).length) := by
        cases t with
        | nil => exact absurd rfl ht
        | node p a b => rfl
      rw [hc, hrd, clen_cl (f := f) (m := q) h1 (by rw [hq, e2, Nat.mul_assoc]) (by rw [List.length_cons] at hf; omega) (by omega)]
      show _ = if (2 * q + 1) % 2 = 0 then k else _
      rw [if_neg (by omega), show (2 * q + 1) / 2 = q by omega]
def tsum (n : Nat) : Nat := ((List.range n).map (cl 10 0 1)).sum
theorem tsum_succ (n : Nat) : tsum (n + 1) = tsum n + cl 10 0 1 n := by
  unfold tsum
  rw [List.range_succ, List.map_append, List.sum_append]
  simp
theorem clen_rep {pl : List Tree} {ps : List Pt} (h : Rep 0 pl ps) (t : Top pl) (hl : ps.length < 64) : clen pl 1 = cl 10 0 1 ps.length :=
  clen_cl h (by simp) (by have := rep_len h t hl; omega) hl
/-- the law's cost -/
def cost (n : Nat) : Int := (((List.range (Builtin_bits n)).map fun p => (((n >>> p : Nat) : Int) - ((n >>> (p + 1) : Nat) : Int)) * 2 ^ p)).sum
where Builtin_bits (n : Nat) : Nat := if n = 0 then 0 else n.log2 + 1
theorem cost_tsum : ∀ n, n < 32 → cost n = (tsum n : Nat) := by decide +kernel
end Wd
end
section
/-! The ground: the text by places, how heaps grow, data on the heap, readings step by step. -/
namespace Wd
open PySem PySem.Spec PyProof.Rows L2 LamX
def topS (i : Nat) : Stmt := PySem.Challenge.pw_planesplits_k67_whole_forests_and_their.main.body.getD i (.Pass ⟨0, 0, 0, 0⟩)

/-! ### how heaps grow: T the tables of code objects, S what may change -/
abbrev NoS : Addr → Prop := fun _ => False
structure Gr (T : List (Addr × Str)) (S : Addr → Prop) (H H' : Hp) : Prop where
  kp : ∀ b o, H b = some o → ¬ S b → (∀ ps, o ≠ .tbl ps) → H' b = some o
  fr : ∀ b, H' b = none → H b = none
  tb : Tabs T H → Tabs T H'
  tp : ∀ b xs, H b = some (.tup xs) → H' b = some (.tup xs)
  fz : ∀ b o u, H b = some (.frz o u) → H' b = some (.frz o u)
section
variable {T : List (Addr × Str)} {S S' : Addr → Prop} {H H1 H2 H' : Hp} {K : PySem.W.Frag}
theorem Gr.refl (H : Hp) : Gr T S H H := ⟨fun _ _ h _ _ => h, fun _ h => h, fun t => t, fun _ _ h => h, fun _ _ _ h => h⟩
theorem Gr.trans (a : Gr T S H H1) (b : Gr T S H1 H2) : Gr T S H H2 := ⟨fun c o h n z => b.kp c o (a.kp c o h n z) n z, fun c h => a.fr c (b.fr c h), fun t => b.tb (a.tb t), fun c xs h => b.tp c xs (a.tp c xs h), fun c o u h => b.fz c o u (a.fz c o u h)⟩
theorem Gr.up (a : Gr T S H H1) (h : ∀ b, S b → S' b) : Gr T S' H H1 := ⟨fun c o e n z => a.kp c o e (fun y => n (h c y)) z, a.fr, a.tb, a.tp, a.fz⟩
theorem Gr.of0 (a : Gr T NoS H H1) : Gr T S H H1 := a.up fun _ z => z.elim
theorem Gr.same (s : Same H H1) : Gr T S H H1 := ⟨fun b o h _ _ => s b o h, fun b h => s.free h, fun t => t.ext s, fun b xs h => s b _ h, fun b o u h => s b _ h⟩
theorem Gr.new {p : Addr} {o : HO} (h : H p = none) : Gr T S H (upd H p o) := Gr.same fun b u e => by
  rw [upd_ne (ne_of_none e h)]
  exact e
/-- what is neither a table nor a code object -/
def Plain (o : HO) : Prop := (∀ ps, o ≠ .tbl ps) ∧ (∀ φ, o ≠ .ext φ) ∧ (∀ xs, o ≠ .tup xs) ∧ ∀ b u, o ≠ .frz b u
theorem Tabs.upd {p : Addr} {o o' : HO} (t : Tabs T H) (h : H p = some o) (n : Plain o) : Tabs T (L2.upd H p o') := fun q hq => by
  obtain ⟨ps, h1, h2, h3⟩ := t q hq
  have n1 : q.1 ≠ p := fun e => n.1 ps (by rw [e, h] at h1; exact Option.some.inj h1)
  refine ⟨ps, by rw [upd_ne n1]; exact h1, h2, fun pos cv hc => ?_⟩
  obtain ⟨c, e1, e2⟩ := h3 pos cv hc
  refine ⟨c, e1, ?_⟩
  rw [upd_ne fun e => ?_]
  · exact e2
  · rw [e, h] at e2
    exact n.2.1 _ (Option.some.inj e2)
/-- what may change is changed -/
theorem Gr.mut {p : Addr} {o o' : HO} (h : H p = some o) (n : Plain o) (hs : S p) : Gr T S H (upd H p o') := by
  refine ⟨fun b u e nb _ => ?_, fun b e => ?_, fun t => Tabs.upd t h n, fun b xs e => ?_, fun b ob u e => ?_⟩
  rotate_left 2
  · rw [upd_ne fun z => n.2.2.1 xs (Option.some.inj (by rw [← h, ← z, e]))]
    exact e
  · rw [upd_ne fun z => n.2.2.2 ob u (Option.some.inj (by rw [← h, ← z, e]))]
    exact e
  · rw [upd_ne fun z => nb (by rw [z]; exact hs)]
    exact e
  · by_cases hb : b = p
    · rw [hb, upd_same] at e
      cases e
    · rw [upd_ne hb] at e
      exact e
/-- something newer than H is changed -/
theorem Gr.mut' {p : Addr} {o o' : HO} (g : Gr T S H H1) (hp : H p = none) (h : H1 p = some o) (n : Plain o) : Gr T S H (upd H1 p o') := by
  refine ⟨fun b u e nb z => ?_, fun b e => ?_, fun t => Tabs.upd (g.tb t) h n, fun b xs e => ?_, fun b ob u e => ?_⟩
  rotate_left 2
  · rw [upd_ne fun z => n.2.2.1 xs (Option.some.inj (by rw [← h, ← z, g.tp b xs e]))]
    exact g.tp b xs e
  · rw [upd_ne fun z => n.2.2.2 ob u (Option.some.inj (by rw [← h, ← z, g.fz b ob u e]))]
    exact g.fz b ob u e
  · rw [upd_ne (ne_of_none e hp)]
    exact g.kp b u e nb z
  · by_cases hb : b = p
    · rw [hb, upd_same] at e
      cases e
    · rw [upd_ne hb] at e
      exact g.fr b e
theorem plain_lst {xs : List V} : Plain (.lst xs) := ⟨fun _ z => (by cases z), fun _ z => (by cases z), fun _ z => (by cases z), fun _ _ z => (by cases z)⟩
theorem plain_dT {kvs : List (List Key × V)} : Plain (.dT kvs) := ⟨fun _ z => (by cases z), fun _ z => (by cases z), fun _ z => (by cases z), fun _ _ z => (by cases z)⟩
theorem plain_ins {C dx : Addr} {fs : List (Str × V)} : Plain (.ins C dx fs) := ⟨fun _ z => (by cases z), fun _ z => (by cases z), fun _ z => (by cases z), fun _ _ z => (by cases z)⟩
theorem Gr.tup {a : Addr} {xs : List V} (g : Gr T S H H1) (h : H a = some (.tup xs)) : H1 a = some (.tup xs) := g.tp a _ h
theorem Gr.at_ {a : Addr} {o : HO} (g : Gr T S H H1) (h : H a = some o) (n : ¬ S a) (p : ∀ ps, o ≠ .tbl ps) : H1 a = some o := g.kp a o h n p
theorem Gr.sqT {a : Addr} {xs : List V} (g : Gr T S H H1) (h : SqT K H a xs) : SqT K H1 a xs := by
  rcases h with (h | ⟨o, h⟩) | h
  · exact .inl (.inl (g.tup h))
  · exact .inl (.inr ⟨o, g.fz _ _ _ h⟩)
  · exact .inr h
theorem Gr.sqL {a : Addr} {xs : List V} (g : Gr T NoS H H1) (h : SqL K H a xs) : SqL K H1 a xs := by
  rcases h with (h | ⟨o, h⟩) | h
  · exact .inl (.inl (g.kp _ _ h (fun z => z) plain_lst.1))
  · exact .inl (.inr ⟨o, g.kp _ _ h (fun z => z) (fun _ z => by cases z)⟩)
  · exact .inr h
/-- an address that was known stays another than a new one -/
theorem Gr.ne {a p : Addr} {o : HO} (g : Gr T S H H1) (h : H a = some o) (hp : H1 p = none) : a ≠ p := fun e => by
  have z := g.fr p hp
  rw [← e, h] at z
  cases z
end

/-! ### data on the heap -/
def PtV (H : Hp) (v : V) (p : Pt) : Prop := ∃ a, v = .ref a ∧ H a = some (.tup [.int p.1, .int p.2])
def TrV (H : Hp) : V → Tree → Prop
  | v, .nil => v = .non
  | v, .node p l r => ∃ a pv lv rv, v = .ref a ∧ H a = some (.tup [pv, lv, rv]) ∧ PtV H pv p ∧ TrV H lv l ∧ TrV H rv r
abbrev oV : Option Int → V
  | none => .non
  | some i => .int i
def rcL (r : Rect) : List V := [oV r.1, oV r.2.1, oV r.2.2.1, oV r.2.2.2]
def RcV (K : PySem.W.Frag) (H : Hp) (v : V) (r : Rect) : Prop := ∃ a, v = .ref a ∧ SqT K H a (rcL r)
/-- values of a list against data, one by one -/
def Al {α : Type} (R : V → α → Prop) : List V → List α → Prop := Paired R
abbrev axV (ax : Bool) : V := .int (if ax then 1 else 0)
section
variable {T : List (Addr × Str)} {S : Addr → Prop} {H H1 : Hp} {K : PySem.W.Frag} {α : Type}
theorem PtV.gr {v : V} {p : Pt} (h : PtV H v p) (g : Gr T S H H1) : PtV H1 v p := by
  obtain ⟨a, e, h⟩ := h
  exact ⟨a, e, g.tup h⟩
theorem TrV.gr : ∀ {t : Tree} {v : V}, TrV H v t → Gr T S H H1 → TrV H1 v t
  | .nil, _, h, _ => h
  | .node p l r, v, ⟨a, pv, lv, rv, e, h, h1, h2, h3⟩, g => ⟨a, pv, lv, rv, e, g.tup h, h1.gr g, TrV.gr h2 g, TrV.gr h3 g⟩
theorem RcV.gr {v : V} {r : Rect} (h : RcV K H v r) (g : Gr T S H H1) : RcV K H1 v r := by
  obtain ⟨a, e, h⟩ := h
  exact ⟨a, e, g.sqT h⟩
theorem Al.imp {R R' : V → α → Prop} : ∀ {xs : List V} {ys : List α}, Al R xs ys → (∀ x y, R x y → R' x y) → Al R' xs ys
  | _, _, .nil, _ => .nil
  | _, _, .cons h t, f => .cons (f _ _ h) (Al.imp t f)
theorem Al.len {R : V → α → Prop} {xs : List V} {ys : List α} (h : Al R xs ys) : xs.length = ys.length := Paired.length h
theorem Al.app {R : V → α → Prop} : ∀ {xs xs' : List V} {ys ys' : List α}, Al R xs ys → Al R xs' ys' → Al R (xs ++ xs') (ys ++ ys')
  | _, _, _, _, .nil, h => h
  | _, _, _, _, .cons h t, h' => .cons h (Al.app t h')
theorem Al.get {R : V → α → Prop} : ∀ {xs : List V} {ys : List α} {i : Nat} {x : V}, Al R xs ys → xs[i]? = some x → ∃ y, ys[i]? = some y ∧ R x y
  | _, _, _, _, .nil, h => by simp at h
  | _, _, 0, _, .cons h t, e => by
    simp at e
    subst e
    exact ⟨_, rfl, h⟩
  | _, _, i + 1, x, .cons h t, e => by
    obtain ⟨y, h1, h2⟩ := Al.get (i := i) (x := x) t (by simpa using e)
    exact ⟨y, by simpa using h1, h2⟩
theorem Al.get' {R : V → α → Prop} : ∀ {xs : List V} {ys : List α} {i : Nat} {y : α}, Al R xs ys → ys[i]? = some y → ∃ x, xs[i]? = some x ∧ R x y
  | _, _, _, _, .nil, h => by simp at h
  | _, _, 0, _, .cons h t, e => by
    simp at e
    subst e
    exact ⟨_, rfl, h⟩
  | _, _, i + 1, x, .cons h t, e => by
    obtain ⟨y, h1, h2⟩ := Al.get' (i := i) (y := x) t (by simpa using e)
    exact ⟨y, by simpa using h1, h2⟩
theorem Al.take {R : V → α → Prop} : ∀ {xs : List V} {ys : List α} (n : Nat), Al R xs ys → Al R (xs.take n) (ys.take n)
  | _, _, 0, _ => .nil
  | _, _, n + 1, .nil => .nil
  | _, _, n + 1, .cons h t => .cons h (Al.take n t)
theorem Al.drop {R : V → α → Prop} : ∀ {xs : List V} {ys : List α} (n : Nat), Al R xs ys → Al R (xs.drop n) (ys.drop n)
  | _, _, 0, h => h
  | _, _, n + 1, .nil => .nil
  | _, _, n + 1, .cons h t => Al.drop n t
theorem Al.set {R : V → α → Prop} {x : V} {y : α} (h : R x y) : ∀ {xs : List V} {ys : List α} (n : Nat), Al R xs ys → Al R (xs.set n x) (ys.set n y)
  | _, _, _, .nil => .nil
  | _, _, 0, .cons _ t => .cons h t
  | _, _, n + 1, .cons h' t => .cons h' (Al.set h n t)
theorem Al.rev {R : V → α → Prop} : ∀ {xs : List V} {ys : List α}, Al R xs ys → Al R xs.reverse ys.reverse
  | _, _, .nil => .nil
  | _, _, .cons h t => by
    rw [List.reverse_cons, List.reverse_cons]
    exact Al.app (Al.rev t) (.cons h .nil)
def PtsV (H : Hp) (xs : List V) (ps : List Pt) : Prop := Al (PtV H) xs ps
def TrsV (H : Hp) (xs : List V) (ts : List Tree) : Prop := Al (TrV H) xs ts
theorem PtsV.gr {xs : List V} {ps : List Pt} (h : PtsV H xs ps) (g : Gr T S H H1) : PtsV H1 xs ps := Al.imp h fun _ _ z => z.gr g
theorem TrsV.gr {xs : List V} {ps : List Tree} (h : TrsV H xs ps) (g : Gr T S H H1) : TrsV H1 xs ps := Al.imp h fun _ _ z => z.gr g
theorem sz100 {n : Nat} (h : n ≤ 100000) : n ≤ sizeLine := Nat.le_trans h (by decide)
theorem sz100' {n : Nat} (h : n < 100000) : n < sizeLine := Nat.lt_of_lt_of_le h (by decide)
end

/-! ### readings, step by step -/
section
variable {σ : L2.St} {H : Hp} {Q : VK} {te ta tb tc : TE} {t u : TT} {D : Ends} {v x y : V} {K : PySem.W.Frag} {b : Bool}
theorem w_var {i : Nat} (h : σ[i]? = some (some v)) (q : Q v H) : tVar i σ H Q := ⟨v, h, q⟩
theorem w_c (q : Q v H) : tC v σ H Q := q
theorem w_op {r : R2} (h : ta σ H fun x H1 => tb σ H1 fun y H2 => r x y H2 Q) : tOp r ta tb σ H Q := h
theorem w_un {r : V → Hp → VK → Prop} (h : ta σ H fun x H1 => r x H1 Q) : tUn r ta σ H Q := h
theorem w_I0 {g : Int → Int → V} {i j : Int} (q : Q (g i j) H) : rI0 g (.int i) (.int j) H Q := ⟨i, j, rfl, rfl, q⟩
theorem w_I {C : Int → Int → Prop} {g : Int → Int → V} {i j : Int} (c : C i j) (q : Q (g i j) H) : rI C g (.int i) (.int j) H Q := ⟨i, j, rfl, rfl, c, q⟩
theorem w_U {g : Int → V} {i : Int} (q : Q (g i) H) : rU g (.int i) H Q := ⟨i, rfl, q⟩
theorem w_eq (h : scal x y = true) (q : Q (.bl (decide (x = y))) H) : rEq x y H Q := ⟨h, q⟩
theorem w_ne (h : scal x y = true) (q : Q (.bl (!decide (x = y))) H) : rNe x y H Q := ⟨h, q⟩
theorem w_isN (q : Q (.bl (decide (x = .non))) H) : rIsN x .non H Q := ⟨rfl, q⟩
theorem w_notN (q : Q (.bl (!decide (x = .non))) H) : rNotN x .non H Q := ⟨rfl, q⟩
theorem w_test {Q : Bool → Hp → Prop} (h : te σ H fun x H' => ∃ k, x = .bl k ∧ Q k H') : tTest te σ H Q := h
theorem w_B {Q : Bool → Hp → Prop} (h : te σ H fun x H' => ∃ k, x = .bl k ∧ Q k H') : tB te σ H Q := h
theorem w_k {Q : Bool → Prop} (q : Q b) : ∃ k, V.bl b = .bl k ∧ Q k := ⟨b, rfl, q⟩
theorem w_and {Q : Bool → Hp → Prop} (h : t σ H fun c H1 => if c = true then u σ H1 Q else Q false H1) : tAnd t u σ H Q := h
theorem w_or {Q : Bool → Hp → Prop} (h : t σ H fun c H1 => if c = true then Q true H1 else u σ H1 Q) : tOr t u σ H Q := h
theorem w_not {Q : Bool → Hp → Prop} (h : t σ H fun c H1 => Q (!c) H1) : tNot t σ H Q := h
theorem w_andV (h : ta σ H fun x H1 => ∃ c, x = .bl c ∧ if c = true then tb σ H1 Q else Q (.bl false) H1) : tAndV ta tb σ H Q := h
theorem w_orV (h : ta σ H fun x H1 => ∃ c, x = .bl c ∧ if c = true then Q (.bl true) H1 else tb σ H1 Q) : tOrV ta tb σ H Q := h
theorem w_notV (h : ta σ H fun x H1 => ∃ c, x = .bl c ∧ Q (.bl (!c)) H1) : tNotV ta σ H Q := h
theorem w_ifE (h : t σ H fun c H1 => if c = true then ta σ H1 Q else tb σ H1 Q) : tIf t ta tb σ H Q := h
theorem w_nil {Q : List V → Hp → Prop} (q : Q [] H) : tNil σ H Q := q
theorem w_cons {tr : TA} {Q : List V → Hp → Prop} (h : ta σ H fun x H1 => tr σ H1 fun xs H2 => Q (x :: xs) H2) : tCons ta tr σ H Q := h
theorem w_call {sp : Sp} {E : XK} {tr : TA} (h : tr σ H fun vs H1 => sp vs H1 Q E) : tCall sp [] E tr σ H Q := by
  unfold tCall
  simp only [List.append_nil]
  exact h
theorem w_cb {r : List V → Hp → VK → Prop} {tr : TA} (h : tr σ H fun vs H1 => r vs H1 Q) : tCB r tr σ H Q := h
theorem w_chain {r r' : R2} (h : ta σ H fun x H1 => tb σ H1 fun y H2 => r x y H2 fun z H3 => ∃ k, z = .bl k ∧ (if k = true then tc σ H3 fun w' H4 => r' y w' H4 Q else Q (.bl false) H3)) : tChain r r' ta tb tc σ H Q := h
theorem w_ret (h : te σ H D.rt) : tRet te D σ H := h
theorem w_seq {t u : TS} (h : t { D with nx := u D } σ H) : tSeq t u D σ H := h
theorem w_next (h : D.nx σ H) : tNext D σ H := h
theorem w_set {i : Nat} (h : te σ H fun x H1 => D.nx (σ.set i (some x)) H1) : tAsg te (gName i) D σ H := h
theorem w_if {c : TT} {t u : TS} (h : c σ H fun b H1 => if b = true then t D σ H1 else u D σ H1) : tIfS c t u D σ H := h
theorem w_drop (h : te σ H fun _ H1 => D.nx σ H1) : tDrop te D σ H := h
theorem w_tup {tr : TA} (h : tr σ H fun xs H1 => xs.length ≤ sizeLine ∧ ∀ p, H1 p = none → Q (.ref p) (upd H1 p (.tup xs))) : tTup tr σ H Q := h
theorem w_lst {tr : TA} (h : tr σ H fun xs H1 => xs.length ≤ sizeLine ∧ ∀ p, H1 p = none → Q (.ref p) (upd H1 p (.lst xs))) : tLst tr σ H Q := h
/-- a new tuple, a new list: the heap behind it a letter -/
theorem w_newT (T : List (Addr × Str)) {xs : List V} (hl : xs.length ≤ sizeLine) (q : ∀ p H2, Gr T NoS H H2 → H p = none → H2 p = some (.tup xs) → Q (.ref p) H2) : xs.length ≤ sizeLine ∧ ∀ p, H p = none → Q (.ref p) (upd H p (.tup xs)) :=
  ⟨hl, fun p hp => q p _ (.new hp) hp upd_same⟩
theorem w_newL (T : List (Addr × Str)) {xs : List V} (hl : xs.length ≤ sizeLine) (q : ∀ p H2, Gr T NoS H H2 → H p = none → H2 p = some (.lst xs) → Q (.ref p) H2) : xs.length ≤ sizeLine ∧ ∀ p, H p = none → Q (.ref p) (upd H p (.lst xs)) :=
  ⟨hl, fun p hp => q p _ (.new hp) hp upd_same⟩
theorem w_par {i j : Nat} {tr : TA} (h : tr σ H fun vs H1 => ∃ v w, vs = [v, w] ∧ D.nx ((σ.set i (some v)).set j (some w)) H1) : tPar i j tr D σ H := h
theorem w_par2 {i j : Nat} (h : ta σ H fun v H1 => tb σ H1 fun w H2 => D.nx ((σ.set i (some v)).set j (some w)) H2) : tPar i j (tCons ta (tCons tb tNil)) D σ H := by
  show ta σ H fun x H1 => tb σ H1 fun y H2 => ∃ v w, [x, y] = [v, w] ∧ D.nx ((σ.set i (some v)).set j (some w)) H2
  have e2 : ∀ (x y : V) (H2 : Hp), (∃ v w, [x, y] = [v, w] ∧ D.nx ((σ.set i (some v)).set j (some w)) H2) = D.nx ((σ.set i (some x)).set j (some y)) H2 := fun x y H2 => propext ⟨fun ⟨v, w, e, q⟩ => by
    injection e with e1 e2
    injection e2 with e2 _
    rw [e1, e2]
    exact q, fun q => ⟨x, y, rfl, q⟩⟩
  simp only [e2]
  exact h
theorem w_par3 {i j l : Nat} (h : ta σ H fun u H1 => tb σ H1 fun v H2 => tc σ H2 fun w H3 => D.nx (((σ.set i (some u)).set j (some v)).set l (some w)) H3) : tPar3 i j l (tCons ta (tCons tb (tCons tc tNil))) D σ H := by
  show ta σ H fun x H1 => tb σ H1 fun y H2 => tc σ H2 fun z H3 => ∃ u v w, [x, y, z] = [u, v, w] ∧ D.nx (((σ.set i (some u)).set j (some v)).set l (some w)) H3
  have e2 : ∀ (x y z : V) (H2 : Hp), (∃ u v w, [x, y, z] = [u, v, w] ∧ D.nx (((σ.set i (some u)).set j (some v)).set l (some w)) H2) = D.nx (((σ.set i (some x)).set j (some y)).set l (some z)) H2 := fun x y z H2 => propext ⟨fun ⟨u, v, w, e, q⟩ => by
    injection e with e1 e2
    injection e2 with e2 e3
    injection e3 with e3 _
    rw [e1, e2, e3]
    exact q, fun q => ⟨x, y, z, rfl, q⟩⟩
  simp only [e2]
  exact h
theorem w_ite {b : Bool} {P P' : Prop} (e : b = true) (h : P) : if b = true then P else P' := by
  rw [if_pos e]
  exact h
theorem w_itf {b : Bool} {P P' : Prop} (e : b = false) (h : P') : if b = true then P else P' := by
  rw [e]
  exact iteF h
theorem w_ixT {p : Addr} {xs : List V} {i : Int} (h : SqT K H p xs) (ha : atI xs i = some v) (q : Q v H) : rIxT K (.ref p) (.int i) H Q := ⟨p, xs, i, v, rfl, rfl, h, ha, q⟩
theorem w_ixL {p : Addr} {xs : List V} {i : Int} (h : SqL K H p xs) (ha : atI xs i = some v) (q : Q v H) : rIxL K (.ref p) (.int i) H Q := ⟨p, xs, i, v, rfl, rfl, h, ha, q⟩
theorem w_ixV {a b : Nat} {p : Addr} {xs : List V} {i : Int} (h1 : σ[a]? = some (some (.ref p))) (h2 : σ[b]? = some (some (.int i))) (h : SqT K H p xs) (ha : atI xs i = some v) (q : Q v H) : tOp (rIxT K) (tVar a) (tVar b) σ H Q :=
  ⟨_, h1, _, h2, p, xs, i, v, rfl, rfl, h, ha, q⟩
/-- x is not None and e < x -/
theorem w_ltO {i : Nat} {o : Option Int} {z : Int} {Q : Bool → Hp → Prop} (hi : σ[i]? = some (some (oV o))) (he : ∀ Q' : VK, Q' (.int z) H → te σ H Q') (q : Q (ltO z o) H) :
    tAnd (tTest (tOp rNotN (tVar i) (tC .non))) (tTest (tOp (rI0 fun i j => .bl (decide (i < j))) te (tVar i))) σ H Q := by
  refine w_and (w_test (w_op (w_var hi (w_c (w_notN ⟨_, rfl, ?_⟩)))))
  cases o with
  | none => exact w_itf (by rfl) q
  | some l => exact w_ite (by rfl) (w_test (w_op (he _ (w_var hi (w_I0 ⟨_, rfl, q⟩)))))
/-- x is not None and e > x -/
theorem w_gtO {i : Nat} {o : Option Int} {z : Int} {Q : Bool → Hp → Prop} (hi : σ[i]? = some (some (oV o))) (he : ∀ Q' : VK, Q' (.int z) H → te σ H Q') (q : Q (gtO z o) H) :
    tAnd (tTest (tOp rNotN (tVar i) (tC .non))) (tTest (tOp (rI0 fun i j => .bl (decide (j < i))) te (tVar i))) σ H Q := by
  refine w_and (w_test (w_op (w_var hi (w_c (w_notN ⟨_, rfl, ?_⟩)))))
  cases o with
  | none => exact w_itf (by rfl) q
  | some l => exact w_ite (by rfl) (w_test (w_op (he _ (w_var hi (w_I0 ⟨_, rfl, q⟩)))))
theorem w_T {P P' : Prop} (h : P) : if true = true then P else P' := iteT h
theorem w_F {P P' : Prop} (h : P') : if false = true then P else P' := iteF h
end
end Wd
end
section
/-! Rules that the layer lacks. -/
namespace Wd
open PySem PySem.Spec PyProof.Rows L2 LamX
section
variable {X : Cx}
/-! ### the square of a number -/
def rSq : R2 := fun x y H Q => ∃ i : Int, x = .int i ∧ y = .int 2 ∧ i.natAbs < 2 ^ 1000 ∧ Q (.int (i * i)) H
theorem op_sq : OpR X (binaryOp .Pow) rSq := by
  intro pins s σ H x y v u Q I rx ry h
  obtain ⟨i, ex, ey, hb, q⟩ := h
  subst ex
  subst ey
  obtain ⟨t, rfl⟩ := rx
  obtain ⟨t2, rfl⟩ := ry
  refine pow_int (by decide) ?_ ?_
  · have h1 : Builtin.Int.intBits i ≤ 1000 := intBits_le_iff.mpr hb
    have h2 : (2 : Int) ^ 27 = 134217728 := by decide
    rw [h2]
    omega
  · have e : i ^ (2 : Int).toNat = i * i := by
      show i ^ 2 = i * i
      rw [Int.pow_succ, Int.pow_succ, Int.pow_zero, Int.one_mul]
    rw [e]
    exact ⟨.int (i * i), H, I.tok _, ⟨_, rfl⟩, q⟩
/-! ### a list against the empty one -/
def rNil (neg : Bool) (K : PySem.W.Frag) : R2 := fun x y H Q => ∃ a b xs, x = .ref a ∧ y = .ref b ∧ SqL K H a xs ∧ SqL K H b [] ∧ Q (.bl (if neg then !xs.isEmpty else xs.isEmpty)) H
theorem op_eqNil (hu : X.A.units < cLine) : OpR X (compareOp .Eq) (rNil false X.K) := by
  intro pins s σ H x y v u Q I rx ry h
  obtain ⟨a, b, xs, ex, ey, h1, h2, q⟩ := h
  subst ex
  subst ey
  cases rx
  cases ry
  obtain ⟨its, r, pl, _⟩ := I.list h1
  obtain ⟨its2, r2, pl2, _⟩ := I.list h2
  have e2 : its2 = [] := by
    cases r2
    rfl
  subst e2
  cases r with
  | nil => exact PySem.SeqAt.eq_listAt pl.isList pl2.isList rfl hu (e := fun _ => true) (fun j z _ => absurd z (by simp)) ⟨.bl true, H, I, rfl, q⟩
  | cons _ _ => exact PySem.SeqAt.eq_list_lengthsAt pl.isList pl2.isList (by simp) hu ⟨.bl false, H, I, rfl, q⟩
theorem op_neNil (hu : X.A.units < cLine) : OpR X (compareOp .NotEq) (rNil true X.K) := by
  intro pins s σ H x y v u Q I rx ry h
  obtain ⟨a, b, xs, ex, ey, h1, h2, q⟩ := h
  subst ex
  subst ey
  cases rx
  cases ry
  obtain ⟨its, r, pl, _⟩ := I.list h1
  obtain ⟨its2, r2, pl2, _⟩ := I.list h2
  have e2 : its2 = [] := by
    cases r2
    rfl
  subst e2
  show wpAny (model X.prog X.w) X.A (richCompare .NotEq (.ref a) (.ref b)) (EP X pins σ Q) X.xe s
  cases r with
  | nil => exact PySem.SeqAt.RcNeAt.lists pl.isList pl2.isList rfl hu (e := fun _ => true) (fun j z _ => absurd z (by simp)) X.prog X.w X.xe _ ⟨.bl false, H, I, rfl, q⟩
  | cons _ _ => exact PySem.SeqAt.RcNeAt.lists_lengths pl.isList pl2.isList (by simp) hu X.prog X.w X.xe _ ⟨.bl true, H, I, rfl, q⟩
/-! ### lists that are read, joined -/
def rCatS (K : PySem.W.Frag) : R2 := fun x y H Q => ∃ a b xs ys, x = .ref a ∧ y = .ref b ∧ SqL K H a xs ∧ SqL K H b ys ∧ xs.length + ys.length ≤ sizeLine ∧ ∀ p, H p = none → Q (.ref p) (upd H p (.lst (xs ++ ys)))
theorem op_catS : OpR X (binaryOp .Add) (rCatS X.K) := by
  intro pins s σ H x y v u Q I rx ry h
  obtain ⟨a, b, xs, ys, ex, ey, h1, h2, hz, q⟩ := h
  subst ex
  subst ey
  cases rx
  cases ry
  obtain ⟨its, r, pl, _⟩ := I.list h1
  obtain ⟨its2, r2, pl2, _⟩ := I.list h2
  have l1 := r.length
  have l2 := r2.length
  obtain ⟨⟨c1, d1, dat1, sl1⟩, ho1, hc1, n1, hd1⟩ := pl.isList
  obtain ⟨⟨c2, d2, dat2, sl2⟩, ho2, hc2, n2, hd2⟩ := pl2.isList
  simp only at hc1 hd1 hc2 hd2
  subst hc1
  subst hd1
  subst hc2
  subst hd2
  have hcat : its.toArray ++ its2.toArray = (its ++ its2).toArray := by simp
  refine concat_meets ⟨_, ho1, rfl⟩ ⟨_, ho2, rfl⟩ noFill_list_add seq_list_add PySem.F.slot_list_add PySem.F.entry_list_add (PySem.F.args_list_add_2 _ _)
    (list_addW a b its.toArray its2.toArray n1 n2 d1 d2 sl1 sl2 (by simp only [List.size_toArray]; omega)) ⟨ho1, ho2, ?_⟩
  rw [hcat]
  have nf : H s.heap.objs.size = none := I.hok.fresh (Nat.le_refl _)
  refine ⟨.ref s.heap.objs.size, upd H s.heap.objs.size (.lst (xs ++ ys)), I.laid (t' := s.toks) (fun c o e => Heap.get?_push_of_some _ e) (Nat.le_refl _) ?_, rfl, q _ nf⟩
  exact ⟨by rw [List.length_append]; exact hz, its ++ its2, 0, r.append r2, Heap.get?_push_size _ rfl⟩
/-! ### a pair turned round: t[::-1] -/
theorem applied_back {M : Program} {w : World} {A : Around} {E : Value → Shared → Prop} {s : Shared} {sl : Addr} {u : Tok} {Q : Int × Int × Nat → Shared → Prop} (hs : s.heap.IsSliceOf sl .none .none (.int (-1) u)) (h : Q (1, -1, 2) s) :
    wpAny (model M w) A (Builtin.Slice.sliceApplied (.ref sl) (pure ((2 : Nat) : Int))) Q E s := by
  obtain ⟨o, ho, hc, hd⟩ := id hs
  unfold Builtin.Slice.sliceApplied Builtin.Slice.sliceFields
  refine wpAny_bind (wpAny_bind (wpAny_field ho hd (x := .none) rfl ?_))
  refine wpAny_bind (wpAny_field ho hd (x := .none) rfl ?_)
  refine wpAny_bind (wpAny_field ho hd (x := .int (-1) u) rfl (wpAny_pure ?_))
  refine wpAny_bind (PyProof.Rows.slicePart_int ?_)
  show wpAny _ _ (if ((-1 : Int) == 0) = true then _ else _) _ _ s
  rw [if_neg (by decide)]
  refine wpAny_bind (PyProof.Rows.slicePart_none ?_)
  refine wpAny_bind (PyProof.Rows.slicePart_none ?_)
  refine wpAny_bind (wpAny_pure ?_)
  exact wpAny_pure h
theorem item_back {M : Program} {w : World} {A : Around} {E : Value → Shared → Prop} {s : Shared} {t sl : Addr} {u : Tok} {x y : Value} {Q : Value → Shared → Prop} (ht : IsTup s.heap t #[x, y]) (hs : s.heap.IsSliceOf sl .none .none (.int (-1) u))
    (h : Q (.ref s.heap.objs.size) { s with heap := s.heap.push { cls := .type "tuple", data := .seq #[y, x] } }) : wpAny (model M w) A (getItem (.ref t) (.ref sl)) Q E s := by
  obtain ⟨o, ho, hc, hd⟩ := id hs
  have hT : s.TypeIs (.ref sl) "slice" := ⟨o, ho, hc⟩
  unfold getItem
  try with_reducible refine wpAny_holding ?_
  first | refine wpAny_bind (wpAny_pure ?_) | skip
  refine wpAny_bind (wpAny_sequenceKey ht.typeIs (by decide) ?_)
  refine wpAny_bind (wpAny_callSpecial?_slot (name := Str.ofString "__getitem__") ht.typeIs slot_tuple_getitem ?_)
  refine wpAny_call_entry slot_tuple_getitem ht.typeIs entry_tuple_getitem ?_ (args_tuple_getitem _ _)
  show wpAny _ _ (Builtin.Tuple.tupleItemsOf (.ref t) >>= _) _ _ s
  refine wpAny_bind (tupleItemsOf_ ht ?_)
  refine wpAny_bind (wpAny_typeOf hT ?_)
  rw [if_pos (by decide)]
  refine wpAny_bind (applied_back hs ?_)
  show wpAny _ _ (if ((1 : Int) == 0 && (-1 : Int) == 1 && (2 : Nat) == 2) = true then _ else _) _ _ s
  rw [if_neg (by decide)]
  have hz : sizeOk (.seq (#[y, x] : Array Value)) := by show 2 ≤ sizeLine; decide
  exact wpAny_bind (m := Builtin.Tuple.tupleExact _) (wpAny_newObj_type (wpAny_pure ⟨_, rfl, wpAny_pure h⟩) hz)
def tRevT (K : PySem.W.Frag) (te : TE) : TE := fun σ H Q => te σ H fun x H1 => ∃ a y z, x = .ref a ∧ SqT K H1 a [y, z] ∧ ∀ p, H1 p = none → Q (.ref p) (upd H1 p (.tup [z, y]))
theorem pe_revT {e : Expr} {te : TE} {k : Nat} {p1 p2 p3 pos : Pos} (he : PE X e te) : PE X (.Subscript e (.Slice none none (some (.UnaryOp .USub (.Constant (.int 1) k p1) p2)) p3) pos) (tRevT X.K te) := by
  refine ⟨fun pn s σ H Q I h => ?_⟩
  refine Subscript_ (thn (he.run pn s σ H _ I h) fun v s1 ⟨x, H1, I1, r1, a, y, z, ex, hx, q⟩ => ?_)
  subst ex
  cases r1
  have hm : PO X (some (.UnaryOp .USub (.Constant (.int 1) k p1) p2)) (tPart (tUn (rU fun i => .int (-i)) (tC (.int 1)))) := po_some (pe_un un_neg pe_int)
  refine wpAny_Slice (thn (po_none.run pn s1 σ H1 (fun o H2 => o = none ∧ H2 = H1) I1 ⟨rfl, rfl⟩) fun vl s2 ⟨l, H2, I2, pl, el, e2⟩ => ?_)
  subst el
  subst e2
  refine thn (po_none.run pn s2 σ H2 (fun o H3 => o = none ∧ H3 = H2) I2 ⟨rfl, rfl⟩) fun vu s3 ⟨o, H3, I3, pu, eo, e3⟩ => ?_
  subst eo
  subst e3
  refine thn (hm.run pn s3 σ H3 (fun o H4 => o = some (-1) ∧ H4 = H3) I3 ⟨1, rfl, -1, rfl, rfl, rfl⟩) fun vs s4 ⟨o, H4, I4, ps, eo, e4⟩ => ?_
  subst eo
  subst e4
  cases pl
  cases pu
  cases ps with
  | int _ u =>
  have I5 : Inv X pn σ H4 { s4 with heap := s4.heap.push { cls := .type "slice", data := .fields #[.none, .none, .int (-1) u] } } := I4.kept (t' := s4.toks) fun b ob w => Heap.get?_push_of_some _ w
  obtain ⟨its, r, ht, _⟩ := I5.tuple hx
  obtain ⟨u1, u2, rfl, ry, rz⟩ := vals2 r
  show wpAny (model X.prog X.w) X.A (subscriptTail e (.Slice none none (some (.UnaryOp .USub (.Constant (.int 1) k p1) p2)) p3) (.ref a) (.ref s4.heap.objs.size)) (EP X pn σ Q) X.xe _
  refine tail_any (ops := [.ref a, .ref s4.heap.objs.size]) ht.typeIs PyProof.Rows.slot_tuple_getitem.lookup ?_ (by with_unfolding_all rfl)
  refine item_back ht (Heap.IsSliceOf.new _ .none .none (.int (-1) u)) ?_
  refine ⟨.ref _, _, I5.laid (t' := s4.toks) (o := .tup [z, y]) (fun b ob w => Heap.get?_push_of_some _ w) (Nat.le_refl _) ?_, rfl, q _ (I5.hok.fresh (Nat.le_refl _))⟩
  exact ⟨by show 2 ≤ sizeLine; decide, [u2, u1], .cons rz (.cons ry .nil), ⟨_, Heap.get?_push_size _ rfl, rfl, 0, rfl⟩⟩
/-! ### a field as a target -/
def gFld (K : PySem.W.Frag) (ta : TE) (f : Str) : TG := fun v σ H Q => ta σ H fun x H2 => ∃ a C dx fs, x = .ref a ∧ H2 a = some (.ins C dx fs) ∧ Cls K C ∧ NoAttr K C f ∧ fs.length < 1000 ∧ Q σ (upd H2 a (.ins C dx (putF f v fs)))
theorem pg_fld {o : Expr} {f : Str} {pos : Pos} {ta : TE} (ha : PE X o ta) : PG X (.Attribute o f pos) (gFld X.K ta f) := by
  refine ⟨fun pn s σ H v u Q I r h => ?_⟩
  rw [assign_Attribute]
  refine wpAny_bind (wpAny_holding (thn (ha.run pn s σ H _ I h) fun ov s1 ⟨x, H1, I1, rx, a, C, dx, fs, ex, ea, c, n, l, q⟩ => ?_))
  subst ex
  obtain rfl : ov = Value.ref a := rx
  refine wpAny_bind (wpAny_standAt ?_)
  refine wpAny_bind (wpAny_holding (setattr_ok I1 ea c n l r fun s2 I2 => ?_))
  exact wpAny_release ⟨σ, _, I2, q⟩
end
end Wd
end
section
/-! Lambdas: made, run, handed to sorted. -/
namespace Wd
open PySem PySem.Spec PyProof.Rows L2 LamX NdefX
/-- the object at f is the lambda with the body e -/
def LamO (f : Addr) (F : NF) (e : Expr) : HO := .ext fun h => ∃ pm ctv : Value, h.get? f = some (PySem.W.kla_obj "<lambda>" F.qual F.params e F.scope F.cl pm F.c ctv)
theorem lamO_tbl {f : Addr} {F : NF} {e : Expr} (ps : Array Value) : LamO f F e ≠ .tbl ps := fun z => by
  unfold LamO at z
  cases z
theorem lam_at {P : Program} {w : World} {H : Hp} {h : Heap} {f : Addr} {F : NF} {e : Expr} (ok : HOk P w H h) (q : H f = some (LamO f F e)) : ∃ pm ctv : Value, h.get? f = some (PySem.W.kla_obj "<lambda>" F.qual F.params e F.scope F.cl pm F.c ctv) := (ok f _ q).1
section
variable {X : Cx} {pins : List (Addr × Obj)} {σ : L2.St} {H : Hp} {s : Shared}
theorem lam_track {F : NF} {e : Expr} {pm ctv : Value} {tk : Nat} (I : Inv X pins σ H s) :
    Inv X pins σ (upd H s.heap.objs.size (LamO s.heap.objs.size F e)) { s with heap := s.heap.push (PySem.W.kla_obj "<lambda>" F.qual F.params e F.scope F.cl pm F.c ctv), toks := tk } := by
  have at_ : (s.heap.push (PySem.W.kla_obj "<lambda>" F.qual F.params e F.scope F.cl pm F.c ctv)).get? s.heap.objs.size = some (PySem.W.kla_obj "<lambda>" F.qual F.params e F.scope F.cl pm F.c ctv) := Heap.get?_push_size _ rfl
  refine I.laid (a := s.heap.objs.size) (fun b u k => Heap.get?_push_of_some _ k) (Nat.le_refl _) ⟨⟨pm, ctv, at_⟩, ⟨_, at_⟩, ?_⟩
  rintro h1 h2 ⟨p, c, z⟩ st
  exact ⟨p, c, st _ z⟩
theorem lam_new {TT : List (Addr × Str)} {c P : Addr} {params : Arguments} {body : Expr} {scope : Scope} {pos : Pos} {Q E : Value → Shared → Prop} (I : Inv X pins σ H s) (TB : TabB X.base X.mg c P) (hcode : X.env.code = .ref c)
    (hm : (P, X.env.qual ++ "<lambda>") ∈ TT) (hu : ∀ p ∈ TT, p.1 = P → p.2 = X.env.qual ++ "<lambda>") (hT : Tabs TT H) (hdef : defaultsOf params X.env = ([], []))
    (hfree : ∀ y ∈ scope.names, y.2 = .free → X.env.scope.names.lookup y.1 = some .cell ∨ X.env.scope.names.lookup y.1 = some .free)
    (q : ∀ f c' H1 s', Inv X pins σ H1 s' → Gr TT NoS H H1 → H f = none → H1 f = some (LamO f ⟨"<lambda>", X.env.qual ++ "<lambda>", params, [], scope, cloFrom X.env.cells scope.names [], c'⟩ body) → H1 c' = some (CodeO c' (X.env.qual ++ "<lambda>")) → Q (.ref f) s') :
    wpAny (model X.prog X.w) X.A (eval (.Lambda params body scope pos) X.env) Q E s := by
  have clo : closureFor scope X.env = pure (cloFrom X.env.cells scope.names []) := closure_ok fun y hy e => (hfree y hy e).elim (fun z => I.ok.has _ (.inl z)) fun z => I.ok.has _ (.inr z)
  obtain ⟨ps, tabP, trip, among⟩ := hT _ hm
  have getP : s.heap.get? P = some { cls := .none, data := .fields ps } := I.hok P _ tabP
  have bP : s.heap.BuiltinsAt X.mg P := TB.bm.keeps I.bk
  have gl := I.mod.glob.keeps I.bk
  have cd := TB.code.keeps I.bk
  refine PySem.W.kla_eval hdef ?_
  cases hc : codeAmong pos ps.toList with
  | some cv =>
    obtain ⟨c', rfl, hco⟩ := among pos cv hc
    refine PySem.W.kla_makeFunctionHit (mg := X.mg) (c := c) (P := P) (ps := ps) clo I.ok.glob gl hcode cd getP trip hc bP fun ctv h' tk keep _ => ?_
    have J : Inv X pins σ H { s with heap := h', toks := s.toks } := I.kept keep
    have nF : H h'.objs.size = none := J.hok.fresh (Nat.le_refl _)
    refine q h'.objs.size c' _ _ (lam_track (tk := tk) (pm := (X.mg "__name__").getD .none) (ctv := ctv) (e := body) (F := ⟨"<lambda>", X.env.qual ++ "<lambda>", params, [], scope, cloFrom X.env.cells scope.names [], c'⟩) J) (.new nF) nF upd_same ?_
    rw [upd_ne (ne_of_none hco nF)]
    exact hco
  | none =>
    refine PySem.W.kla_makeFunction (mg := X.mg) (c := c) (P := P) (ps := ps) clo I.ok.glob gl hcode cd getP trip hc TB.gP bP fun c' ctv h' tk keep ge lt rec_ tab' => ?_
    obtain ⟨_, oc, vs, t, ec, g1, g2, g3⟩ := rec_
    cases ec
    have nC : H c' = none := I.hok.fresh ge
    have J := inv_table (t' := s.toks) (more := #[rawInt pos.line, rawInt pos.col, .ref c']) (h' := h') I tabP (fun b o hb e => keep b o hb e) tab' ge ⟨oc, vs, t, g1, g2, g3⟩
    have nF := J.hok.fresh (Nat.le_refl _)
    have nF0 : H h'.objs.size = none := I.hok.fresh (Nat.le_trans ge (Nat.le_of_lt lt))
    have kp : ∀ b o, H b = some o → (∀ ps, o ≠ .tbl ps) → upd (upd H P (.tbl (ps ++ #[rawInt pos.line, rawInt pos.col, .ref c']))) c' (CodeO c' (X.env.qual ++ "<lambda>")) b = some o := fun b o e n => by
      have n1 : b ≠ P := fun z => n ps (Option.some.inj ((by rw [z] at e; exact e.symm.trans tabP)))
      rw [upd_ne (ne_of_none e nC), upd_ne n1]
      exact e
    have g1 : Gr TT NoS H (upd (upd H P (.tbl (ps ++ #[rawInt pos.line, rawInt pos.col, .ref c']))) c' (CodeO c' (X.env.qual ++ "<lambda>"))) := by
      refine ⟨fun b o e _ n => kp b o e n, fun b e => upd_none (upd_none e), fun T p hp => ?_, fun b xs e => kp b _ e (fun _ z => by cases z), fun b o u e => kp b _ e (fun _ z => by cases z)⟩
      by_cases hb : p.1 = P
      · rw [hu p hp hb, hb]
        refine ⟨_, by rw [upd_ne (ne_of_none tabP nC), upd_same], ?_, fun p' cv hcv => ?_⟩
        · rw [show (ps ++ #[rawInt pos.line, rawInt pos.col, .ref c']).toList = ps.toList ++ [rawInt pos.line, rawInt pos.col, .ref c'] by simp]
          exact PySem.TriplesOk_snoc _ _ _ _ trip
        · rw [show (ps ++ #[rawInt pos.line, rawInt pos.col, .ref c']).toList = ps.toList ++ [rawInt pos.line, rawInt pos.col, .ref c'] by simp] at hcv
          rcases among_app _ trip hcv with z | z
          · obtain ⟨c0, e1, e2⟩ := among p' cv z
            exact ⟨c0, e1, kp _ _ e2 codeO_ne⟩
          · exact ⟨c', z, upd_same⟩
      · obtain ⟨qs, a1, a2, a3⟩ := T p hp
        refine ⟨qs, by rw [upd_ne (ne_of_none a1 nC), upd_ne hb]; exact a1, a2, fun p' cv hcv => ?_⟩
        obtain ⟨c0, e1, e2⟩ := a3 p' cv hcv
        exact ⟨c0, e1, kp _ _ e2 codeO_ne⟩
    refine q h'.objs.size c' _ _ (lam_track (tk := tk) (pm := (X.mg "__name__").getD .none) (ctv := ctv) (e := body) (F := ⟨"<lambda>", X.env.qual ++ "<lambda>", params, [], scope, cloFrom X.env.cells scope.names [], c'⟩) J) (g1.trans (.new nF)) nF0 upd_same ?_
    rw [upd_ne (Nat.ne_of_lt lt), upd_same]
end
/-! ### run -/
structure LOk (P : Program) (w : World) (K : PySem.W.Frag) (mg : Str → Option Value) (base : Heap) (k : Nat) (f : Addr) (F : NF) (e : Expr) (fr : List Str) (sp : List (Option V) → V → Hp → VK → Prop) : Prop where
  run : ∀ (A : Around) (outer : List Env) (s : Shared) (H : Hp) (u : Value) (v : V) (ws : List (Option V)) (Q : VK), Room k A → Env0 P w K mg base A outer s H → H f = some (LamO f F e) → H F.c = some (CodeO F.c F.qual) →
    CellsAt F.cl fr ws s.heap H → RelV v u → sp ws v H Q → codeAny (model P w) A (.call (.ref f) ⟨[u], []⟩) (CR C8.CX0 outer P w H s Q (fun _ _ _ => False)) s
theorem lok_of {P : Program} {w : World} {K : PySem.W.Frag} {mg : Str → Option Value} {base : Heap} {N fr : List Str} {x : Str} {F : NF} {e : Expr} {f : Addr} {k : Nat} {sp : List (Option V) → V → Hp → VK → Prop} (S : NScope N [x] fr F.scope)
    (hb : ∀ (pm ctv : Value) (u : Value), bindArgs (PySem.W.kla_fn "<lambda>" F.qual F.params e F.scope F.cl pm (.ref F.c) ctv) ⟨[u], []⟩ = pure [(x, u)])
    (hbody : ∀ (A : Around) (outer : List Env) (s : Shared) (H : Hp) (v : V) (ws : List (Option V)) (Q : VK), Room k (A.deeper (envF F f s.heap.objs.size)) → ws.length = fr.length → sp ws v H Q →
      ∃ t, PE (ncx C8.CX0 P w K mg base N F f A outer s H (fun _ _ _ => False)) e t ∧ t (startF N [v] ws) H Q) : LOk P w K mg base (k + 1) f F e fr sp := by
  refine ⟨fun A outer s H u v ws Q hr e0 hf hc C r hsp => ?_⟩
  have lim : s.heap.NoLimit := e0.mod.nolimit.keeps fun b o z => (e0.bs b o z).1
  obtain ⟨pm, ctv, ho⟩ := lam_at e0.hok hf
  refine PySem.W.kla_callFunE hr.depth ho rfl S.co S.gen rfl (codeO_at e0.hok hc) ?_
  rw [hb]
  refine wpAny_pure (wpAny_newFunctionEnv S.nocell (fun p hp => S.par p.1 ?_) (fun h₁ hns hsb => ⟨lim.fresh _ hsb, ?_⟩) S.kind)
  · rw [List.mem_singleton.mp hp]
    exact List.mem_singleton.mpr rfl
  show codeAny _ _ (.expr e (envF F f s.heap.objs.size)) _ _
  have kp : ∀ b o, s.heap.get? b = some o → h₁.get? b = some o := fun b o z => hsb.extBut b o (Nat.ne_of_lt (Heap.lt_size z)) (Heap.get?_push_of_some _ z)
  obtain ⟨t, ht, hq⟩ := hbody A outer s H v ws Q (hr.deeper _) C.len hsp
  have J : Inv (ncx C8.CX0 P w K mg base N F f A outer s H (fun _ _ _ => False)) [] (startF N [v] ws) H { s with heap := h₁, toks := s.toks + [(x, u)].length } :=
    inv_startN S hr.hd e0 rfl (.cons r .nil) C hns kp
  refine PySem.W.kla_codeExpr (wpAny_mono (ht.run [] _ _ H Q J hq) (fun y s' hs => ?_) fun er s' hs => hs)
  obtain ⟨y', H', J', rv, q⟩ := hs
  exact ⟨y', H', J'.os, J'.bare, J'.base, J'.hok, rv, q⟩
end Wd
end
section
/-! sorted(xs, key=f), f a function that may make new things. -/
namespace Wd
open PySem PySem.Spec PyProof.Rows L2 LamX NdefX PySem.Calls
/-- a key: an int, or a pair of ints -/
def KeyAt (H : Hp) (v : V) (d : PyData) : Prop := (∃ i : Int, v = .int i ∧ d = .int i) ∨ ∃ p : Pt, PtV H v p ∧ d = .tuple [.int p.1, .int p.2]
theorem KeyAt.gr {T : List (Addr × Str)} {S : Addr → Prop} {H H1 : Hp} {v : V} {d : PyData} (k : KeyAt H v d) (g : Gr T S H H1) : KeyAt H1 v d := by
  rcases k with k | ⟨p, k, e⟩
  · exact .inl k
  · exact .inr ⟨p, k.gr g, e⟩
theorem KeyAt.reads {P : Program} {w : World} {H : Hp} {h : Heap} {v : V} {u : Value} {d : PyData} (k : KeyAt H v d) (ok : HOk P w H h) (r : RelV v u) : Reads h u d [] := by
  rcases k with ⟨i, rfl, rfl⟩ | ⟨p, ⟨a, rfl, ha⟩, rfl⟩
  · obtain ⟨t, rfl⟩ := r
    exact .int i t
  · obtain rfl : u = Value.ref a := r
    obtain ⟨_, its, rv, o, ho, hc, n, hd⟩ := ok _ _ ha
    obtain ⟨u1, u2, rfl, r1, r2⟩ := vals2 rv
    obtain ⟨t1, rfl⟩ := r1
    obtain ⟨t2, rfl⟩ := r2
    exact .tuple ho hc hd (.cons (.int _ t1) (.cons (.int _ t2) .nil))
theorem each_of {β : Type} {R0 : V → β → Prop} : ∀ {xs : List V} {us : List Value} {bs : List β}, Vals xs us → Al R0 xs bs → PySem.W.EachIs (fun u b => ∃ x, RelV x u ∧ R0 x b) us bs
  | _, _, _, .nil, .nil => .nil
  | _, _, _, .cons r t, .cons h q => .cons ⟨_, r, h⟩ (each_of t q)
theorem of_each {β : Type} {R0 : V → β → Prop} : ∀ {us : List Value} {bs : List β}, PySem.W.EachIs (fun u b => ∃ x, RelV x u ∧ R0 x b) us bs → ∃ xs, Vals xs us ∧ Al R0 xs bs
  | _, _, .nil => ⟨[], .nil, .nil⟩
  | _, _, .cons ⟨x, r, h⟩ t => by
    obtain ⟨xs, h1, h2⟩ := of_each t
    exact ⟨x :: xs, .cons r h1, .cons h h2⟩
theorem each_keys {P : Program} {w : World} {H : Hp} {h : Heap} (ok : HOk P w H h) : ∀ {kvs : List V} {us : List Value} {ds : List PyData}, Vals kvs us → Al (KeyAt H) kvs ds → PySem.W.EachIs (fun u d => ∃ as, Reads h u d as) us ds
  | _, _, _, .nil, .nil => .nil
  | _, _, _, .cons r t, .cons k q => .cons ⟨[], k.reads ok r⟩ (each_keys ok t q)
section
variable {X : Cx} {pins : List (Addr × Obj)} {σ : L2.St} {H : Hp} {s : Shared}
/-- a pinned record of ours is written: another record is pinned there -/
theorem pin_turn {a kS : Addr} {oa ok ok' : Obj} {h' : Heap} {tk : Nat} (I : Inv X ((a, oa) :: (kS, ok) :: pins) σ H s) (hs : X.s_0.heap.objs.size ≤ kS) (hak : a ≠ kS) (hp : ∀ p ∈ X.pn ++ pins, p.1 ≠ kS)
    (k : ∀ b o, b ≠ kS → s.heap.get? b = some o → h'.get? b = some o) (hk : h'.get? kS = some ok') (hc : ∀ v, ok'.data ≠ .cell v) : Inv X ((a, oa) :: (kS, ok') :: pins) σ H { s with heap := h', toks := tk } := by
  have pk := I.pin (kS, ok) (List.mem_append_right _ (List.mem_cons_of_mem _ (List.mem_cons_self ..)))
  have pa := I.pin (a, oa) (List.mem_append_right _ (List.mem_cons_self ..))
  have I1 : Inv X pins σ H s := I.pins_of fun p hp' => I.pin p (List.mem_append_right _ (List.mem_cons_of_mem _ (List.mem_cons_of_mem _ hp')))
  have ce : ∀ x c, X.env.cells.lookup x = some c → c ≠ kS := fun x c e z => by
    obtain ⟨v, o, ho, hd⟩ := I.cell x c e
    rw [z, pk.1] at ho
    cases ho
    exact pk.2.2.2.2 _ hd
  have I2 := I1.turned (t' := tk) k pk.2.1 pk.2.2.1 (.inr hs) ce hp
  refine I2.pins_of fun p hp' => ?_
  rcases List.mem_cons.mp hp' with rfl | hp'
  · exact ⟨k _ _ hak pa.1, pa.2⟩
  · rcases List.mem_cons.mp hp' with rfl | hp'
    · exact ⟨hk, pk.2.1, pk.2.2.1, pk.2.2.2.1, hc⟩
    · exact I2.pin p (List.mem_append_right _ hp')
theorem sort_run {β : Type} {bs : List β} {R0 : V → β → Prop} {kd : β → PyData} {xs : List V} {l f : Addr} {TT : List (Addr × Str)} {Q : VK} (I : Inv X pins σ H s) (hl : SqL X.K H l xs) (al : Al R0 xs bs)
    (hal : PySem.W.AllAlike (bs.map kd)) (hsk : PySem.W.Sortable (bs.map kd)) (hdep : ∀ d, d ∈ bs.map kd → X.A.units + 2 + d.depth < cLine)
    (turn : ∀ x b u pins' s' H', R0 x b → b ∈ bs → RelV x u → Gr TT NoS H H' → Inv X pins' σ H' s' → wpAny (model X.prog X.w) X.A.in1.in1 (call (.ref f) [u]) (EP X pins' σ fun kv H'' => Gr TT NoS H' H'' ∧ KeyAt H'' kv (kd b)) (fun _ _ => False) s')
    (q : ∀ ys p H1, Al R0 ys (bs.mergeSort (PySem.W.dataLe false kd)) → Gr TT NoS H H1 → H1 p = none → Q (.ref p) (upd H1 p (.lst ys))) :
    wpAny (model X.prog X.w) X.A (call (.builtin "sorted") [.ref l] [(Str.ofString "key", .ref f)]) (EP X pins σ Q) X.xe s := by
  obtain ⟨its, rv, pl, hz⟩ := I.list hl
  have len1 : its.length = bs.length := by rw [← rv.length]; exact al.len
  have hZ : its.length ≤ sizeLine := by rw [← rv.length]; exact hz
  refine PySem.W.sorted_of_sort pl.isList hZ (PyProof.Rows.ksk_s1 _ _) (fun x => PyProof.Rows.ksk_l1 _ _) fun E' => ?_
  rw [PyProof.Rows.ksk_t1]
  unfold PyProof.Rows.ksk_tree
  have ho := PySem.W.copyHeap_at s.heap its
  generalize hcp : PySem.W.copyHeap s.heap its = hc at ho ⊢
  have kc : ∀ b o, s.heap.get? b = some o → hc.get? b = some o := fun b o e => by rw [← hcp]; exact PySem.W.copyHeap_old e
  obtain ⟨e1, ho1⟩ : ∃ e1, (hc.update (s.heap.objs.size + 1) (Obj.mapSeq fun _ => (#[] : Array Value))).get? (s.heap.objs.size + 1) = some (seqObj "list" #[] e1) := ⟨_, get?_update_seq ho fun _ => #[]⟩
  have lt1 : s.heap.objs.size + 1 < hc.objs.size := Heap.lt_size ho
  refine wpAny_bind (listItems_at ho rfl ?_)
  refine wpAny_bind (listUpdate_at ho rfl ?_ (by rw [List.size_toArray]; exact hZ) (Nat.zero_le _))
  refine wpAny_bind (seqEpoch_at ho1 rfl ?_)
  refine wpAny_bind (wpAny_newTuple ?_ (by show its.length ≤ _; exact hZ))
  refine wpAny_bind (wpAny_newList ?_ (Nat.zero_le _))
  refine wpAny_holding ?_
  have sB := Heap.SameBut.update hc (s.heap.objs.size + 1) (Obj.mapSeq fun _ => (#[] : Array Value))
  have szu : (hc.update (s.heap.objs.size + 1) (Obj.mapSeq fun _ => (#[] : Array Value))).objs.size = hc.objs.size := Heap.size_update ..
  generalize hc.update (s.heap.objs.size + 1) (Obj.mapSeq fun _ => (#[] : Array Value)) = hu at ho1 sB szu ⊢
  try dsimp only
  have szt : (hu.push { cls := .type "tuple", data := .seq its.toArray }).objs.size = hu.objs.size + 1 := Heap.size_push ..
  have ka : (hu.push { cls := .type "tuple", data := .seq its.toArray }).get? (s.heap.objs.size + 1) = some (seqObj "list" #[] e1) := Heap.get?_push_of_some _ ho1
  have kk : ∀ b o, s.heap.get? b = some o → (hu.push { cls := .type "tuple", data := .seq its.toArray }).get? b = some o := fun b o e => by
    refine Heap.get?_push_of_some _ ?_
    rw [sB.2 b (Nat.ne_of_lt (Nat.lt_succ_of_lt (Heap.lt_size e)))]
    exact kc b o e
  generalize hu.push { cls := .type "tuple", data := .seq its.toArray } = ht at szt ka kk ⊢
  have k0 : (ht.push (seqObj "list" #[] 0)).get? ht.objs.size = some (seqObj "list" #[] 0) := Heap.get?_push_size _ rfl
  have ka0 : (ht.push (seqObj "list" #[] 0)).get? (s.heap.objs.size + 1) = some (seqObj "list" #[] e1) := Heap.get?_push_of_some _ ka
  have kk0 : ∀ b o, s.heap.get? b = some o → (ht.push (seqObj "list" #[] 0)).get? b = some o := fun b o e => Heap.get?_push_of_some _ (kk b o e)
  have ltk : s.heap.objs.size + 1 < ht.objs.size := Heap.lt_size ka
  generalize hkS : ht.objs.size = kS at k0 ltk ⊢
  show wpAny _ _ (PyProof.Rows.ksk_rest (s.heap.objs.size + 1) (.ref f) false its.toArray e1 (.ref kS)) _ _ { s with heap := ht.push (seqObj "list" #[] 0) }
  generalize ht.push (seqObj "list" #[] 0) = h0 at k0 ka0 kk0 ⊢
  generalize haS : s.heap.objs.size + 1 = a at ka0 ltk ⊢
  have ge : s.heap.objs.size ≤ a := by omega
  have gk : s.heap.objs.size ≤ kS := by omega
  have s0a : X.s_0.heap.objs.size ≤ a := Nat.le_trans I.sz ge
  have s0k : X.s_0.heap.objs.size ≤ kS := Nat.le_trans I.sz gk
  have ak : a ≠ kS := Nat.ne_of_lt ltk
  have pnk : ∀ p ∈ X.pn ++ pins, p.1 ≠ kS := fun p hp => Nat.ne_of_lt (Nat.lt_of_lt_of_le (Heap.lt_size (I.pin p hp).1) gk)
  have pna : ∀ p ∈ X.pn ++ pins, p.1 ≠ a := fun p hp => Nat.ne_of_lt (Nat.lt_of_lt_of_le (Heap.lt_size (I.pin p hp).1) ge)
  have J0 : Inv X pins σ H { s with heap := h0, toks := s.toks } := I.kept kk0
  have J : Inv X ((a, seqObj "list" #[] e1) :: (kS, seqObj "list" #[] 0) :: pins) σ H { s with heap := h0, toks := s.toks } := by
    refine J0.pins_of fun p hp => ?_
    have fa := I.fpOk (H' := H) ge (I.hok.fresh ge)
    have fk := I.fpOk (H' := H) gk (I.hok.fresh gk)
    rcases List.mem_cons.mp hp with rfl | hp
    · exact ⟨ka0, fa.1, fa.2.1, fa.2.2.1, fun v z => by cases z⟩
    · rcases List.mem_cons.mp hp with rfl | hp
      · exact ⟨k0, fk.1, fk.2.1, fk.2.2.1, fun v z => by cases z⟩
      · exact J0.pin p (List.mem_append_right _ hp)
  unfold PyProof.Rows.ksk_rest
  refine wpAny_bind (wpAny_rule ?_)
  first
    | rw [List.forIn_toArray]
    | (rw [← Array.forIn_toList]; simp only [List.toList_toArray])
    | rw [← Array.forIn_toList]
  refine wpAny_bind (PyProof.Rows.ksk_fold (fun j s' => ∃ H' kA e kvs, Inv X ((a, seqObj "list" #[] e1) :: (kS, seqObj "list" kA e) :: pins) σ H' s' ∧ Gr TT NoS H H' ∧ Vals kvs kA.toList ∧ Al (KeyAt H') kvs ((bs.map kd).take j)) its 0 _
    ⟨H, #[], 0, [], J, .refl H, .nil, by rw [List.take_zero]; exact .nil⟩ ?step ?done)
  case step =>
    rintro j u s' hu' ⟨H', kA, e, kvs, I', g', r', al'⟩
    simp only [Nat.zero_add] at al' ⊢
    have hj : j < its.length := (List.getElem?_eq_some_iff.mp hu').1
    obtain ⟨x, hx⟩ : ∃ x, xs[j]? = some x := ⟨_, List.getElem?_eq_getElem (by rw [rv.length]; exact hj)⟩
    obtain ⟨u2, hu2, rx⟩ := rv.get hx
    obtain rfl : u2 = u := Option.some.inj (hu2.symm.trans hu')
    obtain ⟨b, hb, rb⟩ := Al.get al hx
    have hkA : kA.size ≤ its.length := by
      have h1 : kvs.length = kA.size := by rw [← Array.length_toList]; exact Vals.length r'
      have h2 : kvs.length = ((bs.map kd).take j).length := Al.len al'
      rw [List.length_take, List.length_map] at h2
      omega
    refine wpAny_bind (wpAny_attempt (wpAny_mono (turn x b u2 _ s' H' rb (List.mem_of_getElem? hb) rx g' I') (fun v s'' hv => ?_) fun _ _ z => z.elim))
    obtain ⟨kv, H'', I'', rk, g'', kk'⟩ := hv
    try dsimp only
    have pk := (I''.pin (kS, seqObj "list" kA e) (List.mem_append_right _ (List.mem_cons_of_mem _ (List.mem_cons_self ..)))).1
    have sK := Heap.SameBut.update s''.heap kS (Obj.mapSeq (·.push v))
    refine wpAny_bind (listUpdate_at pk rfl ?_ (Nat.le_trans hkA hZ) (Nat.le_trans (Nat.le_of_eq (Array.size_push ..)) (Nat.succ_le_succ (Nat.le_trans hkA hZ))))
    have I3 := pin_turn (tk := s''.toks) I'' s0k ak pnk (fun b o hb e => (sK.2 b hb).trans e) (get?_update_seq pk (·.push v)) (fun v z => by cases z)
    refine wpAny_pure ⟨rfl, H'', kA.push v, _, kvs ++ [kv], I3, g'.trans g'', ?_, ?_⟩
    · rw [show (kA.push v).toList = kA.toList ++ [v] by simp]
      exact r'.append (.cons rk .nil)
    · have e2 : (bs.map kd).take (j + 1) = (bs.map kd).take j ++ [kd b] := by
        rw [List.take_add_one, List.getElem?_map, hb]
        rfl
      rw [e2]
      exact Al.app (Al.imp al' fun _ _ z => z.gr g'') (.cons kk' .nil)
  case done =>
    rintro s' ⟨H', kA, e, kvs, I', g', r', al'⟩
    have e3 : (bs.map kd).take (0 + its.length) = bs.map kd := List.take_of_length_le (by rw [List.length_map]; omega)
    rw [e3] at al'
    have pk := I'.pin (kS, seqObj "list" kA e) (List.mem_append_right _ (List.mem_cons_of_mem _ (List.mem_cons_self ..)))
    have pa := I'.pin (a, seqObj "list" #[] e1) (List.mem_append_right _ (List.mem_cons_self ..))
    have hks := each_keys I'.hok r' al'
    have hsz : kA.size = its.length := by
      have h1 : kvs.length = kA.size := by rw [← Array.length_toList]; exact Vals.length r'
      have h2 : kvs.length = (bs.map kd).length := Al.len al'
      rw [List.length_map] at h2
      omega
    try dsimp only
    refine wpAny_bind (listItems_at pk.1 rfl ?_)
    refine PySem.W.keyH_end (κ := PySem.W.dataKind s'.heap (bs.map kd)) (h₁ := PySem.W.hideAll s'.heap [kS]) (fun b o _ z => PySem.W.of_hideAll _ z) (PySem.W.hideAll_none _ (List.mem_singleton.mpr rfl)) pk.1 pa.1 ak.symm
      (PySem.W.SortsAt.data hks hal hsk hdep) hsz hZ fun h' tk c kb ha => ⟨rfl, ?_⟩
    have ko : PySem.W.KeyedOut false (bs.map kd) its (PySem.W.sortVals (PySem.W.dataKind s'.heap (bs.map kd)) false kA.toList its) := ⟨s'.heap, kA.toList, hal, rfl, hks⟩
    obtain ⟨ys, ry, ay⟩ := of_each (PySem.W.keyedOut_each kd ko (each_of rv al))
    generalize PySem.W.sortVals (PySem.W.dataKind s'.heap (bs.map kd)) false kA.toList its = out at ha ry
    have I1 : Inv X pins σ H' s' := I'.pins_of fun p hp' => I'.pin p (List.mem_append_right _ (List.mem_cons_of_mem _ (List.mem_cons_of_mem _ hp')))
    have hna : H' a = none := pa.2.1
    have kp : ∀ b o, b ≠ a → b ≠ kS → s'.heap.get? b = some o → h'.get? b = some o := fun b o h1 h2 e => kb b o h1 (PySem.W.hideAll_get _ e (fun z => h2 (List.mem_singleton.mp z)))
    have nin : ∀ b, b ∉ [kS, a] → b ≠ a ∧ b ≠ kS := fun b hb => ⟨fun z => hb (by simp [z]), fun z => hb (by simp [z])⟩
    have tr : ∀ b u, H' b = some u → b ≠ a ∧ b ≠ kS := fun b u e => ⟨ne_of_none e hna, ne_of_none e pk.2.1⟩
    have ylen : ys.length ≤ sizeLine := by
      have := ay.len
      rw [List.length_mergeSort] at this
      omega
    refine ⟨.ref a, upd H' a (.lst ys), ?_, rfl, q ys a H' ay g' hna⟩
    refine I1.step (g' := s'.gens) (d' := s'.drawn) (ch := [kS, a]) (fun b hb => ?_) (fun b o _ _ hc e _ => kp b o (nin b hc).1 (nin b hc).2 e) (fun b o _ _ hc e _ => ⟨o.slots, kp b o (nin b hc).1 (nin b hc).2 e⟩)
      (fun b o hc _ n => by rw [upd_ne (nin b hc).1]; exact n) (fun b o hc e => ⟨o, kp b o (nin b hc).1 (nin b hc).2 e⟩) (fun b _ e => by rw [upd_ne (tr b _ e).1]; exact e) (fun b _ _ e => by rw [upd_ne (tr b _ e).1]; exact e)
      (fun b ps e => ⟨#[], by rw [upd_ne (tr b _ e).1, e]; simp⟩) (fun m hm => ?_) (fun b u e => ?_) I1.bare
    · have cell : ∀ {p : Addr × Obj}, (s'.heap.get? p.1 = some p.2 ∧ H' p.1 = none ∧ p.1 ≠ X.env.locals ∧ p.1 ∉ X.fs ∧ ∀ v, p.2.data ≠ .cell v) → ∀ x c, X.env.cells.lookup x = some c → c ≠ p.1 := fun {p} hp x c ec z => by
        obtain ⟨v, o, ho, hd⟩ := I1.cell x c ec
        rw [z, hp.1] at ho
        cases ho
        exact hp.2.2.2.2 _ hd
      rcases List.mem_cons.mp hb with rfl | hb
      · exact ⟨.inr s0k, pk.2.2.1, cell pk, pnk⟩
      · obtain rfl := List.mem_singleton.mp hb
        exact ⟨.inr s0a, pa.2.2.1, cell pa, pna⟩
    · obtain ⟨o, es, ep, ho', r⟩ := hm
      exact ⟨o, es, ep, kp _ o pa.2.2.1.symm pk.2.2.1.symm ho', r⟩
    · by_cases hb : b = a
      · subst hb
        rw [upd_same] at e
        cases e
        exact ⟨ylen, out, c, ry, ha⟩
      · rw [upd_ne hb] at e
        refine (I1.hok b u e).stay (fun d v hd z => ?_) (fun d z => by rw [upd_ne (tr d _ z).1]; exact z) fun d _ z => by rw [upd_ne (tr d _ z).1]; exact z
        have td : d ≠ a ∧ d ≠ kS := by
          rcases hd with rfl | hd
          · exact tr d u e
          · exact tr d _ hd
        exact kp d v td.1 td.2 z
end
end Wd
namespace Wd
open PySem PySem.Spec PyProof.Rows L2 LamX NdefX PySem.Calls
/-- sorted(e, key=lambda x: body): js the slots of the captured names, sp what the lambda promises -/
def tSortL (TT : List (Addr × Str)) (K : PySem.W.Frag) (js : List Nat) (sp : List (Option V) → V → Hp → VK → Prop) (t : TA) : TE := fun σ H Q => t σ H fun vs H1 => ∃ (l : Addr) (xs : List V), vs = [V.ref l] ∧ SqL K H1 l xs ∧ Tabs TT H1 ∧
  ∃ (β : Type) (bs : List β) (R0 : V → β → Prop) (kd : β → PyData), Al R0 xs bs ∧ PySem.W.AllAlike (bs.map kd) ∧ PySem.W.Sortable (bs.map kd) ∧ (∀ d, d ∈ bs.map kd → d.depth ≤ 10) ∧
    (∀ x b H', R0 x b → b ∈ bs → Gr TT NoS H1 H' → sp (js.map (slotAt σ)) x H' fun kv H'' => Gr TT NoS H' H'' ∧ KeyAt H'' kv (kd b)) ∧
    ∀ ys p H2, Al R0 ys (bs.mergeSort (PySem.W.dataLe false kd)) → Gr TT NoS H1 H2 → H2 p = none → Q (.ref p) (upd H2 p (.lst ys))
abbrev lamF (X : Cx) (params : Arguments) (scope : Scope) (c' : Addr) : NF := ⟨"<lambda>", X.env.qual ++ "<lambda>", params, [], scope, cloFrom X.env.cells scope.names [], c'⟩
section
variable {X : Cx}
theorem run_lam {k : Nat} {fr : List Str} {js : List Nat} {f : Addr} {F : NF} {e : Expr} {sp : List (Option V) → V → Hp → VK → Prop} {pins : List (Addr × Obj)} {σ : L2.St} {H : Hp} {s : Shared} {Q : VK} {A : Around} {u : Value} {x : V} (L : LOk X.prog X.w X.K X.mg X.base k f F e fr sp) (hA : A.frames = X.A.frames) (hr : Room k A)
    (I : Inv X pins σ H s) (hf : H f = some (LamO f F e)) (hc : H F.c = some (CodeO F.c F.qual)) (C : CellsAt F.cl fr (js.map (slotAt σ)) s.heap H) (r : RelV x u) (q : sp (js.map (slotAt σ)) x H Q) :
    wpAny (model X.prog X.w) A (call (.ref f) [u]) (EP X pins σ Q) (fun _ _ => False) s := by
  have e0 := I.env0
  refine wpAny_call (codeAny_mono (L.run A X.stack s H u x _ Q hr ⟨hA.trans e0.frames, e0.mod, e0.bs, e0.bsz, e0.funs, e0.frf, e0.hok, e0.bare⟩ hf hc C r q) fun res s' hq => ?_)
  cases res with
  | error e => exact hq
  | ok fl =>
    cases fl with
    | ret u => exact I.after hq
    | next => exact False.elim hq
    | brk => exact False.elim hq
    | cont => exact False.elim hq
theorem pe_sortL {TT : List (Addr × Str)} {c P : Addr} {params : Arguments} {body e : Expr} {scope : Scope} {lp p pos kpos : Pos} {N' fr : List Str} {x' : Str} {js : List Nat} {sp : List (Option V) → V → Hp → VK → Prop} {k j : Nat} {t : TA} (TB : TabB X.base X.mg c P) (hcode : X.env.code = .ref c)
    (hm : (P, X.env.qual ++ "<lambda>") ∈ TT) (hu : ∀ p ∈ TT, p.1 = P → p.2 = X.env.qual ++ "<lambda>") (hdef : defaultsOf params X.env = ([], [])) (hnd : ndefB X.env.scope scope fr = true) (S : NScope N' [x'] fr scope)
    (hb : ∀ (q : Str) (cl : List (Str × Addr)) (pm cv ctv u : Value), bindArgs (PySem.W.kla_fn "<lambda>" q params body scope cl pm cv ctv) ⟨[u], []⟩ = pure [(x', u)]) (hjs : js.map (fun j => X.N[j]?) = fr.map some) (hr : Room j X.A) (hk : k + 3 ≤ j)
    (hbody : ∀ (f c' : Addr) (A : Around) (outer : List Env) (s : Shared) (H : Hp) (v : V) (ws : List (Option V)) (Q : VK), Room k (A.deeper (envF (lamF X params scope c') f s.heap.objs.size)) → ws.length = fr.length → sp ws v H Q →
      ∃ t, PE (ncx C8.CX0 X.prog X.w X.K X.mg X.base N' (lamF X params scope c') f A outer s H (fun _ _ _ => False)) body t ∧ t (startF N' [v] ws) H Q)
    (hg : Gl X "sorted") (hms : X.mg "sorted" = none) (ha : PA X [e] t) (he : backTo pos (starEach [e] X.env) = (false, eval e X.env) :: backTo pos (starEach [] X.env) := by rfl) (hpl : (backTo pos (starEach [e] X.env)).any (·.1) = false := by rfl) :
    PE X (.Call (.Name "sorted" p) [e] [⟨some "key", .Lambda params body scope lp, kpos⟩] pos) (tSortL TT X.K js sp t) := by
  refine ⟨fun pins s σ H Q I h => ?_⟩
  refine wpAny_Call_Name_kw (ld_blt I hg hms (u := .builtin "sorted") (by decide +kernel) ?_)
  refine PyProof.Rows.callWith_kw (thn (ha.run pos pins s σ H _ I h) fun us s1 ⟨vs, H1, I1, r1, q1⟩ => ?_) he hpl rfl rfl
  obtain ⟨l, xs, rfl, hl, tabs, β, bs, R0, kd, al, hal, hsk, hdep, turn, fin⟩ := q1
  obtain rfl := Vals.ref1 r1
  show wpAny _ _ (evalAll [(do let v ← eval (.Lambda params body scope lp) X.env; standAt pos; pure v)]) _ _ s1
  refine wpAny_evalAll_cons (wpAny_bind (lam_new I1 TB hcode hm hu tabs hdef (ndef_free hnd) fun f c' H2 s2 I2 g2 nf hf hc => wpAny_bind (wpAny_standAt (wpAny_pure (wpAny_evalAll_nil ?_)))))
  show wpAny _ _ (call (.builtin "sorted") [.ref l] [(Str.ofString "key", .ref f)]) _ _ s2
  have L : LOk X.prog X.w X.K X.mg X.base (k + 1) f (lamF X params scope c') body fr sp := lok_of S (fun pm ctv u => hb _ _ _ _ _ _) fun A outer s H v ws Q hr hl q => hbody f c' A outer s H v ws Q hr hl q
  have cap := Caps.made (fr := fr) (js := js) I2.ok (ndef_free hnd) (ndef_fr hnd) hjs
  have room3 := hr.mono hk
  have room : Room (k + 1) X.A.in1.in1 := room3.in1.in1
  refine sort_run (TT := TT) (R0 := R0) (kd := kd) I2 (g2.sqL hl) al hal hsk (fun d hd => ?_) (fun x b u pins' s' H' rb hb ru g' I' => ?_) fun ys p H3 ay g3 hp => fin ys p H3 ay (g2.trans g3) hp
  · have h1 := hdep d hd
    have h2 := room3.un
    omega
  · exact run_lam L rfl room I' (g'.at_ hf (fun z => z) lamO_tbl) (g'.at_ hc (fun z => z) codeO_ne) (cells_of I' cap) ru (turn x b H' rb hb (g2.trans g'))
end
/-- what stands for a maker of lambdas: its code object and its table -/
structure Mkr (base : Heap) (mg : Str → Option Value) (TT : List (Addr × Str)) (c : Addr) (q : Str) : Prop where
  ex : ∃ P, TabB base mg c P ∧ (P, q ++ "<lambda>") ∈ TT ∧ ∀ p ∈ TT, p.1 = P → p.2 = q ++ "<lambda>"
theorem cal0M {P : Program} {w : World} {K : PySem.W.Frag} {mg : Str → Option Value} {base : Heap} {c : Addr} {x : Str} {st : Stmt} {f : Addr} {fd : FuncData} {N ps : List Str} {ds : List Value} {dvs : List V} {k : Nat} {sp : Sp} (F : C8.Def K mg x st f fd) (hc : fd.code = .ref c) (b : Binds K fd ps ds) (d : Vals dvs ds)
    (S : FnScope N ps (C8.fnScope st)) (len : ∀ vs H Q E, sp vs H Q E → vs.length = ps.length)
    (hbody : ∀ (A : Around) (outer : List Env) (s : Shared) (H : Hp) (vs : List V) (Q : VK) (E : XK), Room k (A.deeper (envOfC x (C8.fnScope st) s.heap.objs.size f (.ref c))) → sp vs H Q E →
      ∃ t, PSs (cxOf C8.CX0 P w K mg base N x (C8.fnScope st) f (.ref c) A outer s H E).nox (C8.fnBody st) t ∧ t { nx := fun _ H' => Q .non H', rt := Q } (L2.start N vs) H) : C8.Cal P w K mg base (k + 1) x sp dvs := by
  obtain ⟨oc, od, dV, kV, doc, pm, an, cdv, ct, osl, rfl, lk, hcd⟩ := F.fn.ex
  obtain rfl : cdv = .ref c := hc
  refine ⟨f, _, ps, ds, fn_of lk hcd S len fun A outer s H vs Q E hr hsp => ?_, F.mgf, F.kp, b, d⟩
  obtain ⟨t, h, q⟩ := hbody A outer s H vs Q E hr hsp
  exact ⟨t, h.nox, q⟩
end Wd
end
section
/-! More steps: comprehensions, loops, lists. -/
namespace Wd
open PySem PySem.Spec PyProof.Rows L2 LamX
section
variable {T : List (Addr × Str)} {S : Addr → Prop} {H H1 H2 : Hp} {K : PySem.W.Frag}
theorem Gr.lst {p : Addr} {xs ys : List V} (h : H p = some (.lst xs)) : Gr T (fun b => b = p) H (upd H p (.lst ys)) := .mut h plain_lst rfl
theorem Gr.lst' {p : Addr} {xs ys : List V} (g : Gr T S H H1) (hp : H p = none) (h : H1 p = some (.lst xs)) : Gr T S H (upd H1 p (.lst ys)) := g.mut' hp h plain_lst
/-- a thing that was known for a while -/
theorem Gr.lock {d : Addr} {u : HO} {od : Obj} (h : H d = some u) (n : Plain u) (g : Gr T S (upd H d (.frz od u)) H1) (e : H1 d = some (.frz od u)) : Gr T S H (upd H1 d u) := by
  have at_ : ∀ b, b ≠ d → upd H d (.frz od u) b = H b := fun b hb => upd_ne hb
  refine ⟨fun b o eb nb z => ?_, fun b eb => ?_, fun t => ?_, fun b xs eb => ?_, fun b o v eb => ?_⟩
  · by_cases hb : b = d
    · rw [hb] at eb ⊢
      rw [upd_same, ← h]
      exact eb
    · rw [upd_ne hb]
      exact g.kp b o (by rw [at_ b hb]; exact eb) nb z
  · by_cases hb : b = d
    · rw [hb, upd_same] at eb
      cases eb
    · rw [upd_ne hb] at eb
      have := g.fr b eb
      rw [at_ b hb] at this
      exact this
  · have t1 := g.tb (Tabs.upd (o' := .frz od u) t h n)
    intro q hq
    obtain ⟨ps, h1, h2, h3⟩ := t1 q hq
    have n1 : q.1 ≠ d := fun z => by rw [z, e] at h1; cases h1
    refine ⟨ps, by rw [upd_ne n1]; exact h1, h2, fun pos cv hc => ?_⟩
    obtain ⟨c, e1, e2⟩ := h3 pos cv hc
    refine ⟨c, e1, ?_⟩
    rw [upd_ne fun z => ?_]
    · exact e2
    · rw [z, e] at e2
      cases e2
  · have hb : b ≠ d := fun z => n.2.2.1 xs (Option.some.inj (by rw [← h, ← z, eb]))
    rw [upd_ne hb]
    exact g.tp b xs (by rw [at_ b hb]; exact eb)
  · have hb : b ≠ d := fun z => n.2.2.2 o v (Option.some.inj (by rw [← h, ← z, eb]))
    rw [upd_ne hb]
    exact g.fz b o v (by rw [at_ b hb]; exact eb)
/-- a list that is kept -/
theorem Gr.keepL {a : Addr} {xs : List V} (g : Gr T S H H1) (h : H a = some (.lst xs)) (n : ¬ S a) : H1 a = some (.lst xs) := g.kp a _ h n plain_lst.1
theorem Gr.keepL0 {a : Addr} {xs : List V} (g : Gr T NoS H H1) (h : H a = some (.lst xs)) : H1 a = some (.lst xs) := g.keepL h (fun z => z)
end
/-! ### comprehensions -/
/-- what stands between the turns: R of what is gathered at D -/
def LcP (TT : List (Addr × Str)) (S : Addr → Prop) (H1 : Hp) (D : Addr) (R : Nat → List V → Hp → Prop) (i : Nat) (H' : Hp) : Prop := ∃ acc, acc.length ≤ i ∧ Gr TT S H1 H' ∧ H' D = some (.lst acc) ∧ R i acc H'
/-- over anything that is walked -/
theorem w_lc {J : It} {n : Nat} {G : Hp → Prop} {Y : Nat → Hp → V → Hp → Prop} (w : L2.Walk J n G Y) (TT : List (Addr × Str)) (S : Addr → Prop) {g : TG} {tt : L2.TT} {te : TE} {vs : List Nat} {σ : L2.St} {H1 : Hp} {D : Addr} {Qd : Hp → Prop} (hD : H1 D = none) (R : Nat → List V → Hp → Prop) (r0 : R 0 [] (upd H1 D (.lst [])))
    (hG : ∀ i acc H', i ≤ n → Gr TT S H1 H' → H' D = some (.lst acc) → R i acc H' → G H')
    (hs : ∀ i x acc H' H'', i < n → acc.length ≤ i → Gr TT S H1 H' → H' D = some (.lst acc) → R i acc H' → Y i H' x H'' → g x (wipe σ vs) H'' fun σ2 H2 => wipe σ2 vs = wipe σ vs ∧ tt σ2 H2 fun b H3 =>
      if b = true then te σ2 H3 fun y H4 => ∃ acc', H4 D = some (.lst acc') ∧ acc'.length < sizeLine ∧ LcP TT S H1 D R (i + 1) (upd H4 D (.lst (acc' ++ [y]))) else LcP TT S H1 D R (i + 1) H3)
    (hd : ∀ acc H', Gr TT S H1 H' → H' D = some (.lst acc) → acc.length ≤ n → R n acc H' → Qd H') :
    ∃ W : Nat → Nat → Hp → Prop, (∃ m, W 0 m (upd H1 D (.lst []))) ∧ ∀ i m H, W i m H →
      (J.stop i H ∧ Qd H) ∨ (J.go i H ∧ ∃ Nx : Hp → Prop, (∀ H', Nx H' → ∃ m', m' < m ∧ W (i + 1) m' H') ∧ ∀ x H', J.yld i H x H' → g x (wipe σ vs) H' fun σ2 H2 => wipe σ2 vs = wipe σ vs ∧ tt σ2 H2 fun b H3 =>
        if b = true then te σ2 H3 fun y H4 => ∃ acc, H4 D = some (.lst acc) ∧ acc.length < sizeLine ∧ Nx (upd H4 D (.lst (acc ++ [y]))) else Nx H3) :=
  lc_it w (LcP TT S H1 D R) ⟨[], Nat.zero_le _, .new hD, upd_same, r0⟩ (fun i H' hi ⟨acc, _, g1, h, r⟩ => hG i acc H' hi g1 h r) (fun i x H' H'' hi ⟨acc, l, g1, hD', r⟩ y => hs i x acc H' H'' hi l g1 hD' r y) fun H' ⟨acc, l, g1, hD', r⟩ => hd acc H' g1 hD' l r
theorem lc_yes {TT : List (Addr × Str)} {S : Addr → Prop} {H1 H4 : Hp} {D : Addr} {R : Nat → List V → Hp → Prop} {i : Nat} {acc : List V} {y : V} (g : Gr TT S H1 H4) (hD : H1 D = none) (h : H4 D = some (.lst acc)) (l : acc.length ≤ i) (hi : i < 100000) (r : R (i + 1) (acc ++ [y]) (upd H4 D (.lst (acc ++ [y])))) :
    ∃ acc', H4 D = some (.lst acc') ∧ acc'.length < sizeLine ∧ LcP TT S H1 D R (i + 1) (upd H4 D (.lst (acc' ++ [y]))) :=
  ⟨acc, h, sz100' (by omega), acc ++ [y], by rw [List.length_append, List.length_singleton]; omega, g.lst' hD h, upd_same, r⟩
theorem lc_no {TT : List (Addr × Str)} {S : Addr → Prop} {H1 H3 : Hp} {D : Addr} {R : Nat → List V → Hp → Prop} {i : Nat} {acc : List V} (g : Gr TT S H1 H3) (h : H3 D = some (.lst acc)) (l : acc.length ≤ i) (r : R (i + 1) acc H3) : LcP TT S H1 D R (i + 1) H3 := ⟨acc, by omega, g, h, r⟩
theorem w_lcI {wi : TI} {g : TG} {tt : L2.TT} {te : TE} {vs : List Nat} {σ : L2.St} {H : Hp} {Q : VK} (h : wi σ H fun J H1 => ∀ D, H1 D = none → ∃ W : Nat → Nat → Hp → Prop, (∃ m, W 0 m (upd H1 D (.lst []))) ∧ ∀ i m H, W i m H →
  (J.stop i H ∧ Q (.ref D) H) ∨ (J.go i H ∧ ∃ Nx : Hp → Prop, (∀ H', Nx H' → ∃ m', m' < m ∧ W (i + 1) m' H') ∧ ∀ x H', J.yld i H x H' → g x (wipe σ vs) H' fun σ2 H2 => wipe σ2 vs = wipe σ vs ∧ tt σ2 H2 fun b H3 =>
    if b = true then te σ2 H3 fun y H4 => ∃ acc, H4 D = some (.lst acc) ∧ acc.length < sizeLine ∧ Nx (upd H4 D (.lst (acc ++ [y]))) else Nx H3)) : tLc wi g tt te vs σ H Q := h
theorem w_iTup {K : PySem.W.Frag} {tl : TE} {σ : L2.St} {H : Hp} {R : It → Hp → Prop} (h : tl σ H fun x H1 => ∃ a, x = .ref a ∧ (∃ xs, SqT K H1 a xs) ∧ R (Itt K a) H1) : iTup K tl σ H R := h
theorem w_iList {K : PySem.W.Frag} {tl : TE} {σ : L2.St} {H : Hp} {R : It → Hp → Prop} (h : tl σ H fun x H1 => ∃ a, x = .ref a ∧ (∃ xs, SqL K H1 a xs) ∧ R (Itl K a) H1) : iList K tl σ H R := h
theorem w_forI {wi : TI} {g : TG} {tb : TS} {D : Ends} {σ : L2.St} {H : Hp} (h : wi σ H fun J H1 => ∃ W : Nat → Nat → L2.St → Hp → Prop, (∃ m, W 0 m σ H1) ∧ ∀ i m σ H, W i m σ H →
  (J.stop i H ∧ D.nx σ H) ∨ (J.go i H ∧ ∃ N : L2.St → Hp → Prop, (∀ σ' H', N σ' H' → ∃ m', m' < m ∧ W (i + 1) m' σ' H') ∧ ∀ x H', J.yld i H x H' → g x σ H' fun σ2 H2 => tb { D with nx := N, ct := N, bk := D.nx } σ2 H2)) : tFor wi g tb D σ H := h
/-! two clauses -/
theorem w_lc2I {wi : TI} {g : TG} {tt : L2.TT} {wi1 : TI} {g1 : TG} {tt1 : L2.TT} {te : TE} {vs vs1 : List Nat} {σ : L2.St} {H : Hp} {Q : VK} (h : wi σ H fun J H1 => ∀ D, H1 D = none → ∃ W : Nat → Nat → Hp → Prop, (∃ m, W 0 m (upd H1 D (.lst []))) ∧ ∀ i m H, W i m H →
  (J.stop i H ∧ Q (.ref D) H) ∨ (J.go i H ∧ ∃ Nx : Hp → Prop, (∀ H', Nx H' → ∃ m', m' < m ∧ W (i + 1) m' H') ∧ ∀ x H', J.yld i H x H' → g x (wipe σ vs) H' fun σ2 H2 => wipe σ2 vs = wipe σ vs ∧ tt σ2 H2 fun b H3 =>
    if b = true then wi1 σ2 H3 fun J1 H4 => ∃ W1 : Nat → Nat → Hp → Prop, (∃ m, W1 0 m H4) ∧ ∀ j k H, W1 j k H →
      (J1.stop j H ∧ Nx H) ∨ (J1.go j H ∧ ∃ Nx1 : Hp → Prop, (∀ H', Nx1 H' → ∃ k', k' < k ∧ W1 (j + 1) k' H') ∧ ∀ x H', J1.yld j H x H' → g1 x (wipe σ2 vs1) H' fun σ3 H5 => wipe σ3 vs1 = wipe σ2 vs1 ∧ tt1 σ3 H5 fun b H6 =>
        if b = true then te σ3 H6 fun y H7 => ∃ acc, H7 D = some (.lst acc) ∧ acc.length < sizeLine ∧ Nx1 (upd H7 D (.lst (acc ++ [y]))) else Nx1 H6)
    else Nx H3)) : tLc2 wi g tt wi1 g1 tt1 te vs vs1 σ H Q := h
theorem w_lc2 {J : It} {n : Nat} {G : Hp → Prop} {Y : Nat → Hp → V → Hp → Prop} (w : L2.Walk J n G Y) {g : TG} {tt : L2.TT} {wi1 : TI} {g1 : TG} {tt1 : L2.TT} {te : TE} {vs vs1 : List Nat} {σ : L2.St} {H1 : Hp} {D : Addr} {Qd : Hp → Prop} (Pv : Nat → Hp → Prop) (h0 : Pv 0 (upd H1 D (.lst []))) (hG : ∀ i H, i ≤ n → Pv i H → G H)
    (hs : ∀ i x H H', i < n → Pv i H → Y i H x H' → g x (wipe σ vs) H' fun σ2 H2 => wipe σ2 vs = wipe σ vs ∧ tt σ2 H2 fun b H3 =>
      if b = true then wi1 σ2 H3 fun J1 H4 => ∃ W1 : Nat → Nat → Hp → Prop, (∃ m, W1 0 m H4) ∧ ∀ j k H, W1 j k H →
        (J1.stop j H ∧ Pv (i + 1) H) ∨ (J1.go j H ∧ ∃ Nx1 : Hp → Prop, (∀ H', Nx1 H' → ∃ k', k' < k ∧ W1 (j + 1) k' H') ∧ ∀ x H', J1.yld j H x H' → g1 x (wipe σ2 vs1) H' fun σ3 H5 => wipe σ3 vs1 = wipe σ2 vs1 ∧ tt1 σ3 H5 fun b H6 =>
          if b = true then te σ3 H6 fun y H7 => ∃ acc, H7 D = some (.lst acc) ∧ acc.length < sizeLine ∧ Nx1 (upd H7 D (.lst (acc ++ [y]))) else Nx1 H6)
      else Pv (i + 1) H3) (hd : ∀ H, Pv n H → Qd H) :
    ∃ W : Nat → Nat → Hp → Prop, (∃ m, W 0 m (upd H1 D (.lst []))) ∧ ∀ i m H, W i m H →
      (J.stop i H ∧ Qd H) ∨ (J.go i H ∧ ∃ Nx : Hp → Prop, (∀ H', Nx H' → ∃ m', m' < m ∧ W (i + 1) m' H') ∧ ∀ x H', J.yld i H x H' → g x (wipe σ vs) H' fun σ2 H2 => wipe σ2 vs = wipe σ vs ∧ tt σ2 H2 fun b H3 =>
        if b = true then wi1 σ2 H3 fun J1 H4 => ∃ W1 : Nat → Nat → Hp → Prop, (∃ m, W1 0 m H4) ∧ ∀ j k H, W1 j k H →
          (J1.stop j H ∧ Nx H) ∨ (J1.go j H ∧ ∃ Nx1 : Hp → Prop, (∀ H', Nx1 H' → ∃ k', k' < k ∧ W1 (j + 1) k' H') ∧ ∀ x H', J1.yld j H x H' → g1 x (wipe σ2 vs1) H' fun σ3 H5 => wipe σ3 vs1 = wipe σ2 vs1 ∧ tt1 σ3 H5 fun b H6 =>
            if b = true then te σ3 H6 fun y H7 => ∃ acc, H7 D = some (.lst acc) ∧ acc.length < sizeLine ∧ Nx1 (upd H7 D (.lst (acc ++ [y]))) else Nx1 H6)
        else Nx H3) := by
  refine ⟨fun i m H => m = n - i ∧ i ≤ n ∧ Pv i H, ⟨n, by simp, Nat.zero_le _, h0⟩, ?_⟩
  rintro i m H ⟨rfl, hi, p⟩
  by_cases hlt : i < n
  · exact .inr ⟨w.goes i H hlt (hG i H hi p), Pv (i + 1), fun H' p' => ⟨n - (i + 1), by omega, rfl, hlt, p'⟩, fun x H' y => hs i x H H' hlt p (w.yields i H x H' hlt (hG i H hi p) y)⟩
  · have e : i = n := by omega
    subst e
    exact .inl ⟨w.stops H (hG _ H hi p), hd H p⟩
theorem w_in2 {J1 : It} {n : Nat} {G : Hp → Prop} {Y : Nat → Hp → V → Hp → Prop} (w : L2.Walk J1 n G Y) {g1 : TG} {tt1 : L2.TT} {te : TE} {vs1 : List Nat} {σ2 : L2.St} {H4 : Hp} {D : Addr} {Nx : Hp → Prop} (Pw : Nat → Hp → Prop) (h0 : Pw 0 H4) (hG : ∀ i H, i ≤ n → Pw i H → G H)
    (hs : ∀ j x H H', j < n → Pw j H → Y j H x H' → g1 x (wipe σ2 vs1) H' fun σ3 H5 => wipe σ3 vs1 = wipe σ2 vs1 ∧ tt1 σ3 H5 fun b H6 =>
      if b = true then te σ3 H6 fun y H7 => ∃ acc, H7 D = some (.lst acc) ∧ acc.length < sizeLine ∧ Pw (j + 1) (upd H7 D (.lst (acc ++ [y]))) else Pw (j + 1) H6) (hd : ∀ H, Pw n H → Nx H) :
    ∃ W1 : Nat → Nat → Hp → Prop, (∃ m, W1 0 m H4) ∧ ∀ j k H, W1 j k H →
      (J1.stop j H ∧ Nx H) ∨ (J1.go j H ∧ ∃ Nx1 : Hp → Prop, (∀ H', Nx1 H' → ∃ k', k' < k ∧ W1 (j + 1) k' H') ∧ ∀ x H', J1.yld j H x H' → g1 x (wipe σ2 vs1) H' fun σ3 H5 => wipe σ3 vs1 = wipe σ2 vs1 ∧ tt1 σ3 H5 fun b H6 =>
        if b = true then te σ3 H6 fun y H7 => ∃ acc, H7 D = some (.lst acc) ∧ acc.length < sizeLine ∧ Nx1 (upd H7 D (.lst (acc ++ [y]))) else Nx1 H6) := by
  refine ⟨fun j k H => k = n - j ∧ j ≤ n ∧ Pw j H, ⟨n, by simp, Nat.zero_le _, h0⟩, ?_⟩
  rintro j k H ⟨rfl, hj, p⟩
  by_cases hlt : j < n
  · exact .inr ⟨w.goes j H hlt (hG j H hj p), Pw (j + 1), fun H' p' => ⟨n - (j + 1), by omega, rfl, hlt, p'⟩, fun x H' y => hs j x H H' hlt p (w.yields j H x H' hlt (hG j H hj p) y)⟩
  · have e : j = n := by omega
    subst e
    exact .inl ⟨w.stops H (hG _ H hj p), hd H p⟩
/-! ### loops -/
theorem w_while {c : TT} {tb : TS} {D : Ends} {σ : L2.St} {H : Hp} (M : Nat → L2.St → Hp → Prop) (m0 : Nat) (h0 : M m0 σ H)
    (step : ∀ m σ H, M m σ H → c σ H fun b H1 => if b = true then ∃ N : L2.St → Hp → Prop, (∀ σ' H', N σ' H' → ∃ m', m' < m ∧ M m' σ' H') ∧ tb { D with nx := N, ct := N, bk := D.nx } σ H1 else D.nx σ H1) : tWhile c tb D σ H :=
  ⟨M, ⟨m0, h0⟩, step⟩
section
variable {σ : L2.St} {H : Hp} {Q : VK} {K : PySem.W.Frag}
theorem new_facts (TT : List (Addr × Str)) {H H2 : Hp} {p : Addr} {o : HO} (hp : H p = none) (e : upd H p o = H2) : Gr TT NoS H H2 ∧ H2 p = some o := by
  subst e
  exact ⟨.new hp, upd_same⟩
theorem w_din {ty td : TE} (h : ty σ H fun y H1 => td σ H1 fun x H2 => ∃ a o, x = .ref a ∧ DGet H2 a y o ∧ Q (.bl o.isSome) H2) : tDIn ty td σ H Q := h
theorem w_dput {td ty tv : TE} {D : Ends} (h : tv σ H fun v H1 => td σ H1 fun x H2 => ty σ H2 fun y H3 => ∃ a H4, x = .ref a ∧ DPut H3 a y v H4 ∧ D.nx σ H4) : sDPut td ty tv D σ H := h
theorem w_dget2 {td ty tx : TE} (h : td σ H fun x H1 => ∃ a, x = .ref a ∧ IsD H1 a ∧ ty σ H1 fun y H2 => tx σ H2 fun z H3 => ∃ o, DGet H3 a y o ∧ Q (o.getD z) H3) : tDGet2 td ty tx σ H Q := h
theorem w_iEnum {ta : TA} {R : It → Hp → Prop} (h : ta σ H fun vs H1 => ∃ a xs, vs = [.ref a] ∧ SqL K H1 a xs ∧ R (Ite K a) H1) : iEnum K ta σ H R := h
theorem w_sl {r : V → Option Int → Option Int → Hp → VK → Prop} {te : TE} {tl th : TO} (h : te σ H fun x H1 => tl σ H1 fun l H2 => th σ H2 fun u H3 => r x l u H3 Q) : L2.tSl r te tl th σ H Q := h
theorem w_noP {Q : Option Int → Hp → Prop} (q : Q none H) : tNoPart σ H Q := q
theorem w_part {te : TE} {Q : Option Int → Hp → Prop} (h : te σ H fun x H1 => ∃ i, x = .int i ∧ Q (some i) H1) : tPart te σ H Q := h
theorem cut_to {xs : List V} (k : Nat) : cutV xs none (some (k : Int)) = xs.take k := by
  unfold cutV
  rw [HT.sIx_nat, HT.sIx_none, List.drop_zero, Nat.sub_zero]
  by_cases h : k ≤ xs.length
  · rw [Nat.min_eq_left h]
  · rw [Nat.min_eq_right (by omega), List.take_of_length_le (Nat.le_refl _), List.take_of_length_le (by omega)]
theorem cut_from {xs : List V} (k : Nat) : cutV xs (some (k : Int)) none = xs.drop k := by
  unfold cutV
  rw [HT.sIx_nat, HT.sIx_none]
  by_cases h : k ≤ xs.length
  · rw [Nat.min_eq_left h, List.take_of_length_le (by rw [List.length_drop]; exact Nat.le_refl _)]
  · rw [Nat.min_eq_right (by omega), Nat.sub_self, List.take_zero, List.drop_of_length_le (by omega)]
theorem cut_mid {xs : List V} (i j : Nat) (hij : i ≤ j) : cutV xs (some (i : Int)) (some (j : Int)) = (xs.drop i).take (j - i) := by
  unfold cutV
  rw [HT.sIx_nat, HT.sIx_nat]
  by_cases h : i ≤ xs.length
  · rw [Nat.min_eq_left h]
    by_cases h2 : j ≤ xs.length
    · rw [Nat.min_eq_left h2]
    · rw [Nat.min_eq_right (by omega), List.take_of_length_le (by rw [List.length_drop]; exact Nat.le_refl _), List.take_of_length_le (by rw [List.length_drop]; omega)]
  · rw [Nat.min_eq_right (by omega), Nat.min_eq_right (by omega), Nat.sub_self, List.take_zero, List.drop_of_length_le (by omega), List.take_nil]
theorem w_rslL {a : Addr} {xs : List V} {lo hi : Option Int} (h : SqL K H a xs) (q : ∀ p, H p = none → Q (.ref p) (upd H p (.lst (cutV xs lo hi)))) : rSlL K (.ref a) lo hi H Q := ⟨a, xs, rfl, h, q⟩
theorem w_asg {te : TE} {g : TG} {D : Ends} (h : te σ H fun x H1 => g x σ H1 D.nx) : tAsg te g D σ H := h
theorem w_yes {Q : Bool → Hp → Prop} (q : Q true H) : tYes σ H Q := q
/-- a list of ours is written -/
theorem lst_facts {TT : List (Addr × Str)} {S : Addr → Prop} {H H1 H2 : Hp} {p : Addr} {xs ys : List V} (hp : H p = none) (g : Gr TT S H H1) (h : H1 p = some (.lst xs)) (e : upd H1 p (.lst ys) = H2) : Gr TT S H H2 ∧ Gr TT (fun b => b = p) H1 H2 ∧ H2 p = some (.lst ys) := by
  subst e
  exact ⟨g.lst' hp h, Gr.lst h, upd_same⟩
theorem w_aug {i : Nat} {te : TE} {ti : TIp} {D : Ends} {x : V} (hi : σ[i]? = some (some x)) (h : te σ H fun y H1 => ti x y H1 fun z H2 => D.nx (σ.set i (some z)) H2) : tAug i te ti D σ H := ⟨x, hi, h⟩
theorem w_ip {f : Int → Int → Int} {i j : Int} (q : Q (.int (f i j)) H) : ipI f (.int i) (.int j) H Q := ⟨i, j, rfl, rfl, q⟩
theorem w_cont {D : Ends} (h : D.ct σ H) : tCont D σ H := h
theorem w_callD {sp : Sp} {dvs : List V} {E : XK} {tr : TA} (h : tr σ H fun vs H1 => sp (vs ++ dvs) H1 Q E) : tCall sp dvs E tr σ H Q := h
theorem w_thru {t u : TS} {D : Ends} (h : t { D with nx := u D } σ H) : tThru t u D σ H := h
theorem w_star {te : TE} {t : TA} {Q : List V → Hp → Prop} (h : te σ H fun x H1 => ∃ p xs, x = V.ref p ∧ (SqT K H1 p xs ∨ SqL K H1 p xs) ∧ t σ H1 fun ys H2 => Q (xs ++ ys) H2) : StX.tStar K te t σ H Q := h
theorem w_bits {to : TE} (h : to σ H fun x H1 => ∃ i, x = .int i ∧ Q (.int (Builtin.Int.intBits i : Nat)) H1) : tBits to σ H Q := h
theorem w_revL {te : TE} (h : te σ H fun x H1 => ∃ a xs, x = .ref a ∧ SqL K H1 a xs ∧ ∀ p, H1 p = none → Q (.ref p) (upd H1 p (.lst xs.reverse))) : tRevL K te σ H Q := h
theorem w_fld {f : Str} {ta : TE} (h : ta σ H fun x H1 => ∃ a C dx fs v, x = .ref a ∧ H1 a = some (.ins C dx fs) ∧ Cls K C ∧ NoAttr K C f ∧ fs.lookup f = some v ∧ Q v H1) : tFld K ta f σ H Q := h
theorem w_dget {td ty : TE} (h : td σ H fun x H1 => ty σ H1 fun y H2 => ∃ a v, x = .ref a ∧ DGet H2 a y (some v) ∧ Q v H2) : tDGet td ty σ H Q := h
theorem w_keys {td : TE} {R : It → Hp → Prop} (h : td σ H fun x H1 => ∃ d o, x = .ref d ∧ ((∃ kvs, H1 d = some (.frz o (.dK kvs)) ∧ R (Itk d o kvs) H1) ∨ ∃ kvs, H1 d = some (.frz o (.dT kvs)) ∧ R (Itkt d o kvs) H1)) : iKeys td σ H R := h
theorem w_gsub {to ti : TE} {t : TSet} {v : V} {Q : L2.St → Hp → Prop} (h : to σ H fun o H1 => ti σ H1 fun i H2 => t o i v H2 fun H3 => Q σ H3) : gSub to ti t v σ H Q := h
theorem w_rset {p : Addr} {xs : List V} {j : Nat} {v : V} {Q : Hp → Prop} (h : H p = some (.lst xs)) (hj : j < xs.length) (q : Q (upd H p (.lst (xs.set j v)))) : rSetL (.ref p) (.int (j : Nat)) v H Q := by
  refine ⟨p, xs, _, j, rfl, rfl, h, ?_, q⟩
  unfold ixN
  rw [if_pos (by omega), if_pos (by omega)]
  rfl
theorem w_fldaug {ta tv : TE} {rd : V → V → Hp → VK → Prop} {f : Str} {D : Ends} (h : ta σ H fun x H1 => ∃ a C dx fs v, x = .ref a ∧ H1 a = some (.ins C dx fs) ∧ Cls K C ∧ NoAttr K C f ∧ fs.lookup f = some v ∧
  tv σ H1 fun y H2 => rd v y H2 fun z H3 => ∃ dx' fs', H3 a = some (.ins C dx' fs') ∧ fs'.length < 1000 ∧ D.nx σ (upd H3 a (.ins C dx' (putF f z fs')))) : sFldAug K ta tv rd f D σ H := h
theorem w_sfld {ta tv : TE} {f : Str} {D : Ends} (h : tv σ H fun y H1 => ta σ H1 fun x H2 => ∃ a C dx fs, x = .ref a ∧ H2 a = some (.ins C dx fs) ∧ Cls K C ∧ NoAttr K C f ∧ fs.length < 1000 ∧ D.nx σ (upd H2 a (.ins C dx (putF f y fs)))) : sFld K ta tv f D σ H := h
theorem w_meth {C : Addr} {m : Str} {sp : Sp} {dvs : List V} {E : XK} {ta : TE} {t : TA} (h : ta σ H fun x H1 => ∃ a dx fs, x = .ref a ∧ H1 a = some (.ins C dx fs) ∧ fs.lookup m = none ∧ t σ H1 fun vs H2 => sp (x :: (vs ++ dvs)) H2 Q E) : tMeth C m sp dvs E ta t σ H Q := h
theorem w_make {C : Addr} {sp : Sp} {dvs : List V} {E : XK} {t : TA} (h : t σ H fun vs H1 => ∀ x dx, H1 x = none → H1 dx = none → dx ≠ x → sp (.ref x :: (vs ++ dvs)) (upd (upd H1 dx (.own x)) x (.ins C dx [])) (fun v H2 => v = .non ∧ Q (.ref x) H2) E) : tMake C sp dvs E t σ H Q := h
theorem w_bm {T : String} {r : V → List V → Hp → VK → Prop} {to : TE} {t : TA} (h : to σ H fun x H1 => tyV K T x H1 ∧ t σ H1 fun xs H2 => r x xs H2 Q) : tBM K T r to t σ H Q := h
theorem w_bm0 {T : String} {r : V → List V → Hp → VK → Prop} {to : TE} (h : to σ H fun x H1 => tyV K T x H1 ∧ r x [] H1 Q) : tBM0 K T r to σ H Q := h
theorem w_tyL {l : Addr} {xs : List V} (h : SqL K H l xs) : tyV K "list" (.ref l) H := .inl ⟨rfl, xs, h⟩
theorem w_rapp {l : Addr} {xs : List V} {y : V} (h : H l = some (.lst xs)) (hz : xs.length < 100000) (q : Q .non (upd H l (.lst (xs ++ [y])))) : rAppend (.ref l) [y] H Q := ⟨l, xs, y, rfl, rfl, h, sz100' hz, q⟩
theorem w_rext {l b : Addr} {xs zs : List V} (h : H l = some (.lst xs)) (hb : H b = some (.lst zs)) (hz : xs.length + zs.length ≤ 100000) (q : Q .non (upd H l (.lst (xs ++ zs)))) : rExtend (.ref l) [.ref b] H Q := ⟨l, b, xs, zs, rfl, rfl, h, hb, sz100 hz, q⟩
theorem w_rpop {l : Addr} {xs : List V} {y : V} (h : H l = some (.lst (xs ++ [y]))) (q : Q y (upd H l (.lst xs))) : rPop (.ref l) [] H Q :=
  ⟨l, xs ++ [y], y, rfl, rfl, h, by simp, by rw [List.dropLast_concat]; exact q⟩
theorem w_neNil {a b : Addr} {xs : List V} (ha : SqL K H a xs) (hb : H b = some (.lst [])) (q : Q (.bl (!xs.isEmpty)) H) : rNil true K (.ref a) (.ref b) H Q := ⟨a, b, xs, rfl, rfl, ha, SqL.of hb, q⟩
theorem w_eqNil {a b : Addr} {xs : List V} (ha : SqL K H a xs) (hb : H b = some (.lst [])) (q : Q (.bl xs.isEmpty) H) : rNil false K (.ref a) (.ref b) H Q := ⟨a, b, xs, rfl, rfl, ha, SqL.of hb, q⟩
theorem w_gname {i : Nat} {v : V} {Q : L2.St → Hp → Prop} (q : Q (σ.set i (some v)) H) : gName i v σ H Q := q
theorem w_gtup {gs : TGs} {Q : L2.St → Hp → Prop} {a : Addr} {xs : List V} {n : Nat} (h : SqT K H a xs) (hn : xs.length = n) (q : gs xs σ H Q) : gTup K n gs (.ref a) σ H Q := ⟨a, xs, rfl, h, hn, q⟩
theorem w_gcons {t : TG} {u : TGs} {v : V} {vs : List V} {Q : L2.St → Hp → Prop} (h : t v σ H fun σ1 H1 => u vs σ1 H1 Q) : gCons t u (v :: vs) σ H Q := ⟨v, vs, rfl, h⟩
theorem w_gnil {Q : L2.St → Hp → Prop} (q : Q σ H) : gNil [] σ H Q := ⟨rfl, q⟩
end
/-! ### two turns, one after the other -/
theorem w_for2 (TT : List (Addr × Str)) {K : PySem.W.Frag} {c0 c1 : V} {j : Nat} {tb : TS} {D : Ends} {σ : L2.St} {H : Hp}
    (main : ∀ a H1, Gr TT NoS H H1 → H a = none → H1 a = some (.tup [c0, c1]) → tb { D with
      nx := fun σ1 H2 => H2 a = some (.tup [c0, c1]) ∧ tb { D with nx := fun σ2 H3 => H3 a = some (.tup [c0, c1]) ∧ D.nx σ2 H3, ct := fun σ2 H3 => H3 a = some (.tup [c0, c1]) ∧ D.nx σ2 H3, bk := D.nx } (σ1.set j (some c1)) H2
      ct := fun σ1 H2 => H2 a = some (.tup [c0, c1]) ∧ tb { D with nx := fun σ2 H3 => H3 a = some (.tup [c0, c1]) ∧ D.nx σ2 H3, ct := fun σ2 H3 => H3 a = some (.tup [c0, c1]) ∧ D.nx σ2 H3, bk := D.nx } (σ1.set j (some c1)) H2
      bk := D.nx } (σ.set j (some c0)) H1) : tFor (iTup K (tTup (tCons (tC c0) (tCons (tC c1) tNil)))) (gName j) tb D σ H := by
  refine ⟨by show 2 ≤ sizeLine; decide, fun a ha => ?_⟩
  have h := And.intro (main a _ (.new ha) ha upd_same) (upd_same (H := H) (a := a) (o := .tup [c0, c1]))
  refine ⟨a, rfl, ⟨_, SqT.of upd_same⟩, ?_⟩
  generalize upd H a _ = H1 at h
  have h1 : H1 a = some (.tup [c0, c1]) := h.2
  refine for_tup (K := K) (a := a) (xs := [c0, c1]) (fun i σ' H' => H' a = some (.tup [c0, c1]) ∧ match i with
    | 0 => σ' = σ ∧ H' = H1
    | 1 => tb { D with nx := fun σ2 H3 => H3 a = some (.tup [c0, c1]) ∧ D.nx σ2 H3, ct := fun σ2 H3 => H3 a = some (.tup [c0, c1]) ∧ D.nx σ2 H3, bk := D.nx } (σ'.set j (some c1)) H'
    | _ => D.nx σ' H') ⟨h1, rfl, rfl⟩ (fun i σ' H' _ z => SqT.of z.1) ?_ fun σ' H' z => z.2
  intro i x σ' H' hi z
  match i, hi, z with
  | 0, hi, ⟨_, e1, e2⟩ =>
    cases hi
    subst e1
    subst e2
    exact h.1
  | 1, hi, ⟨_, z⟩ =>
    cases hi
    exact z
end Wd
end
section
/-! The small defs of points. -/
namespace Wd
open PySem PySem.Spec PyProof.Rows L2 LamX
/-- what the module's names hold -/
structure Txt (K : PySem.W.Frag) (mg : Str → Option Value) (aE C : Addr) : Prop where
  nlen : mg "len" = none
  nabs : mg "abs" = none
  nsum : mg "sum" = none
  nall : mg "all" = none
  nmax : mg "max" = none
  nsorted : mg "sorted" = none
  nisinstance : mg "isinstance" = none
  nint : mg "int" = none
  nbool : mg "bool" = none
  nlist : mg "list" = none
  ntuple : mg "tuple" = none
  nrange : mg "range" = none
  nenumerate : mg "enumerate" = none
  gMAX_COORDINATE : ∃ u, mg "MAX_COORDINATE" = some u ∧ RelV (.int (10 ^ 30)) u
  gMAX_BOUND : ∃ u, mg "MAX_BOUND" = some u ∧ RelV (.int (10 ^ 31)) u
  gMAX_POINTS : ∃ u, mg "MAX_POINTS" = some u ∧ RelV (.int 500) u
  gMOST_COUNT : ∃ u, mg "MOST_COUNT" = some u ∧ RelV (.int (10 ^ 30)) u
  gEVERYWHERE : ∃ u, mg "EVERYWHERE" = some u ∧ RelV (.ref aE) u
  sEVERYWHERE : ∀ H, SqT K H aE (rcL all4)
  gForest : ∃ u, mg "Forest" = some u ∧ RelV (.ref C) u
  cl : Cls K C
  nplaces : NoAttr K C "places"
  nknown : NoAttr K C "known"
  ntotal : NoAttr K C "total"
local macro_rules | `(tactic| walk_at "w") => `(tactic| first
  | with_reducible refine w_var (by with_unfolding_all rfl) ?_
  | with_reducible refine w_op ?_ | with_reducible refine w_c ?_ | with_reducible refine w_I0 ?_
  | with_reducible refine w_cons ?_ | with_reducible refine w_nil ?_ | with_reducible refine w_call ?_ | with_reducible refine w_cb ?_
  | with_reducible refine w_seq ?_ | with_reducible refine w_ret ?_ | with_reducible refine w_set ?_ | with_reducible refine w_if ?_
  | with_reducible refine w_test ?_ | with_reducible refine w_B ?_ | with_reducible refine w_k ?_
  | with_reducible refine w_and ?_ | with_reducible refine w_or ?_ | with_reducible refine w_not ?_
  | with_reducible refine w_andV ?_ | with_reducible refine w_orV ?_ | with_reducible refine w_notV ?_ | with_reducible refine w_ifE ?_
  | with_reducible refine w_chain ?_ | with_reducible refine w_un ?_ | with_reducible refine w_U ?_
  | with_reducible refine w_isN ?_ | with_reducible refine w_notN ?_
  | with_reducible refine w_T ?_ | with_reducible refine w_F ?_ | with_reducible refine w_next ?_ | with_reducible refine w_drop ?_
  | with_reducible refine w_par2 ?_ | with_reducible refine w_par3 ?_
  | with_reducible refine w_tup ?_ | with_reducible refine w_lst ?_
  | with_reducible refine w_ite (by with_unfolding_all rfl) ?_ | with_reducible refine w_itf (by with_unfolding_all rfl) ?_)
theorem w_dec {p : Prop} [Decidable p] {A B : Prop} (h1 : p → A) (h2 : ¬ p → B) : if decide p = true then A else B := by
  by_cases h : p
  · rw [decide_eq_true h]
    exact w_T (h1 h)
  · rw [decide_eq_false h]
    exact w_F (h2 h)
theorem w_bool {b : Bool} {A B : Prop} (h1 : b = true → A) (h2 : b = false → B) : if b = true then A else B := by
  cases b with
  | true => exact w_T (h1 rfl)
  | false => exact w_F (h2 rfl)
def axN (ax : Bool) : Nat := if ax then 1 else 0
/-- for axis in (0, 1) -/
theorem w_axes (TT : List (Addr × Str)) {K : PySem.W.Frag} {tb : TS} {D : Ends} {σ : L2.St} {H : Hp} {j : Nat}
    (main : ∀ a H1, Gr TT NoS H H1 → H1 a = some (.tup [.int 0, .int 1]) → ∃ M : Nat → L2.St → Hp → Prop, M 0 σ H1 ∧ (∀ i σ' H', M i σ' H' → Gr TT NoS H1 H') ∧
      (∀ (ax : Bool) σ' H', M (axN ax) σ' H' → tb { D with nx := M (axN ax + 1), ct := M (axN ax + 1), bk := D.nx } (σ'.set j (some (axV ax))) H') ∧ ∀ σ' H', M 2 σ' H' → D.nx σ' H') :
    tFor (iTup K (tTup (tCons (tC (.int 0)) (tCons (tC (.int 1)) tNil)))) (gName j) tb D σ H := by
  refine ⟨by show 2 ≤ sizeLine; decide, fun a ha => ?_⟩
  obtain ⟨M, m0, mg, ms, md⟩ := main a _ (.new ha) upd_same
  refine ⟨a, rfl, ⟨_, SqT.of upd_same⟩, for_tup (K := K) (a := a) (xs := [.int 0, .int 1]) M m0 (fun i σ' H' _ h => SqT.of ((mg i σ' H' h).tup upd_same)) ?_ md⟩
  intro i x σ' H' hi h
  match i, hi with
  | 0, hi =>
    cases hi
    exact ms false σ' H' h
  | 1, hi =>
    cases hi
    exact ms true σ' H' h
theorem ax_lo {r : Rect} {ax : Bool} : atI (rcL r) (if ax then 1 else 0) = some (oV (lo r ax)) := by cases ax <;> rfl
theorem ax_hi {r : Rect} {ax : Bool} : atI (rcL r) ((if ax then 1 else 0) + 2) = some (oV (hi r ax)) := by cases ax <;> rfl
theorem ax_pt {p : Pt} {ax : Bool} : atI [V.int p.1, V.int p.2] (if ax then 1 else 0) = some (.int (kx ax p)) := by cases ax <;> rfl
theorem hold_no {r : Rect} {p : Pt} {ax : Bool} (h : outAx r p ax = true) : hold r p = false := by
  unfold hold
  cases ax
  · rw [h]
    rfl
  · rw [h]
    cases outAx r p false <;> rfl
theorem dec_non : decide (V.non = V.non) = true := rfl
theorem dec_int_non (i : Int) : decide (V.int i = V.non) = false := rfl
section
variable {P : Program} {w : World} {K : PySem.W.Frag} {mg : Str → Option Value} {base : Heap} {aE C : Addr}
/-! ### is_integer, is_between, is_coordinate -/
def spIsInt : Sp := fun vs H Q _ => ∃ i : Int, vs = [.int i] ∧ Q (.bl true) H
abbrev s_is_integer : Stmt := topS 15
abbrev N_is_integer : List Str := ["value"]
theorem sc_is_integer : FnScope N_is_integer ["value"] (C8.fnScope s_is_integer) := ⟨rfl, rfl, rfl, by decide +kernel, rfl, by decide +kernel, by decide +kernel⟩
theorem cal_is_integer {f : Addr} {fd : FuncData} (F : C8.Def K mg "is_integer" s_is_integer f fd) (b : Binds K fd ["value"] []) (T : Txt K mg aE C) : C8.Cal P w K mg base 1 "is_integer" spIsInt [] := by
  refine C8.cal0 F b .nil sc_is_integer (fun vs H Q E h => ?_) (fun cdv A outer s H vs Q E hr h => ?_)
  · obtain ⟨i, rfl, _⟩ := h
    rfl
  · obtain ⟨i, rfl, k⟩ := h
    have nd := sc_is_integer.nd
    refine ⟨_, (pss_one (ps_ret (pe_and (pe_callB call_isi (by rfl) T.nisinstance (by decide +kernel) (pa_cons (pv 0) (pa_cons (pe_bltn (by rfl) T.nint (by decide +kernel) (show RelV (V.ty "int") (Value.type "int") from rfl)) pa_nil))) (pe_one (pe_not (pe_callB call_isi (by rfl) T.nisinstance (by decide +kernel) (pa_cons (pv 0) (pa_cons (pe_bltn (by rfl) T.nbool (by decide +kernel) (show RelV (V.ty "bool") (Value.type "bool") from rfl)) pa_nil)))))))), ?_⟩
    repeat walk_at "w"
    refine ⟨_, _, _, _, true, rfl, .ty _, .base (.int i), kit_ty (by decide +kernel), ?_⟩
    repeat walk_at "w"
    refine ⟨_, _, _, _, false, rfl, .ty _, .base (.int i), kit_ty (by decide +kernel), ?_⟩
    repeat walk_at "w"
    exact k
def spBetween : Sp := fun vs H Q _ => ∃ i l h : Int, vs = [.int i, .int l, .int h] ∧ Q (.bl (decide (l ≤ i) && decide (i ≤ h))) H
abbrev s_is_between : Stmt := topS 16
abbrev N_is_between : List Str := ["value", "low", "high"]
theorem sc_is_between : FnScope N_is_between ["value", "low", "high"] (C8.fnScope s_is_between) := ⟨rfl, rfl, rfl, by decide +kernel, rfl, by decide +kernel, by decide +kernel⟩
theorem cal_is_between {f : Addr} {fd : FuncData} (F : C8.Def K mg "is_between" s_is_between f fd) (b : Binds K fd ["value", "low", "high"] []) (c_is_integer : C8.Cal P w K mg base 1 "is_integer" spIsInt []) : C8.Cal P w K mg base 2 "is_between" spBetween [] := by
  refine C8.cal0 F b .nil sc_is_between (fun vs H Q E h => ?_) (fun cdv A outer s H vs Q E hr h => ?_)
  · obtain ⟨i, l, h, rfl, _⟩ := h
    rfl
  · obtain ⟨i, l, h, rfl, k⟩ := h
    have nd := sc_is_between.nd
    refine ⟨_, (pss_one (ps_ret (pe_and (C8.pe_c c_is_integer hr (by decide) (by rfl) (pa_cons (pv 0) pa_nil)) (pe_one (pe_chain op_le op_le (pv 1) (pv 0) (pv 2)))))), ?_⟩
    repeat walk_at "w"
    refine ⟨i, rfl, ?_⟩
    repeat walk_at "w"
    refine w_dec (fun c => ?_) (fun c => ?_)
    · repeat walk_at "w"
      rw [decide_eq_true c] at k
      exact k
    · rw [decide_eq_false c] at k
      exact k
def cok (i : Int) : Bool := decide (-(10 ^ 30) ≤ i) && decide (i ≤ 10 ^ 30)
def spCoord : Sp := fun vs H Q _ => ∃ i : Int, vs = [.int i] ∧ Q (.bl (cok i)) H
abbrev s_is_coordinate : Stmt := topS 17
abbrev N_is_coordinate : List Str := ["value"]
theorem sc_is_coordinate : FnScope N_is_coordinate ["value"] (C8.fnScope s_is_coordinate) := ⟨rfl, rfl, rfl, by decide +kernel, rfl, by decide +kernel, by decide +kernel⟩
theorem cal_is_coordinate {f : Addr} {fd : FuncData} (F : C8.Def K mg "is_coordinate" s_is_coordinate f fd) (b : Binds K fd ["value"] []) (T : Txt K mg aE C) (c_is_between : C8.Cal P w K mg base 2 "is_between" spBetween []) : C8.Cal P w K mg base 3 "is_coordinate" spCoord [] := by
  refine C8.cal0 F b .nil sc_is_coordinate (fun vs H Q E h => ?_) (fun cdv A outer s H vs Q E hr h => ?_)
  · obtain ⟨i, rfl, _⟩ := h
    rfl
  · obtain ⟨i, rfl, k⟩ := h
    have nd := sc_is_coordinate.nd
    refine ⟨_, (pss_one (ps_ret (C8.pe_c c_is_between hr (by decide) (by rfl) (pa_cons (pv 0) (pa_cons (pe_un un_neg (C8.pe_gc (by rfl) T.gMAX_COORDINATE)) (pa_cons (C8.pe_gc (by rfl) T.gMAX_COORDINATE) pa_nil)))))), ?_⟩
    repeat walk_at "w"
    exact ⟨i, _, _, rfl, k⟩
/-! ### points -/
def PtOk (p : Pt) : Prop := cok p.1 = true ∧ cok p.2 = true
def spIsPoint : Sp := fun vs H Q _ => ∃ v p, vs = [v] ∧ PtV H v p ∧ PtOk p ∧ Q (.bl true) H
abbrev s_is_point : Stmt := topS 18
abbrev N_is_point : List Str := ["value"]
theorem sc_is_point : FnScope N_is_point ["value"] (C8.fnScope s_is_point) := ⟨rfl, rfl, rfl, by decide +kernel, rfl, by decide +kernel, by decide +kernel⟩
theorem cal_is_point {f : Addr} {fd : FuncData} (F : C8.Def K mg "is_point" s_is_point f fd) (b : Binds K fd ["value"] []) (T : Txt K mg aE C) (c_is_coordinate : C8.Cal P w K mg base 3 "is_coordinate" spCoord []) : C8.Cal P w K mg base 4 "is_point" spIsPoint [] := by
  refine C8.cal0 F b .nil sc_is_point (fun vs H Q E h => ?_) (fun cdv A outer s H vs Q E hr h => ?_)
  · obtain ⟨v, p, rfl, _⟩ := h
    rfl
  · obtain ⟨v, p, rfl, ⟨a, rfl, hp⟩, hok, k⟩ := h
    have nd := sc_is_point.nd
    refine ⟨_, (pss_one (ps_ret (pe_and (pe_callB call_isi (by rfl) T.nisinstance (by decide +kernel) (pa_cons (pv 0) (pa_cons (pe_bltn (by rfl) T.ntuple (by decide +kernel) (show RelV (V.ty "tuple") (Value.type "tuple") from rfl)) pa_nil))) (pe_and (pe_cmpR op_eq (pe_callB call_len_seq (by rfl) T.nlen (by decide +kernel) (pa_cons (pv 0) pa_nil)) pe_int (nomark _)) (pe_and (C8.pe_c c_is_coordinate hr (by decide) (by rfl) (pa_cons (pe_ix ix_tup (pv 0) pe_int (fun _ _ => rfl)) pa_nil)) (pe_one (C8.pe_c c_is_coordinate hr (by decide) (by rfl) (pa_cons (pe_ix ix_tup (pv 0) pe_int (fun _ _ => rfl)) pa_nil)))))))), ?_⟩
    repeat walk_at "w"
    refine ⟨_, _, _, _, true, rfl, .ty _, .base (.tup hp), kit_ty (by decide +kernel), ?_⟩
    repeat walk_at "w"
    refine ⟨a, _, rfl, .inr (SqT.of hp), ?_⟩
    repeat walk_at "w"
    refine ⟨rfl, ?_⟩
    repeat walk_at "w"
    refine w_ixT (SqT.of hp) (by rfl) ?_
    repeat walk_at "w"
    refine ⟨_, rfl, ?_⟩
    rw [hok.1]
    repeat walk_at "w"
    refine w_ixT (SqT.of hp) (by rfl) ?_
    repeat walk_at "w"
    refine ⟨_, rfl, ?_⟩
    rw [hok.2]
    exact k
def spReqNum : Sp := fun vs H Q _ => ∃ (x : Str) (i l h : Int), vs = [.str x, .int i, .int l, .int h] ∧ l ≤ i ∧ i ≤ h ∧ Q .non H
abbrev s_require_number : Stmt := topS 19
abbrev N_require_number : List Str := ["name", "value", "low", "high"]
theorem sc_require_number : FnScope N_require_number ["name", "value", "low", "high"] (C8.fnScope s_require_number) := ⟨rfl, rfl, rfl, by decide +kernel, rfl, by decide +kernel, by decide +kernel⟩
theorem cal_require_number {f : Addr} {fd : FuncData} (F : C8.Def K mg "require_number" s_require_number f fd) (b : Binds K fd ["name", "value", "low", "high"] []) (c_is_between : C8.Cal P w K mg base 2 "is_between" spBetween []) : C8.Cal P w K mg base 3 "require_number" spReqNum [] := by
  refine C8.cal0 F b .nil sc_require_number (fun vs H Q E h => ?_) (fun cdv A outer s H vs Q E hr h => ?_)
  · obtain ⟨x, i, l, h, rfl, _⟩ := h
    rfl
  · obtain ⟨x, i, l, h, rfl, h1, h2, k⟩ := h
    have nd := sc_require_number.nd
    refine ⟨_, (pss_one (ps_if (pt_not (pt_val (C8.pe_c c_is_between hr (by decide) (by rfl) (pa_cons (pv 1) (pa_cons (pv 2) (pa_cons (pv 3) pa_nil)))))) (pss_one ps_never) pss_nil)), ?_⟩
    repeat walk_at "w"
    refine ⟨i, l, h, rfl, ?_⟩
    rw [decide_eq_true h1, decide_eq_true h2]
    repeat walk_at "w"
    exact k
def spReqPoint : Sp := fun vs H Q _ => ∃ v p, vs = [v] ∧ PtV H v p ∧ PtOk p ∧ Q .non H
abbrev s_require_point : Stmt := topS 20
abbrev N_require_point : List Str := ["value"]
theorem sc_require_point : FnScope N_require_point ["value"] (C8.fnScope s_require_point) := ⟨rfl, rfl, rfl, by decide +kernel, rfl, by decide +kernel, by decide +kernel⟩
theorem cal_require_point {f : Addr} {fd : FuncData} (F : C8.Def K mg "require_point" s_require_point f fd) (b : Binds K fd ["value"] []) (c_is_point : C8.Cal P w K mg base 4 "is_point" spIsPoint []) : C8.Cal P w K mg base 5 "require_point" spReqPoint [] := by
  refine C8.cal0 F b .nil sc_require_point (fun vs H Q E h => ?_) (fun cdv A outer s H vs Q E hr h => ?_)
  · obtain ⟨v, p, rfl, _⟩ := h
    rfl
  · obtain ⟨v, p, rfl, hp, ho, k⟩ := h
    have nd := sc_require_point.nd
    refine ⟨_, (pss_one (ps_if (pt_not (pt_val (C8.pe_c c_is_point hr (by decide) (by rfl) (pa_cons (pv 0) pa_nil)))) (pss_one ps_never) pss_nil)), ?_⟩
    repeat walk_at "w"
    refine ⟨v, p, rfl, hp, ho, ?_⟩
    repeat walk_at "w"
    exact k
def keyP (ax : Bool) (p : Pt) : Pt := (kx ax p, ky ax p)
def spKeyOf (TT : List (Addr × Str)) : Sp := fun vs H Q _ => ∃ v p ax, vs = [v, axV ax] ∧ PtV H v p ∧ ∀ kv H', Gr TT NoS H H' → PtV H' kv (keyP ax p) → Q kv H'
abbrev s_key_of : Stmt := topS 25
abbrev N_key_of : List Str := ["point", "axis"]
theorem sc_key_of : FnScope N_key_of ["point", "axis"] (C8.fnScope s_key_of) := ⟨rfl, rfl, rfl, by decide +kernel, rfl, by decide +kernel, by decide +kernel⟩
theorem cal_key_of {TT : List (Addr × Str)} {f : Addr} {fd : FuncData} (F : C8.Def K mg "key_of" s_key_of f fd) (b : Binds K fd ["point", "axis"] []) : C8.Cal P w K mg base 1 "key_of" (spKeyOf TT) [] := by
  refine C8.cal0 F b .nil sc_key_of (fun vs H Q E h => ?_) (fun cdv A outer s H vs Q E hr h => ?_)
  · obtain ⟨v, p, ax, rfl, _⟩ := h
    rfl
  · obtain ⟨v, p, ax, rfl, ⟨a, rfl, hp⟩, k⟩ := h
    have nd := sc_key_of.nd
    refine ⟨_, (pss_one (ps_ret (pe_ifExp (pt_cmpR op_eq (pv 1) pe_int (nomark _)) (pv 0) (pe_revT (pv 0))))), ?_⟩
    repeat walk_at "w"
    cases ax with
    | false =>
      refine ⟨rfl, ?_⟩
      repeat walk_at "w"
      exact k _ _ (.refl H) ⟨a, rfl, hp⟩
    | true =>
      refine ⟨rfl, ?_⟩
      repeat walk_at "w"
      refine ⟨_, rfl, a, _, _, rfl, SqT.of hp, fun q hq => ?_⟩
      exact k _ _ (.new hq) ⟨q, rfl, upd_same⟩
def spHolds (TT : List (Addr × Str)) : Sp := fun vs H Q _ => ∃ a r v p, vs = [.ref a, v] ∧ SqT K H a (rcL r) ∧ PtV H v p ∧ ∀ H', Gr TT NoS H H' → Q (.bl (hold r p)) H'
abbrev s_holds : Stmt := topS 26
abbrev N_holds : List Str := ["rectangle", "point", "axis", "low", "high"]
theorem sc_holds : FnScope N_holds ["rectangle", "point"] (C8.fnScope s_holds) := ⟨rfl, rfl, rfl, by decide +kernel, rfl, by decide +kernel, by decide +kernel⟩
theorem cal_holds {TT : List (Addr × Str)} {f : Addr} {fd : FuncData} (F : C8.Def K mg "holds" s_holds f fd) (b : Binds K fd ["rectangle", "point"] []) : C8.Cal P w K mg base 1 "holds" (spHolds (K := K) TT) [] := by
  refine C8.cal0 F b .nil sc_holds (fun vs H Q E h => ?_) (fun cdv A outer s H vs Q E hr h => ?_)
  · obtain ⟨a, r, v, p, rfl, _⟩ := h
    rfl
  · obtain ⟨a, r, v, p, rfl, hr', ⟨c, rfl, hp⟩, k⟩ := h
    have nd := sc_holds.nd
    refine ⟨_, (pss_cons (ps_for PassesOwn.never rfl (pi_tup (pe_tup (pa_cons pe_int (pa_cons pe_int pa_nil)))) (pg_name (i := 2) nd rfl (Or.inl rfl)) (pss_cons (ps_par (i := 3) (j := 4) rfl nd rfl rfl (by decide) rfl rfl (pa_cons (pe_ix ix_tup (pv 0) (pv 2) (fun _ _ => rfl)) (pa_cons (pe_ix ix_tup (pv 0) (pe_op op_add (pv 2) pe_int) (fun _ _ => rfl)) pa_nil)) (by rfl))
  (pss_one (ps_if (PW.pt (pw_or (PW.pt (pw_and (pt_cmpR op_notN1 (pv 3) pe_non (nomark _)) (pw_and1 (pt_cmpR op_lt (pe_ix ix_tup (pv 1) (pv 2) (fun _ _ => rfl)) (pv 3) (nomark _))))) (pw_or1 (PW.pt (pw_and (pt_cmpR op_notN1 (pv 4) pe_non (nomark _)) (pw_and1 (pt_cmpR op_gt (pe_ix ix_tup (pv 1) (pv 2) (fun _ _ => rfl)) (pv 4) (nomark _)))))))) (pss_one (ps_ret pe_bl)) pss_nil))))
  (pss_one (ps_ret pe_bl))), ?_⟩
    repeat walk_at "w"
    refine w_axes TT fun e H1 g1 h1 => ⟨fun i σ' H' => (∃ v2 v3 v4, σ' = [some (.ref a), some (.ref c), v2, v3, v4]) ∧ Gr TT NoS H1 H' ∧ (1 ≤ i → outAx r p false = false) ∧ (2 ≤ i → outAx r p true = false), ⟨⟨_, _, _, rfl⟩, .refl _, fun z => by omega, fun z => by omega⟩, fun i σ' H' h => h.2.1, ?_, ?_⟩
    · rintro ax σ' H' ⟨⟨v2, v3, v4, rfl⟩, g2, m1, m2⟩
      have hpt := (g1.trans g2).tup hp
      have hrc := (g1.trans g2).sqT hr'
      repeat walk_at "w"
      refine w_ixT hrc ax_lo ?_
      repeat walk_at "w"
      refine w_ixT hrc ax_hi ?_
      refine w_if (w_or (w_ltO (by rfl) (fun Q' q => w_ixV (by rfl) (by rfl) (SqT.of hpt) ax_pt q) (w_bool (fun c1 => ?_) (fun c1 => w_gtO (by rfl) (fun Q' q => w_ixV (by rfl) (by rfl) (SqT.of hpt) ax_pt q) (w_bool (fun c2 => ?_) (fun c2 => ?_))))))
      · repeat walk_at "w"
        have e : hold r p = false := hold_no (ax := ax) (by unfold outAx; rw [c1]; rfl)
        have k' := k _ (g1.trans g2)
        rw [e] at k'
        exact k'
      · repeat walk_at "w"
        have e : hold r p = false := hold_no (ax := ax) (by unfold outAx; rw [c1, c2]; rfl)
        have k' := k _ (g1.trans g2)
        rw [e] at k'
        exact k'
      · refine w_next ⟨⟨_, _, _, rfl⟩, g2, fun z => ?_, fun z => ?_⟩
        · cases ax with
          | false => unfold outAx; rw [c1, c2]; rfl
          | true => exact m1 (by decide)
        · cases ax with
          | false => exact absurd z (by decide)
          | true => unfold outAx; rw [c1, c2]; rfl
    · rintro σ' H' ⟨_, g2, m1, m2⟩
      repeat walk_at "w"
      have e : hold r p = true := hold_of fun ax => by cases ax; exact m1 (by decide); exact m2 (by decide)
      have k' := k _ (g1.trans g2)
      rw [e] at k'
      exact k'
/-! ### rectangles: sides, distances, cuts, covers -/
def spMLow : Sp := fun vs H Q _ => ∃ a r ax b, vs = [.ref a, axV ax, .int b] ∧ SqT K H a (rcL r) ∧ Q (.bl (mLow r ax b)) H
abbrev s_meets_low : Stmt := topS 27
abbrev N_meets_low : List Str := ["rectangle", "axis", "bound"]
theorem sc_meets_low : FnScope N_meets_low ["rectangle", "axis", "bound"] (C8.fnScope s_meets_low) := ⟨rfl, rfl, rfl, by decide +kernel, rfl, by decide +kernel, by decide +kernel⟩
theorem cal_meets_low {f : Addr} {fd : FuncData} (F : C8.Def K mg "meets_low" s_meets_low f fd) (b : Binds K fd ["rectangle", "axis", "bound"] []) : C8.Cal P w K mg base 1 "meets_low" (spMLow (K := K)) [] := by
  refine C8.cal0 F b .nil sc_meets_low (fun vs H Q E h => ?_) (fun cdv A outer s H vs Q E hr h => ?_)
  · obtain ⟨a, r, ax, b, rfl, _⟩ := h
    rfl
  · obtain ⟨a, r, ax, b, rfl, hrc, k⟩ := h
    have nd := sc_meets_low.nd
    refine ⟨_, (pss_one (ps_ret (pe_or (pe_cmpR op_isN1 (pe_ix ix_tup (pv 0) (pv 1) (fun _ _ => rfl)) pe_non (nomark _)) (pe_one (pe_cmpR op_le (pe_ix ix_tup (pv 0) (pv 1) (fun _ _ => rfl)) (pv 2) (nomark _)))))), ?_⟩
    repeat walk_at "w"
    refine w_ixT hrc ax_lo ?_
    unfold mLow at k
    cases e : lo r ax with
    | none =>
      repeat walk_at "w"
      rw [e] at k
      exact k
    | some l =>
      repeat walk_at "w"
      refine w_ixT hrc ax_lo ?_
      rw [e]
      repeat walk_at "w"
      rw [e] at k
      exact k
def spMHigh : Sp := fun vs H Q _ => ∃ a r ax b, vs = [.ref a, axV ax, .int b] ∧ SqT K H a (rcL r) ∧ Q (.bl (mHigh r ax b)) H
abbrev s_meets_high : Stmt := topS 28
abbrev N_meets_high : List Str := ["rectangle", "axis", "bound"]
theorem sc_meets_high : FnScope N_meets_high ["rectangle", "axis", "bound"] (C8.fnScope s_meets_high) := ⟨rfl, rfl, rfl, by decide +kernel, rfl, by decide +kernel, by decide +kernel⟩
theorem cal_meets_high {f : Addr} {fd : FuncData} (F : C8.Def K mg "meets_high" s_meets_high f fd) (b : Binds K fd ["rectangle", "axis", "bound"] []) : C8.Cal P w K mg base 1 "meets_high" (spMHigh (K := K)) [] := by
  refine C8.cal0 F b .nil sc_meets_high (fun vs H Q E h => ?_) (fun cdv A outer s H vs Q E hr h => ?_)
  · obtain ⟨a, r, ax, b, rfl, _⟩ := h
    rfl
  · obtain ⟨a, r, ax, b, rfl, hrc, k⟩ := h
    have nd := sc_meets_high.nd
    refine ⟨_, (pss_one (ps_ret (pe_or (pe_cmpR op_isN1 (pe_ix ix_tup (pv 0) (pe_op op_add (pv 1) pe_int) (fun _ _ => rfl)) pe_non (nomark _)) (pe_one (pe_cmpR op_ge (pe_ix ix_tup (pv 0) (pe_op op_add (pv 1) pe_int) (fun _ _ => rfl)) (pv 2) (nomark _)))))), ?_⟩
    repeat walk_at "w"
    refine w_ixT hrc ax_hi ?_
    unfold mHigh at k
    cases e : hi r ax with
    | none =>
      repeat walk_at "w"
      rw [e] at k
      exact k
    | some l =>
      repeat walk_at "w"
      refine w_ixT hrc ax_hi ?_
      rw [e]
      repeat walk_at "w"
      rw [e] at k
      exact k
def Small (p : Pt) : Prop := p.1.natAbs < 2 ^ 120 ∧ p.2.natAbs < 2 ^ 120
theorem PtOk.small {p : Pt} (h : PtOk p) : Small p := by
  have key : ∀ i : Int, cok i = true → i.natAbs < 2 ^ 120 := fun i hi => by
    unfold cok at hi
    rw [Bool.and_eq_true, decide_eq_true_eq, decide_eq_true_eq] at hi
    have h1 : (10 : Int) ^ 30 = 1000000000000000000000000000000 := by decide
    have h2 : (2 : Nat) ^ 120 = 1329227995784915872903807060280344576 := by decide
    rw [h1] at hi
    rw [h2]
    omega
  exact ⟨key _ h.1, key _ h.2⟩
def SmO : Option Int → Prop
  | none => True
  | some i => i.natAbs < 2 ^ 120
def SmallR (r : Rect) : Prop := SmO r.1 ∧ SmO r.2.1 ∧ SmO r.2.2.1 ∧ SmO r.2.2.2
theorem SmallR.lo {r : Rect} (h : SmallR r) (ax : Bool) : SmO (lo r ax) := by cases ax; exact h.1; exact h.2.1
theorem SmallR.hi {r : Rect} (h : SmallR r) (ax : Bool) : SmO (hi r ax) := by cases ax; exact h.2.2.1; exact h.2.2.2
theorem Small.kx {p : Pt} (h : Small p) (ax : Bool) : (kx ax p).natAbs < 2 ^ 120 := by cases ax; exact h.1; exact h.2
theorem small_sub {a b : Int} (ha : a.natAbs < 2 ^ 120) (hb : b.natAbs < 2 ^ 120) : (a - b).natAbs < 2 ^ 1000 := by
  have h1 : (2 : Nat) ^ 121 ≤ 2 ^ 1000 := Nat.pow_le_pow_right (by decide) (by decide)
  have h2 : (2 : Nat) ^ 121 = 2 * 2 ^ 120 := by decide
  have := Int.natAbs_sub_le a b
  omega
theorem w_sq {H : Hp} {Q : VK} {i : Int} (h : i.natAbs < 2 ^ 1000) (q : Q (.int (i * i)) H) : rSq (.int i) (.int 2) H Q := ⟨i, rfl, rfl, h, q⟩
def spGapTo : Sp := fun vs H Q _ => ∃ v q u p, vs = [v, u] ∧ PtV H v q ∧ PtV H u p ∧ Small q ∧ Small p ∧ Q (.int (dst q p)) H
abbrev s_gap_to : Stmt := topS 33
abbrev N_gap_to : List Str := ["point", "other"]
theorem sc_gap_to : FnScope N_gap_to ["point", "other"] (C8.fnScope s_gap_to) := ⟨rfl, rfl, rfl, by decide +kernel, rfl, by decide +kernel, by decide +kernel⟩
theorem cal_gap_to {f : Addr} {fd : FuncData} (F : C8.Def K mg "gap_to" s_gap_to f fd) (b : Binds K fd ["point", "other"] []) : C8.Cal P w K mg base 1 "gap_to" spGapTo [] := by
  refine C8.cal0 F b .nil sc_gap_to (fun vs H Q E h => ?_) (fun cdv A outer s H vs Q E hr h => ?_)
  · obtain ⟨v, q, u, p, rfl, _⟩ := h
    rfl
  · obtain ⟨v, q, u, p, rfl, ⟨a, rfl, hq⟩, ⟨c, rfl, hp⟩, sq, sp, k⟩ := h
    have nd := sc_gap_to.nd
    refine ⟨_, (pss_one (ps_ret (pe_op op_add (pe_op op_sq (pe_op op_sub (pe_ix ix_tup (pv 0) pe_int (fun _ _ => rfl)) (pe_ix ix_tup (pv 1) pe_int (fun _ _ => rfl))) pe_int) (pe_op op_sq (pe_op op_sub (pe_ix ix_tup (pv 0) pe_int (fun _ _ => rfl)) (pe_ix ix_tup (pv 1) pe_int (fun _ _ => rfl))) pe_int)))), ?_⟩
    repeat walk_at "w"
    refine w_ixT (SqT.of hq) (by rfl) ?_
    repeat walk_at "w"
    refine w_ixT (SqT.of hp) (by rfl) ?_
    repeat walk_at "w"
    refine w_sq (small_sub sq.1 sp.1) ?_
    repeat walk_at "w"
    refine w_ixT (SqT.of hq) (by rfl) ?_
    repeat walk_at "w"
    refine w_ixT (SqT.of hp) (by rfl) ?_
    repeat walk_at "w"
    refine w_sq (small_sub sq.2 sp.2) ?_
    repeat walk_at "w"
    exact k
def spGapOf (TT : List (Addr × Str)) : Sp := fun vs H Q _ => ∃ v q a r, vs = [v, .ref a] ∧ PtV H v q ∧ SqT K H a (rcL r) ∧ Small q ∧ SmallR r ∧ ∀ H', Gr TT NoS H H' → Q (.int (gap q r)) H'
def lowG (x : Int) : Option Int → Int
  | none => 0
  | some l => if x < l then (l - x) * (l - x) else 0
def highG (x : Int) : Option Int → Int
  | none => 0
  | some h => if h < x then (x - h) * (x - h) else 0
theorem gapAx_eq (q : Pt) (r : Rect) (ax : Bool) : gapAx q r ax = lowG (kx ax q) (lo r ax) + highG (kx ax q) (hi r ax) := by
  unfold gapAx lowG highG
  cases lo r ax <;> cases hi r ax <;> rfl
abbrev s_gap_of : Stmt := topS 29
abbrev N_gap_of : List Str := ["point", "rectangle", "found", "axis", "low", "high"]
theorem sc_gap_of : FnScope N_gap_of ["point", "rectangle"] (C8.fnScope s_gap_of) := ⟨rfl, rfl, rfl, by decide +kernel, rfl, by decide +kernel, by decide +kernel⟩
theorem cal_gap_of {TT : List (Addr × Str)} {f : Addr} {fd : FuncData} (F : C8.Def K mg "gap_of" s_gap_of f fd) (b : Binds K fd ["point", "rectangle"] []) : C8.Cal P w K mg base 1 "gap_of" (spGapOf (K := K) TT) [] := by
  refine C8.cal0 F b .nil sc_gap_of (fun vs H Q E h => ?_) (fun cdv A outer s H vs Q E hr h => ?_)
  · obtain ⟨v, q, a, r, rfl, _⟩ := h
    rfl
  · obtain ⟨v, q, a, r, rfl, ⟨c, rfl, hq⟩, hr', sq, sr, k⟩ := h
    have nd := sc_gap_of.nd
    refine ⟨_, (pss_cons (ps_set (i := 2) nd rfl (Or.inl rfl) pe_int)
  (pss_cons (ps_for PassesOwn.never rfl (pi_tup (pe_tup (pa_cons pe_int (pa_cons pe_int pa_nil)))) (pg_name (i := 3) nd rfl (Or.inl rfl)) (pss_cons (ps_par (i := 4) (j := 5) rfl nd rfl rfl (by decide) rfl rfl (pa_cons (pe_ix ix_tup (pv 1) (pv 3) (fun _ _ => rfl)) (pa_cons (pe_ix ix_tup (pv 1) (pe_op op_add (pv 3) pe_int) (fun _ _ => rfl)) pa_nil)) (by rfl))
  (pss_cons (ps_if (PW.pt (pw_and (pt_cmpR op_notN1 (pv 4) pe_non (nomark _)) (pw_and1 (pt_cmpR op_lt (pe_ix ix_tup (pv 0) (pv 3) (fun _ _ => rfl)) (pv 4) (nomark _))))) (pss_one (ps_aug (i := 2) nd rfl (Or.inl rfl) (pe_op op_sq (pe_op op_sub (pv 4) (pe_ix ix_tup (pv 0) (pv 3) (fun _ _ => rfl))) pe_int) ip_add)) pss_nil)
  (pss_one (ps_if (PW.pt (pw_and (pt_cmpR op_notN1 (pv 5) pe_non (nomark _)) (pw_and1 (pt_cmpR op_gt (pe_ix ix_tup (pv 0) (pv 3) (fun _ _ => rfl)) (pv 5) (nomark _))))) (pss_one (ps_aug (i := 2) nd rfl (Or.inl rfl) (pe_op op_sq (pe_op op_sub (pe_ix ix_tup (pv 0) (pv 3) (fun _ _ => rfl)) (pv 5)) pe_int) ip_add)) pss_nil)))))
  (pss_one (ps_ret (pv 2))))), ?_⟩
    repeat walk_at "w"
    refine w_axes TT fun e H1 g1 h1 => ⟨fun i σ' H' => (∃ v2 v3 v4, σ' = [some (.ref c), some (.ref a), some (.int (if i = 0 then 0 else if i = 1 then gapAx q r false else gapAx q r false + gapAx q r true)), v2, v3, v4]) ∧ Gr TT NoS H1 H', ⟨⟨_, _, _, rfl⟩, .refl _⟩, fun i σ' H' h => h.2, ?_, ?_⟩
    · rintro ax σ' H' ⟨⟨v2, v3, v4, rfl⟩, g2⟩
      have hpt := (g1.trans g2).tup hq
      have hrc := (g1.trans g2).sqT hr'
      generalize hz : (if axN ax = 0 then (0 : Int) else if axN ax = 1 then gapAx q r false else gapAx q r false + gapAx q r true) = z
      have hz2 : (if axN ax + 1 = 0 then (0 : Int) else if axN ax + 1 = 1 then gapAx q r false else gapAx q r false + gapAx q r true) = z + lowG (kx ax q) (lo r ax) + highG (kx ax q) (hi r ax) := by
        rw [← hz, Int.add_assoc, ← gapAx_eq]
        cases ax with
        | false => exact (Int.zero_add _).symm
        | true => rfl
      repeat walk_at "w"
      refine w_ixT hrc ax_lo ?_
      repeat walk_at "w"
      refine w_ixT hrc ax_hi ?_
      have fin : ∀ z' σ2, z' = z + lowG (kx ax q) (lo r ax) + highG (kx ax q) (hi r ax) → σ2 = [some (.ref c), some (.ref a), some (.int z'), some (axV ax), some (oV (lo r ax)), some (oV (hi r ax))] →
          (∃ v2 v3 v4, σ2 = [some (V.ref c), some (.ref a), some (.int (if axN ax + 1 = 0 then 0 else if axN ax + 1 = 1 then gapAx q r false else gapAx q r false + gapAx q r true)), v2, v3, v4]) ∧ Gr TT NoS H1 H' := fun z' σ2 e1 e2 => ⟨⟨some (axV ax), some (oV (lo r ax)), some (oV (hi r ax)), by rw [e2, hz2, e1]⟩, g2⟩
      have high : ∀ z1, z1 = z + lowG (kx ax q) (lo r ax) → ∀ (σ2 : L2.St), σ2 = [some (.ref c), some (.ref a), some (.int z1), some (axV ax), some (oV (lo r ax)), some (oV (hi r ax))] → ∀ D : Ends, D.nx = (fun σ' H' => (∃ v2 v3 v4, σ' = [some (V.ref c), some (.ref a), some (.int (if axN ax + 1 = 0 then 0 else if axN ax + 1 = 1 then gapAx q r false else gapAx q r false + gapAx q r true)), v2, v3, v4]) ∧ Gr TT NoS H1 H') →
          tIfS (tAnd (tTest (tOp rNotN (tVar 5) (tC .non))) (tTest (tOp (rI0 fun i j => .bl (decide (j < i))) (tOp (rIxT K) (tVar 0) (tVar 3)) (tVar 5)))) (tAug 2 (tOp rSq (tOp (rI0 fun i j => .int (i - j)) (tOp (rIxT K) (tVar 0) (tVar 3)) (tVar 5)) (tC (.int 2))) (ipI fun i j => i + j)) tNext D σ2 H' := by
        intro z1 ez σ2 e2 D hD
        subst e2
        refine w_if (w_gtO (by rfl) (fun Q' q => w_ixV (by rfl) (by rfl) (SqT.of hpt) ax_pt q) (w_bool (fun c2 => ?_) (fun c2 => ?_)))
        · cases e : hi r ax with
          | none => rw [e] at c2; cases c2
          | some u =>
            have su : SmO (hi r ax) := sr.hi ax
            rw [e] at c2 su
            have lt := of_decide_eq_true c2
            refine ⟨_, rfl, ?_⟩
            refine w_op (w_op (w_ixV (by rfl) (by rfl) (SqT.of hpt) ax_pt (w_var (by rfl) (w_I0 (w_c (w_sq (small_sub (sq.kx ax) su) ?_))))))
            refine ⟨_, _, rfl, rfl, ?_⟩
            rw [hD]
            refine fin _ _ ?_ (by rw [e]; rfl)
            rw [e, ez]
            show _ = _ + (if u < kx ax q then _ else _)
            rw [if_pos lt]
        · refine w_next ?_
          rw [hD]
          refine fin _ _ ?_ rfl
          have e0 : highG (kx ax q) (hi r ax) = 0 := by
            unfold highG
            cases e : hi r ax with
            | none => rfl
            | some u =>
              rw [e] at c2
              exact if_neg (of_decide_eq_false c2)
          rw [ez, e0, Int.add_zero]
      refine w_seq (w_if (w_ltO (by rfl) (fun Q' q => w_ixV (by rfl) (by rfl) (SqT.of hpt) ax_pt q) (w_bool (fun c1 => ?_) (fun c1 => ?_))))
      · cases e : lo r ax with
        | none => rw [e] at c1; cases c1
        | some l =>
          have su : SmO (lo r ax) := sr.lo ax
          rw [e] at c1 su
          have lt := of_decide_eq_true c1
          refine ⟨_, rfl, ?_⟩
          refine w_op (w_op (w_var (by rfl) (w_ixV (by rfl) (by rfl) (SqT.of hpt) ax_pt (w_I0 (w_c (w_sq (small_sub su (sq.kx ax)) ?_))))))
          refine ⟨_, _, rfl, rfl, ?_⟩
          refine high _ ?_ _ (by rw [e]; rfl) _ rfl
          rw [e]
          show _ = _ + (if kx ax q < l then _ else _)
          rw [if_pos lt]
      · refine w_next (high _ ?_ _ rfl _ rfl)
        have e0 : lowG (kx ax q) (lo r ax) = 0 := by
          unfold lowG
          cases e : lo r ax with
          | none => rfl
          | some u =>
            rw [e] at c1
            exact if_neg (of_decide_eq_false c1)
        rw [e0, Int.add_zero]
    · rintro σ' H' ⟨⟨v2, v3, v4, rfl⟩, g2⟩
      repeat walk_at "w"
      exact k _ (g1.trans g2)
def cutIx (ax sd : Bool) : Nat := (if ax then 1 else 0) + (if sd then 0 else 2)
abbrev sdV (sd : Bool) : V := .int (if sd then 1 else 0)
def spCut (TT : List (Addr × Str)) : Sp := fun vs H Q _ => ∃ a xs ax b sd, vs = [.ref a, axV ax, b, sdV sd] ∧ SqT K H a xs ∧ xs.length = 4 ∧ ∀ p H', Gr TT NoS H H' → H' p = some (.tup (xs.set (cutIx ax sd) b)) → Q (.ref p) H'
abbrev s_cut : Stmt := topS 30
abbrev N_cut : List Str := ["rectangle", "axis", "bound", "is_high", "found"]
theorem sc_cut : FnScope N_cut ["rectangle", "axis", "bound", "is_high"] (C8.fnScope s_cut) := ⟨rfl, rfl, rfl, by decide +kernel, rfl, by decide +kernel, by decide +kernel⟩
theorem cal_cut {TT : List (Addr × Str)} {f : Addr} {fd : FuncData} (F : C8.Def K mg "cut" s_cut f fd) (b : Binds K fd ["rectangle", "axis", "bound", "is_high"] []) (T : Txt K mg aE C) : C8.Cal P w K mg base 1 "cut" (spCut (K := K) TT) [] := by
  refine C8.cal0 F b .nil sc_cut (fun vs H Q E h => ?_) (fun cdv A outer s H vs Q E hr h => ?_)
  · obtain ⟨a, xs, ax, b, sd, rfl, _⟩ := h
    rfl
  · obtain ⟨a, xs, ax, b, sd, rfl, hx, hl, k⟩ := h
    have nd := sc_cut.nd
    refine ⟨_, (pss_cons (ps_set (i := 4) nd rfl (Or.inl rfl) (pe_callTy call_list_of (by rfl) T.nlist (by decide +kernel) (pa_cons (pv 0) pa_nil)))
  (pss_cons (ps_asg (pv 2) (pg_sub (pv 4) (pe_ifExp (pt_truth (pv 3) (by intro _; rfl)) (pv 1) (pe_op op_add (pv 1) pe_int)) set_list))
  (pss_one (ps_ret (pe_callTy call_tuple_of (by rfl) T.ntuple (by decide +kernel) (pa_cons (pv 4) pa_nil)))))), ?_⟩
    repeat walk_at "w"
    refine ⟨a, xs, rfl, .inr hx, fun l hl' => ?_⟩
    repeat walk_at "w"
    have hix : ixN xs.length (if sd then (if ax then (1 : Int) else 0) else (if ax then 1 else 0) + 2) = some (cutIx ax sd) := by
      rw [hl]
      cases ax <;> cases sd <;> rfl
    refine ⟨_, rfl, _, rfl, _, rfl, ?_⟩
    have fin : ∀ H2 : Hp, H2 = upd (upd H l (.lst xs)) l (.lst (xs.set (cutIx ax sd) b)) → ∀ D : Ends, D.rt = Q → tRet (tCB (fun xs H Q => ∃ p ys, xs = [.ref p] ∧ ((SqL K H p ys ∧ ∀ l, H l = none → Q (.ref l) (upd H l (.tup ys))) ∨ (SqT K H p ys ∧ Q (.ref p) H))) (tCons (tVar 4) tNil)) D ((L2.start N_cut [V.ref a, axV ax, b, sdV sd]).set 4 (some (V.ref l))) H2 := by
      intro H2 e2 D hD
      subst e2
      repeat walk_at "w"
      refine ⟨l, _, rfl, .inl ⟨SqL.of upd_same, fun q hq => ?_⟩⟩
      have g1 : Gr TT NoS H (upd (upd H l (.lst xs)) l (.lst (xs.set (cutIx ax sd) b))) := Gr.mut' (.new hl') hl' upd_same plain_lst
      rw [hD]
      exact k q _ (g1.trans (.new hq)) upd_same
    cases sd with
    | true =>
      refine ⟨true, rfl, ?_⟩
      repeat walk_at "w"
      refine ⟨l, xs, _, _, rfl, rfl, upd_same, hix, ?_⟩
      exact fin _ rfl _ rfl
    | false =>
      refine ⟨false, rfl, ?_⟩
      repeat walk_at "w"
      refine ⟨l, xs, _, _, rfl, rfl, upd_same, hix, ?_⟩
      exact fin _ rfl _ rfl
end
end Wd
end
section
/-! Operators on points. -/
namespace Wd
open PySem PySem.Spec PyProof.Rows L2 LamX
section
variable {X : Cx}
/-- pairs of ints against each other -/
def rP (g : Pt → Pt → Bool) : R2 := fun x y H Q => ∃ p q, PtV H x p ∧ PtV H y q ∧ Q (.bl (g p q)) H
theorem lex_pair {e r : Nat → Bool} {z : Bool} : Ob.lexAt e r z 0 2 = if e 0 = true then (if e 1 = true then z else r 1) else r 0 := by
  rw [Ob.lexAt_succ, Ob.lexAt_succ, Ob.lexAt_zero]
theorem lex_le (p q : Pt) : (if decide (p.1 = q.1) = true then (if decide (p.2 = q.2) = true then true else decide (p.2 ≤ q.2)) else decide (p.1 ≤ q.1)) = le false p q := by
  unfold le kx ky
  simp only [Bool.false_eq_true, if_false]
  by_cases h1 : p.1 = q.1
  · rw [if_pos (decide_eq_true h1)]
    by_cases h2 : p.2 = q.2
    · rw [if_pos (decide_eq_true h2)]
      exact (decide_eq_true (by omega)).symm
    · rw [if_neg (by rw [decide_eq_false h2]; decide)]
      exact decide_eq_decide.mpr (by omega)
  · rw [if_neg (by rw [decide_eq_false h1]; decide)]
    exact decide_eq_decide.mpr (by omega)
theorem pair_at {pins : List (Addr × Obj)} {σ : L2.St} {H : Hp} {s : Shared} {a : Addr} {p : Pt} (I : Inv X pins σ H s) (h : H a = some (.tup [.int p.1, .int p.2])) : ∃ t1 t2, s.heap.IsTuple a #[.int p.1 t1, .int p.2 t2] := by
  obtain ⟨its, r, pl, _⟩ := I.tuple (SqT.of h)
  obtain ⟨u1, u2, rfl, r1, r2⟩ := vals2 r
  obtain ⟨t1, rfl⟩ := r1
  obtain ⟨t2, rfl⟩ := r2
  exact ⟨t1, t2, pl⟩
theorem op_leP (hu : X.A.units < cLine) : OpR X (compareOp .LtE) (rP fun p q => le false p q) := by
  intro pins s σ H x y v u Q I rx ry h
  obtain ⟨p, q, ⟨a, rfl, ha⟩, ⟨b, rfl, hb⟩, k⟩ := h
  refine op_leT hu pins s σ H _ _ v u Q I rx ry ⟨a, b, [p.1, p.2], [q.1, q.2], rfl, rfl, SqT.of ha, SqT.of hb, ?_⟩
  show Q (.bl (Ob.lexAt _ _ _ 0 2)) H
  rw [lex_pair]
  have e := lex_le p q
  simp only [List.getD_cons_zero, List.getD_cons_succ] at e ⊢
  rw [show decide ([p.1, p.2].length ≤ [q.1, q.2].length) = true from rfl, e]
  exact k
theorem op_geP (hu : X.A.units < cLine) : OpR X (compareOp .GtE) (rP fun p q => le false q p) := by
  intro pins s σ H x y v u Q I rx ry h
  obtain ⟨p, q, ⟨a, rfl, ha⟩, ⟨b, rfl, hb⟩, k⟩ := h
  cases rx
  cases ry
  obtain ⟨t1, t2, p1⟩ := pair_at I ha
  obtain ⟨t3, t4, p2⟩ := pair_at I hb
  have at2 : ∀ {i j : Int} {t t' : Tok}, SeqAt.EqAt X.A.in1 s (.int i t) (.int j t') (decide (i = j)) := fun {i j t t'} => by
    have z : (i == j) = decide (i = j) := by
      by_cases q : i = j
      · rw [decide_eq_true q]; exact beq_iff_eq.mpr q
      · rw [decide_eq_false q]; exact beq_eq_false_iff_ne.mpr q
    rw [← z]
    exact SeqAt.EqAt.int_int _ _ _ _
  have R := Ob.RcOp.tuples_ge (A := X.A) (s := s) (e := fun j => if j = 0 then decide (p.1 = q.1) else decide (p.2 = q.2)) (r := fun j => if j = 0 then decide (q.1 ≤ p.1) else decide (q.2 ≤ p.2)) p1 p2 hu (fun j h1 h2 => ?_) (fun j h1 h2 _ => ?_)
  · have e : Ob.lexAt (fun j => if j = 0 then decide (p.1 = q.1) else decide (p.2 = q.2)) (fun j => if j = 0 then decide (q.1 ≤ p.1) else decide (q.2 ≤ p.2)) (decide (#[Value.int p.1 t1, Value.int p.2 t2].size ≥ #[Value.int q.1 t3, Value.int q.2 t4].size)) 0 (min #[Value.int p.1 t1, Value.int p.2 t2].size #[Value.int q.1 t3, Value.int q.2 t4].size) = le false q p := by
      show Ob.lexAt _ _ _ 0 2 = _
      rw [lex_pair, ← lex_le q p]
      simp only [eq_comm (a := q.1), eq_comm (a := q.2)]
      rfl
    rw [e] at R
    exact R X.prog X.w X.xe (EP X pins σ Q) ⟨.bl _, H, I, rfl, k⟩
  · match j, h1, h2 with
    | 0, _, _ => exact at2
    | 1, _, _ => exact at2
    | j + 2, h1, _ =>
      simp at h1
      omega
  · match j, h1, h2 with
    | 0, _, _ => exact Ob.RcOp.ge_int _ _ _ _
    | 1, _, _ => exact Ob.RcOp.ge_int _ _ _ _
    | j + 2, h1, _ =>
      simp at h1
      omega
end
end Wd
end
section
/-! Points and trees as data: equal or not. -/
namespace Wd
open PySem PySem.Spec PyProof.Rows L2 LamX
def ptD (p : Pt) : PyData := .tuple [.int p.1, .int p.2]
def trD : Tree → PyData
  | .nil => .none
  | .node p l r => .tuple [ptD p, trD l, trD r]
theorem lay_pt (p : Pt) : (ptD p).canLay0 = true := rfl
theorem lay_tr : ∀ t : Tree, (trD t).canLay0 = true
  | .nil => rfl
  | .node p l r => by
    show ((ptD p).canLay0 && ((trD l).canLay0 && ((trD r).canLay0 && true))) = true
    rw [lay_tr l, lay_tr r]
    rfl
theorem depth_tr : ∀ t : Tree, (trD t).depth ≤ ht t + 1
  | .nil => Nat.zero_le _
  | .node p l r => by
    have h1 := depth_tr l
    have h2 := depth_tr r
    show max 1 (max (trD l).depth (max (trD r).depth 0)) + 1 ≤ max (ht l) (ht r) + 1 + 1
    omega
theorem shaped_pt (p : Pt) : SeqAt.shaped (ptD p) = true := rfl
theorem shaped_tr {t : Tree} (h : ht t ≤ 50) : SeqAt.shaped (trD t) = true := by
  have := depth_tr t
  unfold SeqAt.shaped
  rw [lay_tr, decide_eq_true (by omega)]
  rfl
theorem layAll {α : Type} (f : α → PyData) : ∀ xs : List α, (∀ x ∈ xs, (f x).canLay0 = true) → PyData.canLayAll0 (xs.map f) = true
  | [], _ => rfl
  | x :: xs, h => by
    show ((f x).canLay0 && PyData.canLayAll0 (xs.map f)) = true
    rw [h x (List.mem_cons_self ..), layAll f xs fun y hy => h y (List.mem_cons_of_mem _ hy)]
    rfl
theorem depthAll_le {α : Type} (f : α → PyData) {n : Nat} : ∀ xs : List α, (∀ x ∈ xs, (f x).depth ≤ n) → PyData.depthAll (xs.map f) ≤ n
  | [], _ => Nat.zero_le _
  | x :: xs, h => by
    have h1 := h x (List.mem_cons_self ..)
    have h2 := depthAll_le f xs fun y hy => h y (List.mem_cons_of_mem _ hy)
    show max (f x).depth (PyData.depthAll (xs.map f)) ≤ n
    omega
theorem shaped_list {α : Type} (f : α → PyData) {n : Nat} (xs : List α) (h : ∀ x ∈ xs, (f x).canLay0 = true) (hd : ∀ x ∈ xs, (f x).depth ≤ n) (hn : n ≤ 60) : SeqAt.shaped (.list (xs.map f)) = true := by
  have h1 := depthAll_le f xs hd
  unfold SeqAt.shaped
  rw [show (PyData.list (xs.map f)).canLay0 = PyData.canLayAll0 (xs.map f) from rfl, layAll f xs h, decide_eq_true (show (PyData.list (xs.map f)).depth ≤ 64 from by show PyData.depthAll (xs.map f) + 1 ≤ 64; omega)]
  rfl
theorem shaped_pts (ps : List Pt) : SeqAt.shaped (.list (ps.map ptD)) = true := shaped_list ptD (n := 1) ps (fun _ _ => rfl) (fun _ _ => Nat.le_refl _) (by decide)
theorem shaped_trs (ts : List Tree) (h : ∀ t ∈ ts, ht t ≤ 50) : SeqAt.shaped (.list (ts.map trD)) = true := shaped_list trD (n := 51) ts (fun _ _ => lay_tr _) (fun t ht => by have := depth_tr t; have := h t ht; omega) (by decide)
theorem eqv_same {d : PyData} (h : SeqAt.shaped d = true) : PyData.eqv d d = true := SeqAt.eqv_refl d (SeqAt.canLay_of_shaped h)
theorem eqv_pt (p q : Pt) : PyData.eqv (ptD p) (ptD q) = decide (p = q) := by
  show ((p.1 == q.1) && ((p.2 == q.2) && true)) = decide (p = q)
  rw [Bool.and_true]
  by_cases h : p = q
  · rw [h, decide_eq_true rfl]
    simp
  · rw [decide_eq_false h]
    by_cases h1 : p.1 = q.1
    · have h2 : ¬ p.2 = q.2 := fun z => h (Prod.ext h1 z)
      rw [beq_eq_false_iff_ne.mpr h2, Bool.and_false]
    · rw [beq_eq_false_iff_ne.mpr h1, Bool.false_and]
theorem any_pt (p : Pt) : ∀ ps : List Pt, ((ps.map ptD).any fun z => PyData.eqv z (ptD p)) = decide (p ∈ ps)
  | [] => by simp
  | q :: ps => by
    rw [List.map_cons, List.any_cons, any_pt p ps, eqv_pt]
    by_cases h : q = p
    · rw [decide_eq_true h, Bool.true_or]
      exact (decide_eq_true (by rw [h]; exact List.mem_cons_self ..)).symm
    · rw [decide_eq_false h, Bool.false_or]
      refine decide_eq_decide.mpr ?_
      rw [List.mem_cons]
      exact ⟨.inr, fun z => z.elim (fun e => absurd e.symm h) id⟩
section
variable {H : Hp} {K : PySem.W.Frag}
theorem PtV.dp {v : V} {p : Pt} (h : PtV H v p) : Dp K H v (ptD p) := by
  obtain ⟨a, rfl, h⟩ := h
  exact .tup (SqT.of h) (.cons (.int _) (.cons (.int _) .nil))
theorem TrV.dp : ∀ {t : Tree} {v : V}, TrV H v t → Dp K H v (trD t)
  | .nil, v, h => by
    obtain rfl : v = .non := h
    exact .non
  | .node p l r, v, ⟨a, pv, lv, rv, e, h, h1, h2, h3⟩ => by
    subst e
    exact .tup (SqT.of h) (.cons h1.dp (.cons (TrV.dp h2) (.cons (TrV.dp h3) .nil)))
theorem Al.dp {α : Type} {R : V → α → Prop} {f : α → PyData} (hf : ∀ v x, R v x → Dp K H v (f x)) : ∀ {xs : List V} {ys : List α}, Al R xs ys → DpAll K H xs (ys.map f)
  | _, _, .nil => .nil
  | _, _, .cons h t => .cons (hf _ _ h) (Al.dp hf t)
theorem PtsV.dp {a : Addr} {xs : List V} {ps : List Pt} (h : PtsV H xs ps) (ha : SqL K H a xs) : Dp K H (.ref a) (.list (ps.map ptD)) := .lst ha (Al.dp (fun _ _ z => z.dp) h)
theorem TrsV.dp {a : Addr} {xs : List V} {ts : List Tree} (h : TrsV H xs ts) (ha : SqL K H a xs) : Dp K H (.ref a) (.list (ts.map trD)) := .lst ha (Al.dp (fun _ _ z => z.dp) h)
end
theorem room64 {k : Nat} {A : Around} (hr : Room k A) : A.units + 64 < cLine := by
  have := hr.un
  omega
theorem room65 {k : Nat} {A : Around} (hr : Room k A) : A.units + 65 < cLine := by
  have := hr.un
  omega
end Wd
end
section
/-! Comprehensions of our own: elements that know where their block began; dicts whose keys are points. -/
namespace Wd
open PySem PySem.Spec PyProof.Rows L2 LamX
/-- what a turn asks, behind the tests: rest -/
abbrev TurnW (J : It) (g : TG) (tt : L2.TT) (rest : L2.St → Hp → (Hp → Prop) → Prop) (vs : List Nat) (σ : L2.St) (QD : Hp → Prop) (W : Nat → Nat → Hp → Prop) : Prop := ∀ i m H, W i m H →
  (J.stop i H ∧ QD H) ∨ (J.go i H ∧ ∃ Nx : Hp → Prop, (∀ H', Nx H' → ∃ m', m' < m ∧ W (i + 1) m' H') ∧ ∀ x H', J.yld i H x H' → g x (wipe σ vs) H' fun σ2 H2 => wipe σ2 vs = wipe σ vs ∧ tt σ2 H2 fun b H3 => if b = true then rest σ2 H3 Nx else Nx H3)
section
variable {X : Cx}
theorem blk_turn {s3 : Shared} {H3 : Hp} {scope : Scope} {ce : Env} {fp : List Addr} {σ : L2.St} {vs : List Nat} {tg : Expr} {ifs : List Expr} {J : It} {it : Addr} {tn : Nat → Heap → Prop} {g : TG} {tt : L2.TT} {rest : L2.St → Hp → (Hp → Prop) → Prop} {QD : Hp → Prop} {W : Nat → Nat → Hp → Prop}
    {R : Result → Shared → Prop} {Ex : Value → Shared → Prop} {tail : (Shared → Prop) → Shared → Prop} (hc : X.calm = true) (T : Turn X.prog X.w X.K tg J fp it tn) (pg : PG (X.blk s3 H3 scope ce fp) tg g) (pt : PTs (X.blk s3 H3 scope ce fp) ifs tt) (turn : TurnW J g tt rest vs σ QD W)
    (tailOk : ∀ pins σ8 H9 s9 (Nx : Hp → Prop) (G : Shared → Prop), Inv (X.blk s3 H3 scope ce fp) pins σ8 H9 s9 → rest σ8 H9 Nx → (∀ s' H', Inv (X.blk s3 H3 scope ce fp) pins σ8 H' s' → Nx H' → G s') → tail G s9)
    (stopOk : ∀ s6 H5, Inv (X.blk s3 H3 scope ce fp) [] (wipe σ vs) H5 s6 → QD H5 → R (.ok .next) s6)
    (n : Nat) (s5 : Shared) (st : ∃ i H', Inv (X.blk s3 H3 scope ce fp) [] (wipe σ vs) H' s5 ∧ tn i s5.heap ∧ (∀ b ∈ fp, H' b = none) ∧ W i n H') :
    wpAny (model X.prog X.w) X.A (pyNext (.ref it)) (fun r s₁ => match r with
      | none => R (.ok .next) s₁
      | some v => wpAny (model X.prog X.w) X.A (letOwnedTupleGo tg (.ref it) v) (fun _ s₁' => wpAny (model X.prog X.w) X.A (assign tg ce v) (fun _ s₂ =>
          wpAny (model X.prog X.w) X.A (forIn ifs true fun c r => if r = true then do let ok ← isTrue c ce (eval c ce); pure (ForInStep.yield ok) else pure (ForInStep.yield r)) (fun ok s₃ =>
            if ok = true then tail (fun s' => ∃ m, m < n ∧ ∃ i H', Inv (X.blk s3 H3 scope ce fp) [] (wipe σ vs) H' s' ∧ tn i s'.heap ∧ (∀ b ∈ fp, H' b = none) ∧ W i m H') s₃
            else ∃ m, m < n ∧ ∃ i H', Inv (X.blk s3 H3 scope ce fp) [] (wipe σ vs) H' s₃ ∧ tn i s₃.heap ∧ (∀ b ∈ fp, H' b = none) ∧ W i m H') Ex s₂) Ex s₁') Ex s₁) Ex s5 := by
  obtain ⟨i, H5, I5, t5, n5, w5⟩ := st
  have mine : ∀ {σ' : L2.St} {H' : Hp} {s' : Shared}, Inv (X.blk s3 H3 scope ce fp) [] σ' H' s' → (∀ b ∈ fp, H' b = none) → ∀ b ∈ fp, FpOk (X.blk s3 H3 scope ce fp) [] H' b := fun I' hn b hb =>
    ⟨hn b hb, (I'.ok.exf b hb).1, I'.ok.exfs b hb, .inl hb, fun x c e => (I'.ok.exf b hb).2 x c e, fun p hp => by cases (show p ∈ ([] : List (Addr × Obj)) from hp)⟩
  rcases turn i n H5 w5 with ⟨stop, qd⟩ | ⟨go, Nx, next, step⟩
  · refine thnF (T.done (X.blk s3 H3 scope ce fp) rfl rfl rfl hc i [] s5 _ H5 (fun _ _ => False) I5 (mine I5 n5) t5 stop) ?_
    rintro _ s6 ⟨rfl, I6⟩
    exact stopOk s6 H5 I6 qd
  · refine thnF (T.item (X.blk s3 H3 scope ce fp) rfl rfl rfl hc i [] s5 _ H5 (fun _ _ => False) I5 (mine I5 n5) t5 go) ?_
    rintro _ s6 ⟨u, rfl, h6⟩
    refine thnF h6 ?_
    rintro _ s7 ⟨x, H7, I7, r7, y7, t7, n7⟩
    have I7p := I7.pinned (mine I7 n7) (T.obj _ _ t7)
    refine thnF (pg.run _ s7 _ H7 x u _ I7p r7 (step x H7 y7)) ?_
    rintro _ s8 ⟨σ8, H8, I8, ew, q8⟩
    refine thnF (pt.run _ s8 σ8 H8 _ I8 q8) ?_
    rintro b s9 ⟨H9, I9, q9⟩
    have back : ∀ s' H', Inv (X.blk s3 H3 scope ce fp) ([] ++ pinsAt fp s7.heap) σ8 H' s' → Nx H' → ∃ m, m < n ∧ ∃ i H', Inv (X.blk s3 H3 scope ce fp) [] (wipe σ vs) H' s' ∧ tn i s'.heap ∧ (∀ b ∈ fp, H' b = none) ∧ W i m H' := by
      intro s' H' I' nx
      obtain ⟨m', lt, w'⟩ := next H' nx
      have kept : ∀ b ∈ fp, ∀ o, s7.heap.get? b = some o → s'.heap.get? b = some o ∧ H' b = none := by
        intro b hb o e
        have z := I'.pin (b, o) (List.mem_append_right _ (List.mem_append_right _ (mem_pinsAt hb e)))
        exact ⟨z.1, z.2.1⟩
      refine ⟨m', lt, i + 1, H', ?_, T.keep _ _ _ t7 fun b hb o e => (kept b hb o e).1, ?_, w'⟩
      · refine (I'.unpinned (pins := [])).weak ?_ ?_
        · rw [← ew, wipe_length]
        · intro j v e
          rw [← ew] at e
          exact (wipe_some e).1
      · intro b hb
        obtain ⟨o, e, _⟩ := T.obj _ _ t7 b hb
        exact (kept b hb o e).2
    cases b with
    | false =>
      rw [if_neg Bool.false_ne_true] at q9 ⊢
      exact back _ _ I9 q9
    | true =>
      rw [if_pos rfl] at q9 ⊢
      exact tailOk _ σ8 H9 s9 Nx _ I9 q9 back
/-- the block of a comprehension, from the new container on -/
theorem blk_begin {pins : List (Addr × Obj)} {s2 : Shared} {σ : L2.St} {H2 H3 : Hp} {s3 : Shared} {scope : Scope} {own : List (Str × Nat)} {tg : Expr} {J : It} {it : Addr} {fp : List Addr} {tn : Nat → Heap → Prop} (hN : X.N.Nodup) (ok : BlkOk X.N X.env.scope scope own) (T : Turn X.prog X.w X.K tg J fp it tn) (I3 : Inv X pins σ H3 s3)
    (f2 : ∀ b ∈ fp, FpOk X pins H2 b) (st2 : tn 0 s2.heap) (kp : ∀ b o, s2.heap.get? b = some o → s3.heap.get? b = some o) (nn : ∀ b, b < s2.heap.objs.size → H2 b = none → H3 b = none) (le : s2.heap.objs.size ≤ s3.heap.objs.size) :
    Inv (X.blk s3 H3 scope (compEnvC scope (cellsFrom (s3.heap.objs.size + 1) scope.names (cloFrom X.env.cells scope.names [])) s3.heap.objs.size X.env) fp) [] (wipe σ (own.map (·.2))) H3 { s3 with heap := pushCells (s3.heap.push { cls := .type "dict", data := .dict #[] }) scope.names } ∧
      tn 0 (pushCells (s3.heap.push { cls := .type "dict", data := .dict #[] }) scope.names) ∧ (∀ b ∈ fp, H3 b = none) ∧ ∀ b ∈ fp, FpOk X pins H3 b := by
  have lt : ∀ b ∈ fp, b < s2.heap.objs.size := fun b hb => by
    obtain ⟨o, e, _⟩ := T.obj _ _ st2 b hb
    exact Heap.lt_size e
  have f3 : ∀ b ∈ fp, FpOk X pins H3 b ∧ b < s3.heap.objs.size := fun b hb => ⟨⟨nn b (lt b hb) (f2 b hb).1, (f2 b hb).2⟩, Nat.lt_of_lt_of_le (lt b hb) le⟩
  refine ⟨block_start I3 ok hN f3, T.keep _ _ _ st2 fun b _ o e => pushCells_keeps _ _ _ _ (Heap.get?_push_of_some _ (kp b o e)), fun b hb => (f3 b hb).1.1, fun b hb => (f3 b hb).1⟩
/-- back from the block -/
theorem blk_back {pins : List (Addr × Obj)} {σ : L2.St} {H3 H5 : Hp} {s3 s6 : Shared} {scope : Scope} {fp : List Addr} {cl : List (Str × Addr)} {σ' : L2.St} (I3 : Inv X pins σ H3 s3) (f3 : ∀ b ∈ fp, FpOk X pins H3 b) (I6 : Inv (X.blk s3 H3 scope (compEnvC scope cl s3.heap.objs.size X.env) fp) [] σ' H5 s6) :
    Inv X pins σ H5 s6 ∧ (∃ m, s6.heap.Ns s3.heap.objs.size m) ∧ FpOk X pins H5 s3.heap.objs.size := by
  refine ⟨I3.call' (ch := fp) I6.os I6.base I6.hok I6.bare fun b hb => ⟨(f3 b hb).2.2.2.1, (f3 b hb).2.1, (f3 b hb).2.2.2.2.1, (f3 b hb).2.2.2.2.2⟩, ?_, I3.fpOk (Nat.le_refl _) I6.free⟩
  obtain ⟨m, hn, _⟩ := I6.loc
  exact ⟨m, hn⟩
/-- [elt for ..], the element's rule told of the state that its block began at -/
theorem lcS_core {pins : List (Addr × Obj)} {s : Shared} {σ : L2.St} {H : Hp} {Q : VK} {elt tg iter : Expr} {ifs : List Expr} {scope : Scope} {own : List (Str × Nat)} {pos pos' : Pos} {wi : TI} {g : TG} {tt : L2.TT} {te : L2.St → TE} {use : Option (Value → Sem Unit)} {Qf : Value → Shared → Prop} (hc : X.calm = true) (hN : X.N.Nodup) (I : Inv X pins σ H s) (hi : PI X tg iter wi)
    (ok : BlkOk X.N X.env.scope scope own) (hg : ∀ (s : Shared) (H : Hp) (C : Addr) (cl : List (Str × Addr)) (fp : List Addr), PG (X.blk s H scope (compEnvC scope cl C X.env) fp) tg g)
    (ht : ∀ (s : Shared) (H : Hp) (C : Addr) (cl : List (Str × Addr)) (fp : List Addr), PTs (X.blk s H scope (compEnvC scope cl C X.env) fp) ifs tt)
    (he : ∀ (pn : List (Addr × Obj)) (σ0 : L2.St) (s : Shared) (H : Hp) (C : Addr) (cl : List (Str × Addr)) (fp : List Addr), Inv X pn σ0 H s → PE (X.blk s H scope (compEnvC scope cl C X.env) fp) elt (te σ0)) (hs : ∀ x, foldedSetIterable iter X.env x = pure x)
    (h : tLc wi g tt (te σ) (own.map (·.2)) σ H Q)
    (fin : ∀ D C s' m H', Inv X pins σ H' s' → Q (.ref D) H' → s'.heap.Ns C m → FpOk X pins H' C → compPost (model X.prog X.w) X.A X.xe use Qf (.ref D) C (.ok .next) s') :
    wpAny (model X.prog X.w) X.A (comprehension (.ListComp elt [⟨tg, iter, ifs, 0⟩] scope pos) scope X.env pos' (newList []) false (eval iter X.env) use) Qf X.xe s := by
  have clo := closure_ok (scope := scope) (env := X.env) fun y hy e => (ok.free y hy e).elim (fun z => I.ok.has _ (.inl z)) fun z => I.ok.has _ (.inr z)
  refine wpAny_comprehension_free (use := use) rfl hs clo ok.kind (fun y hy e => (ok.uniq y hy).trans (by rw [e])) (thn (hi.run pins s σ H _ I h) fun xv s1 hx => thn hx ?_)
  rintro itv s2 ⟨it, fp, tn, J, H2, rfl, I2, T, st2, f2, q⟩
  refine wpAny_newObj_type (newEnv_comp ?_) (by show 0 ≤ sizeLine; decide)
  obtain ⟨W, ⟨m0, w0⟩, turn⟩ := q s2.heap.objs.size (I2.hok.fresh (Nat.le_refl _))
  have I3 : Inv X pins σ (upd H2 s2.heap.objs.size (.lst [])) { s2 with heap := s2.heap.push { cls := .type "list", data := .seq ([] : List Value).toArray }, toks := s2.toks } :=
    I2.laid (fun b o e => Heap.get?_push_of_some _ e) (Nat.le_refl _) ⟨Nat.zero_le _, [], 0, .nil, Heap.get?_push_size _ rfl⟩
  obtain ⟨I4, st4, n4, f4⟩ := blk_begin hN ok T I3 f2 st2 (fun b o e => Heap.get?_push_of_some _ e) (fun b lt e => by rw [upd_ne (Nat.ne_of_lt lt)]; exact e) (by rw [Heap.size_push]; exact Nat.le_succ _)
  have run := he pins σ _ _ s2.heap.objs.size.succ (cellsFrom (s2.heap.objs.size.succ + 1) scope.names (cloFrom X.env.cells scope.names [])) fp I3
  have pg := hg { s2 with heap := s2.heap.push { cls := .type "list", data := .seq ([] : List Value).toArray }, toks := s2.toks } (upd H2 s2.heap.objs.size (.lst [])) s2.heap.objs.size.succ (cellsFrom (s2.heap.objs.size.succ + 1) scope.names (cloFrom X.env.cells scope.names [])) fp
  have pt := ht { s2 with heap := s2.heap.push { cls := .type "list", data := .seq ([] : List Value).toArray }, toks := s2.toks } (upd H2 s2.heap.objs.size (.lst [])) s2.heap.objs.size.succ (cellsFrom (s2.heap.objs.size.succ + 1) scope.names (cloFrom X.env.cells scope.names [])) fp
  have back := fun {H5 : Hp} {s6 : Shared} {σ' : L2.St} (I6 : Inv (X.blk _ _ scope (compEnvC scope (cellsFrom ((s2.heap.push { cls := .type "list", data := .seq ([] : List Value).toArray }).objs.size + 1) scope.names (cloFrom X.env.cells scope.names [])) _ X.env) fp) [] σ' H5 s6) => blk_back I3 f4 I6
  have esz : (s2.heap.push { cls := .type "list", data := .seq ([] : List Value).toArray }).objs.size = s2.heap.objs.size.succ := Heap.size_push ..
  show codeAny _ _ (.compStart (.ListComp elt [⟨tg, iter, ifs, 0⟩] scope pos) 0 (.ref it) (.ref s2.heap.objs.size) (compEnvC scope (cellsFrom ((s2.heap.push { cls := .type "list", data := .seq ([] : List Value).toArray }).objs.size + 1) scope.names (cloFrom X.env.cells scope.names [])) (s2.heap.push { cls := .type "list", data := .seq ([] : List Value).toArray }).objs.size X.env)) (compPost (model X.prog X.w) X.A X.xe use Qf (.ref s2.heap.objs.size) (s2.heap.push { cls := .type "list", data := .seq ([] : List Value).toArray }).objs.size) { s2 with heap := pushCells ((s2.heap.push { cls := .type "list", data := .seq ([] : List Value).toArray }).push { cls := .type "dict", data := .dict #[] }) scope.names }
  simp only [esz] at I4 back ⊢
  generalize compEnvC scope (cellsFrom (s2.heap.objs.size.succ + 1) scope.names (cloFrom X.env.cells scope.names [])) s2.heap.objs.size.succ X.env = ce at I4 run pg pt back ⊢
  have loop : codeAny (model X.prog X.w) X.A (.compLoop (.ListComp elt [⟨tg, iter, ifs, 0⟩] scope pos) 0 (.ref it) (.ref s2.heap.objs.size) ce) (compPost (model X.prog X.w) X.A X.xe use Qf (.ref s2.heap.objs.size) s2.heap.objs.size.succ) { s2 with heap := pushCells ((s2.heap.push { cls := .type "list", data := .seq ([] : List Value).toArray }).push { cls := .type "dict", data := .dict #[] }) scope.names } := by
    refine compLoop_any _ (fun n s5 st => blk_turn hc T pg pt turn (tail := fun G s' => wpAny (model X.prog X.w) X.A (eval elt ce) (fun x s4 => wpAny (model X.prog X.w) X.A (call (.builtin "list.append") [.ref s2.heap.objs.size, x]) (fun _ s5 => G s5) _ s4) _ s') ?_ ?_ n s5 st) m0 ⟨0, _, I4, st4, n4, w0⟩
    · intro pn σ8 H9 s9 Nx G I9 q9 go
      refine thnF (run.run pn s9 σ8 H9 _ I9 q9) ?_
      rintro z s10 ⟨y, H10, I10, r10, acc, hD, hz, nx⟩
      exact app_ok (X := X.blk _ _ scope ce fp) I10 hD hz r10 fun s11 I11 => go s11 _ I11 nx
    · intro s6 H5 I6 qd
      obtain ⟨I7, ⟨m, hn⟩, hf⟩ := back I6
      exact fin _ _ s6 m H5 I7 qd hn hf
  exact codeAny_compStart_list loop (T.self X.A 0 _ _ _ st4 loop)
/-- d[t] = v by a comprehension, t a tuple -/
theorem dT_set {X : Cx} {pins : List (Addr × Obj)} {σ : L2.St} {H : Hp} {s : Shared} {E : Value → Shared → Prop} {D b : Addr} {kvs : List (List Key × V)} {k : List Key} {v : V} {u r : Value} {Q : Unit → Shared → Prop} (hu : X.A.units + 1 < cLine) (I : Inv X pins σ H s) (hD : H D = some (.dT kvs)) (hb : H b = some (.tup (k.map kV))) (hz : kvs.length < sizeLine)
    (ry : L2.RelV (.ref b) u) (rv : L2.RelV v r) (h : ∀ s', Inv X pins σ (upd H D (.dT (putK kvs k v))) s' → Q () s') : wpAny (model X.prog X.w) X.A (dictSet D u r) Q E s := by
  obtain rfl : u = Value.ref b := ry
  obtain ⟨zl, nm, xs, rel, dd⟩ := dt_of I.hok hD
  have len : (putK kvs k v).length ≤ sizeLine := by
    have := length_putK kvs k v
    omega
  refine wpAny_dictSet_heap (hsz := by rw [← Paired.length rel]; exact zl) (show X.A.units < cLine by omega) (key_of I.hok hb) dd fun h' dd' same => h _ ?_
  obtain ⟨o, es, ep, g1, g2, g3, g4, _, g5⟩ := dd'
  refine d_write I (by rw [hD]; exact True.intro) same ⟨o, g1⟩ ⟨len, nm, _, (rel.put k hb rv).keeps fun c ys ec => ?_, o, es, ep, g1, g2, g3, g4, g5⟩
  rw [upd_ne (ne_of ec hD (fun z => nomatch z))]
  exact ec
/-- {k: v for target in iter if ..}, keys tuples: D the new dict -/
def tDcT (wi : TI) (g : TG) (tt : L2.TT) (tk tv : TE) (vs : List Nat) : TE := fun σ H Q => wi σ H fun J H1 => ∀ D, H1 D = none → ∃ W : Nat → Nat → Hp → Prop, (∃ m, W 0 m (upd H1 D (.dT []))) ∧ TurnW J g tt (fun σ2 H3 Nx => tk σ2 H3 fun y H4 => tv σ2 H4 fun z H5 => ∃ kvs k b, y = .ref b ∧ H5 D = some (.dT kvs) ∧ H5 b = some (.tup (k.map kV)) ∧ kvs.length < sizeLine ∧ Nx (upd H5 D (.dT (putK kvs k z)))) vs σ (Q (.ref D)) W
/-- {k: v for ..}, the keys tuples -/
theorem dcT_core {pins : List (Addr × Obj)} {s : Shared} {σ : L2.St} {H : Hp} {Q : VK} {kx vx tg iter : Expr} {ifs : List Expr} {scope : Scope} {own : List (Str × Nat)} {pos pos' : Pos} {wi : TI} {g : TG} {tt : L2.TT} {tk tv : TE} {use : Option (Value → Sem Unit)} {Qf : Value → Shared → Prop} (hc : X.calm = true) (hN : X.N.Nodup) (I : Inv X pins σ H s) (hi : PI X tg iter wi)
    (ok : BlkOk X.N X.env.scope scope own) (hg : ∀ (s : Shared) (H : Hp) (C : Addr) (cl : List (Str × Addr)) (fp : List Addr), PG (X.blk s H scope (compEnvC scope cl C X.env) fp) tg g)
    (ht : ∀ (s : Shared) (H : Hp) (C : Addr) (cl : List (Str × Addr)) (fp : List Addr), PTs (X.blk s H scope (compEnvC scope cl C X.env) fp) ifs tt)
    (hk : ∀ (s : Shared) (H : Hp) (C : Addr) (cl : List (Str × Addr)) (fp : List Addr), PE (X.blk s H scope (compEnvC scope cl C X.env) fp) kx tk) (he : ∀ (s : Shared) (H : Hp) (C : Addr) (cl : List (Str × Addr)) (fp : List Addr), PE (X.blk s H scope (compEnvC scope cl C X.env) fp) vx tv) (hu : X.A.units + 1 < cLine) (hs : ∀ x, foldedSetIterable iter X.env x = pure x)
    (h : tDcT wi g tt tk tv (own.map (·.2)) σ H Q)
    (fin : ∀ D C s' m H', Inv X pins σ H' s' → Q (.ref D) H' → s'.heap.Ns C m → FpOk X pins H' C → compPost (model X.prog X.w) X.A X.xe use Qf (.ref D) C (.ok .next) s') :
    wpAny (model X.prog X.w) X.A (comprehension (.DictComp kx vx [⟨tg, iter, ifs, 0⟩] scope pos) scope X.env pos' newDict false (eval iter X.env) use) Qf X.xe s := by
  have clo := closure_ok (scope := scope) (env := X.env) fun y hy e => (ok.free y hy e).elim (fun z => I.ok.has _ (.inl z)) fun z => I.ok.has _ (.inr z)
  refine wpAny_comprehension_free (use := use) rfl hs clo ok.kind (fun y hy e => (ok.uniq y hy).trans (by rw [e])) (thn (hi.run pins s σ H _ I h) fun xv s1 hx => thn hx ?_)
  rintro itv s2 ⟨it, fp, tn, J, H2, rfl, I2, T, st2, f2, q⟩
  refine wpAny_newObj_type (newEnv_comp ?_)
  obtain ⟨W, ⟨m0, w0⟩, turn⟩ := q s2.heap.objs.size (I2.hok.fresh (Nat.le_refl _))
  have I3 : Inv X pins σ (upd H2 s2.heap.objs.size (.dT [])) { s2 with heap := s2.heap.push { cls := .type "dict", data := .dict #[] }, toks := s2.toks } :=
    I2.laid (fun b o e => Heap.get?_push_of_some _ e) (Nat.le_refl _) (dt_empty s2.heap I2.big)
  obtain ⟨I4, st4, n4, f4⟩ := blk_begin hN ok T I3 f2 st2 (fun b o e => Heap.get?_push_of_some _ e) (fun b lt e => by rw [upd_ne (Nat.ne_of_lt lt)]; exact e) (by rw [Heap.size_push]; exact Nat.le_succ _)
  have runk := hk { s2 with heap := s2.heap.push { cls := .type "dict", data := .dict #[] }, toks := s2.toks } (upd H2 s2.heap.objs.size (.dT [])) s2.heap.objs.size.succ (cellsFrom (s2.heap.objs.size.succ + 1) scope.names (cloFrom X.env.cells scope.names [])) fp
  have runv := he { s2 with heap := s2.heap.push { cls := .type "dict", data := .dict #[] }, toks := s2.toks } (upd H2 s2.heap.objs.size (.dT [])) s2.heap.objs.size.succ (cellsFrom (s2.heap.objs.size.succ + 1) scope.names (cloFrom X.env.cells scope.names [])) fp
  have pg := hg { s2 with heap := s2.heap.push { cls := .type "dict", data := .dict #[] }, toks := s2.toks } (upd H2 s2.heap.objs.size (.dT [])) s2.heap.objs.size.succ (cellsFrom (s2.heap.objs.size.succ + 1) scope.names (cloFrom X.env.cells scope.names [])) fp
  have pt := ht { s2 with heap := s2.heap.push { cls := .type "dict", data := .dict #[] }, toks := s2.toks } (upd H2 s2.heap.objs.size (.dT [])) s2.heap.objs.size.succ (cellsFrom (s2.heap.objs.size.succ + 1) scope.names (cloFrom X.env.cells scope.names [])) fp
  have back := fun {H5 : Hp} {s6 : Shared} {σ' : L2.St} (I6 : Inv (X.blk _ _ scope (compEnvC scope (cellsFrom ((s2.heap.push { cls := .type "dict", data := .dict #[] }).objs.size + 1) scope.names (cloFrom X.env.cells scope.names [])) _ X.env) fp) [] σ' H5 s6) => blk_back I3 f4 I6
  have esz : (s2.heap.push { cls := .type "dict", data := .dict #[] }).objs.size = s2.heap.objs.size.succ := Heap.size_push ..
  show codeAny _ _ (.compStart (.DictComp kx vx [⟨tg, iter, ifs, 0⟩] scope pos) 0 (.ref it) (.ref s2.heap.objs.size) (compEnvC scope (cellsFrom ((s2.heap.push { cls := .type "dict", data := .dict #[] }).objs.size + 1) scope.names (cloFrom X.env.cells scope.names [])) (s2.heap.push { cls := .type "dict", data := .dict #[] }).objs.size X.env)) (compPost (model X.prog X.w) X.A X.xe use Qf (.ref s2.heap.objs.size) (s2.heap.push { cls := .type "dict", data := .dict #[] }).objs.size) { s2 with heap := pushCells ((s2.heap.push { cls := .type "dict", data := .dict #[] }).push { cls := .type "dict", data := .dict #[] }) scope.names }
  simp only [esz] at I4 back ⊢
  generalize compEnvC scope (cellsFrom (s2.heap.objs.size.succ + 1) scope.names (cloFrom X.env.cells scope.names [])) s2.heap.objs.size.succ X.env = ce at I4 runk runv pg pt back ⊢
  have loop : codeAny (model X.prog X.w) X.A (.compLoop (.DictComp kx vx [⟨tg, iter, ifs, 0⟩] scope pos) 0 (.ref it) (.ref s2.heap.objs.size) ce) (compPost (model X.prog X.w) X.A X.xe use Qf (.ref s2.heap.objs.size) s2.heap.objs.size.succ) { s2 with heap := pushCells ((s2.heap.push { cls := .type "dict", data := .dict #[] }).push { cls := .type "dict", data := .dict #[] }) scope.names } := by
    refine compLoop_anyD _ (fun n s5 st => blk_turn hc T pg pt turn (tail := fun G s' => wpAny (model X.prog X.w) X.A (eval kx ce) (fun a s4 => wpAny (model X.prog X.w) X.A (eval vx ce) (fun b s5 => wpAny (model X.prog X.w) X.A (dictSet s2.heap.objs.size a b) (fun _ s6 => G s6) _ s5) _ s4) _ s') ?_ ?_ n s5 st) m0 ⟨0, _, I4, st4, n4, w0⟩
    · intro pn σ8 H9 s9 Nx G I9 q9 go
      refine thnF (runk.run pn s9 σ8 H9 _ I9 q9) ?_
      rintro z s10 ⟨y, H10, I10, r10, q10⟩
      refine thnF (runv.run pn s10 σ8 H10 _ I10 q10) ?_
      rintro z2 s11 ⟨y2, H11, I11, r11, kvs, k, b, rfl, hD, hb, hz, nx⟩
      exact dT_set (X := X.blk _ _ scope ce fp) hu I11 hD hb hz r10 r11 fun s12 I12 => go s12 _ I12 nx
    · intro s6 H5 I6 qd
      obtain ⟨I7, ⟨m, hn⟩, hf⟩ := back I6
      exact fin _ _ s6 m H5 I7 qd hn hf
  exact codeAny_compStart_dict loop (T.self X.A 0 _ _ _ st4 loop)
theorem pe_lcS {elt tg iter : Expr} {ifs : List Expr} {scope : Scope} {own : List (Str × Nat)} {pos : Pos} {wi : TI} {g : TG} {tt : L2.TT} {te : L2.St → TE} (hc : X.calm = true) (hN : X.N.Nodup) (hi : PI X tg iter wi) (ok : BlkOk X.N X.env.scope scope own)
    (hg : ∀ (s : Shared) (H : Hp) (C : Addr) (cl : List (Str × Addr)) (fp : List Addr), PG (X.blk s H scope (compEnvC scope cl C X.env) fp) tg g)
    (ht : ∀ (s : Shared) (H : Hp) (C : Addr) (cl : List (Str × Addr)) (fp : List Addr), PTs (X.blk s H scope (compEnvC scope cl C X.env) fp) ifs tt)
    (he : ∀ (pn : List (Addr × Obj)) (σ0 : L2.St) (s : Shared) (H : Hp) (C : Addr) (cl : List (Str × Addr)) (fp : List Addr), Inv X pn σ0 H s → PE (X.blk s H scope (compEnvC scope cl C X.env) fp) elt (te σ0)) (hs : ∀ x, foldedSetIterable iter X.env x = pure x := by intro _; rfl) :
    PE X (.ListComp elt [⟨tg, iter, ifs, 0⟩] scope pos) (fun σ H Q => tLc wi g tt (te σ) (own.map (·.2)) σ H Q) := by
  refine ⟨fun pins s σ H Q I h => ?_⟩
  rw [eval_ListComp]
  refine lcS_core hc hN I hi ok hg ht he hs h ?_
  rintro D C s' m H' I' q hn ⟨f0, f1, f2, f3, f4, f5⟩
  exact ⟨m, hn, fun h2 sb => ⟨.ref D, H', I'.turned (t' := s'.toks) (fun b o hb e => (sb.2 b hb).trans e) f0 f1 f3 f4 f5, rfl, q⟩⟩
theorem pe_dcT {kx vx tg iter : Expr} {ifs : List Expr} {scope : Scope} {own : List (Str × Nat)} {pos : Pos} {wi : TI} {g : TG} {tt : L2.TT} {tk tv : TE} (hc : X.calm = true) (hN : X.N.Nodup) (hu : X.A.units + 1 < cLine) (hi : PI X tg iter wi) (ok : BlkOk X.N X.env.scope scope own)
    (hg : ∀ (s : Shared) (H : Hp) (C : Addr) (cl : List (Str × Addr)) (fp : List Addr), PG (X.blk s H scope (compEnvC scope cl C X.env) fp) tg g)
    (ht : ∀ (s : Shared) (H : Hp) (C : Addr) (cl : List (Str × Addr)) (fp : List Addr), PTs (X.blk s H scope (compEnvC scope cl C X.env) fp) ifs tt)
    (hk : ∀ (s : Shared) (H : Hp) (C : Addr) (cl : List (Str × Addr)) (fp : List Addr), PE (X.blk s H scope (compEnvC scope cl C X.env) fp) kx tk) (he : ∀ (s : Shared) (H : Hp) (C : Addr) (cl : List (Str × Addr)) (fp : List Addr), PE (X.blk s H scope (compEnvC scope cl C X.env) fp) vx tv)
    (hs : ∀ x, foldedSetIterable iter X.env x = pure x := by intro _; rfl) : PE X (.DictComp kx vx [⟨tg, iter, ifs, 0⟩] scope pos) (tDcT wi g tt tk tv (own.map (·.2))) := by
  refine ⟨fun pins s σ H Q I h => ?_⟩
  rw [arm_eval_DictComp]
  refine dcT_core hc hN I hi ok hg ht hk he hu hs h ?_
  rintro D C s' m H' I' q hn ⟨f0, f1, f2, f3, f4, f5⟩
  exact ⟨m, hn, fun h2 sb => ⟨.ref D, H', I'.turned (t' := s'.toks) (fun b o hb e => (sb.2 b hb).trans e) f0 f1 f3 f4 f5, rfl, q⟩⟩
end
end Wd
end
section
/-! == and != of two objects of one class that has its own ==. -/
namespace Wd
open PySem PySem.Spec PyProof.Rows L2 LamX
/-- the class and its names, for != -/
structure NeC (K : PySem.W.Frag) (C : Addr) : Prop where
  ex : ∃ (f : Addr) (nm q : Str) (N : Addr) (bs : List Value) (hdct : Bool) (sn : List Str) (sub : List Value) (ab : Bool) (col : Option Bool) (dd : Option Addr) (k0 k1 k2 k3 k5 : Option Value) (newId : String) (no : Obj) (es : Array DictEntry) (ep : Nat),
    K.lookup C = some (excClassObj nm q C N bs [.type "object"] hdct sn sub ab col dd k0 k1 k2 k3 k5 newId) ∧ K.lookup N = some no ∧ no.data = .dict es ep ∧ StrKeys es ∧ nsFind es "__eq__" = some (.ref f) ∧ nsFind es "__ne__" = none ∧ PySem.W.findIn K (.ref C) "__eq__" = some (some (.ref f))
/-- what == promises is asked -/
def rCmpO (C : Addr) (sp : Sp) (neg : Bool) : R2 := fun x y H Q => ∃ a b dx dy fs gs, x = .ref a ∧ y = .ref b ∧ H a = some (.ins C dx fs) ∧ H b = some (.ins C dy gs) ∧ sp [.ref a, .ref b] H (fun v H' => ∃ k, v = .bl k ∧ Q (.bl (if neg then !k else k)) H') C8.E0
section
variable {X : Cx}
theorem run_at {k : Nat} {f : Addr} {fd : FuncData} {ps : List Str} {sp : Sp} {pins : List (Addr × Obj)} {σ : L2.St} {H : Hp} {s : Shared} {Q : VK} {A : Around} {us : List Value} {vs : List V} {Ex : Value → Shared → Prop} (F : FnOk X.prog X.w X.K X.mg X.base C8.CX0 k f fd ps sp) (b : Binds X.K fd ps []) (hA : A.frames = X.A.frames) (hr : Room k A)
    (I : Inv X pins σ H s) (r : Vals vs us) (q : sp vs H Q C8.E0) : wpAny (model X.prog X.w) A (call (.ref f) us) (EP X pins σ Q) Ex s := by
  have e0 := I.env0
  have len := F.len _ _ _ _ q
  have bind := b s us I.kIn (by rw [List.append_nil, ← r.length]; exact len)
  rw [List.append_nil] at bind
  refine wpAny_call (codeAny_mono (F.run A X.stack s H ⟨us, []⟩ us vs _ C8.E0 hr ⟨hA.trans e0.frames, e0.mod, e0.bs, e0.bsz, e0.funs, e0.frf, e0.hok, e0.bare⟩ bind r q) fun res s' hq => ?_)
  cases res with
  | error e => exact False.elim hq
  | ok fl =>
    cases fl with
    | ret u => exact I.after hq
    | next => exact False.elim hq
    | brk => exact False.elim hq
    | cont => exact False.elim hq
theorem op_eqO {C : Addr} {sp : Sp} {k j : Nat} (m : C8.Met X.prog X.w X.K X.mg X.base k C "__eq__" sp []) (hr : Room j X.A) (hk : k ≤ j) : OpR X (compareOp .Eq) (rCmpO C sp false) := by
  intro pins s σ H x y v u Q I rx ry h
  obtain ⟨a, b, dx, dy, fs, gs, rfl, rfl, ha, hb, q⟩ := h
  cases rx
  cases ry
  obtain ⟨f, fd, ps, ds, cl, me, F, bi, dv⟩ := m.ex
  cases dv
  obtain ⟨mA, J, _⟩ := ins_get I.hok ha
  obtain ⟨mB, J', _⟩ := ins_get I.hok hb
  obtain ⟨od, J, _⟩ := J.look
  obtain ⟨od', J', _⟩ := J'.look
  obtain ⟨mf, hF⟩ := I.fr
  show wpAny (model X.prog X.w) X.A (richCompare .Eq (.ref a) (.ref b)) (EP X pins σ Q) X.xe s
  refine PySem.W.cmp_K (op := .Eq) (tb := .ref C) hr.units0 hF I.ok.mod.kin J J'.type (by simp [PySem.W.notFirst]) me.at_ me.fn ?_
  refine wpAny_mono (run_at F bi rfl (hr.mono hk) I (vs := [.ref a, .ref b]) (.cons (show L2.RelV (.ref a) (.ref a) from rfl) (.cons (show L2.RelV (.ref b) (.ref b) from rfl) .nil)) q) ?_ fun _ _ z => z
  rintro u s' ⟨v, H', I', rv, k, rfl, q'⟩
  obtain rfl : u = Value.bool k := rv
  exact ⟨.bl k, H', I', rfl, q'⟩
theorem op_neO {C : Addr} {sp : Sp} {k j : Nat} (m : C8.Met X.prog X.w X.K X.mg X.base k C "__eq__" sp []) (ne : NeC X.K C) (hr : Room j X.A) (hk : k + 1 ≤ j) : OpR X (compareOp .NotEq) (rCmpO C sp true) := by
  intro pins s σ H x y v u Q I rx ry h
  obtain ⟨a, b, dx, dy, fs, gs, rfl, rfl, ha, hb, q⟩ := h
  cases rx
  cases ry
  obtain ⟨f, fd, ps, ds, cl, me, F, bi, dv⟩ := m.ex
  cases dv
  obtain ⟨mA, J, _⟩ := ins_get I.hok ha
  obtain ⟨mB, J', _⟩ := ins_get I.hok hb
  obtain ⟨od, J, _⟩ := J.look
  obtain ⟨od', J', _⟩ := J'.look
  obtain ⟨f', nm, q', N, bs, hdct, sn, sub, ab, col, dd, k0, k1, k2, k3, k5, newId, no, es, ep, lC, lN, dN, sk, fe, fn, at_⟩ := ne.ex
  obtain rfl : f' = f := by
    have z := at_.symm.trans me.at_
    injection z with z
    injection z with z
    injection z
  obtain ⟨of, hof, cof⟩ : ∃ of, s.heap.get? f' = some of ∧ of.cls = .type "function" := by
    have z : (X.K.lookup f').map (·.cls) = some (Value.type "function") := beq_iff_eq.mp me.fn
    cases e : X.K.lookup f' with
    | none =>
      rw [e] at z
      cases z
    | some of =>
      rw [e] at z
      exact ⟨of, I.kIn _ _ e, Option.some.inj z⟩
  have Y : s.heap.OwnEqNoNe a C f' "object" [.type "object"] :=
    ⟨_, of, nm, q', N, bs, hdct, sn, sub, ab, col, dd, k0, k1, k2, k3, k5, newId, fun x => nsFind es x, _, J.at_, J.cls, I.kIn _ _ lC, ⟨no, es, ep, I.kIn _ _ lN, dN, sk, fun _ => rfl⟩, fe, hof, cof, PySem.F.mro_object, PySem.F.cmp_object.eq.lookup, fn⟩
  have room := hr.mono hk
  obtain ⟨hh, g, d, t, os⟩ := s
  refine compareOp_ne_ownEq PySem.F.cmp_object Y J'.at_ J'.cls (by have := room.un; omega) ?_
  refine wpAny_mono (run_at F bi rfl room.in1 I (vs := [.ref a, .ref b]) (.cons (show L2.RelV (.ref a) (.ref a) from rfl) (.cons (show L2.RelV (.ref b) (.ref b) from rfl) .nil)) q) ?_ fun _ _ z => z
  rintro u s' ⟨v, H', I', rv, k, rfl, q2⟩
  obtain rfl : u = Value.bool k := rv
  exact ⟨k, rfl, .bl (!k), H', I', rfl, q2⟩
end
end Wd
end
section
/-! for i, x in enumerate(t), t a tuple. -/
namespace Wd
open PySem PySem.Spec PyProof.Rows L2
theorem meets_enumerate_newT {v : Value} {o : Obj} {H : Heap → Prop} (B : Begins v o H) :
    Meets (Builtin.«enumerate.__new__» ⟨[.type "enumerate", v], []⟩) (fun _ R s => H s.heap ∧
      R (.ok (.ret (.ref (s.heap.push o).objs.size))) { s with heap := (s.heap.push o).push { cls := .type "enumerate", data := .fields #[.none, .bool false, .ref s.heap.objs.size, rawInt 0, .none, .none] } }) :=
  .of_wp fun prog w A R s h => by
    obtain ⟨hp, g, d, tk, os⟩ := s
    obtain ⟨h1, h⟩ := h
    have hsub := sub_enumerate
    have q1 : ∀ {A' : Around} {E : Value → Shared → Prop} {Q : Value → Shared → Prop}, Q (.ref hp.objs.size) ⟨hp.push o, g, d, tk, os⟩ → wpAny (model prog w) A' (pyIter v) Q E ⟨hp, g, d, tk, os⟩ :=
      fun q => B.iter prog w _ _ ⟨hp, g, d, tk, os⟩ _ h1 q
    wp_walk using q1
    refine wpAny_stack_any fun st => wpAny_pure ?_
    split
    · rename_i c _ _ _ _ _
      cases (c == Value.type "enumerate")
      · wp_walk using q1
        exact ⟨_, rfl, h⟩
      · wp_walk using q1
        exact ⟨_, rfl, h⟩
    · wp_walk using q1
      exact ⟨_, rfl, h⟩
section
variable {prog : Program} {w : World} {A : Around} {E : Value → Shared → Prop} {s : Shared}
theorem enum_beginsT {v : Value} {o : Obj} {H : Heap → Prop} {Q : Value → Shared → Prop} (B : Begins v o H) (h1 : H s.heap)
    (h : ∀ h', IsEnum h' (s.heap.objs.size + 1) s.heap.objs.size 0 .none → h'.get? s.heap.objs.size = some o → h'.objs.size = s.heap.objs.size + 2 →
      (∀ b o, s.heap.get? b = some o → h'.get? b = some o) → Q (.ref (s.heap.objs.size + 1)) { s with heap := h' }) :
    wpAny (model prog w) A (call (.type "enumerate") [v]) Q E s := by
  refine callType_new F.called_enumerate (by decide) (F.typeCall_enumerate_1 _) (F.newCall_enumerate_1 _) (fun obj => F.args_object_init_2 obj _) F.entry_enumerate_new
    (meets_enumerate_newT B) ⟨h1, ?_⟩
  have hz : (s.heap.push o).objs.size = s.heap.objs.size + 1 := Heap.size_push ..
  show _ ∧ _
  rw [hz]
  have he : IsEnum ((s.heap.push o).push { cls := .type "enumerate", data := .fields #[.none, .bool false, .ref s.heap.objs.size, rawInt 0, .none, .none] }) (s.heap.objs.size + 1) s.heap.objs.size 0 .none := by
    have := Heap.get?_push_size (s.heap.push o) (o := { cls := .type "enumerate", data := .fields #[.none, .bool false, .ref s.heap.objs.size, rawInt 0, .none, .none] }) rfl
    rw [hz] at this; exact this
  refine ⟨⟨_, he, rfl⟩, h _ he (Heap.get?_push_of_some _ (Heap.get?_push_size _ B.free)) (by rw [Heap.size_push, hz]) fun b o x => Heap.get?_push_of_some _ (Heap.get?_push_of_some _ x)⟩
end
section
variable {prog : Program} {w : World} {A : Around} {E : Value → Shared → Prop} {s : Shared}
theorem enum_endT {e it l : Addr} {i : Int} {j : Nat} {items : Array Value} {old : Value} {Q : Option Value → Shared → Prop} (hh : A.handled = none) (he : IsEnum s.heap e it i old) (hit : s.heap.IsTupleIter it l j) (hl : s.heap.IsTuple l items) (hx : items[j]? = none)
    (hQ : ∀ h', Heap.ExtBut it s.heap h' → Q none { s with heap := h' }) : wpAny (model prog w) A (pyNext (.ref e)) Q E s := by
  have hT : s.TypeIs (.ref e) "enumerate" := ⟨_, he, rfl⟩
  unfold pyNext
  refine wpAny_bind (wpAny_attempt (wpAny_callSpecial?_slot (name := Str.ofString "__next__") hT F.slot_enumerate_next
    (wpAny_call_entry F.slot_enumerate_next hT F.entry_enumerate_next ?_ (F.args_enumerate_next_1 _))))
  show wpAny _ _ (field (.ref e) 2 >>= _) _ _ _
  refine wpAny_bind (wpAny_field he rfl (x := .ref it) rfl ?_)
  refine wpAny_bind (wpAny_nextOf_tuple_end hh hit hl hx fun h' x he' hx' => ?_)
  obtain ⟨o, ho, hc⟩ := hx'
  refine wpAny_bind (wpAny_isInstance (T := "StopIteration") (b := true) ⟨o, ho, hc⟩ isSubtype_stop ?_)
  exact wpAny_pure (hQ _ he')
end
def ItT (K : PySem.W.Frag) (a : Addr) : It :=
  ⟨fun i H => ∃ (xs : List V) (x : V), SqT K H a xs ∧ xs[i]? = some x, fun i H v H' => ∃ T x, v = .ref T ∧ H T = none ∧ H' = upd H T (.tup [.int (i : Nat), x]) ∧ ∀ xs, SqT K H a xs → xs[i]? = some x, fun i H => ∃ xs : List V, SqT K H a xs ∧ xs.length ≤ i⟩
theorem turn_enumT {P : Program} {w : World} {K : PySem.W.Frag} {elts : List Expr} {kk : Nat} {tpos : Pos} (a e it : Addr) (hae : a ≠ e) (hai : a ≠ it) :
    Turn P w K (.Tuple elts kk tpos) (ItT K a) [e, it] e (fun i h => (∃ old, IsEnum h e it ((i : Nat) : Int) old) ∧ h.IsTupleIter it a i ∧ e ≠ it) where
  mem := by simp
  obj := fun i h st b hb => by
    obtain ⟨⟨old, he⟩, ⟨o, ho, hc, hd⟩, _⟩ := st
    have e' : b = e ∨ b = it := by simpa using hb
    rcases e' with z | z
    · rw [z]; exact ⟨_, he, fun v q => nomatch q⟩
    · rw [z]; exact ⟨o, ho, fun v q => by rw [hd] at q; cases q⟩
  keep := fun i h h' st k => let ⟨⟨old, he⟩, hi, hne⟩ := st; ⟨⟨old, k e (by simp) _ he⟩, hi.at fun o q => k it (by simp) o q, hne⟩
  item := by
    intro X hP hw hK hc i pins s σ H E I hf st hg
    subst hP hw hK
    obtain ⟨⟨old, he⟩, hit, hne⟩ := st
    obtain ⟨xs, x, hq, hx⟩ := hg
    obtain ⟨its, rv, p, hz⟩ := I.tuple hq
    obtain ⟨u, hu, ru⟩ := rv.get hx
    have p : s.heap.IsTuple a its.toArray := p
    have hel : e < s.heap.objs.size := Heap.lt_size he
    have hil : it < s.heap.objs.size := by obtain ⟨_, q, _⟩ := hit; exact Heap.lt_size q
    have hlt : i < its.toArray.size := by
      rw [List.size_toArray]
      exact (List.getElem?_eq_some_iff.mp hu).1
    refine wpAny_pyNext_enum_itemD (Draws.tuple (A := X.A.in1) (show X.A.in1.handled = none from I.ok.hd hc) it a hai its.toArray) he ⟨hit, p⟩ hlt hne (fun z => ?_) fun y h' tk hy ho hst' hT hsz hk => ?_
    · rcases List.mem_cons.mp z with z | z
      · exact hne z
      · exact hae (List.mem_singleton.mp z).symm
    have hyu : y = u := by
      have hy : its.toArray[i]? = some y := hy
      rw [List.getElem?_toArray, hu] at hy
      exact (Option.some.inj hy).symm
    subst hyu
    refine ⟨_, rfl, wpAny_letOwnedTupleGo_enum (s := { s with heap := h', toks := tk + 1 }) ho fun h'' he' sb => ?_⟩
    have hT2 : h''.get? s.heap.objs.size = some { cls := .type "tuple", data := .seq #[.int i tk, y] } := (sb.2 _ (Nat.ne_of_gt hel)).trans hT
    have new : ObjOk X.prog X.w (upd H s.heap.objs.size (.tup [.int (i : Nat), x])) h'' s.heap.objs.size (.tup [.int (i : Nat), x]) :=
      ⟨by show 2 ≤ sizeLine; decide, [.int i tk, y], .cons ⟨_, rfl⟩ (.cons ru .nil), ⟨_, hT2, rfl, _, rfl⟩⟩
    have I1 : Inv X pins σ (upd H s.heap.objs.size (.tup [.int (i : Nat), x])) { s with heap := h'', toks := tk + 1 } :=
      I.turnedNew (ch := [e, it]) (fun b ob hb q => (sb.2 b (fun z => hb (by simp [z]))).trans (hk b ob (fun z => hb (by simp [z])) (fun z => hb (by simp [z])) q)) hf (Nat.le_refl _) new
    refine ⟨.ref s.heap.objs.size, _, I1, rfl, ⟨_, x, rfl, I.hok.fresh (Nat.le_refl _), rfl, fun ys hy => by rw [I.tuple_inj hy hq]; exact hx⟩, ⟨⟨y, ?_⟩, hst'.1.at fun o q => (sb.2 it (Ne.symm hne)).trans q, hne⟩, fun b hb => ?_⟩
    · have e1 : ((i + 1 : Nat) : Int) = (i : Int) + 1 := by omega
      rw [e1]; exact he'
    · have hb' : b < s.heap.objs.size := by
        have e' : b = e ∨ b = it := by simpa using hb
        rcases e' with z | z
        · rw [z]; exact hel
        · rw [z]; exact hil
      rw [upd_ne (Nat.ne_of_lt hb')]
      exact (hf b hb).1
  done := by
    intro X hP hw hK hc i pins s σ H E I hf st hg
    subst hP hw hK
    obtain ⟨⟨old, he⟩, hit, hne⟩ := st
    obtain ⟨xs, hq, hx⟩ := hg
    obtain ⟨its, rv, p, hz⟩ := I.tuple hq
    have p : s.heap.IsTuple a its.toArray := p
    obtain ⟨f0, f1, f2, f3, f4, f5⟩ := hf it (by simp)
    have hl := rv.length
    exact enum_endT (I.ok.hd hc) he hit p (by simp; omega) fun h' eb => ⟨rfl, I.turned (t' := s.toks) (fun b o hb q => eb b o hb q) f0 f1 f3 f4 f5⟩
  self := fun A i s Q E st h => let ⟨⟨_, he⟩, _⟩ := st; wpAny_pyIter_enum he h
def iEnumT (K : PySem.W.Frag) (ta : TA) : TI := fun σ H R => ta σ H fun vs H1 => ∃ a xs, vs = [.ref a] ∧ SqT K H1 a xs ∧ R (ItT K a) H1
theorem pi_enumT {X : Cx} {e : Expr} {ta : TA} {p pos tpos : Pos} {elts : List Expr} {kk : Nat} (hg : Gl X "enumerate") (hm : X.mg "enumerate" = none) (ha : PA X [e] ta) (hs : starEach [e] X.env = [(false, eval e X.env)] := by rfl) :
    PI X (.Tuple elts kk tpos) (.Call (.Name "enumerate" p) [e] [] pos) (iEnumT X.K ta) := by
  refine ⟨fun pins s σ H R I h => ?_⟩
  refine Call_ (ld_blt I hg hm boot_enumerate (PyProof.Rows.callWith_type1 (thn (ha.run pos pins s σ H _ I h) fun us s1 ⟨vs, H1, I1, r1, q1⟩ => ?_) hs rfl))
  obtain ⟨a, xs, ex, hq, q⟩ := q1
  subst ex
  cases r1 with
  | cons r rr =>
    cases rr
    cases r
    obtain ⟨its, rv, p', hz⟩ := I1.tuple hq
    have p' : s1.heap.IsTuple a its.toArray := p'
    have hlt : a < s1.heap.objs.size := by obtain ⟨_, z, _⟩ := p'; exact Heap.lt_size z
    refine enum_beginsT (begins_tuple a its.toArray) p' fun h' he hit hsz hk => wpAny_pyIter_enum he ?_
    have I2 : Inv X pins σ H1 { s1 with heap := h' } := I1.kept (t' := s1.toks) hk
    refine ⟨s1.heap.objs.size + 1, [s1.heap.objs.size + 1, s1.heap.objs.size], _, _, H1, rfl, I2, turn_enumT a (s1.heap.objs.size + 1) s1.heap.objs.size (Nat.ne_of_lt (Nat.lt_succ_of_lt hlt)) (Nat.ne_of_lt hlt), ⟨⟨.none, he⟩, ⟨_, hit, rfl, rfl⟩, Nat.succ_ne_self _⟩, fun b hb => ?_, q⟩
    have e' : b = s1.heap.objs.size + 1 ∨ b = s1.heap.objs.size := by simpa using hb
    have hle : s1.heap.objs.size ≤ b := by
      rcases e' with z | z
      · rw [z]; exact Nat.le_add_right _ _
      · rw [z]; exact Nat.le_refl _
    exact I1.fpOk hle (I1.hok.fresh hle)
theorem walk_enumT {K : PySem.W.Frag} {a : Addr} {xs : List V} : L2.Walk (ItT K a) xs.length (fun H => SqT K H a xs) (fun i H v H' => ∃ T x, v = .ref T ∧ H T = none ∧ H' = upd H T (.tup [.int (i : Nat), x]) ∧ xs[i]? = some x) :=
  ⟨fun i _ hi q => ⟨xs, xs[i], q, by simp [hi]⟩, fun _ q => ⟨xs, q, Nat.le_refl _⟩, fun _ _ _ _ _ q y => by
    obtain ⟨T, x, e1, e2, e3, e4⟩ := y
    exact ⟨T, x, e1, e2, e3, e4 xs q⟩⟩
theorem w_iEnumT {K : PySem.W.Frag} {ta : TA} {σ : L2.St} {H : Hp} {R : It → Hp → Prop} (h : ta σ H fun vs H1 => ∃ a xs, vs = [.ref a] ∧ SqT K H1 a xs ∧ R (ItT K a) H1) : iEnumT K ta σ H R := h
end Wd
end
section
/-! A lambda held in a name, called in comprehensions. -/
namespace Wd
open PySem PySem.Spec PyProof.Rows L2 LamX NdefX
section
variable {X : Cx}
/-- [elt for ..], the element's rule told of the state that its block began at -/
theorem lcT_core {pins : List (Addr × Obj)} {s : Shared} {σ : L2.St} {H : Hp} {Q : VK} {elt tg iter : Expr} {ifs : List Expr} {scope : Scope} {own : List (Str × Nat)} {pos pos' : Pos} {wi : TI} {g : TG} {tt : L2.TT} {te : L2.St → TE} {use : Option (Value → Sem Unit)} {Qf : Value → Shared → Prop} (hc : X.calm = true) (hN : X.N.Nodup) (I : Inv X pins σ H s) (hi : PI X tg iter wi)
    (ok : BlkOk X.N X.env.scope scope own) (hg : ∀ (s : Shared) (H : Hp) (C : Addr) (cl : List (Str × Addr)) (fp : List Addr), PG (X.blk s H scope (compEnvC scope cl C X.env) fp) tg g)
    (ht : ∀ (s : Shared) (H : Hp) (C : Addr) (cl : List (Str × Addr)) (fp : List Addr), PTs (X.blk s H scope (compEnvC scope cl C X.env) fp) ifs tt)
    (he : ∀ (pn : List (Addr × Obj)) (σ0 : L2.St) (s : Shared) (H : Hp) (C : Addr) (cl : List (Str × Addr)) (fp : List Addr), Inv X pn σ0 H s → (∀ b ∈ fp, FpOk X pn H b) → PE (X.blk s H scope (compEnvC scope cl C X.env) fp) elt (te σ0)) (hs : ∀ x, foldedSetIterable iter X.env x = pure x)
    (h : tLc wi g tt (te σ) (own.map (·.2)) σ H Q)
    (fin : ∀ D C s' m H', Inv X pins σ H' s' → Q (.ref D) H' → s'.heap.Ns C m → FpOk X pins H' C → compPost (model X.prog X.w) X.A X.xe use Qf (.ref D) C (.ok .next) s') :
    wpAny (model X.prog X.w) X.A (comprehension (.ListComp elt [⟨tg, iter, ifs, 0⟩] scope pos) scope X.env pos' (newList []) false (eval iter X.env) use) Qf X.xe s := by
  have clo := closure_ok (scope := scope) (env := X.env) fun y hy e => (ok.free y hy e).elim (fun z => I.ok.has _ (.inl z)) fun z => I.ok.has _ (.inr z)
  refine wpAny_comprehension_free (use := use) rfl hs clo ok.kind (fun y hy e => (ok.uniq y hy).trans (by rw [e])) (thn (hi.run pins s σ H _ I h) fun xv s1 hx => thn hx ?_)
  rintro itv s2 ⟨it, fp, tn, J, H2, rfl, I2, T, st2, f2, q⟩
  refine wpAny_newObj_type (newEnv_comp ?_) (by show 0 ≤ sizeLine; decide)
  obtain ⟨W, ⟨m0, w0⟩, turn⟩ := q s2.heap.objs.size (I2.hok.fresh (Nat.le_refl _))
  have I3 : Inv X pins σ (upd H2 s2.heap.objs.size (.lst [])) { s2 with heap := s2.heap.push { cls := .type "list", data := .seq ([] : List Value).toArray }, toks := s2.toks } :=
    I2.laid (fun b o e => Heap.get?_push_of_some _ e) (Nat.le_refl _) ⟨Nat.zero_le _, [], 0, .nil, Heap.get?_push_size _ rfl⟩
  obtain ⟨I4, st4, n4, f4⟩ := blk_begin hN ok T I3 f2 st2 (fun b o e => Heap.get?_push_of_some _ e) (fun b lt e => by rw [upd_ne (Nat.ne_of_lt lt)]; exact e) (by rw [Heap.size_push]; exact Nat.le_succ _)
  have run := he pins σ _ _ s2.heap.objs.size.succ (cellsFrom (s2.heap.objs.size.succ + 1) scope.names (cloFrom X.env.cells scope.names [])) fp I3 f4
  have pg := hg { s2 with heap := s2.heap.push { cls := .type "list", data := .seq ([] : List Value).toArray }, toks := s2.toks } (upd H2 s2.heap.objs.size (.lst [])) s2.heap.objs.size.succ (cellsFrom (s2.heap.objs.size.succ + 1) scope.names (cloFrom X.env.cells scope.names [])) fp
  have pt := ht { s2 with heap := s2.heap.push { cls := .type "list", data := .seq ([] : List Value).toArray }, toks := s2.toks } (upd H2 s2.heap.objs.size (.lst [])) s2.heap.objs.size.succ (cellsFrom (s2.heap.objs.size.succ + 1) scope.names (cloFrom X.env.cells scope.names [])) fp
  have back := fun {H5 : Hp} {s6 : Shared} {σ' : L2.St} (I6 : Inv (X.blk _ _ scope (compEnvC scope (cellsFrom ((s2.heap.push { cls := .type "list", data := .seq ([] : List Value).toArray }).objs.size + 1) scope.names (cloFrom X.env.cells scope.names [])) _ X.env) fp) [] σ' H5 s6) => blk_back I3 f4 I6
  have esz : (s2.heap.push { cls := .type "list", data := .seq ([] : List Value).toArray }).objs.size = s2.heap.objs.size.succ := Heap.size_push ..
  show codeAny _ _ (.compStart (.ListComp elt [⟨tg, iter, ifs, 0⟩] scope pos) 0 (.ref it) (.ref s2.heap.objs.size) (compEnvC scope (cellsFrom ((s2.heap.push { cls := .type "list", data := .seq ([] : List Value).toArray }).objs.size + 1) scope.names (cloFrom X.env.cells scope.names [])) (s2.heap.push { cls := .type "list", data := .seq ([] : List Value).toArray }).objs.size X.env)) (compPost (model X.prog X.w) X.A X.xe use Qf (.ref s2.heap.objs.size) (s2.heap.push { cls := .type "list", data := .seq ([] : List Value).toArray }).objs.size) { s2 with heap := pushCells ((s2.heap.push { cls := .type "list", data := .seq ([] : List Value).toArray }).push { cls := .type "dict", data := .dict #[] }) scope.names }
  simp only [esz] at I4 back ⊢
  generalize compEnvC scope (cellsFrom (s2.heap.objs.size.succ + 1) scope.names (cloFrom X.env.cells scope.names [])) s2.heap.objs.size.succ X.env = ce at I4 run pg pt back ⊢
  have loop : codeAny (model X.prog X.w) X.A (.compLoop (.ListComp elt [⟨tg, iter, ifs, 0⟩] scope pos) 0 (.ref it) (.ref s2.heap.objs.size) ce) (compPost (model X.prog X.w) X.A X.xe use Qf (.ref s2.heap.objs.size) s2.heap.objs.size.succ) { s2 with heap := pushCells ((s2.heap.push { cls := .type "list", data := .seq ([] : List Value).toArray }).push { cls := .type "dict", data := .dict #[] }) scope.names } := by
    refine compLoop_any _ (fun n s5 st => blk_turn hc T pg pt turn (tail := fun G s' => wpAny (model X.prog X.w) X.A (eval elt ce) (fun x s4 => wpAny (model X.prog X.w) X.A (call (.builtin "list.append") [.ref s2.heap.objs.size, x]) (fun _ s5 => G s5) _ s4) _ s') ?_ ?_ n s5 st) m0 ⟨0, _, I4, st4, n4, w0⟩
    · intro pn σ8 H9 s9 Nx G I9 q9 go
      refine thnF (run.run pn s9 σ8 H9 _ I9 q9) ?_
      rintro z s10 ⟨y, H10, I10, r10, acc, hD, hz, nx⟩
      exact app_ok (X := X.blk _ _ scope ce fp) I10 hD hz r10 fun s11 I11 => go s11 _ I11 nx
    · intro s6 H5 I6 qd
      obtain ⟨I7, ⟨m, hn⟩, hf⟩ := back I6
      exact fin _ _ s6 m H5 I7 qd hn hf
  exact codeAny_compStart_list loop (T.self X.A 0 _ _ _ st4 loop)
theorem pe_lcT {elt tg iter : Expr} {ifs : List Expr} {scope : Scope} {own : List (Str × Nat)} {pos : Pos} {wi : TI} {g : TG} {tt : L2.TT} {te : L2.St → TE} (hc : X.calm = true) (hN : X.N.Nodup) (hi : PI X tg iter wi) (ok : BlkOk X.N X.env.scope scope own)
    (hg : ∀ (s : Shared) (H : Hp) (C : Addr) (cl : List (Str × Addr)) (fp : List Addr), PG (X.blk s H scope (compEnvC scope cl C X.env) fp) tg g)
    (ht : ∀ (s : Shared) (H : Hp) (C : Addr) (cl : List (Str × Addr)) (fp : List Addr), PTs (X.blk s H scope (compEnvC scope cl C X.env) fp) ifs tt)
    (he : ∀ (pn : List (Addr × Obj)) (σ0 : L2.St) (s : Shared) (H : Hp) (C : Addr) (cl : List (Str × Addr)) (fp : List Addr), Inv X pn σ0 H s → (∀ b ∈ fp, FpOk X pn H b) → PE (X.blk s H scope (compEnvC scope cl C X.env) fp) elt (te σ0)) (hs : ∀ x, foldedSetIterable iter X.env x = pure x := by intro _; rfl) :
    PE X (.ListComp elt [⟨tg, iter, ifs, 0⟩] scope pos) (fun σ H Q => tLc wi g tt (te σ) (own.map (·.2)) σ H Q) := by
  refine ⟨fun pins s σ H Q I h => ?_⟩
  rw [eval_ListComp]
  refine lcT_core hc hN I hi ok hg ht he hs h ?_
  rintro D C s' m H' I' q hn ⟨f0, f1, f2, f3, f4, f5⟩
  exact ⟨m, hn, fun h2 sb => ⟨.ref D, H', I'.turned (t' := s'.toks) (fun b o hb e => (sb.2 b hb).trans e) f0 f1 f3 f4 f5, rfl, q⟩⟩
theorem ps_setLcT {i : Nat} {y : Str} {py : Pos} {elt tg iter : Expr} {ifs : List Expr} {scope : Scope} {own : List (Str × Nat)} {pos spos : Pos} {wi : TI} {g : TG} {tt : L2.TT} {te : L2.St → TE} (hc : X.calm = true) (hN : X.N.Nodup) (hy : X.N[i]? = some y) (hyl : X.env.scope.names.lookup y = some .local)
    (hsw : swapsWith (.ListComp elt [⟨tg, iter, ifs, 0⟩] scope pos) (some (.Name y py)) spos.line X.env = pure true) (hi : PI X tg iter wi) (ok : BlkOk X.N X.env.scope scope own)
    (hg : ∀ (s : Shared) (H : Hp) (C : Addr) (cl : List (Str × Addr)) (fp : List Addr), PG (X.blk s H scope (compEnvC scope cl C X.env) fp) tg g) (ht : ∀ (s : Shared) (H : Hp) (C : Addr) (cl : List (Str × Addr)) (fp : List Addr), PTs (X.blk s H scope (compEnvC scope cl C X.env) fp) ifs tt)
    (he : ∀ (pn : List (Addr × Obj)) (σ0 : L2.St) (s : Shared) (H : Hp) (C : Addr) (cl : List (Str × Addr)) (fp : List Addr), Inv X pn σ0 H s → (∀ b ∈ fp, FpOk X pn H b) → PE (X.blk s H scope (compEnvC scope cl C X.env) fp) elt (te σ0)) (hs : ∀ x, foldedSetIterable iter X.env x = pure x := by intro _; rfl) :
    PS X (.Assign [.Name y py] (.ListComp elt [⟨tg, iter, ifs, 0⟩] scope pos) spos) (tAsg (fun σ H Q => tLc wi g tt (te σ) (own.map (·.2)) σ H Q) (gName i)) := by
  refine ⟨fun pins s σ H D I h => ?_⟩
  rw [exec_Assign_Name_used _ _ _ _ hsw]
  refine wpAny_bind (wpAny_standAt (wpAny_bind ?_))
  show wpAny _ X.A (do let _ ← comprehension (.ListComp elt [⟨tg, iter, ifs, 0⟩] scope pos) scope X.env (firstIterPos [⟨tg, iter, ifs, 0⟩] pos) (newList []) false (eval iter X.env) (some (assign (.Name y py) X.env))) _ _ s
  have h : tLc wi g tt (te σ) (own.map (·.2)) σ H (fun x H1 => gName i x σ H1 D.nx) := h
  refine wpAny_bind (thn (lcT_core (Qf := fun _ s' => SP X pins D .next s') hc hN I hi ok hg ht he hs h fun L C s' m H' I' q hn f => ?_) fun _ s' hq => wpAny_pure (wpAny_pure hq))
  show wpAny _ _ (assign (.Name y py) X.env (.ref L)) _ _ _
  refine wpAny_assign_Name (store_ok2 (v := V.ref L) I' hN hy (.inl hyl) rfl (fun s2 I2 ⟨a, sb, ha⟩ => ?_) (.inr hyl))
  obtain ⟨f0, f1, f2, f3, f4, f5⟩ := f
  have haC : C ≠ a := by
    rcases ha with z | z
    · rw [z]; exact f1
    · exact fun e => f4 y a z e.symm
  refine ⟨m, hn.sameBut sb haC, fun h3 sb3 => ?_⟩
  exact ⟨_, H', I2.turned (t' := s2.toks) (fun b o hb e => (sb3.2 b hb).trans e) f0 f1 f3 f4 f5, q⟩
/-- the cells of a function stand in the blocks of its maker -/
theorem blk_cells {cl : List (Str × Addr)} {fr : List Str} {js : List Nat} {pn : List (Addr × Obj)} {σ0 : L2.St} {s : Shared} {H : Hp} {scope : Scope} {ce : Env} {fp : List Addr} (I0 : Inv X pn σ0 H s) (f0 : ∀ b ∈ fp, FpOk X pn H b) (cap : Caps X cl fr js) (hfn : ∀ y c, cl.lookup y = some c → X.fn y = true)
    {pins : List (Addr × Obj)} {σ : L2.St} {H' : Hp} {s' : Shared} (I : Inv (X.blk s H scope ce fp) pins σ H' s') : CellsAt cl fr (js.map (slotAt σ0)) s'.heap H' := by
  have C0 := cells_of I0 cap
  refine CellsAt.later (X := X.blk s H scope ce fp) C0 (fun y c e hc => ?_) (fun y c e hc => ?_) I
  · rcases List.mem_cons.mp (I0.stkSub c hc) with z | z
    · exact I0.cne y c (cap.sub y c e) z
    · obtain ⟨_, o, ho, _⟩ := I0.ok.funs.mem z
      exact absurd (Nat.lt_of_lt_of_le (Heap.lt_size ho) (I0.ok.cab y c (hfn y c e) (cap.sub y c e))) (Nat.lt_irrefl _)
  · exact (f0 c hc).2.2.2.2.1 y c (cap.sub y c e) rfl
def ndefC (sc nsc : Scope) : Bool := nsc.names.all fun y => !decide (y.2 = .free) || (sc.names.lookup y.1 == some .cell)
theorem clo_fn {cells : List (Str × Addr)} {sc nsc : Scope} (h : ndefC sc nsc = true) {y : Str} {c : Addr} (e : (cloFrom cells nsc.names []).lookup y = some c) : (sc.names.lookup y == some .cell) = true := by
  rcases cloFrom_mem (PySem.mem_of_lookup e) with hm | ⟨h1, _⟩
  · cases hm
  · have := List.all_eq_true.mp h _ h1
    simpa using this
/-- a lambda, a value -/
def tLamE (TT : List (Addr × Str)) (mk : Addr → NF) (body : Expr) : TE := fun _ H Q => Tabs TT H ∧ ∀ f c' H1, Gr TT NoS H H1 → H f = none → H1 f = some (LamO f (mk c') body) → H1 c' = some (CodeO c' (mk c').qual) → Q (.ref f) H1
theorem pe_lamE {TT : List (Addr × Str)} {c P : Addr} {params : Arguments} {body : Expr} {scope : Scope} {lp : Pos} {fr : List Str} (TB : TabB X.base X.mg c P) (hcode : X.env.code = .ref c)
    (hm : (P, X.env.qual ++ "<lambda>") ∈ TT) (hu : ∀ p ∈ TT, p.1 = P → p.2 = X.env.qual ++ "<lambda>") (hdef : defaultsOf params X.env = ([], [])) (hnd : ndefB X.env.scope scope fr = true) : PE X (.Lambda params body scope lp) (tLamE TT (lamF X params scope) body) := by
  refine ⟨fun pins s σ H Q I h => ?_⟩
  obtain ⟨tabs, h⟩ := h
  exact lam_new I TB hcode hm hu tabs hdef (ndef_free hnd) fun f c' H1 s' I1 g nf hf hc => ⟨.ref f, H1, I1, rfl, h f c' H1 g nf hf hc⟩
/-- its call, by its name -/
def tCallL (mk : Addr → NF) (body : Expr) (i : Nat) (ws : List (Option V)) (sp : List (Option V) → V → Hp → VK → Prop) (t : TA) : TE := fun σ H Q => ∃ f c', σ[i]? = some (some (.ref f)) ∧ H f = some (LamO f (mk c') body) ∧
  t σ H fun vs H1 => ∃ v, vs = [v] ∧ H1 f = some (LamO f (mk c') body) ∧ H1 (mk c').c = some (CodeO (mk c').c (mk c').qual) ∧ sp ws v H1 Q
theorem lam_fnAt {P : Program} {w : World} {H : Hp} {h : Heap} {f : Addr} {F : NF} {e : Expr} (ok : HOk P w H h) (q : H f = some (LamO f F e)) : PySem.W.FnAt f h := by
  obtain ⟨pm, ctv, z⟩ := lam_at ok q
  exact ⟨_, _, _, _, z⟩
theorem pe_callL {mk : Addr → NF} {body : Expr} {fr : List Str} {ws : List (Option V)} {sp : List (Option V) → V → Hp → VK → Prop} {i k j : Nat} {x : Str} {t : TA} {e : Expr} {p pos : Pos} (L : ∀ f c', LOk X.prog X.w X.K X.mg X.base k f (mk c') body fr sp) (hcells : ∀ pins σ H s c', Inv X pins σ H s → CellsAt (mk c').cl fr ws s.heap H)
    (hr : Room j X.A) (hk : k ≤ j) (hN : X.N[i]? = some x) (hv : Vis X.env.scope x) (ha : PA X [e] t) (hxe : ∀ v s, False → X.xe v s := fun _ _ z => z.elim)
    (hd : (x == ("__debug__" : Str)) = false := by decide) (hcd : (x == ("__classdict__" : Str)) = false := by decide)
    (he : starEach [e] X.env = (false, eval e X.env) :: starEach [] X.env := by rfl) (hpl : (backTo pos (starEach [] X.env)).any (·.1) = false := by rfl) :
    PE X (.Call (.Name x p) [e] [] pos) (tCallL mk body i ws sp t) := by
  refine ⟨fun pins s σ H Q I h => ?_⟩
  obtain ⟨f, c', hs, hf, ht⟩ := h
  refine wpAny_Call_Name_kw (thn ((pe_var (pos := p) hN hv hd hcd).run pins s σ H (fun v H1 => v = .ref f ∧ H1 = H) I ⟨.ref f, hs, rfl, rfl⟩) fun u s1 ⟨v, H1, I1, r1, q1⟩ => ?_)
  obtain ⟨ev, eH⟩ := q1
  subst ev
  rw [eH] at I1
  obtain rfl : u = Value.ref f := r1
  refine PySem.W.callWith_F (first := []) (lam_fnAt I1.hok hf) (thn (ha.run pos pins s1 σ H _ I1 ht) fun us s2 ⟨vs, H2, I2, r, v, ev, h1, h2, q⟩ => ⟨lam_fnAt I2.hok h1, ?_⟩) he hpl
  subst ev
  obtain ⟨u, rfl, ru⟩ := vals1 r
  show wpAny _ _ (call (.ref f) [u]) _ _ _
  refine wpAny_mono (wpAny_call (codeAny_mono ((L f c').run X.A X.stack s2 H2 u v ws Q (hr.mono hk) I2.env0 h1 h2 (hcells _ _ _ _ c' I2) ru q) fun res s' hq => ?_)) (fun _ _ z => z) (fun v s z => hxe v s z)
  cases res with
  | error e => exact hq
  | ok fl =>
    cases fl with
    | ret u => exact I2.after hq
    | next => exact False.elim hq
    | brk => exact False.elim hq
    | cont => exact False.elim hq
end
end Wd
end
section
/-! Rectangles, lists of points. -/
namespace Wd
open PySem PySem.Spec PyProof.Rows L2 LamX
local macro_rules | `(tactic| walk_at "w") => `(tactic| first
  | with_reducible refine w_var (by with_unfolding_all rfl) ?_
  | with_reducible refine w_aug (by with_unfolding_all rfl) ?_
  | with_reducible refine w_op ?_
  | with_reducible refine w_c ?_
  | with_reducible refine w_I0 ?_
  | with_reducible refine w_cons ?_
  | with_reducible refine w_nil ?_
  | with_reducible refine w_call ?_
  | with_reducible refine w_cb ?_
  | with_reducible refine w_seq ?_
  | with_reducible refine w_ret ?_
  | with_reducible refine w_set ?_
  | with_reducible refine w_if ?_
  | with_reducible refine w_test ?_
  | with_reducible refine w_B ?_
  | with_reducible refine w_k ?_
  | with_reducible refine w_and ?_
  | with_reducible refine w_or ?_
  | with_reducible refine w_not ?_
  | with_reducible refine w_andV ?_
  | with_reducible refine w_orV ?_
  | with_reducible refine w_notV ?_
  | with_reducible refine w_ifE ?_
  | with_reducible refine w_chain ?_
  | with_reducible refine w_un ?_
  | with_reducible refine w_U ?_
  | with_reducible refine w_isN ?_
  | with_reducible refine w_notN ?_
  | with_reducible refine w_T ?_
  | with_reducible refine w_F ?_
  | with_reducible refine w_next ?_
  | with_reducible refine w_drop ?_
  | with_reducible refine w_par2 ?_
  | with_reducible refine w_par3 ?_
  | with_reducible refine w_tup ?_
  | with_reducible refine w_lst ?_
  | with_reducible refine w_bm ?_
  | with_reducible refine w_bm0 ?_
  | with_reducible refine w_gname ?_
  | with_reducible refine w_gcons ?_
  | with_reducible refine w_lcI ?_
  | with_reducible refine w_lc2I ?_
  | with_reducible refine w_iTup ?_
  | with_reducible refine w_iList ?_
  | with_reducible refine w_yes ?_
  | with_reducible refine w_din ?_
  | with_reducible refine w_dput ?_
  | with_reducible refine w_dget2 ?_
  | with_reducible refine w_iEnum ?_
  | with_reducible refine w_sl ?_
  | with_reducible refine w_noP ?_
  | with_reducible refine w_part ?_
  | with_reducible refine w_asg ?_
  | with_reducible refine w_ip ?_
  | with_reducible refine w_cont ?_
  | with_reducible refine w_callD ?_
  | with_reducible refine w_thru ?_
  | with_reducible refine w_star ?_
  | with_reducible refine w_bits ?_
  | with_reducible refine w_revL ?_
  | with_reducible refine w_fld ?_
  | with_reducible refine w_dget ?_
  | with_reducible refine w_keys ?_
  | with_reducible refine w_gsub ?_
  | with_reducible refine w_fldaug ?_
  | with_reducible refine w_sfld ?_
  | with_reducible refine w_meth ?_
  | with_reducible refine w_make ?_
  | with_reducible refine w_ite (by with_unfolding_all rfl) ?_ | with_reducible refine w_itf (by with_unfolding_all rfl) ?_)
def unLo : Option Int → Option Int → Bool
  | none, _ => false
  | some _, none => true
  | some l, some b => decide (b < l)
def unHi : Option Int → Option Int → Bool
  | none, _ => false
  | some _, none => true
  | some l, some b => decide (l < b)
/-- a point as the key of a dict -/
def keyL (p : Pt) : List Key := [.inl p.1, .inl p.2]
theorem keyL_inj {p q : Pt} (h : keyL p = keyL q) : p = q := by
  unfold keyL at h
  injection h with h1 h2
  injection h2 with h2 _
  exact Prod.ext (Sum.inl.inj h1) (Sum.inl.inj h2)
theorem keyL_iff {p q : Pt} : keyL p = keyL q ↔ p = q := ⟨keyL_inj, fun h => by rw [h]⟩
def kn (ks : Kn) : List (List Key × V) := ks.map fun q => (keyL q.1, .bl q.2)
theorem kn_len (ks : Kn) : (kn ks).length = ks.length := List.length_map ..
theorem valV_kn (p : Pt) : ∀ ks : Kn, valV (kn ks) (keyL p) = (getB ks p).map V.bl
  | [] => rfl
  | q :: ks => by
    rw [getB_cons]
    show valV ((keyL q.1, V.bl q.2) :: kn ks) (keyL p) = _
    by_cases h : q.1 = p
    · rw [if_pos h, valV_pos (show (keyL q.1, V.bl q.2).1 = keyL p by rw [h])]
      rfl
    · rw [if_neg h, valV_neg (show ¬ (keyL q.1, V.bl q.2).1 = keyL p from fun z => h (keyL_inj z)), valV_kn p ks]
theorem putK_kn (ks : Kn) (p : Pt) (b : Bool) : putK (kn ks) (keyL p) (.bl b) = kn (putB ks p b) := by
  have ha : ((kn ks).any fun kv => decide (kv.1 = keyL p)) = (ks.any fun q => decide (q.1 = p)) := by
    unfold kn
    rw [List.any_map]
    congr 1
    funext q
    exact decide_eq_decide.mpr keyL_iff
  unfold putK putB
  rw [ha]
  split
  · unfold kn
    rw [List.map_map, List.map_map]
    refine List.map_congr_left fun q _ => ?_
    show (if keyL q.1 = keyL p then (keyL q.1, V.bl b) else (keyL q.1, V.bl q.2)) = (keyL (if q.1 = p then (q.1, b) else q).1, V.bl (if q.1 = p then (q.1, b) else q).2)
    by_cases h : q.1 = p
    · rw [if_pos h, if_pos (keyL_iff.mpr h)]
    · rw [if_neg h, if_neg fun z => h (keyL_inj z)]
  · unfold kn
    rw [List.map_append]
    rfl
theorem uncov_eq (r bx : Rect) (ax : Bool) : uncov r bx ax = (unLo (lo r ax) (lo bx ax) || unHi (hi r ax) (hi bx ax)) := by
  unfold uncov
  cases lo r ax <;> cases lo bx ax <;> cases hi r ax <;> cases hi bx ax <;> rfl
theorem w_unLo {σ : L2.St} {H : Hp} {i : Nat} {o b : Option Int} {te : TE} {Q : Bool → Hp → Prop} (hi : σ[i]? = some (some (oV o))) (he : ∀ Q' : VK, Q' (oV b) H → te σ H Q') (q : Q (unLo o b) H) :
    tAnd (tTest (tOp rNotN (tVar i) (tC .non))) (tOr (tTest (tOp rIsN te (tC .non))) (tTest (tOp (rI0 fun i j => .bl (decide (i < j))) te (tVar i)))) σ H Q := by
  refine w_and (w_test (w_op (w_var hi (w_c (w_notN ⟨_, rfl, ?_⟩)))))
  cases o with
  | none => exact w_itf (by rfl) q
  | some l =>
    refine w_ite (by rfl) (w_or (w_test (w_op (he _ (w_c (w_isN ⟨_, rfl, ?_⟩))))))
    cases b with
    | none => exact w_ite (by rfl) q
    | some b => exact w_itf (by rfl) (w_test (w_op (he _ (w_var hi (w_I0 ⟨_, rfl, q⟩)))))
theorem w_unHi {σ : L2.St} {H : Hp} {i : Nat} {o b : Option Int} {te : TE} {Q : Bool → Hp → Prop} (hi : σ[i]? = some (some (oV o))) (he : ∀ Q' : VK, Q' (oV b) H → te σ H Q') (q : Q (unHi o b) H) :
    tAnd (tTest (tOp rNotN (tVar i) (tC .non))) (tOr (tTest (tOp rIsN te (tC .non))) (tTest (tOp (rI0 fun i j => .bl (decide (j < i))) te (tVar i)))) σ H Q := by
  refine w_and (w_test (w_op (w_var hi (w_c (w_notN ⟨_, rfl, ?_⟩)))))
  cases o with
  | none => exact w_itf (by rfl) q
  | some l =>
    refine w_ite (by rfl) (w_or (w_test (w_op (he _ (w_c (w_isN ⟨_, rfl, ?_⟩))))))
    cases b with
    | none => exact w_ite (by rfl) q
    | some b => exact w_itf (by rfl) (w_test (w_op (he _ (w_var hi (w_I0 ⟨_, rfl, q⟩)))))
theorem cover_no {r bx : Rect} {ax : Bool} (h : uncov r bx ax = true) : cover r bx = false := by
  unfold cover
  cases ax
  · rw [h]
    rfl
  · rw [h]
    cases uncov r bx false <;> rfl
theorem cover_yes {r bx : Rect} (h1 : uncov r bx false = false) (h2 : uncov r bx true = false) : cover r bx = true := by
  unfold cover
  rw [h1, h2]
  rfl
section
variable {P : Program} {w : World} {K : PySem.W.Frag} {mg : Str → Option Value} {base : Heap} {aE C : Addr}
def spCovers (TT : List (Addr × Str)) : Sp := fun vs H Q _ => ∃ a r b bx, vs = [.ref a, .ref b] ∧ SqT K H a (rcL r) ∧ SqT K H b (rcL bx) ∧ ∀ H', Gr TT NoS H H' → Q (.bl (cover r bx)) H'
abbrev s_covers : Stmt := topS 31
abbrev N_covers : List Str := ["rectangle", "other", "axis", "low", "high"]
theorem sc_covers : FnScope N_covers ["rectangle", "other"] (C8.fnScope s_covers) := ⟨rfl, rfl, rfl, by decide +kernel, rfl, by decide +kernel, by decide +kernel⟩
theorem cal_covers {TT : List (Addr × Str)} {f : Addr} {fd : FuncData} (F : C8.Def K mg "covers" s_covers f fd) (b : Binds K fd ["rectangle", "other"] []) : C8.Cal P w K mg base 1 "covers" (spCovers (K := K) TT) [] := by
  refine C8.cal0 F b .nil sc_covers (fun vs H Q E h => ?_) (fun cdv A outer s H vs Q E hr h => ?_)
  · obtain ⟨a, r, b, bx, rfl, _⟩ := h
    rfl
  · obtain ⟨a, r, b, bx, rfl, ha, hb, k⟩ := h
    have nd := sc_covers.nd
    refine ⟨_, (pss_cons (ps_for PassesOwn.never rfl (pi_tup (pe_tup (pa_cons pe_int (pa_cons pe_int pa_nil)))) (pg_name (i := 2) nd rfl (Or.inl rfl)) (pss_cons (ps_par (i := 3) (j := 4) rfl nd rfl rfl (by decide) rfl rfl (pa_cons (pe_ix ix_tup (pv 0) (pv 2) (fun _ _ => rfl)) (pa_cons (pe_ix ix_tup (pv 0) (pe_op op_add (pv 2) pe_int) (fun _ _ => rfl)) pa_nil)) (by rfl))
  (pss_cons (ps_if (PW.pt (pw_and (pt_cmpR op_notN1 (pv 3) pe_non (nomark _)) (pw_and1 (PW.pt (pw_or (pt_cmpR op_isN1 (pe_ix ix_tup (pv 1) (pv 2) (fun _ _ => rfl)) pe_non (nomark _)) (pw_or1 (pt_cmpR op_lt (pe_ix ix_tup (pv 1) (pv 2) (fun _ _ => rfl)) (pv 3) (nomark _)))))))) (pss_one (ps_ret pe_bl)) pss_nil)
  (pss_one (ps_if (PW.pt (pw_and (pt_cmpR op_notN1 (pv 4) pe_non (nomark _)) (pw_and1 (PW.pt (pw_or (pt_cmpR op_isN1 (pe_ix ix_tup (pv 1) (pe_op op_add (pv 2) pe_int) (fun _ _ => rfl)) pe_non (nomark _)) (pw_or1 (pt_cmpR op_gt (pe_ix ix_tup (pv 1) (pe_op op_add (pv 2) pe_int) (fun _ _ => rfl)) (pv 4) (nomark _)))))))) (pss_one (ps_ret pe_bl)) pss_nil)))))
  (pss_one (ps_ret pe_bl))), ?_⟩
    repeat walk_at "w"
    refine w_axes TT fun e H1 g1 h1 => ⟨fun i σ' H' => (∃ v2 v3 v4, σ' = [some (.ref a), some (.ref b), v2, v3, v4]) ∧ Gr TT NoS H1 H' ∧ (1 ≤ i → uncov r bx false = false) ∧ (2 ≤ i → uncov r bx true = false), ⟨⟨_, _, _, rfl⟩, .refl _, fun z => by omega, fun z => by omega⟩, fun i σ' H' h => h.2.1, ?_, ?_⟩
    · rintro ax σ' H' ⟨⟨v2, v3, v4, rfl⟩, g2, m1, m2⟩
      have hra := (g1.trans g2).sqT ha
      have hrb := (g1.trans g2).sqT hb
      repeat walk_at "w"
      refine w_ixT hra ax_lo ?_
      repeat walk_at "w"
      refine w_ixT hra ax_hi ?_
      have no : uncov r bx ax = true → Q (.bl false) H' := fun z => by
        have k' := k _ (g1.trans g2)
        rw [cover_no z] at k'
        exact k'
      refine w_seq (w_if (w_unLo (by rfl) (fun Q' q => w_ixV (by rfl) (by rfl) hrb ax_lo q) (w_bool (fun c1 => ?_) (fun c1 => ?_))))
      · repeat walk_at "w"
        exact no (by rw [uncov_eq, c1]; rfl)
      · refine w_next (w_if (w_unHi (by rfl) (fun Q' q => w_op (w_var (by rfl) (w_op (w_var (by rfl) (w_c (w_I0 (w_ixT hrb ax_hi q))))))) (w_bool (fun c2 => ?_) (fun c2 => ?_))))
        · repeat walk_at "w"
          exact no (by rw [uncov_eq, c1, c2]; rfl)
        · refine w_next ⟨⟨_, _, _, rfl⟩, g2, fun z => ?_, fun z => ?_⟩
          · cases ax with
            | false => rw [uncov_eq, c1, c2]; rfl
            | true => exact m1 (by decide)
          · cases ax with
            | false => exact absurd z (by decide)
            | true => rw [uncov_eq, c1, c2]; rfl
    · rintro σ' H' ⟨_, g2, m1, m2⟩
      repeat walk_at "w"
      have k' := k _ (g1.trans g2)
      rw [cover_yes (m1 (by decide)) (m2 (by decide))] at k'
      exact k'
/-! ### rectangles that are told right -/
def eok : Option Int → Prop
  | none => True
  | some i => -(10 ^ 31) ≤ i ∧ i ≤ 10 ^ 31
def iok : Option Int → Option Int → Prop
  | some l, some h => l ≤ h
  | _, _ => True
def RcOk (r : Rect) : Prop := (eok r.1 ∧ eok r.2.2.1 ∧ iok r.1 r.2.2.1) ∧ eok r.2.1 ∧ eok r.2.2.2 ∧ iok r.2.1 r.2.2.2
theorem eok.sm {o : Option Int} (h : eok o) : SmO o := by
  cases o with
  | none => trivial
  | some i =>
    have h : -(10 ^ 31) ≤ i ∧ i ≤ 10 ^ 31 := h
    have h1 : (10 : Int) ^ 31 = 10000000000000000000000000000000 := by decide
    have h2 : (2 : Nat) ^ 120 = 1329227995784915872903807060280344576 := by decide
    show i.natAbs < 2 ^ 120
    rw [h1] at h
    rw [h2]
    omega
theorem RcOk.small {r : Rect} (h : RcOk r) : SmallR r := ⟨h.1.1.sm, h.2.1.sm, h.1.2.1.sm, h.2.2.1.sm⟩
def spInterval (TT : List (Addr × Str)) : Sp := fun vs H Q _ => ∃ l h, vs = [oV l, oV h] ∧ eok l ∧ eok h ∧ iok l h ∧ ∀ H', Gr TT NoS H H' → Q (.bl true) H'
abbrev s_is_interval : Stmt := topS 22
abbrev N_is_interval : List Str := ["low", "high", "value"]
theorem sc_is_interval : FnScope N_is_interval ["low", "high"] (C8.fnScope s_is_interval) := ⟨rfl, rfl, rfl, by decide +kernel, rfl, by decide +kernel, by decide +kernel⟩
theorem cal_is_interval {TT : List (Addr × Str)} {f : Addr} {fd : FuncData} (F : C8.Def K mg "is_interval" s_is_interval f fd) (b : Binds K fd ["low", "high"] []) (T : Txt K mg aE C) (c_is_between : C8.Cal P w K mg base 2 "is_between" spBetween []) : C8.Cal P w K mg base 3 "is_interval" (spInterval TT) [] := by
  refine C8.cal0 F b .nil sc_is_interval (fun vs H Q E h => ?_) (fun cdv A outer s H vs Q E hr h => ?_)
  · obtain ⟨l, h, rfl, _⟩ := h
    rfl
  · obtain ⟨l, h, rfl, hl, hh, hi, k⟩ := h
    have nd := sc_is_interval.nd
    refine ⟨_, (pss_cons (ps_if (pt_not (pt_val (pe_callB (cr_all rfl) (by rfl) T.nall (by decide +kernel) (pa_cons (pe_lc (own := [("value", 2)]) rfl nd (pi_tup (pe_tup (pa_cons (pv 0) (pa_cons (pv 1) pa_nil)))) (blkOk_by (own := [("value", 2)]) (N := N_is_interval) (sc := (C8.fnScope s_is_interval)) (by decide +kernel)) (fun _ _ _ _ _ => (pg_name (i := 2) nd rfl (Or.inl rfl))) (fun _ _ _ _ _ => L2.pts_nil) (fun _ _ _ _ _ => (pe_or (pe_cmpR op_isN1 (pv 2) pe_non (nomark _)) (pe_one (C8.pe_c c_is_between hr (by decide) (by rfl) (pa_cons (pv 2) (pa_cons (pe_un un_neg (C8.pe_gc (by rfl) T.gMAX_BOUND)) (pa_cons (C8.pe_gc (by rfl) T.gMAX_BOUND) pa_nil)))))))) pa_nil)))) (pss_one (ps_ret pe_bl)) pss_nil)
  (pss_one (ps_ret (pe_or (pe_cmpR op_isN1 (pv 0) pe_non (nomark _)) (pe_or (pe_cmpR op_isN1 (pv 1) pe_non (nomark _)) (pe_one (pe_cmpR op_le (pv 0) (pv 1) (nomark _)))))))), ?_⟩
    repeat walk_at "w"
    refine ⟨sz100 (Nat.le_of_ble_eq_true rfl), fun p hpp => ?_⟩; generalize eH2 : upd H p _ = H2; obtain ⟨g2, h2⟩ := new_facts TT hpp eH2; clear eH2
    refine ⟨p, rfl, ⟨_, SqT.of h2⟩, fun D hD => ?_⟩
    refine w_lc (L2.walk_tup (xs := [oV l, oV h])) TT NoS hD (fun i acc H' => acc = List.replicate i (.bl true)) rfl (fun i acc H' _ g _ _ => g.sqT (SqT.of h2)) ?_ ?_
    · rintro i x acc H' H'' hi hl' g hD' rfl ⟨rfl, hx⟩
      have fin : ∃ acc', H'' D = some (.lst acc') ∧ acc'.length < sizeLine ∧ LcP TT NoS H2 D (fun i acc H' => acc = List.replicate i (.bl true)) (i + 1) (upd H'' D (.lst (acc' ++ [.bl true]))) :=
        lc_yes g hD hD' hl' (by have : i < 2 := hi; omega) (List.replicate_succ' ..).symm
      obtain ⟨o, rfl, ho⟩ : ∃ o, x = oV o ∧ eok o := by
        match i, hx with
        | 0, hx => exact ⟨l, (Option.some.inj hx).symm, hl⟩
        | 1, hx => exact ⟨h, (Option.some.inj hx).symm, hh⟩
      refine w_gname ⟨rfl, w_yes (w_T (w_orV (w_op (w_var (by with_unfolding_all rfl) (w_c (w_isN ⟨_, rfl, ?_⟩))))))⟩
      cases o with
      | none => exact w_T fin
      | some z =>
        refine w_F ?_
        repeat walk_at "w"
        refine ⟨z, _, _, rfl, ?_⟩
        rw [decide_eq_true ho.1, decide_eq_true ho.2]
        exact fin
    · rintro acc H' g hD' hl' rfl
      repeat walk_at "w"
      refine ⟨D, [true, true], rfl, SqL.of hD', ?_⟩
      repeat walk_at "w"
      cases l with
      | none =>
        repeat walk_at "w"
        exact k _ (g2.trans g)
      | some l =>
        repeat walk_at "w"
        cases h with
        | none =>
          repeat walk_at "w"
          exact k _ (g2.trans g)
        | some h =>
          repeat walk_at "w"
          have hi : l ≤ h := hi
          rw [decide_eq_true hi]
          exact k _ (g2.trans g)
def spIsRect (TT : List (Addr × Str)) : Sp := fun vs H Q _ => ∃ a r, vs = [.ref a] ∧ H a = some (.tup (rcL r)) ∧ RcOk r ∧ ∀ H', Gr TT NoS H H' → Q (.bl true) H'
abbrev s_is_rectangle : Stmt := topS 23
abbrev N_is_rectangle : List Str := ["value"]
theorem sc_is_rectangle : FnScope N_is_rectangle ["value"] (C8.fnScope s_is_rectangle) := ⟨rfl, rfl, rfl, by decide +kernel, rfl, by decide +kernel, by decide +kernel⟩
theorem cal_is_rectangle {TT : List (Addr × Str)} {f : Addr} {fd : FuncData} (F : C8.Def K mg "is_rectangle" s_is_rectangle f fd) (b : Binds K fd ["value"] []) (T : Txt K mg aE C) (c_is_interval : C8.Cal P w K mg base 3 "is_interval" (spInterval TT) []) : C8.Cal P w K mg base 4 "is_rectangle" (spIsRect TT) [] := by
  refine C8.cal0 F b .nil sc_is_rectangle (fun vs H Q E h => ?_) (fun cdv A outer s H vs Q E hr h => ?_)
  · obtain ⟨a, r, rfl, _⟩ := h
    rfl
  · obtain ⟨a, r, rfl, ha, ok, k⟩ := h
    have nd := sc_is_rectangle.nd
    refine ⟨_, (pss_cons (ps_if (PW.pt (pw_or (pt_not (pt_val (pe_callB call_isi (by rfl) T.nisinstance (by decide +kernel) (pa_cons (pv 0) (pa_cons (pe_bltn (by rfl) T.ntuple (by decide +kernel) (show RelV (V.ty "tuple") (Value.type "tuple") from rfl)) pa_nil))))) (pw_or1 (pt_cmpR op_ne (pe_callB call_len_seq (by rfl) T.nlen (by decide +kernel) (pa_cons (pv 0) pa_nil)) pe_int (nomark _))))) (pss_one (ps_ret pe_bl)) pss_nil)
  (pss_one (ps_ret (pe_and (C8.pe_c c_is_interval hr (by decide) (by rfl) (pa_cons (pe_ix ix_tup (pv 0) pe_int (fun _ _ => rfl)) (pa_cons (pe_ix ix_tup (pv 0) pe_int (fun _ _ => rfl)) pa_nil))) (pe_one (C8.pe_c c_is_interval hr (by decide) (by rfl) (pa_cons (pe_ix ix_tup (pv 0) pe_int (fun _ _ => rfl)) (pa_cons (pe_ix ix_tup (pv 0) pe_int (fun _ _ => rfl)) pa_nil)))))))), ?_⟩
    repeat walk_at "w"
    refine ⟨_, _, _, _, true, rfl, .ty _, .base (.tup ha), kit_ty (by decide +kernel), ?_⟩
    repeat walk_at "w"
    refine ⟨a, _, rfl, .inr (SqT.of ha), ?_⟩
    repeat walk_at "w"
    refine ⟨rfl, ?_⟩
    repeat walk_at "w"
    refine w_ixT (SqT.of ha) (by rfl) ?_
    repeat walk_at "w"
    refine w_ixT (SqT.of ha) (by rfl) ?_
    repeat walk_at "w"
    refine ⟨r.1, r.2.2.1, rfl, ok.1.1, ok.1.2.1, ok.1.2.2, fun H1 g1 => ?_⟩
    have ha1 := g1.tup ha
    repeat walk_at "w"
    repeat walk_at "w"
    refine w_ixT (SqT.of ha1) (by rfl) ?_
    repeat walk_at "w"
    refine w_ixT (SqT.of ha1) (by rfl) ?_
    repeat walk_at "w"
    exact ⟨r.2.1, r.2.2.2, rfl, ok.2.1, ok.2.2.1, ok.2.2.2, fun H2 g2 => k _ (g1.trans g2)⟩
def spReqRect (TT : List (Addr × Str)) : Sp := fun vs H Q _ => ∃ a r, vs = [.ref a] ∧ H a = some (.tup (rcL r)) ∧ RcOk r ∧ ∀ H', Gr TT NoS H H' → Q .non H'
abbrev s_require_rectangle : Stmt := topS 24
abbrev N_require_rectangle : List Str := ["value"]
theorem sc_require_rectangle : FnScope N_require_rectangle ["value"] (C8.fnScope s_require_rectangle) := ⟨rfl, rfl, rfl, by decide +kernel, rfl, by decide +kernel, by decide +kernel⟩
theorem cal_require_rectangle {TT : List (Addr × Str)} {f : Addr} {fd : FuncData} (F : C8.Def K mg "require_rectangle" s_require_rectangle f fd) (b : Binds K fd ["value"] []) (c_is_rectangle : C8.Cal P w K mg base 4 "is_rectangle" (spIsRect TT) []) : C8.Cal P w K mg base 5 "require_rectangle" (spReqRect TT) [] := by
  refine C8.cal0 F b .nil sc_require_rectangle (fun vs H Q E h => ?_) (fun cdv A outer s H vs Q E hr h => ?_)
  · obtain ⟨a, r, rfl, _⟩ := h
    rfl
  · obtain ⟨a, r, rfl, ha, ok, k⟩ := h
    have nd := sc_require_rectangle.nd
    refine ⟨_, (pss_one (ps_if (pt_not (pt_val (C8.pe_c c_is_rectangle hr (by decide) (by rfl) (pa_cons (pv 0) pa_nil)))) (pss_one ps_never) pss_nil)), ?_⟩
    repeat walk_at "w"
    refine ⟨a, r, rfl, ha, ok, fun H1 g1 => ?_⟩
    repeat walk_at "w"
    exact k _ g1
/-! ### lists of points -/
def spReqPts (TT : List (Addr × Str)) : Sp := fun vs H Q _ => ∃ a xs ps, vs = [.ref a, .int 500, .int 0] ∧ H a = some (.lst xs) ∧ PtsV H xs ps ∧ ps.Nodup ∧ (∀ p ∈ ps, PtOk p) ∧ ps.length ≤ 100 ∧ ∀ H', Gr TT NoS H H' → Q .non H'
abbrev s_require_points : Stmt := topS 21
abbrev N_require_points : List Str := ["value", "most", "least", "seen", "index", "point"]
theorem sc_require_points : FnScope N_require_points ["value", "most", "least"] (C8.fnScope s_require_points) := ⟨rfl, rfl, rfl, by decide +kernel, rfl, by decide +kernel, by decide +kernel⟩
theorem cal_require_points {TT : List (Addr × Str)} {f : Addr} {fd : FuncData} {ds : List Value} (F : C8.Def K mg "require_points" s_require_points f fd) (b : Binds K fd ["value", "most", "least"] ds) (d : Vals [.int 500, .int 0] ds) (T : Txt K mg aE C) (c_is_point : C8.Cal P w K mg base 4 "is_point" spIsPoint []) : C8.Cal P w K mg base 5 "require_points" (spReqPts TT) [.int 500, .int 0] := by
  refine C8.cal0 F b d sc_require_points (fun vs H Q E h => ?_) (fun cdv A outer s H vs Q E hr h => ?_)
  · obtain ⟨a, xs, ps, rfl, _⟩ := h
    rfl
  · obtain ⟨a, xs, ps, rfl, ha, hps, hnd, hok, hlen, k⟩ := h
    have nd := sc_require_points.nd
    refine ⟨_, (pss_cons (ps_if (PW.pt (pw_or (pt_not (pt_val (pe_callB call_isiT (by rfl) T.nisinstance (by decide +kernel) (pa_cons (pv 0) (pa_cons (pe_tup (pa_cons (pe_bltn (by rfl) T.nlist (by decide +kernel) (show RelV (V.ty "list") (Value.type "list") from rfl)) (pa_cons (pe_bltn (by rfl) T.ntuple (by decide +kernel) (show RelV (V.ty "tuple") (Value.type "tuple") from rfl)) pa_nil))) pa_nil))))) (pw_or1 (pt_not (pt_chain op_le op_le (pv 2) (pe_callB call_len_seq (by rfl) T.nlen (by decide +kernel) (pa_cons (pv 0) pa_nil)) (pv 1)))))) (pss_one ps_never) pss_nil)
  (pss_cons (ps_set (i := 3) nd rfl (Or.inl rfl) pe_dnewT)
  (pss_one (ps_for PassesOwn.never rfl (pi_enum (by rfl) T.nenumerate (pa_cons (pv 0) pa_nil)) (pg_tup rfl (pgs_cons (pg_name (i := 4) nd rfl (Or.inl rfl)) (pgs_cons (pg_name (i := 5) nd rfl (Or.inl rfl)) pgs_nil))) (pss_cons (ps_if (PW.pt (pw_or (pt_not (pt_val (C8.pe_c c_is_point hr (by decide) (by rfl) (pa_cons (pv 5) pa_nil)))) (pw_or1 (pt_cmp (pc_din (hu_of hr) (pv 5) (pv 3)) (by rfl))))) (pss_one ps_never) pss_nil)
  (pss_one (ps_dput (hu_of hr) (pv 3) (pv 5) pe_bl rfl))))))), ?_⟩
    repeat walk_at "w"
    refine ⟨sz100 (Nat.le_of_ble_eq_true rfl), fun p hpp => ?_⟩; generalize eH2 : upd H p _ = H2; obtain ⟨g2, h2⟩ := new_facts TT hpp eH2; clear eH2
    have ha2 := g2.keepL0 ha
    repeat walk_at "w"
    refine ⟨_, p, _, _, _, true, rfl, h2, .cons (.ty _) (.cons (.ty _) .nil), .base (.lst ha2), kitAny_cons (b := true) (kit_ty (by decide +kernel)) (fun z => by cases z) (fun _ => rfl), ?_⟩
    repeat walk_at "w"
    refine ⟨a, _, rfl, .inl (SqL.of ha2), ?_⟩
    repeat walk_at "w"
    have hxl : xs.length = ps.length := hps.len
    rw [decide_eq_true (show (xs.length : Int) ≤ 500 by omega)]
    repeat walk_at "w"
    intro q hpq; generalize eH3 : upd H2 q _ = H3; obtain ⟨g3, h3⟩ := new_facts TT hpq eH3; clear eH3
    have ha3 := g3.keepL0 ha2
    repeat walk_at "w"
    with_reducible refine w_forI ?_
    repeat walk_at "w"
    refine ⟨a, xs, rfl, SqL.of ha3, for_it L2.walk_enum (fun i σ' H' => (∃ v4 v5, σ' = [some (.ref a), some (.int 500), some (.int 0), some (.ref q), v4, v5]) ∧ Gr TT NoS H2 H' ∧ H' q = some (.dT (kn (fresh (ps.take i))))) ⟨⟨_, _, rfl⟩, g3, h3⟩
      (fun i σ' H' _ m => SqL.of (m.2.1.keepL0 ha2)) ?_ ?_⟩
    · rintro i v σ' H' H'' hi ⟨⟨v4, v5, rfl⟩, g4, hq⟩ ⟨t, x, y, rfl, ht, rfl, hx, hy⟩
      obtain rfl : x = .int (i : Nat) := (Option.some.inj hx).symm
      generalize e5 : upd H' t _ = H5
      obtain ⟨g5, h5⟩ := new_facts TT ht e5
      clear e5
      obtain ⟨pt, hpt, hv⟩ := Al.get hps hy
      have hv5 := hv.gr (g2.trans (g4.trans g5))
      have hq5 := g5.at_ hq (fun z => z) plain_dT.1
      refine w_gtup (SqT.of h5) rfl (w_gcons (w_gname (w_gcons (w_gname (w_gnil ?_)))))
      repeat walk_at "w"
      refine ⟨y, pt, rfl, hv5, hok pt (List.mem_of_getElem? hpt), ?_⟩
      repeat walk_at "w"
      obtain ⟨ad, rfl, had⟩ := hv5
      have hno : pt ∉ keys (fresh (ps.take i)) := by
        rw [keys_fresh]
        intro z
        obtain ⟨j, hj⟩ := List.mem_iff_getElem?.mp z
        rw [List.getElem?_take] at hj
        split at hj
        · rename_i hlt
          have := (List.getElem?_inj (by have := (List.getElem?_eq_some_iff.mp hpt).1; omega) hnd).mp (hj.trans hpt.symm)
          omega
        · cases hj
      refine ⟨q, _, rfl, DGet.t (k := keyL pt) hq5 had, ?_⟩
      rw [valV_kn, getB_none.mpr hno]
      repeat walk_at "w"
      have hl : (kn (fresh (ps.take i))).length < 100000 := by
        rw [kn_len]
        unfold fresh
        rw [List.length_map, List.length_take]
        omega
      refine ⟨q, _, rfl, DPut.t (k := keyL pt) hq5 had (sz100' hl), ⟨_, _, rfl⟩, (g4.trans g5).mut' hpq hq5 plain_dT, ?_⟩
      rw [upd_same, putK_kn, putB_new hno]
      have e : ps.take (i + 1) = ps.take i ++ [pt] := by
        rw [List.take_add_one, hpt]
        rfl
      rw [e]
      unfold fresh
      rw [List.map_append]
      rfl
    · rintro σ' H' ⟨_, g4, _⟩
      exact k _ (g2.trans g4)
end
end Wd
end
section
/-! Middle trees. -/
namespace Wd
open PySem PySem.Spec PyProof.Rows L2 LamX NdefX
local macro_rules | `(tactic| walk_at "w") => `(tactic| first
  | with_reducible refine w_var (by with_unfolding_all rfl) ?_
  | with_reducible refine w_aug (by with_unfolding_all rfl) ?_
  | with_reducible refine w_op ?_
  | with_reducible refine w_c ?_
  | with_reducible refine w_I0 ?_
  | with_reducible refine w_cons ?_
  | with_reducible refine w_nil ?_
  | with_reducible refine w_call ?_
  | with_reducible refine w_cb ?_
  | with_reducible refine w_seq ?_
  | with_reducible refine w_ret ?_
  | with_reducible refine w_set ?_
  | with_reducible refine w_if ?_
  | with_reducible refine w_test ?_
  | with_reducible refine w_B ?_
  | with_reducible refine w_k ?_
  | with_reducible refine w_and ?_
  | with_reducible refine w_or ?_
  | with_reducible refine w_not ?_
  | with_reducible refine w_andV ?_
  | with_reducible refine w_orV ?_
  | with_reducible refine w_notV ?_
  | with_reducible refine w_ifE ?_
  | with_reducible refine w_chain ?_
  | with_reducible refine w_un ?_
  | with_reducible refine w_U ?_
  | with_reducible refine w_isN ?_
  | with_reducible refine w_notN ?_
  | with_reducible refine w_T ?_
  | with_reducible refine w_F ?_
  | with_reducible refine w_next ?_
  | with_reducible refine w_drop ?_
  | with_reducible refine w_par2 ?_
  | with_reducible refine w_par3 ?_
  | with_reducible refine w_tup ?_
  | with_reducible refine w_lst ?_
  | with_reducible refine w_bm ?_
  | with_reducible refine w_bm0 ?_
  | with_reducible refine w_gname ?_
  | with_reducible refine w_gcons ?_
  | with_reducible refine w_lcI ?_
  | with_reducible refine w_lc2I ?_
  | with_reducible refine w_iTup ?_
  | with_reducible refine w_iList ?_
  | with_reducible refine w_yes ?_
  | with_reducible refine w_din ?_
  | with_reducible refine w_dput ?_
  | with_reducible refine w_dget2 ?_
  | with_reducible refine w_iEnum ?_
  | with_reducible refine w_sl ?_
  | with_reducible refine w_noP ?_
  | with_reducible refine w_part ?_
  | with_reducible refine w_asg ?_
  | with_reducible refine w_ip ?_
  | with_reducible refine w_cont ?_
  | with_reducible refine w_callD ?_
  | with_reducible refine w_thru ?_
  | with_reducible refine w_star ?_
  | with_reducible refine w_bits ?_
  | with_reducible refine w_revL ?_
  | with_reducible refine w_fld ?_
  | with_reducible refine w_dget ?_
  | with_reducible refine w_keys ?_
  | with_reducible refine w_gsub ?_
  | with_reducible refine w_fldaug ?_
  | with_reducible refine w_sfld ?_
  | with_reducible refine w_meth ?_
  | with_reducible refine w_make ?_
  | with_reducible refine w_ite (by with_unfolding_all rfl) ?_ | with_reducible refine w_itf (by with_unfolding_all rfl) ?_)
/-- the lambda of halves: the key of a point on the captured axis -/
def spKey (TT : List (Addr × Str)) : List (Option V) → V → Hp → VK → Prop := fun ws v H Q => ∃ p ax, ws = [some (axV ax)] ∧ PtV H v p ∧ ∀ kv H', Gr TT NoS H H' → PtV H' kv (keyP ax p) → Q kv H'
theorem key_go {TT : List (Addr × Str)} {ws : List (Option V)} {v : V} {H : Hp} {Q : VK} (h : spKey TT ws v H Q) : tCall (spKeyOf TT) [] C8.E0 (tCons (tVar 0) (tCons (tVar 1) tNil)) (startF ["point", "axis"] [v] ws) H Q := by
  obtain ⟨p, ax, rfl, hp, k⟩ := h
  refine w_call (w_cons (w_var (by rfl) (w_cons (w_var (by rfl) (w_nil ?_)))))
  exact ⟨v, p, ax, rfl, hp, k⟩
theorem all_pairs {β : Type} (f g : β → Int) {bs : List β} : PySem.W.AllAlike (bs.map fun b => PyData.tuple [.int (f b), .int (g b)]) := by
  intro d hd d' hd'
  obtain ⟨b, _, rfl⟩ := List.mem_map.mp hd
  obtain ⟨b', _, rfl⟩ := List.mem_map.mp hd'
  rfl
theorem sort_pairs {β : Type} (f g : β → Int) {bs : List β} : PySem.W.Sortable (bs.map fun b => PyData.tuple [.int (f b), .int (g b)]) := by
  refine .inl fun d hd => ?_
  obtain ⟨b, _, rfl⟩ := List.mem_map.mp hd
  exact ⟨_, _, rfl⟩
theorem all_ints {β : Type} (f : β → Int) {bs : List β} : PySem.W.AllAlike (bs.map fun b => PyData.int (f b)) := by
  intro d hd d' hd'
  obtain ⟨b, _, rfl⟩ := List.mem_map.mp hd
  obtain ⟨b', _, rfl⟩ := List.mem_map.mp hd'
  rfl
theorem sort_ints {β : Type} (f : β → Int) {bs : List β} : PySem.W.Sortable (bs.map fun b => PyData.int (f b)) := by
  refine .inr fun d hd => ?_
  obtain ⟨b, _, rfl⟩ := List.mem_map.mp hd
  exact ⟨fun z => (by cases z), fun xs z => (by cases z)⟩
section
variable {P : Program} {w : World} {K : PySem.W.Frag} {mg : Str → Option Value} {base : Heap} {aE C : Addr}
def spHalves (TT : List (Addr × Str)) : Sp := fun vs H Q _ => ∃ a xs ps ax, vs = [.ref a, axV ax] ∧ SqL K H a xs ∧ PtsV H xs ps ∧ ps ≠ [] ∧ ps.length ≤ 100 ∧ Tabs TT H ∧
  ∀ p t pv l h ls hs H', (srt ax ps)[ps.length / 2]? = some p → Gr TT NoS H H' → H' t = some (.tup [pv, .ref l, .ref h]) → PtV H' pv p → H' l = some (.lst ls) → PtsV H' ls ((srt ax ps).take (ps.length / 2)) → H' h = some (.lst hs) → PtsV H' hs ((srt ax ps).drop (ps.length / 2 + 1)) → Q (.ref t) H'
abbrev s_halves : Stmt := topS 35
abbrev N_halves : List Str := ["points", "axis", "row", "place"]
theorem sc_halves : FnScope N_halves ["points", "axis"] (C8.fnScope s_halves) := ⟨rfl, rfl, rfl, by decide +kernel, rfl, by decide +kernel, by decide +kernel⟩
theorem cal_halves {TT : List (Addr × Str)} {c : Addr} {f : Addr} {fd : FuncData} (F : C8.Def K mg "halves" s_halves f fd) (hc : fd.code = .ref c) (b : Binds K fd ["points", "axis"] []) (T : Txt K mg aE C) (mk : Mkr base mg TT c (Str.ofString "halves" ++ ".<locals>.")) (c_key_of : C8.Cal P w K mg base 1 "key_of" (spKeyOf TT) []) : C8.Cal P w K mg base 5 "halves" (spHalves (K := K) TT) [] := by
  refine cal0M F hc b .nil sc_halves (fun vs H Q E h => ?_) (fun A outer s H vs Q E hr h => ?_)
  · obtain ⟨a, xs, ps, ax, rfl, _⟩ := h
    rfl
  · obtain ⟨a, xs, ps, ax, rfl, ha, hps, hne, hlen, tabs, k⟩ := h
    have nd := sc_halves.nd
    obtain ⟨P', tb, tm, tu⟩ := mk.ex
    refine ⟨_, (pss_cons (ps_set (i := 2) nd rfl (Or.inl rfl) (pe_sortL (N' := ["point", "axis"]) (x' := "point") (fr := ["axis"]) (js := [1]) (sp := spKey TT) (k := 1) tb rfl tm tu (by rfl) (show ndefB (C8.fnScope s_halves) _ _ = true from by decide +kernel) (nscope_by (by decide +kernel)) (fun _ _ _ _ _ _ => by rfl) (by rfl) hr (by decide) (fun f1 c1 A1 o1 s1 H1 v1 ws1 Q1 hr1 _ q1 => ⟨_, C8.pe_c c_key_of hr1 (by decide) (by rfl) (pa_cons (pv 0) (pa_cons (pv 1) pa_nil)), key_go q1⟩) (by rfl) T.nsorted (pa_cons (pv 0) pa_nil)))
  (pss_cons (ps_set (i := 3) nd rfl (Or.inl rfl) (pe_op op_fdiv (pe_callB call_len_seq (by rfl) T.nlen (by decide +kernel) (pa_cons (pv 2) pa_nil)) pe_int))
  (pss_one (ps_ret (pe_tup (pa_cons (pe_ix ix_list (pv 2) (pv 3) (fun _ _ => rfl)) (pa_cons (pe_slice sl_list (pv 2) po_none (po_some (pv 3))) (pa_cons (pe_slice sl_list (pv 2) (po_some (pe_op op_add (pv 3) pe_int)) po_none) pa_nil)))))))), ?_⟩
    repeat walk_at "w"
    show tSortL _ _ _ _ _ _ _ _
    unfold tSortL
    repeat walk_at "w"
    refine ⟨a, xs, rfl, ha, tabs, Pt, ps, PtV H, fun p => .tuple [.int (kx ax p), .int (ky ax p)], hps, all_pairs _ _, sort_pairs _ _, fun d hd => ?_, fun x p H1 hp _ g1 => ?_, fun ys q H1 hys g1 hq => ?_⟩
    · obtain ⟨p, _, rfl⟩ := List.mem_map.mp hd
      exact Nat.le_of_ble_eq_true rfl
    · exact ⟨p, ax, rfl, hp.gr g1, fun kv H2 g2 hk => ⟨g2, .inr ⟨keyP ax p, hk, rfl⟩⟩⟩
    rw [PySem.W.dataLe_ii] at hys
    have hys : PtsV H ys (srt ax ps) := hys
    generalize e2 : upd H1 q _ = H2
    obtain ⟨g2, h2⟩ := new_facts TT hq e2
    clear e2
    have hl := hys.len
    rw [srt_len] at hl
    repeat walk_at "w"
    refine ⟨q, _, rfl, .inl (SqL.of h2), ?_⟩
    rw [hl]
    repeat walk_at "w"
    refine w_I ⟨by decide, by decide⟩ ?_
    have ediv : ((ps.length : Nat) : Int) / 2 = ((ps.length / 2 : Nat) : Int) := by omega
    rw [ediv]
    have hlt : ps.length / 2 < ys.length := by
      have := List.length_pos_iff.mpr hne
      omega
    repeat walk_at "w"
    refine w_ixL (SqL.of h2) (L2.atI_nat (List.getElem?_eq_getElem hlt)) ?_
    obtain ⟨p, hp, hpv⟩ := Al.get hys (List.getElem?_eq_getElem hlt)
    generalize ys[ps.length / 2] = pv at hpv
    repeat walk_at "w"
    refine ⟨_, rfl, ?_⟩
    refine w_rslL (SqL.of h2) ?_
    intro l hpl; generalize eH3 : upd H2 l _ = H3; obtain ⟨g3, h3⟩ := new_facts TT hpl eH3; clear eH3
    rw [cut_to] at h3
    have h2' := g3.keepL0 h2
    repeat walk_at "w"
    refine ⟨_, rfl, ?_⟩
    repeat walk_at "w"
    refine w_rslL (SqL.of h2') ?_
    intro h hph; generalize eH4 : upd H3 h _ = H4; obtain ⟨g4, h4⟩ := new_facts TT hph eH4; clear eH4
    rw [show ((ps.length / 2 : Nat) : Int) + 1 = ((ps.length / 2 + 1 : Nat) : Int) by omega, cut_from] at h4
    repeat walk_at "w"
    refine ⟨sz100 (Nat.le_of_ble_eq_true rfl), fun t hpt => ?_⟩; generalize eH5 : upd H4 t _ = H5; obtain ⟨g5, h5⟩ := new_facts TT hpt eH5; clear eH5
    have G := g1.trans (g2.trans (g3.trans (g4.trans g5)))
    exact k p t pv l h _ _ H5 hp G h5 (hpv.gr G) ((g4.trans g5).keepL0 h3) (Al.imp (hys.take _) fun _ _ z => z.gr G) (g5.keepL0 h4) (Al.imp (hys.drop _) fun _ _ z => z.gr G)
def spBuilt (TT : List (Addr × Str)) (d : Nat) : Sp := fun vs H Q _ => ∃ a xs ps ax, vs = [.ref a, axV ax] ∧ SqL K H a xs ∧ PtsV H xs ps ∧ ps.length < 2 ^ d ∧ ps.length ≤ 100 ∧ Tabs TT H ∧ ∀ v H', Gr TT NoS H H' → TrV H' v (bt d ax ps) → Q v H'
abbrev s_built_from : Stmt := topS 36
abbrev N_built_from : List Str := ["points", "axis", "root", "low", "high"]
theorem sc_built_from : FnScope N_built_from ["points", "axis"] (C8.fnScope s_built_from) := ⟨rfl, rfl, rfl, by decide +kernel, rfl, by decide +kernel, by decide +kernel⟩
theorem built_step {TT : List (Addr × Str)} {f : Addr} {fd : FuncData} (F : C8.Def K mg "built_from" s_built_from f fd) (b : Binds K fd ["points", "axis"] []) (T : Txt K mg aE C) (c_halves : C8.Cal P w K mg base 5 "halves" (spHalves (K := K) TT) []) {d : Nat} {sp0 : Sp} (h0 : ∀ d', d = d' + 1 → sp0 = spBuilt (K := K) TT d')
    (c_built_from : C8.Cal P w K mg base (5 + d) "built_from" sp0 []) : C8.Cal P w K mg base (6 + d) "built_from" (spBuilt (K := K) TT d) [] := by
  rw [show 6 + d = (5 + d) + 1 by omega]
  refine C8.cal0 F b .nil sc_built_from (fun vs H Q E h => ?_) (fun cdv A outer s H vs Q E hr h => ?_)
  · obtain ⟨a, xs, ps, ax, rfl, _⟩ := h
    rfl
  · obtain ⟨a, xs, ps, ax, rfl, ha, hps, hlt, hlen, tabs, k⟩ := h
    have nd := sc_built_from.nd
    refine ⟨_, (pss_cons (ps_if (pt_cmpR op_eq (pe_callB call_len_seq (by rfl) T.nlen (by decide +kernel) (pa_cons (pv 0) pa_nil)) pe_int (nomark _)) (pss_one (ps_ret pe_non)) pss_nil)
  (pss_cons (ps_asg (C8.pe_c c_halves hr (by omega) (by rfl) (pa_cons (pv 0) (pa_cons (pv 1) pa_nil))) (pg_tup rfl (pgs_cons (pg_name (i := 2) nd rfl (Or.inl rfl)) (pgs_cons (pg_name (i := 3) nd rfl (Or.inl rfl)) (pgs_cons (pg_name (i := 4) nd rfl (Or.inl rfl)) pgs_nil)))))
  (pss_one (ps_ret (pe_tup (pa_cons (pv 2) (pa_cons (C8.pe_c c_built_from hr (by omega) (by rfl) (pa_cons (pv 3) (pa_cons (pe_op op_sub pe_int (pv 1)) pa_nil))) (pa_cons (C8.pe_c c_built_from hr (by omega) (by rfl) (pa_cons (pv 4) (pa_cons (pe_op op_sub pe_int (pv 1)) pa_nil))) pa_nil)))))))), ?_⟩
    repeat walk_at "w"
    refine ⟨a, _, rfl, .inl ha, ?_⟩
    have hl := hps.len
    rw [hl]
    repeat walk_at "w"
    refine ⟨rfl, ?_⟩
    repeat walk_at "w"
    refine w_dec (fun c0 => ?_) (fun c0 => ?_)
    · repeat walk_at "w"
      have hp0 : ps = [] := List.length_eq_zero_iff.mp (by injection c0 with c0; omega)
      refine k _ _ (.refl H) ?_
      rw [hp0, bt_nil]
      exact rfl
    · have hne : ps ≠ [] := fun z => c0 (by rw [z]; rfl)
      have hpos := List.length_pos_iff.mpr hne
      obtain ⟨d', rfl⟩ : ∃ d', d = d' + 1 := by
        cases d with
        | zero => rw [Nat.pow_zero] at hlt; omega
        | succ d' => exact ⟨d', rfl⟩
      obtain rfl := h0 d' rfl
      repeat walk_at "w"
      refine ⟨a, xs, ps, ax, rfl, ha, hps, hne, hlen, tabs, fun p t pv l h ls hs H1 hp g1 ht hpv hl1 hls hh1 hhs => ?_⟩
      obtain ⟨p', hp', hbt⟩ := bt_cons (d := d') (ax := ax) hne
      obtain rfl : p' = p := Option.some.inj (hp'.symm.trans hp)
      obtain ⟨lt1, lt2⟩ := half_lt hlt
      refine w_gtup (SqT.of ht) rfl (w_gcons (w_gname (w_gcons (w_gname (w_gcons (w_gname (w_gnil ?_)))))))
      have eax : (1 : Int) - (if ax then 1 else 0) = (if (!ax) = true then 1 else 0) := by cases ax <;> rfl
      repeat walk_at "w"
      rw [eax]
      refine ⟨l, ls, _, !ax, rfl, SqL.of hl1, hls, by rw [List.length_take, srt_len]; omega, by rw [List.length_take, srt_len]; omega, g1.tb tabs, fun lv H2 g2 hlv => ?_⟩
      repeat walk_at "w"
      rw [eax]
      refine ⟨h, hs, _, !ax, rfl, SqL.of (g2.keepL0 hh1), hhs.gr g2, by rw [List.length_drop, srt_len]; omega, by rw [List.length_drop, srt_len]; omega, g2.tb (g1.tb tabs), fun hv H3 g3 hhv => ?_⟩
      repeat walk_at "w"
      refine ⟨sz100 (Nat.le_of_ble_eq_true rfl), fun q hpq => ?_⟩; generalize eH4 : upd H3 q _ = H4; obtain ⟨g4, h4⟩ := new_facts TT hpq eH4; clear eH4
      refine k _ _ (g1.trans (g2.trans (g3.trans g4))) ?_
      rw [hbt]
      exact ⟨q, pv, lv, hv, rfl, h4, hpv.gr (g2.trans (g3.trans g4)), hlv.gr (g3.trans g4), hhv.gr g4⟩
theorem cal_never {x : Str} {st : Stmt} {f : Addr} {fd : FuncData} {ps : List Str} {k : Nat} (F : C8.Def K mg x st f fd) (b : Binds K fd ps []) : C8.Cal P w K mg base k x (fun _ _ _ _ => False) [] :=
  ⟨f, fd, ps, [], ⟨fun _ _ _ _ z => z.elim, fun _ _ _ _ _ _ _ _ _ _ _ _ _ z => z.elim⟩, F.mgf, F.kp, b, .nil⟩
theorem cal_built {TT : List (Addr × Str)} {f : Addr} {fd : FuncData} (F : C8.Def K mg "built_from" s_built_from f fd) (b : Binds K fd ["points", "axis"] []) (T : Txt K mg aE C) (c_halves : C8.Cal P w K mg base 5 "halves" (spHalves (K := K) TT) []) : ∀ d : Nat, C8.Cal P w K mg base (6 + d) "built_from" (spBuilt (K := K) TT d) []
  | 0 => built_step F b T c_halves (sp0 := fun _ _ _ _ => False) (fun d' z => by omega) (cal_never F b)
  | d + 1 => built_step F b T c_halves (fun d' z => by rw [Nat.succ.inj z]) (by rw [show 5 + (d + 1) = 6 + d by omega]; exact cal_built F b T c_halves d)
end
end Wd
end
section
/-! Middle trees: looked at, read. -/
namespace Wd
open PySem PySem.Spec PyProof.Rows L2 LamX
local macro_rules | `(tactic| walk_at "w") => `(tactic| first
  | with_reducible refine w_var (by with_unfolding_all rfl) ?_
  | with_reducible refine w_aug (by with_unfolding_all rfl) ?_
  | with_reducible refine w_op ?_
  | with_reducible refine w_c ?_
  | with_reducible refine w_I0 ?_
  | with_reducible refine w_cons ?_
  | with_reducible refine w_nil ?_
  | with_reducible refine w_call ?_
  | with_reducible refine w_cb ?_
  | with_reducible refine w_seq ?_
  | with_reducible refine w_ret ?_
  | with_reducible refine w_set ?_
  | with_reducible refine w_if ?_
  | with_reducible refine w_test ?_
  | with_reducible refine w_B ?_
  | with_reducible refine w_k ?_
  | with_reducible refine w_and ?_
  | with_reducible refine w_or ?_
  | with_reducible refine w_not ?_
  | with_reducible refine w_andV ?_
  | with_reducible refine w_orV ?_
  | with_reducible refine w_notV ?_
  | with_reducible refine w_ifE ?_
  | with_reducible refine w_chain ?_
  | with_reducible refine w_un ?_
  | with_reducible refine w_U ?_
  | with_reducible refine w_isN ?_
  | with_reducible refine w_notN ?_
  | with_reducible refine w_T ?_
  | with_reducible refine w_F ?_
  | with_reducible refine w_next ?_
  | with_reducible refine w_drop ?_
  | with_reducible refine w_par2 ?_
  | with_reducible refine w_par3 ?_
  | with_reducible refine w_tup ?_
  | with_reducible refine w_lst ?_
  | with_reducible refine w_bm ?_
  | with_reducible refine w_bm0 ?_
  | with_reducible refine w_gname ?_
  | with_reducible refine w_gcons ?_
  | with_reducible refine w_lcI ?_
  | with_reducible refine w_lc2I ?_
  | with_reducible refine w_iTup ?_
  | with_reducible refine w_iList ?_
  | with_reducible refine w_yes ?_
  | with_reducible refine w_din ?_
  | with_reducible refine w_dput ?_
  | with_reducible refine w_dget2 ?_
  | with_reducible refine w_iEnum ?_
  | with_reducible refine w_sl ?_
  | with_reducible refine w_noP ?_
  | with_reducible refine w_part ?_
  | with_reducible refine w_asg ?_
  | with_reducible refine w_ip ?_
  | with_reducible refine w_cont ?_
  | with_reducible refine w_callD ?_
  | with_reducible refine w_thru ?_
  | with_reducible refine w_star ?_
  | with_reducible refine w_bits ?_
  | with_reducible refine w_revL ?_
  | with_reducible refine w_fld ?_
  | with_reducible refine w_dget ?_
  | with_reducible refine w_keys ?_
  | with_reducible refine w_gsub ?_
  | with_reducible refine w_fldaug ?_
  | with_reducible refine w_sfld ?_
  | with_reducible refine w_meth ?_
  | with_reducible refine w_make ?_
  | with_reducible refine w_ite (by with_unfolding_all rfl) ?_ | with_reducible refine w_itf (by with_unfolding_all rfl) ?_)
def tsz : Tree → Nat
  | .nil => 0
  | .node _ l r => tsz l + tsz r + 1
theorem tsz_rd : ∀ t : Tree, (rd t).length = tsz t
  | .nil => rfl
  | .node p l r => by
    show (p :: (rd l ++ rd r)).length = _
    rw [List.length_cons, List.length_append, tsz_rd l, tsz_rd r]
    rfl
def tok (t : Tree) : Prop := ∀ q ∈ rd t, PtOk q
theorem tok_node {p : Pt} {l r : Tree} (h : tok (.node p l r)) : PtOk p ∧ tok l ∧ tok r :=
  ⟨h p (List.mem_cons_self ..), fun q hq => h q (List.mem_cons_of_mem _ (List.mem_append_left _ hq)), fun q hq => h q (List.mem_cons_of_mem _ (List.mem_append_right _ hq))⟩
section
variable {P : Program} {w : World} {K : PySem.W.Frag} {mg : Str → Option Value} {base : Heap} {aE C : Addr}
def spIsNode : Sp := fun vs H Q _ => ∃ v p l r, vs = [v] ∧ TrV H v (.node p l r) ∧ PtOk p ∧ Q (.bl true) H
abbrev s_is_node : Stmt := topS 37
abbrev N_is_node : List Str := ["value"]
theorem sc_is_node : FnScope N_is_node ["value"] (C8.fnScope s_is_node) := ⟨rfl, rfl, rfl, by decide +kernel, rfl, by decide +kernel, by decide +kernel⟩
theorem cal_is_node {f : Addr} {fd : FuncData} (F : C8.Def K mg "is_node" s_is_node f fd) (b : Binds K fd ["value"] []) (T : Txt K mg aE C) (c_is_point : C8.Cal P w K mg base 4 "is_point" spIsPoint []) : C8.Cal P w K mg base 5 "is_node" spIsNode [] := by
  refine C8.cal0 F b .nil sc_is_node (fun vs H Q E h => ?_) (fun cdv A outer s H vs Q E hr h => ?_)
  · obtain ⟨v, p, l, r, rfl, _⟩ := h
    rfl
  · obtain ⟨v, p, l, r, rfl, ⟨a, qv, lv, rv, rfl, ha, hp, _, _⟩, ok, k⟩ := h
    have nd := sc_is_node.nd
    refine ⟨_, (pss_one (ps_ret (pe_and (pe_callB call_isi (by rfl) T.nisinstance (by decide +kernel) (pa_cons (pv 0) (pa_cons (pe_bltn (by rfl) T.ntuple (by decide +kernel) (show RelV (V.ty "tuple") (Value.type "tuple") from rfl)) pa_nil))) (pe_and (pe_cmpR op_eq (pe_callB call_len_seq (by rfl) T.nlen (by decide +kernel) (pa_cons (pv 0) pa_nil)) pe_int (nomark _)) (pe_one (C8.pe_c c_is_point hr (by decide) (by rfl) (pa_cons (pe_ix ix_tup (pv 0) pe_int (fun _ _ => rfl)) pa_nil))))))), ?_⟩
    repeat walk_at "w"
    refine ⟨_, _, _, _, true, rfl, .ty _, .base (.tup ha), kit_ty (by decide +kernel), ?_⟩
    repeat walk_at "w"
    refine ⟨a, _, rfl, .inr (SqT.of ha), ?_⟩
    repeat walk_at "w"
    refine ⟨rfl, ?_⟩
    repeat walk_at "w"
    refine w_ixT (SqT.of ha) (by rfl) ?_
    repeat walk_at "w"
    exact ⟨qv, p, rfl, hp, ok, k⟩
/-! ### bounds: keys -/
abbrev Bd := Option Pt × Option Pt × Option Pt × Option Pt
def blo (b : Bd) (ax : Bool) : Option Pt := if ax then b.2.1 else b.1
def bhi (b : Bd) (ax : Bool) : Option Pt := if ax then b.2.2.2 else b.2.2.1
def OpV (H : Hp) (v : V) : Option Pt → Prop
  | none => v = .non
  | some q => PtV H v q
theorem OpV.gr {T : List (Addr × Str)} {S : Addr → Prop} {H H1 : Hp} {v : V} {o : Option Pt} (h : OpV H v o) (g : Gr T S H H1) : OpV H1 v o := by
  cases o with
  | none => exact h
  | some q => exact PtV.gr h g
def BdV (K : PySem.W.Frag) (H : Hp) (a : Addr) (b : Bd) : Prop := ∃ v0 v1 v2 v3, SqT K H a [v0, v1, v2, v3] ∧ OpV H v0 b.1 ∧ OpV H v1 b.2.1 ∧ OpV H v2 b.2.2.1 ∧ OpV H v3 b.2.2.2
theorem BdV.gr {T : List (Addr × Str)} {S : Addr → Prop} {H H1 : Hp} {a : Addr} {b : Bd} (h : BdV K H a b) (g : Gr T S H H1) : BdV K H1 a b := by
  obtain ⟨v0, v1, v2, v3, h, h0, h1, h2, h3⟩ := h
  exact ⟨v0, v1, v2, v3, g.sqT h, h0.gr g, h1.gr g, h2.gr g, h3.gr g⟩
theorem BdV.lo {H : Hp} {a : Addr} {b : Bd} (h : BdV K H a b) (ax : Bool) : ∃ xs v, SqT K H a xs ∧ atI xs (if ax then 1 else 0) = some v ∧ OpV H v (blo b ax) := by
  obtain ⟨v0, v1, v2, v3, h, h0, h1, h2, h3⟩ := h
  cases ax
  · exact ⟨_, v0, h, rfl, h0⟩
  · exact ⟨_, v1, h, rfl, h1⟩
theorem BdV.hi {H : Hp} {a : Addr} {b : Bd} (h : BdV K H a b) (ax : Bool) : ∃ xs v, SqT K H a xs ∧ atI xs ((if ax then 1 else 0) + 2) = some v ∧ OpV H v (bhi b ax) := by
  obtain ⟨v0, v1, v2, v3, h, h0, h1, h2, h3⟩ := h
  cases ax
  · exact ⟨_, v2, h, rfl, h2⟩
  · exact ⟨_, v3, h, rfl, h3⟩
def bcut (b : Bd) (ax : Bool) (k : Pt) (side : Bool) : Bd := match ax, side with
  | false, true => (some k, b.2.1, b.2.2.1, b.2.2.2)
  | false, false => (b.1, b.2.1, some k, b.2.2.2)
  | true, true => (b.1, some k, b.2.2.1, b.2.2.2)
  | true, false => (b.1, b.2.1, b.2.2.1, some k)
theorem BdV.cut {H : Hp} {a : Addr} {b : Bd} (h : BdV K H a b) : ∃ xs, SqT K H a xs ∧ xs.length = 4 ∧ ∀ {H1 : Hp} {p : Addr} {kv : V} {k : Pt} {T : List (Addr × Str)} {S : Addr → Prop} {ax sd : Bool}, Gr T S H H1 → PtV H1 kv k → H1 p = some (.tup (xs.set (cutIx ax sd) kv)) → BdV K H1 p (bcut b ax k sd) := by
  obtain ⟨v0, v1, v2, v3, h, h0, h1, h2, h3⟩ := h
  refine ⟨_, h, rfl, fun {H1 p kv k T S ax sd} g hk hp => ?_⟩
  have h0 := h0.gr g
  have h1 := h1.gr g
  have h2 := h2.gr g
  have h3 := h3.gr g
  cases ax <;> cases sd
  · exact ⟨v0, v1, kv, v3, SqT.of hp, h0, h1, hk, h3⟩
  · exact ⟨kv, v1, v2, v3, SqT.of hp, hk, h1, h2, h3⟩
  · exact ⟨v0, v1, v2, kv, SqT.of hp, h0, h1, h2, hk⟩
  · exact ⟨v0, kv, v2, v3, SqT.of hp, h0, hk, h2, h3⟩
def fitAx (b : Bd) (p : Pt) (ax : Bool) : Prop := (∀ q, blo b ax = some q → le false (keyP ax p) q = false) ∧ ∀ q, bhi b ax = some q → le false q (keyP ax p) = false
def Fit (b : Bd) (t : Tree) : Prop := ∀ p ∈ rd t, ∀ ax, fitAx b p ax
theorem w_notLe {TT : List (Addr × Str)} {σ : L2.St} {H : Hp} {i : Nat} {o : Option Pt} {x : V} {te : TE} {g : Pt → Pt → Bool} {kp : Pt} {Q : Bool → Hp → Prop} (hi : σ[i]? = some (some x)) (ho : OpV H x o) (he : ∀ Q' : VK, (∀ kv H4, Gr TT NoS H H4 → PtV H4 kv kp → Q' kv H4) → te σ H Q')
    (f : ∀ q, o = some q → g kp q = false) (q : ∀ H4, Gr TT NoS H H4 → Q false H4) : tAnd (tTest (tOp rNotN (tVar i) (tC .non))) (tTest (tOp (rP g) te (tVar i))) σ H Q := by
  refine w_and (w_test (w_op (w_var hi (w_c (w_notN ⟨_, rfl, ?_⟩)))))
  cases o with
  | none =>
    obtain rfl : x = .non := ho
    exact w_itf (by rfl) (q H (.refl H))
  | some k =>
    obtain ⟨ad, rfl, had⟩ := id ho
    refine w_ite (by rfl) (w_test (w_op (he _ fun kv H4 g4 hk => w_var hi ⟨kp, k, hk, PtV.gr ho g4, ?_⟩)))
    rw [f k rfl]
    exact ⟨false, rfl, q H4 g4⟩
def spFits (TT : List (Addr × Str)) : Sp := fun vs H Q _ => ∃ v p a b, vs = [v, .ref a] ∧ PtV H v p ∧ BdV K H a b ∧ (∀ ax, fitAx b p ax) ∧ ∀ H', Gr TT NoS H H' → Q (.bl true) H'
abbrev s_fits : Stmt := topS 38
abbrev N_fits : List Str := ["point", "bounds", "axis", "low", "high"]
theorem sc_fits : FnScope N_fits ["point", "bounds"] (C8.fnScope s_fits) := ⟨rfl, rfl, rfl, by decide +kernel, rfl, by decide +kernel, by decide +kernel⟩
theorem cal_fits {TT : List (Addr × Str)} {f : Addr} {fd : FuncData} (F : C8.Def K mg "fits" s_fits f fd) (b : Binds K fd ["point", "bounds"] []) (c_key_of : C8.Cal P w K mg base 1 "key_of" (spKeyOf TT) []) : C8.Cal P w K mg base 2 "fits" (spFits (K := K) TT) [] := by
  refine C8.cal0 F b .nil sc_fits (fun vs H Q E h => ?_) (fun cdv A outer s H vs Q E hr h => ?_)
  · obtain ⟨v, p, a, b, rfl, _⟩ := h
    rfl
  · obtain ⟨v, p, a, b, rfl, hp, hb, hf, k⟩ := h
    have nd := sc_fits.nd
    refine ⟨_, (pss_cons (ps_for PassesOwn.never rfl (pi_tup (pe_tup (pa_cons pe_int (pa_cons pe_int pa_nil)))) (pg_name (i := 2) nd rfl (Or.inl rfl)) (pss_cons (ps_par (i := 3) (j := 4) rfl nd rfl rfl (by decide) rfl rfl (pa_cons (pe_ix ix_tup (pv 1) (pv 2) (fun _ _ => rfl)) (pa_cons (pe_ix ix_tup (pv 1) (pe_op op_add (pv 2) pe_int) (fun _ _ => rfl)) pa_nil)) (by rfl))
  (pss_one (ps_if (PW.pt (pw_or (PW.pt (pw_and (pt_cmpR op_notN1 (pv 3) pe_non (nomark _)) (pw_and1 (pt_cmpR (op_leP hr.units0) (C8.pe_c c_key_of hr (by decide) (by rfl) (pa_cons (pv 0) (pa_cons (pv 2) pa_nil))) (pv 3) (nomark _))))) (pw_or1 (PW.pt (pw_and (pt_cmpR op_notN1 (pv 4) pe_non (nomark _)) (pw_and1 (pt_cmpR (op_geP hr.units0) (C8.pe_c c_key_of hr (by decide) (by rfl) (pa_cons (pv 0) (pa_cons (pv 2) pa_nil))) (pv 4) (nomark _)))))))) (pss_one (ps_ret pe_bl)) pss_nil))))
  (pss_one (ps_ret pe_bl))), ?_⟩
    repeat walk_at "w"
    refine w_axes TT fun e H1 g1 h1 => ⟨fun i σ' H' => (∃ v2 v3 v4, σ' = [some v, some (.ref a), v2, v3, v4]) ∧ Gr TT NoS H1 H', ⟨⟨_, _, _, rfl⟩, .refl _⟩, fun i σ' H' h => h.2, ?_, ?_⟩
    · rintro ax σ' H' ⟨⟨v2, v3, v4, rfl⟩, g2⟩
      have hb' := hb.gr (g1.trans g2)
      have hp' := hp.gr (g1.trans g2)
      obtain ⟨xs, lv, hx1, ha1, hlv⟩ := hb'.lo ax
      obtain ⟨ys, hv, hx2, ha2, hhv⟩ := hb'.hi ax
      obtain ⟨f1, f2⟩ := hf ax
      repeat walk_at "w"
      refine w_ixT hx1 ha1 ?_
      repeat walk_at "w"
      refine w_ixT hx2 ha2 ?_
      have key : ∀ H2, Gr TT NoS H' H2 → ∀ Q' : VK, (∀ kv H4, Gr TT NoS H2 H4 → PtV H4 kv (keyP ax p) → Q' kv H4) → tCall (spKeyOf TT) [] C8.E0 (tCons (tVar 0) (tCons (tVar 2) tNil)) [some v, some (.ref a), some (axV ax), some lv, some hv] H2 Q' := fun H2 g3 Q' q =>
        w_call (w_cons (w_var (by rfl) (w_cons (w_var (by rfl) (w_nil ⟨v, p, ax, rfl, hp'.gr g3, q⟩)))))
      refine w_next (w_if (w_or (w_notLe (by rfl) hlv (key _ (.refl _)) f1 fun H4 g4 => w_F (w_notLe (by rfl) (hhv.gr g4) (key _ g4) f2 fun H5 g5 => w_F (w_next ?_)))))
      exact ⟨⟨_, _, _, rfl⟩, g2.trans (g4.trans g5)⟩
    · rintro σ' H' ⟨_, g2⟩
      repeat walk_at "w"
      exact k _ (g1.trans g2)
/-! ### the points of a tree, in its order -/
def stsz (ts : List Tree) : Nat := (ts.map fun t => 2 * tsz t + 1).sum
theorem stsz_snoc (ts : List Tree) (t : Tree) : stsz (ts ++ [t]) = stsz ts + (2 * tsz t + 1) := by
  unfold stsz
  rw [List.map_append, List.sum_append]
  simp
theorem stsz_len : ∀ ts : List Tree, ts.length ≤ stsz ts
  | [] => Nat.le_refl _
  | t :: ts => by
    have := stsz_len ts
    unfold stsz at this ⊢
    rw [List.map_cons, List.sum_cons, List.length_cons]
    omega
theorem Al.snoc {α : Type} {R : V → α → Prop} {xs : List V} {y : V} {ts : List α} (h : Al R (xs ++ [y]) ts) : ∃ us u, ts = us ++ [u] ∧ Al R xs us ∧ R y u := by
  have hl := h.len
  rw [List.length_append, List.length_singleton] at hl
  have h1 := Al.take xs.length h
  rw [List.take_left' rfl] at h1
  obtain ⟨u, hu, hr⟩ := Al.get (i := xs.length) (x := y) h (by simp)
  refine ⟨ts.take xs.length, u, ?_, h1, hr⟩
  have := split_at hu
  rw [List.drop_of_length_le (by omega)] at this
  exact this
def spRead (TT : List (Addr × Str)) : Sp := fun vs H Q _ => ∃ v t, vs = [v] ∧ TrV H v t ∧ tsz t ≤ 100 ∧ ∀ l xs H', Gr TT NoS H H' → H l = none → H' l = some (.lst xs) → PtsV H' xs (rd t) → Q (.ref l) H'
abbrev s_read : Stmt := topS 40
abbrev N_read : List Str := ["tree", "found", "waiting", "one"]
theorem sc_read : FnScope N_read ["tree"] (C8.fnScope s_read) := ⟨rfl, rfl, rfl, by decide +kernel, rfl, by decide +kernel, by decide +kernel⟩
theorem cal_read {TT : List (Addr × Str)} {f : Addr} {fd : FuncData} (F : C8.Def K mg "read" s_read f fd) (b : Binds K fd ["tree"] []) : C8.Cal P w K mg base 1 "read" (spRead TT) [] := by
  refine C8.cal0 F b .nil sc_read (fun vs H Q E h => ?_) (fun cdv A outer s H vs Q E hr h => ?_)
  · obtain ⟨v, t, rfl, _⟩ := h
    rfl
  · obtain ⟨v, t, rfl, ht, hsz, k⟩ := h
    have nd := sc_read.nd
    refine ⟨_, (pss_cons (ps_par (i := 1) (j := 2) rfl nd rfl rfl (by decide) rfl rfl (pa_cons (pe_lst pa_nil) (pa_cons (pe_lst (pa_cons (pv 0) pa_nil)) pa_nil)) (by rfl))
  (pss_cons (ps_while PassesOwn.never (pt_cmpR (op_neNil hr.units0) (pv 2) (pe_lst pa_nil) (nomark _)) (pss_cons (ps_set (i := 3) nd rfl (Or.inl rfl) (pe_bm0 PySem.F.plainAttrs_list PySem.F.slot_list_pop PySem.F.type_list_pop mt_pop (pv 2)))
  (pss_one (ps_if (pt_cmpR op_notN1 (pv 3) pe_non (nomark _)) (pss_cons (ps_expr (pe_bm PySem.F.plainAttrs_list PySem.F.slot_list_append PySem.F.type_list_append mt_append (pv 1) (pa_cons (pe_ix ix_tup (pv 3) pe_int (fun _ _ => rfl)) pa_nil)))
  (pss_one (ps_expr (pe_bm PySem.F.plainAttrs_list PySem.F.slot_list_extend PySem.F.type_list_extend mt_extend (pv 2) (pa_cons (pe_lst (pa_cons (pe_ix ix_tup (pv 3) pe_int (fun _ _ => rfl)) (pa_cons (pe_ix ix_tup (pv 3) pe_int (fun _ _ => rfl)) pa_nil))) pa_nil))))) pss_nil))))
  (pss_one (ps_ret (pv 1))))), ?_⟩
    repeat walk_at "w"
    refine ⟨sz100 (Nat.le_of_ble_eq_true rfl), fun fo hpfo => ?_⟩; generalize eH1 : upd H fo _ = H1; obtain ⟨g1, h1⟩ := new_facts TT hpfo eH1; clear eH1
    repeat walk_at "w"
    refine ⟨sz100 (Nat.le_of_ble_eq_true rfl), fun wt hpwt => ?_⟩; generalize eH2 : upd H1 wt _ = H2; obtain ⟨g2, h2⟩ := new_facts TT hpwt eH2; clear eH2
    have fw : fo ≠ wt := ne_of_none h1 hpwt
    have g12 := g1.trans g2
    refine w_seq ?_
    refine w_while (fun m σ' H' => ∃ v3 xs ts fs ds, σ' = [some v, some (.ref fo), some (.ref wt), v3] ∧ Gr TT NoS H H' ∧ H' fo = some (.lst fs) ∧ PtsV H' fs ds ∧ H' wt = some (.lst xs) ∧ TrsV H' xs ts ∧ ds ++ ts.reverse.flatMap rd = rd t ∧ m = stsz ts ∧ m ≤ 300) (stsz [t])
      ⟨_, _, [t], _, [], rfl, g12, g2.keepL0 h1, .nil, h2, .cons (ht.gr g12) .nil, by simp, rfl, by show 2 * tsz t + 1 + 0 ≤ 300; omega⟩ ?_
    rintro m σ' H' ⟨v3, xs, ts, fs, ds, rfl, g, hfo, hfs, hwt, hts, hds, rfl, hm⟩
    repeat walk_at "w"
    refine ⟨sz100 (Nat.le_of_ble_eq_true rfl), fun e hpe => ?_⟩; generalize eH3 : upd H' e _ = H3; obtain ⟨g3, h3⟩ := new_facts TT hpe eH3; clear eH3
    have hwt3 := g3.keepL0 hwt
    have hfo3 := g3.keepL0 hfo
    refine w_neNil (SqL.of hwt3) h3 ?_
    repeat walk_at "w"
    rcases List.eq_nil_or_concat xs with rfl | ⟨xs, y, rfl⟩
    · repeat walk_at "w"
      cases hts
      rw [List.reverse_nil, List.flatMap_nil, List.append_nil] at hds
      exact k fo fs H3 (g.trans g3) hpfo hfo3 (by rw [← hds]; exact hfs.gr g3)
    · rw [List.concat_eq_append] at *
      obtain ⟨us, u, rfl, hus, hu⟩ := Al.snoc hts
      rw [stsz_snoc] at hm ⊢
      refine w_ite (by simp) ⟨_, fun σ' H' z => z, ?_⟩
      repeat walk_at "w"
      refine ⟨w_tyL (SqL.of hwt3), w_rpop hwt3 ?_⟩
      generalize eH4 : upd H3 wt _ = H4; obtain ⟨gH4, lH4, hH4⟩ := lst_facts (TT := TT) (g1.fr _ hpwt) (g.trans g3) (hwt3) eH4; clear eH4
      have hfo4 := lH4.keepL hfo3 fw
      have hus4 : TrsV H4 xs us := Al.imp hus fun _ _ z => (z.gr g3).gr lH4
      have hu4 : TrV H4 y u := (TrV.gr hu g3).gr lH4
      have hfs4 := (hfs.gr g3).gr lH4
      repeat walk_at "w"
      cases u with
      | nil =>
        obtain rfl : y = .non := hu4
        repeat walk_at "w"
        exact ⟨stsz us, by omega, _, xs, us, fs, ds, rfl, gH4, hfo4, hfs4, hH4, hus4, by rw [← hds]; simp [rd], rfl, by omega⟩
      | node p l r =>
        obtain ⟨a, qv, lv, rv, rfl, ha, hq, hl, hr2⟩ := hu4
        repeat walk_at "w"
        refine ⟨w_tyL (SqL.of hfo4), ?_⟩
        repeat walk_at "w"
        refine w_ixT (SqT.of ha) (by rfl) ?_
        repeat walk_at "w"
        have hfl := hfs.len
        have htl := congrArg List.length hds
        rw [List.length_append, tsz_rd] at htl
        refine w_rapp hfo4 (by omega) ?_
        generalize eH5 : upd H4 fo _ = H5; obtain ⟨gH5, lH5, hH5⟩ := lst_facts (TT := TT) (hpfo) (gH4) (hfo4) eH5; clear eH5
        repeat walk_at "w"
        have hwt5 := lH5.keepL hH4 fw.symm
        refine ⟨w_tyL (SqL.of hwt5), ?_⟩
        have ha5 := lH5.tup ha
        repeat walk_at "w"
        refine w_ixT (SqT.of ha5) (by rfl) ?_
        repeat walk_at "w"
        refine w_ixT (SqT.of ha5) (by rfl) ?_
        repeat walk_at "w"
        refine ⟨sz100 (Nat.le_of_ble_eq_true rfl), fun nl hpnl => ?_⟩; generalize eH6 : upd H5 nl _ = H6; obtain ⟨g6, h6⟩ := new_facts TT hpnl eH6; clear eH6
        repeat walk_at "w"
        have hwt6 := g6.keepL0 hwt5
        have hxl := hus.len
        have hxs := stsz_len us
        refine w_rext hwt6 h6 (by show xs.length + 2 ≤ _; omega) ?_
        generalize eH7 : upd H6 wt _ = H7; obtain ⟨gH7, lH7, hH7⟩ := lst_facts (TT := TT) (g1.fr _ hpwt) (gH5.trans g6) (hwt6) eH7; clear eH7
        repeat walk_at "w"
        have up : ∀ {v : V} {t : Tree}, TrV H4 v t → TrV H7 v t := fun z => ((z.gr lH5).gr g6).gr lH7
        have e2 : us ++ [r, l] = (us ++ [r]) ++ [l] := by simp
        refine ⟨stsz (us ++ [r, l]), ?_, _, _, us ++ [r, l], _, ds ++ [p], rfl, gH7, lH7.keepL (g6.keepL0 hH5) fw, ?_, hH7, ?_, ?_, rfl, ?_⟩
        · rw [e2, stsz_snoc, stsz_snoc]
          show _ < stsz us + (2 * (tsz l + tsz r + 1) + 1)
          omega
        · exact Al.app (Al.imp hfs4 fun _ _ z => ((z.gr lH5).gr g6).gr lH7) (.cons (((hq.gr lH5).gr g6).gr lH7) .nil)
        · exact Al.app (Al.imp hus4 fun _ _ z => up z) (.cons (up hr2) (.cons (up hl) .nil))
        · rw [← hds]
          simp [rd]
        · have h8 : stsz us + (2 * (tsz l + tsz r + 1) + 1) ≤ 300 := hm
          rw [e2, stsz_snoc, stsz_snoc]
          omega
/-! ### is it a middle tree -/
abbrev RqD := Tree × Bool × Bd
structure RqI (K : PySem.W.Frag) (H : Hp) (v : V) (i : RqD) : Prop where
  ex : ∃ a b c path tv, v = .ref a ∧ H a = some (.tup [.ref b, tv, .ref c]) ∧ H b = some (.tup path) ∧ (path.length % 2 = if i.2.1 then 1 else 0) ∧ path.length + tsz i.1 ≤ 100 ∧ TrV H tv i.1 ∧ BdV K H c i.2.2
  fit : Fit i.2.2 i.1
  kd : Kd i.2.1 i.1
  ok : tok i.1
theorem RqI.gr {T : List (Addr × Str)} {S : Addr → Prop} {H H1 : Hp} {v : V} {i : RqD} (h : RqI K H v i) (g : Gr T S H H1) : RqI K H1 v i := by
  obtain ⟨⟨a, b, c, path, tv, h1, h2, h3, h4, h5, h6, h7⟩, h8, h9, h10⟩ := h
  exact ⟨⟨a, b, c, path, tv, h1, g.tup h2, g.tup h3, h4, h5, h6.gr g, h7.gr g⟩, h8, h9, h10⟩
theorem blo_cut {b : Bd} {ax sd ax' : Bool} {k : Pt} : blo (bcut b ax k sd) ax' = if ax' = ax ∧ sd = true then some k else blo b ax' := by cases ax <;> cases sd <;> cases ax' <;> rfl
theorem bhi_cut {b : Bd} {ax sd ax' : Bool} {k : Pt} : bhi (bcut b ax k sd) ax' = if ax' = ax ∧ sd = false then some k else bhi b ax' := by cases ax <;> cases sd <;> cases ax' <;> rfl
theorem lt_key {ax : Bool} {p q : Pt} (h : lt ax p q = true) : le false (keyP ax q) (keyP ax p) = false := by
  rw [lt_iff] at h
  refine decide_eq_false ?_
  show ¬ (kx ax q < kx ax p ∨ kx ax q = kx ax p ∧ ky ax q ≤ ky ax p)
  omega
theorem fit_kid {b : Bd} {ax : Bool} {p : Pt} {l r : Tree} (f : Fit b (.node p l r)) (k : Kd ax (.node p l r)) (sd : Bool) : Fit (bcut b ax (keyP ax p) sd) (if sd then r else l) := by
  intro q hq ax'
  have hm : q ∈ rd (.node p l r) := by
    cases sd
    · exact List.mem_cons_of_mem _ (List.mem_append_left _ hq)
    · exact List.mem_cons_of_mem _ (List.mem_append_right _ hq)
  obtain ⟨f1, f2⟩ := f q hm ax'
  refine ⟨fun z hz => ?_, fun z hz => ?_⟩
  · rw [blo_cut] at hz
    split at hz
    · rename_i e
      obtain ⟨rfl, rfl⟩ := e
      cases hz
      exact lt_key (k.2.1 q hq)
    · exact f1 z hz
  · rw [bhi_cut] at hz
    split at hz
    · rename_i e
      obtain ⟨rfl, rfl⟩ := e
      cases hz
      exact lt_key (k.1 q hq)
    · exact f2 z hz
def ssz (is : List RqD) : Nat := (is.map fun i => tsz i.1).sum
theorem ssz_snoc (is : List RqD) (i : RqD) : ssz (is ++ [i]) = ssz is + tsz i.1 := by
  unfold ssz
  rw [List.map_append, List.sum_append]
  simp
def spReqMid (TT : List (Addr × Str)) : Sp := fun vs H Q _ => ∃ v t, vs = [v, .int 500] ∧ TrV H v t ∧ tsz t ≤ 100 ∧ Kd false t ∧ tok t ∧ ∀ H', Gr TT NoS H H' → Q .non H'
abbrev s_require_middle : Stmt := topS 39
abbrev N_require_middle : List Str := ["value", "most", "many", "waiting", "axis", "side", "path", "one", "bounds"]
theorem sc_require_middle : FnScope N_require_middle ["value", "most"] (C8.fnScope s_require_middle) := ⟨rfl, rfl, rfl, by decide +kernel, rfl, by decide +kernel, by decide +kernel⟩
theorem cal_require_middle {TT : List (Addr × Str)} {f : Addr} {fd : FuncData} {ds : List Value} (F : C8.Def K mg "require_middle" s_require_middle f fd) (b : Binds K fd ["value", "most"] ds) (d : Vals [.int 500] ds) (T : Txt K mg aE C) (c_is_node : C8.Cal P w K mg base 5 "is_node" spIsNode [])
    (c_fits : C8.Cal P w K mg base 2 "fits" (spFits (K := K) TT) []) (c_key_of : C8.Cal P w K mg base 1 "key_of" (spKeyOf TT) []) (c_cut : C8.Cal P w K mg base 1 "cut" (spCut (K := K) TT) []) : C8.Cal P w K mg base 6 "require_middle" (spReqMid TT) [.int 500] := by
  refine C8.cal0 F b d sc_require_middle (fun vs H Q E h => ?_) (fun cdv A outer s H vs Q E hr h => ?_)
  · obtain ⟨v, t, rfl, _⟩ := h
    rfl
  · obtain ⟨v, t, rfl, ht, hsz, hkd, hok, k⟩ := h
    have nd := sc_require_middle.nd
    refine ⟨_, (pss_cons (ps_par (i := 2) (j := 3) rfl nd rfl rfl (by decide) rfl rfl (pa_cons pe_int (pa_cons (pe_lst (pa_cons (pe_tup (pa_cons (pe_tup pa_nil) (pa_cons (pv 0) (pa_cons (C8.pe_gc (by rfl) T.gEVERYWHERE) pa_nil)))) pa_nil)) pa_nil)) (by rfl))
  (pss_one (ps_while PassesOwn.never (pt_cmpR (op_neNil hr.units0) (pv 3) (pe_lst pa_nil) (nomark _)) (pss_cons (ps_asg (pe_bm0 PySem.F.plainAttrs_list PySem.F.slot_list_pop PySem.F.type_list_pop mt_pop (pv 3)) (pg_tup rfl (pgs_cons (pg_name (i := 6) nd rfl (Or.inl rfl)) (pgs_cons (pg_name (i := 7) nd rfl (Or.inl rfl)) (pgs_cons (pg_name (i := 8) nd rfl (Or.inl rfl)) pgs_nil)))))
  (pss_cons (ps_if (pt_cmpR op_isN1 (pv 7) pe_non (nomark _)) (pss_one ps_continue) pss_nil)
  (pss_cons (ps_aug (i := 2) nd rfl (Or.inl rfl) pe_int ip_add)
  (pss_cons (ps_if (PW.pt (pw_or (pt_cmpR op_gt (pv 2) (pv 1) (nomark _)) (pw_or (pt_not (pt_val (C8.pe_c c_is_node hr (by decide) (by rfl) (pa_cons (pv 7) pa_nil)))) (pw_or1 (pt_not (pt_val (C8.pe_c c_fits hr (by decide) (by rfl) (pa_cons (pe_ix ix_tup (pv 7) pe_int (fun _ _ => rfl)) (pa_cons (pv 8) pa_nil))))))))) (pss_one ps_never) pss_nil)
  (pss_cons (ps_set (i := 4) nd rfl (Or.inl rfl) (pe_op op_mod (pe_callB call_len_seq (by rfl) T.nlen (by decide +kernel) (pa_cons (pv 6) pa_nil)) pe_int))
  (pss_one (ps_for PassesOwn.never rfl (pi_tup (pe_tup (pa_cons pe_int (pa_cons pe_int pa_nil)))) (pg_name (i := 5) nd rfl (Or.inl rfl)) (pss_one (ps_expr (pe_bm PySem.F.plainAttrs_list PySem.F.slot_list_append PySem.F.type_list_append mt_append (pv 3) (pa_cons (pe_tup (pa_cons (pe_tup (StX.pa_star (pv 6) (pa_cons (pv 5) pa_nil))) (pa_cons (pe_ix ix_tup (pv 7) (pe_op op_add pe_int (pv 5)) (fun _ _ => rfl)) (pa_cons (C8.pe_c c_cut hr (by decide) (by rfl) (pa_cons (pv 8) (pa_cons (pv 4) (pa_cons (C8.pe_c c_key_of hr (by decide) (by rfl) (pa_cons (pe_ix ix_tup (pv 7) pe_int (fun _ _ => rfl)) (pa_cons (pv 4) pa_nil))) (pa_cons (pv 5) pa_nil))))) pa_nil)))) pa_nil)))))))))))))), ?_⟩
    repeat walk_at "w"
    refine ⟨sz100 (Nat.le_of_ble_eq_true rfl), fun ep hpep => ?_⟩; generalize eH1 : upd H ep _ = H1; obtain ⟨g1, h1⟩ := new_facts TT hpep eH1; clear eH1
    repeat walk_at "w"
    refine ⟨sz100 (Nat.le_of_ble_eq_true rfl), fun it hpit => ?_⟩; generalize eH2 : upd H1 it _ = H2; obtain ⟨g2, h2⟩ := new_facts TT hpit eH2; clear eH2
    repeat walk_at "w"
    refine ⟨sz100 (Nat.le_of_ble_eq_true rfl), fun wt hpwt => ?_⟩; generalize eH3 : upd H2 wt _ = H3; obtain ⟨g3, h3⟩ := new_facts TT hpwt eH3; clear eH3
    have g13 := g1.trans (g2.trans g3)
    have hw0 : H wt = none := (g1.trans g2).fr _ hpwt
    have start : RqI K H3 (.ref it) (t, false, (none, none, none, none)) := ⟨⟨it, ep, aE, [], v, rfl, g3.tup h2, (g2.trans g3).tup h1, rfl, by show 0 + tsz t ≤ 100; omega, ht.gr g13, ⟨.non, .non, .non, .non, T.sEVERYWHERE H3, rfl, rfl, rfl, rfl⟩⟩, fun q _ ax => by cases ax <;> exact ⟨fun z h => (by cases h), fun z h => (by cases h)⟩, hkd, hok⟩
    refine w_while (fun m σ' H' => ∃ (many : Nat) (v4 v5 v6 v7 v8 : Option V) (xs : List V) (is : List RqD), σ' = [some v, some (.int 500), some (.int many), some (.ref wt), v4, v5, v6, v7, v8] ∧ Gr TT NoS H H' ∧ H' wt = some (.lst xs) ∧ Al (RqI K H') xs is ∧ many + ssz is ≤ 100 ∧ m = stsz (is.map (·.1)) ∧ m ≤ 300) (stsz [t])
      ⟨0, _, _, _, _, _, _, [(t, false, (none, none, none, none))], rfl, g13, h3, .cons start .nil, by show 0 + (tsz t + 0) ≤ 100; omega, rfl, by show 2 * tsz t + 1 + 0 ≤ 300; omega⟩ ?_
    rintro m σ' H' ⟨many, v4, v5, v6, v7, v8, xs, is, rfl, g, hwt, his, hmany, rfl, hm⟩
    repeat walk_at "w"
    refine ⟨sz100 (Nat.le_of_ble_eq_true rfl), fun e hpe => ?_⟩; generalize eH4 : upd H' e _ = H4; obtain ⟨g4, h4⟩ := new_facts TT hpe eH4; clear eH4
    have hwt4 := g4.keepL0 hwt
    refine w_neNil (SqL.of hwt4) h4 ?_
    repeat walk_at "w"
    rcases List.eq_nil_or_concat xs with rfl | ⟨xs, y, rfl⟩
    · repeat walk_at "w"
      exact k _ (g.trans g4)
    · rw [List.concat_eq_append] at *
      obtain ⟨us, u, rfl, hus, hu⟩ := Al.snoc his
      rw [List.map_append, List.map_singleton, stsz_snoc] at hm ⊢
      rw [ssz_snoc] at hmany
      refine w_ite (by simp) ⟨_, fun σ' H' z => z, ?_⟩
      repeat walk_at "w"
      refine ⟨w_tyL (SqL.of hwt4), w_rpop hwt4 ?_⟩
      generalize eH5 : upd H4 wt _ = H5; obtain ⟨gH5, lH5, hH5⟩ := lst_facts (TT := TT) (hw0) (g.trans g4) (hwt4) eH5; clear eH5
      have hus5 : Al (RqI K H5) xs us := Al.imp hus fun _ _ z => (z.gr g4).gr lH5
      have hu5 := (hu.gr g4).gr lH5
      obtain ⟨u, ax, bd⟩ := u
      obtain ⟨⟨a, b, c, path, tv, rfl, ha, hb, hpar, hpl, htv, hbd⟩, hfit, hkd', hok'⟩ := hu5
      refine w_gtup (SqT.of ha) rfl (w_gcons (w_gname (w_gcons (w_gname (w_gcons (w_gname (w_gnil ?_)))))))
      repeat walk_at "w"
      have hxl := hus.len
      have hxs := stsz_len (us.map (·.1))
      rw [List.length_map] at hxs
      cases u with
      | nil =>
        obtain rfl : tv = .non := htv
        repeat walk_at "w"
        exact ⟨_, by omega, many, _, _, _, _, _, xs, us, rfl, gH5, hH5, hus5, by omega, rfl, by omega⟩
      | node p l r =>
        have hmany : many + (ssz us + (tsz l + tsz r + 1)) ≤ 100 := hmany
        have hm : stsz (us.map (·.1)) + (2 * (tsz l + tsz r + 1) + 1) ≤ 300 := hm
        obtain ⟨a2, qv, lv, rv, rfl, ha2, hq, hl, hr2⟩ := id htv
        obtain ⟨okp, okl, okr⟩ := tok_node hok'
        repeat walk_at "w"
        rw [decide_eq_false (show ¬ (500 : Int) < (many : Int) + 1 by omega)]
        repeat walk_at "w"
        refine ⟨_, p, l, r, rfl, htv, okp, ?_⟩
        repeat walk_at "w"
        refine w_ixT (SqT.of ha2) (by rfl) ?_
        repeat walk_at "w"
        refine ⟨qv, p, c, bd, rfl, hq, hbd, hfit p (List.mem_cons_self ..), fun H6 g6 => ?_⟩
        have hb6 := g6.tup hb
        repeat walk_at "w"
        refine ⟨b, _, rfl, .inr (SqT.of hb6), ?_⟩
        repeat walk_at "w"
        refine w_I (by decide) ?_
        have eax : ((path.length : Nat) : Int) % 2 = (if ax then 1 else 0) := by
          have hpar : path.length % 2 = if ax then 1 else 0 := hpar
          cases ax
          · have : path.length % 2 = 0 := hpar
            show _ = (0 : Int)
            omega
          · have : path.length % 2 = 1 := hpar
            show _ = (1 : Int)
            omega
        rw [eax]
        repeat walk_at "w"
        with_reducible refine w_for2 TT fun fa H7 g7 _ h7 => ?_
        have hwt7 := g7.keepL0 (g6.keepL0 hH5)
        have ha27 := g7.tup (g6.tup ha2)
        have hb7 := g7.tup (g6.tup hb)
        have hq7 := (hq.gr g6).gr g7
        have hl7 := (hl.gr g6).gr g7
        have hr7 := (hr2.gr g6).gr g7
        have hbd7 := (hbd.gr g6).gr g7
        have hus7 : Al (RqI K H7) xs us := Al.imp hus5 fun _ _ z => (z.gr g6).gr g7
        have G7 := gH5.trans (g6.trans g7)
        have hpl : path.length + (tsz l + tsz r + 1) ≤ 100 := hpl
        repeat walk_at "w"
        refine ⟨w_tyL (SqL.of hwt7), ?_⟩
        repeat walk_at "w"
        refine ⟨b, path, rfl, .inl (SqT.of hb7), ?_⟩
        repeat walk_at "w"
        refine ⟨sz100 (by rw [List.length_append]; show path.length + 1 ≤ 100000; omega), fun p8 hpp8 => ?_⟩; generalize eHp8 : upd H7 p8 _ = Hp8; obtain ⟨gp8, hp8⟩ := new_facts TT hpp8 eHp8; clear eHp8
        have ha2p8 := gp8.tup ha27
        repeat walk_at "w"
        refine w_ixT (SqT.of ha2p8) (by rfl) ?_
        repeat walk_at "w"
        refine w_ixT (SqT.of ha2p8) (by rfl) ?_
        repeat walk_at "w"
        refine ⟨qv, p, ax, rfl, hq7.gr gp8, fun kv8 Hk8 gk8 hk8 => ?_⟩
        repeat walk_at "w"
        obtain ⟨bs8, hbs8, hbl8, hcut8⟩ := (hbd7.gr (gp8.trans gk8)).cut
        refine ⟨c, bs8, ax, kv8, true, rfl, hbs8, hbl8, fun c8 Hc8 gc8 hc8 => ?_⟩
        have hbd'8 := hcut8 gc8 (hk8.gr gc8) hc8
        repeat walk_at "w"
        refine ⟨sz100 (Nat.le_of_ble_eq_true rfl), fun i8 hpi8 => ?_⟩; generalize eHi8 : upd Hc8 i8 _ = Hi8; obtain ⟨gi8, hi8⟩ := new_facts TT hpi8 eHi8; clear eHi8
        repeat walk_at "w"
        have hwti8 := gi8.keepL0 (gc8.keepL0 (gk8.keepL0 (gp8.keepL0 hwt7)))
        refine w_rapp hwti8 (by first | omega | (rw [List.length_append, List.length_singleton]; omega)) ?_
        have GG8 := gp8.trans (gk8.trans (gc8.trans gi8))
        generalize eH8 : upd Hi8 wt _ = H8; obtain ⟨gH8, lH8, hH8⟩ := lst_facts (TT := TT) (hw0) (G7.trans GG8) (hwti8) eH8; clear eH8
        have G8 := gH8
        have hwt8 := hH8
        have ha28 := lH8.tup (GG8.tup ha27)
        have hb8 := lH8.tup (GG8.tup hb7)
        have hq8 := (hq7.gr GG8).gr lH8
        have hl8 := (hl7.gr GG8).gr lH8
        have hr8 := (hr7.gr GG8).gr lH8
        have hbd8 := (hbd7.gr GG8).gr lH8
        have it8 : RqI K H8 (.ref i8) (r, !ax, bcut bd ax (keyP ax p) true) := by
          refine ⟨⟨i8, p8, c8, path ++ [sdV true], rv, rfl, lH8.tup hi8, lH8.tup (gi8.tup (gc8.tup (gk8.tup hp8))), ?_, ?_, ?_, (hbd'8.gr gi8).gr lH8⟩, fit_kid hfit hkd' true, ?_, ?_⟩
          · rw [List.length_append]
            show (path.length + 1) % 2 = _
            have hpar : path.length % 2 = if ax then 1 else 0 := hpar
            cases ax
            · have : path.length % 2 = 0 := hpar
              show _ = 1
              omega
            · have : path.length % 2 = 1 := hpar
              show _ = 0
              omega
          · rw [List.length_append]
            show path.length + 1 + tsz r ≤ 100
            omega
          · first | exact hl8 | exact hr8
          · first | exact hkd'.2.2.1 | exact hkd'.2.2.2
          · first | exact okl | exact okr
        have hus8 : Al (RqI K H8) (xs ++ [.ref i8]) (us ++ [(r, !ax, bcut bd ax (keyP ax p) true)]) := Al.app (Al.imp hus7 fun _ _ z => (z.gr GG8).gr lH8) (.cons it8 .nil)
        refine ⟨lH8.tup (gi8.tup (gc8.tup (gk8.tup (gp8.tup h7)))), ?_⟩
        repeat walk_at "w"
        refine ⟨w_tyL (SqL.of hwt8), ?_⟩
        repeat walk_at "w"
        refine ⟨b, path, rfl, .inl (SqT.of hb8), ?_⟩
        repeat walk_at "w"
        refine ⟨sz100 (by rw [List.length_append]; show path.length + 1 ≤ 100000; omega), fun p9 hpp9 => ?_⟩; generalize eHp9 : upd H8 p9 _ = Hp9; obtain ⟨gp9, hp9⟩ := new_facts TT hpp9 eHp9; clear eHp9
        have ha2p9 := gp9.tup ha28
        repeat walk_at "w"
        refine w_ixT (SqT.of ha2p9) (by rfl) ?_
        repeat walk_at "w"
        refine w_ixT (SqT.of ha2p9) (by rfl) ?_
        repeat walk_at "w"
        refine ⟨qv, p, ax, rfl, hq8.gr gp9, fun kv9 Hk9 gk9 hk9 => ?_⟩
        repeat walk_at "w"
        obtain ⟨bs9, hbs9, hbl9, hcut9⟩ := (hbd8.gr (gp9.trans gk9)).cut
        refine ⟨c, bs9, ax, kv9, false, rfl, hbs9, hbl9, fun c9 Hc9 gc9 hc9 => ?_⟩
        have hbd'9 := hcut9 gc9 (hk9.gr gc9) hc9
        repeat walk_at "w"
        refine ⟨sz100 (Nat.le_of_ble_eq_true rfl), fun i9 hpi9 => ?_⟩; generalize eHi9 : upd Hc9 i9 _ = Hi9; obtain ⟨gi9, hi9⟩ := new_facts TT hpi9 eHi9; clear eHi9
        repeat walk_at "w"
        have hwti9 := gi9.keepL0 (gc9.keepL0 (gk9.keepL0 (gp9.keepL0 hwt8)))
        refine w_rapp hwti9 (by first | omega | (rw [List.length_append, List.length_singleton]; omega)) ?_
        have GG9 := gp9.trans (gk9.trans (gc9.trans gi9))
        generalize eH9 : upd Hi9 wt _ = H9; obtain ⟨gH9, lH9, hH9⟩ := lst_facts (TT := TT) (hw0) (G8.trans GG9) (hwti9) eH9; clear eH9
        have G9 := gH9
        have hwt9 := hH9
        have ha29 := lH9.tup (GG9.tup ha28)
        have hb9 := lH9.tup (GG9.tup hb8)
        have hq9 := (hq8.gr GG9).gr lH9
        have hl9 := (hl8.gr GG9).gr lH9
        have hr9 := (hr8.gr GG9).gr lH9
        have hbd9 := (hbd8.gr GG9).gr lH9
        have it9 : RqI K H9 (.ref i9) (l, !ax, bcut bd ax (keyP ax p) false) := by
          refine ⟨⟨i9, p9, c9, path ++ [sdV false], lv, rfl, lH9.tup hi9, lH9.tup (gi9.tup (gc9.tup (gk9.tup hp9))), ?_, ?_, ?_, (hbd'9.gr gi9).gr lH9⟩, fit_kid hfit hkd' false, ?_, ?_⟩
          · rw [List.length_append]
            show (path.length + 1) % 2 = _
            have hpar : path.length % 2 = if ax then 1 else 0 := hpar
            cases ax
            · have : path.length % 2 = 0 := hpar
              show _ = 1
              omega
            · have : path.length % 2 = 1 := hpar
              show _ = 0
              omega
          · rw [List.length_append]
            show path.length + 1 + tsz l ≤ 100
            omega
          · first | exact hl9 | exact hr9
          · first | exact hkd'.2.2.1 | exact hkd'.2.2.2
          · first | exact okl | exact okr
        have hus9 : Al (RqI K H9) ((xs ++ [.ref i8]) ++ [.ref i9]) ((us ++ [(r, !ax, bcut bd ax (keyP ax p) true)]) ++ [(l, !ax, bcut bd ax (keyP ax p) false)]) := Al.app (Al.imp hus8 fun _ _ z => (z.gr GG9).gr lH9) (.cons it9 .nil)
        refine ⟨(((lH9.tup (gi9.tup (gc9.tup (gk9.tup (gp9.tup (lH8.tup (gi8.tup (gc8.tup (gk8.tup (gp8.tup h7)))))))))))), ?_⟩
        refine ⟨stsz ((us ++ [(r, !ax, bcut bd ax (keyP ax p) true)] ++ [(l, !ax, bcut bd ax (keyP ax p) false)]).map (·.1)), ?_, many + 1, _, _, _, _, _, _, us ++ [(r, !ax, bcut bd ax (keyP ax p) true)] ++ [(l, !ax, bcut bd ax (keyP ax p) false)], rfl, G9, hwt9, hus9, ?_, rfl, ?_⟩
        · rw [List.map_append, List.map_append, List.map_singleton, List.map_singleton, stsz_snoc, stsz_snoc]
          show stsz (us.map (·.1)) + (2 * tsz r + 1) + (2 * tsz l + 1) < stsz (us.map (·.1)) + (2 * (tsz l + tsz r + 1) + 1)
          omega
        · rw [ssz_snoc, ssz_snoc]
          show many + 1 + (ssz us + tsz r + tsz l) ≤ 100
          omega
        · rw [List.map_append, List.map_append, List.map_singleton, List.map_singleton, stsz_snoc, stsz_snoc]
          show stsz (us.map (·.1)) + (2 * tsz r + 1) + (2 * tsz l + 1) ≤ 300
          omega
def spIsMid (TT : List (Addr × Str)) : Sp := fun vs H Q _ => ∃ v t, vs = [v] ∧ TrV H v t ∧ tsz t ≤ 100 ∧ Kd false t ∧ tok t ∧ ∀ H', Gr TT NoS H H' → Q (.bl true) H'
abbrev s_is_middle : Stmt := topS 41
abbrev N_is_middle : List Str := ["value"]
theorem sc_is_middle : FnScope N_is_middle ["value"] (C8.fnScope s_is_middle) := ⟨rfl, rfl, rfl, by decide +kernel, rfl, by decide +kernel, by decide +kernel⟩
theorem cal_is_middle {TT : List (Addr × Str)} {f : Addr} {fd : FuncData} (F : C8.Def K mg "is_middle" s_is_middle f fd) (b : Binds K fd ["value"] []) (c_require_middle : C8.Cal P w K mg base 6 "require_middle" (spReqMid TT) [.int 500]) : C8.Cal P w K mg base 7 "is_middle" (spIsMid TT) [] := by
  refine C8.cal0 F b .nil sc_is_middle (fun vs H Q E h => ?_) (fun cdv A outer s H vs Q E hr h => ?_)
  · obtain ⟨v, t, rfl, _⟩ := h
    rfl
  · obtain ⟨v, t, rfl, ht, hsz, hkd, hok, k⟩ := h
    have nd := sc_is_middle.nd
    refine ⟨_, (pss_cons (ps_try_thru0 (pss_one (ps_expr (C8.pe_c c_require_middle hr (by decide) (by rfl) (pa_cons (pv 0) pa_nil)))))
  (pss_one (ps_ret pe_bl))), ?_⟩
    repeat walk_at "w"
    refine ⟨v, t, rfl, ht, hsz, hkd, hok, fun H1 g1 => ?_⟩
    repeat walk_at "w"
    exact k _ g1
def spInOrder (TT : List (Addr × Str)) : Sp := fun vs H Q _ => ∃ v t, vs = [v] ∧ TrV H v t ∧ tsz t ≤ 100 ∧ Kd false t ∧ tok t ∧ ∀ l xs H', Gr TT NoS H H' → H l = none → H' l = some (.lst xs) → PtsV H' xs (rd t) → Q (.ref l) H'
abbrev s_in_order : Stmt := topS 42
abbrev N_in_order : List Str := ["tree"]
theorem sc_in_order : FnScope N_in_order ["tree"] (C8.fnScope s_in_order) := ⟨rfl, rfl, rfl, by decide +kernel, rfl, by decide +kernel, by decide +kernel⟩
theorem cal_in_order {TT : List (Addr × Str)} {f : Addr} {fd : FuncData} (F : C8.Def K mg "in_order" s_in_order f fd) (b : Binds K fd ["tree"] []) (c_require_middle : C8.Cal P w K mg base 6 "require_middle" (spReqMid TT) [.int 500]) (c_read : C8.Cal P w K mg base 1 "read" (spRead TT) []) : C8.Cal P w K mg base 7 "in_order" (spInOrder TT) [] := by
  refine C8.cal0 F b .nil sc_in_order (fun vs H Q E h => ?_) (fun cdv A outer s H vs Q E hr h => ?_)
  · obtain ⟨v, t, rfl, _⟩ := h
    rfl
  · obtain ⟨v, t, rfl, ht, hsz, hkd, hok, k⟩ := h
    have nd := sc_in_order.nd
    refine ⟨_, (pss_cons (ps_expr (C8.pe_c c_require_middle hr (by decide) (by rfl) (pa_cons (pv 0) pa_nil)))
  (pss_one (ps_ret (C8.pe_c c_read hr (by decide) (by rfl) (pa_cons (pv 0) pa_nil))))), ?_⟩
    repeat walk_at "w"
    refine ⟨v, t, rfl, ht, hsz, hkd, hok, fun H1 g1 => ?_⟩
    repeat walk_at "w"
    exact ⟨v, t, rfl, ht.gr g1, hsz, fun l xs H2 g2 hl hl2 hps => k l xs H2 (g1.trans g2) (g1.fr _ hl) hl2 hps⟩
end
end Wd
end
section
/-! Middle trees: heights, searches. -/
namespace Wd
open PySem PySem.Spec PyProof.Rows L2 LamX
local macro_rules | `(tactic| walk_at "w") => `(tactic| first
  | with_reducible refine w_var (by with_unfolding_all rfl) ?_
  | with_reducible refine w_aug (by with_unfolding_all rfl) ?_
  | with_reducible refine w_op ?_
  | with_reducible refine w_c ?_
  | with_reducible refine w_I0 ?_
  | with_reducible refine w_cons ?_
  | with_reducible refine w_nil ?_
  | with_reducible refine w_call ?_
  | with_reducible refine w_cb ?_
  | with_reducible refine w_seq ?_
  | with_reducible refine w_ret ?_
  | with_reducible refine w_set ?_
  | with_reducible refine w_if ?_
  | with_reducible refine w_test ?_
  | with_reducible refine w_B ?_
  | with_reducible refine w_k ?_
  | with_reducible refine w_and ?_
  | with_reducible refine w_or ?_
  | with_reducible refine w_not ?_
  | with_reducible refine w_andV ?_
  | with_reducible refine w_orV ?_
  | with_reducible refine w_notV ?_
  | with_reducible refine w_ifE ?_
  | with_reducible refine w_chain ?_
  | with_reducible refine w_un ?_
  | with_reducible refine w_U ?_
  | with_reducible refine w_isN ?_
  | with_reducible refine w_notN ?_
  | with_reducible refine w_T ?_
  | with_reducible refine w_F ?_
  | with_reducible refine w_next ?_
  | with_reducible refine w_drop ?_
  | with_reducible refine w_par2 ?_
  | with_reducible refine w_par3 ?_
  | with_reducible refine w_tup ?_
  | with_reducible refine w_lst ?_
  | with_reducible refine w_bm ?_
  | with_reducible refine w_bm0 ?_
  | with_reducible refine w_gname ?_
  | with_reducible refine w_gcons ?_
  | with_reducible refine w_lcI ?_
  | with_reducible refine w_lc2I ?_
  | with_reducible refine w_iTup ?_
  | with_reducible refine w_iList ?_
  | with_reducible refine w_yes ?_
  | with_reducible refine w_din ?_
  | with_reducible refine w_dput ?_
  | with_reducible refine w_dget2 ?_
  | with_reducible refine w_iEnum ?_
  | with_reducible refine w_sl ?_
  | with_reducible refine w_noP ?_
  | with_reducible refine w_part ?_
  | with_reducible refine w_asg ?_
  | with_reducible refine w_ip ?_
  | with_reducible refine w_cont ?_
  | with_reducible refine w_callD ?_
  | with_reducible refine w_thru ?_
  | with_reducible refine w_star ?_
  | with_reducible refine w_bits ?_
  | with_reducible refine w_revL ?_
  | with_reducible refine w_fld ?_
  | with_reducible refine w_dget ?_
  | with_reducible refine w_keys ?_
  | with_reducible refine w_gsub ?_
  | with_reducible refine w_fldaug ?_
  | with_reducible refine w_sfld ?_
  | with_reducible refine w_meth ?_
  | with_reducible refine w_make ?_
  | with_reducible refine w_ite (by with_unfolding_all rfl) ?_ | with_reducible refine w_itf (by with_unfolding_all rfl) ?_)
/-- a row of nodes, the next row -/
def kids : Tree → List Tree
  | .nil => []
  | .node _ l r => (if isNil l then [] else [l]) ++ if isNil r then [] else [r]
def kid2 (p : Pt) (l r : Tree) : Nat → List Tree
  | 0 => []
  | 1 => if isNil l then [] else [l]
  | _ => kids (.node p l r)
def hmax (ts : List Tree) : Nat := ts.foldr (fun t m => max (ht t) m) 0
theorem hmax_cons (t : Tree) (ts : List Tree) : hmax (t :: ts) = max (ht t) (hmax ts) := rfl
theorem hmax_app (ts us : List Tree) : hmax (ts ++ us) = max (hmax ts) (hmax us) := by
  induction ts with
  | nil => show hmax us = max 0 (hmax us); omega
  | cons t ts ih =>
    rw [List.cons_append, hmax_cons, hmax_cons, ih]
    omega
theorem kids_ht : ∀ t : Tree, isNil t = false → hmax (kids t) + 1 = ht t
  | .nil, h => by cases h
  | .node p l r, _ => by
    show hmax ((if isNil l then [] else [l]) ++ if isNil r then [] else [r]) + 1 = max (ht l) (ht r) + 1
    rw [hmax_app]
    cases l <;> cases r <;> simp [isNil, hmax, ht]
theorem kids_max : ∀ ts : List Tree, ts ≠ [] → (∀ t ∈ ts, isNil t = false) → hmax (ts.flatMap kids) + 1 = hmax ts
  | [t], _, h => by
    rw [List.flatMap_cons, List.flatMap_nil, List.append_nil, kids_ht t (h t (List.mem_cons_self ..))]
    show ht t = max (ht t) 0
    omega
  | t :: u :: ts, _, h => by
    have ih := kids_max (u :: ts) (by simp) fun x hx => h x (List.mem_cons_of_mem _ hx)
    have h1 := kids_ht t (h t (List.mem_cons_self ..))
    rw [List.flatMap_cons, hmax_app, hmax_cons, ← h1, ← ih]
    omega
theorem kids_nil (t : Tree) : ∀ u ∈ kids t, isNil u = false := by
  intro u hu
  cases t with
  | nil => cases hu
  | node p l r =>
    rcases List.mem_append.mp hu with z | z
    · by_cases h : isNil l = true
      · rw [if_pos h] at z; cases z
      · rw [if_neg h, List.mem_singleton] at z
        rw [z]; exact Bool.eq_false_iff.mpr h
    · by_cases h : isNil r = true
      · rw [if_pos h] at z; cases z
      · rw [if_neg h, List.mem_singleton] at z
        rw [z]; exact Bool.eq_false_iff.mpr h
def rsz (ts : List Tree) : Nat := (ts.map tsz).sum
theorem rsz_app (ts us : List Tree) : rsz (ts ++ us) = rsz ts + rsz us := by
  unfold rsz
  rw [List.map_append, List.sum_append]
theorem kids_sz : ∀ t : Tree, rsz (kids t) ≤ tsz t
  | .nil => Nat.le_refl _
  | .node p l r => by
    show rsz ((if isNil l then [] else [l]) ++ if isNil r then [] else [r]) ≤ tsz l + tsz r + 1
    rw [rsz_app]
    cases l <;> cases r <;> simp [isNil, rsz, tsz]
theorem kids_rsz : ∀ ts : List Tree, rsz (ts.flatMap kids) ≤ rsz ts
  | [] => Nat.le_refl _
  | t :: ts => by
    have h1 := kids_sz t
    have h2 := kids_rsz ts
    rw [List.flatMap_cons, rsz_app]
    show _ ≤ tsz t + rsz ts
    omega
theorem len_rsz : ∀ ts : List Tree, (∀ t ∈ ts, isNil t = false) → ts.length ≤ rsz ts
  | [], _ => Nat.le_refl _
  | t :: ts, h => by
    have h1 := len_rsz ts fun x hx => h x (List.mem_cons_of_mem _ hx)
    have h2 := h t (List.mem_cons_self ..)
    show ts.length + 1 ≤ tsz t + rsz ts
    cases t with
    | nil => cases h2
    | node p l r => show _ ≤ tsz l + tsz r + 1 + _; omega
section
variable {P : Program} {w : World} {K : PySem.W.Frag} {mg : Str → Option Value} {base : Heap} {aE C : Addr}
def spHt (TT : List (Addr × Str)) : Sp := fun vs H Q _ => ∃ v t, vs = [v] ∧ TrV H v t ∧ tsz t ≤ 100 ∧ ∀ H', Gr TT NoS H H' → Q (.int (ht t)) H'
abbrev s_height_of : Stmt := topS 44
abbrev N_height_of : List Str := ["tree", "found", "row", "one", "side"]
theorem sc_height_of : FnScope N_height_of ["tree"] (C8.fnScope s_height_of) := ⟨rfl, rfl, rfl, by decide +kernel, rfl, by decide +kernel, by decide +kernel⟩
theorem cal_height_of {TT : List (Addr × Str)} {f : Addr} {fd : FuncData} (F : C8.Def K mg "height_of" s_height_of f fd) (b : Binds K fd ["tree"] []) : C8.Cal P w K mg base 1 "height_of" (spHt TT) [] := by
  refine C8.cal0 F b .nil sc_height_of (fun vs H Q E h => ?_) (fun cdv A outer s H vs Q E hr h => ?_)
  · obtain ⟨v, t, rfl, _⟩ := h
    rfl
  · obtain ⟨v, t, rfl, ht0, hsz, k⟩ := h
    have nd := sc_height_of.nd
    refine ⟨_, (pss_cons (ps_par (i := 1) (j := 2) rfl nd rfl rfl (by decide) rfl rfl (pa_cons pe_int (pa_cons (pe_ifExp (pt_cmpR op_notN1 (pv 0) pe_non (nomark _)) (pe_lst (pa_cons (pv 0) pa_nil)) (pe_lst pa_nil)) pa_nil)) (by rfl))
  (pss_cons (ps_while PassesOwn.never (pt_cmpR (op_neNil hr.units0) (pv 2) (pe_lst pa_nil) (nomark _)) (pss_cons (ps_aug (i := 1) nd rfl (Or.inl rfl) pe_int ip_add)
  (pss_one (ps_setLc2 (i := 2) (own := [("one", 3), ("side", 4)]) (vs1 := [4]) (wi1 := iTup K (L2.tSl (rSlT K) (tVar 3) (tPart (tC (.int 1))) tNoPart)) rfl nd rfl rfl (sw_true rfl rfl rfl (by decide +kernel)) (pi_list (pv 2)) (blkOk_by (own := [("one", 3), ("side", 4)]) (N := N_height_of) (sc := (C8.fnScope s_height_of)) (by decide +kernel)) (by decide) (fun _ _ _ _ _ => (pg_name (i := 3) nd rfl (Or.inl rfl))) (fun _ _ _ _ _ => L2.pts_nil) (fun _ _ _ _ _ => (L2.pi_tup (L2.pe_slice L2.sl_tup (pv 3) (po_some pe_int) po_none))) (fun _ _ _ _ _ => (pg_name (i := 4) nd rfl (Or.inl rfl))) (fun _ _ _ _ _ => (L2.pts_one (pt_cmpR op_notN1 (pv 4) pe_non (nomark _)))) (fun _ _ _ _ _ => (pv 4))))))
  (pss_one (ps_ret (pv 1))))), ?_⟩
    cases t with
    | nil =>
      obtain rfl : v = .non := ht0
      repeat walk_at "w"
      refine ⟨sz100 (Nat.le_of_ble_eq_true rfl), fun row hprow => ?_⟩; generalize eH1 : upd H row _ = H1; obtain ⟨g1, h1⟩ := new_facts TT hprow eH1; clear eH1
      refine w_seq (w_while (fun m σ' H' => ∃ (n : Nat) (row' : Addr) (xs : List V) (ts : List Tree) (v3 v4 : Option V), σ' = [some _, some (.int n), some (.ref row'), v3, v4] ∧ Gr TT NoS H H' ∧ H' row' = some (.lst xs) ∧ TrsV H' xs ts ∧ (∀ u ∈ ts, isNil u = false) ∧ n + hmax ts = ht Tree.nil ∧ rsz ts ≤ 100 ∧ m = hmax ts) (hmax ([] : List Tree)) ⟨0, row, [], ([] : List Tree), none, none, rfl, g1, h1, .nil, (fun _ z => (by cases z)), by simp [hmax, ht], by simpa [rsz, tsz] using hsz, rfl⟩ ?_)
      rintro m σ' H2 ⟨n, row', xs, ts, v3, v4, rfl, g2, hrow, hts, hnn, hsum, hrs, rfl⟩
      repeat walk_at "w"
      refine ⟨sz100 (Nat.le_of_ble_eq_true rfl), fun e hpe => ?_⟩; generalize eH3 : upd H2 e _ = H3; obtain ⟨g3, h3⟩ := new_facts TT hpe eH3; clear eH3
      have hrow3 := g3.keepL0 hrow
      refine w_neNil (SqL.of hrow3) h3 ?_
      repeat walk_at "w"
      have hxl := hts.len
      have htl := len_rsz ts hnn
      cases ts with
      | nil =>
        cases hts
        repeat walk_at "w"
        have e0 : n = ht Tree.nil := hsum
        rw [e0]
        exact k _ (g2.trans g3)
      | cons t1 ts1 =>
        have hmx := kids_max (t1 :: ts1) (by simp) hnn
        obtain ⟨x1, xs1, rfl⟩ : ∃ x1 xs1, xs = x1 :: xs1 := by
          cases xs with
          | nil => cases hts
          | cons x1 xs1 => exact ⟨x1, xs1, rfl⟩
        generalize hts' : t1 :: ts1 = ts at hts hnn hsum hrs hxl htl hmx ⊢
        generalize hxs' : x1 :: xs1 = xs at hrow hrow3 hts hxl ⊢
        refine w_ite (by rw [← hxs']; rfl) ⟨_, fun σ' H' z => z, ?_⟩
        repeat walk_at "w"
        refine ⟨row', rfl, ⟨_, SqL.of hrow3⟩, fun D hD => ?_⟩
        refine w_lc2 (L2.walk_list (xs := xs)) (fun i H' => ∃ acc us, H' D = some (.lst acc) ∧ TrsV H' acc us ∧ us = (ts.take i).flatMap kids ∧ Gr TT NoS H3 H' ∧ acc.length ≤ 2 * i) ⟨[], [], upd_same, .nil, rfl, .new hD, Nat.zero_le _⟩ (fun i H' _ ⟨_, _, _, _, _, g, _⟩ => SqL.of (g.keepL0 hrow3)) ?_ ?_
        · rintro i x H4 H5 hi ⟨acc, us, hacc, hus, rfl, g4, hal⟩ ⟨rfl, hx⟩
          obtain ⟨ti, hti, htx⟩ := Al.get hts hx
          have hnni := hnn ti (List.mem_of_getElem? hti)
          cases ti with
          | nil => cases hnni
          | node p l r =>
            obtain ⟨a, qv, lv, rv, rfl, ha, hq, hl, hr2⟩ := (TrV.gr htx g3).gr g4
            refine w_gname ⟨rfl, w_yes (w_T ?_)⟩
            repeat walk_at "w"
            refine ⟨_, rfl, ?_⟩
            repeat walk_at "w"
            refine ⟨a, [qv, lv, rv], rfl, SqT.of ha, fun z => absurd z.1 (show ¬ HT.sIx 3 0 (some 1) = 0 by decide), ?_⟩
            intro tp hptp; generalize eH6 : upd H5 tp _ = H6; obtain ⟨g6, h6⟩ := new_facts TT hptp eH6; clear eH6
            have h6 : H6 tp = some (.tup [lv, rv]) := h6
            refine ⟨tp, rfl, ⟨_, SqT.of h6⟩, ?_⟩
            refine w_in2 (L2.walk_tup (xs := [lv, rv])) (fun j H' => ∃ acc us, H' D = some (.lst acc) ∧ TrsV H' acc us ∧ us = (ts.take i).flatMap kids ++ kid2 p l r j ∧ Gr TT NoS H3 H' ∧ Gr TT (fun b => b = D) H5 H' ∧ acc.length ≤ 2 * i + j ∧ H' tp = some (.tup [lv, rv])) ⟨acc, _, g6.keepL0 hacc, hus.gr g6, (List.append_nil _).symm, g4.trans g6, g6.of0, hal, h6⟩ (fun j H' _ ⟨_, _, _, _, _, _, _, _, z⟩ => SqT.of z) ?_ ?_
            · rintro j y H7 H8 hj ⟨acc, us, hacc, hus, rfl, g7, l7, hal, htp⟩ ⟨rfl, hy⟩
              have hi100 : i < 100 := by
                have hi : i < xs.length := hi
                omega
              have hj2 : j < 2 := hj
              refine w_gname ⟨rfl, ?_⟩
              repeat walk_at "w"
              obtain ⟨tj, htj, hkj⟩ : ∃ tj, TrV H8 y tj ∧ kid2 p l r (j + 1) = kid2 p l r j ++ (if isNil tj then [] else [tj]) := by
                match j, hj2, hy with
                | 0, _, hy =>
                  obtain rfl : lv = y := Option.some.inj hy
                  exact ⟨l, hl.gr l7, rfl⟩
                | 1, _, hy =>
                  obtain rfl : rv = y := Option.some.inj hy
                  exact ⟨r, hr2.gr l7, rfl⟩
              cases tj with
              | nil =>
                obtain rfl : y = .non := htj
                repeat walk_at "w"
                exact ⟨acc, _, hacc, hus, by rw [hkj, ← List.append_assoc]; simp [isNil], g7, l7, by omega, htp⟩
              | node p2 l2 r2 =>
                obtain ⟨a2, q2, lv2, rv2, rfl, _⟩ := id htj
                repeat walk_at "w"
                have lD : Gr TT (fun b => b = D) H8 (upd H8 D (.lst (acc ++ [.ref a2]))) := Gr.lst hacc
                exact ⟨acc, hacc, sz100' (by omega), acc ++ [.ref a2], _, upd_same, Al.app (Al.imp hus fun _ _ z => z.gr lD) (.cons (htj.gr lD) .nil), by rw [hkj, ← List.append_assoc]; simp [isNil], g7.lst' hD hacc, l7.trans lD, by rw [List.length_append, List.length_singleton]; omega, lD.tup htp⟩
            · rintro H7 ⟨acc, us, hacc, hus, rfl, g7, l7, hal, htp⟩
              refine ⟨acc, _, hacc, hus, ?_, g7, hal⟩
              have e2 : ts.take (i + 1) = ts.take i ++ [.node p l r] := by
                rw [List.take_add_one, hti]
                rfl
              rw [e2, List.flatMap_append, List.flatMap_singleton]
              rfl
        · rintro H4 ⟨acc, us, hacc, hus, rfl, g4, hal⟩
          have e2 : ts.take xs.length = ts := List.take_of_length_le (by omega)
          rw [e2] at hus
          have hk := kids_rsz ts
          have hn1 : ∀ u ∈ ts.flatMap kids, isNil u = false := fun u hu => by
            obtain ⟨z, _, hz⟩ := List.mem_flatMap.mp hu
            exact kids_nil z u hz
          exact ⟨hmax (ts.flatMap kids), by omega, n + 1, D, acc, ts.flatMap kids, _, _, rfl, g2.trans (g3.trans g4), hacc, hus, hn1, by omega, by omega, rfl⟩
    | node p0 l0 r0 =>
      obtain ⟨a0, q0, lv0, rv0, rfl, _⟩ := id ht0
      repeat walk_at "w"
      refine ⟨sz100 (Nat.le_of_ble_eq_true rfl), fun row hprow => ?_⟩; generalize eH1 : upd H row _ = H1; obtain ⟨g1, h1⟩ := new_facts TT hprow eH1; clear eH1
      refine w_seq (w_while (fun m σ' H' => ∃ (n : Nat) (row' : Addr) (xs : List V) (ts : List Tree) (v3 v4 : Option V), σ' = [some _, some (.int n), some (.ref row'), v3, v4] ∧ Gr TT NoS H H' ∧ H' row' = some (.lst xs) ∧ TrsV H' xs ts ∧ (∀ u ∈ ts, isNil u = false) ∧ n + hmax ts = ht (Tree.node p0 l0 r0) ∧ rsz ts ≤ 100 ∧ m = hmax ts) (hmax [Tree.node p0 l0 r0]) ⟨0, row, [V.ref a0], [Tree.node p0 l0 r0], none, none, rfl, g1, h1, (Paired.cons (ht0.gr g1) Paired.nil), (fun u z => (by rw [List.mem_singleton.mp z]; rfl)), by simp [hmax, ht], by simpa [rsz, tsz] using hsz, rfl⟩ ?_)
      rintro m σ' H2 ⟨n, row', xs, ts, v3, v4, rfl, g2, hrow, hts, hnn, hsum, hrs, rfl⟩
      repeat walk_at "w"
      refine ⟨sz100 (Nat.le_of_ble_eq_true rfl), fun e hpe => ?_⟩; generalize eH3 : upd H2 e _ = H3; obtain ⟨g3, h3⟩ := new_facts TT hpe eH3; clear eH3
      have hrow3 := g3.keepL0 hrow
      refine w_neNil (SqL.of hrow3) h3 ?_
      repeat walk_at "w"
      have hxl := hts.len
      have htl := len_rsz ts hnn
      cases ts with
      | nil =>
        cases hts
        repeat walk_at "w"
        have e0 : n = ht (Tree.node p0 l0 r0) := hsum
        rw [e0]
        exact k _ (g2.trans g3)
      | cons t1 ts1 =>
        have hmx := kids_max (t1 :: ts1) (by simp) hnn
        obtain ⟨x1, xs1, rfl⟩ : ∃ x1 xs1, xs = x1 :: xs1 := by
          cases xs with
          | nil => cases hts
          | cons x1 xs1 => exact ⟨x1, xs1, rfl⟩
        generalize hts' : t1 :: ts1 = ts at hts hnn hsum hrs hxl htl hmx ⊢
        generalize hxs' : x1 :: xs1 = xs at hrow hrow3 hts hxl ⊢
        refine w_ite (by rw [← hxs']; rfl) ⟨_, fun σ' H' z => z, ?_⟩
        repeat walk_at "w"
        refine ⟨row', rfl, ⟨_, SqL.of hrow3⟩, fun D hD => ?_⟩
        refine w_lc2 (L2.walk_list (xs := xs)) (fun i H' => ∃ acc us, H' D = some (.lst acc) ∧ TrsV H' acc us ∧ us = (ts.take i).flatMap kids ∧ Gr TT NoS H3 H' ∧ acc.length ≤ 2 * i) ⟨[], [], upd_same, .nil, rfl, .new hD, Nat.zero_le _⟩ (fun i H' _ ⟨_, _, _, _, _, g, _⟩ => SqL.of (g.keepL0 hrow3)) ?_ ?_
        · rintro i x H4 H5 hi ⟨acc, us, hacc, hus, rfl, g4, hal⟩ ⟨rfl, hx⟩
          obtain ⟨ti, hti, htx⟩ := Al.get hts hx
          have hnni := hnn ti (List.mem_of_getElem? hti)
          cases ti with
          | nil => cases hnni
          | node p l r =>
            obtain ⟨a, qv, lv, rv, rfl, ha, hq, hl, hr2⟩ := (TrV.gr htx g3).gr g4
            refine w_gname ⟨rfl, w_yes (w_T ?_)⟩
            repeat walk_at "w"
            refine ⟨_, rfl, ?_⟩
            repeat walk_at "w"
            refine ⟨a, [qv, lv, rv], rfl, SqT.of ha, fun z => absurd z.1 (show ¬ HT.sIx 3 0 (some 1) = 0 by decide), ?_⟩
            intro tp hptp; generalize eH6 : upd H5 tp _ = H6; obtain ⟨g6, h6⟩ := new_facts TT hptp eH6; clear eH6
            have h6 : H6 tp = some (.tup [lv, rv]) := h6
            refine ⟨tp, rfl, ⟨_, SqT.of h6⟩, ?_⟩
            refine w_in2 (L2.walk_tup (xs := [lv, rv])) (fun j H' => ∃ acc us, H' D = some (.lst acc) ∧ TrsV H' acc us ∧ us = (ts.take i).flatMap kids ++ kid2 p l r j ∧ Gr TT NoS H3 H' ∧ Gr TT (fun b => b = D) H5 H' ∧ acc.length ≤ 2 * i + j ∧ H' tp = some (.tup [lv, rv])) ⟨acc, _, g6.keepL0 hacc, hus.gr g6, (List.append_nil _).symm, g4.trans g6, g6.of0, hal, h6⟩ (fun j H' _ ⟨_, _, _, _, _, _, _, _, z⟩ => SqT.of z) ?_ ?_
            · rintro j y H7 H8 hj ⟨acc, us, hacc, hus, rfl, g7, l7, hal, htp⟩ ⟨rfl, hy⟩
              have hi100 : i < 100 := by
                have hi : i < xs.length := hi
                omega
              have hj2 : j < 2 := hj
              refine w_gname ⟨rfl, ?_⟩
              repeat walk_at "w"
              obtain ⟨tj, htj, hkj⟩ : ∃ tj, TrV H8 y tj ∧ kid2 p l r (j + 1) = kid2 p l r j ++ (if isNil tj then [] else [tj]) := by
                match j, hj2, hy with
                | 0, _, hy =>
                  obtain rfl : lv = y := Option.some.inj hy
                  exact ⟨l, hl.gr l7, rfl⟩
                | 1, _, hy =>
                  obtain rfl : rv = y := Option.some.inj hy
                  exact ⟨r, hr2.gr l7, rfl⟩
              cases tj with
              | nil =>
                obtain rfl : y = .non := htj
                repeat walk_at "w"
                exact ⟨acc, _, hacc, hus, by rw [hkj, ← List.append_assoc]; simp [isNil], g7, l7, by omega, htp⟩
              | node p2 l2 r2 =>
                obtain ⟨a2, q2, lv2, rv2, rfl, _⟩ := id htj
                repeat walk_at "w"
                have lD : Gr TT (fun b => b = D) H8 (upd H8 D (.lst (acc ++ [.ref a2]))) := Gr.lst hacc
                exact ⟨acc, hacc, sz100' (by omega), acc ++ [.ref a2], _, upd_same, Al.app (Al.imp hus fun _ _ z => z.gr lD) (.cons (htj.gr lD) .nil), by rw [hkj, ← List.append_assoc]; simp [isNil], g7.lst' hD hacc, l7.trans lD, by rw [List.length_append, List.length_singleton]; omega, lD.tup htp⟩
            · rintro H7 ⟨acc, us, hacc, hus, rfl, g7, l7, hal, htp⟩
              refine ⟨acc, _, hacc, hus, ?_, g7, hal⟩
              have e2 : ts.take (i + 1) = ts.take i ++ [.node p l r] := by
                rw [List.take_add_one, hti]
                rfl
              rw [e2, List.flatMap_append, List.flatMap_singleton]
              rfl
        · rintro H4 ⟨acc, us, hacc, hus, rfl, g4, hal⟩
          have e2 : ts.take xs.length = ts := List.take_of_length_le (by omega)
          rw [e2] at hus
          have hk := kids_rsz ts
          have hn1 : ∀ u ∈ ts.flatMap kids, isNil u = false := fun u hu => by
            obtain ⟨z, _, hz⟩ := List.mem_flatMap.mp hu
            exact kids_nil z u hz
          exact ⟨hmax (ts.flatMap kids), by omega, n + 1, D, acc, ts.flatMap kids, _, _, rfl, g2.trans (g3.trans g4), hacc, hus, hn1, by omega, by omega, rfl⟩
def spEven (TT : List (Addr × Str)) : Sp := fun vs H Q _ => ∃ v t, vs = [v] ∧ TrV H v t ∧ tsz t ≤ 60 ∧ Kd false t ∧ tok t ∧ ht t ≤ Builtin.Int.intBits ((tsz t : Nat) : Int) ∧ bt 6 false (rd t) = t ∧ Tabs TT H ∧ ∀ H', Gr TT NoS H H' → Q (.bl true) H'
abbrev s_is_even : Stmt := topS 43
abbrev N_is_even : List Str := ["tree", "points"]
theorem sc_is_even : FnScope N_is_even ["tree"] (C8.fnScope s_is_even) := ⟨rfl, rfl, rfl, by decide +kernel, rfl, by decide +kernel, by decide +kernel⟩
theorem cal_is_even {TT : List (Addr × Str)} {f : Addr} {fd : FuncData} (F : C8.Def K mg "is_even" s_is_even f fd) (b : Binds K fd ["tree"] []) (T : Txt K mg aE C) (c_require_middle : C8.Cal P w K mg base 6 "require_middle" (spReqMid TT) [.int 500]) (c_read : C8.Cal P w K mg base 1 "read" (spRead TT) [])
    (c_height_of : C8.Cal P w K mg base 1 "height_of" (spHt TT) []) (c_built_from : C8.Cal P w K mg base 12 "built_from" (spBuilt (K := K) TT 6) []) : C8.Cal P w K mg base 13 "is_even" (spEven TT) [] := by
  refine C8.cal0 F b .nil sc_is_even (fun vs H Q E h => ?_) (fun cdv A outer s H vs Q E hr h => ?_)
  · obtain ⟨v, t, rfl, _⟩ := h
    rfl
  · obtain ⟨v, t, rfl, ht0, hsz, hkd, hok, hh, hbt, tabs, k⟩ := h
    have nd := sc_is_even.nd
    refine ⟨_, (pss_cons (ps_expr (C8.pe_c c_require_middle hr (by decide) (by rfl) (pa_cons (pv 0) pa_nil)))
  (pss_cons (ps_set (i := 1) nd rfl (Or.inl rfl) (C8.pe_c c_read hr (by decide) (by rfl) (pa_cons (pv 0) pa_nil)))
  (pss_one (ps_ret (pe_and (pe_cmpR op_le (C8.pe_c c_height_of hr (by decide) (by rfl) (pa_cons (pv 0) pa_nil)) (pe_bits (pe_callB call_len_seq (by rfl) T.nlen (by decide +kernel) (pa_cons (pv 1) pa_nil))) (nomark _)) (pe_one (pe_cmpR (op_eqD (room64 hr)) (C8.pe_c c_built_from hr (by decide) (by rfl) (pa_cons (pv 1) (pa_cons pe_int pa_nil))) (pv 0) (nomark _)))))))), ?_⟩
    repeat walk_at "w"
    refine ⟨v, t, rfl, ht0, by omega, hkd, hok, fun H1 g1 => ?_⟩
    repeat walk_at "w"
    refine ⟨v, t, rfl, ht0.gr g1, by omega, fun l xs H2 g2 _ hl hps => ?_⟩
    repeat walk_at "w"
    refine ⟨v, t, rfl, (ht0.gr g1).gr g2, by omega, fun H3 g3 => ?_⟩
    have hl3 := g3.keepL0 hl
    have hxl := hps.len
    rw [tsz_rd] at hxl
    repeat walk_at "w"
    refine ⟨l, xs, rfl, .inl (SqL.of hl3), ?_⟩
    repeat walk_at "w"
    refine ⟨_, rfl, ?_⟩
    repeat walk_at "w"
    rw [hxl, decide_eq_true (by omega)]
    repeat walk_at "w"
    refine ⟨l, xs, rd t, false, rfl, SqL.of hl3, hps.gr g3, by rw [tsz_rd]; omega, by rw [tsz_rd]; omega, g3.tb (g2.tb (g1.tb tabs)), fun bv H4 g4 hb => ?_⟩
    rw [hbt] at hb
    repeat walk_at "w"
    have h60 : ht t ≤ 50 := by
      rw [← hbt]
      exact Nat.le_trans (bt_ht 6 false _) (by decide)
    refine ⟨_, _, hb.dp, (TrV.gr ht0 (g1.trans (g2.trans (g3.trans g4)))).dp, shaped_tr h60, shaped_tr h60, ?_⟩
    rw [eqv_same (shaped_tr h60)]
    exact k _ (g1.trans (g2.trans (g3.trans g4)))
end
end Wd
end
section
/-! Searches in one tree. -/
namespace Wd
open PySem PySem.Spec PyProof.Rows L2 LamX
local macro_rules | `(tactic| walk_at "w") => `(tactic| first
  | with_reducible refine w_var (by with_unfolding_all rfl) ?_
  | with_reducible refine w_aug (by with_unfolding_all rfl) ?_
  | with_reducible refine w_op ?_
  | with_reducible refine w_c ?_
  | with_reducible refine w_I0 ?_
  | with_reducible refine w_cons ?_
  | with_reducible refine w_nil ?_
  | with_reducible refine w_call ?_
  | with_reducible refine w_cb ?_
  | with_reducible refine w_seq ?_
  | with_reducible refine w_ret ?_
  | with_reducible refine w_set ?_
  | with_reducible refine w_if ?_
  | with_reducible refine w_test ?_
  | with_reducible refine w_B ?_
  | with_reducible refine w_k ?_
  | with_reducible refine w_and ?_
  | with_reducible refine w_or ?_
  | with_reducible refine w_not ?_
  | with_reducible refine w_andV ?_
  | with_reducible refine w_orV ?_
  | with_reducible refine w_notV ?_
  | with_reducible refine w_ifE ?_
  | with_reducible refine w_chain ?_
  | with_reducible refine w_un ?_
  | with_reducible refine w_U ?_
  | with_reducible refine w_isN ?_
  | with_reducible refine w_notN ?_
  | with_reducible refine w_T ?_
  | with_reducible refine w_F ?_
  | with_reducible refine w_next ?_
  | with_reducible refine w_drop ?_
  | with_reducible refine w_par2 ?_
  | with_reducible refine w_par3 ?_
  | with_reducible refine w_tup ?_
  | with_reducible refine w_lst ?_
  | with_reducible refine w_bm ?_
  | with_reducible refine w_bm0 ?_
  | with_reducible refine w_gname ?_
  | with_reducible refine w_gcons ?_
  | with_reducible refine w_lcI ?_
  | with_reducible refine w_lc2I ?_
  | with_reducible refine w_iTup ?_
  | with_reducible refine w_iList ?_
  | with_reducible refine w_yes ?_
  | with_reducible refine w_din ?_
  | with_reducible refine w_dput ?_
  | with_reducible refine w_dget2 ?_
  | with_reducible refine w_iEnum ?_
  | with_reducible refine w_sl ?_
  | with_reducible refine w_noP ?_
  | with_reducible refine w_part ?_
  | with_reducible refine w_asg ?_
  | with_reducible refine w_ip ?_
  | with_reducible refine w_cont ?_
  | with_reducible refine w_callD ?_
  | with_reducible refine w_thru ?_
  | with_reducible refine w_star ?_
  | with_reducible refine w_bits ?_
  | with_reducible refine w_revL ?_
  | with_reducible refine w_fld ?_
  | with_reducible refine w_dget ?_
  | with_reducible refine w_keys ?_
  | with_reducible refine w_gsub ?_
  | with_reducible refine w_fldaug ?_
  | with_reducible refine w_sfld ?_
  | with_reducible refine w_meth ?_
  | with_reducible refine w_make ?_
  | with_reducible refine w_ite (by with_unfolding_all rfl) ?_ | with_reducible refine w_itf (by with_unfolding_all rfl) ?_)
def entB (rc : Rect) (ax : Bool) (p : Pt) : List Bool := (if mLow rc ax (kx ax p) then [false] else []) ++ if mHigh rc ax (kx ax p) then [true] else []
def sideT (l r : Tree) (sd : Bool) : Tree := if sd then r else l
theorem entB_len (rc : Rect) (ax : Bool) (p : Pt) : (entB rc ax p).length ≤ 2 := by
  unfold entB
  split <;> split <;> simp
section
variable {P : Program} {w : World} {K : PySem.W.Frag} {mg : Str → Option Value} {base : Heap} {aE C : Addr}
def spEntered (TT : List (Addr × Str)) : Sp := fun vs H Q _ => ∃ v p l r ax ra rc, vs = [v, axV ax, .ref ra] ∧ TrV H v (.node p l r) ∧ SqT K H ra (rcL rc) ∧ ∀ e H', Gr TT NoS H H' → H e = none → H' e = some (.lst ((entB rc ax p).map sdV)) → Q (.ref e) H'
abbrev s_entered : Stmt := topS 45
abbrev N_entered : List Str := ["one", "axis", "rectangle", "found"]
theorem sc_entered : FnScope N_entered ["one", "axis", "rectangle"] (C8.fnScope s_entered) := ⟨rfl, rfl, rfl, by decide +kernel, rfl, by decide +kernel, by decide +kernel⟩
theorem cal_entered {TT : List (Addr × Str)} {f : Addr} {fd : FuncData} (F : C8.Def K mg "entered" s_entered f fd) (b : Binds K fd ["one", "axis", "rectangle"] []) (c_meets_low : C8.Cal P w K mg base 1 "meets_low" (spMLow (K := K)) []) (c_meets_high : C8.Cal P w K mg base 1 "meets_high" (spMHigh (K := K)) []) : C8.Cal P w K mg base 2 "entered" (spEntered (K := K) TT) [] := by
  refine C8.cal0 F b .nil sc_entered (fun vs H Q E h => ?_) (fun cdv A outer s H vs Q E hr h => ?_)
  · obtain ⟨v, p, l, r, ax, ra, rc, rfl, _⟩ := h
    rfl
  · obtain ⟨v, p, l, r, ax, ra, rc, rfl, ⟨a, qv, lv, rv, rfl, ha, ⟨c, rfl, hp⟩, _, _⟩, hrc, k⟩ := h
    have nd := sc_entered.nd
    refine ⟨_, (pss_cons (ps_set (i := 3) nd rfl (Or.inl rfl) (pe_lst pa_nil))
  (pss_cons (ps_if (pt_val (C8.pe_c c_meets_low hr (by decide) (by rfl) (pa_cons (pv 2) (pa_cons (pv 1) (pa_cons (pe_ix ix_tup (pe_ix ix_tup (pv 0) pe_int (fun _ _ => rfl)) (pv 1) (fun _ _ => rfl)) pa_nil))))) (pss_one (ps_expr (pe_bm PySem.F.plainAttrs_list PySem.F.slot_list_append PySem.F.type_list_append mt_append (pv 3) (pa_cons pe_int pa_nil)))) pss_nil)
  (pss_cons (ps_if (pt_val (C8.pe_c c_meets_high hr (by decide) (by rfl) (pa_cons (pv 2) (pa_cons (pv 1) (pa_cons (pe_ix ix_tup (pe_ix ix_tup (pv 0) pe_int (fun _ _ => rfl)) (pv 1) (fun _ _ => rfl)) pa_nil))))) (pss_one (ps_expr (pe_bm PySem.F.plainAttrs_list PySem.F.slot_list_append PySem.F.type_list_append mt_append (pv 3) (pa_cons pe_int pa_nil)))) pss_nil)
  (pss_one (ps_ret (pv 3)))))), ?_⟩
    repeat walk_at "w"
    refine ⟨sz100 (Nat.le_of_ble_eq_true rfl), fun e hpe => ?_⟩; generalize eH1 : upd H e _ = H1; obtain ⟨g1, h1⟩ := new_facts TT hpe eH1; clear eH1
    have ha1 := g1.tup ha
    have hp1 := g1.tup hp
    have hrc1 := g1.sqT hrc
    repeat walk_at "w"
    refine w_ixT (SqT.of ha1) (by rfl) ?_
    repeat walk_at "w"
    refine w_ixT (SqT.of hp1) ax_pt ?_
    repeat walk_at "w"
    refine ⟨ra, rc, ax, _, rfl, hrc1, ?_⟩
    cases el : mLow rc ax (kx ax p) with
    | false =>
      repeat walk_at "w"
      refine w_ixT (SqT.of (g1.tup ha)) (by rfl) ?_
      repeat walk_at "w"
      refine w_ixT (SqT.of (g1.tup hp)) ax_pt ?_
      repeat walk_at "w"
      refine ⟨ra, rc, ax, _, rfl, g1.sqT hrc, ?_⟩
      cases eh : mHigh rc ax (kx ax p) with
      | false =>
        repeat walk_at "w"
        refine k e _ g1 hpe ?_
        rw [h1]
        unfold entB
        rw [el, eh]
        rfl
      | true =>
        repeat walk_at "w"
        refine ⟨w_tyL (SqL.of h1), ?_⟩
        repeat walk_at "w"
        refine w_rapp h1 (Nat.le_of_ble_eq_true rfl) ?_
        generalize eH9 : upd H1 e _ = H9; obtain ⟨gH9, lH9, hH9⟩ := lst_facts (TT := TT) (hpe) (g1) (h1) eH9; clear eH9
        repeat walk_at "w"
        refine k e _ gH9 hpe ?_
        rw [hH9]
        unfold entB
        rw [el, eh]
        rfl
    | true =>
      repeat walk_at "w"
      refine ⟨w_tyL (SqL.of h1), ?_⟩
      repeat walk_at "w"
      refine w_rapp h1 (Nat.le_of_ble_eq_true rfl) ?_
      generalize eH2 : upd H1 e _ = H2; obtain ⟨gH2, lH2, hH2⟩ := lst_facts (TT := TT) (hpe) (g1) (h1) eH2; clear eH2
      repeat walk_at "w"
      refine w_ixT (SqT.of (gH2.tup ha)) (by rfl) ?_
      repeat walk_at "w"
      refine w_ixT (SqT.of (gH2.tup hp)) ax_pt ?_
      repeat walk_at "w"
      refine ⟨ra, rc, ax, _, rfl, gH2.sqT hrc, ?_⟩
      cases eh : mHigh rc ax (kx ax p) with
      | false =>
        repeat walk_at "w"
        refine k e _ gH2 hpe ?_
        rw [hH2]
        unfold entB
        rw [el, eh]
        rfl
      | true =>
        repeat walk_at "w"
        refine ⟨w_tyL (SqL.of hH2), ?_⟩
        repeat walk_at "w"
        refine w_rapp hH2 (Nat.le_of_ble_eq_true rfl) ?_
        generalize eH9 : upd H2 e _ = H9; obtain ⟨gH9, lH9, hH9⟩ := lst_facts (TT := TT) (hpe) (gH2) (hH2) eH9; clear eH9
        repeat walk_at "w"
        refine k e _ gH9 hpe ?_
        rw [hH9]
        unfold entB
        rw [el, eh]
        rfl
/-! ### what is found in a tree -/
abbrev FiD := Tree × Bool
def FiI (H : Hp) (v : V) (i : FiD) : Prop := ∃ a tv, v = .ref a ∧ H a = some (.tup [tv, axV i.2]) ∧ TrV H tv i.1
theorem FiI.gr {T : List (Addr × Str)} {S : Addr → Prop} {H H1 : Hp} {v : V} {i : FiD} (h : FiI H v i) (g : Gr T S H H1) : FiI H1 v i := by
  obtain ⟨a, tv, e, h1, h2⟩ := h
  exact ⟨a, tv, e, g.tup h1, h2.gr g⟩
def kidF (l r : Tree) (ax : Bool) (sd : Bool) : FiD := (sideT l r sd, !ax)
theorem ents_fnd (rc : Rect) (ax : Bool) (p : Pt) (l r : Tree) : fnd rc ax (.node p l r) = (if hold rc p then [p] else []) ++ ((entB rc ax p).map (kidF l r ax)).flatMap (fun i => fnd rc i.2 i.1) := by
  show (if hold rc p then [p] else []) ++ ((if mLow rc ax (kx ax p) then fnd rc (!ax) l else []) ++ (if mHigh rc ax (kx ax p) then fnd rc (!ax) r else [])) = _
  congr 1
  unfold entB
  cases mLow rc ax (kx ax p) <;> cases mHigh rc ax (kx ax p) <;> simp [kidF, sideT]
theorem ents_vis (rc : Rect) (ax : Bool) (p : Pt) (l r : Tree) : vis rc ax (.node p l r) = p :: ((entB rc ax p).map (kidF l r ax)).flatMap (fun i => vis rc i.2 i.1) := by
  show p :: ((if mLow rc ax (kx ax p) then vis rc (!ax) l else []) ++ (if mHigh rc ax (kx ax p) then vis rc (!ax) r else [])) = _
  congr 1
  unfold entB
  cases mLow rc ax (kx ax p) <;> cases mHigh rc ax (kx ax p) <;> simp [kidF, sideT]
theorem stsz_app (ts us : List Tree) : stsz (ts ++ us) = stsz ts + stsz us := by
  unfold stsz
  rw [List.map_append, List.sum_append]
theorem ents_sz (rc : Rect) (ax : Bool) (p : Pt) (l r : Tree) : stsz (((entB rc ax p).reverse.map (kidF l r ax)).map (·.1)) ≤ 2 * (tsz l + tsz r) + 2 := by
  unfold entB
  cases mLow rc ax (kx ax p) <;> cases mHigh rc ax (kx ax p) <;> simp [kidF, sideT, stsz] <;> omega
def spFound (TT : List (Addr × Str)) : Sp := fun vs H Q _ => ∃ v t ra rc, vs = [v, .ref ra] ∧ TrV H v t ∧ tsz t ≤ 100 ∧ SqT K H ra (rcL rc) ∧ ∀ a fl vl fs es H', Gr TT NoS H H' → H' a = some (.tup [.ref fl, .ref vl]) → H fl = none → H' fl = some (.lst fs) → PtsV H' fs (fnd rc false t) → H vl = none → H' vl = some (.lst es) → PtsV H' es (vis rc false t) → Q (.ref a) H'
abbrev s_found_in : Stmt := topS 46
abbrev N_found_in : List Str := ["tree", "rectangle", "found", "visited", "waiting", "one", "axis", "side"]
theorem sc_found_in : FnScope N_found_in ["tree", "rectangle"] (C8.fnScope s_found_in) := ⟨rfl, rfl, rfl, by decide +kernel, rfl, by decide +kernel, by decide +kernel⟩
theorem cal_found_in {TT : List (Addr × Str)} {f : Addr} {fd : FuncData} (F : C8.Def K mg "found_in" s_found_in f fd) (b : Binds K fd ["tree", "rectangle"] []) (c_holds : C8.Cal P w K mg base 1 "holds" (spHolds (K := K) TT) []) (c_entered : C8.Cal P w K mg base 2 "entered" (spEntered (K := K) TT) []) : C8.Cal P w K mg base 3 "found_in" (spFound (K := K) TT) [] := by
  refine C8.cal0 F b .nil sc_found_in (fun vs H Q E h => ?_) (fun cdv A outer s H vs Q E hr h => ?_)
  · obtain ⟨v, t, ra, rc, rfl, _⟩ := h
    rfl
  · obtain ⟨v, t, ra, rc, rfl, ht0, hsz, hrc, k⟩ := h
    have nd := sc_found_in.nd
    refine ⟨_, (pss_cons (ps_par3 (i := 2) (j := 3) (l := 4) rfl nd rfl rfl rfl (by decide) (by decide) (by decide) rfl rfl rfl (pa_cons (pe_lst pa_nil) (pa_cons (pe_lst pa_nil) (pa_cons (pe_lst (pa_cons (pe_tup (pa_cons (pv 0) (pa_cons pe_int pa_nil))) pa_nil)) pa_nil))) (by rfl))
  (pss_cons (ps_while PassesOwn.never (pt_cmpR (op_neNil hr.units0) (pv 4) (pe_lst pa_nil) (nomark _)) (pss_cons (ps_asg (pe_bm0 PySem.F.plainAttrs_list PySem.F.slot_list_pop PySem.F.type_list_pop mt_pop (pv 4)) (pg_tup rfl (pgs_cons (pg_name (i := 5) nd rfl (Or.inr rfl)) (pgs_cons (pg_name (i := 6) nd rfl (Or.inr rfl)) pgs_nil))))
  (pss_one (ps_if (pt_cmpR op_notN1 (pv 5) pe_non (nomark _)) (pss_cons (ps_expr (pe_bm PySem.F.plainAttrs_list PySem.F.slot_list_append PySem.F.type_list_append mt_append (pv 3) (pa_cons (pe_ix ix_tup (pv 5) pe_int (fun _ _ => rfl)) pa_nil)))
  (pss_cons (ps_if (pt_val (C8.pe_c c_holds hr (by decide) (by rfl) (pa_cons (pv 1) (pa_cons (pe_ix ix_tup (pv 5) pe_int (fun _ _ => rfl)) pa_nil)))) (pss_one (ps_expr (pe_bm PySem.F.plainAttrs_list PySem.F.slot_list_append PySem.F.type_list_append mt_append (pv 2) (pa_cons (pe_ix ix_tup (pv 5) pe_int (fun _ _ => rfl)) pa_nil)))) pss_nil)
  (pss_one (ps_expr (pe_bm PySem.F.plainAttrs_list PySem.F.slot_list_extend PySem.F.type_list_extend mt_extend (pv 4) (pa_cons (pe_lc (own := [("side", 7)]) (te := tTup (tCons (tOp (rIxT K) (tVar 5) (tOp (rI0 fun i j => .int (i + j)) (tC (.int 1)) (tVar 7))) (tCons (tOp (rI0 fun i j => .int (i - j)) (tC (.int 1)) (tVar 6)) tNil))) rfl nd (pi_list (pe_revL (C8.pe_c c_entered hr (by decide) (by rfl) (pa_cons (pv 5) (pa_cons (pv 6) (pa_cons (pv 1) pa_nil)))))) (blkOk_by (own := [("side", 7)]) (N := N_found_in) (sc := (C8.fnScope s_found_in)) (by decide +kernel)) (fun _ _ _ _ _ => (pg_name (i := 7) nd rfl (Or.inl rfl))) (fun _ _ _ _ _ => L2.pts_nil) (fun _ _ _ _ _ => (pe_tup (pa_cons (pe_ix ix_tup (pv 5) (pe_op op_add pe_int (pv 7)) (fun _ _ => rfl)) (pa_cons (pe_op op_sub pe_int (pv 6)) pa_nil))))) pa_nil)))))) pss_nil))))
  (pss_one (ps_ret (pe_tup (pa_cons (pv 2) (pa_cons (pv 3) pa_nil))))))), ?_⟩
    repeat walk_at "w"
    refine ⟨sz100 (Nat.le_of_ble_eq_true rfl), fun fo hpfo => ?_⟩; generalize eH1 : upd H fo _ = H1; obtain ⟨g1, h1⟩ := new_facts TT hpfo eH1; clear eH1
    repeat walk_at "w"
    refine ⟨sz100 (Nat.le_of_ble_eq_true rfl), fun vi hpvi => ?_⟩; generalize eH2 : upd H1 vi _ = H2; obtain ⟨g2, h2⟩ := new_facts TT hpvi eH2; clear eH2
    repeat walk_at "w"
    refine ⟨sz100 (Nat.le_of_ble_eq_true rfl), fun i0 hpi0 => ?_⟩; generalize eH3 : upd H2 i0 _ = H3; obtain ⟨g3, h3⟩ := new_facts TT hpi0 eH3; clear eH3
    repeat walk_at "w"
    refine ⟨sz100 (Nat.le_of_ble_eq_true rfl), fun wt hpwt => ?_⟩; generalize eH4 : upd H3 wt _ = H4; obtain ⟨g4, h4⟩ := new_facts TT hpwt eH4; clear eH4
    have g14 := g1.trans (g2.trans (g3.trans g4))
    have fo0 : H fo = none := hpfo
    have vi0 : H vi = none := g1.fr _ hpvi
    have wt0 : H wt = none := (g1.trans (g2.trans g3)).fr _ hpwt
    have fv : fo ≠ vi := ne_of_none h1 hpvi
    have fw : fo ≠ wt := ne_of_none ((g2.trans g3).keepL0 h1) hpwt
    have vw : vi ≠ wt := ne_of_none (g3.keepL0 h2) hpwt
    refine w_seq (w_while (fun m σ' H' => ∃ (v5 v6 v7 : Option V) (xs fs es : List V) (is : List FiD) (ds ws : List Pt), σ' = [some v, some (.ref ra), some (.ref fo), some (.ref vi), some (.ref wt), v5, v6, v7] ∧ Gr TT NoS H H' ∧ H' fo = some (.lst fs) ∧ PtsV H' fs ds ∧ H' vi = some (.lst es) ∧ PtsV H' es ws ∧ H' wt = some (.lst xs) ∧ Al (FiI H') xs is ∧
        ds ++ is.reverse.flatMap (fun i => fnd rc i.2 i.1) = fnd rc false t ∧ ws ++ is.reverse.flatMap (fun i => vis rc i.2 i.1) = vis rc false t ∧ m = stsz (is.map (·.1)) ∧ fs.length + m ≤ 300 ∧ es.length + m ≤ 300) (stsz [t])
      ⟨_, _, _, _, [], [], [(t, false)], [], [], rfl, g14, (g2.trans (g3.trans g4)).keepL0 h1, .nil, (g3.trans g4).keepL0 h2, .nil, h4, .cons ⟨i0, v, rfl, g4.tup h3, ht0.gr g14⟩ .nil, by simp, by simp, rfl, by show 0 + (2 * tsz t + 1 + 0) ≤ 300; omega, by show 0 + (2 * tsz t + 1 + 0) ≤ 300; omega⟩ ?_)
    rintro m σ' H' ⟨v5, v6, v7, xs, fs, es, is, ds, ws, rfl, g, hfo, hfs, hvi, hes, hwt, his, hds, hws, rfl, hm1, hm2⟩
    repeat walk_at "w"
    refine ⟨sz100 (Nat.le_of_ble_eq_true rfl), fun e hpe => ?_⟩; generalize eH5 : upd H' e _ = H5; obtain ⟨g5, h5⟩ := new_facts TT hpe eH5; clear eH5
    have hwt5 := g5.keepL0 hwt
    refine w_neNil (SqL.of hwt5) h5 ?_
    repeat walk_at "w"
    rcases List.eq_nil_or_concat xs with rfl | ⟨xs, y, rfl⟩
    · repeat walk_at "w"
      cases his
      rw [List.reverse_nil, List.flatMap_nil, List.append_nil] at hds hws
      refine ⟨sz100 (Nat.le_of_ble_eq_true rfl), fun out hpout => ?_⟩; generalize eH6 : upd H5 out _ = H6; obtain ⟨g6, h6⟩ := new_facts TT hpout eH6; clear eH6
      have G := g.trans (g5.trans g6)
      refine k out fo vi fs es H6 G h6 fo0 ((g5.trans g6).keepL0 hfo) ?_ vi0 ((g5.trans g6).keepL0 hvi) ?_
      · rw [← hds]
        exact (hfs.gr g5).gr g6
      · rw [← hws]
        exact (hes.gr g5).gr g6
    · rw [List.concat_eq_append] at *
      obtain ⟨us, u, rfl, hus, hu⟩ := Al.snoc his
      rw [List.map_append, List.map_singleton, stsz_snoc] at hm1 hm2 ⊢
      refine w_ite (by simp) ⟨_, fun σ' H' z => z, ?_⟩
      repeat walk_at "w"
      refine ⟨w_tyL (SqL.of hwt5), w_rpop hwt5 ?_⟩
      generalize eH6 : upd H5 wt _ = H6; obtain ⟨gH6, lH6, hH6⟩ := lst_facts (TT := TT) (wt0) (g.trans g5) (hwt5) eH6; clear eH6
      have hfo6 := lH6.keepL (g5.keepL0 hfo) fw
      have hvi6 := lH6.keepL (g5.keepL0 hvi) vw
      have hfs6 := (hfs.gr g5).gr lH6
      have hes6 := (hes.gr g5).gr lH6
      have hus6 : Al (FiI H6) xs us := Al.imp hus fun _ _ z => (z.gr g5).gr lH6
      obtain ⟨a, tv, rfl, ha, htv⟩ := (hu.gr g5).gr lH6
      obtain ⟨u, ax⟩ := u
      refine w_gtup (SqT.of ha) rfl (w_gcons (w_gname (w_gcons (w_gname (w_gnil ?_)))))
      repeat walk_at "w"
      rw [List.reverse_append, List.reverse_singleton, List.flatMap_append, List.flatMap_singleton, ← List.append_assoc] at hds hws
      have hxl := hus.len
      have hxs := stsz_len (us.map (·.1))
      rw [List.length_map] at hxs
      cases u with
      | nil =>
        obtain rfl : tv = .non := htv
        repeat walk_at "w"
        exact ⟨_, by omega, _, _, _, xs, fs, es, us, ds, ws, rfl, gH6, hfo6, hfs6, hvi6, hes6, hH6, hus6, by rw [← hds]; simp [fnd], by rw [← hws]; simp [vis], rfl, by omega, by omega⟩
      | node p l r =>
        have hm1 : fs.length + (stsz (us.map (·.1)) + (2 * (tsz l + tsz r + 1) + 1)) ≤ 300 := hm1
        have hm2 : es.length + (stsz (us.map (·.1)) + (2 * (tsz l + tsz r + 1) + 1)) ≤ 300 := hm2
        obtain ⟨a2, qv, lv, rv, rfl, ha2, hq, hl, hr2⟩ := id htv
        repeat walk_at "w"
        refine ⟨w_tyL (SqL.of hvi6), ?_⟩
        repeat walk_at "w"
        refine w_ixT (SqT.of ha2) (by rfl) ?_
        repeat walk_at "w"
        refine w_rapp hvi6 (by omega) ?_
        generalize eH7 : upd H6 vi _ = H7; obtain ⟨gH7, lH7, hH7⟩ := lst_facts (TT := TT) (vi0) (gH6) (hvi6) eH7; clear eH7
        have hfo7 := lH7.keepL hfo6 fv
        have hwt7 := lH7.keepL hH6 vw.symm
        have ha7 := lH7.tup ha2
        repeat walk_at "w"
        refine w_ixT (SqT.of ha7) (by rfl) ?_
        repeat walk_at "w"
        refine ⟨ra, rc, qv, p, rfl, gH7.sqT hrc, hq.gr lH7, fun H8 g8 => ?_⟩
        have hfo8 := g8.keepL0 hfo7
        have hvi8 := g8.keepL0 hH7
        have hwt8 := g8.keepL0 hwt7
        have G8 := gH7.trans g8
        have up8 : ∀ {v : V} {t : Tree}, TrV H6 v t → TrV H8 v t := fun z => (z.gr lH7).gr g8
        have hus8 : Al (FiI H8) xs us := Al.imp hus6 fun _ _ z => (z.gr lH7).gr g8
        have hfs8 := (hfs6.gr lH7).gr g8
        have hes8 : PtsV H8 (es ++ [qv]) (ws ++ [p]) := Al.app ((hes6.gr lH7).gr g8) (.cons ((hq.gr lH7).gr g8) .nil)
        have hq8 := (hq.gr lH7).gr g8
        have htv8 := up8 htv
        have hl8 := up8 hl
        have hr8 := up8 hr2
        have ha8 := g8.tup ha7
        have hds : ds ++ fnd rc ax (.node p l r) ++ List.flatMap (fun i => fnd rc i.snd i.fst) us.reverse = fnd rc false t := hds
        have hws : ws ++ vis rc ax (.node p l r) ++ List.flatMap (fun i => vis rc i.snd i.fst) us.reverse = vis rc false t := hws
        rw [ents_fnd] at hds
        rw [ents_vis] at hws
        cases eh : hold rc p with
        | false =>
          rw [eh] at hds
          repeat walk_at "w"
          refine ⟨w_tyL (SqL.of hwt8), ?_⟩
          repeat walk_at "w"
          refine ⟨_, p, l, r, ax, ra, rc, rfl, htv8, G8.sqT hrc, fun en Ha ga _ hen => ?_⟩
          repeat walk_at "w"
          refine ⟨en, _, rfl, SqL.of hen, ?_⟩
          intro rl hprl; generalize eHb : upd Ha rl _ = Hb; obtain ⟨gb, hb⟩ := new_facts TT hprl eHb; clear eHb
          rw [← List.map_reverse] at hb
          refine ⟨rl, rfl, ⟨_, SqL.of hb⟩, fun D hD => ?_⟩
          refine w_lc (L2.walk_list (xs := (entB rc ax p).reverse.map sdV)) TT NoS hD (fun i acc H' => Al (FiI H') acc (((entB rc ax p).reverse.take i).map (kidF l r ax))) .nil (fun i acc H' _ g _ _ => SqL.of (g.keepL0 hb)) ?_ ?_
          · rintro i x acc Hc Hc' hi hal gc hDc hacc ⟨rfl, hx⟩
            rw [List.getElem?_map] at hx
            cases hsd : (entB rc ax p).reverse[i]? with
            | none =>
              rw [hsd] at hx
              cases hx
            | some sd =>
              rw [hsd] at hx
              obtain rfl : sdV sd = x := Option.some.inj hx
              have GG := ga.trans (gb.trans gc)
              refine w_gname ⟨rfl, w_yes (w_T ?_)⟩
              repeat walk_at "w"
              refine w_ixT (v := if sd then rv else lv) (SqT.of (GG.tup ha8)) (by cases sd <;> rfl) ?_
              repeat walk_at "w"
              rw [show (1 : Int) - (if ax then 1 else 0) = (if (!ax) = true then 1 else 0) by cases ax <;> rfl]
              refine ⟨sz100 (Nat.le_of_ble_eq_true rfl), fun tp hptp => ?_⟩; generalize eHd : upd Hc' tp _ = Hd; obtain ⟨gd, hd⟩ := new_facts TT hptp eHd; clear eHd
              have hlen : i < 100000 := by
                have hi : i < ((entB rc ax p).reverse.map sdV).length := hi
                have := entB_len rc ax p
                rw [List.length_map, List.length_reverse] at hi
                omega
              have lD : Gr TT (fun b => b = D) Hd (upd Hd D (.lst (acc ++ [.ref tp]))) := Gr.lst (gd.keepL0 hDc)
              refine lc_yes (gc.trans gd) hD (gd.keepL0 hDc) hal hlen ?_
              rw [List.take_add_one, hsd]
              show Al _ _ ((_ ++ [sd]).map _)
              rw [List.map_append]
              refine Al.app (Al.imp hacc fun _ _ z => (z.gr gd).gr lD) (.cons ⟨tp, _, rfl, lD.tup hd, ?_⟩ .nil)
              cases sd
              · exact (hl8.gr GG).gr gd |>.gr lD
              · exact (hr8.gr GG).gr gd |>.gr lD
          · rintro acc Hc gc hDc hal hacc
            have hel := entB_len rc ax p
            rw [List.length_map, List.length_reverse] at hal
            rw [List.length_map, List.take_of_length_le (Nat.le_refl _)] at hacc
            repeat walk_at "w"
            have GG := ga.trans (gb.trans gc)
            refine w_rext (GG.keepL0 hwt8) hDc (by omega) ?_
            generalize eHe : upd Hc wt _ = He; obtain ⟨gHe, lHe, hHe⟩ := lst_facts (TT := TT) (wt0) (G8.trans GG) (GG.keepL0 hwt8) eHe; clear eHe
            have hsz2 := ents_sz rc ax p l r
            refine ⟨stsz ((us ++ (entB rc ax p).reverse.map (kidF l r ax)).map (·.1)), ?_, _, _, _, xs ++ acc, fs, es ++ [qv], us ++ (entB rc ax p).reverse.map (kidF l r ax), ds, ws ++ [p], rfl, gHe, lHe.keepL (GG.keepL0 hfo8) fw, (hfs8.gr GG).gr lHe, lHe.keepL (GG.keepL0 hvi8) vw, (hes8.gr GG).gr lHe, hHe, Al.app (Al.imp hus8 fun _ _ z => (z.gr GG).gr lHe) (Al.imp hacc fun _ _ z => z.gr lHe), ?_, ?_, rfl, ?_, ?_⟩
            · rw [List.map_append, stsz_app]
              show _ < stsz (us.map (·.1)) + (2 * (tsz l + tsz r + 1) + 1)
              omega
            · rw [← hds, List.reverse_append, ← List.map_reverse, List.reverse_reverse, List.flatMap_append]
              simp [List.append_assoc]
            · rw [← hws, List.reverse_append, ← List.map_reverse, List.reverse_reverse, List.flatMap_append]
              simp [List.append_assoc]
            · rw [List.map_append, stsz_app]
              try simp only [List.length_append, List.length_singleton]
              omega
            · rw [List.map_append, stsz_app]
              try simp only [List.length_append, List.length_singleton]
              omega
        | true =>
          rw [eh] at hds
          repeat walk_at "w"
          refine ⟨w_tyL (SqL.of hfo8), ?_⟩
          repeat walk_at "w"
          refine w_ixT (SqT.of ha8) (by rfl) ?_
          repeat walk_at "w"
          refine w_rapp hfo8 (by omega) ?_
          generalize eH9 : upd H8 fo _ = H9; obtain ⟨gH9, lH9, hH9⟩ := lst_facts (TT := TT) (fo0) (G8) (hfo8) eH9; clear eH9
          have hfo9 := hH9
          have hvi9 := lH9.keepL hvi8 fv.symm
          have hwt9 := lH9.keepL hwt8 fw.symm
          have G9 := gH9
          have hus9 : Al (FiI H9) xs us := Al.imp hus8 fun _ _ z => z.gr lH9
          have hfs9 : PtsV H9 (fs ++ [qv]) (ds ++ [p]) := Al.app (hfs8.gr lH9) (.cons (hq8.gr lH9) .nil)
          have hes9 := hes8.gr lH9
          have htv9 := htv8.gr lH9
          have hl9 := hl8.gr lH9
          have hr9 := hr8.gr lH9
          have ha9 := lH9.tup ha8
          repeat walk_at "w"
          refine ⟨w_tyL (SqL.of hwt9), ?_⟩
          repeat walk_at "w"
          refine ⟨_, p, l, r, ax, ra, rc, rfl, htv9, G9.sqT hrc, fun en Ha ga _ hen => ?_⟩
          repeat walk_at "w"
          refine ⟨en, _, rfl, SqL.of hen, ?_⟩
          intro rl hprl; generalize eHb : upd Ha rl _ = Hb; obtain ⟨gb, hb⟩ := new_facts TT hprl eHb; clear eHb
          rw [← List.map_reverse] at hb
          refine ⟨rl, rfl, ⟨_, SqL.of hb⟩, fun D hD => ?_⟩
          refine w_lc (L2.walk_list (xs := (entB rc ax p).reverse.map sdV)) TT NoS hD (fun i acc H' => Al (FiI H') acc (((entB rc ax p).reverse.take i).map (kidF l r ax))) .nil (fun i acc H' _ g _ _ => SqL.of (g.keepL0 hb)) ?_ ?_
          · rintro i x acc Hc Hc' hi hal gc hDc hacc ⟨rfl, hx⟩
            rw [List.getElem?_map] at hx
            cases hsd : (entB rc ax p).reverse[i]? with
            | none =>
              rw [hsd] at hx
              cases hx
            | some sd =>
              rw [hsd] at hx
              obtain rfl : sdV sd = x := Option.some.inj hx
              have GG := ga.trans (gb.trans gc)
              refine w_gname ⟨rfl, w_yes (w_T ?_)⟩
              repeat walk_at "w"
              refine w_ixT (v := if sd then rv else lv) (SqT.of (GG.tup ha9)) (by cases sd <;> rfl) ?_
              repeat walk_at "w"
              rw [show (1 : Int) - (if ax then 1 else 0) = (if (!ax) = true then 1 else 0) by cases ax <;> rfl]
              refine ⟨sz100 (Nat.le_of_ble_eq_true rfl), fun tp hptp => ?_⟩; generalize eHd : upd Hc' tp _ = Hd; obtain ⟨gd, hd⟩ := new_facts TT hptp eHd; clear eHd
              have hlen : i < 100000 := by
                have hi : i < ((entB rc ax p).reverse.map sdV).length := hi
                have := entB_len rc ax p
                rw [List.length_map, List.length_reverse] at hi
                omega
              have lD : Gr TT (fun b => b = D) Hd (upd Hd D (.lst (acc ++ [.ref tp]))) := Gr.lst (gd.keepL0 hDc)
              refine lc_yes (gc.trans gd) hD (gd.keepL0 hDc) hal hlen ?_
              rw [List.take_add_one, hsd]
              show Al _ _ ((_ ++ [sd]).map _)
              rw [List.map_append]
              refine Al.app (Al.imp hacc fun _ _ z => (z.gr gd).gr lD) (.cons ⟨tp, _, rfl, lD.tup hd, ?_⟩ .nil)
              cases sd
              · exact (hl9.gr GG).gr gd |>.gr lD
              · exact (hr9.gr GG).gr gd |>.gr lD
          · rintro acc Hc gc hDc hal hacc
            have hel := entB_len rc ax p
            rw [List.length_map, List.length_reverse] at hal
            rw [List.length_map, List.take_of_length_le (Nat.le_refl _)] at hacc
            repeat walk_at "w"
            have GG := ga.trans (gb.trans gc)
            refine w_rext (GG.keepL0 hwt9) hDc (by omega) ?_
            generalize eHe : upd Hc wt _ = He; obtain ⟨gHe, lHe, hHe⟩ := lst_facts (TT := TT) (wt0) (G9.trans GG) (GG.keepL0 hwt9) eHe; clear eHe
            have hsz2 := ents_sz rc ax p l r
            refine ⟨stsz ((us ++ (entB rc ax p).reverse.map (kidF l r ax)).map (·.1)), ?_, _, _, _, xs ++ acc, (fs ++ [qv]), es ++ [qv], us ++ (entB rc ax p).reverse.map (kidF l r ax), (ds ++ [p]), ws ++ [p], rfl, gHe, lHe.keepL (GG.keepL0 hfo9) fw, (hfs9.gr GG).gr lHe, lHe.keepL (GG.keepL0 hvi9) vw, (hes9.gr GG).gr lHe, hHe, Al.app (Al.imp hus9 fun _ _ z => (z.gr GG).gr lHe) (Al.imp hacc fun _ _ z => z.gr lHe), ?_, ?_, rfl, ?_, ?_⟩
            · rw [List.map_append, stsz_app]
              show _ < stsz (us.map (·.1)) + (2 * (tsz l + tsz r + 1) + 1)
              omega
            · rw [← hds, List.reverse_append, ← List.map_reverse, List.reverse_reverse, List.flatMap_append]
              simp [List.append_assoc]
            · rw [← hws, List.reverse_append, ← List.map_reverse, List.reverse_reverse, List.flatMap_append]
              simp [List.append_assoc]
            · rw [List.map_append, stsz_app]
              try simp only [List.length_append, List.length_singleton]
              omega
            · rw [List.map_append, stsz_app]
              try simp only [List.length_append, List.length_singleton]
              omega
end
end Wd
end
section
/-! Counts in one tree. -/
namespace Wd
open PySem PySem.Spec PyProof.Rows L2 LamX
local macro_rules | `(tactic| walk_at "w") => `(tactic| first
  | with_reducible refine w_var (by with_unfolding_all rfl) ?_
  | with_reducible refine w_aug (by with_unfolding_all rfl) ?_
  | with_reducible refine w_op ?_
  | with_reducible refine w_c ?_
  | with_reducible refine w_I0 ?_
  | with_reducible refine w_cons ?_
  | with_reducible refine w_nil ?_
  | with_reducible refine w_call ?_
  | with_reducible refine w_cb ?_
  | with_reducible refine w_seq ?_
  | with_reducible refine w_ret ?_
  | with_reducible refine w_set ?_
  | with_reducible refine w_if ?_
  | with_reducible refine w_test ?_
  | with_reducible refine w_B ?_
  | with_reducible refine w_k ?_
  | with_reducible refine w_and ?_
  | with_reducible refine w_or ?_
  | with_reducible refine w_not ?_
  | with_reducible refine w_andV ?_
  | with_reducible refine w_orV ?_
  | with_reducible refine w_notV ?_
  | with_reducible refine w_ifE ?_
  | with_reducible refine w_chain ?_
  | with_reducible refine w_un ?_
  | with_reducible refine w_U ?_
  | with_reducible refine w_isN ?_
  | with_reducible refine w_notN ?_
  | with_reducible refine w_T ?_
  | with_reducible refine w_F ?_
  | with_reducible refine w_next ?_
  | with_reducible refine w_drop ?_
  | with_reducible refine w_par2 ?_
  | with_reducible refine w_par3 ?_
  | with_reducible refine w_tup ?_
  | with_reducible refine w_lst ?_
  | with_reducible refine w_bm ?_
  | with_reducible refine w_bm0 ?_
  | with_reducible refine w_gname ?_
  | with_reducible refine w_gcons ?_
  | with_reducible refine w_lcI ?_
  | with_reducible refine w_lc2I ?_
  | with_reducible refine w_iTup ?_
  | with_reducible refine w_iList ?_
  | with_reducible refine w_yes ?_
  | with_reducible refine w_din ?_
  | with_reducible refine w_dput ?_
  | with_reducible refine w_dget2 ?_
  | with_reducible refine w_iEnum ?_
  | with_reducible refine w_sl ?_
  | with_reducible refine w_noP ?_
  | with_reducible refine w_part ?_
  | with_reducible refine w_asg ?_
  | with_reducible refine w_ip ?_
  | with_reducible refine w_cont ?_
  | with_reducible refine w_callD ?_
  | with_reducible refine w_thru ?_
  | with_reducible refine w_star ?_
  | with_reducible refine w_bits ?_
  | with_reducible refine w_revL ?_
  | with_reducible refine w_fld ?_
  | with_reducible refine w_dget ?_
  | with_reducible refine w_keys ?_
  | with_reducible refine w_gsub ?_
  | with_reducible refine w_fldaug ?_
  | with_reducible refine w_sfld ?_
  | with_reducible refine w_meth ?_
  | with_reducible refine w_make ?_
  | with_reducible refine w_ite (by with_unfolding_all rfl) ?_ | with_reducible refine w_itf (by with_unfolding_all rfl) ?_)
abbrev McD := Tree × Bool × Rect
structure McI (K : PySem.W.Frag) (H : Hp) (v : V) (i : McD) : Prop where
  ex : ∃ a b tv, v = .ref a ∧ H a = some (.tup [tv, axV i.2.1, .ref b]) ∧ SqT K H b (rcL i.2.2) ∧ TrV H tv i.1
  box : boxOk i.2.2 i.1
  kd : Kd i.2.1 i.1
theorem McI.gr {K : PySem.W.Frag} {T : List (Addr × Str)} {S : Addr → Prop} {H H1 : Hp} {v : V} {i : McD} (h : McI K H v i) (g : Gr T S H H1) : McI K H1 v i := by
  obtain ⟨⟨a, b, tv, e, h1, h2, h3⟩, h4, h5⟩ := h
  exact ⟨⟨a, b, tv, e, g.tup h1, g.sqT h2, h3.gr g⟩, h4, h5⟩
theorem rc_cut (bx : Rect) (ax sd : Bool) (k : Int) : (rcL bx).set (cutIx ax sd) (.int k) = rcL (cut bx ax k sd) := by cases ax <;> cases sd <;> rfl
def kidM (p : Pt) (l r : Tree) (ax : Bool) (bx : Rect) (sd : Bool) : McD := (sideT l r sd, !ax, cut bx ax (kx ax p) sd)
def cnt (rc : Rect) (t : Tree) : Nat := ((rd t).filter (hold rc)).length
def cnts (rc : Rect) (is : List McD) : Nat := (is.map fun i => cnt rc i.1).sum
theorem cnts_app (rc : Rect) (is js : List McD) : cnts rc (is ++ js) = cnts rc is + cnts rc js := by
  unfold cnts
  rw [List.map_append, List.sum_append]
theorem ents_cnt {rc : Rect} {ax : Bool} {p : Pt} {l r : Tree} {bx : Rect} (k : Kd ax (.node p l r)) : cnt rc (.node p l r) = (if hold rc p then 1 else 0) + cnts rc ((entB rc ax p).reverse.map (kidM p l r ax bx)) := by
  unfold cnt
  rw [filter_node k, List.length_append, List.length_append]
  unfold entB
  cases hold rc p <;> cases mLow rc ax (kx ax p) <;> cases mHigh rc ax (kx ax p) <;> simp [cnts, kidM, sideT, cnt] <;> omega
theorem ents_szM (rc : Rect) (ax : Bool) (p : Pt) (l r : Tree) (bx : Rect) : stsz (((entB rc ax p).reverse.map (kidM p l r ax bx)).map (·.1)) ≤ 2 * (tsz l + tsz r) + 2 := by
  unfold entB
  cases mLow rc ax (kx ax p) <;> cases mHigh rc ax (kx ax p) <;> simp [kidM, sideT, stsz] <;> omega
section
variable {P : Program} {w : World} {K : PySem.W.Frag} {mg : Str → Option Value} {base : Heap} {aE C : Addr}
def spMcount (TT : List (Addr × Str)) : Sp := fun vs H Q _ => ∃ v t ra rc, vs = [v, .ref ra] ∧ TrV H v t ∧ tsz t ≤ 100 ∧ Kd false t ∧ tok t ∧ H ra = some (.tup (rcL rc)) ∧ RcOk rc ∧
  ∀ a vl es H', Gr TT NoS H H' → H' a = some (.tup [.int (cnt rc t : Nat), .ref vl]) → H vl = none → H' vl = some (.lst es) → es.length ≤ 300 → Q (.ref a) H'
abbrev s_middle_counted : Stmt := topS 47
abbrev N_middle_counted : List Str := ["tree", "rectangle", "many", "visited", "waiting", "side", "one", "axis", "box"]
theorem sc_middle_counted : FnScope N_middle_counted ["tree", "rectangle"] (C8.fnScope s_middle_counted) := ⟨rfl, rfl, rfl, by decide +kernel, rfl, by decide +kernel, by decide +kernel⟩
theorem cal_middle_counted {TT : List (Addr × Str)} {f : Addr} {fd : FuncData} (F : C8.Def K mg "middle_counted" s_middle_counted f fd) (b : Binds K fd ["tree", "rectangle"] []) (T : Txt K mg aE C) (c_require_middle : C8.Cal P w K mg base 6 "require_middle" (spReqMid TT) [.int 500]) (c_require_rectangle : C8.Cal P w K mg base 5 "require_rectangle" (spReqRect TT) [])
    (c_covers : C8.Cal P w K mg base 1 "covers" (spCovers (K := K) TT) []) (c_read : C8.Cal P w K mg base 1 "read" (spRead TT) []) (c_holds : C8.Cal P w K mg base 1 "holds" (spHolds (K := K) TT) []) (c_entered : C8.Cal P w K mg base 2 "entered" (spEntered (K := K) TT) [])
    (c_cut : C8.Cal P w K mg base 1 "cut" (spCut (K := K) TT) []) : C8.Cal P w K mg base 7 "middle_counted" (spMcount TT) [] := by
  refine C8.cal0 F b .nil sc_middle_counted (fun vs H Q E h => ?_) (fun cdv A outer s H vs Q E hr h => ?_)
  · obtain ⟨v, t, ra, rc, rfl, _⟩ := h
    rfl
  · obtain ⟨v, t, ra, rc, rfl, ht0, hsz, hkd, hok, hra, hrok, k⟩ := h
    have nd := sc_middle_counted.nd
    refine ⟨_, (pss_cons (ps_expr (C8.pe_c c_require_middle hr (by decide) (by rfl) (pa_cons (pv 0) pa_nil)))
  (pss_cons (ps_expr (C8.pe_c c_require_rectangle hr (by decide) (by rfl) (pa_cons (pv 1) pa_nil)))
  (pss_cons (ps_par3 (i := 2) (j := 3) (l := 4) rfl nd rfl rfl rfl (by decide) (by decide) (by decide) rfl rfl rfl (pa_cons pe_int (pa_cons (pe_lst pa_nil) (pa_cons (pe_lst (pa_cons (pe_tup (pa_cons (pv 0) (pa_cons pe_int (pa_cons (C8.pe_gc (by rfl) T.gEVERYWHERE) pa_nil)))) pa_nil)) pa_nil))) (by rfl))
  (pss_cons (ps_while PassesOwn.never (pt_cmpR (op_neNil hr.units0) (pv 4) (pe_lst pa_nil) (nomark _)) (pss_cons (ps_asg (pe_bm0 PySem.F.plainAttrs_list PySem.F.slot_list_pop PySem.F.type_list_pop mt_pop (pv 4)) (pg_tup rfl (pgs_cons (pg_name (i := 6) nd rfl (Or.inl rfl)) (pgs_cons (pg_name (i := 7) nd rfl (Or.inl rfl)) (pgs_cons (pg_name (i := 8) nd rfl (Or.inl rfl)) pgs_nil)))))
  (pss_cons (ps_if (pt_cmpR op_isN1 (pv 6) pe_non (nomark _)) (pss_one ps_continue) pss_nil)
  (pss_cons (ps_expr (pe_bm PySem.F.plainAttrs_list PySem.F.slot_list_append PySem.F.type_list_append mt_append (pv 3) (pa_cons (pe_ix ix_tup (pv 6) pe_int (fun _ _ => rfl)) pa_nil)))
  (pss_cons (ps_if (pt_val (C8.pe_c c_covers hr (by decide) (by rfl) (pa_cons (pv 1) (pa_cons (pv 8) pa_nil)))) (pss_cons (ps_aug (i := 2) nd rfl (Or.inl rfl) (pe_callB call_len_seq (by rfl) T.nlen (by decide +kernel) (pa_cons (C8.pe_c c_read hr (by decide) (by rfl) (pa_cons (pv 6) pa_nil)) pa_nil)) ip_add)
  (pss_one ps_continue)) pss_nil)
  (pss_cons (ps_aug (i := 2) nd rfl (Or.inl rfl) (pe_callTy call_int1 (by rfl) T.nint (by decide +kernel) (pa_cons (C8.pe_c c_holds hr (by decide) (by rfl) (pa_cons (pv 1) (pa_cons (pe_ix ix_tup (pv 6) pe_int (fun _ _ => rfl)) pa_nil))) pa_nil)) ip_add)
  (pss_one (ps_for PassesOwn.never rfl (pi_list (pe_revL (C8.pe_c c_entered hr (by decide) (by rfl) (pa_cons (pv 6) (pa_cons (pv 7) (pa_cons (pv 1) pa_nil)))))) (pg_name (i := 5) nd rfl (Or.inl rfl)) (pss_one (ps_expr (pe_bm PySem.F.plainAttrs_list PySem.F.slot_list_append PySem.F.type_list_append mt_append (pv 4) (pa_cons (pe_tup (pa_cons (pe_ix ix_tup (pv 6) (pe_op op_add pe_int (pv 5)) (fun _ _ => rfl)) (pa_cons (pe_op op_sub pe_int (pv 7)) (pa_cons (C8.pe_c c_cut hr (by decide) (by rfl) (pa_cons (pv 8) (pa_cons (pv 7) (pa_cons (pe_ix ix_tup (pe_ix ix_tup (pv 6) pe_int (fun _ _ => rfl)) (pv 7) (fun _ _ => rfl)) (pa_cons (pv 5) pa_nil))))) pa_nil)))) pa_nil))))))))))))
  (pss_one (ps_ret (pe_tup (pa_cons (pv 2) (pa_cons (pv 3) pa_nil))))))))), ?_⟩
    repeat walk_at "w"
    refine ⟨v, t, rfl, ht0, hsz, hkd, hok, fun Ha ga => ?_⟩
    repeat walk_at "w"
    refine ⟨ra, rc, rfl, ga.tup hra, hrok, fun Hb gb => ?_⟩
    repeat walk_at "w"
    refine ⟨sz100 (Nat.le_of_ble_eq_true rfl), fun vi hpvi => ?_⟩; generalize eH2 : upd Hb vi _ = H2; obtain ⟨g2, h2⟩ := new_facts TT hpvi eH2; clear eH2
    repeat walk_at "w"
    refine ⟨sz100 (Nat.le_of_ble_eq_true rfl), fun i0 hpi0 => ?_⟩; generalize eH3 : upd H2 i0 _ = H3; obtain ⟨g3, h3⟩ := new_facts TT hpi0 eH3; clear eH3
    repeat walk_at "w"
    refine ⟨sz100 (Nat.le_of_ble_eq_true rfl), fun wt hpwt => ?_⟩; generalize eH4 : upd H3 wt _ = H4; obtain ⟨g4, h4⟩ := new_facts TT hpwt eH4; clear eH4
    have gab := ga.trans gb
    have g14 := gab.trans (g2.trans (g3.trans g4))
    have vi0 : H vi = none := gab.fr _ hpvi
    have wt0 : H wt = none := (gab.trans (g2.trans g3)).fr _ hpwt
    have vw : vi ≠ wt := ne_of_none (g3.keepL0 h2) hpwt
    refine w_seq (w_while (fun m σ' H' => ∃ (n : Nat) (v5 v6 v7 v8 : Option V) (xs es : List V) (is : List McD), σ' = [some v, some (.ref ra), some (.int n), some (.ref vi), some (.ref wt), v5, v6, v7, v8] ∧ Gr TT NoS H H' ∧ H' vi = some (.lst es) ∧ H' wt = some (.lst xs) ∧ Al (McI K H') xs is ∧
        n + cnts rc is = cnt rc t ∧ (∀ i ∈ is, tsz i.1 ≤ 100) ∧ m = stsz (is.map (·.1)) ∧ es.length + m ≤ 300) (stsz [t])
      ⟨0, _, _, _, _, _, [], [(t, false, all4)], rfl, g14, (g3.trans g4).keepL0 h2, h4, .cons ⟨⟨i0, aE, v, rfl, g4.tup h3, T.sEVERYWHERE _, ht0.gr g14⟩, all4_ok t, hkd⟩ .nil, by show 0 + (cnt rc t + 0) = _; omega, fun i hi => by rw [List.mem_singleton.mp hi]; exact hsz, rfl, by show 0 + (2 * tsz t + 1 + 0) ≤ 300; omega⟩ ?_)
    rintro m σ' H' ⟨n, v5, v6, v7, v8, xs, es, is, rfl, g, hvi, hwt, his, hsum, hszs, rfl, hm2⟩
    repeat walk_at "w"
    refine ⟨sz100 (Nat.le_of_ble_eq_true rfl), fun e hpe => ?_⟩; generalize eH5 : upd H' e _ = H5; obtain ⟨g5, h5⟩ := new_facts TT hpe eH5; clear eH5
    have hwt5 := g5.keepL0 hwt
    refine w_neNil (SqL.of hwt5) h5 ?_
    repeat walk_at "w"
    rcases List.eq_nil_or_concat xs with rfl | ⟨xs, y, rfl⟩
    · repeat walk_at "w"
      cases his
      refine ⟨sz100 (Nat.le_of_ble_eq_true rfl), fun out hpout => ?_⟩; generalize eH6 : upd H5 out _ = H6; obtain ⟨g6, h6⟩ := new_facts TT hpout eH6; clear eH6
      have G := g.trans (g5.trans g6)
      have e0 : n = cnt rc t := hsum
      rw [e0] at h6
      exact k out vi es H6 G h6 vi0 ((g5.trans g6).keepL0 hvi) (by omega)
    · rw [List.concat_eq_append] at *
      obtain ⟨us, u, rfl, hus, hu⟩ := Al.snoc his
      rw [List.map_append, List.map_singleton, stsz_snoc] at hm2 ⊢
      rw [cnts_app] at hsum
      refine w_ite (by simp) ⟨_, fun σ' H' z => z, ?_⟩
      repeat walk_at "w"
      refine ⟨w_tyL (SqL.of hwt5), w_rpop hwt5 ?_⟩
      generalize eH6 : upd H5 wt _ = H6; obtain ⟨gH6, lH6, hH6⟩ := lst_facts (TT := TT) (wt0) (g.trans g5) (hwt5) eH6; clear eH6
      have hvi6 := lH6.keepL (g5.keepL0 hvi) vw
      have hus6 : Al (McI K H6) xs us := Al.imp hus fun _ _ z => (z.gr g5).gr lH6
      obtain ⟨⟨a, bx, tv, rfl, ha, hbx, htv⟩, hbox, hkd'⟩ := (hu.gr g5).gr lH6
      obtain ⟨u, ax, bxr⟩ := u
      have hszu : tsz u ≤ 100 := hszs _ (List.mem_append_right _ (List.mem_singleton.mpr rfl))
      have hszs' : ∀ i ∈ us, tsz i.1 ≤ 100 := fun i hi => hszs i (List.mem_append_left _ hi)
      refine w_gtup (SqT.of ha) rfl (w_gcons (w_gname (w_gcons (w_gname (w_gcons (w_gname (w_gnil ?_)))))))
      repeat walk_at "w"
      have hxl := hus.len
      have hxs := stsz_len (us.map (·.1))
      rw [List.length_map] at hxs
      cases u with
      | nil =>
        obtain rfl : tv = .non := htv
        repeat walk_at "w"
        exact ⟨_, by omega, n, _, _, _, _, xs, es, us, rfl, gH6, hvi6, hH6, hus6, by rw [← hsum]; rfl, hszs', rfl, by omega⟩
      | node p l r =>
        have hm2 : es.length + (stsz (us.map (·.1)) + (2 * (tsz l + tsz r + 1) + 1)) ≤ 300 := hm2
        have hszu : tsz l + tsz r + 1 ≤ 100 := hszu
        have hsum : n + (cnts rc us + (cnt rc (.node p l r) + 0)) = cnt rc t := hsum
        obtain ⟨a2, qv, lv, rv, rfl, ha2, hq, hl, hr2⟩ := id htv
        repeat walk_at "w"
        refine ⟨w_tyL (SqL.of hvi6), ?_⟩
        repeat walk_at "w"
        refine w_ixT (SqT.of ha2) (by rfl) ?_
        repeat walk_at "w"
        refine w_rapp hvi6 (by omega) ?_
        generalize eH7 : upd H6 vi _ = H7; obtain ⟨gH7, lH7, hH7⟩ := lst_facts (TT := TT) (vi0) (gH6) (hvi6) eH7; clear eH7
        have hwt7 := lH7.keepL hH6 vw.symm
        repeat walk_at "w"
        refine ⟨ra, rc, bx, bxr, rfl, SqT.of (gH7.tup hra), lH7.sqT hbx, fun H8 g8 => ?_⟩
        have hvi8 := g8.keepL0 hH7
        have hwt8 := g8.keepL0 hwt7
        have G8 := gH7.trans g8
        have hus8 : Al (McI K H8) xs us := Al.imp hus6 fun _ _ z => (z.gr lH7).gr g8
        have htv8 := (htv.gr lH7).gr g8
        cases ec : cover rc bxr with
        | true =>
          have hall : cnt rc (.node p l r) = tsz (.node p l r) := by
            rw [← tsz_rd]
            exact cover_all ec hbox
          repeat walk_at "w"
          refine ⟨_, _, rfl, htv8, by show tsz l + tsz r + 1 ≤ 100; omega, fun rl ys H9 g9 _ hrl hys => ?_⟩
          repeat walk_at "w"
          refine ⟨rl, ys, rfl, .inl (SqL.of hrl), ?_⟩
          have hyl := hys.len
          rw [tsz_rd] at hyl
          have hyl : ys.length = tsz l + tsz r + 1 := hyl
          have hall : cnt rc (.node p l r) = tsz l + tsz r + 1 := hall
          repeat walk_at "w"
          exact ⟨_, by show _ < stsz (us.map (·.1)) + (2 * (tsz l + tsz r + 1) + 1); omega, n + ys.length, _, _, _, _, xs, _, us, rfl, G8.trans g9, g9.keepL0 hvi8, g9.keepL0 hwt8, Al.imp hus8 fun _ _ z => z.gr g9, by omega, hszs', rfl, by rw [List.length_append, List.length_singleton]; omega⟩
        | false =>
          have ha8 := g8.tup (lH7.tup ha2)
          have hq8 := (hq.gr lH7).gr g8
          repeat walk_at "w"
          refine w_ixT (SqT.of ha8) (by rfl) ?_
          repeat walk_at "w"
          refine ⟨ra, rc, qv, p, rfl, SqT.of (G8.tup hra), hq8, fun H9 g9 => ?_⟩
          repeat walk_at "w"
          refine .inr ⟨_, rfl, ?_⟩
          repeat walk_at "w"
          with_reducible refine w_forI ?_
          repeat walk_at "w"
          refine ⟨_, p, l, r, ax, ra, rc, rfl, htv8.gr g9, SqT.of (g9.tup (G8.tup hra)), fun en Hc gc _ hen => ?_⟩
          repeat walk_at "w"
          refine ⟨en, _, rfl, SqL.of hen, ?_⟩
          intro rl hprl; generalize eHd : upd Hc rl _ = Hd; obtain ⟨gd, hd⟩ := new_facts TT hprl eHd; clear eHd
          rw [← List.map_reverse] at hd
          have GG := g9.trans (gc.trans gd)
          have hel := entB_len rc ax p
          refine ⟨rl, rfl, ⟨_, SqL.of hd⟩, for_list (K := K) (a := rl) (xs := (entB rc ax p).reverse.map sdV) (fun i σ' H' => ∃ (v5 : Option V) (acc : List V), σ' = [some v, some (.ref ra), some (.int ((n + (if hold rc p then 1 else 0) : Nat))), some (.ref vi), some (.ref wt), v5, some (.ref a2), some (axV ax), some (.ref bx)] ∧ Gr TT NoS H H' ∧ Gr TT (fun b => b = wt) Hd H' ∧
              H' vi = some (.lst (es ++ [qv])) ∧ H' wt = some (.lst (xs ++ acc)) ∧ Al (McI K H') (xs ++ acc) (us ++ ((entB rc ax p).reverse.take i).map (kidM p l r ax bxr)) ∧ acc.length ≤ i ∧ i ≤ 2)
            ⟨v5, [], ?_, G8.trans GG, .refl _, GG.keepL0 hvi8, by rw [List.append_nil]; exact GG.keepL0 hwt8, by rw [List.append_nil, List.take_zero, List.map_nil, List.append_nil]; exact Al.imp hus8 fun _ _ z => z.gr GG, Nat.zero_le _, Nat.zero_le _⟩ (fun i σ' H' _ ⟨_, _, _, _, lw, _⟩ => SqL.of (lw.keepL hd ?_)) ?_ ?_⟩
          · cases hold rc p <;> rfl
          · exact fun z => ne_of_none ((g9.trans gc).keepL0 hwt8) hprl z.symm
          · rintro i x σ' Hx hx ⟨v5', acc, rfl, gx, lx, hvix, hwtx, hacc, hal, hi2⟩
            rw [List.getElem?_map] at hx
            cases hsd : (entB rc ax p).reverse[i]? with
            | none =>
              rw [hsd] at hx
              cases hx
            | some sd =>
              rw [hsd] at hx
              obtain rfl : sdV sd = x := Option.some.inj hx
              have hil : i < (entB rc ax p).reverse.length := (List.getElem?_eq_some_iff.mp hsd).1
              rw [List.length_reverse] at hil
              have hax := lx.tup (GG.tup ha8)
              have hqx := (hq8.gr GG).gr lx
              refine w_gname ?_
              repeat walk_at "w"
              refine ⟨w_tyL (SqL.of hwtx), ?_⟩
              repeat walk_at "w"
              refine w_ixT (v := if sd then rv else lv) (SqT.of hax) (by cases sd <;> rfl) ?_
              repeat walk_at "w"
              rw [show (1 : Int) - (if ax then 1 else 0) = (if (!ax) = true then 1 else 0) by cases ax <;> rfl]
              refine w_ixT (SqT.of hax) (by rfl) ?_
              repeat walk_at "w"
              obtain ⟨qa, rfl, hqa⟩ := hqx
              refine w_ixT (SqT.of hqa) ax_pt ?_
              repeat walk_at "w"
              refine ⟨bx, rcL bxr, ax, _, sd, rfl, lx.sqT (GG.sqT (g8.sqT (lH7.sqT hbx))), rfl, fun cb Hy gy hcb => ?_⟩
              rw [rc_cut] at hcb
              repeat walk_at "w"
              refine ⟨sz100 (Nat.le_of_ble_eq_true rfl), fun ti hpti => ?_⟩; generalize eHz : upd Hy ti _ = Hz; obtain ⟨gz, hz⟩ := new_facts TT hpti eHz; clear eHz
              repeat walk_at "w"
              have GY := gy.trans gz
              refine w_rapp (GY.keepL0 hwtx) (by rw [List.length_append]; omega) ?_
              generalize eHw : upd Hz wt _ = Hw; obtain ⟨gHw, lHw, hHw⟩ := lst_facts (TT := TT) (wt0) (gx.trans GY) (GY.keepL0 hwtx) eHw; clear eHw
              refine ⟨_, acc ++ [.ref ti], rfl, gHw, lx.trans (GY.of0.trans lHw), lHw.keepL (GY.keepL0 hvix) vw, by rw [hHw, List.append_assoc], ?_, by rw [List.length_append, List.length_singleton]; omega, by omega⟩
              rw [List.take_add_one, hsd, ← List.append_assoc]
              show Al _ _ (us ++ ((_ ++ [sd]).map _))
              rw [List.map_append, ← List.append_assoc]
              refine Al.app (Al.imp hacc fun _ _ z => (z.gr GY).gr lHw) (.cons ⟨⟨ti, cb, _, rfl, lHw.tup hz, SqT.of (lHw.tup (gz.tup hcb)), ?_⟩, ?_, ?_⟩ .nil)
              · cases sd
                · exact ((((((hl.gr lH7).gr g8).gr GG).gr lx).gr GY)).gr lHw
                · exact ((((((hr2.gr lH7).gr g8).gr GG).gr lx).gr GY)).gr lHw
              · cases sd
                · exact box_low hbox hkd'
                · exact box_high hbox hkd'
              · cases sd
                · exact hkd'.2.2.1
                · exact hkd'.2.2.2
          · rintro σ' Hx ⟨v5', acc, rfl, gx, lx, hvix, hwtx, hacc, hal, hi2⟩
            rw [List.length_map, List.take_of_length_le (Nat.le_refl _)] at hacc
            have hsz2 := ents_szM rc ax p l r bxr
            have hcn := ents_cnt (rc := rc) (ax := ax) (p := p) (l := l) (r := r) (bx := bxr) hkd'
            refine ⟨stsz ((us ++ (entB rc ax p).reverse.map (kidM p l r ax bxr)).map (·.1)), ?_, _, _, _, _, _, _, _, us ++ (entB rc ax p).reverse.map (kidM p l r ax bxr), rfl, gx, hvix, hwtx, hacc, ?_, ?_, rfl, ?_⟩
            · rw [List.map_append, stsz_app]
              show _ < stsz (us.map (·.1)) + (2 * (tsz l + tsz r + 1) + 1)
              omega
            · rw [cnts_app]
              omega
            · intro j hj
              rcases List.mem_append.mp hj with z | z
              · exact hszs' j z
              · obtain ⟨sd, _, rfl⟩ := List.mem_map.mp z
                cases sd
                · show tsz l ≤ 100
                  omega
                · show tsz r ≤ 100
                  omega
            · rw [List.map_append, stsz_app, List.length_append, List.length_singleton]
              omega
end
end Wd
end
section
/-! Forests: what they know. -/
namespace Wd
open PySem PySem.Spec PyProof.Rows L2 LamX
local macro_rules | `(tactic| walk_at "w") => `(tactic| first
  | with_reducible refine w_var (by with_unfolding_all rfl) ?_
  | with_reducible refine w_aug (by with_unfolding_all rfl) ?_
  | with_reducible refine w_op ?_
  | with_reducible refine w_c ?_
  | with_reducible refine w_I0 ?_
  | with_reducible refine w_cons ?_
  | with_reducible refine w_nil ?_
  | with_reducible refine w_call ?_
  | with_reducible refine w_cb ?_
  | with_reducible refine w_seq ?_
  | with_reducible refine w_ret ?_
  | with_reducible refine w_set ?_
  | with_reducible refine w_if ?_
  | with_reducible refine w_test ?_
  | with_reducible refine w_B ?_
  | with_reducible refine w_k ?_
  | with_reducible refine w_and ?_
  | with_reducible refine w_or ?_
  | with_reducible refine w_not ?_
  | with_reducible refine w_andV ?_
  | with_reducible refine w_orV ?_
  | with_reducible refine w_notV ?_
  | with_reducible refine w_ifE ?_
  | with_reducible refine w_chain ?_
  | with_reducible refine w_un ?_
  | with_reducible refine w_U ?_
  | with_reducible refine w_isN ?_
  | with_reducible refine w_notN ?_
  | with_reducible refine w_T ?_
  | with_reducible refine w_F ?_
  | with_reducible refine w_next ?_
  | with_reducible refine w_drop ?_
  | with_reducible refine w_par2 ?_
  | with_reducible refine w_par3 ?_
  | with_reducible refine w_tup ?_
  | with_reducible refine w_lst ?_
  | with_reducible refine w_bm ?_
  | with_reducible refine w_bm0 ?_
  | with_reducible refine w_gname ?_
  | with_reducible refine w_gcons ?_
  | with_reducible refine w_lcI ?_
  | with_reducible refine w_lc2I ?_
  | with_reducible refine w_iTup ?_
  | with_reducible refine w_iList ?_
  | with_reducible refine w_yes ?_
  | with_reducible refine w_din ?_
  | with_reducible refine w_dput ?_
  | with_reducible refine w_dget2 ?_
  | with_reducible refine w_iEnum ?_
  | with_reducible refine w_sl ?_
  | with_reducible refine w_noP ?_
  | with_reducible refine w_part ?_
  | with_reducible refine w_asg ?_
  | with_reducible refine w_ip ?_
  | with_reducible refine w_cont ?_
  | with_reducible refine w_callD ?_
  | with_reducible refine w_thru ?_
  | with_reducible refine w_star ?_
  | with_reducible refine w_bits ?_
  | with_reducible refine w_revL ?_
  | with_reducible refine w_fld ?_
  | with_reducible refine w_dget ?_
  | with_reducible refine w_keys ?_
  | with_reducible refine w_gsub ?_
  | with_reducible refine w_fldaug ?_
  | with_reducible refine w_sfld ?_
  | with_reducible refine w_meth ?_
  | with_reducible refine w_make ?_
  | with_reducible refine w_ite (by with_unfolding_all rfl) ?_ | with_reducible refine w_itf (by with_unfolding_all rfl) ?_)
/-! ### sorted points -/
def ptOf (H : Hp) : V → Pt
  | .ref a => match H a with
    | some (.tup [.int i, .int j]) => (i, j)
    | _ => (0, 0)
  | _ => (0, 0)
theorem ptOf_eq {H : Hp} {v : V} {p : Pt} (h : PtV H v p) : ptOf H v = p := by
  obtain ⟨a, rfl, h⟩ := h
  show (match H a with | some (.tup [.int i, .int j]) => (i, j) | _ => (0, 0)) = p
  rw [h]
theorem ptsOf_eq {H : Hp} : ∀ {xs : List V} {ps : List Pt}, PtsV H xs ps → xs.map (ptOf H) = ps
  | _, _, .nil => rfl
  | _, _, .cons h t => by rw [List.map_cons, ptOf_eq h, ptsOf_eq t]
theorem Al.mem {α : Type} {R : V → α → Prop} : ∀ {xs : List V} {ys : List α}, Al R xs ys → ∀ x ∈ xs, ∃ y, y ∈ ys ∧ R x y
  | _, _, .nil, x, h => by cases h
  | _, _, .cons r t, x, h => by
    rcases List.mem_cons.mp h with rfl | h
    · exact ⟨_, List.mem_cons_self .., r⟩
    · obtain ⟨y, h1, h2⟩ := Al.mem t x h
      exact ⟨y, List.mem_cons_of_mem _ h1, h2⟩
theorem ptsV_of {H : Hp} : ∀ {ys : List V}, (∀ y ∈ ys, ∃ p, PtV H y p) → PtsV H ys (ys.map (ptOf H))
  | [], _ => .nil
  | y :: ys, h => by
    obtain ⟨p, hp⟩ := h y (List.mem_cons_self ..)
    refine .cons ?_ (ptsV_of fun z hz => h z (List.mem_cons_of_mem _ hz))
    rw [ptOf_eq hp]
    exact hp
theorem w_sortPts {K : PySem.W.Frag} {H : Hp} {Q : VK} {a : Addr} {xs : List V} {ps : List Pt} (hl : SqL K H a xs) (h : PtsV H xs ps) (q : ∀ ys p, PtsV H ys (srt false ps) → H p = none → Q (.ref p) (upd H p (.lst ys))) : rSortedPO K [.ref a] H Q := by
  refine ⟨a, xs, ptOf H, rfl, hl, fun x hx => ?_, fun ys p hs hb hp => q ys p ?_ hp⟩
  · obtain ⟨y, _, hy⟩ := Al.mem h x hx
    obtain ⟨t, rfl, ht⟩ := id hy
    exact ⟨t, rfl, by rw [ptOf_eq hy]; exact ht⟩
  · have hy : PtsV H ys (ys.map (ptOf H)) := ptsV_of fun y hy => by
      obtain ⟨p, _, hp⟩ := Al.mem h y (hb.perm.mem_iff.mp hy)
      exact ⟨p, hp⟩
    have e : ys.map (ptOf H) = srt false ps := by
      refine srt_is ?_ ?_
      · rw [← ptsOf_eq h]
        exact hb.perm.map _
      · rw [List.pairwise_map]
        refine List.Pairwise.imp ?_ hs
        intro x y hxy
        have := SrtO.lexB_no.mp hxy
        rw [le_iff]
        show (ptOf H x).1 < (ptOf H y).1 ∨ (ptOf H x).1 = (ptOf H y).1 ∧ (ptOf H x).2 ≤ (ptOf H y).2
        omega
    rw [← e]
    exact hy
theorem alive_snoc (ks : Kn) (p : Pt) (b : Bool) : alive (ks ++ [(p, b)]) = alive ks ++ if b then [p] else [] := by
  unfold alive
  rw [List.filter_append, List.map_append]
  cases b <;> rfl
theorem gone_snoc (ks : Kn) (p : Pt) (b : Bool) : gone (ks ++ [(p, b)]) = gone ks ++ if b then [] else [p] := by
  unfold gone
  rw [List.filter_append, List.map_append]
  cases b <;> rfl
/-! ### a forest on the heap -/
structure FoV (C : Addr) (H : Hp) (x dx pa ka : Addr) (ks : Kn) (pl : List Tree) (tot : Int) : Prop where
  ob : H x = some (.ins C dx [("places", .ref pa), ("known", .ref ka), ("total", .int tot)])
  ex : ∃ xs, H pa = some (.lst xs) ∧ TrsV H xs pl
  kn : H ka = some (.dT (kn ks))
theorem plain_insO {C dx : Addr} {fs : List (Str × V)} : Plain (.ins C dx fs) := plain_ins
section
variable {T : List (Addr × Str)} {S : Addr → Prop} {H H1 : Hp} {C x dx pa ka : Addr} {ks : Kn} {pl : List Tree} {tot : Int}
theorem FoV.gr (h : FoV C H x dx pa ka ks pl tot) (g : Gr T S H H1) (n1 : ¬ S x) (n2 : ¬ S pa) (n3 : ¬ S ka) : FoV C H1 x dx pa ka ks pl tot := by
  obtain ⟨h1, ⟨xs, h2, h3⟩, h4⟩ := h
  exact ⟨g.at_ h1 n1 plain_ins.1, ⟨xs, g.keepL h2 n2, h3.gr g⟩, g.at_ h4 n3 plain_dT.1⟩
theorem FoV.gr0 (h : FoV C H x dx pa ka ks pl tot) (g : Gr T NoS H H1) : FoV C H1 x dx pa ka ks pl tot := h.gr g (fun z => z) (fun z => z) (fun z => z)
theorem FoV.xp (h : FoV C H x dx pa ka ks pl tot) : x ≠ pa ∧ x ≠ ka ∧ pa ≠ ka := by
  obtain ⟨h1, ⟨xs, h2, h3⟩, h4⟩ := h
  exact ⟨ne_of h1 h2 (fun z => by cases z), ne_of h1 h4 (fun z => by cases z), ne_of h2 h4 (fun z => by cases z)⟩
end
section
variable {P : Program} {w : World} {K : PySem.W.Frag} {mg : Str → Option Value} {base : Heap} {aE C : Addr}
def spPoints (C : Addr) (TT : List (Addr × Str)) : Sp := fun vs H Q _ => ∃ x dx pa ka ks pl tot, vs = [.ref x] ∧ FoV C H x dx pa ka ks pl tot ∧ (keys ks).Nodup ∧ ks.length ≤ 100 ∧ ∀ l xs H', Gr TT NoS H H' → H l = none → H' l = some (.lst xs) → PtsV H' xs (srt false (alive ks)) → Q (.ref l) H'
def spGone (C : Addr) (TT : List (Addr × Str)) : Sp := fun vs H Q _ => ∃ x dx pa ka ks pl tot, vs = [.ref x] ∧ FoV C H x dx pa ka ks pl tot ∧ (keys ks).Nodup ∧ ks.length ≤ 100 ∧ ∀ l xs H', Gr TT NoS H H' → H l = none → H' l = some (.lst xs) → PtsV H' xs (srt false (gone ks)) → Q (.ref l) H'
abbrev s_Forest_points : Stmt := inClass (topS 50) 6
abbrev N_Forest_points : List Str := ["self", "point"]
theorem sc_Forest_points : FnScope N_Forest_points ["self"] (C8.fnScope s_Forest_points) := ⟨rfl, rfl, rfl, by decide +kernel, rfl, by decide +kernel, by decide +kernel⟩
theorem met_points {TT : List (Addr × Str)} {f : Addr} {fd : FuncData} (me : Meth K C "points" f) (F : C8.Fun K "points" "Forest.points" s_Forest_points f fd) (b : Binds K fd ["self"] []) (T : Txt K mg aE C) : C8.Met P w K mg base 1 C "points" (spPoints C TT) [] := by
  refine C8.met0 T.cl me F b sc_Forest_points (fun vs H Q E h => ?_) (fun cdv A outer s H vs Q E hr h => ?_)
  · obtain ⟨x, dx, pa, ka, ks, pl, tot, rfl, _⟩ := h
    rfl
  · obtain ⟨x, dx, pa, ka, ks, pl, tot, rfl, hf, hnd, hlen, k⟩ := h
    have nd := sc_Forest_points.nd
    refine ⟨_, (pss_one (ps_ret (pe_callB cr_sortedPO (by rfl) T.nsorted (by decide +kernel) (pa_cons (pe_lock (pe_lc (own := [("point", 1)]) (tt := tB (tDGet (tFld K (tVar 0) "known") (tVar 1))) rfl nd (pi_keys (pe_fld (pv 0) rfl)) (blkOk_by (own := [("point", 1)]) (N := N_Forest_points) (sc := (C8.fnScope s_Forest_points)) (by decide +kernel)) (fun _ _ _ _ _ => (pg_name (i := 1) nd rfl (Or.inl rfl))) (fun _ _ _ _ _ => (L2.pts_one (pt_val (pe_dget (hu_of hr) (pe_fld (pv 0) rfl) (pv 1) (fun _ _ => rfl))))) (fun _ _ _ _ _ => (pv 1)))) pa_nil)))), ?_⟩
    repeat walk_at "w"
    refine ⟨ka, .dT (kn ks), hf.kn, True.intro, fun od => ?_⟩
    have hob : upd H ka (.frz od (.dT (kn ks))) x = some (.ins C dx [("places", .ref pa), ("known", .ref ka), ("total", .int tot)]) := by rw [upd_ne hf.xp.2.1]; exact hf.ob
    repeat walk_at "w"
    refine ⟨x, C, dx, _, .ref ka, rfl, hob, T.cl, T.nknown, rfl, ka, od, rfl, .inr ⟨kn ks, upd_same, fun D hD => ?_⟩⟩
    have hz : upd H ka (.frz od (.dT (kn ks))) ka = some (.frz od (.dT (kn ks))) := upd_same
    refine w_lc (L2.walk_keysT (kvs := kn ks)) TT NoS hD (fun i acc H' => PtsV H' acc (alive (ks.take i))) .nil (fun i acc H' _ g _ _ => g.fz _ _ _ hz) ?_ ?_
    · rintro i y acc H1 H2 hi hal g hD1 hacc ⟨rfl, ky, v, q, hkv, rfl, hq⟩
      have hi : i < (kn ks).length := hi
      rw [kn_len] at hi
      obtain ⟨⟨p, b⟩, hpb⟩ : ∃ pb, ks[i]? = some pb := ⟨_, List.getElem?_eq_getElem hi⟩
      unfold kn at hkv
      rw [List.getElem?_map, hpb] at hkv
      obtain ⟨rfl, rfl⟩ : keyL p = ky ∧ V.bl b = v := by
        have z : (keyL p, V.bl b) = (ky, v) := Option.some.inj hkv
        exact ⟨congrArg Prod.fst z, congrArg Prod.snd z⟩
      have e2 : ks.take (i + 1) = ks.take i ++ [(p, b)] := by
        rw [List.take_add_one, hpb]
        rfl
      have hpv : PtV H2 (.ref q) p := ⟨q, rfl, hq⟩
      refine w_gname ⟨rfl, ?_⟩
      repeat walk_at "w"
      refine ⟨x, C, dx, _, .ref ka, rfl, g.at_ hob (fun z => z) plain_ins.1, T.cl, T.nknown, rfl, ?_⟩
      repeat walk_at "w"
      refine ⟨ka, .bl b, rfl, .inr ⟨kn ks, keyL p, q, .inr ⟨od, g.fz _ _ _ hz⟩, rfl, hq, ?_⟩, ?_⟩
      · rw [valV_kn, getB_of hnd (List.mem_of_getElem? hpb)]
        rfl
      have lD : Gr TT (fun b => b = D) H2 (upd H2 D (.lst (acc ++ [.ref q]))) := Gr.lst hD1
      cases b with
      | true =>
        repeat walk_at "w"
        refine lc_yes g hD hD1 hal (by omega) ?_
        rw [e2, alive_snoc]
        exact Al.app (Al.imp hacc fun _ _ z => z.gr lD) (.cons (hpv.gr lD) .nil)
      | _ =>
        repeat walk_at "w"
        refine lc_no g hD1 hal ?_
        rw [e2, alive_snoc]
        refine (show ∀ l : List Pt, PtsV H2 acc l → PtsV H2 acc (l ++ []) from fun l h => by rw [List.append_nil]; exact h) _ ?_
        exact hacc
    · rintro acc H1 g hD1 hal hacc
      rw [kn_len, List.take_of_length_le (Nat.le_refl _)] at hacc
      have hz1 := g.fz _ _ _ hz
      refine ⟨hz1, ?_⟩
      have G := Gr.lock hf.kn plain_dT g hz1
      have hDk : D ≠ ka := fun z => by rw [z, hz] at hD; cases hD
      have hD2 : upd H1 ka (.dT (kn ks)) D = some (.lst acc) := by rw [upd_ne hDk]; exact hD1
      have hacc2 : PtsV (upd H1 ka (.dT (kn ks))) acc (alive ks) := Al.imp hacc fun _ _ ⟨a, e, h⟩ => ⟨a, e, by rw [upd_ne (ne_of h hz1 (fun z => by cases z))]; exact h⟩
      generalize upd H1 ka (.dT (kn ks)) = H2 at G hD2 hacc2 ⊢
      repeat walk_at "w"
      refine w_sortPts (SqL.of hD2) hacc2 fun ys p hys hp => ?_
      exact k p ys _ (G.trans (.new hp)) (G.fr _ hp) upd_same (Al.imp hys fun _ _ z => z.gr (.new (T := TT) (S := NoS) hp))
abbrev s_Forest_gone : Stmt := inClass (topS 50) 7
abbrev N_Forest_gone : List Str := ["self", "point"]
theorem sc_Forest_gone : FnScope N_Forest_gone ["self"] (C8.fnScope s_Forest_gone) := ⟨rfl, rfl, rfl, by decide +kernel, rfl, by decide +kernel, by decide +kernel⟩
theorem met_gone {TT : List (Addr × Str)} {f : Addr} {fd : FuncData} (me : Meth K C "gone" f) (F : C8.Fun K "gone" "Forest.gone" s_Forest_gone f fd) (b : Binds K fd ["self"] []) (T : Txt K mg aE C) : C8.Met P w K mg base 1 C "gone" (spGone C TT) [] := by
  refine C8.met0 T.cl me F b sc_Forest_gone (fun vs H Q E h => ?_) (fun cdv A outer s H vs Q E hr h => ?_)
  · obtain ⟨x, dx, pa, ka, ks, pl, tot, rfl, _⟩ := h
    rfl
  · obtain ⟨x, dx, pa, ka, ks, pl, tot, rfl, hf, hnd, hlen, k⟩ := h
    have nd := sc_Forest_gone.nd
    refine ⟨_, (pss_one (ps_ret (pe_callB cr_sortedPO (by rfl) T.nsorted (by decide +kernel) (pa_cons (pe_lock (pe_lc (own := [("point", 1)]) (tt := tNot (tB (tDGet (tFld K (tVar 0) "known") (tVar 1)))) rfl nd (pi_keys (pe_fld (pv 0) rfl)) (blkOk_by (own := [("point", 1)]) (N := N_Forest_gone) (sc := (C8.fnScope s_Forest_gone)) (by decide +kernel)) (fun _ _ _ _ _ => (pg_name (i := 1) nd rfl (Or.inl rfl))) (fun _ _ _ _ _ => (L2.pts_one (pt_not (pt_val (pe_dget (hu_of hr) (pe_fld (pv 0) rfl) (pv 1) (fun _ _ => rfl)))))) (fun _ _ _ _ _ => (pv 1)))) pa_nil)))), ?_⟩
    repeat walk_at "w"
    refine ⟨ka, .dT (kn ks), hf.kn, True.intro, fun od => ?_⟩
    have hob : upd H ka (.frz od (.dT (kn ks))) x = some (.ins C dx [("places", .ref pa), ("known", .ref ka), ("total", .int tot)]) := by rw [upd_ne hf.xp.2.1]; exact hf.ob
    repeat walk_at "w"
    refine ⟨x, C, dx, _, .ref ka, rfl, hob, T.cl, T.nknown, rfl, ka, od, rfl, .inr ⟨kn ks, upd_same, fun D hD => ?_⟩⟩
    have hz : upd H ka (.frz od (.dT (kn ks))) ka = some (.frz od (.dT (kn ks))) := upd_same
    refine w_lc (L2.walk_keysT (kvs := kn ks)) TT NoS hD (fun i acc H' => PtsV H' acc (gone (ks.take i))) .nil (fun i acc H' _ g _ _ => g.fz _ _ _ hz) ?_ ?_
    · rintro i y acc H1 H2 hi hal g hD1 hacc ⟨rfl, ky, v, q, hkv, rfl, hq⟩
      have hi : i < (kn ks).length := hi
      rw [kn_len] at hi
      obtain ⟨⟨p, b⟩, hpb⟩ : ∃ pb, ks[i]? = some pb := ⟨_, List.getElem?_eq_getElem hi⟩
      unfold kn at hkv
      rw [List.getElem?_map, hpb] at hkv
      obtain ⟨rfl, rfl⟩ : keyL p = ky ∧ V.bl b = v := by
        have z : (keyL p, V.bl b) = (ky, v) := Option.some.inj hkv
        exact ⟨congrArg Prod.fst z, congrArg Prod.snd z⟩
      have e2 : ks.take (i + 1) = ks.take i ++ [(p, b)] := by
        rw [List.take_add_one, hpb]
        rfl
      have hpv : PtV H2 (.ref q) p := ⟨q, rfl, hq⟩
      refine w_gname ⟨rfl, ?_⟩
      repeat walk_at "w"
      refine ⟨x, C, dx, _, .ref ka, rfl, g.at_ hob (fun z => z) plain_ins.1, T.cl, T.nknown, rfl, ?_⟩
      repeat walk_at "w"
      refine ⟨ka, .bl b, rfl, .inr ⟨kn ks, keyL p, q, .inr ⟨od, g.fz _ _ _ hz⟩, rfl, hq, ?_⟩, ?_⟩
      · rw [valV_kn, getB_of hnd (List.mem_of_getElem? hpb)]
        rfl
      have lD : Gr TT (fun b => b = D) H2 (upd H2 D (.lst (acc ++ [.ref q]))) := Gr.lst hD1
      cases b with
      | false =>
        repeat walk_at "w"
        refine lc_yes g hD hD1 hal (by omega) ?_
        rw [e2, gone_snoc]
        exact Al.app (Al.imp hacc fun _ _ z => z.gr lD) (.cons (hpv.gr lD) .nil)
      | _ =>
        repeat walk_at "w"
        refine lc_no g hD1 hal ?_
        rw [e2, gone_snoc]
        refine (show ∀ l : List Pt, PtsV H2 acc l → PtsV H2 acc (l ++ []) from fun l h => by rw [List.append_nil]; exact h) _ ?_
        exact hacc
    · rintro acc H1 g hD1 hal hacc
      rw [kn_len, List.take_of_length_le (Nat.le_refl _)] at hacc
      have hz1 := g.fz _ _ _ hz
      refine ⟨hz1, ?_⟩
      have G := Gr.lock hf.kn plain_dT g hz1
      have hDk : D ≠ ka := fun z => by rw [z, hz] at hD; cases hD
      have hD2 : upd H1 ka (.dT (kn ks)) D = some (.lst acc) := by rw [upd_ne hDk]; exact hD1
      have hacc2 : PtsV (upd H1 ka (.dT (kn ks))) acc (gone ks) := Al.imp hacc fun _ _ ⟨a, e, h⟩ => ⟨a, e, by rw [upd_ne (ne_of h hz1 (fun z => by cases z))]; exact h⟩
      generalize upd H1 ka (.dT (kn ks)) = H2 at G hD2 hacc2 ⊢
      repeat walk_at "w"
      refine w_sortPts (SqL.of hD2) hacc2 fun ys p hys hp => ?_
      exact k p ys _ (G.trans (.new hp)) (G.fr _ hp) upd_same (Al.imp hys fun _ _ z => z.gr (.new (T := TT) (S := NoS) hp))
end
end Wd
end
section
/-! Forests: ==, put. -/
namespace Wd
open PySem PySem.Spec PyProof.Rows L2 LamX
local macro_rules | `(tactic| walk_at "w") => `(tactic| first
  | with_reducible refine w_var (by with_unfolding_all rfl) ?_
  | with_reducible refine w_aug (by with_unfolding_all rfl) ?_
  | with_reducible refine w_op ?_
  | with_reducible refine w_c ?_
  | with_reducible refine w_I0 ?_
  | with_reducible refine w_cons ?_
  | with_reducible refine w_nil ?_
  | with_reducible refine w_call ?_
  | with_reducible refine w_cb ?_
  | with_reducible refine w_seq ?_
  | with_reducible refine w_ret ?_
  | with_reducible refine w_set ?_
  | with_reducible refine w_if ?_
  | with_reducible refine w_test ?_
  | with_reducible refine w_B ?_
  | with_reducible refine w_k ?_
  | with_reducible refine w_and ?_
  | with_reducible refine w_or ?_
  | with_reducible refine w_not ?_
  | with_reducible refine w_andV ?_
  | with_reducible refine w_orV ?_
  | with_reducible refine w_notV ?_
  | with_reducible refine w_ifE ?_
  | with_reducible refine w_chain ?_
  | with_reducible refine w_un ?_
  | with_reducible refine w_U ?_
  | with_reducible refine w_isN ?_
  | with_reducible refine w_notN ?_
  | with_reducible refine w_T ?_
  | with_reducible refine w_F ?_
  | with_reducible refine w_next ?_
  | with_reducible refine w_drop ?_
  | with_reducible refine w_par2 ?_
  | with_reducible refine w_par3 ?_
  | with_reducible refine w_tup ?_
  | with_reducible refine w_lst ?_
  | with_reducible refine w_bm ?_
  | with_reducible refine w_bm0 ?_
  | with_reducible refine w_gname ?_
  | with_reducible refine w_gcons ?_
  | with_reducible refine w_lcI ?_
  | with_reducible refine w_lc2I ?_
  | with_reducible refine w_iTup ?_
  | with_reducible refine w_iList ?_
  | with_reducible refine w_yes ?_
  | with_reducible refine w_din ?_
  | with_reducible refine w_dput ?_
  | with_reducible refine w_dget2 ?_
  | with_reducible refine w_iEnum ?_
  | with_reducible refine w_sl ?_
  | with_reducible refine w_noP ?_
  | with_reducible refine w_part ?_
  | with_reducible refine w_asg ?_
  | with_reducible refine w_ip ?_
  | with_reducible refine w_cont ?_
  | with_reducible refine w_callD ?_
  | with_reducible refine w_thru ?_
  | with_reducible refine w_star ?_
  | with_reducible refine w_bits ?_
  | with_reducible refine w_revL ?_
  | with_reducible refine w_fld ?_
  | with_reducible refine w_dget ?_
  | with_reducible refine w_keys ?_
  | with_reducible refine w_gsub ?_
  | with_reducible refine w_fldaug ?_
  | with_reducible refine w_sfld ?_
  | with_reducible refine w_meth ?_
  | with_reducible refine w_make ?_
  | with_reducible refine w_ite (by with_unfolding_all rfl) ?_ | with_reducible refine w_itf (by with_unfolding_all rfl) ?_)
structure TxF (K : PySem.W.Frag) (C : Addr) : Prop where
  isF : PySem.W.kitOne K (.ref C) (.ref C) = some true
  ne : NeC K C
  c1 : PySem.W.findIn K (.ref C) "__class__" = some (some (.builtin "object.__class__"))
  c2 : PySem.W.specialIn K (.builtin "object.__class__") "__get__" = some (some (.builtin "getset_descriptor.__get__"))
  c3 : PySem.W.takesIn K (.builtin "object.__class__") = some true
  c4 : PySem.W.mroIn K C (.type "object") = some true
section
variable {H : Hp} {C x dx pa ka : Addr} {ks : Kn} {pl : List Tree} {tot : Int}
theorem FoV.setPl (h : FoV C H x dx pa ka ks pl tot) {xs' : List V} {pl' : List Tree} (ht : TrsV (upd H pa (.lst xs')) xs' pl') : FoV C (upd H pa (.lst xs')) x dx pa ka ks pl' tot := by
  obtain ⟨n1, n2, n3⟩ := h.xp
  exact ⟨by rw [upd_ne n1]; exact h.ob, ⟨xs', upd_same, ht⟩, by rw [upd_ne n3.symm]; exact h.kn⟩
theorem FoV.setKn (T : List (Addr × Str)) (h : FoV C H x dx pa ka ks pl tot) {ks' : Kn} : FoV C (upd H ka (.dT (Wd.kn ks'))) x dx pa ka ks' pl tot := by
  obtain ⟨n1, n2, n3⟩ := h.xp
  obtain ⟨h1, ⟨xs, h2, h3⟩, h4⟩ := h
  exact ⟨by rw [upd_ne n2]; exact h1, ⟨xs, by rw [upd_ne n3]; exact h2, h3.gr (Gr.mut (T := T) (S := fun b => b = ka) h4 plain_dT rfl)⟩, upd_same⟩
theorem FoV.setTot (T : List (Addr × Str)) (h : FoV C H x dx pa ka ks pl tot) {t' : Int} : FoV C (upd H x (.ins C dx (putF "total" (.int t') [("places", .ref pa), ("known", .ref ka), ("total", .int tot)]))) x dx pa ka ks pl t' := by
  obtain ⟨n1, n2, n3⟩ := h.xp
  obtain ⟨h1, ⟨xs, h2, h3⟩, h4⟩ := h
  exact ⟨upd_same, ⟨xs, by rw [upd_ne n1.symm]; exact h2, h3.gr (Gr.mut (T := T) (S := fun b => b = x) h1 plain_ins rfl)⟩, by rw [upd_ne n2.symm]; exact h4⟩
/-- what the deeds on a forest change -/
def FS (x pa ka : Addr) : Addr → Prop := fun b => b = x ∨ b = pa ∨ b = ka
end
section
variable {P : Program} {w : World} {K : PySem.W.Frag} {mg : Str → Option Value} {base : Heap} {aE C : Addr}
def spTrees (C : Addr) (TT : List (Addr × Str)) : Sp := fun vs H Q _ => ∃ x dx pa ka ks pl tot, vs = [.ref x] ∧ FoV C H x dx pa ka ks pl tot ∧ ∀ l xs H', Gr TT NoS H H' → H l = none → H' l = some (.lst xs) → TrsV H' xs pl → Q (.ref l) H'
abbrev s_Forest_trees : Stmt := inClass (topS 50) 5
abbrev N_Forest_trees : List Str := ["self"]
theorem sc_Forest_trees : FnScope N_Forest_trees ["self"] (C8.fnScope s_Forest_trees) := ⟨rfl, rfl, rfl, by decide +kernel, rfl, by decide +kernel, by decide +kernel⟩
theorem met_trees {TT : List (Addr × Str)} {f : Addr} {fd : FuncData} (me : Meth K C "trees" f) (F : C8.Fun K "trees" "Forest.trees" s_Forest_trees f fd) (b : Binds K fd ["self"] []) (T : Txt K mg aE C) : C8.Met P w K mg base 1 C "trees" (spTrees C TT) [] := by
  refine C8.met0 T.cl me F b sc_Forest_trees (fun vs H Q E h => ?_) (fun cdv A outer s H vs Q E hr h => ?_)
  · obtain ⟨x, dx, pa, ka, ks, pl, tot, rfl, _⟩ := h
    rfl
  · obtain ⟨x, dx, pa, ka, ks, pl, tot, rfl, ⟨hob, ⟨xs, hpa, hxs⟩, hkn⟩, k⟩ := h
    have nd := sc_Forest_trees.nd
    refine ⟨_, (pss_one (ps_ret (pe_callTy call_list_of (by rfl) T.nlist (by decide +kernel) (pa_cons (pe_fld (pv 0) rfl) pa_nil)))), ?_⟩
    repeat walk_at "w"
    refine ⟨x, C, dx, _, .ref pa, rfl, hob, T.cl, T.nplaces, rfl, ?_⟩
    repeat walk_at "w"
    refine ⟨pa, xs, rfl, .inl (SqL.of hpa), fun l hl => ?_⟩
    exact k l xs _ (.new hl) hl upd_same (Al.imp hxs fun _ _ z => z.gr (.new (T := TT) (S := NoS) hl))
def spMoved (C : Addr) : Sp := fun vs H Q _ => ∃ x dx pa ka ks pl tot, vs = [.ref x] ∧ FoV C H x dx pa ka ks pl tot ∧ Q (.int tot) H
abbrev s_Forest_moved : Stmt := inClass (topS 50) 8
abbrev N_Forest_moved : List Str := ["self"]
theorem sc_Forest_moved : FnScope N_Forest_moved ["self"] (C8.fnScope s_Forest_moved) := ⟨rfl, rfl, rfl, by decide +kernel, rfl, by decide +kernel, by decide +kernel⟩
theorem met_moved {f : Addr} {fd : FuncData} (me : Meth K C "moved" f) (F : C8.Fun K "moved" "Forest.moved" s_Forest_moved f fd) (b : Binds K fd ["self"] []) (T : Txt K mg aE C) : C8.Met P w K mg base 1 C "moved" (spMoved C) [] := by
  refine C8.met0 T.cl me F b sc_Forest_moved (fun vs H Q E h => ?_) (fun cdv A outer s H vs Q E hr h => ?_)
  · obtain ⟨x, dx, pa, ka, ks, pl, tot, rfl, _⟩ := h
    rfl
  · obtain ⟨x, dx, pa, ka, ks, pl, tot, rfl, ⟨hob, _, _⟩, k⟩ := h
    have nd := sc_Forest_moved.nd
    refine ⟨_, (pss_one (ps_ret (pe_fld (pv 0) rfl))), ?_⟩
    repeat walk_at "w"
    exact ⟨x, C, dx, _, _, rfl, hob, T.cl, T.ntotal, rfl, k⟩
def spFoEq (C : Addr) (TT : List (Addr × Str)) : Sp := fun vs H Q _ => ∃ a b dx pa ka ks pl tot dy pb kb ls tot', vs = [.ref a, .ref b] ∧ FoV C H a dx pa ka ks pl tot ∧ FoV C H b dy pb kb ls pl tot' ∧ (keys ks).Nodup ∧ ks.length ≤ 100 ∧ (keys ls).Nodup ∧ ls.length ≤ 100 ∧ srt false (gone ks) = srt false (gone ls) ∧ (∀ t ∈ pl, ht t ≤ 50) ∧ ∀ H', Gr TT NoS H H' → Q (.bl true) H'
abbrev s_Forest_eq : Stmt := inClass (topS 50) 1
abbrev N_Forest_eq : List Str := ["self", "other"]
theorem sc_Forest_eq : FnScope N_Forest_eq ["self", "other"] (C8.fnScope s_Forest_eq) := ⟨rfl, rfl, rfl, by decide +kernel, rfl, by decide +kernel, by decide +kernel⟩
theorem met_eq {TT : List (Addr × Str)} {f : Addr} {fd : FuncData} (me : Meth K C "__eq__" f) (F : C8.Fun K "__eq__" "Forest.__eq__" s_Forest_eq f fd) (b : Binds K fd ["self", "other"] []) (T : Txt K mg aE C) (TF : TxF K C) (m_gone : C8.Met P w K mg base 1 C "gone" (spGone C TT) []) : C8.Met P w K mg base 2 C "__eq__" (spFoEq C TT) [] := by
  refine C8.met0 T.cl me F b sc_Forest_eq (fun vs H Q E h => ?_) (fun cdv A outer s H vs Q E hr h => ?_)
  · obtain ⟨a, b, dx, pa, ka, ks, pl, tot, dy, pb, kb, ls, tot', rfl, _⟩ := h
    rfl
  · obtain ⟨a, b, dx, pa, ka, ks, pl, tot, dy, pb, kb, ls, tot', rfl, fa, fb, na, la, nb, lb, hg, hh, k⟩ := h
    have nd := sc_Forest_eq.nd
    refine ⟨_, (pss_one (ps_ret (pe_and (pe_callB call_isi (by rfl) T.nisinstance (by decide +kernel) (pa_cons (pv 1) (pa_cons (C8.pe_gc (by rfl) T.gForest) pa_nil))) (pe_and (pe_cmpR (op_eqD (room64 hr)) (pe_fld (pv 0) rfl) (pe_fld (pv 1) rfl) (nomark _)) (pe_one (pe_cmpR (op_eqD (room64 hr)) (C8.pe_mt0 m_gone hr (by decide) (pv 0)) (C8.pe_mt0 m_gone hr (by decide) (pv 1)) (nomark _))))))), ?_⟩
    repeat walk_at "w"
    refine ⟨_, _, _, _, true, rfl, .own C, (TyX.base (.ins fb.ob T.cl TF.c1 TF.c2 TF.c3 TF.c4)), TF.isF, ?_⟩
    repeat walk_at "w"
    refine ⟨a, C, dx, _, .ref pa, rfl, fa.ob, T.cl, T.nplaces, rfl, ?_⟩
    repeat walk_at "w"
    refine ⟨b, C, dy, _, .ref pb, rfl, fb.ob, T.cl, T.nplaces, rfl, ?_⟩
    obtain ⟨xs, hpa, hxs⟩ := fa.ex
    obtain ⟨ys, hpb, hys⟩ := fb.ex
    refine ⟨_, _, hxs.dp (SqL.of hpa), hys.dp (SqL.of hpb), shaped_trs pl hh, shaped_trs pl hh, ?_⟩
    rw [eqv_same (shaped_trs pl hh)]
    repeat walk_at "w"
    refine ⟨a, dx, _, rfl, fa.ob, rfl, ?_⟩
    repeat walk_at "w"
    refine ⟨a, dx, pa, ka, ks, pl, tot, rfl, fa, na, la, fun l1 zs H1 g1 _ h1 hz => ?_⟩
    have fb1 := fb.gr0 g1
    repeat walk_at "w"
    refine ⟨b, dy, _, rfl, fb1.ob, rfl, ?_⟩
    repeat walk_at "w"
    refine ⟨b, dy, pb, kb, ls, pl, tot', rfl, fb1, nb, lb, fun l2 ws H2 g2 _ h2 hw => ?_⟩
    rw [← hg] at hw
    refine ⟨_, _, (hz.gr g2).dp (SqL.of (g2.keepL0 h1)), hw.dp (SqL.of h2), shaped_pts _, shaped_pts _, ?_⟩
    rw [eqv_same (shaped_pts _)]
    exact k _ (g1.trans g2)
end
end Wd
end
section
/-! Forests: put. -/
namespace Wd
open PySem PySem.Spec PyProof.Rows L2 LamX
local macro_rules | `(tactic| walk_at "w") => `(tactic| first
  | with_reducible refine w_var (by with_unfolding_all rfl) ?_
  | with_reducible refine w_aug (by with_unfolding_all rfl) ?_
  | with_reducible refine w_op ?_
  | with_reducible refine w_c ?_
  | with_reducible refine w_I0 ?_
  | with_reducible refine w_cons ?_
  | with_reducible refine w_nil ?_
  | with_reducible refine w_call ?_
  | with_reducible refine w_cb ?_
  | with_reducible refine w_seq ?_
  | with_reducible refine w_ret ?_
  | with_reducible refine w_set ?_
  | with_reducible refine w_if ?_
  | with_reducible refine w_test ?_
  | with_reducible refine w_B ?_
  | with_reducible refine w_k ?_
  | with_reducible refine w_and ?_
  | with_reducible refine w_or ?_
  | with_reducible refine w_not ?_
  | with_reducible refine w_andV ?_
  | with_reducible refine w_orV ?_
  | with_reducible refine w_notV ?_
  | with_reducible refine w_ifE ?_
  | with_reducible refine w_chain ?_
  | with_reducible refine w_un ?_
  | with_reducible refine w_U ?_
  | with_reducible refine w_isN ?_
  | with_reducible refine w_notN ?_
  | with_reducible refine w_T ?_
  | with_reducible refine w_F ?_
  | with_reducible refine w_next ?_
  | with_reducible refine w_drop ?_
  | with_reducible refine w_par2 ?_
  | with_reducible refine w_par3 ?_
  | with_reducible refine w_tup ?_
  | with_reducible refine w_lst ?_
  | with_reducible refine w_bm ?_
  | with_reducible refine w_bm0 ?_
  | with_reducible refine w_gname ?_
  | with_reducible refine w_gcons ?_
  | with_reducible refine w_lcI ?_
  | with_reducible refine w_lc2I ?_
  | with_reducible refine w_iTup ?_
  | with_reducible refine w_iList ?_
  | with_reducible refine w_yes ?_
  | with_reducible refine w_din ?_
  | with_reducible refine w_dput ?_
  | with_reducible refine w_dget2 ?_
  | with_reducible refine w_iEnum ?_
  | with_reducible refine w_sl ?_
  | with_reducible refine w_noP ?_
  | with_reducible refine w_part ?_
  | with_reducible refine w_asg ?_
  | with_reducible refine w_ip ?_
  | with_reducible refine w_cont ?_
  | with_reducible refine w_callD ?_
  | with_reducible refine w_thru ?_
  | with_reducible refine w_star ?_
  | with_reducible refine w_bits ?_
  | with_reducible refine w_revL ?_
  | with_reducible refine w_fld ?_
  | with_reducible refine w_dget ?_
  | with_reducible refine w_keys ?_
  | with_reducible refine w_gsub ?_
  | with_reducible refine w_fldaug ?_
  | with_reducible refine w_sfld ?_
  | with_reducible refine w_meth ?_
  | with_reducible refine w_make ?_
  | with_reducible refine w_ite (by with_unfolding_all rfl) ?_ | with_reducible refine w_itf (by with_unfolding_all rfl) ?_)
section
variable {T : List (Addr × Str)} {H H1 H2 : Hp} {C x dx pa ka : Addr} {ks : Kn} {pl : List Tree} {tot : Int}
theorem tsz_pts : ∀ {pl : List Tree} {t : Tree}, t ∈ pl → tsz t ≤ (pts pl).length
  | t :: r, u, h => by
    rw [pts_cons, List.length_append, tsz_rd]
    rcases List.mem_cons.mp h with rfl | h
    · omega
    · have := tsz_pts h
      omega
/-- a list of ours, another than the forest's -/
structure Apart (s x pa ka : Addr) : Prop where
  h1 : s ≠ x
  h2 : s ≠ pa
  h3 : s ≠ ka
theorem FoV.apart (h : FoV C H x dx pa ka ks pl tot) {s : Addr} (n : H s = none) : Apart s x pa ka := by
  obtain ⟨h1, ⟨xs, h2, h3⟩, h4⟩ := h
  exact ⟨(ne_of_none h1 n).symm, (ne_of_none h2 n).symm, (ne_of_none h4 n).symm⟩
theorem FoV.lst {s : Addr} {xs ys : List V} (h : FoV C H x dx pa ka ks pl tot) (a : Apart s x pa ka) (hs : H s = some (.lst xs)) : FoV C (upd H s (.lst ys)) x dx pa ka ks pl tot :=
  h.gr (Gr.lst (T := []) hs) (fun z => a.h1 z.symm) (fun z => a.h2 z.symm) (fun z => a.h3 z.symm)
end
section
variable {P : Program} {w : World} {K : PySem.W.Frag} {mg : Str → Option Value} {base : Heap} {aE C : Addr}
theorem set_mid {α : Type} (x y : α) (r : List α) : ∀ i : Nat, (List.replicate i x ++ y :: r).set i x = List.replicate (i + 1) x ++ r
  | 0 => rfl
  | i + 1 => by
    rw [List.replicate_succ, List.cons_append, List.set_cons_succ, set_mid x y r i]
    rfl
theorem set_mid2 {α : Type} (x y z : α) (r : List α) : ∀ i : Nat, (List.replicate i x ++ y :: r).set i z = List.replicate i x ++ z :: r
  | 0 => rfl
  | i + 1 => by
    rw [List.replicate_succ, List.cons_append, List.set_cons_succ, set_mid2 x y z r i]
    rfl
def spPut (C : Addr) (TT : List (Addr × Str)) : Sp := fun vs H Q _ => ∃ x v p dx pa ka ks pl tot, vs = [.ref x, v] ∧ FoV C H x dx pa ka ks pl tot ∧ PtV H v p ∧ PtOk p ∧ getB ks p ≠ some true ∧ ks.length < 60 ∧ (pts pl).length < 60 ∧ pl.length ≤ 50 ∧ Tabs TT H ∧
  ((getB ks p = some false → ∀ H', Gr TT (FS x pa ka) H H' → FoV C H' x dx pa ka (putB ks p true) pl tot → Q (.int 0) H') ∧
   (getB ks p = none → ∀ H', Gr TT (FS x pa ka) H H' → FoV C H' x dx pa ka (putB ks p true) (carry pl [p]) (tot + (clen pl 1 : Nat)) → Q (.int (clen pl 1 : Nat)) H'))
abbrev s_Forest_put : Stmt := inClass (topS 50) 2
abbrev N_Forest_put : List Str := ["self", "point", "place", "some"]
theorem sc_Forest_put : FnScope N_Forest_put ["self", "point"] (C8.fnScope s_Forest_put) := ⟨rfl, rfl, rfl, by decide +kernel, rfl, by decide +kernel, by decide +kernel⟩
theorem met_put {TT : List (Addr × Str)} {f : Addr} {fd : FuncData} (me : Meth K C "put" f) (F : C8.Fun K "put" "Forest.put" s_Forest_put f fd) (b : Binds K fd ["self", "point"] []) (T : Txt K mg aE C) (c_require_point : C8.Cal P w K mg base 5 "require_point" spReqPoint [])
    (c_read : C8.Cal P w K mg base 1 "read" (spRead TT) []) (c_built_from : C8.Cal P w K mg base 12 "built_from" (spBuilt (K := K) TT 6) []) : C8.Met P w K mg base 13 C "put" (spPut C TT) [] := by
  refine C8.met0 T.cl me F b sc_Forest_put (fun vs H Q E h => ?_) (fun cdv A outer s H vs Q E hr h => ?_)
  · obtain ⟨x, v, p, dx, pa, ka, ks, pl, tot, rfl, _⟩ := h
    rfl
  · obtain ⟨x, v, p, dx, pa, ka, ks, pl, tot, rfl, hf, hp, hok, hno, hlen, hpl, hpll, tabs, k0, k1⟩ := h
    have nd := sc_Forest_put.nd
    refine ⟨_, (pss_cons (ps_expr (C8.pe_c c_require_point hr (by decide) (by rfl) (pa_cons (pv 1) pa_nil)))
  (pss_cons (ps_if (pt_val (pe_dget2 (hu_of hr) (pe_fld (pv 0) rfl) (pv 1) pe_bl ⟨by rfl, by rfl, by rfl, by rfl⟩)) (pss_one ps_never) pss_nil)
  (pss_cons (ps_if (pt_cmp (pc_din (hu_of hr) (pv 1) (pe_fld (pv 0) rfl)) (by rfl)) (pss_cons (ps_dput (hu_of hr) (pe_fld (pv 0) rfl) (pv 1) pe_bl rfl)
  (pss_one (ps_ret pe_int))) pss_nil)
  (pss_cons (ps_if (pt_cmpR op_eq (pe_callB call_len_dT (by rfl) T.nlen (by decide +kernel) (pa_cons (pe_fld (pv 0) rfl) pa_nil)) (C8.pe_gc (by rfl) T.gMAX_POINTS) (nomark _)) (pss_one ps_never) pss_nil)
  (pss_cons (ps_par (i := 2) (j := 3) rfl nd rfl rfl (by decide) rfl rfl (pa_cons pe_int (pa_cons (pe_lst (pa_cons (pv 1) pa_nil)) pa_nil)) (by rfl))
  (pss_cons (ps_while PassesOwn.never (PW.pt (pw_and (pt_cmpR op_lt (pv 2) (pe_callB call_len_seq (by rfl) T.nlen (by decide +kernel) (pa_cons (pe_fld (pv 0) rfl) pa_nil)) (nomark _)) (pw_and1 (pt_cmpR op_notN1 (pe_ix ix_list (pe_fld (pv 0) rfl) (pv 2) (fun _ _ => rfl)) pe_non (nomark _))))) (pss_cons (ps_expr (pe_bm PySem.F.plainAttrs_list PySem.F.slot_list_extend PySem.F.type_list_extend mt_extend (pv 3) (pa_cons (C8.pe_c c_read hr (by decide) (by rfl) (pa_cons (pe_ix ix_list (pe_fld (pv 0) rfl) (pv 2) (fun _ _ => rfl)) pa_nil)) pa_nil)))
  (pss_cons (ps_asg pe_non (pg_sub (pe_fld (pv 0) rfl) (pv 2) set_list))
  (pss_one (ps_aug (i := 2) nd rfl (Or.inl rfl) pe_int ip_add)))))
  (pss_cons (ps_if (pt_cmpR op_eq (pv 2) (pe_callB call_len_seq (by rfl) T.nlen (by decide +kernel) (pa_cons (pe_fld (pv 0) rfl) pa_nil)) (nomark _)) (pss_one (ps_expr (pe_bm PySem.F.plainAttrs_list PySem.F.slot_list_append PySem.F.type_list_append mt_append (pe_fld (pv 0) rfl) (pa_cons pe_non pa_nil)))) pss_nil)
  (pss_cons (ps_asg (C8.pe_c c_built_from hr (by decide) (by rfl) (pa_cons (pv 3) (pa_cons pe_int pa_nil))) (pg_sub (pe_fld (pv 0) rfl) (pv 2) set_list))
  (pss_cons (ps_dput (hu_of hr) (pe_fld (pv 0) rfl) (pv 1) pe_bl rfl)
  (pss_cons (ps_fldaug (pv 0) (pe_callB call_len_seq (by rfl) T.nlen (by decide +kernel) (pa_cons (pv 3) pa_nil)) in_add)
  (pss_one (ps_ret (pe_callB call_len_seq (by rfl) T.nlen (by decide +kernel) (pa_cons (pv 3) pa_nil)))))))))))))), ?_⟩
    obtain ⟨pd, rfl, hpd⟩ := id hp
    repeat walk_at "w"
    refine ⟨_, p, rfl, hp, hok, ?_⟩
    repeat walk_at "w"
    refine ⟨x, C, dx, _, .ref ka, rfl, hf.ob, T.cl, T.nknown, rfl, ka, rfl, .inr ⟨_, .inl hf.kn⟩, ?_⟩
    repeat walk_at "w"
    refine ⟨_, DGet.t (k := keyL p) hf.kn hpd, ?_⟩
    rw [valV_kn]
    cases hg : getB ks p with
    | some b =>
      cases b with
      | true => exact absurd hg hno
      | false =>
        refine ⟨false, rfl, ?_⟩
        repeat walk_at "w"
        refine ⟨x, C, dx, _, .ref ka, rfl, hf.ob, T.cl, T.nknown, rfl, ka, _, rfl, DGet.t (k := keyL p) hf.kn hpd, ?_⟩
        rw [valV_kn, hg]
        refine ⟨true, rfl, ?_⟩
        repeat walk_at "w"
        refine ⟨x, C, dx, _, .ref ka, rfl, hf.ob, T.cl, T.nknown, rfl, ?_⟩
        repeat walk_at "w"
        refine ⟨ka, _, rfl, DPut.t (k := keyL p) hf.kn hpd (sz100' (by rw [kn_len]; omega)), ?_⟩
        rw [putK_kn]
        repeat walk_at "w"
        exact k0 hg _ (Gr.mut hf.kn plain_dT (.inr (.inr rfl))) (hf.setKn TT)
    | none =>
      refine ⟨false, rfl, ?_⟩
      repeat walk_at "w"
      refine ⟨x, C, dx, _, .ref ka, rfl, hf.ob, T.cl, T.nknown, rfl, ka, _, rfl, DGet.t (k := keyL p) hf.kn hpd, ?_⟩
      rw [valV_kn, hg]
      refine ⟨false, rfl, ?_⟩
      repeat walk_at "w"
      refine ⟨x, C, dx, _, .ref ka, rfl, hf.ob, T.cl, T.nknown, rfl, ?_⟩
      repeat walk_at "w"
      refine ⟨ka, _, rfl, hf.kn, ?_⟩
      rw [kn_len]
      repeat walk_at "w"
      refine ⟨rfl, ?_⟩
      repeat walk_at "w"
      refine w_dec (fun c0 => by injection c0 with c0; omega) (fun c0 => ?_)
      repeat walk_at "w"
      refine ⟨sz100 (Nat.le_of_ble_eq_true rfl), fun sm hpsm => ?_⟩; generalize eH1 : upd H sm _ = H1; obtain ⟨g1, h1⟩ := new_facts TT hpsm eH1; clear eH1
      have ap := hf.apart hpsm
      have hf1 := hf.gr0 g1
      repeat walk_at "w"
      refine w_while (fun m σ' H' => ∃ (i : Nat) (sl : List V) (so : List Pt) (rest : List Tree), σ' = [some (.ref x), some (.ref pd), some (.int i), some (.ref sm)] ∧ Gr TT (FS x pa ka) H H' ∧ FoV C H' x dx pa ka ks (List.replicate i .nil ++ rest) tot ∧ H' sm = some (.lst sl) ∧ PtsV H' sl so ∧
          carry pl [p] = List.replicate i .nil ++ carry rest so ∧ clen pl 1 = clen rest so.length ∧ so.length + (pts rest).length ≤ 60 ∧ i + rest.length = pl.length ∧ m = rest.length) pl.length
        ⟨0, _, [p], pl, rfl, g1.of0, hf1, h1, .cons (hp.gr g1) .nil, rfl, rfl, by show 1 + (pts pl).length ≤ 60; omega, by omega, rfl⟩ ?_
      rintro m σ' H' ⟨i, sl, so, rest, rfl, g, hf', hsm, hso, hcar, hcl, hbd, hil, rfl⟩
      obtain ⟨xs, hpa, hxs⟩ := id hf'.ex
      have hxl := hxs.len
      rw [List.length_append, List.length_replicate] at hxl
      have hsl := hso.len
      repeat walk_at "w"
      refine ⟨x, C, dx, _, .ref pa, rfl, hf'.ob, T.cl, T.nplaces, rfl, ?_⟩
      repeat walk_at "w"
      refine ⟨pa, xs, rfl, .inl (SqL.of hpa), ?_⟩
      rw [hxl]
      cases rest with
      | nil =>
        repeat walk_at "w"
        rw [show decide (((i : Nat) : Int) < ((i + ([] : List Tree).length : Nat) : Int)) = false from decide_eq_false (by show ¬ ((i : Nat) : Int) < ((i + 0 : Nat) : Int); omega)]
        repeat walk_at "w"
        refine ⟨x, C, dx, _, .ref pa, rfl, hf'.ob, T.cl, T.nplaces, rfl, ?_⟩
        repeat walk_at "w"
        refine ⟨pa, xs, rfl, .inl (SqL.of hpa), ?_⟩
        rw [hxl]
        refine ⟨rfl, ?_⟩
        repeat walk_at "w"
        rw [show decide (V.int ((i : Nat) : Int) = V.int ((i + ([] : List Tree).length : Nat) : Int)) = true from decide_eq_true (by rw [show i + ([] : List Tree).length = i from rfl])]
        repeat walk_at "w"
        refine ⟨x, C, dx, _, .ref pa, rfl, hf'.ob, T.cl, T.nplaces, rfl, ?_⟩
        repeat walk_at "w"
        refine ⟨w_tyL (SqL.of hpa), ?_⟩
        repeat walk_at "w"
        refine w_rapp hpa (by rw [hxl]; show i + 0 < 100000; omega) ?_
        have lp : Gr TT (fun b => b = pa) H' (upd H' pa (.lst (xs ++ [.non]))) := Gr.lst hpa
        have gp : Gr TT (FS x pa ka) H (upd H' pa (.lst (xs ++ [.non]))) := g.trans (lp.up fun b e => .inr (.inl e))
        have hfp : FoV C (upd H' pa (.lst (xs ++ [.non]))) x dx pa ka ks (List.replicate i .nil ++ [.nil]) tot := hf'.setPl (Al.app (by rw [List.append_nil] at hxs; exact Al.imp hxs fun _ _ z => z.gr lp) (.cons rfl .nil))
        have hsmp := lp.keepL hsm ap.h2
        have hsop := hso.gr lp
        have hxlp : (xs ++ [V.non]).length = i + 1 := by rw [List.length_append, hxl]; rfl
        have hpap : (upd H' pa (.lst (xs ++ [.non]))) pa = some (.lst (xs ++ [.non])) := upd_same
        generalize upd H' pa (.lst (xs ++ [.non])) = H2 at lp gp hfp hsmp hsop hpap ⊢
        generalize xs ++ [V.non] = ys at hxlp hpap ⊢
        repeat walk_at "w"
        refine ⟨sm, sl, so, false, rfl, SqL.of hsmp, hsop, by show so.length < 64; omega, by omega, gp.tb tabs, fun bv H5 g5 hbv => ?_⟩
        repeat walk_at "w"
        have hf5 := hfp.gr0 g5
        have hpa5 := g5.keepL0 hpap
        refine ⟨x, C, dx, _, .ref pa, rfl, hf5.ob, T.cl, T.nplaces, rfl, ?_⟩
        repeat walk_at "w"
        refine w_rset hpa5 (by omega) ?_
        have lp5 : Gr TT (fun b => b = pa) H5 (upd H5 pa (.lst (ys.set i bv))) := Gr.lst hpa5
        have gp5 : Gr TT (FS x pa ka) H (upd H5 pa (.lst (ys.set i bv))) := (gp.trans g5.of0).trans (lp5.up fun b e => .inr (.inl e))
        have hfp5 : FoV C (upd H5 pa (.lst (ys.set i bv))) x dx pa ka ks (List.replicate i .nil ++ bt6 so :: ([] : List Tree)) tot := by
          obtain ⟨ws, hpw, hws⟩ := hf5.ex
          obtain rfl : ys = ws := by
            rw [hpa5] at hpw
            injection hpw with hpw
            injection hpw
          refine hf5.setPl ?_
          have z : TrsV (upd H5 pa (.lst (ys.set i bv))) (ys.set i bv) ((List.replicate i Tree.nil ++ Tree.nil :: ([] : List Tree)).set i (bt6 so)) := Al.set (R := TrV (upd H5 pa (.lst (ys.set i bv)))) (x := bv) (y := bt6 so) (hbv.gr lp5) i (Al.imp hws fun _ _ z => z.gr lp5)
          rw [set_mid2] at z
          exact z
        have hsm5 := lp5.keepL (g5.keepL0 hsmp) ap.h2
        have hpd5 := gp5.tup hpd
        generalize upd H5 pa (.lst (ys.set i bv)) = H6 at lp5 gp5 hfp5 hsm5 hpd5 ⊢
        repeat walk_at "w"
        refine ⟨x, C, dx, _, .ref ka, rfl, hfp5.ob, T.cl, T.nknown, rfl, ?_⟩
        repeat walk_at "w"
        refine ⟨ka, _, rfl, DPut.t (k := keyL p) hfp5.kn hpd5 (sz100' (by rw [kn_len]; omega)), ?_⟩
        rw [putK_kn]
        have hfk := hfp5.setKn TT (ks' := putB ks p true)
        have gk : Gr TT (FS x pa ka) H (upd H6 ka (.dT (kn (putB ks p true)))) := gp5.trans (Gr.mut hfp5.kn plain_dT (.inr (.inr rfl)))
        have hsmk : upd H6 ka (.dT (kn (putB ks p true))) sm = some (.lst sl) := by rw [upd_ne ap.h3]; exact hsm5
        generalize upd H6 ka (.dT (kn (putB ks p true))) = H7 at hfk gk hsmk ⊢
        repeat walk_at "w"
        refine ⟨x, C, dx, _, .int tot, rfl, hfk.ob, T.cl, T.ntotal, rfl, ?_⟩
        repeat walk_at "w"
        refine ⟨sm, sl, rfl, .inl (SqL.of hsmk), ?_⟩
        refine ⟨_, _, rfl, rfl, dx, _, hfk.ob, Nat.lt_of_sub_eq_succ rfl, ?_⟩
        have hft := hfk.setTot TT (t' := tot + (sl.length : Nat))
        have gt : Gr TT (FS x pa ka) H (upd H7 x (.ins C dx (putF "total" (.int (tot + (sl.length : Nat))) [("places", .ref pa), ("known", .ref ka), ("total", .int tot)]))) := gk.trans (Gr.mut hfk.ob plain_ins (.inl rfl))
        have hsmt : upd H7 x (.ins C dx (putF "total" (.int (tot + (sl.length : Nat))) [("places", .ref pa), ("known", .ref ka), ("total", .int tot)])) sm = some (.lst sl) := by rw [upd_ne ap.h1]; exact hsmk
        generalize upd H7 x (.ins C dx (putF "total" (.int (tot + (sl.length : Nat))) [("places", .ref pa), ("known", .ref ka), ("total", .int tot)])) = H8 at hft gt hsmt ⊢
        repeat walk_at "w"
        refine ⟨sm, sl, rfl, .inl (SqL.of hsmt), ?_⟩
        have e1 : sl.length = clen pl 1 := by rw [hsl, hcl]; rfl
        rw [e1] at hft ⊢
        have e2 : carry pl [p] = List.replicate i .nil ++ bt6 so :: ([] : List Tree) := hcar
        rw [← e2] at hft
        exact k1 hg _ gt hft
      | cons t r =>
        repeat walk_at "w"
        rw [show decide (((i : Nat) : Int) < ((i + (t :: r).length : Nat) : Int)) = true from decide_eq_true (by rw [List.length_cons]; omega)]
        repeat walk_at "w"
        refine ⟨x, C, dx, _, .ref pa, rfl, hf'.ob, T.cl, T.nplaces, rfl, ?_⟩
        repeat walk_at "w"
        obtain ⟨y, hy, hyt⟩ := Al.get' hxs (i := i) (y := t) (by rw [List.getElem?_append_right (by rw [List.length_replicate]; exact Nat.le_refl _), List.length_replicate, Nat.sub_self]; rfl)
        refine w_ixL (SqL.of hpa) (L2.atI_nat hy) ?_
        rw [List.length_cons] at hxl
        cases t with
        | nil =>
          obtain rfl : y = .non := hyt
          repeat walk_at "w"
          refine ⟨x, C, dx, _, .ref pa, rfl, hf'.ob, T.cl, T.nplaces, rfl, ?_⟩
          repeat walk_at "w"
          refine ⟨pa, xs, rfl, .inl (SqL.of hpa), ?_⟩
          rw [hxl]
          refine ⟨rfl, ?_⟩
          repeat walk_at "w"
          rw [show decide (V.int ((i : Nat) : Int) = V.int ((i + (r.length + 1) : Nat) : Int)) = false from decide_eq_false (fun z => by injection z with z; omega)]
          repeat walk_at "w"
          have hxlp : xs.length = i + (r.length + 1) := hxl
          repeat walk_at "w"
          refine ⟨sm, sl, so, false, rfl, SqL.of hsm, hso, by show so.length < 64; omega, by omega, g.tb tabs, fun bv H5 g5 hbv => ?_⟩
          repeat walk_at "w"
          have hf5 := hf'.gr0 g5
          have hpa5 := g5.keepL0 hpa
          refine ⟨x, C, dx, _, .ref pa, rfl, hf5.ob, T.cl, T.nplaces, rfl, ?_⟩
          repeat walk_at "w"
          refine w_rset hpa5 (by omega) ?_
          have lp5 : Gr TT (fun b => b = pa) H5 (upd H5 pa (.lst (xs.set i bv))) := Gr.lst hpa5
          have gp5 : Gr TT (FS x pa ka) H (upd H5 pa (.lst (xs.set i bv))) := (g.trans g5.of0).trans (lp5.up fun b e => .inr (.inl e))
          have hfp5 : FoV C (upd H5 pa (.lst (xs.set i bv))) x dx pa ka ks (List.replicate i .nil ++ bt6 so :: r) tot := by
            obtain ⟨ws, hpw, hws⟩ := hf5.ex
            obtain rfl : xs = ws := by
              rw [hpa5] at hpw
              injection hpw with hpw
              injection hpw
            refine hf5.setPl ?_
            have z : TrsV (upd H5 pa (.lst (xs.set i bv))) (xs.set i bv) ((List.replicate i Tree.nil ++ Tree.nil :: r).set i (bt6 so)) := Al.set (R := TrV (upd H5 pa (.lst (xs.set i bv)))) (x := bv) (y := bt6 so) (hbv.gr lp5) i (Al.imp hws fun _ _ z => z.gr lp5)
            rw [set_mid2] at z
            exact z
          have hsm5 := lp5.keepL (g5.keepL0 hsm) ap.h2
          have hpd5 := gp5.tup hpd
          generalize upd H5 pa (.lst (xs.set i bv)) = H6 at lp5 gp5 hfp5 hsm5 hpd5 ⊢
          repeat walk_at "w"
          refine ⟨x, C, dx, _, .ref ka, rfl, hfp5.ob, T.cl, T.nknown, rfl, ?_⟩
          repeat walk_at "w"
          refine ⟨ka, _, rfl, DPut.t (k := keyL p) hfp5.kn hpd5 (sz100' (by rw [kn_len]; omega)), ?_⟩
          rw [putK_kn]
          have hfk := hfp5.setKn TT (ks' := putB ks p true)
          have gk : Gr TT (FS x pa ka) H (upd H6 ka (.dT (kn (putB ks p true)))) := gp5.trans (Gr.mut hfp5.kn plain_dT (.inr (.inr rfl)))
          have hsmk : upd H6 ka (.dT (kn (putB ks p true))) sm = some (.lst sl) := by rw [upd_ne ap.h3]; exact hsm5
          generalize upd H6 ka (.dT (kn (putB ks p true))) = H7 at hfk gk hsmk ⊢
          repeat walk_at "w"
          refine ⟨x, C, dx, _, .int tot, rfl, hfk.ob, T.cl, T.ntotal, rfl, ?_⟩
          repeat walk_at "w"
          refine ⟨sm, sl, rfl, .inl (SqL.of hsmk), ?_⟩
          refine ⟨_, _, rfl, rfl, dx, _, hfk.ob, Nat.lt_of_sub_eq_succ rfl, ?_⟩
          have hft := hfk.setTot TT (t' := tot + (sl.length : Nat))
          have gt : Gr TT (FS x pa ka) H (upd H7 x (.ins C dx (putF "total" (.int (tot + (sl.length : Nat))) [("places", .ref pa), ("known", .ref ka), ("total", .int tot)]))) := gk.trans (Gr.mut hfk.ob plain_ins (.inl rfl))
          have hsmt : upd H7 x (.ins C dx (putF "total" (.int (tot + (sl.length : Nat))) [("places", .ref pa), ("known", .ref ka), ("total", .int tot)])) sm = some (.lst sl) := by rw [upd_ne ap.h1]; exact hsmk
          generalize upd H7 x (.ins C dx (putF "total" (.int (tot + (sl.length : Nat))) [("places", .ref pa), ("known", .ref ka), ("total", .int tot)])) = H8 at hft gt hsmt ⊢
          repeat walk_at "w"
          refine ⟨sm, sl, rfl, .inl (SqL.of hsmt), ?_⟩
          have e1 : sl.length = clen pl 1 := by rw [hsl, hcl]; rfl
          rw [e1] at hft ⊢
          have e2 : carry pl [p] = List.replicate i .nil ++ bt6 so :: r := hcar
          rw [← e2] at hft
          exact k1 hg _ gt hft
        | node p0 a0 b0 =>
          obtain ⟨aa, rfl⟩ : ∃ aa, y = .ref aa := by
            obtain ⟨aa, _, _, _, e, _⟩ := hyt
            exact ⟨aa, e⟩
          repeat walk_at "w"
          refine ⟨_, fun σ' H' z => z, ?_⟩
          rw [pts_cons, List.length_append, tsz_rd] at hbd
          repeat walk_at "w"
          refine ⟨w_tyL (SqL.of hsm), ?_⟩
          repeat walk_at "w"
          refine ⟨x, C, dx, _, .ref pa, rfl, hf'.ob, T.cl, T.nplaces, rfl, ?_⟩
          repeat walk_at "w"
          refine w_ixL (SqL.of hpa) (L2.atI_nat hy) ?_
          repeat walk_at "w"
          refine ⟨_, _, rfl, hyt, by omega, fun l zs H2 g2 _ hl hzs => ?_⟩
          have hzl := hzs.len
          rw [tsz_rd] at hzl
          repeat walk_at "w"
          refine w_rext (g2.keepL0 hsm) hl (by omega) ?_
          generalize eH3 : upd H2 sm _ = H3; obtain ⟨gH3, lH3, hH3⟩ := lst_facts (TT := TT) (hpsm) (g.trans g2.of0) (g2.keepL0 hsm) eH3; clear eH3
          have hf3 := (hf'.gr0 g2).gr lH3 (fun z => ap.h1 z.symm) (fun z => ap.h2 z.symm) (fun z => ap.h3 z.symm)
          have hpa3 := lH3.keepL (g2.keepL0 hpa) (fun z => ap.h2 z.symm)
          have hxs3 : TrsV H3 xs (List.replicate i .nil ++ .node p0 a0 b0 :: r) := (hxs.gr g2).gr lH3
          have hso3 : PtsV H3 (sl ++ zs) (so ++ rd (.node p0 a0 b0)) := Al.app (Al.imp hso fun _ _ z => (z.gr g2).gr lH3) (hzs.gr lH3)
          repeat walk_at "w"
          refine ⟨x, C, dx, _, .ref pa, rfl, hf3.ob, T.cl, T.nplaces, rfl, ?_⟩
          repeat walk_at "w"
          refine w_rset hpa3 (by omega) ?_
          have lp : Gr TT (fun b => b = pa) H3 (upd H3 pa (.lst (xs.set i .non))) := Gr.lst hpa3
          have gp : Gr TT (FS x pa ka) H (upd H3 pa (.lst (xs.set i .non))) := gH3.trans (lp.up fun b e => .inr (.inl e))
          have hfp : FoV C (upd H3 pa (.lst (xs.set i .non))) x dx pa ka ks (List.replicate (i + 1) .nil ++ r) tot := by
            refine hf3.setPl ?_
            have z : TrsV (upd H3 pa (.lst (xs.set i .non))) (xs.set i .non) ((List.replicate i Tree.nil ++ Tree.node p0 a0 b0 :: r).set i Tree.nil) := Al.set (R := TrV (upd H3 pa (.lst (xs.set i .non)))) (x := V.non) (y := Tree.nil) rfl i (Al.imp hxs3 fun _ _ z => z.gr lp)
            rw [set_mid] at z
            exact z
          have hsmp := lp.keepL hH3 ap.h2
          have hsop := hso3.gr lp
          generalize upd H3 pa (.lst (xs.set i .non)) = H4 at lp gp hfp hsmp hsop ⊢
          repeat walk_at "w"
          refine ⟨r.length, by rw [List.length_cons]; omega, i + 1, sl ++ zs, so ++ rd (.node p0 a0 b0), r, rfl, gp, hfp, hsmp, hsop, ?_, ?_, ?_, ?_, rfl⟩
          · rw [hcar, List.replicate_succ', List.append_assoc]
            rfl
          · rw [hcl, List.length_append]
            rfl
          · rw [List.length_append, tsz_rd]
            omega
          · rw [List.length_cons] at hil
            omega
end
end Wd
end
section
/-! Forests: made of points, made anew, take. -/
namespace Wd
open PySem PySem.Spec PyProof.Rows L2 LamX
local macro_rules | `(tactic| walk_at "w") => `(tactic| first
  | with_reducible refine w_var (by with_unfolding_all rfl) ?_
  | with_reducible refine w_aug (by with_unfolding_all rfl) ?_
  | with_reducible refine w_op ?_
  | with_reducible refine w_c ?_
  | with_reducible refine w_I0 ?_
  | with_reducible refine w_cons ?_
  | with_reducible refine w_nil ?_
  | with_reducible refine w_call ?_
  | with_reducible refine w_cb ?_
  | with_reducible refine w_seq ?_
  | with_reducible refine w_ret ?_
  | with_reducible refine w_set ?_
  | with_reducible refine w_if ?_
  | with_reducible refine w_test ?_
  | with_reducible refine w_B ?_
  | with_reducible refine w_k ?_
  | with_reducible refine w_and ?_
  | with_reducible refine w_or ?_
  | with_reducible refine w_not ?_
  | with_reducible refine w_andV ?_
  | with_reducible refine w_orV ?_
  | with_reducible refine w_notV ?_
  | with_reducible refine w_ifE ?_
  | with_reducible refine w_chain ?_
  | with_reducible refine w_un ?_
  | with_reducible refine w_U ?_
  | with_reducible refine w_isN ?_
  | with_reducible refine w_notN ?_
  | with_reducible refine w_T ?_
  | with_reducible refine w_F ?_
  | with_reducible refine w_next ?_
  | with_reducible refine w_drop ?_
  | with_reducible refine w_par2 ?_
  | with_reducible refine w_par3 ?_
  | with_reducible refine w_tup ?_
  | with_reducible refine w_lst ?_
  | with_reducible refine w_bm ?_
  | with_reducible refine w_bm0 ?_
  | with_reducible refine w_gname ?_
  | with_reducible refine w_gcons ?_
  | with_reducible refine w_lcI ?_
  | with_reducible refine w_lc2I ?_
  | with_reducible refine w_iTup ?_
  | with_reducible refine w_iList ?_
  | with_reducible refine w_yes ?_
  | with_reducible refine w_din ?_
  | with_reducible refine w_dput ?_
  | with_reducible refine w_dget2 ?_
  | with_reducible refine w_iEnum ?_
  | with_reducible refine w_sl ?_
  | with_reducible refine w_noP ?_
  | with_reducible refine w_part ?_
  | with_reducible refine w_asg ?_
  | with_reducible refine w_ip ?_
  | with_reducible refine w_cont ?_
  | with_reducible refine w_callD ?_
  | with_reducible refine w_thru ?_
  | with_reducible refine w_star ?_
  | with_reducible refine w_bits ?_
  | with_reducible refine w_revL ?_
  | with_reducible refine w_fld ?_
  | with_reducible refine w_dget ?_
  | with_reducible refine w_keys ?_
  | with_reducible refine w_gsub ?_
  | with_reducible refine w_fldaug ?_
  | with_reducible refine w_sfld ?_
  | with_reducible refine w_meth ?_
  | with_reducible refine w_make ?_
  | with_reducible refine w_ite (by with_unfolding_all rfl) ?_ | with_reducible refine w_itf (by with_unfolding_all rfl) ?_)
section
variable {T : List (Addr × Str)} {S : Addr → Prop} {H H1 H2 : Hp}
/-- what is changed is newer than H -/
theorem Gr.newS (g1 : Gr T NoS H H1) (g2 : Gr T S H1 H2) (h : ∀ b, S b → H b = none) : Gr T NoS H H2 :=
  ⟨fun b o e _ z => g2.kp b o (g1.kp b o e (fun z => z) z) (fun s => by rw [h b s] at e; cases e) z, fun b e => g1.fr b (g2.fr b e), fun t => g2.tb (g1.tb t), fun b xs e => g2.tp b xs (g1.tp b xs e), fun b o u e => g2.fz b o u (g1.fz b o u e)⟩
theorem Gr.newS' {S' : Addr → Prop} (g1 : Gr T S' H H1) (g2 : Gr T S H1 H2) (h : ∀ b, S b → S' b ∨ H b = none) : Gr T S' H H2 :=
  ⟨fun b o e n z => g2.kp b o (g1.kp b o e n z) (fun s => (h b s).elim n (fun q => by rw [q] at e; cases e)) z, fun b e => g1.fr b (g2.fr b e), fun t => g2.tb (g1.tb t), fun b xs e => g2.tp b xs (g1.tp b xs e), fun b o u e => g2.fz b o u (g1.fz b o u e)⟩
end
section
variable {P : Program} {w : World} {K : PySem.W.Frag} {mg : Str → Option Value} {base : Heap} {aE C : Addr}
theorem w_gfld {σ : L2.St} {H : Hp} {Q : L2.St → Hp → Prop} {ta : TE} {f : Str} {v : V} (h : ta σ H fun x H2 => ∃ a C dx fs, x = .ref a ∧ H2 a = some (.ins C dx fs) ∧ Cls K C ∧ NoAttr K C f ∧ fs.length < 1000 ∧ Q σ (upd H2 a (.ins C dx (putF f v fs)))) : gFld K ta f v σ H Q := h
def spInit (C : Addr) (TT : List (Addr × Str)) : Sp := fun vs H Q _ => ∃ x a dx xs ps, vs = [.ref x, .ref a] ∧ H x = some (.ins C dx []) ∧ H a = some (.lst xs) ∧ PtsV H xs ps ∧ ps.Nodup ∧ (∀ p ∈ ps, PtOk p) ∧ ps.length ≤ 40 ∧ Tabs TT H ∧
  ∀ H' pa ka pl, Gr TT (fun b => b = x) H H' → FoV C H' x dx pa ka (fresh ps) pl (tsum ps.length : Nat) → Rep 0 pl ps → Top pl → H pa = none → H ka = none → Q .non H'
abbrev s_Forest_init : Stmt := inClass (topS 50) 0
abbrev N_Forest_init : List Str := ["self", "points", "point"]
theorem sc_Forest_init : FnScope N_Forest_init ["self", "points"] (C8.fnScope s_Forest_init) := ⟨rfl, rfl, rfl, by decide +kernel, rfl, by decide +kernel, by decide +kernel⟩
theorem mak_forest {TT : List (Addr × Str)} {f : Addr} {fd : FuncData} {ds : List Value} (M : Mk K C f) (F : C8.Fun K "__init__" "Forest.__init__" s_Forest_init f fd) (b : Binds K fd ["self", "points"] []) (hm : mg "Forest" = some (.ref C)) (T : Txt K mg aE C)
    (c_require_points : C8.Cal P w K mg base 5 "require_points" (spReqPts TT) [.int 500, .int 0]) (m_put : C8.Met P w K mg base 13 C "put" (spPut C TT) []) : C8.Mak P w K mg base 14 "Forest" C (spInit C TT) [] := by
  refine C8.mak0 M hm F b .nil sc_Forest_init (fun vs H Q E h => ?_) (fun cdv A outer s H vs Q E hr h => ?_)
  · obtain ⟨x, a, dx, xs, ps, rfl, _⟩ := h
    rfl
  · obtain ⟨x, a, dx, xs, ps, rfl, hx, ha, hps, hnd, hok, hlen, tabs, k⟩ := h
    have nd := sc_Forest_init.nd
    refine ⟨_, (pss_cons (ps_expr (C8.pe_c c_require_points hr (by decide) (by rfl) (pa_cons (pv 1) pa_nil)))
  (pss_cons (ps_asg (pe_tup (pa_cons (pe_lst pa_nil) (pa_cons pe_dnewT (pa_cons pe_int pa_nil)))) (pg_tup rfl (pgs_cons (pg_fld (pv 0)) (pgs_cons (pg_fld (pv 0)) (pgs_cons (pg_fld (pv 0)) pgs_nil)))))
  (pss_one (ps_for PassesOwn.never rfl (pi_list (pv 1)) (pg_name (i := 2) nd rfl (Or.inl rfl)) (pss_one (ps_expr (C8.pe_mt m_put hr (by decide) (pv 0) (pa_cons (pv 2) pa_nil)))))))), ?_⟩
    repeat walk_at "w"
    refine ⟨a, xs, ps, rfl, ha, hps, hnd, hok, by omega, fun H1 g1 => ?_⟩
    repeat walk_at "w"
    refine ⟨sz100 (Nat.le_of_ble_eq_true rfl), fun pa hppa => ?_⟩; generalize eH2 : upd H1 pa _ = H2; obtain ⟨g2, h2⟩ := new_facts TT hppa eH2; clear eH2
    repeat walk_at "w"
    intro ka hpka; generalize eH3 : upd H2 ka _ = H3; obtain ⟨g3, h3⟩ := new_facts TT hpka eH3; clear eH3
    repeat walk_at "w"
    refine ⟨sz100 (Nat.le_of_ble_eq_true rfl), fun tp hptp => ?_⟩; generalize eH4 : upd H3 tp _ = H4; obtain ⟨g4, h4⟩ := new_facts TT hptp eH4; clear eH4
    have g14 := g1.trans (g2.trans (g3.trans g4))
    have hx4 := g14.at_ hx (fun z => z) plain_ins.1
    have h2' := (g3.trans g4).keepL0 h2
    have h3' := g4.at_ h3 (fun z => z) plain_dT.1
    have xp : x ≠ pa := ne_of_none (g1.at_ hx (fun z => z) plain_ins.1) hppa
    have xk : x ≠ ka := ne_of_none ((g1.trans g2).at_ hx (fun z => z) plain_ins.1) hpka
    have ax : a ≠ x := ne_of ha hx (fun z => by cases z)
    refine w_gtup (SqT.of h4) rfl (w_gcons (w_gfld (w_var (by rfl) ⟨x, C, dx, _, rfl, hx4, T.cl, T.nplaces, Nat.zero_lt_succ _, w_gcons (w_gfld (w_var (by rfl) ⟨x, C, dx, _, rfl, upd_same, T.cl, T.nknown, Nat.lt_of_sub_eq_succ rfl, w_gcons (w_gfld (w_var (by rfl) ⟨x, C, dx, _, rfl, upd_same, T.cl, T.ntotal, Nat.lt_of_sub_eq_succ rfl, w_gnil ?_⟩))⟩))⟩)))
    rw [upd_upd, upd_upd]
    generalize e5 : upd H4 x _ = H5
    have g5 : Gr TT (fun b => b = x) H H5 := by
      rw [← e5]
      exact g14.of0.trans (Gr.mut hx4 plain_ins rfl)
    have hf5 : FoV C H5 x dx pa ka (fresh []) [] (tsum 0 : Nat) := by
      rw [← e5]
      exact ⟨upd_same, ⟨[], by rw [upd_ne xp.symm]; exact h2', .nil⟩, by rw [upd_ne xk.symm]; exact h3'⟩
    clear e5
    have ha5 := g5.keepL ha ax
    have pa0 : H pa = none := g1.fr _ hppa
    have ka0 : H ka = none := (g1.trans g2).fr _ hpka
    have apa : a ≠ pa := ne_of_none ha pa0
    have aka : a ≠ ka := ne_of_none ha ka0
    repeat walk_at "w"
    with_reducible refine w_forI ?_
    repeat walk_at "w"
    have hxl := hps.len
    refine ⟨a, rfl, ⟨_, SqL.of ha5⟩, for_list (K := K) (a := a) (xs := xs) (fun i σ' H' => ∃ (v2 : Option V) (pl : List Tree), σ' = [some (.ref x), some (.ref a), v2] ∧ Gr TT (fun b => b = x) H H' ∧ H' a = some (.lst xs) ∧ FoV C H' x dx pa ka (fresh (ps.take i)) pl (tsum i : Nat) ∧ Rep 0 pl (ps.take i) ∧ Top pl)
      ⟨_, [], rfl, g5, ha5, hf5, rfl, trivial⟩ (fun i σ' H' _ ⟨_, _, _, _, z, _⟩ => SqL.of z) ?_ ?_⟩
    · rintro i y σ' H' hy ⟨v2, pl, rfl, g, ha', hf, hrep, htop⟩
      obtain ⟨p, hp, hyp⟩ := Al.get hps hy
      have hpi := (List.getElem?_eq_some_iff.mp hp).1
      have hno : p ∉ ps.take i := by
        intro z
        obtain ⟨j, hj⟩ := List.mem_iff_getElem?.mp z
        rw [List.getElem?_take] at hj
        split at hj
        · have := (List.getElem?_inj hpi hnd).mp (hp.trans hj.symm)
          omega
        · cases hj
      have htl : (ps.take i).length = i := by rw [List.length_take]; omega
      have hpl := hrep.pts (by omega)
      have hpll := rep_len hrep htop (by omega)
      have hgn : getB (fresh (ps.take i)) p = none := getB_none.mpr (by rw [keys_fresh]; exact hno)
      refine w_gname ?_
      repeat walk_at "w"
      refine ⟨x, dx, _, rfl, hf.ob, rfl, ?_⟩
      repeat walk_at "w"
      refine ⟨x, y, p, dx, pa, ka, _, pl, _, rfl, hf, hyp.gr g, hok p (List.mem_of_getElem? hp), (by rw [hgn]; exact fun z => (by cases z)), by unfold fresh; rw [List.length_map]; omega, by rw [hpl.length_eq]; omega, by omega, g.tb tabs, fun z => (by rw [hgn] at z; cases z), fun _ H6 g6 hf6 => ?_⟩
      have e1 : ps.take (i + 1) = ps.take i ++ [p] := by
        rw [List.take_add_one, hp]
        rfl
      have e2 : putB (fresh (ps.take i)) p true = fresh (ps.take (i + 1)) := by
        rw [putB_new (by rw [keys_fresh]; exact hno), e1]
        unfold fresh
        rw [List.map_append]
        rfl
      have e3 : clen pl 1 = cl 10 0 1 i := by rw [clen_rep hrep htop (by omega), htl]
      rw [e2, e3, show (((tsum i : Nat) : Int) + ((cl 10 0 1 i : Nat) : Int)) = ((tsum (i + 1) : Nat) : Int) by rw [tsum_succ]; omega] at hf6
      refine ⟨_, carry pl [p], rfl, g.newS' g6 (fun b hb => ?_), g6.keepL ha' (fun z => ?_), hf6, ?_, htop.carry (by simp)⟩
      · rcases hb with rfl | rfl | rfl
        · exact .inl rfl
        · exact .inr pa0
        · exact .inr ka0
      · rcases z with z | z | z
        · exact ax z
        · exact apa z
        · exact aka z
      · rw [e1]
        exact hrep.carry rfl (.refl _) (by rw [htl, List.length_singleton]; omega)
    · rintro σ' H' ⟨v2, pl, rfl, g, ha', hf, hrep, htop⟩
      rw [hxl, List.take_of_length_le (Nat.le_refl _)] at hf hrep
      exact k H' pa ka pl g hf hrep htop pa0 ka0
end
end Wd
end
section
/-! Forests: made anew, take. -/
namespace Wd
open PySem PySem.Spec PyProof.Rows L2 LamX
local macro_rules | `(tactic| walk_at "w") => `(tactic| first
  | with_reducible refine w_var (by with_unfolding_all rfl) ?_
  | with_reducible refine w_aug (by with_unfolding_all rfl) ?_
  | with_reducible refine w_op ?_
  | with_reducible refine w_c ?_
  | with_reducible refine w_I0 ?_
  | with_reducible refine w_cons ?_
  | with_reducible refine w_nil ?_
  | with_reducible refine w_call ?_
  | with_reducible refine w_cb ?_
  | with_reducible refine w_seq ?_
  | with_reducible refine w_ret ?_
  | with_reducible refine w_set ?_
  | with_reducible refine w_if ?_
  | with_reducible refine w_test ?_
  | with_reducible refine w_B ?_
  | with_reducible refine w_k ?_
  | with_reducible refine w_and ?_
  | with_reducible refine w_or ?_
  | with_reducible refine w_not ?_
  | with_reducible refine w_andV ?_
  | with_reducible refine w_orV ?_
  | with_reducible refine w_notV ?_
  | with_reducible refine w_ifE ?_
  | with_reducible refine w_chain ?_
  | with_reducible refine w_un ?_
  | with_reducible refine w_U ?_
  | with_reducible refine w_isN ?_
  | with_reducible refine w_notN ?_
  | with_reducible refine w_T ?_
  | with_reducible refine w_F ?_
  | with_reducible refine w_next ?_
  | with_reducible refine w_drop ?_
  | with_reducible refine w_par2 ?_
  | with_reducible refine w_par3 ?_
  | with_reducible refine w_tup ?_
  | with_reducible refine w_lst ?_
  | with_reducible refine w_bm ?_
  | with_reducible refine w_bm0 ?_
  | with_reducible refine w_gname ?_
  | with_reducible refine w_gcons ?_
  | with_reducible refine w_lcI ?_
  | with_reducible refine w_lc2I ?_
  | with_reducible refine w_iTup ?_
  | with_reducible refine w_iList ?_
  | with_reducible refine w_yes ?_
  | with_reducible refine w_din ?_
  | with_reducible refine w_dput ?_
  | with_reducible refine w_dget2 ?_
  | with_reducible refine w_iEnum ?_
  | with_reducible refine w_sl ?_
  | with_reducible refine w_noP ?_
  | with_reducible refine w_part ?_
  | with_reducible refine w_asg ?_
  | with_reducible refine w_ip ?_
  | with_reducible refine w_cont ?_
  | with_reducible refine w_callD ?_
  | with_reducible refine w_thru ?_
  | with_reducible refine w_star ?_
  | with_reducible refine w_bits ?_
  | with_reducible refine w_revL ?_
  | with_reducible refine w_fld ?_
  | with_reducible refine w_dget ?_
  | with_reducible refine w_keys ?_
  | with_reducible refine w_gsub ?_
  | with_reducible refine w_fldaug ?_
  | with_reducible refine w_sfld ?_
  | with_reducible refine w_meth ?_
  | with_reducible refine w_make ?_
  | with_reducible refine w_ite (by with_unfolding_all rfl) ?_ | with_reducible refine w_itf (by with_unfolding_all rfl) ?_)
theorem w_iRng3 {ta : TA} {σ : L2.St} {H : Hp} {R : It → Hp → Prop} (h : ta σ H fun vs H1 => ∃ (i j c : Int) (n : Nat), vs = [.int i, .int j, .int c] ∧ RgC i j c n ∧ R (Itc i c n) H1) : iRng3 ta σ H R := h
theorem w_dcI {wi : TI} {g : TG} {tt : L2.TT} {tk tv : TE} {vs : List Nat} {σ : L2.St} {H : Hp} {Q : VK} (h : wi σ H fun J H1 => ∀ D, H1 D = none → ∃ W : Nat → Nat → Hp → Prop, (∃ m, W 0 m (upd H1 D (.dT []))) ∧ TurnW J g tt (fun σ2 H3 Nx => tk σ2 H3 fun y H4 => tv σ2 H4 fun z H5 => ∃ kvs k b, y = .ref b ∧ H5 D = some (.dT kvs) ∧ H5 b = some (.tup (k.map kV)) ∧ kvs.length < sizeLine ∧ Nx (upd H5 D (.dT (putK kvs k z)))) vs σ (Q (.ref D)) W) : tDcT wi g tt tk tv vs σ H Q := h
theorem w_dc {J : It} {n : Nat} {G : Hp → Prop} {Y : Nat → Hp → V → Hp → Prop} (w : L2.Walk J n G Y) {g : TG} {tt : L2.TT} {rest : L2.St → Hp → (Hp → Prop) → Prop} {vs : List Nat} {σ : L2.St} {H1 : Hp} {QD : Hp → Prop} (Pv : Nat → Hp → Prop) (h0 : Pv 0 H1) (hG : ∀ i H, i ≤ n → Pv i H → G H)
    (hs : ∀ i x H H', i < n → Pv i H → Y i H x H' → g x (wipe σ vs) H' fun σ2 H2 => wipe σ2 vs = wipe σ vs ∧ tt σ2 H2 fun b H3 => if b = true then rest σ2 H3 (Pv (i + 1)) else Pv (i + 1) H3) (hd : ∀ H, Pv n H → QD H) :
    ∃ W : Nat → Nat → Hp → Prop, (∃ m, W 0 m H1) ∧ TurnW J g tt rest vs σ QD W := by
  refine ⟨fun i m H => m + i = n ∧ Pv i H, ⟨n, by omega, h0⟩, ?_⟩
  rintro i m H ⟨e, p⟩
  have g1 := hG i H (by omega) p
  by_cases hlt : i < n
  · exact .inr ⟨w.goes i H hlt g1, Pv (i + 1), fun H' q => ⟨m - 1, by omega, by omega, q⟩, fun x H' y => hs i x H H' hlt p (w.yields i H x H' hlt g1 y)⟩
  · obtain rfl : i = n := by omega
    exact .inl ⟨w.stops H g1, hd H p⟩
def bl (n : Nat) : Nat := Builtin.Int.intBits ((n : Nat) : Int)
theorem bl_facts : ∀ n, n < 64 → n < 2 ^ bl n ∧ bl n ≤ 6 ∧ (1 ≤ bl n → 2 ^ (bl n - 1) ≤ n) := by decide +kernel
section
variable {P : Program} {w : World} {K : PySem.W.Frag} {mg : Str → Option Value} {base : Heap} {aE C : Addr}
def spMake (C : Addr) (TT : List (Addr × Str)) : Sp := fun vs H Q _ => ∃ x a dx pa ka ks pl tot xs ps, vs = [.ref x, .ref a] ∧ FoV C H x dx pa ka ks pl tot ∧ H a = some (.lst xs) ∧ PtsV H xs ps ∧ ps.Nodup ∧ ps.length ≤ 40 ∧ Tabs TT H ∧
  ∀ H' pa' ka' pl', Gr TT (fun b => b = x) H H' → FoV C H' x dx pa' ka' (fresh ps) pl' tot → Rep 0 pl' ps → Top pl' → H pa' = none → H ka' = none → Q .non H'
abbrev s_Forest_make : Stmt := inClass (topS 50) 4
abbrev N_Forest_make : List Str := ["self", "points", "place", "many", "begun", "point"]
theorem sc_Forest_make : FnScope N_Forest_make ["self", "points"] (C8.fnScope s_Forest_make) := ⟨rfl, rfl, rfl, by decide +kernel, rfl, by decide +kernel, by decide +kernel⟩
theorem met_make {TT : List (Addr × Str)} {f : Addr} {fd : FuncData} (me : Meth K C "make" f) (F : C8.Fun K "make" "Forest.make" s_Forest_make f fd) (b : Binds K fd ["self", "points"] []) (T : Txt K mg aE C) (c_built_from : C8.Cal P w K mg base 12 "built_from" (spBuilt (K := K) TT 6) []) : C8.Met P w K mg base 13 C "make" (spMake C TT) [] := by
  refine C8.met0 T.cl me F b sc_Forest_make (fun vs H Q E h => ?_) (fun cdv A outer s H vs Q E hr h => ?_)
  · obtain ⟨x, a, dx, pa, ka, ks, pl, tot, xs, ps, rfl, _⟩ := h
    rfl
  · obtain ⟨x, a, dx, pa, ka, ks, pl, tot, xs, ps, rfl, hf, ha, hps, hnd, hlen, tabs, k⟩ := h
    have nd := sc_Forest_make.nd
    refine ⟨_, (pss_cons (ps_fld (pv 0) (pe_dcT (own := [("point", 5)]) rfl nd (hu_of hr) (pi_list (pv 1)) (blkOk_by (own := [("point", 5)]) (N := N_Forest_make) (sc := (C8.fnScope s_Forest_make)) (by decide +kernel)) (fun _ _ _ _ _ => (pg_name (i := 5) nd rfl (Or.inl rfl))) (fun _ _ _ _ _ => L2.pts_nil) (fun _ _ _ _ _ => (pv 5)) (fun _ _ _ _ _ => pe_bl)) rfl)
  (pss_cons (ps_par (i := 3) (j := 4) rfl nd rfl rfl (by decide) rfl rfl (pa_cons (pe_callB call_len_seq (by rfl) T.nlen (by decide +kernel) (pa_cons (pv 1) pa_nil)) (pa_cons pe_int pa_nil)) (by rfl))
  (pss_cons (ps_fld (pv 0) (pe_op op_rep (pe_lst (pa_cons pe_non pa_nil)) (pe_bits (pv 3))) rfl)
  (pss_one (ps_for PassesOwn.never rfl (pi_range3 (by rfl) T.nrange (pa_cons (pe_op op_sub (pe_callB call_len_seq (by rfl) T.nlen (by decide +kernel) (pa_cons (pe_fld (pv 0) rfl) pa_nil)) pe_int) (pa_cons (pe_un un_neg pe_int) (pa_cons (pe_un un_neg pe_int) pa_nil)))) (pg_name (i := 2) nd rfl (Or.inl rfl)) (pss_one (ps_if (pt_cmpR op_eq (pe_op op_odd (pe_op op_shrN (pv 3) (pv 2)) pe_int) pe_int (nomark _)) (pss_cons (ps_asg (C8.pe_c c_built_from hr (by decide) (by rfl) (pa_cons (pe_slice sl_list (pv 1) (po_some (pv 4)) (po_some (pe_op op_add (pv 4) (pe_op op_shl pe_int (pv 2))))) (pa_cons pe_int pa_nil))) (pg_sub (pe_fld (pv 0) rfl) (pv 2) set_list))
  (pss_one (ps_aug (i := 4) nd rfl (Or.inl rfl) (pe_op op_shl pe_int (pv 2)) ip_add))) pss_nil))))))), ?_⟩
    have hxl := hps.len
    repeat walk_at "w"
    refine w_dcI ?_
    repeat walk_at "w"
    refine ⟨a, rfl, ⟨_, SqL.of ha⟩, fun kd hkd => ?_⟩
    refine w_dc (L2.walk_list (xs := xs)) (fun i H' => Gr TT NoS H H' ∧ H' kd = some (.dT (kn (fresh (ps.take i)))) ∧ i ≤ xs.length) ⟨.new hkd, upd_same, Nat.zero_le _⟩ (fun i H' _ z => SqL.of (z.1.keepL0 ha)) ?_ ?_
    · rintro i y H1 H2 hi ⟨g1, h1, _⟩ ⟨rfl, hy⟩
      obtain ⟨p, hp, hyp⟩ := Al.get hps hy
      obtain ⟨pd, rfl, hpd⟩ := hyp.gr g1
      have hpi := (List.getElem?_eq_some_iff.mp hp).1
      have hno : p ∉ keys (fresh (ps.take i)) := by
        rw [keys_fresh]
        intro z
        obtain ⟨j, hj⟩ := List.mem_iff_getElem?.mp z
        rw [List.getElem?_take] at hj
        split at hj
        · have := (List.getElem?_inj hpi hnd).mp (hp.trans hj.symm)
          omega
        · cases hj
      refine w_gname ⟨rfl, w_yes (w_T ?_)⟩
      repeat walk_at "w"
      have e1 : ps.take (i + 1) = ps.take i ++ [p] := by
        rw [List.take_add_one, hp]
        rfl
      refine ⟨_, keyL p, pd, rfl, h1, hpd, sz100' (by rw [kn_len]; unfold fresh; rw [List.length_map, List.length_take]; omega), g1.mut' hkd h1 plain_dT, ?_, hi⟩
      rw [upd_same, putK_kn, putB_new hno, e1]
      unfold fresh
      rw [List.map_append]
      rfl
    · rintro H1 ⟨g1, h1, _⟩
      rw [hxl, List.take_of_length_le (Nat.le_refl _)] at h1
      have hf1 := hf.gr0 g1
      repeat walk_at "w"
      refine ⟨x, C, dx, _, rfl, hf1.ob, T.cl, T.nknown, Nat.lt_of_sub_eq_succ rfl, ?_⟩
      generalize e2 : upd H1 x _ = H2
      have g2 : Gr TT (fun b => b = x) H1 H2 := by rw [← e2]; exact Gr.mut hf1.ob plain_ins rfl
      have hx2 : H2 x = some (.ins C dx [("places", .ref pa), ("known", .ref kd), ("total", .int tot)]) := by rw [← e2]; exact upd_same
      clear e2
      have xkd : kd ≠ x := (ne_of_none hf.ob hkd).symm
      have ax : a ≠ x := ne_of ha hf.ob (fun z => by cases z)
      have hk2 := g2.at_ h1 xkd plain_dT.1
      have ha2 := g2.keepL (g1.keepL0 ha) ax
      repeat walk_at "w"
      refine ⟨a, xs, rfl, .inl (SqL.of ha2), ?_⟩
      rw [hxl]
      repeat walk_at "w"
      refine ⟨sz100 (Nat.le_of_ble_eq_true rfl), fun nl hpnl => ?_⟩; generalize eH3 : upd H2 nl _ = H3; obtain ⟨g3, h3⟩ := new_facts TT hpnl eH3; clear eH3
      repeat walk_at "w"
      refine ⟨_, rfl, ?_⟩
      obtain ⟨b1, b2, b3⟩ := bl_facts ps.length (by omega)
      show rRep (.ref nl) (.int ((bl ps.length : Nat) : Int)) H3 _
      generalize hL : bl ps.length = L at b1 b2 b3 ⊢
      refine ⟨nl, _, [.non], rfl, rfl, h3, by omega, by omega, sz100 (by rw [Int.toNat_natCast]; show 1 * L ≤ _; omega), ?_⟩
      intro np hpnp; generalize eH4 : upd H3 np _ = H4; obtain ⟨g4, h4⟩ := new_facts TT hpnp eH4; clear eH4
      have e4 : (List.replicate ((L : Nat) : Int).toNat [V.non]).flatten = List.replicate L .non := by
        rw [Int.toNat_natCast]
        exact List.flatten_replicate_singleton
      rw [e4] at h4
      have hx4 := (g3.trans g4).at_ hx2 (fun z => z) plain_ins.1
      repeat walk_at "w"
      refine ⟨x, C, dx, _, rfl, hx4, T.cl, T.nplaces, Nat.lt_of_sub_eq_succ rfl, ?_⟩
      generalize e5 : upd H4 x _ = H5
      have g5 : Gr TT (fun b => b = x) H4 H5 := by rw [← e5]; exact Gr.mut hx4 plain_ins rfl
      have hx5 : H5 x = some (.ins C dx [("places", .ref np), ("known", .ref kd), ("total", .int tot)]) := by rw [← e5]; exact upd_same
      clear e5
      have np0 : H np = none := g1.fr _ (g2.fr _ (g3.fr _ hpnp))
      have xnp : np ≠ x := (ne_of_none hf.ob np0).symm
      have anp : a ≠ np := ne_of_none ha np0
      have knp : kd ≠ np := ne_of_none ((g3.at_ hk2 (fun z => z) plain_dT.1)) hpnp
      have h45 := g5.keepL h4 xnp
      have hk5 := g5.at_ ((g3.trans g4).at_ hk2 (fun z => z) plain_dT.1) xkd plain_dT.1
      have ha5 := g5.keepL ((g3.trans g4).keepL0 ha2) ax
      have G5 : Gr TT (fun b => b = x) H H5 := g1.of0.trans (g2.trans ((g3.trans g4).of0.trans g5))
      repeat walk_at "w"
      with_reducible refine w_forI ?_
      refine w_iRng3 ?_
      repeat walk_at "w"
      refine ⟨x, C, dx, _, .ref np, rfl, hx5, T.cl, T.nplaces, rfl, ?_⟩
      repeat walk_at "w"
      refine ⟨np, _, rfl, .inl (SqL.of h45), ?_⟩
      rw [List.length_replicate]
      repeat walk_at "w"
      refine ⟨_, _, _, L, rfl, ?_, ?_⟩
      · have z := RgC.neg (i := (L : Int) - 1) (j := -1) (by omega) (by omega) (by omega) (by omega)
        rw [show ((L : Int) - 1 - -1).toNat = L by omega] at z
        exact z
      have hz0 : TrsV H5 (List.replicate L .non) (List.replicate L .nil) := by
        clear h45 h4 e4 b1 b2 b3 hL
        induction L with
        | zero => exact .nil
        | succ L ih => exact .cons rfl ih
      have hf5 : FoV C H5 x dx np kd (fresh ps) (List.replicate L .nil) tot := ⟨hx5, ⟨_, h45, hz0⟩, hk5⟩
      have beg : ∀ i, i < L → (ps.length / 2 ^ (L - 1 - i)) * 2 ^ (L - 1 - i) = (ps.length / 2 ^ (L - i)) * 2 ^ (L - i) + ((ps.length / 2 ^ (L - 1 - i)) % 2) * 2 ^ (L - 1 - i) := by
        intro i hi
        have e1 : L - i = (L - 1 - i) + 1 := by omega
        rw [e1, Nat.pow_succ, ← Nat.div_div_eq_div_mul]
        generalize ps.length / 2 ^ (L - 1 - i) = m
        generalize 2 ^ (L - 1 - i) = q
        have := Nat.div_add_mod m 2
        have e2 : m * q = (2 * (m / 2) + m % 2) * q := by rw [this]
        rw [e2, Nat.add_mul, Nat.mul_comm q 2, ← Nat.mul_assoc, Nat.mul_comm (m / 2) 2]
      have begle : ∀ k, (ps.length / 2 ^ k) * 2 ^ k ≤ ps.length := fun k => Nat.div_mul_le_self _ _
      refine for_rangeC (n := L) (fun i σ' H' => ∃ (v2 v5 : Option V) (hi : List Tree), σ' = [some (.ref x), some (.ref a), v2, some (.int (ps.length : Nat)), some (.int (((ps.length / 2 ^ (L - i)) * 2 ^ (L - i) : Nat))), v5] ∧ Gr TT (fun b => b = x) H H' ∧ H' a = some (.lst xs) ∧
          FoV C H' x dx np kd (fresh ps) (List.replicate (L - i) .nil ++ hi) tot ∧ Rep (L - i) hi (ps.take ((ps.length / 2 ^ (L - i)) * 2 ^ (L - i))) ∧ Top hi ∧ (hi = [] → i = 0) ∧ i ≤ L)
        ⟨none, none, [], ?_, G5, ha5, by rw [List.append_nil]; exact hf5, ?_, trivial, fun _ => rfl, Nat.zero_le _⟩ ?_ ?_
      · rw [Nat.sub_zero, Nat.div_eq_of_lt b1, Nat.zero_mul]
        rfl
      · rw [Nat.sub_zero, Nat.div_eq_of_lt b1, Nat.zero_mul]
        exact List.take_zero
      · rintro i σ' H' hi ⟨v2, v5, hs, rfl, g, ha', hf', hrep, htop, hnil, _⟩
        have ev : ((L : Int) - 1) + (i : Nat) * (-1) = ((L - 1 - i : Nat) : Int) := by omega
        rw [ev]
        have e1 : L - i = (L - 1 - i) + 1 := by omega
        have e6 : L - (i + 1) = L - 1 - i := by omega
        refine w_gname ?_
        repeat walk_at "w"
        refine ⟨_, L - 1 - i, rfl, rfl, ?_⟩
        repeat walk_at "w"
        refine ⟨ps.length / 2 ^ (L - 1 - i), ?_, rfl, ?_⟩
        · rw [Int.natCast_ediv, Int.natCast_pow]
          rfl
        repeat walk_at "w"
        refine ⟨rfl, ?_⟩
        repeat walk_at "w"
        have hb := beg i hi
        obtain ⟨zs, hzs, hzt⟩ := id hf'.ex
        have hzl := hzt.len
        rw [List.length_append, List.length_replicate] at hzl
        rcases Nat.mod_two_eq_zero_or_one (ps.length / 2 ^ (L - 1 - i)) with h01 | h01
        · rw [h01, Nat.zero_mul, Nat.add_zero] at hb
          rw [h01, show decide (V.int ((0 : Nat) : Int) = V.int 1) = false from rfl]
          repeat walk_at "w"
          have hne : hs ≠ [] := fun z => by
            have i0 := hnil z
            subst i0
            have b3 := b3 (by omega)
            have : ps.length / 2 ^ (L - 1) = 1 := by
              refine Nat.div_eq_of_lt_le (by omega) ?_
              have : 2 ^ L = 2 ^ (L - 1) * 2 := by rw [← Nat.pow_succ]; congr 1 <;> omega
              omega
            rw [Nat.sub_zero] at h01
            rw [this] at h01
            exact absurd h01 (by decide)
          refine ⟨_, _, .nil :: hs, by rw [e6, hb]; rfl, g, ha', ?_, ?_, Top.cons htop hne, fun z => (by cases z), by omega⟩
          · rw [e6]
            rw [e1, List.replicate_succ', List.append_assoc] at hf'
            exact hf'
          · rw [e6, hb]
            have hrep2 : Rep (L - 1 - i + 1) hs (ps.take (ps.length / 2 ^ (L - i) * 2 ^ (L - i))) := by rw [← e1]; exact hrep
            exact ⟨_, [], (List.append_nil _).symm, hrep2, .inl ⟨rfl, rfl⟩⟩
        · rw [h01, Nat.one_mul] at hb
          rw [h01, show decide (V.int ((1 : Nat) : Int) = V.int 1) = true from rfl]
          repeat walk_at "w"
          have hle := begle (L - 1 - i)
          have hbs : ((ps.drop ((ps.length / 2 ^ (L - i)) * 2 ^ (L - i))).take (2 ^ (L - 1 - i))).length = 2 ^ (L - 1 - i) := by
            rw [List.length_take, List.length_drop]
            omega
          have h32 : 2 ^ (L - 1 - i) ≤ 32 := Nat.pow_le_pow_right (n := 2) (by decide) (show L - 1 - i ≤ 5 by omega)
          have es : (1 : Int) * 2 ^ ((L - 1 - i : Nat) : Int).toNat = ((2 ^ (L - 1 - i) : Nat) : Int) := by rw [Int.toNat_natCast, Int.natCast_pow, Int.one_mul]; rfl
          refine ⟨_, rfl, ?_⟩
          repeat walk_at "w"
          refine w_I ⟨by omega, by omega, by decide⟩ ?_
          rw [es]
          repeat walk_at "w"
          refine ⟨_, rfl, ?_⟩
          refine w_rslL (SqL.of ha') ?_
          rw [show (((ps.length / 2 ^ (L - i) * 2 ^ (L - i) : Nat) : Int) + ((2 ^ (L - 1 - i) : Nat) : Int)) = ((ps.length / 2 ^ (L - i) * 2 ^ (L - i) + 2 ^ (L - 1 - i) : Nat) : Int) by omega, cut_mid _ _ (by omega), Nat.add_sub_cancel_left]
          intro bk hpbk; generalize eH6 : upd H' bk _ = H6; obtain ⟨g6, h6⟩ := new_facts TT hpbk eH6; clear eH6
          repeat walk_at "w"
          have hblk : PtsV H6 ((xs.drop (ps.length / 2 ^ (L - i) * 2 ^ (L - i))).take (2 ^ (L - 1 - i))) ((ps.drop (ps.length / 2 ^ (L - i) * 2 ^ (L - i))).take (2 ^ (L - 1 - i))) := Al.take _ (Al.drop _ (Al.imp hps fun _ _ z => (z.gr g).gr g6))
          generalize hB : (ps.drop (ps.length / 2 ^ (L - i) * 2 ^ (L - i))).take (2 ^ (L - 1 - i)) = B at hblk hbs
          refine ⟨bk, _, B, false, rfl, SqL.of h6, hblk, by rw [hbs]; show _ < 64; omega, by omega, g6.tb (g.tb tabs), fun bv H7 g7 hbv => ?_⟩
          have hf7 := (hf'.gr0 g6).gr0 g7
          have hzs7 := g7.keepL0 (g6.keepL0 hzs)
          repeat walk_at "w"
          refine ⟨x, C, dx, _, .ref np, rfl, hf7.ob, T.cl, T.nplaces, rfl, ?_⟩
          repeat walk_at "w"
          refine w_rset hzs7 (by omega) ?_
          have lp : Gr TT (fun b => b = np) H7 (upd H7 np (.lst (zs.set (L - 1 - i) bv))) := Gr.lst hzs7
          have gp : Gr TT (fun b => b = x) H (upd H7 np (.lst (zs.set (L - 1 - i) bv))) := (g.trans (g6.of0.trans g7.of0)).lst' np0 hzs7
          have hfp : FoV C (upd H7 np (.lst (zs.set (L - 1 - i) bv))) x dx np kd (fresh ps) (List.replicate (L - 1 - i) .nil ++ bt6 B :: hs) tot := by
            refine hf7.setPl ?_
            have z : TrsV (upd H7 np (.lst (zs.set (L - 1 - i) bv))) (zs.set (L - 1 - i) bv) ((List.replicate (L - i) Tree.nil ++ hs).set (L - 1 - i) (bt6 B)) := Al.set (R := TrV (upd H7 np (.lst (zs.set (L - 1 - i) bv)))) (x := bv) (y := bt6 B) (hbv.gr lp) _ (Al.imp hzt fun _ _ z => ((z.gr g6).gr g7).gr lp)
            rw [e1, List.replicate_succ', List.append_assoc, show ([Tree.nil] ++ hs) = Tree.nil :: hs from rfl, set_mid2] at z
            exact z
          have hap := lp.keepL ((g7.keepL0 (g6.keepL0 ha'))) anp
          generalize upd H7 np (.lst (zs.set (L - 1 - i) bv)) = H8 at lp gp hfp hap ⊢
          repeat walk_at "w"
          refine w_I ⟨by omega, by omega, by decide⟩ ?_
          rw [es]
          repeat walk_at "w"
          have hB0 : B ≠ [] := ne_of_len hbs
          have hbt : bt6 B ≠ .nil := bt6_ne hB0
          have hrep2 : Rep (L - 1 - i + 1) hs (ps.take (ps.length / 2 ^ (L - i) * 2 ^ (L - i))) := by rw [← e1]; exact hrep
          refine ⟨some (.int (L - 1 - i : Nat)), v5, bt6 B :: hs, ?_, gp, hap, ?_, ?_, ?_, fun z => (by cases z), by omega⟩
          · rw [e6, hb]
            rfl
          · rw [e6]
            exact hfp
          · rw [e6, hb]
            refine ⟨_, B, ?_, hrep2, .inr ⟨hbt, hbs, B, .refl _, rfl⟩⟩
            rw [← hB, List.take_add]
          · cases hs with
            | nil => exact hbt
            | cons t r => exact htop
      · rintro σ' H' ⟨v2, v5, hs, rfl, g, ha', hf', hrep, htop, _, _⟩
        rw [Nat.sub_self, Nat.pow_zero, Nat.div_one, Nat.mul_one, List.take_of_length_le (Nat.le_refl _)] at hrep
        rw [Nat.sub_self] at hf'
        exact k H' np kd hs g hf' hrep htop np0 hkd
def spTake (C : Addr) (TT : List (Addr × Str)) : Sp := fun vs H Q _ => ∃ x v p dx pa ka ks pl tot, vs = [.ref x, v] ∧ FoV C H x dx pa ka ks pl tot ∧ PtV H v p ∧ PtOk p ∧ (p, true) ∈ ks ∧ (keys ks).Nodup ∧ ks.length ≤ 40 ∧ Tabs TT H ∧
  (2 * (gone (putB ks p false)).length ≤ (putB ks p false).length → ∀ H', Gr TT (FS x pa ka) H H' → FoV C H' x dx pa ka (putB ks p false) pl tot → Q (.int 0) H') ∧
  (¬ 2 * (gone (putB ks p false)).length ≤ (putB ks p false).length → ∀ H' pa' ka' pl', Gr TT (FS x pa ka) H H' → FoV C H' x dx pa' ka' (fresh (srt false (alive (putB ks p false)))) pl' (tot + (alive (putB ks p false)).length) → Rep 0 pl' (srt false (alive (putB ks p false))) → Top pl' → H pa' = none → H ka' = none → Q (.int (alive (putB ks p false)).length) H')
abbrev s_Forest_take : Stmt := inClass (topS 50) 3
abbrev N_Forest_take : List Str := ["self", "point", "left"]
theorem sc_Forest_take : FnScope N_Forest_take ["self", "point"] (C8.fnScope s_Forest_take) := ⟨rfl, rfl, rfl, by decide +kernel, rfl, by decide +kernel, by decide +kernel⟩
theorem met_take {TT : List (Addr × Str)} {f : Addr} {fd : FuncData} (me : Meth K C "take" f) (F : C8.Fun K "take" "Forest.take" s_Forest_take f fd) (b : Binds K fd ["self", "point"] []) (T : Txt K mg aE C) (c_require_point : C8.Cal P w K mg base 5 "require_point" spReqPoint [])
    (m_gone : C8.Met P w K mg base 1 C "gone" (spGone C TT) []) (m_points : C8.Met P w K mg base 1 C "points" (spPoints C TT) []) (m_make : C8.Met P w K mg base 13 C "make" (spMake C TT) []) : C8.Met P w K mg base 14 C "take" (spTake C TT) [] := by
  refine C8.met0 T.cl me F b sc_Forest_take (fun vs H Q E h => ?_) (fun cdv A outer s H vs Q E hr h => ?_)
  · obtain ⟨x, v, p, dx, pa, ka, ks, pl, tot, rfl, _⟩ := h
    rfl
  · obtain ⟨x, v, p, dx, pa, ka, ks, pl, tot, rfl, hf, hp, hok, hin, hnd, hlen, tabs, k0, k1⟩ := h
    have nd := sc_Forest_take.nd
    refine ⟨_, (pss_cons (ps_expr (C8.pe_c c_require_point hr (by decide) (by rfl) (pa_cons (pv 1) pa_nil)))
  (pss_cons (ps_if (pt_not (pt_val (pe_dget2 (hu_of hr) (pe_fld (pv 0) rfl) (pv 1) pe_bl ⟨by rfl, by rfl, by rfl, by rfl⟩))) (pss_one ps_never) pss_nil)
  (pss_cons (ps_dput (hu_of hr) (pe_fld (pv 0) rfl) (pv 1) pe_bl rfl)
  (pss_cons (ps_if (pt_cmpR op_le (pe_op op_mul pe_int (pe_callB call_len_seq (by rfl) T.nlen (by decide +kernel) (pa_cons (C8.pe_mt0 m_gone hr (by decide) (pv 0)) pa_nil))) (pe_callB call_len_dT (by rfl) T.nlen (by decide +kernel) (pa_cons (pe_fld (pv 0) rfl) pa_nil)) (nomark _)) (pss_one (ps_ret pe_int)) pss_nil)
  (pss_cons (ps_set (i := 2) nd rfl (Or.inl rfl) (C8.pe_mt0 m_points hr (by decide) (pv 0)))
  (pss_cons (ps_expr (C8.pe_mt m_make hr (by decide) (pv 0) (pa_cons (pv 2) pa_nil)))
  (pss_cons (ps_fldaug (pv 0) (pe_callB call_len_seq (by rfl) T.nlen (by decide +kernel) (pa_cons (pv 2) pa_nil)) in_add)
  (pss_one (ps_ret (pe_callB call_len_seq (by rfl) T.nlen (by decide +kernel) (pa_cons (pv 2) pa_nil))))))))))), ?_⟩
    obtain ⟨pd, rfl, hpd⟩ := id hp
    have hkm : p ∈ keys ks := List.mem_map.mpr ⟨_, hin, rfl⟩
    have hk1 : keys (putB ks p false) = keys ks := keys_old hkm
    have hl1 : (putB ks p false).length = ks.length := by rw [← keys_len, hk1, keys_len]
    have nd1 : (keys (putB ks p false)).Nodup := by rw [hk1]; exact hnd
    repeat walk_at "w"
    refine ⟨_, p, rfl, hp, hok, ?_⟩
    repeat walk_at "w"
    refine ⟨x, C, dx, _, .ref ka, rfl, hf.ob, T.cl, T.nknown, rfl, ka, rfl, .inr ⟨_, .inl hf.kn⟩, ?_⟩
    repeat walk_at "w"
    refine ⟨_, DGet.t (k := keyL p) hf.kn hpd, ?_⟩
    rw [valV_kn, getB_of hnd hin]
    refine ⟨true, rfl, ?_⟩
    repeat walk_at "w"
    refine ⟨x, C, dx, _, .ref ka, rfl, hf.ob, T.cl, T.nknown, rfl, ?_⟩
    repeat walk_at "w"
    refine ⟨ka, _, rfl, DPut.t (k := keyL p) hf.kn hpd (sz100' (by rw [kn_len]; omega)), ?_⟩
    rw [putK_kn]
    have hf1 := hf.setKn TT (ks' := putB ks p false)
    have g1 : Gr TT (FS x pa ka) H (upd H ka (.dT (kn (putB ks p false)))) := Gr.mut hf.kn plain_dT (.inr (.inr rfl))
    generalize upd H ka (.dT (kn (putB ks p false))) = H1 at hf1 g1 ⊢
    generalize putB ks p false = ks1 at *
    repeat walk_at "w"
    refine ⟨x, dx, _, rfl, hf1.ob, rfl, ?_⟩
    repeat walk_at "w"
    refine ⟨x, dx, pa, ka, ks1, pl, tot, rfl, hf1, nd1, by omega, fun l zs H2 g2 _ hl hz => ?_⟩
    have hzl := hz.len
    rw [srt_len] at hzl
    have hf2 := hf1.gr0 g2
    repeat walk_at "w"
    refine ⟨l, zs, rfl, .inl (SqL.of hl), ?_⟩
    rw [hzl]
    refine w_I (.inl ⟨by decide, by decide⟩) ?_
    repeat walk_at "w"
    refine ⟨x, C, dx, _, .ref ka, rfl, hf2.ob, T.cl, T.nknown, rfl, ?_⟩
    repeat walk_at "w"
    refine ⟨ka, _, rfl, hf2.kn, ?_⟩
    rw [kn_len]
    repeat walk_at "w"
    refine w_dec (fun c0 => ?_) (fun c0 => ?_)
    · repeat walk_at "w"
      exact k0 (by omega) _ (g1.trans g2.of0) hf2
    · repeat walk_at "w"
      refine ⟨x, dx, _, rfl, hf2.ob, rfl, ?_⟩
      repeat walk_at "w"
      refine ⟨x, dx, pa, ka, ks1, pl, tot, rfl, hf2, nd1, by omega, fun l2 ys H3 g3 hl20 hl2 hy => ?_⟩
      have hyl := hy.len
      rw [srt_len] at hyl
      have hal := (alive_sub ks1).length_le
      rw [keys_len] at hal
      have hf3 := hf2.gr0 g3
      repeat walk_at "w"
      refine ⟨x, dx, _, rfl, hf3.ob, rfl, ?_⟩
      repeat walk_at "w"
      refine ⟨x, l2, dx, pa, ka, ks1, pl, tot, ys, _, rfl, hf3, hl2, hy, srt_nodup (alive_nodup nd1), by rw [srt_len]; omega, g3.tb (g2.tb (g1.tb tabs)), fun H4 pa' ka' pl' g4 hf4 hrep htop np0 nk0 => ?_⟩
      have G3 := g1.trans (g2.of0.trans g3.of0)
      have lx : l2 ≠ x := fun z => by rw [z] at hl2; rw [hf3.ob] at hl2; cases hl2
      have hl24 := g4.keepL hl2 lx
      repeat walk_at "w"
      refine ⟨x, C, dx, _, .int tot, rfl, hf4.ob, T.cl, T.ntotal, rfl, ?_⟩
      repeat walk_at "w"
      refine ⟨l2, ys, rfl, .inl (SqL.of hl24), ?_⟩
      refine ⟨_, _, rfl, rfl, dx, _, hf4.ob, Nat.lt_of_sub_eq_succ rfl, ?_⟩
      have hft := hf4.setTot TT (t' := tot + (ys.length : Nat))
      have gt : Gr TT (FS x pa ka) H (upd H4 x (.ins C dx (putF "total" (.int (tot + (ys.length : Nat))) [("places", .ref pa'), ("known", .ref ka'), ("total", .int tot)]))) := (G3.trans (g4.up fun b e => .inl e)).trans (Gr.mut hf4.ob plain_ins (.inl rfl))
      have hlt : upd H4 x (.ins C dx (putF "total" (.int (tot + (ys.length : Nat))) [("places", .ref pa'), ("known", .ref ka'), ("total", .int tot)])) l2 = some (.lst ys) := by rw [upd_ne lx]; exact hl24
      generalize upd H4 x (.ins C dx (putF "total" (.int (tot + (ys.length : Nat))) [("places", .ref pa'), ("known", .ref ka'), ("total", .int tot)])) = H5 at hft gt hlt ⊢
      repeat walk_at "w"
      refine ⟨l2, ys, rfl, .inl (SqL.of hlt), ?_⟩
      rw [hyl] at hft ⊢
      exact k1 (by omega) _ pa' ka' pl' gt hft hrep htop (G3.fr _ np0) (G3.fr _ nk0)
end
end Wd
end
section
/-! Forests: what is found, counted. -/
namespace Wd
open PySem PySem.Spec PyProof.Rows L2 LamX
local macro_rules | `(tactic| walk_at "w") => `(tactic| first
  | with_reducible refine w_var (by with_unfolding_all rfl) ?_
  | with_reducible refine w_aug (by with_unfolding_all rfl) ?_
  | with_reducible refine w_op ?_
  | with_reducible refine w_c ?_
  | with_reducible refine w_I0 ?_
  | with_reducible refine w_cons ?_
  | with_reducible refine w_nil ?_
  | with_reducible refine w_call ?_
  | with_reducible refine w_cb ?_
  | with_reducible refine w_seq ?_
  | with_reducible refine w_ret ?_
  | with_reducible refine w_set ?_
  | with_reducible refine w_if ?_
  | with_reducible refine w_test ?_
  | with_reducible refine w_B ?_
  | with_reducible refine w_k ?_
  | with_reducible refine w_and ?_
  | with_reducible refine w_or ?_
  | with_reducible refine w_not ?_
  | with_reducible refine w_andV ?_
  | with_reducible refine w_orV ?_
  | with_reducible refine w_notV ?_
  | with_reducible refine w_ifE ?_
  | with_reducible refine w_chain ?_
  | with_reducible refine w_un ?_
  | with_reducible refine w_U ?_
  | with_reducible refine w_isN ?_
  | with_reducible refine w_notN ?_
  | with_reducible refine w_T ?_
  | with_reducible refine w_F ?_
  | with_reducible refine w_next ?_
  | with_reducible refine w_drop ?_
  | with_reducible refine w_par2 ?_
  | with_reducible refine w_par3 ?_
  | with_reducible refine w_tup ?_
  | with_reducible refine w_lst ?_
  | with_reducible refine w_bm ?_
  | with_reducible refine w_bm0 ?_
  | with_reducible refine w_gname ?_
  | with_reducible refine w_gcons ?_
  | with_reducible refine w_lcI ?_
  | with_reducible refine w_lc2I ?_
  | with_reducible refine w_iTup ?_
  | with_reducible refine w_iList ?_
  | with_reducible refine w_yes ?_
  | with_reducible refine w_din ?_
  | with_reducible refine w_dput ?_
  | with_reducible refine w_dget2 ?_
  | with_reducible refine w_iEnum ?_
  | with_reducible refine w_sl ?_
  | with_reducible refine w_noP ?_
  | with_reducible refine w_part ?_
  | with_reducible refine w_asg ?_
  | with_reducible refine w_ip ?_
  | with_reducible refine w_cont ?_
  | with_reducible refine w_callD ?_
  | with_reducible refine w_thru ?_
  | with_reducible refine w_star ?_
  | with_reducible refine w_bits ?_
  | with_reducible refine w_revL ?_
  | with_reducible refine w_fld ?_
  | with_reducible refine w_dget ?_
  | with_reducible refine w_keys ?_
  | with_reducible refine w_gsub ?_
  | with_reducible refine w_fldaug ?_
  | with_reducible refine w_sfld ?_
  | with_reducible refine w_meth ?_
  | with_reducible refine w_make ?_
  | with_reducible refine w_ite (by with_unfolding_all rfl) ?_ | with_reducible refine w_itf (by with_unfolding_all rfl) ?_)
theorem fnd_sub (rc : Rect) : ∀ (t : Tree) (ax : Bool), ∀ q ∈ fnd rc ax t, q ∈ rd t
  | .nil, _, q, h => by cases h
  | .node p a b, ax, q, h => by
    have h : q ∈ (if hold rc p then [p] else []) ++ ((if mLow rc ax (kx ax p) then fnd rc (!ax) a else []) ++ (if mHigh rc ax (kx ax p) then fnd rc (!ax) b else [])) := h
    show q ∈ p :: (rd a ++ rd b)
    rcases List.mem_append.mp h with h | h
    · split at h
      · rw [List.mem_singleton.mp h]
        exact List.mem_cons_self ..
      · cases h
    · rcases List.mem_append.mp h with h | h
      · split at h
        · exact List.mem_cons_of_mem _ (List.mem_append_left _ (fnd_sub rc a _ q h))
        · cases h
      · split at h
        · exact List.mem_cons_of_mem _ (List.mem_append_right _ (fnd_sub rc b _ q h))
        · cases h
theorem fnd_len (rc : Rect) : ∀ (t : Tree) (ax : Bool), (fnd rc ax t).length ≤ (rd t).length
  | .nil, _ => Nat.le_refl _
  | .node p a b, ax => by
    have h1 := fnd_len rc a (!ax)
    have h2 := fnd_len rc b (!ax)
    show ((if hold rc p then [p] else []) ++ ((if mLow rc ax (kx ax p) then fnd rc (!ax) a else []) ++ (if mHigh rc ax (kx ax p) then fnd rc (!ax) b else []))).length ≤ (p :: (rd a ++ rd b)).length
    rw [List.length_append, List.length_append, List.length_cons, List.length_append]
    split <;> split <;> split <;> simp only [List.length_nil, List.length_singleton] <;> omega
def isAlive (ks : Kn) (p : Pt) : Bool := getB ks p == some true
/-- found in all trees, those that are there -/
def fndF (rc : Rect) (ks : Kn) (pl : List Tree) : List Pt := pl.flatMap fun t => (fnd rc false t).filter (isAlive ks)
def visF (rc : Rect) (pl : List Tree) : List Pt := pl.flatMap fun t => vis rc false t
theorem pts_take (pl : List Tree) (i : Nat) : (pts (pl.take i)).length ≤ (pts pl).length := by
  conv => rhs; rw [← List.take_append_drop i pl]
  unfold pts
  rw [List.flatMap_append, List.length_append]
  omega
theorem fndF_le (rc : Rect) (ks : Kn) : ∀ pl : List Tree, (fndF rc ks pl).length ≤ (pts pl).length
  | [] => Nat.le_refl _
  | t :: r => by
    have h1 := fndF_le rc ks r
    have h2 := fnd_len rc t false
    have h3 := List.length_filter_le (isAlive ks) (fnd rc false t)
    show ((fnd rc false t).filter (isAlive ks) ++ fndF rc ks r).length ≤ (rd t ++ pts r).length
    rw [List.length_append, List.length_append]
    omega
theorem visF_le (rc : Rect) : ∀ pl : List Tree, (visF rc pl).length ≤ (pts pl).length
  | [] => Nat.le_refl _
  | t :: r => by
    have h1 := visF_le rc r
    have h2 := vis_len (r := rc) (t := t) (ax := false)
    show (vis rc false t ++ visF rc r).length ≤ (rd t ++ pts r).length
    rw [List.length_append, List.length_append]
    omega
theorem fndF_len (rc : Rect) (ks : Kn) (pl : List Tree) (i : Nat) : (fndF rc ks (pl.take i)).length ≤ (pts pl).length := Nat.le_trans (fndF_le rc ks _) (pts_take pl i)
theorem visF_len (rc : Rect) (pl : List Tree) (i : Nat) : (visF rc (pl.take i)).length ≤ (pts pl).length := Nat.le_trans (visF_le rc _) (pts_take pl i)
section
variable {P : Program} {w : World} {K : PySem.W.Frag} {mg : Str → Option Value} {base : Heap} {aE C : Addr}
def spRanged (C : Addr) (TT : List (Addr × Str)) : Sp := fun vs H Q _ => ∃ x dx pa ka ks pl tot ra rc, vs = [.ref x, .ref ra] ∧ FoV C H x dx pa ka ks pl tot ∧ H ra = some (.tup (rcL rc)) ∧ RcOk rc ∧ (∀ p ∈ pts pl, p ∈ keys ks) ∧ (pts pl).length ≤ 60 ∧
  ∀ a fl vl fs es H', Gr TT NoS H H' → H' a = some (.tup [.ref fl, .ref vl]) → H fl = none → H' fl = some (.lst fs) → PtsV H' fs (fndF rc ks pl) → H vl = none → H' vl = some (.lst es) → PtsV H' es (visF rc pl) → Q (.ref a) H'
abbrev s_Forest_ranged : Stmt := inClass (topS 50) 9
abbrev N_Forest_ranged : List Str := ["self", "rectangle", "tree", "found", "visited", "inside", "seen", "point"]
theorem sc_Forest_ranged : FnScope N_Forest_ranged ["self", "rectangle"] (C8.fnScope s_Forest_ranged) := ⟨rfl, rfl, rfl, by decide +kernel, rfl, by decide +kernel, by decide +kernel⟩
theorem met_ranged {TT : List (Addr × Str)} {f : Addr} {fd : FuncData} (me : Meth K C "ranged" f) (F : C8.Fun K "ranged" "Forest.ranged" s_Forest_ranged f fd) (b : Binds K fd ["self", "rectangle"] []) (T : Txt K mg aE C) (c_require_rectangle : C8.Cal P w K mg base 5 "require_rectangle" (spReqRect TT) [])
    (c_found_in : C8.Cal P w K mg base 3 "found_in" (spFound (K := K) TT) []) : C8.Met P w K mg base 6 C "ranged" (spRanged C TT) [] := by
  refine C8.met0 T.cl me F b sc_Forest_ranged (fun vs H Q E h => ?_) (fun cdv A outer s H vs Q E hr h => ?_)
  · obtain ⟨x, dx, pa, ka, ks, pl, tot, ra, rc, rfl, _⟩ := h
    rfl
  · obtain ⟨x, dx, pa, ka, ks, pl, tot, ra, rc, rfl, hf, hra, hrok, hkey, hlen, k⟩ := h
    have nd := sc_Forest_ranged.nd
    refine ⟨_, (pss_cons (ps_expr (C8.pe_c c_require_rectangle hr (by decide) (by rfl) (pa_cons (pv 1) pa_nil)))
  (pss_cons (ps_par (i := 3) (j := 4) rfl nd rfl rfl (by decide) rfl rfl (pa_cons (pe_lst pa_nil) (pa_cons (pe_lst pa_nil) pa_nil)) (by rfl))
  (pss_cons (ps_for PassesOwn.never rfl (pi_list (pe_fld (pv 0) rfl)) (pg_name (i := 2) nd rfl (Or.inl rfl)) (pss_cons (ps_asg (C8.pe_c c_found_in hr (by decide) (by rfl) (pa_cons (pv 2) (pa_cons (pv 1) pa_nil))) (pg_tup rfl (pgs_cons (pg_name (i := 5) nd rfl (Or.inl rfl)) (pgs_cons (pg_name (i := 6) nd rfl (Or.inl rfl)) pgs_nil))))
  (pss_cons (ps_expr (pe_bm PySem.F.plainAttrs_list PySem.F.slot_list_extend PySem.F.type_list_extend mt_extend (pv 3) (pa_cons (pe_lc (own := [("point", 7)]) (tt := tB (tDGet (tFld K (tVar 0) "known") (tVar 7))) rfl nd (pi_list (pv 5)) (blkOk_by (own := [("point", 7)]) (N := N_Forest_ranged) (sc := (C8.fnScope s_Forest_ranged)) (by decide +kernel)) (fun _ _ _ _ _ => (pg_name (i := 7) nd rfl (Or.inl rfl))) (fun _ _ _ _ _ => (L2.pts_one (pt_val (pe_dget (hu_of hr) (pe_fld (pv 0) rfl) (pv 7) (fun _ _ => rfl))))) (fun _ _ _ _ _ => (pv 7))) pa_nil)))
  (pss_one (ps_expr (pe_bm PySem.F.plainAttrs_list PySem.F.slot_list_extend PySem.F.type_list_extend mt_extend (pv 4) (pa_cons (pv 6) pa_nil)))))))
  (pss_one (ps_ret (pe_tup (pa_cons (pv 3) (pa_cons (pv 4) pa_nil)))))))), ?_⟩
    repeat walk_at "w"
    refine ⟨ra, rc, rfl, hra, hrok, fun H1 g1 => ?_⟩
    repeat walk_at "w"
    refine ⟨sz100 (Nat.le_of_ble_eq_true rfl), fun fo hpfo => ?_⟩; generalize eH2 : upd H1 fo _ = H2; obtain ⟨g2, h2⟩ := new_facts TT hpfo eH2; clear eH2
    repeat walk_at "w"
    refine ⟨sz100 (Nat.le_of_ble_eq_true rfl), fun vi hpvi => ?_⟩; generalize eH3 : upd H2 vi _ = H3; obtain ⟨g3, h3⟩ := new_facts TT hpvi eH3; clear eH3
    repeat walk_at "w"
    have fv : fo ≠ vi := ne_of_none h2 hpvi
    have fo0 : H fo = none := g1.fr _ hpfo
    have vi0 : H vi = none := (g1.trans g2).fr _ hpvi
    have g13 := g1.trans (g2.trans g3)
    have hf3 := hf.gr0 g13
    with_reducible refine w_forI ?_
    repeat walk_at "w"
    refine ⟨x, C, dx, _, .ref pa, rfl, hf3.ob, T.cl, T.nplaces, rfl, ?_⟩
    obtain ⟨xs, hpa, hxs⟩ := hf.ex
    have hpa3 := g13.keepL0 hpa
    have hxl := hxs.len
    refine ⟨pa, rfl, ⟨_, SqL.of hpa3⟩, for_list (K := K) (a := pa) (xs := xs) (fun i σ' H' => ∃ (v2 v5 v6 v7 : Option V) (fs es : List V), σ' = [some (.ref x), some (.ref ra), v2, some (.ref fo), some (.ref vi), v5, v6, v7] ∧ Gr TT NoS H H' ∧ H' fo = some (.lst fs) ∧ PtsV H' fs (fndF rc ks (pl.take i)) ∧ H' vi = some (.lst es) ∧ PtsV H' es (visF rc (pl.take i)))
      ⟨_, _, _, _, [], [], rfl, g13, g3.keepL0 h2, by rw [List.take_zero]; exact .nil, h3, by rw [List.take_zero]; exact .nil⟩ (fun i σ' H' _ ⟨_, _, _, _, _, _, _, z, _⟩ => SqL.of (z.keepL0 hpa)) ?_ ?_⟩
    · rintro i y σ' H' hy ⟨v2, v5, v6, v7, fs, es, rfl, g, hfo, hfs, hvi, hes⟩
      obtain ⟨t, ht, hyt⟩ := Al.get hxs hy
      have htm := List.mem_of_getElem? ht
      have htsz := tsz_pts htm
      refine w_gname ?_
      repeat walk_at "w"
      refine ⟨y, t, ra, rc, rfl, hyt.gr g, by omega, SqT.of (g.tup hra), fun oa fl vl gs ws H4 g4 hoa hfl0 hfl hgs hvl0 hvl hws => ?_⟩
      refine w_gtup (SqT.of hoa) rfl (w_gcons (w_gname (w_gcons (w_gname (w_gnil ?_)))))
      have hfo4 := g4.keepL0 hfo
      have hvi4 := g4.keepL0 hvi
      repeat walk_at "w"
      refine ⟨w_tyL (SqL.of hfo4), ?_⟩
      repeat walk_at "w"
      refine ⟨fl, rfl, ⟨_, SqL.of hfl⟩, fun D hD => ?_⟩
      have hgl := hgs.len
      have fsub : ∀ q ∈ fnd rc false t, q ∈ rd t := fnd_sub rc t false
      have hb1 : (fnd rc false t).length ≤ (rd t).length := fnd_len rc t false
      have hb2 := vis_len (r := rc) (t := t) (ax := false)
      rw [tsz_rd] at hb1 hb2
      refine w_lc (L2.walk_list (xs := gs)) TT NoS hD (fun j acc H' => PtsV H' acc (((fnd rc false t).take j).filter (isAlive ks))) (by rw [List.take_zero]; exact .nil) (fun j acc H' _ g _ _ => SqL.of (g.keepL0 hfl)) ?_ ?_
      · rintro j q acc H5 H6 hj hal g5 hD5 hacc ⟨rfl, hq⟩
        obtain ⟨p, hp, hqp⟩ := Al.get hgs hq
        obtain ⟨ad, rfl, had⟩ := hqp.gr g5
        have hpk : p ∈ keys ks := hkey p (by
          unfold pts
          exact List.mem_flatMap.mpr ⟨t, htm, fsub p (List.mem_of_getElem? hp)⟩)
        have hf6 := hf.gr0 (g.trans (g4.trans g5))
        have hj100 : j < 100000 := by
          have : j < gs.length := hj
          omega
        have e2 : (fnd rc false t).take (j + 1) = (fnd rc false t).take j ++ [p] := by
          rw [List.take_add_one, hp]
          rfl
        have lD : Gr TT (fun b => b = D) H6 (upd H6 D (.lst (acc ++ [.ref ad]))) := Gr.lst hD5
        refine w_gname ⟨rfl, ?_⟩
        repeat walk_at "w"
        refine ⟨x, C, dx, _, .ref ka, rfl, hf6.ob, T.cl, T.nknown, rfl, ?_⟩
        repeat walk_at "w"
        obtain ⟨bb, hbb⟩ : ∃ bb, getB ks p = some bb := by
          cases e : getB ks p with
          | none => exact absurd hpk (getB_none.mp e)
          | some bb => exact ⟨bb, rfl⟩
        refine ⟨ka, .bl bb, rfl, .inr ⟨_, keyL p, ad, .inl hf6.kn, rfl, had, by rw [valV_kn, hbb]; rfl⟩, ?_⟩
        cases bb with
        | true =>
          repeat walk_at "w"
          refine lc_yes g5 hD hD5 hal hj100 ?_
          rw [e2, List.filter_append]
          refine Al.app (Al.imp hacc fun _ _ z => z.gr lD) ?_
          rw [show [p].filter (isAlive ks) = [p] by simp [isAlive, hbb]]
          exact .cons ⟨ad, rfl, lD.tup had⟩ .nil
        | false =>
          repeat walk_at "w"
          refine lc_no g5 hD5 hal ?_
          rw [e2, List.filter_append, show [p].filter (isAlive ks) = [] by simp [isAlive, hbb], List.append_nil]
          exact hacc
      · rintro acc H5 g5 hD5 hal hacc
        rw [hgl, List.take_of_length_le (Nat.le_refl _)] at hacc
        repeat walk_at "w"
        have hfsl := hfs.len
        have hesl := hes.len
        have bf := fndF_len rc ks pl i
        have bv := visF_len rc pl i
        refine w_rext (g5.keepL0 hfo4) hD5 (by omega) ?_
        generalize eH6 : upd H5 fo _ = H6; obtain ⟨gH6, lH6, hH6⟩ := lst_facts (TT := TT) (fo0) (g.trans (g4.trans g5)) (g5.keepL0 hfo4) eH6; clear eH6
        repeat walk_at "w"
        have hvi6 := lH6.keepL (g5.keepL0 hvi4) fv.symm
        refine ⟨w_tyL (SqL.of hvi6), ?_⟩
        repeat walk_at "w"
        have vlf : vl ≠ fo := fun z => by rw [z, hfo] at hvl0; cases hvl0
        have hvl6 := lH6.keepL (g5.keepL0 hvl) vlf
        have hwl := hws.len
        refine w_rext hvi6 hvl6 (by omega) ?_
        generalize eH7 : upd H6 vi _ = H7; obtain ⟨gH7, lH7, hH7⟩ := lst_facts (TT := TT) (vi0) (gH6) (hvi6) eH7; clear eH7
        have e2 : pl.take (i + 1) = pl.take i ++ [t] := by
          rw [List.take_add_one, ht]
          rfl
        refine ⟨_, _, _, _, _, _, rfl, gH7, lH7.keepL hH6 fv, ?_, hH7, ?_⟩
        · rw [e2]
          unfold fndF
          rw [List.flatMap_append, List.flatMap_singleton]
          exact Al.app (Al.imp hfs fun _ _ z => ((((z.gr g4).gr g5).gr lH6).gr lH7)) (Al.imp hacc fun _ _ z => (z.gr lH6).gr lH7)
        · rw [e2]
          unfold visF
          rw [List.flatMap_append, List.flatMap_singleton]
          exact Al.app (Al.imp hes fun _ _ z => ((((z.gr g4).gr g5).gr lH6).gr lH7)) (Al.imp hws fun _ _ z => (((z.gr g5).gr lH6).gr lH7))
    · rintro σ' H' ⟨v2, v5, v6, v7, fs, es, rfl, g, hfo, hfs, hvi, hes⟩
      rw [hxl, List.take_of_length_le (Nat.le_refl _)] at hfs hes
      repeat walk_at "w"
      refine ⟨sz100 (Nat.le_of_ble_eq_true rfl), fun out hpout => ?_⟩; generalize eH6 : upd H' out _ = H6; obtain ⟨g6, h6⟩ := new_facts TT hpout eH6; clear eH6
      exact k out fo vi fs es H6 (g.trans g6) h6 fo0 (g6.keepL0 hfo) (hfs.gr g6) vi0 (g6.keepL0 hvi) (hes.gr g6)
end
end Wd
end
section
/-! Forests: what is counted; costs. -/
namespace Wd
open PySem PySem.Spec PyProof.Rows L2 LamX
local macro_rules | `(tactic| walk_at "w") => `(tactic| first
  | with_reducible refine w_var (by with_unfolding_all rfl) ?_
  | with_reducible refine w_aug (by with_unfolding_all rfl) ?_
  | with_reducible refine w_op ?_
  | with_reducible refine w_c ?_
  | with_reducible refine w_I0 ?_
  | with_reducible refine w_cons ?_
  | with_reducible refine w_nil ?_
  | with_reducible refine w_call ?_
  | with_reducible refine w_cb ?_
  | with_reducible refine w_seq ?_
  | with_reducible refine w_ret ?_
  | with_reducible refine w_set ?_
  | with_reducible refine w_if ?_
  | with_reducible refine w_test ?_
  | with_reducible refine w_B ?_
  | with_reducible refine w_k ?_
  | with_reducible refine w_and ?_
  | with_reducible refine w_or ?_
  | with_reducible refine w_not ?_
  | with_reducible refine w_andV ?_
  | with_reducible refine w_orV ?_
  | with_reducible refine w_notV ?_
  | with_reducible refine w_ifE ?_
  | with_reducible refine w_chain ?_
  | with_reducible refine w_un ?_
  | with_reducible refine w_U ?_
  | with_reducible refine w_isN ?_
  | with_reducible refine w_notN ?_
  | with_reducible refine w_T ?_
  | with_reducible refine w_F ?_
  | with_reducible refine w_next ?_
  | with_reducible refine w_drop ?_
  | with_reducible refine w_par2 ?_
  | with_reducible refine w_par3 ?_
  | with_reducible refine w_tup ?_
  | with_reducible refine w_lst ?_
  | with_reducible refine w_bm ?_
  | with_reducible refine w_bm0 ?_
  | with_reducible refine w_gname ?_
  | with_reducible refine w_gcons ?_
  | with_reducible refine w_lcI ?_
  | with_reducible refine w_lc2I ?_
  | with_reducible refine w_iTup ?_
  | with_reducible refine w_iList ?_
  | with_reducible refine w_yes ?_
  | with_reducible refine w_din ?_
  | with_reducible refine w_dput ?_
  | with_reducible refine w_dget2 ?_
  | with_reducible refine w_iEnum ?_
  | with_reducible refine w_sl ?_
  | with_reducible refine w_noP ?_
  | with_reducible refine w_part ?_
  | with_reducible refine w_asg ?_
  | with_reducible refine w_ip ?_
  | with_reducible refine w_cont ?_
  | with_reducible refine w_callD ?_
  | with_reducible refine w_thru ?_
  | with_reducible refine w_star ?_
  | with_reducible refine w_bits ?_
  | with_reducible refine w_revL ?_
  | with_reducible refine w_fld ?_
  | with_reducible refine w_dget ?_
  | with_reducible refine w_keys ?_
  | with_reducible refine w_gsub ?_
  | with_reducible refine w_fldaug ?_
  | with_reducible refine w_sfld ?_
  | with_reducible refine w_meth ?_
  | with_reducible refine w_make ?_
  | with_reducible refine w_ite (by with_unfolding_all rfl) ?_ | with_reducible refine w_itf (by with_unfolding_all rfl) ?_)
def cntF (rc : Rect) (pl : List Tree) : Nat := (pl.map (cnt rc)).sum
section
variable {P : Program} {w : World} {K : PySem.W.Frag} {mg : Str → Option Value} {base : Heap} {aE C : Addr}
def spCounted (C : Addr) (TT : List (Addr × Str)) : Sp := fun vs H Q _ => ∃ x dx pa ka ks pl tot ra rc, vs = [.ref x, .ref ra] ∧ FoV C H x dx pa ka ks pl tot ∧ H ra = some (.tup (rcL rc)) ∧ RcOk rc ∧ (∀ t ∈ pl, Kd false t ∧ tok t) ∧ (pts pl).length ≤ 60 ∧ pl.length ≤ 50 ∧ (keys ks).Nodup ∧ ks.length ≤ 100 ∧
  ∀ a vl H', Gr TT NoS H H' → H' a = some (.tup [.int ((cntF rc pl : Nat) - (((gone ks).filter (hold rc)).length : Nat)), .ref vl]) → Q (.ref a) H'
abbrev s_Forest_counted : Stmt := inClass (topS 50) 10
abbrev N_Forest_counted : List Str := ["self", "rectangle", "tree", "many", "visited", "number", "seen", "point"]
theorem sc_Forest_counted : FnScope N_Forest_counted ["self", "rectangle"] (C8.fnScope s_Forest_counted) := ⟨rfl, rfl, rfl, by decide +kernel, rfl, by decide +kernel, by decide +kernel⟩
theorem met_counted {TT : List (Addr × Str)} {f : Addr} {fd : FuncData} (me : Meth K C "counted" f) (F : C8.Fun K "counted" "Forest.counted" s_Forest_counted f fd) (b : Binds K fd ["self", "rectangle"] []) (T : Txt K mg aE C) (c_require_rectangle : C8.Cal P w K mg base 5 "require_rectangle" (spReqRect TT) [])
    (c_middle_counted : C8.Cal P w K mg base 7 "middle_counted" (spMcount TT) []) (c_holds : C8.Cal P w K mg base 1 "holds" (spHolds (K := K) TT) []) (m_gone : C8.Met P w K mg base 1 C "gone" (spGone C TT) []) : C8.Met P w K mg base 8 C "counted" (spCounted C TT) [] := by
  refine C8.met0 T.cl me F b sc_Forest_counted (fun vs H Q E h => ?_) (fun cdv A outer s H vs Q E hr h => ?_)
  · obtain ⟨x, dx, pa, ka, ks, pl, tot, ra, rc, rfl, _⟩ := h
    rfl
  · obtain ⟨x, dx, pa, ka, ks, pl, tot, ra, rc, rfl, hf, hra, hrok, htr, hlen, hpll, hnd, hks, k⟩ := h
    have nd := sc_Forest_counted.nd
    refine ⟨_, (pss_cons (ps_expr (C8.pe_c c_require_rectangle hr (by decide) (by rfl) (pa_cons (pv 1) pa_nil)))
  (pss_cons (ps_par (i := 3) (j := 4) rfl nd rfl rfl (by decide) rfl rfl (pa_cons pe_int (pa_cons (pe_lst pa_nil) pa_nil)) (by rfl))
  (pss_cons (ps_for PassesOwn.never rfl (pi_list (pe_fld (pv 0) rfl)) (pg_name (i := 2) nd rfl (Or.inl rfl)) (pss_cons (ps_asg (C8.pe_c c_middle_counted hr (by decide) (by rfl) (pa_cons (pv 2) (pa_cons (pv 1) pa_nil))) (pg_tup rfl (pgs_cons (pg_name (i := 5) nd rfl (Or.inl rfl)) (pgs_cons (pg_name (i := 6) nd rfl (Or.inl rfl)) pgs_nil))))
  (pss_cons (ps_aug (i := 3) nd rfl (Or.inl rfl) (pv 5) ip_add)
  (pss_one (ps_expr (pe_bm PySem.F.plainAttrs_list PySem.F.slot_list_extend PySem.F.type_list_extend mt_extend (pv 4) (pa_cons (pv 6) pa_nil)))))))
  (pss_one (ps_ret (pe_tup (pa_cons (pe_op op_sub (pv 3) (pe_callB call_len_seq (by rfl) T.nlen (by decide +kernel) (pa_cons (pe_lc (own := [("point", 7)]) rfl nd (pi_list (C8.pe_mt0 m_gone hr (by decide) (pv 0))) (blkOk_by (own := [("point", 7)]) (N := N_Forest_counted) (sc := (C8.fnScope s_Forest_counted)) (by decide +kernel)) (fun _ _ _ _ _ => (pg_name (i := 7) nd rfl (Or.inl rfl))) (fun _ _ _ _ _ => (L2.pts_one (pt_val (C8.pe_c c_holds hr (by decide) (by rfl) (pa_cons (pv 1) (pa_cons (pv 7) pa_nil)))))) (fun _ _ _ _ _ => (pv 7))) pa_nil))) (pa_cons (pv 4) pa_nil)))))))), ?_⟩
    repeat walk_at "w"
    refine ⟨ra, rc, rfl, hra, hrok, fun H1 g1 => ?_⟩
    repeat walk_at "w"
    refine ⟨sz100 (Nat.le_of_ble_eq_true rfl), fun vi hpvi => ?_⟩; generalize eH3 : upd H1 vi _ = H3; obtain ⟨g3, h3⟩ := new_facts TT hpvi eH3; clear eH3
    repeat walk_at "w"
    have vi0 : H vi = none := g1.fr _ hpvi
    have g13 := g1.trans g3
    have hf3 := hf.gr0 g13
    with_reducible refine w_forI ?_
    repeat walk_at "w"
    refine ⟨x, C, dx, _, .ref pa, rfl, hf3.ob, T.cl, T.nplaces, rfl, ?_⟩
    obtain ⟨xs, hpa, hxs⟩ := hf.ex
    have hpa3 := g13.keepL0 hpa
    have hxl := hxs.len
    refine ⟨pa, rfl, ⟨_, SqL.of hpa3⟩, for_list (K := K) (a := pa) (xs := xs) (fun i σ' H' => ∃ (v2 v5 v6 v7 : Option V) (es : List V), σ' = [some (.ref x), some (.ref ra), v2, some (.int (cntF rc (pl.take i) : Nat)), some (.ref vi), v5, v6, v7] ∧ Gr TT NoS H H' ∧ H' vi = some (.lst es) ∧ es.length ≤ 300 * i)
      ⟨none, none, none, none, [], rfl, g13, h3, Nat.zero_le _⟩ (fun i σ' H' _ ⟨_, _, _, _, _, _, z, _⟩ => SqL.of (z.keepL0 hpa)) ?_ ?_⟩
    · rintro i y σ' H' hy ⟨v2, v5, v6, v7, es, rfl, g, hvi, hes⟩
      obtain ⟨t, ht, hyt⟩ := Al.get hxs hy
      have htm := List.mem_of_getElem? ht
      have htsz := tsz_pts htm
      have hi := (List.getElem?_eq_some_iff.mp hy).1
      refine w_gname ?_
      repeat walk_at "w"
      refine ⟨y, t, ra, rc, rfl, hyt.gr g, by omega, (htr t htm).1, (htr t htm).2, g.tup hra, hrok, fun oa vl ws H4 g4 hoa hvl0 hvl hwl => ?_⟩
      refine w_gtup (SqT.of hoa) rfl (w_gcons (w_gname (w_gcons (w_gname (w_gnil ?_)))))
      have hvi4 := g4.keepL0 hvi
      repeat walk_at "w"
      refine ⟨w_tyL (SqL.of hvi4), ?_⟩
      repeat walk_at "w"
      refine w_rext hvi4 hvl (by omega) ?_
      generalize eH5 : upd H4 vi _ = H5; obtain ⟨gH5, lH5, hH5⟩ := lst_facts (TT := TT) (vi0) (g.trans g4) (hvi4) eH5; clear eH5
      repeat walk_at "w"
      have e2 : pl.take (i + 1) = pl.take i ++ [t] := by
        rw [List.take_add_one, ht]
        rfl
      have e3 : cntF rc (pl.take (i + 1)) = cntF rc (pl.take i) + cnt rc t := by
        rw [e2]
        unfold cntF
        rw [List.map_append, List.sum_append]
        simp
      exact ⟨_, _, _, _, _, by rw [e3]; rfl, gH5, hH5, by rw [List.length_append]; omega⟩
    · rintro σ' H' ⟨v2, v5, v6, v7, es, rfl, g, hvi, hes⟩
      rw [hxl, List.take_of_length_le (Nat.le_refl _)]
      have hf' := hf.gr0 g
      repeat walk_at "w"
      refine ⟨x, dx, _, rfl, hf'.ob, rfl, ?_⟩
      repeat walk_at "w"
      refine ⟨x, dx, pa, ka, ks, pl, tot, rfl, hf', hnd, hks, fun l zs H4 g4 _ hl hzs => ?_⟩
      refine ⟨l, rfl, ⟨_, SqL.of hl⟩, fun D hD => ?_⟩
      have hzl := hzs.len
      rw [srt_len] at hzl
      have hgl := (gone_sub ks).length_le
      rw [keys_len] at hgl
      refine w_lc (L2.walk_list (xs := zs)) TT NoS hD (fun j acc H' => acc.length = (((srt false (gone ks)).take j).filter (hold rc)).length) (by rw [List.take_zero]; rfl) (fun j acc H' _ g _ _ => SqL.of (g.keepL0 hl)) ?_ ?_
      · rintro j q acc H5 H6 hj hal g5 hD5 hacc ⟨rfl, hq⟩
        obtain ⟨p, hp, hqp⟩ := Al.get hzs hq
        have hj : j < zs.length := hj
        have e2 : (srt false (gone ks)).take (j + 1) = (srt false (gone ks)).take j ++ [p] := by
          rw [List.take_add_one, hp]
          rfl
        refine w_gname ⟨rfl, ?_⟩
        repeat walk_at "w"
        refine ⟨ra, rc, q, p, rfl, SqT.of ((g.trans (g4.trans g5)).tup hra), hqp.gr g5, fun H7 g7 => ?_⟩
        have hD7 := g7.keepL0 hD5
        cases eh : hold rc p with
        | true =>
          repeat walk_at "w"
          refine lc_yes (g5.trans g7) hD hD7 hal (by omega) ?_
          rw [e2, List.filter_append, List.length_append, List.length_append, hacc, show [p].filter (hold rc) = [p] by simp [eh]]
          rfl
        | false =>
          repeat walk_at "w"
          refine lc_no (g5.trans g7) hD7 hal ?_
          rw [e2, List.filter_append, List.length_append, hacc, show [p].filter (hold rc) = [] by simp [eh]]
          rfl
      · rintro acc H5 g5 hD5 hal hacc
        rw [hzl, ← srt_len false (gone ks), List.take_of_length_le (Nat.le_refl _), ((srt_perm false (gone ks)).filter (hold rc)).length_eq] at hacc
        repeat walk_at "w"
        refine ⟨D, acc, rfl, .inl (SqL.of hD5), ?_⟩
        rw [hacc]
        repeat walk_at "w"
        refine ⟨sz100 (Nat.le_of_ble_eq_true rfl), fun out hpout => ?_⟩; generalize eH6 : upd H5 out _ = H6; obtain ⟨g6, h6⟩ := new_facts TT hpout eH6; clear eH6
        exact k out vi H6 (g.trans (g4.trans (g5.trans g6))) h6
def ct (n p : Nat) : Int := (((n / 2 ^ p : Nat) : Int) - ((n / 2 ^ (p + 1) : Nat) : Int)) * 2 ^ p
theorem ct_sum : ∀ n, n < 32 → ((List.range (bl n)).map (ct n)).sum = (tsum n : Nat) := by decide +kernel
theorem w_iRng1 {ta : TA} {σ : L2.St} {H : Hp} {R : It → Hp → Prop} (h : ta σ H fun vs H1 => ∃ j : Int, vs = [.int j] ∧ -(2 ^ 62) ≤ j ∧ j < 2 ^ 62 ∧ R (Itr 0 j.toNat) H1) : iRng1 ta σ H R := h
def spCost (TT : List (Addr × Str)) : Sp := fun vs H Q _ => ∃ n : Nat, vs = [.int (n : Nat)] ∧ n < 32 ∧ ∀ H', Gr TT NoS H H' → Q (.int (tsum n : Nat)) H'
abbrev s_cost_of : Stmt := topS 51
abbrev N_cost_of : List Str := ["many", "place"]
theorem sc_cost_of : FnScope N_cost_of ["many"] (C8.fnScope s_cost_of) := ⟨rfl, rfl, rfl, by decide +kernel, rfl, by decide +kernel, by decide +kernel⟩
theorem cal_cost_of {TT : List (Addr × Str)} {f : Addr} {fd : FuncData} (F : C8.Def K mg "cost_of" s_cost_of f fd) (b : Binds K fd ["many"] []) (T : Txt K mg aE C) (c_require_number : C8.Cal P w K mg base 3 "require_number" spReqNum []) : C8.Cal P w K mg base 4 "cost_of" (spCost TT) [] := by
  refine C8.cal0 F b .nil sc_cost_of (fun vs H Q E h => ?_) (fun cdv A outer s H vs Q E hr h => ?_)
  · obtain ⟨n, rfl, _⟩ := h
    rfl
  · obtain ⟨n, rfl, hn, k⟩ := h
    have nd := sc_cost_of.nd
    refine ⟨_, (pss_cons (ps_expr (C8.pe_c c_require_number hr (by decide) (by rfl) (pa_cons pe_str (pa_cons (pv 0) (pa_cons pe_int (pa_cons (C8.pe_gc (by rfl) T.gMOST_COUNT) pa_nil))))))
  (pss_one (ps_ret (pe_callB (cr_sum rfl) (by rfl) T.nsum (by decide +kernel) (pa_cons (pe_lc (own := [("place", 1)]) rfl nd (pi_range1 (by rfl) T.nrange (pa_cons (pe_bits (pv 0)) pa_nil)) (blkOk_by (own := [("place", 1)]) (N := N_cost_of) (sc := (C8.fnScope s_cost_of)) (by decide +kernel)) (fun _ _ _ _ _ => (pg_name (i := 1) nd rfl (Or.inl rfl))) (fun _ _ _ _ _ => L2.pts_nil) (fun _ _ _ _ _ => (pe_op op_shl (pe_op op_sub (pe_op op_shrN (pv 0) (pv 1)) (pe_op op_shrN (pv 0) (pe_op op_add (pv 1) pe_int))) (pv 1)))) pa_nil))))), ?_⟩
    repeat walk_at "w"
    refine ⟨_, _, _, _, rfl, by omega, ?_, ?_⟩
    · have h1 : (10 : Int) ^ 30 = 1000000000000000000000000000000 := by decide
      rw [h1]
      omega
    repeat walk_at "w"
    refine w_iRng1 ?_
    repeat walk_at "w"
    refine ⟨_, rfl, ?_⟩
    repeat walk_at "w"
    have hB := (bl_facts n (by omega)).2.1
    have hcs := ct_sum n hn
    show ∃ j : Int, [V.int ((bl n : Nat) : Int)] = [V.int j] ∧ _
    generalize hL : bl n = L at hB hcs ⊢
    refine ⟨_, rfl, by omega, by omega, fun D hD => ?_⟩
    refine w_lc (L2.walk_range) TT NoS hD (fun j acc H' => acc = ((List.range j).map fun p => V.int (ct n p))) rfl (fun _ _ _ _ _ _ _ => trivial) ?_ ?_
    · rintro j q acc H5 H6 hj hal g5 hD5 rfl hy
      have hy : H6 = H5 ∧ q = .int ((0 : Int) + (j : Nat)) := hy
      rw [Int.zero_add] at hy
      obtain ⟨rfl, rfl⟩ := hy
      have hjL : j < L := hj
      refine w_gname ⟨rfl, ?_⟩
      repeat walk_at "w"
      refine ⟨_, j, rfl, rfl, ?_⟩
      repeat walk_at "w"
      refine ⟨_, j + 1, rfl, rfl, ?_⟩
      repeat walk_at "w"
      have e1 : ((n : Nat) : Int) / 2 ^ j = ((n / 2 ^ j : Nat) : Int) := by rw [Int.natCast_ediv, Int.natCast_pow]; rfl
      have e2 : ((n : Nat) : Int) / 2 ^ (j + 1) = ((n / 2 ^ (j + 1) : Nat) : Int) := by rw [Int.natCast_ediv, Int.natCast_pow]; rfl
      have b1 := Nat.div_le_self n (2 ^ j)
      have b2 := Nat.div_le_self n (2 ^ (j + 1))
      rw [e1, e2]
      refine w_I ⟨by omega, by omega, ?_⟩ ?_
      · generalize n / 2 ^ j = u1 at b1 ⊢
        generalize n / 2 ^ (j + 1) = u2 at b2 ⊢
        have : (2 : Nat) ^ 64 = 18446744073709551616 := by decide
        rw [this]
        omega
      refine lc_yes g5 hD hD5 hal (by omega) ?_
      rw [List.range_succ, List.map_append]
      rfl
    · rintro acc H5 g5 hD5 hal rfl
      repeat walk_at "w"
      refine ⟨D, (List.range L).map (ct n), rfl, SqL.of (xs := ((List.range L).map (ct n)).map V.int) (by rw [List.map_map]; exact (by simpa using hD5 : H5 D = some (.lst ((List.range L).map fun p => V.int (ct n p))))), ?_⟩
      rw [hcs]
      repeat walk_at "w"
      exact k _ g5
end
end Wd
end
section
/-! Forests: the nearest. -/
namespace Wd
open PySem PySem.Spec PyProof.Rows L2 LamX NdefX
local macro_rules | `(tactic| walk_at "w") => `(tactic| first
  | with_reducible refine w_var (by with_unfolding_all rfl) ?_
  | with_reducible refine w_aug (by with_unfolding_all rfl) ?_
  | with_reducible refine w_op ?_
  | with_reducible refine w_c ?_
  | with_reducible refine w_I0 ?_
  | with_reducible refine w_cons ?_
  | with_reducible refine w_nil ?_
  | with_reducible refine w_call ?_
  | with_reducible refine w_cb ?_
  | with_reducible refine w_seq ?_
  | with_reducible refine w_ret ?_
  | with_reducible refine w_set ?_
  | with_reducible refine w_if ?_
  | with_reducible refine w_test ?_
  | with_reducible refine w_B ?_
  | with_reducible refine w_k ?_
  | with_reducible refine w_and ?_
  | with_reducible refine w_or ?_
  | with_reducible refine w_not ?_
  | with_reducible refine w_andV ?_
  | with_reducible refine w_orV ?_
  | with_reducible refine w_notV ?_
  | with_reducible refine w_ifE ?_
  | with_reducible refine w_chain ?_
  | with_reducible refine w_un ?_
  | with_reducible refine w_U ?_
  | with_reducible refine w_isN ?_
  | with_reducible refine w_notN ?_
  | with_reducible refine w_T ?_
  | with_reducible refine w_F ?_
  | with_reducible refine w_next ?_
  | with_reducible refine w_drop ?_
  | with_reducible refine w_par2 ?_
  | with_reducible refine w_par3 ?_
  | with_reducible refine w_tup ?_
  | with_reducible refine w_lst ?_
  | with_reducible refine w_bm ?_
  | with_reducible refine w_bm0 ?_
  | with_reducible refine w_gname ?_
  | with_reducible refine w_gcons ?_
  | with_reducible refine w_lcI ?_
  | with_reducible refine w_lc2I ?_
  | with_reducible refine w_iTup ?_
  | with_reducible refine w_iList ?_
  | with_reducible refine w_yes ?_
  | with_reducible refine w_din ?_
  | with_reducible refine w_dput ?_
  | with_reducible refine w_dget2 ?_
  | with_reducible refine w_iEnum ?_
  | with_reducible refine w_sl ?_
  | with_reducible refine w_noP ?_
  | with_reducible refine w_part ?_
  | with_reducible refine w_asg ?_
  | with_reducible refine w_ip ?_
  | with_reducible refine w_cont ?_
  | with_reducible refine w_callD ?_
  | with_reducible refine w_thru ?_
  | with_reducible refine w_star ?_
  | with_reducible refine w_bits ?_
  | with_reducible refine w_revL ?_
  | with_reducible refine w_fld ?_
  | with_reducible refine w_dget ?_
  | with_reducible refine w_keys ?_
  | with_reducible refine w_gsub ?_
  | with_reducible refine w_fldaug ?_
  | with_reducible refine w_sfld ?_
  | with_reducible refine w_meth ?_
  | with_reducible refine w_make ?_
  | with_reducible refine w_ite (by with_unfolding_all rfl) ?_ | with_reducible refine w_itf (by with_unfolding_all rfl) ?_)
theorem met0M {P : Program} {w : World} {K : PySem.W.Frag} {mg : Str → Option Value} {base : Heap} {c : Addr} {m qual : Str} {C : Addr} {st : Stmt} {f : Addr} {fd : FuncData} {N ps : List Str} {k : Nat} {sp : Sp} (cl : Cls K C) (me : Meth K C m f) (F : C8.Fun K m qual st f fd) (hc : fd.code = .ref c) (b : Binds K fd ps [])
    (S : FnScope N ps (C8.fnScope st)) (len : ∀ vs H Q E, sp vs H Q E → vs.length = ps.length)
    (hbody : ∀ (A : Around) (outer : List Env) (s : Shared) (H : Hp) (vs : List V) (Q : VK) (E : XK), Room k (A.deeper (envOfC qual (C8.fnScope st) s.heap.objs.size f (.ref c))) → sp vs H Q E →
      ∃ t, PSs (cxOf C8.CX0 P w K mg base N qual (C8.fnScope st) f (.ref c) A outer s H E).nox (C8.fnBody st) t ∧ t { nx := fun _ H' => Q .non H', rt := Q } (L2.start N vs) H) : C8.Met P w K mg base (k + 1) C m sp [] := by
  obtain ⟨oc, od, dV, kV, doc, pm, an, cdv, ct, osl, rfl, lk, hcd⟩ := F.ex
  obtain rfl : cdv = .ref c := hc
  refine ⟨f, _, ps, [], cl, me, fn_of lk hcd S len fun A outer s H vs Q E hr hsp => ?_, b, .nil⟩
  obtain ⟨t, h, q⟩ := hbody A outer s H vs Q E hr hsp
  exact ⟨t, h.nox, q⟩
def BestV (H : Hp) (v : V) : Option Pt → Prop
  | none => v = .non
  | some p => PtV H v p
theorem BestV.gr {T : List (Addr × Str)} {S : Addr → Prop} {H H1 : Hp} {v : V} : ∀ {b : Option Pt}, BestV H v b → Gr T S H H1 → BestV H1 v b
  | none, h, _ => h
  | some _, h, g => PtV.gr h g
/-- the lambda of search -/
def spRow (K : PySem.W.Frag) (TT : List (Addr × Str)) : List (Option V) → V → Hp → VK → Prop := fun ws v H Q => ∃ u q a b y0 y1 r, ws = [some u] ∧ PtV H u q ∧ v = .ref a ∧ H a = some (.tup [y0, y1, .ref b]) ∧ SqT K H b (rcL r) ∧ Small q ∧ SmallR r ∧ ∀ H', Gr TT NoS H H' → Q (.int (gap q r)) H'
theorem row_go {K : PySem.W.Frag} {TT : List (Addr × Str)} {ws : List (Option V)} {v : V} {H : Hp} {Q : VK} (h : spRow K TT ws v H Q) : tCall (spGapOf (K := K) TT) [] C8.E0 (tCons (tVar 1) (tCons (tOp (rIxT K) (tVar 0) (tC (.int 2))) tNil)) (startF ["row", "point"] [v] ws) H Q := by
  obtain ⟨u, q, a, b, y0, y1, r, rfl, hu, rfl, ha, hb, hq, hr, k⟩ := h
  refine w_call (w_cons (w_var (by rfl) (w_cons (w_op (w_var (by rfl) (w_c (w_ixT (SqT.of ha) (by rfl) (w_nil ?_))))))))
  exact ⟨u, q, b, r, rfl, hu, hb, hq, hr, k⟩
theorem stsz_perm {ts us : List Tree} (h : List.Perm ts us) : stsz ts = stsz us := (h.map _).sum_nat
section
variable {P : Program} {w : World} {K : PySem.W.Frag} {mg : Str → Option Value} {base : Heap} {aE C : Addr}
def LeB (q : Pt) (bo : Option Pt) (p : Pt) : Prop := ∃ b, bo = some b ∧ dst q b ≤ dst q p
def BestOk (ks : Kn) (bo : Option Pt) : Prop := ∀ b, bo = some b → getB ks b = some true ∧ PtOk b
theorem cov_drop {q : Pt} {o1 : Option Pt} {us : List McD} {u : McD} {t : Tree} {al : Pt → Prop} (h : ∀ p ∈ rd t, al p → LeB q o1 p ∨ ∃ i ∈ us ++ [u], p ∈ rd i.1) (hu : ∀ p ∈ rd u.1, LeB q o1 p) : ∀ p ∈ rd t, al p → LeB q o1 p ∨ ∃ i ∈ us, p ∈ rd i.1 := by
  intro p hp ha
  rcases h p hp ha with z | ⟨i, hi, hpi⟩
  · exact .inl z
  · rcases List.mem_append.mp hi with hi | hi
    · exact .inr ⟨i, hi, hpi⟩
    · rw [List.mem_singleton.mp hi] at hpi
      exact .inl (hu p hpi)
theorem LeB.trans {q : Pt} {o1 o2 : Option Pt} {p : Pt} (h : LeB q o1 p) (h2 : ∀ b, o1 = some b → LeB q o2 b) : LeB q o2 p := by
  obtain ⟨b, e, l⟩ := h
  obtain ⟨b', e', l'⟩ := h2 b e
  exact ⟨b', e', Int.le_trans l' l⟩
theorem cut_small {r : Rect} {ax sd : Bool} {p : Pt} (h : SmallR r) (hp : Small p) : SmallR (cut r ax (kx ax p) sd) := by
  obtain ⟨h1, h2, h3, h4⟩ := h
  have := hp.kx ax
  cases ax <;> cases sd <;> first | exact ⟨this, h2, h3, h4⟩ | exact ⟨h1, this, h3, h4⟩ | exact ⟨h1, h2, this, h4⟩ | exact ⟨h1, h2, h3, this⟩
theorem kids_prop {ks : Kn} {us js : List McD} {p : Pt} {l r : Tree} {ax : Bool} {bx : Rect} (h : ∀ i ∈ us, tsz i.1 ≤ 100 ∧ SmallR i.2.2 ∧ ∀ p ∈ rd i.1, PtOk p ∧ p ∈ keys ks) (hsm : SmallR bx) (hsz : tsz (.node p l r) ≤ 100)
    (hp : ∀ z ∈ rd (.node p l r), PtOk z ∧ z ∈ keys ks) (hj : ∀ j ∈ js, ∃ sd, j = kidM p l r ax bx sd) : ∀ i ∈ us ++ js, tsz i.1 ≤ 100 ∧ SmallR i.2.2 ∧ ∀ p ∈ rd i.1, PtOk p ∧ p ∈ keys ks := by
  intro i hi
  rcases List.mem_append.mp hi with h1 | h1
  · exact h i h1
  · obtain ⟨sd, rfl⟩ := hj i h1
    have hsz : tsz l + tsz r + 1 ≤ 100 := hsz
    refine ⟨?_, cut_small hsm (hp p (List.mem_cons_self ..)).1.small, fun z hz => ?_⟩
    · cases sd
      · show tsz l ≤ 100
        omega
      · show tsz r ≤ 100
        omega
    · cases sd
      · exact hp z (List.mem_cons_of_mem _ (List.mem_append_left _ hz))
      · exact hp z (List.mem_cons_of_mem _ (List.mem_append_right _ hz))
theorem kids_in {js : List McD} {p : Pt} {l r : Tree} {ax : Bool} {bx : Rect} (h : List.Perm js ([false, true].map (kidM p l r ax bx))) : ∀ z ∈ rd l ++ rd r, ∃ j ∈ js.reverse, z ∈ rd j.1 := by
  intro z hz
  rcases List.mem_append.mp hz with hz | hz
  · exact ⟨kidM p l r ax bx false, List.mem_reverse.mpr (h.mem_iff.mpr (List.mem_cons_self ..)), hz⟩
  · exact ⟨kidM p l r ax bx true, List.mem_reverse.mpr (h.mem_iff.mpr (List.mem_cons_of_mem _ (List.mem_cons_self ..))), hz⟩
theorem cov_node {q : Pt} {o1 o2 : Option Pt} {us js : List McD} {p : Pt} {l r t : Tree} {ax : Bool} {bx : Rect} {al : Pt → Prop} (h : ∀ y ∈ rd t, al y → LeB q o1 y ∨ ∃ i ∈ us ++ [(.node p l r, ax, bx)], y ∈ rd i.1) (ho : ∀ b, o1 = some b → LeB q o2 b) (hp : al p → LeB q o2 p) (hj : ∀ z ∈ rd l ++ rd r, ∃ j ∈ js, z ∈ rd j.1) :
    ∀ p ∈ rd t, al p → LeB q o2 p ∨ ∃ i ∈ us ++ js, p ∈ rd i.1 := by
  intro z hz ha
  rcases h z hz ha with e | ⟨i, hi, hzi⟩
  · exact .inl (e.trans ho)
  · rcases List.mem_append.mp hi with hi | hi
    · exact .inr ⟨i, List.mem_append_left _ hi, hzi⟩
    · rw [List.mem_singleton.mp hi] at hzi
      rcases List.mem_cons.mp hzi with e | hzi
      · exact .inl (by subst e; exact hp ha)
      · obtain ⟨j, hj, hzj⟩ := hj z hzi
        exact .inr ⟨j, List.mem_append_right _ hj, hzj⟩
def spSearch (C : Addr) (TT : List (Addr × Str)) : Sp := fun vs H Q _ => ∃ x dx pa ka ks pl tot tv t u q bv bo va es, vs = [.ref x, tv, u, bv, .ref va] ∧ FoV C H x dx pa ka ks pl tot ∧ TrV H tv t ∧ tsz t ≤ 100 ∧ Kd false t ∧ tok t ∧ (∀ p ∈ rd t, p ∈ keys ks) ∧ ks.length ≤ 100 ∧ PtV H u q ∧ PtOk q ∧ BestV H bv bo ∧ BestOk ks bo ∧ H va = some (.lst es) ∧ es.length ≤ 20000 ∧ Tabs TT H ∧
  ∀ rv ro es' H', Gr TT (fun b => b = va) H H' → BestV H' rv ro → BestOk ks ro → (∀ b, bo = some b → LeB q ro b) → (∀ p ∈ rd t, getB ks p = some true → LeB q ro p) → H' va = some (.lst es') → es'.length ≤ es.length + 201 → Q rv H'
abbrev s_Forest_search : Stmt := inClass (topS 50) 12
abbrev N_Forest_search : List Str := ["self", "tree", "point", "best", "visited", "waiting", "sides", "one", "axis", "box", "side"]
theorem sc_Forest_search : FnScope N_Forest_search ["self", "tree", "point", "best", "visited"] (C8.fnScope s_Forest_search) := ⟨rfl, rfl, rfl, by decide +kernel, rfl, by decide +kernel, by decide +kernel⟩
theorem met_search {TT : List (Addr × Str)} {c : Addr} {f : Addr} {fd : FuncData} (me : Meth K C "search" f) (F : C8.Fun K "search" "Forest.search" s_Forest_search f fd) (hc : fd.code = .ref c) (b : Binds K fd ["self", "tree", "point", "best", "visited"] []) (T : Txt K mg aE C) (mk : Mkr base mg TT c (Str.ofString "Forest.search" ++ ".<locals>."))
    (c_gap_of : C8.Cal P w K mg base 1 "gap_of" (spGapOf (K := K) TT) []) (c_gap_to : C8.Cal P w K mg base 1 "gap_to" spGapTo []) (c_cut : C8.Cal P w K mg base 1 "cut" (spCut (K := K) TT) []) : C8.Met P w K mg base 5 C "search" (spSearch C TT) [] := by
  refine met0M T.cl me F hc b sc_Forest_search (fun vs H Q E h => ?_) (fun A outer s H vs Q E hr h => ?_)
  · obtain ⟨x, dx, pa, ka, ks, pl, tot, tv, t, u, q, bv, bo, va, es, rfl, _⟩ := h
    rfl
  · obtain ⟨x, dx, pa, ka, ks, pl, tot, tv, t, u, q, bv, bo, va, es, rfl, hf, ht0, hsz, hkd, hok, hin, hkl, hu, hq, hbv, hbo, hva, hes, tabs, k⟩ := h
    have nd := sc_Forest_search.nd
    obtain ⟨P', tb, tm, tu⟩ := mk.ex
    refine ⟨_, (pss_cons (ps_set (i := 5) nd rfl (Or.inl rfl) (pe_lst (pa_cons (pe_tup (pa_cons (pv 1) (pa_cons pe_int (pa_cons (C8.pe_gc (by rfl) T.gEVERYWHERE) pa_nil)))) pa_nil)))
  (pss_cons (ps_while PassesOwn.never (pt_cmpR (op_neNil hr.units0) (pv 5) (pe_lst pa_nil) (nomark _)) (pss_cons (ps_asg (pe_bm0 PySem.F.plainAttrs_list PySem.F.slot_list_pop PySem.F.type_list_pop mt_pop (pv 5)) (pg_tup rfl (pgs_cons (pg_name (i := 7) nd rfl (Or.inr rfl)) (pgs_cons (pg_name (i := 8) nd rfl (Or.inr rfl)) (pgs_cons (pg_name (i := 9) nd rfl (Or.inr rfl)) pgs_nil)))))
  (pss_cons (ps_if (PW.pt (pw_or (pt_cmpR op_isN1 (pv 7) pe_non (nomark _)) (pw_or1 (PW.pt (pw_and (pt_cmpR op_notN1 (pv 3) pe_non (nomark _)) (pw_and1 (pt_cmpR op_ge (C8.pe_c c_gap_of hr (by decide) (by rfl) (pa_cons (pv 2) (pa_cons (pv 9) pa_nil))) (C8.pe_c c_gap_to hr (by decide) (by rfl) (pa_cons (pv 2) (pa_cons (pv 3) pa_nil))) (nomark _)))))))) (pss_one ps_continue) pss_nil)
  (pss_cons (ps_expr (pe_bm PySem.F.plainAttrs_list PySem.F.slot_list_append PySem.F.type_list_append mt_append (pv 4) (pa_cons (pe_ix ix_tup (pv 7) pe_int (fun _ _ => rfl)) pa_nil)))
  (pss_cons (ps_if (PW.pt (pw_and (pt_val (pe_dget (hu_of hr) (pe_fld (pv 0) rfl) (pe_ix ix_tup (pv 7) pe_int (fun _ _ => rfl)) (fun _ _ => rfl))) (pw_and1 (PW.pt (pw_or (pt_cmpR op_isN1 (pv 3) pe_non (nomark _)) (pw_or1 (pt_cmpR op_lt (C8.pe_c c_gap_to hr (by decide) (by rfl) (pa_cons (pv 2) (pa_cons (pe_ix ix_tup (pv 7) pe_int (fun _ _ => rfl)) pa_nil))) (C8.pe_c c_gap_to hr (by decide) (by rfl) (pa_cons (pv 2) (pa_cons (pv 3) pa_nil))) (nomark _)))))))) (pss_one (ps_set (i := 3) nd rfl (Or.inl rfl) (pe_ix ix_tup (pv 7) pe_int (fun _ _ => rfl)))) pss_nil)
  (pss_cons (ps_setLc (i := 6) (own := [("side", 10)]) (te := tTup (tCons (tOp (rIxT K) (tVar 7) (tOp (rI0 fun i j => .int (i + j)) (tC (.int 1)) (tVar 10))) (tCons (tOp (rI0 fun i j => .int (i - j)) (tC (.int 1)) (tVar 8)) (tCons (tCall (spCut (K := K) TT) [] C8.E0 (tCons (tVar 9) (tCons (tVar 8) (tCons (tOp (rIxT K) (tOp (rIxT K) (tVar 7) (tC (.int 0))) (tVar 8)) (tCons (tVar 10) tNil))))) tNil)))) rfl nd rfl rfl (sw_true rfl rfl rfl (by decide +kernel)) (pi_tup (pe_tup (pa_cons pe_int (pa_cons pe_int pa_nil)))) (blkOk_by (own := [("side", 10)]) (N := N_Forest_search) (sc := (C8.fnScope s_Forest_search)) (by decide +kernel)) (fun _ _ _ _ _ => (pg_name (i := 10) nd rfl (Or.inl rfl))) (fun _ _ _ _ _ => L2.pts_nil) (fun _ _ _ _ _ => (pe_tup (pa_cons (pe_ix ix_tup (pv 7) (pe_op op_add pe_int (pv 10)) (fun _ _ => rfl)) (pa_cons (pe_op op_sub pe_int (pv 8)) (pa_cons (C8.pe_c c_cut hr (by decide) (by rfl) (pa_cons (pv 9) (pa_cons (pv 8) (pa_cons (pe_ix ix_tup (pe_ix ix_tup (pv 7) pe_int (fun _ _ => rfl)) (pv 8) (fun _ _ => rfl)) (pa_cons (pv 10) pa_nil))))) pa_nil))))))
  (pss_one (ps_expr (pe_bm PySem.F.plainAttrs_list PySem.F.slot_list_extend PySem.F.type_list_extend mt_extend (pv 5) (pa_cons (pe_revL (pe_sortL (N' := ["row", "point"]) (x' := "row") (fr := ["point"]) (js := [2]) (sp := spRow K TT) (k := 1) tb rfl tm tu (by rfl) (show ndefB (C8.fnScope s_Forest_search) _ _ = true from by decide +kernel) (nscope_by (by decide +kernel)) (fun _ _ _ _ _ _ => by rfl) (by rfl) hr (by decide) (fun f1 c1 A1 o1 s1 H1 v1 ws1 Q1 hr1 _ q1 => ⟨_, C8.pe_c c_gap_of hr1 (by decide) (by rfl) (pa_cons (pv 1) (pa_cons (pe_ix ix_tup (pv 0) pe_int (fun _ _ => rfl)) pa_nil)), row_go q1⟩) (by rfl) T.nsorted (pa_cons (pv 6) pa_nil))) pa_nil))))))))))
  (pss_one (ps_ret (pv 3))))), ?_⟩
    repeat walk_at "w"
    refine ⟨sz100 (Nat.le_of_ble_eq_true rfl), fun i0 hpi0 => ?_⟩; generalize eH3 : upd H i0 _ = H3; obtain ⟨g3, h3⟩ := new_facts TT hpi0 eH3; clear eH3
    repeat walk_at "w"
    refine ⟨sz100 (Nat.le_of_ble_eq_true rfl), fun wt hpwt => ?_⟩; generalize eH4 : upd H3 wt _ = H4; obtain ⟨g4, h4⟩ := new_facts TT hpwt eH4; clear eH4
    have g14 := g3.trans g4
    have wt0 : H wt = none := g3.fr _ hpwt
    have vw : va ≠ wt := ne_of_none hva wt0
    have start : Al (McI K H4) [.ref i0] [((t, false, all4) : McD)] := .cons ⟨⟨i0, aE, tv, rfl, g4.tup h3, T.sEVERYWHERE _, ht0.gr g14⟩, all4_ok t, hkd⟩ .nil
    refine w_seq (w_while (fun m σ' H' => ∃ (v6 v7 v8 v9 v10 : Option V) (b1 : V) (o1 : Option Pt) (xs ys : List V) (is : List McD), σ' = [some (.ref x), some tv, some u, some b1, some (.ref va), some (.ref wt), v6, v7, v8, v9, v10] ∧ Gr TT (fun b => b = va) H H' ∧ BestV H' b1 o1 ∧ BestOk ks o1 ∧ H' va = some (.lst ys) ∧ H' wt = some (.lst xs) ∧ Al (McI K H') xs is ∧
        (∀ i ∈ is, tsz i.1 ≤ 100 ∧ SmallR i.2.2 ∧ ∀ p ∈ rd i.1, PtOk p ∧ p ∈ keys ks) ∧ (∀ b, bo = some b → LeB q o1 b) ∧ (∀ p ∈ rd t, getB ks p = some true → LeB q o1 p ∨ ∃ i ∈ is, p ∈ rd i.1) ∧ m = stsz (is.map (·.1)) ∧ ys.length + m ≤ es.length + 201) (stsz [t])
      ⟨_, _, _, _, _, bv, bo, [.ref i0], es, [(t, false, all4)], rfl, g14.of0, hbv.gr g14, hbo, g14.keepL0 hva, h4, start, fun i hi => by rw [List.mem_singleton.mp hi]; exact ⟨hsz, ⟨trivial, trivial, trivial, trivial⟩, fun p hp => ⟨hok p hp, hin p hp⟩⟩, fun b hb => ⟨b, hb, Int.le_refl _⟩, fun p hp _ => .inr ⟨_, List.mem_singleton.mpr rfl, hp⟩, rfl, by show es.length + (2 * tsz t + 1 + 0) ≤ _; omega⟩ ?_)
    rintro m σ' H' ⟨v6, v7, v8, v9, v10, b1, o1, xs, ys, is, rfl, g, hb1, hb2, hva', hwt, his, hprop, hle, hcov, rfl, hm2⟩
    repeat walk_at "w"
    refine ⟨sz100 (Nat.le_of_ble_eq_true rfl), fun e hpe => ?_⟩; generalize eH5 : upd H' e _ = H5; obtain ⟨g5, h5⟩ := new_facts TT hpe eH5; clear eH5
    have hwt5 := g5.keepL0 hwt
    refine w_neNil (SqL.of hwt5) h5 ?_
    repeat walk_at "w"
    rcases List.eq_nil_or_concat xs with rfl | ⟨xs, y, rfl⟩
    · repeat walk_at "w"
      cases his
      refine k b1 o1 ys H5 (g.trans g5.of0) (hb1.gr g5) hb2 hle (fun p hp ha => ?_) (g5.keepL0 hva') (by omega)
      rcases hcov p hp ha with z | ⟨i, hi, _⟩
      · exact z
      · cases hi
    · rw [List.concat_eq_append] at *
      obtain ⟨us, u', rfl, hus, hu'⟩ := Al.snoc his
      rw [List.map_append, List.map_singleton, stsz_snoc] at hm2 ⊢
      refine w_ite (by simp) ⟨_, fun σ' H' z => z, ?_⟩
      repeat walk_at "w"
      refine ⟨w_tyL (SqL.of hwt5), w_rpop hwt5 ?_⟩
      generalize eH6 : upd H5 wt _ = H6; obtain ⟨gH6, lH6, hH6⟩ := lst_facts (TT := TT) (wt0) (g.trans g5.of0) (hwt5) eH6; clear eH6
      have hva6 := lH6.keepL (g5.keepL0 hva') vw
      have hus6 : Al (McI K H6) xs us := Al.imp hus fun _ _ z => (z.gr g5).gr lH6
      obtain ⟨⟨a, bx, tv', rfl, ha, hbx, htv⟩, hbox, hkd'⟩ := (hu'.gr g5).gr lH6
      have hu6 := hu.gr gH6
      have hb6 := (hb1.gr g5).gr lH6
      obtain ⟨u', ax, bxr⟩ := u'
      obtain ⟨hszu, hsm, hpu⟩ := hprop _ (List.mem_append_right _ (List.mem_singleton.mpr rfl))
      have hprop' : ∀ i ∈ us, tsz i.1 ≤ 100 ∧ SmallR i.2.2 ∧ ∀ p ∈ rd i.1, PtOk p ∧ p ∈ keys ks := fun i hi => hprop i (List.mem_append_left _ hi)
      refine w_gtup (SqT.of ha) rfl (w_gcons (w_gname (w_gcons (w_gname (w_gcons (w_gname (w_gnil ?_)))))))
      repeat walk_at "w"
      have hxl := hus.len
      have hxs := stsz_len (us.map (·.1))
      rw [List.length_map] at hxs
      cases u' with
      | nil =>
        obtain rfl : tv' = .non := htv
        repeat walk_at "w"
        exact ⟨_, by omega, v6, _, _, _, v10, b1, o1, xs, ys, us, rfl, gH6, hb6, hb2, hva6, hH6, hus6, hprop', hle, cov_drop hcov (fun p hp => (by cases hp)), rfl, by omega⟩
      | node p l r =>
        have hm2 : ys.length + (stsz (us.map (·.1)) + (2 * (tsz l + tsz r + 1) + 1)) ≤ es.length + 201 := hm2
        obtain ⟨a2, qv, lv, rv, rfl, ha2, hpq, hl, hr2⟩ := id htv
        have hpk := (hpu p (List.mem_cons_self ..)).2
        have hpo := (hpu p (List.mem_cons_self ..)).1
        obtain ⟨bb, hbb⟩ : ∃ bb, getB ks p = some bb := by
          cases e : getB ks p with
          | none => exact absurd hpk (getB_none.mp e)
          | some bb => exact ⟨bb, rfl⟩
        cases o1 with
        | none =>
          obtain rfl : b1 = .non := id hb6
          repeat walk_at "w"
          have G7 : Gr TT (fun b => b = va) H H6 := gH6.trans (Gr.of0 (show Gr TT NoS H6 H6 from .refl H6))
          have hva7 := ((show Gr TT NoS H6 H6 from .refl H6)).keepL0 hva6
          refine ⟨w_tyL (SqL.of hva7), ?_⟩
          repeat walk_at "w"
          refine w_ixT (SqT.of (((show Gr TT NoS H6 H6 from .refl H6)).tup ha2)) (by rfl) ?_
          repeat walk_at "w"
          refine w_rapp hva7 (by omega) ?_
          have lva : Gr TT (fun b => b = va) H6 (upd H6 va (.lst (ys ++ [qv]))) := Gr.lst hva7
          have hva8 : upd H6 va (.lst (ys ++ [qv])) va = some (.lst (ys ++ [qv])) := upd_same
          generalize upd H6 va (.lst (ys ++ [qv])) = H8 at lva hva8 ⊢
          have l8 : Gr TT (fun b => b = va) H6 H8 := (Gr.of0 (show Gr TT NoS H6 H6 from .refl H6)).trans lva
          have G8 : Gr TT (fun b => b = va) H H8 := gH6.trans l8
          have hwt8 := l8.keepL hH6 vw.symm
          have hus8 : Al (McI K H8) xs us := Al.imp hus6 fun _ _ z => z.gr l8
          have ha8 := l8.tup ha2
          have hpq8 := hpq.gr l8
          have hl8 := hl.gr l8
          have hr8 := hr2.gr l8
          have hbx8 := l8.sqT hbx
          have hu8 := hu.gr G8
          have hb8 := BestV.gr hb6 l8
          have xva : x ≠ va := fun z => by
            have z1 := hf.ob
            rw [z, hva] at z1
            cases z1
          have kva : ka ≠ va := fun z => by
            have z1 := hf.kn
            rw [z, hva] at z1
            cases z1
          repeat walk_at "w"
          refine ⟨x, C, dx, _, .ref ka, rfl, G8.at_ hf.ob xva plain_ins.1, T.cl, T.nknown, rfl, ?_⟩
          repeat walk_at "w"
          refine w_ixT (SqT.of ha8) (by rfl) ?_
          obtain ⟨ad, rfl, had⟩ := id hpq8
          refine ⟨ka, .bl bb, rfl, .inr ⟨_, keyL p, ad, .inl (G8.at_ hf.kn kva plain_dT.1), rfl, had, by rw [valV_kn, hbb]; rfl⟩, ?_⟩
          cases bb with
          | true =>
            repeat walk_at "w"
            refine w_ixT (SqT.of ha8) (by rfl) ?_
            have hB8 : BestV H8 (.ref ad) (some p) := hpq8
            repeat walk_at "w"
            refine ⟨sz100 (Nat.le_of_ble_eq_true rfl), fun t2 hpt2 => ?_⟩; generalize eH9 : upd H8 t2 _ = H9; obtain ⟨g9, h9⟩ := new_facts TT hpt2 eH9; clear eH9
            refine ⟨t2, rfl, ⟨_, SqT.of h9⟩, fun D hD => ?_⟩
            refine w_lc (L2.walk_tup (xs := [false, true].map sdV)) TT NoS hD (fun i acc H' => Al (McI K H') acc (([false, true].take i).map (kidM p l r ax bxr))) .nil (fun i acc H' _ g _ _ => SqT.of (g.tup h9)) ?_ ?_
            · rintro i z acc Hc Hc' hi hal gc hDc hacc ⟨rfl, hx⟩
              rw [List.getElem?_map] at hx
              cases hsd : [false, true][i]? with
              | none =>
                rw [hsd] at hx
                cases hx
              | some sd =>
                rw [hsd] at hx
                obtain rfl : sdV sd = z := Option.some.inj hx
                have GG := g9.trans gc
                have hil : i < 2 := hi
                refine w_gname ⟨rfl, w_yes (w_T ?_)⟩
                repeat walk_at "w"
                refine w_ixT (v := if sd then rv else lv) (SqT.of (GG.tup ha8)) (by cases sd <;> rfl) ?_
                repeat walk_at "w"
                rw [show (1 : Int) - (if ax then 1 else 0) = (if (!ax) = true then 1 else 0) by cases ax <;> rfl]
                refine w_ixT (SqT.of (GG.tup ha8)) (by rfl) ?_
                repeat walk_at "w"
                refine w_ixT (SqT.of (GG.tup had)) ax_pt ?_
                repeat walk_at "w"
                refine ⟨bx, rcL bxr, ax, _, sd, rfl, GG.sqT hbx8, rfl, fun cb Hy gy hcb => ?_⟩
                rw [rc_cut] at hcb
                repeat walk_at "w"
                refine ⟨sz100 (Nat.le_of_ble_eq_true rfl), fun tp hptp => ?_⟩; generalize eHd : upd Hy tp _ = Hd; obtain ⟨gd, hd⟩ := new_facts TT hptp eHd; clear eHd
                have GY := gy.trans gd
                have lD : Gr TT (fun b => b = D) Hd (upd Hd D (.lst (acc ++ [.ref tp]))) := Gr.lst (GY.keepL0 hDc)
                refine lc_yes (gc.trans GY) hD (GY.keepL0 hDc) hal (by omega) ?_
                rw [List.take_add_one, hsd]
                show Al _ _ ((_ ++ [sd]).map _)
                rw [List.map_append]
                refine Al.app (Al.imp hacc fun _ _ z => (z.gr GY).gr lD) (.cons ⟨⟨tp, cb, _, rfl, lD.tup hd, SqT.of (lD.tup (gd.tup hcb)), ?_⟩, ?_, ?_⟩ .nil)
                · cases sd
                  · exact ((hl8.gr GG).gr GY).gr lD
                  · exact ((hr8.gr GG).gr GY).gr lD
                · cases sd
                  · exact box_low hbox hkd'
                  · exact box_high hbox hkd'
                · cases sd
                  · exact hkd'.2.2.1
                  · exact hkd'.2.2.2
            · rintro acc Hc gc hDc hal hacc
              have hacc : Al (McI K Hc) acc ([false, true].map (kidM p l r ax bxr)) := hacc
              have GG := g9.trans gc
              repeat walk_at "w"
              refine ⟨w_tyL (SqL.of (GG.keepL0 hwt8)), ?_⟩
              repeat walk_at "w"
              show tSortL _ _ _ _ _ _ _ _
              unfold tSortL
              repeat walk_at "w"
              refine ⟨D, acc, rfl, SqL.of hDc, (G8.trans GG.of0).tb tabs, McD, [false, true].map (kidM p l r ax bxr), McI K Hc, fun i => .int (gap q i.2.2), hacc, all_ints _, sort_ints _, fun d hd => ?_, fun y i Hy hy hi gy => ?_, fun zs so Hs hzs gs hso => ?_⟩
              · obtain ⟨i, _, rfl⟩ := List.mem_map.mp hd
                exact Nat.le_of_ble_eq_true rfl
              · obtain ⟨ia, ib, itv, rfl, hia, hib, _⟩ := (hy.gr gy).ex
                refine ⟨u, q, ia, ib, _, _, i.2.2, rfl, (hu8.gr GG).gr gy, rfl, hia, hib, hq.small, ?_, fun Hz gz => ⟨gz, .inl ⟨_, rfl, rfl⟩⟩⟩
                obtain ⟨sd, _, rfl⟩ := List.mem_map.mp hi
                exact cut_small hsm (hpu p (List.mem_cons_self ..)).1.small
              rw [PySem.W.dataLe_int] at hzs
              generalize hjs : List.mergeSort ([false, true].map (kidM p l r ax bxr)) _ = js at hzs
              have hperm : List.Perm js ([false, true].map (kidM p l r ax bxr)) := by rw [← hjs]; exact List.mergeSort_perm _ _
              generalize e2 : upd Hs so _ = Ht
              obtain ⟨g2, h2⟩ := new_facts TT hso e2
              clear e2
              have gt := gs.trans g2
              refine ⟨so, zs, rfl, SqL.of h2, ?_⟩
              intro rl hprl; generalize eHu : upd Ht rl _ = Hu; obtain ⟨gu, hu2⟩ := new_facts TT hprl eHu; clear eHu
              repeat walk_at "w"
              have GU := GG.trans (gt.trans gu)
              have hlen : zs.length = 2 := by rw [hzs.len, hperm.length_eq]; rfl
              refine w_rext (GU.keepL0 hwt8) hu2 (by rw [List.length_reverse]; omega) ?_
              have wt0' : H wt = none := wt0
              generalize eHe : upd Hu wt _ = He; obtain ⟨gHe, lHe, hHe⟩ := lst_facts (TT := TT) (wt0) (G8.trans GU.of0) (GU.keepL0 hwt8) eHe; clear eHe
              have up : Al (McI K He) (xs ++ zs.reverse) (us ++ js.reverse) := Al.app (Al.imp hus8 fun _ _ z => (z.gr GU).gr lHe) (Al.rev (Al.imp hzs fun _ _ z => ((z.gr gt).gr gu).gr lHe))
              have hmem : ∀ j ∈ js.reverse, ∃ sd, j = kidM p l r ax bxr sd := fun j hj => by
                obtain ⟨sd, _, e⟩ := List.mem_map.mp (hperm.mem_iff.mp (List.mem_reverse.mp hj))
                exact ⟨sd, e.symm⟩
              have hsz2 : stsz (js.reverse.map (·.1)) = 2 * (tsz l + tsz r) + 2 := by
                rw [stsz_perm ((((List.reverse_perm js).trans hperm)).map (·.1))]
                show 2 * tsz l + 1 + (2 * tsz r + 1 + 0) = _
                omega
              exact ⟨stsz ((us ++ js.reverse).map (·.1)), by rw [List.map_append, stsz_app, hsz2]; show _ < stsz (us.map (·.1)) + (2 * (tsz l + tsz r + 1) + 1); omega, _, _, _, _, _, (.ref ad), (some p), xs ++ zs.reverse, ys ++ [.ref ad], us ++ js.reverse, rfl, gHe, (hB8.gr GU).gr lHe, (fun b e => (by cases e; exact ⟨hbb,hpo⟩)), lHe.keepL (GU.keepL0 hva8) vw, hHe, up,
                kids_prop hprop' hsm hszu hpu hmem, fun b e => LeB.trans (hle b e) ((fun _ z => (by cases z))), cov_node hcov ((fun _ z => (by cases z))) ((fun _ => ⟨p,rfl,Int.le_refl _⟩)) (kids_in hperm), rfl, by rw [List.map_append, stsz_app, hsz2, List.length_append, List.length_singleton]; omega⟩
          | false =>
            have hB8 : BestV H8 .non none := rfl
            repeat walk_at "w"
            refine ⟨sz100 (Nat.le_of_ble_eq_true rfl), fun t2 hpt2 => ?_⟩; generalize eH9 : upd H8 t2 _ = H9; obtain ⟨g9, h9⟩ := new_facts TT hpt2 eH9; clear eH9
            refine ⟨t2, rfl, ⟨_, SqT.of h9⟩, fun D hD => ?_⟩
            refine w_lc (L2.walk_tup (xs := [false, true].map sdV)) TT NoS hD (fun i acc H' => Al (McI K H') acc (([false, true].take i).map (kidM p l r ax bxr))) .nil (fun i acc H' _ g _ _ => SqT.of (g.tup h9)) ?_ ?_
            · rintro i z acc Hc Hc' hi hal gc hDc hacc ⟨rfl, hx⟩
              rw [List.getElem?_map] at hx
              cases hsd : [false, true][i]? with
              | none =>
                rw [hsd] at hx
                cases hx
              | some sd =>
                rw [hsd] at hx
                obtain rfl : sdV sd = z := Option.some.inj hx
                have GG := g9.trans gc
                have hil : i < 2 := hi
                refine w_gname ⟨rfl, w_yes (w_T ?_)⟩
                repeat walk_at "w"
                refine w_ixT (v := if sd then rv else lv) (SqT.of (GG.tup ha8)) (by cases sd <;> rfl) ?_
                repeat walk_at "w"
                rw [show (1 : Int) - (if ax then 1 else 0) = (if (!ax) = true then 1 else 0) by cases ax <;> rfl]
                refine w_ixT (SqT.of (GG.tup ha8)) (by rfl) ?_
                repeat walk_at "w"
                refine w_ixT (SqT.of (GG.tup had)) ax_pt ?_
                repeat walk_at "w"
                refine ⟨bx, rcL bxr, ax, _, sd, rfl, GG.sqT hbx8, rfl, fun cb Hy gy hcb => ?_⟩
                rw [rc_cut] at hcb
                repeat walk_at "w"
                refine ⟨sz100 (Nat.le_of_ble_eq_true rfl), fun tp hptp => ?_⟩; generalize eHd : upd Hy tp _ = Hd; obtain ⟨gd, hd⟩ := new_facts TT hptp eHd; clear eHd
                have GY := gy.trans gd
                have lD : Gr TT (fun b => b = D) Hd (upd Hd D (.lst (acc ++ [.ref tp]))) := Gr.lst (GY.keepL0 hDc)
                refine lc_yes (gc.trans GY) hD (GY.keepL0 hDc) hal (by omega) ?_
                rw [List.take_add_one, hsd]
                show Al _ _ ((_ ++ [sd]).map _)
                rw [List.map_append]
                refine Al.app (Al.imp hacc fun _ _ z => (z.gr GY).gr lD) (.cons ⟨⟨tp, cb, _, rfl, lD.tup hd, SqT.of (lD.tup (gd.tup hcb)), ?_⟩, ?_, ?_⟩ .nil)
                · cases sd
                  · exact ((hl8.gr GG).gr GY).gr lD
                  · exact ((hr8.gr GG).gr GY).gr lD
                · cases sd
                  · exact box_low hbox hkd'
                  · exact box_high hbox hkd'
                · cases sd
                  · exact hkd'.2.2.1
                  · exact hkd'.2.2.2
            · rintro acc Hc gc hDc hal hacc
              have hacc : Al (McI K Hc) acc ([false, true].map (kidM p l r ax bxr)) := hacc
              have GG := g9.trans gc
              repeat walk_at "w"
              refine ⟨w_tyL (SqL.of (GG.keepL0 hwt8)), ?_⟩
              repeat walk_at "w"
              show tSortL _ _ _ _ _ _ _ _
              unfold tSortL
              repeat walk_at "w"
              refine ⟨D, acc, rfl, SqL.of hDc, (G8.trans GG.of0).tb tabs, McD, [false, true].map (kidM p l r ax bxr), McI K Hc, fun i => .int (gap q i.2.2), hacc, all_ints _, sort_ints _, fun d hd => ?_, fun y i Hy hy hi gy => ?_, fun zs so Hs hzs gs hso => ?_⟩
              · obtain ⟨i, _, rfl⟩ := List.mem_map.mp hd
                exact Nat.le_of_ble_eq_true rfl
              · obtain ⟨ia, ib, itv, rfl, hia, hib, _⟩ := (hy.gr gy).ex
                refine ⟨u, q, ia, ib, _, _, i.2.2, rfl, (hu8.gr GG).gr gy, rfl, hia, hib, hq.small, ?_, fun Hz gz => ⟨gz, .inl ⟨_, rfl, rfl⟩⟩⟩
                obtain ⟨sd, _, rfl⟩ := List.mem_map.mp hi
                exact cut_small hsm (hpu p (List.mem_cons_self ..)).1.small
              rw [PySem.W.dataLe_int] at hzs
              generalize hjs : List.mergeSort ([false, true].map (kidM p l r ax bxr)) _ = js at hzs
              have hperm : List.Perm js ([false, true].map (kidM p l r ax bxr)) := by rw [← hjs]; exact List.mergeSort_perm _ _
              generalize e2 : upd Hs so _ = Ht
              obtain ⟨g2, h2⟩ := new_facts TT hso e2
              clear e2
              have gt := gs.trans g2
              refine ⟨so, zs, rfl, SqL.of h2, ?_⟩
              intro rl hprl; generalize eHu : upd Ht rl _ = Hu; obtain ⟨gu, hu2⟩ := new_facts TT hprl eHu; clear eHu
              repeat walk_at "w"
              have GU := GG.trans (gt.trans gu)
              have hlen : zs.length = 2 := by rw [hzs.len, hperm.length_eq]; rfl
              refine w_rext (GU.keepL0 hwt8) hu2 (by rw [List.length_reverse]; omega) ?_
              have wt0' : H wt = none := wt0
              generalize eHe : upd Hu wt _ = He; obtain ⟨gHe, lHe, hHe⟩ := lst_facts (TT := TT) (wt0) (G8.trans GU.of0) (GU.keepL0 hwt8) eHe; clear eHe
              have up : Al (McI K He) (xs ++ zs.reverse) (us ++ js.reverse) := Al.app (Al.imp hus8 fun _ _ z => (z.gr GU).gr lHe) (Al.rev (Al.imp hzs fun _ _ z => ((z.gr gt).gr gu).gr lHe))
              have hmem : ∀ j ∈ js.reverse, ∃ sd, j = kidM p l r ax bxr sd := fun j hj => by
                obtain ⟨sd, _, e⟩ := List.mem_map.mp (hperm.mem_iff.mp (List.mem_reverse.mp hj))
                exact ⟨sd, e.symm⟩
              have hsz2 : stsz (js.reverse.map (·.1)) = 2 * (tsz l + tsz r) + 2 := by
                rw [stsz_perm ((((List.reverse_perm js).trans hperm)).map (·.1))]
                show 2 * tsz l + 1 + (2 * tsz r + 1 + 0) = _
                omega
              exact ⟨stsz ((us ++ js.reverse).map (·.1)), by rw [List.map_append, stsz_app, hsz2]; show _ < stsz (us.map (·.1)) + (2 * (tsz l + tsz r + 1) + 1); omega, _, _, _, _, _, .non, none, xs ++ zs.reverse, ys ++ [.ref ad], us ++ js.reverse, rfl, gHe, (hB8.gr GU).gr lHe, (fun b e => (by cases e)), lHe.keepL (GU.keepL0 hva8) vw, hHe, up,
                kids_prop hprop' hsm hszu hpu hmem, fun b e => LeB.trans (hle b e) ((fun _ z => (by cases z))), cov_node hcov ((fun _ z => (by cases z))) ((fun z => (by rw [hbb] at z; cases z))) (kids_in hperm), rfl, by rw [List.map_append, stsz_app, hsz2, List.length_append, List.length_singleton]; omega⟩
        | some b0 =>
          obtain ⟨ab, rfl, hab⟩ := id hb6
          have hb0 := hb2 b0 rfl
          repeat walk_at "w"
          refine ⟨u, q, bx, bxr, rfl, hu6, hbx, hq.small, hsm, fun H7 g7 => ?_⟩
          repeat walk_at "w"
          refine ⟨u, q, _, b0, rfl, hu6.gr g7, ⟨ab, rfl, g7.tup hab⟩, hq.small, hb0.2.small, ?_⟩
          repeat walk_at "w"
          by_cases hg : dst q b0 ≤ gap q bxr
          · rw [decide_eq_true hg]
            repeat walk_at "w"
            have hsub : ∀ y ∈ rd (.node p l r), LeB q (some b0) y := fun y hy => ⟨b0, rfl, Int.le_trans hg (gap_le (hbox y hy))⟩
            exact ⟨_, by show _ < stsz (us.map (·.1)) + (2 * (tsz l + tsz r + 1) + 1); omega, v6, _, _, _, v10, .ref ab, some b0, xs, ys, us, rfl, gH6.trans g7.of0, BestV.gr hb6 g7, hb2, g7.keepL0 hva6, g7.keepL0 hH6, Al.imp hus6 fun _ _ z => z.gr g7, hprop', hle, cov_drop hcov hsub, rfl, by omega⟩
          · rw [decide_eq_false hg]
            repeat walk_at "w"
            have G7 : Gr TT (fun b => b = va) H H7 := gH6.trans (Gr.of0 g7)
            have hva7 := (g7).keepL0 hva6
            refine ⟨w_tyL (SqL.of hva7), ?_⟩
            repeat walk_at "w"
            refine w_ixT (SqT.of ((g7).tup ha2)) (by rfl) ?_
            repeat walk_at "w"
            refine w_rapp hva7 (by omega) ?_
            have lva : Gr TT (fun b => b = va) H7 (upd H7 va (.lst (ys ++ [qv]))) := Gr.lst hva7
            have hva8 : upd H7 va (.lst (ys ++ [qv])) va = some (.lst (ys ++ [qv])) := upd_same
            generalize upd H7 va (.lst (ys ++ [qv])) = H8 at lva hva8 ⊢
            have l8 : Gr TT (fun b => b = va) H6 H8 := (Gr.of0 g7).trans lva
            have G8 : Gr TT (fun b => b = va) H H8 := gH6.trans l8
            have hwt8 := l8.keepL hH6 vw.symm
            have hus8 : Al (McI K H8) xs us := Al.imp hus6 fun _ _ z => z.gr l8
            have ha8 := l8.tup ha2
            have hpq8 := hpq.gr l8
            have hl8 := hl.gr l8
            have hr8 := hr2.gr l8
            have hbx8 := l8.sqT hbx
            have hu8 := hu.gr G8
            have hb8 := BestV.gr hb6 l8
            have xva : x ≠ va := fun z => by
              have z1 := hf.ob
              rw [z, hva] at z1
              cases z1
            have kva : ka ≠ va := fun z => by
              have z1 := hf.kn
              rw [z, hva] at z1
              cases z1
            repeat walk_at "w"
            refine ⟨x, C, dx, _, .ref ka, rfl, G8.at_ hf.ob xva plain_ins.1, T.cl, T.nknown, rfl, ?_⟩
            repeat walk_at "w"
            refine w_ixT (SqT.of ha8) (by rfl) ?_
            obtain ⟨ad, rfl, had⟩ := id hpq8
            refine ⟨ka, .bl bb, rfl, .inr ⟨_, keyL p, ad, .inl (G8.at_ hf.kn kva plain_dT.1), rfl, had, by rw [valV_kn, hbb]; rfl⟩, ?_⟩
            cases bb with
            | false =>
              repeat walk_at "w"
              refine ⟨sz100 (Nat.le_of_ble_eq_true rfl), fun t2 hpt2 => ?_⟩; generalize eH9 : upd H8 t2 _ = H9; obtain ⟨g9, h9⟩ := new_facts TT hpt2 eH9; clear eH9
              refine ⟨t2, rfl, ⟨_, SqT.of h9⟩, fun D hD => ?_⟩
              refine w_lc (L2.walk_tup (xs := [false, true].map sdV)) TT NoS hD (fun i acc H' => Al (McI K H') acc (([false, true].take i).map (kidM p l r ax bxr))) .nil (fun i acc H' _ g _ _ => SqT.of (g.tup h9)) ?_ ?_
              · rintro i z acc Hc Hc' hi hal gc hDc hacc ⟨rfl, hx⟩
                rw [List.getElem?_map] at hx
                cases hsd : [false, true][i]? with
                | none =>
                  rw [hsd] at hx
                  cases hx
                | some sd =>
                  rw [hsd] at hx
                  obtain rfl : sdV sd = z := Option.some.inj hx
                  have GG := g9.trans gc
                  have hil : i < 2 := hi
                  refine w_gname ⟨rfl, w_yes (w_T ?_)⟩
                  repeat walk_at "w"
                  refine w_ixT (v := if sd then rv else lv) (SqT.of (GG.tup ha8)) (by cases sd <;> rfl) ?_
                  repeat walk_at "w"
                  rw [show (1 : Int) - (if ax then 1 else 0) = (if (!ax) = true then 1 else 0) by cases ax <;> rfl]
                  refine w_ixT (SqT.of (GG.tup ha8)) (by rfl) ?_
                  repeat walk_at "w"
                  refine w_ixT (SqT.of (GG.tup had)) ax_pt ?_
                  repeat walk_at "w"
                  refine ⟨bx, rcL bxr, ax, _, sd, rfl, GG.sqT hbx8, rfl, fun cb Hy gy hcb => ?_⟩
                  rw [rc_cut] at hcb
                  repeat walk_at "w"
                  refine ⟨sz100 (Nat.le_of_ble_eq_true rfl), fun tp hptp => ?_⟩; generalize eHd : upd Hy tp _ = Hd; obtain ⟨gd, hd⟩ := new_facts TT hptp eHd; clear eHd
                  have GY := gy.trans gd
                  have lD : Gr TT (fun b => b = D) Hd (upd Hd D (.lst (acc ++ [.ref tp]))) := Gr.lst (GY.keepL0 hDc)
                  refine lc_yes (gc.trans GY) hD (GY.keepL0 hDc) hal (by omega) ?_
                  rw [List.take_add_one, hsd]
                  show Al _ _ ((_ ++ [sd]).map _)
                  rw [List.map_append]
                  refine Al.app (Al.imp hacc fun _ _ z => (z.gr GY).gr lD) (.cons ⟨⟨tp, cb, _, rfl, lD.tup hd, SqT.of (lD.tup (gd.tup hcb)), ?_⟩, ?_, ?_⟩ .nil)
                  · cases sd
                    · exact ((hl8.gr GG).gr GY).gr lD
                    · exact ((hr8.gr GG).gr GY).gr lD
                  · cases sd
                    · exact box_low hbox hkd'
                    · exact box_high hbox hkd'
                  · cases sd
                    · exact hkd'.2.2.1
                    · exact hkd'.2.2.2
              · rintro acc Hc gc hDc hal hacc
                have hacc : Al (McI K Hc) acc ([false, true].map (kidM p l r ax bxr)) := hacc
                have GG := g9.trans gc
                repeat walk_at "w"
                refine ⟨w_tyL (SqL.of (GG.keepL0 hwt8)), ?_⟩
                repeat walk_at "w"
                show tSortL _ _ _ _ _ _ _ _
                unfold tSortL
                repeat walk_at "w"
                refine ⟨D, acc, rfl, SqL.of hDc, (G8.trans GG.of0).tb tabs, McD, [false, true].map (kidM p l r ax bxr), McI K Hc, fun i => .int (gap q i.2.2), hacc, all_ints _, sort_ints _, fun d hd => ?_, fun y i Hy hy hi gy => ?_, fun zs so Hs hzs gs hso => ?_⟩
                · obtain ⟨i, _, rfl⟩ := List.mem_map.mp hd
                  exact Nat.le_of_ble_eq_true rfl
                · obtain ⟨ia, ib, itv, rfl, hia, hib, _⟩ := (hy.gr gy).ex
                  refine ⟨u, q, ia, ib, _, _, i.2.2, rfl, (hu8.gr GG).gr gy, rfl, hia, hib, hq.small, ?_, fun Hz gz => ⟨gz, .inl ⟨_, rfl, rfl⟩⟩⟩
                  obtain ⟨sd, _, rfl⟩ := List.mem_map.mp hi
                  exact cut_small hsm (hpu p (List.mem_cons_self ..)).1.small
                rw [PySem.W.dataLe_int] at hzs
                generalize hjs : List.mergeSort ([false, true].map (kidM p l r ax bxr)) _ = js at hzs
                have hperm : List.Perm js ([false, true].map (kidM p l r ax bxr)) := by rw [← hjs]; exact List.mergeSort_perm _ _
                generalize e2 : upd Hs so _ = Ht
                obtain ⟨g2, h2⟩ := new_facts TT hso e2
                clear e2
                have gt := gs.trans g2
                refine ⟨so, zs, rfl, SqL.of h2, ?_⟩
                intro rl hprl; generalize eHu : upd Ht rl _ = Hu; obtain ⟨gu, hu2⟩ := new_facts TT hprl eHu; clear eHu
                repeat walk_at "w"
                have GU := GG.trans (gt.trans gu)
                have hlen : zs.length = 2 := by rw [hzs.len, hperm.length_eq]; rfl
                refine w_rext (GU.keepL0 hwt8) hu2 (by rw [List.length_reverse]; omega) ?_
                have wt0' : H wt = none := wt0
                generalize eHe : upd Hu wt _ = He; obtain ⟨gHe, lHe, hHe⟩ := lst_facts (TT := TT) (wt0) (G8.trans GU.of0) (GU.keepL0 hwt8) eHe; clear eHe
                have up : Al (McI K He) (xs ++ zs.reverse) (us ++ js.reverse) := Al.app (Al.imp hus8 fun _ _ z => (z.gr GU).gr lHe) (Al.rev (Al.imp hzs fun _ _ z => ((z.gr gt).gr gu).gr lHe))
                have hmem : ∀ j ∈ js.reverse, ∃ sd, j = kidM p l r ax bxr sd := fun j hj => by
                  obtain ⟨sd, _, e⟩ := List.mem_map.mp (hperm.mem_iff.mp (List.mem_reverse.mp hj))
                  exact ⟨sd, e.symm⟩
                have hsz2 : stsz (js.reverse.map (·.1)) = 2 * (tsz l + tsz r) + 2 := by
                  rw [stsz_perm ((((List.reverse_perm js).trans hperm)).map (·.1))]
                  show 2 * tsz l + 1 + (2 * tsz r + 1 + 0) = _
                  omega
                exact ⟨stsz ((us ++ js.reverse).map (·.1)), by rw [List.map_append, stsz_app, hsz2]; show _ < stsz (us.map (·.1)) + (2 * (tsz l + tsz r + 1) + 1); omega, _, _, _, _, _, (.ref ab), (some b0), xs ++ zs.reverse, ys ++ [.ref ad], us ++ js.reverse, rfl, gHe, (hb8.gr GU).gr lHe, hb2, lHe.keepL (GU.keepL0 hva8) vw, hHe, up,
                  kids_prop hprop' hsm hszu hpu hmem, fun b e => LeB.trans (hle b e) ((fun b e => ⟨b,e,Int.le_refl _⟩)), cov_node hcov ((fun b e => ⟨b,e,Int.le_refl _⟩)) ((fun z => (by rw [hbb] at z; cases z))) (kids_in hperm), rfl, by rw [List.map_append, stsz_app, hsz2, List.length_append, List.length_singleton]; omega⟩
            | true =>
              repeat walk_at "w"
              refine w_ixT (SqT.of ha8) (by rfl) ?_
              repeat walk_at "w"
              refine ⟨u, q, _, p, rfl, hu8, hpq8, hq.small, hpo.small, ?_⟩
              repeat walk_at "w"
              refine ⟨u, q, _, b0, rfl, hu8, hb8, hq.small, hb0.2.small, ?_⟩
              repeat walk_at "w"
              by_cases hlt : dst q p < dst q b0
              · rw [decide_eq_true hlt]
                repeat walk_at "w"
                refine w_ixT (SqT.of ha8) (by rfl) ?_
                have hB8 : BestV H8 (.ref ad) (some p) := hpq8
                repeat walk_at "w"
                refine ⟨sz100 (Nat.le_of_ble_eq_true rfl), fun t2 hpt2 => ?_⟩; generalize eH9 : upd H8 t2 _ = H9; obtain ⟨g9, h9⟩ := new_facts TT hpt2 eH9; clear eH9
                refine ⟨t2, rfl, ⟨_, SqT.of h9⟩, fun D hD => ?_⟩
                refine w_lc (L2.walk_tup (xs := [false, true].map sdV)) TT NoS hD (fun i acc H' => Al (McI K H') acc (([false, true].take i).map (kidM p l r ax bxr))) .nil (fun i acc H' _ g _ _ => SqT.of (g.tup h9)) ?_ ?_
                · rintro i z acc Hc Hc' hi hal gc hDc hacc ⟨rfl, hx⟩
                  rw [List.getElem?_map] at hx
                  cases hsd : [false, true][i]? with
                  | none =>
                    rw [hsd] at hx
                    cases hx
                  | some sd =>
                    rw [hsd] at hx
                    obtain rfl : sdV sd = z := Option.some.inj hx
                    have GG := g9.trans gc
                    have hil : i < 2 := hi
                    refine w_gname ⟨rfl, w_yes (w_T ?_)⟩
                    repeat walk_at "w"
                    refine w_ixT (v := if sd then rv else lv) (SqT.of (GG.tup ha8)) (by cases sd <;> rfl) ?_
                    repeat walk_at "w"
                    rw [show (1 : Int) - (if ax then 1 else 0) = (if (!ax) = true then 1 else 0) by cases ax <;> rfl]
                    refine w_ixT (SqT.of (GG.tup ha8)) (by rfl) ?_
                    repeat walk_at "w"
                    refine w_ixT (SqT.of (GG.tup had)) ax_pt ?_
                    repeat walk_at "w"
                    refine ⟨bx, rcL bxr, ax, _, sd, rfl, GG.sqT hbx8, rfl, fun cb Hy gy hcb => ?_⟩
                    rw [rc_cut] at hcb
                    repeat walk_at "w"
                    refine ⟨sz100 (Nat.le_of_ble_eq_true rfl), fun tp hptp => ?_⟩; generalize eHd : upd Hy tp _ = Hd; obtain ⟨gd, hd⟩ := new_facts TT hptp eHd; clear eHd
                    have GY := gy.trans gd
                    have lD : Gr TT (fun b => b = D) Hd (upd Hd D (.lst (acc ++ [.ref tp]))) := Gr.lst (GY.keepL0 hDc)
                    refine lc_yes (gc.trans GY) hD (GY.keepL0 hDc) hal (by omega) ?_
                    rw [List.take_add_one, hsd]
                    show Al _ _ ((_ ++ [sd]).map _)
                    rw [List.map_append]
                    refine Al.app (Al.imp hacc fun _ _ z => (z.gr GY).gr lD) (.cons ⟨⟨tp, cb, _, rfl, lD.tup hd, SqT.of (lD.tup (gd.tup hcb)), ?_⟩, ?_, ?_⟩ .nil)
                    · cases sd
                      · exact ((hl8.gr GG).gr GY).gr lD
                      · exact ((hr8.gr GG).gr GY).gr lD
                    · cases sd
                      · exact box_low hbox hkd'
                      · exact box_high hbox hkd'
                    · cases sd
                      · exact hkd'.2.2.1
                      · exact hkd'.2.2.2
                · rintro acc Hc gc hDc hal hacc
                  have hacc : Al (McI K Hc) acc ([false, true].map (kidM p l r ax bxr)) := hacc
                  have GG := g9.trans gc
                  repeat walk_at "w"
                  refine ⟨w_tyL (SqL.of (GG.keepL0 hwt8)), ?_⟩
                  repeat walk_at "w"
                  show tSortL _ _ _ _ _ _ _ _
                  unfold tSortL
                  repeat walk_at "w"
                  refine ⟨D, acc, rfl, SqL.of hDc, (G8.trans GG.of0).tb tabs, McD, [false, true].map (kidM p l r ax bxr), McI K Hc, fun i => .int (gap q i.2.2), hacc, all_ints _, sort_ints _, fun d hd => ?_, fun y i Hy hy hi gy => ?_, fun zs so Hs hzs gs hso => ?_⟩
                  · obtain ⟨i, _, rfl⟩ := List.mem_map.mp hd
                    exact Nat.le_of_ble_eq_true rfl
                  · obtain ⟨ia, ib, itv, rfl, hia, hib, _⟩ := (hy.gr gy).ex
                    refine ⟨u, q, ia, ib, _, _, i.2.2, rfl, (hu8.gr GG).gr gy, rfl, hia, hib, hq.small, ?_, fun Hz gz => ⟨gz, .inl ⟨_, rfl, rfl⟩⟩⟩
                    obtain ⟨sd, _, rfl⟩ := List.mem_map.mp hi
                    exact cut_small hsm (hpu p (List.mem_cons_self ..)).1.small
                  rw [PySem.W.dataLe_int] at hzs
                  generalize hjs : List.mergeSort ([false, true].map (kidM p l r ax bxr)) _ = js at hzs
                  have hperm : List.Perm js ([false, true].map (kidM p l r ax bxr)) := by rw [← hjs]; exact List.mergeSort_perm _ _
                  generalize e2 : upd Hs so _ = Ht
                  obtain ⟨g2, h2⟩ := new_facts TT hso e2
                  clear e2
                  have gt := gs.trans g2
                  refine ⟨so, zs, rfl, SqL.of h2, ?_⟩
                  intro rl hprl; generalize eHu : upd Ht rl _ = Hu; obtain ⟨gu, hu2⟩ := new_facts TT hprl eHu; clear eHu
                  repeat walk_at "w"
                  have GU := GG.trans (gt.trans gu)
                  have hlen : zs.length = 2 := by rw [hzs.len, hperm.length_eq]; rfl
                  refine w_rext (GU.keepL0 hwt8) hu2 (by rw [List.length_reverse]; omega) ?_
                  have wt0' : H wt = none := wt0
                  generalize eHe : upd Hu wt _ = He; obtain ⟨gHe, lHe, hHe⟩ := lst_facts (TT := TT) (wt0) (G8.trans GU.of0) (GU.keepL0 hwt8) eHe; clear eHe
                  have up : Al (McI K He) (xs ++ zs.reverse) (us ++ js.reverse) := Al.app (Al.imp hus8 fun _ _ z => (z.gr GU).gr lHe) (Al.rev (Al.imp hzs fun _ _ z => ((z.gr gt).gr gu).gr lHe))
                  have hmem : ∀ j ∈ js.reverse, ∃ sd, j = kidM p l r ax bxr sd := fun j hj => by
                    obtain ⟨sd, _, e⟩ := List.mem_map.mp (hperm.mem_iff.mp (List.mem_reverse.mp hj))
                    exact ⟨sd, e.symm⟩
                  have hsz2 : stsz (js.reverse.map (·.1)) = 2 * (tsz l + tsz r) + 2 := by
                    rw [stsz_perm ((((List.reverse_perm js).trans hperm)).map (·.1))]
                    show 2 * tsz l + 1 + (2 * tsz r + 1 + 0) = _
                    omega
                  exact ⟨stsz ((us ++ js.reverse).map (·.1)), by rw [List.map_append, stsz_app, hsz2]; show _ < stsz (us.map (·.1)) + (2 * (tsz l + tsz r + 1) + 1); omega, _, _, _, _, _, (.ref ad), (some p), xs ++ zs.reverse, ys ++ [.ref ad], us ++ js.reverse, rfl, gHe, (hB8.gr GU).gr lHe, (fun b e => (by cases e; exact ⟨hbb,hpo⟩)), lHe.keepL (GU.keepL0 hva8) vw, hHe, up,
                    kids_prop hprop' hsm hszu hpu hmem, fun b e => LeB.trans (hle b e) ((fun b e => (by cases e; exact ⟨p,rfl,Int.le_of_lt hlt⟩))), cov_node hcov ((fun b e => (by cases e; exact ⟨p,rfl,Int.le_of_lt hlt⟩))) ((fun _ => ⟨p,rfl,Int.le_refl _⟩)) (kids_in hperm), rfl, by rw [List.map_append, stsz_app, hsz2, List.length_append, List.length_singleton]; omega⟩
              · rw [decide_eq_false hlt]
                repeat walk_at "w"
                refine ⟨sz100 (Nat.le_of_ble_eq_true rfl), fun t2 hpt2 => ?_⟩; generalize eH9 : upd H8 t2 _ = H9; obtain ⟨g9, h9⟩ := new_facts TT hpt2 eH9; clear eH9
                refine ⟨t2, rfl, ⟨_, SqT.of h9⟩, fun D hD => ?_⟩
                refine w_lc (L2.walk_tup (xs := [false, true].map sdV)) TT NoS hD (fun i acc H' => Al (McI K H') acc (([false, true].take i).map (kidM p l r ax bxr))) .nil (fun i acc H' _ g _ _ => SqT.of (g.tup h9)) ?_ ?_
                · rintro i z acc Hc Hc' hi hal gc hDc hacc ⟨rfl, hx⟩
                  rw [List.getElem?_map] at hx
                  cases hsd : [false, true][i]? with
                  | none =>
                    rw [hsd] at hx
                    cases hx
                  | some sd =>
                    rw [hsd] at hx
                    obtain rfl : sdV sd = z := Option.some.inj hx
                    have GG := g9.trans gc
                    have hil : i < 2 := hi
                    refine w_gname ⟨rfl, w_yes (w_T ?_)⟩
                    repeat walk_at "w"
                    refine w_ixT (v := if sd then rv else lv) (SqT.of (GG.tup ha8)) (by cases sd <;> rfl) ?_
                    repeat walk_at "w"
                    rw [show (1 : Int) - (if ax then 1 else 0) = (if (!ax) = true then 1 else 0) by cases ax <;> rfl]
                    refine w_ixT (SqT.of (GG.tup ha8)) (by rfl) ?_
                    repeat walk_at "w"
                    refine w_ixT (SqT.of (GG.tup had)) ax_pt ?_
                    repeat walk_at "w"
                    refine ⟨bx, rcL bxr, ax, _, sd, rfl, GG.sqT hbx8, rfl, fun cb Hy gy hcb => ?_⟩
                    rw [rc_cut] at hcb
                    repeat walk_at "w"
                    refine ⟨sz100 (Nat.le_of_ble_eq_true rfl), fun tp hptp => ?_⟩; generalize eHd : upd Hy tp _ = Hd; obtain ⟨gd, hd⟩ := new_facts TT hptp eHd; clear eHd
                    have GY := gy.trans gd
                    have lD : Gr TT (fun b => b = D) Hd (upd Hd D (.lst (acc ++ [.ref tp]))) := Gr.lst (GY.keepL0 hDc)
                    refine lc_yes (gc.trans GY) hD (GY.keepL0 hDc) hal (by omega) ?_
                    rw [List.take_add_one, hsd]
                    show Al _ _ ((_ ++ [sd]).map _)
                    rw [List.map_append]
                    refine Al.app (Al.imp hacc fun _ _ z => (z.gr GY).gr lD) (.cons ⟨⟨tp, cb, _, rfl, lD.tup hd, SqT.of (lD.tup (gd.tup hcb)), ?_⟩, ?_, ?_⟩ .nil)
                    · cases sd
                      · exact ((hl8.gr GG).gr GY).gr lD
                      · exact ((hr8.gr GG).gr GY).gr lD
                    · cases sd
                      · exact box_low hbox hkd'
                      · exact box_high hbox hkd'
                    · cases sd
                      · exact hkd'.2.2.1
                      · exact hkd'.2.2.2
                · rintro acc Hc gc hDc hal hacc
                  have hacc : Al (McI K Hc) acc ([false, true].map (kidM p l r ax bxr)) := hacc
                  have GG := g9.trans gc
                  repeat walk_at "w"
                  refine ⟨w_tyL (SqL.of (GG.keepL0 hwt8)), ?_⟩
                  repeat walk_at "w"
                  show tSortL _ _ _ _ _ _ _ _
                  unfold tSortL
                  repeat walk_at "w"
                  refine ⟨D, acc, rfl, SqL.of hDc, (G8.trans GG.of0).tb tabs, McD, [false, true].map (kidM p l r ax bxr), McI K Hc, fun i => .int (gap q i.2.2), hacc, all_ints _, sort_ints _, fun d hd => ?_, fun y i Hy hy hi gy => ?_, fun zs so Hs hzs gs hso => ?_⟩
                  · obtain ⟨i, _, rfl⟩ := List.mem_map.mp hd
                    exact Nat.le_of_ble_eq_true rfl
                  · obtain ⟨ia, ib, itv, rfl, hia, hib, _⟩ := (hy.gr gy).ex
                    refine ⟨u, q, ia, ib, _, _, i.2.2, rfl, (hu8.gr GG).gr gy, rfl, hia, hib, hq.small, ?_, fun Hz gz => ⟨gz, .inl ⟨_, rfl, rfl⟩⟩⟩
                    obtain ⟨sd, _, rfl⟩ := List.mem_map.mp hi
                    exact cut_small hsm (hpu p (List.mem_cons_self ..)).1.small
                  rw [PySem.W.dataLe_int] at hzs
                  generalize hjs : List.mergeSort ([false, true].map (kidM p l r ax bxr)) _ = js at hzs
                  have hperm : List.Perm js ([false, true].map (kidM p l r ax bxr)) := by rw [← hjs]; exact List.mergeSort_perm _ _
                  generalize e2 : upd Hs so _ = Ht
                  obtain ⟨g2, h2⟩ := new_facts TT hso e2
                  clear e2
                  have gt := gs.trans g2
                  refine ⟨so, zs, rfl, SqL.of h2, ?_⟩
                  intro rl hprl; generalize eHu : upd Ht rl _ = Hu; obtain ⟨gu, hu2⟩ := new_facts TT hprl eHu; clear eHu
                  repeat walk_at "w"
                  have GU := GG.trans (gt.trans gu)
                  have hlen : zs.length = 2 := by rw [hzs.len, hperm.length_eq]; rfl
                  refine w_rext (GU.keepL0 hwt8) hu2 (by rw [List.length_reverse]; omega) ?_
                  have wt0' : H wt = none := wt0
                  generalize eHe : upd Hu wt _ = He; obtain ⟨gHe, lHe, hHe⟩ := lst_facts (TT := TT) (wt0) (G8.trans GU.of0) (GU.keepL0 hwt8) eHe; clear eHe
                  have up : Al (McI K He) (xs ++ zs.reverse) (us ++ js.reverse) := Al.app (Al.imp hus8 fun _ _ z => (z.gr GU).gr lHe) (Al.rev (Al.imp hzs fun _ _ z => ((z.gr gt).gr gu).gr lHe))
                  have hmem : ∀ j ∈ js.reverse, ∃ sd, j = kidM p l r ax bxr sd := fun j hj => by
                    obtain ⟨sd, _, e⟩ := List.mem_map.mp (hperm.mem_iff.mp (List.mem_reverse.mp hj))
                    exact ⟨sd, e.symm⟩
                  have hsz2 : stsz (js.reverse.map (·.1)) = 2 * (tsz l + tsz r) + 2 := by
                    rw [stsz_perm ((((List.reverse_perm js).trans hperm)).map (·.1))]
                    show 2 * tsz l + 1 + (2 * tsz r + 1 + 0) = _
                    omega
                  exact ⟨stsz ((us ++ js.reverse).map (·.1)), by rw [List.map_append, stsz_app, hsz2]; show _ < stsz (us.map (·.1)) + (2 * (tsz l + tsz r + 1) + 1); omega, _, _, _, _, _, (.ref ab), (some b0), xs ++ zs.reverse, ys ++ [.ref ad], us ++ js.reverse, rfl, gHe, (hb8.gr GU).gr lHe, hb2, lHe.keepL (GU.keepL0 hva8) vw, hHe, up,
                    kids_prop hprop' hsm hszu hpu hmem, fun b e => LeB.trans (hle b e) ((fun b e => ⟨b,e,Int.le_refl _⟩)), cov_node hcov ((fun b e => ⟨b,e,Int.le_refl _⟩)) ((fun _ => ⟨b0,rfl,Int.not_lt.mp hlt⟩)) (kids_in hperm), rfl, by rw [List.map_append, stsz_app, hsz2, List.length_append, List.length_singleton]; omega⟩
def spNearest (C : Addr) (TT : List (Addr × Str)) : Sp := fun vs H Q _ => ∃ x dx pa ka ks pl tot u q, vs = [.ref x, u] ∧ FoV C H x dx pa ka ks pl tot ∧ (∀ t ∈ pl, Kd false t ∧ tok t) ∧ (∀ p ∈ pts pl, p ∈ keys ks) ∧ (pts pl).length ≤ 60 ∧ pl.length ≤ 50 ∧ ks.length ≤ 100 ∧ PtV H u q ∧ PtOk q ∧ Tabs TT H ∧
  ∀ a rv vl ro H', Gr TT NoS H H' → H' a = some (.tup [rv, .ref vl]) → BestV H' rv ro → BestOk ks ro → (∀ p ∈ pts pl, getB ks p = some true → LeB q ro p) → Q (.ref a) H'
abbrev s_Forest_nearest : Stmt := inClass (topS 50) 11
abbrev N_Forest_nearest : List Str := ["self", "point", "tree", "best", "visited"]
theorem sc_Forest_nearest : FnScope N_Forest_nearest ["self", "point"] (C8.fnScope s_Forest_nearest) := ⟨rfl, rfl, rfl, by decide +kernel, rfl, by decide +kernel, by decide +kernel⟩
theorem met_nearest {TT : List (Addr × Str)} {f : Addr} {fd : FuncData} (me : Meth K C "nearest" f) (F : C8.Fun K "nearest" "Forest.nearest" s_Forest_nearest f fd) (b : Binds K fd ["self", "point"] []) (T : Txt K mg aE C)
    (c_require_point : C8.Cal P w K mg base 5 "require_point" spReqPoint []) (m_search : C8.Met P w K mg base 5 C "search" (spSearch C TT) []) : C8.Met P w K mg base 6 C "nearest" (spNearest C TT) [] := by
  refine C8.met0 T.cl me F b sc_Forest_nearest (fun vs H Q E h => ?_) (fun cdv A outer s H vs Q E hr h => ?_)
  · obtain ⟨x, dx, pa, ka, ks, pl, tot, u, q, rfl, _⟩ := h
    rfl
  · obtain ⟨x, dx, pa, ka, ks, pl, tot, u, q, rfl, hf, htr, hkey, hlen, hpl, hkl, hu, hq, tabs, k⟩ := h
    have nd := sc_Forest_nearest.nd
    refine ⟨_, (pss_cons (ps_expr (C8.pe_c c_require_point hr (by decide) (by rfl) (pa_cons (pv 1) pa_nil)))
  (pss_cons (ps_par (i := 3) (j := 4) rfl nd rfl rfl (by decide) rfl rfl (pa_cons pe_non (pa_cons (pe_lst pa_nil) pa_nil)) (by rfl))
  (pss_cons (ps_for PassesOwn.never rfl (pi_list (pe_fld (pv 0) rfl)) (pg_name (i := 2) nd rfl (Or.inl rfl)) (pss_one (ps_set (i := 3) nd rfl (Or.inl rfl) (C8.pe_mt m_search hr (by decide) (pv 0) (pa_cons (pv 2) (pa_cons (pv 1) (pa_cons (pv 3) (pa_cons (pv 4) pa_nil))))))))
  (pss_one (ps_ret (pe_tup (pa_cons (pv 3) (pa_cons (pv 4) pa_nil)))))))), ?_⟩
    repeat walk_at "w"
    refine ⟨u, q, rfl, hu, hq, ?_⟩
    repeat walk_at "w"
    refine ⟨sz100 (Nat.le_of_ble_eq_true rfl), fun vi hpvi => ?_⟩; generalize eH3 : upd H vi _ = H3; obtain ⟨g3, h3⟩ := new_facts TT hpvi eH3; clear eH3
    repeat walk_at "w"
    have hf3 := hf.gr0 g3
    with_reducible refine w_forI ?_
    repeat walk_at "w"
    refine ⟨x, C, dx, _, .ref pa, rfl, hf3.ob, T.cl, T.nplaces, rfl, ?_⟩
    obtain ⟨xs, hpa, hxs⟩ := hf.ex
    have hpa3 := g3.keepL0 hpa
    have hxl := hxs.len
    refine ⟨pa, rfl, ⟨_, SqL.of hpa3⟩, for_list (K := K) (a := pa) (xs := xs) (fun i σ' H' => ∃ (v2 : Option V) (bv : V) (bo : Option Pt) (es : List V), σ' = [some (.ref x), some u, v2, some bv, some (.ref vi)] ∧ Gr TT NoS H H' ∧ BestV H' bv bo ∧ BestOk ks bo ∧ (∀ p ∈ pts (pl.take i), getB ks p = some true → LeB q bo p) ∧ H' vi = some (.lst es) ∧ es.length ≤ 201 * i)
      ⟨none, .non, none, [], rfl, g3, rfl, fun _ z => (by cases z), fun p hp => (by rw [List.take_zero] at hp; cases hp), h3, Nat.zero_le _⟩ (fun i σ' H' _ ⟨_, _, _, _, _, z, _⟩ => SqL.of (z.keepL0 hpa)) ?_ ?_⟩
    · rintro i y σ' H' hy ⟨v2, bv, bo, es, rfl, g, hbv, hbo, hcov, hvi, hes⟩
      obtain ⟨t, ht, hyt⟩ := Al.get hxs hy
      have htm := List.mem_of_getElem? ht
      have htsz := tsz_pts htm
      have hi := (List.getElem?_eq_some_iff.mp hy).1
      have hf' := hf.gr0 g
      have e2 : pl.take (i + 1) = pl.take i ++ [t] := by
        rw [List.take_add_one, ht]
        rfl
      refine w_gname ?_
      repeat walk_at "w"
      refine ⟨x, dx, _, rfl, hf'.ob, rfl, ?_⟩
      repeat walk_at "w"
      refine ⟨x, dx, pa, ka, ks, pl, tot, y, t, u, q, bv, bo, vi, es, rfl, hf', hyt.gr g, by omega, (htr t htm).1, (htr t htm).2, fun p hp => hkey p (List.mem_flatMap.mpr ⟨t, htm, hp⟩), hkl, hu.gr g, hq, hbv, hbo, hvi, by omega, g.tb tabs, fun rv ro es' H4 g4 hrv hro hle hco hvi4 hel => ?_⟩
      repeat walk_at "w"
      refine ⟨_, rv, ro, es', rfl, g.newS g4 (fun b e => by rw [e]; exact hpvi), hrv, hro, fun p hp ha => ?_, hvi4, by omega⟩
      rw [e2] at hp
      unfold pts at hp
      rw [List.flatMap_append] at hp
      rcases List.mem_append.mp hp with h1 | h1
      · exact (hcov p h1 ha).trans hle
      · exact hco p (by simpa using h1) ha
    · rintro σ' H' ⟨v2, bv, bo, es, rfl, g, hbv, hbo, hcov, hvi, hes⟩
      rw [hxl, List.take_of_length_le (Nat.le_refl _)] at hcov
      repeat walk_at "w"
      refine ⟨sz100 (Nat.le_of_ble_eq_true rfl), fun out hpout => ?_⟩; generalize eH6 : upd H' out _ = H6; obtain ⟨g6, h6⟩ := new_facts TT hpout eH6; clear eH6
      exact k out bv vi bo H6 (g.trans g6) h6 (hbv.gr g6) hbo hcov
end
end Wd
end
section
/-! The law's draws. -/
namespace Wd
open PySem PySem.Spec PyProof.Rows L2 LamX NdefX
local macro_rules | `(tactic| walk_at "w") => `(tactic| first
  | with_reducible refine w_var (by with_unfolding_all rfl) ?_
  | with_reducible refine w_aug (by with_unfolding_all rfl) ?_
  | with_reducible refine w_op ?_
  | with_reducible refine w_c ?_
  | with_reducible refine w_I0 ?_
  | with_reducible refine w_cons ?_
  | with_reducible refine w_nil ?_
  | with_reducible refine w_call ?_
  | with_reducible refine w_cb ?_
  | with_reducible refine w_seq ?_
  | with_reducible refine w_ret ?_
  | with_reducible refine w_set ?_
  | with_reducible refine w_if ?_
  | with_reducible refine w_test ?_
  | with_reducible refine w_B ?_
  | with_reducible refine w_k ?_
  | with_reducible refine w_and ?_
  | with_reducible refine w_or ?_
  | with_reducible refine w_not ?_
  | with_reducible refine w_andV ?_
  | with_reducible refine w_orV ?_
  | with_reducible refine w_notV ?_
  | with_reducible refine w_ifE ?_
  | with_reducible refine w_chain ?_
  | with_reducible refine w_un ?_
  | with_reducible refine w_U ?_
  | with_reducible refine w_isN ?_
  | with_reducible refine w_notN ?_
  | with_reducible refine w_T ?_
  | with_reducible refine w_F ?_
  | with_reducible refine w_next ?_
  | with_reducible refine w_drop ?_
  | with_reducible refine w_par2 ?_
  | with_reducible refine w_par3 ?_
  | with_reducible refine w_tup ?_
  | with_reducible refine w_lst ?_
  | with_reducible refine w_bm ?_
  | with_reducible refine w_bm0 ?_
  | with_reducible refine w_gname ?_
  | with_reducible refine w_gcons ?_
  | with_reducible refine w_lcI ?_
  | with_reducible refine w_lc2I ?_
  | with_reducible refine w_iTup ?_
  | with_reducible refine w_iList ?_
  | with_reducible refine w_yes ?_
  | with_reducible refine w_din ?_
  | with_reducible refine w_dput ?_
  | with_reducible refine w_dget2 ?_
  | with_reducible refine w_iEnum ?_
  | with_reducible refine w_sl ?_
  | with_reducible refine w_noP ?_
  | with_reducible refine w_part ?_
  | with_reducible refine w_asg ?_
  | with_reducible refine w_ip ?_
  | with_reducible refine w_cont ?_
  | with_reducible refine w_callD ?_
  | with_reducible refine w_thru ?_
  | with_reducible refine w_star ?_
  | with_reducible refine w_bits ?_
  | with_reducible refine w_revL ?_
  | with_reducible refine w_fld ?_
  | with_reducible refine w_dget ?_
  | with_reducible refine w_keys ?_
  | with_reducible refine w_gsub ?_
  | with_reducible refine w_fldaug ?_
  | with_reducible refine w_sfld ?_
  | with_reducible refine w_meth ?_
  | with_reducible refine w_make ?_
  | with_reducible refine w_ite (by with_unfolding_all rfl) ?_ | with_reducible refine w_itf (by with_unfolding_all rfl) ?_)
section
variable {P : Program} {w : World} {K : PySem.W.Frag} {mg : Str → Option Value} {base : Heap} {aE C : Addr}
def spMixed : Sp := fun vs H Q _ => ∃ s d : Int, vs = [.int s, .int d] ∧ ∀ i : Int, 0 ≤ i → Q (.int i) H
theorem mod_pos (i : Int) {m : Int} (h : 0 < m) : 0 ≤ i % m ∧ i % m < m := ⟨Int.emod_nonneg _ (by omega), Int.emod_lt_of_pos _ h⟩
abbrev s_law_mixed : Stmt := topS 53
abbrev N_law_mixed : List Str := ["_law_seed", "_law_draw", "_law_figure"]
theorem sc_law_mixed : FnScope N_law_mixed ["_law_seed", "_law_draw"] (C8.fnScope s_law_mixed) := ⟨rfl, rfl, rfl, by decide +kernel, rfl, by decide +kernel, by decide +kernel⟩
theorem cal_law_mixed {f : Addr} {fd : FuncData} (F : C8.Def K mg "_law_mixed" s_law_mixed f fd) (b : Binds K fd ["_law_seed", "_law_draw"] []) (T : Txt K mg aE C) : C8.Cal P w K mg base 1 "_law_mixed" spMixed [] := by
  refine C8.cal0 F b .nil sc_law_mixed (fun vs H Q E h => ?_) (fun cdv A outer s H vs Q E hr h => ?_)
  · obtain ⟨s, d, rfl, _⟩ := h
    rfl
  · obtain ⟨sd, d, rfl, k⟩ := h
    have nd := sc_law_mixed.nd
    refine ⟨_, (pss_cons (ps_set (i := 2) nd rfl (Or.inl rfl) (pe_op op_mod (pe_callTy call_int1 (by rfl) T.nint (by decide +kernel) (pa_cons (pe_op op_mul (pe_op op_add (pe_op op_mod (pe_callTy call_int1 (by rfl) T.nint (by decide +kernel) (pa_cons (pv 0) pa_nil)) pe_int) pe_int) (pe_op op_add (pe_op op_mul (pv 1) pe_int) pe_int)) pa_nil)) pe_int))
  (pss_cons (ps_set (i := 2) nd rfl (Or.inl rfl) (pe_op op_mod (pe_callTy call_int1 (by rfl) T.nint (by decide +kernel) (pa_cons (pe_op op_mul (pe_op op_add (pv 2) (pe_op op_mul (pe_op op_mod (pe_callTy call_int1 (by rfl) T.nint (by decide +kernel) (pa_cons (pe_op op_fdivW (pv 0) pe_int) pa_nil)) pe_int) (pe_op op_add (pv 1) pe_int))) pe_int) pa_nil)) pe_int))
  (pss_cons (ps_set (i := 2) nd rfl (Or.inl rfl) (pe_op op_mod (pe_callTy call_int1 (by rfl) T.nint (by decide +kernel) (pa_cons (pe_op op_mul (pv 2) (pe_op op_add (pe_op op_add (pe_op op_fdiv (pv 2) pe_int) pe_int) (pv 1))) pa_nil)) pe_int))
  (pss_one (ps_ret (pe_op op_mod (pe_callTy call_int1 (by rfl) T.nint (by decide +kernel) (pa_cons (pe_op op_mul (pv 2) (pe_op op_add (pe_op op_fdiv (pv 2) pe_int) pe_int)) pa_nil)) pe_int)))))), ?_⟩
    repeat walk_at "w"
    refine .inl ⟨_, rfl, ?_⟩
    repeat walk_at "w"
    refine w_I (by decide) ?_
    generalize hx : _ % (2147483646 : Int) = x1
    obtain ⟨bx1, cx1⟩ : 0 ≤ x1 ∧ x1 < (2147483646 : Int) := by rw [← hx]; exact mod_pos _ (by decide)
    clear hx
    repeat walk_at "w"
    refine w_I (.inr ⟨by decide, by decide⟩) ?_
    repeat walk_at "w"
    refine w_I (.inl ⟨by omega, by omega⟩) ?_
    repeat walk_at "w"
    refine .inl ⟨_, rfl, ?_⟩
    repeat walk_at "w"
    refine w_I (by decide) ?_
    generalize hx : _ % (2147483647 : Int) = f1
    obtain ⟨bf1, cf1⟩ : 0 ≤ f1 ∧ f1 < (2147483647 : Int) := by rw [← hx]; exact mod_pos _ (by decide)
    clear hx
    repeat walk_at "w"
    refine w_I ⟨by decide, by decide +kernel⟩ ?_
    repeat walk_at "w"
    refine .inl ⟨_, rfl, ?_⟩
    repeat walk_at "w"
    refine w_I (by decide) ?_
    generalize hx : _ % (1000003 : Int) = x2
    obtain ⟨bx2, cx2⟩ : 0 ≤ x2 ∧ x2 < (1000003 : Int) := by rw [← hx]; exact mod_pos _ (by decide)
    clear hx
    repeat walk_at "w"
    refine w_I (.inl ⟨by omega, by omega⟩) ?_
    repeat walk_at "w"
    refine w_I (.inr ⟨by decide, by decide⟩) ?_
    repeat walk_at "w"
    refine .inl ⟨_, rfl, ?_⟩
    repeat walk_at "w"
    refine w_I (by decide) ?_
    generalize hx : _ % (2147483629 : Int) = f2
    obtain ⟨bf2, cf2⟩ : 0 ≤ f2 ∧ f2 < (2147483629 : Int) := by rw [← hx]; exact mod_pos _ (by decide)
    clear hx
    repeat walk_at "w"
    refine w_I ⟨by decide, by decide⟩ ?_
    repeat walk_at "w"
    refine w_I (.inl ⟨by omega, by omega⟩) ?_
    repeat walk_at "w"
    refine .inl ⟨_, rfl, ?_⟩
    repeat walk_at "w"
    refine w_I (by decide) ?_
    generalize hx : _ % (2147483587 : Int) = f3
    obtain ⟨bf3, cf3⟩ : 0 ≤ f3 ∧ f3 < (2147483587 : Int) := by rw [← hx]; exact mod_pos _ (by decide)
    clear hx
    repeat walk_at "w"
    refine w_I ⟨by decide, by decide⟩ ?_
    repeat walk_at "w"
    refine w_I (.inl ⟨by omega, by omega⟩) ?_
    repeat walk_at "w"
    refine .inl ⟨_, rfl, ?_⟩
    repeat walk_at "w"
    refine w_I (by decide) ?_
    exact k _ (mod_pos _ (by decide)).1
def Src (H : Hp) (a : Addr) : Prop := ∃ c0 c1 c2 : Int, H a = some (.lst [.int c0, .int c1, .int c2])
theorem Src.gr {T : List (Addr × Str)} {H H1 : Hp} {a : Addr} (h : Src H a) (g : Gr T NoS H H1) : Src H1 a := by
  obtain ⟨c0, c1, c2, h⟩ := h
  exact ⟨c0, c1, c2, g.keepL0 h⟩
def spLSource (TT : List (Addr × Str)) : Sp := fun vs H Q _ => ∃ s : Int, vs = [.int s] ∧ ∀ a H', Gr TT NoS H H' → H a = none → Src H' a → Q (.ref a) H'
abbrev s_law_source : Stmt := topS 54
abbrev N_law_source : List Str := ["_law_seed"]
theorem sc_law_source : FnScope N_law_source ["_law_seed"] (C8.fnScope s_law_source) := ⟨rfl, rfl, rfl, by decide +kernel, rfl, by decide +kernel, by decide +kernel⟩
theorem cal_law_source {TT : List (Addr × Str)} {f : Addr} {fd : FuncData} (F : C8.Def K mg "_law_source" s_law_source f fd) (b : Binds K fd ["_law_seed"] []) (T : Txt K mg aE C) : C8.Cal P w K mg base 1 "_law_source" (spLSource TT) [] := by
  refine C8.cal0 F b .nil sc_law_source (fun vs H Q E h => ?_) (fun cdv A outer s H vs Q E hr h => ?_)
  · obtain ⟨s, rfl, _⟩ := h
    rfl
  · obtain ⟨sd, rfl, k⟩ := h
    have nd := sc_law_source.nd
    refine ⟨_, (pss_cons (ps_if (pt_cmpR op_ge (pe_callB call_abs (by rfl) T.nabs (by decide +kernel) (pa_cons (pv 0) pa_nil)) (pe_op op_pow pe_int pe_int) (nomark _)) (pss_one (ps_ret (pe_lst (pa_cons (pe_callB call_abs (by rfl) T.nabs (by decide +kernel) (pa_cons (pv 0) pa_nil)) (pa_cons (pe_callB call_abs (by rfl) T.nabs (by decide +kernel) (pa_cons (pv 0) pa_nil)) (pa_cons pe_int pa_nil)))))) pss_nil)
  (pss_one (ps_ret (pe_lst (pa_cons pe_int (pa_cons (pe_callB call_abs (by rfl) T.nabs (by decide +kernel) (pa_cons (pv 0) pa_nil)) (pa_cons pe_int pa_nil))))))), ?_⟩
    repeat walk_at "w"
    refine ⟨_, rfl, ?_⟩
    repeat walk_at "w"
    refine w_I ⟨by decide, by decide, by decide⟩ ?_
    repeat walk_at "w"
    refine w_bool (fun _ => ?_) (fun _ => ?_)
    · repeat walk_at "w"
      refine ⟨_, rfl, ?_⟩
      repeat walk_at "w"
      refine ⟨_, rfl, ?_⟩
      repeat walk_at "w"
      refine ⟨sz100 (Nat.le_of_ble_eq_true rfl), fun a hpa => ?_⟩; generalize eH1 : upd H a _ = H1; obtain ⟨g1, h1⟩ := new_facts TT hpa eH1; clear eH1
      exact k a H1 g1 hpa ⟨_, _, _, h1⟩
    · repeat walk_at "w"
      refine ⟨_, rfl, ?_⟩
      repeat walk_at "w"
      refine ⟨sz100 (Nat.le_of_ble_eq_true rfl), fun a hpa => ?_⟩; generalize eH1 : upd H a _ = H1; obtain ⟨g1, h1⟩ := new_facts TT hpa eH1; clear eH1
      exact k a H1 g1 hpa ⟨_, _, _, h1⟩
def spLTake (TT : List (Addr × Str)) : Sp := fun vs H Q _ => ∃ a b, vs = [.ref a, .int b] ∧ Src H a ∧ 0 < b ∧ b < 2 ^ 200 ∧ ∀ n H', 0 ≤ n → n < b → Gr TT (fun c => c = a) H H' → Src H' a → Q (.int n) H'
abbrev s_law_take : Stmt := topS 55
abbrev N_law_take : List Str := ["_law_source_here", "_law_bound", "_law_drawn"]
theorem sc_law_take : FnScope N_law_take ["_law_source_here", "_law_bound"] (C8.fnScope s_law_take) := ⟨rfl, rfl, rfl, by decide +kernel, rfl, by decide +kernel, by decide +kernel⟩
theorem cal_law_take {TT : List (Addr × Str)} {f : Addr} {fd : FuncData} (F : C8.Def K mg "_law_take" s_law_take f fd) (b : Binds K fd ["_law_source_here", "_law_bound"] []) (T : Txt K mg aE C) (c_law_mixed : C8.Cal P w K mg base 1 "_law_mixed" spMixed []) : C8.Cal P w K mg base 2 "_law_take" (spLTake TT) [] := by
  refine C8.cal0 F b .nil sc_law_take (fun vs H Q E h => ?_) (fun cdv A outer s H vs Q E hr h => ?_)
  · obtain ⟨a, b, rfl, _⟩ := h
    rfl
  · obtain ⟨a, b, rfl, ⟨c0, c1, c2, ha⟩, hb, hb2, k⟩ := h
    have nd := sc_law_take.nd
    refine ⟨_, (pss_cons (ps_if (pt_cmpR op_gt (pe_ix ix_list (pv 0) pe_int (fun _ _ => rfl)) pe_int (nomark _)) (pss_cons (ps_set (i := 2) nd rfl (Or.inl rfl) (pe_op op_mod (pe_callTy call_int1 (by rfl) T.nint (by decide +kernel) (pa_cons (pe_ix ix_list (pv 0) pe_int (fun _ _ => rfl)) pa_nil)) (pv 1)))
  (pss_cons (ps_asg (pe_op op_fdivW (pe_ix ix_list (pv 0) pe_int (fun _ _ => rfl)) (pv 1)) (pg_sub (pv 0) pe_int set_list))
  (pss_one (ps_ret (pv 2))))) pss_nil)
  (pss_cons (ps_asg (pe_op op_add (pe_ix ix_list (pv 0) pe_int (fun _ _ => rfl)) pe_int) (pg_sub (pv 0) pe_int set_list))
  (pss_one (ps_ret (pe_op op_mod (pe_callTy call_int1 (by rfl) T.nint (by decide +kernel) (pa_cons (C8.pe_c c_law_mixed hr (by decide) (by rfl) (pa_cons (pe_ix ix_list (pv 0) pe_int (fun _ _ => rfl)) (pa_cons (pe_ix ix_list (pv 0) pe_int (fun _ _ => rfl)) pa_nil))) pa_nil)) (pv 1)))))), ?_⟩
    have hw : CDivW c0 b := ⟨hb, by
      have h1 : b.natAbs < 2 ^ 200 := by omega
      have h2 := Nat.log2_lt (n := b.natAbs) (k := 200) (by omega)
      omega⟩
    repeat walk_at "w"
    refine w_ixL (SqL.of ha) (by rfl) ?_
    repeat walk_at "w"
    refine w_bool (fun _ => ?_) (fun _ => ?_)
    · repeat walk_at "w"
      refine w_ixL (SqL.of ha) (by rfl) ?_
      repeat walk_at "w"
      refine .inl ⟨_, rfl, ?_⟩
      repeat walk_at "w"
      refine w_I hb ?_
      repeat walk_at "w"
      refine w_ixL (SqL.of ha) (by rfl) ?_
      repeat walk_at "w"
      refine w_I hw ?_
      repeat walk_at "w"
      refine w_rset (j := 0) ha (Nat.lt_of_sub_eq_succ rfl) ?_
      repeat walk_at "w"
      exact k _ _ (mod_pos _ hb).1 (mod_pos _ hb).2 (Gr.lst ha) ⟨_, _, _, upd_same⟩
    · repeat walk_at "w"
      refine w_ixL (SqL.of ha) (by rfl) ?_
      repeat walk_at "w"
      refine w_rset (j := 2) ha (Nat.lt_of_sub_eq_succ rfl) ?_
      have g1 : Gr TT (fun c => c = a) H (upd H a (.lst [.int c0, .int c1, .int (c2 + 1)])) := Gr.lst ha
      have h1 : upd H a (.lst [.int c0, .int c1, .int (c2 + 1)]) a = some (.lst [.int c0, .int c1, .int (c2 + 1)]) := upd_same
      repeat walk_at "w"
      refine w_ixL (SqL.of h1) (by rfl) ?_
      repeat walk_at "w"
      refine w_ixL (SqL.of h1) (by rfl) ?_
      repeat walk_at "w"
      refine ⟨_, _, rfl, fun i hi => ?_⟩
      repeat walk_at "w"
      refine .inl ⟨_, rfl, ?_⟩
      repeat walk_at "w"
      refine w_I hb ?_
      exact k _ _ (mod_pos _ hb).1 (mod_pos _ hb).2 g1 ⟨_, _, _, h1⟩
theorem atI_nat {α : Type} {xs : List α} {i : Nat} : atI xs (i : Int) = xs[i]? := by
  unfold atI ixN
  by_cases h : i < xs.length
  · rw [if_pos (by omega), if_pos (by omega)]
    rfl
  · rw [if_pos (by omega), if_neg (by omega)]
    simp [Nat.not_lt.mp h]
def spLPick (K : PySem.W.Frag) (TT : List (Addr × Str)) : Sp := fun vs H Q _ => ∃ a l xs, vs = [.ref a, .ref l] ∧ Src H a ∧ H l = some (.lst xs) ∧ a ≠ l ∧ xs ≠ [] ∧ xs.length < 100000 ∧ ∀ (i : Nat) x H', xs[i]? = some x → Gr TT (fun c => c = a) H H' → Src H' a → Q x H'
abbrev s_law_pick : Stmt := topS 56
abbrev N_law_pick : List Str := ["_law_source_here", "_law_some"]
theorem sc_law_pick : FnScope N_law_pick ["_law_source_here", "_law_some"] (C8.fnScope s_law_pick) := ⟨rfl, rfl, rfl, by decide +kernel, rfl, by decide +kernel, by decide +kernel⟩
theorem cal_law_pick {TT : List (Addr × Str)} {f : Addr} {fd : FuncData} (F : C8.Def K mg "_law_pick" s_law_pick f fd) (b : Binds K fd ["_law_source_here", "_law_some"] []) (T : Txt K mg aE C) (c_law_take : C8.Cal P w K mg base 2 "_law_take" (spLTake TT) []) : C8.Cal P w K mg base 3 "_law_pick" (spLPick K TT) [] := by
  refine C8.cal0 F b .nil sc_law_pick (fun vs H Q E h => ?_) (fun cdv A outer s H vs Q E hr h => ?_)
  · obtain ⟨a, b, xs, rfl, _⟩ := h
    rfl
  · obtain ⟨a, l, xs, rfl, hs, hl, hal, hne, hlen, k⟩ := h
    have nd := sc_law_pick.nd
    have hpos : 0 < xs.length := List.length_pos_iff.mpr hne
    refine ⟨_, (pss_one (ps_ret (pe_ix ix_list (pv 1) (C8.pe_c c_law_take hr (by decide) (by rfl) (pa_cons (pv 0) (pa_cons (pe_callB call_len_seq (by rfl) T.nlen (by decide +kernel) (pa_cons (pv 1) pa_nil)) pa_nil))) (fun _ _ => rfl)))), ?_⟩
    repeat walk_at "w"
    refine ⟨l, xs, rfl, .inl (SqL.of hl), ?_⟩
    repeat walk_at "w"
    refine ⟨a, _, rfl, hs, by omega, by have : (2 : Int) ^ 200 > 100000 := by decide +kernel
                                        omega, fun n H1 h0 h1 g1 s1 => ?_⟩
    obtain ⟨i, rfl⟩ := Int.eq_ofNat_of_zero_le h0
    have hi : i < xs.length := by omega
    refine w_ixL (v := xs[i]) (SqL.of (g1.keepL hl hal.symm)) (by rw [atI_nat]; simp [hi]) ?_
    exact k i _ H1 (by simp [hi]) g1 s1
theorem nodup_snoc {α : Type} {xs : List α} {x : α} (h : xs.Nodup) (n : x ∉ xs) : (xs ++ [x]).Nodup := by
  rw [List.nodup_append]
  exact ⟨h, by simp, fun a ha b hb e => n (by rw [← List.mem_singleton.mp hb, ← e]; exact ha)⟩
def spLSpots (TT : List (Addr × Str)) : Sp := fun vs H Q _ => ∃ (a : Addr) (m : Nat), vs = [.ref a, .int m] ∧ Src H a ∧ m ≤ 1000 ∧ ∀ l xs ps H', Gr TT (fun c => c = a) H H' → Src H' a → H l = none → H' l = some (.lst xs) → PtsV H' xs ps → ps.Nodup → (∀ p ∈ ps, PtOk p) → ps.length ≤ m → Q (.ref l) H'
abbrev s_law_spots : Stmt := topS 57
abbrev N_law_spots : List Str := ["_law_source_here", "_law_most", "_law_found", "_law_turn", "_law_count", "_law_wide", "_law_spot"]
theorem sc_law_spots : FnScope N_law_spots ["_law_source_here", "_law_most"] (C8.fnScope s_law_spots) := ⟨rfl, rfl, rfl, by decide +kernel, rfl, by decide +kernel, by decide +kernel⟩
theorem cal_law_spots {TT : List (Addr × Str)} {f : Addr} {fd : FuncData} (F : C8.Def K mg "_law_spots" s_law_spots f fd) (b : Binds K fd ["_law_source_here", "_law_most"] []) (T : Txt K mg aE C) (c_law_take : C8.Cal P w K mg base 2 "_law_take" (spLTake TT) [])
    (c_law_pick : C8.Cal P w K mg base 3 "_law_pick" (spLPick K TT) []) : C8.Cal P w K mg base 4 "_law_spots" (spLSpots TT) [] := by
  refine C8.cal0 F b .nil sc_law_spots (fun vs H Q E h => ?_) (fun cdv A outer s H vs Q E hr h => ?_)
  · obtain ⟨a, m, rfl, _⟩ := h
    rfl
  · obtain ⟨a, m, rfl, hs, hm, k⟩ := h
    have nd := sc_law_spots.nd
    have big : (2 : Int) ^ 200 > 10 ^ 40 := by decide +kernel
    have big2 : (10 : Int) ^ 40 > 100000 := by decide +kernel
    refine ⟨_, (pss_cons (ps_par (i := 4) (j := 5) rfl nd rfl rfl (by decide) rfl rfl (pa_cons (C8.pe_c c_law_take hr (by decide) (by rfl) (pa_cons (pv 0) (pa_cons (pe_op op_add (pv 1) pe_int) pa_nil))) (pa_cons (C8.pe_c c_law_pick hr (by decide) (by rfl) (pa_cons (pv 0) (pa_cons (pe_lst (pa_cons pe_int (pa_cons pe_int (pa_cons pe_int (pa_cons pe_int (pa_cons (pe_op op_pow pe_int pe_int) (pa_cons (pe_op op_pow pe_int pe_int) pa_nil))))))) pa_nil))) pa_nil)) (by rfl))
  (pss_cons (ps_set (i := 2) nd rfl (Or.inl rfl) (pe_lst pa_nil))
  (pss_cons (ps_for PassesOwn.never rfl (pi_range1 (by rfl) T.nrange (pa_cons (pv 4) pa_nil)) (pg_name (i := 3) nd rfl (Or.inl rfl)) (pss_cons (ps_set (i := 6) nd rfl (Or.inl rfl) (pe_tup (pa_cons (pe_op op_sub (C8.pe_c c_law_take hr (by decide) (by rfl) (pa_cons (pv 0) (pa_cons (pe_op op_add (pe_op op_mul pe_int (pv 5)) pe_int) pa_nil))) (pv 5)) (pa_cons (pe_op op_sub (C8.pe_c c_law_take hr (by decide) (by rfl) (pa_cons (pv 0) (pa_cons (pe_op op_add (pe_op op_mul pe_int (pv 5)) pe_int) pa_nil))) (pv 5)) pa_nil))))
  (pss_one (ps_set (i := 2) nd rfl (Or.inl rfl) (pe_op op_cat (pv 2) (pe_op op_rep (pe_lst (pa_cons (pv 6) pa_nil)) (pe_callTy call_int1 (by rfl) T.nint (by decide +kernel) (pa_cons (pe_cmpR (op_notInD (room65 hr)) (pv 6) (pv 2) (by rfl)) pa_nil))))))))
  (pss_one (ps_ret (pv 2)))))), ?_⟩
    repeat walk_at "w"
    refine ⟨a, _, rfl, hs, by omega, by omega, fun n H1 n0 n1 g1 s1 => ?_⟩
    repeat walk_at "w"
    refine w_I ⟨by decide, by decide, by decide⟩ ?_
    repeat walk_at "w"
    refine w_I ⟨by decide, by decide, by decide⟩ ?_
    repeat walk_at "w"
    refine ⟨sz100 (Nat.le_of_ble_eq_true rfl), fun wl hpwl => ?_⟩; generalize eH2 : upd H1 wl _ = H2; obtain ⟨g2, h2⟩ := new_facts TT hpwl eH2; clear eH2
    repeat walk_at "w"
    have awl : a ≠ wl := fun z => by
      obtain ⟨_, _, _, z1⟩ := s1
      rw [z, hpwl] at z1
      cases z1
    refine ⟨a, wl, _, rfl, s1.gr g2, h2, awl, fun z => (by cases z), Nat.lt_of_sub_eq_succ rfl, fun i x H3 hx g3 s3 => ?_⟩
    obtain ⟨wd, rfl, w0, w1⟩ : ∃ wd : Int, x = .int wd ∧ 0 < wd ∧ wd ≤ 10 ^ 30 := by
      have hx := List.mem_of_getElem? hx
      simp only [List.mem_cons, List.not_mem_nil, or_false] at hx
      rcases hx with rfl | rfl | rfl | rfl | rfl | rfl <;> exact ⟨_, rfl, by decide, by decide⟩
    obtain ⟨cn, rfl⟩ := Int.eq_ofNat_of_zero_le n0
    repeat walk_at "w"
    refine ⟨sz100 (Nat.le_of_ble_eq_true rfl), fun fo hpfo => ?_⟩; generalize eH4 : upd H3 fo _ = H4; obtain ⟨g4, h4⟩ := new_facts TT hpfo eH4; clear eH4
    have G3 : Gr TT (fun c => c = a) H H3 := (g1.trans g2.of0).trans g3
    have G4 := G3.trans g4.of0 (S := fun c => c = a)
    have s4 := s3.gr g4
    have fo0 : H fo = none := G3.fr _ hpfo
    repeat walk_at "w"
    with_reducible refine w_forI ?_
    refine w_iRng1 ?_
    repeat walk_at "w"
    refine ⟨_, rfl, by omega, by omega, ?_⟩
    refine for_range (n := cn) (lo := 0) (fun i σ' H' => ∃ (v3 v6 : Option V) (l : Addr) (xs : List V) (ps : List Pt), σ' = [some (.ref a), some (.int m), some (.ref l), v3, some (.int cn), some (.int wd), v6] ∧ Gr TT (fun c => c = a) H H' ∧ Src H' a ∧ H l = none ∧ H' l = some (.lst xs) ∧ PtsV H' xs ps ∧ ps.Nodup ∧ (∀ p ∈ ps, PtOk p) ∧ ps.length ≤ i)
      ⟨none, none, fo, [], [], rfl, G4, s4, fo0, h4, .nil, .nil, fun p hp => (by cases hp), Nat.zero_le _⟩ ?_ ?_
    · rintro i σ' H' hi ⟨v3, v6, l, xs, ps, rfl, g, hs', l0, hl, hps, hnd, hok, hlen⟩
      rw [Int.zero_add]
      have hal : l ≠ a := fun z => by
        obtain ⟨_, _, _, z1⟩ := hs
        rw [← z, l0] at z1
        cases z1
      refine w_gname ?_
      repeat walk_at "w"
      refine w_I (.inl ⟨by decide, by decide⟩) ?_
      repeat walk_at "w"
      refine ⟨a, _, rfl, hs', by omega, by omega, fun n1 H5 p0 p1 g5 s5 => ?_⟩
      repeat walk_at "w"
      refine w_I (.inl ⟨by decide, by decide⟩) ?_
      repeat walk_at "w"
      refine ⟨a, _, rfl, s5, by omega, by omega, fun n2 H6 q0 q1 g6 s6 => ?_⟩
      repeat walk_at "w"
      refine ⟨sz100 (Nat.le_of_ble_eq_true rfl), fun sp hpsp => ?_⟩; generalize eH7 : upd H6 sp _ = H7; obtain ⟨g7, h7⟩ := new_facts TT hpsp eH7; clear eH7
      have g57 : Gr TT (fun c => c = a) H' H7 := (g5.trans g6).trans g7.of0
      have hpt : PtV H7 (.ref sp) (n1 - wd, n2 - wd) := ⟨sp, rfl, h7⟩
      have hpo : PtOk (n1 - wd, n2 - wd) := by
        constructor <;> simp only [cok, Bool.and_eq_true, decide_eq_true_eq] <;> omega
      have hl7 := g57.keepL hl hal
      have hps7 : PtsV H7 xs ps := Al.imp hps fun _ _ z => z.gr g57
      repeat walk_at "w"
      refine ⟨sz100 (Nat.le_of_ble_eq_true rfl), fun l1 hpl1 => ?_⟩; generalize eH8 : upd H7 l1 _ = H8; obtain ⟨g8, h8⟩ := new_facts TT hpl1 eH8; clear eH8
      repeat walk_at "w"
      refine ⟨_, _, (hpt.gr g8).dp, PtsV.dp (Al.imp hps7 fun _ _ z => z.gr g8) (SqL.of (g8.keepL0 hl7)), shaped_pt _, shaped_pts _, ?_⟩
      rw [any_pt]
      repeat walk_at "w"
      refine .inr ⟨_, rfl, ?_⟩
      by_cases hm : (n1 - wd, n2 - wd) ∈ ps
      · rw [decide_eq_true hm]
        refine ⟨l1, 0, _, rfl, rfl, h8, by decide, by decide, sz100 (by rw [Int.toNat_zero, Nat.mul_zero]; omega), fun l2 hl2 => ?_⟩
        generalize e2 : upd H8 l2 _ = H9
        obtain ⟨g9, h9⟩ := new_facts TT hl2 e2
        clear e2
        repeat walk_at "w"
        have hl9 := (g8.trans g9).keepL0 hl7
        have hxl := hps7.len
        refine ⟨l, l2, _, _, rfl, rfl, hl9, h9, sz100 (by simp; omega), fun l3 hl3 => ?_⟩
        generalize e3 : upd H9 l3 _ = H10
        obtain ⟨g10, hH3⟩ := new_facts TT hl3 e3
        clear e3
        have g8A := g8.trans (g9.trans g10)
        have G : Gr TT (fun c => c = a) H H10 := (g.trans g57).trans g8A.of0
        have sA := (s6.gr g7).gr g8A
        have l30 : H l3 = none := ((g.trans g57).trans (g8.trans g9).of0).fr _ hl3
        have hpsA : PtsV H10 xs ps := Al.imp hps7 fun _ _ z => z.gr g8A
        have hptA := hpt.gr g8A
        repeat walk_at "w"
        exact ⟨_, _, l3, xs, ps, rfl, G, sA, l30, by rw [hH3]; simp, hpsA, hnd, hok, by omega⟩
      · rw [decide_eq_false hm]
        refine ⟨l1, 1, _, rfl, rfl, h8, by decide, by decide, sz100 (Nat.le_of_ble_eq_true rfl), fun l2 hl2 => ?_⟩
        generalize e2 : upd H8 l2 _ = H9
        obtain ⟨g9, h9⟩ := new_facts TT hl2 e2
        clear e2
        repeat walk_at "w"
        have hl9 := (g8.trans g9).keepL0 hl7
        have hxl := hps7.len
        refine ⟨l, l2, _, _, rfl, rfl, hl9, h9, sz100 (by simp; omega), fun l3 hl3 => ?_⟩
        generalize e3 : upd H9 l3 _ = H10
        obtain ⟨g10, hH3⟩ := new_facts TT hl3 e3
        clear e3
        have g8A := g8.trans (g9.trans g10)
        have G : Gr TT (fun c => c = a) H H10 := (g.trans g57).trans g8A.of0
        have sA := (s6.gr g7).gr g8A
        have l30 : H l3 = none := ((g.trans g57).trans (g8.trans g9).of0).fr _ hl3
        have hpsA : PtsV H10 xs ps := Al.imp hps7 fun _ _ z => z.gr g8A
        have hptA := hpt.gr g8A
        repeat walk_at "w"
        exact ⟨_, _, l3, xs ++ [.ref sp], ps ++ [(n1 - wd, n2 - wd)], rfl, G, sA, l30, by rw [hH3]; simp, Al.app hpsA (.cons hptA .nil), nodup_snoc hnd hm, fun p hp => by
          rcases List.mem_append.mp hp with z | z
          · exact hok p z
          · rw [List.mem_singleton.mp z]
            exact hpo, by rw [List.length_append, List.length_singleton]; omega⟩
    · rintro σ' H' ⟨v3, v6, l, xs, ps, rfl, g, hs', l0, hl, hps, hnd, hok, hlen⟩
      repeat walk_at "w"
      exact k l xs ps H' g hs' l0 hl hps hnd hok (by omega)
end
end Wd
end
section
/-! The law's zones. -/
namespace Wd
open PySem PySem.Spec PyProof.Rows L2 LamX NdefX
local macro_rules | `(tactic| walk_at "w") => `(tactic| first
  | with_reducible refine w_var (by with_unfolding_all rfl) ?_
  | with_reducible refine w_aug (by with_unfolding_all rfl) ?_
  | with_reducible refine w_op ?_
  | with_reducible refine w_c ?_
  | with_reducible refine w_I0 ?_
  | with_reducible refine w_cons ?_
  | with_reducible refine w_nil ?_
  | with_reducible refine w_call ?_
  | with_reducible refine w_cb ?_
  | with_reducible refine w_seq ?_
  | with_reducible refine w_ret ?_
  | with_reducible refine w_set ?_
  | with_reducible refine w_if ?_
  | with_reducible refine w_test ?_
  | with_reducible refine w_B ?_
  | with_reducible refine w_k ?_
  | with_reducible refine w_and ?_
  | with_reducible refine w_or ?_
  | with_reducible refine w_not ?_
  | with_reducible refine w_andV ?_
  | with_reducible refine w_orV ?_
  | with_reducible refine w_notV ?_
  | with_reducible refine w_ifE ?_
  | with_reducible refine w_chain ?_
  | with_reducible refine w_un ?_
  | with_reducible refine w_U ?_
  | with_reducible refine w_isN ?_
  | with_reducible refine w_notN ?_
  | with_reducible refine w_T ?_
  | with_reducible refine w_F ?_
  | with_reducible refine w_next ?_
  | with_reducible refine w_drop ?_
  | with_reducible refine w_par2 ?_
  | with_reducible refine w_par3 ?_
  | with_reducible refine w_tup ?_
  | with_reducible refine w_lst ?_
  | with_reducible refine w_bm ?_
  | with_reducible refine w_bm0 ?_
  | with_reducible refine w_gname ?_
  | with_reducible refine w_gcons ?_
  | with_reducible refine w_lcI ?_
  | with_reducible refine w_lc2I ?_
  | with_reducible refine w_iTup ?_
  | with_reducible refine w_iList ?_
  | with_reducible refine w_yes ?_
  | with_reducible refine w_din ?_
  | with_reducible refine w_dput ?_
  | with_reducible refine w_dget2 ?_
  | with_reducible refine w_iEnum ?_
  | with_reducible refine w_sl ?_
  | with_reducible refine w_noP ?_
  | with_reducible refine w_part ?_
  | with_reducible refine w_asg ?_
  | with_reducible refine w_ip ?_
  | with_reducible refine w_cont ?_
  | with_reducible refine w_callD ?_
  | with_reducible refine w_thru ?_
  | with_reducible refine w_star ?_
  | with_reducible refine w_bits ?_
  | with_reducible refine w_revL ?_
  | with_reducible refine w_fld ?_
  | with_reducible refine w_dget ?_
  | with_reducible refine w_keys ?_
  | with_reducible refine w_gsub ?_
  | with_reducible refine w_fldaug ?_
  | with_reducible refine w_sfld ?_
  | with_reducible refine w_meth ?_
  | with_reducible refine w_make ?_
  | with_reducible refine w_ite (by with_unfolding_all rfl) ?_ | with_reducible refine w_itf (by with_unfolding_all rfl) ?_)
section
variable {P : Program} {w : World} {K : PySem.W.Frag} {mg : Str → Option Value} {base : Heap} {aE C : Addr}
theorem src_ne {H : Hp} {a b : Addr} (h : Src H a) (n : H b = none) : a ≠ b := fun z => by
  obtain ⟨_, _, _, z1⟩ := h
  rw [z, n] at z1
  cases z1
def spLEnd (TT : List (Addr × Str)) : Sp := fun vs H Q _ => ∃ a l xs ps ax, vs = [.ref a, .ref l, axV ax] ∧ Src H a ∧ H l = some (.lst xs) ∧ a ≠ l ∧ PtsV H xs ps ∧ (∀ p ∈ ps, PtOk p) ∧ ps.length ≤ 1000 ∧ ∀ o H', eok o → Gr TT (fun c => c = a) H H' → Src H' a → Q (oV o) H'
abbrev s_law_end : Stmt := topS 58
abbrev N_law_end : List Str := ["_law_source_here", "_law_spots_here", "_law_lane", "_law_way"]
theorem sc_law_end : FnScope N_law_end ["_law_source_here", "_law_spots_here", "_law_lane"] (C8.fnScope s_law_end) := ⟨rfl, rfl, rfl, by decide +kernel, rfl, by decide +kernel, by decide +kernel⟩
theorem cal_law_end {TT : List (Addr × Str)} {f : Addr} {fd : FuncData} (F : C8.Def K mg "_law_end" s_law_end f fd) (b : Binds K fd ["_law_source_here", "_law_spots_here", "_law_lane"] []) (T : Txt K mg aE C) (c_law_take : C8.Cal P w K mg base 2 "_law_take" (spLTake TT) [])
    (c_law_pick : C8.Cal P w K mg base 3 "_law_pick" (spLPick K TT) []) : C8.Cal P w K mg base 4 "_law_end" (spLEnd TT) [] := by
  refine C8.cal0 F b .nil sc_law_end (fun vs H Q E h => ?_) (fun cdv A outer s H vs Q E hr h => ?_)
  · obtain ⟨a, l, xs, ps, ax, rfl, _⟩ := h
    rfl
  · obtain ⟨a, l, xs, ps, ax, rfl, hs, hl, hal, hps, hok, hlen, k⟩ := h
    have nd := sc_law_end.nd
    have big : (2 : Int) ^ 200 > 10 ^ 40 := by decide +kernel
    have big2 : (10 : Int) ^ 40 > 100000 := by decide +kernel
    refine ⟨_, (pss_cons (ps_set (i := 3) nd rfl (Or.inl rfl) (C8.pe_c c_law_take hr (by decide) (by rfl) (pa_cons (pv 0) (pa_cons pe_int pa_nil))))
  (pss_cons (ps_if (PW.pt (pw_or (pt_cmpR op_eq (pv 3) pe_int (nomark _)) (pw_or1 (pt_cmpR (op_eqNil hr.units0) (pv 1) (pe_lst pa_nil) (nomark _))))) (pss_one (ps_ret (C8.pe_c c_law_pick hr (by decide) (by rfl) (pa_cons (pv 0) (pa_cons (pe_lst (pa_cons pe_non (pa_cons pe_non (pa_cons pe_int (pa_cons (pe_un un_neg (pe_op op_pow pe_int pe_int)) (pa_cons (pe_op op_pow pe_int pe_int) pa_nil)))))) pa_nil))))) pss_nil)
  (pss_one (ps_ret (pe_op op_add (pe_ix ix_tup (C8.pe_c c_law_pick hr (by decide) (by rfl) (pa_cons (pv 0) (pa_cons (pv 1) pa_nil))) (pv 2) (fun _ _ => rfl)) (pe_ix ix_list (pe_lst (pa_cons pe_int (pa_cons pe_int (pa_cons pe_int (pa_cons (pe_un un_neg pe_int) pa_nil))))) (pe_op op_sub (pv 3) pe_int) (fun _ _ => rfl))))))), ?_⟩
    repeat walk_at "w"
    refine ⟨a, _, rfl, hs, by omega, by omega, fun n H1 n0 n1 g1 s1 => ?_⟩
    have hl1 := g1.keepL hl hal.symm
    repeat walk_at "w"
    refine ⟨rfl, ?_⟩
    repeat walk_at "w"
    refine w_dec (fun _ => ?_) (fun hn => ?_)
    · repeat walk_at "w"
      refine w_I ⟨by decide, by decide, by decide⟩ ?_
      repeat walk_at "w"
      refine w_I ⟨by decide, by decide, by decide⟩ ?_
      repeat walk_at "w"
      refine ⟨sz100 (Nat.le_of_ble_eq_true rfl), fun wl hpwl => ?_⟩; generalize eH9 : upd H1 wl _ = H9; obtain ⟨g9, h9⟩ := new_facts TT hpwl eH9; clear eH9
      repeat walk_at "w"
      refine ⟨a, wl, _, rfl, s1.gr g9, h9, src_ne s1 hpwl, fun z => (by cases z), Nat.lt_of_sub_eq_succ rfl, fun i x H3 hx g3 s3 => ?_⟩
      have hx := List.mem_of_getElem? hx
      simp only [List.mem_cons, List.not_mem_nil, or_false] at hx
      have G := (g1.trans g9.of0).trans g3
      rcases hx with rfl | rfl | rfl | rfl | rfl
      · exact k none H3 trivial G s3
      · exact k none H3 trivial G s3
      · exact k (some 0) H3 ⟨by decide, by decide⟩ G s3
      · exact k (some _) H3 ⟨by decide, by decide⟩ G s3
      · exact k (some _) H3 ⟨by decide, by decide⟩ G s3
    · have hn0 : n ≠ 0 := fun z => hn (by rw [z])
      repeat walk_at "w"
      refine ⟨sz100 (Nat.le_of_ble_eq_true rfl), fun e hpe => ?_⟩; generalize eH2 : upd H1 e _ = H2; obtain ⟨g2, h2⟩ := new_facts TT hpe eH2; clear eH2
      have hl2 := g2.keepL0 hl1
      refine w_eqNil (SqL.of hl2) h2 ?_
      repeat walk_at "w"
      cases he : xs.isEmpty with
      | true =>
        repeat walk_at "w"
        refine w_I ⟨by decide, by decide, by decide⟩ ?_
        repeat walk_at "w"
        refine w_I ⟨by decide, by decide, by decide⟩ ?_
        repeat walk_at "w"
        refine ⟨sz100 (Nat.le_of_ble_eq_true rfl), fun wl hpwl => ?_⟩; generalize eH9 : upd H2 wl _ = H9; obtain ⟨g9, h9⟩ := new_facts TT hpwl eH9; clear eH9
        repeat walk_at "w"
        refine ⟨a, wl, _, rfl, (s1.gr g2).gr g9, h9, src_ne (s1.gr g2) hpwl, fun z => (by cases z), Nat.lt_of_sub_eq_succ rfl, fun i x H3 hx g3 s3 => ?_⟩
        have hx := List.mem_of_getElem? hx
        simp only [List.mem_cons, List.not_mem_nil, or_false] at hx
        have G := ((g1.trans g2.of0).trans g9.of0).trans g3
        rcases hx with rfl | rfl | rfl | rfl | rfl
        · exact k none H3 trivial G s3
        · exact k none H3 trivial G s3
        · exact k (some 0) H3 ⟨by decide, by decide⟩ G s3
        · exact k (some _) H3 ⟨by decide, by decide⟩ G s3
        · exact k (some _) H3 ⟨by decide, by decide⟩ G s3
      | false =>
        repeat walk_at "w"
        have hxl := hps.len
        refine ⟨a, l, xs, rfl, s1.gr g2, hl2, hal, fun z => (by rw [z] at he; cases he), by omega, fun i x H3 hx g3 s3 => ?_⟩
        obtain ⟨p, hp, hxp⟩ := Al.get hps hx
        have hpo := hok p (List.mem_of_getElem? hp)
        obtain ⟨ad, rfl, had⟩ := ((hxp.gr g1).gr g2).gr g3
        repeat walk_at "w"
        refine w_ixT (SqT.of had) ax_pt ?_
        repeat walk_at "w"
        refine ⟨sz100 (Nat.le_of_ble_eq_true rfl), fun cl hpcl => ?_⟩; generalize eH4 : upd H3 cl _ = H4; obtain ⟨g4, h4⟩ := new_facts TT hpcl eH4; clear eH4
        repeat walk_at "w"
        have hc : cok (kx ax p) = true := by cases ax; exact hpo.1; exact hpo.2
        unfold cok at hc
        rw [Bool.and_eq_true, decide_eq_true_eq, decide_eq_true_eq] at hc
        obtain ⟨d, hd, d0, d1⟩ : ∃ d : Int, atI [V.int 0, V.int 0, V.int 1, V.int (-1)] (n - 1) = some (.int d) ∧ -1 ≤ d ∧ d ≤ 1 := by
          have : n = 1 ∨ n = 2 ∨ n = 3 ∨ n = 4 := by omega
          rcases this with rfl | rfl | rfl | rfl <;> exact ⟨_, rfl, by decide, by decide⟩
        refine w_ixL (SqL.of h4) hd ?_
        repeat walk_at "w"
        have h30 : (10 : Int) ^ 31 = 10 * 10 ^ 30 := by decide
        have h31 : (10 : Int) ^ 30 ≥ 1 := by decide
        exact k (some (kx ax p + d)) H4 ⟨by omega, by omega⟩ (((g1.trans g2.of0).trans g3).trans g4.of0) (s3.gr g4)
def spLArea (TT : List (Addr × Str)) : Sp := fun vs H Q _ => ∃ a l xs ps, vs = [.ref a, .ref l] ∧ Src H a ∧ H l = some (.lst xs) ∧ a ≠ l ∧ PtsV H xs ps ∧ (∀ p ∈ ps, PtOk p) ∧ ps.length ≤ 1000 ∧ ∀ z rc H', RcOk rc → Gr TT (fun c => c = a) H H' → Src H' a → H' z = some (.tup (rcL rc)) → Q (.ref z) H'
def EndV (H : Hp) (v : V) (e : Option Int × Option Int) : Prop := (∃ t, v = .ref t ∧ H t = some (.tup [oV e.1, oV e.2])) ∧ eok e.1 ∧ eok e.2 ∧ iok e.1 e.2
theorem EndV.gr {T : List (Addr × Str)} {S : Addr → Prop} {H H1 : Hp} {v : V} {e : Option Int × Option Int} (h : EndV H v e) (g : Gr T S H H1) : EndV H1 v e := by
  obtain ⟨⟨t, e1, h1⟩, h2⟩ := h
  exact ⟨⟨t, e1, g.tup h1⟩, h2⟩
abbrev s_law_area : Stmt := topS 59
abbrev N_law_area : List Str := ["_law_source_here", "_law_spots_here", "_law_ends", "_law_lane", "_law_low", "_law_high"]
theorem sc_law_area : FnScope N_law_area ["_law_source_here", "_law_spots_here"] (C8.fnScope s_law_area) := ⟨rfl, rfl, rfl, by decide +kernel, rfl, by decide +kernel, by decide +kernel⟩
theorem cal_law_area {TT : List (Addr × Str)} {f : Addr} {fd : FuncData} (F : C8.Def K mg "_law_area" s_law_area f fd) (b : Binds K fd ["_law_source_here", "_law_spots_here"] []) (T : Txt K mg aE C) (c_law_end : C8.Cal P w K mg base 4 "_law_end" (spLEnd TT) []) : C8.Cal P w K mg base 5 "_law_area" (spLArea TT) [] := by
  refine C8.cal0 F b .nil sc_law_area (fun vs H Q E h => ?_) (fun cdv A outer s H vs Q E hr h => ?_)
  · obtain ⟨a, l, xs, ps, rfl, _⟩ := h
    rfl
  · obtain ⟨a, l, xs, ps, rfl, hs, hl, hal, hps, hok, hlen, k⟩ := h
    have nd := sc_law_area.nd
    refine ⟨_, (pss_cons (ps_set (i := 2) nd rfl (Or.inl rfl) (pe_lst pa_nil))
  (pss_cons (ps_for PassesOwn.never rfl (pi_range1 (by rfl) T.nrange (pa_cons pe_int pa_nil)) (pg_name (i := 3) nd rfl (Or.inl rfl)) (pss_cons (ps_par (i := 4) (j := 5) rfl nd rfl rfl (by decide) rfl rfl (pa_cons (C8.pe_c c_law_end hr (by decide) (by rfl) (pa_cons (pv 0) (pa_cons (pv 1) (pa_cons (pv 3) pa_nil)))) (pa_cons (C8.pe_c c_law_end hr (by decide) (by rfl) (pa_cons (pv 0) (pa_cons (pv 1) (pa_cons (pv 3) pa_nil)))) pa_nil)) (by rfl))
  (pss_cons (ps_if (PW.pt (pw_and (pt_cmpR op_notN1 (pv 4) pe_non (nomark _)) (pw_and (pt_cmpR op_notN1 (pv 5) pe_non (nomark _)) (pw_and1 (pt_cmpR op_gt (pv 4) (pv 5) (nomark _)))))) (pss_one (ps_par (i := 4) (j := 5) rfl nd rfl rfl (by decide) rfl rfl (pa_cons (pv 5) (pa_cons (pv 4) pa_nil)) (by rfl))) pss_nil)
  (pss_one (ps_expr (pe_bm PySem.F.plainAttrs_list PySem.F.slot_list_append PySem.F.type_list_append mt_append (pv 2) (pa_cons (pe_tup (pa_cons (pv 4) (pa_cons (pv 5) pa_nil))) pa_nil)))))))
  (pss_one (ps_ret (pe_tup (pa_cons (pe_ix ix_tup (pe_ix ix_list (pv 2) pe_int (fun _ _ => rfl)) pe_int (fun _ _ => rfl)) (pa_cons (pe_ix ix_tup (pe_ix ix_list (pv 2) pe_int (fun _ _ => rfl)) pe_int (fun _ _ => rfl)) (pa_cons (pe_ix ix_tup (pe_ix ix_list (pv 2) pe_int (fun _ _ => rfl)) pe_int (fun _ _ => rfl)) (pa_cons (pe_ix ix_tup (pe_ix ix_list (pv 2) pe_int (fun _ _ => rfl)) pe_int (fun _ _ => rfl)) pa_nil))))))))), ?_⟩
    repeat walk_at "w"
    refine ⟨sz100 (Nat.le_of_ble_eq_true rfl), fun en hpen => ?_⟩; generalize eH1 : upd H en _ = H1; obtain ⟨g1, h1⟩ := new_facts TT hpen eH1; clear eH1
    repeat walk_at "w"
    have hae := src_ne hs hpen
    with_reducible refine w_forI ?_
    refine w_iRng1 ?_
    repeat walk_at "w"
    refine ⟨_, rfl, by decide, by decide, ?_⟩
    refine for_range (n := 2) (lo := 0) (fun i σ' H' => ∃ (v3 v4 v5 : Option V) (es : List V) (ps : List (Option Int × Option Int)), σ' = [some (.ref a), some (.ref l), some (.ref en), v3, v4, v5] ∧ Gr TT (fun c => c = a) H H' ∧ Src H' a ∧ H' en = some (.lst es) ∧ Al (EndV H') es ps ∧ ps.length = i)
      ⟨none, none, none, [], [], rfl, g1.of0, hs.gr g1, h1, .nil, rfl⟩ ?_ ?_
    · rintro i σ' H' hi ⟨v3, v4, v5, es, ps', rfl, g, hs', hen, hes, hlen'⟩
      rw [Int.zero_add]
      obtain ⟨ax, hax⟩ : ∃ ax, V.int (i : Nat) = axV ax := by
        have : i = 0 ∨ i = 1 := by omega
        rcases this with rfl | rfl
        · exact ⟨false, rfl⟩
        · exact ⟨true, rfl⟩
      rw [hax]
      refine w_gname ?_
      repeat walk_at "w"
      refine ⟨a, l, xs, ps, ax, rfl, hs', g.keepL hl hal.symm, hal, Al.imp hps fun _ _ z => z.gr g, hok, hlen, fun lo H2 lok g2 s2 => ?_⟩
      repeat walk_at "w"
      refine ⟨a, l, xs, ps, ax, rfl, s2, (g.trans g2).keepL hl hal.symm, hal, Al.imp hps fun _ _ z => z.gr (g.trans g2), hok, hlen, fun hi' H3 hok' g3 s3 => ?_⟩
      have G3 := g2.trans g3
      have hen3 := G3.keepL hen hae.symm
      have hes3 : Al (EndV H3) es ps' := Al.imp hes fun _ _ z => z.gr G3
      repeat walk_at "w"
      cases lo with
      | none =>
        repeat walk_at "w"
        refine ⟨w_tyL (SqL.of hen3), ?_⟩
        repeat walk_at "w"
        refine ⟨sz100 (Nat.le_of_ble_eq_true rfl), fun t hpt => ?_⟩; generalize eH4 : upd H3 t _ = H4; obtain ⟨g4, h4⟩ := new_facts TT hpt eH4; clear eH4
        repeat walk_at "w"
        have hel := hes.len
        refine w_rapp (g4.keepL0 hen3) (by omega) ?_
        generalize eH5 : upd H4 en _ = H5; obtain ⟨gH5, lH5, hH5⟩ := lst_facts (TT := TT) (hpen) ((g.trans G3).trans g4.of0) (g4.keepL0 hen3) eH5; clear eH5
        repeat walk_at "w"
        exact ⟨_, _, _, es ++ [.ref t], ps' ++ [(none, hi')], rfl, gH5, by
          obtain ⟨c0, c1, c2, hc⟩ := s3
          exact ⟨c0, c1, c2, lH5.keepL (g4.keepL0 hc) hae⟩, hH5, Al.app (Al.imp hes3 fun _ _ z => (z.gr g4).gr lH5) (.cons ⟨⟨t, rfl, lH5.tup h4⟩, lok, hok', trivial⟩ .nil), by rw [List.length_append, List.length_singleton, hlen']⟩
      | some lo =>
        cases hi' with
        | none =>
          repeat walk_at "w"
          refine ⟨w_tyL (SqL.of hen3), ?_⟩
          repeat walk_at "w"
          refine ⟨sz100 (Nat.le_of_ble_eq_true rfl), fun t hpt => ?_⟩; generalize eH4 : upd H3 t _ = H4; obtain ⟨g4, h4⟩ := new_facts TT hpt eH4; clear eH4
          repeat walk_at "w"
          have hel := hes.len
          refine w_rapp (g4.keepL0 hen3) (by omega) ?_
          generalize eH5 : upd H4 en _ = H5; obtain ⟨gH5, lH5, hH5⟩ := lst_facts (TT := TT) (hpen) ((g.trans G3).trans g4.of0) (g4.keepL0 hen3) eH5; clear eH5
          repeat walk_at "w"
          exact ⟨_, _, _, es ++ [.ref t], ps' ++ [((some lo), none)], rfl, gH5, by
            obtain ⟨c0, c1, c2, hc⟩ := s3
            exact ⟨c0, c1, c2, lH5.keepL (g4.keepL0 hc) hae⟩, hH5, Al.app (Al.imp hes3 fun _ _ z => (z.gr g4).gr lH5) (.cons ⟨⟨t, rfl, lH5.tup h4⟩, lok, hok', trivial⟩ .nil), by rw [List.length_append, List.length_singleton, hlen']⟩
        | some hi' =>
          repeat walk_at "w"
          refine w_dec (fun hlt => ?_) (fun hlt => ?_)
          · repeat walk_at "w"
            refine ⟨w_tyL (SqL.of hen3), ?_⟩
            repeat walk_at "w"
            refine ⟨sz100 (Nat.le_of_ble_eq_true rfl), fun t hpt => ?_⟩; generalize eH4 : upd H3 t _ = H4; obtain ⟨g4, h4⟩ := new_facts TT hpt eH4; clear eH4
            repeat walk_at "w"
            have hel := hes.len
            refine w_rapp (g4.keepL0 hen3) (by omega) ?_
            generalize eH5 : upd H4 en _ = H5; obtain ⟨gH5, lH5, hH5⟩ := lst_facts (TT := TT) (hpen) ((g.trans G3).trans g4.of0) (g4.keepL0 hen3) eH5; clear eH5
            repeat walk_at "w"
            exact ⟨_, _, _, es ++ [.ref t], ps' ++ [((some hi'), (some lo))], rfl, gH5, by
              obtain ⟨c0, c1, c2, hc⟩ := s3
              exact ⟨c0, c1, c2, lH5.keepL (g4.keepL0 hc) hae⟩, hH5, Al.app (Al.imp hes3 fun _ _ z => (z.gr g4).gr lH5) (.cons ⟨⟨t, rfl, lH5.tup h4⟩, hok', lok, (Int.le_of_lt hlt)⟩ .nil), by rw [List.length_append, List.length_singleton, hlen']⟩
          · repeat walk_at "w"
            refine ⟨w_tyL (SqL.of hen3), ?_⟩
            repeat walk_at "w"
            refine ⟨sz100 (Nat.le_of_ble_eq_true rfl), fun t hpt => ?_⟩; generalize eH4 : upd H3 t _ = H4; obtain ⟨g4, h4⟩ := new_facts TT hpt eH4; clear eH4
            repeat walk_at "w"
            have hel := hes.len
            refine w_rapp (g4.keepL0 hen3) (by omega) ?_
            generalize eH5 : upd H4 en _ = H5; obtain ⟨gH5, lH5, hH5⟩ := lst_facts (TT := TT) (hpen) ((g.trans G3).trans g4.of0) (g4.keepL0 hen3) eH5; clear eH5
            repeat walk_at "w"
            exact ⟨_, _, _, es ++ [.ref t], ps' ++ [((some lo), (some hi'))], rfl, gH5, by
              obtain ⟨c0, c1, c2, hc⟩ := s3
              exact ⟨c0, c1, c2, lH5.keepL (g4.keepL0 hc) hae⟩, hH5, Al.app (Al.imp hes3 fun _ _ z => (z.gr g4).gr lH5) (.cons ⟨⟨t, rfl, lH5.tup h4⟩, lok, hok', (Int.not_lt.mp hlt)⟩ .nil), by rw [List.length_append, List.length_singleton, hlen']⟩
    · rintro σ' H' ⟨v3, v4, v5, es, ps', rfl, g, hs', hen, hes, hlen'⟩
      match ps', es, hlen', hes with
      | [e0, e1], [y0, y1], _, .cons q0 (.cons q1 .nil) =>
        obtain ⟨⟨t0, rfl, ht0⟩, a0, b0, c0⟩ := q0
        obtain ⟨⟨t1, rfl, ht1⟩, a1, b1, c1⟩ := q1
        repeat walk_at "w"
        refine w_ixL (SqL.of hen) (by rfl) ?_
        repeat walk_at "w"
        refine w_ixT (SqT.of ht0) (by rfl) ?_
        repeat walk_at "w"
        refine w_ixL (SqL.of hen) (by rfl) ?_
        repeat walk_at "w"
        refine w_ixT (SqT.of ht1) (by rfl) ?_
        repeat walk_at "w"
        refine w_ixL (SqL.of hen) (by rfl) ?_
        repeat walk_at "w"
        refine w_ixT (SqT.of ht0) (by rfl) ?_
        repeat walk_at "w"
        refine w_ixL (SqL.of hen) (by rfl) ?_
        repeat walk_at "w"
        refine w_ixT (SqT.of ht1) (by rfl) ?_
        repeat walk_at "w"
        refine ⟨sz100 (Nat.le_of_ble_eq_true rfl), fun z hpz => ?_⟩; generalize eH2 : upd H' z _ = H2; obtain ⟨g2, h2⟩ := new_facts TT hpz eH2; clear eH2
        exact k z (e0.1, e1.1, e0.2, e1.2) H2 ⟨⟨a0, b0, c0⟩, a1, b1, c1⟩ (g.trans g2.of0) (hs'.gr g2) h2
end
end Wd
end
section
/-! The law: held, far, the shape. -/
namespace Wd
open PySem PySem.Spec PyProof.Rows L2 LamX NdefX
local macro_rules | `(tactic| walk_at "w") => `(tactic| first
  | with_reducible refine w_var (by with_unfolding_all rfl) ?_
  | with_reducible refine w_aug (by with_unfolding_all rfl) ?_
  | with_reducible refine w_op ?_
  | with_reducible refine w_c ?_
  | with_reducible refine w_I0 ?_
  | with_reducible refine w_cons ?_
  | with_reducible refine w_nil ?_
  | with_reducible refine w_call ?_
  | with_reducible refine w_cb ?_
  | with_reducible refine w_seq ?_
  | with_reducible refine w_ret ?_
  | with_reducible refine w_set ?_
  | with_reducible refine w_if ?_
  | with_reducible refine w_test ?_
  | with_reducible refine w_B ?_
  | with_reducible refine w_k ?_
  | with_reducible refine w_and ?_
  | with_reducible refine w_or ?_
  | with_reducible refine w_not ?_
  | with_reducible refine w_andV ?_
  | with_reducible refine w_orV ?_
  | with_reducible refine w_notV ?_
  | with_reducible refine w_ifE ?_
  | with_reducible refine w_chain ?_
  | with_reducible refine w_un ?_
  | with_reducible refine w_U ?_
  | with_reducible refine w_isN ?_
  | with_reducible refine w_notN ?_
  | with_reducible refine w_T ?_
  | with_reducible refine w_F ?_
  | with_reducible refine w_next ?_
  | with_reducible refine w_drop ?_
  | with_reducible refine w_par2 ?_
  | with_reducible refine w_par3 ?_
  | with_reducible refine w_tup ?_
  | with_reducible refine w_lst ?_
  | with_reducible refine w_bm ?_
  | with_reducible refine w_bm0 ?_
  | with_reducible refine w_gname ?_
  | with_reducible refine w_gcons ?_
  | with_reducible refine w_lcI ?_
  | with_reducible refine w_lc2I ?_
  | with_reducible refine w_iTup ?_
  | with_reducible refine w_iList ?_
  | with_reducible refine w_yes ?_
  | with_reducible refine w_din ?_
  | with_reducible refine w_dput ?_
  | with_reducible refine w_dget2 ?_
  | with_reducible refine w_iEnum ?_
  | with_reducible refine w_sl ?_
  | with_reducible refine w_noP ?_
  | with_reducible refine w_part ?_
  | with_reducible refine w_asg ?_
  | with_reducible refine w_ip ?_
  | with_reducible refine w_cont ?_
  | with_reducible refine w_callD ?_
  | with_reducible refine w_thru ?_
  | with_reducible refine w_star ?_
  | with_reducible refine w_bits ?_
  | with_reducible refine w_revL ?_
  | with_reducible refine w_fld ?_
  | with_reducible refine w_dget ?_
  | with_reducible refine w_keys ?_
  | with_reducible refine w_gsub ?_
  | with_reducible refine w_fldaug ?_
  | with_reducible refine w_sfld ?_
  | with_reducible refine w_meth ?_
  | with_reducible refine w_make ?_
  | with_reducible refine w_ite (by with_unfolding_all rfl) ?_ | with_reducible refine w_itf (by with_unfolding_all rfl) ?_)
section
variable {P : Program} {w : World} {K : PySem.W.Frag} {mg : Str → Option Value} {base : Heap} {aE C : Addr}
def spLHolds (K : PySem.W.Frag) : Sp := fun vs H Q _ => ∃ z v rc p, vs = [.ref z, v] ∧ SqT K H z (rcL rc) ∧ PtV H v p ∧ Q (.bl (hold rc p)) H
theorem hold_out {rc : Rect} {p : Pt} {ax : Bool} (h : outAx rc p ax = true) : hold rc p = false := by
  unfold hold
  cases ax <;> rw [h] <;> simp
abbrev s_law_holds : Stmt := topS 60
abbrev N_law_holds : List Str := ["_law_zone", "_law_spot", "_law_lane"]
theorem sc_law_holds : FnScope N_law_holds ["_law_zone", "_law_spot"] (C8.fnScope s_law_holds) := ⟨rfl, rfl, rfl, by decide +kernel, rfl, by decide +kernel, by decide +kernel⟩
theorem cal_law_holds {f : Addr} {fd : FuncData} (F : C8.Def K mg "_law_holds" s_law_holds f fd) (b : Binds K fd ["_law_zone", "_law_spot"] []) (T : Txt K mg aE C) : C8.Cal P w K mg base 1 "_law_holds" (spLHolds K) [] := by
  refine C8.cal0 F b .nil sc_law_holds (fun vs H Q E h => ?_) (fun cdv A outer s H vs Q E hr h => ?_)
  · obtain ⟨z, v, rc, p, rfl, _⟩ := h
    rfl
  · obtain ⟨z, v, rc, p, rfl, hz, ⟨a, rfl, ha⟩, k⟩ := h
    have nd := sc_law_holds.nd
    refine ⟨_, (pss_cons (ps_for PassesOwn.never rfl (pi_range1 (by rfl) T.nrange (pa_cons pe_int pa_nil)) (pg_name (i := 2) nd rfl (Or.inl rfl)) (pss_cons (ps_if (PW.pt (pw_and (pt_cmpR op_notN1 (pe_ix ix_tup (pv 0) (pv 2) (fun _ _ => rfl)) pe_non (nomark _)) (pw_and1 (pt_cmpR op_lt (pe_ix ix_tup (pv 1) (pv 2) (fun _ _ => rfl)) (pe_ix ix_tup (pv 0) (pv 2) (fun _ _ => rfl)) (nomark _))))) (pss_one (ps_ret pe_bl)) pss_nil)
  (pss_one (ps_if (PW.pt (pw_and (pt_cmpR op_notN1 (pe_ix ix_tup (pv 0) (pe_op op_add (pv 2) pe_int) (fun _ _ => rfl)) pe_non (nomark _)) (pw_and1 (pt_cmpR op_gt (pe_ix ix_tup (pv 1) (pv 2) (fun _ _ => rfl)) (pe_ix ix_tup (pv 0) (pe_op op_add (pv 2) pe_int) (fun _ _ => rfl)) (nomark _))))) (pss_one (ps_ret pe_bl)) pss_nil))))
  (pss_one (ps_ret pe_bl))), ?_⟩
    repeat walk_at "w"
    with_reducible refine w_forI ?_
    refine w_iRng1 ?_
    repeat walk_at "w"
    refine ⟨_, rfl, by decide, by decide, ?_⟩
    refine for_range (n := 2) (lo := 0) (fun i σ' H' => ∃ v2 : Option V, σ' = [some (.ref z), some (.ref a), v2] ∧ H' = H ∧ ∀ ax, axN ax < i → outAx rc p ax = false)
      ⟨none, rfl, rfl, fun ax h => absurd h (Nat.not_lt_zero _)⟩ ?_ ?_
    · rintro i σ' H' hi2 ⟨v2, rfl, rfl, hout⟩
      rw [Int.zero_add]
      obtain ⟨ax, hax, hia⟩ : ∃ ax, V.int (i : Nat) = axV ax ∧ i = axN ax := by
        have : i = 0 ∨ i = 1 := by omega
        rcases this with rfl | rfl
        · exact ⟨false, rfl, rfl⟩
        · exact ⟨true, rfl, rfl⟩
      rw [hax]
      have done : outAx rc p ax = false → ∀ ax', axN ax' < i + 1 → outAx rc p ax' = false := fun h ax' h' => by
        by_cases e : axN ax' < i
        · exact hout ax' e
        · have : axN ax' = axN ax := by omega
          have e2 : ax' = ax := by cases ax <;> cases ax' <;> first | rfl | (cases this)
          rw [e2]
          exact h
      refine w_gname ?_
      repeat walk_at "w"
      refine w_ixT hz ax_lo ?_
      repeat walk_at "w"
      cases hl : lo rc ax with
      | none =>
        repeat walk_at "w"
        have hlo : ltO (kx ax p) (lo rc ax) = false := (by unfold ltO; rw [hl])
        repeat walk_at "w"
        refine w_ixT hz ax_hi ?_
        repeat walk_at "w"
        cases hh : hi rc ax with
        | none =>
          repeat walk_at "w"
          exact ⟨_, rfl, rfl, done (by unfold outAx; rw [hlo, hh]; rfl)⟩
        | some u =>
          repeat walk_at "w"
          refine w_ixT (SqT.of ha) ax_pt ?_
          repeat walk_at "w"
          refine w_ixT hz ax_hi ?_
          rw [hh]
          repeat walk_at "w"
          refine w_dec (fun hgt => ?_) (fun hgt => ?_)
          · repeat walk_at "w"
            rw [hold_out (ax := ax) (by unfold outAx; rw [hlo, hh, show gtO (kx ax p) (some u) = true from decide_eq_true hgt]; rfl)] at k
            exact k
          · repeat walk_at "w"
            exact ⟨_, rfl, rfl, done (by unfold outAx; rw [hlo, hh, show gtO (kx ax p) (some u) = false from decide_eq_false hgt]; rfl)⟩
      | some l =>
        repeat walk_at "w"
        refine w_ixT (SqT.of ha) ax_pt ?_
        repeat walk_at "w"
        refine w_ixT hz ax_lo ?_
        rw [hl]
        repeat walk_at "w"
        refine w_dec (fun hlt => ?_) (fun hlt => ?_)
        · repeat walk_at "w"
          rw [hold_out (ax := ax) (by unfold outAx; rw [hl, show ltO (kx ax p) (some l) = true from decide_eq_true hlt]; rfl)] at k
          exact k
        · skip
          have hlo : ltO (kx ax p) (lo rc ax) = false := (by rw [hl]; exact decide_eq_false hlt)
          repeat walk_at "w"
          refine w_ixT hz ax_hi ?_
          repeat walk_at "w"
          cases hh : hi rc ax with
          | none =>
            repeat walk_at "w"
            exact ⟨_, rfl, rfl, done (by unfold outAx; rw [hlo, hh]; rfl)⟩
          | some u =>
            repeat walk_at "w"
            refine w_ixT (SqT.of ha) ax_pt ?_
            repeat walk_at "w"
            refine w_ixT hz ax_hi ?_
            rw [hh]
            repeat walk_at "w"
            refine w_dec (fun hgt => ?_) (fun hgt => ?_)
            · repeat walk_at "w"
              rw [hold_out (ax := ax) (by unfold outAx; rw [hlo, hh, show gtO (kx ax p) (some u) = true from decide_eq_true hgt]; rfl)] at k
              exact k
            · repeat walk_at "w"
              exact ⟨_, rfl, rfl, done (by unfold outAx; rw [hlo, hh, show gtO (kx ax p) (some u) = false from decide_eq_false hgt]; rfl)⟩
    · rintro σ' H' ⟨v2, rfl, rfl, hout⟩
      repeat walk_at "w"
      rw [hold_of fun ax => hout ax (by cases ax <;> decide)] at k
      exact k
def spLFar : Sp := fun vs H Q _ => ∃ v q u p, vs = [v, u] ∧ PtV H v q ∧ PtV H u p ∧ Small q ∧ Small p ∧ Q (.int (dst q p)) H
theorem small_w {i j : Int} (h1 : i.natAbs < 2 ^ 120) (h2 : j.natAbs < 2 ^ 120) : CMulW (i - j) (i - j) := by
  have h3 : (i - j).natAbs < 2 ^ 121 := by omega
  have h4 : (i - j).natAbs.log2 < 200 := by
    by_cases e : (i - j).natAbs = 0
    · rw [e]
      decide
    · have := (Nat.log2_lt e (k := 121)).mpr h3
      omega
  show _ + _ < 1000000
  omega
abbrev s_law_far : Stmt := topS 62
abbrev N_law_far : List Str := ["_law_spot", "_law_one"]
theorem sc_law_far : FnScope N_law_far ["_law_spot", "_law_one"] (C8.fnScope s_law_far) := ⟨rfl, rfl, rfl, by decide +kernel, rfl, by decide +kernel, by decide +kernel⟩
theorem cal_law_far {f : Addr} {fd : FuncData} (F : C8.Def K mg "_law_far" s_law_far f fd) (b : Binds K fd ["_law_spot", "_law_one"] []) : C8.Cal P w K mg base 1 "_law_far" spLFar [] := by
  refine C8.cal0 F b .nil sc_law_far (fun vs H Q E h => ?_) (fun cdv A outer s H vs Q E hr h => ?_)
  · obtain ⟨v, q, u, p, rfl, _⟩ := h
    rfl
  · obtain ⟨v, q, u, p, rfl, ⟨a, rfl, ha⟩, ⟨b, rfl, hb⟩, hq, hp, k⟩ := h
    have nd := sc_law_far.nd
    refine ⟨_, (pss_one (ps_ret (pe_op op_add (pe_op op_mulW (pe_op op_sub (pe_ix ix_tup (pv 0) pe_int (fun _ _ => rfl)) (pe_ix ix_tup (pv 1) pe_int (fun _ _ => rfl))) (pe_op op_sub (pe_ix ix_tup (pv 0) pe_int (fun _ _ => rfl)) (pe_ix ix_tup (pv 1) pe_int (fun _ _ => rfl)))) (pe_op op_mulW (pe_op op_sub (pe_ix ix_tup (pv 0) pe_int (fun _ _ => rfl)) (pe_ix ix_tup (pv 1) pe_int (fun _ _ => rfl))) (pe_op op_sub (pe_ix ix_tup (pv 0) pe_int (fun _ _ => rfl)) (pe_ix ix_tup (pv 1) pe_int (fun _ _ => rfl))))))), ?_⟩
    repeat walk_at "w"
    refine w_ixT (SqT.of ha) (by rfl) ?_
    repeat walk_at "w"
    refine w_ixT (SqT.of hb) (by rfl) ?_
    repeat walk_at "w"
    refine w_ixT (SqT.of ha) (by rfl) ?_
    repeat walk_at "w"
    refine w_ixT (SqT.of hb) (by rfl) ?_
    repeat walk_at "w"
    refine w_I (small_w hq.1 hp.1) ?_
    repeat walk_at "w"
    refine w_ixT (SqT.of ha) (by rfl) ?_
    repeat walk_at "w"
    refine w_ixT (SqT.of hb) (by rfl) ?_
    repeat walk_at "w"
    refine w_ixT (SqT.of ha) (by rfl) ?_
    repeat walk_at "w"
    refine w_ixT (SqT.of hb) (by rfl) ?_
    repeat walk_at "w"
    refine w_I (small_w hq.2 hp.2) ?_
    repeat walk_at "w"
    exact k
/-! ### the shape -/
structure FOk (ks : Kn) (pl : List Tree) : Prop where
  inv : FInv ks pl
  ok : ∀ p ∈ keys ks, PtOk p
theorem FOk.key {ks : Kn} {pl : List Tree} (f : FOk ks pl) {p : Pt} (h : p ∈ pts pl) : p ∈ keys ks := f.inv.pp.mem_iff.mp h
theorem FOk.tree {ks : Kn} {pl : List Tree} (f : FOk ks pl) {t : Tree} (h : t ∈ pl) : Kd false t ∧ tok t := ⟨wf_kd f.inv.wf h, fun p hp => f.ok p (f.key (List.mem_flatMap.mpr ⟨t, h, hp⟩))⟩
theorem FOk.len {ks : Kn} {pl : List Tree} (f : FOk ks pl) : (pts pl).length ≤ 40 := by
  rw [f.inv.pp.length_eq, keys_len]
  exact f.inv.few
theorem FOk.pll {ks : Kn} {pl : List Tree} (f : FOk ks pl) : pl.length ≤ 6 := wf_len f.inv.wf f.inv.top
theorem bt6_ht {cs : List Pt} (h : cs.length < 64) : ht (bt6 cs) ≤ bl cs.length := by
  obtain ⟨h1, h2, _⟩ := bl_facts cs.length h
  have e : bt6 cs = bt (bl cs.length) false cs := bt_up h1 h2
  rw [e]
  exact bt_ht _ _ _
theorem wf_even {pl : List Tree} {j : Nat} {t : Tree} (w : Wf 0 pl) (h : pl[j]? = some t) (n : t ≠ .nil) : ht t ≤ Builtin.Int.intBits ((tsz t : Nat) : Int) ∧ bt 6 false (rd t) = t ∧ (rd t).length = 2 ^ j ∧ j ≤ 5 := by
  rcases wf_get w h with z | ⟨cs, h1, h2, h3, rfl⟩
  · exact absurd z n
  · rw [Nat.zero_add] at h2 h3
    have hl : cs.length < 64 := by omega
    have e : (rd (bt6 cs)).length = cs.length := rd_len hl
    refine ⟨?_, bt_again hl, by rw [e, h2], ?_⟩
    · rw [← tsz_rd, e]
      exact bt6_ht hl
    · have : 2 ^ j < 2 ^ 6 := h3
      have := (Nat.pow_lt_pow_iff_right (a := 2) (by decide)).mp this
      omega
theorem top_last {pl : List Tree} (t : Top pl) (h : pl ≠ []) : ∃ p l r, pl[pl.length - 1]? = some (.node p l r) := by
  induction pl with
  | nil => exact absurd rfl h
  | cons a rest ih =>
    cases rest with
    | nil =>
      cases a with
      | nil => exact absurd rfl t
      | node p l r => exact ⟨p, l, r, rfl⟩
    | cons b rest =>
      obtain ⟨p, l, r, e⟩ := ih t (by simp)
      exact ⟨p, l, r, by simpa using e⟩
def spLShape (C : Addr) (TT : List (Addr × Str)) : Sp := fun vs H Q _ => ∃ x dx pa ka ks pl tot, vs = [.ref x] ∧ FoV C H x dx pa ka ks pl tot ∧ FOk ks pl ∧ Tabs TT H ∧ ∀ H', Gr TT NoS H H' → Q (.bl true) H'
abbrev s_law_shape_right : Stmt := topS 61
abbrev N_law_shape_right : List Str := ["_law_wald", "_law_found", "_law_woods", "_law_place", "_law_wood", "_law_some"]
theorem sc_law_shape_right : FnScope N_law_shape_right ["_law_wald"] (C8.fnScope s_law_shape_right) := ⟨rfl, rfl, rfl, by decide +kernel, rfl, by decide +kernel, by decide +kernel⟩
theorem cal_law_shape {TT : List (Addr × Str)} {f : Addr} {fd : FuncData} (F : C8.Def K mg "_law_shape_right" s_law_shape_right f fd) (b : Binds K fd ["_law_wald"] []) (T : Txt K mg aE C) (m_trees : C8.Met P w K mg base 1 C "trees" (spTrees C TT) []) (m_gone : C8.Met P w K mg base 1 C "gone" (spGone C TT) [])
    (m_points : C8.Met P w K mg base 1 C "points" (spPoints C TT) []) (c_in_order : C8.Cal P w K mg base 7 "in_order" (spInOrder TT) []) (c_is_middle : C8.Cal P w K mg base 7 "is_middle" (spIsMid TT) []) (c_is_even : C8.Cal P w K mg base 13 "is_even" (spEven TT) []) :
    C8.Cal P w K mg base 14 "_law_shape_right" (spLShape C TT) [] := by
  refine C8.cal0 F b .nil sc_law_shape_right (fun vs H Q E h => ?_) (fun cdv A outer s H vs Q E hr h => ?_)
  · obtain ⟨x, dx, pa, ka, ks, pl, tot, rfl, _⟩ := h
    rfl
  · obtain ⟨x, dx, pa, ka, ks, pl, tot, rfl, hf, fo, tabs, k⟩ := h
    have nd := sc_law_shape_right.nd
    have hfl := fo.len
    have hpl := fo.pll
    refine ⟨_, (pss_cons (ps_par (i := 1) (j := 2) rfl nd rfl rfl (by decide) rfl rfl (pa_cons (pe_lst pa_nil) (pa_cons (C8.pe_mt0 m_trees hr (by decide) (pv 0)) pa_nil)) (by rfl))
  (pss_cons (ps_for PassesOwn.never rfl (pi_enum (by rfl) T.nenumerate (pa_cons (pv 2) pa_nil)) (pg_tup rfl (pgs_cons (pg_name (i := 3) nd rfl (Or.inl rfl)) (pgs_cons (pg_name (i := 4) nd rfl (Or.inl rfl)) pgs_nil))) (pss_one (ps_if (pt_cmpR op_notN1 (pv 4) pe_non (nomark _)) (pss_cons (ps_set (i := 5) nd rfl (Or.inl rfl) (C8.pe_c c_in_order hr (by decide) (by rfl) (pa_cons (pv 4) pa_nil)))
  (pss_cons (ps_if (PW.pt (pw_or (pt_not (pt_val (C8.pe_c c_is_middle hr (by decide) (by rfl) (pa_cons (pv 4) pa_nil)))) (pw_or (pt_not (pt_val (C8.pe_c c_is_even hr (by decide) (by rfl) (pa_cons (pv 4) pa_nil)))) (pw_or1 (pt_cmpR op_ne (pe_callB call_len_seq (by rfl) T.nlen (by decide +kernel) (pa_cons (pv 5) pa_nil)) (pe_op op_shl pe_int (pv 3)) (nomark _)))))) (pss_one (ps_ret pe_bl)) pss_nil)
  (pss_one (ps_set (i := 1) nd rfl (Or.inl rfl) (pe_op op_cat (pv 1) (pv 5)))))) pss_nil)))
  (pss_cons (ps_if (PW.pt (pw_or (PW.pt (pw_and (pt_cmpR (op_neNil hr.units0) (pv 2) (pe_lst pa_nil) (nomark _)) (pw_and1 (pt_cmpR op_isN1 (pe_ix ix_list (pv 2) (pe_un un_neg pe_int) (fun _ _ => rfl)) pe_non (nomark _))))) (pw_or1 (pt_cmpR op_gt (pe_op op_mul pe_int (pe_callB call_len_seq (by rfl) T.nlen (by decide +kernel) (pa_cons (C8.pe_mt0 m_gone hr (by decide) (pv 0)) pa_nil))) (pe_callB call_len_seq (by rfl) T.nlen (by decide +kernel) (pa_cons (pv 1) pa_nil)) (nomark _))))) (pss_one (ps_ret pe_bl)) pss_nil)
  (pss_one (ps_ret (pe_cmpR (op_eqD (room64 hr)) (pe_callB cr_sortedPO (by rfl) T.nsorted (by decide +kernel) (pa_cons (pv 1) pa_nil)) (pe_callB cr_sortedPO (by rfl) T.nsorted (by decide +kernel) (pa_cons (pe_op op_cat (C8.pe_mt0 m_points hr (by decide) (pv 0)) (C8.pe_mt0 m_gone hr (by decide) (pv 0))) pa_nil)) (nomark _))))))), ?_⟩
    repeat walk_at "w"
    refine ⟨sz100 (Nat.le_of_ble_eq_true rfl), fun l0 hpl0 => ?_⟩; generalize eH1 : upd H l0 _ = H1; obtain ⟨g1, h1⟩ := new_facts TT hpl0 eH1; clear eH1
    have hf1 := hf.gr0 g1
    repeat walk_at "w"
    refine ⟨x, dx, _, rfl, hf1.ob, rfl, ?_⟩
    repeat walk_at "w"
    refine ⟨x, dx, pa, ka, ks, pl, tot, rfl, hf1, fun tl ts H2 g2 tl0 htl hts => ?_⟩
    repeat walk_at "w"
    have g12 := g1.trans g2
    have htl0 := hts.len
    with_reducible refine w_forI ?_
    repeat walk_at "w"
    refine ⟨tl, ts, rfl, SqL.of htl, for_it L2.walk_enum (fun i σ' H' => ∃ (v3 v4 v5 : Option V) (l : Addr) (xs : List V), σ' = [some (.ref x), some (.ref l), some (.ref tl), v3, v4, v5] ∧ Gr TT NoS H2 H' ∧ H' l = some (.lst xs) ∧ PtsV H' xs (pts (pl.take i)))
      ⟨none, none, none, l0, [], rfl, .refl _, g2.keepL0 h1, by rw [List.take_zero]; exact .nil⟩ (fun i σ' H' _ ⟨_, _, _, _, _, _, z, _⟩ => SqL.of (z.keepL0 htl)) ?_ ?_⟩
    · rintro i v σ' H' H'' hi2 ⟨v3, v4, v5, l, xs, rfl, g, hl, hxs⟩ ⟨q, y0, y, rfl, hq, rfl, hy0, hy⟩
      obtain rfl : y0 = .int (i : Nat) := (Option.some.inj hy0).symm
      generalize e5 : upd H' q _ = H5
      obtain ⟨g5, h5⟩ := new_facts TT hq e5
      clear e5
      obtain ⟨t, ht, hyt⟩ := Al.get hts hy
      have htm := List.mem_of_getElem? ht
      have htsz := tsz_pts htm
      have hyt5 := hyt.gr (g.trans g5)
      have hl5 := g5.keepL0 hl
      have hxs5 : PtsV H5 xs (pts (pl.take i)) := Al.imp hxs fun _ _ z => z.gr g5
      have e2 : pts (pl.take (i + 1)) = pts (pl.take i) ++ rd t := by
        rw [List.take_add_one, ht]
        unfold pts
        rw [List.flatMap_append]
        simp
      refine w_gtup (SqT.of h5) rfl (w_gcons (w_gname (w_gcons (w_gname (w_gnil ?_)))))
      repeat walk_at "w"
      cases t with
      | nil =>
        obtain rfl : y = .non := hyt5
        repeat walk_at "w"
        exact ⟨_, _, _, l, xs, rfl, g.trans g5, hl5, by rw [e2]; exact (show PtsV H5 xs (pts (pl.take i) ++ []) by rw [List.append_nil]; exact hxs5)⟩
      | node p lf rt =>
        obtain ⟨hht, hev, hrl, hj5⟩ := wf_even fo.inv.wf ht (fun z => by cases z)
        obtain ⟨hkd, htok⟩ := fo.tree htm
        obtain ⟨a2, qv, lv, rv, rfl, ha2, hpq, hlf, hrt⟩ := id hyt5
        repeat walk_at "w"
        refine ⟨_, _, rfl, hyt5, by omega, hkd, htok, fun sl ss H6 g6 _ hsl hss => ?_⟩
        repeat walk_at "w"
        refine ⟨_, _, rfl, hyt5.gr g6, by omega, hkd, htok, fun H7 g7 => ?_⟩
        repeat walk_at "w"
        refine ⟨_, _, rfl, (hyt5.gr g6).gr g7, by omega, hkd, htok, hht, hev, (g12.trans (g.trans (g5.trans (g6.trans g7)))).tb tabs, fun H8 g8 => ?_⟩
        repeat walk_at "w"
        have g68 := g7.trans g8
        have hsl8 := g68.keepL0 hsl
        refine ⟨sl, ss, rfl, .inl (SqL.of hsl8), ?_⟩
        repeat walk_at "w"
        refine w_I ⟨by omega, by omega, by decide⟩ ?_
        have hsl' := hss.len
        rw [hrl] at hsl'
        rw [hsl', Int.toNat_natCast, Int.one_mul, show ((2 ^ i : Nat) : Int) = (2 : Int) ^ i from by rw [Int.natCast_pow]; rfl]
        refine w_ne rfl ?_
        rw [decide_eq_true (rfl : V.int ((2 : Int) ^ i) = V.int ((2 : Int) ^ i))]
        repeat walk_at "w"
        have hl8 := (g6.trans g68).keepL0 hl5
        have hxl := hxs.len
        have hss8 : PtsV H8 ss (rd (.node p lf rt)) := Al.imp hss fun _ _ z => z.gr g68
        have hp2 : (2 : Nat) ^ i ≤ 2 ^ 5 := Nat.pow_le_pow_right (by decide) hj5
        have hpt : (pts (pl.take i)).length ≤ (pts pl).length := pts_take pl i
        refine ⟨l, sl, _, _, rfl, rfl, hl8, hsl8, sz100 (by omega), fun l2 hl2 => ?_⟩
        generalize e9 : upd H8 l2 _ = H9
        obtain ⟨g9, h9⟩ := new_facts TT hl2 e9
        clear e9
        repeat walk_at "w"
        exact ⟨_, _, _, l2, _, rfl, g.trans (g5.trans (g6.trans (g68.trans g9))), h9, by rw [e2]; exact Al.app (Al.imp hxs5 fun _ _ z => (z.gr (g6.trans g68)).gr g9) (Al.imp hss8 fun _ _ z => z.gr g9)⟩
    · rintro σ' H' ⟨v3, v4, v5, l, xs, rfl, g, hl, hxs⟩
      rw [htl0, List.take_of_length_le (Nat.le_refl _)] at hxs
      have G := g12.trans g
      have hf' := hf.gr0 G
      have htl' := g.keepL0 htl
      repeat walk_at "w"
      refine ⟨sz100 (Nat.le_of_ble_eq_true rfl), fun e hpe => ?_⟩; generalize eH5 : upd H' e _ = H5; obtain ⟨g5, h5⟩ := new_facts TT hpe eH5; clear eH5
      refine w_neNil (SqL.of (g5.keepL0 htl')) h5 ?_
      repeat walk_at "w"
      have nl : ∀ z : Bool, ts.isEmpty = z → (z = false → ∃ y, atI ts (-1) = some y ∧ y ≠ .non) := fun z hz hzf => by
        have hne : pl ≠ [] := fun e => by
          rw [e] at htl0
          rw [hzf] at hz
          cases ts with
          | nil => cases hz
          | cons _ _ => cases htl0
        obtain ⟨p, lf, rt, hlast⟩ := top_last fo.inv.top hne
        obtain ⟨y, hy, hyt⟩ := Al.get' hts hlast
        obtain ⟨a2, qv, lv, rv, rfl, _⟩ := hyt
        refine ⟨.ref a2, ?_, fun z => (by cases z)⟩
        have hpos : 0 < pl.length := List.length_pos_iff.mpr hne
        unfold atI ixN
        rw [if_neg (by decide), if_pos (by omega)]
        rw [← hy]
        show ts[(-1 + (ts.length : Int)).toNat]? = _
        congr 1
        omega
      cases hz : ts.isEmpty with
      | true =>
        repeat walk_at "w"
        have hf5 := hf'.gr0 g5
        refine ⟨x, dx, _, rfl, hf5.ob, rfl, ?_⟩
        repeat walk_at "w"
        refine ⟨x, dx, pa, ka, ks, pl, tot, rfl, hf5, fo.inv.nd, by have := fo.inv.few; omega, fun gl gs H6 g6 _ hgl hgs => ?_⟩
        have hgn := hgs.len
        rw [srt_len] at hgn
        have hxn := hxs.len
        have hhalf := fo.inv.half
        have hpp := fo.inv.pp.length_eq
        rw [keys_len] at hpp
        repeat walk_at "w"
        refine ⟨gl, gs, rfl, .inl (SqL.of hgl), ?_⟩
        repeat walk_at "w"
        refine w_I (.inl ⟨by decide, by decide⟩) ?_
        have hl6 := g6.keepL0 (g5.keepL0 hl)
        repeat walk_at "w"
        refine ⟨l, xs, rfl, .inl (SqL.of hl6), ?_⟩
        repeat walk_at "w"
        rw [decide_eq_false (show ¬ ((xs.length : Nat) : Int) < 2 * ((gs.length : Nat) : Int) by omega)]
        repeat walk_at "w"
        have hxs6 : PtsV H6 xs (pts pl) := Al.imp hxs fun _ _ z => (z.gr g5).gr g6
        refine w_sortPts (SqL.of hl6) hxs6 fun ys1 p1 hys1 hp1 => ?_
        generalize e7 : upd H6 p1 _ = H7
        obtain ⟨g7, h7⟩ := new_facts TT hp1 e7
        clear e7
        have hys7 : PtsV H7 ys1 (srt false (pts pl)) := Al.imp hys1 fun _ _ z => z.gr g7
        have hf7 := (hf5.gr0 g6).gr0 g7
        repeat walk_at "w"
        refine ⟨x, dx, _, rfl, hf7.ob, rfl, ?_⟩
        repeat walk_at "w"
        refine ⟨x, dx, pa, ka, ks, pl, tot, rfl, hf7, fo.inv.nd, by have := fo.inv.few; omega, fun al as H8 g8 _ hal has => ?_⟩
        repeat walk_at "w"
        have hf8 := hf7.gr0 g8
        refine ⟨x, dx, _, rfl, hf8.ob, rfl, ?_⟩
        repeat walk_at "w"
        refine ⟨x, dx, pa, ka, ks, pl, tot, rfl, hf8, fo.inv.nd, by have := fo.inv.few; omega, fun gl2 gs2 H9 g9 _ hgl2 hgs2 => ?_⟩
        have hal9 := g9.keepL0 hal
        have has9 : PtsV H9 as (srt false (alive ks)) := Al.imp has fun _ _ z => z.gr g9
        have hasn := has.len
        have hgsn := hgs2.len
        rw [srt_len] at hasn hgsn
        have hag := (alive_gone ks).length_eq
        rw [List.length_append, keys_len] at hag
        have hfew := fo.inv.few
        refine ⟨al, gl2, _, _, rfl, rfl, hal9, hgl2, sz100 (by omega), fun c hc => ?_⟩
        generalize e10 : upd H9 c _ = H10
        obtain ⟨g10, h10⟩ := new_facts TT hc e10
        clear e10
        repeat walk_at "w"
        have hall : PtsV H10 (as ++ gs2) (srt false (alive ks) ++ srt false (gone ks)) := Al.app (Al.imp has9 fun _ _ z => z.gr g10) (Al.imp hgs2 fun _ _ z => z.gr g10)
        refine w_sortPts (SqL.of h10) hall fun ys2 p2 hys2 hp2 => ?_
        generalize e11 : upd H10 p2 _ = H11
        obtain ⟨g11, h11⟩ := new_facts TT hp2 e11
        clear e11
        have hperm : (srt false (alive ks) ++ srt false (gone ks)).Perm (pts pl) := (((srt_perm _ _).append (srt_perm _ _)).trans (alive_gone ks)).trans fo.inv.pp.symm
        rw [srt_congr hperm] at hys2
        repeat walk_at "w"
        have g710 := g8.trans (g9.trans (g10.trans g11))
        refine ⟨_, _, PtsV.dp (Al.imp hys7 fun _ _ z => z.gr g710) (SqL.of (g710.keepL0 h7)), PtsV.dp (Al.imp hys2 fun _ _ z => z.gr g11) (SqL.of h11), shaped_pts _, shaped_pts _, ?_⟩
        rw [eqv_same (shaped_pts _)]
        exact k _ (G.trans (g5.trans (g6.trans (g7.trans g710))))
      | false =>
        obtain ⟨y, hy, hyn⟩ := nl false hz rfl
        repeat walk_at "w"
        refine w_ixL (SqL.of (g5.keepL0 htl')) hy ?_
        repeat walk_at "w"
        rw [decide_eq_false hyn]
        repeat walk_at "w"
        have hf5 := hf'.gr0 g5
        refine ⟨x, dx, _, rfl, hf5.ob, rfl, ?_⟩
        repeat walk_at "w"
        refine ⟨x, dx, pa, ka, ks, pl, tot, rfl, hf5, fo.inv.nd, by have := fo.inv.few; omega, fun gl gs H6 g6 _ hgl hgs => ?_⟩
        have hgn := hgs.len
        rw [srt_len] at hgn
        have hxn := hxs.len
        have hhalf := fo.inv.half
        have hpp := fo.inv.pp.length_eq
        rw [keys_len] at hpp
        repeat walk_at "w"
        refine ⟨gl, gs, rfl, .inl (SqL.of hgl), ?_⟩
        repeat walk_at "w"
        refine w_I (.inl ⟨by decide, by decide⟩) ?_
        have hl6 := g6.keepL0 (g5.keepL0 hl)
        repeat walk_at "w"
        refine ⟨l, xs, rfl, .inl (SqL.of hl6), ?_⟩
        repeat walk_at "w"
        rw [decide_eq_false (show ¬ ((xs.length : Nat) : Int) < 2 * ((gs.length : Nat) : Int) by omega)]
        repeat walk_at "w"
        have hxs6 : PtsV H6 xs (pts pl) := Al.imp hxs fun _ _ z => (z.gr g5).gr g6
        refine w_sortPts (SqL.of hl6) hxs6 fun ys1 p1 hys1 hp1 => ?_
        generalize e7 : upd H6 p1 _ = H7
        obtain ⟨g7, h7⟩ := new_facts TT hp1 e7
        clear e7
        have hys7 : PtsV H7 ys1 (srt false (pts pl)) := Al.imp hys1 fun _ _ z => z.gr g7
        have hf7 := (hf5.gr0 g6).gr0 g7
        repeat walk_at "w"
        refine ⟨x, dx, _, rfl, hf7.ob, rfl, ?_⟩
        repeat walk_at "w"
        refine ⟨x, dx, pa, ka, ks, pl, tot, rfl, hf7, fo.inv.nd, by have := fo.inv.few; omega, fun al as H8 g8 _ hal has => ?_⟩
        repeat walk_at "w"
        have hf8 := hf7.gr0 g8
        refine ⟨x, dx, _, rfl, hf8.ob, rfl, ?_⟩
        repeat walk_at "w"
        refine ⟨x, dx, pa, ka, ks, pl, tot, rfl, hf8, fo.inv.nd, by have := fo.inv.few; omega, fun gl2 gs2 H9 g9 _ hgl2 hgs2 => ?_⟩
        have hal9 := g9.keepL0 hal
        have has9 : PtsV H9 as (srt false (alive ks)) := Al.imp has fun _ _ z => z.gr g9
        have hasn := has.len
        have hgsn := hgs2.len
        rw [srt_len] at hasn hgsn
        have hag := (alive_gone ks).length_eq
        rw [List.length_append, keys_len] at hag
        have hfew := fo.inv.few
        refine ⟨al, gl2, _, _, rfl, rfl, hal9, hgl2, sz100 (by omega), fun c hc => ?_⟩
        generalize e10 : upd H9 c _ = H10
        obtain ⟨g10, h10⟩ := new_facts TT hc e10
        clear e10
        repeat walk_at "w"
        have hall : PtsV H10 (as ++ gs2) (srt false (alive ks) ++ srt false (gone ks)) := Al.app (Al.imp has9 fun _ _ z => z.gr g10) (Al.imp hgs2 fun _ _ z => z.gr g10)
        refine w_sortPts (SqL.of h10) hall fun ys2 p2 hys2 hp2 => ?_
        generalize e11 : upd H10 p2 _ = H11
        obtain ⟨g11, h11⟩ := new_facts TT hp2 e11
        clear e11
        have hperm : (srt false (alive ks) ++ srt false (gone ks)).Perm (pts pl) := (((srt_perm _ _).append (srt_perm _ _)).trans (alive_gone ks)).trans fo.inv.pp.symm
        rw [srt_congr hperm] at hys2
        repeat walk_at "w"
        have g710 := g8.trans (g9.trans (g10.trans g11))
        refine ⟨_, _, PtsV.dp (Al.imp hys7 fun _ _ z => z.gr g710) (SqL.of (g710.keepL0 h7)), PtsV.dp (Al.imp hys2 fun _ _ z => z.gr g11) (SqL.of h11), shaped_pts _, shaped_pts _, ?_⟩
        rw [eqv_same (shaped_pts _)]
        exact k _ (G.trans (g5.trans (g6.trans (g7.trans g710))))
end
end Wd
end
section
/-! The law: what is found. -/
namespace Wd
open PySem PySem.Spec PyProof.Rows L2 LamX NdefX
local macro_rules | `(tactic| walk_at "w") => `(tactic| first
  | with_reducible refine w_var (by with_unfolding_all rfl) ?_
  | with_reducible refine w_aug (by with_unfolding_all rfl) ?_
  | with_reducible refine w_op ?_
  | with_reducible refine w_c ?_
  | with_reducible refine w_I0 ?_
  | with_reducible refine w_cons ?_
  | with_reducible refine w_nil ?_
  | with_reducible refine w_call ?_
  | with_reducible refine w_cb ?_
  | with_reducible refine w_seq ?_
  | with_reducible refine w_ret ?_
  | with_reducible refine w_set ?_
  | with_reducible refine w_if ?_
  | with_reducible refine w_test ?_
  | with_reducible refine w_B ?_
  | with_reducible refine w_k ?_
  | with_reducible refine w_and ?_
  | with_reducible refine w_or ?_
  | with_reducible refine w_not ?_
  | with_reducible refine w_andV ?_
  | with_reducible refine w_orV ?_
  | with_reducible refine w_notV ?_
  | with_reducible refine w_ifE ?_
  | with_reducible refine w_chain ?_
  | with_reducible refine w_un ?_
  | with_reducible refine w_U ?_
  | with_reducible refine w_isN ?_
  | with_reducible refine w_notN ?_
  | with_reducible refine w_T ?_
  | with_reducible refine w_F ?_
  | with_reducible refine w_next ?_
  | with_reducible refine w_drop ?_
  | with_reducible refine w_par2 ?_
  | with_reducible refine w_par3 ?_
  | with_reducible refine w_tup ?_
  | with_reducible refine w_lst ?_
  | with_reducible refine w_bm ?_
  | with_reducible refine w_bm0 ?_
  | with_reducible refine w_gname ?_
  | with_reducible refine w_gcons ?_
  | with_reducible refine w_lcI ?_
  | with_reducible refine w_lc2I ?_
  | with_reducible refine w_iTup ?_
  | with_reducible refine w_iList ?_
  | with_reducible refine w_yes ?_
  | with_reducible refine w_din ?_
  | with_reducible refine w_dput ?_
  | with_reducible refine w_dget2 ?_
  | with_reducible refine w_iEnum ?_
  | with_reducible refine w_sl ?_
  | with_reducible refine w_noP ?_
  | with_reducible refine w_part ?_
  | with_reducible refine w_asg ?_
  | with_reducible refine w_ip ?_
  | with_reducible refine w_cont ?_
  | with_reducible refine w_callD ?_
  | with_reducible refine w_thru ?_
  | with_reducible refine w_star ?_
  | with_reducible refine w_bits ?_
  | with_reducible refine w_revL ?_
  | with_reducible refine w_fld ?_
  | with_reducible refine w_dget ?_
  | with_reducible refine w_keys ?_
  | with_reducible refine w_gsub ?_
  | with_reducible refine w_fldaug ?_
  | with_reducible refine w_sfld ?_
  | with_reducible refine w_meth ?_
  | with_reducible refine w_make ?_
  | with_reducible refine w_ite (by with_unfolding_all rfl) ?_ | with_reducible refine w_itf (by with_unfolding_all rfl) ?_)
theorem alive_filter {ks : Kn} (nd : (keys ks).Nodup) : (keys ks).filter (isAlive ks) = alive ks := by
  unfold keys alive
  rw [List.filter_map]
  congr 1
  refine List.filter_congr fun q hq => ?_
  show (getB ks q.1 == some true) = q.2
  rw [getB_of nd (show (q.1, q.2) ∈ ks from hq)]
  cases q.2 <;> rfl
theorem fndF_eq {ks : Kn} {rc : Rect} : ∀ {pl : List Tree}, (∀ t ∈ pl, Kd false t) → fndF rc ks pl = ((pts pl).filter (hold rc)).filter (isAlive ks)
  | [], _ => rfl
  | t :: r, h => by
    show (fnd rc false t).filter (isAlive ks) ++ fndF rc ks r = ((rd t ++ pts r).filter (hold rc)).filter (isAlive ks)
    rw [fndF_eq fun u hu => h u (List.mem_cons_of_mem _ hu), fnd_eq (h t (List.mem_cons_self ..)), List.filter_append, List.filter_append]
theorem fndF_srt {ks : Kn} {pl : List Tree} (f : FOk ks pl) (rc : Rect) : srt false (fndF rc ks pl) = (srt false (alive ks)).filter (hold rc) := by
  refine (srt_is ?_ ((srt_pw false (alive ks)).filter _)).symm
  rw [fndF_eq fun t ht => (f.tree ht).1]
  have h1 : ((pts pl).filter (hold rc)).filter (isAlive ks) = ((pts pl).filter (isAlive ks)).filter (hold rc) := by
    rw [List.filter_filter, List.filter_filter]
    refine List.filter_congr fun q _ => ?_
    exact Bool.and_comm ..
  rw [h1]
  refine (((srt_perm false (alive ks)).filter _)).trans ?_
  rw [← alive_filter f.inv.nd]
  exact ((f.inv.pp.filter _).filter _).symm
theorem cntF_eq {rc : Rect} : ∀ {pl : List Tree}, cntF rc pl = ((pts pl).filter (hold rc)).length
  | [] => rfl
  | t :: r => by
    show cnt rc t + cntF rc r = ((rd t ++ pts r).filter (hold rc)).length
    rw [cntF_eq, List.filter_append, List.length_append]
    rfl
theorem cntF_all {ks : Kn} {pl : List Tree} (f : FOk ks pl) (rc : Rect) : cntF rc pl = ((alive ks).filter (hold rc)).length + ((gone ks).filter (hold rc)).length := by
  rw [cntF_eq, (f.inv.pp.filter _).length_eq, ← ((alive_gone ks).filter _).length_eq, List.filter_append, List.length_append]
theorem best_iff {ks : Kn} {pl : List Tree} (f : FOk ks pl) {q : Pt} {ro : Option Pt} (h1 : BestOk ks ro) (h2 : ∀ p ∈ pts pl, getB ks p = some true → LeB q ro p) : ro = none ↔ alive ks = [] := by
  constructor
  · intro e
    cases h : alive ks with
    | nil => rfl
    | cons p r =>
      have hp : (p, true) ∈ ks := mem_alive.mp (by rw [h]; exact List.mem_cons_self ..)
      obtain ⟨b, hb, _⟩ := h2 p (f.inv.pp.mem_iff.mpr (List.mem_map.mpr ⟨_, hp, rfl⟩)) (getB_of f.inv.nd hp)
      rw [e] at hb
      cases hb
  · intro e
    cases ro with
    | none => rfl
    | some b =>
      have := mem_alive.mpr (getB_mem (h1 b rfl).1)
      rw [e] at this
      cases this
theorem best_gap {ks : Kn} {pl : List Tree} (f : FOk ks pl) {q b : Pt} (h1 : BestOk ks (some b)) (h2 : ∀ p ∈ pts pl, getB ks p = some true → LeB q (some b) p) {gs : List Int} (hg : gs.Perm ((srt false (alive ks)).map (dst q))) (hp : gs.Pairwise (· ≤ ·)) : gs[0]? = some (dst q b) := by
  have hb : b ∈ alive ks := mem_alive.mpr (getB_mem (h1 b rfl).1)
  have hbm : dst q b ∈ gs := hg.mem_iff.mpr (List.mem_map.mpr ⟨b, (srt_perm _ _).mem_iff.mpr hb, rfl⟩)
  cases gs with
  | nil => cases hbm
  | cons g r =>
    have hgm := hg.mem_iff.mp (List.mem_cons_self ..)
    obtain ⟨p, hpm, e⟩ := List.mem_map.mp hgm
    have hpa : (p, true) ∈ ks := mem_alive.mp ((srt_perm _ _).mem_iff.mp hpm)
    obtain ⟨b', e', hle⟩ := h2 p (f.inv.pp.mem_iff.mpr (List.mem_map.mpr ⟨_, hpa, rfl⟩)) (getB_of f.inv.nd hpa)
    cases e'
    have h3 : g ≤ dst q b := by
      rcases List.mem_cons.mp hbm with z | z
      · omega
      · exact (List.pairwise_cons.mp hp).1 _ z
    have : g = dst q b := by omega
    rw [this]
    rfl
section
variable {P : Program} {w : World} {K : PySem.W.Frag} {mg : Str → Option Value} {base : Heap} {aE C : Addr}
theorem fov_src {H : Hp} {a x dx pa ka : Addr} {ks : Kn} {pl : List Tree} {tot : Int} (hf : FoV C H x dx pa ka ks pl tot) (h : Src H a) : x ≠ a ∧ pa ≠ a ∧ ka ≠ a := by
  obtain ⟨c0, c1, c2, h⟩ := h
  obtain ⟨h1, ⟨xs, h2, h3⟩, h4⟩ := hf
  refine ⟨ne_of h1 h (fun z => by cases z), fun z => ?_, ne_of h4 h (fun z => by cases z)⟩
  rw [z, h] at h2
  cases h2
  cases h3 with
  | cons q _ =>
    rename_i t _ _
    cases t with
    | nil => cases q
    | node p l r =>
      obtain ⟨_, _, _, _, e, _⟩ := q
      cases e
theorem src_pts {H : Hp} {a l : Addr} {xs : List V} {ps : List Pt} (h : Src H a) (hl : H l = some (.lst xs)) (hp : PtsV H xs ps) : a ≠ l := fun z => by
  obtain ⟨c0, c1, c2, h⟩ := h
  rw [z, hl] at h
  cases h
  cases hp with
  | cons q _ =>
    obtain ⟨_, e, _⟩ := q
    cases e
def spLFound (C : Addr) (TT : List (Addr × Str)) : Sp := fun vs H Q _ => ∃ a x l dx pa ka ks pl tot xs ps, vs = [.ref a, .ref x, .ref l] ∧ Src H a ∧ FoV C H x dx pa ka ks pl tot ∧ FOk ks pl ∧ H l = some (.lst xs) ∧ PtsV H xs ps ∧ (∀ p ∈ ps, PtOk p) ∧ ps.length ≤ 100 ∧ Tabs TT H ∧ ∀ H', Gr TT (fun c => c = a) H H' → Src H' a → Q (.bl true) H'
abbrev s_law_found_right : Stmt := topS 63
abbrev N_law_found_right : List Str := ["_law_source_here", "_law_wald", "_law_spots_here", "_law_there", "_law_turn", "_law_due", "_law_best", "_law_gaps", "_law_zone", "_law_spot", "_law_one"]
theorem sc_law_found_right : FnScope N_law_found_right ["_law_source_here", "_law_wald", "_law_spots_here"] (C8.fnScope s_law_found_right) := ⟨rfl, rfl, rfl, by decide +kernel, rfl, by decide +kernel, by decide +kernel⟩
theorem cal_law_found {TT : List (Addr × Str)} {f : Addr} {fd : FuncData} (F : C8.Def K mg "_law_found_right" s_law_found_right f fd) (b : Binds K fd ["_law_source_here", "_law_wald", "_law_spots_here"] []) (T : Txt K mg aE C) (m_points : C8.Met P w K mg base 1 C "points" (spPoints C TT) [])
    (c_law_area : C8.Cal P w K mg base 5 "_law_area" (spLArea TT) []) (c_law_pick : C8.Cal P w K mg base 3 "_law_pick" (spLPick K TT) []) (c_law_holds : C8.Cal P w K mg base 1 "_law_holds" (spLHolds K) []) (m_ranged : C8.Met P w K mg base 6 C "ranged" (spRanged C TT) []) (m_counted : C8.Met P w K mg base 8 C "counted" (spCounted C TT) [])
    (m_nearest : C8.Met P w K mg base 6 C "nearest" (spNearest C TT) []) (c_law_far : C8.Cal P w K mg base 1 "_law_far" spLFar []) : C8.Cal P w K mg base 9 "_law_found_right" (spLFound C TT) [] := by
  refine C8.cal0 F b .nil sc_law_found_right (fun vs H Q E h => ?_) (fun cdv A outer s H vs Q E hr h => ?_)
  · obtain ⟨a, x, l, dx, pa, ka, ks, pl, tot, xs, ps, rfl, _⟩ := h
    rfl
  · obtain ⟨a, x, l, dx, pa, ka, ks, pl, tot, xs, ps, rfl, hs, hf, fo, hl, hps, hok, hlen, tabs, k⟩ := h
    have nd := sc_law_found_right.nd
    have hfl := fo.len
    have hpl := fo.pll
    have hfew := fo.inv.few
    obtain ⟨nx, npa, nka⟩ := fov_src hf hs
    have nal := src_pts hs hl hps
    refine ⟨_, (pss_cons (ps_set (i := 3) nd rfl (Or.inl rfl) (C8.pe_mt0 m_points hr (by decide) (pv 1)))
  (pss_cons (ps_for PassesOwn.never rfl (pi_range1 (by rfl) T.nrange (pa_cons pe_int pa_nil)) (pg_name (i := 4) nd rfl (Or.inl rfl)) (pss_cons (ps_asg (pe_tup (pa_cons (C8.pe_c c_law_area hr (by decide) (by rfl) (pa_cons (pv 0) (pa_cons (pv 2) pa_nil))) (pa_cons (C8.pe_c c_law_pick hr (by decide) (by rfl) (pa_cons (pv 0) (pa_cons (pe_op op_cat (pv 2) (pe_lst (pa_cons (pe_tup (pa_cons pe_int (pa_cons pe_int pa_nil))) pa_nil))) pa_nil))) pa_nil))) (pg_tup rfl (pgs_cons (pg_name (i := 8) nd rfl (Or.inr rfl)) (pgs_cons (pg_name (i := 9) nd rfl (Or.inr rfl)) pgs_nil))))
  (pss_cons (ps_setLc (i := 5) (own := [("_law_one", 10)]) (tt := tB (tCall (spLHolds K) [] C8.E0 (tCons (tVar 8) (tCons (tVar 10) tNil)))) rfl nd rfl rfl (sw_true rfl rfl rfl (by decide +kernel)) (pi_list (pv 3)) (blkOk_by (own := [("_law_one", 10)]) (N := N_law_found_right) (sc := (C8.fnScope s_law_found_right)) (by decide +kernel)) (fun _ _ _ _ _ => (pg_name (i := 10) nd rfl (Or.inl rfl))) (fun _ _ _ _ _ => (L2.pts_one (pt_val (C8.pe_c c_law_holds hr (by decide) (by rfl) (pa_cons (pv 8) (pa_cons (pv 10) pa_nil)))))) (fun _ _ _ _ _ => (pv 10)))
  (pss_cons (ps_if (PW.pt (pw_or (pt_cmpR (op_neD (room64 hr)) (pe_callB cr_sortedPO (by rfl) T.nsorted (by decide +kernel) (pa_cons (pe_ix ix_tup (C8.pe_mt m_ranged hr (by decide) (pv 1) (pa_cons (pv 8) pa_nil)) pe_int (fun _ _ => rfl)) pa_nil)) (pv 5) (nomark _)) (pw_or1 (pt_cmpR op_ne (pe_ix ix_tup (C8.pe_mt m_counted hr (by decide) (pv 1) (pa_cons (pv 8) pa_nil)) pe_int (fun _ _ => rfl)) (pe_callB call_len_seq (by rfl) T.nlen (by decide +kernel) (pa_cons (pv 5) pa_nil)) (nomark _))))) (pss_one (ps_ret pe_bl)) pss_nil)
  (pss_cons (ps_set (i := 6) nd rfl (Or.inl rfl) (pe_ix ix_tup (C8.pe_mt m_nearest hr (by decide) (pv 1) (pa_cons (pv 9) pa_nil)) pe_int (fun _ _ => rfl)))
  (pss_cons (ps_if (pt_cmpR op_ne (pe_cmpR op_isN1 (pv 6) pe_non (nomark _)) (pe_cmpR (op_eqNil hr.units0) (pv 3) (pe_lst pa_nil) (nomark _)) (nomark _)) (pss_one (ps_ret pe_bl)) pss_nil)
  (pss_cons (ps_set (i := 7) nd rfl (Or.inl rfl) (pe_callB cr_sorted (by rfl) T.nsorted (by decide +kernel) (pa_cons (pe_lc (own := [("_law_one", 10)]) rfl nd (pi_list (pv 3)) (blkOk_by (own := [("_law_one", 10)]) (N := N_law_found_right) (sc := (C8.fnScope s_law_found_right)) (by decide +kernel)) (fun _ _ _ _ _ => (pg_name (i := 10) nd rfl (Or.inl rfl))) (fun _ _ _ _ _ => L2.pts_nil) (fun _ _ _ _ _ => (C8.pe_c c_law_far hr (by decide) (by rfl) (pa_cons (pv 9) (pa_cons (pv 10) pa_nil))))) pa_nil)))
  (pss_one (ps_if (PW.pt (pw_and (pt_cmpR (op_neNil hr.units0) (pv 3) (pe_lst pa_nil) (nomark _)) (pw_and1 (PW.pt (pw_or (pt_cmpR (op_notInD (room65 hr)) (pv 6) (pv 3) (by rfl)) (pw_or1 (pt_cmpR op_ne (C8.pe_c c_law_far hr (by decide) (by rfl) (pa_cons (pv 9) (pa_cons (pv 6) pa_nil))) (pe_ix ix_list (pv 7) pe_int (fun _ _ => rfl)) (nomark _)))))))) (pss_one (ps_ret pe_bl)) pss_nil)))))))))
  (pss_one (ps_ret pe_bl)))), ?_⟩
    repeat walk_at "w"
    refine ⟨x, dx, _, rfl, hf.ob, rfl, ?_⟩
    repeat walk_at "w"
    refine ⟨x, dx, pa, ka, ks, pl, tot, rfl, hf, fo.inv.nd, by omega, fun tl ts H1 g1 htl0 htl hts => ?_⟩
    have ntl : tl ≠ a := fun z => (src_ne hs htl0) z.symm
    repeat walk_at "w"
    with_reducible refine w_forI ?_
    refine w_iRng1 ?_
    repeat walk_at "w"
    refine ⟨_, rfl, by decide, by decide, ?_⟩
    refine for_range (n := 3) (lo := 0) (fun i σ' H' => ∃ v4 v5 v6 v7 v8 v9 v10 : Option V, σ' = [some (.ref a), some (.ref x), some (.ref l), some (.ref tl), v4, v5, v6, v7, v8, v9, v10] ∧ Gr TT (fun c => c = a) H1 H' ∧ Src H' a)
      ⟨none, none, none, none, none, none, none, rfl, .refl _, hs.gr g1⟩ ?_ ?_
    · rintro i σ' H' hi2 ⟨v4, v5, v6, v7, v8, v9, v10, rfl, g, hs'⟩
      have hf1 := hf.gr0 g1
      have hf' := hf1.gr g nx npa nka
      have hl' := g.keepL (g1.keepL0 hl) nal.symm
      have hps' : PtsV H' xs ps := Al.imp hps fun _ _ z => (z.gr g1).gr g
      refine w_gname ?_
      repeat walk_at "w"
      refine ⟨a, l, xs, ps, rfl, hs', hl', nal, hps', hok, by omega, fun z rc H2 hrc g2 s2 hz => ?_⟩
      repeat walk_at "w"
      refine ⟨sz100 (Nat.le_of_ble_eq_true rfl), fun o0 hpo0 => ?_⟩; generalize eH3 : upd H2 o0 _ = H3; obtain ⟨g3, h3⟩ := new_facts TT hpo0 eH3; clear eH3
      repeat walk_at "w"
      refine ⟨sz100 (Nat.le_of_ble_eq_true rfl), fun o1 hpo1 => ?_⟩; generalize eH4 : upd H3 o1 _ = H4; obtain ⟨g4, h4⟩ := new_facts TT hpo1 eH4; clear eH4
      repeat walk_at "w"
      have g24 := g3.trans g4
      have hl4 := g24.keepL0 (g2.keepL hl' nal.symm)
      have hxl := hps.len
      refine ⟨l, o1, _, _, rfl, rfl, hl4, h4, sz100 (by rw [List.length_singleton]; omega), fun o2 ho2 => ?_⟩
      generalize e5 : upd H4 o2 _ = H5
      obtain ⟨g5, h5⟩ := new_facts TT ho2 e5
      clear e5
      have g25 := g24.trans g5
      have s5 := s2.gr g25
      have hps5 : PtsV H5 (xs ++ [.ref o0]) (ps ++ [(0, 0)]) := Al.app (Al.imp hps' fun _ _ z => (z.gr g2).gr g25) (.cons ⟨o0, rfl, (g4.trans g5).tup h3⟩ .nil)
      repeat walk_at "w"
      refine ⟨a, o2, _, rfl, s5, h5, fun z => ?_, fun z => ?_, by rw [List.length_append, List.length_singleton]; omega, fun j sv H6 hsv g6 s6 => ?_⟩
      · exact src_pts s5 h5 hps5 z
      · simp at z
      repeat walk_at "w"
      obtain ⟨qp, hqp, hsv5⟩ := Al.get hps5 hsv
      have hqo : PtOk qp := by
        rcases List.mem_append.mp (List.mem_of_getElem? hqp) with z | z
        · exact hok qp z
        · rw [List.mem_singleton.mp z]
          exact ⟨by decide, by decide⟩
      refine ⟨sz100 (Nat.le_of_ble_eq_true rfl), fun pr hppr => ?_⟩; generalize eH7 : upd H6 pr _ = H7; obtain ⟨g7, h7⟩ := new_facts TT hppr eH7; clear eH7
      refine w_gtup (SqT.of h7) rfl (w_gcons (w_gname (w_gcons (w_gname (w_gnil ?_)))))
      have G7 : Gr TT (fun c => c = a) H1 H7 := (g.trans (g2.trans g25.of0)).trans (g6.trans g7.of0)
      have s7 := s6.gr g7
      have hf7 := hf1.gr G7 nx npa nka
      have htl7 := G7.keepL htl ntl
      have hts7 : PtsV H7 ts (srt false (alive ks)) := Al.imp hts fun _ _ z => z.gr G7
      have hz7 : H7 z = some (.tup (rcL rc)) := (g6.trans g7.of0).tup (g25.tup hz)
      have hsv7 : PtV H7 sv qp := (hsv5.gr g6).gr g7
      have htsl := hts.len
      rw [srt_len] at htsl
      have hal := (alive_sub ks).length_le
      rw [keys_len] at hal
      repeat walk_at "w"
      refine ⟨tl, rfl, ⟨_, SqL.of htl7⟩, fun D hD => ?_⟩
      refine w_lc (L2.walk_list (xs := ts)) TT NoS hD (fun j acc H' => PtsV H' acc (((srt false (alive ks)).take j).filter (hold rc))) .nil (fun j acc H' _ g _ _ => SqL.of (g.keepL0 htl7)) ?_ ?_
      · rintro j y acc Ha Hb hj hal ga hDa hacc ⟨rfl, hy⟩
        obtain ⟨p, hp, hyp⟩ := Al.get hts7 hy
        have hj : j < ts.length := hj
        have e2 : (srt false (alive ks)).take (j + 1) = (srt false (alive ks)).take j ++ [p] := by
          rw [List.take_add_one, hp]
          rfl
        refine w_gname ⟨rfl, ?_⟩
        repeat walk_at "w"
        refine ⟨z, y, rc, p, rfl, SqT.of (ga.tup hz7), hyp.gr ga, ?_⟩
        have lD : Gr TT (fun b => b = D) Hb (upd Hb D (.lst (acc ++ [y]))) := Gr.lst hDa
        cases eh : hold rc p with
        | true =>
          repeat walk_at "w"
          refine lc_yes ga hD hDa hal (by omega) ?_
          rw [e2, List.filter_append, show [p].filter (hold rc) = [p] by simp [eh]]
          exact Al.app (Al.imp hacc fun _ _ z => z.gr lD) (.cons ((hyp.gr ga).gr lD) .nil)
        | false =>
          repeat walk_at "w"
          refine lc_no ga hDa hal ?_
          rw [e2, List.filter_append, show [p].filter (hold rc) = [] by simp [eh], List.append_nil]
          exact hacc
      rintro acc Ha ga hDa halen hacc
      have hacc : PtsV Ha acc (((srt false (alive ks)).take ts.length).filter (hold rc)) := hacc
      rw [htsl, ← srt_len false (alive ks), List.take_of_length_le (Nat.le_refl _)] at hacc
      repeat walk_at "w"
      have hfa := hf7.gr0 ga
      refine ⟨x, dx, _, rfl, hfa.ob, rfl, ?_⟩
      repeat walk_at "w"
      refine ⟨x, dx, pa, ka, ks, pl, tot, z, rc, rfl, hfa, ga.tup hz7, hrc, fun p hp => fo.key hp, by omega, fun oa fl vl fs es H8 g8 hoa _ hfl' hfs _ _ _ => ?_⟩
      repeat walk_at "w"
      refine w_ixT (SqT.of hoa) (by rfl) ?_
      repeat walk_at "w"
      refine w_sortPts (SqL.of hfl') hfs fun ys1 p1 hys1 hp1 => ?_
      generalize e9 : upd H8 p1 _ = H9
      obtain ⟨g9, h9⟩ := new_facts TT hp1 e9
      clear e9
      rw [fndF_srt fo] at hys1
      have g89 := g8.trans g9
      repeat walk_at "w"
      refine ⟨_, _, PtsV.dp (Al.imp hys1 fun _ _ z => z.gr g9) (SqL.of h9), PtsV.dp (Al.imp hacc fun _ _ z => z.gr g89) (SqL.of (g89.keepL0 hDa)), shaped_pts _, shaped_pts _, ?_⟩
      rw [eqv_same (shaped_pts _)]
      repeat walk_at "w"
      have hf9 := hfa.gr0 g89
      refine ⟨x, dx, _, rfl, hf9.ob, rfl, ?_⟩
      repeat walk_at "w"
      refine ⟨x, dx, pa, ka, ks, pl, tot, z, rc, rfl, hf9, (ga.trans g89).tup hz7, hrc, fun t ht => fo.tree ht, by omega, by omega, fo.inv.nd, by omega, fun ob vl2 H10 g10 hob => ?_⟩
      repeat walk_at "w"
      refine w_ixT (SqT.of hob) (by rfl) ?_
      repeat walk_at "w"
      refine ⟨D, acc, rfl, .inl (SqL.of ((g89.trans g10).keepL0 hDa)), ?_⟩
      repeat walk_at "w"
      have hcnt : ((cntF rc pl : Nat) : Int) - (((gone ks).filter (hold rc)).length : Nat) = ((acc.length : Nat) : Int) := by
        have e1 := cntF_all fo rc
        have e2 := hacc.len
        rw [((srt_perm false (alive ks)).filter (hold rc)).length_eq] at e2
        omega
      rw [hcnt]
      refine w_ne rfl ?_
      rw [decide_eq_true (rfl : V.int ((acc.length : Nat) : Int) = V.int ((acc.length : Nat) : Int))]
      repeat walk_at "w"
      have hf10 := hf9.gr0 g10
      have gA := ga.trans (g89.trans g10)
      refine ⟨x, dx, _, rfl, hf10.ob, rfl, ?_⟩
      repeat walk_at "w"
      refine ⟨x, dx, pa, ka, ks, pl, tot, sv, qp, rfl, hf10, fun t ht => fo.tree ht, fun p hp => fo.key hp, by omega, by omega, by omega, hsv7.gr gA, hqo, gA.tb (G7.tb (g1.tb tabs)), fun oc rv vl3 ro H11 g11 hoc hrv hro hmin => ?_⟩
      repeat walk_at "w"
      refine w_ixT (SqT.of hoc) (by rfl) ?_
      repeat walk_at "w"
      have hbi := best_iff fo hro hmin
      have gB := gA.trans g11
      have htlB := gB.keepL0 htl7
      refine ⟨sz100 (Nat.le_of_ble_eq_true rfl), fun n1 hpn1 => ?_⟩; generalize eH12 : upd H11 n1 _ = H12; obtain ⟨g12, h12⟩ := new_facts TT hpn1 eH12; clear eH12
      refine w_eqNil (SqL.of (g12.keepL0 htlB)) h12 ?_
      refine w_ne rfl ?_
      have hdec : decide (V.bl (decide (rv = .non)) = V.bl ts.isEmpty) = true := by
        refine decide_eq_true ?_
        congr 1
        cases ro with
        | none =>
          have e1 : rv = .non := hrv
          have e2 := hbi.mp rfl
          rw [e2] at htsl
          rw [e1, List.length_eq_zero_iff.mp htsl]
          rfl
        | some b =>
          obtain ⟨ab, rfl, _⟩ := hrv
          cases ts with
          | nil => exact absurd (hbi.mpr (List.length_eq_zero_iff.mp htsl.symm)) (by simp)
          | cons _ _ => rfl
      rw [hdec]
      repeat walk_at "w"
      have gC := gB.trans g12
      have htlC := gC.keepL0 htl7
      have htsC : PtsV H12 ts (srt false (alive ks)) := Al.imp hts7 fun _ _ z => z.gr gC
      refine ⟨tl, rfl, ⟨_, SqL.of htlC⟩, fun D2 hD2 => ?_⟩
      refine w_lc (L2.walk_list (xs := ts)) TT NoS hD2 (fun j acc H' => acc = (((srt false (alive ks)).take j).map fun p => V.int (dst qp p))) (by rw [List.take_zero]; rfl) (fun j acc H' _ g _ _ => SqL.of (g.keepL0 htlC)) ?_ ?_
      · rintro j y acc2 He Hf hj hal2 ge hDe rfl ⟨rfl, hy⟩
        obtain ⟨p, hp, hyp⟩ := Al.get htsC hy
        have hj : j < ts.length := hj
        have hpo : PtOk p := fo.ok p ((alive_sub ks).subset ((srt_perm _ _).mem_iff.mp (List.mem_of_getElem? hp)))
        have e2 : (srt false (alive ks)).take (j + 1) = (srt false (alive ks)).take j ++ [p] := by
          rw [List.take_add_one, hp]
          rfl
        refine w_gname ⟨rfl, ?_⟩
        repeat walk_at "w"
        refine ⟨sv, qp, y, p, rfl, (hsv7.gr gC).gr ge, hyp.gr ge, hqo.small, hpo.small, ?_⟩
        repeat walk_at "w"
        refine lc_yes ge hD2 hDe hal2 (by omega) ?_
        rw [e2, List.map_append]
        rfl
      rintro acc2 He ge hDe halen2 rfl
      rw [show (((srt false (alive ks)).take ts.length).map fun p => V.int (dst qp p)) = (((srt false (alive ks)).map (dst qp)).map V.int) by rw [htsl, ← srt_len false (alive ks), List.take_of_length_le (Nat.le_refl _), List.map_map]; rfl] at hDe
      repeat walk_at "w"
      refine ⟨D2, _, rfl, SqL.of hDe, by rw [List.length_map, srt_len]; omega, fun gs p2 hgs hgp hp2 => ?_⟩
      generalize e13 : upd He p2 _ = H13
      obtain ⟨g13, h13⟩ := new_facts TT hp2 e13
      clear e13
      have gD := gC.trans (ge.trans g13)
      repeat walk_at "w"
      refine ⟨sz100 (Nat.le_of_ble_eq_true rfl), fun n2 hpn2 => ?_⟩; generalize eH14 : upd H13 n2 _ = H14; obtain ⟨g14, h14⟩ := new_facts TT hpn2 eH14; clear eH14
      have gE := gD.trans g14
      refine w_neNil (SqL.of (gE.keepL0 htl7)) h14 ?_
      have GE := G7.trans gE.of0
      cases ro with
      | none =>
        have e2 := hbi.mp rfl
        rw [e2] at htsl
        have e3 := List.length_eq_zero_iff.mp htsl
        subst e3
        repeat walk_at "w"
        exact ⟨_, _, _, _, _, _, _, rfl, GE, s7.gr gE⟩
      | some b =>
        obtain ⟨ab, rfl, hab⟩ := id hrv
        have hbl : b ∈ alive ks := mem_alive.mpr (getB_mem (hro b rfl).1)
        have hne : ts ≠ [] := fun z => by
          rw [z] at htsl
          rw [List.length_eq_zero_iff.mp htsl.symm] at hbl
          cases hbl
        rw [show ts.isEmpty = false by cases ts with | nil => exact absurd rfl hne | cons _ _ => rfl]
        repeat walk_at "w"
        have gF := g12.trans (ge.trans (g13.trans g14))
        have hbE : PtV H14 (.ref ab) b := PtV.gr hrv gF
        have htsE : PtsV H14 ts (srt false (alive ks)) := Al.imp hts7 fun _ _ z => z.gr gE
        refine ⟨_, _, hbE.dp, PtsV.dp htsE (SqL.of (gE.keepL0 htl7)), shaped_pt _, shaped_pts _, ?_⟩
        rw [any_pt, decide_eq_true ((srt_perm false (alive ks)).mem_iff.mpr hbl)]
        repeat walk_at "w"
        refine ⟨sv, qp, _, b, rfl, hsv7.gr gE, hbE, hqo.small, (hro b rfl).2.small, ?_⟩
        repeat walk_at "w"
        have hg0 := best_gap fo hro hmin hgs hgp
        refine w_ixL (v := .int (dst qp b)) (SqL.of (g14.keepL0 h13)) (by
          show atI (gs.map V.int) ((0 : Nat) : Int) = _
          rw [atI_nat, List.getElem?_map, hg0]
          rfl) ?_
        refine w_ne rfl ?_
        rw [decide_eq_true (rfl : V.int (dst qp b) = V.int (dst qp b))]
        repeat walk_at "w"
        exact ⟨_, _, _, _, _, _, _, rfl, GE, s7.gr gE⟩
    · rintro σ' H' ⟨v4, v5, v6, v7, v8, v9, v10, rfl, g, hs'⟩
      repeat walk_at "w"
      exact k _ (g1.of0.trans g) hs'
end
end Wd
end
section
/-! The law: deeds. -/
namespace Wd
open PySem PySem.Spec PyProof.Rows L2 LamX NdefX
local macro_rules | `(tactic| walk_at "w") => `(tactic| first
  | with_reducible refine w_var (by with_unfolding_all rfl) ?_
  | with_reducible refine w_aug (by with_unfolding_all rfl) ?_
  | with_reducible refine w_op ?_
  | with_reducible refine w_c ?_
  | with_reducible refine w_I0 ?_
  | with_reducible refine w_cons ?_
  | with_reducible refine w_nil ?_
  | with_reducible refine w_call ?_
  | with_reducible refine w_cb ?_
  | with_reducible refine w_seq ?_
  | with_reducible refine w_ret ?_
  | with_reducible refine w_set ?_
  | with_reducible refine w_if ?_
  | with_reducible refine w_test ?_
  | with_reducible refine w_B ?_
  | with_reducible refine w_k ?_
  | with_reducible refine w_and ?_
  | with_reducible refine w_or ?_
  | with_reducible refine w_not ?_
  | with_reducible refine w_andV ?_
  | with_reducible refine w_orV ?_
  | with_reducible refine w_notV ?_
  | with_reducible refine w_ifE ?_
  | with_reducible refine w_chain ?_
  | with_reducible refine w_un ?_
  | with_reducible refine w_U ?_
  | with_reducible refine w_isN ?_
  | with_reducible refine w_notN ?_
  | with_reducible refine w_T ?_
  | with_reducible refine w_F ?_
  | with_reducible refine w_next ?_
  | with_reducible refine w_drop ?_
  | with_reducible refine w_par2 ?_
  | with_reducible refine w_par3 ?_
  | with_reducible refine w_tup ?_
  | with_reducible refine w_lst ?_
  | with_reducible refine w_bm ?_
  | with_reducible refine w_bm0 ?_
  | with_reducible refine w_gname ?_
  | with_reducible refine w_gcons ?_
  | with_reducible refine w_lcI ?_
  | with_reducible refine w_lc2I ?_
  | with_reducible refine w_iTup ?_
  | with_reducible refine w_iList ?_
  | with_reducible refine w_yes ?_
  | with_reducible refine w_din ?_
  | with_reducible refine w_dput ?_
  | with_reducible refine w_dget2 ?_
  | with_reducible refine w_iEnum ?_
  | with_reducible refine w_sl ?_
  | with_reducible refine w_noP ?_
  | with_reducible refine w_part ?_
  | with_reducible refine w_asg ?_
  | with_reducible refine w_ip ?_
  | with_reducible refine w_cont ?_
  | with_reducible refine w_callD ?_
  | with_reducible refine w_thru ?_
  | with_reducible refine w_star ?_
  | with_reducible refine w_bits ?_
  | with_reducible refine w_revL ?_
  | with_reducible refine w_fld ?_
  | with_reducible refine w_dget ?_
  | with_reducible refine w_keys ?_
  | with_reducible refine w_gsub ?_
  | with_reducible refine w_fldaug ?_
  | with_reducible refine w_sfld ?_
  | with_reducible refine w_meth ?_
  | with_reducible refine w_make ?_
  | with_reducible refine w_ite (by with_unfolding_all rfl) ?_ | with_reducible refine w_itf (by with_unfolding_all rfl) ?_)
theorem nodup_le : ∀ {xs ys : List Pt}, xs.Nodup → (∀ x ∈ xs, x ∈ ys) → xs.length ≤ ys.length
  | [], _, _, _ => Nat.zero_le _
  | x :: xs, ys, h, s => by
    rw [List.nodup_cons] at h
    have hx := s x (List.mem_cons_self ..)
    have ih := nodup_le (ys := ys.erase x) h.2 fun y hy => (List.mem_erase_of_ne fun e => h.1 (by rw [← e]; exact hy)).mpr (s y (List.mem_cons_of_mem _ hy))
    rw [List.length_erase_of_mem hx] at ih
    have := List.length_pos_of_mem hx
    rw [List.length_cons]
    omega
section
variable {P : Program} {w : World} {K : PySem.W.Frag} {mg : Str → Option Value} {base : Heap} {aE C : Addr}
theorem w_forest {TT : List (Addr × Str)} {H : Hp} {R : Addr → Hp → Prop} {E : XK} {l : Addr} {xs : List V} {ps : List Pt} (hl : H l = some (.lst xs)) (hps : PtsV H xs ps) (nd : ps.Nodup) (ok : ∀ p ∈ ps, PtOk p) (len : ps.length ≤ 40) (tabs : Tabs TT H)
    (q : ∀ x dx H' pa ka pl, Gr TT NoS H H' → FoV C H' x dx pa ka (fresh ps) pl (tsum ps.length : Nat) → Rep 0 pl ps → Top pl → H x = none → H pa = none → H ka = none → R x H') :
    ∀ x dx, H x = none → H dx = none → dx ≠ x → spInit C TT (.ref x :: ([.ref l] ++ [])) (upd (upd H dx (.own x)) x (.ins C dx [])) (fun v H2 => v = .non ∧ R x H2) E := by
  intro x dx hx hd hne
  have g1 : Gr TT NoS H (upd H dx (.own x)) := .new hd
  have hx1 : upd H dx (.own x) x = none := by rw [upd_ne hne.symm]; exact hx
  have g2 : Gr TT NoS H (upd (upd H dx (.own x)) x (.ins C dx [])) := g1.trans (.new hx1)
  have hxm : upd (upd H dx (.own x)) x (.ins C dx []) x = some (.ins C dx []) := upd_same
  generalize upd (upd H dx (.own x)) x (.ins C dx []) = Hm at g2 hxm
  refine ⟨x, l, dx, xs, ps, rfl, hxm, g2.keepL0 hl, Al.imp hps fun _ _ z => z.gr g2, nd, ok, len, g2.tb tabs, fun H' pa ka pl g hf hrep htop hpa hka => ⟨rfl, ?_⟩⟩
  exact q x dx H' pa ka pl (g2.newS g fun b e => by rw [e]; exact hx) hf hrep htop hx (g2.fr _ hpa) (g2.fr _ hka)
theorem src_fs {T : List (Addr × Str)} {H H1 : Hp} {a x dx pa ka : Addr} {ks : Kn} {pl : List Tree} {tot : Int} (s : Src H a) (hf : FoV C H x dx pa ka ks pl tot) (g : Gr T (FS x pa ka) H H1) : Src H1 a := by
  obtain ⟨n1, n2, n3⟩ := fov_src hf s
  obtain ⟨c0, c1, c2, h⟩ := s
  refine ⟨c0, c1, c2, g.keepL h fun z => ?_⟩
  rcases z with z | z | z
  · exact n1 z.symm
  · exact n2 z.symm
  · exact n3 z.symm
theorem keys_put {ks : Kn} {p : Pt} {b : Bool} : ∀ q ∈ keys (putB ks p b), q = p ∨ q ∈ keys ks := by
  intro q hq
  by_cases h : p ∈ keys ks
  · rw [keys_old h] at hq
    exact .inr hq
  · rw [putB_new h] at hq
    unfold keys at hq
    rw [List.map_append] at hq
    rcases List.mem_append.mp hq with z | z
    · exact .inr z
    · exact .inl (List.mem_singleton.mp z)
theorem srt_srt (ps : List Pt) : srt false (srt false ps) = srt false ps := srt_congr (srt_perm _ _)
theorem emp_len {xs : List V} {n : Nat} (h : xs.length = n) (p : 0 < n) : xs.isEmpty = false := by
  cases xs with
  | nil => rw [← h] at p; cases p
  | cons _ _ => rfl
theorem emp_nil {xs : List V} (h : xs.length = 0) : xs.isEmpty = true := by
  cases xs with
  | nil => rfl
  | cons _ _ => cases h
def spLDeeds (C : Addr) (TT : List (Addr × Str)) : Sp := fun vs H Q _ => ∃ a l xs ps, vs = [.ref a, .ref l] ∧ Src H a ∧ H l = some (.lst xs) ∧ PtsV H xs ps ∧ ps.Nodup ∧ (∀ p ∈ ps, PtOk p) ∧ ps.length ≤ 30 ∧ Tabs TT H ∧ ∀ H', Gr TT (fun c => c = a) H H' → Src H' a → Q (.bl true) H'
abbrev s_law_deeds_right : Stmt := topS 64
abbrev N_law_deeds_right : List Str := ["_law_source_here", "_law_spots_here", "_law_wald", "_law_turn", "_law_away", "_law_there", "_law_lost", "_law_spot", "_law_told"]
theorem sc_law_deeds_right : FnScope N_law_deeds_right ["_law_source_here", "_law_spots_here"] (C8.fnScope s_law_deeds_right) := ⟨rfl, rfl, rfl, by decide +kernel, rfl, by decide +kernel, by decide +kernel⟩
theorem cal_law_deeds {TT : List (Addr × Str)} {f : Addr} {fd : FuncData} (F : C8.Def K mg "_law_deeds_right" s_law_deeds_right f fd) (b : Binds K fd ["_law_source_here", "_law_spots_here"] []) (T : Txt K mg aE C) (TF : TxF K C) (c_law_take : C8.Cal P w K mg base 2 "_law_take" (spLTake TT) []) (c_law_pick : C8.Cal P w K mg base 3 "_law_pick" (spLPick K TT) [])
    (c_Forest : C8.Mak P w K mg base 14 "Forest" C (spInit C TT) []) (m_points : C8.Met P w K mg base 1 C "points" (spPoints C TT) []) (m_gone : C8.Met P w K mg base 1 C "gone" (spGone C TT) []) (m_put : C8.Met P w K mg base 13 C "put" (spPut C TT) []) (m_take : C8.Met P w K mg base 14 C "take" (spTake C TT) [])
    (m_eq : C8.Met P w K mg base 2 C "__eq__" (spFoEq C TT) []) (c_law_shape_right : C8.Cal P w K mg base 14 "_law_shape_right" (spLShape C TT) []) (c_law_found_right : C8.Cal P w K mg base 9 "_law_found_right" (spLFound C TT) []) : C8.Cal P w K mg base 16 "_law_deeds_right" (spLDeeds C TT) [] := by
  refine C8.cal0 F b .nil sc_law_deeds_right (fun vs H Q E h => ?_) (fun cdv A outer s H vs Q E hr h => ?_)
  · obtain ⟨a, l, xs, ps, rfl, _⟩ := h
    rfl
  · obtain ⟨a, l, xs, ps, rfl, hs, hl, hps, hnd, hok, hlen, tabs, k⟩ := h
    have nd := sc_law_deeds_right.nd
    have nal := src_pts hs hl hps
    have hxl := hps.len
    have big : (2 : Int) ^ 200 > 100000 := by decide +kernel
    refine ⟨_, (pss_cons (ps_set (i := 2) nd rfl (Or.inl rfl) (C8.pe_mk c_Forest hr (by decide) (by rfl) (pa_cons (pe_slice sl_list (pv 1) po_none (po_some (C8.pe_c c_law_take hr (by decide) (by rfl) (pa_cons (pv 0) (pa_cons (pe_op op_add (pe_callB call_len_seq (by rfl) T.nlen (by decide +kernel) (pa_cons (pv 1) pa_nil)) pe_int) pa_nil))))) pa_nil)))
  (pss_cons (ps_for PassesOwn.never rfl (pi_range1 (by rfl) T.nrange (pa_cons (C8.pe_c c_law_take hr (by decide) (by rfl) (pa_cons (pv 0) (pa_cons pe_int pa_nil))) pa_nil)) (pg_name (i := 3) nd rfl (Or.inl rfl)) (pss_cons (ps_asg (pe_tup (pa_cons (C8.pe_mt0 m_points hr (by decide) (pv 2)) (pa_cons (C8.pe_mt0 m_gone hr (by decide) (pv 2)) pa_nil))) (pg_tup rfl (pgs_cons (pg_name (i := 5) nd rfl (Or.inr rfl)) (pgs_cons (pg_name (i := 6) nd rfl (Or.inl rfl)) pgs_nil))))
  (pss_cons (ps_setLc (i := 4) (own := [("_law_spot", 7)]) (tt := tTest (tOp (rNotInD K) (tVar 7) (tVar 5))) rfl nd rfl rfl (sw_true rfl rfl rfl (by decide +kernel)) (pi_list (pv 1)) (blkOk_by (own := [("_law_spot", 7)]) (N := N_law_deeds_right) (sc := (C8.fnScope s_law_deeds_right)) (by decide +kernel)) (fun _ _ _ _ _ => (pg_name (i := 7) nd rfl (Or.inl rfl))) (fun _ _ _ _ _ => (L2.pts_one (pt_cmpR (op_notInD (room65 hr)) (pv 7) (pv 5) (by rfl)))) (fun _ _ _ _ _ => (pv 7)))
  (pss_cons (ps_if (PW.pt (pw_and (pt_cmpR (op_neNil hr.units0) (pv 4) (pe_lst pa_nil) (nomark _)) (pw_and1 (PW.pt (pw_or (pt_cmpR (op_eqNil hr.units0) (pv 5) (pe_lst pa_nil) (nomark _)) (pw_or1 (pt_cmpR op_eq (C8.pe_c c_law_take hr (by decide) (by rfl) (pa_cons (pv 0) (pa_cons pe_int pa_nil))) pe_int (nomark _)))))))) (pss_one (ps_expr (C8.pe_mt m_put hr (by decide) (pv 2) (pa_cons (C8.pe_c c_law_pick hr (by decide) (by rfl) (pa_cons (pv 0) (pa_cons (pv 4) pa_nil))) pa_nil)))) (pss_one (ps_if (pt_cmpR (op_neNil hr.units0) (pv 5) (pe_lst pa_nil) (nomark _)) (pss_cons (ps_set (i := 8) nd rfl (Or.inl rfl) (C8.pe_mt m_take hr (by decide) (pv 2) (pa_cons (C8.pe_c c_law_pick hr (by decide) (by rfl) (pa_cons (pv 0) (pa_cons (pv 5) pa_nil))) pa_nil)))
  (pss_cons (ps_if (PW.pt (pw_and (PW.pt (pw_or (pt_cmpR op_gt (pv 8) pe_int (nomark _)) (pw_or1 (pt_cmpR (op_eqNil hr.units0) (C8.pe_mt0 m_points hr (by decide) (pv 2)) (pe_lst pa_nil) (nomark _))))) (pw_and1 (pt_cmpR (op_neO m_eq TF.ne hr (by decide)) (pv 2) (C8.pe_mk c_Forest hr (by decide) (by rfl) (pa_cons (C8.pe_mt0 m_points hr (by decide) (pv 2)) pa_nil)) (nomark _))))) (pss_one (ps_ret pe_bl)) pss_nil)
  (pss_one (ps_if (PW.pt (pw_and (pt_cmpR op_eq (pv 8) pe_int (nomark _)) (pw_and (pt_cmpR (op_neNil hr.units0) (C8.pe_mt0 m_points hr (by decide) (pv 2)) (pe_lst pa_nil) (nomark _)) (pw_and1 (pt_cmpR op_ne (pe_callB call_len_seq (by rfl) T.nlen (by decide +kernel) (pa_cons (C8.pe_mt0 m_gone hr (by decide) (pv 2)) pa_nil)) (pe_op op_add (pe_callB call_len_seq (by rfl) T.nlen (by decide +kernel) (pa_cons (pv 6) pa_nil)) pe_int) (nomark _)))))) (pss_one (ps_ret pe_bl)) pss_nil)))) pss_nil)))
  (pss_one (ps_if (pt_not (pt_val (C8.pe_c c_law_shape_right hr (by decide) (by rfl) (pa_cons (pv 2) pa_nil)))) (pss_one (ps_ret pe_bl)) pss_nil))))))
  (pss_one (ps_ret (C8.pe_c c_law_found_right hr (by decide) (by rfl) (pa_cons (pv 0) (pa_cons (pv 2) (pa_cons (pv 1) pa_nil)))))))), ?_⟩
    repeat walk_at "w"
    refine ⟨l, xs, rfl, .inl (SqL.of hl), ?_⟩
    repeat walk_at "w"
    refine ⟨a, _, rfl, hs, by omega, by omega, fun n0 H1 z0 z1 g1 s1 => ?_⟩
    repeat walk_at "w"
    obtain ⟨k0, rfl⟩ := Int.eq_ofNat_of_zero_le z0
    refine ⟨_, rfl, ?_⟩
    have hl1 := g1.keepL hl nal.symm
    refine w_rslL (SqL.of hl1) ?_
    rw [cut_to]
    intro l1 hpl1; generalize eH2 : upd H1 l1 _ = H2; obtain ⟨g2, h2⟩ := new_facts TT hpl1 eH2; clear eH2
    repeat walk_at "w"
    have hps2 : PtsV H2 xs ps := Al.imp hps fun _ _ z => (z.gr g1).gr g2
    have hsub : (ps.take k0).Sublist ps := List.take_sublist ..
    have hsl := hsub.length_le
    have G2 : Gr TT (fun c => c = a) H H2 := g1.trans g2.of0
    refine w_forest h2 (Al.take _ hps2) (hnd.sublist hsub) (fun p hp => hok p (hsub.subset hp)) (by omega) (G2.tb tabs) fun x dx H3 pa ka pl g3 hf hrep htop x0 pa0 ka0 => ?_
    have s3 := (s1.gr g2).gr g3
    have G3 : Gr TT (fun c => c = a) H H3 := G2.trans g3.of0
    have nx : H x = none := G2.fr _ x0
    have npa : H pa = none := G2.fr _ pa0
    have nka : H ka = none := G2.fr _ ka0
    have fo : FOk (fresh (ps.take k0)) pl := ⟨FInv.of_rep hrep htop (hnd.sublist hsub) (by omega), fun p hp => hok p (hsub.subset (by rw [keys_fresh] at hp; exact hp))⟩
    have hks : ∀ p ∈ keys (fresh (ps.take k0)), p ∈ ps := fun p hp => hsub.subset (by rw [keys_fresh] at hp; exact hp)
    repeat walk_at "w"
    with_reducible refine w_forI ?_
    refine w_iRng1 ?_
    repeat walk_at "w"
    refine ⟨a, _, rfl, s3, by omega, by omega, fun n1 H4 y0 y1 g4 s4 => ?_⟩
    repeat walk_at "w"
    obtain ⟨xa, paa, kaa⟩ := fov_src hf s3
    obtain ⟨k1, rfl⟩ := Int.eq_ofNat_of_zero_le y0
    refine ⟨_, rfl, by omega, by omega, ?_⟩
    refine for_range (n := k1) (lo := 0) (fun i σ' H' => ∃ (v3 v4 v5 v6 v7 v8 : Option V) (pa ka : Addr) (ks : Kn) (pl : List Tree) (tot : Int), σ' = [some (.ref a), some (.ref l), some (.ref x), v3, v4, v5, v6, v7, v8] ∧ Gr TT (fun c => c = a) H H' ∧ Src H' a ∧ FoV C H' x dx pa ka ks pl tot ∧ FOk ks pl ∧ H pa = none ∧ H ka = none ∧ ∀ p ∈ keys ks, p ∈ ps)
      ⟨none, none, none, none, none, none, pa, ka, _, pl, _, rfl, G3.trans g4, s4, hf.gr g4 xa paa kaa, fo, npa, nka, hks⟩ ?_ ?_
    · clear hf hrep htop fo hks npa nka pa0 ka0 paa kaa
      clear pa ka pl
      rintro i σ' H' hi2 ⟨v3, v4, v5, v6, v7, v8, pa, ka, ks, pl, tot, rfl, g, hs', hf, fo, npa, nka, hks⟩
      have hfl := fo.len
      have hpl := fo.pll
      have hkl : ks.length ≤ ps.length := by
        rw [← keys_len]
        exact nodup_le fo.inv.nd hks
      refine w_gname ?_
      repeat walk_at "w"
      refine ⟨x, dx, _, rfl, hf.ob, rfl, ?_⟩
      repeat walk_at "w"
      refine ⟨x, dx, pa, ka, ks, pl, tot, rfl, hf, fo.inv.nd, by omega, fun tl ts H5 g5 _ htl hts => ?_⟩
      repeat walk_at "w"
      have hf5 := hf.gr0 g5
      refine ⟨x, dx, _, rfl, hf5.ob, rfl, ?_⟩
      repeat walk_at "w"
      refine ⟨x, dx, pa, ka, ks, pl, tot, rfl, hf5, fo.inv.nd, by omega, fun gl gs H6 g6 hgl0 hgl hgs => ?_⟩
      repeat walk_at "w"
      refine ⟨sz100 (Nat.le_of_ble_eq_true rfl), fun pr hppr => ?_⟩; generalize eH7 : upd H6 pr _ = H7; obtain ⟨g7, h7⟩ := new_facts TT hppr eH7; clear eH7
      refine w_gtup (SqT.of h7) rfl (w_gcons (w_gname (w_gcons (w_gname (w_gnil ?_)))))
      have g57 := g5.trans (g6.trans g7)
      have G7 : Gr TT (fun c => c = a) H H7 := g.trans g57.of0
      have hl7 := G7.keepL hl nal.symm
      have htl7 := (g6.trans g7).keepL0 htl
      have hgl7 := g7.keepL0 hgl
      have hts7 : PtsV H7 ts (srt false (alive ks)) := Al.imp hts fun _ _ z => z.gr (g6.trans g7)
      have hps7 : PtsV H7 xs ps := Al.imp hps fun _ _ z => z.gr G7
      have hf7 := hf.gr0 g57
      have s7 := hs'.gr g57
      have htsl := hts.len
      have hgsl := hgs.len
      rw [srt_len] at htsl hgsl
      repeat walk_at "w"
      refine ⟨l, rfl, ⟨_, SqL.of hl7⟩, fun D hD => ?_⟩
      refine w_lc (L2.walk_list (xs := xs)) TT NoS hD (fun j acc H' => PtsV H' acc ((ps.take j).filter fun p => decide (p ∉ alive ks))) .nil (fun j acc H' _ g _ _ => SqL.of (g.keepL0 hl7)) ?_ ?_
      · rintro j y acc Ha Hb hj hal ga hDa hacc ⟨rfl, hy⟩
        obtain ⟨p, hp, hyp⟩ := Al.get hps7 hy
        have hj : j < xs.length := hj
        have e2 : ps.take (j + 1) = ps.take j ++ [p] := by
          rw [List.take_add_one, hp]
          rfl
        refine w_gname ⟨rfl, ?_⟩
        repeat walk_at "w"
        refine ⟨_, _, (hyp.gr ga).dp, PtsV.dp (Al.imp hts7 fun _ _ z => z.gr ga) (SqL.of (ga.keepL0 htl7)), shaped_pt _, shaped_pts _, ?_⟩
        rw [any_pt]
        have lD : Gr TT (fun b => b = D) Hb (upd Hb D (.lst (acc ++ [y]))) := Gr.lst hDa
        by_cases eh : p ∈ alive ks
        · rw [decide_eq_true ((srt_perm false (alive ks)).mem_iff.mpr eh)]
          repeat walk_at "w"
          refine lc_no ga hDa hal ?_
          rw [e2, List.filter_append, show [p].filter (fun p => decide (p ∉ alive ks)) = [] by simp [eh], List.append_nil]
          exact hacc
        · rw [decide_eq_false fun z => eh ((srt_perm false (alive ks)).mem_iff.mp z)]
          repeat walk_at "w"
          refine lc_yes ga hD hDa hal (by omega) ?_
          rw [e2, List.filter_append, show [p].filter (fun p => decide (p ∉ alive ks)) = [p] by simp [eh]]
          exact Al.app (Al.imp hacc fun _ _ z => z.gr lD) (.cons ((hyp.gr ga).gr lD) .nil)
      rintro acc Ha ga hDa halen hacc
      have hacc : PtsV Ha acc ((ps.take xs.length).filter fun p => decide (p ∉ alive ks)) := hacc
      rw [hxl, List.take_of_length_le (Nat.le_refl _)] at hacc
      have gA := g57.trans ga
      have GA : Gr TT (fun c => c = a) H Ha := g.trans gA.of0
      have hfA := hf7.gr0 ga
      have sA := s7.gr ga
      have htlA := ga.keepL0 htl7
      have hglA := ga.keepL0 hgl7
      have htsA : PtsV Ha ts (srt false (alive ks)) := Al.imp hts7 fun _ _ z => z.gr ga
      repeat walk_at "w"
      refine ⟨sz100 (Nat.le_of_ble_eq_true rfl), fun e1 hpe1 => ?_⟩; generalize eHb : upd Ha e1 _ = Hb; obtain ⟨gb, hb⟩ := new_facts TT hpe1 eHb; clear eHb
      refine w_neNil (SqL.of (gb.keepL0 hDa)) hb ?_
      repeat walk_at "w"
      obtain ⟨xa', paa', kaa'⟩ := fov_src hfA sA
      have naD : a ≠ D := src_pts sA hDa hacc
      have natl : a ≠ tl := src_pts sA htlA htsA
      have hgsA : PtsV Ha gs (srt false (gone ks)) := Al.imp hgs fun _ _ z => z.gr (g7.trans ga)
      have nagl : a ≠ gl := src_pts sA hglA hgsA
      have ngx : gl ≠ x := fun z => by
        have := hf5.ob
        rw [← z, hgl0] at this
        cases this
      have ngpa : gl ≠ pa := fun z => by
        obtain ⟨_, this, _⟩ := hf5.ex
        rw [← z, hgl0] at this
        cases this
      have ngka : gl ≠ ka := fun z => by
        have := hf5.kn
        rw [← z, hgl0] at this
        cases this
      cases hae : acc.isEmpty with
      | true =>
        repeat walk_at "w"
        have hGQ : Gr TT (fun c => c = a) Ha Hb := (Gr.of0 gb)
        have halk := (alive_sub ks).length_le
        rw [keys_len] at halk
        have htlq : Hb tl = some (.lst ts) := Gr.keepL hGQ htlA natl.symm
        refine ⟨sz100 (Nat.le_of_ble_eq_true rfl), fun e3 hpe3 => ?_⟩; generalize eHc : upd Hb e3 _ = Hc; obtain ⟨gc, hc⟩ := new_facts TT hpe3 eHc; clear eHc
        refine w_neNil (SqL.of (gc.keepL0 htlq)) hc ?_
        have gqc : Gr TT (fun c => c = a) Ha Hc := Gr.trans hGQ gc.of0
        have sc := Src.gr (Src.gr sA gb) gc
        cases het : ts.isEmpty with
        | true =>
          repeat walk_at "w"
          refine ⟨x, dx, pa, ka, _, _, _, rfl, (hfA.gr gqc xa' paa' kaa'), fo, ((GA.trans gqc)).tb tabs, fun Hs gs => ?_⟩
          repeat walk_at "w"
          exact ⟨_, _, _, _, _, _, pa, ka, _, _, _, rfl, ((GA.trans gqc)).trans gs.of0, Src.gr sc gs, FoV.gr0 (hfA.gr gqc xa' paa' kaa') gs, fo, npa, nka, hks⟩
        | false =>
          repeat walk_at "w"
          have hfq := hfA.gr gqc xa' paa' kaa'
          refine ⟨x, dx, _, rfl, hfq.ob, rfl, ?_⟩
          repeat walk_at "w"
          refine ⟨a, tl, ts, rfl, sc, gc.keepL0 htlq, natl, fun z => (by rw [z] at het; cases het), by omega, fun j sv H8 hsv g8 s8 => ?_⟩
          obtain ⟨p, hp, hsvp⟩ := Al.get htsA hsv
          have hpa : p ∈ alive ks := (srt_perm _ _).mem_iff.mp (List.mem_of_getElem? hp)
          have hpm : (p, true) ∈ ks := mem_alive.mp hpa
          have hpk : p ∈ keys ks := List.mem_map.mpr ⟨_, hpm, rfl⟩
          have g8A := gqc.trans g8
          have hf8 := hfq.gr g8 xa' paa' kaa'
          have G8 := GA.trans g8A
          have fs : ∀ b, FS x pa ka b → b = a ∨ H b = none := fun b hb => by
            rcases hb with z | z | z
            · exact .inr (by rw [z]; exact nx)
            · exact .inr (by rw [z]; exact npa)
            · exact .inr (by rw [z]; exact nka)
          have hko : keys (putB ks p false) = keys ks := keys_old hpk
          have hkn : (putB ks p false).length = ks.length := by rw [← keys_len, hko, keys_len]
          have hgm := gone_more fo.inv.nd hpm
          have hag := (alive_gone (putB ks p false)).length_eq
          rw [List.length_append, keys_len, hkn] at hag
          repeat walk_at "w"
          refine ⟨x, sv, p, dx, pa, ka, ks, pl, tot, rfl, hf8, hsvp.gr g8A, fo.ok p hpk, hpm, fo.inv.nd, by omega, G8.tb tabs, fun hh H9 g9 hf9 => ?_, fun hh H9 pa' ka' pl' g9 hf9 hrep htop pa0 ka0 => ?_⟩
          · have fo9 : FOk (putB ks p false) pl := ⟨fo.inv.lost hpm hh, fun q hq => by rw [hko] at hq; exact fo.ok q hq⟩
            have hk9 : ∀ q ∈ keys (putB ks p false), q ∈ ps := fun q hq => by rw [hko] at hq; exact hks q hq
            have G9 := G8.newS' g9 fs
            have s9 := src_fs s8 hf8 g9
            have hkp : 0 < ks.length := by
              rw [← keys_len]
              exact List.length_pos_of_mem hpk
            repeat walk_at "w"
            refine ⟨x, dx, _, rfl, hf9.ob, rfl, ?_⟩
            repeat walk_at "w"
            refine ⟨x, dx, pa, ka, _, pl, tot, rfl, hf9, fo9.inv.nd, by omega, fun yl ys H10 g10 _ hyl hys => ?_⟩
            have hysl := hys.len
            rw [srt_len] at hysl
            refine ⟨sz100 (Nat.le_of_ble_eq_true rfl), fun e4 hpe4 => ?_⟩; generalize eH11 : upd H10 e4 _ = H11; obtain ⟨g11, h11⟩ := new_facts TT hpe4 eH11; clear eH11
            refine w_eqNil (SqL.of (g11.keepL0 hyl)) h11 ?_
            rw [emp_len hysl (by omega)]
            repeat walk_at "w"
            refine ⟨rfl, ?_⟩
            repeat walk_at "w"
            have g911 := g10.trans g11
            have hf11 := hf9.gr0 g911
            refine ⟨x, dx, _, rfl, hf11.ob, rfl, ?_⟩
            repeat walk_at "w"
            refine ⟨x, dx, pa, ka, _, pl, tot, rfl, hf11, fo9.inv.nd, by omega, fun zl zs H12 g12 _ hzl hzs => ?_⟩
            have hzsl := hzs.len
            rw [srt_len] at hzsl
            refine ⟨sz100 (Nat.le_of_ble_eq_true rfl), fun e5 hpe5 => ?_⟩; generalize eH13 : upd H12 e5 _ = H13; obtain ⟨g13, h13⟩ := new_facts TT hpe5 eH13; clear eH13
            refine w_neNil (SqL.of (g13.keepL0 hzl)) h13 ?_
            rw [emp_len hzsl (by omega)]
            repeat walk_at "w"
            have g1113 := g12.trans g13
            have hf13 := hf11.gr0 g1113
            refine ⟨x, dx, _, rfl, hf13.ob, rfl, ?_⟩
            repeat walk_at "w"
            refine ⟨x, dx, pa, ka, _, pl, tot, rfl, hf13, fo9.inv.nd, by omega, fun wl ws H14 g14 _ hwl hws => ?_⟩
            have hwsl := hws.len
            rw [srt_len] at hwsl
            repeat walk_at "w"
            refine ⟨wl, ws, rfl, .inl (SqL.of hwl), ?_⟩
            repeat walk_at "w"
            have g914 := g911.trans (g1113.trans g14)
            have hgl14 : H14 gl = some (.lst gs) := g914.keepL0 (g9.keepL (g8A.keepL hglA nagl.symm) (fun z => by
              rcases z with z | z | z
              · exact ngx z
              · exact ngpa z
              · exact ngka z))
            refine ⟨gl, gs, rfl, .inl (SqL.of hgl14), ?_⟩
            repeat walk_at "w"
            refine w_ne rfl ?_
            rw [decide_eq_true (show V.int ((ws.length : Nat) : Int) = V.int (((gs.length : Nat) : Int) + 1) by rw [show ((ws.length : Nat) : Int) = ((gs.length : Nat) : Int) + 1 by omega])]
            repeat walk_at "w"
            refine ⟨x, dx, pa, ka, _, _, _, rfl, (hf13.gr0 g14), fo9, ((G9.trans g914.of0)).tb tabs, fun Hs gs => ?_⟩
            repeat walk_at "w"
            exact ⟨_, _, _, _, _, _, pa, ka, _, _, _, rfl, ((G9.trans g914.of0)).trans gs.of0, Src.gr (Src.gr s9 g914) gs, FoV.gr0 (hf13.gr0 g14) gs, fo9, npa, nka, hk9⟩
          · have han : (alive (putB ks p false)).Nodup := alive_nodup (by rw [hko]; exact fo.inv.nd)
            have hsn : (srt false (alive (putB ks p false))).Nodup := srt_nodup han
            have hsl2 : (srt false (alive (putB ks p false))).length = (alive (putB ks p false)).length := srt_len ..
            have hsm : ∀ q ∈ srt false (alive (putB ks p false)), q ∈ keys ks := fun q hq => by
              rw [← hko]
              exact (alive_sub _).subset ((srt_perm _ _).mem_iff.mp hq)
            generalize alive (putB ks p false) = al at hf9 hrep hag han hsn hsl2 hsm ⊢
            have fo9 : FOk (fresh (srt false al)) pl' := ⟨FInv.of_rep hrep htop hsn (by omega), fun q hq => by rw [keys_fresh] at hq; exact fo.ok q (hsm q hq)⟩
            have hk9 : ∀ q ∈ keys (fresh (srt false al)), q ∈ ps := fun q hq => by rw [keys_fresh] at hq; exact hks q (hsm q hq)
            have G9 := G8.newS' g9 fs
            have s9 := src_fs s8 hf8 g9
            have npa' : H pa' = none := G8.fr _ pa0
            have nka' : H ka' = none := G8.fr _ ka0
            have hfl9 : (fresh (srt false al)).length = al.length := by unfold fresh; rw [List.length_map, hsl2]
            have ealive : alive (fresh (srt false al)) = srt false al := alive_fresh _
            repeat walk_at "w"
            refine w_dec (fun hpos => ?_) (fun hpos => ?_)
            · repeat walk_at "w"
              have hfb : FoV C H9 x dx pa' ka' (fresh (srt false al)) pl' _ := hf9
              refine ⟨x, dx, _, rfl, hfb.ob, rfl, ?_⟩
              repeat walk_at "w"
              refine ⟨x, dx, pa', ka', _, pl', _, rfl, hfb, fo9.inv.nd, by omega, fun ul us H20 g20 _ hul hus => ?_⟩
              rw [ealive, srt_srt] at hus
              repeat walk_at "w"
              refine w_forest hul hus hsn (fun q hq => fo.ok q (hsm q hq)) (by omega) (g20.tb (Gr.tb G9 tabs)) fun y dy H21 pb kb plb g21 hfy hrepb htopb _ _ _ => ?_
              have hpl2 : plb = pl' := Rep.unique hrepb hrep htopb htop
              subst hpl2
              have g2021 := g20.trans g21
              have hfx := hfb.gr0 g2021
              refine ⟨x, y, dx, dy, _, _, rfl, rfl, hfx.ob, hfy.ob, ?_⟩
              refine ⟨x, y, dx, pa', ka', _, plb, _, dy, pb, kb, _, _, rfl, hfx, hfy, fo9.inv.nd, by omega, fo9.inv.nd, by omega, rfl, fun t ht => by have := wf_ht fo9.inv.wf ht; omega, fun H22 g22 => ⟨true, rfl, ?_⟩⟩
              have g2022 := g2021.trans g22
              have GF := Gr.trans G9 g2022.of0
              have SF := Src.gr s9 g2022
              have hff := hfb.gr0 g2022
              repeat walk_at "w"
              refine ⟨rfl, ?_⟩
              repeat walk_at "w"
              refine w_dec (fun hz => ?_) (fun hz => ?_)
              · have hal0 : al.length = 0 := by
                  have e : ((al.length : Nat) : Int) = 0 := V.int.inj hz
                  omega
                repeat walk_at "w"
                refine ⟨x, dx, _, rfl, hff.ob, rfl, ?_⟩
                repeat walk_at "w"
                refine ⟨x, dx, pa', ka', _, plb, _, rfl, hff, fo9.inv.nd, by omega, fun ul2 us2 H23 g23 _ hul2 hus2 => ?_⟩
                have husl := hus2.len
                rw [srt_len, ealive, hsl2] at husl
                refine ⟨sz100 (Nat.le_of_ble_eq_true rfl), fun e6 hpe6 => ?_⟩; generalize eH24 : upd H23 e6 _ = H24; obtain ⟨g24, h24⟩ := new_facts TT hpe6 eH24; clear eH24
                refine w_neNil (SqL.of (g24.keepL0 hul2)) h24 ?_
                rw [emp_nil (by omega)]
                repeat walk_at "w"
                refine ⟨x, dx, pa', ka', _, _, _, rfl, (hff.gr0 (g23.trans g24)), fo9, ((GF.trans (g23.trans g24).of0)).tb tabs, fun Hs gs => ?_⟩
                repeat walk_at "w"
                exact ⟨_, _, _, _, _, _, pa', ka', _, _, _, rfl, ((GF.trans (g23.trans g24).of0)).trans gs.of0, Src.gr (Src.gr SF (g23.trans g24)) gs, FoV.gr0 (hff.gr0 (g23.trans g24)) gs, fo9, npa', nka', hk9⟩
              · repeat walk_at "w"
                refine ⟨x, dx, pa', ka', _, _, _, rfl, hff, fo9, (GF).tb tabs, fun Hs gs => ?_⟩
                repeat walk_at "w"
                exact ⟨_, _, _, _, _, _, pa', ka', _, _, _, rfl, (GF).trans gs.of0, Src.gr SF gs, FoV.gr0 hff gs, fo9, npa', nka', hk9⟩
            · have hal0 : al.length = 0 := by omega
              repeat walk_at "w"
              refine ⟨x, dx, _, rfl, hf9.ob, rfl, ?_⟩
              repeat walk_at "w"
              refine ⟨x, dx, pa', ka', _, pl', _, rfl, hf9, fo9.inv.nd, by omega, fun yl ys H10 g10 _ hyl hys => ?_⟩
              have hysl := hys.len
              rw [srt_len, ealive, hsl2] at hysl
              refine ⟨sz100 (Nat.le_of_ble_eq_true rfl), fun e4 hpe4 => ?_⟩; generalize eH11 : upd H10 e4 _ = H11; obtain ⟨g11, h11⟩ := new_facts TT hpe4 eH11; clear eH11
              refine w_eqNil (SqL.of (g11.keepL0 hyl)) h11 ?_
              rw [emp_nil (by omega)]
              repeat walk_at "w"
              have g911 := g10.trans g11
              have hfb : FoV C H11 x dx pa' ka' (fresh (srt false al)) pl' _ := (hf9.gr0 g911)
              refine ⟨x, dx, _, rfl, hfb.ob, rfl, ?_⟩
              repeat walk_at "w"
              refine ⟨x, dx, pa', ka', _, pl', _, rfl, hfb, fo9.inv.nd, by omega, fun ul us H20 g20 _ hul hus => ?_⟩
              rw [ealive, srt_srt] at hus
              repeat walk_at "w"
              refine w_forest hul hus hsn (fun q hq => fo.ok q (hsm q hq)) (by omega) (g20.tb (Gr.tb (G9.trans g911.of0) tabs)) fun y dy H21 pb kb plb g21 hfy hrepb htopb _ _ _ => ?_
              have hpl2 : plb = pl' := Rep.unique hrepb hrep htopb htop
              subst hpl2
              have g2021 := g20.trans g21
              have hfx := hfb.gr0 g2021
              refine ⟨x, y, dx, dy, _, _, rfl, rfl, hfx.ob, hfy.ob, ?_⟩
              refine ⟨x, y, dx, pa', ka', _, plb, _, dy, pb, kb, _, _, rfl, hfx, hfy, fo9.inv.nd, by omega, fo9.inv.nd, by omega, rfl, fun t ht => by have := wf_ht fo9.inv.wf ht; omega, fun H22 g22 => ⟨true, rfl, ?_⟩⟩
              have g2022 := g2021.trans g22
              have GF := Gr.trans (G9.trans g911.of0) g2022.of0
              have SF := Src.gr (Src.gr s9 g911) g2022
              have hff := hfb.gr0 g2022
              repeat walk_at "w"
              refine ⟨rfl, ?_⟩
              repeat walk_at "w"
              refine w_dec (fun hz => ?_) (fun hz => ?_)
              · have hal0 : al.length = 0 := by
                  have e : ((al.length : Nat) : Int) = 0 := V.int.inj hz
                  omega
                repeat walk_at "w"
                refine ⟨x, dx, _, rfl, hff.ob, rfl, ?_⟩
                repeat walk_at "w"
                refine ⟨x, dx, pa', ka', _, plb, _, rfl, hff, fo9.inv.nd, by omega, fun ul2 us2 H23 g23 _ hul2 hus2 => ?_⟩
                have husl := hus2.len
                rw [srt_len, ealive, hsl2] at husl
                refine ⟨sz100 (Nat.le_of_ble_eq_true rfl), fun e6 hpe6 => ?_⟩; generalize eH24 : upd H23 e6 _ = H24; obtain ⟨g24, h24⟩ := new_facts TT hpe6 eH24; clear eH24
                refine w_neNil (SqL.of (g24.keepL0 hul2)) h24 ?_
                rw [emp_nil (by omega)]
                repeat walk_at "w"
                refine ⟨x, dx, pa', ka', _, _, _, rfl, (hff.gr0 (g23.trans g24)), fo9, ((GF.trans (g23.trans g24).of0)).tb tabs, fun Hs gs => ?_⟩
                repeat walk_at "w"
                exact ⟨_, _, _, _, _, _, pa', ka', _, _, _, rfl, ((GF.trans (g23.trans g24).of0)).trans gs.of0, Src.gr (Src.gr SF (g23.trans g24)) gs, FoV.gr0 (hff.gr0 (g23.trans g24)) gs, fo9, npa', nka', hk9⟩
              · repeat walk_at "w"
                refine ⟨x, dx, pa', ka', _, _, _, rfl, hff, fo9, (GF).tb tabs, fun Hs gs => ?_⟩
                repeat walk_at "w"
                exact ⟨_, _, _, _, _, _, pa', ka', _, _, _, rfl, (GF).trans gs.of0, Src.gr SF gs, FoV.gr0 hff gs, fo9, npa', nka', hk9⟩
      | false =>
        have hane : acc ≠ [] := fun z => (by rw [z] at hae; cases hae)
        repeat walk_at "w"
        refine ⟨sz100 (Nat.le_of_ble_eq_true rfl), fun e2 hpe2 => ?_⟩; generalize eHb2 : upd Hb e2 _ = Hb2; obtain ⟨gb2, hb2⟩ := new_facts TT hpe2 eHb2; clear eHb2
        have gbb := gb.trans gb2
        refine w_eqNil (SqL.of (gbb.keepL0 htlA)) hb2 ?_
        repeat walk_at "w"
        cases het0 : ts.isEmpty with
        | true =>
          repeat walk_at "w"
          have hGQ : Gr TT (fun c => c = a) Ha Hb2 := (Gr.of0 gbb)
          have hfq := hfA.gr hGQ xa' paa' kaa'
          refine ⟨x, dx, _, rfl, hfq.ob, rfl, ?_⟩
          repeat walk_at "w"
          have hDq : Hb2 D = some (.lst acc) := Gr.keepL hGQ hDa naD.symm
          refine ⟨a, D, acc, rfl, (Src.gr sA gbb), hDq, naD, hane, by omega, fun j sv H8 hsv g8 s8 => ?_⟩
          obtain ⟨p, hp, hsvp⟩ := Al.get hacc hsv
          obtain ⟨hpm, hpn⟩ := List.mem_filter.mp (List.mem_of_getElem? hp)
          have hpn : p ∉ alive ks := of_decide_eq_true hpn
          have g8A := Gr.trans hGQ g8
          have hf8 := hfq.gr g8 xa' paa' kaa'
          have G8 := GA.trans g8A
          have fs : ∀ b, FS x pa ka b → b = a ∨ H b = none := fun b hb => by
            rcases hb with z | z | z
            · exact .inr (by rw [z]; exact nx)
            · exact .inr (by rw [z]; exact npa)
            · exact .inr (by rw [z]; exact nka)
          repeat walk_at "w"
          refine ⟨x, sv, p, dx, pa, ka, ks, pl, tot, rfl, hf8, hsvp.gr g8A, hok p hpm, fun z => hpn (mem_alive.mpr (getB_mem z)), by omega, by omega, by omega, G8.tb tabs, ⟨fun hb H9 g9 hf9 => ?_, fun hb H9 g9 hf9 => ?_⟩⟩
          · have fo9 : FOk (putB ks p true) pl := ⟨fo.inv.back (getB_mem hb), fun q hq => by
              rcases keys_put q hq with z | z
              · rw [z]; exact hok p hpm
              · exact fo.ok q z⟩
            have hk9 : ∀ q ∈ keys (putB ks p true), q ∈ ps := fun q hq => by
              rcases keys_put q hq with z | z
              · rw [z]; exact hpm
              · exact hks q z
            repeat walk_at "w"
            refine ⟨x, dx, pa, ka, _, _, _, rfl, hf9, fo9, ((G8.newS' g9 fs)).tb tabs, fun Hs gs => ?_⟩
            repeat walk_at "w"
            exact ⟨_, _, _, _, _, _, pa, ka, _, _, _, rfl, ((G8.newS' g9 fs)).trans gs.of0, Src.gr (src_fs s8 hf8 g9) gs, FoV.gr0 hf9 gs, fo9, npa, nka, hk9⟩
          · have fo9 : FOk (putB ks p true) (carry pl [p]) := ⟨fo.inv.put (getB_none.mp hb) (by omega), fun q hq => by
              rcases keys_put q hq with z | z
              · rw [z]; exact hok p hpm
              · exact fo.ok q z⟩
            have hk9 : ∀ q ∈ keys (putB ks p true), q ∈ ps := fun q hq => by
              rcases keys_put q hq with z | z
              · rw [z]; exact hpm
              · exact hks q z
            repeat walk_at "w"
            refine ⟨x, dx, pa, ka, _, _, _, rfl, hf9, fo9, ((G8.newS' g9 fs)).tb tabs, fun Hs gs => ?_⟩
            repeat walk_at "w"
            exact ⟨_, _, _, _, _, _, pa, ka, _, _, _, rfl, ((G8.newS' g9 fs)).trans gs.of0, Src.gr (src_fs s8 hf8 g9) gs, FoV.gr0 hf9 gs, fo9, npa, nka, hk9⟩
        | false =>
          repeat walk_at "w"
          refine ⟨a, _, rfl, sA.gr gbb, by decide, by omega, fun n2 Hq q0 q1 gq sq => ?_⟩
          repeat walk_at "w"
          refine ⟨rfl, ?_⟩
          have gqq : Gr TT (fun c => c = a) Ha Hq := gbb.of0.trans gq
          repeat walk_at "w"
          refine w_dec (fun _ => ?_) (fun _ => ?_)
          · skip
            repeat walk_at "w"
            have hGQ : Gr TT (fun c => c = a) Ha Hq := gqq
            have hfq := hfA.gr hGQ xa' paa' kaa'
            refine ⟨x, dx, _, rfl, hfq.ob, rfl, ?_⟩
            repeat walk_at "w"
            have hDq : Hq D = some (.lst acc) := Gr.keepL hGQ hDa naD.symm
            refine ⟨a, D, acc, rfl, sq, hDq, naD, hane, by omega, fun j sv H8 hsv g8 s8 => ?_⟩
            obtain ⟨p, hp, hsvp⟩ := Al.get hacc hsv
            obtain ⟨hpm, hpn⟩ := List.mem_filter.mp (List.mem_of_getElem? hp)
            have hpn : p ∉ alive ks := of_decide_eq_true hpn
            have g8A := Gr.trans hGQ g8
            have hf8 := hfq.gr g8 xa' paa' kaa'
            have G8 := GA.trans g8A
            have fs : ∀ b, FS x pa ka b → b = a ∨ H b = none := fun b hb => by
              rcases hb with z | z | z
              · exact .inr (by rw [z]; exact nx)
              · exact .inr (by rw [z]; exact npa)
              · exact .inr (by rw [z]; exact nka)
            repeat walk_at "w"
            refine ⟨x, sv, p, dx, pa, ka, ks, pl, tot, rfl, hf8, hsvp.gr g8A, hok p hpm, fun z => hpn (mem_alive.mpr (getB_mem z)), by omega, by omega, by omega, G8.tb tabs, ⟨fun hb H9 g9 hf9 => ?_, fun hb H9 g9 hf9 => ?_⟩⟩
            · have fo9 : FOk (putB ks p true) pl := ⟨fo.inv.back (getB_mem hb), fun q hq => by
                rcases keys_put q hq with z | z
                · rw [z]; exact hok p hpm
                · exact fo.ok q z⟩
              have hk9 : ∀ q ∈ keys (putB ks p true), q ∈ ps := fun q hq => by
                rcases keys_put q hq with z | z
                · rw [z]; exact hpm
                · exact hks q z
              repeat walk_at "w"
              refine ⟨x, dx, pa, ka, _, _, _, rfl, hf9, fo9, ((G8.newS' g9 fs)).tb tabs, fun Hs gs => ?_⟩
              repeat walk_at "w"
              exact ⟨_, _, _, _, _, _, pa, ka, _, _, _, rfl, ((G8.newS' g9 fs)).trans gs.of0, Src.gr (src_fs s8 hf8 g9) gs, FoV.gr0 hf9 gs, fo9, npa, nka, hk9⟩
            · have fo9 : FOk (putB ks p true) (carry pl [p]) := ⟨fo.inv.put (getB_none.mp hb) (by omega), fun q hq => by
                rcases keys_put q hq with z | z
                · rw [z]; exact hok p hpm
                · exact fo.ok q z⟩
              have hk9 : ∀ q ∈ keys (putB ks p true), q ∈ ps := fun q hq => by
                rcases keys_put q hq with z | z
                · rw [z]; exact hpm
                · exact hks q z
              repeat walk_at "w"
              refine ⟨x, dx, pa, ka, _, _, _, rfl, hf9, fo9, ((G8.newS' g9 fs)).tb tabs, fun Hs gs => ?_⟩
              repeat walk_at "w"
              exact ⟨_, _, _, _, _, _, pa, ka, _, _, _, rfl, ((G8.newS' g9 fs)).trans gs.of0, Src.gr (src_fs s8 hf8 g9) gs, FoV.gr0 hf9 gs, fo9, npa, nka, hk9⟩
          · skip
            repeat walk_at "w"
            have hGQ : Gr TT (fun c => c = a) Ha Hq := gqq
            have halk := (alive_sub ks).length_le
            rw [keys_len] at halk
            have htlq : Hq tl = some (.lst ts) := Gr.keepL hGQ htlA natl.symm
            refine ⟨sz100 (Nat.le_of_ble_eq_true rfl), fun e3 hpe3 => ?_⟩; generalize eHc : upd Hq e3 _ = Hc; obtain ⟨gc, hc⟩ := new_facts TT hpe3 eHc; clear eHc
            refine w_neNil (SqL.of (gc.keepL0 htlq)) hc ?_
            have gqc : Gr TT (fun c => c = a) Ha Hc := Gr.trans hGQ gc.of0
            have sc := Src.gr sq gc
            cases het : ts.isEmpty with
            | true =>
              repeat walk_at "w"
              refine ⟨x, dx, pa, ka, _, _, _, rfl, (hfA.gr gqc xa' paa' kaa'), fo, ((GA.trans gqc)).tb tabs, fun Hs gs => ?_⟩
              repeat walk_at "w"
              exact ⟨_, _, _, _, _, _, pa, ka, _, _, _, rfl, ((GA.trans gqc)).trans gs.of0, Src.gr sc gs, FoV.gr0 (hfA.gr gqc xa' paa' kaa') gs, fo, npa, nka, hks⟩
            | false =>
              repeat walk_at "w"
              have hfq := hfA.gr gqc xa' paa' kaa'
              refine ⟨x, dx, _, rfl, hfq.ob, rfl, ?_⟩
              repeat walk_at "w"
              refine ⟨a, tl, ts, rfl, sc, gc.keepL0 htlq, natl, fun z => (by rw [z] at het; cases het), by omega, fun j sv H8 hsv g8 s8 => ?_⟩
              obtain ⟨p, hp, hsvp⟩ := Al.get htsA hsv
              have hpa : p ∈ alive ks := (srt_perm _ _).mem_iff.mp (List.mem_of_getElem? hp)
              have hpm : (p, true) ∈ ks := mem_alive.mp hpa
              have hpk : p ∈ keys ks := List.mem_map.mpr ⟨_, hpm, rfl⟩
              have g8A := gqc.trans g8
              have hf8 := hfq.gr g8 xa' paa' kaa'
              have G8 := GA.trans g8A
              have fs : ∀ b, FS x pa ka b → b = a ∨ H b = none := fun b hb => by
                rcases hb with z | z | z
                · exact .inr (by rw [z]; exact nx)
                · exact .inr (by rw [z]; exact npa)
                · exact .inr (by rw [z]; exact nka)
              have hko : keys (putB ks p false) = keys ks := keys_old hpk
              have hkn : (putB ks p false).length = ks.length := by rw [← keys_len, hko, keys_len]
              have hgm := gone_more fo.inv.nd hpm
              have hag := (alive_gone (putB ks p false)).length_eq
              rw [List.length_append, keys_len, hkn] at hag
              repeat walk_at "w"
              refine ⟨x, sv, p, dx, pa, ka, ks, pl, tot, rfl, hf8, hsvp.gr g8A, fo.ok p hpk, hpm, fo.inv.nd, by omega, G8.tb tabs, fun hh H9 g9 hf9 => ?_, fun hh H9 pa' ka' pl' g9 hf9 hrep htop pa0 ka0 => ?_⟩
              · have fo9 : FOk (putB ks p false) pl := ⟨fo.inv.lost hpm hh, fun q hq => by rw [hko] at hq; exact fo.ok q hq⟩
                have hk9 : ∀ q ∈ keys (putB ks p false), q ∈ ps := fun q hq => by rw [hko] at hq; exact hks q hq
                have G9 := G8.newS' g9 fs
                have s9 := src_fs s8 hf8 g9
                have hkp : 0 < ks.length := by
                  rw [← keys_len]
                  exact List.length_pos_of_mem hpk
                repeat walk_at "w"
                refine ⟨x, dx, _, rfl, hf9.ob, rfl, ?_⟩
                repeat walk_at "w"
                refine ⟨x, dx, pa, ka, _, pl, tot, rfl, hf9, fo9.inv.nd, by omega, fun yl ys H10 g10 _ hyl hys => ?_⟩
                have hysl := hys.len
                rw [srt_len] at hysl
                refine ⟨sz100 (Nat.le_of_ble_eq_true rfl), fun e4 hpe4 => ?_⟩; generalize eH11 : upd H10 e4 _ = H11; obtain ⟨g11, h11⟩ := new_facts TT hpe4 eH11; clear eH11
                refine w_eqNil (SqL.of (g11.keepL0 hyl)) h11 ?_
                rw [emp_len hysl (by omega)]
                repeat walk_at "w"
                refine ⟨rfl, ?_⟩
                repeat walk_at "w"
                have g911 := g10.trans g11
                have hf11 := hf9.gr0 g911
                refine ⟨x, dx, _, rfl, hf11.ob, rfl, ?_⟩
                repeat walk_at "w"
                refine ⟨x, dx, pa, ka, _, pl, tot, rfl, hf11, fo9.inv.nd, by omega, fun zl zs H12 g12 _ hzl hzs => ?_⟩
                have hzsl := hzs.len
                rw [srt_len] at hzsl
                refine ⟨sz100 (Nat.le_of_ble_eq_true rfl), fun e5 hpe5 => ?_⟩; generalize eH13 : upd H12 e5 _ = H13; obtain ⟨g13, h13⟩ := new_facts TT hpe5 eH13; clear eH13
                refine w_neNil (SqL.of (g13.keepL0 hzl)) h13 ?_
                rw [emp_len hzsl (by omega)]
                repeat walk_at "w"
                have g1113 := g12.trans g13
                have hf13 := hf11.gr0 g1113
                refine ⟨x, dx, _, rfl, hf13.ob, rfl, ?_⟩
                repeat walk_at "w"
                refine ⟨x, dx, pa, ka, _, pl, tot, rfl, hf13, fo9.inv.nd, by omega, fun wl ws H14 g14 _ hwl hws => ?_⟩
                have hwsl := hws.len
                rw [srt_len] at hwsl
                repeat walk_at "w"
                refine ⟨wl, ws, rfl, .inl (SqL.of hwl), ?_⟩
                repeat walk_at "w"
                have g914 := g911.trans (g1113.trans g14)
                have hgl14 : H14 gl = some (.lst gs) := g914.keepL0 (g9.keepL (g8A.keepL hglA nagl.symm) (fun z => by
                  rcases z with z | z | z
                  · exact ngx z
                  · exact ngpa z
                  · exact ngka z))
                refine ⟨gl, gs, rfl, .inl (SqL.of hgl14), ?_⟩
                repeat walk_at "w"
                refine w_ne rfl ?_
                rw [decide_eq_true (show V.int ((ws.length : Nat) : Int) = V.int (((gs.length : Nat) : Int) + 1) by rw [show ((ws.length : Nat) : Int) = ((gs.length : Nat) : Int) + 1 by omega])]
                repeat walk_at "w"
                refine ⟨x, dx, pa, ka, _, _, _, rfl, (hf13.gr0 g14), fo9, ((G9.trans g914.of0)).tb tabs, fun Hs gs => ?_⟩
                repeat walk_at "w"
                exact ⟨_, _, _, _, _, _, pa, ka, _, _, _, rfl, ((G9.trans g914.of0)).trans gs.of0, Src.gr (Src.gr s9 g914) gs, FoV.gr0 (hf13.gr0 g14) gs, fo9, npa, nka, hk9⟩
              · have han : (alive (putB ks p false)).Nodup := alive_nodup (by rw [hko]; exact fo.inv.nd)
                have hsn : (srt false (alive (putB ks p false))).Nodup := srt_nodup han
                have hsl2 : (srt false (alive (putB ks p false))).length = (alive (putB ks p false)).length := srt_len ..
                have hsm : ∀ q ∈ srt false (alive (putB ks p false)), q ∈ keys ks := fun q hq => by
                  rw [← hko]
                  exact (alive_sub _).subset ((srt_perm _ _).mem_iff.mp hq)
                generalize alive (putB ks p false) = al at hf9 hrep hag han hsn hsl2 hsm ⊢
                have fo9 : FOk (fresh (srt false al)) pl' := ⟨FInv.of_rep hrep htop hsn (by omega), fun q hq => by rw [keys_fresh] at hq; exact fo.ok q (hsm q hq)⟩
                have hk9 : ∀ q ∈ keys (fresh (srt false al)), q ∈ ps := fun q hq => by rw [keys_fresh] at hq; exact hks q (hsm q hq)
                have G9 := G8.newS' g9 fs
                have s9 := src_fs s8 hf8 g9
                have npa' : H pa' = none := G8.fr _ pa0
                have nka' : H ka' = none := G8.fr _ ka0
                have hfl9 : (fresh (srt false al)).length = al.length := by unfold fresh; rw [List.length_map, hsl2]
                have ealive : alive (fresh (srt false al)) = srt false al := alive_fresh _
                repeat walk_at "w"
                refine w_dec (fun hpos => ?_) (fun hpos => ?_)
                · repeat walk_at "w"
                  have hfb : FoV C H9 x dx pa' ka' (fresh (srt false al)) pl' _ := hf9
                  refine ⟨x, dx, _, rfl, hfb.ob, rfl, ?_⟩
                  repeat walk_at "w"
                  refine ⟨x, dx, pa', ka', _, pl', _, rfl, hfb, fo9.inv.nd, by omega, fun ul us H20 g20 _ hul hus => ?_⟩
                  rw [ealive, srt_srt] at hus
                  repeat walk_at "w"
                  refine w_forest hul hus hsn (fun q hq => fo.ok q (hsm q hq)) (by omega) (g20.tb (Gr.tb G9 tabs)) fun y dy H21 pb kb plb g21 hfy hrepb htopb _ _ _ => ?_
                  have hpl2 : plb = pl' := Rep.unique hrepb hrep htopb htop
                  subst hpl2
                  have g2021 := g20.trans g21
                  have hfx := hfb.gr0 g2021
                  refine ⟨x, y, dx, dy, _, _, rfl, rfl, hfx.ob, hfy.ob, ?_⟩
                  refine ⟨x, y, dx, pa', ka', _, plb, _, dy, pb, kb, _, _, rfl, hfx, hfy, fo9.inv.nd, by omega, fo9.inv.nd, by omega, rfl, fun t ht => by have := wf_ht fo9.inv.wf ht; omega, fun H22 g22 => ⟨true, rfl, ?_⟩⟩
                  have g2022 := g2021.trans g22
                  have GF := Gr.trans G9 g2022.of0
                  have SF := Src.gr s9 g2022
                  have hff := hfb.gr0 g2022
                  repeat walk_at "w"
                  refine ⟨rfl, ?_⟩
                  repeat walk_at "w"
                  refine w_dec (fun hz => ?_) (fun hz => ?_)
                  · have hal0 : al.length = 0 := by
                      have e : ((al.length : Nat) : Int) = 0 := V.int.inj hz
                      omega
                    repeat walk_at "w"
                    refine ⟨x, dx, _, rfl, hff.ob, rfl, ?_⟩
                    repeat walk_at "w"
                    refine ⟨x, dx, pa', ka', _, plb, _, rfl, hff, fo9.inv.nd, by omega, fun ul2 us2 H23 g23 _ hul2 hus2 => ?_⟩
                    have husl := hus2.len
                    rw [srt_len, ealive, hsl2] at husl
                    refine ⟨sz100 (Nat.le_of_ble_eq_true rfl), fun e6 hpe6 => ?_⟩; generalize eH24 : upd H23 e6 _ = H24; obtain ⟨g24, h24⟩ := new_facts TT hpe6 eH24; clear eH24
                    refine w_neNil (SqL.of (g24.keepL0 hul2)) h24 ?_
                    rw [emp_nil (by omega)]
                    repeat walk_at "w"
                    refine ⟨x, dx, pa', ka', _, _, _, rfl, (hff.gr0 (g23.trans g24)), fo9, ((GF.trans (g23.trans g24).of0)).tb tabs, fun Hs gs => ?_⟩
                    repeat walk_at "w"
                    exact ⟨_, _, _, _, _, _, pa', ka', _, _, _, rfl, ((GF.trans (g23.trans g24).of0)).trans gs.of0, Src.gr (Src.gr SF (g23.trans g24)) gs, FoV.gr0 (hff.gr0 (g23.trans g24)) gs, fo9, npa', nka', hk9⟩
                  · repeat walk_at "w"
                    refine ⟨x, dx, pa', ka', _, _, _, rfl, hff, fo9, (GF).tb tabs, fun Hs gs => ?_⟩
                    repeat walk_at "w"
                    exact ⟨_, _, _, _, _, _, pa', ka', _, _, _, rfl, (GF).trans gs.of0, Src.gr SF gs, FoV.gr0 hff gs, fo9, npa', nka', hk9⟩
                · have hal0 : al.length = 0 := by omega
                  repeat walk_at "w"
                  refine ⟨x, dx, _, rfl, hf9.ob, rfl, ?_⟩
                  repeat walk_at "w"
                  refine ⟨x, dx, pa', ka', _, pl', _, rfl, hf9, fo9.inv.nd, by omega, fun yl ys H10 g10 _ hyl hys => ?_⟩
                  have hysl := hys.len
                  rw [srt_len, ealive, hsl2] at hysl
                  refine ⟨sz100 (Nat.le_of_ble_eq_true rfl), fun e4 hpe4 => ?_⟩; generalize eH11 : upd H10 e4 _ = H11; obtain ⟨g11, h11⟩ := new_facts TT hpe4 eH11; clear eH11
                  refine w_eqNil (SqL.of (g11.keepL0 hyl)) h11 ?_
                  rw [emp_nil (by omega)]
                  repeat walk_at "w"
                  have g911 := g10.trans g11
                  have hfb : FoV C H11 x dx pa' ka' (fresh (srt false al)) pl' _ := (hf9.gr0 g911)
                  refine ⟨x, dx, _, rfl, hfb.ob, rfl, ?_⟩
                  repeat walk_at "w"
                  refine ⟨x, dx, pa', ka', _, pl', _, rfl, hfb, fo9.inv.nd, by omega, fun ul us H20 g20 _ hul hus => ?_⟩
                  rw [ealive, srt_srt] at hus
                  repeat walk_at "w"
                  refine w_forest hul hus hsn (fun q hq => fo.ok q (hsm q hq)) (by omega) (g20.tb (Gr.tb (G9.trans g911.of0) tabs)) fun y dy H21 pb kb plb g21 hfy hrepb htopb _ _ _ => ?_
                  have hpl2 : plb = pl' := Rep.unique hrepb hrep htopb htop
                  subst hpl2
                  have g2021 := g20.trans g21
                  have hfx := hfb.gr0 g2021
                  refine ⟨x, y, dx, dy, _, _, rfl, rfl, hfx.ob, hfy.ob, ?_⟩
                  refine ⟨x, y, dx, pa', ka', _, plb, _, dy, pb, kb, _, _, rfl, hfx, hfy, fo9.inv.nd, by omega, fo9.inv.nd, by omega, rfl, fun t ht => by have := wf_ht fo9.inv.wf ht; omega, fun H22 g22 => ⟨true, rfl, ?_⟩⟩
                  have g2022 := g2021.trans g22
                  have GF := Gr.trans (G9.trans g911.of0) g2022.of0
                  have SF := Src.gr (Src.gr s9 g911) g2022
                  have hff := hfb.gr0 g2022
                  repeat walk_at "w"
                  refine ⟨rfl, ?_⟩
                  repeat walk_at "w"
                  refine w_dec (fun hz => ?_) (fun hz => ?_)
                  · have hal0 : al.length = 0 := by
                      have e : ((al.length : Nat) : Int) = 0 := V.int.inj hz
                      omega
                    repeat walk_at "w"
                    refine ⟨x, dx, _, rfl, hff.ob, rfl, ?_⟩
                    repeat walk_at "w"
                    refine ⟨x, dx, pa', ka', _, plb, _, rfl, hff, fo9.inv.nd, by omega, fun ul2 us2 H23 g23 _ hul2 hus2 => ?_⟩
                    have husl := hus2.len
                    rw [srt_len, ealive, hsl2] at husl
                    refine ⟨sz100 (Nat.le_of_ble_eq_true rfl), fun e6 hpe6 => ?_⟩; generalize eH24 : upd H23 e6 _ = H24; obtain ⟨g24, h24⟩ := new_facts TT hpe6 eH24; clear eH24
                    refine w_neNil (SqL.of (g24.keepL0 hul2)) h24 ?_
                    rw [emp_nil (by omega)]
                    repeat walk_at "w"
                    refine ⟨x, dx, pa', ka', _, _, _, rfl, (hff.gr0 (g23.trans g24)), fo9, ((GF.trans (g23.trans g24).of0)).tb tabs, fun Hs gs => ?_⟩
                    repeat walk_at "w"
                    exact ⟨_, _, _, _, _, _, pa', ka', _, _, _, rfl, ((GF.trans (g23.trans g24).of0)).trans gs.of0, Src.gr (Src.gr SF (g23.trans g24)) gs, FoV.gr0 (hff.gr0 (g23.trans g24)) gs, fo9, npa', nka', hk9⟩
                  · repeat walk_at "w"
                    refine ⟨x, dx, pa', ka', _, _, _, rfl, hff, fo9, (GF).tb tabs, fun Hs gs => ?_⟩
                    repeat walk_at "w"
                    exact ⟨_, _, _, _, _, _, pa', ka', _, _, _, rfl, (GF).trans gs.of0, Src.gr SF gs, FoV.gr0 hff gs, fo9, npa', nka', hk9⟩
    · rintro σ' H' ⟨v3, v4, v5, v6, v7, v8, pa, ka, ks, pl, tot, rfl, g, hs', hf, fo, npa, nka, hks⟩
      repeat walk_at "w"
      refine ⟨a, x, l, dx, pa, ka, ks, pl, tot, xs, ps, rfl, hs', hf, fo, g.keepL hl nal.symm, Al.imp hps fun _ _ z => z.gr g, hok, by omega, g.tb tabs, fun H5 g5 s5 => ?_⟩
      exact k H5 (g.trans g5) s5
end
end Wd
end
section
/-! The law: blocks. -/
namespace Wd
open PySem PySem.Spec PyProof.Rows L2 LamX NdefX
local macro_rules | `(tactic| walk_at "w") => `(tactic| first
  | with_reducible refine w_var (by with_unfolding_all rfl) ?_
  | with_reducible refine w_aug (by with_unfolding_all rfl) ?_
  | with_reducible refine w_op ?_
  | with_reducible refine w_c ?_
  | with_reducible refine w_I0 ?_
  | with_reducible refine w_cons ?_
  | with_reducible refine w_nil ?_
  | with_reducible refine w_call ?_
  | with_reducible refine w_cb ?_
  | with_reducible refine w_seq ?_
  | with_reducible refine w_ret ?_
  | with_reducible refine w_set ?_
  | with_reducible refine w_if ?_
  | with_reducible refine w_test ?_
  | with_reducible refine w_B ?_
  | with_reducible refine w_k ?_
  | with_reducible refine w_and ?_
  | with_reducible refine w_or ?_
  | with_reducible refine w_not ?_
  | with_reducible refine w_andV ?_
  | with_reducible refine w_orV ?_
  | with_reducible refine w_notV ?_
  | with_reducible refine w_ifE ?_
  | with_reducible refine w_chain ?_
  | with_reducible refine w_un ?_
  | with_reducible refine w_U ?_
  | with_reducible refine w_isN ?_
  | with_reducible refine w_notN ?_
  | with_reducible refine w_T ?_
  | with_reducible refine w_F ?_
  | with_reducible refine w_next ?_
  | with_reducible refine w_drop ?_
  | with_reducible refine w_par2 ?_
  | with_reducible refine w_par3 ?_
  | with_reducible refine w_tup ?_
  | with_reducible refine w_lst ?_
  | with_reducible refine w_bm ?_
  | with_reducible refine w_bm0 ?_
  | with_reducible refine w_gname ?_
  | with_reducible refine w_gcons ?_
  | with_reducible refine w_lcI ?_
  | with_reducible refine w_lc2I ?_
  | with_reducible refine w_iTup ?_
  | with_reducible refine w_iList ?_
  | with_reducible refine w_yes ?_
  | with_reducible refine w_din ?_
  | with_reducible refine w_dput ?_
  | with_reducible refine w_dget2 ?_
  | with_reducible refine w_iEnum ?_
  | with_reducible refine w_sl ?_
  | with_reducible refine w_noP ?_
  | with_reducible refine w_part ?_
  | with_reducible refine w_asg ?_
  | with_reducible refine w_ip ?_
  | with_reducible refine w_cont ?_
  | with_reducible refine w_callD ?_
  | with_reducible refine w_thru ?_
  | with_reducible refine w_star ?_
  | with_reducible refine w_bits ?_
  | with_reducible refine w_revL ?_
  | with_reducible refine w_fld ?_
  | with_reducible refine w_dget ?_
  | with_reducible refine w_keys ?_
  | with_reducible refine w_gsub ?_
  | with_reducible refine w_fldaug ?_
  | with_reducible refine w_sfld ?_
  | with_reducible refine w_meth ?_
  | with_reducible refine w_make ?_
  | with_reducible refine w_ite (by with_unfolding_all rfl) ?_ | with_reducible refine w_itf (by with_unfolding_all rfl) ?_)
section
variable {P : Program} {w : World} {K : PySem.W.Frag} {mg : Str → Option Value} {base : Heap} {aE C : Addr}
abbrev s_law_blocks_right : Stmt := topS 65
abbrev N_law_blocks_right : List Str := ["_law_source_here", "_law_spots_here", "_law_place", "_law_wald", "_law_other", "_law_begun", "_law_cut_at", "_law_block"]
theorem sc_law_blocks_right : FnScope N_law_blocks_right ["_law_source_here", "_law_spots_here"] (C8.fnScope s_law_blocks_right) := ⟨rfl, rfl, rfl, by decide +kernel, rfl, by decide +kernel, by decide +kernel⟩
theorem cal_law_blocks {TT : List (Addr × Str)} {f : Addr} {fd : FuncData} (F : C8.Def K mg "_law_blocks_right" s_law_blocks_right f fd) (b : Binds K fd ["_law_source_here", "_law_spots_here"] []) (T : Txt K mg aE C) (TF : TxF K C) (c_law_take : C8.Cal P w K mg base 2 "_law_take" (spLTake TT) [])
    (c_Forest : C8.Mak P w K mg base 14 "Forest" C (spInit C TT) []) (m_moved : C8.Met P w K mg base 1 C "moved" (spMoved C) []) (m_eq : C8.Met P w K mg base 2 C "__eq__" (spFoEq C TT) []) (c_cost_of : C8.Cal P w K mg base 4 "cost_of" (spCost TT) []) : C8.Cal P w K mg base 16 "_law_blocks_right" (spLDeeds C TT) [] := by
  refine C8.cal0 F b .nil sc_law_blocks_right (fun vs H Q E h => ?_) (fun cdv A outer s H vs Q E hr h => ?_)
  · obtain ⟨a, l, xs, ps, rfl, _⟩ := h
    rfl
  · obtain ⟨a, l, xs, ps, rfl, hs, hl, hps, hnd, hok, hlen, tabs, k⟩ := h
    have nd := sc_law_blocks_right.nd
    have nal := src_pts hs hl hps
    have hxl := hps.len
    have big : (2 : Int) ^ 200 > 100000 := by decide +kernel
    refine ⟨_, (pss_cons (ps_par (i := 4) (j := 5) rfl nd rfl rfl (by decide) rfl rfl (pa_cons (pe_lst pa_nil) (pa_cons pe_int pa_nil)) (by rfl))
  (pss_cons (ps_for PassesOwn.never rfl (pi_range3 (by rfl) T.nrange (pa_cons pe_int (pa_cons (pe_un un_neg pe_int) (pa_cons (pe_un un_neg pe_int) pa_nil)))) (pg_name (i := 2) nd rfl (Or.inl rfl)) (pss_one (ps_if (pt_cmpR op_eq (pe_op op_odd (pe_op op_shrN (pe_callB call_len_seq (by rfl) T.nlen (by decide +kernel) (pa_cons (pv 1) pa_nil)) (pv 2)) pe_int) pe_int (nomark _)) (pss_cons (ps_par (i := 7) (j := 5) rfl nd rfl rfl (by decide) rfl rfl (pa_cons (pe_slice sl_list (pv 1) (po_some (pv 5)) (po_some (pe_op op_add (pv 5) (pe_op op_shl pe_int (pv 2))))) (pa_cons (pe_op op_add (pv 5) (pe_op op_shl pe_int (pv 2))) pa_nil)) (by rfl))
  (pss_cons (ps_set (i := 6) nd rfl (Or.inl rfl) (C8.pe_c c_law_take hr (by decide) (by rfl) (pa_cons (pv 0) (pa_cons (pe_callB call_len_seq (by rfl) T.nlen (by decide +kernel) (pa_cons (pv 7) pa_nil)) pa_nil))))
  (pss_one (ps_set (i := 4) nd rfl (Or.inl rfl) (pe_op op_cat (pe_op op_cat (pv 4) (pe_slice sl_list (pv 7) (po_some (pv 6)) po_none)) (pe_revL (pe_slice sl_list (pv 7) po_none (po_some (pv 6))))))))) pss_nil)))
  (pss_cons (ps_set (i := 3) nd rfl (Or.inl rfl) (C8.pe_mk c_Forest hr (by decide) (by rfl) (pa_cons (pv 1) pa_nil)))
  (pss_one (ps_ret (pe_and (pe_cmpR (op_eqO m_eq hr (by decide)) (pv 3) (C8.pe_mk c_Forest hr (by decide) (by rfl) (pa_cons (pv 4) pa_nil)) (nomark _)) (pe_and (pe_cmpR op_eq (C8.pe_mt0 m_moved hr (by decide) (pv 3)) (C8.pe_c c_cost_of hr (by decide) (by rfl) (pa_cons (pe_callB call_len_seq (by rfl) T.nlen (by decide +kernel) (pa_cons (pv 1) pa_nil)) pa_nil)) (nomark _)) (pe_one (pe_cmpR op_eq (C8.pe_mt0 m_moved hr (by decide) (C8.pe_mk c_Forest hr (by decide) (by rfl) (pa_cons (pv 4) pa_nil))) (C8.pe_mt0 m_moved hr (by decide) (pv 3)) (nomark _)))))))))), ?_⟩
    repeat walk_at "w"
    refine ⟨sz100 (Nat.le_of_ble_eq_true rfl), fun o0 hpo0 => ?_⟩; generalize eH1 : upd H o0 _ = H1; obtain ⟨g1, h1⟩ := new_facts TT hpo0 eH1; clear eH1
    repeat walk_at "w"
    with_reducible refine w_forI ?_
    refine w_iRng3 ?_
    repeat walk_at "w"
    refine ⟨_, _, _, 7, rfl, RgC.neg (i := 6) (j := -1) (by omega) (by omega) (by omega) (by omega), ?_⟩
    refine for_rangeC (n := 7) (fun i σ' H' => ∃ (v2 v6 v7 : Option V) (o : Addr) (os : List V) (qs : List Pt), σ' = [some (.ref a), some (.ref l), v2, none, some (.ref o), some (.int (((ps.length / 2 ^ (7 - i)) * 2 ^ (7 - i) : Nat))), v6, v7] ∧ Gr TT (fun c => c = a) H H' ∧ Src H' a ∧ H' o = some (.lst os) ∧ PtsV H' os qs ∧ Bp (7 - i) (ps.take ((ps.length / 2 ^ (7 - i)) * 2 ^ (7 - i))) qs)
      ⟨none, none, none, o0, [], [], ?_, g1.of0, hs.gr g1, h1, .nil, ?_⟩ ?_ ?_
    · rw [Nat.sub_zero, Nat.div_eq_of_lt (show ps.length < 2 ^ 7 by show _ < 128; omega), Nat.zero_mul]
      rfl
    · rw [Nat.sub_zero, Nat.div_eq_of_lt (show ps.length < 2 ^ 7 by show _ < 128; omega), Nat.zero_mul, List.take_zero]
      exact .nil _
    · rintro i σ' H' hi ⟨v2, v6, v7, o, os, qs, rfl, g, hs', ho, hos, hbp⟩
      have ev : (6 : Int) + (i : Nat) * (-1) = ((6 - i : Nat) : Int) := by omega
      rw [ev]
      have e1 : 7 - i = (6 - i) + 1 := by omega
      have e6 : 7 - (i + 1) = 6 - i := by omega
      rw [e6]
      rw [e1] at hbp ⊢
      generalize hk : 6 - i = k1 at hbp ⊢
      have hk6 : k1 ≤ 6 := by omega
      have hb : (ps.length / 2 ^ k1) * 2 ^ k1 = (ps.length / 2 ^ (k1 + 1)) * 2 ^ (k1 + 1) + ((ps.length / 2 ^ k1) % 2) * 2 ^ k1 := by
        rw [Nat.pow_succ, ← Nat.div_div_eq_div_mul]
        generalize ps.length / 2 ^ k1 = m
        generalize 2 ^ k1 = q
        have := Nat.div_add_mod m 2
        have e2 : m * q = (2 * (m / 2) + m % 2) * q := by rw [this]
        rw [e2, Nat.add_mul, Nat.mul_comm q 2, ← Nat.mul_assoc, Nat.mul_comm (m / 2) 2]
      have hle : (ps.length / 2 ^ k1) * 2 ^ k1 ≤ ps.length := Nat.div_mul_le_self _ _
      have hl' := g.keepL hl nal.symm
      refine w_gname ?_
      repeat walk_at "w"
      refine ⟨l, xs, rfl, .inl (SqL.of hl'), ?_⟩
      repeat walk_at "w"
      refine ⟨_, k1, rfl, rfl, ?_⟩
      repeat walk_at "w"
      refine ⟨ps.length / 2 ^ k1, ?_, rfl, ?_⟩
      · rw [hxl, Int.natCast_ediv, Int.natCast_pow]
        rfl
      repeat walk_at "w"
      refine ⟨rfl, ?_⟩
      repeat walk_at "w"
      rcases Nat.mod_two_eq_zero_or_one (ps.length / 2 ^ k1) with h01 | h01
      · rw [h01, Nat.zero_mul, Nat.add_zero] at hb
        rw [h01, show decide (V.int ((0 : Nat) : Int) = V.int 1) = false from rfl]
        repeat walk_at "w"
        exact ⟨_, _, _, o, os, qs, by rw [hb]; rfl, g, hs', ho, hos, by rw [hb]; exact .skip hbp⟩
      · rw [h01, Nat.one_mul] at hb
        rw [h01, show decide (V.int ((1 : Nat) : Int) = V.int 1) = true from rfl]
        repeat walk_at "w"
        have es : (1 : Int) * 2 ^ ((k1 : Nat) : Int).toNat = ((2 ^ k1 : Nat) : Int) := by rw [Int.toNat_natCast, Int.natCast_pow, Int.one_mul]; rfl
        rw [hb] at hle ⊢
        generalize hB : ps.length / 2 ^ (k1 + 1) * 2 ^ (k1 + 1) = B at hbp hle ⊢
        have hpow : 0 < 2 ^ k1 := Nat.pow_pos (by decide)
        have hpow2 : 2 ^ k1 ≤ 2 ^ 6 := Nat.pow_le_pow_right (by decide) hk6
        refine ⟨_, rfl, ?_⟩
        repeat walk_at "w"
        refine w_I ⟨by omega, by omega, by decide⟩ ?_
        rw [es]
        repeat walk_at "w"
        refine ⟨_, rfl, ?_⟩
        refine w_rslL (SqL.of hl') ?_
        rw [show ((B : Nat) : Int) + ((2 ^ k1 : Nat) : Int) = ((B + 2 ^ k1 : Nat) : Int) by omega, cut_mid _ _ (by omega), Nat.add_sub_cancel_left]
        intro bk hpbk; generalize eH2 : upd H' bk _ = H2; obtain ⟨g2, h2⟩ := new_facts TT hpbk eH2; clear eH2
        have hbk : PtsV H2 ((xs.drop B).take (2 ^ k1)) ((ps.drop B).take (2 ^ k1)) := Al.take _ (Al.drop _ (Al.imp hps fun _ _ z => (z.gr g).gr g2))
        have hbl : ((ps.drop B).take (2 ^ k1)).length = 2 ^ k1 := by
          rw [List.length_take, List.length_drop]
          omega
        have etake : ps.take (B + 2 ^ k1) = ps.take B ++ (ps.drop B).take (2 ^ k1) := List.take_add ..
        generalize (ps.drop B).take (2 ^ k1) = bs at hbk hbl etake
        generalize (xs.drop B).take (2 ^ k1) = ys at h2 hbk
        have hyl := hbk.len
        have s2 := hs'.gr g2
        have nbk : a ≠ bk := src_pts s2 h2 hbk
        have nao : a ≠ o := src_pts hs' ho hos
        repeat walk_at "w"
        refine w_I ⟨by omega, by omega, by decide⟩ ?_
        rw [es]
        repeat walk_at "w"
        refine ⟨bk, ys, rfl, .inl (SqL.of h2), ?_⟩
        repeat walk_at "w"
        refine ⟨a, _, rfl, s2, by omega, by omega, fun c H3 c0 c1 g3 s3 => ?_⟩
        obtain ⟨c, rfl⟩ := Int.eq_ofNat_of_zero_le c0
        have h3 := g3.keepL h2 nbk.symm
        have ho3 := g3.keepL (g2.keepL0 ho) nao.symm
        repeat walk_at "w"
        refine ⟨_, rfl, ?_⟩
        repeat walk_at "w"
        refine w_rslL (SqL.of h3) ?_
        rw [cut_from]
        intro b1 hpb1; generalize eH4 : upd H3 b1 _ = H4; obtain ⟨g4, h4⟩ := new_facts TT hpb1 eH4; clear eH4
        have hol := hos.len
        have hql := hbp.perm.length_eq
        have htl : (ps.take B).length ≤ ps.length := (List.take_sublist ..).length_le
        refine ⟨o, b1, _, _, rfl, rfl, g4.keepL0 ho3, h4, sz100 (by rw [List.length_drop]; omega), fun o5 ho5 => ?_⟩
        generalize e5 : upd H4 o5 _ = H5
        obtain ⟨g5, h5⟩ := new_facts TT ho5 e5
        clear e5
        repeat walk_at "w"
        refine ⟨_, rfl, ?_⟩
        repeat walk_at "w"
        refine w_rslL (SqL.of ((g4.trans g5).keepL0 h3)) ?_
        rw [cut_to]
        intro b2 hpb2; generalize eH6 : upd H5 b2 _ = H6; obtain ⟨g6, h6⟩ := new_facts TT hpb2 eH6; clear eH6
        refine ⟨b2, _, rfl, SqL.of h6, ?_⟩
        intro b3 hpb3; generalize eH7 : upd H6 b3 _ = H7; obtain ⟨g7, h7⟩ := new_facts TT hpb3 eH7; clear eH7
        refine ⟨o5, b3, _, _, rfl, rfl, (g6.trans g7).keepL0 h5, h7, sz100 (by rw [List.length_append, List.length_drop, List.length_reverse, List.length_take]; omega), fun o8 ho8 => ?_⟩
        generalize e8 : upd H7 o8 _ = H8
        obtain ⟨g8, h8⟩ := new_facts TT ho8 e8
        clear e8
        repeat walk_at "w"
        have g48 := g4.trans (g5.trans (g6.trans (g7.trans g8)))
        have hos8 : PtsV H8 os qs := Al.imp hos fun _ _ z => ((z.gr g2).gr g3).gr g48
        have hbk8 : PtsV H8 ys bs := Al.imp hbk fun _ _ z => (z.gr g3).gr g48
        refine ⟨_, _, _, o8, _, (qs ++ bs.drop c) ++ (bs.take c).reverse, by rw [show ((B : Nat) : Int) + ((2 ^ k1 : Nat) : Int) = ((B + 2 ^ k1 : Nat) : Int) by omega]; rfl, ((g.trans g2.of0).trans g3).trans g48.of0, s3.gr g48, h8, Al.app (Al.app hos8 (Al.drop _ hbk8)) (Al.rev (Al.take _ hbk8)), ?_⟩
        rw [etake, List.append_assoc]
        refine .step hbp hbl ?_
        exact ((List.Perm.refl _).append (List.reverse_perm _)).trans (List.perm_append_comm.trans (by rw [List.take_append_drop]))
    · rintro σ' H' ⟨v2, v6, v7, o, os, qs, rfl, g, hs', ho, hos, hbp⟩
      have hbp : Bp 0 (ps.take (ps.length / 1 * 1)) qs := hbp
      rw [Nat.div_one, Nat.mul_one, List.take_of_length_le (Nat.le_refl _)] at hbp
      have hqp := hbp.perm
      have hql := hqp.length_eq
      have hl' := g.keepL hl nal.symm
      have hps' : PtsV H' xs ps := Al.imp hps fun _ _ z => z.gr g
      repeat walk_at "w"
      refine w_forest hl' hps' hnd hok (by omega) (g.tb tabs) fun x dx H3 pa ka pl g3 hf hrep htop x0 pa0 ka0 => ?_
      repeat walk_at "w"
      refine w_forest (g3.keepL0 ho) (Al.imp hos fun _ _ z => z.gr g3) (hqp.symm.nodup hnd) (fun p hp => hok p (hqp.mem_iff.mp hp)) (by omega) (g3.tb (g.tb tabs)) fun y dy H4 pb kb plb g4 hfy hrepb htopb _ _ _ => ?_
      have hpe : plb = pl := Rep.unique hrepb (hbp.rep hrep) htopb htop
      subst hpe
      have hf4 := hf.gr0 g4
      refine ⟨x, y, dx, dy, _, _, rfl, rfl, hf4.ob, hfy.ob, ?_⟩
      have nf : ∀ rs : List Pt, rs.Nodup → (keys (fresh rs)).Nodup := fun rs h => by rw [keys_fresh]; exact h
      have lf : ∀ rs : List Pt, (fresh rs).length = rs.length := fun rs => List.length_map ..
      have l1 := lf ps
      have l2 := lf qs
      refine ⟨x, y, dx, pa, ka, _, plb, _, dy, pb, kb, _, _, rfl, hf4, hfy, nf _ hnd, by omega, nf _ (hqp.symm.nodup hnd), by omega, by rw [gone_fresh, gone_fresh], fun t ht => by have := wf_ht (hrep.wf hnd (by omega)) ht; omega, fun H5 g5 => ⟨true, rfl, ?_⟩⟩
      have g35 := g3.trans (g4.trans g5)
      have hf5 := hf4.gr0 g5
      repeat walk_at "w"
      refine ⟨x, dx, _, rfl, hf5.ob, rfl, ?_⟩
      repeat walk_at "w"
      refine ⟨x, dx, pa, ka, _, plb, _, rfl, hf5, ?_⟩
      repeat walk_at "w"
      refine ⟨l, xs, rfl, .inl (SqL.of (g35.keepL0 hl')), ?_⟩
      repeat walk_at "w"
      refine ⟨xs.length, rfl, by omega, fun H6 g6 => ?_⟩
      rw [hxl]
      refine w_eq rfl ?_
      rw [decide_eq_true (rfl : V.int ((tsum ps.length : Nat) : Int) = V.int ((tsum ps.length : Nat) : Int))]
      repeat walk_at "w"
      have g36 := g35.trans g6
      refine w_forest (g36.keepL0 ho) (Al.imp hos fun _ _ z => z.gr g36) (hqp.symm.nodup hnd) (fun p hp => hok p (hqp.mem_iff.mp hp)) (by omega) (g36.tb (g.tb tabs)) fun z dz H7 pc kc plc g7 hfz _ _ _ _ _ => ?_
      repeat walk_at "w"
      refine ⟨z, dz, _, rfl, hfz.ob, rfl, ?_⟩
      repeat walk_at "w"
      refine ⟨z, dz, pc, kc, _, plc, _, rfl, hfz, ?_⟩
      have hf7 := (hf5.gr0 g6).gr0 g7
      repeat walk_at "w"
      refine ⟨x, dx, _, rfl, hf7.ob, rfl, ?_⟩
      repeat walk_at "w"
      refine ⟨x, dx, pa, ka, _, plb, _, rfl, hf7, ?_⟩
      rw [hql]
      refine w_eq rfl ?_
      rw [decide_eq_true (rfl : V.int ((tsum ps.length : Nat) : Int) = V.int ((tsum ps.length : Nat) : Int))]
      repeat walk_at "w"
      exact k H7 (g.trans (g36.trans g7).of0) (hs'.gr (g36.trans g7))
end
end Wd
end
section
/-! The law: moved and stretched. -/
namespace Wd
open PySem PySem.Spec PyProof.Rows L2 LamX NdefX
local macro_rules | `(tactic| walk_at "w") => `(tactic| first
  | with_reducible refine w_var (by with_unfolding_all rfl) ?_
  | with_reducible refine w_aug (by with_unfolding_all rfl) ?_
  | with_reducible refine w_op ?_
  | with_reducible refine w_c ?_
  | with_reducible refine w_I0 ?_
  | with_reducible refine w_cons ?_
  | with_reducible refine w_nil ?_
  | with_reducible refine w_call ?_
  | with_reducible refine w_cb ?_
  | with_reducible refine w_seq ?_
  | with_reducible refine w_ret ?_
  | with_reducible refine w_set ?_
  | with_reducible refine w_if ?_
  | with_reducible refine w_test ?_
  | with_reducible refine w_B ?_
  | with_reducible refine w_k ?_
  | with_reducible refine w_and ?_
  | with_reducible refine w_or ?_
  | with_reducible refine w_not ?_
  | with_reducible refine w_andV ?_
  | with_reducible refine w_orV ?_
  | with_reducible refine w_notV ?_
  | with_reducible refine w_ifE ?_
  | with_reducible refine w_chain ?_
  | with_reducible refine w_un ?_
  | with_reducible refine w_U ?_
  | with_reducible refine w_isN ?_
  | with_reducible refine w_notN ?_
  | with_reducible refine w_T ?_
  | with_reducible refine w_F ?_
  | with_reducible refine w_next ?_
  | with_reducible refine w_drop ?_
  | with_reducible refine w_par2 ?_
  | with_reducible refine w_par3 ?_
  | with_reducible refine w_tup ?_
  | with_reducible refine w_lst ?_
  | with_reducible refine w_bm ?_
  | with_reducible refine w_bm0 ?_
  | with_reducible refine w_gname ?_
  | with_reducible refine w_gcons ?_
  | with_reducible refine w_lcI ?_
  | with_reducible refine w_lc2I ?_
  | with_reducible refine w_iTup ?_
  | with_reducible refine w_iList ?_
  | with_reducible refine w_yes ?_
  | with_reducible refine w_din ?_
  | with_reducible refine w_dput ?_
  | with_reducible refine w_dget2 ?_
  | with_reducible refine w_iEnum ?_
  | with_reducible refine w_sl ?_
  | with_reducible refine w_noP ?_
  | with_reducible refine w_part ?_
  | with_reducible refine w_asg ?_
  | with_reducible refine w_ip ?_
  | with_reducible refine w_cont ?_
  | with_reducible refine w_callD ?_
  | with_reducible refine w_thru ?_
  | with_reducible refine w_star ?_
  | with_reducible refine w_bits ?_
  | with_reducible refine w_revL ?_
  | with_reducible refine w_fld ?_
  | with_reducible refine w_dget ?_
  | with_reducible refine w_keys ?_
  | with_reducible refine w_gsub ?_
  | with_reducible refine w_fldaug ?_
  | with_reducible refine w_sfld ?_
  | with_reducible refine w_meth ?_
  | with_reducible refine w_make ?_
  | with_reducible refine w_ite (by with_unfolding_all rfl) ?_ | with_reducible refine w_itf (by with_unfolding_all rfl) ?_)
abbrev s_law_stretched_right : Stmt := topS 66
abbrev N_law_stretched_right : List Str := ["_law_source_here", "_law_spots_here", "_law_change", "_law_near", "_law_ends", "_law_a", "_law_b", "_law_grow", "_law_one", "_law_two", "_law_zone", "_law_found", "_law_seen", "_law_spot", "_law_at", "_law_end_here"]
theorem sc_law_stretched_right : FnScope N_law_stretched_right ["_law_source_here", "_law_spots_here"] (C8.fnScope s_law_stretched_right) := ⟨rfl, rfl, rfl, by decide +kernel, rfl, by decide +kernel, by decide +kernel⟩
def lamParts : Expr → Option (Arguments × Expr × Scope)
  | .Lambda p b s _ => some (p, b, s)
  | _ => none
def stLam : Stmt → Option (Arguments × Expr × Scope)
  | .Assign _ e _ => lamParts e
  | _ => none
def chO : Option (Arguments × Expr × Scope) := ((C8.fnBody s_law_stretched_right)[1]?).bind stLam
theorem chO_some : chO.isSome = true := by decide +kernel
abbrev chP : Arguments := (chO.get chO_some).1
abbrev chB : Expr := (chO.get chO_some).2.1
abbrev chS : Scope := (chO.get chO_some).2.2
abbrev chFr : List Str := ["_law_a", "_law_b", "_law_grow"]
abbrev chJs : List Nat := [5, 6, 7]
def spChange (TT : List (Addr × Str)) : List (Option V) → V → Hp → VK → Prop := fun ws v H Q => ∃ (a b g : Int) (t : Addr) (x y : Int), ws = [some (.int a), some (.int b), some (.int g)] ∧ v = .ref t ∧ H t = some (.tup [.int x, .int y]) ∧ g.natAbs < 2 ^ 60 ∧ ∀ p H', Gr TT NoS H H' → H p = none → H' p = some (.tup [.int (a + g * x), .int (b + g * y)]) → Q (.ref p) H'
section
variable {X : Cx}
theorem chOk {TT : List (Addr × Str)} (f c' : Addr) : LOk X.prog X.w X.K X.mg X.base 1 f (lamF X chP chS c') chB chFr (spChange TT) := by
  refine lok_of (N := ["_law_spot", "_law_a", "_law_b", "_law_grow"]) (x := "_law_spot") (show NScope _ _ _ chS from nscope_by (by decide +kernel)) (fun pm ctv u => by rfl) fun A outer s H v ws Q hr hl q => ?_
  refine ⟨_, (show PE _ chB _ from (pe_tup (pa_cons (pe_op op_add (pv 1) (pe_op op_mul (pv 3) (pe_ix ix_tup (pv 0) pe_int (fun _ _ => rfl)))) (pa_cons (pe_op op_add (pv 2) (pe_op op_mul (pv 3) (pe_ix ix_tup (pv 0) pe_int (fun _ _ => rfl)))) pa_nil)))), ?_⟩
  obtain ⟨a, b, g, t, x, y, rfl, rfl, ht, hg, k⟩ := q
  have e : startF ["_law_spot", "_law_a", "_law_b", "_law_grow"] [V.ref t] [some (.int a), some (.int b), some (.int g)] = [some (.ref t), some (.int a), some (.int b), some (.int g)] := rfl
  rw [e]
  repeat walk_at "w"
  refine w_ixT (SqT.of ht) (by rfl) ?_
  repeat walk_at "w"
  refine w_I (.inl ⟨by omega, by omega⟩) ?_
  repeat walk_at "w"
  refine w_ixT (SqT.of ht) (by rfl) ?_
  repeat walk_at "w"
  refine w_I (.inl ⟨by omega, by omega⟩) ?_
  repeat walk_at "w"
  refine ⟨sz100 (Nat.le_of_ble_eq_true rfl), fun p hpp => ?_⟩; generalize eH1 : upd H p _ = H1; obtain ⟨g1, h1⟩ := new_facts TT hpp eH1; clear eH1
  exact k p H1 g1 hpp h1
end
abbrev chX (P : Program) (w : World) (K : PySem.W.Frag) (mg : Str → Option Value) (base : Heap) (f c : Addr) (A : Around) (outer : List Env) (s : Shared) (H : Hp) (E : XK) : Cx := (cxOf C8.CX0 P w K mg base N_law_stretched_right "_law_stretched_right" (C8.fnScope s_law_stretched_right) f (.ref c) A outer s H E).nox
theorem Aff.rep (c : Aff) : ∀ {i : Nat} {pl : List Tree} {ps : List Pt}, Rep i pl ps → Rep i (pl.map c.tree) (ps.map c.pt)
  | _, [], ps, h => by
    have h : ps = [] := h
    rw [h]
    rfl
  | i, t :: r, ps, h => by
    obtain ⟨qs, bs, e, h1, h2⟩ := h
    refine ⟨qs.map c.pt, bs.map c.pt, by rw [e, List.map_append], Aff.rep c h1, ?_⟩
    rcases h2 with ⟨rfl, rfl⟩ | ⟨n, hl, cs, hp, rfl⟩
    · exact .inl ⟨rfl, rfl⟩
    · refine .inr ⟨fun z => n ?_, by rw [List.length_map]; exact hl, cs.map c.pt, hp.map _, (c.bt 6 false cs).symm⟩
      cases e2 : bt6 cs with
      | nil => rfl
      | node p a b => rw [e2] at z; cases z
theorem Aff.top (c : Aff) : ∀ {pl : List Tree}, Top pl → Top (pl.map c.tree)
  | [], _ => trivial
  | [t], h => by
    cases t with
    | nil => exact absurd rfl h
    | node p a b => exact fun z => (by cases z)
  | _ :: t :: r, h => Aff.top c (pl := t :: r) h
theorem fresh_alive {ps : List Pt} (nd : ps.Nodup) {p : Pt} (h : p ∈ ps) : isAlive (fresh ps) p = true := by
  unfold isAlive
  have e : getB (fresh ps) p = some true := getB_of (by rw [keys_fresh]; exact nd) (List.mem_map.mpr ⟨p, h, rfl⟩)
  rw [e]
  rfl
theorem fndF_fresh {rc : Rect} {ps : List Pt} (nd : ps.Nodup) : ∀ {pl : List Tree}, (∀ p ∈ pts pl, p ∈ ps) → fndF rc (fresh ps) pl = pl.flatMap (fnd rc false)
  | [], _ => rfl
  | t :: r, h => by
    show (fnd rc false t).filter (isAlive (fresh ps)) ++ fndF rc (fresh ps) r = fnd rc false t ++ r.flatMap (fnd rc false)
    rw [fndF_fresh nd fun p hp => h p (List.mem_append_right _ hp), List.filter_eq_self.mpr fun p hp => fresh_alive nd (h p (List.mem_append_left _ (fnd_sub rc t _ p hp)))]
theorem Aff.fndF (c : Aff) {rc : Rect} {ps : List Pt} {pl : List Tree} (nd : ps.Nodup) (h : ∀ p ∈ pts pl, p ∈ ps) : Wd.fndF (c.rect rc) (fresh (ps.map c.pt)) (pl.map c.tree) = (Wd.fndF rc (fresh ps) pl).map c.pt := by
  have nd2 : (ps.map c.pt).Nodup := nd.map _ fun x y hxy e => hxy (c.inj e)
  rw [fndF_fresh nd h, fndF_fresh nd2 fun p hp => ?_]
  · induction pl with
    | nil => rfl
    | cons t r ih =>
      show Wd.fnd (c.rect rc) false (c.tree t) ++ (r.map c.tree).flatMap (Wd.fnd (c.rect rc) false) = (Wd.fnd rc false t ++ r.flatMap (Wd.fnd rc false)).map c.pt
      rw [c.fnd, ih fun p hp => h p (List.mem_append_right _ hp), List.map_append]
  · obtain ⟨t', ht', hp⟩ := List.mem_flatMap.mp hp
    obtain ⟨t, ht, rfl⟩ := List.mem_map.mp ht'
    rw [c.rd] at hp
    obtain ⟨q, hq, rfl⟩ := List.mem_map.mp hp
    exact List.mem_map.mpr ⟨q, h q (List.mem_flatMap.mpr ⟨t, ht, hq⟩), rfl⟩
theorem Aff.visF (c : Aff) (rc : Rect) : ∀ pl : List Tree, Wd.visF (c.rect rc) (pl.map c.tree) = (Wd.visF rc pl).map c.pt
  | [] => rfl
  | t :: r => by
    show Wd.vis (c.rect rc) false (c.tree t) ++ Wd.visF (c.rect rc) (r.map c.tree) = (Wd.vis rc false t ++ Wd.visF rc r).map c.pt
    rw [c.vis, Aff.visF c rc r, List.map_append]
def absI (i : Int) : Int := if i < 0 then -i else i
def nearB (p : Pt) : Bool := decide ((if absI p.2 > absI p.1 then absI p.2 else absI p.1) < (10 : Int) ^ (20 : Int).toNat)
theorem end_at (cf : Aff) {rc : Rect} {j : Nat} {v : V} (h : (rcL rc)[j]? = some v) : ∃ (ax : Bool) (e : Option Int), v = oV e ∧ (rcL (cf.rect rc))[j]? = some (oV (cf.end_ ax e)) ∧ ((j : Nat) : Int) % 2 = (if ax then 1 else 0) := by
  match j, h with
  | 0, h => exact ⟨false, rc.1, (Option.some.inj h).symm, rfl, rfl⟩
  | 1, h => exact ⟨true, rc.2.1, (Option.some.inj h).symm, rfl, rfl⟩
  | 2, h => exact ⟨false, rc.2.2.1, (Option.some.inj h).symm, rfl, rfl⟩
  | 3, h => exact ⟨true, rc.2.2.2, (Option.some.inj h).symm, rfl, rfl⟩
  | n + 4, h => cases h
theorem rect_ok (cf : Aff) {rc : Rect} (h : RcOk rc) (a : ∀ (i : Nat) (e : Int), (rcL (cf.rect rc))[i]? = some (V.int e) → absI e ≤ 10 ^ 31) : RcOk (cf.rect rc) := by
  have ek : ∀ (i : Nat) (o : Option Int), (rcL (cf.rect rc))[i]? = some (oV o) → eok o := fun i o ho => by
    cases o with
    | none => trivial
    | some e =>
      have := a i e ho
      unfold absI at this
      exact ⟨by split at this <;> omega, by split at this <;> omega⟩
  have ik : ∀ (ax : Bool) (o u : Option Int), iok o u → iok (cf.end_ ax o) (cf.end_ ax u) := fun ax o u h => by
    cases o with
    | none => trivial
    | some o =>
      cases u with
      | none => trivial
      | some u => exact (cf.le_iff _ _ _).mpr h
  exact ⟨⟨ek 0 _ rfl, ek 2 _ rfl, ik false _ _ h.1.2.2⟩, ek 1 _ rfl, ek 3 _ rfl, ik true _ _ h.2.2.2⟩
theorem near_ok (cf : Aff) {p : Pt} (h1 : -100000000 ≤ cf.a ∧ cf.a < 1000000000) (h2 : 0 ≤ cf.b ∧ cf.b < 1000000000) (h3 : cf.g ≤ 1000000) (h : nearB p = true) : PtOk (cf.pt p) := by
  have e20 : (10 : Int) ^ (20 : Int).toNat = 100000000000000000000 := by decide
  have h := of_decide_eq_true h
  rw [e20] at h
  have b1 : p.1.natAbs < 100000000000000000000 := by
    unfold absI at h
    split at h <;> split at h <;> omega
  have b2 : p.2.natAbs < 100000000000000000000 := by
    unfold absI at h
    split at h <;> split at h <;> omega
  have hp := cf.pos
  have key : ∀ x : Int, x.natAbs < 100000000000000000000 → (cf.g * x).natAbs ≤ 1000000 * 100000000000000000000 := fun x hx => by
    rw [Int.natAbs_mul]
    exact Nat.mul_le_mul (by omega) (by omega)
  have k1 := key _ b1
  have k2 := key _ b2
  have e30 : (10 : Int) ^ 30 = 1000000000000000000000000000000 := by decide
  have c1 : cok (cf.a + cf.g * p.1) = true := by
    unfold cok
    rw [e30, Bool.and_eq_true, decide_eq_true_eq, decide_eq_true_eq]
    generalize cf.g * p.1 = u at k1
    omega
  have c2 : cok (cf.b + cf.g * p.2) = true := by
    unfold cok
    rw [e30, Bool.and_eq_true, decide_eq_true_eq, decide_eq_true_eq]
    generalize cf.g * p.2 = u at k2
    omega
  exact ⟨c1, c2⟩
theorem w_st {R : L2.St → Hp → Prop} {σ σ' : L2.St} {H : Hp} (e : σ = σ') (h : R σ' H) : R σ H := by
  rw [e]
  exact h
theorem shaped_two (ps qs : List Pt) : SeqAt.shaped (.tuple [.list (ps.map ptD), .list (qs.map ptD)]) = true := by
  have h1 := depthAll_le ptD (n := 1) ps fun _ _ => Nat.le_refl _
  have h2 := depthAll_le ptD (n := 1) qs fun _ _ => Nat.le_refl _
  unfold SeqAt.shaped
  rw [show (PyData.tuple [.list (ps.map ptD), .list (qs.map ptD)]).canLay0 = (PyData.canLayAll0 (ps.map ptD) && (PyData.canLayAll0 (qs.map ptD) && true)) from rfl, layAll ptD ps (fun _ _ => rfl), layAll ptD qs (fun _ _ => rfl), decide_eq_true (show (PyData.tuple [.list (ps.map ptD), .list (qs.map ptD)]).depth ≤ 64 from by show max (PyData.depthAll (ps.map ptD) + 1) (max (PyData.depthAll (qs.map ptD) + 1) 0) + 1 ≤ 64; omega)]
  rfl
section
variable {P : Program} {w : World} {K : PySem.W.Frag} {mg : Str → Option Value} {base : Heap} {aE C : Addr}
theorem cal_law_stretched {TT : List (Addr × Str)} {c : Addr} {f : Addr} {fd : FuncData} (F : C8.Def K mg "_law_stretched_right" s_law_stretched_right f fd) (hc : fd.code = .ref c) (b : Binds K fd ["_law_source_here", "_law_spots_here"] []) (T : Txt K mg aE C) (TF : TxF K C) (mk : Mkr base mg TT c (Str.ofString "_law_stretched_right" ++ ".<locals>."))
    (c_law_take : C8.Cal P w K mg base 2 "_law_take" (spLTake TT) []) (c_Forest : C8.Mak P w K mg base 14 "Forest" C (spInit C TT) []) (c_law_area : C8.Cal P w K mg base 5 "_law_area" (spLArea TT) []) (m_ranged : C8.Met P w K mg base 6 C "ranged" (spRanged C TT) []) : C8.Cal P w K mg base 16 "_law_stretched_right" (spLDeeds C TT) [] := by
  refine cal0M F hc b .nil sc_law_stretched_right (fun vs H Q E h => ?_) (fun A outer s H vs Q E hr h => ?_)
  · obtain ⟨a, l, xs, ps, rfl, _⟩ := h
    rfl
  · obtain ⟨a, l, xs, ps, rfl, hs, hl, hps, hnd, hok, hlen, tabs, k⟩ := h
    have nd := sc_law_stretched_right.nd
    have nal := src_pts hs hl hps
    have hxl := hps.len
    have big : (2 : Int) ^ 200 > 10 ^ 40 := by decide +kernel
    obtain ⟨P', tb, tm, tu⟩ := mk.ex
    refine ⟨_, (pss_cons (ps_asg (pe_tup (pa_cons (pe_op op_sub (C8.pe_c c_law_take hr (by decide) (by rfl) (pa_cons (pv 0) (pa_cons (pe_op op_pow pe_int pe_int) pa_nil))) (pe_op op_pow pe_int pe_int)) (pa_cons (C8.pe_c c_law_take hr (by decide) (by rfl) (pa_cons (pv 0) (pa_cons (pe_op op_pow pe_int pe_int) pa_nil))) (pa_cons (pe_op op_add pe_int (C8.pe_c c_law_take hr (by decide) (by rfl) (pa_cons (pv 0) (pa_cons (pe_op op_pow pe_int pe_int) pa_nil)))) pa_nil)))) (pg_tup rfl (pgs_cons (pg_name (i := 5) nd rfl (Or.inr rfl)) (pgs_cons (pg_name (i := 6) nd rfl (Or.inr rfl)) (pgs_cons (pg_name (i := 7) nd rfl (Or.inr rfl)) pgs_nil)))))
  (pss_cons (ps_set (i := 2) nd rfl (Or.inr rfl) (pe_lamE (fr := chFr) tb rfl tm tu (by rfl) (show ndefB (C8.fnScope s_law_stretched_right) _ _ = true from by decide +kernel)))
  (pss_cons (ps_setLc (i := 3) (own := [("_law_spot", 13)]) (tt := tTest (tOp (rI0 fun i j => .bl (decide (i < j))) (tCB (fun xs H Q => ∃ i j, xs = [.int i, .int j] ∧ Q (.int (if j > i then j else i)) H) (tCons (tCB (fun xs H Q => ∃ i, xs = [.int i] ∧ Q (.int (if i < 0 then -i else i)) H) (tCons (tOp (rIxT K) (tVar 13) (tC (.int 0))) tNil)) (tCons (tCB (fun xs H Q => ∃ i, xs = [.int i] ∧ Q (.int (if i < 0 then -i else i)) H) (tCons (tOp (rIxT K) (tVar 13) (tC (.int 1))) tNil)) tNil))) (tOp (rI CPow fun i j => .int (i ^ j.toNat)) (tC (.int 10)) (tC (.int 20))))) rfl nd rfl rfl (sw_true rfl rfl rfl (by decide +kernel)) (pi_list (pv 1)) (blkOk_by (own := [("_law_spot", 13)]) (N := N_law_stretched_right) (sc := (C8.fnScope s_law_stretched_right)) (by decide +kernel)) (fun _ _ _ _ _ => (pg_name (i := 13) nd rfl (Or.inl rfl))) (fun _ _ _ _ _ => (L2.pts_one (pt_cmpR op_lt (pe_callB (call_max2 rfl) (by rfl) T.nmax (by decide +kernel) (pa_cons (pe_callB call_abs (by rfl) T.nabs (by decide +kernel) (pa_cons (pe_ix ix_tup (pv 13) pe_int (fun _ _ => rfl)) pa_nil)) (pa_cons (pe_callB call_abs (by rfl) T.nabs (by decide +kernel) (pa_cons (pe_ix ix_tup (pv 13) pe_int (fun _ _ => rfl)) pa_nil)) pa_nil))) (pe_op op_pow pe_int pe_int) (nomark _)))) (fun _ _ _ _ _ => (pv 13)))
  (pss_cons (ps_par3 (i := 8) (j := 9) (l := 10) rfl nd rfl rfl rfl (by decide) (by decide) (by decide) rfl rfl rfl (pa_cons (C8.pe_mk c_Forest hr (by decide) (by rfl) (pa_cons (pv 3) pa_nil)) (pa_cons (C8.pe_mk c_Forest hr (by decide) (by rfl) (pa_cons (pe_lcT (own := [("_law_spot", 13)]) (te := fun sg0 => tCallL (lamF (chX P w K mg base f c A outer s H E) chP chS) chB 2 (chJs.map (slotAt sg0)) (spChange TT) (tCons (tVar 13) tNil)) rfl nd (pi_list (pv 3)) (blkOk_by (own := [("_law_spot", 13)]) (N := N_law_stretched_right) (sc := (C8.fnScope s_law_stretched_right)) (by decide +kernel)) (fun _ _ _ _ _ => (pg_name (i := 13) nd rfl (Or.inl rfl))) (fun _ _ _ _ _ => L2.pts_nil) (fun pn0 sg0 s0 H0 _ _ fp0 I0 f0 => (pe_callL (i := 2) (mk := lamF (chX P w K mg base f c A outer s H E) chP chS) (body := chB) (fr := chFr) (x := "_law_change") (ws := chJs.map (slotAt sg0)) (sp := spChange TT) (k := 1) (fun f2 c2 => chOk (X := chX P w K mg base f c A outer s H E) f2 c2) (fun _ _ _ _ c2 I2 => blk_cells I0 f0 (Caps.made (fr := chFr) (js := chJs) I0.ok (ndef_free (show ndefB (C8.fnScope s_law_stretched_right) chS chFr = true from by decide +kernel)) (ndef_fr (show ndefB (C8.fnScope s_law_stretched_right) chS chFr = true from by decide +kernel)) (by rfl)) (fun _ _ _ => rfl) I2) hr (by decide) (by rfl) (by first | exact Or.inl rfl | exact Or.inr (Or.inl rfl) | exact Or.inr (Or.inr rfl)) (pa_cons (pv 13) pa_nil)))) pa_nil)) (pa_cons (C8.pe_c c_law_area hr (by decide) (by rfl) (pa_cons (pv 0) (pa_cons (pv 3) pa_nil))) pa_nil))) (by rfl))
  (pss_cons (ps_setLcT (i := 4) (own := [("_law_at", 14), ("_law_end_here", 15)]) (g := gTup K 2 (gCons (gName 14) (gCons (gName 15) gNil))) (te := fun sg0 => tIf (tTest (tOp rIsN (tVar 15) (tC .non))) (tC .non) (tOp (rIxT K) (tCallL (lamF (chX P w K mg base f c A outer s H E) chP chS) chB 2 (chJs.map (slotAt sg0)) (spChange TT) (tCons (tTup (tCons (tVar 15) (tCons (tVar 15) tNil))) tNil)) (tOp (rI (fun _ j => 0 < j) fun i j => .int (i % j)) (tCB (fun xs H Q => (∃ i, xs = [.int i] ∧ Q (.int i) H) ∨ ∃ k, xs = [.bl k] ∧ Q (.int (if k then 1 else 0)) H) (tCons (tVar 14) tNil)) (tC (.int 2))))) rfl nd rfl rfl (sw_true rfl rfl rfl (by decide +kernel)) (pi_enumT (by rfl) T.nenumerate (pa_cons (pv 10) pa_nil)) (blkOk_by (own := [("_law_at", 14), ("_law_end_here", 15)]) (N := N_law_stretched_right) (sc := (C8.fnScope s_law_stretched_right)) (by decide +kernel)) (fun _ _ _ _ _ => (pg_tup rfl (pgs_cons (pg_name (i := 14) nd rfl (Or.inl rfl)) (pgs_cons (pg_name (i := 15) nd rfl (Or.inl rfl)) pgs_nil)))) (fun _ _ _ _ _ => L2.pts_nil) (fun pn0 sg0 s0 H0 _ _ fp0 I0 f0 => (pe_ifExp (pt_cmpR op_isN1 (pv 15) pe_non (nomark _)) pe_non (pe_ix ix_tup (pe_callL (i := 2) (mk := lamF (chX P w K mg base f c A outer s H E) chP chS) (body := chB) (fr := chFr) (x := "_law_change") (ws := chJs.map (slotAt sg0)) (sp := spChange TT) (k := 1) (fun f2 c2 => chOk (X := chX P w K mg base f c A outer s H E) f2 c2) (fun _ _ _ _ c2 I2 => blk_cells I0 f0 (Caps.made (fr := chFr) (js := chJs) I0.ok (ndef_free (show ndefB (C8.fnScope s_law_stretched_right) chS chFr = true from by decide +kernel)) (ndef_fr (show ndefB (C8.fnScope s_law_stretched_right) chS chFr = true from by decide +kernel)) (by rfl)) (fun _ _ _ => rfl) I2) hr (by decide) (by rfl) (by first | exact Or.inl rfl | exact Or.inr (Or.inl rfl) | exact Or.inr (Or.inr rfl)) (pa_cons (pe_tup (pa_cons (pv 15) (pa_cons (pv 15) pa_nil))) pa_nil)) (pe_op op_mod (pe_callTy call_int1 (by rfl) T.nint (by decide +kernel) (pa_cons (pv 14) pa_nil)) pe_int) (fun _ _ => rfl)))))
  (pss_cons (ps_if (pt_cmpR (op_neNil hr.units0) (pe_lc (own := [("_law_end_here", 15)]) rfl nd (pi_list (pv 4)) (blkOk_by (own := [("_law_end_here", 15)]) (N := N_law_stretched_right) (sc := (C8.fnScope s_law_stretched_right)) (by decide +kernel)) (fun _ _ _ _ _ => (pg_name (i := 15) nd rfl (Or.inl rfl))) (fun _ _ _ _ _ => (L2.pts_one (PW.pt (pw_and (pt_cmpR op_notN1 (pv 15) pe_non (nomark _)) (pw_and1 (pt_cmpR op_gt (pe_callB call_abs (by rfl) T.nabs (by decide +kernel) (pa_cons (pv 15) pa_nil)) (pe_op op_pow pe_int pe_int) (nomark _))))))) (fun _ _ _ _ _ => pe_int)) (pe_lst pa_nil) (nomark _)) (pss_one (ps_ret pe_bl)) pss_nil)
  (pss_cons (ps_asg (C8.pe_mt m_ranged hr (by decide) (pv 8) (pa_cons (pv 10) pa_nil)) (pg_tup rfl (pgs_cons (pg_name (i := 11) nd rfl (Or.inl rfl)) (pgs_cons (pg_name (i := 12) nd rfl (Or.inl rfl)) pgs_nil))))
  (pss_one (ps_ret (pe_cmpR (op_eqD (room64 hr)) (C8.pe_mt m_ranged hr (by decide) (pv 9) (pa_cons (pe_callTy call_tuple_of (by rfl) T.ntuple (by decide +kernel) (pa_cons (pv 4) pa_nil)) pa_nil)) (pe_tup (pa_cons (pe_lcT (own := [("_law_spot", 13)]) (te := fun sg0 => tCallL (lamF (chX P w K mg base f c A outer s H E) chP chS) chB 2 (chJs.map (slotAt sg0)) (spChange TT) (tCons (tVar 13) tNil)) rfl nd (pi_list (pv 11)) (blkOk_by (own := [("_law_spot", 13)]) (N := N_law_stretched_right) (sc := (C8.fnScope s_law_stretched_right)) (by decide +kernel)) (fun _ _ _ _ _ => (pg_name (i := 13) nd rfl (Or.inl rfl))) (fun _ _ _ _ _ => L2.pts_nil) (fun pn0 sg0 s0 H0 _ _ fp0 I0 f0 => (pe_callL (i := 2) (mk := lamF (chX P w K mg base f c A outer s H E) chP chS) (body := chB) (fr := chFr) (x := "_law_change") (ws := chJs.map (slotAt sg0)) (sp := spChange TT) (k := 1) (fun f2 c2 => chOk (X := chX P w K mg base f c A outer s H E) f2 c2) (fun _ _ _ _ c2 I2 => blk_cells I0 f0 (Caps.made (fr := chFr) (js := chJs) I0.ok (ndef_free (show ndefB (C8.fnScope s_law_stretched_right) chS chFr = true from by decide +kernel)) (ndef_fr (show ndefB (C8.fnScope s_law_stretched_right) chS chFr = true from by decide +kernel)) (by rfl)) (fun _ _ _ => rfl) I2) hr (by decide) (by rfl) (by first | exact Or.inl rfl | exact Or.inr (Or.inl rfl) | exact Or.inr (Or.inr rfl)) (pa_cons (pv 13) pa_nil)))) (pa_cons (pe_lcT (own := [("_law_spot", 13)]) (te := fun sg0 => tCallL (lamF (chX P w K mg base f c A outer s H E) chP chS) chB 2 (chJs.map (slotAt sg0)) (spChange TT) (tCons (tVar 13) tNil)) rfl nd (pi_list (pv 12)) (blkOk_by (own := [("_law_spot", 13)]) (N := N_law_stretched_right) (sc := (C8.fnScope s_law_stretched_right)) (by decide +kernel)) (fun _ _ _ _ _ => (pg_name (i := 13) nd rfl (Or.inl rfl))) (fun _ _ _ _ _ => L2.pts_nil) (fun pn0 sg0 s0 H0 _ _ fp0 I0 f0 => (pe_callL (i := 2) (mk := lamF (chX P w K mg base f c A outer s H E) chP chS) (body := chB) (fr := chFr) (x := "_law_change") (ws := chJs.map (slotAt sg0)) (sp := spChange TT) (k := 1) (fun f2 c2 => chOk (X := chX P w K mg base f c A outer s H E) f2 c2) (fun _ _ _ _ c2 I2 => blk_cells I0 f0 (Caps.made (fr := chFr) (js := chJs) I0.ok (ndef_free (show ndefB (C8.fnScope s_law_stretched_right) chS chFr = true from by decide +kernel)) (ndef_fr (show ndefB (C8.fnScope s_law_stretched_right) chS chFr = true from by decide +kernel)) (by rfl)) (fun _ _ _ => rfl) I2) hr (by decide) (by rfl) (by first | exact Or.inl rfl | exact Or.inr (Or.inl rfl) | exact Or.inr (Or.inr rfl)) (pa_cons (pv 13) pa_nil)))) pa_nil))) (nomark _))))))))))), ?_⟩
    have b9 : (2 : Int) ^ 200 > 1000000000 := by decide +kernel
    have p9 : (10 : Int) ^ (9 : Int).toNat = 1000000000 := by decide
    have p8 : (10 : Int) ^ (8 : Int).toNat = 100000000 := by decide
    have p6 : (10 : Int) ^ (6 : Int).toNat = 1000000 := by decide
    repeat walk_at "w"
    refine w_I ⟨by decide, by decide, by decide⟩ ?_
    rw [p9]
    repeat walk_at "w"
    refine ⟨a, _, rfl, hs, by decide, by omega, fun n1 H1 x0 x1 g1 s1 => ?_⟩
    repeat walk_at "w"
    refine w_I ⟨by decide, by decide, by decide⟩ ?_
    rw [p8]
    repeat walk_at "w"
    refine w_I ⟨by decide, by decide, by decide⟩ ?_
    rw [p9]
    repeat walk_at "w"
    refine ⟨a, _, rfl, s1, by decide, by omega, fun n2 H2 y0 y1 g2 s2 => ?_⟩
    repeat walk_at "w"
    refine w_I ⟨by decide, by decide, by decide⟩ ?_
    rw [p6]
    repeat walk_at "w"
    refine ⟨a, _, rfl, s2, by decide, by omega, fun n3 H3 z0 z1 g3 s3 => ?_⟩
    repeat walk_at "w"
    refine ⟨sz100 (Nat.le_of_ble_eq_true rfl), fun t0 hpt0 => ?_⟩; generalize eH4 : upd H3 t0 _ = H4; obtain ⟨g4, h4⟩ := new_facts TT hpt0 eH4; clear eH4
    refine w_gtup (SqT.of h4) rfl (w_gcons (w_gname (w_gcons (w_gname (w_gcons (w_gname (w_gnil ?_)))))))
    repeat walk_at "w"
    have G4 : Gr TT (fun c => c = a) H H4 := ((g1.trans g2).trans g3).trans g4.of0
    refine ⟨G4.tb tabs, fun fa c' H5 g5 nf hf5 hc5 => ?_⟩
    have G5 : Gr TT (fun c => c = a) H H5 := G4.trans g5.of0
    have s5 := (s3.gr g4).gr g5
    have hl5 := G5.keepL hl nal.symm
    have hps5 : PtsV H5 xs ps := Al.imp hps fun _ _ z => z.gr G5
    repeat walk_at "w"
    refine ⟨l, rfl, ⟨_, SqL.of hl5⟩, fun D hD => ?_⟩
    refine w_lc (L2.walk_list (xs := xs)) TT NoS hD (fun j acc H' => PtsV H' acc ((ps.take j).filter nearB)) .nil (fun j acc H' _ g _ _ => SqL.of (g.keepL0 hl5)) ?_ ?_
    · rintro j y acc Ha Hb hj hal ga hDa hacc ⟨rfl, hy⟩
      obtain ⟨p, hp, hyp⟩ := Al.get hps5 hy
      have hj : j < xs.length := hj
      have e2 : ps.take (j + 1) = ps.take j ++ [p] := by
        rw [List.take_add_one, hp]
        rfl
      obtain ⟨ad, rfl, had⟩ := hyp.gr ga
      refine w_gname ⟨rfl, ?_⟩
      repeat walk_at "w"
      refine w_ixT (SqT.of had) (by rfl) ?_
      repeat walk_at "w"
      refine ⟨_, rfl, ?_⟩
      repeat walk_at "w"
      refine w_ixT (SqT.of had) (by rfl) ?_
      repeat walk_at "w"
      refine ⟨_, rfl, ?_⟩
      repeat walk_at "w"
      refine ⟨_, _, rfl, ?_⟩
      repeat walk_at "w"
      refine w_I ⟨by decide, by decide, by decide⟩ ?_
      repeat walk_at "w"
      show if nearB p = true then _ else _
      have lD : Gr TT (fun b => b = D) Hb (upd Hb D (.lst (acc ++ [.ref ad]))) := Gr.lst hDa
      cases eh : nearB p with
      | false =>
        repeat walk_at "w"
        refine lc_no ga hDa hal ?_
        rw [e2, List.filter_append, show [p].filter nearB = [] by simp [eh], List.append_nil]
        exact hacc
      | true =>
        repeat walk_at "w"
        refine lc_yes ga hD hDa hal (by omega) ?_
        rw [e2, List.filter_append, show [p].filter nearB = [p] by simp [eh]]
        exact Al.app (Al.imp hacc fun _ _ z => z.gr lD) (.cons ((hyp.gr ga).gr lD) .nil)
    rintro acc Ha ga hDa halen hacc
    have hacc : PtsV Ha acc ((ps.take xs.length).filter nearB) := hacc
    rw [hxl, List.take_of_length_le (Nat.le_refl _)] at hacc
    generalize hnr : ps.filter nearB = nr at hacc
    have hnsub : nr.Sublist ps := by rw [← hnr]; exact List.filter_sublist
    have hnn : ∀ p ∈ nr, nearB p = true := fun p hp => by rw [← hnr] at hp; exact (List.mem_filter.mp hp).2
    have hnl := hnsub.length_le
    have hnd2 := hnd.sublist hnsub
    have hok2 : ∀ p ∈ nr, PtOk p := fun p hp => hok p (hnsub.subset hp)
    have Ga : Gr TT (fun c => c = a) H Ha := G5.trans ga.of0
    have sa := s5.gr ga
    have cfx : ∃ cf : Aff, cf.a = n1 - 100000000 ∧ cf.b = n2 ∧ cf.g = 1 + n3 := ⟨⟨n1 - 100000000, n2, 1 + n3, by omega⟩, rfl, rfl, rfl⟩
    obtain ⟨cf, cfa, cfb, cfg⟩ := cfx
    have hok3 : ∀ p ∈ nr.map cf.pt, PtOk p := fun p hp => by
      obtain ⟨q, hq, rfl⟩ := List.mem_map.mp hp
      exact near_ok cf (by omega) (by omega) (by omega) (hnn q hq)
    refine w_st (σ' := [some (.ref a), some (.ref l), some (.ref fa), some (.ref D), none, some (.int (n1 - 100000000)), some (.int n2), some (.int (1 + n3)), none, none, none, none, none, none, none, none]) rfl ?_
    repeat walk_at "w"
    refine w_forest hDa hacc hnd2 hok2 (by omega) (Ga.tb tabs) fun x1 dx1 H6 pa1 ka1 pl1 g6 hf1 hrep1 htop1 _ _ _ => ?_
    repeat walk_at "w"
    have hD6 := g6.keepL0 hDa
    have hacc6 : PtsV H6 acc nr := Al.imp hacc fun _ _ z => z.gr g6
    have hal6 := hacc.len
    refine ⟨D, rfl, ⟨_, SqL.of hD6⟩, fun D2 hD2 => ?_⟩
    have g56 := ga.trans g6
    have hf6 := g56.at_ hf5 (fun z => z) lamO_tbl
    have hc6 := g56.at_ hc5 (fun z => z) codeO_ne
    refine w_lc (L2.walk_list (xs := acc)) TT NoS hD2 (fun j bcc H' => PtsV H' bcc ((nr.take j).map cf.pt)) (by rw [List.take_zero]; exact .nil) (fun j bcc H' _ g _ _ => SqL.of (g.keepL0 hD6)) ?_ ?_
    · rintro j y bcc Hb Hc hj hal gb hDb hbcc ⟨rfl, hy⟩
      obtain ⟨p, hp, hyp⟩ := Al.get hacc6 hy
      have hj : j < acc.length := hj
      obtain ⟨ad, rfl, had⟩ := hyp.gr gb
      refine w_gname ⟨rfl, w_yes (w_T ?_)⟩
      refine ⟨fa, c', rfl, gb.at_ hf6 (fun z => z) lamO_tbl, ?_⟩
      repeat walk_at "w"
      refine ⟨_, rfl, gb.at_ hf6 (fun z => z) lamO_tbl, gb.at_ hc6 (fun z => z) codeO_ne, ?_⟩
      refine ⟨n1 - 100000000, n2, 1 + n3, ad, p.1, p.2, rfl, rfl, had, by omega, fun q Hd gd hq0 hq => ?_⟩
      have lD : Gr TT (fun b => b = D2) Hd (upd Hd D2 (.lst (bcc ++ [.ref q]))) := Gr.lst (gd.keepL0 hDb)
      refine lc_yes (gb.trans gd) hD2 (gd.keepL0 hDb) hal (by omega) ?_
      rw [List.take_add_one, hp, List.map_append]
      refine Al.app (Al.imp hbcc fun _ _ z => (z.gr gd).gr lD) (.cons ⟨q, rfl, lD.tup ?_⟩ .nil)
      rw [hq]
      unfold Aff.pt
      rw [cfa, cfb, cfg]
    rintro bcc Hb gb hDb hbl hbcc
    have hbcc : PtsV Hb bcc ((nr.take acc.length).map cf.pt) := hbcc
    rw [hal6, List.take_of_length_le (Nat.le_refl _)] at hbcc
    have hnd3 : (nr.map cf.pt).Nodup := hnd2.map _ fun x y hxy e => hxy (cf.inj e)
    have hml : (nr.map cf.pt).length = nr.length := List.length_map ..
    have g6b := g6.trans gb
    repeat walk_at "w"
    refine w_forest hDb hbcc hnd3 hok3 (by omega) ((g6b.tb (Ga.tb tabs))) fun x2 dx2 H7 pa2 ka2 pl2 g7 hf2 hrep2 htop2 _ _ _ => ?_
    have hpl2 : pl2 = pl1.map cf.tree := Rep.unique hrep2 (cf.rep hrep1) htop2 (cf.top htop1)
    subst hpl2
    have g67 := g6b.trans g7
    have s7 := sa.gr g67
    have hD7 := g67.keepL0 hDa
    have hacc7 : PtsV H7 acc nr := Al.imp hacc fun _ _ z => z.gr g67
    repeat walk_at "w"
    refine ⟨a, D, acc, nr, rfl, s7, hD7, src_pts s7 hD7 hacc7, hacc7, hok2, by omega, fun z rc H8 hrc g8 s8 hz => ?_⟩
    repeat walk_at "w"
    have g58 : Gr TT (fun c => c = a) H5 H8 := (g56.of0.trans ((gb.trans g7).of0)).trans g8
    have nfa : fa ≠ a := fun e => (src_ne (s3.gr g4) nf) e.symm
    have ncc : H8 c' = some (CodeO c' (lamF (chX P w K mg base f c A outer s H E) chP chS c').qual) := by
      refine g58.at_ hc5 (fun e => ?_) codeO_ne
      obtain ⟨_, _, _, z1⟩ := s5
      have z1 := z1
      rw [← e] at z1
      exact absurd (z1.symm.trans hc5) (fun z => by cases z)
    have hf8 : H8 fa = some (LamO fa (lamF (chX P w K mg base f c A outer s H E) chP chS c') chB) := g58.at_ hf5 nfa lamO_tbl
    refine w_iEnumT ?_
    repeat walk_at "w"
    refine ⟨z, rcL rc, rfl, SqT.of hz, fun D3 hD3 => ?_⟩
    refine w_lc (walk_enumT (xs := rcL rc)) TT NoS hD3 (fun j acc H' => acc = (rcL (cf.rect rc)).take j) (by rw [List.take_zero]) (fun j acc H' _ g _ _ => SqT.of (g.tup hz)) ?_ ?_
    · rintro j y bcc Hc Hd hj hal gc hDc rfl ⟨t, v, rfl, ht0, rfl, hv⟩
      generalize e9 : upd Hc t _ = H9
      obtain ⟨g9, h9⟩ := new_facts TT ht0 e9
      clear e9
      obtain ⟨ax, e, rfl, he2, hj2⟩ := end_at cf hv
      have gc9 := gc.trans g9
      have hj4 : j < 4 := hj
      refine w_gtup (SqT.of h9) rfl (w_gcons (w_gname (w_gcons (w_gname (w_gnil ⟨rfl, w_yes (w_T ?_)⟩)))))
      have hD9 := g9.keepL0 hDc
      repeat walk_at "w"
      cases e with
      | none =>
        repeat walk_at "w"
        refine lc_yes gc9 hD3 hD9 hal (by omega) ?_
        rw [List.take_add_one, he2]
        rfl
      | some e =>
        repeat walk_at "w"
        refine ⟨fa, c', rfl, gc9.at_ hf8 (fun z => z) lamO_tbl, ?_⟩
        repeat walk_at "w"
        refine ⟨sz100 (Nat.le_of_ble_eq_true rfl), fun t2 hpt2 => ?_⟩; generalize eHt : upd H9 t2 _ = Ht; obtain ⟨gt, ht⟩ := new_facts TT hpt2 eHt; clear eHt
        repeat walk_at "w"
        have gct := gc9.trans gt
        refine ⟨_, rfl, gct.at_ hf8 (fun z => z) lamO_tbl, gct.at_ ncc (fun z => z) codeO_ne, ?_⟩
        refine ⟨n1 - 100000000, n2, 1 + n3, t2, e, e, rfl, rfl, ht, by omega, fun q Hu gu hq0 hq => ?_⟩
        repeat walk_at "w"
        refine .inl ⟨_, rfl, ?_⟩
        repeat walk_at "w"
        refine w_I (by decide) ?_
        rw [hj2]
        refine w_ixT (SqT.of hq) (ax_pt (p := (n1 - 100000000 + (1 + n3) * e, n2 + (1 + n3) * e))) ?_
        have hDu := gu.keepL0 (gt.keepL0 hD9)
        refine lc_yes (gct.trans gu) hD3 hDu hal (by omega) ?_
        rw [List.take_add_one, he2]
        show _ ++ [_] = _ ++ [V.int (cf.off ax + cf.g * e)]
        unfold Aff.off
        rw [cfa, cfb, cfg]
        cases ax <;> rfl
    rintro ecc Hc gc hDc hel rfl
    have hDc : Hc D3 = some (.lst (rcL (cf.rect rc))) := hDc
    refine w_st (σ' := [some (.ref a), some (.ref l), some (.ref fa), some (.ref D), some (.ref D3), some (.int (n1 - 100000000)), some (.int n2), some (.int (1 + n3)), some (.ref x1), some (.ref x2), some (.ref z), none, none, none, none, none]) rfl ?_
    repeat walk_at "w"
    refine ⟨D3, rfl, ⟨_, SqL.of hDc⟩, fun D4 hD4 => ?_⟩
    refine w_lc (L2.walk_list (xs := rcL (cf.rect rc))) TT NoS hD4 (fun j acc H' => acc = [] → ∀ (i : Nat) (e : Int), i < j → (rcL (cf.rect rc))[i]? = some (V.int e) → absI e ≤ 10 ^ 31) (fun _ i e h => absurd h (Nat.not_lt_zero _)) (fun j acc H' _ g _ _ => SqL.of (g.keepL0 hDc)) ?_ ?_
    · rintro j y bcc He Hf hj hal ge hDe hbcc ⟨rfl, hy⟩
      have hj4 : j < 4 := hj
      obtain ⟨e, rfl⟩ : ∃ e : Option Int, y = oV e := by
        have := List.mem_of_getElem? hy
        simp only [rcL, List.mem_cons, List.not_mem_nil, or_false] at this
        rcases this with e | e | e | e <;> exact ⟨_, e⟩
      refine w_gname ⟨rfl, ?_⟩
      repeat walk_at "w"
      cases e with
      | none =>
        repeat walk_at "w"
        refine lc_no ge hDe hal fun hb i e hi he => ?_
        by_cases hij : i < j
        · exact hbcc hb i e hij he
        · have : i = j := by omega
          rw [this, hy] at he
          cases he
      | some e =>
        repeat walk_at "w"
        refine ⟨_, rfl, ?_⟩
        repeat walk_at "w"
        refine w_I ⟨by decide, by decide, by decide⟩ ?_
        repeat walk_at "w"
        refine w_dec (fun hgt => ?_) (fun hgt => ?_)
        · repeat walk_at "w"
          exact lc_yes ge hD4 hDe hal (by omega) fun z => (by simp at z)
        · repeat walk_at "w"
          refine lc_no ge hDe hal fun hb i e' hi he => ?_
          by_cases hij : i < j
          · exact hbcc hb i e' hij he
          · have : i = j := by omega
            rw [this, hy] at he
            cases he
            exact Int.not_lt.mp hgt
    rintro fcc He ge hDe hfl hfcc
    repeat walk_at "w"
    refine ⟨sz100 (Nat.le_of_ble_eq_true rfl), fun n0 hpn0 => ?_⟩; generalize eHf : upd He n0 _ = Hf; obtain ⟨gf, hf⟩ := new_facts TT hpn0 eHf; clear eHf
    refine w_neNil (SqL.of (gf.keepL0 hDe)) hf ?_
    repeat walk_at "w"
    have gcf := gc.trans (ge.trans gf)
    have GG : Gr TT (fun c => c = a) H Hf := ((Ga.trans g67.of0).trans g8).trans gcf.of0
    cases hfe : fcc.isEmpty with
    | false =>
      repeat walk_at "w"
      exact k Hf GG (s8.gr gcf)
    | true =>
      have hemp : fcc = [] := by cases fcc with | nil => rfl | cons _ _ => cases hfe
      have hall : ∀ (i : Nat) (e : Int), (rcL (cf.rect rc))[i]? = some (V.int e) → absI e ≤ 10 ^ 31 := fun i e he => hfcc hemp i e (List.getElem?_eq_some_iff.mp he).1 he
      have hrc2 : RcOk (cf.rect rc) := rect_ok cf hrc hall
      have g7f := g8.trans gcf.of0 (S := fun c => c = a)
      have hf1' := (hf1.gr0 (gb.trans g7))
      obtain ⟨nx1, npa1, nka1⟩ := fov_src hf1' s7
      obtain ⟨nx2, npa2, nka2⟩ := fov_src hf2 s7
      have hf1f := hf1'.gr g7f nx1 npa1 nka1
      have hf2f := hf2.gr g7f nx2 npa2 nka2
      have kk : ∀ p ∈ pts pl1, p ∈ nr := fun p hp => (hrep1.pts (by omega)).mem_iff.mp hp
      have hp1 : (pts pl1).length = nr.length := (hrep1.pts (by omega)).length_eq
      have kk2 : ∀ p ∈ pts (pl1.map cf.tree), p ∈ nr.map cf.pt := fun p hp => (hrep2.pts (by omega)).mem_iff.mp hp
      have hp2 : (pts (pl1.map cf.tree)).length = (nr.map cf.pt).length := (hrep2.pts (by omega)).length_eq
      repeat walk_at "w"
      refine ⟨x1, dx1, _, rfl, hf1f.ob, rfl, ?_⟩
      repeat walk_at "w"
      refine ⟨x1, dx1, pa1, ka1, _, pl1, _, z, rc, rfl, hf1f, gcf.tup hz, hrc, fun p hp => (by rw [keys_fresh]; exact kk p hp), by omega, fun oa fl vl fs es H9 g9 hoa _ hfl hfs _ hvl hes => ?_⟩
      refine w_gtup (SqT.of hoa) rfl (w_gcons (w_gname (w_gcons (w_gname (w_gnil ?_)))))
      refine w_st (σ' := [some (.ref a), some (.ref l), some (.ref fa), some (.ref D), some (.ref D3), some (.int (n1 - 100000000)), some (.int n2), some (.int (1 + n3)), some (.ref x1), some (.ref x2), some (.ref z), some (.ref fl), some (.ref vl), none, none, none]) rfl ?_
      repeat walk_at "w"
      have hf2g := hf2f.gr0 g9
      refine ⟨x2, dx2, _, rfl, hf2g.ob, rfl, ?_⟩
      repeat walk_at "w"
      have hD9 := g9.keepL0 ((ge.trans gf).keepL0 hDc)
      refine ⟨D3, rcL (cf.rect rc), rfl, .inl ⟨SqL.of hD9, fun tp htp => ?_⟩⟩
      generalize e10 : upd H9 tp _ = H10
      obtain ⟨g10, h10⟩ := new_facts TT htp e10
      clear e10
      repeat walk_at "w"
      refine ⟨x2, dx2, pa2, ka2, _, _, _, tp, cf.rect rc, rfl, hf2g.gr0 g10, h10, hrc2, fun p hp => (by rw [keys_fresh]; exact kk2 p hp), by omega, fun ob fl2 vl2 fs2 es2 H11 g11 hob _ hfl2 hfs2 _ hvl2 hes2 => ?_⟩
      rw [cf.fndF hnd2 kk] at hfs2
      rw [cf.visF] at hes2
      repeat walk_at "w"
      have g8b := gcf.trans (g9.trans (g10.trans g11))
      have hfb := g8b.at_ hf8 (fun z => z) lamO_tbl
      have hcb := g8b.at_ ncc (fun z => z) codeO_ne
      have g911 := g10.trans g11
      have hfl11 := g911.keepL0 hfl
      have hvl11 := g911.keepL0 hvl
      have hfs11 : PtsV H11 fs (fndF rc (fresh nr) pl1) := Al.imp hfs fun _ _ z => z.gr g911
      have hes11 : PtsV H11 es (visF rc pl1) := Al.imp hes fun _ _ z => z.gr g911
      have hfle := fndF_le rc (fresh nr) pl1
      have hvle := visF_le rc pl1
      generalize fndF rc (fresh nr) pl1 = m1 at hfs2 hfs11 hfle
      generalize visF rc pl1 = m2 at hes2 hes11 hvle
      refine ⟨fl, rfl, ⟨_, SqL.of hfl11⟩, fun D5 hnew => ?_⟩
      refine w_lc (L2.walk_list (xs := fs)) TT NoS hnew (fun j bcc H' => PtsV H' bcc ((m1.take j).map cf.pt)) (by rw [List.take_zero]; exact .nil) (fun j bcc H' _ g _ _ => SqL.of (g.keepL0 hfl11)) ?_ ?_
      · rintro j y bcc Hb Hc hj hal gb hDb hbcc ⟨rfl, hy⟩
        obtain ⟨p, hp, hyp⟩ := Al.get hfs11 hy
        have hj : j < fs.length := hj
        have hxn := Al.len hfs11
        obtain ⟨ad, rfl, had⟩ := hyp.gr gb
        refine w_gname ⟨rfl, w_yes (w_T ?_)⟩
        refine ⟨fa, c', rfl, gb.at_ hfb (fun z => z) lamO_tbl, ?_⟩
        repeat walk_at "w"
        refine ⟨_, rfl, gb.at_ hfb (fun z => z) lamO_tbl, gb.at_ hcb (fun z => z) codeO_ne, ?_⟩
        refine ⟨n1 - 100000000, n2, 1 + n3, ad, p.1, p.2, rfl, rfl, had, by omega, fun q Hd gd hq0 hq => ?_⟩
        have lD : Gr TT (fun b => b = D5) Hd (upd Hd D5 (.lst (bcc ++ [.ref q]))) := Gr.lst (gd.keepL0 hDb)
        refine lc_yes (gb.trans gd) hnew (gd.keepL0 hDb) hal (by omega) ?_
        rw [List.take_add_one, hp, List.map_append]
        refine Al.app (Al.imp hbcc fun _ _ z => (z.gr gd).gr lD) (.cons ⟨q, rfl, lD.tup ?_⟩ .nil)
        rw [hq]
        unfold Aff.pt
        rw [cfa, cfb, cfg]
      rintro bcc H12 g12 hDq1 hbl hq1
      have hq1 : PtsV H12 bcc ((m1.take fs.length).map cf.pt) := hq1
      rw [Al.len hfs11, List.take_of_length_le (Nat.le_refl _)] at hq1
      repeat walk_at "w"
      have hfb2 := g12.at_ hfb (fun z => z) lamO_tbl
      have hcb2 := g12.at_ hcb (fun z => z) codeO_ne
      have hvl12 := g12.keepL0 hvl11
      have hes12 : PtsV H12 es m2 := Al.imp hes11 fun _ _ z => z.gr g12
      refine ⟨vl, rfl, ⟨_, SqL.of hvl12⟩, fun D6 hnew => ?_⟩
      refine w_lc (L2.walk_list (xs := es)) TT NoS hnew (fun j bcc H' => PtsV H' bcc ((m2.take j).map cf.pt)) (by rw [List.take_zero]; exact .nil) (fun j bcc H' _ g _ _ => SqL.of (g.keepL0 hvl12)) ?_ ?_
      · rintro j y bcc Hb Hc hj hal gb hDb hbcc ⟨rfl, hy⟩
        obtain ⟨p, hp, hyp⟩ := Al.get hes12 hy
        have hj : j < es.length := hj
        have hxn := Al.len hes12
        obtain ⟨ad, rfl, had⟩ := hyp.gr gb
        refine w_gname ⟨rfl, w_yes (w_T ?_)⟩
        refine ⟨fa, c', rfl, gb.at_ hfb2 (fun z => z) lamO_tbl, ?_⟩
        repeat walk_at "w"
        refine ⟨_, rfl, gb.at_ hfb2 (fun z => z) lamO_tbl, gb.at_ hcb2 (fun z => z) codeO_ne, ?_⟩
        refine ⟨n1 - 100000000, n2, 1 + n3, ad, p.1, p.2, rfl, rfl, had, by omega, fun q Hd gd hq0 hq => ?_⟩
        have lD : Gr TT (fun b => b = D6) Hd (upd Hd D6 (.lst (bcc ++ [.ref q]))) := Gr.lst (gd.keepL0 hDb)
        refine lc_yes (gb.trans gd) hnew (gd.keepL0 hDb) hal (by omega) ?_
        rw [List.take_add_one, hp, List.map_append]
        refine Al.app (Al.imp hbcc fun _ _ z => (z.gr gd).gr lD) (.cons ⟨q, rfl, lD.tup ?_⟩ .nil)
        rw [hq]
        unfold Aff.pt
        rw [cfa, cfb, cfg]
      rintro bcc H13 g13 hDq2 hbl hq2
      have hq2 : PtsV H13 bcc ((m2.take es.length).map cf.pt) := hq2
      rw [Al.len hes12, List.take_of_length_le (Nat.le_refl _)] at hq2
      repeat walk_at "w"
      refine ⟨sz100 (Nat.le_of_ble_eq_true rfl), fun tt hptt => ?_⟩; generalize eH14 : upd H13 tt _ = H14; obtain ⟨g14, h14⟩ := new_facts TT hptt eH14; clear eH14
      have g1114 := g12.trans (g13.trans g14)
      have hd1 : Dp K H14 (.ref D5) (.list ((m1.map cf.pt).map ptD)) := PtsV.dp (Al.imp hq1 fun _ _ z => z.gr (g13.trans g14)) (SqL.of ((g13.trans g14).keepL0 hDq1))
      have hd2 : Dp K H14 (.ref D6) (.list ((m2.map cf.pt).map ptD)) := PtsV.dp (Al.imp hq2 fun _ _ z => z.gr g14) (SqL.of (g14.keepL0 hDq2))
      have he1 : Dp K H14 (.ref fl2) (.list ((m1.map cf.pt).map ptD)) := PtsV.dp (Al.imp hfs2 fun _ _ z => z.gr g1114) (SqL.of (g1114.keepL0 hfl2))
      have he2 : Dp K H14 (.ref vl2) (.list ((m2.map cf.pt).map ptD)) := PtsV.dp (Al.imp hes2 fun _ _ z => z.gr g1114) (SqL.of (g1114.keepL0 hvl2))
      have hsh := shaped_two (m1.map cf.pt) (m2.map cf.pt)
      refine ⟨_, _, .tup (SqT.of (g1114.tup hob)) (.cons he1 (.cons he2 .nil)), .tup (SqT.of h14) (.cons hd1 (.cons hd2 .nil)), hsh, hsh, ?_⟩
      rw [eqv_same hsh]
      repeat walk_at "w"
      have gend := (g9.trans (g10.trans (g11.trans g1114)))
      exact k H14 (GG.trans gend.of0) ((s8.gr gcf).gr gend)
end
end Wd
end
section
/-! The law. -/
namespace Wd
open PySem PySem.Spec PyProof.Rows L2 LamX NdefX
local macro_rules | `(tactic| walk_at "w") => `(tactic| first
  | with_reducible refine w_var (by with_unfolding_all rfl) ?_
  | with_reducible refine w_aug (by with_unfolding_all rfl) ?_
  | with_reducible refine w_op ?_
  | with_reducible refine w_c ?_
  | with_reducible refine w_I0 ?_
  | with_reducible refine w_cons ?_
  | with_reducible refine w_nil ?_
  | with_reducible refine w_call ?_
  | with_reducible refine w_cb ?_
  | with_reducible refine w_seq ?_
  | with_reducible refine w_ret ?_
  | with_reducible refine w_set ?_
  | with_reducible refine w_if ?_
  | with_reducible refine w_test ?_
  | with_reducible refine w_B ?_
  | with_reducible refine w_k ?_
  | with_reducible refine w_and ?_
  | with_reducible refine w_or ?_
  | with_reducible refine w_not ?_
  | with_reducible refine w_andV ?_
  | with_reducible refine w_orV ?_
  | with_reducible refine w_notV ?_
  | with_reducible refine w_ifE ?_
  | with_reducible refine w_chain ?_
  | with_reducible refine w_un ?_
  | with_reducible refine w_U ?_
  | with_reducible refine w_isN ?_
  | with_reducible refine w_notN ?_
  | with_reducible refine w_T ?_
  | with_reducible refine w_F ?_
  | with_reducible refine w_next ?_
  | with_reducible refine w_drop ?_
  | with_reducible refine w_par2 ?_
  | with_reducible refine w_par3 ?_
  | with_reducible refine w_tup ?_
  | with_reducible refine w_lst ?_
  | with_reducible refine w_bm ?_
  | with_reducible refine w_bm0 ?_
  | with_reducible refine w_gname ?_
  | with_reducible refine w_gcons ?_
  | with_reducible refine w_lcI ?_
  | with_reducible refine w_lc2I ?_
  | with_reducible refine w_iTup ?_
  | with_reducible refine w_iList ?_
  | with_reducible refine w_yes ?_
  | with_reducible refine w_din ?_
  | with_reducible refine w_dput ?_
  | with_reducible refine w_dget2 ?_
  | with_reducible refine w_iEnum ?_
  | with_reducible refine w_sl ?_
  | with_reducible refine w_noP ?_
  | with_reducible refine w_part ?_
  | with_reducible refine w_asg ?_
  | with_reducible refine w_ip ?_
  | with_reducible refine w_cont ?_
  | with_reducible refine w_callD ?_
  | with_reducible refine w_thru ?_
  | with_reducible refine w_star ?_
  | with_reducible refine w_bits ?_
  | with_reducible refine w_revL ?_
  | with_reducible refine w_fld ?_
  | with_reducible refine w_dget ?_
  | with_reducible refine w_keys ?_
  | with_reducible refine w_gsub ?_
  | with_reducible refine w_fldaug ?_
  | with_reducible refine w_sfld ?_
  | with_reducible refine w_meth ?_
  | with_reducible refine w_make ?_
  | with_reducible refine w_ite (by with_unfolding_all rfl) ?_ | with_reducible refine w_itf (by with_unfolding_all rfl) ?_)
theorem Gr.past {T : List (Addr × Str)} {S : Addr → Prop} {H H1 H2 : Hp} {a : Addr} (g : Gr T S H H1) (ha : H a = none) (g2 : Gr T (fun c => c = a) H1 H2) : Gr T S H H2 :=
  ⟨fun b o e n z => g2.kp b o (g.kp b o e n z) (fun y => by rw [y, ha] at e; cases e) z, fun b e => g.fr b (g2.fr b e), fun t => g2.tb (g.tb t), fun b xs e => g2.tp b xs (g.tp b xs e), fun b o u e => g2.fz b o u (g.fz b o u e)⟩
section
variable {P : Program} {w : World} {K : PySem.W.Frag} {mg : Str → Option Value} {base : Heap} {aE C : Addr}
def spLaw (K : PySem.W.Frag) (TT : List (Addr × Str)) : Sp := fun vs H Q _ => ∃ (a : Addr) (ns : List Int), vs = [.ref a] ∧ SqL K H a (ns.map V.int) ∧ ns.length ≤ 63 ∧ Tabs TT H ∧ ∀ H', Q (.bl true) H'
abbrev s_law : Stmt := topS 67
abbrev N_law : List Str := ["_law_script", "_law_seed", "_law_source_here", "_law_spots_here"]
theorem sc_law : FnScope N_law ["_law_script"] (C8.fnScope s_law) := ⟨rfl, rfl, rfl, by decide +kernel, rfl, by decide +kernel, by decide +kernel⟩
theorem cal_law {TT : List (Addr × Str)} {f : Addr} {fd : FuncData} (F : C8.Fun K "law" "law" s_law f fd) (T : Txt K mg aE C) (c_law_source : C8.Cal P w K mg base 1 "_law_source" (spLSource TT) []) (c_law_spots : C8.Cal P w K mg base 4 "_law_spots" (spLSpots TT) [])
    (c_law_deeds_right : C8.Cal P w K mg base 16 "_law_deeds_right" (spLDeeds C TT) []) (c_law_blocks_right : C8.Cal P w K mg base 16 "_law_blocks_right" (spLDeeds C TT) []) (c_law_stretched_right : C8.Cal P w K mg base 16 "_law_stretched_right" (spLDeeds C TT) []) : FnOk P w K mg base C8.CX0 20 f fd ["_law_script"] (spLaw K TT) := by
  refine C8.fn0 F sc_law (fun vs H Q E h => ?_) (fun cdv A outer s H vs Q E hr h => ?_)
  · obtain ⟨a, ns, rfl, _⟩ := h
    rfl
  · obtain ⟨a, ns, rfl, hl, hn, tabs, k⟩ := h
    have nd := sc_law.nd
    refine ⟨_, (pss_cons (ps_for PassesOwn.never rfl (pi_list (pe_slice sl_list (pe_op op_catS (pv 0) (pe_lst (pa_cons pe_int pa_nil))) po_none (po_some pe_int))) (pg_name (i := 1) nd rfl (Or.inl rfl)) (pss_cons (ps_set (i := 2) nd rfl (Or.inl rfl) (C8.pe_c c_law_source hr (by decide) (by rfl) (pa_cons (pv 1) pa_nil)))
  (pss_cons (ps_set (i := 3) nd rfl (Or.inl rfl) (C8.pe_c c_law_spots hr (by decide) (by rfl) (pa_cons (pv 2) (pa_cons pe_int pa_nil))))
  (pss_cons (ps_if (PW.pt (pw_or (pt_not (pt_val (C8.pe_c c_law_deeds_right hr (by decide) (by rfl) (pa_cons (pv 2) (pa_cons (pv 3) pa_nil))))) (pw_or1 (pt_not (pt_val (C8.pe_c c_law_blocks_right hr (by decide) (by rfl) (pa_cons (pv 2) (pa_cons (pv 3) pa_nil)))))))) (pss_one (ps_ret pe_bl)) pss_nil)
  (pss_one (ps_if (pt_not (pt_val (C8.pe_c c_law_stretched_right hr (by decide) (by rfl) (pa_cons (pv 2) (pa_cons (pv 3) pa_nil))))) (pss_one (ps_ret pe_bl)) pss_nil))))))
  (pss_one (ps_ret pe_bl))), ?_⟩
    repeat walk_at "w"
    with_reducible refine w_forI ?_
    repeat walk_at "w"
    refine ⟨sz100 (Nat.le_of_ble_eq_true rfl), fun o1 hpo1 => ?_⟩; generalize eH1 : upd H o1 _ = H1; obtain ⟨g1, h1⟩ := new_facts TT hpo1 eH1; clear eH1
    refine ⟨a, o1, _, _, rfl, rfl, g1.sqL hl, SqL.of h1, sz100 (by rw [List.length_map, List.length_singleton]; omega), fun o2 ho2 => ?_⟩
    generalize e2 : upd H1 o2 _ = H2
    obtain ⟨g2, h2⟩ := new_facts TT ho2 e2
    clear e2
    repeat walk_at "w"
    refine ⟨_, rfl, ?_⟩
    refine w_rslL (SqL.of h2) ?_
    intro o3 hpo3; generalize eH3 : upd H2 o3 _ = H3; obtain ⟨g3, h3⟩ := new_facts TT hpo3 eH3; clear eH3
    have g13 := g1.trans (g2.trans g3)
    have hz : ∀ x ∈ cutV (ns.map V.int ++ [V.int 0]) none (some 4), ∃ z : Int, x = .int z := fun x hx => by
      rw [show (4 : Int) = ((4 : Nat) : Int) from rfl, cut_to] at hx
      rcases List.mem_append.mp (List.mem_of_mem_take hx) with hx | hx
      · obtain ⟨z, _, rfl⟩ := List.mem_map.mp hx
        exact ⟨z, rfl⟩
      · exact ⟨0, List.mem_singleton.mp hx⟩
    generalize cutV (ns.map V.int ++ [V.int 0]) none (some 4) = zs at h3 hz
    refine ⟨o3, rfl, ⟨_, SqL.of h3⟩, for_list (K := K) (a := o3) (xs := zs) (fun i σ' H' => ∃ v1 v2 v3 : Option V, σ' = [some (.ref a), v1, v2, v3] ∧ Gr TT NoS H3 H') ⟨none, none, none, rfl, .refl _⟩ (fun i σ' H' _ ⟨_, _, _, _, g⟩ => SqL.of (g.keepL0 h3)) ?_ ?_⟩
    · rintro i x σ' H' hx ⟨v1, v2, v3, rfl, g⟩
      obtain ⟨z, rfl⟩ := hz x (List.mem_of_getElem? hx)
      refine w_gname ?_
      repeat walk_at "w"
      refine ⟨z, rfl, fun so H4 g4 hso s4 => ?_⟩
      repeat walk_at "w"
      refine ⟨so, 25, rfl, s4, by decide, fun l xs ps H5 g5 s5 hl0 hl5 hps hnd hok hlen => ?_⟩
      have so3 : H3 so = none := g.fr _ hso
      have G5 : Gr TT NoS H3 H5 := (g.trans g4).past so3 g5
      have nsl := src_pts s5 hl5 hps
      repeat walk_at "w"
      refine ⟨so, l, xs, ps, rfl, s5, hl5, hps, hnd, hok, by omega, G5.tb (g13.tb tabs), fun H6 g6 s6 => ?_⟩
      have G6 := G5.past so3 g6
      have hps6 : PtsV H6 xs ps := Al.imp hps fun _ _ z => z.gr g6
      repeat walk_at "w"
      refine ⟨so, l, xs, ps, rfl, s6, g6.keepL hl5 nsl.symm, hps6, hnd, hok, by omega, G6.tb (g13.tb tabs), fun H7 g7 s7 => ?_⟩
      have G7 := G6.past so3 g7
      have hps7 : PtsV H7 xs ps := Al.imp hps6 fun _ _ z => z.gr g7
      repeat walk_at "w"
      refine ⟨so, l, xs, ps, rfl, s7, g7.keepL (g6.keepL hl5 nsl.symm) nsl.symm, hps7, hnd, hok, by omega, G7.tb (g13.tb tabs), fun H8 g8 s8 => ?_⟩
      repeat walk_at "w"
      exact ⟨_, _, _, rfl, G7.past so3 g8⟩
    · rintro σ' H' ⟨v1, v2, v3, rfl, g⟩
      repeat walk_at "w"
      exact k _
end
end Wd
end
section
/-! What the top has written; the end. -/
namespace Wd
open PySem PySem.Spec PyProof.Rows L2 LamX NdefX
section
variable {K : PySem.W.Frag} {mg : Str → Option Value} {h : Heap} {x q : Str} {st : Stmt} {f C : Addr}
def tabP (o : Obj) : Option Addr := match o.data with
  | .fields vs => (match (vs[11]? : Option Value) with
    | some (.ref P) => some P
    | _ => none)
  | _ => none
structure Maker (K : PySem.W.Frag) (h : Heap) (fd : FuncData) (c P : Addr) : Prop where
  code : fd.code = .ref c
  hd : PySem.W.CodeHd h c P
  tab : h.get? P = some (PySem.W.tabObj #[])
  no : K.lookup P = none
section
variable {oc dV kV dc pm cd ct : Value} {od an : Option Addr} {sl : Array (Option Value)}
theorem def_ex (X : K.In h) (G : h.Ns mainGlobals mg) (a : PySem.W.nsIn K mainGlobals x = some (some (.ref f))) (l : K.lookup f = some ⟨oc, od, .func (PySem.W.fnOf x x (C8.fnArgs st) (C8.fnBody st) (C8.fnScope st) .none kV dc pm an cd ct), sl⟩)
    (c : PySem.W.codeIn K cd x = true) (k : PySem.W.keepIn K (.ref f) = true) : ∃ f fd, C8.Def K mg x st f fd ∧ fd.defaults = .none :=
  ⟨f, _, ⟨⟨oc, od, .none, kV, dc, pm, an, cd, ct, sl, rfl, l, c⟩, PySem.W.mg_of X G a, k⟩, rfl⟩
theorem maker_ex {c0 P0 : Addr} {o0 : Obj} (X : K.In h) (G : h.Ns mainGlobals mg) (a : PySem.W.nsIn K mainGlobals x = some (some (.ref f))) (l : K.lookup f = some ⟨oc, od, .func (PySem.W.fnOf x x (C8.fnArgs st) (C8.fnBody st) (C8.fnScope st) .none kV dc pm an (.ref c0) ct), sl⟩)
    (c : PySem.W.codeIn K (.ref c0) x = true) (k : PySem.W.keepIn K (.ref f) = true) (_q : K.lookup c0 = some o0) (_r : tabP o0 = some P0) (hh : PySem.W.codeHdIn K c0 P0 = true) (t : h.get? P0 = some (PySem.W.tabObj #[])) (n : K.lookup P0 = none) :
    ∃ f fd c, C8.Def K mg x st f fd ∧ fd.defaults = .none ∧ Maker K h fd c P0 :=
  ⟨f, _, c0, ⟨⟨oc, od, .none, kV, dc, pm, an, _, ct, sl, rfl, l, c⟩, PySem.W.mg_of X G a, k⟩, rfl, rfl, PySem.W.codeHd_of_K X hh, t, n⟩
theorem meth_ex (a : PySem.W.findIn K (.ref C) x = some (some (.ref f))) (i : PySem.W.isFn K (.ref f) = true) (l : K.lookup f = some ⟨oc, od, .func (PySem.W.fnOf x q (C8.fnArgs st) (C8.fnBody st) (C8.fnScope st) .none kV dc pm an cd ct), sl⟩)
    (c : PySem.W.codeIn K cd q = true) (k : PySem.W.keepIn K (.ref f) = true) : ∃ f fd, Meth K C x f ∧ C8.Fun K x q st f fd ∧ fd.defaults = .none :=
  ⟨f, _, ⟨a, i, k⟩, ⟨oc, od, .none, kV, dc, pm, an, cd, ct, sl, rfl, l, c⟩, rfl⟩
theorem methM_ex {c0 P0 : Addr} {o0 : Obj} (X : K.In h) (a : PySem.W.findIn K (.ref C) x = some (some (.ref f))) (i : PySem.W.isFn K (.ref f) = true) (l : K.lookup f = some ⟨oc, od, .func (PySem.W.fnOf x q (C8.fnArgs st) (C8.fnBody st) (C8.fnScope st) .none kV dc pm an (.ref c0) ct), sl⟩)
    (c : PySem.W.codeIn K (.ref c0) q = true) (k : PySem.W.keepIn K (.ref f) = true) (_q : K.lookup c0 = some o0) (_r : tabP o0 = some P0) (hh : PySem.W.codeHdIn K c0 P0 = true) (t : h.get? P0 = some (PySem.W.tabObj #[])) (n : K.lookup P0 = none) :
    ∃ f fd c, Meth K C x f ∧ C8.Fun K x q st f fd ∧ fd.defaults = .none ∧ Maker K h fd c P0 :=
  ⟨f, _, c0, ⟨a, i, k⟩, ⟨oc, od, .none, kV, dc, pm, an, _, ct, sl, rfl, l, c⟩, rfl, rfl, PySem.W.codeHd_of_K X hh, t, n⟩
theorem dfl1_ex {Tq : Addr} {oT : Obj} {i1 : Int} {t1 : Tok} {n : Nat} (X : K.In h) (G : h.Ns mainGlobals mg) (a : PySem.W.nsIn K mainGlobals x = some (some (.ref f))) (l : K.lookup f = some ⟨oc, od, .func (PySem.W.fnOf x x (C8.fnArgs st) (C8.fnBody st) (C8.fnScope st) (.ref Tq) kV dc pm an cd ct), sl⟩)
    (c : PySem.W.codeIn K cd x = true) (k : PySem.W.keepIn K (.ref f) = true) (t : K.lookup Tq = some oT) (d : oT.data = .seq #[.int i1 t1] n) : ∃ f fd, C8.Def K mg x st f fd ∧ DflV K fd.defaults [.int i1] :=
  ⟨f, _, ⟨⟨oc, od, .ref Tq, kV, dc, pm, an, cd, ct, sl, rfl, l, c⟩, PySem.W.mg_of X G a, k⟩, .inr ⟨by simp, Tq, oT, [.int i1 t1], n, rfl, t, d, .cons ⟨t1, rfl⟩ .nil⟩⟩
theorem dfl2_ex {Tq : Addr} {oT : Obj} {i1 i2 : Int} {t1 t2 : Tok} {n : Nat} (X : K.In h) (G : h.Ns mainGlobals mg) (a : PySem.W.nsIn K mainGlobals x = some (some (.ref f))) (l : K.lookup f = some ⟨oc, od, .func (PySem.W.fnOf x x (C8.fnArgs st) (C8.fnBody st) (C8.fnScope st) (.ref Tq) kV dc pm an cd ct), sl⟩)
    (c : PySem.W.codeIn K cd x = true) (k : PySem.W.keepIn K (.ref f) = true) (t : K.lookup Tq = some oT) (d : oT.data = .seq #[.int i1 t1, .int i2 t2] n) : ∃ f fd, C8.Def K mg x st f fd ∧ DflV K fd.defaults [.int i1, .int i2] :=
  ⟨f, _, ⟨⟨oc, od, .ref Tq, kV, dc, pm, an, cd, ct, sl, rfl, l, c⟩, PySem.W.mg_of X G a, k⟩, .inr ⟨by simp, Tq, oT, [.int i1 t1, .int i2 t2], n, rfl, t, d, .cons ⟨t1, rfl⟩ (.cons ⟨t2, rfl⟩ .nil)⟩⟩
theorem init_ex {Tq e : Addr} {oT : Obj} {n : Nat} (m : PySem.W.makesIn K C = true) (a : PySem.W.findIn K (.ref C) "__init__" = some (some (.ref f))) (i : PySem.W.isFn K (.ref f) = true) (z : PySem.W.keepIn K (.ref C) = true) (k : PySem.W.keepIn K (.ref f) = true)
    (l : K.lookup f = some ⟨oc, od, .func (PySem.W.fnOf "__init__" q (C8.fnArgs st) (C8.fnBody st) (C8.fnScope st) (.ref Tq) kV dc pm an cd ct), sl⟩) (c : PySem.W.codeIn K cd q = true) (t : K.lookup Tq = some oT) (d : oT.data = .seq #[.ref e] n) :
    ∃ f fd e, Mk K C f ∧ PySem.W.keepIn K (.ref f) = true ∧ C8.Fun K "__init__" q st f fd ∧ DflV K fd.defaults [.ref e] :=
  ⟨f, _, e, ⟨m, a, i, z⟩, k, ⟨oc, od, .ref Tq, kV, dc, pm, an, cd, ct, sl, rfl, l, c⟩, .inr ⟨by simp, Tq, oT, [.ref e], n, rfl, t, d, .cons rfl .nil⟩⟩
end
theorem int_ex {i : Int} {t : Tok} (a : PySem.W.nsIn K mainGlobals x = some (some (.int i t))) : ∃ t, PySem.W.nsIn K mainGlobals x = some (some (.int i t)) := ⟨t, a⟩
theorem every_ex {aE : Addr} {oE : Obj} {n : Nat} (a : PySem.W.nsIn K mainGlobals x = some (some (.ref aE))) (l : K.lookup aE = some oE) (c : oE.cls = .type "tuple") (d : oE.data = .seq #[.none, .none, .none, .none] n) :
    ∃ aE, PySem.W.nsIn K mainGlobals x = some (some (.ref aE)) ∧ ∀ H, SqT K H aE (rcL all4) :=
  ⟨aE, a, fun H => .inr ⟨oE, #[.none, .none, .none, .none], n, l, c, d, by show 4 ≤ sizeLine; decide, .cons rfl (.cons rfl (.cons rfl (.cons rfl .nil)))⟩⟩
def skB (es : Array DictEntry) : Bool := es.toList.all fun e => match e.key with
  | .str _ _ => true
  | _ => false
theorem ne_ex {f : Addr} {nm q : Str} {N : Addr} {bs : List Value} {hdct : Bool} {sn : List Str} {sub : List Value} {ab : Bool} {col : Option Bool} {dd : Option Addr} {k0 k1 k2 k3 k5 : Option Value} {newId : String} {no : Obj} {es : Array DictEntry} {ep : Nat}
    (l : K.lookup C = some (excClassObj nm q C N bs [.type "object"] hdct sn sub ab col dd k0 k1 k2 k3 k5 newId)) (n : K.lookup N = some no) (d : no.data = .dict es ep) (s : skB es = true) (a : PySem.W.findIn K (.ref C) "__eq__" = some (some (.ref f))) (e : nsFind es "__eq__" = some (.ref f)) (o : nsFind es "__ne__" = none) : NeC K C := by
  refine ⟨f, nm, q, N, bs, hdct, sn, sub, ab, col, dd, k0, k1, k2, k3, k5, newId, no, es, ep, l, n, d, fun y hy => ?_, e, o, a⟩
  have z := List.all_eq_true.mp s y (Array.mem_toList_iff.mpr hy)
  split at z
  · exact ⟨_, _, by assumption⟩
  · cases z
theorem binds_d {fd : FuncData} {ps : List Str} {dvs : List V} (F : C8.Fun K x q st f fd) (kp : PySem.W.keepIn K (.ref f) = true) (hd : DflV K fd.defaults dvs) (n j : Nat) (hne : dvs ≠ []) (hn : n + (dvs.length - j) = ps.length)
    (hb : ∀ (T : Addr) (kV doc pm : Value) (an : Option Addr) (cdv ct : Value) (us its : List Value), us.length = n → its.length = dvs.length →
      ∃ k, bindArgs (PySem.W.fnOf x q (C8.fnArgs st) (C8.fnBody st) (C8.fnScope st) (.ref T) kV doc pm an cdv ct) ⟨us, []⟩ = seqItems? (.ref T) >>= k ∧ k (some its.toArray) = pure (ps.zip (us ++ its.drop j))) : ∃ ds, Vals (dvs.drop j) ds ∧ Binds K fd ps ds := by
  obtain ⟨oc, od, dV, kV, doc, pm, an, cdv, ct, osl, rfl, lk, hcd⟩ := F.ex
  exact FunD.binds1 (x := x) (qual := q) (params := C8.fnArgs st) (body := C8.fnBody st) (scope := C8.fnScope st) (kws := []) ⟨⟨oc, od, dV, kV, doc, pm, an, cdv, ct, osl, rfl, lk, hcd, hd, .inl rfl⟩, kp⟩ n j hne hn hb
end
theorem walkT {l : PySem.W.OpenLaw} {q : Program} {loose : List Str} {XP : (Str → Option Value) → Heap → Prop} {d : DefRec} {K : Params → PySem.W.Frag} {as ts : List Addr} {e : ∀ P, as = (K P).map (·.1)} (hn : l.most = some 63) (hdf : d.params.defaults = [])
    (F : ∀ (w : World) (mg : Str → Option Value) (fa : Addr) (h : Heap), (PySem.W.kmHook K as e ts).says w h → (K w.params).In h → h.Ns mainGlobals mg → mg d.name = some (.ref fa) → LawAtS l w (K w.params) C8.CX0 20 63 "_law_script" mg fa h) :
    PySem.W.WalkO q loose XP (PySem.W.kmHook K as e ts).says l.row.toRowW d [] (fun f vs => PySem.call f vs) :=
  walk_ofTs (n := 63) (k := 20) (x := "_law_script") (CX := fun _ => C8.CX0) hn (by decide) hdf ⟨rfl, by decide, by decide⟩ (fun _ _ Y => PySem.W.km_in_of Y) F fun _ _ _ _ _ z => z
theorem facts {l : PySem.W.OpenLaw} {w : World} {K : PySem.W.Frag} {h : Heap} {mg : Str → Option Value} {fa C P_halves P_Forest_search P_law_stretched_right : Addr} (X : K.In h) (G : h.Ns mainGlobals mg) (hfa : mg "law" = some (.ref fa))
   (aC : PySem.W.nsIn K mainGlobals "Forest" = some (some (.ref C)))
   (zlen : PySem.W.nsIn K mainGlobals "len" = some none)
   (zabs : PySem.W.nsIn K mainGlobals "abs" = some none)
   (zsum : PySem.W.nsIn K mainGlobals "sum" = some none)
   (zall : PySem.W.nsIn K mainGlobals "all" = some none)
   (zmax : PySem.W.nsIn K mainGlobals "max" = some none)
   (zsorted : PySem.W.nsIn K mainGlobals "sorted" = some none)
   (zisinstance : PySem.W.nsIn K mainGlobals "isinstance" = some none)
   (zint : PySem.W.nsIn K mainGlobals "int" = some none)
   (zbool : PySem.W.nsIn K mainGlobals "bool" = some none)
   (zlist : PySem.W.nsIn K mainGlobals "list" = some none)
   (ztuple : PySem.W.nsIn K mainGlobals "tuple" = some none)
   (zrange : PySem.W.nsIn K mainGlobals "range" = some none)
   (zenumerate : PySem.W.nsIn K mainGlobals "enumerate" = some none)
   (mMAX_COORDINATE : ∃ t, PySem.W.nsIn K mainGlobals "MAX_COORDINATE" = some (some (.int (10 ^ 30) t)))
   (mMAX_BOUND : ∃ t, PySem.W.nsIn K mainGlobals "MAX_BOUND" = some (some (.int (10 ^ 31) t)))
   (mMAX_POINTS : ∃ t, PySem.W.nsIn K mainGlobals "MAX_POINTS" = some (some (.int 500 t)))
   (mMOST_COUNT : ∃ t, PySem.W.nsIn K mainGlobals "MOST_COUNT" = some (some (.int (10 ^ 30) t)))
   (mE : ∃ aE, PySem.W.nsIn K mainGlobals "EVERYWHERE" = some (some (.ref aE)) ∧ ∀ H, SqT K H aE (rcL all4))
   (pg : PySem.W.plainGet K C Str.empty = true)
   (hd : PySem.W.hasDictIn K C = true)
   (po : PySem.W.plainOver K C = true)
   (sa : PySem.W.findIn K (.ref C) "__setattr__" = some (some (.builtin "object.__setattr__")))
   (nplaces : PySem.W.findIn K (.ref C) "places" = some none)
   (nknown : PySem.W.findIn K (.ref C) "known" = some none)
   (ntotal : PySem.W.findIn K (.ref C) "total" = some none)
   (tI : PySem.W.kitOne K (.ref C) (.ref C) = some true)
   (tN : NeC K C)
   (t1 : PySem.W.findIn K (.ref C) "__class__" = some (some (.builtin "object.__class__")))
   (t2 : PySem.W.specialIn K (.builtin "object.__class__") "__get__" = some (some (.builtin "getset_descriptor.__get__")))
   (t3 : PySem.W.takesIn K (.builtin "object.__class__") = some true)
   (t4 : PySem.W.mroIn K C (.type "object") = some true)
   (d_is_integer : ∃ f fd, C8.Def K mg "is_integer" s_is_integer f fd ∧ fd.defaults = .none)
   (d_is_between : ∃ f fd, C8.Def K mg "is_between" s_is_between f fd ∧ fd.defaults = .none)
   (d_is_coordinate : ∃ f fd, C8.Def K mg "is_coordinate" s_is_coordinate f fd ∧ fd.defaults = .none)
   (d_is_point : ∃ f fd, C8.Def K mg "is_point" s_is_point f fd ∧ fd.defaults = .none)
   (d_require_number : ∃ f fd, C8.Def K mg "require_number" s_require_number f fd ∧ fd.defaults = .none)
   (d_require_point : ∃ f fd, C8.Def K mg "require_point" s_require_point f fd ∧ fd.defaults = .none)
   (d_key_of : ∃ f fd, C8.Def K mg "key_of" s_key_of f fd ∧ fd.defaults = .none)
   (d_holds : ∃ f fd, C8.Def K mg "holds" s_holds f fd ∧ fd.defaults = .none)
   (d_meets_low : ∃ f fd, C8.Def K mg "meets_low" s_meets_low f fd ∧ fd.defaults = .none)
   (d_meets_high : ∃ f fd, C8.Def K mg "meets_high" s_meets_high f fd ∧ fd.defaults = .none)
   (d_gap_to : ∃ f fd, C8.Def K mg "gap_to" s_gap_to f fd ∧ fd.defaults = .none)
   (d_gap_of : ∃ f fd, C8.Def K mg "gap_of" s_gap_of f fd ∧ fd.defaults = .none)
   (d_cut : ∃ f fd, C8.Def K mg "cut" s_cut f fd ∧ fd.defaults = .none)
   (d_covers : ∃ f fd, C8.Def K mg "covers" s_covers f fd ∧ fd.defaults = .none)
   (d_is_interval : ∃ f fd, C8.Def K mg "is_interval" s_is_interval f fd ∧ fd.defaults = .none)
   (d_is_rectangle : ∃ f fd, C8.Def K mg "is_rectangle" s_is_rectangle f fd ∧ fd.defaults = .none)
   (d_require_rectangle : ∃ f fd, C8.Def K mg "require_rectangle" s_require_rectangle f fd ∧ fd.defaults = .none)
   (d_require_points : ∃ f fd, C8.Def K mg "require_points" s_require_points f fd ∧ DflV K fd.defaults [.int 500, .int 0])
   (d_halves : ∃ f fd c, C8.Def K mg "halves" s_halves f fd ∧ fd.defaults = .none ∧ Maker K h fd c P_halves)
   (d_built_from : ∃ f fd, C8.Def K mg "built_from" s_built_from f fd ∧ fd.defaults = .none)
   (d_is_node : ∃ f fd, C8.Def K mg "is_node" s_is_node f fd ∧ fd.defaults = .none)
   (d_fits : ∃ f fd, C8.Def K mg "fits" s_fits f fd ∧ fd.defaults = .none)
   (d_read : ∃ f fd, C8.Def K mg "read" s_read f fd ∧ fd.defaults = .none)
   (d_require_middle : ∃ f fd, C8.Def K mg "require_middle" s_require_middle f fd ∧ DflV K fd.defaults [.int 500])
   (d_is_middle : ∃ f fd, C8.Def K mg "is_middle" s_is_middle f fd ∧ fd.defaults = .none)
   (d_in_order : ∃ f fd, C8.Def K mg "in_order" s_in_order f fd ∧ fd.defaults = .none)
   (d_height_of : ∃ f fd, C8.Def K mg "height_of" s_height_of f fd ∧ fd.defaults = .none)
   (d_is_even : ∃ f fd, C8.Def K mg "is_even" s_is_even f fd ∧ fd.defaults = .none)
   (d_entered : ∃ f fd, C8.Def K mg "entered" s_entered f fd ∧ fd.defaults = .none)
   (d_found_in : ∃ f fd, C8.Def K mg "found_in" s_found_in f fd ∧ fd.defaults = .none)
   (d_middle_counted : ∃ f fd, C8.Def K mg "middle_counted" s_middle_counted f fd ∧ fd.defaults = .none)
   (d_cost_of : ∃ f fd, C8.Def K mg "cost_of" s_cost_of f fd ∧ fd.defaults = .none)
   (d_Forest_points : ∃ f fd, Meth K C "points" f ∧ C8.Fun K "points" "Forest.points" s_Forest_points f fd ∧ fd.defaults = .none)
   (d_Forest_gone : ∃ f fd, Meth K C "gone" f ∧ C8.Fun K "gone" "Forest.gone" s_Forest_gone f fd ∧ fd.defaults = .none)
   (d_Forest_trees : ∃ f fd, Meth K C "trees" f ∧ C8.Fun K "trees" "Forest.trees" s_Forest_trees f fd ∧ fd.defaults = .none)
   (d_Forest_moved : ∃ f fd, Meth K C "moved" f ∧ C8.Fun K "moved" "Forest.moved" s_Forest_moved f fd ∧ fd.defaults = .none)
   (d_Forest_eq : ∃ f fd, Meth K C "__eq__" f ∧ C8.Fun K "__eq__" "Forest.__eq__" s_Forest_eq f fd ∧ fd.defaults = .none)
   (d_Forest_put : ∃ f fd, Meth K C "put" f ∧ C8.Fun K "put" "Forest.put" s_Forest_put f fd ∧ fd.defaults = .none)
   (d_Forest_init : ∃ f fd e, Mk K C f ∧ PySem.W.keepIn K (.ref f) = true ∧ C8.Fun K "__init__" "Forest.__init__" s_Forest_init f fd ∧ DflV K fd.defaults [.ref e])
   (d_Forest_make : ∃ f fd, Meth K C "make" f ∧ C8.Fun K "make" "Forest.make" s_Forest_make f fd ∧ fd.defaults = .none)
   (d_Forest_take : ∃ f fd, Meth K C "take" f ∧ C8.Fun K "take" "Forest.take" s_Forest_take f fd ∧ fd.defaults = .none)
   (d_Forest_ranged : ∃ f fd, Meth K C "ranged" f ∧ C8.Fun K "ranged" "Forest.ranged" s_Forest_ranged f fd ∧ fd.defaults = .none)
   (d_Forest_counted : ∃ f fd, Meth K C "counted" f ∧ C8.Fun K "counted" "Forest.counted" s_Forest_counted f fd ∧ fd.defaults = .none)
   (d_Forest_search : ∃ f fd c, Meth K C "search" f ∧ C8.Fun K "search" "Forest.search" s_Forest_search f fd ∧ fd.defaults = .none ∧ Maker K h fd c P_Forest_search)
   (d_Forest_nearest : ∃ f fd, Meth K C "nearest" f ∧ C8.Fun K "nearest" "Forest.nearest" s_Forest_nearest f fd ∧ fd.defaults = .none)
   (d_law_mixed : ∃ f fd, C8.Def K mg "_law_mixed" s_law_mixed f fd ∧ fd.defaults = .none)
   (d_law_source : ∃ f fd, C8.Def K mg "_law_source" s_law_source f fd ∧ fd.defaults = .none)
   (d_law_take : ∃ f fd, C8.Def K mg "_law_take" s_law_take f fd ∧ fd.defaults = .none)
   (d_law_pick : ∃ f fd, C8.Def K mg "_law_pick" s_law_pick f fd ∧ fd.defaults = .none)
   (d_law_spots : ∃ f fd, C8.Def K mg "_law_spots" s_law_spots f fd ∧ fd.defaults = .none)
   (d_law_end : ∃ f fd, C8.Def K mg "_law_end" s_law_end f fd ∧ fd.defaults = .none)
   (d_law_area : ∃ f fd, C8.Def K mg "_law_area" s_law_area f fd ∧ fd.defaults = .none)
   (d_law_holds : ∃ f fd, C8.Def K mg "_law_holds" s_law_holds f fd ∧ fd.defaults = .none)
   (d_law_far : ∃ f fd, C8.Def K mg "_law_far" s_law_far f fd ∧ fd.defaults = .none)
   (d_law_shape_right : ∃ f fd, C8.Def K mg "_law_shape_right" s_law_shape_right f fd ∧ fd.defaults = .none)
   (d_law_found_right : ∃ f fd, C8.Def K mg "_law_found_right" s_law_found_right f fd ∧ fd.defaults = .none)
   (d_law_deeds_right : ∃ f fd, C8.Def K mg "_law_deeds_right" s_law_deeds_right f fd ∧ fd.defaults = .none)
   (d_law_blocks_right : ∃ f fd, C8.Def K mg "_law_blocks_right" s_law_blocks_right f fd ∧ fd.defaults = .none)
   (d_law_stretched_right : ∃ f fd c, C8.Def K mg "_law_stretched_right" s_law_stretched_right f fd ∧ fd.defaults = .none ∧ Maker K h fd c P_law_stretched_right)
   (d_law : ∃ f fd, C8.Def K mg "law" s_law f fd ∧ fd.defaults = .none)
   (x_P_halves_P_Forest_search : P_halves ≠ P_Forest_search)
   (x_P_halves_P_law_stretched_right : P_halves ≠ P_law_stretched_right)
   (x_P_Forest_search_P_law_stretched_right : P_Forest_search ≠ P_law_stretched_right)
   : LawAtS l w K C8.CX0 20 63 "_law_script" mg fa h := by
  obtain ⟨aE, mE1, mE2⟩ := mE
  obtain ⟨tMAX_COORDINATE, mMAX_COORDINATE⟩ := mMAX_COORDINATE
  obtain ⟨tMAX_BOUND, mMAX_BOUND⟩ := mMAX_BOUND
  obtain ⟨tMAX_POINTS, mMAX_POINTS⟩ := mMAX_POINTS
  obtain ⟨tMOST_COUNT, mMOST_COUNT⟩ := mMOST_COUNT
  have hForest := PySem.W.mg_of X G aC
  have T : Txt K mg aE C := ⟨PySem.W.mg_none_of X G zlen, PySem.W.mg_none_of X G zabs, PySem.W.mg_none_of X G zsum, PySem.W.mg_none_of X G zall, PySem.W.mg_none_of X G zmax, PySem.W.mg_none_of X G zsorted, PySem.W.mg_none_of X G zisinstance, PySem.W.mg_none_of X G zint, PySem.W.mg_none_of X G zbool, PySem.W.mg_none_of X G zlist, PySem.W.mg_none_of X G ztuple, PySem.W.mg_none_of X G zrange, PySem.W.mg_none_of X G zenumerate, ⟨_, PySem.W.mg_of X G mMAX_COORDINATE, ⟨tMAX_COORDINATE, rfl⟩⟩, ⟨_, PySem.W.mg_of X G mMAX_BOUND, ⟨tMAX_BOUND, rfl⟩⟩, ⟨_, PySem.W.mg_of X G mMAX_POINTS, ⟨tMAX_POINTS, rfl⟩⟩, ⟨_, PySem.W.mg_of X G mMOST_COUNT, ⟨tMOST_COUNT, rfl⟩⟩, ⟨_, PySem.W.mg_of X G mE1, rfl⟩, mE2, ⟨_, hForest, rfl⟩, ⟨pg, hd, po, sa⟩, nplaces, nknown, ntotal⟩
  have TF : TxF K C := ⟨tI, tN, t1, t2, t3, t4⟩
  obtain ⟨f_is_integer, fd_is_integer, F_is_integer, n_is_integer⟩ := d_is_integer
  have b_is_integer := C8.Fun.binds F_is_integer.fn n_is_integer (ps := ["value"]) fun _ _ _ _ _ _ us hl => match us, hl with | [_], _ => rfl
  obtain ⟨f_is_between, fd_is_between, F_is_between, n_is_between⟩ := d_is_between
  have b_is_between := C8.Fun.binds F_is_between.fn n_is_between (ps := ["value", "low", "high"]) fun _ _ _ _ _ _ us hl => match us, hl with | [_, _, _], _ => rfl
  obtain ⟨f_is_coordinate, fd_is_coordinate, F_is_coordinate, n_is_coordinate⟩ := d_is_coordinate
  have b_is_coordinate := C8.Fun.binds F_is_coordinate.fn n_is_coordinate (ps := ["value"]) fun _ _ _ _ _ _ us hl => match us, hl with | [_], _ => rfl
  obtain ⟨f_is_point, fd_is_point, F_is_point, n_is_point⟩ := d_is_point
  have b_is_point := C8.Fun.binds F_is_point.fn n_is_point (ps := ["value"]) fun _ _ _ _ _ _ us hl => match us, hl with | [_], _ => rfl
  obtain ⟨f_require_number, fd_require_number, F_require_number, n_require_number⟩ := d_require_number
  have b_require_number := C8.Fun.binds F_require_number.fn n_require_number (ps := ["name", "value", "low", "high"]) fun _ _ _ _ _ _ us hl => match us, hl with | [_, _, _, _], _ => rfl
  obtain ⟨f_require_point, fd_require_point, F_require_point, n_require_point⟩ := d_require_point
  have b_require_point := C8.Fun.binds F_require_point.fn n_require_point (ps := ["value"]) fun _ _ _ _ _ _ us hl => match us, hl with | [_], _ => rfl
  obtain ⟨f_key_of, fd_key_of, F_key_of, n_key_of⟩ := d_key_of
  have b_key_of := C8.Fun.binds F_key_of.fn n_key_of (ps := ["point", "axis"]) fun _ _ _ _ _ _ us hl => match us, hl with | [_, _], _ => rfl
  obtain ⟨f_holds, fd_holds, F_holds, n_holds⟩ := d_holds
  have b_holds := C8.Fun.binds F_holds.fn n_holds (ps := ["rectangle", "point"]) fun _ _ _ _ _ _ us hl => match us, hl with | [_, _], _ => rfl
  obtain ⟨f_meets_low, fd_meets_low, F_meets_low, n_meets_low⟩ := d_meets_low
  have b_meets_low := C8.Fun.binds F_meets_low.fn n_meets_low (ps := ["rectangle", "axis", "bound"]) fun _ _ _ _ _ _ us hl => match us, hl with | [_, _, _], _ => rfl
  obtain ⟨f_meets_high, fd_meets_high, F_meets_high, n_meets_high⟩ := d_meets_high
  have b_meets_high := C8.Fun.binds F_meets_high.fn n_meets_high (ps := ["rectangle", "axis", "bound"]) fun _ _ _ _ _ _ us hl => match us, hl with | [_, _, _], _ => rfl
  obtain ⟨f_gap_to, fd_gap_to, F_gap_to, n_gap_to⟩ := d_gap_to
  have b_gap_to := C8.Fun.binds F_gap_to.fn n_gap_to (ps := ["point", "other"]) fun _ _ _ _ _ _ us hl => match us, hl with | [_, _], _ => rfl
  obtain ⟨f_gap_of, fd_gap_of, F_gap_of, n_gap_of⟩ := d_gap_of
  have b_gap_of := C8.Fun.binds F_gap_of.fn n_gap_of (ps := ["point", "rectangle"]) fun _ _ _ _ _ _ us hl => match us, hl with | [_, _], _ => rfl
  obtain ⟨f_cut, fd_cut, F_cut, n_cut⟩ := d_cut
  have b_cut := C8.Fun.binds F_cut.fn n_cut (ps := ["rectangle", "axis", "bound", "is_high"]) fun _ _ _ _ _ _ us hl => match us, hl with | [_, _, _, _], _ => rfl
  obtain ⟨f_covers, fd_covers, F_covers, n_covers⟩ := d_covers
  have b_covers := C8.Fun.binds F_covers.fn n_covers (ps := ["rectangle", "other"]) fun _ _ _ _ _ _ us hl => match us, hl with | [_, _], _ => rfl
  obtain ⟨f_is_interval, fd_is_interval, F_is_interval, n_is_interval⟩ := d_is_interval
  have b_is_interval := C8.Fun.binds F_is_interval.fn n_is_interval (ps := ["low", "high"]) fun _ _ _ _ _ _ us hl => match us, hl with | [_, _], _ => rfl
  obtain ⟨f_is_rectangle, fd_is_rectangle, F_is_rectangle, n_is_rectangle⟩ := d_is_rectangle
  have b_is_rectangle := C8.Fun.binds F_is_rectangle.fn n_is_rectangle (ps := ["value"]) fun _ _ _ _ _ _ us hl => match us, hl with | [_], _ => rfl
  obtain ⟨f_require_rectangle, fd_require_rectangle, F_require_rectangle, n_require_rectangle⟩ := d_require_rectangle
  have b_require_rectangle := C8.Fun.binds F_require_rectangle.fn n_require_rectangle (ps := ["value"]) fun _ _ _ _ _ _ us hl => match us, hl with | [_], _ => rfl
  obtain ⟨f_require_points, fd_require_points, F_require_points, n_require_points⟩ := d_require_points
  obtain ⟨ds_require_points, v_require_points, b_require_points⟩ := binds_d (ps := ["value", "most", "least"]) F_require_points.fn F_require_points.kp n_require_points 1 0 (by simp) rfl fun _ _ _ _ _ _ _ us its hu hi => match us, hu, its, hi with | [_], _, [_, _], _ => ⟨_, rfl, rfl⟩
  obtain ⟨f_halves, fd_halves, z_halves, F_halves, n_halves, y_halves⟩ := d_halves
  have b_halves := C8.Fun.binds F_halves.fn n_halves (ps := ["points", "axis"]) fun _ _ _ _ _ _ us hl => match us, hl with | [_, _], _ => rfl
  obtain ⟨f_built_from, fd_built_from, F_built_from, n_built_from⟩ := d_built_from
  have b_built_from := C8.Fun.binds F_built_from.fn n_built_from (ps := ["points", "axis"]) fun _ _ _ _ _ _ us hl => match us, hl with | [_, _], _ => rfl
  obtain ⟨f_is_node, fd_is_node, F_is_node, n_is_node⟩ := d_is_node
  have b_is_node := C8.Fun.binds F_is_node.fn n_is_node (ps := ["value"]) fun _ _ _ _ _ _ us hl => match us, hl with | [_], _ => rfl
  obtain ⟨f_fits, fd_fits, F_fits, n_fits⟩ := d_fits
  have b_fits := C8.Fun.binds F_fits.fn n_fits (ps := ["point", "bounds"]) fun _ _ _ _ _ _ us hl => match us, hl with | [_, _], _ => rfl
  obtain ⟨f_read, fd_read, F_read, n_read⟩ := d_read
  have b_read := C8.Fun.binds F_read.fn n_read (ps := ["tree"]) fun _ _ _ _ _ _ us hl => match us, hl with | [_], _ => rfl
  obtain ⟨f_require_middle, fd_require_middle, F_require_middle, n_require_middle⟩ := d_require_middle
  obtain ⟨ds_require_middle, v_require_middle, b_require_middle⟩ := binds_d (ps := ["value", "most"]) F_require_middle.fn F_require_middle.kp n_require_middle 1 0 (by simp) rfl fun _ _ _ _ _ _ _ us its hu hi => match us, hu, its, hi with | [_], _, [_], _ => ⟨_, rfl, rfl⟩
  obtain ⟨f_is_middle, fd_is_middle, F_is_middle, n_is_middle⟩ := d_is_middle
  have b_is_middle := C8.Fun.binds F_is_middle.fn n_is_middle (ps := ["value"]) fun _ _ _ _ _ _ us hl => match us, hl with | [_], _ => rfl
  obtain ⟨f_in_order, fd_in_order, F_in_order, n_in_order⟩ := d_in_order
  have b_in_order := C8.Fun.binds F_in_order.fn n_in_order (ps := ["tree"]) fun _ _ _ _ _ _ us hl => match us, hl with | [_], _ => rfl
  obtain ⟨f_height_of, fd_height_of, F_height_of, n_height_of⟩ := d_height_of
  have b_height_of := C8.Fun.binds F_height_of.fn n_height_of (ps := ["tree"]) fun _ _ _ _ _ _ us hl => match us, hl with | [_], _ => rfl
  obtain ⟨f_is_even, fd_is_even, F_is_even, n_is_even⟩ := d_is_even
  have b_is_even := C8.Fun.binds F_is_even.fn n_is_even (ps := ["tree"]) fun _ _ _ _ _ _ us hl => match us, hl with | [_], _ => rfl
  obtain ⟨f_entered, fd_entered, F_entered, n_entered⟩ := d_entered
  have b_entered := C8.Fun.binds F_entered.fn n_entered (ps := ["one", "axis", "rectangle"]) fun _ _ _ _ _ _ us hl => match us, hl with | [_, _, _], _ => rfl
  obtain ⟨f_found_in, fd_found_in, F_found_in, n_found_in⟩ := d_found_in
  have b_found_in := C8.Fun.binds F_found_in.fn n_found_in (ps := ["tree", "rectangle"]) fun _ _ _ _ _ _ us hl => match us, hl with | [_, _], _ => rfl
  obtain ⟨f_middle_counted, fd_middle_counted, F_middle_counted, n_middle_counted⟩ := d_middle_counted
  have b_middle_counted := C8.Fun.binds F_middle_counted.fn n_middle_counted (ps := ["tree", "rectangle"]) fun _ _ _ _ _ _ us hl => match us, hl with | [_, _], _ => rfl
  obtain ⟨f_cost_of, fd_cost_of, F_cost_of, n_cost_of⟩ := d_cost_of
  have b_cost_of := C8.Fun.binds F_cost_of.fn n_cost_of (ps := ["many"]) fun _ _ _ _ _ _ us hl => match us, hl with | [_], _ => rfl
  obtain ⟨f_Forest_points, fd_Forest_points, e_Forest_points, F_Forest_points, n_Forest_points⟩ := d_Forest_points
  have b_Forest_points := C8.Fun.binds F_Forest_points n_Forest_points (ps := ["self"]) fun _ _ _ _ _ _ us hl => match us, hl with | [_], _ => rfl
  obtain ⟨f_Forest_gone, fd_Forest_gone, e_Forest_gone, F_Forest_gone, n_Forest_gone⟩ := d_Forest_gone
  have b_Forest_gone := C8.Fun.binds F_Forest_gone n_Forest_gone (ps := ["self"]) fun _ _ _ _ _ _ us hl => match us, hl with | [_], _ => rfl
  obtain ⟨f_Forest_trees, fd_Forest_trees, e_Forest_trees, F_Forest_trees, n_Forest_trees⟩ := d_Forest_trees
  have b_Forest_trees := C8.Fun.binds F_Forest_trees n_Forest_trees (ps := ["self"]) fun _ _ _ _ _ _ us hl => match us, hl with | [_], _ => rfl
  obtain ⟨f_Forest_moved, fd_Forest_moved, e_Forest_moved, F_Forest_moved, n_Forest_moved⟩ := d_Forest_moved
  have b_Forest_moved := C8.Fun.binds F_Forest_moved n_Forest_moved (ps := ["self"]) fun _ _ _ _ _ _ us hl => match us, hl with | [_], _ => rfl
  obtain ⟨f_Forest_eq, fd_Forest_eq, e_Forest_eq, F_Forest_eq, n_Forest_eq⟩ := d_Forest_eq
  have b_Forest_eq := C8.Fun.binds F_Forest_eq n_Forest_eq (ps := ["self", "other"]) fun _ _ _ _ _ _ us hl => match us, hl with | [_, _], _ => rfl
  obtain ⟨f_Forest_put, fd_Forest_put, e_Forest_put, F_Forest_put, n_Forest_put⟩ := d_Forest_put
  have b_Forest_put := C8.Fun.binds F_Forest_put n_Forest_put (ps := ["self", "point"]) fun _ _ _ _ _ _ us hl => match us, hl with | [_, _], _ => rfl
  obtain ⟨f_Forest_init, fd_Forest_init, _, e_Forest_init, k_Forest_init, F_Forest_init, n_Forest_init⟩ := d_Forest_init
  obtain ⟨ds_Forest_init, v_Forest_init, b_Forest_init⟩ := binds_d (ps := ["self", "points"]) F_Forest_init k_Forest_init n_Forest_init 2 1 (by simp) rfl fun _ _ _ _ _ _ _ us its hu hi => match us, hu, its, hi with | [_, _], _, [_], _ => ⟨_, rfl, rfl⟩
  obtain rfl : ds_Forest_init = [] := by cases v_Forest_init; rfl
  obtain ⟨f_Forest_make, fd_Forest_make, e_Forest_make, F_Forest_make, n_Forest_make⟩ := d_Forest_make
  have b_Forest_make := C8.Fun.binds F_Forest_make n_Forest_make (ps := ["self", "points"]) fun _ _ _ _ _ _ us hl => match us, hl with | [_, _], _ => rfl
  obtain ⟨f_Forest_take, fd_Forest_take, e_Forest_take, F_Forest_take, n_Forest_take⟩ := d_Forest_take
  have b_Forest_take := C8.Fun.binds F_Forest_take n_Forest_take (ps := ["self", "point"]) fun _ _ _ _ _ _ us hl => match us, hl with | [_, _], _ => rfl
  obtain ⟨f_Forest_ranged, fd_Forest_ranged, e_Forest_ranged, F_Forest_ranged, n_Forest_ranged⟩ := d_Forest_ranged
  have b_Forest_ranged := C8.Fun.binds F_Forest_ranged n_Forest_ranged (ps := ["self", "rectangle"]) fun _ _ _ _ _ _ us hl => match us, hl with | [_, _], _ => rfl
  obtain ⟨f_Forest_counted, fd_Forest_counted, e_Forest_counted, F_Forest_counted, n_Forest_counted⟩ := d_Forest_counted
  have b_Forest_counted := C8.Fun.binds F_Forest_counted n_Forest_counted (ps := ["self", "rectangle"]) fun _ _ _ _ _ _ us hl => match us, hl with | [_, _], _ => rfl
  obtain ⟨f_Forest_search, fd_Forest_search, z_Forest_search, e_Forest_search, F_Forest_search, n_Forest_search, y_Forest_search⟩ := d_Forest_search
  have b_Forest_search := C8.Fun.binds F_Forest_search n_Forest_search (ps := ["self", "tree", "point", "best", "visited"]) fun _ _ _ _ _ _ us hl => match us, hl with | [_, _, _, _, _], _ => rfl
  obtain ⟨f_Forest_nearest, fd_Forest_nearest, e_Forest_nearest, F_Forest_nearest, n_Forest_nearest⟩ := d_Forest_nearest
  have b_Forest_nearest := C8.Fun.binds F_Forest_nearest n_Forest_nearest (ps := ["self", "point"]) fun _ _ _ _ _ _ us hl => match us, hl with | [_, _], _ => rfl
  obtain ⟨f_law_mixed, fd_law_mixed, F_law_mixed, n_law_mixed⟩ := d_law_mixed
  have b_law_mixed := C8.Fun.binds F_law_mixed.fn n_law_mixed (ps := ["_law_seed", "_law_draw"]) fun _ _ _ _ _ _ us hl => match us, hl with | [_, _], _ => rfl
  obtain ⟨f_law_source, fd_law_source, F_law_source, n_law_source⟩ := d_law_source
  have b_law_source := C8.Fun.binds F_law_source.fn n_law_source (ps := ["_law_seed"]) fun _ _ _ _ _ _ us hl => match us, hl with | [_], _ => rfl
  obtain ⟨f_law_take, fd_law_take, F_law_take, n_law_take⟩ := d_law_take
  have b_law_take := C8.Fun.binds F_law_take.fn n_law_take (ps := ["_law_source_here", "_law_bound"]) fun _ _ _ _ _ _ us hl => match us, hl with | [_, _], _ => rfl
  obtain ⟨f_law_pick, fd_law_pick, F_law_pick, n_law_pick⟩ := d_law_pick
  have b_law_pick := C8.Fun.binds F_law_pick.fn n_law_pick (ps := ["_law_source_here", "_law_some"]) fun _ _ _ _ _ _ us hl => match us, hl with | [_, _], _ => rfl
  obtain ⟨f_law_spots, fd_law_spots, F_law_spots, n_law_spots⟩ := d_law_spots
  have b_law_spots := C8.Fun.binds F_law_spots.fn n_law_spots (ps := ["_law_source_here", "_law_most"]) fun _ _ _ _ _ _ us hl => match us, hl with | [_, _], _ => rfl
  obtain ⟨f_law_end, fd_law_end, F_law_end, n_law_end⟩ := d_law_end
  have b_law_end := C8.Fun.binds F_law_end.fn n_law_end (ps := ["_law_source_here", "_law_spots_here", "_law_lane"]) fun _ _ _ _ _ _ us hl => match us, hl with | [_, _, _], _ => rfl
  obtain ⟨f_law_area, fd_law_area, F_law_area, n_law_area⟩ := d_law_area
  have b_law_area := C8.Fun.binds F_law_area.fn n_law_area (ps := ["_law_source_here", "_law_spots_here"]) fun _ _ _ _ _ _ us hl => match us, hl with | [_, _], _ => rfl
  obtain ⟨f_law_holds, fd_law_holds, F_law_holds, n_law_holds⟩ := d_law_holds
  have b_law_holds := C8.Fun.binds F_law_holds.fn n_law_holds (ps := ["_law_zone", "_law_spot"]) fun _ _ _ _ _ _ us hl => match us, hl with | [_, _], _ => rfl
  obtain ⟨f_law_far, fd_law_far, F_law_far, n_law_far⟩ := d_law_far
  have b_law_far := C8.Fun.binds F_law_far.fn n_law_far (ps := ["_law_spot", "_law_one"]) fun _ _ _ _ _ _ us hl => match us, hl with | [_, _], _ => rfl
  obtain ⟨f_law_shape_right, fd_law_shape_right, F_law_shape_right, n_law_shape_right⟩ := d_law_shape_right
  have b_law_shape_right := C8.Fun.binds F_law_shape_right.fn n_law_shape_right (ps := ["_law_wald"]) fun _ _ _ _ _ _ us hl => match us, hl with | [_], _ => rfl
  obtain ⟨f_law_found_right, fd_law_found_right, F_law_found_right, n_law_found_right⟩ := d_law_found_right
  have b_law_found_right := C8.Fun.binds F_law_found_right.fn n_law_found_right (ps := ["_law_source_here", "_law_wald", "_law_spots_here"]) fun _ _ _ _ _ _ us hl => match us, hl with | [_, _, _], _ => rfl
  obtain ⟨f_law_deeds_right, fd_law_deeds_right, F_law_deeds_right, n_law_deeds_right⟩ := d_law_deeds_right
  have b_law_deeds_right := C8.Fun.binds F_law_deeds_right.fn n_law_deeds_right (ps := ["_law_source_here", "_law_spots_here"]) fun _ _ _ _ _ _ us hl => match us, hl with | [_, _], _ => rfl
  obtain ⟨f_law_blocks_right, fd_law_blocks_right, F_law_blocks_right, n_law_blocks_right⟩ := d_law_blocks_right
  have b_law_blocks_right := C8.Fun.binds F_law_blocks_right.fn n_law_blocks_right (ps := ["_law_source_here", "_law_spots_here"]) fun _ _ _ _ _ _ us hl => match us, hl with | [_, _], _ => rfl
  obtain ⟨f_law_stretched_right, fd_law_stretched_right, z_law_stretched_right, F_law_stretched_right, n_law_stretched_right, y_law_stretched_right⟩ := d_law_stretched_right
  have b_law_stretched_right := C8.Fun.binds F_law_stretched_right.fn n_law_stretched_right (ps := ["_law_source_here", "_law_spots_here"]) fun _ _ _ _ _ _ us hl => match us, hl with | [_, _], _ => rfl
  obtain ⟨f_law, fd_law, F_law, n_law⟩ := d_law
  have b_law : ∀ (s : Shared) (u : Value), BindsTo s fd_law ⟨[u], []⟩ [("_law_script", u)] := by
    obtain ⟨oc, od, dV, kV, doc, pm, an, cdv, ct, osl, rfl, lk, hcd⟩ := F_law.fn.ex
    have e : dV = .none := n_law
    subst e
    exact fun s u => .of_eq rfl
  have e := hfa.symm.trans F_law.mgf
  cases e
  have TTx : ∃ TT : List (Addr × Str), TT = [(P_halves, Str.ofString "halves" ++ ".<locals>." ++ "<lambda>"), (P_Forest_search, Str.ofString "Forest.search" ++ ".<locals>." ++ "<lambda>"), (P_law_stretched_right, Str.ofString "_law_stretched_right" ++ ".<locals>." ++ "<lambda>")] := ⟨_, rfl⟩
  obtain ⟨TT, hTT⟩ := TTx
  refine ⟨fd_law, [(z_halves, P_halves), (z_Forest_search, P_Forest_search), (z_law_stretched_right, P_law_stretched_right)], spLaw K TT, ?_, ?_, ?_, b_law, ?_, fun base hK hns hTB => ?_⟩
  · intro p hp
    simp only [List.mem_cons, List.not_mem_nil, or_false] at hp
    rcases hp with rfl | rfl | rfl
    · exact y_halves.tab
    · exact y_Forest_search.tab
    · exact y_law_stretched_right.tab
  · intro p hp
    simp only [List.mem_cons, List.not_mem_nil, or_false] at hp
    rcases hp with rfl | rfl | rfl
    · exact y_halves.no
    · exact y_Forest_search.no
    · exact y_law_stretched_right.no
  · intro p hp
    simp only [List.mem_cons, List.not_mem_nil, or_false] at hp
    rcases hp with rfl | rfl | rfl
    · exact y_halves.hd
    · exact y_Forest_search.hd
    · exact y_law_stretched_right.hd
  · intro H a ns hn _ hT hS
    refine ⟨a, ns, rfl, hS, hn, fun p hp => ?_, fun _ => rfl⟩
    rw [hTT] at hp
    simp only [List.mem_cons, List.not_mem_nil, or_false] at hp
    rcases hp with rfl | rfl | rfl
    · exact .nil (hT (z_halves, P_halves) (by simp))
    · exact .nil (hT (z_Forest_search, P_Forest_search) (by simp))
    · exact .nil (hT (z_law_stretched_right, P_law_stretched_right) (by simp))
  have mk_halves : Mkr base mg TT z_halves (Str.ofString "halves" ++ ".<locals>.") := by
    refine ⟨P_halves, hTB (z_halves, P_halves) (by simp), by rw [hTT]; simp, fun p hp hq => ?_⟩
    rw [hTT] at hp
    simp only [List.mem_cons, List.not_mem_nil, or_false] at hp
    rcases hp with rfl | rfl | rfl
    · rfl
    · exact absurd hq x_P_halves_P_Forest_search.symm
    · exact absurd hq x_P_halves_P_law_stretched_right.symm
  have mk_Forest_search : Mkr base mg TT z_Forest_search (Str.ofString "Forest.search" ++ ".<locals>.") := by
    refine ⟨P_Forest_search, hTB (z_Forest_search, P_Forest_search) (by simp), by rw [hTT]; simp, fun p hp hq => ?_⟩
    rw [hTT] at hp
    simp only [List.mem_cons, List.not_mem_nil, or_false] at hp
    rcases hp with rfl | rfl | rfl
    · exact absurd hq x_P_halves_P_Forest_search
    · rfl
    · exact absurd hq x_P_Forest_search_P_law_stretched_right.symm
  have mk_law_stretched_right : Mkr base mg TT z_law_stretched_right (Str.ofString "_law_stretched_right" ++ ".<locals>.") := by
    refine ⟨P_law_stretched_right, hTB (z_law_stretched_right, P_law_stretched_right) (by simp), by rw [hTT]; simp, fun p hp hq => ?_⟩
    rw [hTT] at hp
    simp only [List.mem_cons, List.not_mem_nil, or_false] at hp
    rcases hp with rfl | rfl | rfl
    · exact absurd hq x_P_halves_P_law_stretched_right
    · exact absurd hq x_P_Forest_search_P_law_stretched_right
    · rfl
  have c_is_integer := cal_is_integer (P := l.prog) (w := w) (base := base) F_is_integer b_is_integer T
  have c_is_between := cal_is_between (P := l.prog) (w := w) (base := base) F_is_between b_is_between c_is_integer
  have c_is_coordinate := cal_is_coordinate (P := l.prog) (w := w) (base := base) F_is_coordinate b_is_coordinate T c_is_between
  have c_is_point := cal_is_point (P := l.prog) (w := w) (base := base) F_is_point b_is_point T c_is_coordinate
  have c_require_number := cal_require_number (P := l.prog) (w := w) (base := base) F_require_number b_require_number c_is_between
  have c_require_point := cal_require_point (P := l.prog) (w := w) (base := base) F_require_point b_require_point c_is_point
  have c_key_of := cal_key_of (TT := TT) (P := l.prog) (w := w) (base := base) F_key_of b_key_of 
  have c_holds := cal_holds (TT := TT) (P := l.prog) (w := w) (base := base) F_holds b_holds 
  have c_meets_low := cal_meets_low (P := l.prog) (w := w) (base := base) F_meets_low b_meets_low 
  have c_meets_high := cal_meets_high (P := l.prog) (w := w) (base := base) F_meets_high b_meets_high 
  have c_gap_to := cal_gap_to (P := l.prog) (w := w) (base := base) F_gap_to b_gap_to 
  have c_gap_of := cal_gap_of (TT := TT) (P := l.prog) (w := w) (base := base) F_gap_of b_gap_of 
  have c_cut := cal_cut (TT := TT) (P := l.prog) (w := w) (base := base) F_cut b_cut T
  have c_covers := cal_covers (TT := TT) (P := l.prog) (w := w) (base := base) F_covers b_covers 
  have c_is_interval := cal_is_interval (TT := TT) (P := l.prog) (w := w) (base := base) F_is_interval b_is_interval T c_is_between
  have c_is_rectangle := cal_is_rectangle (P := l.prog) (w := w) (base := base) F_is_rectangle b_is_rectangle T c_is_interval
  have c_require_rectangle := cal_require_rectangle (P := l.prog) (w := w) (base := base) F_require_rectangle b_require_rectangle c_is_rectangle
  have c_require_points := cal_require_points (TT := TT) (P := l.prog) (w := w) (base := base) F_require_points b_require_points v_require_points T c_is_point
  have c_halves := cal_halves (P := l.prog) (w := w) (base := base) F_halves y_halves.code b_halves T mk_halves c_key_of
  have c_built_from := cal_built (P := l.prog) (w := w) (base := base) F_built_from b_built_from T c_halves 6
  have c_is_node := cal_is_node (P := l.prog) (w := w) (base := base) F_is_node b_is_node T c_is_point
  have c_fits := cal_fits (P := l.prog) (w := w) (base := base) F_fits b_fits c_key_of
  have c_read := cal_read (TT := TT) (P := l.prog) (w := w) (base := base) F_read b_read 
  have c_require_middle := cal_require_middle (P := l.prog) (w := w) (base := base) F_require_middle b_require_middle v_require_middle T c_is_node c_fits c_key_of c_cut
  have c_is_middle := cal_is_middle (P := l.prog) (w := w) (base := base) F_is_middle b_is_middle c_require_middle
  have c_in_order := cal_in_order (P := l.prog) (w := w) (base := base) F_in_order b_in_order c_require_middle c_read
  have c_height_of := cal_height_of (TT := TT) (P := l.prog) (w := w) (base := base) F_height_of b_height_of 
  have c_is_even := cal_is_even (P := l.prog) (w := w) (base := base) F_is_even b_is_even T c_require_middle c_read c_height_of c_built_from
  have c_entered := cal_entered (TT := TT) (P := l.prog) (w := w) (base := base) F_entered b_entered c_meets_low c_meets_high
  have c_found_in := cal_found_in (P := l.prog) (w := w) (base := base) F_found_in b_found_in c_holds c_entered
  have c_middle_counted := cal_middle_counted (P := l.prog) (w := w) (base := base) F_middle_counted b_middle_counted T c_require_middle c_require_rectangle c_covers c_read c_holds c_entered c_cut
  have c_cost_of := cal_cost_of (TT := TT) (P := l.prog) (w := w) (base := base) F_cost_of b_cost_of T c_require_number
  have m_points := met_points (TT := TT) (P := l.prog) (w := w) (base := base) e_Forest_points F_Forest_points b_Forest_points T
  have m_gone := met_gone (TT := TT) (P := l.prog) (w := w) (base := base) e_Forest_gone F_Forest_gone b_Forest_gone T
  have m_trees := met_trees (TT := TT) (P := l.prog) (w := w) (base := base) e_Forest_trees F_Forest_trees b_Forest_trees T
  have m_moved := met_moved (P := l.prog) (w := w) (base := base) e_Forest_moved F_Forest_moved b_Forest_moved T
  have m_eq := met_eq (P := l.prog) (w := w) (base := base) e_Forest_eq F_Forest_eq b_Forest_eq T TF m_gone
  have m_put := met_put (P := l.prog) (w := w) (base := base) e_Forest_put F_Forest_put b_Forest_put T c_require_point c_read c_built_from
  have c_Forest := mak_forest (ds := []) (P := l.prog) (w := w) (base := base) e_Forest_init F_Forest_init b_Forest_init hForest T c_require_points m_put
  have m_make := met_make (P := l.prog) (w := w) (base := base) e_Forest_make F_Forest_make b_Forest_make T c_built_from
  have m_take := met_take (P := l.prog) (w := w) (base := base) e_Forest_take F_Forest_take b_Forest_take T c_require_point m_gone m_points m_make
  have m_ranged := met_ranged (P := l.prog) (w := w) (base := base) e_Forest_ranged F_Forest_ranged b_Forest_ranged T c_require_rectangle c_found_in
  have m_counted := met_counted (P := l.prog) (w := w) (base := base) e_Forest_counted F_Forest_counted b_Forest_counted T c_require_rectangle c_middle_counted c_holds m_gone
  have m_search := met_search (P := l.prog) (w := w) (base := base) e_Forest_search F_Forest_search y_Forest_search.code b_Forest_search T mk_Forest_search c_gap_of c_gap_to c_cut
  have m_nearest := met_nearest (P := l.prog) (w := w) (base := base) e_Forest_nearest F_Forest_nearest b_Forest_nearest T c_require_point m_search
  have c_law_mixed := cal_law_mixed (P := l.prog) (w := w) (base := base) F_law_mixed b_law_mixed T
  have c_law_source := cal_law_source (TT := TT) (P := l.prog) (w := w) (base := base) F_law_source b_law_source T
  have c_law_take := cal_law_take (TT := TT) (P := l.prog) (w := w) (base := base) F_law_take b_law_take T c_law_mixed
  have c_law_pick := cal_law_pick (P := l.prog) (w := w) (base := base) F_law_pick b_law_pick T c_law_take
  have c_law_spots := cal_law_spots (P := l.prog) (w := w) (base := base) F_law_spots b_law_spots T c_law_take c_law_pick
  have c_law_end := cal_law_end (P := l.prog) (w := w) (base := base) F_law_end b_law_end T c_law_take c_law_pick
  have c_law_area := cal_law_area (P := l.prog) (w := w) (base := base) F_law_area b_law_area T c_law_end
  have c_law_holds := cal_law_holds (P := l.prog) (w := w) (base := base) F_law_holds b_law_holds T
  have c_law_far := cal_law_far (P := l.prog) (w := w) (base := base) F_law_far b_law_far 
  have c_law_shape_right := cal_law_shape (P := l.prog) (w := w) (base := base) F_law_shape_right b_law_shape_right T m_trees m_gone m_points c_in_order c_is_middle c_is_even
  have c_law_found_right := cal_law_found (P := l.prog) (w := w) (base := base) F_law_found_right b_law_found_right T m_points c_law_area c_law_pick c_law_holds m_ranged m_counted m_nearest c_law_far
  have c_law_deeds_right := cal_law_deeds (P := l.prog) (w := w) (base := base) F_law_deeds_right b_law_deeds_right T TF c_law_take c_law_pick c_Forest m_points m_gone m_put m_take m_eq c_law_shape_right c_law_found_right
  have c_law_blocks_right := cal_law_blocks (P := l.prog) (w := w) (base := base) F_law_blocks_right b_law_blocks_right T TF c_law_take c_Forest m_moved m_eq c_cost_of
  have c_law_stretched_right := cal_law_stretched (P := l.prog) (w := w) (base := base) F_law_stretched_right y_law_stretched_right.code b_law_stretched_right T TF mk_law_stretched_right c_law_take c_Forest c_law_area m_ranged
  exact cal_law (P := l.prog) (w := w) (base := base) F_law.fn T c_law_source c_law_spots c_law_deeds_right c_law_blocks_right c_law_stretched_right
end Wd
end
section
open PySem PySem.W PyProof.Rows
set_option maxRecDepth 100000
set_option maxHeartbeats 0
open_top wd_head for PySem.Challenge.rw_planesplits_k67_whole_forests_and_their
end
open PySem PySem.W PyProof.Rows L2 LamX NdefX Wd in
set_option maxRecDepth 100000 in
set_option maxHeartbeats 0 in
theorem PySem.Challenge.cw_planesplits_k67_whole_forests_and_their_holds : PySem.Challenge.rw_planesplits_k67_whole_forests_and_their.Holds :=
  wd_head (by
  k_fill
  refine Wd.walkT (l := PySem.Challenge.rw_planesplits_k67_whole_forests_and_their) rfl rfl ?F
  case F =>
    intro w mg fa h Y KX G hmg
    refine' Wd.facts KX G hmg ?aC ?zlen ?zabs ?zsum ?zall ?zmax ?zsorted ?zisinstance ?zint ?zbool ?zlist ?ztuple ?zrange ?zenumerate ?mMAX_COORDINATE ?mMAX_BOUND ?mMAX_POINTS ?mMOST_COUNT ?mE ?pg ?hd ?po ?sa ?nplaces ?nknown ?ntotal ?tI ?tN ?t1 ?t2 ?t3 ?t4 ?d_is_integer ?d_is_between ?d_is_coordinate ?d_is_point ?d_require_number ?d_require_point ?d_key_of ?d_holds ?d_meets_low ?d_meets_high ?d_gap_to ?d_gap_of ?d_cut ?d_covers ?d_is_interval ?d_is_rectangle ?d_require_rectangle ?d_require_points ?d_halves ?d_built_from ?d_is_node ?d_fits ?d_read ?d_require_middle ?d_is_middle ?d_in_order ?d_height_of ?d_is_even ?d_entered ?d_found_in ?d_middle_counted ?d_cost_of ?d_Forest_points ?d_Forest_gone ?d_Forest_trees ?d_Forest_moved ?d_Forest_eq ?d_Forest_put ?d_Forest_init ?d_Forest_make ?d_Forest_take ?d_Forest_ranged ?d_Forest_counted ?d_Forest_search ?d_Forest_nearest ?d_law_mixed ?d_law_source ?d_law_take ?d_law_pick ?d_law_spots ?d_law_end ?d_law_area ?d_law_holds ?d_law_far ?d_law_shape_right ?d_law_found_right ?d_law_deeds_right ?d_law_blocks_right ?d_law_stretched_right ?d_law ?x_P_halves_P_Forest_search ?x_P_halves_P_law_stretched_right ?x_P_Forest_search_P_law_stretched_right
    (case aC => k_is)
    (case zlen => k_is)
    (case zabs => k_is)
    (case zsum => k_is)
    (case zall => k_is)
    (case zmax => k_is)
    (case zsorted => k_is)
    (case zisinstance => k_is)
    (case zint => k_is)
    (case zbool => k_is)
    (case zlist => k_is)
    (case ztuple => k_is)
    (case zrange => k_is)
    (case zenumerate => k_is)
    (case mMAX_COORDINATE => refine' int_ex ?x; (case x => k_is))
    (case mMAX_BOUND => refine' int_ex ?x; (case x => k_is))
    (case mMAX_POINTS => refine' int_ex ?x; (case x => k_is))
    (case mMOST_COUNT => refine' int_ex ?x; (case x => k_is))
    (case mE => refine' every_ex ?x ?y ?z ?u; (case x => k_is); (case y => k_is); (case z => exact rfl); (case u => exact rfl))
    (case pg => k_is)
    (case hd => k_is)
    (case po => k_is)
    (case sa => k_is)
    (case nplaces => k_is)
    (case nknown => k_is)
    (case ntotal => k_is)
    (case tI => kernel_rfl)
    (case tN => refine' ne_ex ?l ?n ?d ?s ?a ?e ?o; (case l => k_is); (case n => k_is); (case d => exact rfl); (case a => k_is); (case s => kernel_rfl); (case e => kernel_rfl); (case o => kernel_rfl))
    (case t1 => k_is)
    (case t2 => k_is)
    (case t3 => k_is)
    (case t4 => k_is)
    (case d_is_integer => refine' def_ex KX G ?a ?l ?c ?k; (case a => k_is); (case l => k_is); (case c => k_is); (case k => k_is))
    (case d_is_between => refine' def_ex KX G ?a ?l ?c ?k; (case a => k_is); (case l => k_is); (case c => k_is); (case k => k_is))
    (case d_is_coordinate => refine' def_ex KX G ?a ?l ?c ?k; (case a => k_is); (case l => k_is); (case c => k_is); (case k => k_is))
    (case d_is_point => refine' def_ex KX G ?a ?l ?c ?k; (case a => k_is); (case l => k_is); (case c => k_is); (case k => k_is))
    (case d_require_number => refine' def_ex KX G ?a ?l ?c ?k; (case a => k_is); (case l => k_is); (case c => k_is); (case k => k_is))
    (case d_require_point => refine' def_ex KX G ?a ?l ?c ?k; (case a => k_is); (case l => k_is); (case c => k_is); (case k => k_is))
    (case d_key_of => refine' def_ex KX G ?a ?l ?c ?k; (case a => k_is); (case l => k_is); (case c => k_is); (case k => k_is))
    (case d_holds => refine' def_ex KX G ?a ?l ?c ?k; (case a => k_is); (case l => k_is); (case c => k_is); (case k => k_is))
    (case d_meets_low => refine' def_ex KX G ?a ?l ?c ?k; (case a => k_is); (case l => k_is); (case c => k_is); (case k => k_is))
    (case d_meets_high => refine' def_ex KX G ?a ?l ?c ?k; (case a => k_is); (case l => k_is); (case c => k_is); (case k => k_is))
    (case d_gap_to => refine' def_ex KX G ?a ?l ?c ?k; (case a => k_is); (case l => k_is); (case c => k_is); (case k => k_is))
    (case d_gap_of => refine' def_ex KX G ?a ?l ?c ?k; (case a => k_is); (case l => k_is); (case c => k_is); (case k => k_is))
    (case d_cut => refine' def_ex KX G ?a ?l ?c ?k; (case a => k_is); (case l => k_is); (case c => k_is); (case k => k_is))
    (case d_covers => refine' def_ex KX G ?a ?l ?c ?k; (case a => k_is); (case l => k_is); (case c => k_is); (case k => k_is))
    (case d_is_interval => refine' def_ex KX G ?a ?l ?c ?k; (case a => k_is); (case l => k_is); (case c => k_is); (case k => k_is))
    (case d_is_rectangle => refine' def_ex KX G ?a ?l ?c ?k; (case a => k_is); (case l => k_is); (case c => k_is); (case k => k_is))
    (case d_require_rectangle => refine' def_ex KX G ?a ?l ?c ?k; (case a => k_is); (case l => k_is); (case c => k_is); (case k => k_is))
    (case d_require_points => refine' dfl2_ex KX G ?a ?l ?c ?k ?t ?d; (case a => k_is); (case l => k_is); (case c => k_is); (case k => k_is); (case t => k_is); (case d => exact rfl))
    (case d_halves => refine' maker_ex KX G ?a ?l ?c ?k ?q ?r ?h ?t ?n; (case a => k_is); (case l => k_is); (case c => k_is); (case k => k_is); (case q => k_is); (case r => exact rfl); (case h => kernel_rfl); (case t => exact PySem.W.km_tabs_of Y _ (by decide)); (case n => kernel_rfl))
    (case d_built_from => refine' def_ex KX G ?a ?l ?c ?k; (case a => k_is); (case l => k_is); (case c => k_is); (case k => k_is))
    (case d_is_node => refine' def_ex KX G ?a ?l ?c ?k; (case a => k_is); (case l => k_is); (case c => k_is); (case k => k_is))
    (case d_fits => refine' def_ex KX G ?a ?l ?c ?k; (case a => k_is); (case l => k_is); (case c => k_is); (case k => k_is))
    (case d_read => refine' def_ex KX G ?a ?l ?c ?k; (case a => k_is); (case l => k_is); (case c => k_is); (case k => k_is))
    (case d_require_middle => refine' dfl1_ex KX G ?a ?l ?c ?k ?t ?d; (case a => k_is); (case l => k_is); (case c => k_is); (case k => k_is); (case t => k_is); (case d => exact rfl))
    (case d_is_middle => refine' def_ex KX G ?a ?l ?c ?k; (case a => k_is); (case l => k_is); (case c => k_is); (case k => k_is))
    (case d_in_order => refine' def_ex KX G ?a ?l ?c ?k; (case a => k_is); (case l => k_is); (case c => k_is); (case k => k_is))
    (case d_height_of => refine' def_ex KX G ?a ?l ?c ?k; (case a => k_is); (case l => k_is); (case c => k_is); (case k => k_is))
    (case d_is_even => refine' def_ex KX G ?a ?l ?c ?k; (case a => k_is); (case l => k_is); (case c => k_is); (case k => k_is))
    (case d_entered => refine' def_ex KX G ?a ?l ?c ?k; (case a => k_is); (case l => k_is); (case c => k_is); (case k => k_is))
    (case d_found_in => refine' def_ex KX G ?a ?l ?c ?k; (case a => k_is); (case l => k_is); (case c => k_is); (case k => k_is))
    (case d_middle_counted => refine' def_ex KX G ?a ?l ?c ?k; (case a => k_is); (case l => k_is); (case c => k_is); (case k => k_is))
    (case d_cost_of => refine' def_ex KX G ?a ?l ?c ?k; (case a => k_is); (case l => k_is); (case c => k_is); (case k => k_is))
    (case d_Forest_points => refine' meth_ex ?a ?i ?l ?c ?k; (case a => k_is); (case i => k_is); (case l => k_is); (case c => k_is); (case k => k_is))
    (case d_Forest_gone => refine' meth_ex ?a ?i ?l ?c ?k; (case a => k_is); (case i => k_is); (case l => k_is); (case c => k_is); (case k => k_is))
    (case d_Forest_trees => refine' meth_ex ?a ?i ?l ?c ?k; (case a => k_is); (case i => k_is); (case l => k_is); (case c => k_is); (case k => k_is))
    (case d_Forest_moved => refine' meth_ex ?a ?i ?l ?c ?k; (case a => k_is); (case i => k_is); (case l => k_is); (case c => k_is); (case k => k_is))
    (case d_Forest_eq => refine' meth_ex ?a ?i ?l ?c ?k; (case a => k_is); (case i => k_is); (case l => k_is); (case c => k_is); (case k => k_is))
    (case d_Forest_put => refine' meth_ex ?a ?i ?l ?c ?k; (case a => k_is); (case i => k_is); (case l => k_is); (case c => k_is); (case k => k_is))
    (case d_Forest_init => refine' init_ex ?m ?a ?i ?z ?k ?l ?c ?t ?d; (case m => k_is); (case a => k_is); (case i => k_is); (case z => k_is); (case l => k_is); (case c => k_is); (case k => k_is); (case t => k_is); (case d => exact rfl))
    (case d_Forest_make => refine' meth_ex ?a ?i ?l ?c ?k; (case a => k_is); (case i => k_is); (case l => k_is); (case c => k_is); (case k => k_is))
    (case d_Forest_take => refine' meth_ex ?a ?i ?l ?c ?k; (case a => k_is); (case i => k_is); (case l => k_is); (case c => k_is); (case k => k_is))
    (case d_Forest_ranged => refine' meth_ex ?a ?i ?l ?c ?k; (case a => k_is); (case i => k_is); (case l => k_is); (case c => k_is); (case k => k_is))
    (case d_Forest_counted => refine' meth_ex ?a ?i ?l ?c ?k; (case a => k_is); (case i => k_is); (case l => k_is); (case c => k_is); (case k => k_is))
    (case d_Forest_search => refine' methM_ex KX ?a ?i ?l ?c ?k ?q ?r ?h ?t ?n; (case a => k_is); (case i => k_is); (case l => k_is); (case c => k_is); (case k => k_is); (case q => k_is); (case r => exact rfl); (case h => kernel_rfl); (case t => exact PySem.W.km_tabs_of Y _ (by decide)); (case n => kernel_rfl))
    (case d_Forest_nearest => refine' meth_ex ?a ?i ?l ?c ?k; (case a => k_is); (case i => k_is); (case l => k_is); (case c => k_is); (case k => k_is))
    (case d_law_mixed => refine' def_ex KX G ?a ?l ?c ?k; (case a => k_is); (case l => k_is); (case c => k_is); (case k => k_is))
    (case d_law_source => refine' def_ex KX G ?a ?l ?c ?k; (case a => k_is); (case l => k_is); (case c => k_is); (case k => k_is))
    (case d_law_take => refine' def_ex KX G ?a ?l ?c ?k; (case a => k_is); (case l => k_is); (case c => k_is); (case k => k_is))
    (case d_law_pick => refine' def_ex KX G ?a ?l ?c ?k; (case a => k_is); (case l => k_is); (case c => k_is); (case k => k_is))
    (case d_law_spots => refine' def_ex KX G ?a ?l ?c ?k; (case a => k_is); (case l => k_is); (case c => k_is); (case k => k_is))
    (case d_law_end => refine' def_ex KX G ?a ?l ?c ?k; (case a => k_is); (case l => k_is); (case c => k_is); (case k => k_is))
    (case d_law_area => refine' def_ex KX G ?a ?l ?c ?k; (case a => k_is); (case l => k_is); (case c => k_is); (case k => k_is))
    (case d_law_holds => refine' def_ex KX G ?a ?l ?c ?k; (case a => k_is); (case l => k_is); (case c => k_is); (case k => k_is))
    (case d_law_far => refine' def_ex KX G ?a ?l ?c ?k; (case a => k_is); (case l => k_is); (case c => k_is); (case k => k_is))
    (case d_law_shape_right => refine' def_ex KX G ?a ?l ?c ?k; (case a => k_is); (case l => k_is); (case c => k_is); (case k => k_is))
    (case d_law_found_right => refine' def_ex KX G ?a ?l ?c ?k; (case a => k_is); (case l => k_is); (case c => k_is); (case k => k_is))
    (case d_law_deeds_right => refine' def_ex KX G ?a ?l ?c ?k; (case a => k_is); (case l => k_is); (case c => k_is); (case k => k_is))
    (case d_law_blocks_right => refine' def_ex KX G ?a ?l ?c ?k; (case a => k_is); (case l => k_is); (case c => k_is); (case k => k_is))
    (case d_law_stretched_right => refine' maker_ex KX G ?a ?l ?c ?k ?q ?r ?h ?t ?n; (case a => k_is); (case l => k_is); (case c => k_is); (case k => k_is); (case q => k_is); (case r => exact rfl); (case h => kernel_rfl); (case t => exact PySem.W.km_tabs_of Y _ (by decide)); (case n => kernel_rfl))
    (case d_law => refine' def_ex KX G ?a ?l ?c ?k; (case a => k_is); (case l => k_is); (case c => k_is); (case k => k_is))
    (case x_P_halves_P_Forest_search => decide)
    (case x_P_halves_P_law_stretched_right => decide)
    (case x_P_Forest_search_P_law_stretched_right => decide))
