import PyProof.Rows.All
import Wide.All
import OpenK.AllK
import Wide.FinOn
import HandS.ForMost
import HandS.Defaults
import HandS.HeadHook2
import HandS.TupMul
import HandS.TupAny
import HandS.Walk
import KE.GoesMore
import KE.KLam
import KE.KSortKey
import HandS.SortKw
import HandS.Lambda
import HandS.IsInst
import HandS.Flow
import HandS.Style
import HandS.Conv
import HandS.HeadHook4
import KE.KStateDown
import Lean
import HandS.Head0
import HandS.Head1
import HandS.Head2
import HandS.HeadEnd
import HandS.HeadHook1
import HandS.HeadWalk
import PySem.Challenge.RW_jumpcuts_k20_whole_prices
set_option Elab.async false
set_option linter.all false
set_option maxRecDepth 100000
set_option maxHeartbeats 0
namespace JC
abbrev W := List Nat
/-- rows of cuts with prices: p k is what a cut costs that takes k + 1 letters out -/
inductive Row (p : Nat → Int) : W → W → Int → Prop
  | refl (f : W) : Row p f f 0
  | step (u : W) (x : Nat) (m v : W) {g : W} {c : Int} : Row p (u ++ x :: v) g c → Row p (u ++ x :: (m ++ x :: v)) g (p m.length + c)
variable {p : Nat → Int}
theorem Row.cast {f g : W} {c d : Int} (r : Row p f g c) (e : c = d) : Row p f g d := e ▸ r
theorem Row.trans {f g : W} {c : Int} (r : Row p f g c) : ∀ {h : W} {d : Int}, Row p g h d → Row p f h (c + d) := by
  induction r with
  | refl f => intro h d q; exact q.cast (by omega)
  | step u x m v r ih => intro h d q; exact (Row.step u x m v (ih q)).cast (by omega)
theorem Row.one (u : W) (x : Nat) (m v : W) : Row p (u ++ x :: (m ++ x :: v)) (u ++ x :: v) (p m.length) := (Row.step u x m v (.refl _)).cast (by omega)
theorem Row.snoc {f : W} {u : W} {x : Nat} {m v : W} {c : Int} (r : Row p f (u ++ x :: (m ++ x :: v)) c) : Row p f (u ++ x :: v) (c + p m.length) := r.trans (Row.one u x m v)
theorem Row.back {f g : W} {c : Int} (r : Row p f g c) : (f = g ∧ c = 0) ∨ ∃ u x m v c', g = u ++ x :: v ∧ Row p f (u ++ x :: (m ++ x :: v)) c' ∧ c = c' + p m.length := by
  induction r with
  | refl f => exact .inl ⟨rfl, rfl⟩
  | @step u x m v g c r ih =>
    rcases ih with ⟨e, ec⟩ | ⟨u', x', m', v', c', e, r', ec⟩
    · exact .inr ⟨u, x, m, v, 0, e.symm, .refl _, by omega⟩
    · exact .inr ⟨u', x', m', v', p m.length + c', e, Row.step u x m v r', by omega⟩
theorem Row.ctx {f g : W} {c : Int} (r : Row p f g c) (a b : W) : Row p (a ++ f ++ b) (a ++ g ++ b) c := by
  induction r with
  | refl f => exact .refl _
  | @step u x m v g c r ih =>
    have e1 : a ++ (u ++ x :: (m ++ x :: v)) ++ b = (a ++ u) ++ x :: (m ++ x :: (v ++ b)) := by simp
    have e2 : a ++ (u ++ x :: v) ++ b = (a ++ u) ++ x :: (v ++ b) := by simp
    rw [e1]
    rw [e2] at ih
    exact Row.step (a ++ u) x m (v ++ b) ih
theorem Row.app {f1 g1 f2 g2 : W} {c1 c2 : Int} (r1 : Row p f1 g1 c1) (r2 : Row p f2 g2 c2) : Row p (f1 ++ f2) (g1 ++ g2) (c1 + c2) := by
  have a := r1.ctx [] f2
  have b := r2.ctx g1 []
  simp only [List.nil_append, List.append_nil] at a b
  exact a.trans b
theorem Row.len {f g : W} {c : Int} (r : Row p f g c) : g.length ≤ f.length := by
  induction r with
  | refl f => exact Nat.le_refl _
  | @step u x m v g c r ih =>
    simp only [List.length_append, List.length_cons] at ih ⊢
    omega
theorem Row.head {f g : W} {c : Int} (r : Row p f g c) : f.head? = g.head? := by
  induction r with
  | refl f => rfl
  | @step u x m v g c r ih =>
    rw [← ih]
    cases u <;> rfl
theorem Row.last {f g : W} {c : Int} (r : Row p f g c) : f.getLast? = g.getLast? := by
  induction r with
  | refl f => rfl
  | @step u x m v g c r ih =>
    have key : ∀ a : W, (a ++ x :: v).getLast? = (x :: v).getLast? := fun a => by
      rw [List.getLast?_append]
      cases h : (x :: v).getLast? with
      | none => simp at h
      | some y => rfl
    have e1 : u ++ x :: (m ++ x :: v) = (u ++ x :: m) ++ x :: v := by simp
    rw [← ih, e1, key, key]
theorem Row.to_nil {f : W} {c : Int} (r : Row p f [] c) : f = [] ∧ c = 0 := by
  rcases r.back with h | ⟨u, x, m, v, c', e, _⟩
  · exact h
  · cases u <;> cases e
theorem Row.of_nil {g : W} {c : Int} (r : Row p [] g c) : g = [] ∧ c = 0 := by
  have h := r.len
  have e : g = [] := List.eq_nil_of_length_eq_zero (by simpa using h)
  subst e
  exact ⟨rfl, r.to_nil.2⟩
/-- what comes to g1 ++ g2 comes in two parts -/
theorem Row.split {f g : W} {c : Int} (r : Row p f g c) : ∀ {g1 g2 : W}, g = g1 ++ g2 → ∃ f1 f2 c1 c2, f = f1 ++ f2 ∧ Row p f1 g1 c1 ∧ Row p f2 g2 c2 ∧ c = c1 + c2 := by
  induction r with
  | refl f => intro g1 g2 e; exact ⟨g1, g2, 0, 0, e, .refl _, .refl _, rfl⟩
  | @step u x m v g c r ih =>
    intro g1 g2 e
    obtain ⟨f1, f2, c1, c2, e1, r1, r2, ec⟩ := ih e
    rcases List.append_eq_append_iff.mp e1 with ⟨a, ea, eb⟩ | ⟨a, ea, eb⟩
    · cases a with
      | nil =>
        simp only [List.append_nil] at ea
        simp only [List.nil_append] at eb
        subst ea
        subst eb
        exact ⟨f1, x :: (m ++ x :: v), c1, p m.length + c2, rfl, r1, Row.step [] x m v r2, by omega⟩
      | cons y a =>
        injection eb with ey ev
        subst ey
        subst ev
        subst ea
        exact ⟨u ++ x :: (m ++ x :: a), f2, p m.length + c1, c2, by simp, Row.step u x m a r1, r2, by omega⟩
    · subst ea
      subst eb
      exact ⟨f1, a ++ x :: (m ++ x :: v), c1, p m.length + c2, by simp, r1, Row.step a x m v r2, by omega⟩
/-- a block's last cut may keep the block's last letter alone -/
theorem Row.block : ∀ (n : Nat) {f : W} {x : Nat} {c : Int}, f.length ≤ n → Row p f [x] c →
    (f = [x] ∧ c = 0) ∨ ∃ b s w c1 c2, f = b ++ (s ++ [x]) ∧ Row p b [x] c1 ∧ Row p s w c2 ∧ c = c1 + c2 + p w.length := by
  intro n
  induction n with
  | zero =>
    intro f x c hl r
    have h := r.len
    simp only [List.length_singleton] at h
    omega
  | succ n ih =>
    intro f x c hl r
    rcases r.back with h | ⟨u, y, m, v, c', e, r', ec⟩
    · exact .inl h
    · have hu : u = [] ∧ y = x ∧ v = [] := by
        cases u with
        | nil =>
          simp only [List.nil_append] at e
          injection e with e1 e2
          exact ⟨rfl, e1.symm, e2.symm⟩
        | cons z u =>
          simp only [List.cons_append] at e
          injection e with e1 e2
          cases u <;> cases e2
      obtain ⟨rfl, rfl, rfl⟩ := hu
      simp only [List.nil_append] at r'
      obtain ⟨b, f2, c1, c23, e1, rb, r2, e2⟩ := r'.split (g1 := [y]) (g2 := m ++ [y]) rfl
      obtain ⟨s, t, c2, c3, e3, rs, rt, e4⟩ := r2.split (g1 := m) (g2 := [y]) rfl
      subst e1
      subst e3
      have hb := rb.len
      simp only [List.length_singleton] at hb
      have ht : t.length ≤ n := by
        simp only [List.length_append] at hl
        omega
      refine .inr ?_
      rcases ih ht rt with ⟨et, ec3⟩ | ⟨b', s', w', d1, d2, et, rb', rs', ed⟩
      · subst et
        exact ⟨b, s, m, c1, c2, rfl, rb, rs, by omega⟩
      · subst et
        refine ⟨b ++ (s ++ b'), s', w', c1 + (c2 + d1) + p m.length, d2, by simp, ?_, rs', by omega⟩
        have q := rb.app (rs.app rb')
        exact Row.snoc (u := []) (v := []) q
theorem Row.block_mk {b s w : W} {x : Nat} {c1 c2 : Int} (rb : Row p b [x] c1) (rs : Row p s w c2) : Row p (b ++ (s ++ [x])) [x] (c1 + c2 + p w.length) := by
  have q := rb.app (rs.app (Row.refl [x]))
  exact (Row.snoc (u := []) (v := []) (x := x) (m := w) q).cast (by omega)
/-- the least of the numbers of which S is true, if there is one -/
def Lst (S : Int → Prop) (o : Option Int) : Prop := (∀ m, o = some m → S m) ∧ ∀ c, S c → ∃ m, o = some m ∧ m ≤ c
theorem Lst.uniq {S : Int → Prop} {o o' : Option Int} (a : Lst S o) (b : Lst S o') : o = o' := by
  cases o with
  | none =>
    cases o' with
    | none => rfl
    | some m =>
      obtain ⟨_, e, _⟩ := a.2 m (b.1 m rfl)
      cases e
  | some m =>
    obtain ⟨m', e', h'⟩ := b.2 m (a.1 m rfl)
    subst e'
    obtain ⟨m2, e2, h2⟩ := a.2 m' (b.1 m' rfl)
    cases e2
    rw [show m = m' by omega]
theorem Lst.congr {S T : Int → Prop} {o : Option Int} (a : Lst S o) (h : ∀ c, S c ↔ T c) : Lst T o :=
  ⟨fun m e => (h m).mp (a.1 m e), fun c t => a.2 c ((h c).mpr t)⟩
theorem Lst.none {S : Int → Prop} (h : ∀ c, ¬ S c) : Lst S none := ⟨fun m e => (nomatch e), fun c s => absurd s (h c)⟩
theorem Lst.none_iff {S : Int → Prop} {o : Option Int} (a : Lst S o) : o = Option.none ↔ ∀ c, ¬ S c := by
  constructor
  · intro e c s
    obtain ⟨m, e', _⟩ := a.2 c s
    rw [e] at e'
    cases e'
  · intro h
    cases o with
    | none => rfl
    | some m => exact absurd (a.1 m rfl) (h m)
/-- the new least when one more number comes -/
def omin : Option Int → Int → Int
  | Option.none, m => m
  | some v, m => if m < v then m else v
theorem Lst.add {S : Int → Prop} {o : Option Int} {m : Int} (a : Lst S o) : Lst (fun c => S c ∨ c = m) (some (omin o m)) := by
  cases o with
  | none =>
    refine ⟨fun k e => .inr (by cases e; rfl), fun c h => ?_⟩
    rcases h with h | h
    · obtain ⟨_, e, _⟩ := a.2 c h
      cases e
    · exact ⟨m, rfl, by omega⟩
  | some v =>
    unfold omin
    dsimp only
    by_cases hv : m < v
    · rw [if_pos hv]
      refine ⟨fun k e => .inr (by cases e; rfl), fun c h => ⟨m, rfl, ?_⟩⟩
      rcases h with h | h
      · obtain ⟨k, e, hk⟩ := a.2 c h
        cases e
        omega
      · omega
    · rw [if_neg hv]
      refine ⟨fun k e => .inl (by cases e; exact a.1 _ rfl), fun c h => ⟨v, rfl, ?_⟩⟩
      rcases h with h | h
      · obtain ⟨k, e, hk⟩ := a.2 c h
        cases e
        omega
      · omega
/-- the least by a list of numbers that holds enough -/
theorem Lst.of_list {S : Int → Prop} {L : List Int} {m : Int} (hm : m ∈ L) (hle : ∀ d ∈ L, m ≤ d) (sound : ∀ d ∈ L, S d) (full : ∀ c, S c → ∃ d ∈ L, d ≤ c) : Lst S (some m) :=
  ⟨fun k e => by cases e; exact sound _ hm, fun c h => by
    obtain ⟨d, hd, hc⟩ := full c h
    exact ⟨m, rfl, Int.le_trans (hle d hd) hc⟩⟩
theorem Lst.of_empty {S : Int → Prop} {L : List Int} (hn : L = []) (full : ∀ c, S c → ∃ d ∈ L, d ≤ c) : Lst S Option.none :=
  .none fun c h => by
    obtain ⟨d, hd, _⟩ := full c h
    rw [hn] at hd
    cases hd
end JC
namespace JC
variable {p : Nat → Int} {F : W}
/-! ### stretches of a film by places -/
def seg (F : W) (i j : Nat) : W := (F.drop i).take (j - i)
theorem seg_len {i j : Nat} (h : j ≤ F.length) : (seg F i j).length = j - i := by
  unfold seg
  rw [List.length_take, List.length_drop]
  omega
theorem seg_self (i : Nat) : seg F i i = [] := by
  unfold seg
  rw [Nat.sub_self, List.take_zero]
theorem seg_add {i j k : Nat} (h1 : i ≤ j) (h2 : j ≤ k) : seg F i k = seg F i j ++ seg F j k := by
  unfold seg
  have e1 : k - i = (j - i) + (k - j) := by omega
  have e2 : F.drop j = (F.drop i).drop (j - i) := by
    rw [List.drop_drop]
    congr 1
    omega
  rw [e1, e2, List.take_add]
theorem seg_one {i x : Nat} (h : F[i]? = some x) : seg F i (i + 1) = [x] := by
  unfold seg
  have hi : i < F.length := (List.getElem?_eq_some_iff.mp h).1
  have e : i + 1 - i = 1 := by omega
  rw [e, List.drop_eq_getElem_cons hi]
  have hx : F[i] = x := (List.getElem?_eq_some_iff.mp h).2
  rw [hx]
  rfl
theorem seg_full : seg F 0 F.length = F := by
  unfold seg
  simp
theorem seg_zero (k : Nat) : seg F 0 k = F.take k := by
  unfold seg
  simp
theorem seg_get {i j k : Nat} (h : k < j - i) : (seg F i j)[k]? = F[i + k]? := by
  unfold seg
  rw [List.getElem?_take, if_pos h, List.getElem?_drop]
theorem seg_head {i j : Nat} (h : i < j) : (seg F i j).head? = F[i]? := by
  have e := seg_get (F := F) (i := i) (j := j) (k := 0) (by omega)
  rw [Nat.add_zero] at e
  rw [← e]
  cases seg F i j <;> rfl
theorem seg_last {i j : Nat} (h : i < j) (hj : j ≤ F.length) : (seg F i j).getLast? = F[j - 1]? := by
  rw [List.getLast?_eq_getElem?, seg_len hj, seg_get (by omega)]
  congr 1
  omega
theorem seg_split {i k : Nat} {a b : W} (hk : k ≤ F.length) (e : seg F i k = a ++ b) (hik : i ≤ k) : i + a.length ≤ k ∧ a = seg F i (i + a.length) ∧ b = seg F (i + a.length) k := by
  have hl := congrArg List.length e
  rw [seg_len hk, List.length_append] at hl
  have h1 : i + a.length ≤ k := by omega
  have e2 := seg_add (F := F) (i := i) (j := i + a.length) (k := k) (by omega) h1
  rw [e] at e2
  have h3 : a.length = (seg F i (i + a.length)).length := by
    rw [seg_len (by omega)]
    omega
  obtain ⟨e3, e4⟩ := List.append_inj e2 h3
  exact ⟨h1, e3, e4⟩
/-! ### the least price of a block, of a stretch -/
def BlkS (p : Nat → Int) (F : W) (i j x : Nat) : Int → Prop := Row p (seg F i (j + 1)) [x]
def StrS (p : Nat → Int) (F : W) (i j l : Nat) : Int → Prop := fun c => ∃ w : W, w.length = l ∧ Row p (seg F i j) w c
theorem blk_ends {i j x : Nat} {c : Int} (hj : j < F.length) (hij : i ≤ j) (r : Row p (seg F i (j + 1)) [x] c) : F[i]? = some x ∧ F[j]? = some x := by
  have h1 := r.head
  have h2 := r.last
  rw [seg_head (by omega)] at h1
  rw [seg_last (by omega) (by omega)] at h2
  exact ⟨h1, h2⟩
theorem block_lst {i j x : Nat} (hj : j < F.length) (hij : i ≤ j) (hx : F[i]? = some x) (hy : F[j]? = some x) {B : Nat → Int} {ST : Nat → Nat → Option Int} {L : List Int}
    (hB : ∀ m, i ≤ m → m < j → F[m]? = some x → Lst (BlkS p F i m x) (some (B m))) (hS : ∀ m l, i ≤ m → m < j → Lst (StrS p F (m + 1) j l) (ST m l))
    (hL : ∀ d, d ∈ L ↔ (i = j ∧ d = 0) ∨ ∃ m l inner, i ≤ m ∧ m < j ∧ F[m]? = some x ∧ l < j - m ∧ ST m l = some inner ∧ d = B m + inner + p l) :
    (∀ d ∈ L, BlkS p F i j x d) ∧ (∀ c, BlkS p F i j x c → ∃ d ∈ L, d ≤ c) ∧ L ≠ [] := by
  refine ⟨fun d hd => ?_, fun c r => ?_, ?_⟩
  · rcases (hL d).mp hd with ⟨e, ed⟩ | ⟨m, l, inner, h1, h2, h3, h4, h5, ed⟩
    · subst e
      subst ed
      unfold BlkS
      rw [seg_one hx]
      exact .refl _
    · obtain ⟨w, hw, rw'⟩ := (hS m l h1 h2).1 inner h5
      have rb := (hB m h1 h2 h3).1 (B m) rfl
      have q := Row.block_mk rb rw'
      rw [hw] at q
      unfold BlkS
      rw [seg_add (F := F) (i := i) (j := m + 1) (k := j + 1) (by omega) (by omega), seg_add (F := F) (i := m + 1) (j := j) (k := j + 1) (by omega) (by omega), seg_one hy, ed]
      exact q
  · rcases Row.block _ (Nat.le_refl _) r with ⟨e, ec⟩ | ⟨b, s, w, c1, c2, e, rb, rs, ec⟩
    · have hl := congrArg List.length e
      rw [seg_len (by omega), List.length_singleton] at hl
      exact ⟨0, (hL 0).mpr (.inl ⟨by omega, rfl⟩), by omega⟩
    · have hbl := rb.len
      rw [List.length_singleton] at hbl
      have hl := congrArg List.length e
      rw [seg_len (by omega), List.length_append, List.length_append, List.length_singleton] at hl
      obtain ⟨k1, e1, e2⟩ := seg_split (by omega) e (by omega)
      obtain ⟨k2, e3, e4⟩ := seg_split (F := F) (by omega) e2.symm k1
      have hm : i + b.length = (i + b.length - 1) + 1 := by omega
      rw [hm] at e1
      have rb' := rb
      rw [e1] at rb'
      have hmx := (blk_ends (by omega) (by omega) rb').2
      have es : s = seg F ((i + b.length - 1) + 1) j := by
        have q : i + b.length + s.length = j := by omega
        rw [q, hm] at e3
        exact e3
      have hmj : i + b.length - 1 < j := by omega
      obtain ⟨v, ev, hv⟩ := (hB _ (by omega) hmj hmx).2 c1 rb'
      cases ev
      have rs' := rs
      rw [es] at rs'
      obtain ⟨inner, ei, hi⟩ := (hS _ w.length (by omega) hmj).2 c2 ⟨w, rfl, rs'⟩
      have hw := rs.len
      exact ⟨_, (hL _).mpr (.inr ⟨_, w.length, inner, by omega, hmj, hmx, by omega, ei, rfl⟩), by omega⟩
  · intro e
    by_cases hlt : i < j
    · obtain ⟨inner, ei, _⟩ := (hS i (j - i - 1) (Nat.le_refl _) hlt).2 0 ⟨seg F (i + 1) j, by rw [seg_len (by omega)]; omega, .refl _⟩
      have h := (hL _).mpr (.inr ⟨i, j - i - 1, inner, Nat.le_refl _, hlt, hx, by omega, ei, rfl⟩)
      rw [e] at h
      cases h
    · have h := (hL 0).mpr (.inl ⟨by omega, rfl⟩)
      rw [e] at h
      cases h
theorem stretch_lst {a b l y : Nat} (hb : b < F.length) (hab : a ≤ b) (hl : 1 ≤ l) (hy : F[b]? = some y) {ST : Nat → Option Int} {B : Nat → Int} {L : List Int}
    (hS : ∀ m, a ≤ m → m ≤ b → Lst (StrS p F a m (l - 1)) (ST m)) (hB : ∀ m, a ≤ m → m ≤ b → F[m]? = some y → Lst (BlkS p F m b y) (some (B m)))
    (hL : ∀ d, d ∈ L ↔ ∃ m inner, a ≤ m ∧ m ≤ b ∧ F[m]? = some y ∧ ST m = some inner ∧ d = inner + B m) :
    (∀ d ∈ L, StrS p F a (b + 1) l d) ∧ ∀ c, StrS p F a (b + 1) l c → ∃ d ∈ L, d ≤ c := by
  refine ⟨fun d hd => ?_, fun c r => ?_⟩
  · obtain ⟨m, inner, h1, h2, h3, h4, ed⟩ := (hL d).mp hd
    obtain ⟨w, hw, rw'⟩ := (hS m h1 h2).1 inner h4
    have rb := (hB m h1 h2 h3).1 (B m) rfl
    refine ⟨w ++ [y], by rw [List.length_append, List.length_singleton]; omega, ?_⟩
    rw [seg_add (F := F) (i := a) (j := m) (k := b + 1) h1 (by omega), ed]
    exact rw'.app rb
  · obtain ⟨w, hw, r⟩ := r
    have hlast := r.last
    rw [seg_last (by omega) (by omega), Nat.add_sub_cancel, hy] at hlast
    have hne : w ≠ [] := fun z => by
      rw [z] at hlast
      cases hlast
    have ew : w = w.dropLast ++ [y] := by
      have q := List.dropLast_concat_getLast hne
      rw [List.getLast?_eq_some_getLast hne] at hlast
      rw [← Option.some.inj hlast] at q
      exact q.symm
    obtain ⟨f1, f2, c1, c2, e, r1, r2, ec⟩ := r.split ew
    obtain ⟨k1, e1, e2⟩ := seg_split (by omega) e (by omega)
    have h2 := r2.len
    rw [List.length_singleton] at h2
    have hl2 := congrArg List.length e
    rw [seg_len (by omega), List.length_append] at hl2
    have hm : a + f1.length ≤ b := by omega
    have r2' := r2
    rw [e2] at r2'
    have hmy := (blk_ends hb hm r2').1
    rw [e1] at r1
    have hwl : w.dropLast.length = l - 1 := by rw [List.length_dropLast, hw]
    obtain ⟨inner, ei, hi⟩ := (hS _ (by omega) hm).2 c1 ⟨_, hwl, r1⟩
    obtain ⟨v, ev, hv⟩ := (hB _ (by omega) hm hmy).2 c2 r2'
    cases ev
    exact ⟨_, (hL _).mpr ⟨_, inner, by omega, hm, hmy, ei, rfl⟩, by omega⟩
theorem str_zero {i l : Nat} : Lst (StrS p F i i l) (if l = 0 then some 0 else none) := by
  by_cases h : l = 0
  · rw [if_pos h]
    refine ⟨fun m e => ?_, fun c r => ?_⟩
    · cases e
      exact ⟨[], by rw [h]; rfl, by rw [seg_self]; exact .refl _⟩
    · obtain ⟨w, hw, r⟩ := r
      rw [seg_self] at r
      exact ⟨0, rfl, by rw [r.of_nil.2]; omega⟩
  · rw [if_neg h]
    refine .none fun c r => ?_
    obtain ⟨w, hw, r⟩ := r
    rw [seg_self] at r
    rw [r.of_nil.1] at hw
    exact h hw.symm
theorem str_none {i j l : Nat} (hj : j ≤ F.length) (hij : i < j) (h : l = 0 ∨ j - i < l) : Lst (StrS p F i j l) none := by
  refine .none fun c r => ?_
  obtain ⟨w, hw, r⟩ := r
  have hl := r.len
  rw [seg_len hj] at hl
  rcases h with h | h
  · have e : w = [] := List.eq_nil_of_length_eq_zero (by omega)
    rw [e] at r
    have e2 := congrArg List.length r.to_nil.1
    rw [seg_len hj, List.length_nil] at e2
    omega
  · omega
/-! ### the goal's letters, one behind the other -/
theorem goal_nil {e : Nat} (he : e ≤ F.length) : Lst (Row p (F.take e) []) (if e = 0 then some 0 else none) := by
  have h := str_zero (p := p) (F := F) (i := 0) (l := 0)
  by_cases h0 : e = 0
  · rw [if_pos h0, h0]
    exact ⟨fun m q => by cases q; exact .refl _, fun c r => ⟨0, rfl, by rw [r.to_nil.2]; omega⟩⟩
  · rw [if_neg h0]
    refine .none fun c r => ?_
    have q := congrArg List.length r.to_nil.1
    rw [List.length_take, List.length_nil] at q
    omega
/-- one letter more: from the starts and the blocks -/
theorem goal_step {g : W} {y e : Nat} (he : e ≤ F.length) {S : Nat → Option Int} {B : Nat → Int} {L : List Int} (hS : ∀ s, s < e → Lst (Row p (F.take s) g) (S s))
    (hB : ∀ s, s < e → F[s]? = some y → F[e - 1]? = some y → Lst (BlkS p F s (e - 1) y) (some (B s)))
    (hL : ∀ d, d ∈ L ↔ ∃ s v, s < e ∧ F[s]? = some y ∧ F[e - 1]? = some y ∧ S s = some v ∧ d = v + B s) :
    (∀ d ∈ L, Row p (F.take e) (g ++ [y]) d) ∧ ∀ c, Row p (F.take e) (g ++ [y]) c → ∃ d ∈ L, d ≤ c := by
  refine ⟨fun d hd => ?_, fun c r => ?_⟩
  · obtain ⟨s, v, h1, h2, h3, h4, ed⟩ := (hL d).mp hd
    have r1 := (hS s h1).1 v h4
    have r2 := (hB s h1 h2 h3).1 _ rfl
    have q := r1.app r2
    have e1 : F.take e = F.take s ++ seg F s (e - 1 + 1) := by
      rw [← seg_zero, ← seg_zero, show e - 1 + 1 = e by omega]
      exact seg_add (by omega) (by omega)
    rw [e1, ed]
    exact q
  · obtain ⟨f1, f2, c1, c2, e1, r1, r2, ec⟩ := r.split rfl
    rw [← seg_zero] at e1
    obtain ⟨k1, e2, e3⟩ := seg_split he e1 (by omega)
    have h2 := r2.len
    rw [List.length_singleton] at h2
    have hl2 := congrArg List.length e1
    rw [seg_len he, List.length_append] at hl2
    rw [Nat.zero_add] at k1 e2 e3
    have hs : f1.length < e := by omega
    rw [seg_zero] at e2
    rw [e2] at r1
    obtain ⟨v, ev, hv⟩ := (hS _ hs).2 c1 r1
    have e3' : f2 = seg F f1.length (e - 1 + 1) := by rw [show e - 1 + 1 = e by omega]; exact e3
    rw [e3'] at r2
    obtain ⟨h4, h5⟩ := blk_ends (by omega) (by omega) r2
    obtain ⟨b, eb, hb⟩ := (hB _ hs h4 h5).2 c2 r2
    cases eb
    exact ⟨_, (hL _).mpr ⟨_, v, hs, h4, h5, ev, rfl⟩, by omega⟩
end JC
namespace JC
variable {p q : Nat → Int} {F : W}
/-! ### other prices -/
theorem Row.chg {f g : W} {c : Int} (r : Row p f g c) : ∃ d, Row q f g d := by
  induction r with
  | refl f => exact ⟨0, .refl f⟩
  | step u x m v r ih =>
    obtain ⟨d, h⟩ := ih
    exact ⟨_, Row.step u x m v h⟩
theorem Row.same {f g : W} {c : Int} (r : Row p f g c) (n : Nat) : f.length ≤ n → (∀ k, k + 2 ≤ n → p k = q k) → Row q f g c := by
  induction r with
  | refl f => intro _ _; exact .refl f
  | step u x m v r ih =>
    intro hn h
    simp only [List.length_append, List.length_cons] at hn ih
    rw [h m.length (by omega)]
    exact Row.step u x m v (ih (by omega) h)
theorem Lst.same {f g : W} {o : Option Int} (a : Lst (Row p f g) o) (n : Nat) (hn : f.length ≤ n) (h : ∀ k, k + 2 ≤ n → p k = q k) : Lst (Row q f g) o :=
  a.congr fun c => ⟨fun r => r.same n hn h, fun r => r.same n hn fun k hk => (h k hk).symm⟩
theorem Row.nonneg {f g : W} {c : Int} (r : Row p f g c) (h : ∀ k, 0 ≤ p k) : 0 ≤ c := by
  induction r with
  | refl f => exact Int.le_refl _
  | step u x m v r ih =>
    have := h m.length
    omega
theorem Row.each {f g : W} {c : Int} (r : Row (fun k => (k : Int) + 1) f g c) : c = (f.length : Int) - (g.length : Int) := by
  induction r with
  | refl f => omega
  | step u x m v r ih =>
    simp only [List.length_append, List.length_cons] at ih ⊢
    omega
theorem Lst.or {S T : Int → Prop} {a b : Option Int} (ha : Lst S a) (hb : Lst T b) : Lst (fun c => S c ∨ T c) (match b with | some m => some (omin a m) | none => a) := by
  cases b with
  | none =>
    refine ⟨fun m e => .inl (ha.1 m e), fun c h => ?_⟩
    rcases h with h | h
    · exact ha.2 c h
    · obtain ⟨_, e, _⟩ := hb.2 c h
      cases e
  | some m =>
    have h1 := ha.add (m := m)
    refine ⟨fun k e => ?_, fun c h => ?_⟩
    · rcases h1.1 k e with z | z
      · exact .inl z
      · exact .inr (z ▸ hb.1 m rfl)
    · rcases h with h | h
      · exact h1.2 c (.inl h)
      · obtain ⟨k, e, hk⟩ := hb.2 c h
        cases e
        obtain ⟨k2, e2, h2⟩ := h1.2 m (.inr rfl)
        exact ⟨k2, e2, by omega⟩
/-! ### blocks of more than one letter -/
inductive MP : W → W → Int → Prop
  | nil : MP [] [] 0
  | one {f g : W} {k : Int} (x : Nat) : MP f g k → MP (f ++ [x]) (g ++ [x]) k
  | many {f g : W} {k : Int} (x : Nat) (m : W) : MP f g k → MP (f ++ x :: (m ++ [x])) (g ++ [x]) (k + 1)
theorem MP.inv {f h : W} {k : Int} (r : MP f h k) : (f = [] ∧ h = [] ∧ k = 0) ∨ (∃ f1 g x, f = f1 ++ [x] ∧ h = g ++ [x] ∧ MP f1 g k) ∨ ∃ f1 g x m k', f = f1 ++ x :: (m ++ [x]) ∧ h = g ++ [x] ∧ MP f1 g k' ∧ k = k' + 1 := by
  cases r with
  | nil => exact .inl ⟨rfl, rfl, rfl⟩
  | one x r => exact .inr (.inl ⟨_, _, x, rfl, rfl, r⟩)
  | many x m r => exact .inr (.inr ⟨_, _, x, m, _, rfl, rfl, r, rfl⟩)
theorem MP.row {f g : W} {k : Int} (r : MP f g k) : Row (fun _ => 7) f g (7 * k) := by
  induction r with
  | nil => exact .refl _
  | one x r ih => exact (ih.app (.refl [x])).cast (by omega)
  | many x m r ih => exact (ih.app (Row.one [] x m [])).cast (by omega)
theorem Row.mp : ∀ (n : Nat) {f g : W} {c : Int}, g.length = n → Row (fun _ => 7) f g c → ∃ k, MP f g k ∧ 7 * k ≤ c := by
  intro n
  induction n with
  | zero =>
    intro f g c hg r
    have e : g = [] := List.eq_nil_of_length_eq_zero hg
    subst e
    obtain ⟨e1, e2⟩ := r.to_nil
    subst e1
    exact ⟨0, .nil, by omega⟩
  | succ n ih =>
    intro f g c hg r
    have hne : g ≠ [] := fun z => by rw [z] at hg; cases hg
    have eg := (List.dropLast_concat_getLast hne).symm
    generalize g.getLast hne = y at eg
    obtain ⟨f1, f2, c1, c2, e, r1, r2, ec⟩ := r.split eg
    obtain ⟨k, hk, hle⟩ := ih (by rw [List.length_dropLast]; omega) r1
    have h0 := r2.nonneg (fun _ => by omega)
    rw [eg, e]
    by_cases e2 : f2 = [y]
    · rw [e2]
      exact ⟨k, .one y hk, by omega⟩
    · have h7 : 7 ≤ c2 := by
        rcases r2.back with ⟨z, _⟩ | ⟨u, x, m, v, c', _, r', ec'⟩
        · exact absurd z e2
        · have := r'.nonneg (fun _ => by omega)
          omega
      have hh := r2.head
      have hl := r2.last
      cases f2 with
      | nil => cases hh
      | cons z t =>
        have ez : z = y := Option.some.inj hh
        subst ez
        have ht : t ≠ [] := fun q => e2 (by rw [q])
        have et := (List.dropLast_concat_getLast ht).symm
        have el : t.getLast ht = z := by
          rw [List.getLast?_cons, List.getLast?_eq_some_getLast ht] at hl
          exact Option.some.inj hl
        rw [el] at et
        rw [et]
        exact ⟨k + 1, .many z _ hk, by omega⟩
theorem few_seven {f g : W} {o : Option Int} (h : Lst (MP f g) o) : Lst (Row (fun _ => 7) f g) (o.map fun k => 7 * k) := by
  refine ⟨fun m e => ?_, fun c r => ?_⟩
  · cases o with
    | none => cases e
    | some k =>
      cases e
      exact (h.1 k rfl).row
  · obtain ⟨k, hk, hle⟩ := Row.mp _ rfl r
    obtain ⟨m, e, hm⟩ := h.2 k hk
    rw [e]
    exact ⟨7 * m, rfl, by omega⟩
theorem few_each {f g : W} {k : Int} {o : Option Int} (h : MP f g k) (a : Lst (Row (fun k => (k : Int) + 1) f g) o) : o = some ((f.length : Int) - (g.length : Int)) := by
  obtain ⟨d, hd⟩ := (h.row).chg (q := fun k => (k : Int) + 1)
  obtain ⟨m, e, _⟩ := a.2 d hd
  rw [e, (a.1 m e).each]
/-- the least of k + 1 over the starts ahead of q -/
def RunS (F g : W) (y q : Nat) : Int → Prop := fun c => ∃ s, s < q ∧ F[s]? = some y ∧ ∃ k, MP (F.take s) g k ∧ c = k + 1
theorem few_here {g : W} {y i : Nat} (hy : F[i]? = some y) (c : Int) : MP (F.take (i + 1)) (g ++ [y]) c ↔ RunS F g y i c ∨ MP (F.take i) g c := by
  have hi : i < F.length := (List.getElem?_eq_some_iff.mp hy).1
  have et : F.take (i + 1) = F.take i ++ [y] := by
    rw [← seg_zero, ← seg_zero, seg_add (F := F) (i := 0) (j := i) (k := i + 1) (by omega) (by omega), seg_one hy]
  constructor
  · intro r
    rcases r.inv with ⟨_, e, _⟩ | ⟨f1, g1, x, e1, e2, r'⟩ | ⟨f1, g1, x, m, k, e1, e2, r', ek⟩
    · simp at e
    · obtain ⟨e3, e4⟩ := List.append_inj' e2 rfl
      rw [et] at e1
      obtain ⟨e5, e6⟩ := List.append_inj' e1 rfl
      rw [e5, e3]
      exact .inr r'
    · obtain ⟨e3, e4⟩ := List.append_inj' e2 rfl
      have ex : y = x := by simpa using e4
      subst ex
      subst e3
      have hl := congrArg List.length e1
      rw [List.length_take] at hl
      simp only [List.length_append, List.length_cons, List.length_nil] at hl
      have hs : f1.length < i := by omega
      refine .inl ⟨f1.length, hs, ?_, k, ?_, ek⟩
      · have q1 : (F.take (i + 1))[f1.length]? = some y := by rw [e1]; simp
        rw [List.getElem?_take] at q1
        rw [if_pos (by omega)] at q1
        exact q1
      · have q2 : f1 = F.take f1.length := by
          have z := congrArg (List.take f1.length) e1
          rw [List.take_take] at z
          simp only [List.take_left'] at z
          rw [show min f1.length (i + 1) = f1.length by omega] at z
          exact z.symm
        rw [← q2]
        exact r'
  · intro r
    rcases r with ⟨s, hs, hx, k, hk, ec⟩ | r
    · rw [ec]
      have e1 : F.take (i + 1) = F.take s ++ y :: (seg F (s + 1) i ++ [y]) := by
        rw [← seg_zero, ← seg_zero, seg_add (F := F) (i := 0) (j := s) (k := i + 1) (by omega) (by omega), seg_add (F := F) (i := s) (j := s + 1) (k := i + 1) (by omega) (by omega),
          seg_add (F := F) (i := s + 1) (j := i) (k := i + 1) (by omega) (by omega), seg_one hx, seg_one hy]
        simp
      rw [e1]
      exact .many y _ hk
    · rw [et]
      exact .one y r
theorem few_not {g : W} {y i : Nat} (hi : i < F.length) (hy : F[i]? ≠ some y) (c : Int) : ¬ MP (F.take (i + 1)) (g ++ [y]) c := fun r => by
  have h := r.row.last
  rw [← seg_zero, seg_last (by omega) (by omega), Nat.add_sub_cancel] at h
  rw [h] at hy
  exact hy (by simp)
theorem few_zero {g : W} {y : Nat} (c : Int) : ¬ MP (F.take 0) (g ++ [y]) c := fun r => by
  have h := r.row.len
  simp at h
theorem few_start {e : Nat} (he : e ≤ F.length) : Lst (MP (F.take e) []) (if e = 0 then some 0 else none) := by
  by_cases h0 : e = 0
  · rw [if_pos h0, h0]
    exact ⟨fun m q => by cases q; exact .nil, fun c r => ⟨0, rfl, by
      rcases r.inv with ⟨_, _, e⟩ | ⟨_, _, _, _, e, _⟩ | ⟨_, _, _, _, _, _, e, _⟩
      · omega
      · simp at e
      · simp at e⟩⟩
  · rw [if_neg h0]
    refine .none fun c r => ?_
    have q := congrArg List.length r.row.to_nil.1
    rw [List.length_take, List.length_nil] at q
    omega
/-! ### cuts by places -/
def cutAt (f : W) (i j : Nat) : W := f.take (i + 1) ++ f.drop (j + 1)
def IsCut (f : W) (i j : Nat) : Prop := i < j ∧ ∃ x, f[i]? = some x ∧ f[j]? = some x
theorem cut_form {f : W} {i j x : Nat} (h : i < j) (hi : f[i]? = some x) (hj : f[j]? = some x) : f = f.take i ++ x :: (seg f (i + 1) j ++ x :: f.drop (j + 1)) ∧ cutAt f i j = f.take i ++ x :: f.drop (j + 1) := by
  have lj : j < f.length := (List.getElem?_eq_some_iff.mp hj).1
  have e0 : f.take (i + 1) = f.take i ++ [x] := by
    rw [← seg_zero, ← seg_zero, seg_add (F := f) (i := 0) (j := i) (k := i + 1) (by omega) (by omega), seg_one hi]
  constructor
  · have e1 := List.take_append_drop (j + 1) f
    rw [← seg_zero, seg_add (F := f) (i := 0) (j := i) (k := j + 1) (by omega) (by omega), seg_add (F := f) (i := i) (j := i + 1) (k := j + 1) (by omega) (by omega),
      seg_add (F := f) (i := i + 1) (j := j) (k := j + 1) (by omega) (by omega), seg_one hi, seg_one hj, seg_zero] at e1
    refine e1.symm.trans ?_
    simp
  · unfold cutAt
    rw [e0]
    simp
theorem cut_row {f : W} {i j : Nat} (h : IsCut f i j) : Row p f (cutAt f i j) (p (j - i - 1)) := by
  obtain ⟨hl, x, hi, hj⟩ := h
  have lj : j < f.length := (List.getElem?_eq_some_iff.mp hj).1
  obtain ⟨e1, e2⟩ := cut_form hl hi hj
  have q := Row.one (p := p) (f.take i) x (seg f (i + 1) j) (f.drop (j + 1))
  rw [← e1, ← e2, seg_len (by omega)] at q
  rw [show j - i - 1 = j - (i + 1) by omega]
  exact q
theorem Row.back_cut {f g : W} {c : Int} (r : Row p f g c) : (g = f ∧ c = 0) ∨ ∃ v i j c', IsCut v i j ∧ g = cutAt v i j ∧ Row p f v c' ∧ c = c' + p (j - i - 1) := by
  rcases r.back with ⟨e, ec⟩ | ⟨u, x, m, v, c', e, r', ec⟩
  · exact .inl ⟨e.symm, ec⟩
  · refine .inr ⟨_, u.length, u.length + m.length + 1, c', ⟨by omega, x, by simp, ?_⟩, ?_, r', ?_⟩
    · rw [List.getElem?_append_right (by omega)]
      rw [show u.length + m.length + 1 - u.length = m.length + 1 by omega]
      simp
    · rw [e]
      unfold cutAt
      have e1 : u ++ x :: (m ++ x :: v) = (u ++ [x]) ++ (m ++ x :: v) := by simp
      have e2 : u ++ x :: (m ++ x :: v) = (u ++ x :: (m ++ [x])) ++ v := by simp
      have h1 : (u ++ x :: (m ++ x :: v)).take (u.length + 1) = u ++ [x] := by
        rw [e1]
        exact List.take_left' (by simp)
      have h2 : (u ++ x :: (m ++ x :: v)).drop (u.length + m.length + 1 + 1) = v := by
        rw [e2]
        exact List.drop_left' (by simp; omega)
      rw [h1, h2]
      simp
    · rw [show u.length + m.length + 1 - u.length - 1 = m.length by omega]
      exact ec
theorem cut_len {f : W} {i j : Nat} (h : IsCut f i j) : (cutAt f i j).length < f.length := by
  obtain ⟨hl, x, hi, hj⟩ := h
  have lj : j < f.length := (List.getElem?_eq_some_iff.mp hj).1
  unfold cutAt
  rw [List.length_append, List.length_take, List.length_drop]
  omega
/-- all outcomes -/
def Rch (f g : W) : Prop := ∃ c, Row (fun _ => 0) f g c
theorem Row.rch {f g : W} {c : Int} (r : Row p f g c) : Rch f g := r.chg
theorem Rch.row {f g : W} (h : Rch f g) : ∃ c, Row p f g c := h.elim fun _ r => r.chg
theorem Rch.refl (f : W) : Rch f f := ⟨0, .refl f⟩
theorem Rch.cut {f g : W} {i j : Nat} (h : Rch f g) (k : IsCut g i j) : Rch f (cutAt g i j) := by
  obtain ⟨c, r⟩ := h
  exact ⟨_, r.trans (cut_row k)⟩
/-- closed under cuts: all outcomes are there -/
theorem rch_all {f : W} {S : W → Prop} (h0 : S f) (hs : ∀ g i j, S g → IsCut g i j → S (cutAt g i j)) {g : W} (h : Rch f g) : S g := by
  have key : ∀ (n : Nat) (g : W) (c : Int), f.length - g.length ≤ n → Row (fun _ => (0 : Int)) f g c → S g := by
    intro n
    induction n with
    | zero =>
      intro g c hn r
      rcases r.back_cut with ⟨e, _⟩ | ⟨v, i, j, c', k, e, r', _⟩
      · rw [e]; exact h0
      · have h1 := cut_len k
        have h2 := r'.len
        rw [e] at hn
        omega
    | succ n ih =>
      intro g c hn r
      rcases r.back_cut with ⟨e, _⟩ | ⟨v, i, j, c', k, e, r', _⟩
      · rw [e]; exact h0
      · have h1 := cut_len k
        have h2 := r'.len
        rw [e] at hn ⊢
        exact hs v i j (ih v c' (by omega) r') k
  obtain ⟨c, r⟩ := h
  exact key _ g c (Nat.le_refl _) r
/-! ### the least prices, outcome by outcome, the long ones first -/
def BestS (p : Nat → Int) (f : W) (P : List W) (w : W) : Int → Prop := fun c => (w = f ∧ c = 0) ∨ ∃ v ∈ P, ∃ i j d, IsCut v i j ∧ w = cutAt v i j ∧ Row p f v d ∧ c = d + p (j - i - 1)
theorem best_now {f now : W} {P Q : List W} (hall : ∀ w, Rch f w → w ∈ P ++ now :: Q) (hs : (P ++ now :: Q).Pairwise fun a b => b.length ≤ a.length) (c : Int) : BestS p f P now c ↔ Row p f now c := by
  constructor
  · rintro (⟨e, ec⟩ | ⟨v, _, i, j, d, k, e, r, ec⟩)
    · rw [e, ec]
      exact .refl f
    · rw [e, ec]
      exact r.trans (cut_row k)
  · intro r
    rcases r.back_cut with ⟨e, ec⟩ | ⟨v, i, j, d, k, e, r', ec⟩
    · exact .inl ⟨e, ec⟩
    · refine .inr ⟨v, ?_, i, j, d, k, e, r', ec⟩
      have hl := cut_len k
      rw [← e] at hl
      have hv := hall v r'.rch
      rcases List.mem_append.mp hv with z | z
      · exact z
      · exfalso
        have h2 := (List.pairwise_append.mp hs).2.1
        rcases List.mem_cons.mp z with z | z
        · rw [z] at hl
          omega
        · have h3 := (List.pairwise_cons.mp h2).1 v z
          omega
theorem best_all {f : W} {P : List W} (hall : ∀ w, Rch f w → w ∈ P) (w : W) (c : Int) : BestS p f P w c ↔ Row p f w c := by
  constructor
  · rintro (⟨e, ec⟩ | ⟨v, _, i, j, d, k, e, r, ec⟩)
    · rw [e, ec]
      exact .refl f
    · rw [e, ec]
      exact r.trans (cut_row k)
  · intro r
    rcases r.back_cut with ⟨e, ec⟩ | ⟨v, i, j, d, k, e, r', ec⟩
    · exact .inl ⟨e, ec⟩
    · exact .inr ⟨v, hall v r'.rch, i, j, d, k, e, r', ec⟩
/-- within an outcome: the cuts K of it are through -/
def BestK (p : Nat → Int) (f : W) (P : List W) (now : W) (K : List (Nat × Nat)) (w : W) : Int → Prop := fun c => BestS p f P w c ∨ ∃ k ∈ K, w = cutAt now k.1 k.2 ∧ ∃ d, Row p f now d ∧ c = d + p (k.2 - k.1 - 1)
theorem bestK_nil {f now w : W} {P : List W} (c : Int) : BestK p f P now [] w c ↔ BestS p f P w c := by
  constructor
  · rintro (h | ⟨k, hk, _⟩)
    · exact h
    · cases hk
  · exact .inl
theorem bestK_end {f now w : W} {P : List W} {K : List (Nat × Nat)} (hK : ∀ i j, (i, j) ∈ K ↔ IsCut now i j) (c : Int) : BestK p f P now K w c ↔ BestS p f (P ++ [now]) w c := by
  constructor
  · rintro ((h | ⟨v, hv, z⟩) | ⟨⟨i, j⟩, hk, e, d, r, ec⟩)
    · exact .inl h
    · exact .inr ⟨v, List.mem_append_left _ hv, z⟩
    · exact .inr ⟨now, List.mem_append_right _ (List.mem_singleton.mpr rfl), i, j, d, (hK i j).mp hk, e, r, ec⟩
  · rintro (h | ⟨v, hv, i, j, d, k, e, r, ec⟩)
    · exact .inl (.inl h)
    · rcases List.mem_append.mp hv with z | z
      · exact .inl (.inr ⟨v, z, i, j, d, k, e, r, ec⟩)
      · have z' := List.mem_singleton.mp z
        subst z'
        exact .inr ⟨(i, j), (hK i j).mpr k, e, d, r, ec⟩
theorem bestK_now {f now : W} {P : List W} {K : List (Nat × Nat)} (hK : ∀ k ∈ K, IsCut now k.1 k.2) (c : Int) : BestK p f P now K now c ↔ BestS p f P now c := by
  constructor
  · rintro (h | ⟨k, hk, e, _⟩)
    · exact h
    · have := cut_len (hK k hk)
      rw [← e] at this
      omega
  · exact .inl
theorem bestK_snoc {f now w : W} {P : List W} {K : List (Nat × Nat)} {k : Nat × Nat} {o : Option Int} {b : Int} (h : Lst (BestK p f P now K w) o) (hb : Lst (Row p f now) (some b)) :
    Lst (BestK p f P now (K ++ [k]) w) (if w = cutAt now k.1 k.2 then some (omin o (b + p (k.2 - k.1 - 1))) else o) := by
  by_cases e : w = cutAt now k.1 k.2
  · rw [if_pos e]
    have ht : Lst (fun c => ∃ d, Row p f now d ∧ c = d + p (k.2 - k.1 - 1)) (some (b + p (k.2 - k.1 - 1))) :=
      ⟨fun m z => by cases z; exact ⟨b, hb.1 b rfl, rfl⟩, fun c ⟨d, r, ec⟩ => by
        obtain ⟨m, z, hm⟩ := hb.2 d r
        cases z
        exact ⟨_, rfl, by omega⟩⟩
    refine (h.or ht).congr fun c => ?_
    constructor
    · rintro ((z | ⟨k', hk', z⟩) | z)
      · exact .inl z
      · exact .inr ⟨k', List.mem_append_left _ hk', z⟩
      · exact .inr ⟨k, List.mem_append_right _ (List.mem_singleton.mpr rfl), e, z⟩
    · rintro (z | ⟨k', hk', e', z⟩)
      · exact .inl (.inl z)
      · rcases List.mem_append.mp hk' with y | y
        · exact .inl (.inr ⟨k', y, e', z⟩)
        · rw [List.mem_singleton.mp y] at z
          exact .inr z
  · rw [if_neg e]
    refine h.congr fun c => ?_
    constructor
    · rintro (z | ⟨k', hk', z⟩)
      · exact .inl z
      · exact .inr ⟨k', List.mem_append_left _ hk', z⟩
    · rintro (z | ⟨k', hk', e', z⟩)
      · exact .inl z
      · rcases List.mem_append.mp hk' with y | y
        · exact .inr ⟨k', y, e', z⟩
        · rw [List.mem_singleton.mp y] at e'
          exact absurd e' e
/-! ### how many outcomes -/
def subs : W → List W
  | [] => [[]]
  | x :: r => subs r ++ (subs r).map (x :: ·)
theorem mem_subs {s f : W} (h : s.Sublist f) : s ∈ subs f := by
  induction h with
  | slnil => exact List.mem_singleton.mpr rfl
  | cons a h ih => exact List.mem_append_left _ ih
  | cons_cons a h ih => exact List.mem_append_right _ (List.mem_map.mpr ⟨_, ih, rfl⟩)
theorem subs_len (f : W) : (subs f).length = 2 ^ f.length := by
  induction f with
  | nil => rfl
  | cons x r ih =>
    show (subs r ++ (subs r).map (x :: ·)).length = 2 ^ (r.length + 1)
    rw [List.length_append, List.length_map, ih, Nat.pow_succ]
    omega
theorem nodup_le : ∀ {L M : List W}, L.Nodup → (∀ w ∈ L, w ∈ M) → L.length ≤ M.length
  | [], _, _, _ => Nat.zero_le _
  | w :: L, M, hn, hs => by
    obtain ⟨h1, h2⟩ := List.nodup_cons.mp hn
    have hm := hs w List.mem_cons_self
    have hr := nodup_le (M := M.erase w) h2 fun v hv => by
      have hne : v ≠ w := fun e => h1 (e ▸ hv)
      exact (List.mem_erase_of_ne hne).mpr (hs v (List.mem_cons_of_mem _ hv))
    rw [List.length_erase_of_mem hm] at hr
    have h0 : 0 < M.length := List.length_pos_of_mem hm
    rw [List.length_cons]
    omega
theorem Row.sub {f g : W} {c : Int} (r : Row p f g c) : g.Sublist f := by
  induction r with
  | refl f => exact List.Sublist.refl f
  | step u x m v r ih =>
    refine ih.trans ?_
    refine (List.Sublist.refl u).append ?_
    refine List.Sublist.cons_cons x ?_
    have h : v.Sublist (x :: v) := List.sublist_cons_self x v
    exact h.trans (List.sublist_append_right m (x :: v))
theorem sub_form {x y : Nat} {mid w : W} (hs : w.Sublist (x :: (mid ++ [y]))) (hh : w.head? = some x) (hl : w.getLast? = some y) : w = [x] ∨ ∃ s, s.Sublist mid ∧ w = x :: (s ++ [y]) := by
  cases w with
  | nil => cases hh
  | cons z t =>
    have ez : z = x := Option.some.inj hh
    subst ez
    by_cases ht : t = []
    · exact .inl (by rw [ht])
    · refine .inr ?_
      have et := (List.dropLast_concat_getLast ht).symm
      have el : t.getLast ht = y := by
        rw [List.getLast?_cons, List.getLast?_eq_some_getLast ht] at hl
        exact Option.some.inj hl
      rw [el] at et
      have h1 := List.cons_sublist_cons.mp hs
      rw [et] at h1
      have h2 := (List.append_sublist_append_right [y]).mp h1
      exact ⟨t.dropLast, h2, by rw [← et]⟩
theorem six_len (a b c d e f : Nat) : ((subs [a, b, c, d, e, f]).filter fun s : W => decide (2 ≤ s.length)).length = 57 := rfl
theorem out_count {f : W} {L : List W} (h8 : f.length ≤ 8) (hf : ∀ x ∈ f, x = 97 ∨ x = 98 ∨ x = 99) (hn : L.Nodup) (hL : ∀ w ∈ L, Rch f w) : L.length ≤ 62 := by
  by_cases h2 : f.length < 2
  · have h1 : L.length ≤ [f].length := nodup_le hn fun w hw => by
      obtain ⟨c, r⟩ := hL w hw
      rcases r.back_cut with ⟨e, _⟩ | ⟨v, i, j, c', ⟨k1, x, k2, k3⟩, e, r', _⟩
      · rw [e]; exact List.mem_singleton.mpr rfl
      · have hl := r'.len
        have h3 : j < v.length := (List.getElem?_eq_some_iff.mp k3).1
        omega
    rw [List.length_singleton] at h1
    omega
  · obtain ⟨x, mid, y, ef⟩ : ∃ x mid y, f = x :: (mid ++ [y]) := by
      cases f with
      | nil => simp at h2
      | cons x t =>
        have ht : t ≠ [] := fun z => by rw [z] at h2; simp at h2
        exact ⟨x, t.dropLast, t.getLast ht, by rw [List.dropLast_concat_getLast ht]⟩
    have hform : ∀ w ∈ L, w = [x] ∨ ∃ s, s.Sublist mid ∧ w = x :: (s ++ [y]) := fun w hw => by
      obtain ⟨c, r⟩ := hL w hw
      refine sub_form (by rw [← ef]; exact r.sub) ?_ ?_
      · rw [← r.head, ef]; rfl
      · rw [← r.last, ef, List.getLast?_cons]; simp
    have hm : mid.length ≤ 6 := by
      rw [ef] at h8
      simp at h8
      omega
    by_cases h6 : mid.length ≤ 5
    · have h1 : L.length ≤ ([x] :: (subs mid).map fun s => x :: (s ++ [y])).length := nodup_le hn fun w hw => by
        rcases hform w hw with e | ⟨s, hs, e⟩
        · rw [e]; exact List.mem_cons_self
        · exact List.mem_cons_of_mem _ (List.mem_map.mpr ⟨s, mem_subs hs, e.symm⟩)
      rw [List.length_cons, List.length_map, subs_len] at h1
      have h3 : 2 ^ mid.length ≤ 2 ^ 5 := Nat.pow_le_pow_right (by omega) h6
      omega
    · have em : ∃ a b c d e g, mid = [a, b, c, d, e, g] := by
        match mid, h6, hm with
        | [a, b, c, d, e, g], _, _ => exact ⟨a, b, c, d, e, g, rfl⟩
        | [], h, _ => simp at h
        | [_], h, _ => simp at h
        | [_, _], h, _ => simp at h
        | [_, _, _], h, _ => simp at h
        | [_, _, _, _], h, _ => simp at h
        | [_, _, _, _, _], h, _ => simp at h
        | _ :: _ :: _ :: _ :: _ :: _ :: _ :: _, _, h => simp at h
      obtain ⟨a, b, c, d, e, g, em⟩ := em
      have h1 : L.length ≤ ([x] :: (([[], [97], [98], [99]] : List W) ++ ((subs mid).filter fun s : W => decide (2 ≤ s.length))).map fun s => x :: (s ++ [y])).length := nodup_le hn fun w hw => by
        rcases hform w hw with e | ⟨s, hs, e⟩
        · rw [e]; exact List.mem_cons_self
        · refine List.mem_cons_of_mem _ (List.mem_map.mpr ⟨s, ?_, e.symm⟩)
          by_cases hs2 : 2 ≤ s.length
          · exact List.mem_append_right _ (List.mem_filter.mpr ⟨mem_subs hs, decide_eq_true hs2⟩)
          · refine List.mem_append_left _ ?_
            match s, hs, hs2 with
            | [], _, _ => simp
            | [z], hs, _ =>
              have hz : z ∈ f := by
                have := hs.subset (List.mem_singleton.mpr rfl)
                rw [ef]
                simp [this]
              rcases hf z hz with h | h | h <;> rw [h] <;> simp
            | _ :: _ :: _, _, h => simp at h
      rw [em, List.length_cons, List.length_map, List.length_append, six_len] at h1
      simpa using h1
end JC
namespace Jc
open PySem PySem.Spec PyProof.Rows L2
def topS (i : Nat) : Stmt := PySem.Challenge.pw_jumpcuts_k20_whole_prices.main.body.getD i (.Pass ⟨0, 0, 0, 0⟩)
abbrev FnP (K : PySem.W.Frag) (x : Str) (st : Stmt) (f : Addr) (fd : FuncData) : Prop := FunD K x x (defArgs st) (defBody st) (defScope st) [] [] f fd
abbrev sIsInt : Stmt := topS 8
abbrev sIsFrom : Stmt := topS 9
abbrev sNeedFilm : Stmt := topS 10
abbrev sNeedShort : Stmt := topS 11
abbrev sNeedPrices : Stmt := topS 14
abbrev sLeast : Stmt := topS 15
abbrev sCheapest : Stmt := topS 16
abbrev sFewestOf : Stmt := topS 18
abbrev sFewest : Stmt := topS 19
abbrev sTaken : Stmt := topS 21
abbrev sPick : Stmt := topS 22
abbrev sAlike : Stmt := topS 23
abbrev sFilm : Stmt := topS 24
abbrev sNext : Stmt := topS 25
abbrev sAll : Stmt := topS 26
abbrev sDrawn : Stmt := topS 27
abbrev sGoal : Stmt := topS 28
abbrev sCuts : Stmt := topS 29
abbrev sAfter : Stmt := topS 30
abbrev sLaw : Stmt := topS 31
end Jc
namespace Jr
open PySem PySem.Spec PyProof.Rows L2
/-! ### enumerate of a text -/
def ItES (x : Str) : It :=
  ⟨fun i _ => i < x.cps.size, fun i H v H' => ∃ T c, v = .ref T ∧ H T = none ∧ H' = upd H T (.tup [.int (i : Nat), .str ⟨#[c]⟩]) ∧ x.cps[i]? = some c, fun i _ => i = x.cps.size⟩
theorem turn_es {P : Program} {w : World} {K : PySem.W.Frag} {elts : List Expr} {kk : Nat} {tpos : Pos} (e it : Addr) (x : Str) (t : Tok) :
    Turn P w K (.Tuple elts kk tpos) (ItES x) [e, it] e (fun i h => (∃ old, IsEnum h e it ((i : Nat) : Int) old) ∧ h.IsStrIter it (strIterType x) x t i ∧ e ≠ it) where
  mem := by simp
  obj := fun i h st b hb => by
    obtain ⟨⟨old, he⟩, ⟨o, ho, hc, hd⟩, _⟩ := st
    rcases (show b = e ∨ b = it by simpa using hb) with z | z
    · subst z; exact ⟨_, he, fun v q => nomatch q⟩
    · subst z; exact ⟨o, ho, fun v q => by rw [hd] at q; cases q⟩
  keep := fun i h h' st k => by
    obtain ⟨⟨old, he⟩, ⟨o, ho, r⟩, hne⟩ := st
    exact ⟨⟨old, k e (by simp) _ he⟩, ⟨o, k it (by simp) o ho, r⟩, hne⟩
  item := by
    intro X hP hw hK hc i pins s σ H E I hf st hg
    subst hP hw hK
    obtain ⟨⟨old, he⟩, hit, hne⟩ := st
    have hel : e < s.heap.objs.size := Heap.lt_size he
    have hil : it < s.heap.objs.size := by obtain ⟨_, q, _⟩ := hit; exact Heap.lt_size q
    have D : Draws X.prog X.w X.A.in1 it [it] x.cps.size (fun i v => ∃ c u, x.cps[i]? = some c ∧ v = .str ⟨#[c]⟩ u) (fun i h => h.IsStrIter it (strIterType x) x t i) := Draws.text (A := X.A.in1) (show X.A.in1.handled = none from I.ok.hd hc) it x t
    refine wpAny_pyNext_enum_itemD D he hit hg hne (fun z => hne (List.mem_singleton.mp z)) fun u h1 tk pu ho st1 hT hsz hk => ?_
    obtain ⟨c, tu, hcx, rfl⟩ := pu
    refine ⟨_, rfl, ?_⟩
    refine wpAny_letOwnedTupleGo_enum (s := { s with heap := h1, toks := tk + 1 }) ho fun h2 he2 sb => ?_
    have hT2 : h2.get? s.heap.objs.size = some { cls := .type "tuple", data := .seq #[.int i tk, .str ⟨#[c]⟩ tu] } := (sb.2 _ (Nat.ne_of_gt hel)).trans hT
    have ob : ObjOk X.prog X.w (upd H s.heap.objs.size (.tup [.int (i : Nat), .str ⟨#[c]⟩])) h2 s.heap.objs.size (.tup [.int (i : Nat), .str ⟨#[c]⟩]) :=
      ⟨by show 2 ≤ sizeLine; decide, [.int i tk, .str ⟨#[c]⟩ tu], .cons ⟨_, rfl⟩ (.cons ⟨_, rfl⟩ .nil), ⟨_, hT2, rfl, _, rfl⟩⟩
    have I1 : Inv X pins σ (upd H s.heap.objs.size (.tup [.int (i : Nat), .str ⟨#[c]⟩])) { s with heap := h2, toks := tk + 1 } :=
      I.turnedNew (ch := [e, it]) (fun b o hb q => by
        have n1 : b ≠ e := fun z => hb (by simp [z])
        have n2 : b ≠ it := fun z => hb (by simp [z])
        exact (sb.2 b n1).trans (hk b o n1 n2 q)) hf (Nat.le_refl _) ob
    refine ⟨.ref s.heap.objs.size, _, I1, rfl, ⟨_, c, rfl, I.hok.fresh (Nat.le_refl _), rfl, hcx⟩, ⟨⟨.str ⟨#[c]⟩ tu, ?_⟩, ?_, hne⟩, fun b hb => ?_⟩
    · have e1 : ((i + 1 : Nat) : Int) = (i : Int) + 1 := by omega
      rw [e1]
      exact he2
    · obtain ⟨o, q, r⟩ := st1
      exact ⟨o, (sb.2 it (Ne.symm hne)).trans q, r⟩
    · have hlt : b < s.heap.objs.size := by
        rcases (show b = e ∨ b = it by simpa using hb) with z | z <;> rw [z] <;> assumption
      rw [upd_ne (Nat.ne_of_lt hlt)]
      exact (hf b hb).1
  done := by
    intro X hP hw hK hc i pins s σ H E I hf st hg
    subst hP hw hK
    obtain ⟨⟨old, he⟩, hit, hne⟩ := st
    obtain ⟨f0, f1, f2, f3, f4, f5⟩ := hf it (by simp)
    have hi : i = x.cps.size := hg
    subst hi
    have D : Draws X.prog X.w X.A.in1 it [it] x.cps.size (fun i v => ∃ c u, x.cps[i]? = some c ∧ v = .str ⟨#[c]⟩ u) (fun i h => h.IsStrIter it (strIterType x) x t i) := Draws.text (A := X.A.in1) (show X.A.in1.handled = none from I.ok.hd hc) it x t
    exact wpAny_pyNext_enum_endD D he hit fun h' eb => ⟨rfl, I.turned (t' := s.toks) (fun b o hb q => eb b o hb q) f0 f1 f3 f4 f5⟩
  self := fun A i s Q E st h => by
    obtain ⟨⟨_, he⟩, _⟩ := st
    exact wpAny_pyIter_enum he h
def iES (ta : TA) : TI := fun σ H R => ta σ H fun vs H1 => ∃ x, vs = [.str x] ∧ R (ItES x) H1
theorem pi_es {X : Cx} {e : Expr} {ta : TA} {p pos tpos : Pos} {elts : List Expr} {kk : Nat} (hg : Gl X "enumerate") (hm : X.mg "enumerate" = none) (ha : PA X [e] ta) (hs : starEach [e] X.env = [(false, eval e X.env)] := by rfl) :
    PI X (.Tuple elts kk tpos) (.Call (.Name "enumerate" p) [e] [] pos) (iES ta) := by
  refine ⟨fun pins s σ H R I h => ?_⟩
  refine Call_ (ld_blt I hg hm boot_enumerate (PyProof.Rows.callWith_type1 (thn (ha.run pos pins s σ H _ I h) fun us s1 ⟨vs, H1, I1, r1, x, ex, q⟩ => ?_) hs rfl))
  subst ex
  obtain ⟨u, rfl, t, rfl⟩ : ∃ u, us = [u] ∧ RelV (.str x) u := by
    cases r1 with
    | cons r rr =>
      cases rr
      exact ⟨_, rfl, r⟩
  refine call_enumerate_str fun h' he hit hsz hk => wpAny_pyIter_enum he ?_
  have I2 : Inv X pins σ H1 { s1 with heap := h' } := I1.kept (t' := s1.toks) hk
  refine ⟨s1.heap.objs.size + 1, [s1.heap.objs.size + 1, s1.heap.objs.size], _, _, H1, rfl, I2, turn_es (s1.heap.objs.size + 1) s1.heap.objs.size x t, ⟨⟨.none, he⟩, hit, Nat.succ_ne_self _⟩, fun b hb => ?_, q⟩
  have hle : s1.heap.objs.size ≤ b := by
    rcases (show b = s1.heap.objs.size + 1 ∨ b = s1.heap.objs.size by simpa using hb) with z | z <;> rw [z]
    · exact Nat.le_succ _
    · exact Nat.le_refl _
  exact I1.fpOk hle (I1.hok.fresh hle)
theorem walk_es {x : Str} : Walk (ItES x) x.cps.size (fun _ => True) (fun i H v H' => ∃ T c, v = .ref T ∧ H T = none ∧ H' = upd H T (.tup [.int (i : Nat), .str ⟨#[c]⟩]) ∧ x.cps[i]? = some c) :=
  ⟨fun _ _ hi _ => hi, fun _ _ => rfl, fun _ _ _ _ _ _ y => y⟩
/-! ### a tuple no time, one time -/
theorem mul_one (l : Addr) (items : Array Value) (n : Nat) (sl : Array (Option Value)) (dd : Option Addr) (u : Tok) :
    Meets (Builtin.«tuple.__mul__» ⟨[.ref l, .int 1 u], []⟩) (fun _ R s => s.heap.get? l = some { cls := .type "tuple", dict := dd, data := .seq items n, slots := sl } ∧ R (.ok (.ret (.ref l))) s) :=
  .of_wp fun prog w A R s h => by
    obtain ⟨hp, g, d, tk, os⟩ := s
    obtain ⟨hl, h⟩ := h
    have f1 := AutoSeq1.idx_int
    wp_walk using wpAny_loadPart' hl
    repeat (first
      | (refine wpAny_ite_false (by decide) ?_; wp_walk using wpAny_loadPart' hl)
      | (refine wpAny_ite_true (by simp) ?_; wp_walk using wpAny_loadPart' hl))
    exact ⟨_, rfl, h⟩
theorem mul_zero (l : Addr) (items : Array Value) (n : Nat) (sl : Array (Option Value)) (dd : Option Addr) (u : Tok) (hi : items.isEmpty = false) :
    Meets (Builtin.«tuple.__mul__» ⟨[.ref l, .int 0 u], []⟩) (fun _ R s => s.heap.get? l = some { cls := .type "tuple", dict := dd, data := .seq items n, slots := sl } ∧
      R (.ok (.ret (.ref s.heap.objs.size))) { s with heap := s.heap.push { cls := .type "tuple", data := .seq #[] } }) :=
  .of_wp fun prog w A R s h => by
    obtain ⟨hp, g, d, tk, os⟩ := s
    obtain ⟨hl, h⟩ := h
    have f1 := AutoSeq1.idx_int
    wp_walk using wpAny_loadPart' hl
    repeat (first
      | (refine wpAny_ite_false (by first | decide | (rw [hi]; decide)) ?_; wp_walk using wpAny_loadPart' hl)
      | (refine wpAny_ite_true (by simp) ?_; wp_walk using wpAny_loadPart' hl))
    exact ⟨_, rfl, h⟩
/-- t * 0, t * 1 -/
def rRep01 (K : PySem.W.Frag) : R2 := fun x y H Q => ∃ l k xs, x = .ref l ∧ y = .int k ∧ SqT K H l xs ∧ xs ≠ [] ∧ ((k = 1 ∧ Q (.ref l) H) ∨ (k = 0 ∧ ∀ p, H p = none → Q (.ref p) (upd H p (.tup []))))
theorem op_rep01 {X : Cx} : OpR X (binaryOp .Mult) (rRep01 X.K) := by
  intro pins s σ H x y v u Q I rx ry h
  obtain ⟨l, k, xs, rfl, rfl, hT, hne, q⟩ := h
  cases rx
  obtain ⟨t, rfl⟩ := ry
  obtain ⟨its, r, ⟨⟨cls, dd, data, sl⟩, ho, hc, n, hd⟩, hs⟩ := I.tuple hT
  simp only at hc hd
  subst hc hd
  have hi : its.toArray.isEmpty = false := by
    cases r with
    | nil => exact absurd rfl hne
    | cons _ _ => rfl
  refine wpAny_binaryOp_repeat_ref (T := "tuple") (U := "int") (by decide) ⟨_, ho, rfl⟩ (fun s' => typeIs_int s' k t) noFill_tuple_mul F.fills_int_mul F.slot_int_rmul repeat_tuple F.slot_int_index.lookup
    (call_meets F.slot_int_rmul (typeIs_int s k t) F.entry_int_rmul (F.args_int_rmul_2 _ _) (int_rmul_tuple k t l its.toArray n dd sl) ⟨ho, rfl, ⟨_, ho, rfl⟩, ?_⟩)
  rcases q with ⟨rfl, q⟩ | ⟨rfl, q⟩
  · exact call_meets F.slot_tuple_mul ⟨_, ho, rfl⟩ F.entry_tuple_mul (F.args_tuple_mul_2 _ _) (mul_one l its.toArray n sl dd t) ⟨ho, ⟨.ref l, H, I, rfl, q⟩⟩
  · refine call_meets F.slot_tuple_mul ⟨_, ho, rfl⟩ F.entry_tuple_mul (F.args_tuple_mul_2 _ _) (mul_zero l its.toArray n sl dd t hi) ⟨ho, ?_⟩
    refine ⟨.ref s.heap.objs.size, _, I.laid (t' := s.toks) (o := .tup []) (fun b ob q => Heap.get?_push_of_some _ q) (Nat.le_refl _) ?_, rfl, q _ (I.hok.fresh (Nat.le_refl _))⟩
    exact ⟨Nat.zero_le _, [], .nil, IsTup.new _ _⟩
end Jr
namespace Jr
open PySem PySem.Spec PyProof.Rows L2
/-! ### a lambda that captures nothing, called -/
theorem lam_call {CX : CXT} {P : Program} {w : World} {K : PySem.W.Frag} {mg : Str → Option Value} {base : Heap} {k : Nat} {f c' : Addr} {nm qual : Str} {params : Arguments} {body : Expr} {scope : Scope} {pm ctv : Value}
    {N ps : List Str} {A : Around} {outer : List Env} {s : Shared} {H : Hp} {us : List Value} {vs : List V} {Q : VK} {E : XK}
    (ho : s.heap.get? f = some (PySem.W.kla_obj nm qual params body scope [] pm c' ctv)) (hcd : s.heap.CodeRec (.ref c') qual) (S : FnScope N ps scope)
    (hr : Room (k + 1) A) (e0 : Env0 P w K mg base A outer s H) (hb : bindArgs (PySem.W.kla_fn nm qual params body scope [] pm (.ref c') ctv) ⟨us, []⟩ = pure (ps.zip us)) (r : Vals vs us) (hl : vs.length = ps.length)
    (hbody : Room k (A.deeper (envOfC qual scope s.heap.objs.size f (.ref c'))) → ∃ t, PE (cxOf CX P w K mg base N qual scope f (.ref c') A outer s H E) body t ∧ t (L2.start N vs) H Q) :
    codeAny (model P w) A (.call (.ref f) ⟨us, []⟩) (CR CX outer P w H s Q E) s := by
  have lim : s.heap.NoLimit := e0.mod.nolimit.keeps fun b o e => (e0.bs b o e).1
  have hkind : ∀ y ∈ ps.zip us, scope.names.lookup y.1 = some .local ∨ (scope.names.lookup y.1 = some .cell ∧ ((cellsFrom (s.heap.objs.size + 1) scope.names []).lookup y.1).isSome = true) := by
    rintro ⟨n, v⟩ hy
    rcases S.par n (List.of_mem_zip hy).1 with q | q
    · exact .inl q
    · exact .inr ⟨q, PySem.W.cellsFrom_some _ _ _ (.inl q)⟩
  refine PySem.W.kla_callFunE hr.depth ho rfl S.co S.gen rfl hcd ?_
  rw [hb]
  refine wpAny_pure (wpAny_newFunctionEnv_cells S.kind hkind fun env he s1 x => ?_)
  subst he
  refine ⟨lim.keeps x.toInCall.keep, ?_⟩
  obtain ⟨t, ht, hq⟩ := hbody (hr.deeper _)
  have J : Inv (cxOf CX P w K mg base N qual scope f (.ref c') A outer s H E) [] (L2.start N vs) H s1 := inv_start S hr.hd e0 hl r x
  refine PySem.W.kla_codeExpr (wpAny_mono (ht.run [] s1 (L2.start N vs) H Q J hq) (fun v s' hz => ?_) fun e s' hz => hz)
  obtain ⟨v', H', J', rv, q⟩ := hz
  exact ⟨v', H', J'.os, J'.bare, J'.base, J'.hok, rv, q⟩
/-! ### sorted by a key, over the layer's state -/
section
variable {prog : Program} {w : World} {A : Around} {E : Value → Shared → Prop} {s : Shared} {a kS : Addr} {vs : List Value} {kz : List Int} {keys : Array Value} {n1 n2 : Nat} {R : PySem.Fin → Shared → Prop}
theorem keys_size (hi : IntsAre keys.toList kz) (hz : kz.length = vs.length) : keys.size = vs.length := by
  have q := hi.length
  rw [Array.length_toList] at q; omega
theorem srt_tail {st : SortSt} (gk : s.heap.get? kS = some (seqObj "list" keys n1)) (ga : s.heap.get? a = some (seqObj "list" #[] n2)) (ne : kS ≠ a) (hi : IntsAre keys.toList kz) (hz : kz.length = vs.length) (lt : vs.length < 64)
    (pm : (arrOf st).Perm (keys.zip vs.toArray)) (so : SortedTo (arrOf st) (arrOf st).size) (nf : failedOf st = none)
    (fin : ∀ g out m, (∀ b o, b ≠ kS → b ≠ a → s.heap.get? b = some o → g.get? b = some o) → (∃ o, g.get? kS = some o) → g.get? a = some (seqObj "list" out m) → KskOut false kz vs out.toList → R (.done (.ret .none)) { s with heap := g }) :
    wpAny (model prog w) A (ksk_tail a false n2 (.ref kS) st) R E s := by
  have z1 := keys_size hi hz
  have z2 : (arrOf st).size = vs.length := by
    rw [pm.size_eq, Array.size_zip, z1, List.size_toArray, Nat.min_self]
  have u1 := Heap.SameBut.update s.heap kS (Obj.mapSeq fun _ => (#[] : Array Value))
  have ga1 := (u1.2 a ne.symm).trans ga
  have u2 := Heap.SameBut.update (s.heap.update kS (Obj.mapSeq fun _ => (#[] : Array Value))) a (Obj.mapSeq fun _ => (arrOf st).map (·.2))
  obtain ⟨m, gm⟩ : ∃ m, ((s.heap.update kS (Obj.mapSeq fun _ => (#[] : Array Value))).update a (Obj.mapSeq fun _ => (arrOf st).map (·.2))).get? a = some (seqObj "list" ((arrOf st).map (·.2)) m) := ⟨_, get?_update_seq ga1 _⟩
  obtain ⟨m', gk1⟩ : ∃ m, (s.heap.update kS (Obj.mapSeq fun _ => (#[] : Array Value))).get? kS = some (seqObj "list" #[] m) := ⟨_, get?_update_seq gk fun _ => #[]⟩
  unfold ksk_tail
  dsimp only
  refine wpAny_bind (listUpdate_at gk rfl ?_ (by rw [z1, sizeLine_eq]; omega) (Nat.zero_le _))
  refine wpAny_bind (wpAny_letGo (wpAny_bind (seqEpoch_at ga1 rfl ?_)))
  refine wpAny_bind (listUpdate_at ga1 rfl ?_ (Nat.zero_le _) (by
    show ((arrOf st).map (·.2)).size ≤ sizeLine + 1
    rw [Array.size_map, z2, sizeLine_eq]; omega))
  rw [nf]
  simp only [bne_self_eq_false, Bool.false_eq_true, if_false]
  refine wpAny_pure (fin _ _ m (fun b o h1 h2 e => (u2.2 b h2).trans ((u1.2 b h1).trans e)) ⟨_, (u2.2 kS ne).trans gk1⟩ gm ?_)
  exact ksk_out (b := false) hi pm so
theorem srt_end (gk : s.heap.get? kS = some (seqObj "list" keys n1)) (ga : s.heap.get? a = some (seqObj "list" #[] n2)) (ne : kS ≠ a) (hi : IntsAre keys.toList kz) (hz : kz.length = vs.length) (lt : vs.length < 64)
    (fin : ∀ g out m, (∀ b o, b ≠ kS → b ≠ a → s.heap.get? b = some o → g.get? b = some o) → (∃ o, g.get? kS = some o) → g.get? a = some (seqObj "list" out m) → KskOut false kz vs out.toList → R (.done (.ret .none)) { s with heap := g }) :
    wpAny (model prog w) A (ksk_end a false vs.toArray n2 (.ref kS) keys) R E s := by
  have z1 := keys_size hi hz
  have z3 : (keys.zip vs.toArray).size = vs.length := by
    rw [Array.size_zip, z1, List.size_toArray, Nat.min_self]
  unfold ksk_end
  simp only [Bool.false_eq_true, if_false]
  by_cases short : vs.toArray.size < 2
  · rw [if_pos short, if_pos short]
    refine wpAny_bind (wpAny_pure (wpAny_bind ?_))
    rw [StateT.run_pure]
    refine wpAny_pure ?_
    refine srt_tail (st := SortSt.mk' general' (keys.zip vs.toArray) #[] 7 none) gk ga ne hi hz lt (Array.Perm.refl _) (fun i j ij jl => ?_) rfl fin
    have jl' : j < (keys.zip vs.toArray).size := jl
    rw [z3] at jl'
    rw [List.size_toArray] at short
    have e : i = j := by omega
    rw [e]
    exact Int.le_refl _
  · rw [if_neg short, if_neg short]
    rw [List.size_toArray] at short
    rw [ksk_kind hi (by rw [z1]; omega)]
    refine wpAny_bind (wpAny_pure (wpAny_bind ?_))
    refine wpAny_mono (wpS_sortRuns (a₀ := keys.zip vs.toArray) (st := SortSt.mk' oneType' (keys.zip vs.toArray) #[] 7 none) (Q := fun _ st' => (arrOf st').Perm (keys.zip vs.toArray) ∧ failedOf st' = none ∧ SortedTo (arrOf st') (keys.zip vs.toArray).size)
      (ksk_intKeys hi) ⟨Array.Perm.refl _, rfl, rfl, rfl⟩ (by rw [z3]; omega) (by rw [z3]; exact lt) fun st' b1 b2 b3 => ⟨b1, b2, b3⟩) ?_ fun _ _ e => e
    rintro ⟨⟨⟩, st'⟩ s' ⟨rfl, b1, b2, b3⟩
    exact srt_tail gk ga ne hi hz lt b1 (by rw [b1.size_eq]; exact b3) b2 fin
theorem ints_snoc {n : Int} {t : Tok} : ∀ {us : List Value} {ns : List Int}, IntsAre us ns → IntsAre (us ++ [.int n t]) (ns ++ [n])
  | _, _, .nil => .cons n t .nil
  | _, _, .cons m u r => .cons m u (ints_snoc r)
theorem srt_rest {f : Value} {J : Shared → Prop} (j0 : J s) (gk : s.heap.get? kS = some (seqObj "list" #[] 0)) (ga : s.heap.get? a = some (seqObj "list" #[] n2)) (ne : kS ≠ a) (hz : kz.length = vs.length) (lt : vs.length < 64)
    (one : ∀ (i : Nat) (v : Value) (k : Int) (t : Shared), vs[i]? = some v → kz[i]? = some k → J t →
      wpAny (model prog w) A (call f [v]) (fun u t' => (∃ q, u = .int k q) ∧ J t' ∧ (∀ o, t.heap.get? a = some o → t'.heap.get? a = some o) ∧ ∀ o, t.heap.get? kS = some o → t'.heap.get? kS = some o) (fun _ _ => False) t)
    (wr : ∀ (t : Shared) (g : Heap), J t → (∀ b o, b ≠ kS → t.heap.get? b = some o → g.get? b = some o) → (∃ o, g.get? kS = some o) → J { t with heap := g })
    (fin : ∀ t g out m, J t → (∀ b o, b ≠ kS → b ≠ a → t.heap.get? b = some o → g.get? b = some o) → (∃ o, g.get? kS = some o) → g.get? a = some (seqObj "list" out m) → KskOut false kz vs out.toList → R (.done (.ret .none)) { t with heap := g }) :
    wpAny (model prog w) A (ksk_rest a f false vs.toArray n2 (.ref kS)) R E s := by
  unfold ksk_rest
  refine wpAny_bind (wpAny_rule ?_)
  rw [List.forIn_toArray]
  refine wpAny_bind (ksk_fold (fun i t => J t ∧ t.heap.get? a = some (seqObj "list" #[] n2) ∧ ∃ ks m, t.heap.get? kS = some (seqObj "list" ks m) ∧ IntsAre ks.toList (kz.take i)) vs 0 s ⟨j0, ga, #[], 0, gk, by simpa using IntsAre.nil⟩ (fun i v t hv hJ => ?_) (fun t hJ => ?_))
  · rw [Nat.zero_add] at hJ ⊢
    obtain ⟨j1, ga1, ks, m, gk1, hi⟩ := hJ
    have il : i < vs.length := (List.getElem?_eq_some_iff.mp hv).1
    have hk : kz[i]? = some kz[i] := List.getElem?_eq_getElem (by omega)
    have zs : ks.size = i := by
      have q := hi.length
      rw [Array.length_toList, List.length_take] at q; omega
    refine wpAny_bind (wpAny_attempt (wpAny_mono (one i v _ t hv hk j1) (fun u t' he => ?_) fun _ _ hF => hF.elim))
    obtain ⟨⟨q, rfl⟩, j2, ka, kk⟩ := he
    have gk2 := kk _ gk1
    have up := Heap.SameBut.update t'.heap kS (Obj.mapSeq (·.push (.int kz[i] q)))
    obtain ⟨m', gm⟩ : ∃ m', (t'.heap.update kS (Obj.mapSeq (·.push (.int kz[i] q)))).get? kS = some (seqObj "list" (ks.push (.int kz[i] q)) m') := ⟨_, get?_update_seq gk2 (·.push (.int kz[i] q))⟩
    have e1 : kz.take (i + 1) = kz.take i ++ [kz[i]] := by
      rw [List.take_add_one, hk]; rfl
    have e2 : (ks.push (Value.int kz[i] q)).toList = ks.toList ++ [Value.int kz[i] q] := by simp
    dsimp only
    refine wpAny_bind (listUpdate_at gk2 rfl ?_ (by rw [zs, sizeLine_eq]; omega) (by
      show (ks.push (Value.int kz[i] q)).size ≤ sizeLine + 1
      rw [Array.size_push, zs, sizeLine_eq]; omega))
    exact wpAny_pure ⟨rfl, wr t' _ j2 (fun b o hb e => (up.2 b hb).trans e) ⟨_, gm⟩, (up.2 a ne.symm).trans (ka _ ga1), _, m', gm, by rw [e2, e1]; exact ints_snoc hi⟩
  · rw [Nat.zero_add] at hJ
    obtain ⟨j1, ga1, ks, m, gk1, hi⟩ := hJ
    rw [List.take_of_length_le (by omega)] at hi
    refine wpAny_bind (listItems_at gk1 rfl ?_)
    exact srt_end gk1 ga1 ne hi hz lt fun g out m' k1 k2 k3 k4 => fin t g out m' j1 k1 k2 k3 k4
end
/-! ### a lambda made, tracked -/
def LamO (f c' : Addr) (qual : Str) (params : Arguments) (body : Expr) (scope : Scope) : HO := .ext fun h => ∃ pm ctv, h.get? f = some (PySem.W.kla_obj "<lambda>" qual params body scope [] pm c' ctv)
def tLam1 (P : Addr) (qual : Str) (params : Arguments) (body : Expr) (scope : Scope) : TE := fun σ H Q => H P = some (.tbl #[]) ∧ ∀ f c' H1, (∀ b o, b ≠ P → H b = some o → H1 b = some o) →
  H1 f = some (LamO f c' qual params body scope) → H1 c' = some (LamX.CodeO c' qual) → Q (.ref f) H1
theorem pe_lam {X : Cx} {c P : Addr} {params : Arguments} {body : Expr} {scope : Scope} {pos : Pos} (TB : LamX.TabB X.base X.mg c P) (hcode : X.env.code = .ref c) (hdef : defaultsOf params X.env = ([], []) := by rfl) (hcl : closureFor scope X.env = pure [] := by rfl) :
    PE X (.Lambda params body scope pos) (tLam1 P (X.env.qual ++ "<lambda>") params body scope) := by
  refine ⟨fun pins s σ H Q I h => ?_⟩
  obtain ⟨hP, q⟩ := h
  have gP : s.heap.get? P = some { cls := .none, data := .fields #[] } := I.hok P _ hP
  refine PySem.W.kla_eval hdef (PySem.W.kla_makeFunction (mg := X.mg) (c := c) (P := P) (ps := #[]) hcl I.ok.glob (I.mod.glob.keeps I.bk) hcode (TB.code.keeps I.bk) gP True.intro (by rfl) TB.gP (TB.bm.keeps I.bk) fun c' ctv g tk hx ge lt hrec htb => ?_)
  obtain ⟨c2, oc, ws, t, e2, hoc, hd, hv⟩ := hrec
  cases e2
  have I1 := LamX.inv_table (t' := tk) (h' := g) I hP hx htb ge ⟨oc, ws, t, hoc, hd, hv⟩
  have nC : H c' = none := I.hok.fresh ge
  have I2 := I1.laid (a := g.objs.size) (o := LamO g.objs.size c' (X.env.qual ++ "<lambda>") params body scope) (t' := tk) (fun b u e => Heap.get?_push_of_some _ e) (Nat.le_refl _)
    ⟨⟨(X.mg "__name__").getD .none, ctv, Heap.get?_push_size _ rfl⟩, ⟨_, Heap.get?_push_size _ rfl⟩, fun h1 h2 ⟨pm, cv, e⟩ st => ⟨pm, cv, st _ e⟩⟩
  have nF : (upd (upd H P (.tbl (#[] ++ #[rawInt pos.line, rawInt pos.col, .ref c']))) c' (LamX.CodeO c' (X.env.qual ++ "<lambda>"))) g.objs.size = none := I1.hok.fresh (Nat.le_refl _)
  refine ⟨.ref g.objs.size, _, I2, rfl, q g.objs.size c' _ (fun b o hb e => ?_) upd_same ?_⟩
  · have hbc : b ≠ c' := ne_of_none e nC
    have e2 : (upd (upd H P (.tbl (#[] ++ #[rawInt pos.line, rawInt pos.col, .ref c']))) c' (LamX.CodeO c' (X.env.qual ++ "<lambda>"))) b = some o := by
      rw [upd_ne hbc, upd_ne hb]
      exact e
    rw [upd_ne (ne_of_none e2 nF)]
    exact e2
  · rw [upd_ne (Nat.ne_of_lt lt), upd_same]
/-! ### sorted(texts, key=such a lambda) -/
def backS : Value → Str
  | .str z _ => z
  | _ => Str.empty
theorem back_strs : ∀ {ss : List Str} {us : List Value}, Vals (ss.map V.str) us → us.map backS = ss ∧ ∀ u ∈ us, ∃ z t, u = Value.str z t
  | [], _, r => by cases r; exact ⟨rfl, fun u h => by cases h⟩
  | z :: ss, _, r => by
    cases r with
    | cons h t =>
      obtain ⟨tk, rfl⟩ := h
      obtain ⟨e, k⟩ := back_strs t
      refine ⟨by rw [List.map_cons, e]; rfl, fun u hu => ?_⟩
      rcases List.mem_cons.mp hu with q | q
      · exact ⟨z, tk, q⟩
      · exact k u q
theorem strs_back : ∀ {us : List Value}, (∀ u ∈ us, ∃ z t, u = Value.str z t) → Vals ((us.map backS).map V.str) us
  | [], _ => .nil
  | u :: us, h => by
    obtain ⟨z, t, rfl⟩ := h u List.mem_cons_self
    exact .cons ⟨t, rfl⟩ (strs_back fun w hw => h w (List.mem_cons_of_mem _ hw))
theorem zip_key (key : Str → Int) : ∀ (us : List Value) (x : Int × Value), x ∈ ((us.map backS).map key).zip us → x.1 = key (backS x.2) ∧ x.2 ∈ us
  | [], _, h => by cases h
  | u :: us, x, h => by
    rcases List.mem_cons.mp (show x ∈ (key (backS u), u) :: ((us.map backS).map key).zip us from h) with e | h
    · rw [e]; exact ⟨rfl, List.mem_cons_self⟩
    · obtain ⟨a, b⟩ := zip_key key us x h
      exact ⟨a, List.mem_cons_of_mem _ b⟩
theorem zip_snd (key : Str → Int) : ∀ (us : List Value), (((us.map backS).map key).zip us).map Prod.snd = us
  | [] => rfl
  | u :: us => congrArg (List.cons u) (zip_snd key us)
def rSortLam (K : PySem.W.Frag) (qual : Str) (params : Arguments) (body : Expr) (scope : Scope) (good : Str → Prop) (key : Str → Int) : List V → List V → Hp → VK → Prop := fun vs zs H Q =>
  ∃ (a f c' : Addr) (ss : List Str), vs = [.ref a] ∧ zs = [.ref f] ∧ SqL K H a (ss.map V.str) ∧ ss.length < 64 ∧ (∀ z ∈ ss, good z) ∧ H f = some (LamO f c' qual params body scope) ∧ H c' = some (LamX.CodeO c' qual) ∧
    ∀ (ys : List Str) (p : Addr), ys.Perm ss → ys.Pairwise (fun x y => key x ≤ key y) → H p = none → Q (.ref p) (upd H p (.lst (ys.map V.str)))
theorem cr_sortedLam {X : Cx} {k : Nat} {qual : Str} {params : Arguments} {body : Expr} {scope : Scope} {N : List Str} {x : Str} {good : Str → Prop} {key : Str → Int} (hr : Room (k + 3) X.A) (S : FnScope N [x] scope)
    (hb : ∀ (f c' : Addr) (pm ctv u : Value), bindArgs (PySem.W.kla_fn "<lambda>" qual params body scope [] pm (.ref c') ctv) ⟨[u], []⟩ = pure ([x].zip [u]))
    (hbody : ∀ (A : Around) (outer : List Env) (s : Shared) (H : Hp) (f c' : Addr) (z : Str) (Q : VK), Room k (A.deeper (envOfC qual scope s.heap.objs.size f (.ref c'))) → good z → Q (.int (key z)) H →
      ∃ t, PE (cxOf CX0 X.prog X.w X.K X.mg X.base N qual scope f (.ref c') A outer s H E0) body t ∧ t (L2.start N [.str z]) H Q) :
    CallRK X (.builtin "sorted") [Str.ofString "key"] (rSortLam X.K qual params body scope good key) := by
  intro pins s σ H vs zs us ws Q I r rz h
  obtain ⟨a0, f, c', ss, rfl, rfl, hs, l64, hgood, hf, hc', q⟩ := h
  obtain rfl := Vals.ref1 r
  obtain rfl := Vals.ref1 rz
  obtain ⟨its, rv, hl, hz⟩ := I.list hs
  obtain ⟨es, hstr⟩ := back_strs rv
  have lits : its.length = ss.length := by rw [← es, List.length_map]
  have lt : its.length < 64 := by omega
  refine call_function_entry_kw kind_sorted plain_sorted entry_sorted (ksk_s1 _ _) ?_
  unfold Builtin.«sorted»
  refine wpAny_bind (m := checkCount "sorted" 1 1 _) (wpAny_pure (wpAny_bind (collect_list hl.isList ?_ (by rw [sizeLine_eq]; omega))))
  refine wpAny_bind (wpAny_newList ?_ (by rw [sizeLine_eq]; omega))
  generalize eg : (s.heap.push (seqObj "list" #[] 0)).update s.heap.objs.size (Obj.mapSeq (· ++ its.toArray)) = g1
  have sz1 : g1.objs.size = s.heap.objs.size + 1 := by rw [← eg, Heap.size_update, size_push']
  have k1 : ∀ b o, s.heap.get? b = some o → g1.get? b = some o := fun b o e => by
    rw [← eg, Heap.get?_update_ne _ _ _ _ (Nat.ne_of_lt (Heap.lt_size e))]
    exact Heap.get?_push_of_some _ e
  have gA : (g1.push (seqObj "list" its.toArray 0)).get? g1.objs.size = some (seqObj "list" its.toArray 0) := Heap.get?_push_size _ rfl
  show wpAny _ _ _ _ _ { s with heap := g1.push (seqObj "list" its.toArray 0) }
  refine wpAny_bind (wpAny_holding (wpAny_call_entry_kw slot_list_sort ⟨_, gA, rfl⟩ entry_list_sort ?_ (ksk_l1 _ _)))
  show wpAny (model X.prog X.w) X.A.in1.in1 (Builtin.«list.sort» ⟨[.ref g1.objs.size], [(Str.ofString "key", .ref f)]⟩) _ _ _
  rw [ksk_t1]
  unfold ksk_tree
  have u1 := Heap.SameBut.update (g1.push (seqObj "list" its.toArray 0)) g1.objs.size (Obj.mapSeq fun _ => (#[] : Array Value))
  obtain ⟨m1, gA1⟩ : ∃ m, ((g1.push (seqObj "list" its.toArray 0)).update g1.objs.size (Obj.mapSeq fun _ => (#[] : Array Value))).get? g1.objs.size = some (seqObj "list" #[] m) := ⟨_, get?_update_seq gA fun _ => #[]⟩
  refine wpAny_bind (listItems_at gA rfl (wpAny_bind (listUpdate_at gA rfl ?_ (by rw [List.size_toArray, sizeLine_eq]; omega) (Nat.zero_le _))))
  refine wpAny_bind (seqEpoch_at gA1 rfl (wpAny_bind (wpAny_newTuple ?_ (by show its.length ≤ _; rw [sizeLine_eq]; omega))))
  refine wpAny_bind (wpAny_newList (wpAny_holding ?_) (Nat.zero_le _))
  generalize eh : ((g1.push (seqObj "list" its.toArray 0)).update g1.objs.size (Obj.mapSeq fun _ => (#[] : Array Value))).push (seqObj "tuple" its.toArray 0) = g2
  have sz2 : g2.objs.size = g1.objs.size + 2 := by rw [← eh, size_push', Heap.size_update, size_push']
  have gA2 : g2.get? g1.objs.size = some (seqObj "list" #[] m1) := by rw [← eh]; exact Heap.get?_push_of_some _ gA1
  have k2 : ∀ b o, s.heap.get? b = some o → g2.get? b = some o := fun b o e => by
    have hlt := Heap.lt_size e
    rw [← eh]
    exact Heap.get?_push_of_some _ ((u1.2 b (Nat.ne_of_lt (by rw [sz1]; exact Nat.lt_succ_of_lt hlt))).trans (Heap.get?_push_of_some _ (k1 b o e)))
  show wpAny (model X.prog X.w) X.A.in1.in1 (ksk_rest g1.objs.size (.ref f) false its.toArray m1 (.ref g2.objs.size)) _ _ { s with heap := g2.push (seqObj "list" #[] 0) }
  have fa : FpOk X pins H g1.objs.size := I.fpOk (by omega) (I.hok.fresh (by omega))
  have fk : FpOk X pins H g2.objs.size := I.fpOk (by omega) (I.hok.fresh (by omega))
  have nst : ∀ b, FpOk X pins H b → ∀ t : Shared, Inv X pins σ H t → b ∉ frs X.stack := fun b fb t It z => by
    rcases List.mem_cons.mp (It.stkSub b z) with y | y
    · exact fb.2.1 y
    · exact fb.2.2.1 y
  have I0 : Inv X pins σ H { s with heap := g2.push (seqObj "list" #[] 0) } := I.kept (t' := s.toks) fun b o e => Heap.get?_push_of_some _ (k2 b o e)
  refine srt_rest (J := fun t => Inv X pins σ H t) (vs := its) (kz := (its.map backS).map key) I0 (Heap.get?_push_size _ rfl) (Heap.get?_push_of_some _ gA2) (Nat.ne_of_gt (by rw [sz2]; exact Nat.lt_succ_of_lt (Nat.lt_succ_self _))) (by rw [List.length_map, List.length_map]) lt (fun i v kk t hv hk It => ?_) (fun t g It kp ex => ?_) (fun t g out m It kp ex ga ko => ?_)
  · obtain ⟨z, tz, rfl⟩ := hstr v (List.mem_of_getElem? hv)
    have ek : kk = key z := by
      rw [List.getElem?_map, List.getElem?_map, hv] at hk
      exact (Option.some.inj hk).symm
    have hz : z ∈ ss := by
      rw [← es]
      exact List.mem_map.mpr ⟨_, List.mem_of_getElem? hv, rfl⟩
    obtain ⟨⟨pm, ctv, hof⟩, _, _⟩ := It.hok f _ hf
    obtain ⟨⟨oc, fs, tq, e1, e2, e3⟩, _, _⟩ := It.hok c' _ hc'
    have e0 := It.env0
    refine wpAny_call (codeAny_mono (lam_call (CX := CX0) (k := k) (E := E0) (Q := fun v H' => v = .int (key z) ∧ H' = H) (vs := [.str z]) hof ⟨c', oc, fs, tq, rfl, e1, e2, e3⟩ S (hr.in1.in1) ⟨e0.frames, e0.mod, e0.bs, e0.bsz, e0.funs, e0.frf, e0.hok, e0.bare⟩ (hb f c' pm ctv _) (.cons ⟨tz, rfl⟩ .nil) rfl
      fun hr' => hbody _ _ _ _ _ _ z _ hr' (hgood z hz) ⟨rfl, rfl⟩) fun rr t' hq => ?_)
    cases rr with
    | error e => exact False.elim hq
    | ok fl =>
      cases fl with
      | next => exact False.elim hq
      | brk => exact False.elim hq
      | cont => exact False.elim hq
      | ret u =>
        obtain ⟨v', H', os, bare, un, hok, rv', rfl, rfl⟩ := id hq
        have hq' : CE X.stack X.prog X.w H' t (fun v H2 => v = .int (key z) ∧ H2 = H') u t' := hq
        obtain ⟨v2, H2, I2, _, _, rfl⟩ := It.after hq'
        obtain ⟨tu, rfl⟩ := rv'
        exact ⟨⟨tu, by rw [ek]⟩, I2, fun o e => un.keep _ o e fa.1 (nst _ fa t It) (by simp), fun o e => un.keep _ o e fk.1 (nst _ fk t It) (by simp)⟩
  · exact It.turned (t' := t.toks) kp fk.1 fk.2.1 fk.2.2.2.1 fk.2.2.2.2.1 fk.2.2.2.2.2
  · obtain ⟨ps, pp, eo, pw⟩ := ko
    have rel : ∀ y ∈ ps, y.1 = key (backS y.2) ∧ y.2 ∈ its := fun y hy => zip_key key its y (pp.mem_iff.mp hy)
    have hout : ∀ u ∈ out.toList, ∃ z t, u = Value.str z t := fun u hu => by
      rw [eo] at hu
      obtain ⟨y, hy, rfl⟩ := List.mem_map.mp hu
      exact hstr _ (rel y hy).2
    have hperm : (out.toList.map backS).Perm ss := by
      have e1 : out.toList.Perm its := by
        rw [eo]
        have z1 := pp.map Prod.snd
        rwa [zip_snd] at z1
      have e2 := e1.map backS
      rwa [es] at e2
    have hpw : (out.toList.map backS).Pairwise fun x y => key x ≤ key y := by
      rw [eo, List.map_map, List.pairwise_map]
      refine List.Pairwise.imp_of_mem (R := fun p q => p.1 ≤ q.1) (fun {x y} hx hy hxy => ?_) (pw.imp fun {x y} h => by simpa using h)
      show key (backS x.2) ≤ key (backS y.2)
      rw [← (rel x hx).1, ← (rel y hy).1]
      exact hxy
    have lo : ((out.toList.map backS).map V.str).length ≤ sizeLine := by
      rw [List.length_map, hperm.length_eq, sizeLine_eq]
      omega
    refine ⟨_, rfl, wpAny_pure ⟨_, rfl, .ref g1.objs.size, upd H g1.objs.size (.lst ((out.toList.map backS).map V.str)), ?_, rfl, q _ _ hperm hpw fa.1⟩⟩
    have na : ∀ b u, H b = some u → b ≠ g1.objs.size := fun b u e z => by rw [z, fa.1] at e; cases e
    have nk : ∀ b u, H b = some u → b ≠ g2.objs.size := fun b u e z => by rw [z, fk.1] at e; cases e
    have two : ∀ b, b ∉ [g1.objs.size, g2.objs.size] → b ≠ g2.objs.size ∧ b ≠ g1.objs.size := fun b hb => ⟨fun z => hb (by simp [z]), fun z => hb (by simp [z])⟩
    refine It.step (g' := t.gens) (t' := t.toks) (d' := t.drawn) (ch := [g1.objs.size, g2.objs.size]) (fun b hb => ?_) (fun b o _ _ hc e _ => kp b o (two b hc).1 (two b hc).2 e) (fun b o _ _ hc e _ => ⟨o.slots, kp b o (two b hc).1 (two b hc).2 e⟩)
      (fun b o hc e n => by rw [upd_ne (two b hc).2]; exact n) (fun b o hc e => ⟨o, kp b o (two b hc).1 (two b hc).2 e⟩) (fun b xs e => by rw [upd_ne (na b _ e)]; exact e) (fun b o u e => by rw [upd_ne (na b _ e)]; exact e)
      (fun b qs e => ⟨#[], by rw [upd_ne (na b _ e), e]; simp⟩) (fun mm hm => ?_) (fun b u e => ?_) It.bare
    · rcases (show b = g1.objs.size ∨ b = g2.objs.size by simpa using hb) with z | z
      · rw [z]; exact ⟨fa.2.2.2.1, fa.2.1, fa.2.2.2.2.1, fa.2.2.2.2.2⟩
      · rw [z]; exact ⟨fk.2.2.2.1, fk.2.1, fk.2.2.2.2.1, fk.2.2.2.2.2⟩
    · obtain ⟨o, dd, ep, ho, rr⟩ := hm
      exact ⟨o, dd, ep, kp _ o (fun z => fk.2.1 z.symm) (fun z => fa.2.1 z.symm) ho, rr⟩
    · by_cases hba : b = g1.objs.size
      · rw [hba, upd_same] at e
        cases e
        rw [hba]
        exact ⟨lo, out.toList, m, strs_back hout, by rw [Array.toArray_toList]; exact ga⟩
      · rw [upd_ne hba] at e
        refine (It.hok b u e).stay (fun d v hd q' => kp d v ?_ ?_ q') (fun d q' => by rw [upd_ne (na d _ q')]; exact q') fun d xs q' => by rw [upd_ne (na d _ q')]; exact q'
        · rcases hd with z | z
          · rw [z]; exact nk b u e
          · exact nk d _ z
        · rcases hd with z | z
          · rw [z]; exact hba
          · exact na d _ z
end Jr
namespace Jc
open PySem PySem.Spec PyProof.Rows L2 Jr
/-! ### built-ins' names -/
structure Bts (mg : Str → Option Value) : Prop where
  isi : mg "isinstance" = none
  int : mg "int" = none
  bool : mg "bool" = none
  str : mg "str" = none
  tup : mg "tuple" = none
  lst : mg "list" = none
  len : mg "len" = none
  enum : mg "enumerate" = none
  max : mg "max" = none
  min : mg "min" = none
  all : mg "all" = none
  rng : mg "range" = none
  srt : mg "sorted" = none
/-! ### films as texts -/
def fs (F : List Nat) : Str := ⟨F.toArray⟩
theorem fs_len (F : List Nat) : (fs F).length = F.length := by
  show F.toArray.size = F.length
  simp
theorem fs_size (F : List Nat) : (fs F).cps.size = F.length := by
  show F.toArray.size = F.length
  simp
theorem fs_list (F : List Nat) : (fs F).cps.toList = F := rfl
theorem fs_get (F : List Nat) (i : Nat) : (fs F).cps[i]? = F[i]? := by
  show F.toArray[i]? = F[i]?
  simp
theorem fs_inj {F G : List Nat} (h : fs F = fs G) : F = G := by
  have h2 := congrArg (fun z : Str => z.cps.toList) h
  exact h2
def GoodF (F : List Nat) : Prop := 1 ≤ F.length ∧ F.length ≤ 200 ∧ ∀ c ∈ F, 97 ≤ c ∧ c ≤ 104
theorem letters_list : (PySem.Str.ofString "abcdefgh").cps.toList = [97, 98, 99, 100, 101, 102, 103, 104] := by decide +kernel
theorem line200 {n : Nat} (h : n ≤ 1000) : n ≤ sizeLine := Nat.le_of_lt (small1000 h)
/-! ### is_int, is_from -/
def spIsInt : Sp := fun vs H Q _ => ∃ n : Int, vs = [.int n] ∧ Q (.bl true) H
def spIsFrom : Sp := fun vs H Q _ => ∃ n a b : Int, vs = [.int n, .int a, .int b] ∧ a ≤ n ∧ n ≤ b ∧ Q (.bl true) H
def spNeedFilm : Sp := fun vs H Q _ => ∃ F, vs = [.str (fs F)] ∧ GoodF F ∧ ∀ H', Same H H' → Q .non H'
def spNeedShort : Sp := fun vs H Q _ => ∃ F, ∃ m : Int, vs = [.str (fs F), .int m] ∧ F.length ≤ 200 ∧ (F.length : Int) ≤ m ∧ Q .non H
section
variable {P : Program} {w : World} {K : PySem.W.Frag} {mg : Str → Option Value} {base : Heap}
theorem sc_isInt : FnScope ["value"] ["value"] (defScope sIsInt) := ⟨rfl, rfl, rfl, by decide +kernel, rfl, by decide +kernel, by decide +kernel⟩
theorem ok_isInt {f : Addr} {fd : FuncData} (F : FnP K "is_int" sIsInt f fd) (T : Bts mg) : FnOk P w K mg base CX0 1 f fd ["value"] spIsInt := by
  refine F.ok sc_isInt (fun vs H Q E h => ?_) (fun cdv A outer s H vs Q E hr h => ⟨_, PSs.nox (pss_one (ps_ret (pe_and (pe_callB call_isi (by rfl) T.isi boot_isinstance (pa_cons (pv 0) (pa_cons (pe_bltn (v := .ty "int") (by rfl) T.int boot_int rfl) pa_nil)))
      (pe_one (pe_not (pe_callB call_isi (by rfl) T.isi boot_isinstance (pa_cons (pv 0) (pa_cons (pe_bltn (v := .ty "bool") (by rfl) T.bool boot_bool rfl) pa_nil)))))))), ?_⟩)
  · obtain ⟨n, rfl, _⟩ := h
    rfl
  · obtain ⟨n, rfl, q⟩ := h
    refine ⟨_, rfl, _, _, .type "int", _, true, rfl, .ty "int", .base (.int n), kit_ty (by decide +kernel), true, rfl, iteT ?_⟩
    exact ⟨_, rfl, _, _, .type "int", _, false, rfl, .ty "bool", .base (.int n), kit_ty (by decide +kernel), false, rfl, q⟩
theorem sc_isFrom : FnScope ["value", "least", "most"] ["value", "least", "most"] (defScope sIsFrom) := ⟨rfl, rfl, rfl, by decide +kernel, rfl, by decide +kernel, by decide +kernel⟩
theorem ok_isFrom {f f1 : Addr} {fd fd1 : FuncData} (F : FnP K "is_from" sIsFrom f fd) (T : Bts mg) (F1 : FnP K "is_int" sIsInt f1 fd1) (g1 : mg "is_int" = some (.ref f1)) : FnOk P w K mg base CX0 2 f fd ["value", "least", "most"] spIsFrom := by
  have G1 : FnOk P w K mg base CX0 1 f1 fd1 ["value"] spIsInt := ok_isInt F1 T
  have b1 : Binds K fd1 ["value"] [] := F1.bindsN fun _ _ _ _ _ _ us hl => match us, hl with | [_], _ => rfl
  refine F.ok sc_isFrom (fun vs H Q E h => ?_) (fun cdv A outer s H vs Q E hr h => ⟨_, PSs.nox (pss_one (ps_ret (pe_and (pe_call G1 hr (by rfl) g1 F1.kp b1 .nil pass0 (pa_cons (pv 0) pa_nil))
      (pe_one (pe_chain op_le op_le (pv 1) (pv 0) (pv 2)))))), ?_⟩)
  · obtain ⟨n, a, b, rfl, _⟩ := h
    rfl
  · obtain ⟨n, a, b, rfl, h1, h2, q⟩ := h
    refine ⟨_, rfl, n, rfl, true, rfl, iteT ?_⟩
    refine ⟨_, rfl, _, rfl, _, _, rfl, rfl, _, rfl, ?_⟩
    rw [decide_eq_true h1]
    refine iteT ⟨_, rfl, _, _, rfl, rfl, ?_⟩
    show Q (V.bl (decide (n ≤ b))) H
    rw [decide_eq_true h2]
    exact q
theorem sc_needFilm : FnScope ["value", "place", "letter"] ["value"] (defScope sNeedFilm) := ⟨rfl, rfl, rfl, by decide +kernel, rfl, by decide +kernel, by decide +kernel⟩
theorem ok_needFilm {f : Addr} {fd : FuncData} (F : FnP K "need_film" sNeedFilm f fd) (T : Bts mg) {t1 t2 : Tok} (gM : mg "MOST_FILM" = some (.int 200 t1)) (gL : mg "LETTERS" = some (.str "abcdefgh" t2)) : FnOk P w K mg base CX0 1 f fd ["value"] spNeedFilm := by
  refine F.ok sc_needFilm (fun vs H Q E h => ?_) (fun cdv A outer s H vs Q E hr h => ⟨_, PSs.nox (pss_cons (ps_if (PW.pt (pw_or (pt_not (pt_val (pe_callB call_isi (by rfl) T.isi boot_isinstance (pa_cons (pv 0) (pa_cons (pe_bltn (v := .ty "str") (by rfl) T.str boot_str rfl) pa_nil)))))
        (pw_or1 (pt_not (pt_chain op_le op_le pe_int (pe_callB call_len_str (by rfl) T.len boot_len (pa_cons (pv 0) pa_nil)) (pe_glob (v := .int 200) (by rfl) gM ⟨_, rfl⟩)))))) pss_never pss_nil)
      (pss_one (ps_for PassesOwn.never rfl (pi_es (by rfl) T.enum (pa_cons (pv 0) pa_nil)) (pg_tup rfl (pgs_cons (pg_name (i := 1) sc_needFilm.nd rfl (.inl rfl)) (pgs_cons (pg_name (i := 2) sc_needFilm.nd rfl (.inl rfl)) pgs_nil)))
        (pss_one (ps_if (pt_cmpR op_notIn_sign (pv 2) (pe_glob (v := .str "abcdefgh") (by rfl) gL ⟨_, rfl⟩) rfl) pss_never pss_nil))))), ?_⟩)
  · obtain ⟨n, rfl, _⟩ := h
    rfl
  · obtain ⟨G, rfl, ⟨l1, l2, hc⟩, q⟩ := h
    refine ⟨_, rfl, _, _, .type "str", _, true, rfl, .ty "str", .base (.str _), kit_ty (by decide +kernel), true, rfl, ?_⟩
    refine iteF ?_
    refine ⟨_, rfl, fs G, rfl, by rw [fs_len]; exact line200 (by omega), _, _, rfl, rfl, _, rfl, ?_⟩
    rw [decide_eq_true (by rw [fs_len]; omega)]
    refine iteT ⟨_, _, rfl, rfl, _, rfl, ?_⟩
    rw [decide_eq_true (by rw [fs_len]; omega)]
    refine iteF ?_
    refine ⟨_, rfl, fs G, rfl, for_it walk_es (fun i σ H2 => ∃ y1 y2, σ = [some (.str (fs G)), y1, y2] ∧ Same H H2) ⟨none, none, rfl, Same.refl H⟩ (fun _ _ _ _ _ => trivial) ?_ ?_⟩
    · rintro i x σ H2 H3 hi ⟨y1, y2, rfl, sm⟩ ⟨T1, c, rfl, nT, rfl, hx⟩
      refine ⟨T1, _, rfl, SqT.of upd_same, rfl, _, _, rfl, _, _, rfl, rfl, ?_⟩
      refine ⟨_, rfl, c, _, rfl, rfl, _, rfl, ?_⟩
      have hm : c ∈ (PySem.Str.ofString "abcdefgh").cps.toList := by
        rw [letters_list]
        have h2 := hc c (by rw [fs_get] at hx; exact List.mem_of_getElem? hx)
        have h3 : c = 97 ∨ c = 98 ∨ c = 99 ∨ c = 100 ∨ c = 101 ∨ c = 102 ∨ c = 103 ∨ c = 104 := by omega
        simpa using h3
      rw [decide_eq_true hm]
      refine iteF ⟨_, _, rfl, fun b o e => ?_⟩
      have e2 := sm b o e
      rw [upd_ne (ne_of_none e2 nT)]
      exact e2
    · rintro σ H2 ⟨y1, y2, rfl, sm⟩
      exact q H2 sm
theorem sc_needShort : FnScope ["film", "most"] ["film", "most"] (defScope sNeedShort) := ⟨rfl, rfl, rfl, by decide +kernel, rfl, by decide +kernel, by decide +kernel⟩
theorem ok_needShort {f : Addr} {fd : FuncData} (F : FnP K "need_short" sNeedShort f fd) (T : Bts mg) : FnOk P w K mg base CX0 1 f fd ["film", "most"] spNeedShort := by
  refine F.ok sc_needShort (fun vs H Q E h => ?_) (fun cdv A outer s H vs Q E hr h => ⟨_, PSs.nox (pss_one (ps_if (pt_cmpR op_gt (pe_callB call_len_str (by rfl) T.len boot_len (pa_cons (pv 0) pa_nil)) (pv 1) (nomark _)) pss_never pss_nil)), ?_⟩)
  · obtain ⟨G, m, rfl, _⟩ := h
    rfl
  · obtain ⟨G, m, rfl, l2, h1, q⟩ := h
    refine ⟨_, rfl, fs G, rfl, by rw [fs_len]; exact line200 (by omega), _, rfl, _, _, rfl, rfl, _, rfl, ?_⟩
    rw [decide_eq_false (by rw [fs_len]; omega)]
    exact iteF q
/-- a tuple of prices -/
def spNeedPrices : Sp := fun vs H Q _ => ∃ F, ∃ t, ∃ ps : List Int, vs = [.str (fs F), .ref t] ∧ H t = some (.tup (ps.map V.int)) ∧ 1 ≤ F.length ∧ F.length ≤ 200 ∧ ps.length + 1 = F.length ∧ (∀ p ∈ ps, 0 ≤ p ∧ p ≤ 1000) ∧ ∀ H', Same H H' → Q .non H'
theorem sc_needPrices : FnScope ["film", "value", "one"] ["film", "value"] (defScope sNeedPrices) := ⟨rfl, rfl, rfl, by decide +kernel, rfl, by decide +kernel, by decide +kernel⟩
theorem ok_needPrices {f f1 f2 : Addr} {fd fd1 fd2 : FuncData} (F : FnP K "need_prices" sNeedPrices f fd) (T : Bts mg) (F1 : FnP K "is_int" sIsInt f1 fd1) (g1 : mg "is_int" = some (.ref f1)) (F2 : FnP K "is_from" sIsFrom f2 fd2) (g2 : mg "is_from" = some (.ref f2)) :
    FnOk P w K mg base CX0 3 f fd ["film", "value"] spNeedPrices := by
  have G2 : FnOk P w K mg base CX0 2 f2 fd2 ["value", "least", "most"] spIsFrom := ok_isFrom F2 T F1 g1
  have b2 : Binds K fd2 ["value", "least", "most"] [] := F2.bindsN fun _ _ _ _ _ _ us hl => match us, hl with | [_, _, _], _ => rfl
  refine F.ok sc_needPrices (fun vs H Q E h => ?_) (fun cdv A outer s H vs Q E hr h => ⟨_, PSs.nox (pss_cons (ps_if (PW.pt (pw_or (pt_not (pt_val (pe_callB call_isi (by rfl) T.isi boot_isinstance (pa_cons (pv 1) (pa_cons (pe_bltn (v := .ty "tuple") (by rfl) T.tup boot_tuple rfl) pa_nil)))))
        (pw_or1 (pt_cmpR op_ne (pe_callB call_len_seq (by rfl) T.len boot_len (pa_cons (pv 1) pa_nil)) (pe_callB (call_max2 rfl) (by rfl) T.max boot_max (pa_cons pe_int (pa_cons (pe_op op_sub (pe_callB call_len_str (by rfl) T.len boot_len (pa_cons (pv 0) pa_nil)) pe_int) pa_nil))) (nomark _))))) pss_never pss_nil)
      (pss_one (ps_if (pt_not (pt_val (pe_callB (cr_all rfl) (by rfl) T.all boot_all (pa_cons (pe_lc (own := [("one", 2)]) (g := gName 2) (tt := tYes) (by rfl) sc_needPrices.nd (pi_tup (pv 1))
          (blkOk_by (own := [("one", 2)]) (N := ["film", "value", "one"]) (sc := defScope sNeedPrices) (by decide +kernel)) (fun _ _ _ _ _ => pg_name (i := 2) sc_needPrices.nd rfl (Or.inl rfl)) (fun _ _ _ _ _ => pts_nil)
          (fun _ _ _ _ _ => pe_call G2 hr (by rfl) g2 F2.kp b2 .nil pass0 (pa_cons (pv 2) (pa_cons pe_int (pa_cons pe_int pa_nil))))) pa_nil)))) pss_never pss_nil))), ?_⟩)
  · obtain ⟨G, t, ps, rfl, _⟩ := h
    rfl
  · obtain ⟨G, t, ps, rfl, ht, l1, l2, hl, hp, q⟩ := h
    refine ⟨_, rfl, _, _, .type "tuple", _, true, rfl, .ty "tuple", .base (.tup ht), kit_ty (by decide +kernel), true, rfl, ?_⟩
    refine iteF ?_
    refine ⟨_, rfl, t, _, rfl, .inr (SqT.of ht), _, rfl, fs G, rfl, by rw [fs_len]; exact line200 (by omega), _, _, rfl, rfl, _, _, rfl, rfl, _, rfl, ?_⟩
    have e1 : (V.int ((ps.map V.int).length : Nat)) = V.int (if ((fs G).length : Int) - 1 > 0 then ((fs G).length : Int) - 1 else 0) := by
      rw [List.length_map, fs_len]
      congr 1
      split <;> omega
    rw [decide_eq_true e1]
    refine iteF ?_
    refine ⟨_, rfl, t, rfl, ⟨_, SqT.of ht⟩, fun D nD => ?_⟩
    refine lc_it (walk_tup (xs := ps.map V.int)) (fun i H2 => H2 D = some (.lst ((List.replicate i true).map V.bl)) ∧ Same H H2) ⟨upd_same, fun b o e => by rw [upd_ne (ne_of_none e nD)]; exact e⟩ (fun i H2 _ h2 => SqT.of (h2.2 _ _ ht)) ?_ ?_
    · rintro i x H2 H3 hi ⟨hD, sm⟩ ⟨rfl, hx⟩
      rw [List.length_map] at hi
      have ex : x = .int ps[i] := by
        rw [List.getElem?_map, List.getElem?_eq_getElem hi] at hx
        exact (Option.some.inj hx).symm
      subst ex
      obtain ⟨p1, p2⟩ := hp ps[i] (List.getElem_mem hi)
      refine ⟨rfl, ?_⟩
      unfold tYes
      refine iteT ?_
      refine ⟨_, rfl, ps[i], 0, 1000, rfl, p1, p2, _, hD, by rw [List.length_map, List.length_replicate]; exact small1000 (by omega), ?_, fun b o e => ?_⟩
      · rw [upd_same, List.replicate_succ', List.map_append]
        rfl
      · rw [upd_ne (ne_of_none e nD)]
        exact sm b o e
    · rintro H2 ⟨hD, sm⟩
      refine ⟨D, _, rfl, SqL.of hD, true, ?_, iteF (q H2 sm)⟩
      rw [show (List.replicate (ps.map V.int).length true).all id = true by simp]
end
end Jc
namespace Jc
open PySem PySem.Spec PyProof.Rows L2 Jr
/-! ### the draw -/
def But (r : Addr) (H H' : Hp) : Prop := ∀ b o, b ≠ r → H b = some o → H' b = some o
theorem But.refl (r : Addr) (H : Hp) : But r H H := fun _ _ _ e => e
theorem But.trans {r : Addr} {H H1 H2 : Hp} (a : But r H H1) (b : But r H1 H2) : But r H H2 := fun c o n e => b c o n (a c o n e)
theorem But.upd (r : Addr) (H : Hp) (o : HO) : But r H (upd H r o) := fun b u n e => by rw [upd_ne n]; exact e
theorem But.of {r : Addr} {H H' : Hp} (s : Same H H') : But r H H' := fun b o _ e => s b o e
theorem But.new {r : Addr} {H H' : Hp} {p : Addr} {o : HO} (a : But r H H') (n : H' p = none) : But r H (L2.upd H' p o) := fun b u nb e => by
  have q := a b u nb e
  rw [upd_ne (ne_of_none q n)]
  exact q
theorem seq_at {K : PySem.W.Frag} {H H' : Hp} {a : Addr} {xs : List V} (h : SqL K H a xs) (k : ∀ o, H a = some o → H' a = some o) : SqL K H' a xs := by
  rcases h with (h | ⟨o, h⟩) | h
  · exact .inl (.inl (k _ h))
  · exact .inl (.inr ⟨o, k _ h⟩)
  · exact .inr h
structure RowAt (K : PySem.W.Frag) (H : Hp) (r a : Addr) (ns : List Int) : Prop where
  scr : (a ≠ r ∧ SqL K H a (ns.map V.int)) ∨ ∀ H', SqL K H' a (ns.map V.int)
  row : ∃ i s q : Int, H r = some (.lst [.ref a, .int i, .int s, .int q]) ∧ 0 ≤ i ∧ 0 ≤ s ∧ s < 2147483648 ∧ 0 ≤ q
theorem RowAt.sq {K : PySem.W.Frag} {H : Hp} {r a : Addr} {ns : List Int} (R : RowAt K H r a ns) : SqL K H a (ns.map V.int) := R.scr.elim (fun h => h.2) fun h => h H
theorem scr_keep {K : PySem.W.Frag} {H H' : Hp} {r a : Addr} {xs : List V} (h : (a ≠ r ∧ SqL K H a xs) ∨ ∀ H', SqL K H' a xs) (b : But r H H') : (a ≠ r ∧ SqL K H' a xs) ∨ ∀ H', SqL K H' a xs := by
  rcases h with ⟨h1, h2⟩ | h
  · exact .inl ⟨h1, seq_at h2 fun o e => b a o h1 e⟩
  · exact .inr h
theorem RowAt.mk' {K : PySem.W.Frag} {H H' : Hp} {r a : Addr} {ns : List Int} (R : RowAt K H r a ns) (b : But r H H') {i s q : Int} (e : H' r = some (.lst [.ref a, .int i, .int s, .int q])) (h1 : 0 ≤ i) (h2 : 0 ≤ s) (h3 : s < 2147483648) (h4 : 0 ≤ q) : RowAt K H' r a ns :=
  ⟨scr_keep R.scr b, i, s, q, e, h1, h2, h3, h4⟩
theorem RowAt.same {K : PySem.W.Frag} {H H' : Hp} {r a : Addr} {ns : List Int} (R : RowAt K H r a ns) (b : Same H H') : RowAt K H' r a ns := by
  obtain ⟨i, s, q, e, h⟩ := R.row
  exact ⟨scr_keep R.scr (But.of b), i, s, q, b _ _ e, h⟩
theorem RowAt.some {K : PySem.W.Frag} {H : Hp} {r a : Addr} {ns : List Int} (R : RowAt K H r a ns) : ∃ o, H r = Option.some o := by
  obtain ⟨i, s, q, e, _⟩ := R.row
  exact ⟨_, e⟩
def spTaken (K : PySem.W.Frag) : Sp := fun vs H Q _ => ∃ r a ns, ∃ m : Int, vs = [.ref r, .int m] ∧ RowAt K H r a ns ∧ 0 < m ∧ m < 1073741824 ∧ ∀ x H', 0 ≤ x → x < m → But r H H' → RowAt K H' r a ns → Q (.int x) H'
theorem pow18 : (10 : Int) ^ (18 : Int).toNat = 1000000000000000000 := by decide
section
variable {P : Program} {w : World} {K : PySem.W.Frag} {mg : Str → Option Value} {base : Heap}
theorem sc_taken : FnScope ["_law_row", "_law_many", "_law_found", "_law_cell"] ["_law_row", "_law_many"] (defScope sTaken) := ⟨rfl, rfl, rfl, by decide +kernel, rfl, by decide +kernel, by decide +kernel⟩
theorem ok_taken {f : Addr} {fd : FuncData} (F : FnP K "_law_taken" sTaken f fd) (T : Bts mg) : FnOk P w K mg base CX0 1 f fd ["_law_row", "_law_many"] (spTaken K) := by
  refine F.ok sc_taken (fun vs H Q E h => ?_) (fun cdv A outer s H vs Q E hr h => ⟨_, PSs.nox (pss_cons (ps_if (pt_cmpR op_gt (pe_ix ix_list (pv 0) pe_int (fun _ _ => rfl)) pe_int (nomark _))
        (pss_cons (ps_set (i := 2) sc_taken.nd rfl (.inl rfl) (pe_op op_modN (pe_callTy call_int1 (by rfl) T.int boot_int (pa_cons (pe_ix ix_list (pv 0) pe_int (fun _ _ => rfl)) pa_nil)) (pv 1)))
          (pss_cons (ps_asg (pe_op op_fdivN (pe_ix ix_list (pv 0) pe_int (fun _ _ => rfl)) (pv 1)) (pg_sub (pv 0) pe_int set_list)) (pss_one (ps_ret (pv 2))))) pss_nil)
      (pss_cons (ps_asg (pe_op op_add (pe_ix ix_list (pv 0) pe_int (fun _ _ => rfl)) pe_int) (pg_sub (pv 0) pe_int set_list))
      (pss_cons (ps_if (pt_cmpR op_gt (pe_ix ix_list (pv 0) pe_int (fun _ _ => rfl)) (pe_callB call_len_seq (by rfl) T.len boot_len (pa_cons (pe_ix ix_list (pv 0) pe_int (fun _ _ => rfl)) pa_nil)) (nomark _))
        (pss_cons (ps_asg (pe_op op_mod (pe_callTy call_int1 (by rfl) T.int boot_int (pa_cons (pe_op op_add (pe_op op_mul (pe_ix ix_list (pv 0) pe_int (fun _ _ => rfl)) pe_int) pe_int) pa_nil)) pe_int) (pg_sub (pv 0) pe_int set_list))
          (pss_one (ps_ret (pe_op op_modN (pe_callTy call_int1 (by rfl) T.int boot_int (pa_cons (pe_op op_fdiv (pe_ix ix_list (pv 0) pe_int (fun _ _ => rfl)) pe_int) pa_nil)) (pv 1))))) pss_nil)
      (pss_cons (ps_set (i := 3) sc_taken.nd rfl (.inl rfl) (pe_ix ix_list (pe_ix ix_list (pv 0) pe_int (fun _ _ => rfl)) (pe_op op_sub (pe_ix ix_list (pv 0) pe_int (fun _ _ => rfl)) pe_int) (fun _ _ => rfl)))
      (pss_cons (ps_asg (pe_op op_mod (pe_callTy call_int1 (by rfl) T.int boot_int (pa_cons (pe_op op_add (pe_op op_add (pe_op op_mul (pe_ix ix_list (pv 0) pe_int (fun _ _ => rfl)) pe_int) (pv 3)) pe_int) pa_nil)) pe_int) (pg_sub (pv 0) pe_int set_list))
      (pss_cons (ps_if (pt_cmpR op_ge (pv 3) (pe_op op_pow pe_int pe_int) (nomark _)) (pss_one (ps_asg (pe_op op_fdivN (pv 3) (pv 1)) (pg_sub (pv 0) pe_int set_list))) pss_nil)
      (pss_one (ps_ret (pe_op op_modN (pe_callTy call_int1 (by rfl) T.int boot_int (pa_cons (pv 3) pa_nil)) (pv 1)))))))))), ?_⟩)
  · obtain ⟨r, a, ns, m, rfl, _⟩ := h
    rfl
  · obtain ⟨r, a, ns, m, rfl, R, m0, m1, q⟩ := h
    obtain ⟨i, sd, rest, hR, i0, s0, s1, r0⟩ := R.row
    have mm : m ≠ 0 ∧ m.natAbs < 1073741824 := ⟨by omega, by omega⟩
    have fm : ∀ z : Int, 0 ≤ z.fmod m ∧ z.fmod m < m := fun z => ⟨Int.fmod_nonneg_of_pos _ m0, Int.fmod_lt_of_pos _ m0⟩
    refine ⟨_, rfl, r, _, _, _, rfl, rfl, SqL.of hR, atI_nat (j := 3) rfl, _, _, rfl, rfl, _, rfl, ?_⟩
    refine ite2 (fun hc => ?_) (fun hc => ?_)
    · refine ⟨_, rfl, r, _, _, _, rfl, rfl, SqL.of hR, atI_nat (j := 3) rfl, .inl ⟨_, rfl, _, rfl, _, _, rfl, rfl, mm.1, ?_⟩⟩
      refine ⟨_, rfl, r, _, _, _, rfl, rfl, SqL.of hR, atI_nat (j := 3) rfl, _, rfl, _, _, rfl, rfl, mm, ?_⟩
      refine ⟨_, rfl, r, _, _, 3, rfl, rfl, hR, rfl, ?_⟩
      refine ⟨_, rfl, q _ _ (fm _).1 (fm _).2 (But.upd _ _ _) (R.mk' (But.upd _ _ _) upd_same i0 s0 s1 ?_)⟩
      rw [Int.fdiv_eq_ediv_of_nonneg _ (by omega)]
      exact Int.ediv_nonneg r0 (by omega)
    · refine ⟨_, rfl, r, _, _, _, rfl, rfl, SqL.of hR, atI_nat (j := 1) rfl, _, _, rfl, rfl, ?_⟩
      refine ⟨_, rfl, r, _, _, 1, rfl, rfl, hR, rfl, ?_⟩
      have b1 : But r H (upd H r (.lst [.ref a, .int (i + 1), .int sd, .int rest])) := But.upd _ _ _
      have hR1 : (upd H r (.lst [.ref a, .int (i + 1), .int sd, .int rest])) r = some (.lst [.ref a, .int (i + 1), .int sd, .int rest]) := upd_same
      have R1 : RowAt K (upd H r (.lst [.ref a, .int (i + 1), .int sd, .int rest])) r a ns := R.mk' b1 hR1 (by omega) s0 s1 r0
      refine ⟨_, rfl, r, _, _, _, rfl, rfl, SqL.of hR1, atI_nat (j := 1) rfl, _, rfl, r, _, _, _, rfl, rfl, SqL.of hR1, atI_nat (j := 0) rfl, a, _, rfl, .inl R1.sq, _, _, rfl, rfl, _, rfl, ?_⟩
      refine ite2 (fun hc2 => ?_) (fun hc2 => ?_)
      · refine ⟨_, rfl, r, _, _, _, rfl, rfl, SqL.of hR1, atI_nat (j := 2) rfl, _, _, rfl, rfl, .inl ⟨by omega, by omega⟩, _, _, rfl, rfl, .inl ⟨_, rfl, _, _, rfl, rfl, by show (0 : Int) < 2147483647; decide, ?_⟩⟩
        refine ⟨_, rfl, r, _, _, 2, rfl, rfl, hR1, rfl, ?_⟩
        have h1 := Int.emod_nonneg (sd * 48271 + 11) (show (2147483647 : Int) ≠ 0 by decide)
        have h2 := Int.emod_lt_of_pos (sd * 48271 + 11) (show (0 : Int) < 2147483647 by decide)
        refine ⟨_, rfl, r, _, _, _, rfl, rfl, SqL.of upd_same, atI_nat (j := 2) rfl, _, _, rfl, rfl, ⟨by decide, by decide⟩, .inl ⟨_, rfl, _, rfl, _, _, rfl, rfl, mm.1, ?_⟩⟩
        exact q _ _ (fm _).1 (fm _).2 (b1.trans (But.upd _ _ _)) (R1.mk' (But.upd _ _ _) upd_same (by omega) h1 (by omega) r0)
      · have hlt : (i + 1 - 1).toNat < ns.length := by
          have h3 : ¬ ((i + 1 : Int) > ((ns.map V.int).length : Nat)) := fun z => hc2 (decide_eq_true z)
          rw [List.length_map] at h3
          omega
        have hx : (ns.map V.int)[(i + 1 - 1).toNat]? = some (.int ns[(i + 1 - 1).toNat]) := by
          rw [List.getElem?_map, List.getElem?_eq_getElem hlt]
          rfl
        generalize ns[(i + 1 - 1).toNat] = c at hx
        refine ⟨_, rfl, r, _, _, _, rfl, rfl, SqL.of hR1, atI_nat (j := 0) rfl, _, rfl, r, _, _, _, rfl, rfl, SqL.of hR1, atI_nat (j := 1) rfl, _, _, rfl, rfl, a, _, _, _, rfl, rfl, R1.sq, at_of (by omega) hx, ?_⟩
        refine ⟨_, rfl, r, _, _, _, rfl, rfl, SqL.of hR1, atI_nat (j := 2) rfl, _, _, rfl, rfl, .inl ⟨by omega, by omega⟩, _, rfl, _, _, rfl, rfl, _, _, rfl, rfl, .inl ⟨_, rfl, _, _, rfl, rfl, by show (0 : Int) < 2147483647; decide, ?_⟩⟩
        refine ⟨_, rfl, r, _, _, 2, rfl, rfl, hR1, rfl, ?_⟩
        have h1 := Int.emod_nonneg (sd * 48271 + c + 11) (show (2147483647 : Int) ≠ 0 by decide)
        have h2 := Int.emod_lt_of_pos (sd * 48271 + c + 11) (show (0 : Int) < 2147483647 by decide)
        refine ⟨_, rfl, _, _, rfl, rfl, ⟨by decide, by decide, by decide⟩, _, _, rfl, rfl, _, rfl, ?_⟩
        refine ite2 (fun hc3 => ?_) (fun hc3 => ?_)
        · have h3 : (1000000000000000000 : Int) ≤ c := by
            have z := of_decide_eq_true hc3
            rw [pow18] at z
            exact z
          refine ⟨_, rfl, _, rfl, _, _, rfl, rfl, mm, _, rfl, r, _, _, 3, rfl, rfl, upd_same, rfl, ?_⟩
          refine ⟨_, rfl, .inl ⟨_, rfl, _, rfl, _, _, rfl, rfl, mm.1, ?_⟩⟩
          refine q _ _ (fm _).1 (fm _).2 (b1.trans ((But.upd _ _ _).trans (But.upd _ _ _))) (R1.mk' ((But.upd _ _ _).trans (But.upd _ _ _)) upd_same (by omega) h1 (by omega) ?_)
          rw [Int.fdiv_eq_ediv_of_nonneg _ (by omega)]
          exact Int.ediv_nonneg (by omega) (by omega)
        · refine ⟨_, rfl, .inl ⟨_, rfl, _, rfl, _, _, rfl, rfl, mm.1, ?_⟩⟩
          exact q _ _ (fm _).1 (fm _).2 (b1.trans (But.upd _ _ _)) (R1.mk' (But.upd _ _ _) upd_same (by omega) h1 (by omega) r0)
end
end Jc
namespace Jc
open PySem PySem.Spec PyProof.Rows L2 Jr
theorem fs_app (F G : List Nat) : fs F ++ fs G = fs (F ++ G) := by
  show (⟨F.toArray ++ G.toArray⟩ : Str) = ⟨(F ++ G).toArray⟩
  rw [List.append_toArray]
theorem fs_one (c : Nat) : (⟨#[c]⟩ : Str) = fs [c] := rfl
theorem cut_to (F : List Nat) (k : Nat) : cutS (fs F) none (some (k : Int)) = fs (F.take k) := by
  unfold cutS
  rw [HT.sIx_none, HT.sIx_nat, fs_len, fs_list]
  show fs (List.take (min k F.length - 0) (F.drop 0)) = fs (F.take k)
  rw [List.drop_zero, Nat.sub_zero]
  congr 1
  by_cases h : k ≤ F.length
  · rw [Nat.min_eq_left h]
  · rw [Nat.min_eq_right (by omega), List.take_of_length_le (Nat.le_refl _), List.take_of_length_le (by omega)]
theorem cut_from (F : List Nat) (k : Nat) : cutS (fs F) (some (k : Int)) none = fs (F.drop k) := by
  unfold cutS
  rw [HT.sIx_none, HT.sIx_nat, fs_len, fs_list]
  show fs (List.take (F.length - min k F.length) (F.drop (min k F.length))) = fs (F.drop k)
  congr 1
  by_cases h : k ≤ F.length
  · rw [Nat.min_eq_left h, List.take_of_length_le (by rw [List.length_drop]; omega)]
  · rw [Nat.min_eq_right (by omega), List.drop_of_length_le (Nat.le_refl _), List.drop_of_length_le (by omega)]
    simp
theorem at_of' {α : Type} {xs : List α} {z : Int} {v : α} (h0 : 0 ≤ z) (h : xs[z.toNat]? = some v) : atI xs z = some v := by
  have e : z = (z.toNat : Int) := by omega
  rw [e]
  exact atI_nat h
/-- None or an int -/
def ofO : Option Int → V
  | none => .non
  | some z => .int z
def spPick (K : PySem.W.Frag) : Sp := fun vs H Q _ => ∃ r a ns, RowAt K H r a ns ∧
  ((∃ F, vs = [.ref r, .str (fs F)] ∧ 1 ≤ F.length ∧ F.length ≤ 200 ∧ ∀ c H', c ∈ F → But r H H' → RowAt K H' r a ns → Q (.str (fs [c])) H') ∨
   ∃ l xs, vs = [.ref r, .ref l] ∧ l ≠ r ∧ H l = some (.lst xs) ∧ 1 ≤ xs.length ∧ xs.length ≤ 1000 ∧ ∀ v H', v ∈ xs → But r H H' → RowAt K H' r a ns → Q v H')
def spAlike : Sp := fun vs H Q _ => ∃ o, vs = [ofO o, ofO o] ∧ ∀ H', Same H H' → Q (.bl true) H'
def spFilm (K : PySem.W.Frag) : Sp := fun vs H Q _ => ∃ r a ns, ∃ m n : Int, vs = [.ref r, .int m, .int n] ∧ RowAt K H r a ns ∧ 1 ≤ m ∧ m ≤ 8 ∧ 1 ≤ n ∧ n ≤ 3 ∧
  ∀ F H', 1 ≤ F.length → (F.length : Int) ≤ m → (∀ c ∈ F, c = 97 ∨ c = 98 ∨ c = 99) → But r H H' → RowAt K H' r a ns → Q (.str (fs F)) H'
def spAfter : Sp := fun vs H Q _ => ∃ F t, ∃ i j : Nat, vs = [.str (fs F), .ref t] ∧ H t = some (.tup [.int i, .int j]) ∧ F.length ≤ 200 ∧ Q (.str (fs (JC.cutAt F i j))) H
section
variable {P : Program} {w : World} {K : PySem.W.Frag} {mg : Str → Option Value} {base : Heap}
theorem sc_pick : FnScope ["_law_row", "_law_things"] ["_law_row", "_law_things"] (defScope sPick) := ⟨rfl, rfl, rfl, by decide +kernel, rfl, by decide +kernel, by decide +kernel⟩
theorem ok_pick {f f1 : Addr} {fd fd1 : FuncData} (F : FnP K "_law_pick" sPick f fd) (T : Bts mg) (F1 : FnP K "_law_taken" sTaken f1 fd1) (g1 : mg "_law_taken" = some (.ref f1)) : FnOk P w K mg base CX0 2 f fd ["_law_row", "_law_things"] (spPick K) := by
  have G1 : FnOk P w K mg base CX0 1 f1 fd1 ["_law_row", "_law_many"] (spTaken K) := ok_taken F1 T
  have b1 : Binds K fd1 ["_law_row", "_law_many"] [] := F1.bindsN fun _ _ _ _ _ _ us hl => match us, hl with | [_, _], _ => rfl
  refine F.ok sc_pick (fun vs H Q E h => ?_) (fun cdv A outer s H vs Q E hr h => ⟨_, PSs.nox (pss_one (ps_ret (pe_ix ix_seq (pv 1) (pe_call G1 hr (by rfl) g1 F1.kp b1 .nil pass0 (pa_cons (pv 0) (pa_cons (pe_callB call_len (by rfl) T.len boot_len (pa_cons (pv 1) pa_nil)) pa_nil))) (fun _ _ => rfl)))), ?_⟩)
  · obtain ⟨r, a, ns, _, ⟨G, rfl, _⟩ | ⟨l, xs, rfl, _⟩⟩ := h <;> rfl
  · obtain ⟨r, a, ns, R, ⟨G, rfl, l1, l2, q⟩ | ⟨l, xs, rfl, hne, hl, l1, l2, q⟩⟩ := h
    · refine ⟨_, rfl, _, rfl, _, rfl, _, (fs G).length, rfl, ⟨by rw [fs_len]; exact line200 (by omega), rfl⟩, r, a, ns, _, rfl, R, by rw [fs_len]; omega, by rw [fs_len]; omega, fun x H' x0 x1 b R' => ?_⟩
      rw [fs_len] at x1
      have hx : x.toNat < G.length := by omega
      refine .inr (.inr ⟨fs G, x, G[x.toNat], rfl, rfl, by rw [fs_len]; exact line200 (by omega), at_of' (by omega) ?_, ?_⟩)
      · rw [fs_list]
        exact List.getElem?_eq_getElem hx
      · exact q _ H' (List.getElem_mem hx) b R'
    · refine ⟨_, rfl, _, rfl, _, rfl, _, xs.length, rfl, .inl ⟨xs, SqL.of hl, rfl⟩, r, a, ns, _, rfl, R, by omega, by omega, fun x H' x0 x1 b R' => ?_⟩
      have hx : x.toNat < xs.length := by omega
      exact .inl ⟨l, xs, x, xs[x.toNat], rfl, rfl, SqL.of (b _ _ hne hl), at_of' (by omega) (List.getElem?_eq_getElem hx), q _ H' (List.getElem_mem hx) b R'⟩
theorem sc_after : FnScope ["_law_film_here", "_law_pair"] ["_law_film_here", "_law_pair"] (defScope sAfter) := ⟨rfl, rfl, rfl, by decide +kernel, rfl, by decide +kernel, by decide +kernel⟩
theorem ok_after {f : Addr} {fd : FuncData} (F : FnP K "_law_after" sAfter f fd) : FnOk P w K mg base CX0 1 f fd ["_law_film_here", "_law_pair"] spAfter := by
  refine F.ok sc_after (fun vs H Q E h => ?_) (fun cdv A outer s H vs Q E hr h => ⟨_, PSs.nox (pss_one (ps_ret (pe_op op_add_str (pe_slice sl_str (pv 0) po_none (po_some (pe_op op_add (pe_ix ix_tup (pv 1) pe_int (fun _ _ => rfl)) pe_int)))
      (pe_slice sl_str (pv 0) (po_some (pe_op op_add (pe_ix ix_tup (pv 1) pe_int (fun _ _ => rfl)) pe_int)) po_none)))), ?_⟩)
  · obtain ⟨G, t, i, j, rfl, _⟩ := h
    rfl
  · obtain ⟨G, t, i, j, rfl, ht, l2, q⟩ := h
    have ei : ((i : Int) + 1) = ((i + 1 : Nat) : Int) := by omega
    have ej : ((j : Int) + 1) = ((j + 1 : Nat) : Int) := by omega
    have lG : (fs G).length ≤ sizeLine := by rw [fs_len]; exact line200 (by omega)
    refine ⟨_, rfl, _, rfl, t, _, _, _, rfl, rfl, SqT.of ht, atI_nat (j := 0) rfl, _, _, rfl, rfl, _, rfl, fs G, rfl, lG, ?_⟩
    refine ⟨_, rfl, _, rfl, t, _, _, _, rfl, rfl, SqT.of ht, atI_nat (j := 1) rfl, _, _, rfl, rfl, _, rfl, fs G, rfl, lG, ?_⟩
    show ∃ x y, V.str (cutS (fs G) none (some ((i : Int) + 1))) = .str x ∧ V.str (cutS (fs G) (some ((j : Int) + 1)) none) = .str y ∧ x.length + y.length ≤ sizeLine ∧ Q (.str (x ++ y)) H
    rw [ei, ej, cut_to, cut_from]
    refine ⟨_, _, rfl, rfl, by rw [fs_len, fs_len, List.length_take, List.length_drop]; exact line200 (by omega), ?_⟩
    rw [fs_app]
    exact q
theorem sc_alike : FnScope ["_law_found", "_law_due", "_law_k"] ["_law_found", "_law_due"] (defScope sAlike) := ⟨rfl, rfl, rfl, by decide +kernel, rfl, by decide +kernel, by decide +kernel⟩
theorem ok_alike {f : Addr} {fd : FuncData} (F : FnP K "_law_alike" sAlike f fd) (T : Bts mg) : FnOk P w K mg base CX0 1 f fd ["_law_found", "_law_due"] spAlike := by
  refine F.ok sc_alike (fun vs H Q E h => ?_) (fun cdv A outer s H vs Q E hr h => ⟨_, PSs.nox (pss_cons (ps_if (pt_val (pe_callB call_isiT (by rfl) T.isi boot_isinstance (pa_cons (pv 1) (pa_cons (pe_tup (pa_cons (pe_bltn (v := .ty "tuple") (by rfl) T.tup boot_tuple rfl) (pa_cons (pe_bltn (v := .ty "list") (by rfl) T.lst boot_list rfl) pa_nil))) pa_nil)))) pss_never pss_nil)
      (pss_cons (ps_if (PW.pt (pw_or (pt_cmp (pc_isN (pv 1))) (pw_or1 (pt_val (pe_callB call_isi (by rfl) T.isi boot_isinstance (pa_cons (pv 1) (pa_cons (pe_bltn (v := .ty "str") (by rfl) T.str boot_str rfl) pa_nil)))))))
          (pss_one (ps_ret (pe_and (pe_cmpR op_eq (pv 0) (pv 1) (nomark _)) (pe_one (pe_cmpR op_eq (pe_callB call_isi (by rfl) T.isi boot_isinstance (pa_cons (pv 0) (pa_cons (pe_bltn (v := .ty "str") (by rfl) T.str boot_str rfl) pa_nil)))
            (pe_callB call_isi (by rfl) T.isi boot_isinstance (pa_cons (pv 1) (pa_cons (pe_bltn (v := .ty "str") (by rfl) T.str boot_str rfl) pa_nil))) (nomark _)))))) pss_nil)
      (pss_one (ps_ret (pe_and (pe_callB call_isi (by rfl) T.isi boot_isinstance (pa_cons (pv 0) (pa_cons (pe_bltn (v := .ty "int") (by rfl) T.int boot_int rfl) pa_nil)))
        (pe_and (pe_cmpR op_eq (pe_callB call_isi (by rfl) T.isi boot_isinstance (pa_cons (pv 0) (pa_cons (pe_bltn (v := .ty "bool") (by rfl) T.bool boot_bool rfl) pa_nil)))
            (pe_callB call_isi (by rfl) T.isi boot_isinstance (pa_cons (pv 1) (pa_cons (pe_bltn (v := .ty "bool") (by rfl) T.bool boot_bool rfl) pa_nil))) (nomark _))
          (pe_one (pe_cmpR op_eq (pv 0) (pv 1) (nomark _))))))))), ?_⟩)
  · obtain ⟨o, rfl, _⟩ := h
    rfl
  · obtain ⟨o, rfl, q⟩ := h
    refine ⟨_, rfl, by show 2 ≤ sizeLine; decide, fun tp ntp => ?_⟩
    have sm : Same H (upd H tp (.tup [.ty "tuple", .ty "list"])) := fun b o e => by
      rw [upd_ne (ne_of_none e ntp)]
      exact e
    cases o with
    | none =>
      refine ⟨_, tp, _, .type "NoneType", _, false, rfl, upd_same, .cons (.ty "tuple") (.cons (.ty "list") .nil), .base .non, kitAny_cons (b := false) (kit_ty (by decide +kernel)) (fun _ => kitAny_cons (b := false) (kit_ty (by decide +kernel)) (fun _ => rfl) (fun z => nomatch z)) (fun z => nomatch z), false, rfl, iteF ?_⟩
      refine ⟨_, rfl, true, rfl, ?_⟩
      refine iteT (iteT ?_)
      refine ⟨_, rfl, _, rfl, rfl, true, rfl, iteT ?_⟩
      refine ⟨_, rfl, _, _, .type "NoneType", _, false, rfl, .ty "str", .base .non, kit_ty (by decide +kernel), ?_⟩
      refine ⟨_, rfl, _, _, .type "NoneType", _, false, rfl, .ty "str", .base .non, kit_ty (by decide +kernel), rfl, q _ sm⟩
    | some z =>
      refine ⟨_, tp, _, .type "int", _, false, rfl, upd_same, .cons (.ty "tuple") (.cons (.ty "list") .nil), .base (.int z), kitAny_cons (b := false) (kit_ty (by decide +kernel)) (fun _ => kitAny_cons (b := false) (kit_ty (by decide +kernel)) (fun _ => rfl) (fun z => nomatch z)) (fun z => nomatch z), false, rfl, iteF ?_⟩
      refine ⟨_, rfl, false, rfl, ?_⟩
      refine iteF ⟨_, rfl, _, _, .type "int", _, false, rfl, .ty "str", .base (.int z), kit_ty (by decide +kernel), false, rfl, ?_⟩
      refine iteF ?_
      refine ⟨_, rfl, _, _, .type "int", _, true, rfl, .ty "int", .base (.int z), kit_ty (by decide +kernel), true, rfl, iteT ?_⟩
      refine ⟨_, rfl, _, _, .type "int", _, false, rfl, .ty "bool", .base (.int z), kit_ty (by decide +kernel), ?_⟩
      refine ⟨_, rfl, _, _, .type "int", _, false, rfl, .ty "bool", .base (.int z), kit_ty (by decide +kernel), rfl, true, rfl, iteT ?_⟩
      refine ⟨_, rfl, _, rfl, rfl, ?_⟩
      show Q (.bl (decide (V.int z = V.int z))) _
      rw [decide_eq_true rfl]
      exact q _ sm
theorem sc_film : FnScope ["_law_row", "_law_most", "_law_many", "_law_found", "_law_turn"] ["_law_row", "_law_most", "_law_many"] (defScope sFilm) := ⟨rfl, rfl, rfl, by decide +kernel, rfl, by decide +kernel, by decide +kernel⟩
theorem ok_film {f f1 : Addr} {fd fd1 : FuncData} (F : FnP K "_law_film" sFilm f fd) (T : Bts mg) (F1 : FnP K "_law_taken" sTaken f1 fd1) (g1 : mg "_law_taken" = some (.ref f1)) : FnOk P w K mg base CX0 2 f fd ["_law_row", "_law_most", "_law_many"] (spFilm K) := by
  have G1 : FnOk P w K mg base CX0 1 f1 fd1 ["_law_row", "_law_many"] (spTaken K) := ok_taken F1 T
  have b1 : Binds K fd1 ["_law_row", "_law_many"] [] := F1.bindsN fun _ _ _ _ _ _ us hl => match us, hl with | [_, _], _ => rfl
  refine F.ok sc_film (fun vs H Q E h => ?_) (fun cdv A outer s H vs Q E hr h => ⟨_, PSs.nox (pss_cons (ps_set (i := 3) sc_film.nd rfl (.inl rfl) pe_str)
      (pss_cons (ps_for PassesOwn.never rfl (pi_range1 (by rfl) T.rng (pa_cons (pe_op op_add pe_int (pe_call G1 hr (by rfl) g1 F1.kp b1 .nil pass0 (pa_cons (pv 0) (pa_cons (pv 1) pa_nil)))) pa_nil)) (pg_name (i := 4) sc_film.nd rfl (.inl rfl))
        (pss_one (ps_set (i := 3) sc_film.nd rfl (.inl rfl) (pe_op op_add_str (pv 3) (pe_ix ix_str pe_str (pe_call G1 hr (by rfl) g1 F1.kp b1 .nil pass0 (pa_cons (pv 0) (pa_cons (pv 2) pa_nil))) (fun _ _ => rfl))))))
      (pss_one (ps_ret (pv 3))))), ?_⟩)
  · obtain ⟨r, a, ns, m, n, rfl, _⟩ := h
    rfl
  · obtain ⟨r, a, ns, m, n, rfl, R, m1, m2, n1, n2, q⟩ := h
    refine ⟨_, rfl, _, rfl, r, a, ns, m, rfl, R, by omega, by omega, fun x H1 x0 x1 B1 R1 => ?_⟩
    refine ⟨_, _, rfl, rfl, _, rfl, by omega, by omega, ?_⟩
    refine for_range (lo := 0) (n := (1 + x).toNat) (fun i σ H2 => ∃ G y, σ = [some (.ref r), some (.int m), some (.int n), some (.str (fs G)), y] ∧ G.length = i ∧ (∀ c ∈ G, c = 97 ∨ c = 98 ∨ c = 99) ∧ But r H H2 ∧ RowAt K H2 r a ns)
      ⟨[], none, rfl, rfl, fun c hc => (nomatch hc), B1, R1⟩ ?_ ?_
    · rintro i σ H2 hi ⟨G, y, rfl, hG, hc, B2, R2⟩
      refine ⟨_, rfl, _, rfl, _, rfl, r, a, ns, n, rfl, R2, by omega, by omega, fun z H3 z0 z1 B3 R3 => ?_⟩
      have hz : z.toNat = 0 ∨ z.toNat = 1 ∨ z.toNat = 2 := by omega
      obtain ⟨c, hcx, hcc⟩ : ∃ c, (PySem.Str.ofString "abcdefgh").cps.toList[z.toNat]? = some c ∧ (c = 97 ∨ c = 98 ∨ c = 99) := by
        rw [letters_list]
        rcases hz with h | h | h <;> rw [h]
        · exact ⟨97, rfl, .inl rfl⟩
        · exact ⟨98, rfl, .inr (.inl rfl)⟩
        · exact ⟨99, rfl, .inr (.inr rfl)⟩
      refine ⟨_, z, c, rfl, rfl, by decide +kernel, at_of' z0 hcx, _, _, rfl, rfl, ?_, ?_⟩
      · rw [fs_one, fs_len, fs_len]
        exact line200 (by rw [List.length_singleton]; omega)
      · refine ⟨G ++ [c], some (.int (0 + (i : Int))), ?_, by rw [List.length_append, hG]; rfl, fun d hd => ?_, B2.trans B3, R3⟩
        · rw [fs_one, fs_app]
          rfl
        · rcases List.mem_append.mp hd with h | h
          · exact hc d h
          · rw [List.mem_singleton.mp h]
            exact hcc
    · rintro σ H2 ⟨G, y, rfl, hG, hc, B2, R2⟩
      exact ⟨_, rfl, q G H2 (by omega) (by omega) hc B2 R2⟩
end
end Jc
namespace Jc
open PySem PySem.Spec PyProof.Rows L2 Jr
open JC (IsCut cutAt)
/-! ### pairs of places in a list -/
abbrev PairsAt (H : Hp) : List V → List (Nat × Nat) → Prop := Paired fun v k => ∃ t, v = V.ref t ∧ H t = some (.tup [.int (k.1 : Nat), .int (k.2 : Nat)])
theorem PairsAt.same {H H' : Hp} {xs : List V} {ks : List (Nat × Nat)} (p : PairsAt H xs ks) (s : Same H H') : PairsAt H' xs ks :=
  Paired.mapP p fun _ _ ⟨t, e, h⟩ => ⟨t, e, s _ _ h⟩
theorem PairsAt.app {H : Hp} : ∀ {xs ys : List V} {ks js : List (Nat × Nat)}, PairsAt H xs ks → PairsAt H ys js → PairsAt H (xs ++ ys) (ks ++ js)
  | _, _, _, _, .nil, q => q
  | _, _, _, _, .cons h t, q => .cons h (PairsAt.app t q)
theorem PairsAt.mem {H : Hp} : ∀ {xs : List V} {ks : List (Nat × Nat)} {v : V}, PairsAt H xs ks → v ∈ xs → ∃ k ∈ ks, ∃ t, v = V.ref t ∧ H t = some (.tup [.int (k.1 : Nat), .int (k.2 : Nat)])
  | _, _, _, .nil, h => by cases h
  | _, _, v, .cons (b := k) hk t, h => by
    rcases List.mem_cons.mp h with e | h
    · exact ⟨k, List.mem_cons_self, by rw [e]; exact hk⟩
    · obtain ⟨j, hj, z⟩ := PairsAt.mem t h
      exact ⟨j, List.mem_cons_of_mem _ hj, z⟩
theorem same_new {H H' : Hp} {p : Addr} {o : HO} (s : Same H H') (n : H' p = none) : Same H (upd H' p o) := fun b u e => by
  have q := s b u e
  rw [upd_ne (ne_of_none q n)]
  exact q
theorem same_of_upd {H H' : Hp} {p : Addr} {o : HO} (s : Same H H') (n : H p = none) : Same H (upd H' p o) := fun b u e => by
  rw [upd_ne (ne_of_none e n)]
  exact s b u e
theorem sign_eq (c d : Nat) : (V.str ⟨#[c]⟩ = V.str ⟨#[d]⟩) ↔ c = d := by
  constructor
  · intro h
    injection h with h
    exact (List.cons.inj (fs_inj (F := [c]) (G := [d]) h)).1
  · intro h
    rw [h]
theorem cut_iff {F : List Nat} {i j c d : Nat} (hi : F[i]? = some c) (hj : F[j]? = some d) : IsCut F i j ↔ i < j ∧ c = d := by
  constructor
  · rintro ⟨h, x, h1, h2⟩
    rw [hi] at h1
    rw [hj] at h2
    exact ⟨h, (Option.some.inj h1).trans (Option.some.inj h2).symm⟩
  · rintro ⟨h, e⟩
    exact ⟨h, c, hi, by rw [hj, e]⟩
theorem IsCut.lt {F : List Nat} {i j : Nat} (h : IsCut F i j) : j < F.length := by
  obtain ⟨_, x, _, h2⟩ := h
  exact (List.getElem?_eq_some_iff.mp h2).1
theorem atE {α : Type} {xs : List α} {z : Int} {j : Nat} {v : α} (e : z = (j : Int)) (h : xs[j]? = some v) : atI xs z = some v := by
  rw [e]
  exact atI_nat h
def spCuts : Sp := fun vs H Q _ => ∃ F, vs = [.str (fs F)] ∧ F.length ≤ 200 ∧ ∀ H' l xs ks, Same H H' → H' l = some (.lst xs) → H l = none → PairsAt H' xs ks → xs.length ≤ F.length * F.length → (∀ i j, (i, j) ∈ ks ↔ IsCut F i j) → Q (.ref l) H'
section
variable {P : Program} {w : World} {K : PySem.W.Frag} {mg : Str → Option Value} {base : Heap}
theorem sc_cuts : FnScope ["_law_film_here", "_law_found", "_law_first", "_law_second"] ["_law_film_here"] (defScope sCuts) := ⟨rfl, rfl, rfl, by decide +kernel, rfl, by decide +kernel, by decide +kernel⟩
theorem ok_cuts {f : Addr} {fd : FuncData} (F : FnP K "_law_cuts" sCuts f fd) (T : Bts mg) : FnOk P w K mg base CX0 1 f fd ["_law_film_here"] spCuts := by
  refine F.ok sc_cuts (fun vs H Q E h => ?_) (fun cdv A outer s H vs Q E hr h => ⟨_, PSs.nox (pss_cons (ps_set (i := 1) sc_cuts.nd rfl (.inl rfl) (pe_lst pa_nil))
      (pss_cons (ps_for PassesOwn.never rfl (pi_range1 (by rfl) T.rng (pa_cons (pe_callB call_len_str (by rfl) T.len boot_len (pa_cons (pv 0) pa_nil)) pa_nil)) (pg_name (i := 2) sc_cuts.nd rfl (.inr rfl))
        (pss_one (ps_set (i := 1) sc_cuts.nd rfl (.inl rfl) (pe_op op_cat (pv 1) (pe_lc (own := [("_law_second", 3)]) (g := gName 3) (by rfl) sc_cuts.nd
          (pi_range2 (by rfl) T.rng (pa_cons (pe_op op_add (pv 2) pe_int) (pa_cons (pe_callB call_len_str (by rfl) T.len boot_len (pa_cons (pv 0) pa_nil)) pa_nil)))
          (blkOk_by (own := [("_law_second", 3)]) (N := ["_law_film_here", "_law_found", "_law_first", "_law_second"]) (sc := defScope sCuts) (by decide +kernel)) (fun _ _ _ _ _ => pg_name (i := 3) sc_cuts.nd rfl (Or.inl rfl))
          (fun _ _ _ _ _ => pts_one (pt_cmpR op_eq (pe_ix ix_str (pv 0) (pv 2) (fun _ _ => rfl)) (pe_ix ix_str (pv 0) (pv 3) (fun _ _ => rfl)) (nomark _)))
          (fun _ _ _ _ _ => pe_tup (pa_cons (pv 2) (pa_cons (pv 3) pa_nil))))))))
      (pss_one (ps_ret (pv 1))))), ?_⟩)
  · obtain ⟨G, rfl, _⟩ := h
    rfl
  · obtain ⟨G, rfl, l2, q⟩ := h
    have lG : (fs G).length ≤ sizeLine := by rw [fs_len]; exact line200 (by omega)
    refine ⟨Nat.zero_le _, fun l nl => ?_⟩
    refine ⟨_, rfl, fs G, rfl, lG, _, rfl, by rw [fs_len]; omega, by rw [fs_len]; omega, ?_⟩
    refine for_range (lo := 0) (n := ((fs G).length : Int).toNat) (fun i σ H2 => ∃ l xs ks y2 y3, σ = [some (.str (fs G)), some (.ref l), y2, y3] ∧ Same H H2 ∧ H l = none ∧ H2 l = some (.lst xs) ∧ PairsAt H2 xs ks ∧ xs.length ≤ i * G.length ∧ ∀ a b, (a, b) ∈ ks ↔ a < i ∧ IsCut G a b)
      ⟨l, [], [], none, none, rfl, same_new (Same.refl H) nl, nl, upd_same, .nil, Nat.zero_le _, fun a b => ⟨fun h => (nomatch h), fun h => absurd h.1 (Nat.not_lt_zero _)⟩⟩ ?_ ?_
    · rintro i σ H2 hi ⟨l, xs, ks, y2, y3, rfl, sm, nl, hl, hp, hlen, hks⟩
      rw [Int.zero_add]
      rw [fs_len, Int.toNat_natCast] at hi
      have gi : G[i]? = some G[i] := List.getElem?_eq_getElem hi
      refine ⟨_, rfl, _, rfl, _, _, rfl, rfl, _, rfl, fs G, rfl, lG, _, _, rfl, ⟨by omega, by omega, by omega, by rw [fs_len]; omega⟩, fun D nD => ?_⟩
      refine lc_it (walk_range (lo := (i : Int) + 1)) (fun k H3 => ∃ ys js, H3 D = some (.lst ys) ∧ PairsAt H3 ys js ∧ ys.length ≤ k ∧ Same H2 H3 ∧ ∀ a b, (a, b) ∈ js ↔ a = i ∧ b < i + 1 + k ∧ IsCut G a b)
        ⟨[], [], upd_same, .nil, Nat.zero_le _, same_new (Same.refl H2) nD, fun a b => ⟨fun h => (nomatch h), fun ⟨e, h1, h2⟩ => by have := h2.1; omega⟩⟩ (fun _ _ _ _ => trivial) ?_ ?_
      · rintro k x H3 H4 hk ⟨ys, js, hD, hpj, hy, sm2, hjs⟩ ⟨rfl, rfl⟩
        rw [fs_len] at hk
        have hj : i + 1 + k < G.length := by omega
        have ej : ((i : Int) + 1 + (k : Int)) = ((i + 1 + k : Nat) : Int) := by omega
        have gj : G[i + 1 + k]? = some G[i + 1 + k] := List.getElem?_eq_getElem hj
        have ci := cut_iff gi gj
        refine ⟨rfl, ?_⟩
        refine ⟨_, rfl, _, rfl, fs G, _, _, rfl, rfl, lG, atI_nat (by rw [fs_list]; exact gi), _, rfl, _, rfl, fs G, _, _, rfl, rfl, lG, atE ej (by rw [fs_list]; exact gj), rfl, _, rfl, ?_⟩
        refine ite2 (fun hc => ?_) (fun hc => ?_)
        · have hcd := (sign_eq _ _).mp (of_decide_eq_true hc)
          refine ⟨_, rfl, _, rfl, by show 2 ≤ sizeLine; decide, fun p np => ⟨ys, by rw [upd_ne (ne_of_none hD np)]; exact hD, small1000 (by omega), ys ++ [.ref p], js ++ [(i, i + 1 + k)], upd_same, ?_, by rw [List.length_append, List.length_singleton]; omega, ?_, fun a b => ?_⟩⟩
          · have hpD : p ≠ D := fun e => by rw [e, hD] at np; cases np
            have s1 : Same H4 (upd H4 p (.tup [.int (i : Nat), .int ((i : Int) + 1 + (k : Int))])) := same_new (Same.refl H4) np
            have hall : ∀ v k', (∃ t, v = V.ref t ∧ H4 t = some (.tup [.int ((k' : Nat × Nat).1 : Nat), .int (k'.2 : Nat)])) → ∃ t, v = V.ref t ∧ (upd (upd H4 p (.tup [.int (i : Nat), .int ((i : Int) + 1 + (k : Int))])) D (.lst (ys ++ [.ref p]))) t = some (.tup [.int (k'.1 : Nat), .int (k'.2 : Nat)]) := by
              rintro v k' ⟨t, e, ht⟩
              refine ⟨t, e, ?_⟩
              rw [upd_ne (ne_of ht hD (by intro z; cases z))]
              exact s1 _ _ ht
            refine PairsAt.app (Paired.mapP hpj hall) (.cons ⟨p, rfl, ?_⟩ .nil)
            rw [upd_ne hpD, upd_same]
            show some (HO.tup [V.int (i : Nat), V.int ((i : Int) + 1 + (k : Int))]) = _
            rw [ej]
          · intro b o e
            have hbD : b ≠ D := ne_of_none e nD
            have q2 := sm2 b o e
            rw [upd_ne hbD, upd_ne (ne_of_none q2 np)]
            exact q2
          · rw [List.mem_append, List.mem_singleton, hjs]
            constructor
            · rintro (⟨h1, h2, h3⟩ | h)
              · exact ⟨h1, by omega, h3⟩
              · injection h with h1 h2
                subst h1 h2
                exact ⟨rfl, by omega, ci.mpr ⟨by omega, hcd⟩⟩
            · rintro ⟨h1, h2, h3⟩
              by_cases hb : b = i + 1 + k
              · exact .inr (by rw [h1, hb])
              · exact .inl ⟨h1, by omega, h3⟩
        · have hcd : ¬ G[i] = G[i + 1 + k] := fun e => hc (decide_eq_true ((sign_eq _ _).mpr e))
          refine ⟨ys, js, hD, hpj, by omega, sm2, fun a b => ?_⟩
          rw [hjs]
          constructor
          · rintro ⟨h1, h2, h3⟩
            exact ⟨h1, by omega, h3⟩
          · rintro ⟨h1, h2, h3⟩
            refine ⟨h1, ?_, h3⟩
            by_cases hb : b = i + 1 + k
            · rw [h1, hb] at h3
              exact absurd (ci.mp h3).2 hcd
            · omega
      · rintro H3 ⟨ys, js, hD, hpj, hy, sm2, hjs⟩
        have hn : (((fs G).length : Int) - ((i : Int) + 1)).toNat = G.length - (i + 1) := by rw [fs_len]; omega
        rw [hn] at hy hjs
        have hxl : xs.length + ys.length ≤ (i + 1) * G.length := by
          rw [Nat.succ_mul]
          omega
        have hbig : (i + 1) * G.length ≤ 200 * 200 := Nat.mul_le_mul (by omega) (by omega)
        refine ⟨l, D, xs, ys, rfl, rfl, sm2 _ _ hl, hD, by rw [sizeLine_eq]; omega, fun p np => ?_⟩
        refine ⟨p, xs ++ ys, ks ++ js, _, _, rfl, same_new (sm.trans sm2) np, ?_, upd_same, ?_, by rw [List.length_append]; exact hxl, fun a b => ?_⟩
        · exact (sm.trans sm2).free np
        · exact PairsAt.app ((hp.same sm2).same (same_new (Same.refl H3) np)) (hpj.same (same_new (Same.refl H3) np))
        · rw [List.mem_append, hks, hjs]
          constructor
          · rintro (⟨h1, h2⟩ | ⟨h1, h2, h3⟩)
            · exact ⟨by omega, h2⟩
            · exact ⟨by omega, h3⟩
          · rintro ⟨h1, h2⟩
            by_cases ha : a = i
            · exact .inr ⟨ha, by have := IsCut.lt h2; omega, h2⟩
            · exact .inl ⟨by omega, h2⟩
    · rintro σ H2 ⟨l, xs, ks, y2, y3, rfl, sm, nl, hl, hp, hlen, hks⟩
      rw [fs_len, Int.toNat_natCast] at hlen hks
      refine ⟨_, rfl, q H2 l xs ks sm hl nl hp hlen fun a b => ?_⟩
      rw [hks]
      constructor
      · exact fun h => h.2
      · intro h
        have := IsCut.lt h
        have := h.1
        exact ⟨by omega, h⟩
end
end Jc
namespace Jc
open PySem PySem.Spec PyProof.Rows L2 Jr
open JC (IsCut cutAt)
/-! ### a list against the empty one -/
def dPair (k : Nat × Nat) : PyData := .tuple [.int (k.1 : Nat), .int (k.2 : Nat)]
theorem dp_pairs {K : PySem.W.Frag} {H : Hp} : ∀ {xs : List V} {ks : List (Nat × Nat)}, PairsAt H xs ks → DpAll K H xs (ks.map dPair)
  | _, _, .nil => .nil
  | _, _, .cons ⟨t, e, h⟩ r => .cons (by rw [e]; exact .tup (SqT.of h) (.cons (.int _) (.cons (.int _) .nil))) (dp_pairs r)
theorem dp_ints {K : PySem.W.Frag} {H : Hp} : ∀ (ns : List Int), DpAll K H (ns.map V.int) (ns.map PyData.int)
  | [] => .nil
  | n :: r => .cons (.int n) (dp_ints r)
theorem pairs_can : ∀ ks : List (Nat × Nat), PyData.canLayAll0 (ks.map dPair) = true
  | [] => rfl
  | k :: r => by
    show (PyData.canLay0 (dPair k) && PyData.canLayAll0 (r.map dPair)) = true
    rw [pairs_can r]
    rfl
theorem pairs_deep : ∀ ks : List (Nat × Nat), PyData.depthAll (ks.map dPair) ≤ 1
  | [] => by decide
  | k :: r => by
    show max (PyData.depth (dPair k)) (PyData.depthAll (r.map dPair)) ≤ 1
    have h := pairs_deep r
    have e : PyData.depth (dPair k) = 1 := rfl
    omega
theorem pairs_shaped (ks : List (Nat × Nat)) : SeqAt.shaped (.list (ks.map dPair)) = true := by
  show (PyData.canLayAll0 (ks.map dPair) && decide (PyData.depthAll (ks.map dPair) + 1 ≤ 64)) = true
  have h := pairs_deep ks
  rw [pairs_can, decide_eq_true (by omega)]
  rfl
theorem ints_can : ∀ ks : List Int, PyData.canLayAll0 (ks.map PyData.int) = true
  | [] => rfl
  | k :: r => by
    show (PyData.canLay0 (.int k) && PyData.canLayAll0 (r.map PyData.int)) = true
    rw [ints_can r]
    rfl
theorem ints_deep : ∀ ks : List Int, PyData.depthAll (ks.map PyData.int) ≤ 1
  | [] => by decide
  | k :: r => by
    show max (PyData.depth (.int k)) (PyData.depthAll (r.map PyData.int)) ≤ 1
    have h := ints_deep r
    have e : PyData.depth (.int k) = 0 := rfl
    omega
theorem ints_shaped (ks : List Int) : SeqAt.shaped (.list (ks.map PyData.int)) = true := by
  show (PyData.canLayAll0 (ks.map PyData.int) && decide (PyData.depthAll (ks.map PyData.int) + 1 ≤ 64)) = true
  have h := ints_deep ks
  rw [ints_can, decide_eq_true (by omega)]
  rfl
theorem eqv_nil : ∀ ds : List PyData, PyData.eqv (.list ds) (.list []) = ds.isEmpty
  | [] => by simp [PyData.eqv, PyData.eqvAll]
  | _ :: _ => by simp [PyData.eqv, PyData.eqvAll]
theorem cutAt_len {F : List Nat} {i j : Nat} (h : IsCut F i j) : 1 ≤ (cutAt F i j).length ∧ (cutAt F i j).length ≤ F.length := by
  have h1 := IsCut.lt h
  have h2 := h.1
  unfold cutAt
  rw [List.length_append, List.length_take, List.length_drop]
  omega
theorem cutAt_mem {F : List Nat} {i j c : Nat} (h : c ∈ cutAt F i j) : c ∈ F := by
  unfold cutAt at h
  rcases List.mem_append.mp h with h | h
  · exact List.mem_of_mem_take h
  · exact List.mem_of_mem_drop h
def spDrawn (K : PySem.W.Frag) : Sp := fun vs H Q _ => ∃ r a ns G, ∃ m : Int, vs = [.ref r, .str (fs G), .int m] ∧ RowAt K H r a ns ∧ 1 ≤ G.length ∧ G.length ≤ 8 ∧ 0 ≤ m ∧ m ≤ 4 ∧
  ∀ H' t u g, 1 ≤ g.length → g.length ≤ 8 → (∀ c ∈ g, c ∈ G) → But r H H' → RowAt K H' r a ns → H' t = some (.tup [u, .str (fs g)]) → Q (.ref t) H'
def spGoal (K : PySem.W.Frag) : Sp := fun vs H Q _ => ∃ r a ns G, vs = [.ref r, .str (fs G)] ∧ RowAt K H r a ns ∧ 1 ≤ G.length ∧ G.length ≤ 8 ∧
  ∀ H' g, 1 ≤ g.length → g.length ≤ 8 → (∀ c ∈ g, c ∈ G) → But r H H' → RowAt K H' r a ns → Q (.str (fs g)) H'
section
variable {P : Program} {w : World} {K : PySem.W.Frag} {mg : Str → Option Value} {base : Heap}
abbrev nDrawn : List Str := ["_law_row", "_law_film_here", "_law_most", "_law_now", "_law_found", "_law_turn", "_law_some", "_law_first", "_law_pair", "_law_second"]
theorem sc_drawn : FnScope nDrawn ["_law_row", "_law_film_here", "_law_most"] (defScope sDrawn) := ⟨rfl, rfl, rfl, by decide +kernel, rfl, by decide +kernel, by decide +kernel⟩
theorem ok_drawn {f f1 f2 : Addr} {fd fd1 fd2 : FuncData} (F : FnP K "_law_drawn" sDrawn f fd) (T : Bts mg) (F1 : FnP K "_law_taken" sTaken f1 fd1) (g1 : mg "_law_taken" = some (.ref f1)) (F2 : FnP K "_law_pick" sPick f2 fd2) (g2 : mg "_law_pick" = some (.ref f2)) :
    FnOk P w K mg base CX0 3 f fd ["_law_row", "_law_film_here", "_law_most"] (spDrawn K) := by
  have G2 : FnOk P w K mg base CX0 2 f2 fd2 ["_law_row", "_law_things"] (spPick K) := ok_pick F2 T F1 g1
  have b2 : Binds K fd2 ["_law_row", "_law_things"] [] := F2.bindsN fun _ _ _ _ _ _ us hl => match us, hl with | [_, _], _ => rfl
  refine F.ok sc_drawn (fun vs H Q E h => ?_) (fun cdv A outer s H vs Q E hr h => ⟨_, PSs.nox (pss_cons (ps_asg (pe_tup (pa_cons (pv 1) (pa_cons (pe_tup pa_nil) pa_nil))) (pg_tup (by rfl) (pgs_cons (pg_name (i := 3) sc_drawn.nd rfl (.inr rfl)) (pgs_cons (pg_name (i := 4) sc_drawn.nd rfl (.inl rfl)) pgs_nil))))
      (pss_cons (ps_for PassesOwn.never rfl (pi_range1 (by rfl) T.rng (pa_cons (pv 2) pa_nil)) (pg_name (i := 5) sc_drawn.nd rfl (.inl rfl))
        (pss_cons (ps_set (i := 6) sc_drawn.nd rfl (.inl rfl) (pe_lst pa_nil))
        (pss_cons (ps_for PassesOwn.never rfl (pi_range1 (by rfl) T.rng (pa_cons (pe_callB call_len_str (by rfl) T.len boot_len (pa_cons (pv 3) pa_nil)) pa_nil)) (pg_name (i := 7) sc_drawn.nd rfl (.inr rfl))
          (pss_one (ps_set (i := 6) sc_drawn.nd rfl (.inl rfl) (pe_op op_cat (pv 6) (pe_lc (own := [("_law_second", 9)]) (g := gName 9) (by rfl) sc_drawn.nd
            (pi_range2 (by rfl) T.rng (pa_cons (pe_op op_add (pv 7) pe_int) (pa_cons (pe_callB call_len_str (by rfl) T.len boot_len (pa_cons (pv 3) pa_nil)) pa_nil)))
            (blkOk_by (own := [("_law_second", 9)]) (N := nDrawn) (sc := defScope sDrawn) (by decide +kernel)) (fun _ _ _ _ _ => pg_name (i := 9) sc_drawn.nd rfl (Or.inl rfl))
            (fun _ _ _ _ _ => pts_one (pt_cmpR op_eq (pe_ix ix_str (pv 3) (pv 7) (fun _ _ => rfl)) (pe_ix ix_str (pv 3) (pv 9) (fun _ _ => rfl)) (nomark _)))
            (fun _ _ _ _ _ => pe_tup (pa_cons (pv 7) (pa_cons (pv 9) pa_nil))))))))
        (pss_one (ps_if (pt_cmpR (op_neD hr.units) (pv 6) (pe_lst pa_nil) (nomark _))
          (pss_cons (ps_set (i := 8) sc_drawn.nd rfl (.inl rfl) (pe_call G2 hr (by rfl) g2 F2.kp b2 .nil pass0 (pa_cons (pv 0) (pa_cons (pv 6) pa_nil))))
          (pss_one (ps_asg (pe_tup (pa_cons (pe_op op_add_str (pe_slice sl_str (pv 3) po_none (po_some (pe_op op_add (pe_ix ix_tup (pv 8) pe_int (fun _ _ => rfl)) pe_int))) (pe_slice sl_str (pv 3) (po_some (pe_op op_add (pe_ix ix_tup (pv 8) pe_int (fun _ _ => rfl)) pe_int)) po_none))
              (pa_cons (pe_op op_catA (pv 4) (pe_tup (pa_cons (pv 8) pa_nil))) pa_nil))) (pg_tup (by rfl) (pgs_cons (pg_name (i := 3) sc_drawn.nd rfl (.inr rfl)) (pgs_cons (pg_name (i := 4) sc_drawn.nd rfl (.inl rfl)) pgs_nil)))))) pss_nil)))))
      (pss_one (ps_ret (pe_tup (pa_cons (pv 4) (pa_cons (pv 3) pa_nil))))))), ?_⟩)
  · obtain ⟨r, a, ns, G, m, rfl, _⟩ := h
    rfl
  · obtain ⟨r, a, ns, G, m, rfl, R, l1, l2, m0, m1, q⟩ := h
    refine ⟨_, rfl, Nat.zero_le _, fun t0 n0 => ⟨by show 2 ≤ sizeLine; decide, fun t1 n1 => ?_⟩⟩
    have s0 : Same H (upd H t0 (.tup [])) := same_new (Same.refl H) n0
    have s1 : Same H (upd (upd H t0 (.tup [])) t1 (.tup [.str (fs G), .ref t0])) := same_new s0 n1
    have e0 : (upd (upd H t0 (.tup [])) t1 (.tup [.str (fs G), .ref t0])) t0 = some (.tup []) := by
      rw [upd_ne (ne_of_none upd_same n1), upd_same]
    refine ⟨t1, _, rfl, SqT.of upd_same, rfl, _, _, rfl, _, _, rfl, rfl, ?_⟩
    refine ⟨_, rfl, m, rfl, by omega, by omega, ?_⟩
    refine for_range (lo := 0) (n := m.toNat) (fun i σ H2 => ∃ g tf xs y5 y6 y7 y8 y9, σ = [some (.ref r), some (.str (fs G)), some (.int m), some (.str (fs g)), some (.ref tf), y5, y6, y7, y8, y9] ∧ 1 ≤ g.length ∧ g.length ≤ 8 ∧ (∀ c ∈ g, c ∈ G) ∧ H2 tf = some (.tup xs) ∧ xs.length ≤ i ∧ But r H H2 ∧ RowAt K H2 r a ns)
      ⟨G, t0, [], none, none, none, none, none, rfl, l1, l2, fun c h => h, e0, Nat.le_refl _, But.of s1, R.same s1⟩ ?_ ?_
    · rintro i σ H2 hi ⟨g, tf, xs, y5, y6, y7, y8, y9, rfl, g1', g2', gsub, htf, hxs, B, R2⟩
      have lg : (fs g).length ≤ sizeLine := by rw [fs_len]; exact line200 (by omega)
      refine ⟨Nat.zero_le _, fun l nl => ?_⟩
      have hlr : l ≠ r := fun e => by
        obtain ⟨o, ho⟩ := R2.some
        rw [e, ho] at nl
        cases nl
      refine ⟨_, rfl, fs g, rfl, lg, _, rfl, by rw [fs_len]; omega, by rw [fs_len]; omega, ?_⟩
      refine for_range (lo := 0) (n := ((fs g).length : Int).toNat) (fun p σ H3 => ∃ l ys ks z7 z9, σ = [some (.ref r), some (.str (fs G)), some (.int m), some (.str (fs g)), some (.ref tf), some (.int (0 + (i : Int))), some (.ref l), z7, y8, z9] ∧ Same H2 H3 ∧ l ≠ r ∧ H3 l = some (.lst ys) ∧ PairsAt H3 ys ks ∧ ys.length ≤ p * g.length ∧ ∀ a b, (a, b) ∈ ks ↔ a < p ∧ IsCut g a b)
        ⟨l, [], [], y7, y9, rfl, same_new (Same.refl H2) nl, hlr, upd_same, .nil, Nat.zero_le _, fun a b => ⟨fun h => (nomatch h), fun h => absurd h.1 (Nat.not_lt_zero _)⟩⟩ ?_ ?_
      · rintro p σ H3 hp ⟨l, ys, ks, z7, z9, rfl, sm, hlr, hl, hpr, hlen, hks⟩
        rw [Int.zero_add (p : Int)]
        rw [fs_len, Int.toNat_natCast] at hp
        have gi : g[p]? = some g[p] := List.getElem?_eq_getElem hp
        refine ⟨_, rfl, _, rfl, _, _, rfl, rfl, _, rfl, fs g, rfl, lg, _, _, rfl, ⟨by omega, by omega, by omega, by rw [fs_len]; omega⟩, fun D nD => ?_⟩
        refine lc_it (walk_range (lo := (p : Int) + 1)) (fun k H4 => ∃ ws js, H4 D = some (.lst ws) ∧ PairsAt H4 ws js ∧ ws.length ≤ k ∧ Same H3 H4 ∧ ∀ a b, (a, b) ∈ js ↔ a = p ∧ b < p + 1 + k ∧ IsCut g a b)
          ⟨[], [], upd_same, .nil, Nat.zero_le _, same_new (Same.refl H3) nD, fun a b => ⟨fun h => (nomatch h), fun ⟨e, h1, h2⟩ => by have := h2.1; omega⟩⟩ (fun _ _ _ _ => trivial) ?_ ?_
        · rintro k x H4 H5 hk ⟨ws, js, hD, hpj, hy, sm2, hjs⟩ ⟨rfl, rfl⟩
          rw [fs_len] at hk
          have hj : p + 1 + k < g.length := by omega
          have ej : ((p : Int) + 1 + (k : Int)) = ((p + 1 + k : Nat) : Int) := by omega
          have gj : g[p + 1 + k]? = some g[p + 1 + k] := List.getElem?_eq_getElem hj
          have ci := cut_iff gi gj
          refine ⟨rfl, ?_⟩
          refine ⟨_, rfl, _, rfl, fs g, _, _, rfl, rfl, lg, atI_nat (by rw [fs_list]; exact gi), _, rfl, _, rfl, fs g, _, _, rfl, rfl, lg, atE ej (by rw [fs_list]; exact gj), rfl, _, rfl, ?_⟩
          refine ite2 (fun hc => ?_) (fun hc => ?_)
          · have hcd := (sign_eq _ _).mp (of_decide_eq_true hc)
            refine ⟨_, rfl, _, rfl, by show 2 ≤ sizeLine; decide, fun u nu => ⟨ws, by rw [upd_ne (ne_of_none hD nu)]; exact hD, small1000 (by omega), ws ++ [.ref u], js ++ [(p, p + 1 + k)], upd_same, ?_, by rw [List.length_append, List.length_singleton]; omega, ?_, fun a b => ?_⟩⟩
            · have huD : u ≠ D := fun e => by rw [e, hD] at nu; cases nu
              have s1 : Same H5 (upd H5 u (.tup [.int (p : Nat), .int ((p : Int) + 1 + (k : Int))])) := same_new (Same.refl H5) nu
              refine PairsAt.app (Paired.mapP hpj ?_) (.cons ⟨u, rfl, ?_⟩ .nil)
              · rintro v k' ⟨t, e, ht⟩
                refine ⟨t, e, ?_⟩
                rw [upd_ne (ne_of ht hD (by intro z; cases z))]
                exact s1 _ _ ht
              · rw [upd_ne huD, upd_same]
                show some (HO.tup [V.int (p : Nat), V.int ((p : Int) + 1 + (k : Int))]) = _
                rw [ej]
            · intro b o e
              have hbD : b ≠ D := ne_of_none e nD
              have q2 := sm2 b o e
              rw [upd_ne hbD, upd_ne (ne_of_none q2 nu)]
              exact q2
            · rw [List.mem_append, List.mem_singleton, hjs]
              constructor
              · rintro (⟨h1, h2, h3⟩ | h)
                · exact ⟨h1, by omega, h3⟩
                · injection h with h1 h2
                  subst h1 h2
                  exact ⟨rfl, by omega, ci.mpr ⟨by omega, hcd⟩⟩
              · rintro ⟨h1, h2, h3⟩
                by_cases hb : b = p + 1 + k
                · exact .inr (by rw [h1, hb])
                · exact .inl ⟨h1, by omega, h3⟩
          · have hcd : ¬ g[p] = g[p + 1 + k] := fun e => hc (decide_eq_true ((sign_eq _ _).mpr e))
            refine ⟨ws, js, hD, hpj, by omega, sm2, fun a b => ?_⟩
            rw [hjs]
            constructor
            · rintro ⟨h1, h2, h3⟩
              exact ⟨h1, by omega, h3⟩
            · rintro ⟨h1, h2, h3⟩
              refine ⟨h1, ?_, h3⟩
              by_cases hb : b = p + 1 + k
              · rw [h1, hb] at h3
                exact absurd (ci.mp h3).2 hcd
              · omega
        · rintro H4 ⟨ws, js, hD, hpj, hy, sm2, hjs⟩
          have hn : (((fs g).length : Int) - ((p : Int) + 1)).toNat = g.length - (p + 1) := by rw [fs_len]; omega
          rw [hn] at hy hjs
          have hxl : ys.length + ws.length ≤ (p + 1) * g.length := by
            rw [Nat.succ_mul]
            omega
          have hbig : (p + 1) * g.length ≤ 8 * 8 := Nat.mul_le_mul (by omega) (by omega)
          refine ⟨l, D, ys, ws, rfl, rfl, sm2 _ _ hl, hD, by rw [sizeLine_eq]; omega, fun u nu => ?_⟩
          refine ⟨u, ys ++ ws, ks ++ js, _, _, rfl, same_new (sm.trans sm2) nu, ?_, upd_same, ?_, by rw [List.length_append]; exact hxl, fun a b => ?_⟩
          · intro e
            obtain ⟨o, ho⟩ := R2.some
            rw [e, (sm.trans sm2) _ _ ho] at nu
            cases nu
          · exact PairsAt.app ((hpr.same sm2).same (same_new (Same.refl H4) nu)) (hpj.same (same_new (Same.refl H4) nu))
          · rw [List.mem_append, hks, hjs]
            constructor
            · rintro (⟨h1, h2⟩ | ⟨h1, h2, h3⟩)
              · exact ⟨by omega, h2⟩
              · exact ⟨by omega, h3⟩
            · rintro ⟨h1, h2⟩
              by_cases ha : a = p
              · exact .inr ⟨ha, by have := IsCut.lt h2; omega, h2⟩
              · exact .inl ⟨by omega, h2⟩
      · rintro σ H3 ⟨l, ys, ks, z7, z9, rfl, sm, hlr, hl, hpr, hlen, hks⟩
        have hbig : ((fs g).length : Int).toNat * g.length ≤ 8 * 8 := Nat.mul_le_mul (by rw [fs_len]; omega) (by omega)
        refine ⟨_, rfl, Nat.zero_le _, fun e0 ne0 => ?_⟩
        have s4 : Same H3 (upd H3 e0 (.lst [])) := same_new (Same.refl H3) ne0
        have hl4 := s4 _ _ hl
        have hp4 := hpr.same s4
        have B4 : But r H (upd H3 e0 (.lst [])) := B.trans (But.of (sm.trans s4))
        have R4 : RowAt K (upd H3 e0 (.lst [])) r a ns := R2.same (sm.trans s4)
        have htf4 := (sm.trans s4) _ _ htf
        refine ⟨_, _, .lst (SqL.of hl4) (dp_pairs hp4), .lst (SqL.of upd_same) .nil, pairs_shaped ks, by decide, ?_⟩
        rw [eqv_nil]
        refine ⟨_, rfl, ite2 (fun hc => ?_) (fun hc => ?_)⟩
        · have hne : ks ≠ [] := fun e => by rw [e] at hc; cases hc
          have hyl : ys.length = ks.length := Paired.length hpr
          have hk0 : 1 ≤ ks.length := by
            cases ks with
            | nil => exact absurd rfl hne
            | cons _ _ => exact Nat.succ_le_succ (Nat.zero_le _)
          refine ⟨_, rfl, _, rfl, r, a, ns, R4, .inr ⟨l, ys, rfl, hlr, hl4, by omega, by omega, fun v H5 hv B5 R5 => ?_⟩⟩
          obtain ⟨⟨ia, ib⟩, hk, t, rfl, ht⟩ := PairsAt.mem hp4 hv
          have hcut : IsCut g ia ib := ((hks ia ib).mp hk).2
          have htr : t ≠ r := by
            obtain ⟨_, _, _, hr5, _⟩ := R4.row
            exact ne_of ht hr5 (by intro z; cases z)
          have ht5 : H5 t = some (.tup [.int (ia : Nat), .int (ib : Nat)]) := B5 _ _ htr ht
          have htfr : tf ≠ r := by
            obtain ⟨_, _, _, hr5, _⟩ := R4.row
            exact ne_of htf4 hr5 (by intro z; cases z)
          have htf5 := B5 _ _ htfr htf4
          have ei : ((ia : Int) + 1) = ((ia + 1 : Nat) : Int) := by omega
          have ej : ((ib : Int) + 1) = ((ib + 1 : Nat) : Int) := by omega
          refine ⟨_, rfl, _, rfl, t, _, _, _, rfl, rfl, SqT.of ht5, atI_nat (j := 0) rfl, _, _, rfl, rfl, _, rfl, fs g, rfl, lg, ?_⟩
          refine ⟨_, rfl, _, rfl, t, _, _, _, rfl, rfl, SqT.of ht5, atI_nat (j := 1) rfl, _, _, rfl, rfl, _, rfl, fs g, rfl, lg, ?_⟩
          refine ⟨_, _, rfl, rfl, ?_, ?_⟩
          · show (cutS (fs g) none (some ((ia : Int) + 1))).length + (cutS (fs g) (some ((ib : Int) + 1)) none).length ≤ sizeLine
            rw [ei, ej, cut_to, cut_from, fs_len, fs_len, List.length_take, List.length_drop]
            exact line200 (by omega)
          · have ecut : cutS (fs g) none (some ((ia : Int) + 1)) ++ cutS (fs g) (some ((ib : Int) + 1)) none = fs (cutAt g ia ib) := by
              rw [ei, ej, cut_to, cut_from, fs_app]
              rfl
            obtain ⟨cl1, cl2⟩ := cutAt_len hcut
            refine ⟨_, rfl, _, rfl, by show 1 ≤ sizeLine; decide, fun u nu => ?_⟩
            have s6 : Same H5 (upd H5 u (.tup [.ref t])) := same_new (Same.refl H5) nu
            have fin : ∀ (x : Str) (H6 : Hp) (tq : Addr) (zs : List V), x = fs (cutAt g ia ib) → Same H5 H6 → H6 tq = some (.tup zs) → zs.length ≤ i + 1 → ∀ (t2 : Addr), H6 t2 = none → ∀ (z5 z6 z7 z8 z9 : Option V),
                ∃ g' tf' xs' y5 y6 y7 y8 y9, ([some (.ref r), some (.str (fs G)), some (.int m), some (.str x), some (.ref tq), z5, z6, z7, z8, z9] : L2.St) = [some (.ref r), some (.str (fs G)), some (.int m), some (.str (fs g')), some (.ref tf'), y5, y6, y7, y8, y9] ∧ 1 ≤ g'.length ∧ g'.length ≤ 8 ∧ (∀ c ∈ g', c ∈ G) ∧
                  (upd H6 t2 (.tup [.str x, .ref tq])) tf' = some (.tup xs') ∧ xs'.length ≤ i + 1 ∧ But r H (upd H6 t2 (.tup [.str x, .ref tq])) ∧ RowAt K (upd H6 t2 (.tup [.str x, .ref tq])) r a ns := by
              intro x H6 tq zs ex s56 htq hz t2 nt2 z5 z6 z7 z8 z9
              subst ex
              have s7 : Same H5 (upd H6 t2 (.tup [.str (fs (cutAt g ia ib)), .ref tq])) := same_new s56 nt2
              exact ⟨cutAt g ia ib, tq, zs, z5, z6, z7, z8, z9, rfl, cl1, by omega, fun c hc => gsub c (cutAt_mem hc), same_new (Same.refl H6) nt2 _ _ htq, hz, (B4.trans B5).trans (But.of s7), R5.same s7⟩
            refine ⟨tf, u, xs, [.ref t], rfl, rfl, SqT.of (s6 _ _ htf5), SqT.of upd_same, line200 (by rw [List.length_singleton]; omega), fun ex => ⟨by show 2 ≤ sizeLine; decide, fun t2 nt2 => ?_⟩, fun _ z => (nomatch z), fun _ _ pp np => ⟨by show 2 ≤ sizeLine; decide, fun t2 nt2 => ?_⟩⟩
            · exact ⟨t2, _, rfl, SqT.of upd_same, rfl, _, _, rfl, _, _, rfl, rfl, fin _ _ u [V.ref t] ecut s6 upd_same (by rw [List.length_singleton]; omega) t2 nt2 _ _ _ _ _⟩
            · exact ⟨t2, _, rfl, SqT.of upd_same, rfl, _, _, rfl, _, _, rfl, rfl, fin _ _ pp (xs ++ [V.ref t]) ecut (same_new s6 np) upd_same (by rw [List.length_append, List.length_singleton]; omega) t2 nt2 _ _ _ _ _⟩
        · exact ⟨g, tf, xs, _, _, _, _, _, rfl, g1', g2', gsub, htf4, by omega, B4, R4⟩
    · rintro σ H2 ⟨g, tf, xs, y5, y6, y7, y8, y9, rfl, g1', g2', gsub, htf, hxs, B, R2⟩
      refine ⟨_, rfl, _, rfl, by show 2 ≤ sizeLine; decide, fun u nu => ?_⟩
      exact q _ u _ g g1' g2' gsub (B.new nu) (R2.same (same_new (Same.refl H2) nu)) upd_same
theorem sc_goal : FnScope ["_law_row", "_law_film_here", "_law_found", "_law_turn"] ["_law_row", "_law_film_here"] (defScope sGoal) := ⟨rfl, rfl, rfl, by decide +kernel, rfl, by decide +kernel, by decide +kernel⟩
theorem ok_goal {f f1 f2 f3 : Addr} {fd fd1 fd2 fd3 : FuncData} (F : FnP K "_law_goal" sGoal f fd) (T : Bts mg) (F1 : FnP K "_law_taken" sTaken f1 fd1) (g1 : mg "_law_taken" = some (.ref f1)) (F2 : FnP K "_law_pick" sPick f2 fd2) (g2 : mg "_law_pick" = some (.ref f2))
    (F3 : FnP K "_law_drawn" sDrawn f3 fd3) (g3 : mg "_law_drawn" = some (.ref f3)) : FnOk P w K mg base CX0 4 f fd ["_law_row", "_law_film_here"] (spGoal K) := by
  have G1 : FnOk P w K mg base CX0 1 f1 fd1 ["_law_row", "_law_many"] (spTaken K) := ok_taken F1 T
  have b1 : Binds K fd1 ["_law_row", "_law_many"] [] := F1.bindsN fun _ _ _ _ _ _ us hl => match us, hl with | [_, _], _ => rfl
  have G2 : FnOk P w K mg base CX0 2 f2 fd2 ["_law_row", "_law_things"] (spPick K) := ok_pick F2 T F1 g1
  have b2 : Binds K fd2 ["_law_row", "_law_things"] [] := F2.bindsN fun _ _ _ _ _ _ us hl => match us, hl with | [_, _], _ => rfl
  have G3 : FnOk P w K mg base CX0 3 f3 fd3 ["_law_row", "_law_film_here", "_law_most"] (spDrawn K) := ok_drawn F3 T F1 g1 F2 g2
  have b3 : Binds K fd3 ["_law_row", "_law_film_here", "_law_most"] [] := F3.bindsN fun _ _ _ _ _ _ us hl => match us, hl with | [_, _, _], _ => rfl
  refine F.ok sc_goal (fun vs H Q E h => ?_) (fun cdv A outer s H vs Q E hr h => ⟨_, PSs.nox (pss_cons (ps_if (pt_cmpR op_gt (pe_call G1 (hr.mono (by decide)) (by rfl) g1 F1.kp b1 .nil pass0 (pa_cons (pv 0) (pa_cons pe_int pa_nil))) pe_int (nomark _))
        (pss_one (ps_ret (pe_ix ix_tup (pe_call G3 hr (by rfl) g3 F3.kp b3 .nil pass0 (pa_cons (pv 0) (pa_cons (pv 1) (pa_cons (pe_op op_add pe_int (pe_call G1 (hr.mono (by decide)) (by rfl) g1 F1.kp b1 .nil pass0 (pa_cons (pv 0) (pa_cons pe_int pa_nil)))) pa_nil)))) pe_int (fun _ _ => rfl)))) pss_nil)
      (pss_cons (ps_set (i := 2) sc_goal.nd rfl (.inl rfl) pe_str)
      (pss_cons (ps_for PassesOwn.never rfl (pi_range1 (by rfl) T.rng (pa_cons (pe_op op_add pe_int (pe_call G1 (hr.mono (by decide)) (by rfl) g1 F1.kp b1 .nil pass0 (pa_cons (pv 0) (pa_cons (pe_callB call_len_str (by rfl) T.len boot_len (pa_cons (pv 1) pa_nil)) pa_nil)))) pa_nil)) (pg_name (i := 3) sc_goal.nd rfl (.inl rfl))
        (pss_one (ps_set (i := 2) sc_goal.nd rfl (.inl rfl) (pe_op op_add_str (pv 2) (pe_call G2 (hr.mono (by decide)) (by rfl) g2 F2.kp b2 .nil pass0 (pa_cons (pv 0) (pa_cons (pv 1) pa_nil)))))))
      (pss_one (ps_ret (pv 2)))))), ?_⟩)
  · obtain ⟨r, a, ns, G, rfl, _⟩ := h
    rfl
  · obtain ⟨r, a, ns, G, rfl, R, l1, l2, q⟩ := h
    refine ⟨_, rfl, r, a, ns, 3, rfl, R, by omega, by omega, fun x H1 x0 x1 B1 R1 => ?_⟩
    refine ⟨_, _, rfl, rfl, _, rfl, ite2 (fun hc => ?_) (fun hc => ?_)⟩
    · refine ⟨_, rfl, _, rfl, _, rfl, r, a, ns, 4, rfl, R1, by omega, by omega, fun y H2 y0 y1 B2 R2 => ?_⟩
      refine ⟨_, _, rfl, rfl, r, a, ns, G, 1 + y, rfl, R2, l1, l2, by omega, by omega, fun H3 t u g k1 k2 k3 B3 R3 ht => ?_⟩
      exact ⟨t, _, _, _, rfl, rfl, SqT.of ht, atI_nat (j := 1) rfl, q H3 g k1 k2 k3 ((B1.trans B2).trans B3) R3⟩
    · refine ⟨_, rfl, _, rfl, fs G, rfl, by rw [fs_len]; exact line200 (by omega), r, a, ns, _, rfl, R1, by rw [fs_len]; omega, by rw [fs_len]; omega, fun y H2 y0 y1 B2 R2 => ?_⟩
      rw [fs_len] at y1
      refine ⟨_, _, rfl, rfl, _, rfl, by omega, by omega, ?_⟩
      refine for_range (lo := 0) (n := (1 + y).toNat) (fun i σ H3 => ∃ g z, σ = [some (.ref r), some (.str (fs G)), some (.str (fs g)), z] ∧ g.length = i ∧ (∀ c ∈ g, c ∈ G) ∧ But r H H3 ∧ RowAt K H3 r a ns)
        ⟨[], none, rfl, rfl, fun c hc => (nomatch hc), B1.trans B2, R2⟩ ?_ ?_
      · rintro i σ H3 hi ⟨g, z, rfl, hg, hc, B3, R3⟩
        refine ⟨_, rfl, _, rfl, _, rfl, r, a, ns, R3, .inl ⟨G, rfl, l1, by omega, fun c H4 hcG B4 R4 => ?_⟩⟩
        refine ⟨_, _, rfl, rfl, by rw [fs_len, fs_len, List.length_singleton]; exact line200 (by omega), ?_⟩
        refine ⟨g ++ [c], some (.int (0 + (i : Int))), ?_, by rw [List.length_append, hg]; rfl, fun d hd => ?_, B3.trans B4, R4⟩
        · rw [fs_app]
          rfl
        · rcases List.mem_append.mp hd with h | h
          · exact hc d h
          · rw [List.mem_singleton.mp h]
            exact hcG
      · rintro σ H3 ⟨g, z, rfl, hg, hc, B3, R3⟩
        exact ⟨_, rfl, q H3 g (by omega) (by omega) hc B3 R3⟩
end
end Jc
namespace Jc
open PySem PySem.Spec PyProof.Rows L2 Jr
open JC (IsCut cutAt Rch)
/-! ### dicts whose keys are films -/
abbrev kF (w : List Nat) : Key := Sum.inr (fs w)
def KeysAre (kvs : List (Key × V)) (ws : List (List Nat)) : Prop := kvs.map (·.1) = ws.map kF
theorem kF_inj {u v : List Nat} (h : kF u = kF v) : u = v := by
  injection h with h
  exact fs_inj h
theorem KeysAre.has {kvs : List (Key × V)} {ws : List (List Nat)} (h : KeysAre kvs ws) (w : List Nat) : (valV kvs (kF w)).isSome = true ↔ w ∈ ws := by
  constructor
  · intro e
    obtain ⟨v, hv⟩ := Option.isSome_iff_exists.mp e
    have m := valV_in hv
    rw [h] at m
    obtain ⟨u, hu, e2⟩ := List.mem_map.mp m
    rw [← kF_inj e2]
    exact hu
  · intro m
    cases e : valV kvs (kF w) with
    | some v => rfl
    | none =>
      have n := valV_not e
      rw [h] at n
      exact absurd (List.mem_map.mpr ⟨w, m, rfl⟩) n
theorem KeysAre.put_in {kvs : List (Key × V)} {ws : List (List Nat)} (h : KeysAre kvs ws) {w : List Nat} (v : V) (m : w ∈ ws) : KeysAre (putK kvs (kF w) v) ws := by
  have e : (kvs.any fun kv => decide (kv.1 = kF w)) = true := by
    rw [valV_any]
    exact (h.has w).mpr m
  unfold putK
  rw [if_pos e]
  unfold KeysAre at h ⊢
  rw [List.map_map, ← h]
  refine List.map_congr_left fun kv _ => ?_
  show (if kv.1 = kF w then (kv.1, v) else kv).1 = kv.1
  split <;> rfl
theorem KeysAre.put_new {kvs : List (Key × V)} {ws : List (List Nat)} (h : KeysAre kvs ws) {w : List Nat} (v : V) (m : w ∉ ws) : KeysAre (putK kvs (kF w) v) (ws ++ [w]) := by
  have e : valV kvs (kF w) = none := by
    cases q : valV kvs (kF w) with
    | none => rfl
    | some y => exact absurd ((h.has w).mp (by rw [q]; rfl)) m
  rw [putK_new v e]
  unfold KeysAre at h ⊢
  rw [List.map_append, List.map_append, h]
  rfl
theorem KeysAre.len {kvs : List (Key × V)} {ws : List (List Nat)} (h : KeysAre kvs ws) : kvs.length = ws.length := by
  have e := congrArg List.length h
  rwa [List.length_map, List.length_map] at e
theorem KeysAre.vals {kvs : List (Key × V)} {ws : List (List Nat)} (h : KeysAre kvs ws) : (kvs.map fun kv => kV kv.1) = (ws.map fs).map V.str := by
  have e : (kvs.map fun kv => kV kv.1) = (kvs.map (·.1)).map kV := by rw [List.map_map]; rfl
  rw [e, h, List.map_map, List.map_map]
  rfl
theorem fs_back (z : Str) : fs z.cps.toList = z := rfl
theorem perm_films {ys : List Str} {ws : List (List Nat)} (h : ys.Perm (ws.map fs)) : ∃ us : List (List Nat), ys = us.map fs ∧ us.Perm ws := by
  refine ⟨ys.map fun z => z.cps.toList, ?_, ?_⟩
  · rw [List.map_map]
    exact (List.map_id ys).symm
  · have e := h.map fun z : Str => z.cps.toList
    rw [List.map_map] at e
    have e2 : ws.map ((fun z : Str => z.cps.toList) ∘ fs) = ws := List.map_id ws
    rwa [e2] at e
def spNext : Sp := fun vs H Q _ => ∃ G, vs = [.str (fs G)] ∧ G.length ≤ 8 ∧ ∀ H' l (ws : List (List Nat)), Same H H' → H l = none → H' l = some (.lst ((ws.map fs).map V.str)) → ws.length ≤ 63 → (∀ u, u ∈ ws ↔ ∃ i j, IsCut G i j ∧ u = cutAt G i j) → Q (.ref l) H'
section
variable {P : Program} {w : World} {K : PySem.W.Frag} {mg : Str → Option Value} {base : Heap}
theorem sc_next : FnScope ["_law_film_here", "_law_found", "_law_first", "_law_second"] ["_law_film_here"] (defScope sNext) := ⟨rfl, rfl, rfl, by decide +kernel, rfl, by decide +kernel, by decide +kernel⟩
theorem ok_next {f : Addr} {fd : FuncData} (F : FnP K "_law_next" sNext f fd) (T : Bts mg) : FnOk P w K mg base CX0 1 f fd ["_law_film_here"] spNext := by
  refine F.ok sc_next (fun vs H Q E h => ?_) (fun cdv A outer s H vs Q E hr h => ⟨_, PSs.nox (pss_cons (ps_set (i := 1) sc_next.nd rfl (.inl rfl) pe_dnewK)
      (pss_cons (ps_for PassesOwn.never rfl (pi_range1 (by rfl) T.rng (pa_cons (pe_callB call_len_str (by rfl) T.len boot_len (pa_cons (pv 0) pa_nil)) pa_nil)) (pg_name (i := 2) sc_next.nd rfl (.inl rfl))
        (pss_one (ps_for PassesOwn.never rfl (pi_range2 (by rfl) T.rng (pa_cons (pe_op op_add (pv 2) pe_int) (pa_cons (pe_callB call_len_str (by rfl) T.len boot_len (pa_cons (pv 0) pa_nil)) pa_nil))) (pg_name (i := 3) sc_next.nd rfl (.inl rfl))
          (pss_one (ps_if (pt_cmpR op_eq (pe_ix ix_str (pv 0) (pv 2) (fun _ _ => rfl)) (pe_ix ix_str (pv 0) (pv 3) (fun _ _ => rfl)) (nomark _))
            (pss_one (ps_dput (hu_of hr) (pv 1) (pe_op op_add_str (pe_slice sl_str (pv 0) po_none (po_some (pe_op op_add (pv 2) pe_int))) (pe_slice sl_str (pv 0) (po_some (pe_op op_add (pv 3) pe_int)) po_none)) pe_bl rfl)) pss_nil)))))
      (pss_one (ps_ret (pe_callB cr_sortedS (by rfl) T.srt boot_sorted (pa_cons (pe_callTy (call_list_dK rfl) (by rfl) T.lst boot_list (pa_cons (pv 1) pa_nil)) pa_nil)))))), ?_⟩)
  · obtain ⟨G, rfl, _⟩ := h
    rfl
  · obtain ⟨G, rfl, l2, q⟩ := h
    have lG : (fs G).length ≤ sizeLine := by rw [fs_len]; exact line200 (by omega)
    refine fun d nd => ?_
    refine ⟨_, rfl, fs G, rfl, lG, _, rfl, by rw [fs_len]; omega, by rw [fs_len]; omega, ?_⟩
    refine for_range (lo := 0) (n := ((fs G).length : Int).toNat) (fun i σ H2 => ∃ kvs ws y2 y3, σ = [some (.str (fs G)), some (.ref d), y2, y3] ∧ Same H H2 ∧ H2 d = some (.dK kvs) ∧ KeysAre kvs ws ∧ ws.length ≤ i * 7 ∧ ∀ u, u ∈ ws ↔ ∃ a b, a < i ∧ IsCut G a b ∧ u = cutAt G a b)
      ⟨[], [], none, none, rfl, same_new (Same.refl H) nd, upd_same, rfl, Nat.zero_le _, fun u => ⟨fun h => (nomatch h), fun ⟨a, b, h, _⟩ => absurd h (Nat.not_lt_zero _)⟩⟩ ?_ ?_
    · rintro i σ H2 hi ⟨kvs, ws, y2, y3, rfl, sm, hd, hk, hlen, hws⟩
      rw [Int.zero_add]
      rw [fs_len, Int.toNat_natCast] at hi
      have gi : G[i]? = some G[i] := List.getElem?_eq_getElem hi
      refine ⟨_, rfl, _, _, rfl, rfl, _, rfl, fs G, rfl, lG, _, _, rfl, ⟨by omega, by omega, by omega, by rw [fs_len]; omega⟩, ?_⟩
      refine for_range (lo := (i : Int) + 1) (n := (((fs G).length : Int) - ((i : Int) + 1)).toNat) (fun k σ H3 => ∃ kvs ws y3, σ = [some (.str (fs G)), some (.ref d), some (.int i), y3] ∧ Same H H3 ∧ H3 d = some (.dK kvs) ∧ KeysAre kvs ws ∧ ws.length ≤ i * 7 + k ∧ ∀ u, u ∈ ws ↔ ∃ a b, (a < i ∨ a = i ∧ b < i + 1 + k) ∧ IsCut G a b ∧ u = cutAt G a b)
        ⟨kvs, ws, y3, rfl, sm, hd, hk, by omega, fun u => ?_⟩ ?_ ?_
      · rw [hws]
        constructor
        · rintro ⟨a, b, h1, h2, h3⟩
          exact ⟨a, b, .inl h1, h2, h3⟩
        · rintro ⟨a, b, h1, h2, h3⟩
          have := h2.1
          exact ⟨a, b, by omega, h2, h3⟩
      · rintro k σ H3 hk' ⟨kvs, ws, y3, rfl, sm3, hd, hk, hlen, hws⟩
        rw [fs_len] at hk'
        have hj : i + 1 + k < G.length := by omega
        have ej : ((i : Int) + 1 + (k : Int)) = ((i + 1 + k : Nat) : Int) := by omega
        rw [ej]
        have gj : G[i + 1 + k]? = some G[i + 1 + k] := List.getElem?_eq_getElem hj
        have ci := cut_iff gi gj
        refine ⟨_, rfl, _, rfl, fs G, _, _, rfl, rfl, lG, atI_nat (by rw [fs_list]; exact gi), _, rfl, _, rfl, fs G, _, _, rfl, rfl, lG, atI_nat (by rw [fs_list]; exact gj), rfl, _, rfl, ?_⟩
        refine ite2 (fun hc => ?_) (fun hc => ?_)
        · have hcut : IsCut G i (i + 1 + k) := ci.mpr ⟨by omega, (sign_eq _ _).mp (of_decide_eq_true hc)⟩
          have e1 : ((i : Int) + 1) = ((i + 1 : Nat) : Int) := by omega
          have e2 : (((i + 1 + k : Nat) : Int) + 1) = ((i + 1 + k + 1 : Nat) : Int) := by omega
          have ecut : cutS (fs G) none (some ((i : Int) + 1)) ++ cutS (fs G) (some (((i + 1 + k : Nat) : Int) + 1)) none = fs (cutAt G i (i + 1 + k)) := by
            rw [e1, e2, cut_to, cut_from, fs_app]
            rfl
          refine ⟨_, rfl, _, rfl, _, rfl, _, _, rfl, rfl, _, rfl, fs G, rfl, lG, _, rfl, _, rfl, _, _, rfl, rfl, _, rfl, fs G, rfl, lG, _, _, rfl, rfl, ?_, ?_⟩
          · show (cutS (fs G) none (some ((i : Int) + 1))).length + (cutS (fs G) (some (((i + 1 + k : Nat) : Int) + 1)) none).length ≤ sizeLine
            rw [e1, e2, cut_to, cut_from, fs_len, fs_len, List.length_take, List.length_drop]
            exact line200 (by omega)
          · have hlk := hk.len
            refine ⟨d, upd H3 d (.dK (putK kvs (kF (cutAt G i (i + 1 + k))) (.bl true))), rfl, ?_, ?_⟩
            · show DPut H3 d (V.str (cutS (fs G) none (some ((i : Int) + 1)) ++ cutS (fs G) (some (((i + 1 + k : Nat) : Int) + 1)) none)) (.bl true) _
              rw [ecut]
              exact DPut.k (k := kF (cutAt G i (i + 1 + k))) hd (by rw [sizeLine_eq]; omega)
            · have sm4 : Same H (upd H3 d (.dK (putK kvs (kF (cutAt G i (i + 1 + k))) (.bl true)))) := same_of_upd sm3 nd
              have step : ∀ u, (u ∈ ws ∨ u = cutAt G i (i + 1 + k)) ↔ ∃ a b, (a < i ∨ a = i ∧ b < i + 1 + (k + 1)) ∧ IsCut G a b ∧ u = cutAt G a b := fun u => by
                rw [hws]
                constructor
                · rintro (⟨a, b, h1, h2, h3⟩ | h)
                  · exact ⟨a, b, by omega, h2, h3⟩
                  · exact ⟨i, i + 1 + k, .inr ⟨rfl, by omega⟩, hcut, h⟩
                · rintro ⟨a, b, h1, h2, h3⟩
                  by_cases hb : a = i ∧ b = i + 1 + k
                  · exact .inr (by rw [h3, hb.1, hb.2])
                  · exact .inl ⟨a, b, by omega, h2, h3⟩
              by_cases hm : cutAt G i (i + 1 + k) ∈ ws
              · refine ⟨_, ws, _, rfl, sm4, upd_same, hk.put_in _ hm, by omega, fun u => ?_⟩
                rw [← step]
                exact ⟨fun h => .inl h, fun h => h.elim id fun e => by rw [e]; exact hm⟩
              · refine ⟨_, ws ++ [cutAt G i (i + 1 + k)], _, rfl, sm4, upd_same, hk.put_new _ hm, by rw [List.length_append, List.length_singleton]; omega, fun u => ?_⟩
                rw [← step, List.mem_append, List.mem_singleton]
        · have hnc : ¬ IsCut G i (i + 1 + k) := fun h => hc (decide_eq_true ((sign_eq _ _).mpr (ci.mp h).2))
          refine ⟨kvs, ws, _, rfl, sm3, hd, hk, by omega, fun u => ?_⟩
          rw [hws]
          constructor
          · rintro ⟨a, b, h1, h2, h3⟩
            exact ⟨a, b, by omega, h2, h3⟩
          · rintro ⟨a, b, h1, h2, h3⟩
            refine ⟨a, b, ?_, h2, h3⟩
            by_cases hb : a = i ∧ b = i + 1 + k
            · rw [hb.1, hb.2] at h2
              exact absurd h2 hnc
            · omega
      · rintro σ H3 ⟨kvs, ws, y3, rfl, sm3, hd, hk, hlen, hws⟩
        have hn : (((fs G).length : Int) - ((i : Int) + 1)).toNat = G.length - (i + 1) := by rw [fs_len]; omega
        rw [hn] at hlen hws
        refine ⟨kvs, ws, _, _, rfl, sm3, hd, hk, by omega, fun u => ?_⟩
        rw [hws]
        constructor
        · rintro ⟨a, b, h1, h2, h3⟩
          exact ⟨a, b, by omega, h2, h3⟩
        · rintro ⟨a, b, h1, h2, h3⟩
          have := IsCut.lt h2
          exact ⟨a, b, by omega, h2, h3⟩
    · rintro σ H2 ⟨kvs, ws, y2, y3, rfl, sm, hd, hk, hlen, hws⟩
      rw [fs_len, Int.toNat_natCast] at hlen hws
      refine ⟨_, rfl, d, kvs, rfl, hd, fun l nl => ?_⟩
      rw [hk.vals]
      have sm5 : Same H (upd H2 l (.lst ((ws.map fs).map V.str))) := same_new sm nl
      refine ⟨l, ws.map fs, rfl, SqL.of upd_same, by rw [List.length_map]; omega, fun ys p hp _ np => ?_⟩
      obtain ⟨us, rfl, hu⟩ := perm_films hp
      refine q _ p us (same_new sm5 np) (sm5.free np) upd_same (by rw [hu.length_eq]; omega) fun u => ?_
      rw [hu.mem_iff, hws]
      constructor
      · rintro ⟨a, b, _, h2, h3⟩
        exact ⟨a, b, h2, h3⟩
      · rintro ⟨a, b, h2, h3⟩
        have := IsCut.lt h2
        have := h2.1
        exact ⟨a, b, by omega, h2, h3⟩
end
theorem dp_strs {K : PySem.W.Frag} {H : Hp} : ∀ (es : List (List Nat)), DpAll K H ((es.map fs).map V.str) (es.map fun e => PyData.str (fs e))
  | [] => .nil
  | e :: r => .cons (.str _) (dp_strs r)
theorem strs_can : ∀ es : List (List Nat), (∀ e ∈ es, ∀ c ∈ e, c < 0x110000) → PyData.canLayAll0 (es.map fun e => PyData.str (fs e)) = true
  | [], _ => rfl
  | e :: r, h => by
    show (PyData.canLay0 (.str (fs e)) && PyData.canLayAll0 (r.map fun e => PyData.str (fs e))) = true
    rw [strs_can r fun u hu => h u (List.mem_cons_of_mem _ hu), Bool.and_true]
    show e.toArray.all (· < 0x110000) = true
    rw [List.all_toArray, List.all_eq_true]
    intro c hc
    exact decide_eq_true (h e List.mem_cons_self c hc)
theorem strs_deep : ∀ es : List (List Nat), PyData.depthAll (es.map fun e => PyData.str (fs e)) = 0
  | [] => rfl
  | e :: r => by
    show max (PyData.depth (.str (fs e))) (PyData.depthAll (r.map fun e => PyData.str (fs e))) = 0
    rw [strs_deep r]
    rfl
theorem strs_shaped (es : List (List Nat)) (h : ∀ e ∈ es, ∀ c ∈ e, c < 0x110000) : SeqAt.shaped (.list (es.map fun e => PyData.str (fs e))) = true := by
  show (PyData.canLayAll0 (es.map fun e => PyData.str (fs e)) && decide (PyData.depthAll (es.map fun e => PyData.str (fs e)) + 1 ≤ 64)) = true
  rw [strs_can es h, strs_deep]
  rfl
theorem rch_mem {G w : List Nat} (h : Rch G w) {c : Nat} (hc : c ∈ w) : c ∈ G := by
  obtain ⟨_, r⟩ := h
  exact r.sub.subset hc
theorem last_split {α : Type} {l : List α} (h : l ≠ []) : ∃ m x, l = m ++ [x] := ⟨l.dropLast, l.getLast h, (List.dropLast_concat_getLast h).symm⟩
def spAll : Sp := fun vs H Q _ => ∃ G, vs = [.str (fs G)] ∧ G.length ≤ 8 ∧ (∀ c ∈ G, c = 97 ∨ c = 98 ∨ c = 99) ∧
  ∀ H' l (ws : List (List Nat)), Same H H' → H' l = some (.lst ((ws.map fs).map V.str)) → ws.length ≤ 62 → ws.Nodup → (∀ u, u ∈ ws ↔ Rch G u) → Q (.ref l) H'
section
variable {P : Program} {w : World} {K : PySem.W.Frag} {mg : Str → Option Value} {base : Heap}
theorem sc_all : FnScope ["_law_film_here", "_law_found", "_law_edge", "_law_now", "_law_told"] ["_law_film_here"] (defScope sAll) := ⟨rfl, rfl, rfl, by decide +kernel, rfl, by decide +kernel, by decide +kernel⟩
/-- found and edge, at a turn -/
structure AllAt (G : List Nat) (ws es : List (List Nat)) (now : List Nat → Prop) : Prop where
  nd : ws.Nodup
  rch : ∀ u ∈ ws, Rch G u
  self : G ∈ ws
  sub : ∀ u ∈ es, u ∈ ws
  cl : ∀ u ∈ ws, u ∉ es → ¬ now u → ∀ i j, IsCut u i j → cutAt u i j ∈ ws
theorem ok_all {f f1 : Addr} {fd fd1 : FuncData} (F : FnP K "_law_all" sAll f fd) (T : Bts mg) (F1 : FnP K "_law_next" sNext f1 fd1) (g1 : mg "_law_next" = some (.ref f1)) : FnOk P w K mg base CX0 2 f fd ["_law_film_here"] spAll := by
  have G1 : FnOk P w K mg base CX0 1 f1 fd1 ["_law_film_here"] spNext := ok_next F1 T
  have b1 : Binds K fd1 ["_law_film_here"] [] := F1.bindsN fun _ _ _ _ _ _ us hl => match us, hl with | [_], _ => rfl
  refine F.ok sc_all (fun vs H Q E h => ?_) (fun cdv A outer s H vs Q E hr h => ⟨_, PSs.nox (pss_cons (ps_par (i := 1) (j := 2) rfl sc_all.nd rfl rfl (by decide) rfl rfl (pa_cons (pe_disp (pps_cons (pv 0) pe_bl pps_nil) (by rfl) (by rfl) (fun z => by cases z) (by decide)) (pa_cons (pe_lst (pa_cons (pv 0) pa_nil)) pa_nil)) (by rfl))
      (pss_cons (ps_while PassesOwn.never (pt_cmpR (op_neD hr.units) (pv 2) (pe_lst pa_nil) (nomark _))
        (pss_cons (ps_set (i := 3) sc_all.nd rfl (.inl rfl) (pe_bm0 PySem.F.plainAttrs_list PySem.F.slot_list_pop PySem.F.type_list_pop mt_pop (pv 2)))
        (pss_one (ps_for PassesOwn.never rfl (pi_list (pe_call G1 hr (by rfl) g1 F1.kp b1 .nil pass0 (pa_cons (pv 3) pa_nil))) (pg_name (i := 4) sc_all.nd rfl (.inl rfl))
          (pss_one (ps_if (pt_cmp (pc_dnotin (hu_of hr) (pv 4) (pv 1)))
            (pss_cons (ps_dput (hu_of hr) (pv 1) (pv 4) pe_bl rfl)
            (pss_one (ps_expr (pe_bm PySem.F.plainAttrs_list PySem.F.slot_list_append PySem.F.type_list_append mt_append (pv 2) (pa_cons (pv 4) pa_nil))))) pss_nil))))))
      (pss_one (ps_ret (pe_callB cr_sortedS (by rfl) T.srt boot_sorted (pa_cons (pe_callTy (call_list_dK rfl) (by rfl) T.lst boot_list (pa_cons (pv 1) pa_nil)) pa_nil)))))), ?_⟩)
  · obtain ⟨G, rfl, _⟩ := h
    rfl
  · obtain ⟨G, rfl, l2, hlet, q⟩ := h
    have cnt : ∀ ws : List (List Nat), ws.Nodup → (∀ u ∈ ws, Rch G u) → ws.length ≤ 62 := fun ws a b => JC.out_count l2 hlet a b
    have sgn : ∀ u, Rch G u → ∀ c ∈ u, c < 0x110000 := fun u hu c hc => by
      have := hlet c (rch_mem hu hc)
      omega
    refine fun d nd => ⟨_, rfl, upd_same, [(kF G, .bl true)], rfl, by show 1 ≤ 15; decide, ?_⟩
    refine ⟨_, rfl, by show 1 ≤ sizeLine; decide, fun l nl => ⟨_, _, rfl, ?_⟩⟩
    have ndl : d ≠ l := ne_of_none upd_same nl
    have s1 : Same H (upd (upd (upd H d (.dK [])) d (.dK (mergeK [] [(kF G, V.bl true)]))) l (.lst [.str (fs G)])) := same_new (same_of_upd (same_new (Same.refl H) nd) nd) nl
    have h1 : (upd (upd (upd H d (.dK [])) d (.dK (mergeK [] [(kF G, V.bl true)]))) l (.lst [.str (fs G)])) d = some (.dK [(kF G, V.bl true)]) := by
      rw [upd_ne ndl, upd_same]
      rfl
    have k1 : KeysAre [(kF G, V.bl true)] [G] := rfl
    have nlH : H l = none := (same_of_upd (same_new (Same.refl H) nd) nd).free nl
    refine ⟨fun m σ H2 => ∃ kvs ws es y3 y4, σ = [some (.str (fs G)), some (.ref d), some (.ref l), y3, y4] ∧ Same H H2 ∧ H2 d = some (.dK kvs) ∧ KeysAre kvs ws ∧ H2 l = some (.lst ((es.map fs).map V.str)) ∧ AllAt G ws es (fun _ => False) ∧ m = 2 * (100 - ws.length) + es.length ∧ m ≤ 201,
      ⟨2 * (100 - 1) + 1, _, [G], [G], none, none, rfl, s1, h1, k1, upd_same, ⟨by simp, fun u hu => by rw [List.mem_singleton.mp hu]; exact Rch.refl G, List.mem_singleton.mpr rfl, fun u hu => hu, fun u hu hn => absurd hu hn⟩, rfl, by decide⟩, ?_⟩
    rintro m σ H2 ⟨kvs, ws, es, y3, y4, rfl, sm, hd, hk, hl, A, em, hm⟩
    refine ⟨_, rfl, Nat.zero_le _, fun e0 ne0 => ?_⟩
    have s2 : Same H2 (upd H2 e0 (.lst [])) := same_new (Same.refl H2) ne0
    have hl2 := s2 _ _ hl
    have hd2 := s2 _ _ hd
    have sm2 := sm.trans s2
    refine ⟨_, _, .lst (SqL.of hl2) (dp_strs es), .lst (SqL.of upd_same) .nil, strs_shaped es fun e he => sgn e (A.rch e (A.sub e he)), by decide, ?_⟩
    rw [eqv_nil]
    refine ⟨_, rfl, ite2 (fun hc => ?_) (fun hc => ?_)⟩
    · have hne : es ≠ [] := fun e => by rw [e] at hc; cases hc
      obtain ⟨es0, now, rfl⟩ := last_split hne
      have exs : ((es0 ++ [now]).map fs).map V.str = (es0.map fs).map V.str ++ [V.str (fs now)] := by simp
      rw [exs] at hl2
      have hnow : now ∈ ws := A.sub now (List.mem_append_right _ (List.mem_singleton.mpr rfl))
      have rnow := A.rch now hnow
      have lnow : now.length ≤ 8 := by
        obtain ⟨_, r⟩ := rnow
        have := r.len
        omega
      refine ⟨_, fun σ' H' z => z, ?_⟩
      refine ⟨_, rfl, .inl ⟨rfl, _, SqL.of hl2⟩, l, _, V.str (fs now), rfl, rfl, hl2, by simp, ?_⟩
      rw [List.dropLast_concat]
      have s3 : Same H (upd (upd H2 e0 (.lst [])) l (.lst ((es0.map fs).map V.str))) := same_of_upd sm2 nlH
      refine ⟨_, rfl, now, rfl, lnow, fun H4 a nx sm4 na ha hlx hnx => ?_⟩
      have hl4 := sm4 _ _ (upd_same (H := upd H2 e0 (.lst [])) (a := l) (o := .lst ((es0.map fs).map V.str)))
      have hd4 := sm4 _ _ ((upd_ne (H := upd H2 e0 (.lst [])) (o := .lst ((es0.map fs).map V.str)) ndl).trans hd2)
      have nal : a ≠ l := fun e => by rw [e, upd_same] at na; cases na
      have nad : a ≠ d := fun e => by rw [e, upd_ne ndl, hd2] at na; cases na
      refine ⟨a, rfl, ⟨_, SqL.of ha⟩, for_list (K := K) (a := a) (xs := (nx.map fs).map V.str) (fun i σ H5 => ∃ kvs ws es y4, σ = [some (.str (fs G)), some (.ref d), some (.ref l), some (.str (fs now)), y4] ∧ Same H H5 ∧ H5 d = some (.dK kvs) ∧ KeysAre kvs ws ∧ H5 l = some (.lst ((es.map fs).map V.str)) ∧
          H5 a = some (.lst ((nx.map fs).map V.str)) ∧ AllAt G ws es (fun u => u = now) ∧ (∀ k u, k < i → nx[k]? = some u → u ∈ ws) ∧ 2 * (100 - ws.length) + es.length + 1 ≤ m)
        ⟨kvs, ws, es0, y4, rfl, s3.trans sm4, hd4, hk, hl4, ha, ⟨A.nd, A.rch, A.self, fun u hu => A.sub u (List.mem_append_left _ hu), fun u hu hn ho => A.cl u hu (fun z => by
          rcases List.mem_append.mp z with z | z
          · exact hn z
          · exact ho (List.mem_singleton.mp z)) id⟩, fun k u hk => absurd hk (Nat.not_lt_zero _), by rw [em, List.length_append, List.length_singleton]; omega⟩ (fun i σ H5 _ ⟨_, _, _, _, _, _, _, _, _, h, _⟩ => SqL.of h) ?_ ?_⟩
      · rintro i x σ H5 hx ⟨kvs, ws, es, y4, rfl, sm5, hd5, hk, hl5, ha5, A, hdone, hmu⟩
        obtain ⟨u, hu, rfl⟩ : ∃ u, nx[i]? = some u ∧ V.str (fs u) = x := by
          rw [List.getElem?_map, List.getElem?_map] at hx
          cases e : nx[i]? with
          | none => rw [e] at hx; cases hx
          | some u => rw [e] at hx; exact ⟨u, rfl, Option.some.inj hx⟩
        have hcut : ∃ p q, IsCut now p q ∧ u = cutAt now p q := (hnx u).mp (List.mem_of_getElem? hu)
        have ru : Rch G u := by
          obtain ⟨p, q, h1, h2⟩ := hcut
          rw [h2]
          exact rnow.cut h1
        have c62 := cnt ws A.nd A.rch
        refine ⟨_, rfl, _, rfl, d, _, rfl, DGet.k (k := kF u) hd5, _, rfl, ?_⟩
        by_cases hin : u ∈ ws
        · rw [(hk.has u).mpr hin]
          refine iteF ⟨kvs, ws, es, _, rfl, sm5, hd5, hk, hl5, ha5, A, fun k v hk' hv => ?_, hmu⟩
          by_cases e : k = i
          · rw [e, hu] at hv
            rw [← Option.some.inj hv]
            exact hin
          · exact hdone k v (by omega) hv
        · have hns : (valV kvs (kF u)).isSome = false := by
            cases e : (valV kvs (kF u)).isSome with
            | false => rfl
            | true => exact absurd ((hk.has u).mp e) hin
          rw [hns]
          have hlk := hk.len
          have hput : DPut H5 d (V.str (fs u)) (.bl true) (upd H5 d (.dK (putK kvs (kF u) (.bl true)))) := DPut.k (k := kF u) hd5 (by rw [sizeLine_eq]; omega)
          have hl6 : (upd H5 d (.dK (putK kvs (kF u) (.bl true)))) l = some (.lst ((es.map fs).map V.str)) := by rw [upd_ne ndl.symm]; exact hl5
          refine iteT ⟨_, rfl, _, rfl, d, _, rfl, hput, ?_⟩
          refine ⟨_, rfl, .inl ⟨rfl, _, SqL.of hl6⟩, _, rfl, l, _, _, rfl, rfl, hl6, by rw [List.length_map, List.length_map, sizeLine_eq]; omega, ?_⟩
          have n62 := cnt (ws ++ [u]) (nd_snoc A.nd hin) (fun v hv => by
            rcases List.mem_append.mp hv with z | z
            · exact A.rch v z
            · rw [List.mem_singleton.mp z]; exact ru)
          rw [List.length_append, List.length_singleton] at n62
          refine ⟨_, ws ++ [u], es ++ [u], _, rfl, same_of_upd (same_of_upd sm5 nd) nlH, (upd_ne ndl).trans upd_same, hk.put_new _ hin, ?_, (upd_ne nal).trans ((upd_ne nad).trans ha5), ⟨nd_snoc A.nd hin, ?_, List.mem_append_left _ A.self, ?_, ?_⟩, ?_, ?_⟩
          · rw [upd_same]
            simp
          · intro v hv
            rcases List.mem_append.mp hv with z | z
            · exact A.rch v z
            · rw [List.mem_singleton.mp z]; exact ru
          · intro v hv
            rcases List.mem_append.mp hv with z | z
            · exact List.mem_append_left _ (A.sub v z)
            · exact List.mem_append_right _ z
          · intro v hv hn ho p q hpq
            rcases List.mem_append.mp hv with z | z
            · exact List.mem_append_left _ (A.cl v z (fun y => hn (List.mem_append_left _ y)) ho p q hpq)
            · exact absurd (List.mem_append_right _ z) hn
          · intro k v hk' hv
            by_cases e : k = i
            · rw [e, hu] at hv
              rw [← Option.some.inj hv]
              exact List.mem_append_right _ (List.mem_singleton.mpr rfl)
            · exact List.mem_append_left _ (hdone k v (by omega) hv)
          · rw [List.length_append, List.length_append, List.length_singleton]
            omega
      · rintro σ H5 ⟨kvs, ws, es, y4, rfl, sm5, hd5, hk, hl5, ha5, A, hdone, hmu⟩
        refine ⟨2 * (100 - ws.length) + es.length, by omega, kvs, ws, es, _, y4, rfl, sm5, hd5, hk, hl5, ⟨A.nd, A.rch, A.self, A.sub, fun u hu hn _ p q hpq => ?_⟩, rfl, by omega⟩
        by_cases e : u = now
        · rw [e] at hpq ⊢
          obtain ⟨k, hkx⟩ := List.mem_iff_getElem?.mp ((hnx (cutAt now p q)).mpr ⟨p, q, hpq, rfl⟩)
          exact hdone k _ (by rw [List.length_map, List.length_map]; exact (List.getElem?_eq_some_iff.mp hkx).1) hkx
        · exact A.cl u hu hn e p q hpq
    · have he : es = [] := by
        cases es with
        | nil => rfl
        | cons _ _ => exact absurd rfl hc
      subst he
      have c62 := cnt ws A.nd A.rch
      refine ⟨_, rfl, d, kvs, rfl, hd2, fun l2 nl2 => ?_⟩
      rw [hk.vals]
      refine ⟨l2, ws.map fs, rfl, SqL.of upd_same, by rw [List.length_map]; omega, fun ys p hp _ np => ?_⟩
      obtain ⟨us, rfl, hu⟩ := perm_films hp
      refine q _ p us (same_new (same_new sm2 nl2) np) upd_same (by rw [hu.length_eq]; exact c62) (hu.nodup_iff.mpr A.nd) fun u => ?_
      rw [hu.mem_iff]
      exact ⟨A.rch u, fun r => JC.rch_all (S := fun v => v ∈ ws) A.self (fun v i j hv hc => A.cl v hv (fun z => nomatch z) id i j hc) r⟩
end
end Jc
namespace Jc
open PySem PySem.Spec PyProof.Rows L2 Jr
open JC (MP RunS Lst)
/-! ### one of two numbers, or none -/
abbrev two (a b : Option Int) : List Int := [a, b].filterMap id
theorem two_some {S T : Int → Prop} {a b : Option Int} (ha : Lst S a) (hb : Lst T b) {m : Int} (hm : m ∈ two a b) (hle : ∀ d ∈ two a b, m ≤ d) : Lst (fun c => S c ∨ T c) (some m) := by
  refine Lst.of_list hm hle (fun d hd => ?_) (fun c h => ?_)
  · obtain ⟨o, ho, e⟩ := List.mem_filterMap.mp hd
    rcases (show o = a ∨ o = b by simpa using ho) with z | z
    · exact .inl (ha.1 d (by rw [← z]; exact e))
    · exact .inr (hb.1 d (by rw [← z]; exact e))
  · rcases h with h | h
    · obtain ⟨k, e, hk⟩ := ha.2 c h
      exact ⟨k, List.mem_filterMap.mpr ⟨a, by simp, e⟩, hk⟩
    · obtain ⟨k, e, hk⟩ := hb.2 c h
      exact ⟨k, List.mem_filterMap.mpr ⟨b, by simp, e⟩, hk⟩
theorem two_none {S T : Int → Prop} {a b : Option Int} (ha : Lst S a) (hb : Lst T b) (hn : two a b = []) : Lst (fun c => S c ∨ T c) none := by
  refine Lst.of_empty hn (fun c h => ?_)
  rcases h with h | h
  · obtain ⟨k, e, hk⟩ := ha.2 c h
    exact ⟨k, List.mem_filterMap.mpr ⟨a, by simp, e⟩, hk⟩
  · obtain ⟨k, e, hk⟩ := hb.2 c h
    exact ⟨k, List.mem_filterMap.mpr ⟨b, by simp, e⟩, hk⟩
theorem run_succ {F g : List Nat} {y p : Nat} {a b : Option Int} (hy : F[p]? = some y) (ha : Lst (RunS F g y p) a) (hb : Lst (MP (F.take p) g) b) : Lst (RunS F g y (p + 1)) (match b with | some s => some (JC.omin a (s + 1)) | none => a) := by
  have ht : Lst (fun c => ∃ k, MP (F.take p) g k ∧ c = k + 1) (b.map (· + 1)) := by
    refine ⟨fun m e => ?_, fun c ⟨k, hk, ec⟩ => ?_⟩
    · cases b with
      | none => cases e
      | some s =>
        cases e
        exact ⟨s, hb.1 s rfl, rfl⟩
    · obtain ⟨m, e, hm⟩ := hb.2 k hk
      rw [e]
      exact ⟨m + 1, rfl, by omega⟩
  have h := (ha.or ht).congr (T := RunS F g y (p + 1)) fun c => by
    constructor
    · rintro (⟨s, hs, h⟩ | ⟨k, hk, ec⟩)
      · exact ⟨s, by omega, h⟩
      · exact ⟨p, by omega, hy, k, hk, ec⟩
    · rintro ⟨s, hs, h1, k, hk, ec⟩
      by_cases e : s = p
      · exact .inr ⟨k, by rw [← e]; exact hk, ec⟩
      · exact .inl ⟨s, by omega, h1, k, hk, ec⟩
  cases b with
  | none => exact h
  | some s => exact h
theorem run_same {F g : List Nat} {y p : Nat} {a : Option Int} (hy : F[p]? ≠ some y) (ha : Lst (RunS F g y p) a) : Lst (RunS F g y (p + 1)) a :=
  ha.congr fun c => by
    constructor
    · rintro ⟨s, hs, h⟩
      exact ⟨s, by omega, h⟩
    · rintro ⟨s, hs, h1, h⟩
      by_cases e : s = p
      · rw [e] at h1
        exact absurd h1 hy
      · exact ⟨s, by omega, h1, h⟩
/-- a dict of numbers by places -/
abbrev kI (e : Nat) : Key := Sum.inl (e : Int)
theorem kI_inj {a b : Nat} (h : kI a = kI b) : a = b := by
  injection h with h
  omega
def IsAt (kvs : List (Key × V)) (S : Nat → Int → Prop) (n : Nat) : Prop := ∀ e, e ≤ n → ∃ o : Option Int, valV kvs (kI e) = o.map V.int ∧ Lst (S e) o
theorem ofO_getD (o : Option Int) : (o.map V.int).getD .non = ofO o := by cases o <;> rfl
theorem ofO_non (o : Option Int) : (ofO o = V.non) ↔ o = none := by
  cases o with
  | none => exact ⟨fun _ => rfl, fun _ => rfl⟩
  | some z => exact ⟨fun h => (nomatch h), fun h => (nomatch h)⟩
def spFewestOf : Sp := fun vs H Q _ => ∃ F G, vs = [.str (fs F), .str (fs G)] ∧ F.length ≤ 200 ∧ ∀ H' o, Same H H' → Lst (MP F G) o → Q (ofO o) H'
def spFewest : Sp := fun vs H Q _ => ∃ F G, vs = [.str (fs F), .str (fs G)] ∧ GoodF F ∧ GoodF G ∧ ∀ H' o, Same H H' → Lst (MP F G) o → Q (ofO o) H'
section
variable {P : Program} {w : World} {K : PySem.W.Frag} {mg : Str → Option Value} {base : Heap}
abbrev nFew : List Str := ["film", "goal", "best", "letter", "later", "running", "place", "same", "told", "one"]
theorem sc_few : FnScope nFew ["film", "goal"] (defScope sFewestOf) := ⟨rfl, rfl, rfl, by decide +kernel, rfl, by decide +kernel, by decide +kernel⟩
theorem ok_fewestOf {f : Addr} {fd : FuncData} (F : FnP K "fewest_of" sFewestOf f fd) (T : Bts mg) : FnOk P w K mg base CX0 1 f fd ["film", "goal"] spFewestOf := by
  refine F.ok sc_few (fun vs H Q E h => ?_) (fun cdv A outer s H vs Q E hr h => ⟨_, PSs.nox (pss_cons (ps_set (i := 2) sc_few.nd rfl (.inl rfl) (pe_disp (pps_cons pe_int pe_int pps_nil) (by rfl) (by rfl) (fun z => by cases z) (by decide)))
      (pss_cons (ps_for PassesOwn.never rfl (pi_str (pv 1)) (pg_name (i := 3) sc_few.nd rfl (.inl rfl))
        (pss_cons (ps_par (i := 4) (j := 5) rfl sc_few.nd rfl rfl (by decide) rfl rfl (pa_cons pe_dnewK (pa_cons pe_non pa_nil)) (by rfl))
        (pss_cons (ps_for PassesOwn.never rfl (pi_range1 (by rfl) T.rng (pa_cons (pe_callB call_len_str (by rfl) T.len boot_len (pa_cons (pv 0) pa_nil)) pa_nil)) (pg_name (i := 6) sc_few.nd rfl (.inl rfl))
          (pss_one (ps_if (pt_cmpR op_eq (pe_ix ix_str (pv 0) (pv 6) (fun _ _ => rfl)) (pv 3) (nomark _))
            (pss_cons (ps_set (i := 7) sc_few.nd rfl (.inl rfl) (pe_dget1 (hu_of hr) (pv 2) (pv 6) ⟨rfl, rfl, rfl, rfl⟩))
            (pss_cons (ps_setLc (i := 8) (own := [("one", 9)]) (g := gName 9) rfl sc_few.nd rfl rfl (sw_true rfl rfl rfl (by decide +kernel)) (pi_tup (pe_tup (pa_cons (pv 5) (pa_cons (pv 7) pa_nil))))
                (blkOk_by (own := [("one", 9)]) (N := nFew) (sc := defScope sFewestOf) (by decide +kernel)) (fun _ _ _ _ _ => pg_name (i := 9) sc_few.nd rfl (Or.inl rfl)) (fun _ _ _ _ _ => pts_one (pt_cmp (pc_notN (pv 9)))) (fun _ _ _ _ _ => pv 9))
            (pss_cons (ps_if (pt_cmpR (op_neD hr.units) (pv 8) (pe_lst pa_nil) (nomark _))
                (pss_one (ps_dput (hu_of hr) (pv 4) (pe_op op_add (pv 6) pe_int) (pe_callB (cr_min rfl) (by rfl) T.min boot_min (pa_cons (pv 8) pa_nil)) rfl)) pss_nil)
            (pss_one (ps_if (pt_cmp (pc_notN (pv 7)))
                (pss_one (ps_set (i := 5) sc_few.nd rfl (.inl rfl) (pe_ifExp (pt_cmp (pc_isN (pv 5))) (pe_op op_add (pv 7) pe_int) (pe_callB (call_min2 rfl) (by rfl) T.min boot_min (pa_cons (pv 5) (pa_cons (pe_op op_add (pv 7) pe_int) pa_nil)))))) pss_nil))))) pss_nil)))
        (pss_one (ps_set (i := 2) sc_few.nd rfl (.inl rfl) (pv 4))))))
      (pss_one (ps_ret (pe_dget1 (hu_of hr) (pv 2) (pe_callB call_len_str (by rfl) T.len boot_len (pa_cons (pv 0) pa_nil)) ⟨rfl, rfl, rfl, rfl⟩))))), ?_⟩)
  · obtain ⟨G, g, rfl, _⟩ := h
    rfl
  · obtain ⟨G, g, rfl, l2, q⟩ := h
    have lG : (fs G).length ≤ sizeLine := by rw [fs_len]; exact line200 (by omega)
    refine fun d nd => ⟨upd_same, [(kI 0, .int 0)], rfl, by show 1 ≤ 15; decide, ?_⟩
    have s0 : Same H (upd (upd H d (.dK [])) d (.dK (mergeK [] [(kI 0, V.int 0)]))) := same_of_upd (same_new (Same.refl H) nd) nd
    refine ⟨_, rfl, fs g, rfl, for_it walk_str (fun i σ H2 => ∃ d kvs y3 y4 y5 y6 y7 y8 y9, σ = [some (.str (fs G)), some (.str (fs g)), some (.ref d), y3, y4, y5, y6, y7, y8, y9] ∧ Same H H2 ∧ H2 d = some (.dK kvs) ∧ IsAt kvs (fun e => MP (G.take e) (g.take i)) G.length)
      ⟨d, _, none, none, none, none, none, none, none, rfl, s0, upd_same, fun e he => ⟨_, ?_, JC.few_start he⟩⟩ (fun _ _ _ _ _ => trivial) ?_ ?_⟩
    · show valV [(kI 0, V.int 0)] (kI e) = _
      by_cases h0 : e = 0
      · rw [if_pos h0, h0]
        rfl
      · rw [if_neg h0]
        exact valV_neg (p := (kI 0, V.int 0)) fun z => h0 (kI_inj z).symm
    · rintro i x σ H2 H3 hi ⟨d, kvs, y3, y4, y5, y6, y7, y8, y9, rfl, sm, hd, hat⟩ ⟨rfl, c, hc, rfl⟩
      rw [fs_size] at hi
      rw [fs_get] at hc
      have etake : g.take (i + 1) = g.take i ++ [c] := by rw [List.take_add_one, hc]; rfl
      refine fun d2 nd2 => ⟨_, _, rfl, ?_⟩
      have nd2H : H d2 = none := sm.free nd2
      have ndd : d ≠ d2 := ne_of_none hd nd2
      refine ⟨_, rfl, fs G, rfl, lG, _, rfl, by rw [fs_len]; omega, by rw [fs_len]; omega, ?_⟩
      refine for_range (lo := 0) (n := ((fs G).length : Int).toNat) (fun p σ H4 => ∃ lk ro y6 y7 y8 y9, σ = [some (.str (fs G)), some (.str (fs g)), some (.ref d), some (.str ⟨#[c]⟩), some (.ref d2), some (ofO ro), y6, y7, y8, y9] ∧ Same H H4 ∧ H4 d = some (.dK kvs) ∧ H4 d2 = some (.dK lk) ∧ lk.length ≤ p ∧
          Lst (RunS G (g.take i) c p) ro ∧ ∀ e, e ≤ G.length → ∃ o : Option Int, valV lk (kI e) = o.map V.int ∧ (e ≤ p → Lst (MP (G.take e) (g.take i ++ [c])) o) ∧ (p < e → o = none))
        ⟨[], none, y6, y7, y8, y9, rfl, same_of_upd sm nd2H, (upd_ne ndd).trans hd, upd_same, Nat.zero_le _, .none fun z ⟨s, hs, _⟩ => absurd hs (Nat.not_lt_zero _), fun e he => ⟨none, rfl, fun h0 => ?_, fun _ => rfl⟩⟩ ?_ ?_
      · have e0 : e = 0 := by omega
        rw [e0]
        exact .none JC.few_zero
      · rintro p σ H4 hp ⟨lk, ro, y6, y7, y8, y9, rfl, sm4, hd4, hd2, hlen, hro, hlk⟩
        rw [Int.zero_add]
        rw [fs_len, Int.toNat_natCast] at hp
        have gp : G[p]? = some G[p] := List.getElem?_eq_getElem hp
        refine ⟨_, rfl, _, rfl, fs G, _, _, rfl, rfl, lG, atI_nat (by rw [fs_list]; exact gp), _, rfl, rfl, _, rfl, ite2 (fun hcc => ?_) (fun hcc => ?_)⟩
        · have epc : G[p] = c := (sign_eq _ _).mp (of_decide_eq_true hcc)
          rw [epc] at gp
          obtain ⟨so, hso, lso⟩ := hat p (by omega)
          have hrun := run_succ gp hro lso
          refine ⟨_, rfl, d, rfl, .inl ⟨kvs, .inl hd4⟩, _, rfl, _, DGet.k (k := kI p) hd4, ?_⟩
          rw [hso, ofO_getD]
          refine ⟨_, rfl, _, rfl, by show 2 ≤ sizeLine; decide, fun tp ntp => ⟨tp, rfl, ⟨_, SqT.of upd_same⟩, fun D nD => ?_⟩⟩
          have s5 : Same H4 (upd (upd H4 tp (.tup [ofO ro, ofO so])) D (.lst [])) := same_new (same_new (Same.refl H4) ntp) nD
          refine lc_it (walk_tup (xs := [ofO ro, ofO so])) (fun k H5 => H5 D = some (.lst ((([ro, so].take k).filterMap id).map V.int)) ∧ Same H4 H5 ∧ H5 tp = some (.tup [ofO ro, ofO so]))
            ⟨upd_same, s5, (upd_ne (ne_of_none upd_same nD)).trans upd_same⟩ (fun k H5 _ h => SqT.of h.2.2) ?_ ?_
          · rintro k x H5 H6 hk ⟨hD, sm5, htp⟩ ⟨rfl, hx⟩
            have hk2 : k < 2 := hk
            obtain ⟨z, hz, rfl⟩ : ∃ z, [ro, so][k]? = some z ∧ ofO z = x := by
              have hx2 : ([ro, so].map ofO)[k]? = some x := hx
              rw [List.getElem?_map] at hx2
              cases e : [ro, so][k]? with
              | none => rw [e] at hx2; cases hx2
              | some z => rw [e] at hx2; exact ⟨z, rfl, Option.some.inj hx2⟩
            have et : ([ro, so].take (k + 1)).filterMap id = ([ro, so].take k).filterMap id ++ z.toList := by
              rw [List.take_add_one, hz, List.filterMap_append]
              cases z <;> rfl
            refine ⟨rfl, _, rfl, _, rfl, ?_⟩
            cases z with
            | none =>
              refine iteF ⟨?_, sm5, htp⟩
              rw [et]
              simpa using hD
            | some v =>
              have htD : tp ≠ D := ne_of htp hD (by intro z; cases z)
              have lacc : ((([ro, so].take k).filterMap id).map V.int).length ≤ 2 := by
                rw [List.length_map]
                refine Nat.le_trans (List.length_filterMap_le _ _) ?_
                rw [List.length_take]
                exact Nat.min_le_right _ _
              refine iteT ⟨_, rfl, _, hD, small1000 (by omega), ?_, fun b o e => ?_, (upd_ne htD).trans htp⟩
              · rw [upd_same, et]
                simp [ofO]
              · have hbD : b ≠ D := by
                  have q1 := (same_new (Same.refl H4) ntp (o := .tup [ofO ro, ofO so])) b o e
                  exact ne_of_none q1 nD
                rw [upd_ne hbD]
                exact sm5 b o e
          · rintro H5 ⟨hD, sm5, htp⟩
            have hD' : H5 D = some (.lst ((two ro so).map V.int)) := hD
            have sm5H := sm4.trans sm5
            have hd5 := sm5 _ _ hd4
            have hd25 := sm5 _ _ hd2
            refine ⟨_, rfl, Nat.zero_le _, fun e0 ne0 => ?_⟩
            have s6 : Same H5 (upd H5 e0 (.lst [])) := same_new (Same.refl H5) ne0
            refine ⟨_, _, .lst (SqL.of (s6 _ _ hD')) (dp_ints _), .lst (SqL.of upd_same) .nil, ints_shaped _, by decide, ?_⟩
            rw [eqv_nil]
            have sm6 := sm5H.trans s6
            have hd6 := s6 _ _ hd5
            have hd26 := s6 _ _ hd25
            refine ⟨_, rfl, ite2 (fun hne => ?_) (fun hne => ?_)⟩
            · have hpos : 0 < (two ro so).length := by
                cases e : two ro so with
                | nil => rw [e] at hne; cases hne
                | cons _ _ => exact Nat.succ_pos _
              refine ⟨_, rfl, D, two ro so, rfl, SqL.of (s6 _ _ hD'), hpos, fun m hm hle => ?_⟩
              have ek : ((p : Int) + 1) = ((p + 1 : Nat) : Int) := by omega
              have hput : DPut (upd H5 e0 (.lst [])) d2 (V.int ((p : Int) + 1)) (.int m) (upd (upd H5 e0 (.lst [])) d2 (.dK (putK lk (kI (p + 1)) (.int m)))) := by
                rw [ek]
                exact DPut.k (k := kI (p + 1)) hd26 (by rw [sizeLine_eq]; omega)
              refine ⟨_, rfl, _, rfl, _, _, rfl, rfl, d2, _, rfl, hput, ?_⟩
              have sm7 : Same H (upd (upd H5 e0 (.lst [])) d2 (.dK (putK lk (kI (p + 1)) (.int m)))) := same_of_upd sm6 nd2H
              have hd7 : (upd (upd H5 e0 (.lst [])) d2 (.dK (putK lk (kI (p + 1)) (.int m)))) d = some (.dK kvs) := (upd_ne ndd).trans hd6
              have hl7 : (putK lk (kI (p + 1)) (.int m)).length ≤ p + 1 := Nat.le_trans (length_putK _ _ _) (by omega)
              have hlk7 : ∀ e, e ≤ G.length → ∃ o : Option Int, valV (putK lk (kI (p + 1)) (V.int m)) (kI e) = o.map V.int ∧ (e ≤ p + 1 → Lst (MP (G.take e) (g.take i ++ [c])) o) ∧ (p + 1 < e → o = none) := fun e he => by
                rw [valV_put]
                by_cases e1 : e = p + 1
                · rw [e1, if_pos rfl]
                  exact ⟨some m, rfl, fun _ => (two_some hro lso hm hle).congr fun z => (JC.few_here gp z).symm, fun h => absurd h (Nat.lt_irrefl _)⟩
                · rw [if_neg fun z => e1 (kI_inj z)]
                  obtain ⟨o, h1, h2, h3⟩ := hlk e he
                  exact ⟨o, h1, fun h => h2 (by omega), fun h => h3 (by omega)⟩
              cases so with
              | none => exact ⟨_, rfl, _, rfl, iteF ⟨_, ro, _, _, _, _, rfl, sm7, hd7, upd_same, hl7, hrun, hlk7⟩⟩
              | some s =>
                refine ⟨_, rfl, _, rfl, iteT ?_⟩
                cases ro with
                | none => exact ⟨_, rfl, _, rfl, iteT ⟨_, rfl, _, _, rfl, rfl, _, some (s + 1), _, _, _, _, rfl, sm7, hd7, upd_same, hl7, hrun, hlk7⟩⟩
                | some v => exact ⟨_, rfl, _, rfl, iteF ⟨_, rfl, _, rfl, _, _, rfl, rfl, _, _, rfl, _, some (JC.omin (some v) (s + 1)), _, _, _, _, rfl, sm7, hd7, upd_same, hl7, hrun, hlk7⟩⟩
            · have hnil : two ro so = [] := by
                cases e : two ro so with
                | nil => rfl
                | cons _ _ => rw [e] at hne; exact absurd rfl hne
              cases so with
              | some s => cases ro <;> cases hnil
              | none =>
                have hn := two_none hro lso hnil
                refine ⟨_, rfl, _, rfl, iteF ⟨lk, ro, _, _, _, _, rfl, sm6, hd6, hd26, by omega, hrun, fun e he => ?_⟩⟩
                obtain ⟨o, h1, h2, h3⟩ := hlk e he
                by_cases e1 : e = p + 1
                · have eo := h3 (by omega)
                  rw [eo] at h1
                  exact ⟨none, h1, fun _ => by rw [e1]; exact hn.congr fun z => (JC.few_here gp z).symm, fun _ => rfl⟩
                · exact ⟨o, h1, fun h => h2 (by omega), fun h => h3 (by omega)⟩
        · have hnp : G[p]? ≠ some c := fun e => hcc (decide_eq_true ((sign_eq _ _).mpr (Option.some.inj (gp.symm.trans e))))
          refine ⟨lk, ro, _, _, _, _, rfl, sm4, hd4, hd2, by omega, run_same hnp hro, fun e he => ?_⟩
          obtain ⟨o, h1, h2, h3⟩ := hlk e he
          by_cases e1 : e = p + 1
          · have eo := h3 (by omega)
            rw [eo] at h1
            exact ⟨none, h1, fun _ => by rw [e1]; exact .none (JC.few_not hp hnp), fun _ => rfl⟩
          · exact ⟨o, h1, fun h => h2 (by omega), fun h => h3 (by omega)⟩
      · rintro σ H4 ⟨lk, ro, y6, y7, y8, y9, rfl, sm4, hd4, hd2, hlen, hro, hlk⟩
        rw [fs_len, Int.toNat_natCast] at hlk
        refine ⟨_, rfl, d2, lk, _, _, _, _, _, _, _, rfl, sm4, hd2, fun e he => ?_⟩
        obtain ⟨o, h1, h2, _⟩ := hlk e he
        rw [etake]
        exact ⟨o, h1, h2 he⟩
    · rintro σ H2 ⟨d, kvs, y3, y4, y5, y6, y7, y8, y9, rfl, sm, hd, hat⟩
      rw [fs_size, List.take_of_length_le (Nat.le_refl _)] at hat
      obtain ⟨o, h1, h2⟩ := hat G.length (Nat.le_refl _)
      have h2 : Lst (MP (G.take G.length) g) o := h2
      rw [List.take_of_length_le (Nat.le_refl _)] at h2
      have hget : DGet H2 d (V.int (((fs G).length : Nat) : Int)) (valV kvs (kI G.length)) := by
        rw [fs_len]
        exact DGet.k (k := kI G.length) hd
      refine ⟨_, rfl, d, rfl, .inl ⟨kvs, .inl hd⟩, _, rfl, fs G, rfl, lG, _, hget, ?_⟩
      rw [h1, ofO_getD]
      exact q H2 o sm h2
theorem sc_fewest : FnScope ["film", "goal"] ["film", "goal"] (defScope sFewest) := ⟨rfl, rfl, rfl, by decide +kernel, rfl, by decide +kernel, by decide +kernel⟩
theorem ok_fewest {f f1 f2 : Addr} {fd fd1 fd2 : FuncData} (F : FnP K "fewest_cuts" sFewest f fd) (T : Bts mg) {t1 t2 : Tok} (gM : mg "MOST_FILM" = some (.int 200 t1)) (gL : mg "LETTERS" = some (.str "abcdefgh" t2))
    (F1 : FnP K "need_film" sNeedFilm f1 fd1) (g1 : mg "need_film" = some (.ref f1)) (F2 : FnP K "fewest_of" sFewestOf f2 fd2) (g2 : mg "fewest_of" = some (.ref f2)) : FnOk P w K mg base CX0 2 f fd ["film", "goal"] spFewest := by
  have G1 : FnOk P w K mg base CX0 1 f1 fd1 ["value"] spNeedFilm := ok_needFilm F1 T gM gL
  have b1 : Binds K fd1 ["value"] [] := F1.bindsN fun _ _ _ _ _ _ us hl => match us, hl with | [_], _ => rfl
  have G2 : FnOk P w K mg base CX0 1 f2 fd2 ["film", "goal"] spFewestOf := ok_fewestOf F2 T
  have b2 : Binds K fd2 ["film", "goal"] [] := F2.bindsN fun _ _ _ _ _ _ us hl => match us, hl with | [_, _], _ => rfl
  refine F.ok sc_fewest (fun vs H Q E h => ?_) (fun cdv A outer s H vs Q E hr h => ⟨_, PSs.nox (pss_cons (ps_expr (pe_call G1 hr (by rfl) g1 F1.kp b1 .nil pass0 (pa_cons (pv 0) pa_nil)))
      (pss_cons (ps_expr (pe_call G1 hr (by rfl) g1 F1.kp b1 .nil pass0 (pa_cons (pv 1) pa_nil)))
      (pss_one (ps_ret (pe_call G2 hr (by rfl) g2 F2.kp b2 .nil pass0 (pa_cons (pv 0) (pa_cons (pv 1) pa_nil))))))), ?_⟩)
  · obtain ⟨G, g, rfl, _⟩ := h
    rfl
  · obtain ⟨G, g, rfl, h1, h2, q⟩ := h
    refine ⟨_, rfl, G, rfl, h1, fun H1 s1 => ⟨_, rfl, g, rfl, h2, fun H2 s2 => ?_⟩⟩
    exact ⟨_, rfl, _, rfl, G, g, rfl, h1.2.1, fun H3 o s3 ho => q H3 o ((s1.trans s2).trans s3) ho⟩
end
end Jc
namespace Jc
open PySem PySem.Spec PyProof.Rows L2 Jr
open JC (Lst BlkS StrS)
/-! ### the two tables -/
abbrev kB (i j : Nat) : List Key := [kI i, kI j]
abbrev kS (i j l : Nat) : List Key := [kI i, kI j, kI l]
theorem kB_eq {i j a b : Nat} : kB i j = kB a b ↔ i = a ∧ j = b := by
  constructor
  · intro h
    injection h with h1 h2
    injection h2 with h2 _
    exact ⟨kI_inj h1, kI_inj h2⟩
  · rintro ⟨rfl, rfl⟩
    rfl
theorem kS_eq {i j l a b c : Nat} : kS i j l = kS a b c ↔ i = a ∧ j = b ∧ l = c := by
  constructor
  · intro h
    injection h with h1 h2
    injection h2 with h2 h3
    injection h3 with h3 _
    exact ⟨kI_inj h1, kI_inj h2, kI_inj h3⟩
  · rintro ⟨rfl, rfl, rfl⟩
    rfl
def iOf : Option V → Option Int
  | some (.int v) => some v
  | _ => none
theorem iOf_iff {o : Option V} {v : Int} : iOf o = some v ↔ o = some (.int v) := by
  cases o with
  | none => exact ⟨fun h => (nomatch h), fun h => (nomatch h)⟩
  | some u =>
    cases u with
    | int z =>
      constructor
      · intro h
        have e : z = v := Option.some.inj h
        rw [e]
      · intro h
        injection h with h
        injection h with h
        rw [h]
        rfl
    | _ => exact ⟨fun h => (nomatch h), fun h => by injection h with h; cases h⟩
theorem iOf_map (o : Option Int) : iOf (o.map V.int) = o := by cases o <;> rfl
abbrev Tb := List (List Key × V)
abbrev Dn (s f d i : Nat) : Prop := d < s ∨ d = s ∧ i < f
structure LPb (p : Nat → Int) (F : List Nat) (bk : Tb) (s f : Nat) : Prop where
  at_ : ∀ i j x, i ≤ j → j < F.length → Dn s f (j + 1 - i) i → F[i]? = some x → F[j]? = some x → ∃ v : Int, valV bk (kB i j) = some (.int v) ∧ Lst (BlkS p F i j x) (some v)
structure LPs (p : Nat → Int) (F : List Nat) (st : Tb) (s f : Nat) : Prop where
  at_ : ∀ i j l, i ≤ j → j ≤ F.length → Dn s f (j - i) i → ∃ o : Option Int, valV st (kS i j l) = o.map V.int ∧ Lst (StrS p F i j l) o
  no : ∀ i j l, i ≤ j → ¬ Dn s f (j - i) i → valV st (kS i j l) = none
variable {p : Nat → Int} {F : List Nat}
/-- the numbers that a block's prices are chosen from -/
def InB (p : Nat → Int) (F : List Nat) (bk st : Tb) (f la x : Nat) (hi e : Nat) (v : Int) : Prop :=
  (f = la ∧ v = 0) ∨ ∃ m l inner b, f ≤ m ∧ (m < hi ∨ m = hi ∧ l < e) ∧ m < la ∧ F[m]? = some x ∧ l < la - m ∧ valV st (kS (m + 1) la l) = some (.int inner) ∧ valV bk (kB f m) = some (.int b) ∧ v = b + inner + p l
theorem LPb.put {bk st : Tb} {k f x : Nat} {L : List Int} {m : Int} (hb : LPb p F bk (k + 1) f) (hs : LPs p F st (k + 1) f) (hla : f + k < F.length) (hx : F[f]? = some x) (hy : F[f + k]? = some x) (hL : ∀ v, v ∈ L ↔ InB p F bk st f (f + k) x (f + k) 0 v)
    (hm : m ∈ L) (hle : ∀ y ∈ L, m ≤ y) : LPb p F (putK bk (kB f (f + k)) (.int m)) (k + 1) (f + 1) := by
  refine ⟨fun i j z hij hj hd hi hjz => ?_⟩
  rw [valV_put]
  by_cases e : i = f ∧ j = f + k
  · obtain ⟨rfl, rfl⟩ := e
    rw [if_pos rfl]
    refine ⟨m, rfl, ?_⟩
    have ez : z = x := Option.some.inj (hi.symm.trans hx)
    subst ez
    have hbb : ∀ q, i ≤ q → q < i + k → F[q]? = some z → ∃ v : Int, valV bk (kB i q) = some (.int v) ∧ Lst (BlkS p F i q z) (some v) := fun q h1 h2 h3 => hb.at_ i q z h1 (by omega) (.inl (by omega)) hx h3
    have := JC.block_lst (p := p) (F := F) (i := i) (j := i + k) (x := z) hla (by omega) hx hy (B := fun q => (iOf (valV bk (kB i q))).getD 0) (ST := fun q l => iOf (valV st (kS (q + 1) (i + k) l))) (L := L) (fun q h1 h2 h3 => ?_) (fun q l h1 h2 => ?_) (fun d => ?_)
    · exact Lst.of_list hm hle this.1 this.2.1
    · obtain ⟨v, e1, e2⟩ := hbb q h1 h2 h3
      rw [e1]
      exact e2
    · obtain ⟨o, e1, e2⟩ := hs.at_ (q + 1) (i + k) l (by omega) (by omega) (.inl (by omega))
      rw [e1, iOf_map]
      exact e2
    · rw [hL]
      constructor
      · rintro (h | ⟨q, l, inner, b, h1, h2, h2', h3, h4, h5, h6, h7⟩)
        · exact .inl h
        · refine .inr ⟨q, l, inner, h1, h2', h3, h4, iOf_iff.mpr h5, ?_⟩
          rw [h6]
          exact h7
      · rintro (h | ⟨q, l, inner, h1, h2, h3, h4, h5, h7⟩)
        · exact .inl h
        · obtain ⟨v, e1, _⟩ := hbb q h1 h2 h3
          rw [e1] at h7
          exact .inr ⟨q, l, inner, v, h1, .inl h2, h2, h3, h4, iOf_iff.mp h5, e1, h7⟩
  · rw [if_neg fun z => e (kB_eq.mp z)]
    exact hb.at_ i j z hij hj (by omega) hi hjz
theorem LPb.nonempty {bk st : Tb} {k f x : Nat} {L : List Int} (hb : LPb p F bk (k + 1) f) (hs : LPs p F st (k + 1) f) (hla : f + k < F.length) (hx : F[f]? = some x) (hy : F[f + k]? = some x) (hL : ∀ v, v ∈ L ↔ InB p F bk st f (f + k) x (f + k) 0 v) : L ≠ [] := by
  intro e
  by_cases h0 : k = 0
  · have := (hL 0).mpr (.inl ⟨by omega, rfl⟩)
    rw [e] at this
    cases this
  · obtain ⟨b, e1, _⟩ := hb.at_ f f x (Nat.le_refl _) (by omega) (.inl (by omega)) hx hx
    obtain ⟨o, e2, e3⟩ := hs.at_ (f + 1) (f + k) (k - 1) (by omega) (by omega) (.inl (by omega))
    obtain ⟨inner, e4, _⟩ := e3.2 0 ⟨JC.seg F (f + 1) (f + k), by rw [JC.seg_len (by omega)]; omega, .refl _⟩
    rw [e4] at e2
    have := (hL _).mpr (.inr ⟨f, k - 1, inner, b, Nat.le_refl _, .inl (by omega), by omega, hx, by omega, e2, e1, rfl⟩)
    rw [e] at this
    cases this
theorem LPb.skip {bk : Tb} {k f : Nat} (hb : LPb p F bk (k + 1) f) (hne : F[f]? ≠ F[f + k]?) : LPb p F bk (k + 1) (f + 1) := by
  refine ⟨fun i j z hij hj hd hi hjz => ?_⟩
  by_cases e : i = f ∧ j = f + k
  · obtain ⟨rfl, rfl⟩ := e
    exact absurd (hi.trans hjz.symm) hne
  · exact hb.at_ i j z hij hj (by omega) hi hjz
/-- the second half: the stretches from f on, of k + 1 letters, those of at most g letters are through -/
structure LPm (p : Nat → Int) (F : List Nat) (st : Tb) (k f g : Nat) (t : Tb) : Prop where
  old : ∀ i j l, ¬ (i = f ∧ j = f + k + 1) → valV t (kS i j l) = valV st (kS i j l)
  done : ∀ l, 1 ≤ l → l ≤ g → ∃ o : Option Int, valV t (kS f (f + k + 1) l) = o.map V.int ∧ Lst (StrS p F f (f + k + 1) l) o
  rest : ∀ l, l = 0 ∨ g < l → valV t (kS f (f + k + 1) l) = none
theorem LPm.start {st : Tb} {k f : Nat} (hs : LPs p F st (k + 1) f) : LPm p F st k f 0 st :=
  ⟨fun _ _ _ _ => rfl, fun l h1 h2 => by omega, fun l _ => hs.no f (f + k + 1) l (by omega) (by omega)⟩
theorem LPm.stop {st t : Tb} {k f : Nat} (hs : LPs p F st (k + 1) f) (hla : f + k < F.length) (hm : LPm p F st k f (k + 1) t) : LPs p F t (k + 1) (f + 1) := by
  refine ⟨fun i j l hij hj hd => ?_, fun i j l hij hd => ?_⟩
  · by_cases e : i = f ∧ j = f + k + 1
    · obtain ⟨rfl, rfl⟩ := e
      by_cases hl : 1 ≤ l ∧ l ≤ k + 1
      · exact hm.done l hl.1 hl.2
      · refine ⟨none, hm.rest l (by omega), JC.str_none hj (by omega) (by omega)⟩
    · rw [hm.old i j l e]
      exact hs.at_ i j l hij hj (by omega)
  · have e : ¬ (i = f ∧ j = f + k + 1) := fun z => hd (by omega)
    rw [hm.old i j l e]
    exact hs.no i j l hij fun z => hd (by omega)
/-- the numbers that a stretch's prices are chosen from -/
def InS (F : List Nat) (bk st : Tb) (f la g y hi : Nat) (v : Int) : Prop := ∃ m inner b, f ≤ m ∧ m < hi ∧ F[m]? = some y ∧ valV st (kS f m g) = some (.int inner) ∧ valV bk (kB m la) = some (.int b) ∧ v = inner + b
theorem LPm.lst {bk st t : Tb} {k f g y : Nat} {L : List Int} (hb : LPb p F bk (k + 1) (f + 1)) (hs : LPs p F st (k + 1) f) (hla : f + k < F.length) (hm : LPm p F st k f g t) (hy : F[f + k]? = some y) (hL : ∀ v, v ∈ L ↔ InS F bk t f (f + k) g y (f + k + 1) v) :
    (∀ d ∈ L, StrS p F f (f + k + 1) (g + 1) d) ∧ ∀ c, StrS p F f (f + k + 1) (g + 1) c → ∃ d ∈ L, d ≤ c := by
  have hbb : ∀ q, f ≤ q → q ≤ f + k → F[q]? = some y → ∃ v : Int, valV bk (kB q (f + k)) = some (.int v) ∧ Lst (BlkS p F q (f + k) y) (some v) := fun q h1 h2 h3 => hb.at_ q (f + k) y h2 hla (by omega) h3 hy
  refine JC.stretch_lst (p := p) (F := F) (a := f) (b := f + k) (l := g + 1) (y := y) hla (by omega) (by omega) hy (ST := fun q => iOf (valV t (kS f q g))) (B := fun q => (iOf (valV bk (kB q (f + k)))).getD 0) (L := L) (fun q h1 h2 => ?_) (fun q h1 h2 h3 => ?_) (fun d => ?_)
  · rw [hm.old f q g (by omega)]
    obtain ⟨o, e1, e2⟩ := hs.at_ f q g h1 (by omega) (.inl (by omega))
    rw [e1, iOf_map]
    exact e2
  · obtain ⟨v, e1, e2⟩ := hbb q h1 h2 h3
    rw [e1]
    exact e2
  · rw [hL]
    constructor
    · rintro ⟨q, inner, b, h1, h2, h3, h4, h5, h6⟩
      refine ⟨q, inner, h1, by omega, h3, iOf_iff.mpr h4, ?_⟩
      rw [h5]
      exact h6
    · rintro ⟨q, inner, h1, h2, h3, h4, h6⟩
      obtain ⟨v, e1, _⟩ := hbb q h1 h2 h3
      rw [e1] at h6
      exact ⟨q, inner, v, h1, by omega, h3, iOf_iff.mp h4, e1, h6⟩
theorem LPm.put {st t : Tb} {k f g : Nat} {m : Int} (hm : LPm p F st k f g t) (hl : Lst (StrS p F f (f + k + 1) (g + 1)) (some m)) : LPm p F st k f (g + 1) (putK t (kS f (f + k + 1) (g + 1)) (.int m)) := by
  refine ⟨fun i j l h => ?_, fun l h1 h2 => ?_, fun l h => ?_⟩
  · rw [valV_put, if_neg fun z => h ⟨(kS_eq.mp z).1, (kS_eq.mp z).2.1⟩]
    exact hm.old i j l h
  · rw [valV_put]
    by_cases e : l = g + 1
    · rw [e, if_pos rfl]
      exact ⟨some m, rfl, hl⟩
    · rw [if_neg fun z => e (kS_eq.mp z).2.2]
      exact hm.done l h1 (by omega)
  · rw [valV_put, if_neg fun z => by have := (kS_eq.mp z).2.2; omega]
    exact hm.rest l (by omega)
theorem LPm.skip {st t : Tb} {k f g : Nat} (hm : LPm p F st k f g t) (hl : Lst (StrS p F f (f + k + 1) (g + 1)) none) : LPm p F st k f (g + 1) t := by
  refine ⟨hm.old, fun l h1 h2 => ?_, fun l h => hm.rest l (by omega)⟩
  by_cases e : l = g + 1
  · rw [e]
    exact ⟨none, hm.rest _ (.inr (by omega)), hl⟩
  · exact hm.done l h1 (by omega)
theorem LPs.start {st : Tb} (h : ∀ a b l, valV st (kS a b l) = if a = b ∧ l = 0 ∧ a < F.length + 1 then some (.int 0) else none) : LPs p F st 1 0 := by
  refine ⟨fun i j l hij hj hd => ?_, fun i j l hij hd => ?_⟩
  · have e : i = j := by omega
    subst e
    refine ⟨_, ?_, JC.str_zero⟩
    rw [h]
    by_cases hl : l = 0
    · rw [if_pos ⟨rfl, hl, by omega⟩, if_pos hl]
      rfl
    · rw [if_neg fun z => hl z.2.1, if_neg hl]
      rfl
  · rw [h, if_neg fun z => hd (by omega)]
theorem LPb.start : LPb p F [] 1 0 := ⟨fun i j x hij hj hd => by omega⟩
theorem LPb.next {bk : Tb} {k : Nat} (h : LPb p F bk (k + 1) (F.length - k)) : LPb p F bk (k + 2) 0 :=
  ⟨fun i j x hij hj hd hi hjx => h.at_ i j x hij hj (by omega) hi hjx⟩
theorem LPs.next {st : Tb} {k : Nat} (h : LPs p F st (k + 1) (F.length - k)) : LPs p F st (k + 2) 0 :=
  ⟨fun i j l hij hj hd => h.at_ i j l hij hj (by omega), fun i j l hij hd => h.no i j l hij (by omega)⟩
end Jc
namespace Jc
open PySem PySem.Spec PyProof.Rows L2 Jr
open JC (Lst BlkS StrS)
/-- the price of a cut by how many letters but one it takes -/
abbrev prc (ps : List Int) : Nat → Int := fun l => ps.getD l 0
def spLeast : Sp := fun vs H Q _ => ∃ F, ∃ t, ∃ ps : List Int, vs = [.str (fs F), .ref t] ∧ H t = some (.tup (ps.map V.int)) ∧ 1 ≤ F.length ∧ F.length ≤ 12 ∧ ps.length + 1 = F.length ∧
  ∀ H' db bk, Same H H' → H' db = some (.dT bk) → LPb (prc ps) F bk (F.length + 1) 0 → Q (.ref db) H'
structure DS (H H2 : Hp) (db ds : Addr) (bk st : Tb) : Prop where
  sm : Same H H2
  b : H2 db = some (.dT bk)
  s : H2 ds = some (.dT st)
theorem DS.new {H H2 : Hp} {db ds p : Addr} {bk st : Tb} {o : HO} (h : DS H H2 db ds bk st) (n : H2 p = none) : DS H (upd H2 p o) db ds bk st :=
  ⟨same_new h.sm n, (upd_ne (ne_of_none h.b n)).trans h.b, (upd_ne (ne_of_none h.s n)).trans h.s⟩
theorem DS.oth {H H2 : Hp} {db ds p : Addr} {bk st : Tb} {o : HO} (h : DS H H2 db ds bk st) (n : H p = none) (n1 : db ≠ p) (n2 : ds ≠ p) : DS H (upd H2 p o) db ds bk st :=
  ⟨same_of_upd h.sm n, (upd_ne n1).trans h.b, (upd_ne n2).trans h.s⟩
theorem DS.putB {H H2 : Hp} {db ds : Addr} {bk st bk' : Tb} (h : DS H H2 db ds bk st) (n : H db = none) (ne : ds ≠ db) : DS H (upd H2 db (.dT bk')) db ds bk' st :=
  ⟨same_of_upd h.sm n, upd_same, (upd_ne ne).trans h.s⟩
theorem DS.putS {H H2 : Hp} {db ds : Addr} {bk st st' : Tb} (h : DS H H2 db ds bk st) (n : H ds = none) (ne : db ≠ ds) : DS H (upd H2 ds (.dT st')) db ds bk st' :=
  ⟨same_of_upd h.sm n, (upd_ne ne).trans h.b, upd_same⟩
theorem PS.imp {X : Cx} {st : Stmt} {t t' : TS} (h : PS X st t) (i : ∀ D σ H, t' D σ H → t D σ H) : PS X st t' := ⟨fun pins s σ H D I hw => h.run pins s σ H D I (i D σ H hw)⟩
def tCosts0 : TE := fun σ H Q => ∃ i j : Int, σ[7]? = some (some (.int i)) ∧ σ[8]? = some (some (.int j)) ∧ ∀ c (L : List Int), H c = none → (∀ v, v ∈ L ↔ i = j ∧ v = 0) → L.length ≤ 1 → Q (.ref c) (upd H c (.lst (L.map V.int)))
theorem pe_costs0 {X : Cx} {e : Expr} (h : PE X e (tIf (tTest (tOp rEq (tVar 7) (tVar 8))) (tLst (tCons (tC (.int 0)) tNil)) (tLst tNil))) : PE X e tCosts0 := by
  refine ⟨fun pins s σ H Q I hw => h.run pins s σ H Q I ?_⟩
  obtain ⟨i, j, h1, h2, q⟩ := hw
  refine ⟨_, h1, _, h2, rfl, _, rfl, ite2 (fun hc => ?_) (fun hc => ?_)⟩
  · have e : i = j := by
      have z := of_decide_eq_true hc
      injection z
    exact ⟨by show 1 ≤ sizeLine; decide, fun c nc => q c [0] nc (fun v => ⟨fun hv => ⟨e, List.mem_singleton.mp hv⟩, fun hv => by rw [hv.2]; exact List.mem_singleton.mpr rfl⟩) (Nat.le_refl _)⟩
  · have e : ¬ i = j := fun z => hc (decide_eq_true (by rw [z]))
    exact ⟨Nat.zero_le _, fun c nc => q c [] nc (fun v => ⟨fun hv => (nomatch hv), fun hv => absurd hv.1 e⟩) (Nat.zero_le _)⟩
structure St0 (H : Hp) (G : List Nat) (t : Addr) (ps : List Int) (db ds : Addr) : Prop where
  t : H t = some (.tup (ps.map V.int))
  l1 : 1 ≤ G.length
  l2 : G.length ≤ 12
  lp : ps.length + 1 = G.length
  nb : H db = none
  ns : H ds = none
  ne : db ≠ ds
abbrev Sl (G : List Nat) (t db ds : Addr) (y5 y6 y7 y8 y9 y10 y11 y12 : Option V) : L2.St := [some (.str (fs G)), some (.ref t), some (.int (((fs G).length : Nat) : Int)), some (.ref db), some (.ref ds), y5, y6, y7, y8, y9, y10, y11, y12]
def tS1 : TS := fun D σ H2 => ∃ H G t ps db ds, ∃ k f : Nat, ∃ bk st y5 y9 y10 y11 y12, St0 H G t ps db ds ∧ σ = Sl G t db ds y5 (some (.int ((k + 1 : Nat) : Int))) (some (.int (f : Int))) (some (.int ((f + k : Nat) : Int))) y9 y10 y11 y12 ∧ f + k < G.length ∧
  DS H H2 db ds bk st ∧ LPb (prc ps) G bk (k + 1) f ∧ LPs (prc ps) G st (k + 1) f ∧ bk.length ≤ 10000 ∧
  ∀ H3 bk' y9 y10 y11 y12, DS H H3 db ds bk' st → LPb (prc ps) G bk' (k + 1) (f + 1) → bk'.length ≤ bk.length + 1 → D.nx (Sl G t db ds y5 (some (.int ((k + 1 : Nat) : Int))) (some (.int (f : Int))) (some (.int ((f + k : Nat) : Int))) y9 y10 y11 y12) H3
def tS2 : TS := fun D σ H2 => ∃ H G t ps db ds, ∃ k f : Nat, ∃ bk st y5 y9 y10 y11 y12, St0 H G t ps db ds ∧ σ = Sl G t db ds y5 (some (.int ((k + 1 : Nat) : Int))) (some (.int (f : Int))) (some (.int ((f + k : Nat) : Int))) y9 y10 y11 y12 ∧ f + k < G.length ∧
  DS H H2 db ds bk st ∧ LPb (prc ps) G bk (k + 1) (f + 1) ∧ LPs (prc ps) G st (k + 1) f ∧ st.length ≤ 10000 ∧
  ∀ H3 st' y9 y10 y11 y12, DS H H3 db ds bk st' → LPs (prc ps) G st' (k + 1) (f + 1) → st'.length ≤ st.length + (k + 1) → D.nx (Sl G t db ds y5 (some (.int ((k + 1 : Nat) : Int))) (some (.int (f : Int))) (some (.int ((f + k : Nat) : Int))) y9 y10 y11 y12) H3
section
variable {p : Nat → Int} {F : List Nat} {bk st : Tb} {f la x m l : Nat}
theorem InB.none (h : valV st (kS (m + 1) la l) = none) (v : Int) : InB p F bk st f la x m (l + 1) v ↔ InB p F bk st f la x m l v := by
  constructor
  · rintro (h0 | ⟨q, r, inner, b, h1, h2, h3, h4, h5, h6, h7, h8⟩)
    · exact .inl h0
    · refine .inr ⟨q, r, inner, b, h1, ?_, h3, h4, h5, h6, h7, h8⟩
      rcases h2 with h2 | ⟨h2, h2'⟩
      · exact .inl h2
      · by_cases e : r = l
        · rw [h2, e, h] at h6
          cases h6
        · exact .inr ⟨h2, by omega⟩
  · rintro (h0 | ⟨q, r, inner, b, h1, h2, h3⟩)
    · exact .inl h0
    · exact .inr ⟨q, r, inner, b, h1, by omega, h3⟩
theorem InB.more {inner b : Int} (h1 : f ≤ m) (h2 : m < la) (h3 : F[m]? = some x) (h4 : l < la - m) (h5 : valV st (kS (m + 1) la l) = some (.int inner)) (h6 : valV bk (kB f m) = some (.int b)) (v : Int) :
    InB p F bk st f la x m (l + 1) v ↔ InB p F bk st f la x m l v ∨ v = b + inner + p l := by
  constructor
  · rintro (h0 | ⟨q, r, i', b', k1, k2, k3, k4, k5, k6, k7, k8⟩)
    · exact .inl (.inl h0)
    · rcases k2 with k2 | ⟨k2, k2'⟩
      · exact .inl (.inr ⟨q, r, i', b', k1, .inl k2, k3, k4, k5, k6, k7, k8⟩)
      · by_cases e : r = l
        · subst k2 e
          rw [h5] at k6
          rw [h6] at k7
          injection k6 with k6
          injection k6 with k6
          injection k7 with k7
          injection k7 with k7
          exact .inr (by rw [k8, k6, k7])
        · exact .inl (.inr ⟨q, r, i', b', k1, .inr ⟨k2, by omega⟩, k3, k4, k5, k6, k7, k8⟩)
  · rintro ((h0 | ⟨q, r, i', b', k1, k2, k3⟩) | h)
    · exact .inl h0
    · exact .inr ⟨q, r, i', b', k1, by omega, k3⟩
    · exact .inr ⟨m, l, inner, b, h1, .inr ⟨rfl, by omega⟩, h2, h3, h4, h5, h6, h⟩
theorem InB.stop (v : Int) : InB p F bk st f la x m (la - m) v ↔ InB p F bk st f la x (m + 1) 0 v := by
  constructor
  · rintro (h0 | ⟨q, r, inner, b, h1, h2, h3⟩)
    · exact .inl h0
    · exact .inr ⟨q, r, inner, b, h1, by omega, h3⟩
  · rintro (h0 | ⟨q, r, inner, b, h1, h2, h3, h4, h5, h6⟩)
    · exact .inl h0
    · refine .inr ⟨q, r, inner, b, h1, ?_, h3, h4, h5, h6⟩
      by_cases e : q = m
      · rw [e] at h5
        exact .inr ⟨e, h5⟩
      · exact .inl (by omega)
theorem InB.other (h : F[m]? ≠ some x) (v : Int) : InB p F bk st f la x m 0 v ↔ InB p F bk st f la x (m + 1) 0 v := by
  constructor
  · rintro (h0 | ⟨q, r, inner, b, h1, h2, h3⟩)
    · exact .inl h0
    · exact .inr ⟨q, r, inner, b, h1, by omega, h3⟩
  · rintro (h0 | ⟨q, r, inner, b, h1, h2, h3, h4, h5⟩)
    · exact .inl h0
    · refine .inr ⟨q, r, inner, b, h1, ?_, h3, h4, h5⟩
      by_cases e : q = m
      · rw [e] at h4
        exact absurd h4 h
      · exact .inl (by omega)
theorem InB.start (v : Int) : InB p F bk st f la x f 0 v ↔ f = la ∧ v = 0 := by
  constructor
  · rintro (h0 | ⟨q, r, inner, b, h1, h2, _⟩)
    · exact h0
    · omega
  · exact fun h => .inl h
end
section
variable {F : List Nat} {bk st : Tb} {f la g y m : Nat}
theorem InS.none (h : valV st (kS f m g) = none) (v : Int) : InS F bk st f la g y (m + 1) v ↔ InS F bk st f la g y m v := by
  constructor
  · rintro ⟨q, inner, b, h1, h2, h3, h4, h5⟩
    refine ⟨q, inner, b, h1, ?_, h3, h4, h5⟩
    by_cases e : q = m
    · rw [e, h] at h4
      cases h4
    · omega
  · rintro ⟨q, inner, b, h1, h2, h3⟩
    exact ⟨q, inner, b, h1, by omega, h3⟩
theorem InS.other (h : F[m]? ≠ some y) (v : Int) : InS F bk st f la g y (m + 1) v ↔ InS F bk st f la g y m v := by
  constructor
  · rintro ⟨q, inner, b, h1, h2, h3, h4⟩
    refine ⟨q, inner, b, h1, ?_, h3, h4⟩
    by_cases e : q = m
    · rw [e] at h3
      exact absurd h3 h
    · omega
  · rintro ⟨q, inner, b, h1, h2, h3⟩
    exact ⟨q, inner, b, h1, by omega, h3⟩
theorem InS.more {inner b : Int} (h1 : f ≤ m) (h3 : F[m]? = some y) (h5 : valV st (kS f m g) = some (.int inner)) (h6 : valV bk (kB m la) = some (.int b)) (v : Int) :
    InS F bk st f la g y (m + 1) v ↔ InS F bk st f la g y m v ∨ v = inner + b := by
  constructor
  · rintro ⟨q, i', b', k1, k2, k3, k6, k7, k8⟩
    by_cases e : q = m
    · subst e
      rw [h5] at k6
      rw [h6] at k7
      injection k6 with k6
      injection k6 with k6
      injection k7 with k7
      injection k7 with k7
      exact .inr (by rw [k8, k6, k7])
    · exact .inl ⟨q, i', b', k1, by omega, k3, k6, k7, k8⟩
  · rintro (⟨q, i', b', k1, k2, k3⟩ | h)
    · exact ⟨q, i', b', k1, by omega, k3⟩
    · exact ⟨m, inner, b, h1, by omega, h3, h5, h6, h⟩
theorem InS.start (v : Int) : ¬ InS F bk st f la g y f v := by
  rintro ⟨q, i', b', k1, k2, _⟩
  omega
end
section
variable {P : Program} {w : World} {K : PySem.W.Frag} {mg : Str → Option Value} {base : Heap}
abbrev nLp : List Str := ["film", "prices", "many", "block", "stretch", "start", "size", "first", "last", "costs", "middle", "left", "inner"]
theorem sc_lp : FnScope nLp ["film", "prices"] (defScope sLeast) := ⟨rfl, rfl, rfl, by decide +kernel, rfl, by decide +kernel, by decide +kernel⟩
theorem ok_least {f : Addr} {fd : FuncData} (F : FnP K "least_prices" sLeast f fd) (T : Bts mg) : FnOk P w K mg base CX0 1 f fd ["film", "prices"] spLeast := by
  refine F.ok sc_lp (fun vs H Q E h => ?_) (fun cdv A outer s H vs Q E hr h => ⟨_, PSs.nox (pss_cons (ps_par3 (i := 2) (j := 3) (l := 4) rfl sc_lp.nd rfl rfl rfl (by decide) (by decide) (by decide) rfl rfl rfl (pa_cons (pe_callB call_len_str (by rfl) T.len boot_len (pa_cons (pv 0) pa_nil)) (pa_cons pe_dnewT (pa_cons pe_dnewT pa_nil))) (by rfl)) (pss_cons (ps_for PassesOwn.never rfl (pi_range1 (by rfl) T.rng (pa_cons (pe_op op_add (pv 2) pe_int) pa_nil)) (pg_name (i := 5) sc_lp.nd rfl (.inl rfl)) (pss_one (ps_dput (hu_of hr) (pv 4) (pe_tup (pa_cons (pv 5) (pa_cons (pv 5) (pa_cons pe_int pa_nil)))) pe_int rfl))) (pss_cons (ps_for PassesOwn.never rfl (pi_range2 (by rfl) T.rng (pa_cons pe_int (pa_cons (pe_op op_add (pv 2) pe_int) pa_nil))) (pg_name (i := 6) sc_lp.nd rfl (.inl rfl)) (pss_one (ps_for PassesOwn.never rfl (pi_range1 (by rfl) T.rng (pa_cons (pe_op op_add (pe_op op_sub (pv 2) (pv 6)) pe_int) pa_nil)) (pg_name (i := 7) sc_lp.nd rfl (.inl rfl)) (pss_cons (ps_set (i := 8) sc_lp.nd rfl (.inl rfl) (pe_op op_sub (pe_op op_add (pv 7) (pv 6)) pe_int)) (pss_cons (PS.imp (t' := tS1) (ps_if (pt_cmpR op_eq (pe_ix ix_str (pv 0) (pv 7) (fun _ _ => rfl)) (pe_ix ix_str (pv 0) (pv 8) (fun _ _ => rfl)) (nomark _)) (pss_cons (ps_set (i := 9) sc_lp.nd rfl (.inl rfl) (pe_costs0 (pe_ifExp (pt_cmpR op_eq (pv 7) (pv 8) (nomark _)) (pe_lst (pa_cons pe_int pa_nil)) (pe_lst pa_nil)))) (pss_cons (ps_for PassesOwn.never rfl (pi_range2 (by rfl) T.rng (pa_cons (pv 7) (pa_cons (pv 8) pa_nil))) (pg_name (i := 10) sc_lp.nd rfl (.inl rfl)) (pss_one (ps_if (pt_cmpR op_eq (pe_ix ix_str (pv 0) (pv 10) (fun _ _ => rfl)) (pe_ix ix_str (pv 0) (pv 7) (fun _ _ => rfl)) (nomark _)) (pss_one (ps_for PassesOwn.never rfl (pi_range1 (by rfl) T.rng (pa_cons (pe_op op_sub (pv 8) (pv 10)) pa_nil)) (pg_name (i := 11) sc_lp.nd rfl (.inl rfl)) (pss_cons (ps_set (i := 12) sc_lp.nd rfl (.inl rfl) (pe_dget1 (hu_of hr) (pv 4) (pe_tup (pa_cons (pe_op op_add (pv 10) pe_int) (pa_cons (pv 8) (pa_cons (pv 11) pa_nil)))) ⟨rfl, rfl, rfl, rfl⟩)) (pss_one (ps_if (pt_cmp (pc_notN (pv 12))) (pss_one (ps_expr (pe_bm PySem.F.plainAttrs_list PySem.F.slot_list_append PySem.F.type_list_append mt_append (pv 9) (pa_cons (pe_op op_add (pe_op op_add (pe_dget (hu_of hr) (pv 3) (pe_tup (pa_cons (pv 7) (pa_cons (pv 10) pa_nil))) (fun _ _ => rfl)) (pv 12)) (pe_ix ix_tup (pv 1) (pv 11) (fun _ _ => rfl))) pa_nil)))) pss_nil))))) pss_nil))) (pss_one (ps_dput (hu_of hr) (pv 3) (pe_tup (pa_cons (pv 7) (pa_cons (pv 8) pa_nil))) (pe_callB (cr_min rfl) (by rfl) T.min boot_min (pa_cons (pv 9) pa_nil)) rfl)))) pss_nil) ?imp1) (pss_one (PS.imp (t' := tS2) (ps_for PassesOwn.never rfl (pi_range2 (by rfl) T.rng (pa_cons pe_int (pa_cons (pe_op op_add (pv 6) pe_int) pa_nil))) (pg_name (i := 11) sc_lp.nd rfl (.inl rfl)) (pss_cons (ps_set (i := 9) sc_lp.nd rfl (.inl rfl) (pe_lst pa_nil)) (pss_cons (ps_for PassesOwn.never rfl (pi_range2 (by rfl) T.rng (pa_cons (pv 7) (pa_cons (pe_op op_add (pv 8) pe_int) pa_nil))) (pg_name (i := 10) sc_lp.nd rfl (.inl rfl)) (pss_cons (ps_set (i := 12) sc_lp.nd rfl (.inl rfl) (pe_dget1 (hu_of hr) (pv 4) (pe_tup (pa_cons (pv 7) (pa_cons (pv 10) (pa_cons (pe_op op_sub (pv 11) pe_int) pa_nil)))) ⟨rfl, rfl, rfl, rfl⟩)) (pss_one (ps_if (PW.pt (pw_and (pt_cmp (pc_notN (pv 12))) (pw_and1 (pt_cmpR op_eq (pe_ix ix_str (pv 0) (pv 10) (fun _ _ => rfl)) (pe_ix ix_str (pv 0) (pv 8) (fun _ _ => rfl)) (nomark _))))) (pss_one (ps_expr (pe_bm PySem.F.plainAttrs_list PySem.F.slot_list_append PySem.F.type_list_append mt_append (pv 9) (pa_cons (pe_op op_add (pv 12) (pe_dget (hu_of hr) (pv 3) (pe_tup (pa_cons (pv 10) (pa_cons (pv 8) pa_nil))) (fun _ _ => rfl))) pa_nil)))) pss_nil)))) (pss_one (ps_if (pt_cmpR (op_neD hr.units) (pv 9) (pe_lst pa_nil) (nomark _)) (pss_one (ps_dput (hu_of hr) (pv 4) (pe_tup (pa_cons (pv 7) (pa_cons (pe_op op_add (pv 8) pe_int) (pa_cons (pv 11) pa_nil)))) (pe_callB (cr_min rfl) (by rfl) T.min boot_min (pa_cons (pv 9) pa_nil)) rfl)) pss_nil))))) ?imp2))))))) (pss_one (ps_ret (pv 3)))))), ?_⟩)
  case imp1 =>
    rintro D σ H2 ⟨H, G, t, ps, db, ds, k, f, bk, st, y5, y9, y10, y11, y12, Z, rfl, hfk, d, hb, hs, lb, nx⟩
    have lG : (fs G).length ≤ sizeLine := by
      have := Z.l2
      rw [fs_len]
      exact line200 (by omega)
    have gl2 := Z.l2
    have glp := Z.lp
    have gf : G[f]? = some G[f] := List.getElem?_eq_getElem (by omega)
    have gl : G[f + k]? = some G[f + k] := List.getElem?_eq_getElem hfk
    refine ⟨_, rfl, _, rfl, fs G, _, _, rfl, rfl, lG, atI_nat (by rw [fs_list]; exact gf), _, rfl, _, rfl, fs G, _, _, rfl, rfl, lG, atI_nat (by rw [fs_list]; exact gl), rfl, _, rfl, ite2 (fun hc => ?_) (fun hc => ?_)⟩
    · have ex : G[f] = G[f + k] := (sign_eq _ _).mp (of_decide_eq_true hc)
      rw [← ex] at gl
      refine ⟨(f : Int), ((f + k : Nat) : Int), rfl, rfl, fun c L0 nc hL0 lL0 => ?_⟩
      have ncH : H c = none := d.sm.free nc
      have ndc : db ≠ c := ne_of_none d.b nc
      have nsc : ds ≠ c := ne_of_none d.s nc
      refine ⟨_, rfl, _, rfl, _, _, rfl, ⟨by omega, by omega, by omega, by omega⟩, ?_⟩
      refine for_range (lo := (f : Int)) (n := (((f + k : Nat) : Int) - (f : Int)).toNat) (fun e σ H3 => ∃ L y10 y11 y12, σ = Sl G t db ds y5 (some (.int ((k + 1 : Nat) : Int))) (some (.int (f : Int))) (some (.int ((f + k : Nat) : Int))) (some (.ref c)) y10 y11 y12 ∧ DS H H3 db ds bk st ∧ H3 c = some (.lst (L.map V.int)) ∧ L.length ≤ 1 + e * 13 ∧
          ∀ v, v ∈ L ↔ InB (prc ps) G bk st f (f + k) G[f] (f + e) 0 v)
        ⟨L0, y10, y11, y12, rfl, d.new nc, upd_same, by omega, fun v => ?_⟩ ?_ ?_
      · rw [hL0]
        rw [Nat.add_zero, InB.start]
        constructor
        · rintro ⟨h1, h2⟩
          exact ⟨by omega, h2⟩
        · rintro ⟨h1, h2⟩
          exact ⟨by omega, h2⟩
      · rintro e σ H3 he ⟨L, y10, y11, y12, rfl, d3, hcl, lL, hL⟩
        have he' : e < k := by omega
        have em : (f : Int) + (e : Int) = ((f + e : Nat) : Int) := by omega
        rw [em]
        have gm : G[f + e]? = some G[f + e] := List.getElem?_eq_getElem (by omega)
        refine ⟨_, rfl, _, rfl, fs G, _, _, rfl, rfl, lG, atI_nat (by rw [fs_list]; exact gm), _, rfl, _, rfl, fs G, _, _, rfl, rfl, lG, atI_nat (by rw [fs_list]; exact gf), rfl, _, rfl, ite2 (fun hc2 => ?_) (fun hc2 => ?_)⟩
        · have ex2 : G[f + e] = G[f] := (sign_eq _ _).mp (of_decide_eq_true hc2)
          rw [ex2] at gm
          refine ⟨_, rfl, _, rfl, _, _, rfl, rfl, _, rfl, by omega, by omega, ?_⟩
          refine for_range (lo := 0) (n := (((f + k : Nat) : Int) - ((f + e : Nat) : Int)).toNat) (fun l σ H4 => ∃ L y11 y12, σ = Sl G t db ds y5 (some (.int ((k + 1 : Nat) : Int))) (some (.int (f : Int))) (some (.int ((f + k : Nat) : Int))) (some (.ref c)) (some (.int ((f + e : Nat) : Int))) y11 y12 ∧ DS H H4 db ds bk st ∧ H4 c = some (.lst (L.map V.int)) ∧ L.length ≤ 1 + e * 13 + l ∧
              ∀ v, v ∈ L ↔ InB (prc ps) G bk st f (f + k) G[f] (f + e) l v)
            ⟨L, y11, y12, rfl, d3, hcl, by omega, hL⟩ ?_ ?_
          · rintro l σ H4 hl ⟨L, y11, y12, rfl, d4, hcl, lL, hL⟩
            have hl' : l < (f + k) - (f + e) := by omega
            rw [Int.zero_add]
            have ek : (((f + e : Nat) : Int) + 1) = ((f + e + 1 : Nat) : Int) := by omega
            refine ⟨_, rfl, ds, rfl, .inr ⟨st, .inl d4.s⟩, _, rfl, _, _, rfl, rfl, _, rfl, _, rfl, by show 3 ≤ sizeLine; decide, fun u nu => ?_⟩
            have d5 := d4.new (o := .tup [.int (((f + e : Nat) : Int) + 1), .int ((f + k : Nat) : Int), .int (l : Int)]) nu
            have hget : DGet (upd H4 u (.tup [.int (((f + e : Nat) : Int) + 1), .int ((f + k : Nat) : Int), .int (l : Int)])) ds (.ref u) (valV st (kS (f + e + 1) (f + k) l)) :=
              DGet.t (k := kS (f + e + 1) (f + k) l) d5.s (by rw [ek]; exact upd_same)
            have hcl5 : (upd H4 u (.tup [.int (((f + e : Nat) : Int) + 1), .int ((f + k : Nat) : Int), .int (l : Int)])) c = some (.lst (L.map V.int)) := (upd_ne (ne_of_none hcl nu)).trans hcl
            refine ⟨_, hget, ?_⟩
            obtain ⟨oi, ho, _⟩ := hs.at_ (f + e + 1) (f + k) l (by omega) (by omega) (.inl (by omega))
            rw [ho, ofO_getD]
            refine ⟨_, rfl, _, rfl, ?_⟩
            cases oi with
            | none =>
              refine iteF ⟨L, _, _, rfl, d5, hcl5, by omega, fun v => ?_⟩
              rw [InB.none ho]
              exact hL v
            | some inner =>
              refine iteT ⟨_, rfl, .inl ⟨rfl, _, SqL.of hcl5⟩, _, rfl, _, rfl, _, rfl, by show 2 ≤ sizeLine; decide, fun u2 nu2 => ?_⟩
              have d6 := d5.new (o := .tup [.int (f : Int), .int ((f + e : Nat) : Int)]) nu2
              obtain ⟨b, hbv, _⟩ := hb.at_ f (f + e) G[f] (by omega) (by omega) (.inl (by omega)) gf gm
              have hget2 : DGet (upd (upd H4 u (.tup [.int (((f + e : Nat) : Int) + 1), .int ((f + k : Nat) : Int), .int (l : Int)])) u2 (.tup [.int (f : Int), .int ((f + e : Nat) : Int)])) db (.ref u2) (some (.int b)) := by
                rw [← hbv]
                exact DGet.t (k := kB f (f + e)) d6.b upd_same
              have hcl6 : (upd (upd H4 u (.tup [.int (((f + e : Nat) : Int) + 1), .int ((f + k : Nat) : Int), .int (l : Int)])) u2 (.tup [.int (f : Int), .int ((f + e : Nat) : Int)])) c = some (.lst (L.map V.int)) := (upd_ne (ne_of_none hcl5 nu2)).trans hcl5
              have hlp : l < ps.length := by omega
              have hpr : (ps.map V.int)[l]? = some (.int (prc ps l)) := by
                rw [List.getElem?_map, List.getElem?_eq_getElem hlp]
                show some (V.int ps[l]) = some (V.int (ps.getD l 0))
                rw [List.getD_eq_getElem?_getD, List.getElem?_eq_getElem hlp]
                rfl
              refine ⟨db, _, rfl, hget2, _, rfl, _, _, rfl, rfl, _, rfl, _, rfl, t, _, _, _, rfl, rfl, SqT.of (d6.sm _ _ Z.t), atI_nat hpr, _, _, rfl, rfl, ?_⟩
              refine ⟨c, _, _, rfl, rfl, hcl6, by rw [List.length_map, sizeLine_eq]; omega, ?_⟩
              refine ⟨L ++ [b + inner + prc ps l], _, _, rfl, d6.oth ncH ndc nsc, ?_, by rw [List.length_append, List.length_singleton]; omega, fun v => ?_⟩
              · rw [upd_same, List.map_append]
                rfl
              · rw [List.mem_append, List.mem_singleton, InB.more (by omega) (by omega) gm (by omega) ho hbv, hL]
          · rintro σ H4 ⟨L, y11, y12, rfl, d4, hcl, lL, hL⟩
            have en : (((f + k : Nat) : Int) - ((f + e : Nat) : Int)).toNat = (f + k) - (f + e) := by omega
            rw [en] at lL hL
            refine ⟨L, _, _, _, rfl, d4, hcl, by omega, fun v => ?_⟩
            rw [hL, InB.stop]
            exact Iff.rfl
        · have hnm : G[f + e]? ≠ some G[f] := fun z => hc2 (decide_eq_true ((sign_eq _ _).mpr (Option.some.inj (gm.symm.trans z))))
          refine ⟨L, _, _, _, rfl, d3, hcl, by omega, fun v => ?_⟩
          rw [hL, InB.other hnm]
          exact Iff.rfl
      · rintro σ H3 ⟨L, y10, y11, y12, rfl, d3, hcl, lL, hL⟩
        have en : (((f + k : Nat) : Int) - (f : Int)).toNat = k := by omega
        rw [en] at lL hL
        have hpos : 0 < L.length := List.length_pos_iff.mpr (hb.nonempty hs hfk gf gl hL)
        refine ⟨_, rfl, c, L, rfl, SqL.of hcl, hpos, fun m hm hle => ⟨_, rfl, _, rfl, _, rfl, by show 2 ≤ sizeLine; decide, fun u nu => ?_⟩⟩
        have d4 := d3.new (o := .tup [.int (f : Int), .int ((f + k : Nat) : Int)]) nu
        have hput : DPut (upd H3 u (.tup [.int (f : Int), .int ((f + k : Nat) : Int)])) db (.ref u) (.int m) (upd (upd H3 u (.tup [.int (f : Int), .int ((f + k : Nat) : Int)])) db (.dT (putK bk (kB f (f + k)) (.int m)))) :=
          DPut.t (k := kB f (f + k)) d4.b upd_same (by rw [sizeLine_eq]; omega)
        exact ⟨db, _, rfl, hput, nx _ _ _ _ _ _ (d4.putB Z.nb Z.ne.symm) (hb.put hs hfk gf gl hL hm hle) (length_putK _ _ _)⟩
    · have hne : G[f]? ≠ G[f + k]? := fun z => hc (decide_eq_true ((sign_eq _ _).mpr (by rw [gf, gl] at z; exact Option.some.inj z)))
      exact nx H2 bk _ _ _ _ d (hb.skip hne) (by omega)
  case imp2 =>
    rintro D σ H2 ⟨H, G, t, ps, db, ds, k, f, bk, st, y5, y9, y10, y11, y12, Z, rfl, hfk, d, hb, hs, ls, nx⟩
    have lG : (fs G).length ≤ sizeLine := by
      have := Z.l2
      rw [fs_len]
      exact line200 (by omega)
    have gl2 := Z.l2
    have gl : G[f + k]? = some G[f + k] := List.getElem?_eq_getElem hfk
    refine ⟨_, rfl, _, _, rfl, rfl, _, _, rfl, ⟨by omega, by omega, by omega, by omega⟩, ?_⟩
    refine for_range (lo := 1) (n := (((k + 1 : Nat) : Int) + 1 - 1).toNat) (fun g σ H3 => ∃ st' y9 y10 y11 y12, σ = Sl G t db ds y5 (some (.int ((k + 1 : Nat) : Int))) (some (.int (f : Int))) (some (.int ((f + k : Nat) : Int))) y9 y10 y11 y12 ∧ DS H H3 db ds bk st' ∧ LPm (prc ps) G st k f g st' ∧ st'.length ≤ st.length + g)
      ⟨st, y9, y10, y11, y12, rfl, d, LPm.start hs, by omega⟩ ?_ ?_
    · rintro g σ H3 hg ⟨st', y9, y10, y11, y12, rfl, d3, hm, ls'⟩
      have es : (1 : Int) + (g : Int) = ((g + 1 : Nat) : Int) := by omega
      rw [es]
      refine ⟨Nat.zero_le _, fun c nc => ?_⟩
      have ncH : H c = none := d3.sm.free nc
      have ndc : db ≠ c := ne_of_none d3.b nc
      have nsc : ds ≠ c := ne_of_none d3.s nc
      refine ⟨_, rfl, _, rfl, _, _, rfl, rfl, _, _, rfl, ⟨by omega, by omega, by omega, by omega⟩, ?_⟩
      refine for_range (lo := (f : Int)) (n := (((f + k : Nat) : Int) + 1 - (f : Int)).toNat) (fun e σ H4 => ∃ L y10 y12, σ = Sl G t db ds y5 (some (.int ((k + 1 : Nat) : Int))) (some (.int (f : Int))) (some (.int ((f + k : Nat) : Int))) (some (.ref c)) y10 (some (.int ((g + 1 : Nat) : Int))) y12 ∧ DS H H4 db ds bk st' ∧ H4 c = some (.lst (L.map V.int)) ∧ L.length ≤ e ∧
          ∀ v, v ∈ L ↔ InS G bk st' f (f + k) g G[f + k] (f + e) v)
        ⟨[], y10, y12, rfl, d3.new nc, upd_same, Nat.le_refl _, fun v => ⟨fun h => (nomatch h), fun h => absurd h (InS.start v)⟩⟩ ?_ ?_
      · rintro e σ H4 he ⟨L, y10, y12, rfl, d4, hcl, lL, hL⟩
        have he' : e < k + 1 := by omega
        have em : (f : Int) + (e : Int) = ((f + e : Nat) : Int) := by omega
        rw [em]
        have gm : G[f + e]? = some G[f + e] := List.getElem?_eq_getElem (by omega)
        have ek : (((g + 1 : Nat) : Int) - 1) = ((g : Nat) : Int) := by omega
        refine ⟨_, rfl, ds, rfl, .inr ⟨st', .inl d4.s⟩, _, rfl, _, rfl, _, rfl, _, _, rfl, rfl, by show 3 ≤ sizeLine; decide, fun u nu => ?_⟩
        have d5 := d4.new (o := .tup [.int (f : Int), .int ((f + e : Nat) : Int), .int (((g + 1 : Nat) : Int) - 1)]) nu
        have hget : DGet (upd H4 u (.tup [.int (f : Int), .int ((f + e : Nat) : Int), .int (((g + 1 : Nat) : Int) - 1)])) ds (.ref u) (valV st' (kS f (f + e) g)) :=
          DGet.t (k := kS f (f + e) g) d5.s (by rw [ek]; exact upd_same)
        have hcl5 : (upd H4 u (.tup [.int (f : Int), .int ((f + e : Nat) : Int), .int (((g + 1 : Nat) : Int) - 1)])) c = some (.lst (L.map V.int)) := (upd_ne (ne_of_none hcl nu)).trans hcl
        refine ⟨_, hget, ?_⟩
        obtain ⟨oi, ho, _⟩ := hs.at_ f (f + e) g (by omega) (by omega) (.inl (by omega))
        rw [← hm.old f (f + e) g (by omega)] at ho
        rw [ho, ofO_getD]
        refine ⟨_, rfl, ?_⟩
        cases oi with
        | none =>
          refine ⟨_, rfl, iteF (iteF ⟨L, _, _, rfl, d5, hcl5, by omega, fun v => ?_⟩)⟩
          rw [show f + (e + 1) = f + e + 1 by omega, InS.none ho]
          exact hL v
        | some inner =>
          refine ⟨_, rfl, iteT ?_⟩
          refine ⟨_, rfl, _, rfl, fs G, _, _, rfl, rfl, lG, atI_nat (by rw [fs_list]; exact gm), _, rfl, _, rfl, fs G, _, _, rfl, rfl, lG, atI_nat (by rw [fs_list]; exact gl), rfl, _, rfl, ite2 (fun hc2 => ?_) (fun hc2 => ?_)⟩
          · have ex2 : G[f + e] = G[f + k] := (sign_eq _ _).mp (of_decide_eq_true hc2)
            rw [ex2] at gm
            refine ⟨_, rfl, .inl ⟨rfl, _, SqL.of hcl5⟩, _, rfl, _, rfl, _, rfl, _, rfl, by show 2 ≤ sizeLine; decide, fun u2 nu2 => ?_⟩
            have d6 := d5.new (o := .tup [.int ((f + e : Nat) : Int), .int ((f + k : Nat) : Int)]) nu2
            obtain ⟨b, hbv, _⟩ := hb.at_ (f + e) (f + k) G[f + k] (by omega) hfk (by omega) gm gl
            have hget2 : DGet (upd (upd H4 u (.tup [.int (f : Int), .int ((f + e : Nat) : Int), .int (((g + 1 : Nat) : Int) - 1)])) u2 (.tup [.int ((f + e : Nat) : Int), .int ((f + k : Nat) : Int)])) db (.ref u2) (some (.int b)) := by
              rw [← hbv]
              exact DGet.t (k := kB (f + e) (f + k)) d6.b upd_same
            have hcl6 : (upd (upd H4 u (.tup [.int (f : Int), .int ((f + e : Nat) : Int), .int (((g + 1 : Nat) : Int) - 1)])) u2 (.tup [.int ((f + e : Nat) : Int), .int ((f + k : Nat) : Int)])) c = some (.lst (L.map V.int)) := (upd_ne (ne_of_none hcl5 nu2)).trans hcl5
            refine ⟨db, _, rfl, hget2, _, _, rfl, rfl, ?_⟩
            refine ⟨c, _, _, rfl, rfl, hcl6, by rw [List.length_map, sizeLine_eq]; omega, ?_⟩
            refine ⟨L ++ [inner + b], _, _, rfl, d6.oth ncH ndc nsc, ?_, by rw [List.length_append, List.length_singleton]; omega, fun v => ?_⟩
            · rw [upd_same, List.map_append]
              rfl
            · rw [show f + (e + 1) = f + e + 1 by omega, List.mem_append, List.mem_singleton, InS.more (by omega) gm ho hbv, hL]
          · have hnm : G[f + e]? ≠ some G[f + k] := fun z => hc2 (decide_eq_true ((sign_eq _ _).mpr (Option.some.inj (gm.symm.trans z))))
            refine ⟨L, _, _, rfl, d5, hcl5, by omega, fun v => ?_⟩
            rw [show f + (e + 1) = f + e + 1 by omega, InS.other hnm]
            exact hL v
      · rintro σ H4 ⟨L, y10, y12, rfl, d4, hcl, lL, hL⟩
        have en : f + (((f + k : Nat) : Int) + 1 - (f : Int)).toNat = f + k + 1 := by omega
        rw [en] at hL
        have hlst := LPm.lst hb hs hfk hm gl hL
        refine ⟨_, rfl, Nat.zero_le _, fun e0 ne0 => ?_⟩
        have d5 := d4.new (o := .lst []) ne0
        have s5 : Same H4 (upd H4 e0 (.lst [])) := same_new (Same.refl H4) ne0
        refine ⟨_, _, .lst (SqL.of (s5 _ _ hcl)) (dp_ints _), .lst (SqL.of upd_same) .nil, ints_shaped _, by decide, ?_⟩
        rw [eqv_nil]
        refine ⟨_, rfl, ite2 (fun hne => ?_) (fun hne => ?_)⟩
        · have hpos : 0 < L.length := by
            cases L with
            | nil => cases hne
            | cons _ _ => exact Nat.succ_pos _
          refine ⟨_, rfl, c, L, rfl, SqL.of (s5 _ _ hcl), hpos, fun m hmm hle => ⟨_, rfl, _, rfl, _, rfl, _, _, rfl, rfl, _, rfl, by show 3 ≤ sizeLine; decide, fun u nu => ?_⟩⟩
          have ek : ((f + k : Nat) : Int) + 1 = ((f + k + 1 : Nat) : Int) := by omega
          have d6 := d5.new (o := .tup [.int (f : Int), .int (((f + k : Nat) : Int) + 1), .int ((g + 1 : Nat) : Int)]) nu
          have hput : DPut (upd (upd H4 e0 (.lst [])) u (.tup [.int (f : Int), .int (((f + k : Nat) : Int) + 1), .int ((g + 1 : Nat) : Int)])) ds (.ref u) (.int m) (upd (upd (upd H4 e0 (.lst [])) u (.tup [.int (f : Int), .int (((f + k : Nat) : Int) + 1), .int ((g + 1 : Nat) : Int)])) ds (.dT (putK st' (kS f (f + k + 1) (g + 1)) (.int m)))) :=
            DPut.t (k := kS f (f + k + 1) (g + 1)) d6.s (by rw [ek]; exact upd_same) (by rw [sizeLine_eq]; omega)
          exact ⟨ds, _, rfl, hput, _, _, _, _, _, rfl, d6.putS Z.ns Z.ne, hm.put (Lst.of_list hmm hle hlst.1 hlst.2), Nat.le_trans (length_putK _ _ _) (by omega)⟩
        · have hnil : L = [] := by
            cases L with
            | nil => rfl
            | cons _ _ => exact absurd rfl hne
          exact ⟨st', _, _, _, _, rfl, d5, hm.skip (Lst.of_empty hnil hlst.2), by omega⟩
    · rintro σ H3 ⟨st', y9, y10, y11, y12, rfl, d3, hm, ls'⟩
      have en : (((k + 1 : Nat) : Int) + 1 - 1).toNat = k + 1 := by omega
      rw [en] at hm ls'
      exact nx H3 st' _ _ _ _ d3 (hm.stop hs hfk) ls'
  · obtain ⟨G, t, ps, rfl, _⟩ := h
    rfl
  · obtain ⟨G, t, ps, rfl, ht, l1, l2, lp, q⟩ := h
    have lG : (fs G).length ≤ sizeLine := by rw [fs_len]; exact line200 (by omega)
    have eG : (((fs G).length : Nat) : Int) = (G.length : Int) := by rw [fs_len]
    refine ⟨_, rfl, fs G, rfl, lG, fun db ndb ds nds => ⟨_, _, _, rfl, ?_⟩⟩
    have ns : H ds = none := (same_new (Same.refl H) ndb).free nds
    have ne : db ≠ ds := ne_of_none upd_same nds
    have Z : St0 H G t ps db ds := ⟨ht, l1, l2, lp, ndb, ns, ne⟩
    have D1 : DS H (upd (upd H db (.dT [])) ds (.dT [])) db ds [] [] := ⟨same_new (same_new (Same.refl H) ndb) nds, (upd_ne ne).trans upd_same, upd_same⟩
    refine ⟨_, rfl, _, _, rfl, rfl, _, rfl, by rw [eG]; omega, by rw [eG]; omega, ?_⟩
    refine for_range (lo := 0) (n := ((((fs G).length : Nat) : Int) + 1).toNat) (fun i σ H2 => ∃ st y5, σ = Sl G t db ds y5 none none none none none none none ∧ DS H H2 db ds [] st ∧ st.length ≤ i ∧ ∀ a b l, valV st (kS a b l) = if a = b ∧ l = 0 ∧ a < i then some (.int 0) else none)
      ⟨[], none, rfl, D1, Nat.zero_le _, fun a b l => by rw [if_neg (fun z => absurd z.2.2 (Nat.not_lt_zero _))]; rfl⟩ ?_ ?_
    · rintro i σ H2 hi ⟨st, y5, rfl, d, hl, hv⟩
      rw [eG] at hi
      rw [Int.zero_add]
      refine ⟨_, rfl, _, rfl, _, rfl, by show 3 ≤ sizeLine; decide, fun u nu => ?_⟩
      have d2 := d.new (o := .tup [.int (i : Int), .int (i : Int), .int 0]) nu
      have hput : DPut (upd H2 u (.tup [.int (i : Int), .int (i : Int), .int 0])) ds (.ref u) (.int 0) (upd (upd H2 u (.tup [.int (i : Int), .int (i : Int), .int 0])) ds (.dT (putK st (kS i i 0) (.int 0)))) :=
        DPut.t (k := kS i i 0) d2.s upd_same (by rw [sizeLine_eq]; omega)
      refine ⟨ds, _, rfl, hput, putK st (kS i i 0) (.int 0), _, rfl, d2.putS ns ne, Nat.le_trans (length_putK _ _ _) (by omega), fun a b l => ?_⟩
      rw [valV_put, hv]
      by_cases e : a = i ∧ b = i ∧ l = 0
      · obtain ⟨rfl, rfl, rfl⟩ := e
        rw [if_pos rfl, if_pos ⟨rfl, rfl, by omega⟩]
      · rw [if_neg fun z => e (kS_eq.mp z)]
        by_cases e2 : a = b ∧ l = 0 ∧ a < i
        · rw [if_pos e2, if_pos ⟨e2.1, e2.2.1, by omega⟩]
        · rw [if_neg e2, if_neg fun z => e2 ⟨z.1, z.2.1, by omega⟩]
    · rintro σ H2 ⟨st, y5, rfl, d, hl, hv⟩
      have e1 : ((((fs G).length : Nat) : Int) + 1).toNat = G.length + 1 := by rw [eG]; omega
      rw [e1] at hl hv
      refine ⟨_, rfl, _, _, rfl, rfl, _, _, rfl, ⟨by omega, by omega, by rw [eG]; omega, by rw [eG]; omega⟩, ?_⟩
      refine for_range (lo := 1) (n := ((((fs G).length : Nat) : Int) + 1 - 1).toNat) (fun k σ H2 => ∃ bk st y5 y6 y7 y8 y9 y10 y11 y12, σ = Sl G t db ds y5 y6 y7 y8 y9 y10 y11 y12 ∧ DS H H2 db ds bk st ∧ LPb (prc ps) G bk (k + 1) 0 ∧ LPs (prc ps) G st (k + 1) 0 ∧ bk.length ≤ k * 13 ∧ st.length ≤ 13 + k * 169)
        ⟨[], st, y5, none, none, none, none, none, none, none, rfl, d, LPb.start, LPs.start hv, Nat.zero_le _, by omega⟩ ?_ ?_
      · rintro k σ H2 hk ⟨bk, st, y5, y6, y7, y8, y9, y10, y11, y12, rfl, d, hb, hs, lb, ls⟩
        rw [eG] at hk
        have es : (1 : Int) + (k : Int) = ((k + 1 : Nat) : Int) := by omega
        rw [es]
        refine ⟨_, rfl, _, rfl, _, _, rfl, rfl, _, _, rfl, rfl, _, rfl, by rw [eG]; omega, by rw [eG]; omega, ?_⟩
        refine for_range (lo := 0) (n := ((((fs G).length : Nat) : Int) - ((k + 1 : Nat) : Int) + 1).toNat) (fun f σ H3 => ∃ bk st y7 y8 y9 y10 y11 y12, σ = Sl G t db ds y5 (some (.int ((k + 1 : Nat) : Int))) y7 y8 y9 y10 y11 y12 ∧ DS H H3 db ds bk st ∧ LPb (prc ps) G bk (k + 1) f ∧ LPs (prc ps) G st (k + 1) f ∧ bk.length ≤ k * 13 + f ∧ st.length ≤ 13 + k * 169 + f * 13)
          ⟨bk, st, y7, y8, y9, y10, y11, y12, rfl, d, hb, hs, by omega, by omega⟩ ?_ ?_
        · rintro f σ H3 hf ⟨bk, st, y7, y8, y9, y10, y11, y12, rfl, d, hb, hs, lb, ls⟩
          rw [eG] at hf
          rw [Int.zero_add]
          have hfk : f + k < G.length := by omega
          have el : (f : Int) + ((k + 1 : Nat) : Int) - 1 = ((f + k : Nat) : Int) := by omega
          refine ⟨_, rfl, _, rfl, _, _, rfl, rfl, _, _, rfl, rfl, ?_⟩
          dsimp only
          rw [el]
          refine ⟨H, G, t, ps, db, ds, k, f, bk, st, y5, y9, y10, y11, y12, Z, rfl, hfk, d, hb, hs, by omega, fun H4 bk' z9 z10 z11 z12 d4 hb4 lb4 => ?_⟩
          refine ⟨H, G, t, ps, db, ds, k, f, bk', st, y5, z9, z10, z11, z12, Z, rfl, hfk, d4, hb4, hs, by omega, fun H5 st' w9 w10 w11 w12 d5 hs5 ls5 => ?_⟩
          exact ⟨bk', st', _, _, w9, w10, w11, w12, rfl, d5, hb4, hs5, by omega, by omega⟩
        · rintro σ H3 ⟨bk, st, y7, y8, y9, y10, y11, y12, rfl, d, hb, hs, lb, ls⟩
          have e2 : ((((fs G).length : Nat) : Int) - ((k + 1 : Nat) : Int) + 1).toNat = G.length - k := by rw [eG]; omega
          rw [e2] at hb hs lb ls
          exact ⟨bk, st, y5, _, y7, y8, y9, y10, y11, y12, rfl, d, hb.next, hs.next, by omega, by omega⟩
      · rintro σ H3 ⟨bk, st, y5, y6, y7, y8, y9, y10, y11, y12, rfl, d, hb, hs, lb, ls⟩
        have e2 : ((((fs G).length : Nat) : Int) + 1 - 1).toNat = G.length := by rw [eG]; omega
        rw [e2] at hb
        exact ⟨_, rfl, q H3 db bk d.sm d.b hb⟩
end
end Jc
namespace Jc
open PySem PySem.Spec PyProof.Rows L2 Jr
open JC (Lst BlkS Row omin)
/-! ### the goal's letters -/
theorem goal_stepP {p : Nat → Int} {F g : List Nat} {y e : Nat} (he : e ≤ F.length) {S : Nat → Option Int} {B : Nat → Int} {L : Int → Prop} (hS : ∀ s, s < e → Lst (Row p (F.take s) g) (S s))
    (hB : ∀ s, s < e → F[s]? = some y → F[e - 1]? = some y → Lst (BlkS p F s (e - 1) y) (some (B s))) (hL : ∀ d, L d ↔ ∃ s v, s < e ∧ F[s]? = some y ∧ F[e - 1]? = some y ∧ S s = some v ∧ d = v + B s) {o : Option Int} (ho : Lst L o) : Lst (Row p (F.take e) (g ++ [y])) o := by
  have snd : ∀ d, L d → Row p (F.take e) (g ++ [y]) d := fun d hd => by
    obtain ⟨s, v, h1, h2, h3, h4, ed⟩ := (hL d).mp hd
    have r1 := (hS s h1).1 v h4
    have r2 := (hB s h1 h2 h3).1 _ rfl
    have e1 : F.take e = F.take s ++ JC.seg F s (e - 1 + 1) := by
      rw [← JC.seg_zero, ← JC.seg_zero, show e - 1 + 1 = e by omega]
      exact JC.seg_add (by omega) (by omega)
    rw [e1, ed]
    exact r1.app r2
  have ful : ∀ c, Row p (F.take e) (g ++ [y]) c → ∃ d, L d ∧ d ≤ c := fun c r => by
    obtain ⟨f1, f2, c1, c2, e1, r1, r2, ec⟩ := r.split rfl
    rw [← JC.seg_zero] at e1
    obtain ⟨k1, e2, e3⟩ := JC.seg_split he e1 (by omega)
    have h2 := r2.len
    rw [List.length_singleton] at h2
    have hl2 := congrArg List.length e1
    rw [JC.seg_len he, List.length_append] at hl2
    rw [Nat.zero_add] at k1 e2 e3
    have hs : f1.length < e := by omega
    rw [JC.seg_zero] at e2
    rw [e2] at r1
    obtain ⟨v, ev, hv⟩ := (hS _ hs).2 c1 r1
    have e3' : f2 = JC.seg F f1.length (e - 1 + 1) := by rw [show e - 1 + 1 = e by omega]; exact e3
    rw [e3'] at r2
    obtain ⟨h4, h5⟩ := JC.blk_ends (by omega) (by omega) r2
    obtain ⟨b, eb, hb⟩ := (hB _ hs h4 h5).2 c2 r2
    cases eb
    exact ⟨_, (hL _).mpr ⟨_, v, hs, h4, h5, ev, rfl⟩, by omega⟩
  refine ⟨fun m e => snd m (ho.1 m e), fun c r => ?_⟩
  obtain ⟨d, hd, hc⟩ := ful c r
  obtain ⟨m, em, hm⟩ := ho.2 d hd
  exact ⟨m, em, by omega⟩
theorem valV_mem {kvs : List (Key × V)} {k : Key} {v : V} (hn : (kvs.map (·.1)).Nodup) (h : (k, v) ∈ kvs) : valV kvs k = some v := by
  induction kvs with
  | nil => cases h
  | cons p r ih =>
    have hn2 : (p.1 :: r.map (·.1)).Nodup := hn
    obtain ⟨h1, h2⟩ := List.nodup_cons.mp hn2
    rcases List.mem_cons.mp h with e | h
    · subst e
      exact valV_pos rfl
    · have ne : ¬ p.1 = k := fun z => h1 (by rw [z]; exact List.mem_map.mpr ⟨_, h, rfl⟩)
      rw [valV_neg ne]
      exact ih h2 h
theorem nodup_leA {α : Type} [DecidableEq α] : ∀ {L M : List α}, L.Nodup → (∀ w ∈ L, w ∈ M) → L.length ≤ M.length
  | [], _, _, _ => Nat.zero_le _
  | w :: L, M, hn, hs => by
    obtain ⟨h1, h2⟩ := List.nodup_cons.mp hn
    have hm := hs w List.mem_cons_self
    have hr := nodup_leA (M := M.erase w) h2 fun v hv => (List.mem_erase_of_ne (fun e => h1 (by rw [← e]; exact hv))).mpr (hs v (List.mem_cons_of_mem _ hv))
    rw [List.length_erase_of_mem hm] at hr
    have h0 : 0 < M.length := List.length_pos_of_mem hm
    rw [List.length_cons]
    omega
/-- a dict of numbers by places up to n -/
structure NumD (kvs : List (Key × V)) (n : Nat) : Prop where
  nd : (kvs.map (·.1)).Nodup
  typ : ∀ kv ∈ kvs, ∃ (e : Nat) (v : Int), e ≤ n ∧ kv = (kI e, V.int v)
theorem NumD.len {kvs : List (Key × V)} {n : Nat} (h : NumD kvs n) : kvs.length ≤ n + 1 := by
  have h1 := nodup_leA (M := (List.range (n + 1)).map kI) h.nd fun k hk => by
    obtain ⟨kv, hkv, rfl⟩ := List.mem_map.mp hk
    obtain ⟨e, v, he, rfl⟩ := h.typ kv hkv
    exact List.mem_map.mpr ⟨e, List.mem_range.mpr (by omega), rfl⟩
  rw [List.length_map, List.length_map, List.length_range] at h1
  exact h1
theorem NumD.put {kvs : List (Key × V)} {n e : Nat} {v : Int} (h : NumD kvs n) (he : e ≤ n) : NumD (putK kvs (kI e) (.int v)) n := by
  by_cases hn : valV kvs (kI e) = none
  · refine ⟨nd_putK _ h.nd hn, fun kv hkv => ?_⟩
    rw [putK_new _ hn] at hkv
    rcases List.mem_append.mp hkv with z | z
    · exact h.typ kv z
    · exact ⟨e, v, he, List.mem_singleton.mp z⟩
  · have ha : (kvs.any fun kv => decide (kv.1 = kI e)) = true := by
      rw [valV_any]
      cases q : valV kvs (kI e) with
      | none => exact absurd q hn
      | some _ => rfl
    have ep : putK kvs (kI e) (V.int v) = kvs.map (fun kv => if kv.1 = kI e then (kv.1, V.int v) else kv) := if_pos ha
    refine ⟨?_, fun kv hkv => ?_⟩
    · rw [ep, List.map_map]
      have e2 : ((fun x : Key × V => x.1) ∘ fun kv : Key × V => if kv.1 = kI e then (kv.1, V.int v) else kv) = fun kv : Key × V => kv.1 := by
        funext kv
        show (if kv.1 = kI e then (kv.1, V.int v) else kv).1 = kv.1
        split <;> rfl
      rw [e2]
      exact h.nd
    · rw [ep] at hkv
      obtain ⟨kw, hkw, rfl⟩ := List.mem_map.mp hkv
      split
      · rename_i z
        exact ⟨e, v, he, by rw [z]⟩
      · exact h.typ kw hkw
/-- what the first j entries bring to the place e (of the j-th: up to the places below q) -/
def Ct (kvs : List (Key × V)) (bk : Tb) (F : List Nat) (y j q e : Nat) (c : Int) : Prop := ∃ j' s v b, (j' < j ∨ j' = j ∧ e ≤ q) ∧ kvs[j']? = some (kI s, V.int v) ∧ s < e ∧ F[s]? = some y ∧ F[e - 1]? = some y ∧ valV bk (kB s (e - 1)) = some (V.int b) ∧ c = v + b
section
variable {kvs : List (Key × V)} {bk : Tb} {F : List Nat} {y j q s : Nat} {v : Int}
theorem Ct.other (hk : kvs[j]? = some (kI s, V.int v)) {e : Nat} (he : e ≠ q + 1) (c : Int) : Ct kvs bk F y j (q + 1) e c ↔ Ct kvs bk F y j q e c := by
  constructor
  · rintro ⟨j', s', v', b, h1, h2⟩
    exact ⟨j', s', v', b, by omega, h2⟩
  · rintro ⟨j', s', v', b, h1, h2⟩
    exact ⟨j', s', v', b, by omega, h2⟩
theorem Ct.not (hq : F[q]? ≠ some y) {e : Nat} (c : Int) : Ct kvs bk F y j (q + 1) e c ↔ Ct kvs bk F y j q e c := by
  constructor
  · rintro ⟨j', s', v', b, h1, h2, h3, h4, h5, h6⟩
    refine ⟨j', s', v', b, ?_, h2, h3, h4, h5, h6⟩
    by_cases e1 : e = q + 1
    · rw [e1, Nat.add_sub_cancel] at h5
      exact absurd h5 hq
    · omega
  · rintro ⟨j', s', v', b, h1, h2⟩
    exact ⟨j', s', v', b, by omega, h2⟩
theorem Ct.more (hk : kvs[j]? = some (kI s, V.int v)) (hsq : s ≤ q) (hs : F[s]? = some y) (hq : F[q]? = some y) {b : Int} (hb : valV bk (kB s q) = some (V.int b)) (c : Int) :
    Ct kvs bk F y j (q + 1) (q + 1) c ↔ Ct kvs bk F y j q (q + 1) c ∨ c = v + b := by
  constructor
  · rintro ⟨j', s', v', b', h1, h2, h3, h4, h5, h6, h7⟩
    by_cases e1 : j' = j
    · subst e1
      rw [hk] at h2
      injection h2 with h2
      injection h2 with h2 h8
      have es := kI_inj h2
      subst es
      injection h8 with h8
      rw [Nat.add_sub_cancel, hb] at h6
      injection h6 with h6
      injection h6 with h6
      exact .inr (by rw [h7, h8, h6])
    · exact .inl ⟨j', s', v', b', by omega, h2, h3, h4, h5, h6, h7⟩
  · rintro (⟨j', s', v', b', h1, h2⟩ | h)
    · exact ⟨j', s', v', b', by omega, h2⟩
    · exact ⟨j, s, v, b, .inr ⟨rfl, Nat.le_refl _⟩, hk, by omega, hs, by rw [Nat.add_sub_cancel]; exact hq, by rw [Nat.add_sub_cancel]; exact hb, h⟩
theorem Ct.start (hk : kvs[j]? = some (kI s, V.int v)) {e : Nat} (c : Int) : Ct kvs bk F y j s e c ↔ Ct kvs bk F y j 0 e c := by
  constructor
  · rintro ⟨j', s', v', b, h1, h2, h3, h4⟩
    refine ⟨j', s', v', b, ?_, h2, h3, h4⟩
    by_cases e1 : j' = j
    · rw [e1, hk] at h2
      injection h2 with h2
      injection h2 with h2 _
      have := kI_inj h2
      omega
    · omega
  · rintro ⟨j', s', v', b, h1, h2⟩
    exact ⟨j', s', v', b, by omega, h2⟩
theorem Ct.stop {e n : Nat} (he : e ≤ n) (c : Int) : Ct kvs bk F y j n e c ↔ Ct kvs bk F y (j + 1) 0 e c := by
  constructor
  · rintro ⟨j', s', v', b, h1, h2⟩
    exact ⟨j', s', v', b, by omega, h2⟩
  · rintro ⟨j', s', v', b, h1, h2, h3⟩
    exact ⟨j', s', v', b, by omega, h2, h3⟩
theorem Ct.no (hk : kvs[j]? = some (kI s, V.int v)) (hs : F[s]? ≠ some y) {e : Nat} (c : Int) : Ct kvs bk F y j 0 e c ↔ Ct kvs bk F y (j + 1) 0 e c := by
  constructor
  · rintro ⟨j', s', v', b, h1, h2⟩
    exact ⟨j', s', v', b, by omega, h2⟩
  · rintro ⟨j', s', v', b, h1, h2, h3, h4, h5⟩
    refine ⟨j', s', v', b, ?_, h2, h3, h4, h5⟩
    by_cases e1 : j' = j
    · rw [e1, hk] at h2
      injection h2 with h2
      injection h2 with h2 _
      rw [← kI_inj h2] at h4
      exact absurd h4 hs
    · omega
end
end Jc
namespace Jc
open PySem PySem.Spec PyProof.Rows L2 Jr
open JC (Lst BlkS Row omin)
theorem valV_get {kvs : List (Key × V)} {k : Key} {v : V} (h : valV kvs k = some v) : ∃ j : Nat, kvs[j]? = some (k, v) := by
  induction kvs with
  | nil => cases h
  | cons p r ih =>
    by_cases e : p.1 = k
    · rw [valV_pos e] at h
      injection h with h
      exact ⟨0, by rw [← e, ← h]; rfl⟩
    · rw [valV_neg e] at h
      obtain ⟨j, hj⟩ := ih h
      exact ⟨j + 1, hj⟩
theorem ct_end {ps : List Int} {F g : List Nat} {c e : Nat} {kvs : List (Key × V)} {bk : Tb} {o : Option Int} (he : e ≤ F.length) (hN : NumD kvs F.length) (hat : IsAt kvs (fun e => Row (prc ps) (F.take e) g) F.length) (hbk : LPb (prc ps) F bk (F.length + 1) 0)
    (ho : Lst (Ct kvs bk F c kvs.length 0 e) o) : Lst (Row (prc ps) (F.take e) (g ++ [c])) o := by
  have hb : ∀ s, s < e → F[s]? = some c → F[e - 1]? = some c → ∃ v : Int, valV bk (kB s (e - 1)) = some (.int v) ∧ Lst (BlkS (prc ps) F s (e - 1) c) (some v) := fun s h1 h2 h3 => hbk.at_ s (e - 1) c (by omega) (by omega) (.inl (by omega)) h2 h3
  refine goal_stepP (S := fun s => iOf (valV kvs (kI s))) (B := fun s => (iOf (valV bk (kB s (e - 1)))).getD 0) he (fun s hs => ?_) (fun s h1 h2 h3 => ?_) (fun d => ?_) ho
  · obtain ⟨o, h1, h2⟩ := hat s (by omega)
    rw [h1, iOf_map]
    exact h2
  · obtain ⟨v, e1, e2⟩ := hb s h1 h2 h3
    rw [e1]
    exact e2
  · constructor
    · rintro ⟨j, s, v, b, h1, h2, h3, h4, h5, h6, h7⟩
      refine ⟨s, v, h3, h4, h5, iOf_iff.mpr (valV_mem hN.nd (List.mem_of_getElem? h2)), ?_⟩
      rw [h6]
      exact h7
    · rintro ⟨s, v, h3, h4, h5, h6, h7⟩
      obtain ⟨j, hj⟩ := valV_get (iOf_iff.mp h6)
      obtain ⟨b, e1, _⟩ := hb s h3 h4 h5
      rw [e1] at h7
      exact ⟨j, s, v, b, .inl (List.getElem?_eq_some_iff.mp hj).1, hj, h3, h4, h5, e1, h7⟩
def spCheap : Sp := fun vs H Q _ => ∃ F G, ∃ t, ∃ ps : List Int, vs = [.str (fs F), .str (fs G), .ref t] ∧ GoodF F ∧ GoodF G ∧ F.length ≤ 12 ∧ H t = some (.tup (ps.map V.int)) ∧ ps.length + 1 = F.length ∧ (∀ p ∈ ps, 0 ≤ p ∧ p ≤ 1000) ∧
  ∀ H' o, Same H H' → Lst (Row (prc ps) F G) o → Q (ofO o) H'
section
variable {P : Program} {w : World} {K : PySem.W.Frag} {mg : Str → Option Value} {base : Heap}
abbrev nCh : List Str := ["film", "goal", "prices", "block", "now", "letter", "later", "start", "spent", "place", "more"]
theorem sc_ch : FnScope nCh ["film", "goal", "prices"] (defScope sCheapest) := ⟨rfl, rfl, rfl, by decide +kernel, rfl, by decide +kernel, by decide +kernel⟩
theorem ok_cheapest {f f1 f2 f3 f4 fi ff : Addr} {fd fd1 fd2 fd3 fd4 fdi fdf : FuncData} (F : FnP K "cheapest" sCheapest f fd) (T : Bts mg) {t1 t2 t3 : Tok} (gM : mg "MOST_FILM" = some (.int 200 t1)) (gL : mg "LETTERS" = some (.str "abcdefgh" t2)) (gP : mg "MOST_PRICED" = some (.int 12 t3))
    (Fi : FnP K "is_int" sIsInt fi fdi) (gi : mg "is_int" = some (.ref fi)) (Ff : FnP K "is_from" sIsFrom ff fdf) (gf : mg "is_from" = some (.ref ff))
    (F1 : FnP K "need_film" sNeedFilm f1 fd1) (g1 : mg "need_film" = some (.ref f1)) (F2 : FnP K "need_prices" sNeedPrices f2 fd2) (g2 : mg "need_prices" = some (.ref f2)) (F3 : FnP K "need_short" sNeedShort f3 fd3) (g3 : mg "need_short" = some (.ref f3))
    (F4 : FnP K "least_prices" sLeast f4 fd4) (g4 : mg "least_prices" = some (.ref f4)) : FnOk P w K mg base CX0 4 f fd ["film", "goal", "prices"] spCheap := by
  have G1 : FnOk P w K mg base CX0 1 f1 fd1 ["value"] spNeedFilm := ok_needFilm F1 T gM gL
  have b1 : Binds K fd1 ["value"] [] := F1.bindsN fun _ _ _ _ _ _ us hl => match us, hl with | [_], _ => rfl
  have G2 : FnOk P w K mg base CX0 3 f2 fd2 ["film", "value"] spNeedPrices := ok_needPrices F2 T Fi gi Ff gf
  have b2 : Binds K fd2 ["film", "value"] [] := F2.bindsN fun _ _ _ _ _ _ us hl => match us, hl with | [_, _], _ => rfl
  have G3 : FnOk P w K mg base CX0 1 f3 fd3 ["film", "most"] spNeedShort := ok_needShort F3 T
  have b3 : Binds K fd3 ["film", "most"] [] := F3.bindsN fun _ _ _ _ _ _ us hl => match us, hl with | [_, _], _ => rfl
  have G4 : FnOk P w K mg base CX0 1 f4 fd4 ["film", "prices"] spLeast := ok_least F4 T
  have b4 : Binds K fd4 ["film", "prices"] [] := F4.bindsN fun _ _ _ _ _ _ us hl => match us, hl with | [_, _], _ => rfl
  refine F.ok sc_ch (fun vs H Q E h => ?_) (fun cdv A outer s H vs Q E hr h => ⟨_, PSs.nox (pss_cons (ps_expr (pe_call G1 (hr.mono (by decide)) (by rfl) g1 F1.kp b1 .nil pass0 (pa_cons (pv 0) pa_nil))) (pss_cons (ps_expr (pe_call G1 (hr.mono (by decide)) (by rfl) g1 F1.kp b1 .nil pass0 (pa_cons (pv 1) pa_nil))) (pss_cons (ps_expr (pe_call G2 (hr.mono (by decide)) (by rfl) g2 F2.kp b2 .nil pass0 (pa_cons (pv 0) (pa_cons (pv 2) pa_nil)))) (pss_cons (ps_expr (pe_call G3 (hr.mono (by decide)) (by rfl) g3 F3.kp b3 .nil pass0 (pa_cons (pv 0) (pa_cons (pe_glob (v := .int 12) (by rfl) gP ⟨_, rfl⟩) pa_nil)))) (pss_cons (ps_set (i := 3) sc_ch.nd rfl (.inl rfl) (pe_call G4 (hr.mono (by decide)) (by rfl) g4 F4.kp b4 .nil pass0 (pa_cons (pv 0) (pa_cons (pv 2) pa_nil)))) (pss_cons (ps_set (i := 4) sc_ch.nd rfl (.inl rfl) (pe_disp (pps_cons pe_int pe_int pps_nil) (by rfl) (by rfl) (fun z => by cases z) (by decide))) (pss_cons (ps_for PassesOwn.never rfl (pi_str (pv 1)) (pg_name (i := 5) sc_ch.nd rfl (.inl rfl)) (pss_cons (ps_set (i := 6) sc_ch.nd rfl (.inl rfl) pe_dnewK) (pss_cons (ps_lock (ps_for PassesOwn.never rfl (pi_items (pv 4)) (pg_tup (by rfl) (pgs_cons (pg_name (i := 7) sc_ch.nd rfl (.inl rfl)) (pgs_cons (pg_name (i := 8) sc_ch.nd rfl (.inl rfl)) pgs_nil))) (pss_one (ps_if (PW.pt (pw_and (pt_cmpR op_lt (pv 7) (pe_callB call_len_str (by rfl) T.len boot_len (pa_cons (pv 0) pa_nil)) (nomark _)) (pw_and1 (pt_cmpR op_eq (pe_ix ix_str (pv 0) (pv 7) (fun _ _ => rfl)) (pv 5) (nomark _))))) (pss_one (ps_for PassesOwn.never rfl (pi_range2 (by rfl) T.rng (pa_cons (pv 7) (pa_cons (pe_callB call_len_str (by rfl) T.len boot_len (pa_cons (pv 0) pa_nil)) pa_nil))) (pg_name (i := 9) sc_ch.nd rfl (.inl rfl)) (pss_one (ps_if (pt_cmpR op_eq (pe_ix ix_str (pv 0) (pv 9) (fun _ _ => rfl)) (pv 5) (nomark _)) (pss_cons (ps_set (i := 10) sc_ch.nd rfl (.inl rfl) (pe_op op_add (pv 8) (pe_dget (hu_of hr) (pv 3) (pe_tup (pa_cons (pv 7) (pa_cons (pv 9) pa_nil))) (fun _ _ => rfl)))) (pss_one (ps_dput (hu_of hr) (pv 6) (pe_op op_add (pv 9) pe_int) (pe_callB (call_min2 rfl) (by rfl) T.min boot_min (pa_cons (pe_dget2 (hu_of hr) (pv 6) (pe_op op_add (pv 9) pe_int) (pv 10) ⟨rfl, rfl, rfl, rfl⟩) (pa_cons (pv 10) pa_nil))) rfl))) pss_nil)))) pss_nil)))) (pss_one (ps_set (i := 4) sc_ch.nd rfl (.inl rfl) (pv 6)))))) (pss_one (ps_ret (pe_dget1 (hu_of hr) (pv 4) (pe_callB call_len_str (by rfl) T.len boot_len (pa_cons (pv 0) pa_nil)) ⟨rfl, rfl, rfl, rfl⟩)))))))))), ?_⟩)
  · obtain ⟨G, g, t, ps, rfl, _⟩ := h
    rfl
  · obtain ⟨G, g, t, ps, rfl, h1, h2, l12, ht, lp, hp, q⟩ := h
    have lG : (fs G).length ≤ sizeLine := by rw [fs_len]; exact line200 (by omega)
    have eG : (((fs G).length : Nat) : Int) = (G.length : Int) := by rw [fs_len]
    have l1 := h1.1
    refine ⟨_, rfl, G, rfl, h1, fun H1 s1 => ⟨_, rfl, g, rfl, h2, fun H2 s2 => ?_⟩⟩
    have s12 := s1.trans s2
    refine ⟨_, rfl, _, rfl, G, t, ps, rfl, s12 _ _ ht, l1, by omega, lp, hp, fun H3 s3 => ?_⟩
    have s13 := s12.trans s3
    refine ⟨_, rfl, G, 12, rfl, by omega, by omega, ?_⟩
    refine ⟨_, rfl, _, rfl, G, t, ps, rfl, s13 _ _ ht, l1, l12, lp, fun H4 db bk s4 hdb hbk => ?_⟩
    have s14 := s13.trans s4
    refine fun d nd => ⟨upd_same, [(kI 0, .int 0)], rfl, by show 1 ≤ 15; decide, ?_⟩
    have nd4 : H d = none := s14.free nd
    have s0 : Same H (upd (upd H4 d (.dK [])) d (.dK (mergeK [] [(kI 0, V.int 0)]))) := same_of_upd (same_of_upd s14 nd4) nd4
    have nbd : db ≠ d := ne_of_none hdb nd
    refine ⟨_, rfl, fs g, rfl, for_it walk_str (fun i σ H2 => ∃ d kvs y5 y6 y7 y8 y9 y10, σ = [some (.str (fs G)), some (.str (fs g)), some (.ref t), some (.ref db), some (.ref d), y5, y6, y7, y8, y9, y10] ∧ Same H H2 ∧ H d = none ∧ H2 db = some (.dT bk) ∧ H2 d = some (.dK kvs) ∧ NumD kvs G.length ∧ IsAt kvs (fun e => Row (prc ps) (G.take e) (g.take i)) G.length)
      ⟨d, _, none, none, none, none, none, none, rfl, s0, nd4, (upd_ne nbd).trans ((upd_ne nbd).trans hdb), upd_same, ⟨by decide, fun kv hkv => ⟨0, 0, Nat.zero_le _, List.mem_singleton.mp hkv⟩⟩, fun e he => ⟨_, ?_, JC.goal_nil he⟩⟩ (fun _ _ _ _ _ => trivial) ?_ ?_⟩
    · show valV [(kI 0, V.int 0)] (kI e) = _
      by_cases h0 : e = 0
      · rw [if_pos h0, h0]
        rfl
      · rw [if_neg h0]
        exact valV_neg (p := (kI 0, V.int 0)) fun z => h0 (kI_inj z).symm
    · rintro i x σ H2 H3 hi ⟨d, kvs, y5, y6, y7, y8, y9, y10, rfl, sm, nd, hdb, hd, hN, hat⟩ ⟨rfl, c, hc, rfl⟩
      rw [fs_size] at hi
      rw [fs_get] at hc
      have etake : g.take (i + 1) = g.take i ++ [c] := by rw [List.take_add_one, hc]; rfl
      refine fun dl ndl => ?_
      have ndlH : H dl = none := sm.free ndl
      have nddl : d ≠ dl := ne_of_none hd ndl
      have nbdl : db ≠ dl := ne_of_none hdb ndl
      have nbd : db ≠ d := ne_of hdb hd (by intro z; cases z)
      refine ⟨d, .dK kvs, (upd_ne nddl).trans hd, trivial, fun od => ?_⟩
      refine ⟨_, rfl, d, od, kvs, rfl, upd_same, for_it walk_items (fun j σ H4 => ∃ lk y7 y8 y9 y10, σ = [some (.str (fs G)), some (.str (fs g)), some (.ref t), some (.ref db), some (.ref d), some (.str ⟨#[c]⟩), some (.ref dl), y7, y8, y9, y10] ∧ Same H H4 ∧ H4 db = some (.dT bk) ∧ H4 d = some (.frz od (.dK kvs)) ∧ H4 dl = some (.dK lk) ∧ NumD lk G.length ∧
          ∀ e, e ≤ G.length → ∃ o : Option Int, valV lk (kI e) = o.map V.int ∧ Lst (Ct kvs bk G c j 0 e) o)
        ⟨[], y7, y8, y9, y10, rfl, same_of_upd (same_of_upd sm ndlH) nd, (upd_ne nbd).trans ((upd_ne nbdl).trans hdb), upd_same, (upd_ne nddl.symm).trans upd_same, ⟨by simp, fun kv h => (nomatch h)⟩, fun e he => ⟨none, rfl, .none fun z => ?_⟩⟩ (fun j σ H4 _ ⟨_, _, _, _, _, _, _, _, h, _⟩ => h) ?_ ?_⟩
      · rintro ⟨j', s, v, b, h1, h2, h3, _⟩
        omega
      · rintro j x σ H4 H5 hj ⟨lk, y7, y8, y9, y10, rfl, sm4, hdb4, hd4, hdl4, hNl, hlk⟩ ⟨T1, xk, xv, rfl, nT, rfl, hx, hy⟩
        have hkv : kvs[j]? = some kvs[j] := List.getElem?_eq_getElem hj
        obtain ⟨s, v, hs, ekv⟩ := hN.typ kvs[j] (List.getElem_mem hj)
        rw [ekv] at hkv
        have exk : xk = .int (s : Int) := by
          have hx2 : (kvs[j]?.map fun kv => kV kv.1) = some xk := hx
          rw [hkv] at hx2
          exact (Option.some.inj hx2).symm
        have exv : xv = .int v := by
          have hy2 : kvs[j]?.map Prod.snd = some xv := hy
          rw [hkv] at hy2
          exact (Option.some.inj hy2).symm
        subst exk exv
        have sT : Same H4 (upd H4 T1 (.tup [.int (s : Int), .int v])) := same_new (Same.refl H4) nT
        have sm5 := sm4.trans sT
        have hdb5 := sT _ _ hdb4
        have hd5 := sT _ _ hd4
        have hdl5 := sT _ _ hdl4
        refine ⟨T1, _, rfl, SqT.of upd_same, rfl, _, _, rfl, _, _, rfl, rfl, ?_⟩
        refine ⟨_, rfl, _, rfl, fs G, rfl, lG, _, _, rfl, rfl, _, rfl, ite2 (fun hlt => ?_) (fun hlt => ?_)⟩
        · have hsn : s < G.length := by
            have z := of_decide_eq_true hlt
            rw [eG] at z
            omega
          have gs : G[s]? = some G[s] := List.getElem?_eq_getElem hsn
          refine ⟨_, rfl, _, rfl, fs G, _, _, rfl, rfl, lG, atI_nat (by rw [fs_list]; exact gs), _, rfl, rfl, _, rfl, ite2 (fun hcc => ?_) (fun hcc => ?_)⟩
          · have es : G[s] = c := (sign_eq _ _).mp (of_decide_eq_true hcc)
            rw [es] at gs
            refine ⟨_, rfl, _, rfl, fs G, rfl, lG, _, _, rfl, ⟨by omega, by omega, by rw [eG]; omega, by rw [eG]; omega⟩, ?_⟩
            refine for_range (lo := (s : Int)) (n := ((((fs G).length : Nat) : Int) - (s : Int)).toNat) (fun r σ H6 => ∃ lk y9 y10, σ = [some (.str (fs G)), some (.str (fs g)), some (.ref t), some (.ref db), some (.ref d), some (.str ⟨#[c]⟩), some (.ref dl), some (.int (s : Int)), some (.int v), y9, y10] ∧ Same H H6 ∧ H6 db = some (.dT bk) ∧ H6 d = some (.frz od (.dK kvs)) ∧ H6 dl = some (.dK lk) ∧ NumD lk G.length ∧
                ∀ e, e ≤ G.length → ∃ o : Option Int, valV lk (kI e) = o.map V.int ∧ Lst (Ct kvs bk G c j (s + r) e) o)
              ⟨lk, y9, y10, rfl, sm5, hdb5, hd5, hdl5, hNl, fun e he => ?_⟩ ?_ ?_
            · obtain ⟨o, k1, k2⟩ := hlk e he
              exact ⟨o, k1, k2.congr fun z => (Ct.start hkv z).symm⟩
            · rintro r σ H6 hr' ⟨lk, y9, y10, rfl, sm6, hdb6, hd6, hdl6, hNl, hlk⟩
              rw [eG] at hr'
              have eq : (s : Int) + (r : Int) = ((s + r : Nat) : Int) := by omega
              rw [eq]
              have gq : G[s + r]? = some G[s + r] := List.getElem?_eq_getElem (by omega)
              refine ⟨_, rfl, _, rfl, fs G, _, _, rfl, rfl, lG, atI_nat (by rw [fs_list]; exact gq), _, rfl, rfl, _, rfl, ite2 (fun hcq => ?_) (fun hcq => ?_)⟩
              · have eqc : G[s + r] = c := (sign_eq _ _).mp (of_decide_eq_true hcq)
                rw [eqc] at gq
                obtain ⟨b, hbv, _⟩ := hbk.at_ s (s + r) c (by omega) (by omega) (.inl (by omega)) gs gq
                refine ⟨_, rfl, _, rfl, _, rfl, _, rfl, by show 2 ≤ sizeLine; decide, fun u nu => ?_⟩
                have s7 : Same H6 (upd H6 u (.tup [.int (s : Int), .int ((s + r : Nat) : Int)])) := same_new (Same.refl H6) nu
                have hget : DGet (upd H6 u (.tup [.int (s : Int), .int ((s + r : Nat) : Int)])) db (.ref u) (some (.int b)) := by
                  rw [← hbv]
                  exact DGet.t (k := kB s (s + r)) (s7 _ _ hdb6) upd_same
                have sm7 := sm6.trans s7
                have hdb7 := s7 _ _ hdb6
                have hd7 := s7 _ _ hd6
                have hdl7 := s7 _ _ hdl6
                refine ⟨db, _, rfl, hget, _, _, rfl, rfl, ?_⟩
                obtain ⟨oo, ho, lo⟩ := hlk (s + r + 1) (by omega)
                have ek : ((s + r : Nat) : Int) + 1 = ((s + r + 1 : Nat) : Int) := by omega
                have hget2 : DGet (upd H6 u (.tup [.int (s : Int), .int ((s + r : Nat) : Int)])) dl (V.int (((s + r : Nat) : Int) + 1)) (oo.map V.int) := by
                  rw [ek, ← ho]
                  exact DGet.k (k := kI (s + r + 1)) hdl7
                have hmin : (oo.map V.int).getD (V.int (v + b)) = V.int (oo.getD (v + b)) := by cases oo <;> rfl
                refine ⟨_, rfl, dl, rfl, .inl ⟨_, .inl hdl7⟩, _, rfl, _, _, rfl, rfl, _, rfl, _, hget2, _, rfl, oo.getD (v + b), v + b, by rw [hmin], ?_⟩
                have ho2 : (if v + b < oo.getD (v + b) then v + b else oo.getD (v + b)) = omin oo (v + b) := by
                  cases oo with
                  | none =>
                    show (if v + b < v + b then v + b else v + b) = v + b
                    split <;> rfl
                  | some z => rfl
                rw [ho2]
                have hput : DPut (upd H6 u (.tup [.int (s : Int), .int ((s + r : Nat) : Int)])) dl (V.int (((s + r : Nat) : Int) + 1)) (.int (omin oo (v + b))) (upd (upd H6 u (.tup [.int (s : Int), .int ((s + r : Nat) : Int)])) dl (.dK (putK lk (kI (s + r + 1)) (.int (omin oo (v + b)))))) := by
                  rw [ek]
                  have := hNl.len
                  exact DPut.k (k := kI (s + r + 1)) hdl7 (by rw [sizeLine_eq]; omega)
                refine ⟨_, rfl, _, rfl, _, _, rfl, rfl, dl, _, rfl, hput, ?_⟩
                refine ⟨_, _, _, rfl, same_of_upd sm7 ndlH, (upd_ne nbdl).trans hdb7, (upd_ne nddl).trans hd7, upd_same, hNl.put (by omega), fun e he => ?_⟩
                rw [valV_put]
                by_cases e1 : e = s + r + 1
                · rw [e1, if_pos rfl]
                  exact ⟨some (omin oo (v + b)), rfl, lo.add.congr fun z => (Ct.more hkv (by omega) gs gq hbv z).symm⟩
                · rw [if_neg fun z => e1 (kI_inj z)]
                  obtain ⟨o, k1, k2⟩ := hlk e he
                  exact ⟨o, k1, k2.congr fun z => (Ct.other hkv e1 z).symm⟩
              · have hnq : G[s + r]? ≠ some c := fun z => hcq (decide_eq_true ((sign_eq _ _).mpr (Option.some.inj (gq.symm.trans z))))
                refine ⟨lk, _, _, rfl, sm6, hdb6, hd6, hdl6, hNl, fun e he => ?_⟩
                obtain ⟨o, k1, k2⟩ := hlk e he
                exact ⟨o, k1, k2.congr fun z => (Ct.not hnq z).symm⟩
            · rintro σ H6 ⟨lk, y9, y10, rfl, sm6, hdb6, hd6, hdl6, hNl, hlk⟩
              have en : s + ((((fs G).length : Nat) : Int) - (s : Int)).toNat = G.length := by rw [eG]; omega
              rw [en] at hlk
              refine ⟨lk, _, _, _, _, rfl, sm6, hdb6, hd6, hdl6, hNl, fun e he => ?_⟩
              obtain ⟨o, k1, k2⟩ := hlk e he
              exact ⟨o, k1, k2.congr fun z => Ct.stop he z⟩
          · have hns : G[s]? ≠ some c := fun z => hcc (decide_eq_true ((sign_eq _ _).mpr (Option.some.inj (gs.symm.trans z))))
            refine ⟨lk, _, _, _, _, rfl, sm5, hdb5, hd5, hdl5, hNl, fun e he => ?_⟩
            obtain ⟨o, k1, k2⟩ := hlk e he
            exact ⟨o, k1, k2.congr fun z => Ct.no hkv hns z⟩
        · have hns : G[s]? ≠ some c := fun z => by
            have hsn := (List.getElem?_eq_some_iff.mp z).1
            exact hlt (decide_eq_true (by rw [eG]; omega))
          refine iteF ⟨lk, _, _, _, _, rfl, sm5, hdb5, hd5, hdl5, hNl, fun e he => ?_⟩
          obtain ⟨o, k1, k2⟩ := hlk e he
          exact ⟨o, k1, k2.congr fun z => Ct.no hkv hns z⟩
      · rintro σ H4 ⟨lk, y7, y8, y9, y10, rfl, sm4, hdb4, hd4, hdl4, hNl, hlk⟩
        refine ⟨hd4, _, rfl, dl, lk, _, _, _, _, _, _, rfl, same_of_upd sm4 nd, ndlH, (upd_ne nbd).trans hdb4, (upd_ne nddl.symm).trans hdl4, hNl, fun e he => ?_⟩
        obtain ⟨o, k1, k2⟩ := hlk e he
        rw [etake]
        exact ⟨o, k1, ct_end he hN hat hbk k2⟩
    · rintro σ H2 ⟨d, kvs, y5, y6, y7, y8, y9, y10, rfl, sm, nd, hdb, hd, hN, hat⟩
      rw [fs_size, List.take_of_length_le (Nat.le_refl _)] at hat
      obtain ⟨o, k1, k2⟩ := hat G.length (Nat.le_refl _)
      have k2 : Lst (Row (prc ps) (G.take G.length) g) o := k2
      rw [List.take_of_length_le (Nat.le_refl _)] at k2
      have hget : DGet H2 d (V.int (((fs G).length : Nat) : Int)) (valV kvs (kI G.length)) := by
        rw [fs_len]
        exact DGet.k (k := kI G.length) hd
      refine ⟨_, rfl, d, rfl, .inl ⟨kvs, .inl hd⟩, _, rfl, fs G, rfl, lG, _, hget, ?_⟩
      rw [k1, ofO_getD]
      exact q H2 o sm k2
end
end Jc
namespace Jc
open PySem PySem.Spec PyProof.Rows L2 Jr
open JC (Lst Row MP Rch IsCut cutAt BestS BestK omin)
/-! ### the key -/
def keyE : Expr := match (defBody sLaw).getD 5 (.Pass ⟨0, 0, 0, 0⟩) with
  | .For _ (.Call _ _ [⟨_, e, _⟩] _) _ _ _ => e
  | _ => .Constant .none 0 ⟨0, 0, 0, 0⟩
def keyP : Arguments := match keyE with
  | .Lambda p _ _ _ => p
  | _ => defArgs sLaw
def keyB : Expr := match keyE with
  | .Lambda _ b _ _ => b
  | _ => keyE
def keyS : Scope := match keyE with
  | .Lambda _ _ s _ => s
  | _ => defScope sLaw
theorem sc_key : FnScope ["_law_told"] ["_law_told"] keyS := ⟨rfl, rfl, rfl, by decide +kernel, rfl, by decide +kernel, by decide +kernel⟩
abbrev keyF (z : Str) : Int := 0 - (z.length : Int)
abbrev okF (z : Str) : Prop := z.length ≤ sizeLine
theorem cr_key {X : Cx} {qual : Str} (T : Bts X.mg) (hr : Room 3 X.A) : CallRK X (.builtin "sorted") [Str.ofString "key"] (rSortLam X.K qual keyP keyB keyS okF keyF) := by
  refine cr_sortedLam (k := 0) (N := ["_law_told"]) (x := "_law_told") hr sc_key (fun f c' pm ctv u => rfl) (fun A outer s H f c' z Q hr' hz q => ⟨_, pe_op op_sub pe_int (pe_callB call_len_str (by rfl) T.len boot_len (pa_cons (pv 0) pa_nil)), ?_⟩)
  exact ⟨_, rfl, z, rfl, hz, _, _, rfl, rfl, q⟩
abbrev lamQ : Str := (("law" : Str) ++ (".<locals>." : Str)) ++ ("<lambda>" : Str)
/-! ### so many sevens -/
def tSevens : TE := fun σ H Q => ∃ F, σ[2]? = some (some (.str (fs F))) ∧ 1 ≤ F.length ∧ F.length ≤ 8 ∧ ∀ H' t, Same H H' → H' t = some (.tup ((List.replicate (F.length - 1) (7 : Int)).map V.int)) → Q (.ref t) H'
theorem pe_sevens {X : Cx} {e : Expr} (h : PE X e (tOp (fun x y H Q => rRepT X.K x y H Q ∨ rRep01 X.K x y H Q) (tTup (tCons (tC (.int 7)) tNil)) (tOp (rI0 fun i j => .int (i - j)) (tCB (fun xs H Q => ∃ z, xs = [.str z] ∧ z.length ≤ sizeLine ∧ Q (.int (z.length : Nat)) H) (tCons (tVar 2) tNil)) (tC (.int 1))))) : PE X e tSevens := by
  refine ⟨fun pins s σ H Q I hw => h.run pins s σ H Q I ?_⟩
  obtain ⟨F, h2, l1, l8, q⟩ := hw
  refine ⟨by show 1 ≤ sizeLine; decide, fun p np => ⟨_, h2, fs F, rfl, by rw [fs_len]; exact line200 (by omega), _, _, rfl, rfl, ?_⟩⟩
  rw [fs_len]
  have s1 : Same H (upd H p (.tup [V.int 7])) := same_new (Same.refl H) np
  by_cases h3 : 3 ≤ F.length
  · refine .inl ⟨p, _, _, rfl, rfl, SqT.of upd_same, by simp, by omega, by omega, by show 1 ≤ 1000; decide, fun t nt => q _ t (same_new s1 nt) ?_⟩
    have e : ((F.length : Int) - 1).toNat = F.length - 1 := by omega
    rw [upd_same, e, List.map_replicate]
    congr 2
    induction (F.length - 1) with
    | zero => rfl
    | succ m ih => rw [List.replicate_succ, List.replicate_succ, List.flatten_cons, ih]; rfl
  · refine .inr ⟨p, _, _, rfl, rfl, SqT.of upd_same, by simp, ?_⟩
    by_cases h2 : F.length = 2
    · refine .inl ⟨by omega, q _ p s1 ?_⟩
      rw [upd_same, h2]
      rfl
    · refine .inr ⟨by omega, fun t nt => q _ t (same_new s1 nt) ?_⟩
      have e : F.length - 1 = 0 := by omega
      rw [upd_same, e]
      rfl
theorem But.upd' {r : Addr} {H H' : Hp} {p : Addr} {o : HO} (a : But r H H') (n : H p = none) : But r H (L2.upd H' p o) := fun b u nb e => by
  rw [upd_ne (ne_of_none e n)]
  exact a b u nb e
theorem pair_get {H : Hp} : ∀ {xs : List V} {ks : List (Nat × Nat)} {j : Nat} {v : V}, PairsAt H xs ks → xs[j]? = some v → ∃ k, ks[j]? = some k ∧ ∃ t, v = V.ref t ∧ H t = some (.tup [.int (k.1 : Nat), .int (k.2 : Nat)])
  | _, _, _, _, .nil, h => by cases h
  | _, _, 0, _, .cons (b := k) hk _, h => ⟨k, rfl, by
    have e := Option.some.inj h
    rw [← e]
    exact hk⟩
  | _, _, j + 1, _, .cons _ t, h => pair_get (j := j) t h
theorem map_inj : ∀ {o o' : Option Int}, o.map V.int = o'.map V.int → o = o'
  | none, none, _ => rfl
  | none, some _, h => by cases h
  | some _, none, h => by cases h
  | some x, some y, h => by
    injection h with h
    injection h with h
    rw [h]
/-- the least prices at a turn of the outer loop -/
def Told (kvs : List (Key × V)) (S : List Nat → Int → Prop) : Prop := ∀ u, ∃ o : Option Int, valV kvs (kF u) = o.map V.int ∧ Lst (S u) o
theorem Told.congr {kvs : List (Key × V)} {S S' : List Nat → Int → Prop} (h : Told kvs S) (e : ∀ u c, S u c ↔ S' u c) : Told kvs S' := fun u => by
  obtain ⟨o, h1, h2⟩ := h u
  exact ⟨o, h1, h2.congr (e u)⟩
theorem told_first (ps : List Int) (F : List Nat) : Told [(kF F, .int 0)] (fun u => BestS (prc ps) F [] u) := fun u => by
  by_cases e : u = F
  · refine ⟨some 0, ?_, ⟨fun m z => by cases z; exact .inl ⟨e, rfl⟩, fun c h => ⟨0, rfl, ?_⟩⟩⟩
    · rw [e]
      exact valV_pos (p := (kF F, V.int 0)) rfl
    · rcases h with ⟨_, ec⟩ | ⟨v, hv, _⟩
      · rw [ec]
        exact Int.le_refl _
      · cases hv
  · refine ⟨none, valV_neg (p := (kF F, V.int 0)) (fun z => e (kF_inj z).symm), .none fun c h => ?_⟩
    rcases h with ⟨z, _⟩ | ⟨v, hv, _⟩
    · exact e z
    · cases hv
theorem len_sort {us : List (List Nat)} (h : (us.map fs).Pairwise fun x y => keyF x ≤ keyF y) : us.Pairwise fun a b => b.length ≤ a.length := by
  rw [List.pairwise_map] at h
  refine h.imp fun {x y} k => ?_
  have k2 : (0 : Int) - ((fs x).length : Int) ≤ 0 - ((fs y).length : Int) := k
  rw [fs_len, fs_len] at k2
  omega
theorem us_cut {us : List (List Nat)} {i : Nat} {now : List Nat} (h : us[i]? = some now) : us = us.take i ++ now :: us.drop (i + 1) := by
  have hi := (List.getElem?_eq_some_iff.mp h).1
  have e : us.drop i = now :: us.drop (i + 1) := by
    rw [List.drop_eq_getElem_cons hi]
    congr 1
    exact Option.some.inj ((List.getElem?_eq_getElem hi).symm.trans h)
  rw [← e, List.take_append_drop]
theorem seven_prc {n : Nat} (k : Nat) (h : k + 2 ≤ n) : (7 : Int) = prc (List.replicate (n - 1) 7) k := by
  show (7 : Int) = (List.replicate (n - 1) 7).getD k 0
  rw [List.getD_eq_getElem?_getD, List.getElem?_replicate, if_pos (by omega)]
  rfl
theorem each_prc {n : Nat} (k : Nat) (h : k + 2 ≤ n) : ((k : Int) + 1) = prc ((List.range (n - 1)).map fun i : Nat => (i : Int) + 1) k := by
  show ((k : Int) + 1) = ((List.range (n - 1)).map fun i : Nat => (i : Int) + 1).getD k 0
  rw [List.getD_eq_getElem?_getD, List.getElem?_map, List.getElem?_range (by omega)]
  rfl
def spLaw (K : PySem.W.Frag) (PT : Addr) : Sp := fun vs H Q _ => ∃ a, ∃ ns : List Int, vs = [.ref a] ∧ SqL K H a (ns.map V.int) ∧ H PT = some (.tbl #[]) ∧ ∀ H', Q (.bl true) H'
section
variable {P : Program} {w : World} {K : PySem.W.Frag} {mg : Str → Option Value} {base : Heap}
abbrev nLaw : List Str := ["_law_script", "_law_row", "_law_film_here", "_law_goal_here", "_law_prices", "_law_best", "_law_now", "_law_first", "_law_second", "_law_told", "_law_more", "_law_few", "_law_each", "_law_one"]
theorem sc_law : FnScope nLaw ["_law_script"] (defScope sLaw) := ⟨rfl, rfl, rfl, by decide +kernel, rfl, by decide +kernel, by decide +kernel⟩
theorem ok_law {f PT : Addr} {fd : FuncData} (F : FnP K "law" sLaw f fd) (ef : f = He.fAd K ("law", none)) (TB : LamX.TabB base mg (He.codeOf K ("law", none)) PT) (T : Bts mg) {t1 t2 t3 : Tok} (gM : mg "MOST_FILM" = some (.int 200 t1)) (gL : mg "LETTERS" = some (.str "abcdefgh" t2)) (gP : mg "MOST_PRICED" = some (.int 12 t3))
    {ai : Addr} {di : FuncData} (Fi : FnP K "is_int" sIsInt ai di) (gi : mg "is_int" = some (.ref ai)) {af : Addr} {df : FuncData} (Ff : FnP K "is_from" sIsFrom af df) (gf : mg "is_from" = some (.ref af)) {anf : Addr} {dnf : FuncData} (Fnf : FnP K "need_film" sNeedFilm anf dnf) (gnf : mg "need_film" = some (.ref anf)) {ans : Addr} {dns : FuncData} (Fns : FnP K "need_short" sNeedShort ans dns) (gns : mg "need_short" = some (.ref ans)) {anp : Addr} {dnp : FuncData} (Fnp : FnP K "need_prices" sNeedPrices anp dnp) (gnp : mg "need_prices" = some (.ref anp)) {alp : Addr} {dlp : FuncData} (Flp : FnP K "least_prices" sLeast alp dlp) (glp : mg "least_prices" = some (.ref alp)) {ach : Addr} {dch : FuncData} (Fch : FnP K "cheapest" sCheapest ach dch) (gch : mg "cheapest" = some (.ref ach)) {afo : Addr} {dfo : FuncData} (Ffo : FnP K "fewest_of" sFewestOf afo dfo) (gfo : mg "fewest_of" = some (.ref afo)) {afc : Addr} {dfc : FuncData} (Ffc : FnP K "fewest_cuts" sFewest afc dfc) (gfc : mg "fewest_cuts" = some (.ref afc)) {atk : Addr} {dtk : FuncData} (Ftk : FnP K "_law_taken" sTaken atk dtk) (gtk : mg "_law_taken" = some (.ref atk)) {apk : Addr} {dpk : FuncData} (Fpk : FnP K "_law_pick" sPick apk dpk) (gpk : mg "_law_pick" = some (.ref apk)) {aal : Addr} {dal : FuncData} (Fal : FnP K "_law_alike" sAlike aal dal) (gal : mg "_law_alike" = some (.ref aal)) {afm : Addr} {dfm : FuncData} (Ffm : FnP K "_law_film" sFilm afm dfm) (gfm : mg "_law_film" = some (.ref afm)) {anx : Addr} {dnx : FuncData} (Fnx : FnP K "_law_next" sNext anx dnx) (gnx : mg "_law_next" = some (.ref anx)) {aall : Addr} {dall : FuncData} (Fall : FnP K "_law_all" sAll aall dall) (gall : mg "_law_all" = some (.ref aall)) {adr : Addr} {ddr : FuncData} (Fdr : FnP K "_law_drawn" sDrawn adr ddr) (gdr : mg "_law_drawn" = some (.ref adr)) {ago : Addr} {dgo : FuncData} (Fgo : FnP K "_law_goal" sGoal ago dgo) (ggo : mg "_law_goal" = some (.ref ago)) {acu : Addr} {dcu : FuncData} (Fcu : FnP K "_law_cuts" sCuts acu dcu) (gcu : mg "_law_cuts" = some (.ref acu)) {aaf : Addr} {daf : FuncData} (Faf : FnP K "_law_after" sAfter aaf daf) (gaf : mg "_law_after" = some (.ref aaf)) : FnOk P w K mg base CX0 5 f fd ["_law_script"] (spLaw K PT) := by
  have Gch : FnOk P w K mg base CX0 4 ach dch ["film", "goal", "prices"] spCheap := ok_cheapest Fch T gM gL gP Fi gi Ff gf Fnf gnf Fnp gnp Fns gns Flp glp
  have bch : Binds K dch ["film", "goal", "prices"] [] := Fch.bindsN fun _ _ _ _ _ _ us hl => match us, hl with | [_, _, _], _ => rfl
  have Gfc : FnOk P w K mg base CX0 2 afc dfc ["film", "goal"] spFewest := ok_fewest Ffc T gM gL Fnf gnf Ffo gfo
  have bfc : Binds K dfc ["film", "goal"] [] := Ffc.bindsN fun _ _ _ _ _ _ us hl => match us, hl with | [_, _], _ => rfl
  have Gtk : FnOk P w K mg base CX0 1 atk dtk ["_law_row", "_law_many"] (spTaken K) := ok_taken Ftk T
  have btk : Binds K dtk ["_law_row", "_law_many"] [] := Ftk.bindsN fun _ _ _ _ _ _ us hl => match us, hl with | [_, _], _ => rfl
  have Gal : FnOk P w K mg base CX0 1 aal dal ["_law_found", "_law_due"] spAlike := ok_alike Fal T
  have bal : Binds K dal ["_law_found", "_law_due"] [] := Fal.bindsN fun _ _ _ _ _ _ us hl => match us, hl with | [_, _], _ => rfl
  have Gfm : FnOk P w K mg base CX0 2 afm dfm ["_law_row", "_law_most", "_law_many"] (spFilm K) := ok_film Ffm T Ftk gtk
  have bfm : Binds K dfm ["_law_row", "_law_most", "_law_many"] [] := Ffm.bindsN fun _ _ _ _ _ _ us hl => match us, hl with | [_, _, _], _ => rfl
  have Gall : FnOk P w K mg base CX0 2 aall dall ["_law_film_here"] spAll := ok_all Fall T Fnx gnx
  have ball : Binds K dall ["_law_film_here"] [] := Fall.bindsN fun _ _ _ _ _ _ us hl => match us, hl with | [_], _ => rfl
  have Ggo : FnOk P w K mg base CX0 4 ago dgo ["_law_row", "_law_film_here"] (spGoal K) := ok_goal Fgo T Ftk gtk Fpk gpk Fdr gdr
  have bgo : Binds K dgo ["_law_row", "_law_film_here"] [] := Fgo.bindsN fun _ _ _ _ _ _ us hl => match us, hl with | [_, _], _ => rfl
  have Gcu : FnOk P w K mg base CX0 1 acu dcu ["_law_film_here"] spCuts := ok_cuts Fcu T
  have bcu : Binds K dcu ["_law_film_here"] [] := Fcu.bindsN fun _ _ _ _ _ _ us hl => match us, hl with | [_], _ => rfl
  have Gaf : FnOk P w K mg base CX0 1 aaf daf ["_law_film_here", "_law_pair"] spAfter := ok_after Faf
  have baf : Binds K daf ["_law_film_here", "_law_pair"] [] := Faf.bindsN fun _ _ _ _ _ _ us hl => match us, hl with | [_, _], _ => rfl
  obtain ⟨oc, od, dV, kV, doc, pm, an, cdv, ct, osl, rfl, lk, hcd, _, _⟩ := F.ex
  obtain ⟨cd, rfl⟩ := He.codeIn_ref hcd
  subst ef
  rw [He.codeOf_eq lk rfl] at TB
  refine fn_of lk hcd sc_law (fun vs H Q E h => ?_) (fun A outer s H vs Q E hr h => ⟨_, PSs.nox (pss_cons (ps_set (i := 1) sc_law.nd rfl (.inr rfl) (pe_lst (pa_cons (pv 0) (pa_cons pe_int (pa_cons pe_int (pa_cons pe_int pa_nil)))))) (pss_cons (ps_set (i := 2) sc_law.nd rfl (.inl rfl) (pe_call Gfm (hr.mono (by decide)) (by rfl) gfm Ffm.kp bfm .nil pass0 (pa_cons (pv 1) (pa_cons pe_int (pa_cons (pe_op op_add pe_int (pe_call Gtk (hr.mono (by decide)) (by rfl) gtk Ftk.kp btk .nil pass0 (pa_cons (pv 1) (pa_cons pe_int pa_nil)))) pa_nil))))) (pss_cons (ps_set (i := 3) sc_law.nd rfl (.inl rfl) (pe_call Ggo (hr.mono (by decide)) (by rfl) ggo Fgo.kp bgo .nil pass0 (pa_cons (pv 1) (pa_cons (pv 2) pa_nil)))) (pss_cons (ps_set (i := 4) sc_law.nd rfl (.inl rfl) (pe_callTy call_tuple_of (by rfl) T.tup boot_tuple (pa_cons (pe_lc (own := [("_law_one", 13)]) (g := gName 13) (by rfl) sc_law.nd (pi_range1 (by rfl) T.rng (pa_cons (pe_op op_sub (pe_callB call_len_str (by rfl) T.len boot_len (pa_cons (pv 2) pa_nil)) pe_int) pa_nil)) (blkOk_by (own := [("_law_one", 13)]) (N := nLaw) (sc := defScope sLaw) (by decide +kernel)) (fun _ _ _ _ _ => pg_name (i := 13) sc_law.nd rfl (Or.inl rfl)) (fun _ _ _ _ _ => pts_nil) (fun _ _ _ _ _ => (pe_call Gtk (hr.mono (by decide)) (by rfl) gtk Ftk.kp btk .nil pass0 (pa_cons (pv 1) (pa_cons pe_int pa_nil))))) pa_nil))) (pss_cons (ps_set (i := 5) sc_law.nd rfl (.inl rfl) (pe_disp (pps_cons (pv 2) pe_int pps_nil) (by rfl) (by rfl) (fun z => by cases z) (by decide))) (pss_cons (ps_for PassesOwn.never rfl (pi_list (pe_callBK (cr_key (qual := lamQ) T (hr.mono (by decide))) (by rfl) T.srt boot_sorted (pa_cons (pe_call Gall (hr.mono (by decide)) (by rfl) gall Fall.kp ball .nil pass0 (pa_cons (pv 2) pa_nil)) pa_nil) (pk_cons (pe_lam TB rfl) pk_nil))) (pg_name (i := 6) sc_law.nd rfl (.inl rfl)) (pss_one (ps_for PassesOwn.never rfl (pi_list (pe_call Gcu (hr.mono (by decide)) (by rfl) gcu Fcu.kp bcu .nil pass0 (pa_cons (pv 6) pa_nil))) (pg_tup (by rfl) (pgs_cons (pg_name (i := 7) sc_law.nd rfl (.inl rfl)) (pgs_cons (pg_name (i := 8) sc_law.nd rfl (.inl rfl)) pgs_nil))) (pss_cons (ps_par (i := 9) (j := 10) rfl sc_law.nd rfl rfl (by decide) rfl rfl (pa_cons (pe_call Gaf (hr.mono (by decide)) (by rfl) gaf Faf.kp baf .nil pass0 (pa_cons (pv 6) (pa_cons (pe_tup (pa_cons (pv 7) (pa_cons (pv 8) pa_nil))) pa_nil))) (pa_cons (pe_op op_add (pe_dget (hu_of hr) (pv 5) (pv 6) (fun _ _ => rfl)) (pe_ix ix_tup (pv 4) (pe_op op_sub (pe_op op_sub (pv 8) (pv 7)) pe_int) (fun _ _ => rfl))) pa_nil)) (by rfl)) (pss_one (ps_dput (hu_of hr) (pv 5) (pv 9) (pe_callB (call_min2 rfl) (by rfl) T.min boot_min (pa_cons (pe_dget2 (hu_of hr) (pv 5) (pv 9) (pv 10) ⟨rfl, rfl, rfl, rfl⟩) (pa_cons (pv 10) pa_nil))) rfl)))))) (pss_cons (ps_if (pt_not (pt_val (pe_call Gal (hr.mono (by decide)) (by rfl) gal Fal.kp bal .nil pass0 (pa_cons (pe_call Gch (hr.mono (by decide)) (by rfl) gch Fch.kp bch .nil pass0 (pa_cons (pv 2) (pa_cons (pv 3) (pa_cons (pv 4) pa_nil)))) (pa_cons (pe_dget1 (hu_of hr) (pv 5) (pv 3) ⟨rfl, rfl, rfl, rfl⟩) pa_nil))))) (pss_one (ps_ret pe_bl)) pss_nil) (pss_cons (ps_set (i := 11) sc_law.nd rfl (.inl rfl) (pe_call Gfc (hr.mono (by decide)) (by rfl) gfc Ffc.kp bfc .nil pass0 (pa_cons (pv 2) (pa_cons (pv 3) pa_nil)))) (pss_cons (ps_if (pt_cmpR op_ne (pe_call Gch (hr.mono (by decide)) (by rfl) gch Fch.kp bch .nil pass0 (pa_cons (pv 2) (pa_cons (pv 3) (pa_cons (pe_sevens (pe_op (OpR.or op_repT op_rep01) (pe_tup (pa_cons pe_int pa_nil)) (pe_op op_sub (pe_callB call_len_str (by rfl) T.len boot_len (pa_cons (pv 2) pa_nil)) pe_int))) pa_nil)))) (pe_ifExp (pt_cmp (pc_notN (pv 11))) (pe_op op_mul pe_int (pv 11)) pe_non) (nomark _)) (pss_one (ps_ret pe_bl)) pss_nil) (pss_cons (ps_set (i := 12) sc_law.nd rfl (.inl rfl) (pe_callTy call_tuple_of (by rfl) T.tup boot_tuple (pa_cons (pe_lc (own := [("_law_one", 13)]) (g := gName 13) (by rfl) sc_law.nd (pi_range1 (by rfl) T.rng (pa_cons (pe_op op_sub (pe_callB call_len_str (by rfl) T.len boot_len (pa_cons (pv 2) pa_nil)) pe_int) pa_nil)) (blkOk_by (own := [("_law_one", 13)]) (N := nLaw) (sc := defScope sLaw) (by decide +kernel)) (fun _ _ _ _ _ => pg_name (i := 13) sc_law.nd rfl (Or.inl rfl)) (fun _ _ _ _ _ => pts_nil) (fun _ _ _ _ _ => (pe_op op_add (pv 13) pe_int))) pa_nil))) (pss_one (ps_ret (pe_or (pe_cmp (pc_isN (pv 11))) (pe_one (pe_cmpR op_eq (pe_call Gch (hr.mono (by decide)) (by rfl) gch Fch.kp bch .nil pass0 (pa_cons (pv 2) (pa_cons (pv 3) (pa_cons (pv 12) pa_nil)))) (pe_op op_sub (pe_callB call_len_str (by rfl) T.len boot_len (pa_cons (pv 2) pa_nil)) (pe_callB call_len_str (by rfl) T.len boot_len (pa_cons (pv 3) pa_nil))) (nomark _)))))))))))))))), ?_⟩)
  · obtain ⟨a, ns, rfl, _⟩ := h
    rfl
  · obtain ⟨a, ns, rfl, hS, hP, q⟩ := h
    refine ⟨_, rfl, by show 4 ≤ sizeLine; decide, fun r nr => ?_⟩
    have B1 : But r H (upd H r (.lst [.ref a, .int 0, .int 5020, .int 0])) := But.upd _ _ _
    have R1 : RowAt K (upd H r (.lst [.ref a, .int 0, .int 5020, .int 0])) r a ns := by
      refine ⟨?_, 0, 5020, 0, upd_same, by decide, by decide, by decide, by decide⟩
      rcases hS with (h | ⟨o, h⟩) | h
      · have ne := ne_of_none h nr
        exact .inl ⟨ne, .inl (.inl ((upd_ne ne).trans h))⟩
      · have ne := ne_of_none h nr
        exact .inl ⟨ne, .inl (.inr ⟨o, (upd_ne ne).trans h⟩)⟩
      · exact .inr fun H' => .inr h
    have nrP : PT ≠ r := ne_of_none hP nr
    refine ⟨_, rfl, _, rfl, r, a, ns, 3, rfl, R1, by decide, by decide, fun x H2 x0 x1 B2 R2 => ⟨_, _, rfl, rfl, r, a, ns, 8, 1 + x, rfl, R2, by decide, by decide, by omega, by omega, fun F H3 f1 f2 f3 B3 R3 => ?_⟩⟩
    have f8 : F.length ≤ 8 := by omega
    have lF : (fs F).length ≤ sizeLine := by rw [fs_len]; exact line200 (by omega)
    have gF : GoodF F := ⟨f1, by omega, fun c hc => by have := f3 c hc; omega⟩
    refine ⟨_, rfl, _, rfl, r, a, ns, F, rfl, R3, f1, f8, fun H4 G g1 g2 g3 B4 R4 => ?_⟩
    have gG : GoodF G := ⟨g1, by omega, fun c hc => by have := f3 c (g3 c hc); omega⟩
    have lG : (fs G).length ≤ sizeLine := by rw [fs_len]; exact line200 (by omega)
    have B14 : But r H H4 := B1.trans (B2.trans (B3.trans B4))
    have en : (((fs F).length : Int) - 1).toNat = F.length - 1 := by rw [fs_len]; omega
    -- the prices
    refine ⟨_, rfl, fs F, rfl, lF, _, _, rfl, rfl, _, rfl, by rw [fs_len]; omega, by rw [fs_len]; omega, fun D nD => ?_⟩
    have nDr : D ≠ r := fun e => by
      obtain ⟨o, ho⟩ := R4.some
      rw [e, ho] at nD
      cases nD
    refine lc_it (walk_range (lo := 0)) (fun k H5 => ∃ ps : List Int, H5 D = some (.lst (ps.map V.int)) ∧ ps.length = k ∧ (∀ p ∈ ps, 0 ≤ p ∧ p ≤ 1000) ∧ But r H4 H5 ∧ RowAt K H5 r a ns)
      ⟨[], upd_same, rfl, fun p hp => (nomatch hp), (But.refl r H4).upd' nD, R4.same (same_new (Same.refl H4) nD)⟩ (fun _ _ _ _ => trivial) ?_ ?_
    · rintro k x H5 H6 hk ⟨ps, hD, hl, hb, B5, R5⟩ ⟨rfl, rfl⟩
      rw [en] at hk
      refine ⟨rfl, ?_⟩
      unfold tYes
      dsimp only
      refine (iteT ⟨_, rfl, r, a, ns, 12, rfl, R5, by decide, by decide, fun y H6 y0 y1 B6 R6 => ⟨ps.map V.int, B6 _ _ nDr hD, by rw [List.length_map]; exact small1000 (by omega), ps ++ [y], ?_, by rw [List.length_append, hl]; rfl, fun p hp => ?_, (B5.trans B6).upd' nD, ?_⟩⟩)
      · rw [upd_same, List.map_append]
        rfl
      · rcases List.mem_append.mp hp with h | h
        · exact hb p h
        · rw [List.mem_singleton.mp h]
          omega
      · obtain ⟨i, sd, rst, e, z1, z2, z3, z4⟩ := R6.row
        exact R4.mk' ((B5.trans B6).upd' nD) ((upd_ne nDr.symm).trans e) z1 z2 z3 z4
    rintro H5 ⟨ps, hD, hl, hb, B5, R5⟩
    rw [en] at hl
    have B15 : But r H H5 := B14.trans B5
    refine ⟨D, _, rfl, .inl ⟨SqL.of hD, fun t nt => ?_⟩⟩
    have s6 : Same H5 (upd H5 t (.tup (ps.map V.int))) := same_new (Same.refl H5) nt
    refine fun db nb => ⟨_, rfl, upd_same, [(kF F, .int 0)], rfl, by show 1 ≤ 15; decide, ?_⟩
    have s7 : Same H5 (upd (upd (upd H5 t (.tup (ps.map V.int))) db (.dK [])) db (.dK (mergeK [] [(kF F, V.int 0)]))) := same_of_upd (same_new s6 nb) (s6.free nb)
    have ht7 : (upd (upd (upd H5 t (.tup (ps.map V.int))) db (.dK [])) db (.dK (mergeK [] [(kF F, V.int 0)]))) t = some (.tup (ps.map V.int)) := by
      rw [upd_ne (ne_of_none upd_same nb), upd_ne (ne_of_none upd_same nb), upd_same]
    have hd7 : (upd (upd (upd H5 t (.tup (ps.map V.int))) db (.dK [])) db (.dK (mergeK [] [(kF F, V.int 0)]))) db = some (.dK [(kF F, V.int 0)]) := upd_same
    generalize (upd (upd (upd H5 t (.tup (ps.map V.int))) db (.dK [])) db (.dK (mergeK [] [(kF F, V.int 0)]))) = H7 at s7 ht7 hd7
    have hP7 : H7 PT = some (.tbl #[]) := s7 _ _ (B15 _ _ nrP hP)
    -- the outcomes, the long ones first
    refine ⟨_, rfl, F, rfl, f8, f3, fun H8 l ws s8 hl8 c62 nd8 hws => ⟨s8 _ _ hP7, fun fl cl H9 k9 hfl hcl => ?_⟩⟩
    have nlP : l ≠ PT := ne_of hl8 (s8 _ _ hP7) (by intro z; cases z)
    have ntP : t ≠ PT := ne_of (s8 _ _ ht7) (s8 _ _ hP7) (by intro z; cases z)
    have ndP : db ≠ PT := ne_of (s8 _ _ hd7) (s8 _ _ hP7) (by intro z; cases z)
    have ht9 := k9 _ _ ntP (s8 _ _ ht7)
    have hd9 := k9 _ _ ndP (s8 _ _ hd7)
    refine ⟨l, fl, cl, ws.map fs, rfl, rfl, SqL.of (k9 _ _ nlP hl8), by rw [List.length_map]; omega, fun z hz => ?_, hfl, hcl, fun ys p hp pw np => ?_⟩
    · obtain ⟨u, hu, rfl⟩ := List.mem_map.mp hz
      show (fs u).length ≤ sizeLine
      rw [fs_len]
      have ru := (hws u).mp hu
      obtain ⟨_, ru⟩ := ru
      exact line200 (by have := ru.len; omega)
    obtain ⟨us, rfl, hu⟩ := perm_films hp
    have hall : ∀ u, Rch F u → u ∈ us := fun u h => hu.mem_iff.mpr ((hws u).mpr h)
    have hback : ∀ u ∈ us, Rch F u := fun u h => (hws u).mp (hu.mem_iff.mp h)
    have hpw := len_sort pw
    have l62 : us.length ≤ 62 := by rw [hu.length_eq]; exact c62
    have ndbp : db ≠ p := ne_of_none hd9 np
    have htA : (upd H9 p (.lst ((us.map fs).map V.str))) t = some (.tup (ps.map V.int)) := (upd_ne (ne_of_none ht9 np)).trans ht9
    have hdA : (upd H9 p (.lst ((us.map fs).map V.str))) db = some (.dK [(kF F, V.int 0)]) := (upd_ne ndbp).trans hd9
    have hpA : (upd H9 p (.lst ((us.map fs).map V.str))) p = some (.lst ((us.map fs).map V.str)) := upd_same
    have ntb : t ≠ db := ne_of htA hdA (by intro z; cases z)
    generalize (upd H9 p (.lst ((us.map fs).map V.str))) = HA at htA hdA hpA
    refine ⟨p, rfl, ⟨_, SqL.of hpA⟩, for_list (K := K) (a := p) (xs := (us.map fs).map V.str) (fun i σ HB => ∃ kvs y6 y7 y8 y9 y10, σ = [some (.ref a), some (.ref r), some (.str (fs F)), some (.str (fs G)), some (.ref t), some (.ref db), y6, y7, y8, y9, y10, none, none, none] ∧ But db HA HB ∧ HB db = some (.dK kvs) ∧ kvs.length ≤ 1 + i * 64 ∧
        Told kvs fun u => BestS (prc ps) F (us.take i) u)
      ⟨_, none, none, none, none, none, rfl, But.refl db HA, hdA, Nat.le_refl _, told_first ps F⟩ (fun i σ HB _ ⟨_, _, _, _, _, _, _, hB, _⟩ => SqL.of (hB _ _ ndbp.symm hpA)) ?_ ?_⟩
    · rintro i x σ HB hx ⟨kvs, y6, y7, y8, y9, y10, rfl, hB, hd, hlen, hk⟩
      obtain ⟨now, hnow, rfl⟩ : ∃ u, us[i]? = some u ∧ V.str (fs u) = x := by
        rw [List.getElem?_map, List.getElem?_map] at hx
        cases e : us[i]? with
        | none => rw [e] at hx; cases hx
        | some u => rw [e] at hx; exact ⟨u, rfl, Option.some.inj hx⟩
      have hi : i < us.length := (List.getElem?_eq_some_iff.mp hnow).1
      have rnow := hback now (List.mem_of_getElem? hnow)
      have lnow : now.length ≤ F.length := by
        obtain ⟨_, z⟩ := rnow
        exact z.len
      have ecut := us_cut hnow
      have etake : us.take (i + 1) = us.take i ++ [now] := by rw [List.take_add_one, hnow]; rfl
      refine ⟨_, rfl, now, rfl, by omega, fun HC lc xs ks sC hlc nlc hpr hxl hks => ?_⟩
      have hkl : xs.length = ks.length := Paired.length hpr
      have h64 : now.length * now.length ≤ 8 * 8 := Nat.mul_le_mul (by omega) (by omega)
      have nlcb : lc ≠ db := fun e => by rw [e, hd] at nlc; cases nlc
      refine ⟨lc, rfl, ⟨_, SqL.of hlc⟩, for_list (K := K) (a := lc) (xs := xs) (fun j σ HE => ∃ lk y7 y8 y9 y10, σ = [some (.ref a), some (.ref r), some (.str (fs F)), some (.str (fs G)), some (.ref t), some (.ref db), some (.str (fs now)), y7, y8, y9, y10, none, none, none] ∧ But db HC HE ∧ HE db = some (.dK lk) ∧ lk.length ≤ 1 + i * 64 + j ∧
          Told lk fun u => BestK (prc ps) F (us.take i) now (ks.take j) u)
        ⟨kvs, y7, y8, y9, y10, rfl, But.refl db HC, sC _ _ hd, hlen, hk.congr fun u c => (JC.bestK_nil c).symm⟩ (fun j σ HE _ ⟨_, _, _, _, _, _, hE, _⟩ => SqL.of (hE _ _ nlcb hlc)) ?_ ?_⟩
      · rintro j x σ HE hx ⟨lk, y7, y8, y9, y10, rfl, hE, hd, hlen, hk⟩
        obtain ⟨⟨fi, se⟩, hkj, tp, rfl, htp⟩ := pair_get hpr hx
        have ntpb : tp ≠ db := ne_of htp (sC _ _ (by assumption)) (by intro z; cases z)
        have htpE := hE _ _ ntpb htp
        have hcut : IsCut now fi se := (hks fi se).mp (List.mem_of_getElem? hkj)
        have hse := IsCut.lt hcut
        have hfs := hcut.1
        refine ⟨tp, _, rfl, SqT.of htpE, rfl, _, _, rfl, _, _, rfl, rfl, ?_⟩
        refine ⟨_, rfl, _, rfl, _, rfl, by show 2 ≤ sizeLine; decide, fun u nu => ⟨now, u, fi, se, rfl, upd_same, by omega, ?_⟩⟩
        have sU : Same HE (upd HE u (.tup [.int (fi : Nat), .int (se : Nat)])) := same_new (Same.refl HE) nu
        have hdU := sU _ _ hd
        have htU : (upd HE u (.tup [.int (fi : Nat), .int (se : Nat)])) t = some (.tup (ps.map V.int)) := sU _ _ (hE _ _ ntb (sC _ _ (hB _ _ ntb htA)))
        -- what the outcome costs
        obtain ⟨o, ho, lo⟩ := hk now
        have lo1 : Lst (Row (prc ps) F now) o := lo.congr fun c => ((JC.bestK_now (fun k hk => by
          have z := List.mem_of_mem_take hk
          exact (hks k.1 k.2).mp z) c).trans (JC.best_now (Q := us.drop (i + 1)) (fun u hu => by rw [← ecut]; exact hall u hu) (by rw [← ecut]; exact hpw) c))
        obtain ⟨b, rfl⟩ : ∃ b, o = some b := by
          cases o with
          | some b => exact ⟨b, rfl⟩
          | none =>
            obtain ⟨c, hc⟩ := rnow.row (p := prc ps)
            obtain ⟨_, e, _⟩ := lo1.2 c hc
            cases e
        have ei : ((se : Int) - (fi : Int) - 1) = ((se - fi - 1 : Nat) : Int) := by omega
        have hpx : (ps.map V.int)[se - fi - 1]? = some (.int (prc ps (se - fi - 1))) := by
          have hlt : se - fi - 1 < ps.length := by omega
          show (ps.map V.int)[se - fi - 1]? = some (.int (ps.getD (se - fi - 1) 0))
          rw [List.getElem?_map, List.getD_eq_getElem?_getD, List.getElem?_eq_getElem hlt]
          rfl
        have hget : DGet (upd HE u (.tup [.int (fi : Nat), .int (se : Nat)])) db (V.str (fs now)) (some (.int b)) := by
          have z := DGet.k (k := kF now) hdU
          rw [ho] at z
          exact z
        refine ⟨_, rfl, _, rfl, db, _, rfl, hget, _, rfl, _, rfl, _, rfl, _, _, rfl, rfl, _, _, rfl, rfl, t, _, _, _, rfl, rfl, SqT.of htU, atE ei hpx, _, _, rfl, rfl, _, _, rfl, ?_⟩
        obtain ⟨o2, ho2, lo2⟩ := hk (cutAt now fi se)
        have hget2 : DGet (upd HE u (.tup [.int (fi : Nat), .int (se : Nat)])) db (V.str (fs (cutAt now fi se))) (o2.map V.int) := by
          rw [← ho2]
          exact DGet.k (k := kF (cutAt now fi se)) hdU
        have hmin : (o2.map V.int).getD (V.int (b + prc ps (se - fi - 1))) = V.int (o2.getD (b + prc ps (se - fi - 1))) := by cases o2 <;> rfl
        refine ⟨_, rfl, db, rfl, .inl ⟨_, .inl hdU⟩, _, rfl, _, rfl, _, hget2, _, rfl, o2.getD (b + prc ps (se - fi - 1)), b + prc ps (se - fi - 1), by rw [hmin], ?_⟩
        have ho3 : (if b + prc ps (se - fi - 1) < o2.getD (b + prc ps (se - fi - 1)) then b + prc ps (se - fi - 1) else o2.getD (b + prc ps (se - fi - 1))) = omin o2 (b + prc ps (se - fi - 1)) := by
          cases o2 with
          | none =>
            show (if b + prc ps (se - fi - 1) < b + prc ps (se - fi - 1) then b + prc ps (se - fi - 1) else b + prc ps (se - fi - 1)) = b + prc ps (se - fi - 1)
            split <;> rfl
          | some z => rfl
        rw [ho3]
        have hjl : j < xs.length := (List.getElem?_eq_some_iff.mp hx).1
        have hput : DPut (upd HE u (.tup [.int (fi : Nat), .int (se : Nat)])) db (V.str (fs (cutAt now fi se))) (.int (omin o2 (b + prc ps (se - fi - 1)))) (upd (upd HE u (.tup [.int (fi : Nat), .int (se : Nat)])) db (.dK (putK lk (kF (cutAt now fi se)) (.int (omin o2 (b + prc ps (se - fi - 1))))))) :=
          DPut.k (k := kF (cutAt now fi se)) hdU (by rw [sizeLine_eq]; omega)
        refine ⟨_, rfl, _, rfl, db, _, rfl, hput, ?_⟩
        refine ⟨_, _, _, _, _, rfl, (hE.trans (But.of sU)).trans (But.upd _ _ _), upd_same, Nat.le_trans (length_putK _ _ _) (by omega), fun w' => ?_⟩
        have ekt : ks.take (j + 1) = ks.take j ++ [(fi, se)] := by rw [List.take_add_one, hkj]; rfl
        obtain ⟨o4, h4, l4⟩ := hk w'
        have h5 := JC.bestK_snoc (k := (fi, se)) l4 lo1
        rw [ekt, valV_put]
        by_cases ew : w' = cutAt now fi se
        · rw [ew] at h4 h5 ⊢
          rw [if_pos rfl] at h5
          have e42 : o4 = o2 := by
            rw [ho2] at h4
            exact map_inj h4.symm
          rw [e42] at h5
          rw [if_pos rfl]
          exact ⟨_, rfl, h5⟩
        · rw [if_neg ew] at h5
          rw [if_neg fun z => ew (kF_inj z)]
          exact ⟨o4, h4, h5⟩
      · rintro σ HE ⟨lk, y7, y8, y9, y10, rfl, hE, hd, hlen, hk⟩
        rw [hkl, List.take_of_length_le (Nat.le_refl _)] at hk
        refine ⟨lk, _, y7, y8, y9, y10, rfl, (hB.trans (But.of sC)).trans hE, hd, by omega, ?_⟩
        rw [etake]
        exact Told.congr hk fun u c => JC.bestK_end hks c
    · rintro σ HB ⟨kvs, y6, y7, y8, y9, y10, rfl, hB, hd, hlen, hk⟩
      rw [List.length_map, List.length_map, List.take_of_length_le (Nat.le_refl _)] at hk
      have htB := hB _ _ ntb htA
      refine ⟨_, rfl, _, rfl, _, rfl, F, G, t, ps, rfl, gF, gG, by omega, htB, by omega, hb, fun HC o sC ho => ?_⟩
      obtain ⟨o', h1, h2⟩ := hk G
      have h2 : Lst (BestS (prc ps) F us G) o' := h2
      have eo : o = o' := ho.uniq (h2.congr fun c => JC.best_all hall G c)
      subst eo
      refine ⟨_, rfl, db, rfl, .inl ⟨kvs, .inl (sC _ _ hd)⟩, _, rfl, _, DGet.k (k := kF G) (sC _ _ hd), ?_⟩
      rw [h1, ofO_getD]
      refine ⟨o, rfl, fun HD sD => ⟨true, rfl, iteF ?_⟩⟩
      -- the fewest cuts
      refine ⟨_, rfl, _, rfl, F, G, rfl, gF, gG, fun HE o1 sE ho1 => ?_⟩
      refine ⟨_, rfl, _, rfl, F, rfl, f1, f8, fun HF t7 sF ht7 => ⟨F, G, t7, _, rfl, gF, gG, by omega, ht7, by rw [List.length_replicate]; omega, fun p hp => ?_, fun HG o2 sG ho2 => ?_⟩⟩
      · rw [(List.mem_replicate.mp hp).2]
        decide
      have e2 : o2 = o1.map fun k => 7 * k := ho2.uniq ((JC.few_seven ho1).same F.length (Nat.le_refl _) fun k hk => seven_prc k hk)
      subst e2
      cases o1 with
      | none =>
        refine ⟨_, rfl, _, rfl, iteF ⟨rfl, _, rfl, iteF ?_⟩⟩
        refine ⟨_, rfl, fs F, rfl, lF, _, _, rfl, rfl, _, rfl, by rw [fs_len]; omega, by rw [fs_len]; omega, fun D2 nD2 => ?_⟩
        refine lc_it (walk_range (lo := 0)) (fun k HK => HK D2 = some (.lst (((List.range k).map fun i : Nat => (i : Int) + 1).map V.int)) ∧ Same HG HK) ⟨upd_same, same_new (Same.refl HG) nD2⟩ (fun _ _ _ _ => trivial) ?_ ?_
        · rintro k x H5 H6 hk ⟨hD, sK⟩ ⟨rfl, rfl⟩
          rw [en] at hk
          refine ⟨rfl, ?_⟩
          unfold tYes
          dsimp only
          refine (iteT ⟨_, rfl, _, _, rfl, rfl, _, hD, by rw [List.length_map, List.length_map, List.length_range]; exact small1000 (by omega), ?_, fun b o e => ?_⟩)
          · rw [upd_same, List.range_succ, List.map_append, List.map_append, Int.zero_add]
            rfl
          · rw [upd_ne (ne_of_none e nD2)]
            exact sK b o e
        rintro HK ⟨hD, sK⟩
        refine ⟨D2, _, rfl, .inl ⟨SqL.of hD, fun t3 nt3 => ?_⟩⟩
        exact ⟨_, rfl, true, rfl, iteT (q _)⟩
      | some few =>
        refine ⟨_, rfl, _, rfl, iteT ⟨_, rfl, _, _, rfl, rfl, .inl ⟨by decide, by decide⟩, rfl, false, congrArg V.bl (show (!decide (V.int (7 * few) = V.int (7 * few))) = false by rw [decide_eq_true rfl]; rfl), iteF ?_⟩⟩
        refine ⟨_, rfl, fs F, rfl, lF, _, _, rfl, rfl, _, rfl, by rw [fs_len]; omega, by rw [fs_len]; omega, fun D2 nD2 => ?_⟩
        refine lc_it (walk_range (lo := 0)) (fun k HK => HK D2 = some (.lst (((List.range k).map fun i : Nat => (i : Int) + 1).map V.int)) ∧ Same HG HK) ⟨upd_same, same_new (Same.refl HG) nD2⟩ (fun _ _ _ _ => trivial) ?_ ?_
        · rintro k x H5 H6 hk ⟨hD, sK⟩ ⟨rfl, rfl⟩
          rw [en] at hk
          refine ⟨rfl, ?_⟩
          unfold tYes
          dsimp only
          refine (iteT ⟨_, rfl, _, _, rfl, rfl, _, hD, by rw [List.length_map, List.length_map, List.length_range]; exact small1000 (by omega), ?_, fun b o e => ?_⟩)
          · rw [upd_same, List.range_succ, List.map_append, List.map_append, Int.zero_add]
            rfl
          · rw [upd_ne (ne_of_none e nD2)]
            exact sK b o e
        rintro HK ⟨hD, sK⟩
        refine ⟨D2, _, rfl, .inl ⟨SqL.of hD, fun t3 nt3 => ?_⟩⟩
        refine ⟨_, rfl, false, rfl, iteF ⟨_, rfl, _, rfl, _, rfl, F, G, t3, _, rfl, gF, gG, by omega, upd_same, by rw [List.length_map, List.length_range, en]; omega, fun p hp => ?_, fun HL o3 sL ho3 => ?_⟩⟩
        · obtain ⟨i, hi, rfl⟩ := List.mem_map.mp hp
          have hi2 := List.mem_range.mp hi
          rw [en] at hi2
          omega
        · rw [en] at ho3
          have e3 := JC.few_each (ho1.1 few rfl) (ho3.same F.length (Nat.le_refl _) fun k hk => (each_prc k hk).symm)
          rw [e3]
          refine ⟨_, rfl, fs F, rfl, lF, _, rfl, fs G, rfl, lG, _, _, rfl, rfl, rfl, ?_⟩
          show Q (.bl (decide (V.int ((F.length : Int) - (G.length : Int)) = V.int (((fs F).length : Int) - ((fs G).length : Int))))) _
          rw [fs_len, fs_len, decide_eq_true rfl]
          exact q _
end
end Jc
namespace Jc
open PySem PySem.Spec PyProof.Rows L2
def dd (x : Str) (st : Stmt) : He.DefD := ⟨(x, none), x, x, defArgs st, defBody st, defScope st, [], []⟩
def fnL : List He.DefD := [dd "is_int" sIsInt, dd "is_from" sIsFrom, dd "need_film" sNeedFilm, dd "need_short" sNeedShort, dd "need_prices" sNeedPrices, dd "least_prices" sLeast, dd "cheapest" sCheapest, dd "fewest_of" sFewestOf, dd "fewest_cuts" sFewest,
  dd "_law_taken" sTaken, dd "_law_pick" sPick, dd "_law_alike" sAlike, dd "_law_film" sFilm, dd "_law_next" sNext, dd "_law_all" sAll, dd "_law_drawn" sDrawn, dd "_law_goal" sGoal, dd "_law_cuts" sCuts, dd "_law_after" sAfter, dd "law" sLaw]
def faL : List He.Fa := [.glo "is_int", .glo "is_from", .glo "need_film", .glo "need_short", .glo "need_prices", .glo "least_prices", .glo "cheapest", .glo "fewest_of", .glo "fewest_cuts",
  .glo "_law_taken", .glo "_law_pick", .glo "_law_alike", .glo "_law_film", .glo "_law_next", .glo "_law_all", .glo "_law_drawn", .glo "_law_goal", .glo "_law_cuts", .glo "_law_after", .glo "law",
  .str "LETTERS" "abcdefgh", .int "MOST_FILM" 200, .int "MOST_PRICED" 12,
  .free "isinstance", .free "int", .free "bool", .free "str", .free "tuple", .free "list", .free "len", .free "enumerate", .free "max", .free "min", .free "all", .free "range", .free "sorted"]
def looseL : List PySem.Str := ["CutError", "BadFilm", "BadNumber", "TooLong", "LETTERS", "MOST_FILM", "is_int", "is_from", "need_film", "need_short", "MOST_PRICED", "need_prices", "least_prices", "cheapest", "fewest_of", "fewest_cuts",
  "_law_taken", "_law_pick", "_law_alike", "_law_film", "_law_next", "_law_all", "_law_drawn", "_law_goal", "_law_cuts", "_law_after"]
abbrev R : PySem.W.OpenRow := PySem.W.OpenLaw.row PySem.Challenge.rw_jumpcuts_k20_whole_prices
abbrev tfL : List He.Defn := [("law", none)]
abbrev hk : PySem.W.Hook := He.hookX 4 faL fnL [] tfL (fun _ => true)
def ob (s : PySem.W.SharedT) : He.AlX := He.obsX 4 faL fnL [] tfL (fun _ => true) (HandSHeadRun.getT s)
theorem ob_eq (s : PySem.W.SharedT) : ob s = hk.obs s.abs := He.obsX_eq (HandSHeadRun.getT_eq s)
theorem run (w : World) : HandSHeadRun.RunEq R (PySem.W.view R.prog [31]) hk ob 3000 looseL w := by
  intro os
  kernel_rfl
end Jc
namespace Jc
open PySem PySem.Spec PyProof.Rows L2
theorem law_at {l : PySem.W.OpenLaw} {w : World} {K : PySem.W.Frag} {h : Heap} {mg : Str → Option Value} {f : Addr} (X : K.In h) (G : h.Ns mainGlobals mg) (hfa : mg ("law" : Str) = some (.ref f)) (c : He.SaysX faL fnL [] tfL (fun _ => true) w h K) : LamX.LawAtS l w K CX0 5 63 "_law_script" mg f h := by
  obtain ⟨di, Fi⟩ := c.t.d.def_ 0 (d := dd "is_int" sIsInt) rfl
  obtain ⟨df, Ff⟩ := c.t.d.def_ 1 (d := dd "is_from" sIsFrom) rfl
  obtain ⟨dnf, Fnf⟩ := c.t.d.def_ 2 (d := dd "need_film" sNeedFilm) rfl
  obtain ⟨dns, Fns⟩ := c.t.d.def_ 3 (d := dd "need_short" sNeedShort) rfl
  obtain ⟨dnp, Fnp⟩ := c.t.d.def_ 4 (d := dd "need_prices" sNeedPrices) rfl
  obtain ⟨dlp, Flp⟩ := c.t.d.def_ 5 (d := dd "least_prices" sLeast) rfl
  obtain ⟨dch, Fch⟩ := c.t.d.def_ 6 (d := dd "cheapest" sCheapest) rfl
  obtain ⟨dfo, Ffo⟩ := c.t.d.def_ 7 (d := dd "fewest_of" sFewestOf) rfl
  obtain ⟨dfc, Ffc⟩ := c.t.d.def_ 8 (d := dd "fewest_cuts" sFewest) rfl
  obtain ⟨dtk, Ftk⟩ := c.t.d.def_ 9 (d := dd "_law_taken" sTaken) rfl
  obtain ⟨dpk, Fpk⟩ := c.t.d.def_ 10 (d := dd "_law_pick" sPick) rfl
  obtain ⟨dal, Fal⟩ := c.t.d.def_ 11 (d := dd "_law_alike" sAlike) rfl
  obtain ⟨dfm, Ffm⟩ := c.t.d.def_ 12 (d := dd "_law_film" sFilm) rfl
  obtain ⟨dnx, Fnx⟩ := c.t.d.def_ 13 (d := dd "_law_next" sNext) rfl
  obtain ⟨dall, Fall⟩ := c.t.d.def_ 14 (d := dd "_law_all" sAll) rfl
  obtain ⟨ddr, Fdr⟩ := c.t.d.def_ 15 (d := dd "_law_drawn" sDrawn) rfl
  obtain ⟨dgo, Fgo⟩ := c.t.d.def_ 16 (d := dd "_law_goal" sGoal) rfl
  obtain ⟨dcu, Fcu⟩ := c.t.d.def_ 17 (d := dd "_law_cuts" sCuts) rfl
  obtain ⟨daf, Faf⟩ := c.t.d.def_ 18 (d := dd "_law_after" sAfter) rfl
  obtain ⟨fd, F⟩ := c.t.d.def_ 19 (d := dd "law" sLaw) rfl
  have T : Bts mg := ⟨He.free_ok X G (c.t.d.fact 23 (f := .free "isinstance") rfl), He.free_ok X G (c.t.d.fact 24 (f := .free "int") rfl), He.free_ok X G (c.t.d.fact 25 (f := .free "bool") rfl), He.free_ok X G (c.t.d.fact 26 (f := .free "str") rfl), He.free_ok X G (c.t.d.fact 27 (f := .free "tuple") rfl), He.free_ok X G (c.t.d.fact 28 (f := .free "list") rfl), He.free_ok X G (c.t.d.fact 29 (f := .free "len") rfl), He.free_ok X G (c.t.d.fact 30 (f := .free "enumerate") rfl), He.free_ok X G (c.t.d.fact 31 (f := .free "max") rfl), He.free_ok X G (c.t.d.fact 32 (f := .free "min") rfl), He.free_ok X G (c.t.d.fact 33 (f := .free "all") rfl), He.free_ok X G (c.t.d.fact 34 (f := .free "range") rfl), He.free_ok X G (c.t.d.fact 35 (f := .free "sorted") rfl)⟩
  obtain ⟨t2, gL⟩ := He.str_ok X G (c.t.d.fact 20 (f := .str "LETTERS" "abcdefgh") rfl)
  obtain ⟨t1, gM⟩ := He.int_ok X G (c.t.d.fact 21 (f := .int "MOST_FILM" 200) rfl)
  obtain ⟨t3, gP⟩ := He.int_ok X G (c.t.d.fact 22 (f := .int "MOST_PRICED" 12) rfl)
  have e := hfa.symm.trans (He.glo_ok X G (c.t.d.fact 19 (f := .glo "law") rfl))
  cases e
  have b := FunD.bindsA (ps := ["_law_script"]) F fun _ _ _ _ _ _ us hl => match us, hl with | [_], _ => rfl
  have one : ∀ {p : Addr × Addr}, p ∈ [He.cT K ("law", none)] → p = He.cT K ("law", none) := fun hp => List.mem_singleton.mp hp
  have ml : (("law", none) : He.Defn) ∈ tfL := List.mem_singleton.mpr rfl
  refine ⟨fd, [He.cT K ("law", none)], spLaw K (He.cT K ("law", none)).2, fun p hp => ?_, fun p hp => ?_, fun p hp => ?_, fun s v => b s [v] rfl, fun H a ns _ _ hT hS => ⟨a, ns, rfl, hS, hT _ (List.mem_singleton.mpr rfl), fun _ => rfl⟩, fun base hX hG hB => ?_⟩
  · rw [one hp]
    exact c.empty _ ml
  · rw [one hp]
    exact c.out _ ml
  · rw [one hp]
    exact PySem.W.codeHd_of_K X (c.hd _ ml)
  · exact ok_law F rfl (hB _ (List.mem_singleton.mpr rfl)) T gM gL gP Fi (He.glo_ok X G (c.t.d.fact 0 (f := .glo "is_int") rfl)) Ff (He.glo_ok X G (c.t.d.fact 1 (f := .glo "is_from") rfl)) Fnf (He.glo_ok X G (c.t.d.fact 2 (f := .glo "need_film") rfl)) Fns (He.glo_ok X G (c.t.d.fact 3 (f := .glo "need_short") rfl)) Fnp (He.glo_ok X G (c.t.d.fact 4 (f := .glo "need_prices") rfl)) Flp (He.glo_ok X G (c.t.d.fact 5 (f := .glo "least_prices") rfl)) Fch (He.glo_ok X G (c.t.d.fact 6 (f := .glo "cheapest") rfl)) Ffo (He.glo_ok X G (c.t.d.fact 7 (f := .glo "fewest_of") rfl)) Ffc (He.glo_ok X G (c.t.d.fact 8 (f := .glo "fewest_cuts") rfl)) Ftk (He.glo_ok X G (c.t.d.fact 9 (f := .glo "_law_taken") rfl)) Fpk (He.glo_ok X G (c.t.d.fact 10 (f := .glo "_law_pick") rfl)) Fal (He.glo_ok X G (c.t.d.fact 11 (f := .glo "_law_alike") rfl)) Ffm (He.glo_ok X G (c.t.d.fact 12 (f := .glo "_law_film") rfl)) Fnx (He.glo_ok X G (c.t.d.fact 13 (f := .glo "_law_next") rfl)) Fall (He.glo_ok X G (c.t.d.fact 14 (f := .glo "_law_all") rfl)) Fdr (He.glo_ok X G (c.t.d.fact 15 (f := .glo "_law_drawn") rfl)) Fgo (He.glo_ok X G (c.t.d.fact 16 (f := .glo "_law_goal") rfl)) Fcu (He.glo_ok X G (c.t.d.fact 17 (f := .glo "_law_cuts") rfl)) Faf (He.glo_ok X G (c.t.d.fact 18 (f := .glo "_law_after") rfl))
end Jc
open PySem PySem.W PySem.Calls PyProof.Rows
theorem PySem.Challenge.cw_jumpcuts_k20_whole_prices_holds : PySem.Challenge.rw_jumpcuts_k20_whole_prices.Holds := by
  w_on; o_law
  refine HandSHeadRun.head_any (r := OpenLaw.row PySem.Challenge.rw_jumpcuts_k20_whole_prices) (q := view (OpenLaw.row PySem.Challenge.rw_jumpcuts_k20_whole_prices).prog [31]) (H := Jc.hk) (ob := Jc.ob) (M := 3000) (loose := Jc.looseL) (d := HandSHeadRun.topDef (OpenLaw.row PySem.Challenge.rw_jumpcuts_k20_whole_prices).prog 31) (kwd := []) Jc.ob_eq
    (by kernel_rfl) (fun s => by kernel_rfl) Jc.run (by kernel_rfl) (by kernel_rfl) (by kernel_rfl) (by rfl) (by first | assumption | decide +kernel) (by decide +kernel) ⟨rfl, rfl, rfl, rfl, rfl, by decide +kernel⟩ ?hw ?hc
  case hw => w_witness2
  case hc =>
    refine LamX.walk_ofTsE (l := PySem.Challenge.rw_jumpcuts_k20_whole_prices) (n := 63) (k := 5) (x := "_law_script") (CX := fun _ => L2.CX0) rfl (by decide) (by kernel_rfl) ⟨rfl, by decide, by decide⟩ ?F (fun _ _ _ _ _ z => z)
    intro w mg fa h Y G hmg0
    obtain ⟨K, KX, c⟩ := Y
    have hmg : mg ("law" : PySem.Str) = some (.ref fa) := by
      have e : (HandSHeadRun.topDef (OpenLaw.row PySem.Challenge.rw_jumpcuts_k20_whole_prices).prog 31).name = ("law" : PySem.Str) := by kernel_rfl
      rw [← e]
      exact hmg0
    exact ⟨K, KX, Jc.law_at KX G hmg c⟩
