import PyProof.Rows.All
import Wide.All
import OpenK.AllK
import Wide.FinOn
import KE.KDictDisplayH
import HandS.ForMost
import HandS.Property
import HandS.Strs
import HandS.SetFor
import HandS.TupAny
import HandS.TupLe
import HandS.Codes
import HandS.IsInst
import PySem.Challenge.RW_sumsplay_k18_whole_partial_order
set_option Elab.async false
set_option linter.all false
set_option maxRecDepth 100000
set_option maxHeartbeats 4000000
/-! Two games' order is a partial order: the given law over the given program, by hand over the hand layer. -/
/-! The order of games by their numbers, without any program: Y tells the left and right options of each number, all of them below it. -/
namespace Gm
abbrev Fm := List Nat × List Nat
abbrev Yd := List Fm
def lo (Y : Yd) (n : Nat) : List Nat := (Y.getD n ([], [])).1
def ro (Y : Yd) (n : Nat) : List Nat := (Y.getD n ([], [])).2
/-- every option lies below its game -/
def Low (Y : Yd) : Prop := ∀ n x, (x ∈ lo Y n ∨ x ∈ ro Y n) → x < n
def geF (Y : Yd) : Nat → Nat → Nat → Bool
  | 0, _, _ => true
  | f + 1, a, b => (ro Y a).all (fun r => !geF Y f b r) && (lo Y b).all (fun l => !geF Y f l a)
def ge (Y : Yd) (a b : Nat) : Bool := geF Y (a + b + 1) a b
theorem all_congr {α : Type} {p q : α → Bool} {l : List α} (h : ∀ x ∈ l, p x = q x) : l.all p = l.all q := by
  induction l with
  | nil => rfl
  | cons x r ih =>
    rw [List.all_cons, List.all_cons, h x List.mem_cons_self, ih fun y hy => h y (List.mem_cons_of_mem _ hy)]
theorem geF_more {Y : Yd} (h : Low Y) : ∀ f g a b, a + b < f → a + b < g → geF Y f a b = geF Y g a b := by
  intro f
  induction f with
  | zero => intro g a b hf; omega
  | succ f ih =>
    intro g a b hf hg
    cases g with
    | zero => omega
    | succ g =>
      show ((ro Y a).all (fun r => !geF Y f b r) && (lo Y b).all (fun l => !geF Y f l a)) = ((ro Y a).all (fun r => !geF Y g b r) && (lo Y b).all (fun l => !geF Y g l a))
      congr 1
      · refine all_congr fun r hr => ?_
        have := h a r (.inr hr)
        rw [ih g b r (by omega) (by omega)]
      · refine all_congr fun l hl => ?_
        have := h b l (.inl hl)
        rw [ih g l a (by omega) (by omega)]
theorem ge_eq {Y : Yd} (h : Low Y) (a b : Nat) : ge Y a b = ((ro Y a).all (fun r => !ge Y b r) && (lo Y b).all (fun l => !ge Y l a)) := by
  show ((ro Y a).all (fun r => !geF Y (a + b) b r) && (lo Y b).all (fun l => !geF Y (a + b) l a)) = _
  congr 1
  · refine all_congr fun r hr => ?_
    have := h a r (.inr hr)
    unfold ge
    rw [geF_more h (a + b) (b + r + 1) b r (by omega) (by omega)]
  · refine all_congr fun l hl => ?_
    have := h b l (.inl hl)
    unfold ge
    rw [geF_more h (a + b) (l + a + 1) l a (by omega) (by omega)]
theorem ge_iff {Y : Yd} (h : Low Y) (a b : Nat) : ge Y a b = true ↔ (∀ r ∈ ro Y a, ge Y b r = false) ∧ (∀ l ∈ lo Y b, ge Y l a = false) := by
  rw [ge_eq h a b, Bool.and_eq_true, List.all_eq_true, List.all_eq_true]
  constructor
  · rintro ⟨h1, h2⟩
    exact ⟨fun r hr => by simpa using h1 r hr, fun l hl => by simpa using h2 l hl⟩
  · rintro ⟨h1, h2⟩
    exact ⟨fun r hr => by simp [h1 r hr], fun l hl => by simp [h2 l hl]⟩
theorem ge_false_r {Y : Yd} (h : Low Y) {a b r : Nat} (hr : r ∈ ro Y a) (g : ge Y b r = true) : ge Y a b = false := by
  cases e : ge Y a b with
  | false => rfl
  | true =>
    have := ((ge_iff h a b).mp e).1 r hr
    rw [g] at this
    cases this
theorem ge_false_l {Y : Yd} (h : Low Y) {a b l : Nat} (hl : l ∈ lo Y b) (g : ge Y l a = true) : ge Y a b = false := by
  cases e : ge Y a b with
  | false => rfl
  | true =>
    have := ((ge_iff h a b).mp e).2 l hl
    rw [g] at this
    cases this
theorem ge_refl {Y : Yd} (h : Low Y) : ∀ n a, a < n → ge Y a a = true := by
  intro n
  induction n with
  | zero => intro a ha; omega
  | succ n ih =>
    intro a ha
    refine (ge_iff h a a).mpr ⟨fun r hr => ?_, fun l hl => ?_⟩
    · have := h a r (.inr hr)
      exact ge_false_r h hr (ih r (by omega))
    · have := h a l (.inl hl)
      exact ge_false_l h hl (ih l (by omega))
theorem refl {Y : Yd} (h : Low Y) (a : Nat) : ge Y a a = true := ge_refl h (a + 1) a (Nat.lt_succ_self a)
theorem not_l {Y : Yd} (h : Low Y) {a l : Nat} (hl : l ∈ lo Y a) : ge Y l a = false := ge_false_l h hl (refl h l)
theorem not_r {Y : Yd} (h : Low Y) {a r : Nat} (hr : r ∈ ro Y a) : ge Y a r = false := ge_false_r h hr (refl h r)
theorem trans_n {Y : Yd} (h : Low Y) : ∀ n a b c, a + b + c < n → ge Y a b = true → ge Y b c = true → ge Y a c = true := by
  intro n
  induction n with
  | zero => intro a b c hn; omega
  | succ n ih =>
    intro a b c hn h1 h2
    refine (ge_iff h a c).mpr ⟨fun r hr => ?_, fun l hl => ?_⟩
    · have hlt := h a r (.inr hr)
      cases e : ge Y c r with
      | false => rfl
      | true =>
        have q := ih b c r (by omega) h2 e
        rw [((ge_iff h a b).mp h1).1 r hr] at q
        cases q
    · have hlt := h c l (.inl hl)
      cases e : ge Y l a with
      | false => rfl
      | true =>
        have q := ih l a b (by omega) e h1
        rw [((ge_iff h b c).mp h2).2 l hl] at q
        cases q
theorem trans {Y : Yd} (h : Low Y) {a b c : Nat} (h1 : ge Y a b = true) (h2 : ge Y b c = true) : ge Y a c = true := trans_n h (a + b + c + 1) a b c (Nat.lt_succ_self _) h1 h2

/-! ### the turned games -/
/-- each pair: a game and the one turned -/
def Tok (Y : Yd) (T : List (Nat × Nat)) : Prop := ∀ g t, (g, t) ∈ T →
  (∀ x, x ∈ lo Y t ↔ ∃ r ∈ ro Y g, (r, x) ∈ T) ∧ (∀ x, x ∈ ro Y t ↔ ∃ l ∈ lo Y g, (l, x) ∈ T) ∧ ∀ o, (o ∈ lo Y g ∨ o ∈ ro Y g) → ∃ x, (o, x) ∈ T
theorem turn_n {Y : Yd} (h : Low Y) {T : List (Nat × Nat)} (k : Tok Y T) : ∀ n a ta b tb, a + b < n → (a, ta) ∈ T → (b, tb) ∈ T → ge Y a b = ge Y tb ta := by
  intro n
  induction n with
  | zero => intro a ta b tb hn; omega
  | succ n ih =>
    intro a ta b tb hn ha hb
    obtain ⟨a1, a2, a3⟩ := k a ta ha
    obtain ⟨b1, b2, b3⟩ := k b tb hb
    have one : ge Y a b = true → ge Y tb ta = true := fun g => by
      obtain ⟨g1, g2⟩ := (ge_iff h a b).mp g
      refine (ge_iff h tb ta).mpr ⟨fun r hr => ?_, fun l hl => ?_⟩
      · obtain ⟨l, hl, e⟩ := (b2 r).mp hr
        have := h b l (.inl hl)
        rw [← ih l r a ta (by omega) e ha]
        exact g2 l hl
      · obtain ⟨r, hr, e⟩ := (a1 l).mp hl
        have := h a r (.inr hr)
        rw [← ih b tb r l (by omega) hb e]
        exact g1 r hr
    have two : ge Y tb ta = true → ge Y a b = true := fun g => by
      obtain ⟨g1, g2⟩ := (ge_iff h tb ta).mp g
      refine (ge_iff h a b).mpr ⟨fun r hr => ?_, fun l hl => ?_⟩
      · obtain ⟨x, e⟩ := a3 r (.inr hr)
        have := h a r (.inr hr)
        rw [ih b tb r x (by omega) hb e]
        exact g2 x ((a1 x).mpr ⟨r, hr, e⟩)
      · obtain ⟨x, e⟩ := b3 l (.inl hl)
        have := h b l (.inl hl)
        rw [ih l x a ta (by omega) e ha]
        exact g1 x ((b2 x).mpr ⟨l, hl, e⟩)
    cases e1 : ge Y a b with
    | true => exact (one e1).symm
    | false =>
      cases e2 : ge Y tb ta with
      | false => rfl
      | true =>
        rw [two e2] at e1
        cases e1
theorem turn {Y : Yd} (h : Low Y) {T : List (Nat × Nat)} (k : Tok Y T) {a ta b tb : Nat} (ha : (a, ta) ∈ T) (hb : (b, tb) ∈ T) : ge Y a b = ge Y tb ta := turn_n h k (a + b + 1) a ta b tb (Nat.lt_succ_self _) ha hb

/-! ### a yard that grows -/
theorem lo_app {Y Z : Yd} {n : Nat} (h : n < Y.length) : lo (Y ++ Z) n = lo Y n := by
  unfold lo
  rw [List.getD_eq_getElem?_getD, List.getD_eq_getElem?_getD, List.getElem?_append_left h]
theorem ro_app {Y Z : Yd} {n : Nat} (h : n < Y.length) : ro (Y ++ Z) n = ro Y n := by
  unfold ro
  rw [List.getD_eq_getElem?_getD, List.getD_eq_getElem?_getD, List.getElem?_append_left h]
theorem lo_of {Y : Yd} {n : Nat} {f : Fm} (h : Y[n]? = some f) : lo Y n = f.1 := by
  unfold lo
  rw [List.getD_eq_getElem?_getD, h]
  rfl
theorem ro_of {Y : Yd} {n : Nat} {f : Fm} (h : Y[n]? = some f) : ro Y n = f.2 := by
  unfold ro
  rw [List.getD_eq_getElem?_getD, h]
  rfl
theorem lo_out {Y : Yd} {n : Nat} (h : Y.length ≤ n) : lo Y n = [] := by
  unfold lo
  rw [List.getD_eq_getElem?_getD, List.getElem?_eq_none_iff.mpr h]
  rfl
theorem ro_out {Y : Yd} {n : Nat} (h : Y.length ≤ n) : ro Y n = [] := by
  unfold ro
  rw [List.getD_eq_getElem?_getD, List.getElem?_eq_none_iff.mpr h]
  rfl
theorem low_in {Y : Yd} (h : Low Y) {n x : Nat} (hx : x ∈ lo Y n ∨ x ∈ ro Y n) : n < Y.length := by
  by_cases e : n < Y.length
  · exact e
  · rw [lo_out (by omega), ro_out (by omega)] at hx
    simp at hx
theorem low_one : Low [([], [])] := by
  intro n x hx
  cases n with
  | zero => simp [lo, ro] at hx
  | succ n => simp [lo, ro] at hx
theorem low_snoc {Y : Yd} (h : Low Y) {f : Fm} (hf : ∀ x, (x ∈ f.1 ∨ x ∈ f.2) → x < Y.length) : Low (Y ++ [f]) := by
  intro n x hx
  by_cases e : n < Y.length
  · rw [lo_app e, ro_app e] at hx
    exact h n x hx
  · by_cases e2 : n = Y.length
    · subst e2
      have q : (Y ++ [f])[Y.length]? = some f := by simp
      rw [lo_of q, ro_of q] at hx
      exact hf x hx
    · have q : (Y ++ [f]).length ≤ n := by simp; omega
      rw [lo_out q, ro_out q] at hx
      simp at hx
theorem tok_app {Y Z : Yd} {T : List (Nat × Nat)} (k : Tok Y T) (hT : ∀ e ∈ T, e.1 < Y.length ∧ e.2 < Y.length) : Tok (Y ++ Z) T := by
  intro g t ht
  obtain ⟨h1, h2⟩ := hT _ ht
  obtain ⟨k1, k2, k3⟩ := k g t ht
  rw [lo_app h1, ro_app h1, lo_app h2, ro_app h2]
  exact ⟨k1, k2, k3⟩
/-- a new pair, whose options' pairs stand -/
theorem tok_snoc {Y : Yd} (hl : Low Y) {T : List (Nat × Nat)} (k : Tok Y T) {g t : Nat} (hg : ∀ x, (g, x) ∉ T)
    (h1 : ∀ x, x ∈ lo Y t ↔ ∃ r ∈ ro Y g, (r, x) ∈ T) (h2 : ∀ x, x ∈ ro Y t ↔ ∃ l ∈ lo Y g, (l, x) ∈ T) (h3 : ∀ o, (o ∈ lo Y g ∨ o ∈ ro Y g) → ∃ x, (o, x) ∈ T) : Tok Y (T ++ [(g, t)]) := by
  have no : ∀ {a u : Nat}, (a, u) ∈ T → ∀ o, (o ∈ lo Y a ∨ o ∈ ro Y a) → o ≠ g := fun {a u} ha o ho e => by
    obtain ⟨x, hx⟩ := (k a u ha).2.2 o ho
    rw [e] at hx
    exact hg x hx
  have nog : ∀ o, (o ∈ lo Y g ∨ o ∈ ro Y g) → o ≠ g := fun o ho e => by
    have := hl g o ho
    omega
  have ext : ∀ o x, o ≠ g → ((o, x) ∈ T ++ [(g, t)] ↔ (o, x) ∈ T) := fun o x ne => by
    rw [List.mem_append, List.mem_singleton]
    constructor
    · rintro (h | h)
      · exact h
      · cases h
        exact absurd rfl ne
    · exact .inl
  intro a u ha
  have main : (∀ x, x ∈ lo Y u ↔ ∃ r ∈ ro Y a, (r, x) ∈ T) ∧ (∀ x, x ∈ ro Y u ↔ ∃ l ∈ lo Y a, (l, x) ∈ T) ∧ (∀ o, (o ∈ lo Y a ∨ o ∈ ro Y a) → ∃ x, (o, x) ∈ T) ∧ (∀ o, (o ∈ lo Y a ∨ o ∈ ro Y a) → o ≠ g) := by
    rcases List.mem_append.mp ha with h | h
    · obtain ⟨q1, q2, q3⟩ := k a u h
      exact ⟨q1, q2, q3, no h⟩
    · cases List.mem_singleton.mp h
      exact ⟨h1, h2, h3, nog⟩
  obtain ⟨q1, q2, q3, q4⟩ := main
  refine ⟨fun x => (q1 x).trans ⟨?_, ?_⟩, fun x => (q2 x).trans ⟨?_, ?_⟩, fun o ho => ?_⟩
  · rintro ⟨r, hr, e⟩
    exact ⟨r, hr, (ext r x (q4 r (.inr hr))).mpr e⟩
  · rintro ⟨r, hr, e⟩
    exact ⟨r, hr, (ext r x (q4 r (.inr hr))).mp e⟩
  · rintro ⟨r, hr, e⟩
    exact ⟨r, hr, (ext r x (q4 r (.inl hr))).mpr e⟩
  · rintro ⟨r, hr, e⟩
    exact ⟨r, hr, (ext r x (q4 r (.inl hr))).mp e⟩
  · obtain ⟨x, e⟩ := q3 o ho
    exact ⟨x, List.mem_append_left _ e⟩

/-! ### counting -/
theorem nodup_le : ∀ (n : Nat) (l : List Nat), l.Nodup → (∀ x ∈ l, x < n) → l.length ≤ n := by
  intro n
  induction n with
  | zero =>
    intro l _ h
    cases l with
    | nil => exact Nat.le_refl _
    | cons x r => exact absurd (h x List.mem_cons_self) (Nat.not_lt_zero _)
  | succ n ih =>
    intro l hn h
    have h1 := ih (l.erase n) (hn.erase n) (fun x hx => by
      have a := h x (List.mem_of_mem_erase hx)
      have b : x ≠ n := fun e => by
        subst e
        exact (hn.not_mem_erase) hx
      omega)
    have h2 : l.length ≤ (l.erase n).length + 1 := by
      rw [List.length_erase]
      split <;> omega
    omega
end Gm
/-! A dict whose keys are pairs of tuples of numbers, tracked: NO. -/
namespace Nd
open PySem PySem.Spec PyProof.Rows L2 Gm
def nI (n : Nat) : NestedKey := .num (n : Int)
def vI (n : Nat) : V := .int (n : Int)
/-- a form as a key -/
def keyF (f : Fm) : NestedKey := .tup [.tup (f.1.map nI), .tup (f.2.map nI)]
theorem nI_map_inj : ∀ {a b : List Nat}, a.map nI = b.map nI → a = b
  | [], [], _ => rfl
  | [], _ :: _, h => by cases h
  | _ :: _, [], h => by cases h
  | x :: a, y :: b, h => by
    have h1 : nI x :: a.map nI = nI y :: b.map nI := h
    injection h1 with h1 h2
    unfold nI at h1
    injection h1 with h3
    rw [Int.ofNat_inj.mp h3, nI_map_inj h2]
theorem keyF_inj {f g : Fm} (h : keyF f = keyF g) : f = g := by
  unfold keyF at h
  injection h with h
  injection h with h1 h2
  injection h2 with h2 _
  injection h1 with h1
  injection h2 with h2
  exact Prod.ext (nI_map_inj h1) (nI_map_inj h2)
/-- at b stands the tuple of a form's two tuples -/
def KeyAt (H : Hp) (f : Fm) (b : Addr) : Prop := ∃ b1 b2, H b = some (.tup [.ref b1, .ref b2]) ∧ H b1 = some (.tup (f.1.map vI)) ∧ H b2 = some (.tup (f.2.map vI))
theorem KeyAt.keeps {H H' : Hp} {f : Fm} {b : Addr} (k : KeyAt H f b) (h : ∀ c xs, H c = some (.tup xs) → H' c = some (.tup xs)) : KeyAt H' f b := by
  obtain ⟨b1, b2, h0, h1, h2⟩ := k
  exact ⟨b1, b2, h _ _ h0, h _ _ h1, h _ _ h2⟩
theorem nums_are {h : Heap} : ∀ {l : List Nat} {us : List Value}, Vals (l.map vI) us → NestedAll h (l.map nI) us
  | [], _, .nil => .nil
  | x :: l, _, .cons r t => by
    obtain ⟨k, rfl⟩ := r
    exact .cons (.int _ k) (nums_are t)
theorem flat_depth : ∀ l : List Nat, NestedKey.depthAll (l.map nI) = 0
  | [] => rfl
  | x :: l => by
    show max (NestedKey.depth (nI x)) (NestedKey.depthAll (l.map nI)) = 0
    rw [flat_depth l]
    rfl
theorem keyF_depth (f : Fm) : (keyF f).depth ≤ 8 := by
  show max (NestedKey.depthAll (f.1.map nI) + 1) (max (NestedKey.depthAll (f.2.map nI) + 1) 0) + 1 ≤ 8
  rw [flat_depth, flat_depth]
  decide
section
variable {P : Program} {w : World} {H : Hp} {h : Heap} {a b : Addr} {f : Fm}
theorem tup_in {l : List Nat} (ok : HOk P w H h) (e : H b = some (.tup (l.map vI))) : NestedIs h (.tup (l.map nI)) (.ref b) := by
  obtain ⟨_, its, r, o, h1, h2, n, h3⟩ := (show ObjOk P w H h b (.tup (l.map vI)) from ok b _ e)
  exact .tup h1 h2 h3 (by simpa using nums_are r)
theorem key_in (ok : HOk P w H h) (k : KeyAt H f b) : (nestedKind P w).is h (keyF f) b := by
  obtain ⟨b1, b2, e0, e1, e2⟩ := k
  obtain ⟨_, its, r, o, h1, h2, n, h3⟩ := (show ObjOk P w H h b (.tup [.ref b1, .ref b2]) from ok b _ e0)
  refine ⟨.tup h1 h2 h3 ?_, keyF_depth f⟩
  cases r with
  | cons r1 t =>
    cases r1
    cases t with
    | cons r2 t =>
      cases r2
      cases t
      exact .cons (tup_in ok e1) (.cons (tup_in ok e2) .nil)
end
/-- an entry: the form, where its key's tuple stands, the value -/
abbrev NE := Fm × Addr × V
def NRel (p : NE) (q : NestedKey × Addr × Value) : Prop := q.1 = keyF p.1 ∧ q.2.1 = p.2.1 ∧ RelV p.2.2 q.2.2
abbrev NR : List NE → List (NestedKey × Addr × Value) → Prop := Paired NRel
def NPhi (P : Program) (w : World) (a : Addr) (kvs : List NE) (h : Heap) : Prop := kvs.length ≤ sizeLine ∧ (a == sysModules) = false ∧ ∃ xs, NR kvs xs ∧
  ∃ o es ep, h.get? a = some o ∧ o.ExactDict ∧ o.data = .dict es ep ∧ es.toList = xs.map (entryOfKey (nestedKind P w)) ∧ (xs.map (·.1)).Nodup
/-- the dict at a, tracked by its own object; the keys' tuples are tracked besides -/
def NO (P : Program) (w : World) (a : Addr) (kvs : List NE) : HO := .ext (NPhi P w a kvs)
/-- the keys stand -/
def Keys (H : Hp) (kvs : List NE) : Prop := ∀ e ∈ kvs, KeyAt H e.1 e.2.1
theorem Keys.keeps {H H' : Hp} {kvs : List NE} (k : Keys H kvs) (h : ∀ c xs, H c = some (.tup xs) → H' c = some (.tup xs)) : Keys H' kvs := fun e he => (k e he).keeps h
/-- what is found at a form -/
def nVal (kvs : List NE) (f : Fm) : Option V := (kvs.find? fun e => decide (e.1 = f)).map (·.2.2)
theorem nVal_in {kvs : List NE} {f : Fm} {v : V} (h : nVal kvs f = some v) : ∃ b, (f, b, v) ∈ kvs := by
  unfold nVal at h
  obtain ⟨e, he, hv⟩ := Option.map_eq_some_iff.mp h
  have h1 := List.mem_of_find?_eq_some he
  have h2 := List.find?_some he
  obtain ⟨g, b, u⟩ := e
  have h3 : g = f := of_decide_eq_true h2
  subst h3
  have h4 : u = v := hv
  subst h4
  exact ⟨b, h1⟩
theorem NR.at_ : ∀ {kvs : List NE} {xs : List (NestedKey × Addr × Value)} (f : Fm), NR kvs xs → RelO (nVal kvs f) ((atKey xs (keyF f)).map (·.2))
  | [], _, f, .nil => True.intro
  | p :: kvs, q :: xs, f, .cons r t => by
    obtain ⟨r1, r2, r3⟩ := r
    have ih := NR.at_ f t
    by_cases e : p.1 = f
    · have e1 : nVal (p :: kvs) f = some p.2.2 := by
        unfold nVal
        rw [List.find?_cons_of_pos (by simp [e])] <;> rfl
      have e2 : atKey (q :: xs) (keyF f) = some q.2 := by
        unfold atKey
        rw [List.find?_cons_of_pos (by simp [r1, e])] <;> rfl
      rw [e1, e2]
      exact r3
    · have e1 : nVal (p :: kvs) f = nVal kvs f := by
        unfold nVal
        rw [List.find?_cons_of_neg (by simp [e])]
      have e2 : atKey (q :: xs) (keyF f) = atKey xs (keyF f) := by
        unfold atKey
        rw [List.find?_cons_of_neg (by
          simp only [decide_eq_true_eq, r1]
          exact fun z => e (keyF_inj z))]
      rw [e1, e2]
      exact ih
theorem relO_isSome {o : Option V} {r : Option Value} (h : RelO o r) : o.isSome = r.isSome := by
  cases o <;> cases r <;> first | rfl | exact False.elim h
theorem NR.snoc {p : NE} {q : NestedKey × Addr × Value} (r : NRel p q) : ∀ {kvs : List NE} {xs : List (NestedKey × Addr × Value)}, NR kvs xs → NR (kvs ++ [p]) (xs ++ [q])
  | _, _, .nil => .cons r .nil
  | _, _, .cons h t => .cons h (NR.snoc r t)
section
variable {P : Program} {w : World} {H : Hp} {h : Heap} {a b : Addr} {f : Fm} {kvs : List NE}
/-- the keys of the entries are keys there -/
theorem keys_all (ok : HOk P w H h) : ∀ {l : List NE} {m : List (NestedKey × Addr × Value)}, Keys H l → NR l m → ∀ x ∈ m, (nestedKind P w).is h x.1 x.2.1
  | _, _, _, .nil => fun _ hx => by cases hx
  | p :: l, q :: m, k, .cons r t => fun x hx => by
    cases hx with
    | head =>
      obtain ⟨r1, r2, _⟩ := r
      rw [r1, r2]
      exact key_in ok (k p List.mem_cons_self)
    | tail _ hx => exact keys_all ok (fun e he => k e (List.mem_cons_of_mem _ he)) t x hx
/-- such a dict is an object there -/
theorem is_there {xs : List (NestedKey × Addr × Value)} (d : h.DictOfH (nestedKind P w) a xs) : ∃ o, h.get? a = some o := by
  obtain ⟨o, _, _, e, _⟩ := d
  exact ⟨o, e⟩
theorem no_of (ok : HOk P w H h) (e : H a = some (NO P w a kvs)) (k : Keys H kvs) : kvs.length ≤ sizeLine ∧ (a == sysModules) = false ∧ ∃ xs, NR kvs xs ∧ h.DictOfH (nestedKind P w) a xs := by
  obtain ⟨⟨z, y, xs, r, o, es, ep, h1, h2, h3, h4, h5⟩, _, _⟩ := (show ObjOk P w H h a (NO P w a kvs) from ok a _ e)
  exact ⟨z, y, xs, r, o, es, ep, h1, h2, h3, h4, keys_all ok k r, h5⟩
theorem no_new {H' : Hp} {h' : Heap} {xs : List (NestedKey × Addr × Value)} (z : kvs.length ≤ sizeLine) (hd : (a == sysModules) = false) (r : NR kvs xs) (dd : h'.DictOfH (nestedKind P w) a xs) : ObjOk P w H' h' a (NO P w a kvs) := by
  obtain ⟨o, es, ep, h1, h2, h3, h4, _, h5⟩ := dd
  refine ⟨⟨z, hd, xs, r, o, es, ep, h1, h2, h3, h4, h5⟩, ⟨o, h1⟩, fun g1 g2 q k => ?_⟩
  obtain ⟨z, hd, xs, r, o, es, ep, h1, h2⟩ := q
  exact ⟨z, hd, xs, r, o, es, ep, k o h1, h2⟩
end
section
variable {X : Cx} {pins : List (Addr × Obj)} {σ : L2.St} {H : Hp} {s : Shared} {a b : Addr} {f : Fm} {kvs : List NE} {A : Around} {E : Value → Shared → Prop}
theorem n_notIn {Q : Value → Shared → Prop} (hu : A.units + 9 < cLine) (I : Inv X pins σ H s) (e : H a = some (NO X.prog X.w a kvs)) (k : Keys H kvs) (kb : KeyAt H f b) (h : ∀ s', Inv X pins σ H s' → Q (.bool (!(nVal kvs f).isSome)) s') :
    wpAny (model X.prog X.w) A (compareOp .NotIn (.ref b) (.ref a)) Q E s := by
  obtain ⟨z, hd, xs, r, dd⟩ := no_of I.hok e k
  refine notIn_keyed (knd := nestedKind X.prog X.w) (k := keyF f) (by show A.units + 1 + 8 < cLine; omega) (key_in I.hok kb) hd ⟨xs, dd, rfl⟩ ?_
  have q := relO_isSome (r.at_ f)
  rw [valueAt_pairsH, ← q]
  exact h _ (I.tok _)
theorem n_get {v : V} {Q : Value → Shared → Prop} (hu : A.units + 9 < cLine) (I : Inv X pins σ H s) (e : H a = some (NO X.prog X.w a kvs)) (k : Keys H kvs) (kb : KeyAt H f b) (hv : nVal kvs f = some v)
    (h : ∀ u s', Inv X pins σ H s' → RelV v u → Q u s') : wpAny (model X.prog X.w) A (getItem (.ref a) (.ref b)) Q E s := by
  obtain ⟨z, hd, xs, r, dd⟩ := no_of I.hok e k
  have q := r.at_ f
  rw [hv] at q
  cases e2 : (atKey xs (keyF f)).map (·.2) with
  | none =>
    rw [e2] at q
    exact False.elim q
  | some u =>
    rw [e2] at q
    exact getItem_keyed (knd := nestedKind X.prog X.w) (k := keyF f) (by show A.units + 1 + 8 < cLine; omega) (key_in I.hok kb) ⟨xs, dd, rfl⟩ (by rw [valueAt_pairsH]; exact e2) (h u _ (I.tok _) q)
theorem n_put {v : V} {u : Value} {Q : Unit → Shared → Prop} (hu : A.units + 9 < cLine) (I : Inv X pins σ H s) (e : H a = some (NO X.prog X.w a kvs)) (k : Keys H kvs) (kb : KeyAt H f b) (hv : nVal kvs f = none) (hl : kvs.length < sizeLine) (rv : RelV v u)
    (h : ∀ s', Inv X pins σ (upd H a (NO X.prog X.w a (kvs ++ [(f, b, v)]))) s' → Q () s') : wpAny (model X.prog X.w) A (setItem (.ref a) (.ref b) u) Q E s := by
  obtain ⟨z, hd, xs, r, dd⟩ := no_of I.hok e k
  have q := relO_isSome (r.at_ f)
  rw [hv, Option.isSome_map] at q
  have hn : atKey xs (keyF f) = none := by
    cases e3 : atKey xs (keyF f) with
    | none => rfl
    | some p =>
      rw [e3] at q
      cases q
  have hz : xs.length ≤ sizeLine := by rw [← Paired.length r]; exact z
  refine wpAny_setItem_heap (knd := nestedKind X.prog X.w) (k := keyF f) (hsz := hz) (by show A.units + 1 + 8 < cLine; omega) (key_in I.hok kb) dd fun h' dd' hs => h _ ?_
  rw [storedH_new hn] at dd'
  exact d_write I (by rw [e]; exact True.intro) hs (is_there dd') (no_new (by rw [List.length_append]; exact hl) hd (NR.snoc ⟨rfl, rfl, rv⟩ r) dd')
end
/-! ### readings and rules -/
/-- y in d, y not in d, d[y], d[y] = v -/
def tNNotIn (X : Cx) (ty td : TE) : TE := fun σ H Q => ty σ H fun y H1 => td σ H1 fun x H2 => ∃ a b f kvs, x = .ref a ∧ y = .ref b ∧ H2 a = some (NO X.prog X.w a kvs) ∧ Keys H2 kvs ∧ KeyAt H2 f b ∧ Q (.bl (!(nVal kvs f).isSome)) H2
def tNGet (X : Cx) (td ty : TE) : TE := fun σ H Q => td σ H fun x H1 => ty σ H1 fun y H2 => ∃ a b f kvs v, x = .ref a ∧ y = .ref b ∧ H2 a = some (NO X.prog X.w a kvs) ∧ Keys H2 kvs ∧ KeyAt H2 f b ∧ nVal kvs f = some v ∧ Q v H2
def sNPut (X : Cx) (td ty tv : TE) : TS := fun D σ H => tv σ H fun v H1 => td σ H1 fun x H2 => ty σ H2 fun y H3 => ∃ a b f kvs, x = .ref a ∧ y = .ref b ∧ H3 a = some (NO X.prog X.w a kvs) ∧ Keys H3 kvs ∧ KeyAt H3 f b ∧ nVal kvs f = none ∧ kvs.length < sizeLine ∧
  D.nx σ (upd H3 a (NO X.prog X.w a (kvs ++ [(f, b, v)])))
def tNDisp (X : Cx) (tk tv : TE) : TE := fun σ H Q => ∀ p, H p = none → tk σ (upd H p (NO X.prog X.w p [])) fun x H1 => tv σ H1 fun y H2 => ∃ b f, x = .ref b ∧ KeyAt H2 f b ∧ H2 p = some (NO X.prog X.w p []) ∧ Q (.ref p) (upd H2 p (NO X.prog X.w p [(f, b, y)]))
section
variable {X : Cx} {o i value : Expr} {pos pos' : Pos} {td ty tv : TE}
theorem pc_nnotin (hu : X.A.units + 9 < cLine) (hi : PE X i ty) (ho : PE X o td) : PC X .NotIn i o (tNNotIn X ty td) := by
  refine ⟨fun pins s σ H Q I h => ?_⟩
  refine thn (hi.run pins s σ H _ I h) fun iv s1 ⟨y, H1, I1, ry, q1⟩ => thn (ho.run pins s1 σ H1 _ I1 q1) fun u s2 ⟨x, H2, I2, rx, a, b, f, kvs, ex, ey, e, k, kb, q2⟩ => ?_
  subst ex ey
  cases rx
  cases ry
  exact n_notIn hu I2 e k kb fun s3 I3 => ⟨.bl _, H2, I3, rfl, q2⟩
theorem pe_nget (hu : X.A.units + 9 < cLine) (ho : PE X o td) (hi : PE X i ty) (hs : NoSl i) : PE X (.Subscript o i pos) (tNGet X td ty) := by
  refine ⟨fun pins s σ H Q I h => ?_⟩
  refine subD_of PySem.F.slot_dict_getitem.lookup hs (thn (ho.run pins s σ H _ I h) fun u s1 ⟨x, H1, I1, rx, q1⟩ => thn (hi.run pins s1 σ H1 _ I1 q1) fun iv s2 ⟨y, H2, I2, ry, a, b, f, kvs, v, ex, ey, e, k, kb, hv, q2⟩ => ?_)
  subst ex ey
  cases rx
  cases ry
  obtain ⟨_, _, xs, _, dd⟩ := no_of I2.hok e k
  exact ⟨dd.typeIs, n_get hu I2 e k kb hv fun w' s3 I3 rw' => ⟨v, H2, I3, rw', q2⟩⟩
theorem ps_nput (hu : X.A.units + 9 < cLine) (ho : PE X o td) (hi : PE X i ty) (hv : PE X value tv) (hs : swapsWith value (some (.Subscript o i pos')) pos.line X.env = pure false) :
    PS X (.Assign [.Subscript o i pos'] value pos) (sNPut X td ty tv) := by
  refine ⟨fun pins s σ H D I h => ?_⟩
  refine wpAny_Assign_Subscript (thn (hv.run pins s σ H _ I h) fun r s1 ⟨v, H1, I1, rv, q1⟩ => thn (ho.run pins s1 σ H1 _ I1 q1) fun u s2 ⟨x, H2, I2, rx, q2⟩ => thn (hi.run pins s2 σ H2 _ I2 q2) fun iv s3 ⟨y, H3, I3, ry, a, b, f, kvs, ex, ey, e, k, kb, hn, hl, q3⟩ => ?_) hs
  subst ex ey
  cases rx
  cases ry
  exact n_put hu I3 e k kb hn hl rv fun s4 I4 => ⟨σ, _, I4, q3⟩
theorem no_empty {P : Program} {w : World} {H : Hp} (h : Heap) (hb : sysModules < h.objs.size) : ObjOk P w H (h.push { cls := .type "dict", data := .dict #[] }) h.objs.size (NO P w h.objs.size []) :=
  no_new (Nat.zero_le _) (beq_eq_false_iff_ne.mpr (Ne.symm (Nat.ne_of_lt hb))) .nil ⟨_, #[], 0, Heap.get?_push_size _ rfl, ⟨rfl, rfl, rfl⟩, rfl, rfl, (fun x hx => nomatch hx), List.nodup_nil⟩
theorem pe_ndisp {k v : Expr} {tk : TE} (hu : X.A.units + 9 < cLine) (hk : PE X k tk) (hv : PE X v tv) : PE X (.Dict [some k] [v] pos) (tNDisp X tk tv) := by
  refine ⟨fun pins s σ H Q I wish => ?_⟩
  have I1 := I.laid (a := s.heap.objs.size) (o := NO X.prog X.w s.heap.objs.size []) (h' := s.heap.push { cls := .type "dict", data := .dict #[] }) (t' := s.toks) (fun _ _ q => Heap.get?_push_of_some _ q) (Nat.le_refl _) (no_empty s.heap I.big)
  rw [arm_eval_Dict, zip_pairTrees _ _ _ _ rfl rfl, dictDisplay_pairs (pairTrees [some k] [v] X.env pos) (fun z => nomatch z) (by show 1 < 17; omega)]
  refine wpAny_bind (wpAny_standAt (wpAny_bind (wpAny_subDictH (knd := nestedKind X.prog X.w) (by show X.A.units + 8 < cLine; omega) (by show 1 ≤ 15; omega) ?_)))
  refine pairTrees_cons_walk (thn (hk.run pins _ σ _ _ I1 (wish _ (I.hok.fresh (Nat.le_refl _)))) fun u s2 ⟨x, H2, I2, rx, q2⟩ => thn (hv.run pins s2 σ H2 _ I2 q2) fun w2 s3 ⟨y, H3, I3, ry, b, f, ex, kb, e, q3⟩ => pairTrees_nil_walk ?_)
  subst ex
  cases rx
  obtain ⟨z, hd, xs, r, dd⟩ := no_of I3.hok e (fun _ he => nomatch he)
  cases r
  refine ⟨[(keyF f, b, w2)], ⟨rfl, rfl, key_in I3.hok kb, True.intro⟩, dd, fun h' tk dd' hs => wpAny_pure ⟨.ref s.heap.objs.size, _, ?_, rfl, q3⟩⟩
  refine d_write I3 (by rw [e]; exact True.intro) hs (is_there dd') (no_new (by rw [sizeLine_eq]; exact Nat.le_of_ble_eq_true rfl) hd (xs := [(keyF f, b, w2)]) (.cons ⟨rfl, rfl, ry⟩ .nil) dd')
end
end Nd
/-! set(xs) of a list of numbers, as the tracked set that sorted takes. -/
namespace Sl
open PySem PySem.Spec PyProof.Rows L2
/-- the set's object just laid -/
abbrev blank (w : World) : Obj := { cls := .type "set", dict := none, data := .set #[] 0 (.fresh 0 0 (!w.params.followText "set-order")) }
section
variable {P : Program} {w : World} {A : Around} {E : Value → Shared → Prop} {s : Shared}
/-- what is wanted behind the filling -/
def Full (w : World) (s : Shared) (ns : List Int) (s2 : Shared) : Prop :=
  ∃ h' tk c, s2 = { s with heap := h', toks := tk } ∧ SetR w h' s.heap.objs.size (fun j => decide (j ∈ ns)) c ∧ c ≤ ns.length ∧ ∀ b o, s.heap.get? b = some o → h'.get? b = some o
/-- set.__init__ of the new set by a list -/
theorem fill {l : Addr} {items : Array Value} {ns : List Int} (hh : A.handled = none) (hl : s.heap.IsList l items) (hit : IntsAre items.toList ns) (hb : ns.length + 1 < scanBound) :
    codeAny (model P w) A (.call (.builtin "set.__init__") ⟨[.ref s.heap.objs.size, .ref l], []⟩) (wants (fun r s2 => r = .none ∧ Full w s ns s2) E) { s with heap := s.heap.push (blank w) } := by
  have isz : items.size = ns.length := by
    rw [← IntsAre.length hit, Array.length_toList]
  have new : (s.heap.push (blank w)).get? s.heap.objs.size = some (blank w) := Heap.get?_push_size _ rfl
  have ty : Shared.TypeIs { s with heap := s.heap.push (blank w) } (.ref s.heap.objs.size) "set" := ⟨_, new, rfl⟩
  refine codeAny_call_builtin F.called_set.init.plain F.entry_set_init (check_set_init_1 ty ?_)
  have lt : l < s.heap.objs.size := let ⟨_, e, _⟩ := hl; Heap.lt_size e
  have far : (s.heap.push (blank w)).objs.size = s.heap.objs.size + 1 := Heap.size_push ..
  have ls : (s.heap.push (blank w)).IsList l items := hl.push _
  obtain ⟨⟨oc, od, odt, osl⟩, o1, o2, n, o3⟩ := id ls
  simp only at o2 o3
  subst o2
  subst o3
  have e1 := F.sub_list_set
  have e2 := F.sub_list_frozenset
  have e3 : (Value.type "list" == Value.type "dict") = false := by decide
  unfold Builtin.«set.__init__»
  unfold noKeywords
  unfold Builtin.Frozenset.updateFrom
  generalize it : pyIter = walk
  wp_walk
  subst it
  refine wpAny_pyIter_list ls (wpAny_bind (wpAny_runValue ?_))
  have h3 : A.in1.in1.handled = none := by simp [hh]
  have n1 : l ≠ (s.heap.push (blank w)).objs.size := by rw [far]; exact Nat.ne_of_lt (Nat.lt_succ_of_lt lt)
  have n2 : s.heap.objs.size ∉ [(s.heap.push (blank w)).objs.size, l] := by
    rw [far]
    intro z
    rcases List.mem_cons.mp z with z | z
    · exact absurd z (Nat.ne_of_lt (Nat.lt_succ_self _))
    · exact absurd (List.mem_singleton.mp z) (Nat.ne_of_gt lt)
  refine set_update_ints (w := w) (Walks.list h3 _ l n1 items).toS s.heap.objs.size n2 ns isz hb (fun i v hv => ?_) (items.size - 0) 0 _ (by omega) (Nat.zero_le _) ?s0 ?st fun s2 c hm hc hS => ?_
  case s0 => exact ⟨⟨_, Heap.get?_push_size _ rfl, rfl, rfl⟩, ls.push _⟩
  case st => exact ⟨0, Nat.le_refl 0, setR_new_at (Heap.get?_push_of_some _ new)⟩
  · have hi : i < ns.length := by rw [← isz]; exact (Array.getElem?_eq_some_iff.mp hv).1
    obtain ⟨t, e⟩ := IntsAre.int_at hit i v (by rw [Array.getElem?_toList]; exact hv)
    have at_i : ns[i]? = some ns[i] := List.getElem?_eq_getElem hi
    have d_i : ns.getD i 0 = ns[i] := by rw [List.getD_eq_getElem?_getD, at_i] <;> rfl
    exact ⟨ns[i], t, at_i, by rw [e, d_i]⟩
  · obtain ⟨h', g2, d2, tk, os2⟩ := s2
    obtain rfl : g2 = s.gens := hm.gens
    obtain rfl : d2 = s.drawn := hm.drawn
    obtain rfl : os2 = s.os := hm.os
    refine wpAny_pure ?_
    refine wpAny_pure ⟨rfl, h', tk, c, rfl, hS, by rw [← isz]; exact hc, fun b o e => ?_⟩
    have b0 := Heap.lt_size e
    refine hm.heap b o (fun z => ?_) (Heap.get?_push_of_some _ (Heap.get?_push_of_some _ e))
    rcases List.mem_cons.mp z with z | z
    · exact absurd z (Nat.ne_of_lt b0)
    · rw [far] at z
      exact absurd (List.mem_singleton.mp z) (Nat.ne_of_lt (Nat.lt_succ_of_lt b0))
/-- set(l) -/
theorem call_set {l : Addr} {items : Array Value} {ns : List Int} {Q : Value → Shared → Prop} (hh : A.handled = none) (hl : s.heap.IsList l items) (hit : IntsAre items.toList ns) (hb : ns.length + 1 < scanBound)
    (h : ∀ s2, Full w s ns s2 → Q (.ref s.heap.objs.size) s2) : wpAny (model P w) A (call (.type "set") [.ref l]) Q E s := by
  obtain ⟨c, tl, hm⟩ := F.called_set.mro
  have m1 := F.called_set.made
  have m2 := F.called_set.sub
  have m3 := F.called_set.notType
  have m4 := F.called_set.canCreate
  have m5 := F.typeCall_set_1 (.ref l)
  have quiet := Code.quiet_builtin (id := "type.__call__") ⟨[.type "set", .ref l], []⟩ (by decide +kernel)
  have light := weight_type_call_type "set" [.ref l] []
  refine wpAny_call (codeAny_of_tree (wpAny_pure ⟨quiet, codeAny_builtin F.entry_type_call ?_⟩))
  rw [Around.under_plain light rfl]
  repeat (any_goals (first | assumption | wp_step))
  refine codeAny_mono (code_set_led1 (.ref l) (E := E) (Q₁ := fun obj z => obj = .ref s.heap.objs.size ∧ z = { s with heap := s.heap.push (blank w) }) ⟨rfl, rfl⟩) fun r z hr => ?_
  cases r with
  | error e => exact hr
  | ok fl =>
    cases fl with
    | ret obj =>
      obtain ⟨rfl, rfl⟩ := hr
      have new : (s.heap.push (blank w)).get? s.heap.objs.size = some (blank w) := Heap.get?_push_size _ rfl
      have ty : Shared.TypeIs { s with heap := s.heap.push (blank w) } (.ref s.heap.objs.size) "set" := ⟨_, new, rfl⟩
      have i1 := F.called_set.init.lookup
      have i2 := F.called_set.init.bind (.ref s.heap.objs.size)
      repeat (any_goals (first | assumption | wp_step))
      refine codeAny_mono (fill (w := w) (s := s) (E := E) (by simp [hh]) hl hit hb) fun r2 s2 hr2 => ?_
      cases r2 with
      | error e => exact hr2
      | ok fl2 =>
        cases fl2 with
        | ret r =>
          obtain ⟨rfl, q⟩ := hr2
          repeat (any_goals (first | assumption | wp_step))
          exact h _ q
        | _ => exact hr2.elim
    | _ => exact hr.elim
end
/-- set(xs), xs a list of numbers -/
def rSetL (X : Cx) : List V → Hp → VK → Prop := fun xs H Q => ∃ (l : Addr) (ns : List Int), xs = [V.ref l] ∧ SqL X.K H l (ns.map V.int) ∧ ns.length ≤ 1000 ∧
  ∀ (p : Addr) (c : Nat), H p = none → c ≤ ns.length → Q (.ref p) (upd H p (SetO X.w p (fun j => decide (j ∈ ns)) c))
theorem cr_setL {X : Cx} (hc : X.calm = true) : CallR X (.type "set") (rSetL X) := by
  intro pins s σ H xs us Q I r h
  obtain ⟨l, ns, rfl, hq, hn, q⟩ := h
  rw [Vals.ref1 r]
  obtain ⟨its, rv, pl, hz⟩ := I.list hq
  refine call_set (I.ok.hd hc) pl.isList (by simpa using ints_of_vals rv) (Nat.lt_of_le_of_lt (Nat.succ_le_succ hn) (by decide)) fun s2 ⟨h', tk, c, e, hS, hc2, hk⟩ => ?_
  subst e
  exact ⟨.ref _, _, I.laid (t' := tk) hk (Nat.le_refl _) (setO_new hS), rfl, q _ c (I.hok.fresh (Nat.le_refl _)) hc2⟩
end Sl
/-! The text by places, the objects: a yard, an order. -/
namespace K18
open PySem L2 Gm Nd
def top (i : Nat) : Stmt := PySem.Challenge.pw_sumsplay_k18_whole_partial_order.main.body.getD i (.Pass ⟨0, 0, 0, 0⟩)
abbrev oInit : Stmt := inClass (top 2) 0
abbrev oYard : Stmt := inClass (top 2) 1
abbrev oAt : Stmt := inClass (top 2) 2
abbrev oAlike : Stmt := inClass (top 2) 4
abbrev oLess : Stmt := inClass (top 2) 5
abbrev oApart : Stmt := inClass (top 2) 6
abbrev oReck : Stmt := inClass (top 2) 10
abbrev yInit : Stmt := inClass (top 7) 0
abbrev yGame : Stmt := inClass (top 7) 2
abbrev yLefts : Stmt := inClass (top 7) 3
abbrev yRights : Stmt := inClass (top 7) 4
abbrev yHeight : Stmt := inClass (top 7) 6
abbrev yTurned : Stmt := inClass (top 7) 8
abbrev yCheck : Stmt := inClass (top 7) 9
abbrev lCell : Stmt := top 9
abbrev lDigits : Stmt := top 10
abbrev lPut : Stmt := top 11
abbrev lDrawn : Stmt := top 12
abbrev lFamily : Stmt := top 13
abbrev lCount : Stmt := top 14
abbrev lBuilt : Stmt := top 15
abbrev lTold : Stmt := top 16
abbrev lTrans : Stmt := top 17
abbrev lOne : Stmt := top 18
abbrev lOpts : Stmt := top 19
abbrev lLaw : Stmt := top 20

/-! ### the yard's object -/
/-- where a yard's parts stand -/
structure YA where
  p : Addr
  dx : Addr
  l : Addr
  r : Addr
  h : Addr
  n : Addr
  t : Addr
def yf (y : YA) : List (Str × V) := putF "_turned" (.ref y.t) (putF "_numbers" (.ref y.n) (putF "_heights" (.ref y.h) (putF "_rights" (.ref y.r) (putF "_lefts" (.ref y.l) []))))
theorem yf_l (y : YA) : (yf y).lookup ("_lefts" : Str) = some (.ref y.l) := by
  unfold yf
  rw [lookup_putF, if_neg (by decide +kernel), lookup_putF, if_neg (by decide +kernel), lookup_putF, if_neg (by decide +kernel), lookup_putF, if_neg (by decide +kernel), lookup_putF, if_pos rfl]
theorem yf_r (y : YA) : (yf y).lookup ("_rights" : Str) = some (.ref y.r) := by
  unfold yf
  rw [lookup_putF, if_neg (by decide +kernel), lookup_putF, if_neg (by decide +kernel), lookup_putF, if_neg (by decide +kernel), lookup_putF, if_pos rfl]
theorem yf_h (y : YA) : (yf y).lookup ("_heights" : Str) = some (.ref y.h) := by
  unfold yf
  rw [lookup_putF, if_neg (by decide +kernel), lookup_putF, if_neg (by decide +kernel), lookup_putF, if_pos rfl]
theorem yf_n (y : YA) : (yf y).lookup ("_numbers" : Str) = some (.ref y.n) := by
  unfold yf
  rw [lookup_putF, if_neg (by decide +kernel), lookup_putF, if_pos rfl]
theorem yf_t (y : YA) : (yf y).lookup ("_turned" : Str) = some (.ref y.t) := by
  unfold yf
  rw [lookup_putF, if_pos rfl]
theorem yf_no (y : YA) {m : Str} (h1 : ¬ m = "_turned") (h2 : ¬ m = "_numbers") (h3 : ¬ m = "_heights") (h4 : ¬ m = "_rights") (h5 : ¬ m = "_lefts") : (yf y).lookup m = none := by
  unfold yf
  rw [lookup_putF, if_neg h1, lookup_putF, if_neg h2, lookup_putF, if_neg h3, lookup_putF, if_neg h4, lookup_putF, if_neg h5] <;> rfl
theorem yf_check (y : YA) : (yf y).lookup ("_check" : Str) = none := yf_no y (by decide +kernel) (by decide +kernel) (by decide +kernel) (by decide +kernel) (by decide +kernel)
theorem yf_game (y : YA) : (yf y).lookup ("game" : Str) = none := yf_no y (by decide +kernel) (by decide +kernel) (by decide +kernel) (by decide +kernel) (by decide +kernel)
theorem yf_turned (y : YA) : (yf y).lookup ("turned" : Str) = none := yf_no y (by decide +kernel) (by decide +kernel) (by decide +kernel) (by decide +kernel) (by decide +kernel)
theorem yf_lefts (y : YA) : (yf y).lookup ("lefts" : Str) = none := yf_no y (by decide +kernel) (by decide +kernel) (by decide +kernel) (by decide +kernel) (by decide +kernel)
theorem yf_rights (y : YA) : (yf y).lookup ("rights" : Str) = none := yf_no y (by decide +kernel) (by decide +kernel) (by decide +kernel) (by decide +kernel) (by decide +kernel)
theorem yf_height (y : YA) : (yf y).lookup ("height" : Str) = none := yf_no y (by decide +kernel) (by decide +kernel) (by decide +kernel) (by decide +kernel) (by decide +kernel)
/-- the parts of a yard that its methods write -/
def Part (y : YA) (b : Addr) : Prop := b = y.l ∨ b = y.r ∨ b = y.h ∨ b = y.n ∨ b = y.t
/-- numbers as a list of values -/
abbrev nums (l : List Nat) : List V := l.map vI
/-- at tl's places stand the tuples of these lists -/
def Tups (H : Hp) (tl : List Addr) (L : List (List Nat)) : Prop := tl.length = L.length ∧ ∀ (i : Nat) (t : Addr) (l : List Nat), tl[i]? = some t → L[i]? = some l → H t = some (.tup (nums l))
theorem Tups.keeps {H H' : Hp} {tl : List Addr} {L : List (List Nat)} (T : Tups H tl L) (h : ∀ c xs, H c = some (.tup xs) → H' c = some (.tup xs)) : Tups H' tl L := ⟨T.1, fun i t l a b => h _ _ (T.2 i t l a b)⟩
theorem Tups.snoc {H : Hp} {tl : List Addr} {L : List (List Nat)} (T : Tups H tl L) {t : Addr} {l : List Nat} (h : H t = some (.tup (nums l))) : Tups H (tl ++ [t]) (L ++ [l]) := by
  refine ⟨by rw [List.length_append, List.length_append, T.1] <;> rfl, fun i u m a b => ?_⟩
  by_cases e : i < tl.length
  · rw [List.getElem?_append_left e] at a
    rw [List.getElem?_append_left (by rw [← T.1]; exact e)] at b
    exact T.2 i u m a b
  · rw [List.getElem?_append_right (by omega)] at a
    rw [List.getElem?_append_right (by rw [← T.1]; omega), ← T.1] at b
    have hi : i - tl.length = 0 := by
      have := (List.getElem?_eq_some_iff.mp a).1
      simp at this
      omega
    rw [hi] at a b
    simp at a b
    subst a b
    exact h
def ent (e : Nat × Nat) : Key × V := (Sum.inl (e.1 : Int), vI e.2)
/-- a yard stands there that keeps the games Y and has turned T -/
structure YardAt (P : Program) (w : World) (C : Addr) (y : YA) (H : Hp) (Y : Yd) (T : List (Nat × Nat)) : Prop where
  ob : H y.p = some (.ins C y.dx (yf y))
  lef : ∃ tl : List Addr, H y.l = some (.lst (tl.map V.ref)) ∧ Tups H tl (Y.map (·.1))
  rig : ∃ tl : List Addr, H y.r = some (.lst (tl.map V.ref)) ∧ Tups H tl (Y.map (·.2))
  hei : ∃ hs : List Int, H y.h = some (.lst (hs.map V.int)) ∧ hs.length = Y.length
  num : ∃ kvs, H y.n = some (NO P w y.n kvs) ∧ Keys H kvs ∧ kvs.length ≤ Y.length ∧ ∀ e ∈ kvs, ∃ i, Y[i]? = some e.1 ∧ e.2.2 = vI i
  tur : H y.t = some (.dK (T.map ent))
  ne1 : y.l ≠ y.r
  ne2 : y.l ≠ y.h
  ne3 : y.r ≠ y.h
  low : Low Y
  tin : ∀ e ∈ T, e.1 < Y.length ∧ e.2 < Y.length
  tnd : (T.map (·.1)).Nodup
  tok : Tok Y T
  pos : 0 < Y.length
  few : ∀ f ∈ Y, f.1.length ≤ 60 ∧ f.2.length ≤ 60
section
variable {P : Program} {w : World} {C : Addr} {y : YA} {H H' : Hp} {Y : Yd} {T : List (Nat × Nat)}
/-- all but the dicts with tuple keys are kept -/
def KeepD (H H' : Hp) : Prop := ∀ b o, H b = some o → (∀ kvs, o ≠ .dT kvs) → H' b = some o
theorem Same.keepD (h : Same H H') : KeepD H H' := fun b o e _ => h b o e
/-- the parts, the tuples and the object itself are kept -/
theorem YardAt.keep3 (S : YardAt P w C y H Y T) (ko : H' y.p = some (.ins C y.dx (yf y))) (kp : ∀ b o, Part y b → H b = some o → H' b = some o) (kt : ∀ c xs, H c = some (.tup xs) → H' c = some (.tup xs)) : YardAt P w C y H' Y T := by
  obtain ⟨tl, l1, l2⟩ := S.lef
  obtain ⟨tr, r1, r2⟩ := S.rig
  obtain ⟨hs, h1, h2⟩ := S.hei
  obtain ⟨kvs, n1, n2, n3⟩ := S.num
  exact ⟨ko, ⟨tl, kp _ _ (.inl rfl) l1, l2.keeps kt⟩, ⟨tr, kp _ _ (.inr (.inl rfl)) r1, r2.keeps kt⟩, ⟨hs, kp _ _ (.inr (.inr (.inl rfl))) h1, h2⟩,
    ⟨kvs, kp _ _ (.inr (.inr (.inr (.inl rfl)))) n1, n2.keeps kt, n3⟩, kp _ _ (.inr (.inr (.inr (.inr rfl)))) S.tur, S.ne1, S.ne2, S.ne3, S.low, S.tin, S.tnd, S.tok, S.pos, S.few⟩
theorem YardAt.keeps (S : YardAt P w C y H Y T) (k : KeepD H H') : YardAt P w C y H' Y T := by
  obtain ⟨tl, l1, _⟩ := S.lef
  obtain ⟨tr, r1, _⟩ := S.rig
  obtain ⟨hs, h1, _⟩ := S.hei
  obtain ⟨kvs, n1, _⟩ := S.num
  refine S.keep3 (k _ _ S.ob fun _ z => (by cases z)) (fun b o hb e => ?_) fun c xs e => k c _ e fun _ z => (by cases z)
  rcases hb with rfl | rfl | rfl | rfl | rfl
  · rw [l1] at e; cases e; exact k _ _ l1 fun _ z => (by cases z)
  · rw [r1] at e; cases e; exact k _ _ r1 fun _ z => (by cases z)
  · rw [h1] at e; cases e; exact k _ _ h1 fun _ z => (by cases z)
  · rw [n1] at e; cases e; exact k _ _ n1 fun _ z => (by cases z)
  · rw [S.tur] at e; cases e; exact k _ _ S.tur fun _ z => (by cases z)
theorem YardAt.same (S : YardAt P w C y H Y T) (k : Same H H') : YardAt P w C y H' Y T := S.keeps (Same.keepD k)
end
/-- all that is no part of the yard is kept -/
def KeepY (y : YA) (H H' : Hp) : Prop := ∀ b o, H b = some o → ¬ Part y b → H' b = some o
theorem KeepY.refl (y : YA) (H : Hp) : KeepY y H H := fun _ _ e _ => e
theorem KeepY.trans {y : YA} {H H1 H2 : Hp} (a : KeepY y H H1) (b : KeepY y H1 H2) : KeepY y H H2 := fun c o e n => b c o (a c o e n) n
theorem KeepY.of {y : YA} {H H' : Hp} (h : Same H H') : KeepY y H H' := fun b o e _ => h b o e
theorem KeepY.new {y : YA} {H H' : Hp} (k : KeepY y H H') {p : Addr} {o : HO} (hp : H' p = none) : KeepY y H (upd H' p o) := fun b u e n => by
  have := k b u e n
  rw [upd_ne (ne_of_none this hp)]
  exact this
theorem KeepY.put {y : YA} {H H' : Hp} (k : KeepY y H H') {p : Addr} {o : HO} (hp : Part y p) : KeepY y H (upd H' p o) := fun b u e n => by
  have nb : b ≠ p := fun z => n (by rw [z]; exact hp)
  rw [upd_ne nb]
  exact k b u e n
theorem Same.new {H H' : Hp} (k : Same H H') {p : Addr} {o : HO} (hp : H' p = none) : Same H (upd H' p o) := fun b u e => by
  have := k b u e
  rw [upd_ne (ne_of_none this hp)]
  exact this
section
variable {P : Program} {w : World} {C : Addr} {y : YA} {H H' : Hp} {Y : Yd} {T : List (Nat × Nat)}
/-- a list, a dict, a thing of one's own -/
def Loose : HO → Prop
  | .lst _ => True
  | .dK _ => True
  | .ext _ => True
  | _ => False
/-- a part is a list, a dict: no tuple, no instance -/
theorem YardAt.part_kind (S : YardAt P w C y H Y T) {b : Addr} (hb : Part y b) : ∃ o, H b = some o ∧ Loose o := by
  obtain ⟨tl, l1, _⟩ := S.lef
  obtain ⟨tr, r1, _⟩ := S.rig
  obtain ⟨hs, h1, _⟩ := S.hei
  obtain ⟨kvs, n1, _⟩ := S.num
  rcases hb with rfl | rfl | rfl | rfl | rfl
  · exact ⟨_, l1, True.intro⟩
  · exact ⟨_, r1, True.intro⟩
  · exact ⟨_, h1, True.intro⟩
  · exact ⟨_, n1, True.intro⟩
  · exact ⟨_, S.tur, True.intro⟩
theorem YardAt.no_kind (S : YardAt P w C y H Y T) {b : Addr} {o : HO} (e : H b = some o) (n : ¬ Loose o) : ¬ Part y b := fun hb => by
  obtain ⟨u, h1, h2⟩ := S.part_kind hb
  rw [e] at h1
  cases h1
  exact n h2
theorem YardAt.no_tup (S : YardAt P w C y H Y T) {b : Addr} {xs : List V} (e : H b = some (.tup xs)) : ¬ Part y b := S.no_kind e fun z => z
theorem YardAt.no_new (S : YardAt P w C y H Y T) {b : Addr} (e : H b = none) : ¬ Part y b := fun hb => by
  obtain ⟨o, h1, _⟩ := S.part_kind hb
  rw [e] at h1
  cases h1
end
theorem lo_few {Y : Yd} (h : ∀ f ∈ Y, f.1.length ≤ 60 ∧ f.2.length ≤ 60) (n : Nat) : (lo Y n).length ≤ 60 ∧ (ro Y n).length ≤ 60 := by
  unfold lo ro
  rw [List.getD_eq_getElem?_getD]
  cases e : Y[n]? with
  | none => exact ⟨Nat.zero_le _, Nat.zero_le _⟩
  | some f => exact h f (List.mem_of_getElem? e)
/-- a list that is no part is written -/
theorem YardAt.other {P : Program} {w : World} {C : Addr} {y : YA} {H : Hp} {Y : Yd} {T : List (Nat × Nat)} (S : YardAt P w C y H Y T) {D : Addr} {xs : List V} {o : HO} (hD : H D = some (.lst xs)) (nD : ¬ Part y D) : YardAt P w C y (upd H D o) Y T := by
  refine S.keep3 ?_ (fun b u hb e => ?_) fun c zs e => ?_
  · rw [upd_ne (ne_of S.ob hD (by intro z; cases z))]
    exact S.ob
  · have nb : b ≠ D := fun z => nD (by rw [← z]; exact hb)
    rw [upd_ne nb]
    exact e
  · rw [upd_ne (ne_of e hD (by intro z; cases z))]
    exact e
/-! ### the order's object -/
structure OA where
  q : Addr
  dx : Addr
  d : Addr
  c : Addr
def of_ (o : OA) (y : YA) : List (Str × V) := putF "_can_win" (.ref o.c) (putF "_at_least" (.ref o.d) (putF "_yard" (.ref y.p) []))
theorem of_y (o : OA) (y : YA) : (of_ o y).lookup ("_yard" : Str) = some (.ref y.p) := by
  unfold of_
  rw [lookup_putF, if_neg (by decide +kernel), lookup_putF, if_neg (by decide +kernel), lookup_putF, if_pos rfl]
theorem of_d (o : OA) (y : YA) : (of_ o y).lookup ("_at_least" : Str) = some (.ref o.d) := by
  unfold of_
  rw [lookup_putF, if_neg (by decide +kernel), lookup_putF, if_pos rfl]
theorem of_no (o : OA) (y : YA) {m : Str} (h1 : ¬ m = "_can_win") (h2 : ¬ m = "_at_least") (h3 : ¬ m = "_yard") : (of_ o y).lookup m = none := by
  unfold of_
  rw [lookup_putF, if_neg h1, lookup_putF, if_neg h2, lookup_putF, if_neg h3] <;> rfl
theorem of_at (o : OA) (y : YA) : (of_ o y).lookup ("at_least" : Str) = none := of_no o y (by decide +kernel) (by decide +kernel) (by decide +kernel)
theorem of_reck (o : OA) (y : YA) : (of_ o y).lookup ("_reckon" : Str) = none := of_no o y (by decide +kernel) (by decide +kernel) (by decide +kernel)
theorem of_alike (o : OA) (y : YA) : (of_ o y).lookup ("alike" : Str) = none := of_no o y (by decide +kernel) (by decide +kernel) (by decide +kernel)
theorem of_less (o : OA) (y : YA) : (of_ o y).lookup ("less" : Str) = none := of_no o y (by decide +kernel) (by decide +kernel) (by decide +kernel)
theorem of_apart (o : OA) (y : YA) : (of_ o y).lookup ("apart" : Str) = none := of_no o y (by decide +kernel) (by decide +kernel) (by decide +kernel)
/-- what is kept in the order's dict is so -/
def Kept (Y : Yd) (kvs : List (List Key × V)) : Prop := (kvs.map (·.1)).Nodup ∧ ∀ e ∈ kvs, ∃ a b : Nat, a < Y.length ∧ b < Y.length ∧ e.1 = [Sum.inl (a : Int), Sum.inl (b : Int)] ∧ e.2 = .bl (ge Y a b)
structure OrdAt (C : Addr) (o : OA) (y : YA) (H : Hp) (Y : Yd) : Prop where
  ob : H o.q = some (.ins C o.dx (of_ o y))
  dic : ∃ kvs, H o.d = some (.dT kvs) ∧ Kept Y kvs
/-- all but the dict at d is kept -/
def KeepO (d : Addr) (H H' : Hp) : Prop := ∀ b o, H b = some o → b ≠ d → H' b = some o
theorem KeepO.refl (d : Addr) (H : Hp) : KeepO d H H := fun _ _ e _ => e
theorem KeepO.trans {d : Addr} {H H1 H2 : Hp} (a : KeepO d H H1) (b : KeepO d H1 H2) : KeepO d H H2 := fun c o e n => b c o (a c o e n) n
theorem KeepO.new {d : Addr} {H H' : Hp} (k : KeepO d H H') {p : Addr} {o : HO} (hp : H' p = none) : KeepO d H (upd H' p o) := fun b u e n => by
  have := k b u e n
  rw [upd_ne (ne_of_none this hp)]
  exact this
theorem KeepO.of {d : Addr} {H H' : Hp} (h : Same H H') : KeepO d H H' := fun b o e _ => h b o e
theorem KeepO.put {d : Addr} {H H' : Hp} (k : KeepO d H H') {o : HO} : KeepO d H (upd H' d o) := fun b u e n => by
  rw [upd_ne n]
  exact k b u e n
theorem KeepO.keepD {d : Addr} {H H' : Hp} {kvs : List (List Key × V)} (k : KeepO d H H') (e : H d = some (.dT kvs)) : KeepD H H' := fun b o h n => k b o h fun z => by
  subst z
  rw [e] at h
  cases h
  exact n _ rfl

/-! ### the classes -/
structure TxY (K : PySem.W.Frag) (mg : Str → Option Value) (C : Addr) : Prop where
  cl : Cls K C
  n1 : NoAttr K C "_lefts"
  n2 : NoAttr K C "_rights"
  n3 : NoAttr K C "_heights"
  n4 : NoAttr K C "_numbers"
  n5 : NoAttr K C "_turned"
  mgC : mg "Yard" = some (.ref C)
structure TxO (K : PySem.W.Frag) (mg : Str → Option Value) (C : Addr) : Prop where
  cl : Cls K C
  n1 : NoAttr K C "_yard"
  n2 : NoAttr K C "_at_least"
  n3 : NoAttr K C "_can_win"
  mgC : mg "Order" = some (.ref C)
/-- the built-in names that the text uses -/
structure TxB (mg : Str → Option Value) : Prop where
  len : mg "len" = none
  range : mg "range" = none
  int : mg "int" = none
  max : mg "max" = none
  set : mg "set" = none
  sorted : mg "sorted" = none
  tuple : mg "tuple" = none
  list : mg "list" = none
  isinstance : mg "isinstance" = none
  bool : mg "bool" = none
end K18
/-! The yard's small methods. -/
namespace K18
open PySem L2 Gm Nd
section
variable {P : Program} {w : World} {K : PySem.W.Frag} {mg : Str → Option Value} {base : Heap}
/-! ### _check -/
def spCheck (P : Program) (w : World) (C : Addr) : Sp := fun vs H Q _ => ∃ (y : YA) (Y : Yd) (T : List (Nat × Nat)) (g : Nat), vs = [.ref y.p, vI g] ∧ YardAt P w C y H Y T ∧ g < Y.length ∧ Q .non H
theorem scCheck : FnScope ["self", "game"] ["self", "game"] (defScope yCheck) := ⟨rfl, rfl, rfl, by decide +kernel, rfl, by decide +kernel, by decide +kernel⟩
theorem ok_check {f C : Addr} {fd : FuncData} (F : Fun K "_check" "Yard._check" yCheck f fd) (T : TxY K mg C) (B : TxB mg) : FnOk P w K mg base CX0 1 f fd ["self", "game"] (spCheck P w C) := by
  refine F.ok scCheck (fun vs H Q E h => ?_) (fun cdv A outer s H vs Q E hr h => ?_)
  · obtain ⟨y, Y, T, g, rfl, _⟩ := h
    rfl
  · obtain ⟨y, Y, TT, g, rfl, S, hg, k⟩ := h
    obtain ⟨tl, l1, l2⟩ := S.lef
    refine ⟨_, pss_one (ps_if (pt_not (pt_chain op_le op_lt pe_int (pv 1) (pe_callB call_len_seq (by rfl) B.len PySem.boot_len (pa_cons (pe_fld (pv 0) rfl) pa_nil)))) pss_never pss_nil), ?_⟩
    have hl : (tl.map V.ref).length = Y.length := by rw [List.length_map, l2.1, List.length_map]
    have hd : decide ((g : Int) < ((tl.map V.ref).length : Nat)) = true := decide_eq_true (by rw [hl]; exact Int.ofNat_lt.mpr hg)
    refine ⟨_, rfl, _, _, rfl, rfl, true, congrArg V.bl (decide_eq_true (Int.natCast_nonneg g)), ?_⟩
    refine ⟨_, rfl, y.p, C, y.dx, _, _, rfl, S.ob, T.cl, T.n1, yf_l y, y.l, _, rfl, .inl (SqL.of l1), _, _, rfl, rfl, true, congrArg V.bl hd, ?_⟩
    exact k
/-! ### lefts, rights, height -/
def spList (P : Program) (w : World) (C : Addr) (of : Yd → Nat → List Nat) : Sp := fun vs H Q _ => ∃ (y : YA) (Y : Yd) (T : List (Nat × Nat)) (g : Nat), vs = [.ref y.p, vI g] ∧ YardAt P w C y H Y T ∧ g < Y.length ∧
  ∀ q, H q = none → Q (.ref q) (upd H q (.lst (nums (of Y g))))
theorem scLefts : FnScope ["self", "game"] ["self", "game"] (defScope yLefts) := ⟨rfl, rfl, rfl, by decide +kernel, rfl, by decide +kernel, by decide +kernel⟩
theorem scRights : FnScope ["self", "game"] ["self", "game"] (defScope yRights) := ⟨rfl, rfl, rfl, by decide +kernel, rfl, by decide +kernel, by decide +kernel⟩
theorem tup_at {H : Hp} {tl : List Addr} {L : List (List Nat)} (T : Tups H tl L) {g : Nat} (hg : g < L.length) : ∃ t, (tl.map V.ref)[g]? = some (.ref t) ∧ H t = some (.tup (nums (L.getD g []))) := by
  have h1 : g < tl.length := by rw [T.1]; exact hg
  refine ⟨tl[g], by rw [List.getElem?_map, List.getElem?_eq_getElem h1] <;> rfl, T.2 g tl[g] _ (List.getElem?_eq_getElem h1) ?_⟩
  rw [List.getD_eq_getElem?_getD, List.getElem?_eq_getElem hg] <;> rfl
theorem lo_map (Y : Yd) (g : Nat) : (Y.map (·.1)).getD g [] = lo Y g := by
  unfold lo
  rw [List.getD_eq_getElem?_getD, List.getD_eq_getElem?_getD, List.getElem?_map]
  cases Y[g]? <;> rfl
theorem ro_map (Y : Yd) (g : Nat) : (Y.map (·.2)).getD g [] = ro Y g := by
  unfold ro
  rw [List.getD_eq_getElem?_getD, List.getD_eq_getElem?_getD, List.getElem?_map]
  cases Y[g]? <;> rfl
theorem ok_lefts {f C fC : Addr} {fd fdC : FuncData} (F : Fun K "lefts" "Yard.lefts" yLefts f fd) (T : TxY K mg C) (B : TxB mg) (G : FnOk P w K mg base CX0 1 fC fdC ["self", "game"] (spCheck P w C)) (b : Binds K fdC ["self", "game"] []) (m : Meth K C "_check" fC) :
    FnOk P w K mg base CX0 2 f fd ["self", "game"] (spList P w C lo) := by
  refine F.ok scLefts (fun vs H Q E h => ?_) (fun cdv A outer s H vs Q E hr h => ?_)
  · obtain ⟨y, Y, T, g, rfl, _⟩ := h
    rfl
  · obtain ⟨y, Y, TT, g, rfl, S, hg, k⟩ := h
    obtain ⟨tl, l1, l2⟩ := S.lef
    obtain ⟨t, t1, t2⟩ := tup_at l2 (g := g) (by rw [List.length_map]; exact hg)
    rw [lo_map] at t2
    refine ⟨_, pss_cons (ps_expr (pe_meth (pv 0) T.cl m G hr b .nil pass0 (pa_cons (pv 1) pa_nil)))
      (pss_one (ps_ret (pe_callTy call_list_of (by rfl) B.list (by decide +kernel) (pa_cons (pe_ix ix_list (pe_fld (pv 0) rfl) (pv 1) (fun _ _ => rfl)) pa_nil)))), ?_⟩
    refine ⟨_, rfl, y.p, y.dx, _, rfl, S.ob, yf_check y, _, rfl, y, Y, TT, g, rfl, S, hg, ?_⟩
    refine ⟨_, rfl, y.p, C, y.dx, _, _, rfl, S.ob, T.cl, T.n1, yf_l y, _, rfl, y.l, _, _, _, rfl, rfl, SqL.of l1, atI_nat t1, t, _, rfl, .inr (SqT.of t2), fun q hq => k q hq⟩
theorem ok_rights {f C fC : Addr} {fd fdC : FuncData} (F : Fun K "rights" "Yard.rights" yRights f fd) (T : TxY K mg C) (B : TxB mg) (G : FnOk P w K mg base CX0 1 fC fdC ["self", "game"] (spCheck P w C)) (b : Binds K fdC ["self", "game"] []) (m : Meth K C "_check" fC) :
    FnOk P w K mg base CX0 2 f fd ["self", "game"] (spList P w C ro) := by
  refine F.ok scRights (fun vs H Q E h => ?_) (fun cdv A outer s H vs Q E hr h => ?_)
  · obtain ⟨y, Y, T, g, rfl, _⟩ := h
    rfl
  · obtain ⟨y, Y, TT, g, rfl, S, hg, k⟩ := h
    obtain ⟨tl, l1, l2⟩ := S.rig
    obtain ⟨t, t1, t2⟩ := tup_at l2 (g := g) (by rw [List.length_map]; exact hg)
    rw [ro_map] at t2
    refine ⟨_, pss_cons (ps_expr (pe_meth (pv 0) T.cl m G hr b .nil pass0 (pa_cons (pv 1) pa_nil)))
      (pss_one (ps_ret (pe_callTy call_list_of (by rfl) B.list (by decide +kernel) (pa_cons (pe_ix ix_list (pe_fld (pv 0) rfl) (pv 1) (fun _ _ => rfl)) pa_nil)))), ?_⟩
    refine ⟨_, rfl, y.p, y.dx, _, rfl, S.ob, yf_check y, _, rfl, y, Y, TT, g, rfl, S, hg, ?_⟩
    refine ⟨_, rfl, y.p, C, y.dx, _, _, rfl, S.ob, T.cl, T.n2, yf_r y, _, rfl, y.r, _, _, _, rfl, rfl, SqL.of l1, atI_nat t1, t, _, rfl, .inr (SqT.of t2), fun q hq => k q hq⟩
def spHeight (P : Program) (w : World) (C : Addr) : Sp := fun vs H Q _ => ∃ (y : YA) (Y : Yd) (T : List (Nat × Nat)) (g : Nat), vs = [.ref y.p, vI g] ∧ YardAt P w C y H Y T ∧ g < Y.length ∧ ∀ n, Q (.int n) H
theorem scHeight : FnScope ["self", "game"] ["self", "game"] (defScope yHeight) := ⟨rfl, rfl, rfl, by decide +kernel, rfl, by decide +kernel, by decide +kernel⟩
theorem ok_height {f C fC : Addr} {fd fdC : FuncData} (F : Fun K "height" "Yard.height" yHeight f fd) (T : TxY K mg C) (G : FnOk P w K mg base CX0 1 fC fdC ["self", "game"] (spCheck P w C)) (b : Binds K fdC ["self", "game"] []) (m : Meth K C "_check" fC) :
    FnOk P w K mg base CX0 2 f fd ["self", "game"] (spHeight P w C) := by
  refine F.ok scHeight (fun vs H Q E h => ?_) (fun cdv A outer s H vs Q E hr h => ?_)
  · obtain ⟨y, Y, T, g, rfl, _⟩ := h
    rfl
  · obtain ⟨y, Y, TT, g, rfl, S, hg, k⟩ := h
    obtain ⟨hs, l1, l2⟩ := S.hei
    have hi : g < hs.length := by rw [l2]; exact hg
    refine ⟨_, pss_cons (ps_expr (pe_meth (pv 0) T.cl m G hr b .nil pass0 (pa_cons (pv 1) pa_nil)))
      (pss_one (ps_ret (pe_ix ix_list (pe_fld (pv 0) rfl) (pv 1) (fun _ _ => rfl)))), ?_⟩
    refine ⟨_, rfl, y.p, y.dx, _, rfl, S.ob, yf_check y, _, rfl, y, Y, TT, g, rfl, S, hg, ?_⟩
    refine ⟨_, rfl, y.p, C, y.dx, _, _, rfl, S.ob, T.cl, T.n3, yf_h y, _, rfl, y.h, _, _, .int hs[g], rfl, rfl, SqL.of l1, atI_nat (by rw [List.getElem?_map, List.getElem?_eq_getElem hi] <;> rfl), k _⟩
end
end K18
/-! The yard's making. -/
namespace K18
open PySem L2 Gm Nd
theorem laid {H H' : Hp} {p : Addr} {o : HO} (e : upd H p o = H') (hp : H p = none) : Same H H' ∧ H' p = some o := by
  subst e
  exact ⟨fun b u h => by rw [upd_ne (ne_of_none h hp)]; exact h, upd_same⟩
theorem wrote {H H' : Hp} {p : Addr} {o : HO} (e : upd H p o = H') : KeepO p H H' ∧ H' p = some o := by
  subst e
  exact ⟨fun b u h n => by rw [upd_ne n]; exact h, upd_same⟩
section
variable {P : Program} {w : World} {K : PySem.W.Frag} {mg : Str → Option Value} {base : Heap}
def spYInit (P : Program) (w : World) (C : Addr) : Sp := fun vs H Q _ => ∃ (p dx : Addr), vs = [.ref p] ∧ H p = some (.ins C dx []) ∧
  ∀ (y : YA) (H' : Hp), y.p = p → (∀ b, Part y b → H b = none) → KeepO p H H' → YardAt P w C y H' [([], [])] [(0, 0)] → Q .non H'
theorem scYInit : FnScope ["self"] ["self"] (defScope yInit) := ⟨rfl, rfl, rfl, by decide +kernel, rfl, by decide +kernel, by decide +kernel⟩
theorem ok_yinit {f C : Addr} {fd : FuncData} (F : Fun K "__init__" "Yard.__init__" yInit f fd) (T : TxY K mg C) : FnOk P w K mg base CX0 1 f fd ["self"] (spYInit P w C) := by
  refine F.ok scYInit (fun vs H Q E h => ?_) (fun cdv A outer s H vs Q E hr h => ?_)
  · obtain ⟨p, dx, rfl, _⟩ := h
    rfl
  · obtain ⟨p, dx, rfl, hp, k⟩ := h
    have hu : (cxOf CX0 P w K mg base ["self"] "Yard.__init__" (defScope yInit) f cdv A outer s H E).nox.A.units + 9 < cLine := Nat.lt_of_le_of_lt (Nat.add_le_add_left (by decide : 9 ≤ 64) _) hr.units
    refine ⟨_, pss_cons (ps_fld (pv 0) (pe_lst (pa_cons (pe_tup pa_nil) pa_nil)) rfl)
      (pss_cons (ps_fld (pv 0) (pe_lst (pa_cons (pe_tup pa_nil) pa_nil)) rfl)
      (pss_cons (ps_fld (pv 0) (pe_lst (pa_cons pe_int pa_nil)) rfl)
      (pss_cons (ps_fld (pv 0) (pe_ndisp hu (pe_tup (pa_cons (pe_tup pa_nil) (pa_cons (pe_tup pa_nil) pa_nil))) pe_int) rfl)
      (pss_one (ps_fld (pv 0) (pe_disp (pps_cons pe_int pe_int pps_nil) rfl rfl (fun z => by cases z) (by decide)) rfl))))), ?_⟩
    -- self._lefts = [()]
    refine ⟨Nat.zero_le _, fun t1 ht1 => ?_⟩
    generalize e1 : upd H t1 _ = H1
    obtain ⟨s1, g1⟩ := laid e1 ht1
    refine ⟨by show 1 ≤ sizeLine; decide, fun l hl => ?_⟩
    generalize e2 : upd H1 l _ = H2
    obtain ⟨s2, g2⟩ := laid e2 hl
    refine ⟨_, rfl, p, C, dx, _, rfl, s2 _ _ (s1 _ _ hp), T.cl, T.n1, by show 0 < 1000; decide, ?_⟩
    generalize e3 : upd H2 p _ = H3
    obtain ⟨s3, g3⟩ := wrote e3
    have K3 : KeepO p H H3 := (KeepO.of (s1.trans s2)).trans s3
    have nlp : l ≠ p := fun z => by rw [z, s1 _ _ hp] at hl; cases hl
    have ntp : t1 ≠ p := fun z => by rw [z, hp] at ht1; cases ht1
    have l3 : H3 l = some (.lst [.ref t1]) := s3 _ _ g2 nlp
    have t3 : H3 t1 = some (.tup []) := s3 _ _ (s2 _ _ g1) ntp
    -- self._rights = [()]
    refine ⟨Nat.zero_le _, fun t2 ht2 => ?_⟩
    generalize e4 : upd H3 t2 _ = H4
    obtain ⟨s4, g4⟩ := laid e4 ht2
    refine ⟨by show 1 ≤ sizeLine; decide, fun r hr2 => ?_⟩
    generalize e5 : upd H4 r _ = H5
    obtain ⟨s5, g5⟩ := laid e5 hr2
    refine ⟨_, rfl, p, C, dx, _, rfl, s5 _ _ (s4 _ _ g3), T.cl, T.n2, by show 1 < 1000; decide, ?_⟩
    generalize e6 : upd H5 p _ = H6
    obtain ⟨s6, g6⟩ := wrote e6
    have K6 : KeepO p H3 H6 := (KeepO.of (s4.trans s5)).trans s6
    have nrp : r ≠ p := fun z => by rw [z, s4 _ _ g3] at hr2; cases hr2
    have nt2p : t2 ≠ p := fun z => by rw [z, g3] at ht2; cases ht2
    have r6 : H6 r = some (.lst [.ref t2]) := s6 _ _ g5 nrp
    have t6 : H6 t2 = some (.tup []) := s6 _ _ (s5 _ _ g4) nt2p
    have nlr : l ≠ r := fun z => by rw [← z, s4 _ _ l3] at hr2; cases hr2
    -- self._heights = [0]
    refine ⟨by show 1 ≤ sizeLine; decide, fun h0 hh0 => ?_⟩
    generalize e7 : upd H6 h0 _ = H7
    obtain ⟨s7, g7⟩ := laid e7 hh0
    refine ⟨_, rfl, p, C, dx, _, rfl, s7 _ _ g6, T.cl, T.n3, by show 2 < 1000; decide, ?_⟩
    generalize e8 : upd H7 p _ = H8
    obtain ⟨s8, g8⟩ := wrote e8
    have K8 : KeepO p H6 H8 := (KeepO.of s7).trans s8
    have nhp : h0 ≠ p := fun z => by rw [z, g6] at hh0; cases hh0
    have h8 : H8 h0 = some (.lst [.int 0]) := s8 _ _ g7 nhp
    have nlh : l ≠ h0 := fun z => by rw [← z, K6 _ _ l3 nlp] at hh0; cases hh0
    have nrh : r ≠ h0 := fun z => by rw [← z, r6] at hh0; cases hh0
    -- self._numbers = {((), ()): 0}
    intro n hn
    generalize e9 : upd H8 n _ = H9
    obtain ⟨s9, g9⟩ := laid e9 hn
    refine ⟨Nat.zero_le _, fun t3' ht3 => ?_⟩
    generalize e10 : upd H9 t3' _ = H10
    obtain ⟨s10, g10⟩ := laid e10 ht3
    refine ⟨Nat.zero_le _, fun t4 ht4 => ?_⟩
    generalize e11 : upd H10 t4 _ = H11
    obtain ⟨s11, g11⟩ := laid e11 ht4
    refine ⟨by show 2 ≤ sizeLine; decide, fun t5 ht5 => ?_⟩
    generalize e12 : upd H11 t5 _ = H12
    obtain ⟨s12, g12⟩ := laid e12 ht5
    have n12 := s12 _ _ (s11 _ _ (s10 _ _ g9))
    have kb : KeyAt H12 ([], []) t5 := ⟨t3', t4, g12, s12 _ _ (s11 _ _ g10), s12 _ _ g11⟩
    refine ⟨t5, ([], []), rfl, kb, n12, ?_⟩
    generalize e13 : upd H12 n _ = H13
    obtain ⟨s13, g13⟩ := wrote e13
    have nnp : n ≠ p := fun z => by rw [z, g8] at hn; cases hn
    have p12 : H12 p = some _ := s12 _ _ (s11 _ _ (s10 _ _ (s9 _ _ g8)))
    refine ⟨_, rfl, p, C, dx, _, rfl, s13 _ _ p12 nnp.symm, T.cl, T.n4, by show 3 < 1000; decide, ?_⟩
    generalize e14 : upd H13 p _ = H14
    obtain ⟨s14, g14⟩ := wrote e14
    have S12 : Same H8 H12 := (s9.trans (s10.trans (s11.trans s12)))
    have K14 : ∀ b o, H8 b = some o → b ≠ p → H14 b = some o := fun b o e nb => s14 _ _ (s13 _ _ (S12 _ _ e) fun z => by rw [z, hn] at e; cases e) nb
    have n14 : H14 n = some _ := s14 _ _ g13 nnp
    have kb14 : KeyAt H14 ([], []) t5 := kb.keeps fun c xs e => s14 _ _ (s13 _ _ e fun z => by rw [z, n12] at e; cases e) fun z => by rw [z, p12] at e; cases e
    -- self._turned = {0: 0}
    intro d hd
    generalize e15 : upd H14 d _ = H15
    obtain ⟨s15, g15⟩ := laid e15 hd
    refine ⟨g15, [(Sum.inl 0, .int 0)], rfl, by show 1 ≤ 15; decide, ?_⟩
    generalize e16 : upd H15 d _ = H16
    obtain ⟨s16, g16⟩ := wrote e16
    have ndp : d ≠ p := fun z => by rw [z, g14] at hd; cases hd
    have p15 : H15 p = some _ := s15 _ _ g14
    refine ⟨_, rfl, p, C, dx, _, rfl, s16 _ _ p15 ndp.symm, T.cl, T.n5, by show 4 < 1000; decide, ?_⟩
    generalize e17 : upd H16 p _ = H17
    obtain ⟨s17, g17⟩ := wrote e17
    have K17 : ∀ b o, H14 b = some o → b ≠ p → H17 b = some o := fun b o e nb => s17 _ _ (s16 _ _ (s15 _ _ e) fun z => by rw [z, hd] at e; cases e) nb
    refine k ⟨p, dx, l, r, h0, n, d⟩ H17 rfl (fun b hb => ?_) (fun b o e nb => K17 _ _ (K14 _ _ (K8 _ _ (K6 _ _ (K3 _ _ e nb) nb) nb) nb) nb) ?_
    · cases q : H b with
      | none => rfl
      | some o =>
        exfalso
        have pb : b ≠ p := fun z => by
          rcases hb with z2 | z2 | z2 | z2 | z2 <;> (subst z2; first | exact nlp z | exact nrp z | exact nhp z | exact nnp z | exact ndp z)
        have q3 := K3 _ _ q pb
        have q6 := K6 _ _ q3 pb
        have q8 := K8 _ _ q6 pb
        rcases hb with z | z | z | z | z
        · subst z
          rw [s1 _ _ q] at hl
          cases hl
        · subst z
          rw [s4 _ _ q3] at hr2
          cases hr2
        · subst z
          rw [q6] at hh0
          cases hh0
        · subst z
          rw [q8] at hn
          cases hn
        · subst z
          rw [K14 _ _ q8 pb] at hd
          cases hd
    · refine ⟨g17, ⟨[t1], ?_, rfl, fun i t x a b => ?_⟩, ⟨[t2], ?_, rfl, fun i t x a b => ?_⟩, ⟨[0], ?_, rfl⟩, ⟨[(([], []), t5, .int 0)], K17 _ _ n14 nnp, ?_, Nat.le_refl 1, ?_⟩, ?_, nlr, nlh, nrh, low_one, ?_, ?_, ?_, Nat.zero_lt_one, fun f hf => by rw [List.mem_singleton.mp hf]; exact ⟨Nat.zero_le _, Nat.zero_le _⟩⟩
      · exact K17 _ _ (K14 _ _ (K8 _ _ (K6 _ _ l3 nlp) nlp) nlp) nlp
      · cases i with
        | zero =>
          cases a
          cases b
          exact K17 _ _ (K14 _ _ (K8 _ _ (K6 _ _ t3 ntp) ntp) ntp) ntp
        | succ i => simp at a
      · exact K17 _ _ (K14 _ _ (K8 _ _ r6 nrp) nrp) nrp
      · cases i with
        | zero =>
          cases a
          cases b
          exact K17 _ _ (K14 _ _ (K8 _ _ t6 nt2p) nt2p) nt2p
        | succ i => simp at a
      · exact K17 _ _ (K14 _ _ h8 nhp) nhp
      · intro e he
        cases List.mem_singleton.mp he
        exact kb14.keeps fun c xs e => K17 _ _ e fun z => by rw [z, g14] at e; cases e
      · intro e he
        cases List.mem_singleton.mp he
        exact ⟨0, rfl, rfl⟩
      · exact s17 _ _ g16 ndp
      · intro e he
        cases List.mem_singleton.mp he
        exact ⟨Nat.zero_lt_one, Nat.zero_lt_one⟩
      · exact List.nodup_cons.mpr ⟨(fun z => nomatch z), List.nodup_nil⟩
      · intro g t ht
        cases List.mem_singleton.mp ht
        refine ⟨fun x => ⟨fun z => (nomatch z), ?_⟩, fun x => ⟨fun z => (nomatch z), ?_⟩, fun o z => ?_⟩
        · rintro ⟨_, z, _⟩
          cases z
        · rintro ⟨_, z, _⟩
          cases z
        · rcases z with z | z <;> cases z
end
end K18
/-! Yard.game. -/
namespace K18
open PySem L2 Gm Nd
def nz (ls : List Nat) : List Int := ls.map fun n : Nat => (n : Int)
theorem nums_nz (ls : List Nat) : nums ls = (nz ls).map V.int := by
  unfold nums nz
  rw [List.map_map]
  rfl
theorem mem_nz {ls : List Nat} {x : Nat} : (x : Int) ∈ nz ls ↔ x ∈ ls := by
  unfold nz
  rw [List.mem_map]
  constructor
  · rintro ⟨y, hy, e⟩
    rw [← Int.ofNat_inj.mp e]
    exact hy
  · exact fun h => ⟨x, h, rfl⟩
/-- numbers that are members of a list of naturals are naturals -/
theorem nat_list {ns : List Int} {ls : List Nat} (h : ∀ k : Int, k ∈ ns ↔ decide (k ∈ nz ls) = true) : ∃ f : List Nat, ns.map V.int = nums f ∧ ∀ x, x ∈ f ↔ x ∈ ls := by
  have pos : ∀ k ∈ ns, ((k.toNat : Nat) : Int) = k := fun k hk => by
    have := of_decide_eq_true ((h k).mp hk)
    unfold nz at this
    obtain ⟨x, _, e⟩ := List.mem_map.mp this
    rw [← e]
    rfl
  refine ⟨ns.map Int.toNat, ?_, fun x => ?_⟩
  · unfold nums
    rw [List.map_map]
    refine List.map_congr_left fun k hk => ?_
    show V.int k = V.int ((k.toNat : Nat) : Int)
    rw [pos k hk]
  · rw [List.mem_map]
    constructor
    · rintro ⟨k, hk, e⟩
      have := of_decide_eq_true ((h k).mp hk)
      rw [← pos k hk, e] at this
      exact mem_nz.mp this
    · intro hx
      exact ⟨(x : Int), (h x).mpr (decide_eq_true (mem_nz.mpr hx)), rfl⟩
theorem catA_any {K : PySem.W.Frag} {H : Hp} {a b : Addr} {xs zs : List V} {Q : VK} (h1 : SqT K H a xs) (h2 : SqT K H b zs) (hl : xs.length + zs.length ≤ sizeLine) (h : ∀ t H', Same H H' → SqT K H' t (xs ++ zs) → Q (.ref t) H') : rCatA K (.ref a) (.ref b) H Q := by
  refine ⟨a, b, xs, zs, rfl, rfl, h1, h2, hl, fun e => ?_, fun _ e => ?_, fun _ _ p hp => ?_⟩
  · subst e
    exact h b H (Same.refl H) h2
  · subst e
    exact h a H (Same.refl H) (by rw [List.append_nil]; exact h1)
  · exact h p _ (Same.new (Same.refl H) hp) (SqT.of upd_same)
theorem Same.seqT {K : PySem.W.Frag} {H H' : Hp} {a : Addr} {xs : List V} (e : Same H H') (h : SqT K H a xs) : SqT K H' a xs := by
  rcases h with (h | ⟨o, h⟩) | h
  · exact .inl (.inl (e _ _ h))
  · exact .inl (.inr ⟨o, e _ _ h⟩)
  · exact .inr h
theorem nums_app (a b : List Nat) : nums (a ++ b) = nums a ++ nums b := List.map_append
theorem nums_mem {ls : List Nat} {i : Nat} {x : V} (h : (nums ls)[i]? = some x) : ∃ g, g ∈ ls ∧ x = vI g ∧ ls[i]? = some g := by
  unfold nums at h
  rw [List.getElem?_map] at h
  obtain ⟨g, hg, e⟩ := Option.map_eq_some_iff.mp h
  exact ⟨g, List.mem_of_getElem? hg, e.symm, hg⟩
section
variable {P : Program} {w : World} {K : PySem.W.Frag} {mg : Str → Option Value} {base : Heap}
def spGame (P : Program) (w : World) (C : Addr) : Sp := fun vs H Q _ => ∃ (y : YA) (Y : Yd) (T : List (Nat × Nat)) (a b : Addr) (ls rs : List Nat), vs = [.ref y.p, .ref a, .ref b] ∧ YardAt P w C y H Y T ∧
  H a = some (.lst (nums ls)) ∧ H b = some (.lst (nums rs)) ∧ ¬ Part y a ∧ ¬ Part y b ∧ ls.length ≤ 60 ∧ rs.length ≤ 60 ∧ (∀ x, (x ∈ ls ∨ x ∈ rs) → x < Y.length) ∧ Y.length ≤ 500 ∧
  ∀ (n : Nat) (Z : Yd) (H' : Hp), KeepY y H H' → YardAt P w C y H' (Y ++ Z) T → Z.length ≤ 1 → n < (Y ++ Z).length → (∀ x, x ∈ lo (Y ++ Z) n ↔ x ∈ ls) → (∀ x, x ∈ ro (Y ++ Z) n ↔ x ∈ rs) → Q (vI n) H'
abbrev nGame : List Str := ["self", "lefts", "rights", "game", "form"]
theorem scGame : FnScope nGame ["self", "lefts", "rights"] (defScope yGame) := ⟨rfl, rfl, rfl, by decide +kernel, rfl, by decide +kernel, by decide +kernel⟩
theorem ok_game {f C fC : Addr} {fd fdC : FuncData} (F : Fun K "game" "Yard.game" yGame f fd) (T : TxY K mg C) (B : TxB mg) (G : FnOk P w K mg base CX0 1 fC fdC ["self", "game"] (spCheck P w C)) (b : Binds K fdC ["self", "game"] []) (m : Meth K C "_check" fC) :
    FnOk P w K mg base CX0 2 f fd ["self", "lefts", "rights"] (spGame P w C) := by
  refine F.ok scGame (fun vs H Q E h => ?_) (fun cdv A outer s H vs Q E hr h => ?_)
  · obtain ⟨y, Y, T, a, b, ls, rs, rfl, _⟩ := h
    rfl
  · obtain ⟨y, Y, TT, a, b, ls, rs, rfl, S, ha, hb, na, nb, hls, hrs, hin, hY, k⟩ := h
    have hu : (cxOf CX0 P w K mg base nGame "Yard.game" (defScope yGame) f cdv A outer s H E).nox.A.units + 9 < cLine := Nat.lt_of_le_of_lt (Nat.add_le_add_left (by decide : 9 ≤ 64) _) hr.units
    refine ⟨_, pss_cons (ps_for PassesOwn.never rfl (pi_list (pe_op op_cat (pv 1) (pv 2))) (pg_name (i := 3) scGame.nd rfl (Or.inl rfl))
        (pss_one (ps_expr (pe_meth (pv 0) T.cl m G hr (by assumption) .nil pass0 (pa_cons (pv 3) pa_nil)))))
      (pss_cons (ps_set (i := 4) scGame.nd rfl (Or.inl rfl) (pe_tup (pa_cons
          (pe_callTy call_tuple_of (by rfl) B.tuple (by decide +kernel) (pa_cons (pe_callB (cr_sortedSet rfl) (by rfl) B.sorted (by decide +kernel) (pa_cons (pe_callTy (Sl.cr_setL rfl) (by rfl) B.set (by decide +kernel) (pa_cons (pv 1) pa_nil)) pa_nil)) pa_nil))
          (pa_cons (pe_callTy call_tuple_of (by rfl) B.tuple (by decide +kernel) (pa_cons (pe_callB (cr_sortedSet rfl) (by rfl) B.sorted (by decide +kernel) (pa_cons (pe_callTy (Sl.cr_setL rfl) (by rfl) B.set (by decide +kernel) (pa_cons (pv 2) pa_nil)) pa_nil)) pa_nil)) pa_nil))))
      (pss_cons (ps_if (pt_cmp (pc_nnotin hu (pv 4) (pe_fld (pv 0) rfl)))
        (pss_cons (ps_nput hu (pe_fld (pv 0) rfl) (pv 4) (pe_callB call_len_seq (by rfl) B.len PySem.boot_len (pa_cons (pe_fld (pv 0) rfl) pa_nil)) rfl)
        (pss_cons (ps_expr (pe_bm PySem.F.plainAttrs_list PySem.F.slot_list_append PySem.F.type_list_append mt_append (pe_fld (pv 0) rfl) (pa_cons (pe_ix ix_tup (pv 4) pe_int (fun _ _ => rfl)) pa_nil)))
        (pss_cons (ps_expr (pe_bm PySem.F.plainAttrs_list PySem.F.slot_list_append PySem.F.type_list_append mt_append (pe_fld (pv 0) rfl) (pa_cons (pe_ix ix_tup (pv 4) pe_int (fun _ _ => rfl)) pa_nil)))
        (pss_one (ps_expr (pe_bm PySem.F.plainAttrs_list PySem.F.slot_list_append PySem.F.type_list_append mt_append (pe_fld (pv 0) rfl) (pa_cons
          (pe_callB (cr_max rfl) (by rfl) B.max (by decide +kernel) (pa_cons (pe_op op_cat (pe_lst (pa_cons pe_int pa_nil))
            (pe_lc (own := [("game", 3)]) (g := gName 3) (tt := tYes) (te := tOp (rI0 fun i j => .int (i + j)) (tC (.int 1)) (tOp (rIxL K) (tFld K (tVar 0) "_heights") (tVar 3))) rfl scGame.nd (pi_tup (pe_op op_catA (pe_ix ix_tup (pv 4) pe_int (fun _ _ => rfl)) (pe_ix ix_tup (pv 4) pe_int (fun _ _ => rfl))))
              (blkOk_by (own := [("game", 3)]) (N := nGame) (sc := defScope yGame) (by decide +kernel)) (fun _ _ _ _ _ => pg_name (i := 3) scGame.nd rfl (Or.inl rfl)) (fun _ _ _ _ _ => pts_nil)
              (fun _ _ _ _ _ => pe_op op_add pe_int (pe_ix ix_list (pe_fld (pv 0) rfl) (pv 3) (fun _ _ => rfl))))) pa_nil)) pa_nil)))))))
        pss_nil)
      (pss_one (ps_ret (pe_nget hu (pe_fld (pv 0) rfl) (pv 4) (fun _ _ => rfl)))))), ?_⟩
    -- for game in lefts + rights: self._check(game)
    have hsz : (nums ls).length + (nums rs).length ≤ sizeLine := by
      rw [List.length_map, List.length_map, sizeLine_eq]
      omega
    refine ⟨_, rfl, _, rfl, a, b, _, _, rfl, rfl, ha, hb, hsz, fun p hp => ?_⟩
    generalize e0 : upd H p _ = H0
    obtain ⟨s0, g0⟩ := laid e0 hp
    rw [← List.map_append] at g0
    have S0 := S.same s0
    refine ⟨p, rfl, ⟨_, SqL.of g0⟩, for_list (K := K) (a := p) (xs := nums (ls ++ rs)) (fun i σ H' => H' = H0 ∧ ∃ v, σ = [some (.ref y.p), some (.ref a), some (.ref b), v, none]) ⟨rfl, none, rfl⟩ (fun i σ H' _ q => by rw [q.1]; exact SqL.of g0) ?_ ?_⟩
    · rintro i x σ H' hi ⟨rfl, v, rfl⟩
      obtain ⟨g, hg, rfl, _⟩ := nums_mem hi
      have hg2 : g < Y.length := hin g (List.mem_append.mp hg)
      refine ⟨_, rfl, y.p, y.dx, _, rfl, S0.ob, yf_check y, _, rfl, y, Y, TT, g, rfl, S0, hg2, ?_⟩
      exact ⟨rfl, _, rfl⟩
    rintro σ H' ⟨rfl, v, rfl⟩
    -- form = (tuple(sorted(set(lefts))), tuple(sorted(set(rights))))
    have ha0 : H' a = some (.lst ((nz ls).map V.int)) := by rw [← nums_nz]; exact s0 _ _ ha
    have hnl : (nz ls).length = ls.length := List.length_map _
    have hnr : (nz rs).length = rs.length := List.length_map _
    refine ⟨_, rfl, a, nz ls, rfl, SqL.of ha0, by omega, fun p1 c1 hp1 hc1 => ?_⟩
    generalize e1 : upd H' p1 _ = H1
    obtain ⟨s1, g1⟩ := laid e1 hp1
    refine ⟨p1, _, c1, rfl, g1, by omega, fun ns1 q1 _ mem1 len1 hq1 => ?_⟩
    generalize e2 : upd H1 q1 _ = H2
    obtain ⟨s2, g2⟩ := laid e2 hq1
    obtain ⟨f1, ef1, mf1⟩ := nat_list mem1
    refine ⟨q1, _, rfl, .inl ⟨SqL.of g2, fun t1 ht1 => ?_⟩⟩
    generalize e3 : upd H2 t1 _ = H3
    obtain ⟨s3, g3⟩ := laid e3 ht1
    rw [ef1] at g3
    have s03 : Same H H3 := s0.trans (s1.trans (s2.trans s3))
    have hb0 : H3 b = some (.lst ((nz rs).map V.int)) := by rw [← nums_nz]; exact s03 _ _ hb
    refine ⟨_, rfl, b, nz rs, rfl, SqL.of hb0, by omega, fun p2 c2 hp2 hc2 => ?_⟩
    generalize e4 : upd H3 p2 _ = H4
    obtain ⟨s4, g4⟩ := laid e4 hp2
    refine ⟨p2, _, c2, rfl, g4, by omega, fun ns2 q2 _ mem2 len2 hq2 => ?_⟩
    generalize e5 : upd H4 q2 _ = H5
    obtain ⟨s5, g5⟩ := laid e5 hq2
    obtain ⟨f2, ef2, mf2⟩ := nat_list mem2
    refine ⟨q2, _, rfl, .inl ⟨SqL.of g5, fun t2 ht2 => ?_⟩⟩
    generalize e6 : upd H5 t2 _ = H6
    obtain ⟨s6, g6⟩ := laid e6 ht2
    rw [ef2] at g6
    refine ⟨by show 2 ≤ sizeLine; decide, fun F hF => ?_⟩
    generalize e7 : upd H6 F _ = H7
    obtain ⟨s7, g7⟩ := laid e7 hF
    have s07 : Same H H7 := s03.trans (s4.trans (s5.trans (s6.trans s7)))
    have S7 := S.same s07
    have t17 : H7 t1 = some (.tup (nums f1)) := s7 _ _ (s6 _ _ (s5 _ _ (s4 _ _ g3)))
    have t27 : H7 t2 = some (.tup (nums f2)) := s7 _ _ g6
    have kb : KeyAt H7 (f1, f2) F := ⟨t1, t2, g7, t17, t27⟩
    obtain ⟨kvs, n1, n2, n3, n4⟩ := S7.num
    obtain ⟨tl, l1, l2⟩ := S7.lef
    obtain ⟨tr, r1, r2⟩ := S7.rig
    obtain ⟨hs, h1, h2⟩ := S7.hei
    -- if form not in self._numbers
    refine ⟨_, rfl, _, rfl, y.p, C, y.dx, _, _, rfl, S7.ob, T.cl, T.n4, yf_n y, y.n, F, (f1, f2), kvs, rfl, rfl, n1, n2, kb, _, rfl, ?_⟩
    cases e : nVal kvs (f1, f2) with
    | some v' =>
      refine iteF ?_
      obtain ⟨b', hm⟩ := nVal_in e
      obtain ⟨i, hi1, hi2⟩ := n4 _ hm
      refine ⟨_, rfl, y.p, C, y.dx, _, _, rfl, S7.ob, T.cl, T.n4, yf_n y, _, rfl, y.n, F, (f1, f2), kvs, _, rfl, rfl, n1, n2, kb, e, ?_⟩
      have hi2 : v' = vI i := hi2
      subst hi2
      have hlo : lo Y i = f1 := lo_of hi1
      have hro : ro Y i = f2 := ro_of hi1
      exact k i [] H7 (KeepY.of s07) (by rw [List.append_nil]; exact S7) (Nat.zero_le _) (by rw [List.append_nil]; exact (List.getElem?_eq_some_iff.mp hi1).1)
        (fun x => by rw [List.append_nil, hlo]; exact mf1 x) (fun x => by rw [List.append_nil, hro]; exact mf2 x)
    | none =>
      refine iteT ?_
      have nln : y.l ≠ y.n := ne_of l1 n1 (by intro z; cases z)
      have nrn : y.r ≠ y.n := ne_of r1 n1 (by intro z; cases z)
      have nhn : y.h ≠ y.n := ne_of h1 n1 (by intro z; cases z)
      have ntn : y.t ≠ y.n := ne_of S7.tur n1 (by intro z; cases z)
      have ntl : y.t ≠ y.l := ne_of S7.tur l1 (by intro z; cases z)
      have ntr : y.t ≠ y.r := ne_of S7.tur r1 (by intro z; cases z)
      have nth : y.t ≠ y.h := ne_of S7.tur h1 (by intro z; cases z)
      have npn : y.p ≠ y.n := ne_of S7.ob n1 (by intro z; cases z)
      have npl : y.p ≠ y.l := ne_of S7.ob l1 (by intro z; cases z)
      have npr : y.p ≠ y.r := ne_of S7.ob r1 (by intro z; cases z)
      have nph : y.p ≠ y.h := ne_of S7.ob h1 (by intro z; cases z)
      have tup7 : ∀ {c xs}, H7 c = some (.tup xs) → c ≠ y.n ∧ c ≠ y.l ∧ c ≠ y.r ∧ c ≠ y.h := fun {c xs} ec =>
        ⟨ne_of ec n1 (by intro z; cases z), ne_of ec l1 (by intro z; cases z), ne_of ec r1 (by intro z; cases z), ne_of ec h1 (by intro z; cases z)⟩
      have hlen : (tl.map V.ref).length = Y.length := by rw [List.length_map, l2.1, List.length_map]
      have hlenr : (tr.map V.ref).length = Y.length := by rw [List.length_map, r2.1, List.length_map]
      have small : Y.length < sizeLine := by rw [sizeLine_eq]; omega
      -- self._numbers[form] = len(self._lefts)
      refine ⟨_, rfl, y.p, C, y.dx, _, _, rfl, S7.ob, T.cl, T.n1, yf_l y, y.l, _, rfl, .inl (SqL.of l1), _, rfl, y.p, C, y.dx, _, _, rfl, S7.ob, T.cl, T.n4, yf_n y, _, rfl, y.n, F, (f1, f2), kvs, rfl, rfl, n1, n2, kb, e, by omega, ?_⟩
      rw [hlen]
      generalize e8 : upd H7 y.n _ = H8
      obtain ⟨k8, g8⟩ := wrote e8
      -- self._lefts.append(form[0])
      have ob8 := k8 _ _ S7.ob npn
      have l8 := k8 _ _ l1 nln
      have F8 := k8 _ _ g7 (tup7 g7).1
      refine ⟨_, rfl, y.p, C, y.dx, _, _, rfl, ob8, T.cl, T.n1, yf_l y, .inl ⟨rfl, _, SqL.of l8⟩, _, rfl, F, _, _, _, rfl, rfl, SqT.of F8, rfl, y.l, _, _, rfl, rfl, l8, by rw [hlen]; exact small, ?_⟩
      generalize e9 : upd H8 y.l _ = H9
      obtain ⟨k9, g9⟩ := wrote e9
      -- self._rights.append(form[1])
      have ob9 := k9 _ _ ob8 npl
      have r9 := k9 _ _ (k8 _ _ r1 nrn) S.ne1.symm
      have F9 := k9 _ _ F8 (tup7 g7).2.1
      refine ⟨_, rfl, y.p, C, y.dx, _, _, rfl, ob9, T.cl, T.n2, yf_r y, .inl ⟨rfl, _, SqL.of r9⟩, _, rfl, F, _, _, _, rfl, rfl, SqT.of F9, rfl, y.r, _, _, rfl, rfl, r9, by rw [hlenr]; exact small, ?_⟩
      generalize e10 : upd H9 y.r _ = H10
      obtain ⟨k10, g10⟩ := wrote e10
      -- self._heights.append(max([0] + [1 + self._heights[game] for game in form[0] + form[1]]))
      have ob10 := k10 _ _ ob9 npr
      have h10 := k10 _ _ (k9 _ _ (k8 _ _ h1 nhn) S.ne2.symm) S.ne3.symm
      have F10 := k10 _ _ F9 (tup7 g7).2.2.1
      have tup10 : ∀ {c xs}, H7 c = some (.tup xs) → H10 c = some (.tup xs) := fun {c xs} ec => by
        obtain ⟨a1, a2, a3, _⟩ := tup7 ec
        exact k10 _ _ (k9 _ _ (k8 _ _ ec a1) a2) a3
      refine ⟨_, rfl, y.p, C, y.dx, _, _, rfl, ob10, T.cl, T.n3, yf_h y, .inl ⟨rfl, _, SqL.of h10⟩, ?_⟩
      refine ⟨by show 1 ≤ sizeLine; decide, fun z hz => ?_⟩
      generalize e11 : upd H10 z _ = H11
      obtain ⟨s11, g11⟩ := laid e11 hz
      have F11 := s11 _ _ F10
      have l17 : f1.length ≤ 60 := by
        have q := congrArg List.length ef1
        rw [List.length_map, List.length_map] at q
        omega
      have l27 : f2.length ≤ 60 := by
        have q := congrArg List.length ef2
        rw [List.length_map, List.length_map] at q
        omega
      refine ⟨_, rfl, F, _, _, _, rfl, rfl, SqT.of F11, rfl, _, rfl, F, _, _, _, rfl, rfl, SqT.of F11, rfl, ?_⟩
      refine catA_any (SqT.of (s11 _ _ (tup10 t17))) (SqT.of (s11 _ _ (tup10 t27))) (by rw [List.length_map, List.length_map, sizeLine_eq]; omega) fun t H12 s12 q12 => ?_
      rw [← List.map_append] at q12
      refine ⟨t, rfl, ⟨_, q12⟩, fun D hD => ?_⟩
      refine lc_tup (K := K) (a := t) (xs := nums (f1 ++ f2)) (fun i H' => ∃ ks : List Int, H' D = some (.lst (ks.map V.int)) ∧ ks.length = i ∧ Same H12 H') ⟨[], upd_same, rfl, Same.new (Same.refl _) hD⟩ (fun i H' _ ⟨_, _, _, sm⟩ => Same.seqT sm q12) ?_ ?_
      · rintro i x H' hx ⟨ks, dD, kl, sm⟩
        obtain ⟨g, hg, rfl, _⟩ := nums_mem hx
        have hg2 : g < hs.length := by
          rw [h2]
          rcases List.mem_append.mp hg with q | q
          · exact hin g (.inl ((mf1 g).mp q))
          · exact hin g (.inr ((mf2 g).mp q))
        have h' := sm _ _ (s12 _ _ (s11 _ _ h10))
        refine ⟨rfl, ?_⟩
        refine iteT (B := False) ?_
        refine ⟨_, rfl, y.p, C, y.dx, _, _, rfl, sm _ _ (s12 _ _ (s11 _ _ ob10)), T.cl, T.n3, yf_h y, _, rfl, y.h, _, _, .int hs[g], rfl, rfl, SqL.of h', atI_nat (by rw [List.getElem?_map, List.getElem?_eq_getElem hg2] <;> rfl), _, _, rfl, rfl, ?_⟩
        have hi : i < (nums (f1 ++ f2)).length := (List.getElem?_eq_some_iff.mp hx).1
        rw [List.length_map, List.length_append] at hi
        refine ⟨_, dD, by rw [List.length_map, sizeLine_eq]; omega, ks ++ [1 + hs[g]], by rw [upd_same, List.map_append] <;> rfl, by rw [List.length_append, kl] <;> rfl, fun c o ec => ?_⟩
        rw [upd_ne (ne_of_none ec hD)]
        exact sm _ _ ec
      · rintro H' ⟨ks, dD, kl, sm⟩
        have z' := sm _ _ (s12 _ _ g11)
        refine ⟨z, D, _, _, rfl, rfl, z', dD, ?_, fun m hm => ?_⟩
        · show 1 + (ks.map V.int).length ≤ sizeLine
          rw [List.length_map, kl, List.length_map, List.length_append, sizeLine_eq]
          omega
        generalize e13 : upd H' m _ = H13
        obtain ⟨s13, g13⟩ := laid e13 hm
        refine ⟨m, 0 :: ks, rfl, SqL.of g13, Nat.succ_pos _, fun mx _ _ => ?_⟩
        have S12 : Same H10 H13 := s11.trans (s12.trans (sm.trans s13))
        have h13 := S12 _ _ h10
        refine ⟨y.h, _, _, rfl, rfl, h13, by rw [List.length_map, h2]; exact small, ?_⟩
        generalize e14 : upd H13 y.h _ = H14
        obtain ⟨k14, g14⟩ := wrote e14
        have ob14 := k14 _ _ (S12 _ _ ob10) nph
        have K14 : ∀ b o, H7 b = some o → b ≠ y.n → b ≠ y.l → b ≠ y.r → b ≠ y.h → H14 b = some o := fun b o eb b1 b2 b3 b4 =>
          k14 _ _ (S12 _ _ (k10 _ _ (k9 _ _ (k8 _ _ eb b1) b2) b3)) b4
        have tup14 : ∀ c xs, H7 c = some (.tup xs) → H14 c = some (.tup xs) := fun c xs ec => by
          obtain ⟨a1, a2, a3, a4⟩ := tup7 ec
          exact K14 _ _ ec a1 a2 a3 a4
        have n14 : H14 y.n = some _ := k14 _ _ (S12 _ _ (k10 _ _ (k9 _ _ g8 nln.symm) nrn.symm)) nhn.symm
        have l14 : H14 y.l = some _ := k14 _ _ (S12 _ _ (k10 _ _ g9 S.ne1)) S.ne2
        have r14 : H14 y.r = some _ := k14 _ _ (S12 _ _ g10) S.ne3
        have t14 := K14 _ _ S7.tur ntn ntl ntr nth
        have kb14 : KeyAt H14 (f1, f2) F := kb.keeps tup14
        have val : nVal (kvs ++ [((f1, f2), F, vI Y.length)]) (f1, f2) = some (vI Y.length) := by
          unfold nVal at e ⊢
          rw [List.find?_append]
          have e2 : kvs.find? (fun e => decide (e.1 = (f1, f2))) = none := Option.map_eq_none_iff.mp e
          rw [e2]
          simp
        have keys14 : Keys H14 (kvs ++ [((f1, f2), F, vI Y.length)]) := fun e he => by
          rcases List.mem_append.mp he with he | he
          · exact (n2.keeps tup14) e he
          · cases List.mem_singleton.mp he
            exact kb14
        -- return self._numbers[form]
        refine ⟨_, rfl, y.p, C, y.dx, _, _, rfl, ob14, T.cl, T.n4, yf_n y, _, rfl, y.n, F, (f1, f2), _, _, rfl, rfl, n14, keys14, kb14, val, ?_⟩
        have new : (Y ++ [(f1, f2)])[Y.length]? = some (f1, f2) := by simp
        refine k Y.length [(f1, f2)] H14 (fun b o eb nb => K14 _ _ (s07 _ _ eb) (fun z => nb (z ▸ (.inr (.inr (.inr (.inl rfl)))))) (fun z => nb (z ▸ .inl rfl)) (fun z => nb (z ▸ .inr (.inl rfl))) (fun z => nb (z ▸ .inr (.inr (.inl rfl))))) ?_ (Nat.le_refl 1) (by simp)
          (fun x => by rw [lo_of new]; exact mf1 x) (fun x => by rw [ro_of new]; exact mf2 x)
        have tl14 : Tups H14 (tl ++ [t1]) ((Y.map (·.1)) ++ [f1]) := (l2.keeps tup14).snoc (tup14 _ _ t17)
        have tr14 : Tups H14 (tr ++ [t2]) ((Y.map (·.2)) ++ [f2]) := (r2.keeps tup14).snoc (tup14 _ _ t27)
        refine ⟨ob14, ⟨tl ++ [t1], ?_, ?_⟩, ⟨tr ++ [t2], ?_, ?_⟩, ⟨hs ++ [mx], ?_, ?_⟩, ⟨_, n14, keys14, ?_, ?_⟩, t14, S.ne1, S.ne2, S.ne3, ?_, ?_, S.tnd, ?_, ?_, ?_⟩
        · rw [l14, List.map_append] <;> rfl
        · rw [List.map_append]; exact tl14
        · rw [r14, List.map_append] <;> rfl
        · rw [List.map_append]; exact tr14
        · rw [g14, List.map_append] <;> rfl
        · rw [List.length_append, List.length_append, h2] <;> rfl
        · rw [List.length_append, List.length_append]
          exact Nat.add_le_add_right n3 1
        · intro e he
          rcases List.mem_append.mp he with he | he
          · obtain ⟨i, i1, i2⟩ := n4 e he
            exact ⟨i, by rw [List.getElem?_append_left (List.getElem?_eq_some_iff.mp i1).1]; exact i1, i2⟩
          · cases List.mem_singleton.mp he
            exact ⟨Y.length, new, rfl⟩
        · exact low_snoc S.low fun x hx => hin x (hx.imp (mf1 x).mp (mf2 x).mp)
        · intro e he
          obtain ⟨a1, a2⟩ := S.tin e he
          rw [List.length_append]
          exact ⟨Nat.lt_succ_of_lt a1, Nat.lt_succ_of_lt a2⟩
        · exact tok_app S.tok S.tin
        · rw [List.length_append]
          exact Nat.succ_pos _
        · intro f hf
          rcases List.mem_append.mp hf with hf | hf
          · exact S.few f hf
          · rw [List.mem_singleton.mp hf]
            exact ⟨l17, l27⟩
end
end K18
/-! Yard.turned. -/
namespace K18
open PySem L2 Gm Nd
/-- the turned ones of some games, one by one -/
abbrev Trn (T : List (Nat × Nat)) : List Nat → List Nat → Prop := Paired fun o x => (o, x) ∈ T
theorem Trn.more {T W : List (Nat × Nat)} {os ks : List Nat} (h : Trn T os ks) : Trn (T ++ W) os ks := Paired.mapP h fun _ _ z => List.mem_append_left _ z
theorem Trn.right {T : List (Nat × Nat)} : ∀ {os ks : List Nat}, Trn T os ks → ∀ x ∈ ks, ∃ o ∈ os, (o, x) ∈ T
  | _, _, .nil, x, hx => nomatch hx
  | _, _, .cons r t, x, hx => by
    rcases List.mem_cons.mp hx with rfl | hx
    · exact ⟨_, List.mem_cons_self, r⟩
    · obtain ⟨o, ho, e⟩ := Trn.right t x hx
      exact ⟨o, List.mem_cons_of_mem _ ho, e⟩
theorem Trn.left {T : List (Nat × Nat)} : ∀ {os ks : List Nat}, Trn T os ks → ∀ o ∈ os, ∃ x ∈ ks, (o, x) ∈ T
  | _, _, .nil, x, hx => nomatch hx
  | _, _, .cons r t, x, hx => by
    rcases List.mem_cons.mp hx with rfl | hx
    · exact ⟨_, List.mem_cons_self, r⟩
    · obtain ⟨o, ho, e⟩ := Trn.left t x hx
      exact ⟨o, List.mem_cons_of_mem _ ho, e⟩
theorem one_key {T : List (Nat × Nat)} (h : (T.map (·.1)).Nodup) {o x z : Nat} (h1 : (o, x) ∈ T) (h2 : (o, z) ∈ T) : x = z := by
  induction T with
  | nil => cases h1
  | cons e r ih =>
    rw [List.map_cons] at h
    obtain ⟨n1, n2⟩ := List.nodup_cons.mp h
    rcases List.mem_cons.mp h1 with q1 | q1
    · rcases List.mem_cons.mp h2 with q2 | q2
      · rw [← q1] at q2
        exact ((Prod.mk.inj q2).2).symm
      · rw [← q1] at n1
        exact absurd (List.mem_map.mpr ⟨_, q2, rfl⟩) n1
    · rcases List.mem_cons.mp h2 with q2 | q2
      · rw [← q2] at n1
        exact absurd (List.mem_map.mpr ⟨_, q1, rfl⟩) n1
      · exact ih n2 q1 q2
theorem Trn.iff {T : List (Nat × Nat)} {os ks : List Nat} (h : Trn T os ks) (hn : (T.map (·.1)).Nodup) (x : Nat) : x ∈ ks ↔ ∃ o ∈ os, (o, x) ∈ T := by
  constructor
  · exact h.right x
  · rintro ⟨o, ho, e⟩
    obtain ⟨z, hz, e2⟩ := h.left o ho
    rw [one_key hn e e2]
    exact hz
theorem valV_ent {T : List (Nat × Nat)} {g : Nat} {v : V} (h : valV (T.map ent) (Sum.inl (g : Int)) = some v) : ∃ t, (g, t) ∈ T ∧ v = vI t := by
  unfold valV at h
  obtain ⟨e, he, hv⟩ := Option.map_eq_some_iff.mp h
  have h1 := List.mem_of_find?_eq_some he
  have h2 := List.find?_some he
  have h2 : e.1 = Sum.inl (g : Int) := of_decide_eq_true h2
  obtain ⟨q, hq, e2⟩ := List.mem_map.mp h1
  subst e2
  obtain ⟨a, b⟩ := q
  have h3 : (a : Int) = (g : Int) := Sum.inl.inj h2
  have h4 : a = g := Int.ofNat_inj.mp h3
  subst h4
  exact ⟨b, hq, hv.symm⟩
theorem valV_ent_none {T : List (Nat × Nat)} {g : Nat} (h : valV (T.map ent) (Sum.inl (g : Int)) = none) : ∀ x, (g, x) ∉ T := fun x hx => by
  have := valV_not h
  exact this (List.mem_map.mpr ⟨ent (g, x), List.mem_map.mpr ⟨_, hx, rfl⟩, rfl⟩)
theorem valV_ent_no {T : List (Nat × Nat)} {g : Nat} (h : ∀ x, (g, x) ∉ T) : valV (T.map ent) (Sum.inl (g : Int)) = none := by
  cases e : valV (T.map ent) (Sum.inl (g : Int)) with
  | none => rfl
  | some v =>
    obtain ⟨t, ht, _⟩ := valV_ent e
    exact absurd ht (h t)
theorem valV_ent_in {T : List (Nat × Nat)} {g t : Nat} (hn : (T.map (·.1)).Nodup) (h : (g, t) ∈ T) : valV (T.map ent) (Sum.inl (g : Int)) = some (vI t) := by
  cases e : valV (T.map ent) (Sum.inl (g : Int)) with
  | none => exact absurd h (valV_ent_none e t)
  | some v =>
    obtain ⟨z, hz, rfl⟩ := valV_ent e
    rw [one_key hn h hz]
section
variable {P : Program} {w : World} {K : PySem.W.Frag} {mg : Str → Option Value} {base : Heap}
def spTurned (P : Program) (w : World) (C : Addr) (n : Nat) : Sp := fun vs H Q _ => ∃ (y : YA) (Y : Yd) (T : List (Nat × Nat)) (M g : Nat), vs = [.ref y.p, vI g] ∧ YardAt P w C y H Y T ∧ g < Y.length ∧ g < n ∧ g < M ∧ (∀ e ∈ T, e.1 < M) ∧ Y.length + M ≤ T.length + 500 ∧
  ∀ (t : Nat) (Z : Yd) (W : List (Nat × Nat)) (H' : Hp), KeepY y H H' → YardAt P w C y H' (Y ++ Z) (T ++ W) → (g, t) ∈ T ++ W → (∀ e ∈ W, e.1 ≤ g) → Z.length ≤ W.length → Q (vI t) H'
abbrev nTurned : List Str := ["self", "game", "option", "lefts", "rights"]
theorem scTurned : FnScope nTurned ["self", "game"] (defScope yTurned) := ⟨rfl, rfl, rfl, by decide +kernel, rfl, by decide +kernel, by decide +kernel⟩
theorem ok_turned {f C fC fG : Addr} {fd fdC fdG : FuncData} (F : Fun K "turned" "Yard.turned" yTurned f fd) (T : TxY K mg C) (bT : Binds K fd ["self", "game"] []) (mT : Meth K C "turned" f) (GC : FnOk P w K mg base CX0 1 fC fdC ["self", "game"] (spCheck P w C)) (bC : Binds K fdC ["self", "game"] []) (mC : Meth K C "_check" fC)
    (GG : FnOk P w K mg base CX0 2 fG fdG ["self", "lefts", "rights"] (spGame P w C)) (bG : Binds K fdG ["self", "lefts", "rights"] []) (mG : Meth K C "game" fG) : ∀ n : Nat, FnOk P w K mg base CX0 (n + 3) f fd ["self", "game"] (spTurned P w C n) := by
  intro n
  induction n with
  | zero =>
    refine F.ok scTurned (fun vs H Q E h => ?_) (fun cdv A outer s H vs Q E hr h => ?_)
    · obtain ⟨y, Y, T, M, g, rfl, _⟩ := h
      rfl
    · obtain ⟨y, Y, T, M, g, _, _, _, h0, _⟩ := h
      exact absurd h0 (Nat.not_lt_zero _)
  | succ n GT =>
    refine F.ok scTurned (fun vs H Q E h => ?_) (fun cdv A outer s H vs Q E hr h => ?_)
    · obtain ⟨y, Y, T, M, g, rfl, _⟩ := h
      rfl
    · obtain ⟨y, Y, TT, M, g, rfl, S, hg, hgn, hgM, hTM, hM, k⟩ := h
      have hu := hu_of hr
      have hr1 : Room 1 _ := hr.mono (by omega)
      have hr2 : Room 2 _ := hr.mono (by omega)
      refine ⟨_, pss_cons (ps_expr (pe_meth (pv 0) T.cl mC GC hr1 bC .nil pass0 (pa_cons (pv 1) pa_nil)))
        (pss_cons (ps_if (pt_cmp (pc_dnotin hu (pv 1) (pe_fld (pv 0) rfl)))
          (pss_cons (ps_setLc (i := 3) (own := [("option", 2)]) (g := gName 2) (tt := tYes) (te := tMeth C "turned" (spTurned P w C n) [] E0 (tVar 0) (tCons (tVar 2) tNil)) rfl scTurned.nd rfl rfl (sw_true rfl rfl rfl (by decide +kernel))
            (pi_tup (pe_ix ix_list (pe_fld (pv 0) rfl) (pv 1) (fun _ _ => rfl))) (blkOk_by (own := [("option", 2)]) (N := nTurned) (sc := defScope yTurned) (by decide +kernel)) (fun _ _ _ _ _ => pg_name (i := 2) scTurned.nd rfl (Or.inl rfl)) (fun _ _ _ _ _ => pts_nil)
            (fun _ _ _ _ _ => pe_meth (pv 0) T.cl mT GT hr bT .nil pass0 (pa_cons (pv 2) pa_nil)))
          (pss_cons (ps_setLc (i := 4) (own := [("option", 2)]) (g := gName 2) (tt := tYes) (te := tMeth C "turned" (spTurned P w C n) [] E0 (tVar 0) (tCons (tVar 2) tNil)) rfl scTurned.nd rfl rfl (sw_true rfl rfl rfl (by decide +kernel))
            (pi_tup (pe_ix ix_list (pe_fld (pv 0) rfl) (pv 1) (fun _ _ => rfl))) (blkOk_by (own := [("option", 2)]) (N := nTurned) (sc := defScope yTurned) (by decide +kernel)) (fun _ _ _ _ _ => pg_name (i := 2) scTurned.nd rfl (Or.inl rfl)) (fun _ _ _ _ _ => pts_nil)
            (fun _ _ _ _ _ => pe_meth (pv 0) T.cl mT GT hr bT .nil pass0 (pa_cons (pv 2) pa_nil)))
          (pss_one (ps_dput hu (pe_fld (pv 0) rfl) (pv 1) (pe_meth (pv 0) T.cl mG GG hr2 bG .nil pass0 (pa_cons (pv 3) (pa_cons (pv 4) pa_nil))) rfl))))
          pss_nil)
        (pss_one (ps_ret (pe_dget hu (pe_fld (pv 0) rfl) (pv 1) (fun _ _ => rfl))))), ?_⟩
      refine ⟨_, rfl, y.p, y.dx, _, rfl, S.ob, yf_check y, _, rfl, y, Y, TT, g, rfl, S, hg, ?_⟩
      refine ⟨_, rfl, _, rfl, y.p, C, y.dx, _, _, rfl, S.ob, T.cl, T.n5, yf_t y, y.t, _, rfl, DGet.k (k := Sum.inl (g : Int)) S.tur, _, rfl, ?_⟩
      cases e : valV (TT.map ent) (Sum.inl (g : Int) : Key) with
      | some v =>
        refine iteF ?_
        obtain ⟨t, ht, rfl⟩ := valV_ent e
        refine ⟨_, rfl, y.p, C, y.dx, _, _, rfl, S.ob, T.cl, T.n5, yf_t y, _, rfl, y.t, _, rfl, by rw [← e]; exact DGet.k (k := Sum.inl (g : Int)) S.tur, ?_⟩
        exact k t [] [] H (KeepY.refl y H) (by rw [List.append_nil, List.append_nil]; exact S) (by rw [List.append_nil]; exact ht) (fun e he => nomatch he) (Nat.le_refl _)
      | none =>
        refine iteT ?_
        have nog := valV_ent_none e
        obtain ⟨tr, r1, r2⟩ := S.rig
        obtain ⟨t0, q1, q2⟩ := tup_at r2 (g := g) (by rw [List.length_map]; exact hg)
        rw [ro_map] at q2
        have few := lo_few S.few g
        -- lefts = [self.turned(option) for option in self._rights[game]]
        refine ⟨_, rfl, y.p, C, y.dx, _, _, rfl, S.ob, T.cl, T.n2, yf_r y, _, rfl, y.r, _, _, _, rfl, rfl, SqL.of r1, atI_nat q1, t0, rfl, ⟨_, SqT.of q2⟩, fun D hD => ?_⟩
        have nD : ¬ Part y D := S.no_new hD
        refine lc_tup (K := K) (a := t0) (xs := nums (ro Y g)) (fun i H' => ∃ (Z : Yd) (W : List (Nat × Nat)) (ks : List Nat), H' D = some (.lst (nums ks)) ∧ YardAt P w C y H' (Y ++ Z) (TT ++ W) ∧ (∀ e ∈ W, e.1 < g) ∧ Z.length ≤ W.length ∧ Trn (TT ++ W) ((ro Y g).take i) ks ∧ KeepY y H H')
          ⟨[], [], [], upd_same, by rw [List.append_nil, List.append_nil]; exact S.same (Same.new (Same.refl H) hD), (fun e he => nomatch he), Nat.le_refl _, .nil, KeepY.new (KeepY.refl y H) hD⟩ (fun i H' _ ⟨_, _, _, _, _, _, _, _, KY⟩ => SqT.of (KY _ _ q2 (S.no_tup q2))) ?_ ?_
        · rintro i x H' hx ⟨Z, W, ks, dD, S', hW, hZ, tn, KY⟩
          obtain ⟨o, ho, rfl, hoi⟩ := nums_mem hx
          have hlt : o < g := S.low g o (.inr ho)
          refine ⟨rfl, ?_⟩
          refine iteT (B := False) ?_
          refine ⟨_, rfl, y.p, y.dx, _, rfl, S'.ob, yf_turned y, _, rfl, y, Y ++ Z, TT ++ W, M, o, rfl, S', by rw [List.length_append]; omega, by omega, by omega, ?_, by rw [List.length_append, List.length_append]; omega, fun t Z2 W2 H2 K2 S2 mem2 w2 z2 => ?_⟩
          · intro e he
            rcases List.mem_append.mp he with he | he
            · exact hTM e he
            · have := hW e he
              omega
          have D2 := K2 _ _ dD nD
          have kl := Paired.length tn
          rw [List.length_take] at kl
          refine ⟨nums ks, D2, by rw [List.length_map, sizeLine_eq]; omega, Z ++ Z2, W ++ W2, ks ++ [t], by rw [upd_same, nums_app] <;> rfl, ?_, ?_, by rw [List.length_append, List.length_append]; omega, ?_, ?_⟩
          · rw [← List.append_assoc, ← List.append_assoc]
            exact S2.other D2 nD
          · intro e he
            rcases List.mem_append.mp he with he | he
            · exact hW e he
            · have := w2 e he
              omega
          · rw [← List.append_assoc, List.take_add_one, hoi]
            exact Paired.snoc tn.more mem2
          · intro b u eb nb
            rw [upd_ne (ne_of_none eb hD)]
            exact K2 _ _ (KY _ _ eb nb) nb
        rintro H1 ⟨Z1, W1, ks1, dD, S1, hW1, hZ1, tn1, KY1⟩
        rw [List.take_of_length_le (by rw [List.length_map]; exact Nat.le_refl _)] at tn1
        -- rights = [self.turned(option) for option in self._lefts[game]]
        obtain ⟨tl, l1, l2⟩ := S1.lef
        obtain ⟨t5, q3, q4⟩ := tup_at l2 (g := g) (by rw [List.length_map, List.length_append]; omega)
        rw [lo_map, lo_app hg] at q4
        refine ⟨_, rfl, y.p, C, y.dx, _, _, rfl, S1.ob, T.cl, T.n1, yf_l y, _, rfl, y.l, _, _, _, rfl, rfl, SqL.of l1, atI_nat q3, t5, rfl, ⟨_, SqT.of q4⟩, fun D' hD' => ?_⟩
        have nD' : ¬ Part y D' := S1.no_new hD'
        refine lc_tup (K := K) (a := t5) (xs := nums (lo Y g)) (fun i H' => ∃ (Z : Yd) (W : List (Nat × Nat)) (ks : List Nat), H' D' = some (.lst (nums ks)) ∧ YardAt P w C y H' (Y ++ Z1 ++ Z) (TT ++ W1 ++ W) ∧ (∀ e ∈ W, e.1 < g) ∧ Z.length ≤ W.length ∧ Trn (TT ++ W1 ++ W) ((lo Y g).take i) ks ∧ KeepY y H1 H')
          ⟨[], [], [], upd_same, by rw [List.append_nil, List.append_nil]; exact S1.same (Same.new (Same.refl H1) hD'), (fun e he => nomatch he), Nat.le_refl _, .nil, KeepY.new (KeepY.refl y H1) hD'⟩ (fun i H' _ ⟨_, _, _, _, _, _, _, _, KY⟩ => SqT.of (KY _ _ q4 (S1.no_tup q4))) ?_ ?_
        · rintro i x H' hx ⟨Z, W, ks, dD', S', hW, hZ, tn, KY⟩
          obtain ⟨o, ho, rfl, hoi⟩ := nums_mem hx
          have hlt : o < g := S.low g o (.inl ho)
          refine ⟨rfl, ?_⟩
          refine iteT (B := False) ?_
          refine ⟨_, rfl, y.p, y.dx, _, rfl, S'.ob, yf_turned y, _, rfl, y, Y ++ Z1 ++ Z, TT ++ W1 ++ W, M, o, rfl, S', by rw [List.length_append, List.length_append]; omega, by omega, by omega, ?_, by rw [List.length_append, List.length_append, List.length_append, List.length_append]; omega, fun t Z2 W2 H2 K2 S2 mem2 w2 z2 => ?_⟩
          · intro e he
            rcases List.mem_append.mp he with he | he
            · rcases List.mem_append.mp he with he | he
              · exact hTM e he
              · have := hW1 e he
                omega
            · have := hW e he
              omega
          have D2 := K2 _ _ dD' nD'
          have kl := Paired.length tn
          rw [List.length_take] at kl
          refine ⟨nums ks, D2, by rw [List.length_map, sizeLine_eq]; omega, Z ++ Z2, W ++ W2, ks ++ [t], by rw [upd_same, nums_app] <;> rfl, ?_, ?_, by rw [List.length_append, List.length_append]; omega, ?_, ?_⟩
          · rw [← List.append_assoc, ← List.append_assoc]
            exact S2.other D2 nD'
          · intro e he
            rcases List.mem_append.mp he with he | he
            · exact hW e he
            · have := w2 e he
              omega
          · rw [← List.append_assoc, List.take_add_one, hoi]
            exact Paired.snoc tn.more mem2
          · intro b u eb nb
            rw [upd_ne (ne_of_none eb hD')]
            exact K2 _ _ (KY _ _ eb nb) nb
        rintro H2 ⟨Z2, W2, ks2, dD', S2, hW2, hZ2, tn2, KY2⟩
        rw [List.take_of_length_le (by rw [List.length_map]; exact Nat.le_refl _)] at tn2
        have dD2 := KY2 _ _ dD nD
        have len1 := Paired.length tn1
        have len2 := Paired.length tn2
        have tn1' : Trn (TT ++ W1 ++ W2) (ro Y g) ks1 := tn1.more
        have hTn : (TT ++ W1 ++ W2).length ≤ M := by
          have q := nodup_le M _ S2.tnd (fun x hx => by
            obtain ⟨e, he, rfl⟩ := List.mem_map.mp hx
            rcases List.mem_append.mp he with he | he
            · rcases List.mem_append.mp he with he | he
              · exact hTM e he
              · have := hW1 e he
                omega
            · have := hW2 e he
              omega)
          rw [List.length_map] at q
          exact q
        have hTn2 : (TT ++ W1 ++ W2).length ≤ (Y ++ Z1 ++ Z2).length := by
          have q := nodup_le (Y ++ Z1 ++ Z2).length _ S2.tnd (fun x hx => by
            obtain ⟨e, he, rfl⟩ := List.mem_map.mp hx
            exact (S2.tin e he).1)
          rw [List.length_map] at q
          exact q
        have hYn : (Y ++ Z1 ++ Z2).length ≤ 500 := by
          simp only [List.length_append] at hTn ⊢
          omega
        have inT : ∀ {o x : Nat}, (o, x) ∈ TT ++ W1 ++ W2 → x < (Y ++ Z1 ++ Z2).length := fun h => (S2.tin _ h).2
        -- self._turned[game] = self.game(lefts, rights)
        refine ⟨_, rfl, y.p, y.dx, _, rfl, S2.ob, yf_game y, _, rfl, _, rfl, y, Y ++ Z1 ++ Z2, TT ++ W1 ++ W2, D, D', ks1, ks2, rfl, S2, dD2, dD', nD, nD', by omega, by omega, ?_, hYn, fun t Z3 H3 K3 S3 z3 ht3 hl3 hr3 => ?_⟩
        · rintro x (hx | hx)
          · obtain ⟨o, _, e3⟩ := tn1'.right x hx
            exact inT e3
          · obtain ⟨o, _, e3⟩ := tn2.right x hx
            exact inT e3
        have nog2 : ∀ x, (g, x) ∉ TT ++ W1 ++ W2 := fun x hx => by
          rcases List.mem_append.mp hx with hx | hx
          · rcases List.mem_append.mp hx with hx | hx
            · exact nog x hx
            · exact absurd (hW1 _ hx) (Nat.lt_irrefl _)
          · exact absurd (hW2 _ hx) (Nat.lt_irrefl _)
        have vn := valV_ent_no nog2
        refine ⟨_, rfl, y.p, C, y.dx, _, _, rfl, S3.ob, T.cl, T.n5, yf_t y, _, rfl, y.t, _, rfl, DPut.k (k := Sum.inl (g : Int)) S3.tur (by rw [List.length_map, sizeLine_eq]; omega), ?_⟩
        rw [putK_new _ vn]
        generalize e4 : upd H3 y.t _ = H4
        obtain ⟨k4, g4⟩ := wrote e4
        have keep4 : ∀ b o, H3 b = some o → b ≠ y.t → H4 b = some o := k4
        have pt : Part y y.t := .inr (.inr (.inr (.inr rfl)))
        have ob4 := k4 _ _ S3.ob (ne_of S3.ob S3.tur (by intro z; cases z))
        have tup4 : ∀ c xs, H3 c = some (.tup xs) → H4 c = some (.tup xs) := fun c xs ec => k4 _ _ ec (ne_of ec S3.tur (by intro z; cases z))
        have eT : (TT ++ W1 ++ W2).map ent ++ [((Sum.inl (g : Int) : Key), vI t)] = (TT ++ W1 ++ W2 ++ [(g, t)]).map ent := (List.map_append (f := ent) (l₁ := TT ++ W1 ++ W2) (l₂ := [(g, t)])).symm
        rw [eT] at g4
        have nd4 : ((TT ++ W1 ++ W2 ++ [(g, t)]).map (·.1)).Nodup := by
          rw [List.map_append]
          refine nd_snoc S3.tnd fun z => ?_
          obtain ⟨e5, he5, e6⟩ := List.mem_map.mp z
          obtain ⟨a5, b5⟩ := e5
          have e6 : a5 = g := e6
          rw [e6] at he5
          exact nog2 b5 he5
        have memT : (g, t) ∈ TT ++ W1 ++ W2 ++ [(g, t)] := List.mem_append_right _ (List.mem_singleton.mpr rfl)
        have hgY : g < (Y ++ Z1 ++ Z2).length := by rw [List.length_append, List.length_append]; omega
        have S4 : YardAt P w C y H4 (Y ++ Z1 ++ Z2 ++ Z3) (TT ++ W1 ++ W2 ++ [(g, t)]) := by
          obtain ⟨tl', a1, a2⟩ := S3.lef
          obtain ⟨tr', b1, b2⟩ := S3.rig
          obtain ⟨hs', c1, c2⟩ := S3.hei
          obtain ⟨kvs, d1, d2, d3⟩ := S3.num
          have lowg : lo (Y ++ Z1 ++ Z2 ++ Z3) g = lo Y g := by rw [lo_app hgY, List.append_assoc, lo_app hg]
          have rog : ro (Y ++ Z1 ++ Z2 ++ Z3) g = ro Y g := by rw [ro_app hgY, List.append_assoc, ro_app hg]
          refine ⟨ob4, ⟨tl', k4 _ _ a1 (ne_of a1 S3.tur (by intro z; cases z)), a2.keeps tup4⟩, ⟨tr', k4 _ _ b1 (ne_of b1 S3.tur (by intro z; cases z)), b2.keeps tup4⟩, ⟨hs', k4 _ _ c1 (ne_of c1 S3.tur (by intro z; cases z)), c2⟩,
            ⟨kvs, k4 _ _ d1 (ne_of d1 S3.tur (by intro z; cases z)), d2.keeps tup4, d3⟩, g4, S3.ne1, S3.ne2, S3.ne3, S3.low, ?_, nd4, ?_, S3.pos, S3.few⟩
          · intro e5 he5
            rcases List.mem_append.mp he5 with he5 | he5
            · exact S3.tin e5 he5
            · rw [List.mem_singleton.mp he5]
              exact ⟨by rw [List.length_append]; omega, ht3⟩
          · refine tok_snoc S3.low S3.tok nog2 (fun x => ?_) (fun x => ?_) fun o ho => ?_
            · rw [rog]
              exact (hl3 x).trans (tn1'.iff S2.tnd x)
            · rw [lowg]
              exact (hr3 x).trans (tn2.iff S2.tnd x)
            · rw [lowg, rog] at ho
              rcases ho with ho | ho
              · obtain ⟨x, _, hx⟩ := tn2.left o ho
                exact ⟨x, hx⟩
              · obtain ⟨x, _, hx⟩ := tn1'.left o ho
                exact ⟨x, hx⟩
        -- return self._turned[game]
        refine ⟨_, rfl, y.p, C, y.dx, _, _, rfl, ob4, T.cl, T.n5, yf_t y, _, rfl, y.t, vI t, rfl, by rw [← valV_ent_in nd4 memT]; exact DGet.k (k := Sum.inl (g : Int)) g4, ?_⟩
        refine k t (Z1 ++ Z2 ++ Z3) (W1 ++ W2 ++ [(g, t)]) H4 (fun b o eb nb => k4 _ _ (K3 _ _ (KY2 _ _ (KY1 _ _ eb nb) nb) nb) fun z => nb (z ▸ pt)) ?_ ?_ ?_ ?_
        · rw [← List.append_assoc, ← List.append_assoc, ← List.append_assoc, ← List.append_assoc]
          exact S4
        · rw [← List.append_assoc, ← List.append_assoc]
          exact memT
        · intro e5 he5
          rcases List.mem_append.mp he5 with he5 | he5
          · rcases List.mem_append.mp he5 with he5 | he5
            · exact Nat.le_of_lt (hW1 _ he5)
            · exact Nat.le_of_lt (hW2 _ he5)
          · rw [List.mem_singleton.mp he5]
            exact Nat.le_refl _
        · simp only [List.length_append, List.length_singleton]
          omega
end
end K18
/-! The order: its making, its dict. -/
namespace K18
open PySem L2 Gm Nd
abbrev kAB (a b : Nat) : List Key := [Sum.inl (a : Int), Sum.inl (b : Int)]
theorem kAB_inj {a b c d : Nat} (h : kAB a b = kAB c d) : a = c ∧ b = d := by
  injection h with h1 h2
  injection h2 with h2 _
  exact ⟨Int.ofNat_inj.mp (Sum.inl.inj h1), Int.ofNat_inj.mp (Sum.inl.inj h2)⟩
theorem Kept.put {Y : Yd} {kvs : List (List Key × V)} (k : Kept Y kvs) {a b : Nat} (ha : a < Y.length) (hb : b < Y.length) : Kept Y (putK kvs (kAB a b) (.bl (ge Y a b))) := by
  obtain ⟨k1, k2⟩ := k
  unfold putK
  split
  · refine ⟨?_, fun e he => ?_⟩
    · rw [List.map_map]
      have e2 : (kvs.map ((fun x => x.1) ∘ fun kv => if kv.1 = kAB a b then (kv.1, V.bl (ge Y a b)) else kv)) = kvs.map (·.1) := List.map_congr_left fun kv _ => by
        show (if kv.1 = kAB a b then (kv.1, V.bl (ge Y a b)) else kv).1 = kv.1
        split <;> rfl
      rw [e2]
      exact k1
    · obtain ⟨kv, h1, h2⟩ := List.mem_map.mp he
      by_cases q : kv.1 = kAB a b
      · rw [if_pos q] at h2
        subst h2
        exact ⟨a, b, ha, hb, q, rfl⟩
      · rw [if_neg q] at h2
        subst h2
        exact k2 kv h1
  · rename_i hno
    have hn : valV kvs (kAB a b) = none := by
      rw [valV_any] at hno
      cases q : valV kvs (kAB a b) with
      | none => rfl
      | some v => rw [q] at hno; exact absurd rfl hno
    refine ⟨?_, fun e he => ?_⟩
    · rw [List.map_append]
      exact nd_snoc k1 (valV_not hn)
    · rcases List.mem_append.mp he with he | he
      · exact k2 e he
      · cases List.mem_singleton.mp he
        exact ⟨a, b, ha, hb, rfl, rfl⟩
theorem Kept.val {Y : Yd} {kvs : List (List Key × V)} (k : Kept Y kvs) {a b : Nat} {v : V} (h : valV kvs (kAB a b) = some v) : v = .bl (ge Y a b) := by
  unfold valV at h
  obtain ⟨e, he, hv⟩ := Option.map_eq_some_iff.mp h
  obtain ⟨c, d, _, _, e1, e2⟩ := k.2 e (List.mem_of_find?_eq_some he)
  have h2 := List.find?_some he
  have h2 : e.1 = kAB a b := of_decide_eq_true h2
  rw [e1] at h2
  obtain ⟨rfl, rfl⟩ := kAB_inj h2
  rw [← hv, e2]
def codeK (n : Nat) : List Key → Nat
  | [Sum.inl a, Sum.inl b] => n * a.toNat + b.toNat
  | _ => 0
theorem Kept.few {Y : Yd} {kvs : List (List Key × V)} (k : Kept Y kvs) : kvs.length ≤ Y.length * Y.length := by
  obtain ⟨k1, k2⟩ := k
  have q := nodup_le (Y.length * Y.length) ((kvs.map (·.1)).map (codeK Y.length)) ?_ ?_
  · rw [List.length_map, List.length_map] at q
    exact q
  · refine List.pairwise_map.mpr (List.Pairwise.imp_of_mem (fun {x z} hx hz ne => ?_) k1)
    obtain ⟨e, he, rfl⟩ := List.mem_map.mp hx
    obtain ⟨e', he', rfl⟩ := List.mem_map.mp hz
    obtain ⟨a, b, ha, hb, e1, _⟩ := k2 e he
    obtain ⟨c, d, hc, hd, e2, _⟩ := k2 e' he'
    intro h
    apply ne
    show e.1 = e'.1
    have h : codeK Y.length e.1 = codeK Y.length e'.1 := h
    rw [e1, e2] at h ⊢
    have h : Y.length * a + b = Y.length * c + d := h
    have m1 := congrArg (· % Y.length) h
    have m1 : (Y.length * a + b) % Y.length = (Y.length * c + d) % Y.length := m1
    rw [Nat.mul_add_mod, Nat.mul_add_mod, Nat.mod_eq_of_lt hb, Nat.mod_eq_of_lt hd] at m1
    subst m1
    have h3 : Y.length * a = Y.length * c := by omega
    have h4 : a = c := Nat.eq_of_mul_eq_mul_left (by omega) h3
    rw [h4]
  · intro x hx
    obtain ⟨z, hz, rfl⟩ := List.mem_map.mp hx
    obtain ⟨e, he, rfl⟩ := List.mem_map.mp hz
    obtain ⟨a, b, ha, hb, e1, _⟩ := k2 e he
    show codeK Y.length e.1 < _
    rw [e1]
    show Y.length * a + b < Y.length * Y.length
    calc Y.length * a + b < Y.length * a + Y.length := by omega
      _ = Y.length * (a + 1) := by rw [Nat.mul_add, Nat.mul_one]
      _ ≤ Y.length * Y.length := Nat.mul_le_mul_left _ ha
theorem OrdAt.keep {C : Addr} {o : OA} {y : YA} {H H' : Hp} {Y : Yd} (O : OrdAt C o y H Y) (h : Same H H') : OrdAt C o y H' Y := by
  obtain ⟨kvs, d, k⟩ := O.dic
  exact ⟨h _ _ O.ob, kvs, h _ _ d, k⟩
section
variable {P : Program} {w : World} {K : PySem.W.Frag} {mg : Str → Option Value} {base : Heap}
def spOInit (C : Addr) : Sp := fun vs H Q _ => ∃ (q dx : Addr) (y : YA), vs = [.ref q, .ref y.p] ∧ H q = some (.ins C dx []) ∧
  ∀ (o : OA) (H' : Hp), o.q = q → H o.d = none → KeepO q H H' → H' q = some (.ins C o.dx (of_ o y)) → H' o.d = some (.dT []) → Q .non H'
theorem scOInit : FnScope ["self", "yard"] ["self", "yard"] (defScope oInit) := ⟨rfl, rfl, rfl, by decide +kernel, rfl, by decide +kernel, by decide +kernel⟩
theorem ok_oinit {f C : Addr} {fd : FuncData} (F : Fun K "__init__" "Order.__init__" oInit f fd) (T : TxO K mg C) : FnOk P w K mg base CX0 1 f fd ["self", "yard"] (spOInit C) := by
  refine F.ok scOInit (fun vs H Q E h => ?_) (fun cdv A outer s H vs Q E hr h => ?_)
  · obtain ⟨p, dx, y, rfl, _⟩ := h
    rfl
  · obtain ⟨p, dx, y, rfl, hp, k⟩ := h
    refine ⟨_, pss_cons (ps_fld (pv 0) (pv 1) rfl) (pss_cons (ps_fld (pv 0) pe_dnewT rfl) (pss_one (ps_fld (pv 0) pe_dnewK rfl))), ?_⟩
    refine ⟨_, rfl, _, rfl, p, C, dx, _, rfl, hp, T.cl, T.n1, by show 0 < 1000; decide, ?_⟩
    generalize e1 : upd H p _ = H1
    obtain ⟨k1, g1⟩ := wrote e1
    intro d hd
    generalize e2 : upd H1 d _ = H2
    obtain ⟨s2, g2⟩ := laid e2 hd
    refine ⟨_, rfl, p, C, dx, _, rfl, s2 _ _ g1, T.cl, T.n2, by show 1 < 1000; decide, ?_⟩
    generalize e3 : upd H2 p _ = H3
    obtain ⟨k3, g3⟩ := wrote e3
    have ndp : d ≠ p := fun z => by rw [z, g1] at hd; cases hd
    have d3 := k3 _ _ g2 ndp
    intro c hc
    generalize e4 : upd H3 c _ = H4
    obtain ⟨s4, g4⟩ := laid e4 hc
    refine ⟨_, rfl, p, C, dx, _, rfl, s4 _ _ g3, T.cl, T.n3, by show 2 < 1000; decide, ?_⟩
    generalize e5 : upd H4 p _ = H5
    obtain ⟨k5, g5⟩ := wrote e5
    refine k ⟨p, dx, d, c⟩ H5 rfl ?_ (fun b u eb nb => k5 _ _ (s4 _ _ (k3 _ _ (s2 _ _ (k1 _ _ eb nb)) nb)) nb) g5 (k5 _ _ (s4 _ _ d3) ndp)
    show H d = none
    cases q : H d with
    | none => rfl
    | some u =>
      rw [k1 _ _ q ndp] at hd
      cases hd
end
end K18
/-! The order's methods. -/
namespace K18
open PySem L2 Gm Nd
section
variable {P : Program} {w : World} {K : PySem.W.Frag} {mg : Str → Option Value} {base : Heap}
/-- a method that keeps its promise; a def that does -/
def HasM (P : Program) (w : World) (K : PySem.W.Frag) (mg : Str → Option Value) (base : Heap) (C : Addr) (m : Str) (k : Nat) (ps : List Str) (sp : Sp) : Prop := ∃ f fd, FnOk P w K mg base CX0 k f fd ps sp ∧ Binds K fd ps [] ∧ Meth K C m f
def HasF (P : Program) (w : World) (K : PySem.W.Frag) (mg : Str → Option Value) (base : Heap) (x : Str) (k : Nat) (ps : List Str) (sp : Sp) : Prop := ∃ f fd, FnOk P w K mg base CX0 k f fd ps sp ∧ Binds K fd ps [] ∧ mg x = some (.ref f) ∧ PySem.W.keepIn K (.ref f) = true
/-- an attribute that is a property -/
def HasP (P : Program) (w : World) (K : PySem.W.Frag) (mg : Str → Option Value) (base : Heap) (C : Addr) (x : Str) (k : Nat) (sp : Sp) : Prop := ∃ p f fd, PropOf K C x p f ∧ FnOk P w K mg base CX0 k f fd ["self"] sp ∧ Binds K fd ["self"] []
def spAt (P : Program) (w : World) (CY CO : Addr) (n : Nat) : Sp := fun vs H Q _ => ∃ (o : OA) (y : YA) (Y : Yd) (T : List (Nat × Nat)) (a b : Nat), vs = [.ref o.q, vI a, vI b] ∧ OrdAt CO o y H Y ∧ YardAt P w CY y H Y T ∧ a < Y.length ∧ b < Y.length ∧ a + b < n ∧ Y.length ≤ 500 ∧
  ∀ H', KeepO o.d H H' → OrdAt CO o y H' Y → Q (.bl (ge Y a b)) H'
abbrev nReck : List Str := ["self", "one", "other", "right", "left"]
theorem scReck : FnScope nReck ["self", "one", "other"] (defScope oReck) := ⟨rfl, rfl, rfl, by decide +kernel, rfl, by decide +kernel, by decide +kernel⟩
theorem scAt : FnScope ["self", "one", "other"] ["self", "one", "other"] (defScope oAt) := ⟨rfl, rfl, rfl, by decide +kernel, rfl, by decide +kernel, by decide +kernel⟩
theorem OrdAt.yard {CY CO : Addr} {o : OA} {y : YA} {H H' : Hp} {Y : Yd} {T : List (Nat × Nat)} (O : OrdAt CO o y H Y) (S : YardAt P w CY y H Y T) (k : KeepO o.d H H') : YardAt P w CY y H' Y T := by
  obtain ⟨kvs, d, _⟩ := O.dic
  exact S.keeps (k.keepD d)
theorem ok_reck {CY CO f fA : Addr} {fd fdA : FuncData} {k n : Nat} (F : Fun K "_reckon" "Order._reckon" oReck f fd) (TY : TxY K mg CY) (TO : TxO K mg CO)
    (hP : HasP P w K mg base CO "yard" 1 (getSp CO "_yard")) (hL : HasM P w K mg base CY "lefts" 2 ["self", "game"] (spList P w CY lo)) (hR : HasM P w K mg base CY "rights" 2 ["self", "game"] (spList P w CY ro))
    (GA : FnOk P w K mg base CX0 (k + 2) fA fdA ["self", "one", "other"] (spAt P w CY CO n)) (bA : Binds K fdA ["self", "one", "other"] []) (mA : Meth K CO "at_least" fA) :
    FnOk P w K mg base CX0 (k + 3) f fd ["self", "one", "other"] (spAt P w CY CO (n + 1)) := by
  obtain ⟨pp, fP, fdP, PP, GP, bP⟩ := hP
  obtain ⟨fL, fdL, GL, bL, mL⟩ := hL
  obtain ⟨fR, fdR, GR, bR, mR⟩ := hR
  refine F.ok scReck (fun vs H Q E h => ?_) (fun cdv A outer s H vs Q E hr h => ?_)
  · obtain ⟨o, y, Y, T, a, b, rfl, _⟩ := h
    rfl
  · obtain ⟨o, y, Y, T, a, b, rfl, O, S, ha, hb, hab, hY, q⟩ := h
    have hr2 : Room 2 _ := hr.mono (by omega)
    refine ⟨_, pss_cons (ps_for PassesOwn.never rfl (pi_list (pe_meth (pe_prop (pv 0) TO.cl PP GP hr2 bP .nil pass0 rfl) TY.cl mR GR hr2 bR .nil pass0 (pa_cons (pv 1) pa_nil))) (pg_name (i := 3) scReck.nd rfl (Or.inl rfl))
        (pss_one (ps_if (pt_val (pe_meth (pv 0) TO.cl mA GA hr bA .nil pass0 (pa_cons (pv 2) (pa_cons (pv 3) pa_nil)))) (pss_one (ps_ret pe_bl)) pss_nil)))
      (pss_cons (ps_for PassesOwn.never rfl (pi_list (pe_meth (pe_prop (pv 0) TO.cl PP GP hr2 bP .nil pass0 rfl) TY.cl mL GL hr2 bL .nil pass0 (pa_cons (pv 2) pa_nil))) (pg_name (i := 4) scReck.nd rfl (Or.inl rfl))
        (pss_one (ps_if (pt_val (pe_meth (pv 0) TO.cl mA GA hr bA .nil pass0 (pa_cons (pv 4) (pa_cons (pv 1) pa_nil)))) (pss_one (ps_ret pe_bl)) pss_nil)))
      (pss_one (ps_ret pe_bl))), ?_⟩
    -- for right in self.yard.rights(one)
    refine ⟨_, rfl, o.q, o.dx, _, rfl, O.ob, o.q, o.dx, _, _, rfl, O.ob, of_y o y, y.p, y.dx, _, rfl, S.ob, yf_rights y, _, rfl, y, Y, T, a, rfl, S, ha, fun p hp => ?_⟩
    generalize e1 : upd H p _ = H1
    obtain ⟨s1, g1⟩ := laid e1 hp
    have O1 := O.keep s1
    have S1 := S.same s1
    obtain ⟨kvs1, d1, _⟩ := O1.dic
    have np : p ≠ o.d := ne_of g1 d1 (by intro z; cases z)
    refine ⟨p, rfl, ⟨_, SqL.of g1⟩, for_list (K := K) (a := p) (xs := nums (ro Y a)) (fun i σ H' => ∃ v, σ = [some (.ref o.q), some (vI a), some (vI b), v, none] ∧ KeepO o.d H1 H' ∧ OrdAt CO o y H' Y ∧ ∀ (j r : Nat), j < i → (ro Y a)[j]? = some r → ge Y b r = false)
      ⟨none, rfl, KeepO.refl _ _, O1, fun j r hj => absurd hj (Nat.not_lt_zero _)⟩ (fun i σ H' _ ⟨_, _, k2, _⟩ => SqL.of (k2 _ _ g1 np)) ?_ ?_⟩
    · rintro i x σ H' hi ⟨v, rfl, k2, O2, hj⟩
      obtain ⟨r, hr', rfl, hri⟩ := nums_mem hi
      have hlt := S.low a r (.inr hr')
      refine ⟨_, rfl, o.q, o.dx, _, rfl, O2.ob, of_at o y, _, rfl, _, rfl, o, y, Y, T, b, r, rfl, O2, O1.yard S1 k2, hb, by omega, by omega, hY, fun H3 k3 O3 => ⟨_, rfl, ?_⟩⟩
      cases e : ge Y b r with
      | true =>
        refine iteT ?_
        have q1 := q H3 ((KeepO.of s1).trans (k2.trans k3)) O3
        rw [ge_false_r S.low hr' e] at q1
        exact q1
      | false =>
        refine iteF ?_
        refine ⟨_, rfl, k2.trans k3, O3, fun j r2 hj2 e2 => ?_⟩
        by_cases hji : j = i
        · subst hji
          rw [hri] at e2
          cases e2
          exact e
        · exact hj j r2 (by omega) e2
    rintro σ H2 ⟨v, rfl, k2, O2, hj⟩
    have hro : ∀ r ∈ ro Y a, ge Y b r = false := fun r hr' => by
      obtain ⟨j, hjl, e2⟩ := List.getElem_of_mem hr'
      exact hj j r (by rw [List.length_map]; exact hjl) (by rw [List.getElem?_eq_getElem hjl, e2])
    -- for left in self.yard.lefts(other)
    have S2 := O1.yard S1 k2
    refine ⟨_, rfl, o.q, o.dx, _, rfl, O2.ob, o.q, o.dx, _, _, rfl, O2.ob, of_y o y, y.p, y.dx, _, rfl, S2.ob, yf_lefts y, _, rfl, y, Y, T, b, rfl, S2, hb, fun p' hp' => ?_⟩
    generalize e3 : upd H2 p' _ = H3
    obtain ⟨s3, g3⟩ := laid e3 hp'
    have O3 := O2.keep s3
    have S3 := S2.same s3
    obtain ⟨kvs3, d3, _⟩ := O3.dic
    have np' : p' ≠ o.d := ne_of g3 d3 (by intro z; cases z)
    refine ⟨p', rfl, ⟨_, SqL.of g3⟩, for_list (K := K) (a := p') (xs := nums (lo Y b)) (fun i σ H' => ∃ v v', σ = [some (.ref o.q), some (vI a), some (vI b), v, v'] ∧ KeepO o.d H3 H' ∧ OrdAt CO o y H' Y ∧ ∀ (j r : Nat), j < i → (lo Y b)[j]? = some r → ge Y r a = false)
      ⟨v, none, rfl, KeepO.refl _ _, O3, fun j r hj => absurd hj (Nat.not_lt_zero _)⟩ (fun i σ H' _ ⟨_, _, _, k2, _⟩ => SqL.of (k2 _ _ g3 np')) ?_ ?_⟩
    · rintro i x σ H' hi ⟨v, v', rfl, k4, O4, hj⟩
      obtain ⟨r, hr', rfl, hri⟩ := nums_mem hi
      have hlt := S.low b r (.inl hr')
      refine ⟨_, rfl, o.q, o.dx, _, rfl, O4.ob, of_at o y, _, rfl, _, rfl, o, y, Y, T, r, a, rfl, O4, O3.yard S3 k4, by omega, ha, by omega, hY, fun H5 k5 O5 => ⟨_, rfl, ?_⟩⟩
      cases e : ge Y r a with
      | true =>
        refine iteT ?_
        have q1 := q H5 ((KeepO.of s1).trans (k2.trans ((KeepO.of s3).trans (k4.trans k5)))) O5
        rw [ge_false_l S.low hr' e] at q1
        exact q1
      | false =>
        refine iteF ?_
        refine ⟨_, _, rfl, k4.trans k5, O5, fun j r2 hj2 e2 => ?_⟩
        by_cases hji : j = i
        · subst hji
          rw [hri] at e2
          cases e2
          exact e
        · exact hj j r2 (by omega) e2
    rintro σ H4 ⟨v, v', rfl, k4, O4, hj⟩
    have hlo : ∀ r ∈ lo Y b, ge Y r a = false := fun r hr' => by
      obtain ⟨j, hjl, e2⟩ := List.getElem_of_mem hr'
      exact hj j r (by rw [List.length_map]; exact hjl) (by rw [List.getElem?_eq_getElem hjl, e2])
    have q1 := q H4 ((KeepO.of s1).trans (k2.trans ((KeepO.of s3).trans k4))) O4
    rw [(ge_iff S.low a b).mpr ⟨hro, hlo⟩] at q1
    exact q1
theorem ok_at {CY CO f fR : Addr} {fd fdR : FuncData} (F : Fun K "at_least" "Order.at_least" oAt f fd) (FR : Fun K "_reckon" "Order._reckon" oReck fR fdR) (TY : TxY K mg CY) (TO : TxO K mg CO)
    (hP : HasP P w K mg base CO "yard" 1 (getSp CO "_yard")) (hL : HasM P w K mg base CY "lefts" 2 ["self", "game"] (spList P w CY lo)) (hR : HasM P w K mg base CY "rights" 2 ["self", "game"] (spList P w CY ro)) (hH : HasM P w K mg base CY "height" 2 ["self", "game"] (spHeight P w CY))
    (bA : Binds K fd ["self", "one", "other"] []) (mA : Meth K CO "at_least" f) (bR : Binds K fdR ["self", "one", "other"] []) (mR : Meth K CO "_reckon" fR) : ∀ n : Nat, FnOk P w K mg base CX0 (2 * n + 2) f fd ["self", "one", "other"] (spAt P w CY CO n) := by
  intro n
  induction n with
  | zero =>
    refine F.ok scAt (fun vs H Q E h => ?_) (fun cdv A outer s H vs Q E hr h => ?_)
    · obtain ⟨o, y, Y, T, a, b, rfl, _⟩ := h
      rfl
    · obtain ⟨o, y, Y, T, a, b, _, _, _, _, _, h0, _⟩ := h
      exact absurd h0 (Nat.not_lt_zero _)
  | succ n GA =>
    have GR : FnOk P w K mg base CX0 (2 * n + 3) fR fdR ["self", "one", "other"] (spAt P w CY CO (n + 1)) := ok_reck (k := 2 * n) FR TY TO hP hL hR GA bA mA
    obtain ⟨pp, fP, fdP, PP, GP, bP⟩ := hP
    obtain ⟨fH, fdH, GH, bH, mH⟩ := hH
    refine F.ok scAt (fun vs H Q E h => ?_) (fun cdv A outer s H vs Q E hr h => ?_)
    · obtain ⟨o, y, Y, T, a, b, rfl, _⟩ := h
      rfl
    · obtain ⟨o, y, Y, T, a, b, rfl, O, S, ha, hb, hab, hY, q⟩ := h
      have hr2 : Room 2 _ := hr.mono (by omega)
      have hu := hu_of hr
      refine ⟨_, pss_cons (ps_expr (pe_meth (pe_prop (pv 0) TO.cl PP GP hr2 bP .nil pass0 rfl) TY.cl mH GH hr2 bH .nil pass0 (pa_cons (pv 1) pa_nil)))
        (pss_cons (ps_expr (pe_meth (pe_prop (pv 0) TO.cl PP GP hr2 bP .nil pass0 rfl) TY.cl mH GH hr2 bH .nil pass0 (pa_cons (pv 2) pa_nil)))
        (pss_cons (ps_if (pt_cmp (pc_dnotin hu (pe_tup (pa_cons (pv 1) (pa_cons (pv 2) pa_nil))) (pe_fld (pv 0) rfl)))
          (pss_one (ps_dput hu (pe_fld (pv 0) rfl) (pe_tup (pa_cons (pv 1) (pa_cons (pv 2) pa_nil))) (pe_meth (pv 0) TO.cl mR GR hr bR .nil pass0 (pa_cons (pv 1) (pa_cons (pv 2) pa_nil))) rfl)) pss_nil)
        (pss_one (ps_ret (pe_dget hu (pe_fld (pv 0) rfl) (pe_tup (pa_cons (pv 1) (pa_cons (pv 2) pa_nil))) (fun _ _ => rfl)))))), ?_⟩
      refine ⟨_, rfl, o.q, o.dx, _, rfl, O.ob, o.q, o.dx, _, _, rfl, O.ob, of_y o y, y.p, y.dx, _, rfl, S.ob, yf_height y, _, rfl, y, Y, T, a, rfl, S, ha, fun n1 => ?_⟩
      refine ⟨_, rfl, o.q, o.dx, _, rfl, O.ob, o.q, o.dx, _, _, rfl, O.ob, of_y o y, y.p, y.dx, _, rfl, S.ob, yf_height y, _, rfl, y, Y, T, b, rfl, S, hb, fun n2 => ?_⟩
      refine ⟨_, rfl, _, rfl, by show 2 ≤ sizeLine; decide, fun t ht => ?_⟩
      generalize e1 : upd H t _ = H1
      obtain ⟨s1, g1⟩ := laid e1 ht
      have O1 := O.keep s1
      have S1 := S.same s1
      obtain ⟨kvs1, d1, kp1⟩ := O1.dic
      refine ⟨_, rfl, o.q, CO, o.dx, _, _, rfl, O1.ob, TO.cl, TO.n2, of_d o y, o.d, _, rfl, DGet.t (k := kAB a b) d1 g1, _, rfl, ?_⟩
      -- behind it: return self._at_least[one, other]
      have back : ∀ H2 kvs2, KeepO o.d H1 H2 → OrdAt CO o y H2 Y → H2 o.d = some (.dT kvs2) → Kept Y kvs2 → valV kvs2 (kAB a b) = some (.bl (ge Y a b)) →
          tRet (tDGet (tFld K (tVar 0) "_at_least") (tTup (tCons (tVar 1) (tCons (tVar 2) tNil)))) { nx := fun _ H' => Q .non H', rt := Q } (start ["self", "one", "other"] [.ref o.q, vI a, vI b]) H2 := fun H2 kvs2 k2 O2 d2 kp2 hv => by
        refine ⟨_, rfl, o.q, CO, o.dx, _, _, rfl, O2.ob, TO.cl, TO.n2, of_d o y, _, rfl, _, rfl, by show 2 ≤ sizeLine; decide, fun t2 ht2 => ?_⟩
        generalize e3 : upd H2 t2 _ = H3
        obtain ⟨s3, g3⟩ := laid e3 ht2
        refine ⟨o.d, _, rfl, ?_, q H3 ((KeepO.of s1).trans (k2.trans (KeepO.of s3))) (O2.keep s3)⟩
        rw [← hv]
        exact DGet.t (k := kAB a b) (s3 _ _ d2) g3
      cases e : valV kvs1 (kAB a b) with
      | some v =>
        refine iteF ?_
        rw [kp1.val e] at e
        exact back H1 kvs1 (KeepO.refl _ _) O1 d1 kp1 e
      | none =>
        refine iteT ?_
        refine ⟨_, rfl, o.q, o.dx, _, rfl, O1.ob, of_reck o y, _, rfl, _, rfl, o, y, Y, T, a, b, rfl, O1, S1, ha, hb, hab, hY, fun H2 k2 O2 => ?_⟩
        refine ⟨_, rfl, o.q, CO, o.dx, _, _, rfl, O2.ob, TO.cl, TO.n2, of_d o y, _, rfl, _, rfl, by show 2 ≤ sizeLine; decide, fun t2 ht2 => ?_⟩
        generalize e3 : upd H2 t2 _ = H3
        obtain ⟨s3, g3⟩ := laid e3 ht2
        have O3 := O2.keep s3
        obtain ⟨kvs3, d3, kp3⟩ := O3.dic
        have few : kvs3.length < sizeLine := by
          have h1 := kp3.few
          have h2 : Y.length * Y.length ≤ 500 * 500 := Nat.mul_le_mul hY hY
          rw [sizeLine_eq]
          omega
        refine ⟨o.d, _, rfl, DPut.t (k := kAB a b) d3 g3 few, ?_⟩
        generalize e4 : upd H3 o.d _ = H4
        obtain ⟨k4, g4⟩ := wrote e4
        have kp4 := kp3.put ha hb
        have O4 : OrdAt CO o y H4 Y := ⟨k4 _ _ O3.ob (ne_of O3.ob d3 (by intro z; cases z)), _, g4, kp4⟩
        exact back H4 _ (k2.trans ((KeepO.of s3).trans k4)) O4 g4 kp4 (by rw [valV_put, if_pos rfl])
end
end K18
/-! alike, less, apart. -/
namespace K18
open PySem L2 Gm Nd
section
variable {P : Program} {w : World} {K : PySem.W.Frag} {mg : Str → Option Value} {base : Heap}
def spCmp (P : Program) (w : World) (CY CO : Addr) (n : Nat) (g : Bool → Bool → Bool) : Sp := fun vs H Q _ => ∃ (o : OA) (y : YA) (Y : Yd) (T : List (Nat × Nat)) (a b : Nat), vs = [.ref o.q, vI a, vI b] ∧ OrdAt CO o y H Y ∧ YardAt P w CY y H Y T ∧ a < Y.length ∧ b < Y.length ∧ a + b < n ∧ Y.length ≤ 500 ∧
  ∀ H', KeepO o.d H H' → OrdAt CO o y H' Y → Q (.bl (g (ge Y a b) (ge Y b a))) H'
theorem scAlike : FnScope ["self", "one", "other"] ["self", "one", "other"] (defScope oAlike) := ⟨rfl, rfl, rfl, by decide +kernel, rfl, by decide +kernel, by decide +kernel⟩
theorem scLess : FnScope ["self", "one", "other"] ["self", "one", "other"] (defScope oLess) := ⟨rfl, rfl, rfl, by decide +kernel, rfl, by decide +kernel, by decide +kernel⟩
theorem scApart : FnScope ["self", "one", "other"] ["self", "one", "other"] (defScope oApart) := ⟨rfl, rfl, rfl, by decide +kernel, rfl, by decide +kernel, by decide +kernel⟩
theorem ok_alike {CY CO f fA : Addr} {fd fdA : FuncData} {k n : Nat} (F : Fun K "alike" "Order.alike" oAlike f fd) (TO : TxO K mg CO)
    (GA : FnOk P w K mg base CX0 k fA fdA ["self", "one", "other"] (spAt P w CY CO n)) (bA : Binds K fdA ["self", "one", "other"] []) (mA : Meth K CO "at_least" fA) :
    FnOk P w K mg base CX0 (k + 1) f fd ["self", "one", "other"] (spCmp P w CY CO n fun x z => x && z) := by
  refine F.ok scAlike (fun vs H Q E h => ?_) (fun cdv A outer s H vs Q E hr h => ?_)
  · obtain ⟨o, y, Y, T, a, b, rfl, _⟩ := h
    rfl
  · obtain ⟨o, y, Y, T, a, b, rfl, O, S, ha, hb, hab, hY, q⟩ := h
    refine ⟨_, pss_one (ps_ret (pe_and (pe_meth (pv 0) TO.cl mA GA hr bA .nil pass0 (pa_cons (pv 1) (pa_cons (pv 2) pa_nil))) (pe_one (pe_meth (pv 0) TO.cl mA GA hr bA .nil pass0 (pa_cons (pv 2) (pa_cons (pv 1) pa_nil)))))), ?_⟩
    refine ⟨_, rfl, o.q, o.dx, _, rfl, O.ob, of_at o y, _, rfl, _, rfl, o, y, Y, T, a, b, rfl, O, S, ha, hb, hab, hY, fun H1 k1 O1 => ⟨_, rfl, ?_⟩⟩
    cases e : ge Y a b with
    | false =>
      refine iteF ?_
      have q1 := q H1 k1 O1
      rw [e] at q1
      exact q1
    | true =>
      refine iteT ?_
      refine ⟨_, rfl, o.q, o.dx, _, rfl, O1.ob, of_at o y, _, rfl, _, rfl, o, y, Y, T, b, a, rfl, O1, O.yard S k1, hb, ha, by omega, hY, fun H2 k2 O2 => ?_⟩
      have q1 := q H2 (k1.trans k2) O2
      rw [e] at q1
      exact q1
theorem ok_less {CY CO f fA : Addr} {fd fdA : FuncData} {k n : Nat} (F : Fun K "less" "Order.less" oLess f fd) (TO : TxO K mg CO)
    (GA : FnOk P w K mg base CX0 k fA fdA ["self", "one", "other"] (spAt P w CY CO n)) (bA : Binds K fdA ["self", "one", "other"] []) (mA : Meth K CO "at_least" fA) :
    FnOk P w K mg base CX0 (k + 1) f fd ["self", "one", "other"] (spCmp P w CY CO n fun x z => z && !x) := by
  refine F.ok scLess (fun vs H Q E h => ?_) (fun cdv A outer s H vs Q E hr h => ?_)
  · obtain ⟨o, y, Y, T, a, b, rfl, _⟩ := h
    rfl
  · obtain ⟨o, y, Y, T, a, b, rfl, O, S, ha, hb, hab, hY, q⟩ := h
    refine ⟨_, pss_one (ps_ret (pe_and (pe_meth (pv 0) TO.cl mA GA hr bA .nil pass0 (pa_cons (pv 2) (pa_cons (pv 1) pa_nil))) (pe_one (pe_not (pe_meth (pv 0) TO.cl mA GA hr bA .nil pass0 (pa_cons (pv 1) (pa_cons (pv 2) pa_nil))))))), ?_⟩
    refine ⟨_, rfl, o.q, o.dx, _, rfl, O.ob, of_at o y, _, rfl, _, rfl, o, y, Y, T, b, a, rfl, O, S, hb, ha, by omega, hY, fun H1 k1 O1 => ⟨_, rfl, ?_⟩⟩
    cases e : ge Y b a with
    | false =>
      refine iteF ?_
      have q1 := q H1 k1 O1
      rw [e] at q1
      exact q1
    | true =>
      refine iteT ?_
      refine ⟨_, rfl, o.q, o.dx, _, rfl, O1.ob, of_at o y, _, rfl, _, rfl, o, y, Y, T, a, b, rfl, O1, O.yard S k1, ha, hb, hab, hY, fun H2 k2 O2 => ⟨_, rfl, ?_⟩⟩
      have q1 := q H2 (k1.trans k2) O2
      rw [e] at q1
      exact q1
theorem ok_apart {CY CO f fA : Addr} {fd fdA : FuncData} {k n : Nat} (F : Fun K "apart" "Order.apart" oApart f fd) (TO : TxO K mg CO)
    (GA : FnOk P w K mg base CX0 k fA fdA ["self", "one", "other"] (spAt P w CY CO n)) (bA : Binds K fdA ["self", "one", "other"] []) (mA : Meth K CO "at_least" fA) :
    FnOk P w K mg base CX0 (k + 1) f fd ["self", "one", "other"] (spCmp P w CY CO n fun x z => !x && !z) := by
  refine F.ok scApart (fun vs H Q E h => ?_) (fun cdv A outer s H vs Q E hr h => ?_)
  · obtain ⟨o, y, Y, T, a, b, rfl, _⟩ := h
    rfl
  · obtain ⟨o, y, Y, T, a, b, rfl, O, S, ha, hb, hab, hY, q⟩ := h
    refine ⟨_, pss_one (ps_ret (pe_and (pe_not (pe_meth (pv 0) TO.cl mA GA hr bA .nil pass0 (pa_cons (pv 1) (pa_cons (pv 2) pa_nil)))) (pe_one (pe_not (pe_meth (pv 0) TO.cl mA GA hr bA .nil pass0 (pa_cons (pv 2) (pa_cons (pv 1) pa_nil))))))), ?_⟩
    refine ⟨_, rfl, o.q, o.dx, _, rfl, O.ob, of_at o y, _, rfl, _, rfl, o, y, Y, T, a, b, rfl, O, S, ha, hb, hab, hY, fun H1 k1 O1 => ⟨_, rfl, _, rfl, ?_⟩⟩
    cases e : ge Y a b with
    | true =>
      refine iteF ?_
      have q1 := q H1 k1 O1
      rw [e] at q1
      exact q1
    | false =>
      refine iteT ?_
      refine ⟨_, rfl, o.q, o.dx, _, rfl, O1.ob, of_at o y, _, rfl, _, rfl, o, y, Y, T, b, a, rfl, O1, O.yard S k1, hb, ha, by omega, hY, fun H2 k2 O2 => ⟨_, rfl, ?_⟩⟩
      have q1 := q H2 (k1.trans k2) O2
      rw [e] at q1
      exact q1
end
end K18
/-! The law's cells, digits, count. -/
namespace K18
open PySem L2 Gm Nd
section
variable {P : Program} {w : World} {K : PySem.W.Frag} {mg : Str → Option Value} {base : Heap}
theorem int_at {ns : List Int} {i : Nat} {x : V} (h : (ns.map V.int)[i]? = some x) : ∃ z, x = .int z ∧ z ∈ ns := by
  rw [List.getElem?_map] at h
  obtain ⟨z, hz, e⟩ := Option.map_eq_some_iff.mp h
  exact ⟨z, e.symm, List.mem_of_getElem? hz⟩
/-! ### _law_cell -/
def spCell (K : PySem.W.Frag) : Sp := fun vs H Q _ => ∃ (a : Addr) (ns : List Int) (k : Nat), vs = [.ref a, vI k] ∧ SqL K H a (ns.map V.int) ∧ ∀ i, Q (.int i) H
abbrev nCell : List Str := ["_law_script", "_law_k", "_law_mixed", "_law_cell_here"]
theorem scCell : FnScope nCell ["_law_script", "_law_k"] (defScope lCell) := ⟨rfl, rfl, rfl, by decide +kernel, rfl, by decide +kernel, by decide +kernel⟩
theorem ok_cell {f : Addr} {fd : FuncData} (F : Fun K "_law_cell" "_law_cell" lCell f fd) (B : TxB mg) : FnOk P w K mg base CX0 1 f fd ["_law_script", "_law_k"] (spCell K) := by
  refine F.ok scCell (fun vs H Q E h => ?_) (fun cdv A outer s H vs Q E hr h => ?_)
  · obtain ⟨a, ns, k, rfl, _⟩ := h
    rfl
  · obtain ⟨a, ns, k, rfl, hS, q⟩ := h
    refine ⟨_, pss_cons (ps_if (pt_cmpR op_lt (pv 1) (pe_callB call_len_seq (by rfl) B.len PySem.boot_len (pa_cons (pv 0) pa_nil)) (nomark _)) (pss_one (ps_ret (pe_ix ix_list (pv 0) (pv 1) (fun _ _ => rfl)))) pss_nil)
      (pss_cons (ps_set (i := 2) scCell.nd rfl (Or.inl rfl) (pe_op op_add (pe_op op_mul pe_int (pv 1)) pe_int))
      (pss_cons (ps_for PassesOwn.never rfl (pi_list (pv 0)) (pg_name (i := 3) scCell.nd rfl (Or.inl rfl))
        (pss_one (ps_set (i := 2) scCell.nd rfl (Or.inl rfl) (pe_op op_mod (pe_callTy call_int1 (by rfl) B.int (by decide +kernel) (pa_cons (pe_op op_add (pe_op op_mul (pv 2) pe_int) (pv 3)) pa_nil)) pe_int))))
      (pss_one (ps_ret (pv 2))))), ?_⟩
    refine ⟨_, rfl, _, rfl, a, _, rfl, .inl hS, _, _, rfl, rfl, _, rfl, ?_⟩
    refine ite2 (fun hlt => ?_) (fun _ => ?_)
    · have hk : k < ns.length := by
        have h1 := of_decide_eq_true hlt
        rw [List.length_map] at h1
        exact Int.ofNat_lt.mp h1
      refine ⟨_, rfl, _, rfl, a, _, _, .int ns[k], rfl, rfl, hS, atI_nat (by rw [List.getElem?_map, List.getElem?_eq_getElem hk] <;> rfl), q _⟩
    · refine ⟨_, rfl, _, _, rfl, rfl, .inl ⟨by decide, by decide⟩, _, _, rfl, rfl, ?_⟩
      refine ⟨_, rfl, a, rfl, ⟨_, hS⟩, for_list (K := K) (a := a) (xs := ns.map V.int) (fun i σ H' => H' = H ∧ ∃ z v, σ = [some (.ref a), some (vI k), some (.int z), v]) ⟨rfl, _, none, rfl⟩ (fun i σ H' _ q => by rw [q.1]; exact hS) ?_ ?_⟩
      · rintro i x σ H' hi ⟨rfl, z, v, rfl⟩
        obtain ⟨u, rfl, _⟩ := int_at hi
        refine ⟨_, rfl, _, _, rfl, rfl, .inr ⟨by decide, by decide⟩, _, rfl, _, _, rfl, rfl, .inl ⟨_, rfl, ?_⟩⟩
        refine ⟨_, _, rfl, rfl, by show (0 : Int) < 2147483647; decide, ?_⟩
        exact ⟨rfl, _, _, rfl⟩
      · rintro σ H' ⟨rfl, z, v, rfl⟩
        exact ⟨_, rfl, q _⟩
/-! ### _law_digits -/
def spDigits : Sp := fun vs H Q _ => ∃ (c : Int), vs = [.int c, .int 12] ∧ ∀ (p : Addr) (ds : List Int) (H' : Hp), H p = none → Same H H' → H' p = some (.lst (ds.map V.int)) → ds.length = 12 → (∀ d ∈ ds, 0 ≤ d ∧ d < 60) → Q (.ref p) H'
abbrev nDigits : List Str := ["_law_cell_here", "_law_count_here", "_law_row", "_law_k", "_law_seed"]
theorem scDigits : FnScope nDigits ["_law_cell_here", "_law_count_here"] (defScope lDigits) := ⟨rfl, rfl, rfl, by decide +kernel, rfl, by decide +kernel, by decide +kernel⟩
theorem snoc60 {ds : List Int} (h : ∀ d ∈ ds, 0 ≤ d ∧ d < 60) (z : Int) : ∀ d ∈ ds ++ [z % 60], 0 ≤ d ∧ d < 60 := fun d hd => by
  rcases List.mem_append.mp hd with hd | hd
  · exact h d hd
  · rw [List.mem_singleton.mp hd]
    exact ⟨Int.emod_nonneg _ (by decide), Int.emod_lt_of_pos _ (by decide)⟩
theorem ok_digits {f : Addr} {fd : FuncData} (F : Fun K "_law_digits" "_law_digits" lDigits f fd) (B : TxB mg) : FnOk P w K mg base CX0 1 f fd ["_law_cell_here", "_law_count_here"] spDigits := by
  refine F.ok scDigits (fun vs H Q E h => ?_) (fun cdv A outer s H vs Q E hr h => ?_)
  · obtain ⟨c, rfl, _⟩ := h
    rfl
  · obtain ⟨c, rfl, q⟩ := h
    refine ⟨_, pss_cons (ps_set (i := 2) scDigits.nd rfl (Or.inl rfl) (pe_lst pa_nil))
      (pss_cons (ps_if (pt_cmpR op_ge (pv 0) (pe_op op_pow pe_int pe_int) (nomark _))
        (pss_cons (ps_for PassesOwn.never rfl (pi_range1 (by rfl) B.range (pa_cons (pv 1) pa_nil)) (pg_name (i := 3) scDigits.nd rfl (Or.inl rfl))
          (pss_cons (ps_expr (pe_bm PySem.F.plainAttrs_list PySem.F.slot_list_append PySem.F.type_list_append mt_append (pv 2) (pa_cons (pe_op op_mod (pe_callTy call_int1 (by rfl) B.int (by decide +kernel) (pa_cons (pv 0) pa_nil)) pe_int) pa_nil)))
          (pss_one (ps_set (i := 0) scDigits.nd rfl (Or.inl rfl) (pe_op op_fdiv (pv 0) pe_int)))))
        (pss_one (ps_ret (pv 2)))) pss_nil)
      (pss_cons (ps_set (i := 4) scDigits.nd rfl (Or.inl rfl) (pe_op op_mod (pe_callTy call_int1 (by rfl) B.int (by decide +kernel) (pa_cons (pe_op op_add (pe_op op_mul (pv 0) pe_int) pe_int) pa_nil)) pe_int))
      (pss_cons (ps_for PassesOwn.never rfl (pi_range1 (by rfl) B.range (pa_cons (pv 1) pa_nil)) (pg_name (i := 3) scDigits.nd rfl (Or.inl rfl))
        (pss_cons (ps_set (i := 4) scDigits.nd rfl (Or.inl rfl) (pe_op op_mod (pe_callTy call_int1 (by rfl) B.int (by decide +kernel) (pa_cons (pe_op op_add (pe_op op_add (pe_op op_mul (pv 4) pe_int) (pe_op op_mul pe_int (pv 3))) pe_int) pa_nil)) pe_int))
        (pss_one (ps_expr (pe_bm PySem.F.plainAttrs_list PySem.F.slot_list_append PySem.F.type_list_append mt_append (pv 2) (pa_cons (pe_op op_mod (pe_callTy call_int1 (by rfl) B.int (by decide +kernel) (pa_cons (pe_op op_fdiv (pv 4) pe_int) pa_nil)) pe_int) pa_nil))))))
      (pss_one (ps_ret (pv 2)))))), ?_⟩
    refine ⟨Nat.zero_le _, fun p hp => ?_⟩
    generalize e1 : upd H p _ = H1
    obtain ⟨s1, g1⟩ := laid e1 hp
    refine ⟨_, rfl, _, _, rfl, rfl, ⟨by decide, by decide, by decide⟩, _, _, rfl, rfl, _, rfl, ?_⟩
    refine ite2 (fun _ => ?_) (fun _ => ?_)
    · refine ⟨_, rfl, 12, rfl, by decide, by decide, for_range (n := 12) (fun i σ H' => ∃ z v ds, σ = [some (.int z), some (.int 12), some (.ref p), v, none] ∧ Same H H' ∧ H' p = some (.lst (ds.map V.int)) ∧ ds.length = i ∧ ∀ d ∈ ds, 0 ≤ d ∧ d < 60) ⟨c, none, [], rfl, s1, g1, rfl, fun d hd => nomatch hd⟩ ?_ ?_⟩
      · rintro i σ H' hi ⟨z, v, ds, rfl, s2, g2, dl, d60⟩
        refine ⟨_, rfl, .inl ⟨rfl, _, SqL.of g2⟩, _, rfl, .inl ⟨_, rfl, ?_⟩⟩
        refine ⟨_, _, rfl, rfl, by show (0 : Int) < 60; decide, p, _, _, rfl, rfl, g2, by rw [List.length_map, sizeLine_eq]; omega, ?_⟩
        generalize e3 : upd H' p _ = H3
        obtain ⟨k3, g3⟩ := wrote e3
        refine ⟨_, rfl, _, _, rfl, rfl, ⟨by decide, by decide⟩, ?_⟩
        refine ⟨_, _, ds ++ [z % 60], rfl, fun b o eb => k3 _ _ (s2 _ _ eb) (ne_of_none eb hp), by rw [g3, List.map_append] <;> rfl, by rw [List.length_append, dl] <;> rfl, snoc60 d60 z⟩
      · rintro σ H' ⟨z, v, ds, rfl, s2, g2, dl, d60⟩
        exact ⟨_, rfl, q p ds H' hp s2 g2 dl d60⟩
    · refine ⟨_, rfl, _, _, rfl, rfl, .inr ⟨by decide, by decide⟩, _, _, rfl, rfl, .inl ⟨_, rfl, _, _, rfl, rfl, by show (0 : Int) < 2147483647; decide, ?_⟩⟩
      refine ⟨_, rfl, 12, rfl, by decide, by decide, for_range (n := 12) (fun i σ H' => ∃ z v ds, σ = [some (.int c), some (.int 12), some (.ref p), v, some (.int z)] ∧ Same H H' ∧ H' p = some (.lst (ds.map V.int)) ∧ ds.length = i ∧ ∀ d ∈ ds, 0 ≤ d ∧ d < 60) ⟨_, none, [], rfl, s1, g1, rfl, fun d hd => nomatch hd⟩ ?_ ?_⟩
      · rintro i σ H' hi ⟨z, v, ds, rfl, s2, g2, dl, d60⟩
        refine ⟨_, rfl, _, _, rfl, rfl, .inr ⟨by decide, by decide⟩, _, rfl, _, _, rfl, rfl, .inl ⟨by decide, by decide⟩, _, _, rfl, rfl, _, _, rfl, rfl, .inl ⟨_, rfl, _, _, rfl, rfl, by show (0 : Int) < 2147483629; decide, ?_⟩⟩
        refine ⟨_, rfl, .inl ⟨rfl, _, SqL.of g2⟩, _, rfl, _, _, rfl, rfl, ⟨by decide, by decide⟩, .inl ⟨_, rfl, ?_⟩⟩
        refine ⟨_, _, rfl, rfl, by show (0 : Int) < 60; decide, p, _, _, rfl, rfl, g2, by rw [List.length_map, sizeLine_eq]; omega, ?_⟩
        generalize e3 : upd H' p _ = H3
        obtain ⟨k3, g3⟩ := wrote e3
        refine ⟨_, _, ds ++ [_ % 60], rfl, fun b o eb => k3 _ _ (s2 _ _ eb) (ne_of_none eb hp), by rw [g3, List.map_append] <;> rfl, by rw [List.length_append, dl] <;> rfl, snoc60 d60 _⟩
      · rintro σ H' ⟨z, v, ds, rfl, s2, g2, dl, d60⟩
        exact ⟨_, rfl, q p ds H' hp s2 g2 dl d60⟩
/-! ### _law_count -/
def spCount : Sp := fun vs H Q _ => ∃ (c : Int), vs = [.int c] ∧ ∀ n : Nat, n ≤ 23 → Q (vI n) H
theorem scCount : FnScope ["_law_cell_here", "_law_k"] ["_law_cell_here"] (defScope lCount) := ⟨rfl, rfl, rfl, by decide +kernel, rfl, by decide +kernel, by decide +kernel⟩
theorem ok_count {f : Addr} {fd : FuncData} (F : Fun K "_law_count" "_law_count" lCount f fd) (B : TxB mg) : FnOk P w K mg base CX0 1 f fd ["_law_cell_here"] spCount := by
  refine F.ok scCount (fun vs H Q E h => ?_) (fun cdv A outer s H vs Q E hr h => ?_)
  · obtain ⟨c, rfl, _⟩ := h
    rfl
  · obtain ⟨c, rfl, q⟩ := h
    refine ⟨_, pss_cons (ps_set (i := 1) scCount.nd rfl (Or.inl rfl) (pe_op op_mod (pe_callTy call_int1 (by rfl) B.int (by decide +kernel) (pa_cons (pv 0) pa_nil)) pe_int))
      (pss_cons (ps_if (pt_cmpR op_eq (pe_op op_mod (pe_callTy call_int1 (by rfl) B.int (by decide +kernel) (pa_cons (pv 1) pa_nil)) pe_int) pe_int (nomark _)) (pss_one (ps_ret (pe_op op_add pe_int (pe_op op_fdiv (pv 1) pe_int)))) pss_nil)
      (pss_one (ps_ret (pe_op op_add pe_int (pe_op op_mod (pe_callTy call_int1 (by rfl) B.int (by decide +kernel) (pa_cons (pv 1) pa_nil)) pe_int))))), ?_⟩
    refine ⟨_, rfl, .inl ⟨_, rfl, _, _, rfl, rfl, by show (0 : Int) < 96; decide, ?_⟩⟩
    have h0 : 0 ≤ c % 96 := Int.emod_nonneg _ (by decide)
    have h1 : c % 96 < 96 := Int.emod_lt_of_pos _ (by decide)
    have back : ∀ i : Int, 0 ≤ i → i ≤ 23 → Q (.int i) H := fun i a b => by
      have := q i.toNat (by omega)
      unfold vI at this
      rw [Int.toNat_of_nonneg a] at this
      exact this
    refine ⟨_, rfl, .inl ⟨_, rfl, _, _, rfl, rfl, by show (0 : Int) < 8; decide, rfl, _, rfl, ?_⟩⟩
    refine ite2 (fun _ => ?_) (fun _ => ?_)
    · refine ⟨_, rfl, _, _, rfl, rfl, ⟨by decide, by decide⟩, _, _, rfl, rfl, back _ ?_ ?_⟩ <;> omega
    · refine ⟨_, rfl, .inl ⟨_, rfl, _, _, rfl, rfl, by show (0 : Int) < 12; decide, _, _, rfl, rfl, back _ ?_ ?_⟩⟩ <;> omega
end
end K18
/-! The law's model of a family; _law_put. -/
namespace K18
open PySem L2 Gm Nd
/-! ### forms as data -/
def dI (n : Nat) : PyData := .int (n : Int)
def fD (f : Fm) : PyData := .tuple [.list (f.1.map dI), .list (f.2.map dI)]
theorem lay_ints : ∀ l : List Nat, PyData.canLayAll0 (l.map dI) = true
  | [] => rfl
  | x :: l => by
    show (PyData.canLay0 (dI x) && PyData.canLayAll0 (l.map dI)) = true
    rw [lay_ints l]
    rfl
theorem depth_ints : ∀ l : List Nat, PyData.depthAll (l.map dI) ≤ 1
  | [] => Nat.zero_le _
  | x :: l => by
    have h := depth_ints l
    show max (PyData.depth (dI x)) (PyData.depthAll (l.map dI)) ≤ 1
    have e : PyData.depth (dI x) ≤ 1 := by
      unfold dI
      simp [PyData.depth]
    omega
theorem shaped_fD (f : Fm) : SeqAt.shaped (fD f) = true := by
  unfold SeqAt.shaped
  rw [Bool.and_eq_true]
  constructor
  · show (PyData.canLayAll0 (f.1.map dI) && (PyData.canLayAll0 (f.2.map dI) && true)) = true
    rw [lay_ints, lay_ints]
    rfl
  · refine decide_eq_true ?_
    have h1 := depth_ints f.1
    have h2 := depth_ints f.2
    unfold fD
    simp only [PyData.depth, PyData.depthAll]
    omega
theorem dp_ints {K : PySem.W.Frag} {H : Hp} : ∀ l : List Nat, DpAll K H (nums l) (l.map dI)
  | [] => .nil
  | x :: l => .cons (.int _) (dp_ints l)
theorem dp_form {K : PySem.W.Frag} {H : Hp} {t l r : Addr} {f : Fm} (ht : H t = some (.tup [.ref l, .ref r])) (hl : H l = some (.lst (nums f.1))) (hr : H r = some (.lst (nums f.2))) : Dp K H (.ref t) (fD f) :=
  .tup (SqT.of ht) (.cons (.lst (SqL.of hl) (dp_ints _)) (.cons (.lst (SqL.of hr) (dp_ints _)) .nil))
theorem nums_snoc0 (ks : List Nat) (i : Nat) : nums ks ++ [V.int (0 + (i : Int))] = nums (ks ++ [i]) := by
  rw [Int.zero_add, nums_app] <;> rfl
/-! ### the model -/
/-- at fr's places stand these forms, tuples of two lists, all at addresses that N allows -/
def Frs (N : Addr → Prop) (H : Hp) (fr : List Addr) (M : Yd) : Prop := fr.length = M.length ∧ ∀ (i : Nat) (t : Addr) (f : Fm), fr[i]? = some t → M[i]? = some f → N t ∧ ∃ l r, N l ∧ N r ∧ H t = some (.tup [.ref l, .ref r]) ∧ H l = some (.lst (nums f.1)) ∧ H r = some (.lst (nums f.2))
def ModelAt (N : Addr → Prop) (H : Hp) (lm : Addr) (M : Yd) : Prop := ∃ fr : List Addr, H lm = some (.lst (fr.map V.ref)) ∧ Frs N H fr M
theorem Frs.keep {N : Addr → Prop} {H H' : Hp} {fr : List Addr} {M : Yd} (F : Frs N H fr M) (k : ∀ b o, H b = some o → N b → H' b = some o) : Frs N H' fr M := by
  refine ⟨F.1, fun i t f a b => ?_⟩
  obtain ⟨n, l, r, nl, nr, h1, h2, h3⟩ := F.2 i t f a b
  exact ⟨n, l, r, nl, nr, k _ _ h1 n, k _ _ h2 nl, k _ _ h3 nr⟩
theorem Frs.imp {N N' : Addr → Prop} {H : Hp} {fr : List Addr} {M : Yd} (F : Frs N H fr M) (k : ∀ b, N b → N' b) : Frs N' H fr M := by
  refine ⟨F.1, fun i t f a b => ?_⟩
  obtain ⟨n, l, r, nl, nr, h⟩ := F.2 i t f a b
  exact ⟨k _ n, l, r, k _ nl, k _ nr, h⟩
theorem Frs.snoc {N : Addr → Prop} {H : Hp} {fr : List Addr} {M : Yd} (F : Frs N H fr M) {t l r : Addr} {f : Fm} (nt : N t) (nl : N l) (nr : N r) (h1 : H t = some (.tup [.ref l, .ref r])) (h2 : H l = some (.lst (nums f.1))) (h3 : H r = some (.lst (nums f.2))) :
    Frs N H (fr ++ [t]) (M ++ [f]) := by
  refine ⟨by rw [List.length_append, List.length_append, F.1] <;> rfl, fun i u m a b => ?_⟩
  by_cases e : i < fr.length
  · rw [List.getElem?_append_left e] at a
    rw [List.getElem?_append_left (by rw [← F.1]; exact e)] at b
    exact F.2 i u m a b
  · rw [List.getElem?_append_right (by omega)] at a
    rw [List.getElem?_append_right (by rw [← F.1]; omega), ← F.1] at b
    have hi : i - fr.length = 0 := by
      have := (List.getElem?_eq_some_iff.mp a).1
      simp at this
      omega
    rw [hi] at a b
    simp at a b
    subst a b
    exact ⟨nt, l, r, nl, nr, h1, h2, h3⟩
theorem Frs.at_ {N : Addr → Prop} {H : Hp} {fr : List Addr} {M : Yd} (F : Frs N H fr M) {i : Nat} (hi : i < M.length) : ∃ t l r f, fr[i]? = some t ∧ M[i]? = some f ∧ N t ∧ N l ∧ N r ∧ H t = some (.tup [.ref l, .ref r]) ∧ H l = some (.lst (nums f.1)) ∧ H r = some (.lst (nums f.2)) := by
  have h1 : i < fr.length := by rw [F.1]; exact hi
  obtain ⟨n, l, r, nl, nr, h⟩ := F.2 i fr[i] M[i] (List.getElem?_eq_getElem h1) (List.getElem?_eq_getElem hi)
  exact ⟨fr[i], l, r, M[i], List.getElem?_eq_getElem h1, List.getElem?_eq_getElem hi, n, nl, nr, h⟩
/-- a family's model: options below, few -/
structure MOk (M : Yd) : Prop where
  low : Low M
  few : ∀ f ∈ M, f.1.length ≤ M.length ∧ f.2.length ≤ M.length
  pos : 0 < M.length
section
variable {P : Program} {w : World} {K : PySem.W.Frag} {mg : Str → Option Value} {base : Heap}
/-! ### _law_put -/
def spPut : Sp := fun vs H Q _ => ∃ (N : Addr → Prop) (lm lh a b : Addr) (M : Yd) (hs : List Int) (ls rs : List Nat), vs = [.ref lm, .ref lh, .ref a, .ref b] ∧ ModelAt N H lm M ∧ H lh = some (.lst (hs.map V.int)) ∧ hs.length = M.length ∧ lm ≠ lh ∧
  H a = some (.lst (nums ls)) ∧ H b = some (.lst (nums rs)) ∧ (∀ c, N c → c ≠ lm ∧ c ≠ lh) ∧ (∀ c, H c = none → N c) ∧ M.length ≤ 100 ∧ 0 < M.length ∧
  ∀ (M' : Yd) (hs' : List Int) (H' : Hp), (M' = M ∨ ∃ f : Fm, M' = M ++ [f] ∧ (∀ x, (x ∈ f.1 ∨ x ∈ f.2) → x < M.length) ∧ f.1.length ≤ M.length ∧ f.2.length ≤ M.length) → ModelAt N H' lm M' → H' lh = some (.lst (hs'.map V.int)) → hs'.length = M'.length → hs'[0]? = hs[0]? →
    (∀ c o, H c = some o → c ≠ lm → c ≠ lh → H' c = some o) → ∀ n, Q (.int n) H'
abbrev nPut : List Str := ["_law_model", "_law_heights", "_law_lefts", "_law_rights", "_law_k", "_law_form"]
theorem scPut : FnScope nPut ["_law_model", "_law_heights", "_law_lefts", "_law_rights"] (defScope lPut) := ⟨rfl, rfl, rfl, by decide +kernel, rfl, by decide +kernel, by decide +kernel⟩
theorem flat_nums (l : List Nat) : (nums l).all flatV = true := by
  unfold nums
  rw [List.all_map]
  exact List.all_eq_true.mpr fun _ _ => rfl
theorem ok_put {f : Addr} {fd : FuncData} (F : Fun K "_law_put" "_law_put" lPut f fd) (B : TxB mg) : FnOk P w K mg base CX0 1 f fd ["_law_model", "_law_heights", "_law_lefts", "_law_rights"] spPut := by
  refine F.ok scPut (fun vs H Q E h => ?_) (fun cdv A outer s H vs Q E hr h => ?_)
  · obtain ⟨N, lm, lh, a, b, M, hs, ls, rs, rfl, _⟩ := h
    rfl
  · obtain ⟨N, lm, lh, a, b, M, hs, ls, rs, rfl, MA, hh, hl, nmh, ha, hb, hN, hN0, hM, hM0, q⟩ := h
    have hu64 : (cxOf CX0 P w K mg base nPut "_law_put" (defScope lPut) f cdv A outer s H E).nox.A.units + 64 < cLine := hr.units
    refine ⟨_, pss_cons (ps_set (i := 5) scPut.nd rfl (Or.inl rfl) (pe_tup (pa_cons
          (pe_lc (own := [("_law_k", 4)]) (g := gName 4) (tt := tTest (tOp (rIn K false) (tVar 4) (tVar 2))) (te := tVar 4) rfl scPut.nd (pi_range1 (by rfl) B.range (pa_cons (pe_callB call_len_seq (by rfl) B.len PySem.boot_len (pa_cons (pv 0) pa_nil)) pa_nil))
            (blkOk_by (own := [("_law_k", 4)]) (N := nPut) (sc := defScope lPut) (by decide +kernel)) (fun _ _ _ _ _ => pg_name (i := 4) scPut.nd rfl (Or.inl rfl)) (fun _ _ _ _ _ => pts_one (pt_cmpR op_in_seq (pv 4) (pv 2) (by rfl))) (fun _ _ _ _ _ => pv 4))
          (pa_cons (pe_lc (own := [("_law_k", 4)]) (g := gName 4) (tt := tTest (tOp (rIn K false) (tVar 4) (tVar 3))) (te := tVar 4) rfl scPut.nd (pi_range1 (by rfl) B.range (pa_cons (pe_callB call_len_seq (by rfl) B.len PySem.boot_len (pa_cons (pv 0) pa_nil)) pa_nil))
            (blkOk_by (own := [("_law_k", 4)]) (N := nPut) (sc := defScope lPut) (by decide +kernel)) (fun _ _ _ _ _ => pg_name (i := 4) scPut.nd rfl (Or.inl rfl)) (fun _ _ _ _ _ => pts_one (pt_cmpR op_in_seq (pv 4) (pv 3) (by rfl))) (fun _ _ _ _ _ => pv 4)) pa_nil))))
      (pss_cons (ps_for PassesOwn.never rfl (pi_range1 (by rfl) B.range (pa_cons (pe_callB call_len_seq (by rfl) B.len PySem.boot_len (pa_cons (pv 0) pa_nil)) pa_nil)) (pg_name (i := 4) scPut.nd rfl (Or.inl rfl))
        (pss_one (ps_if (pt_cmpR (op_eqD hu64) (pe_ix ix_list (pv 0) (pv 4) (fun _ _ => rfl)) (pv 5) (nomark _)) (pss_one (ps_ret (pv 4))) pss_nil)))
      (pss_cons (ps_expr (pe_bm PySem.F.plainAttrs_list PySem.F.slot_list_append PySem.F.type_list_append mt_append (pv 0) (pa_cons (pv 5) pa_nil)))
      (pss_cons (ps_expr (pe_bm PySem.F.plainAttrs_list PySem.F.slot_list_append PySem.F.type_list_append mt_append (pv 1) (pa_cons
          (pe_callB (cr_max rfl) (by rfl) B.max (by decide +kernel) (pa_cons (pe_op op_cat (pe_lst (pa_cons pe_int pa_nil))
            (pe_lc (own := [("_law_k", 4)]) (g := gName 4) (tt := tYes) (te := tOp (rI0 fun i j => .int (i + j)) (tC (.int 1)) (tOp (rIxL K) (tVar 1) (tVar 4))) rfl scPut.nd (pi_list (pe_op op_cat (pe_ix ix_tup (pv 5) pe_int (fun _ _ => rfl)) (pe_ix ix_tup (pv 5) pe_int (fun _ _ => rfl))))
              (blkOk_by (own := [("_law_k", 4)]) (N := nPut) (sc := defScope lPut) (by decide +kernel)) (fun _ _ _ _ _ => pg_name (i := 4) scPut.nd rfl (Or.inl rfl)) (fun _ _ _ _ _ => pts_nil)
              (fun _ _ _ _ _ => pe_op op_add pe_int (pe_ix ix_list (pv 1) (pv 4) (fun _ _ => rfl))))) pa_nil)) pa_nil)))
      (pss_one (ps_ret (pe_op op_sub (pe_callB call_len_seq (by rfl) B.len PySem.boot_len (pa_cons (pv 0) pa_nil)) pe_int)))))), ?_⟩
    obtain ⟨fr, hm, hf⟩ := id MA
    have hfr : (fr.map V.ref).length = M.length := by rw [List.length_map, hf.1]
    have Hm := hm
    -- _law_form
    refine ⟨_, rfl, lm, _, rfl, .inl (SqL.of Hm), (M.length : Int), by rw [hfr] <;> rfl, by omega, by omega, fun D hD => ?_⟩
    refine lc_range (lo := 0) (n := M.length) (fun i H' => ∃ ks : List Nat, H' D = some (.lst (nums ks)) ∧ (∀ x ∈ ks, x < M.length) ∧ ks.length ≤ i ∧ Same H H') ⟨[], upd_same, (fun x hx => nomatch hx), Nat.le_refl _, Same.new (Same.refl H) hD⟩ ?_ ?_
    · rintro i H' hi ⟨ks, dD, kx, kl, sm⟩
      refine ⟨rfl, _, rfl, _, rfl, a, _, rfl, .inl (SqL.of (sm _ _ ha)), rfl, flat_nums _, _, rfl, ?_⟩
      refine ite2 (fun _ => ?_) (fun _ => ⟨ks, dD, kx, by omega, sm⟩)
      refine ⟨_, rfl, nums ks, dD, by rw [List.length_map, sizeLine_eq]; omega, ks ++ [i], by rw [upd_same, nums_snoc0] <;> rfl, fun x hx => ?_, by rw [List.length_append, List.length_singleton]; omega, fun c o ec => ?_⟩
      · rcases List.mem_append.mp hx with hx | hx
        · exact kx x hx
        · rw [List.mem_singleton.mp hx]
          exact hi
      · rw [upd_ne (ne_of_none ec hD)]
        exact sm _ _ ec
    rintro H1 ⟨k1, d1, x1, n1, s1⟩
    have H1m := s1 _ _ hm
    refine ⟨_, rfl, lm, _, rfl, .inl (SqL.of H1m), (M.length : Int), by rw [hfr] <;> rfl, by omega, by omega, fun D2 hD2 => ?_⟩
    refine lc_range (lo := 0) (n := M.length) (fun i H' => ∃ ks : List Nat, H' D2 = some (.lst (nums ks)) ∧ (∀ x ∈ ks, x < M.length) ∧ ks.length ≤ i ∧ Same H1 H') ⟨[], upd_same, (fun x hx => nomatch hx), Nat.le_refl _, Same.new (Same.refl H1) hD2⟩ ?_ ?_
    · rintro i H' hi ⟨ks, dD, kx, kl, sm⟩
      refine ⟨rfl, _, rfl, _, rfl, b, _, rfl, .inl (SqL.of (sm _ _ (s1 _ _ hb))), rfl, flat_nums _, _, rfl, ?_⟩
      refine ite2 (fun _ => ?_) (fun _ => ⟨ks, dD, kx, by omega, sm⟩)
      refine ⟨_, rfl, nums ks, dD, by rw [List.length_map, sizeLine_eq]; omega, ks ++ [i], by rw [upd_same, nums_snoc0] <;> rfl, fun x hx => ?_, by rw [List.length_append, List.length_singleton]; omega, fun c o ec => ?_⟩
      · rcases List.mem_append.mp hx with hx | hx
        · exact kx x hx
        · rw [List.mem_singleton.mp hx]
          exact hi
      · rw [upd_ne (ne_of_none ec hD2)]
        exact sm _ _ ec
    rintro H2 ⟨k2, d2, x2, n2, s2⟩
    refine ⟨by show 2 ≤ sizeLine; decide, fun t ht => ?_⟩
    generalize e3 : upd H2 t _ = H3
    obtain ⟨s3, g3⟩ := laid e3 ht
    have S13 : Same H1 H3 := s2.trans s3
    have S03 : Same H H3 := s1.trans S13
    have m3 := S03 _ _ hm
    have l3 : H3 D = some (.lst (nums k1)) := S13 _ _ d1
    have r3 : H3 D2 = some (.lst (nums k2)) := s3 _ _ d2
    have nD : N D := hN0 D hD
    have nD2 : N D2 := hN0 D2 (Same.free s1 hD2)
    have nt : N t := hN0 t (Same.free (s1.trans s2) ht)
    have hf3 : Frs N H3 fr M := hf.keep fun c o ec _ => S03 _ _ ec
    -- for _law_k in range(len(_law_model))
    refine ⟨_, rfl, lm, _, rfl, .inl (SqL.of m3), (M.length : Int), by rw [hfr] <;> rfl, by omega, by omega, for_range (n := M.length) (fun i σ H' => H' = H3 ∧ ∃ v, σ = [some (.ref lm), some (.ref lh), some (.ref a), some (.ref b), v, some (.ref t)]) ⟨rfl, none, rfl⟩ ?_ ?_⟩
    · rintro i σ H' hi ⟨rfl, v, rfl⟩
      obtain ⟨u, l, r, g, e1, e2, _, _, _, u1, u2, u3⟩ := hf3.at_ hi
      refine ⟨_, rfl, _, rfl, lm, _, _, .ref u, rfl, rfl, SqL.of m3, ?_, _, rfl, fD g, fD (k1, k2), dp_form u1 u2 u3, dp_form g3 l3 r3, shaped_fD _, shaped_fD _, _, rfl, ?_⟩
      · rw [Int.zero_add]
        exact atI_nat (by rw [List.getElem?_map, e1] <;> rfl)
      · refine ite2 (fun _ => ?_) (fun _ => ⟨rfl, _, rfl⟩)
        refine ⟨_, rfl, q M hs H' (.inl rfl) ⟨fr, m3, hf3⟩ (S03 _ _ hh) hl rfl (fun c o ec _ _ => S03 _ _ ec) _⟩
    rintro σ H' ⟨rfl, v, rfl⟩
    -- _law_model.append(_law_form)
    refine ⟨_, rfl, .inl ⟨rfl, _, SqL.of m3⟩, _, rfl, lm, _, _, rfl, rfl, m3, by rw [hfr, sizeLine_eq]; omega, ?_⟩
    generalize e4 : upd H' lm _ = H4
    obtain ⟨k4, g4⟩ := wrote e4
    have hh4 : H4 lh = some (.lst (hs.map V.int)) := k4 _ _ (S03 _ _ hh) nmh.symm
    have t4 := k4 _ _ g3 (hN t nt).1
    have l4 := k4 _ _ l3 (hN D nD).1
    have r4 := k4 _ _ r3 (hN D2 nD2).1
    -- _law_heights.append(max([0] + [1 + _law_heights[_law_k] for _law_k in _law_form[0] + _law_form[1]]))
    refine ⟨_, rfl, .inl ⟨rfl, _, SqL.of hh4⟩, ?_⟩
    refine ⟨by show 1 ≤ sizeLine; decide, fun z hz => ?_⟩
    generalize e5 : upd H4 z _ = H5
    obtain ⟨s5, g5⟩ := laid e5 hz
    have t5 := s5 _ _ t4
    have hz2 : (nums k1).length + (nums k2).length ≤ sizeLine := by rw [List.length_map, List.length_map, sizeLine_eq]; omega
    refine ⟨_, rfl, t, _, _, _, rfl, rfl, SqT.of t5, rfl, _, rfl, t, _, _, _, rfl, rfl, SqT.of t5, rfl, D, D2, _, _, rfl, rfl, s5 _ _ l4, s5 _ _ r4, hz2, fun u hu => ?_⟩
    generalize e6 : upd H5 u _ = H6
    obtain ⟨s6, g6⟩ := laid e6 hu
    rw [← nums_app] at g6
    refine ⟨u, rfl, ⟨_, SqL.of g6⟩, fun D3 hD3 => ?_⟩
    refine lc_list (K := K) (a := u) (xs := nums (k1 ++ k2)) (fun i H' => ∃ ks : List Int, H' D3 = some (.lst (ks.map V.int)) ∧ ks.length = i ∧ Same H6 H') ⟨[], upd_same, rfl, Same.new (Same.refl _) hD3⟩ (fun i H' _ ⟨_, _, _, sm⟩ => SqL.of (sm _ _ g6)) ?_ ?_
    · rintro i x H' hx ⟨ks, dD, kl, sm⟩
      obtain ⟨g, hg, rfl, _⟩ := nums_mem hx
      have hg2 : g < hs.length := by
        rw [hl]
        rcases List.mem_append.mp hg with w | w
        · exact x1 g w
        · exact x2 g w
      refine ⟨rfl, ?_⟩
      refine iteT (B := False) ?_
      have hi : i < (nums (k1 ++ k2)).length := (List.getElem?_eq_some_iff.mp hx).1
      rw [List.length_map, List.length_append] at hi
      refine ⟨_, rfl, _, rfl, lh, _, _, .int hs[g], rfl, rfl, SqL.of (sm _ _ (s6 _ _ (s5 _ _ hh4))), atI_nat (by rw [List.getElem?_map, List.getElem?_eq_getElem hg2] <;> rfl), _, _, rfl, rfl, ?_⟩
      refine ⟨_, dD, by rw [List.length_map, sizeLine_eq]; omega, ks ++ [1 + hs[g]], by rw [upd_same, List.map_append] <;> rfl, by rw [List.length_append, kl] <;> rfl, fun c o ec => ?_⟩
      rw [upd_ne (ne_of_none ec hD3)]
      exact sm _ _ ec
    rintro H7 ⟨ks, dD, kl, sm⟩
    refine ⟨z, D3, _, _, rfl, rfl, sm _ _ (s6 _ _ g5), dD, ?_, fun m hm' => ?_⟩
    · show 1 + (ks.map V.int).length ≤ sizeLine
      rw [List.length_map, kl, List.length_map, List.length_append, sizeLine_eq]
      omega
    generalize e8 : upd H7 m _ = H8
    obtain ⟨s8, g8⟩ := laid e8 hm'
    refine ⟨m, 0 :: ks, rfl, SqL.of g8, Nat.succ_pos _, fun mx _ _ => ?_⟩
    have S48 : Same H4 H8 := s5.trans (s6.trans (sm.trans s8))
    refine ⟨lh, _, _, rfl, rfl, S48 _ _ hh4, by rw [List.length_map, hl, sizeLine_eq]; omega, ?_⟩
    generalize e9 : upd H8 lh _ = H9
    obtain ⟨k9, g9⟩ := wrote e9
    have K9 : ∀ c o, H' c = some o → c ≠ lm → c ≠ lh → H9 c = some o := fun c o ec c1 c2 => k9 _ _ (S48 _ _ (k4 _ _ ec c1)) c2
    have m9 : H9 lm = some (.lst ((fr ++ [t]).map V.ref)) := by
      rw [k9 _ _ (S48 _ _ g4) nmh, List.map_append] <;> rfl
    have hf9 : Frs N H9 (fr ++ [t]) (M ++ [(k1, k2)]) := (hf3.keep fun c o ec nc => K9 _ _ ec (hN c nc).1 (hN c nc).2).snoc nt nD nD2 (K9 _ _ g3 (hN t nt).1 (hN t nt).2) (K9 _ _ l3 (hN D nD).1 (hN D nD).2) (K9 _ _ r3 (hN D2 nD2).1 (hN D2 nD2).2)
    refine ⟨_, rfl, lm, _, rfl, .inl (SqL.of m9), _, _, rfl, rfl, ?_⟩
    refine q (M ++ [(k1, k2)]) (hs ++ [mx]) H9 (.inr ⟨_, rfl, fun x hx => hx.elim (x1 x) (x2 x), n1, n2⟩) ⟨_, m9, hf9⟩ ?_ ?_ ?_ (fun c o ec c1 c2 => K9 _ _ (S03 _ _ ec) c1 c2) _
    · rw [g9, List.map_append] <;> rfl
    · rw [List.length_append, List.length_append, hl] <;> rfl
    · exact List.getElem?_append_left (by omega)
end
end K18
/-! _law_drawn. -/
namespace K18
open PySem L2 Gm Nd
/-- a slice of a list of numbers is one -/
theorem cut_nums (l : List Nat) (a b : Option Int) : ∃ l' : List Nat, cutV (nums l) a b = nums l' ∧ l'.length ≤ l.length := by
  refine ⟨(l.drop (HT.sIx (nums l).length 0 a)).take (HT.sIx (nums l).length (nums l).length b - HT.sIx (nums l).length 0 a), ?_, ?_⟩
  · unfold cutV nums
    rw [← List.map_drop, ← List.map_take]
  · rw [List.length_take, List.length_drop]
    omega
/-- the last three of a list that is not empty -/
theorem cut_last (l : List Nat) (h : 0 < l.length) : ∃ l' : List Nat, cutV (nums l) (some (-3)) none = nums l' ∧ l'.length ≤ l.length ∧ 0 < l'.length := by
  refine ⟨(l.drop (HT.sIx (nums l).length 0 (some (-3)))).take (HT.sIx (nums l).length (nums l).length none - HT.sIx (nums l).length 0 (some (-3))), ?_, ?_, ?_⟩
  · unfold cutV nums
    rw [← List.map_drop, ← List.map_take]
  · rw [List.length_take, List.length_drop]
    omega
  · rw [List.length_take, List.length_drop, HT.sIx_none]
    have e : HT.sIx (nums l).length 0 (some (-3)) = (-3 + ((nums l).length : Int)).toNat := by
      show (if (-3 : Int) < 0 then (-3 + ((nums l).length : Int)).toNat else min (-3 : Int).toNat (nums l).length) = _
      rw [if_pos (by decide)]
    have e2 : (nums l).length = l.length := List.length_map _
    rw [e, e2]
    omega
abbrev rInt : List V → Hp → VK → Prop := fun xs H Q => (∃ i, xs = [.int i] ∧ Q (.int i) H) ∨ ∃ k, xs = [.bl k] ∧ Q (.int (if k then 1 else 0)) H
abbrev rLenK (K : PySem.W.Frag) : List V → Hp → VK → Prop := fun xs H Q => ∃ p ys, xs = [.ref p] ∧ (SqL K H p ys ∨ SqT K H p ys) ∧ Q (.int ys.length) H
abbrev tPick (K : PySem.W.Frag) (c : Int) : TE := tOp (rIxL K) (tVar 4) (tOp (rI (fun _ j => 0 < j) fun i j => .int (i % j)) (tCB rInt (tCons (tOp (rIxL K) (tVar 2) (tOp (rI0 fun i j => .int (i + j)) (tC (.int c)) (tVar 8))) tNil)) (tCB (rLenK K) (tCons (tVar 4) tNil)))
theorem dig {ds : List Int} (h : ds.length = 12) (j : Nat) (hj : j < 12) : ∃ z, atI (ds.map V.int) (j : Int) = some (V.int z) := by
  have hj2 : j < ds.length := by omega
  exact ⟨ds[j], atI_nat (by rw [List.getElem?_map, List.getElem?_eq_getElem hj2] <;> rfl)⟩
theorem at_mod {α : Type} {xs : List α} (h : 0 < xs.length) (z : Int) : ∃ i v, i < xs.length ∧ xs[i]? = some v ∧ atI xs (z % (xs.length : Int)) = some v := by
  have p : (0 : Int) < xs.length := by omega
  have h1 := Int.emod_nonneg z (b := (xs.length : Int)) (by omega)
  have h2 := Int.emod_lt_of_pos z p
  have hi : (z % (xs.length : Int)).toNat < xs.length := by omega
  refine ⟨_, xs[(z % (xs.length : Int)).toNat], hi, List.getElem?_eq_getElem hi, ?_⟩
  have e : z % (xs.length : Int) = ((z % (xs.length : Int)).toNat : Int) := by omega
  have q := atI_nat (xs := xs) (List.getElem?_eq_getElem hi)
  rw [← e] at q
  exact q
theorem pick {ps : List Nat} (h : 0 < ps.length) (z : Int) : ∃ g, atI (nums ps) (z % ((nums ps).length : Int)) = some (vI g) := by
  obtain ⟨i, v, hi, e1, e2⟩ := at_mod (xs := nums ps) (by rw [List.length_map]; exact h) z
  obtain ⟨g, _, rfl, _⟩ := nums_mem e1
  exact ⟨g, e2⟩
section
variable {P : Program} {w : World} {K : PySem.W.Frag} {mg : Str → Option Value} {base : Heap}
def spDrawn : Sp := fun vs H Q _ => ∃ (N : Addr → Prop) (lm lh d : Addr) (M : Yd) (hs ds : List Int), vs = [.ref lm, .ref lh, .ref d, .int 8] ∧ ModelAt N H lm M ∧ H lh = some (.lst (hs.map V.int)) ∧ hs.length = M.length ∧ hs[0]? = some 0 ∧ H d = some (.lst (ds.map V.int)) ∧ ds.length = 12 ∧
  MOk M ∧ M.length ≤ 100 ∧ ∀ (t l r : Addr) (ls rs : List Nat) (H' : Hp), Same H H' → H' t = some (.tup [.ref l, .ref r]) → H' l = some (.lst (nums ls)) → H' r = some (.lst (nums rs)) → Q (.ref t) H'
abbrev nDrawn : List Str := ["_law_model", "_law_heights", "_law_digits_here", "_law_most", "_law_pool", "_law_lefts", "_law_rights", "_law_base", "_law_k"]
theorem scDrawn : FnScope nDrawn ["_law_model", "_law_heights", "_law_digits_here", "_law_most"] (defScope lDrawn) := ⟨rfl, rfl, rfl, by decide +kernel, rfl, by decide +kernel, by decide +kernel⟩
theorem ok_drawn {f : Addr} {fd : FuncData} (F : Fun K "_law_drawn" "_law_drawn" lDrawn f fd) (B : TxB mg) : FnOk P w K mg base CX0 1 f fd ["_law_model", "_law_heights", "_law_digits_here", "_law_most"] spDrawn := by
  refine F.ok scDrawn (fun vs H Q E h => ?_) (fun cdv A outer s H vs Q E hr h => ?_)
  · obtain ⟨N, lm, lh, d, M, hs, ds, rfl, _⟩ := h
    rfl
  · obtain ⟨N, lm, lh, d, M, hs, ds, rfl, MA, hh, hl, h0, hd, hdl, mo, hM, q⟩ := h
    refine ⟨_, pss_cons (ps_set (i := 4) scDrawn.nd rfl (Or.inr rfl)
          (pe_lc (own := [("_law_k", 8)]) (g := gName 8) (tt := tTest (tOp (rI0 fun i j => .bl (decide (i < j))) (tOp (rIxL K) (tVar 1) (tVar 8)) (tVar 3))) (te := tVar 8) rfl scDrawn.nd (pi_range1 (by rfl) B.range (pa_cons (pe_callB call_len_seq (by rfl) B.len PySem.boot_len (pa_cons (pv 0) pa_nil)) pa_nil))
            (blkOk_by (own := [("_law_k", 8)]) (N := nDrawn) (sc := defScope lDrawn) (by decide +kernel)) (fun _ _ _ _ _ => pg_name (i := 8) scDrawn.nd rfl (Or.inl rfl)) (fun _ _ _ _ _ => pts_one (pt_cmpR op_lt (pe_ix ix_list (pv 1) (pv 8) (fun _ _ => rfl)) (pv 3) (nomark _))) (fun _ _ _ _ _ => pv 8)))
      (C8.pss_cut (ps_if (pt_cmpR op_eq (pe_op op_mod (pe_callTy call_int1 (by rfl) B.int (by decide +kernel) (pa_cons (pe_ix ix_list (pv 2) pe_int (fun _ _ => rfl)) pa_nil)) pe_int) pe_int (nomark _))
          (pss_one (ps_set (i := 4) scDrawn.nd rfl (Or.inr rfl) (pe_slice sl_list (pv 4) (po_some (pe_un un_neg pe_int)) po_none))) pss_nil)
      (pss_cons (ps_setLc (i := 5) (own := [("_law_k", 8)]) (g := gName 8) (tt := tYes) (te := tPick K 1) rfl scDrawn.nd rfl rfl (sw_true rfl rfl rfl (by decide +kernel))
          (pi_range1 (by rfl) B.range (pa_cons (pe_op op_mod (pe_callTy call_int1 (by rfl) B.int (by decide +kernel) (pa_cons (pe_ix ix_list (pv 2) pe_int (fun _ _ => rfl)) pa_nil)) pe_int) pa_nil))
          (blkOk_by (own := [("_law_k", 8)]) (N := nDrawn) (sc := defScope lDrawn) (by decide +kernel)) (fun _ _ _ _ _ => pg_name (i := 8) scDrawn.nd rfl (Or.inl rfl)) (fun _ _ _ _ _ => pts_nil)
          (fun _ _ _ _ _ => pe_ix ix_list (pv 4) (pe_op op_mod (pe_callTy call_int1 (by rfl) B.int (by decide +kernel) (pa_cons (pe_ix ix_list (pv 2) (pe_op op_add pe_int (pv 8)) (fun _ _ => rfl)) pa_nil)) (pe_callB call_len_seq (by rfl) B.len PySem.boot_len (pa_cons (pv 4) pa_nil))) (fun _ _ => rfl)))
      (pss_cons (ps_setLc (i := 6) (own := [("_law_k", 8)]) (g := gName 8) (tt := tYes) (te := tPick K 6) rfl scDrawn.nd rfl rfl (sw_true rfl rfl rfl (by decide +kernel))
          (pi_range1 (by rfl) B.range (pa_cons (pe_op op_mod (pe_callTy call_int1 (by rfl) B.int (by decide +kernel) (pa_cons (pe_ix ix_list (pv 2) pe_int (fun _ _ => rfl)) pa_nil)) pe_int) pa_nil))
          (blkOk_by (own := [("_law_k", 8)]) (N := nDrawn) (sc := defScope lDrawn) (by decide +kernel)) (fun _ _ _ _ _ => pg_name (i := 8) scDrawn.nd rfl (Or.inl rfl)) (fun _ _ _ _ _ => pts_nil)
          (fun _ _ _ _ _ => pe_ix ix_list (pv 4) (pe_op op_mod (pe_callTy call_int1 (by rfl) B.int (by decide +kernel) (pa_cons (pe_ix ix_list (pv 2) (pe_op op_add pe_int (pv 8)) (fun _ _ => rfl)) pa_nil)) (pe_callB call_len_seq (by rfl) B.len PySem.boot_len (pa_cons (pv 4) pa_nil))) (fun _ _ => rfl)))
      (pss_cons (ps_set (i := 7) scDrawn.nd rfl (Or.inl rfl) (pe_ix ix_list (pv 0) (pe_op op_mod (pe_callTy call_int1 (by rfl) B.int (by decide +kernel) (pa_cons (pe_ix ix_list (pv 2) pe_int (fun _ _ => rfl)) pa_nil)) (pe_callB call_len_seq (by rfl) B.len PySem.boot_len (pa_cons (pv 0) pa_nil))) (fun _ _ => rfl)))
      (pss_cons (ps_if (pt_cmpR op_eq (pe_op op_mod (pe_op op_fdiv (pe_ix ix_list (pv 2) pe_int (fun _ _ => rfl)) pe_int) pe_int) pe_int (nomark _))
          (pss_one (ps_ret (pe_tup (pa_cons (pe_slice sl_list (pe_op op_cat (pe_ix ix_tup (pv 7) pe_int (fun _ _ => rfl)) (pe_slice sl_list (pv 5) po_none (po_some pe_int))) (po_some (pe_un un_neg pe_int)) po_none) (pa_cons (pe_ix ix_tup (pv 7) pe_int (fun _ _ => rfl)) pa_nil))))) pss_nil)
      (pss_cons (ps_if (pt_cmpR op_eq (pe_op op_mod (pe_op op_fdiv (pe_ix ix_list (pv 2) pe_int (fun _ _ => rfl)) pe_int) pe_int) pe_int (nomark _))
          (pss_one (ps_ret (pe_tup (pa_cons (pe_ix ix_tup (pv 7) pe_int (fun _ _ => rfl)) (pa_cons (pe_slice sl_list (pe_op op_cat (pe_ix ix_tup (pv 7) pe_int (fun _ _ => rfl)) (pe_slice sl_list (pv 6) po_none (po_some pe_int))) (po_some (pe_un un_neg pe_int)) po_none) pa_nil))))) pss_nil)
      (pss_one (ps_ret (pe_tup (pa_cons (pv 5) (pa_cons (pv 6) pa_nil))))))))))), ?_⟩
    obtain ⟨fr, hm, hf⟩ := id MA
    have hfr : (fr.map V.ref).length = M.length := by rw [List.length_map, hf.1]
    obtain ⟨z0, az0⟩ : ∃ z, atI (ds.map V.int) 0 = some (V.int z) := dig hdl 0 (by omega)
    obtain ⟨z5, az5⟩ : ∃ z, atI (ds.map V.int) 5 = some (V.int z) := dig hdl 5 (by omega)
    obtain ⟨z10, az10⟩ : ∃ z, atI (ds.map V.int) 10 = some (V.int z) := dig hdl 10 (by omega)
    obtain ⟨z11, az11⟩ : ∃ z, atI (ds.map V.int) 11 = some (V.int z) := dig hdl 11 (by omega)
    -- _law_pool
    refine ⟨_, rfl, lm, _, rfl, .inl (SqL.of hm), (M.length : Int), by rw [hfr] <;> rfl, by omega, by omega, fun D hD => ?_⟩
    refine lc_range (lo := 0) (n := M.length) (fun i H' => ∃ ks : List Nat, H' D = some (.lst (nums ks)) ∧ (0 < i → 0 < ks.length) ∧ ks.length ≤ i ∧ Same H H') ⟨[], upd_same, fun x => absurd x (Nat.lt_irrefl _), Nat.le_refl _, Same.new (Same.refl H) hD⟩ ?_ ?_
    · rintro i H' hi ⟨ks, dD, k0, kl, sm⟩
      have hi2 : i < hs.length := by omega
      have ai : atI (hs.map V.int) (0 + (i : Int)) = some (.int hs[i]) := by
        rw [Int.zero_add]
        exact atI_nat (by rw [List.getElem?_map, List.getElem?_eq_getElem hi2] <;> rfl)
      refine ⟨rfl, _, rfl, _, rfl, lh, _, _, .int hs[i], rfl, rfl, SqL.of (sm _ _ hh), ai, _, rfl, _, _, rfl, rfl, _, rfl, ?_⟩
      refine ite2 (fun _ => ?_) (fun hno => ?_)
      · refine ⟨_, rfl, nums ks, dD, by rw [List.length_map, sizeLine_eq]; omega, ks ++ [i], by rw [upd_same, nums_snoc0] <;> rfl, fun _ => by rw [List.length_append]; exact Nat.succ_pos _, by rw [List.length_append, List.length_singleton]; omega, fun c o ec => ?_⟩
        rw [upd_ne (ne_of_none ec hD)]
        exact sm _ _ ec
      · refine ⟨ks, dD, fun _ => ?_, by omega, sm⟩
        by_cases hi0 : i = 0
        · subst hi0
          exfalso
          have e : hs[0] = 0 := by
            rw [List.getElem?_eq_getElem hi2] at h0
            exact Option.some.inj h0
          apply hno
          show decide (hs[0] < 8) = true
          rw [e]
          rfl
        · exact k0 (by omega)
    rintro H1 ⟨k1, d1, k10, kl1, s1⟩
    -- if int(_law_digits_here[10]) % 3 == 1: _law_pool = _law_pool[-3:]
    refine ⟨fun σ H' => ∃ (pl : Addr) (ps : List Nat), σ = [some (.ref lm), some (.ref lh), some (.ref d), some (.int 8), some (.ref pl), none, none, none, none] ∧ Same H H' ∧ H' pl = some (.lst (nums ps)) ∧ 0 < ps.length ∧ ps.length ≤ 100, ?_, ?_⟩
    · refine ⟨_, rfl, d, _, _, .int z10, rfl, rfl, SqL.of (s1 _ _ hd), az10, .inl ⟨_, rfl, _, _, rfl, rfl, by show (0 : Int) < 3; decide, rfl, _, rfl, ?_⟩⟩
      refine ite2 (fun _ => ?_) (fun _ => ⟨D, k1, rfl, s1, d1, k10 mo.pos, by omega⟩)
      obtain ⟨l', e', ll, l0⟩ := cut_last k1 (k10 mo.pos)
      refine ⟨_, rfl, _, rfl, _, rfl, D, _, rfl, SqL.of d1, fun p hp => ?_⟩
      exact ⟨p, l', rfl, Same.new s1 hp, by rw [upd_same, ← e'] <;> rfl, l0, by omega⟩
    rintro σ H2 ⟨pl, ps, rfl, s2, plH2, ps0, psl⟩
    have hd2 := s2 _ _ hd
    -- _law_lefts
    refine ⟨_, rfl, d, _, _, .int z0, rfl, rfl, SqL.of (s2 _ _ hd), az0, .inl ⟨_, rfl, _, _, rfl, rfl, by show (0 : Int) < 5; decide, z0 % 5, rfl, by omega, by omega, fun D1 hD1 => ?_⟩⟩
    refine lc_range (lo := 0) (n := (z0 % 5).toNat) (fun i H' => ∃ ks : List Nat, H' D1 = some (.lst (nums ks)) ∧ ks.length ≤ i ∧ Same H2 H') ⟨[], upd_same, Nat.le_refl _, Same.new (Same.refl H2) hD1⟩ ?_ ?_
    · rintro i H' hi ⟨ks, dD, kl, sm⟩
      refine ⟨rfl, ?_⟩
      refine iteT (B := False) ?_
      obtain ⟨zz, az⟩ : ∃ z, atI (ds.map V.int) (1 + (0 + (i : Int))) = some (V.int z) := by
        have e : 1 + (0 + (i : Int)) = ((1 + i : Nat) : Int) := by omega
        rw [e]
        exact dig hdl (1 + i) (by omega)
      obtain ⟨g, ag⟩ := pick ps0 zz
      have pl' := sm _ _ plH2
      refine ⟨_, rfl, _, rfl, _, rfl, _, _, rfl, rfl, d, _, _, .int zz, rfl, rfl, SqL.of (sm _ _ (s2 _ _ hd)), az, .inl ⟨_, rfl, ?_⟩⟩
      refine ⟨_, rfl, pl, _, rfl, .inl (SqL.of pl'), _, _, rfl, rfl, by rw [List.length_map]; omega, pl, _, _, vI g, rfl, rfl, SqL.of pl', ag, ?_⟩
      refine ⟨_, dD, by rw [List.length_map, sizeLine_eq]; omega, ks ++ [g], by rw [upd_same, nums_app] <;> rfl, by rw [List.length_append, List.length_singleton]; omega, fun c o ec => ?_⟩
      rw [upd_ne (ne_of_none ec hD1)]
      exact sm _ _ ec
    rintro H3 ⟨k3, d3, kl3, s3⟩
    have s23 : Same H H3 := s2.trans s3
    have plH3 := s3 _ _ plH2
    -- _law_rights
    refine ⟨_, rfl, d, _, _, .int z5, rfl, rfl, SqL.of (s23 _ _ hd), az5, .inl ⟨_, rfl, _, _, rfl, rfl, by show (0 : Int) < 5; decide, z5 % 5, rfl, by omega, by omega, fun D2 hD2 => ?_⟩⟩
    refine lc_range (lo := 0) (n := (z5 % 5).toNat) (fun i H' => ∃ ks : List Nat, H' D2 = some (.lst (nums ks)) ∧ ks.length ≤ i ∧ Same H3 H') ⟨[], upd_same, Nat.le_refl _, Same.new (Same.refl H3) hD2⟩ ?_ ?_
    · rintro i H' hi ⟨ks, dD, kl, sm⟩
      refine ⟨rfl, ?_⟩
      refine iteT (B := False) ?_
      obtain ⟨zz, az⟩ : ∃ z, atI (ds.map V.int) (6 + (0 + (i : Int))) = some (V.int z) := by
        have e : 6 + (0 + (i : Int)) = ((6 + i : Nat) : Int) := by omega
        rw [e]
        exact dig hdl (6 + i) (by omega)
      obtain ⟨g, ag⟩ := pick ps0 zz
      have pl' := sm _ _ plH3
      refine ⟨_, rfl, _, rfl, _, rfl, _, _, rfl, rfl, d, _, _, .int zz, rfl, rfl, SqL.of (sm _ _ (s23 _ _ hd)), az, .inl ⟨_, rfl, ?_⟩⟩
      refine ⟨_, rfl, pl, _, rfl, .inl (SqL.of pl'), _, _, rfl, rfl, by rw [List.length_map]; omega, pl, _, _, vI g, rfl, rfl, SqL.of pl', ag, ?_⟩
      refine ⟨_, dD, by rw [List.length_map, sizeLine_eq]; omega, ks ++ [g], by rw [upd_same, nums_app] <;> rfl, by rw [List.length_append, List.length_singleton]; omega, fun c o ec => ?_⟩
      rw [upd_ne (ne_of_none ec hD2)]
      exact sm _ _ ec
    rintro H4 ⟨k4, d4, kl4, s4⟩
    have s24 : Same H H4 := s23.trans s4
    have d34 := s4 _ _ d3
    -- _law_base
    obtain ⟨ib, vb, hib, eb1, eb2⟩ := at_mod (xs := fr.map V.ref) (by rw [hfr]; exact mo.pos) z11
    obtain ⟨u, l, r, g, e1, e2, _, _, _, u1, u2, u3⟩ := hf.at_ (i := ib) (by rw [← hfr]; exact hib)
    have evb : vb = .ref u := by
      rw [List.getElem?_map, e1] at eb1
      exact (Option.some.inj eb1).symm
    subst evb
    have gf := mo.few g (List.mem_of_getElem? e2)
    refine ⟨_, rfl, _, rfl, d, _, _, .int z11, rfl, rfl, SqL.of (s24 _ _ hd), az11, .inl ⟨_, rfl, _, rfl, lm, _, rfl, .inl (SqL.of (s24 _ _ hm)), _, _, rfl, rfl, by rw [hfr]; exact Int.ofNat_lt.mpr mo.pos, lm, _, _, .ref u, rfl, rfl, SqL.of (s24 _ _ hm), eb2, ?_⟩⟩
    have u14 := s24 _ _ u1
    have u24 := s24 _ _ u2
    have u34 := s24 _ _ u3
    -- if _law_digits_here[10] // 3 % 4 == 1
    refine ⟨_, rfl, d, _, _, .int z10, rfl, rfl, SqL.of (s24 _ _ hd), az10, _, _, rfl, rfl, ⟨by decide, by decide⟩, _, _, rfl, rfl, by show (0 : Int) < 4; decide, rfl, _, rfl, ?_⟩
    refine ite2 (fun _ => ?_) (fun _ => ?_)
    · refine ⟨_, rfl, u, _, _, _, rfl, rfl, SqT.of u14, rfl, _, rfl, _, rfl, D1, _, rfl, SqL.of d34, fun p1 hp1 => ?_⟩
      generalize e5 : upd H4 p1 _ = H5
      obtain ⟨s5, g5⟩ := laid e5 hp1
      obtain ⟨c1, ec1, lc1⟩ := cut_nums k3 none (some 1)
      rw [ec1] at g5
      have sz : (nums g.1).length + (nums c1).length ≤ sizeLine := by rw [List.length_map, List.length_map, sizeLine_eq]; omega
      refine ⟨l, p1, _, _, rfl, rfl, s5 _ _ u24, g5, sz, fun p2 hp2 => ?_⟩
      generalize e6 : upd H5 p2 _ = H6
      obtain ⟨s6, g6⟩ := laid e6 hp2
      rw [← nums_app] at g6
      refine ⟨_, rfl, _, rfl, p2, _, rfl, SqL.of g6, fun p3 hp3 => ?_⟩
      generalize e7 : upd H6 p3 _ = H7
      obtain ⟨s7, g7⟩ := laid e7 hp3
      obtain ⟨c2, ec2, _⟩ := cut_nums (g.1 ++ c1) (some (-4)) none
      rw [ec2] at g7
      have S7 := s5.trans (s6.trans s7)
      refine ⟨_, rfl, u, _, _, _, rfl, rfl, SqT.of (S7 _ _ u14), rfl, by show 2 ≤ sizeLine; decide, fun t ht => ?_⟩
      generalize e8 : upd H7 t _ = H8
      obtain ⟨s8, g8⟩ := laid e8 ht
      exact q t p3 r c2 g.2 H8 (s24.trans (S7.trans s8)) g8 (s8 _ _ g7) (s8 _ _ (S7 _ _ u34))
    -- if _law_digits_here[10] // 3 % 4 == 2
    refine ⟨_, rfl, d, _, _, .int z10, rfl, rfl, SqL.of (s24 _ _ hd), az10, _, _, rfl, rfl, ⟨by decide, by decide⟩, _, _, rfl, rfl, by show (0 : Int) < 4; decide, rfl, _, rfl, ?_⟩
    refine ite2 (fun _ => ?_) (fun _ => ?_)
    · refine ⟨_, rfl, u, _, _, _, rfl, rfl, SqT.of u14, rfl, _, rfl, u, _, _, _, rfl, rfl, SqT.of u14, rfl, _, rfl, _, rfl, D2, _, rfl, SqL.of d4, fun p1 hp1 => ?_⟩
      generalize e5 : upd H4 p1 _ = H5
      obtain ⟨s5, g5⟩ := laid e5 hp1
      obtain ⟨c1, ec1, lc1⟩ := cut_nums k4 none (some 1)
      rw [ec1] at g5
      have sz : (nums g.2).length + (nums c1).length ≤ sizeLine := by rw [List.length_map, List.length_map, sizeLine_eq]; omega
      refine ⟨r, p1, _, _, rfl, rfl, s5 _ _ u34, g5, sz, fun p2 hp2 => ?_⟩
      generalize e6 : upd H5 p2 _ = H6
      obtain ⟨s6, g6⟩ := laid e6 hp2
      rw [← nums_app] at g6
      refine ⟨_, rfl, _, rfl, p2, _, rfl, SqL.of g6, fun p3 hp3 => ?_⟩
      generalize e7 : upd H6 p3 _ = H7
      obtain ⟨s7, g7⟩ := laid e7 hp3
      obtain ⟨c2, ec2, _⟩ := cut_nums (g.2 ++ c1) (some (-4)) none
      rw [ec2] at g7
      have S7 := s5.trans (s6.trans s7)
      refine ⟨by show 2 ≤ sizeLine; decide, fun t ht => ?_⟩
      generalize e8 : upd H7 t _ = H8
      obtain ⟨s8, g8⟩ := laid e8 ht
      exact q t l p3 g.1 c2 H8 (s24.trans (S7.trans s8)) g8 (s8 _ _ (S7 _ _ u24)) (s8 _ _ g7)
    · refine ⟨_, rfl, _, rfl, by show 2 ≤ sizeLine; decide, fun t ht => ?_⟩
      generalize e8 : upd H4 t _ = H8
      obtain ⟨s8, g8⟩ := laid e8 ht
      exact q t D1 D2 k3 k4 H8 (s24.trans s8) g8 (s8 _ _ d34) (s8 _ _ d4)
end
end K18
/-! _law_family. -/
namespace K18
open PySem L2 Gm Nd
theorem ModelAt.keep {N : Addr → Prop} {H H' : Hp} {lm : Addr} {M : Yd} (A : ModelAt N H lm M) (h : Same H H') : ModelAt N H' lm M := by
  obtain ⟨fr, h1, h2⟩ := A
  exact ⟨fr, h _ _ h1, h2.keep fun b o e _ => h _ _ e⟩
theorem MOk.snoc {M : Yd} (m : MOk M) {f : Fm} (h1 : ∀ x, (x ∈ f.1 ∨ x ∈ f.2) → x < M.length) (h2 : f.1.length ≤ M.length) (h3 : f.2.length ≤ M.length) : MOk (M ++ [f]) := by
  have e : (M ++ [f]).length = M.length + 1 := by rw [List.length_append] <;> rfl
  refine ⟨low_snoc m.low h1, fun g hg => ?_, by omega⟩
  rcases List.mem_append.mp hg with hg | hg
  · have := m.few g hg
    omega
  · rw [List.mem_singleton.mp hg]
    omega
section
variable {P : Program} {w : World} {K : PySem.W.Frag} {mg : Str → Option Value} {base : Heap}
def spFamily (K : PySem.W.Frag) : Sp := fun vs H Q _ => ∃ (a : Addr) (ns : List Int) (n : Nat), vs = [.ref a, .int 1, vI n, .int 8] ∧ SqL K H a (ns.map V.int) ∧ n ≤ 23 ∧
  ∀ (t lm lh : Addr) (M : Yd) (H' : Hp), Same H H' → H' t = some (.tup [.ref lm, .ref lh]) → ModelAt (fun b => H b = none) H' lm M → MOk M → M.length ≤ 24 → H lm = none → Q (.ref t) H'
abbrev nFamily : List Str := ["_law_script", "_law_first", "_law_count_here", "_law_most", "_law_model", "_law_heights", "_law_k", "_law_drawn_here"]
theorem scFamily : FnScope nFamily ["_law_script", "_law_first", "_law_count_here", "_law_most"] (defScope lFamily) := ⟨rfl, rfl, rfl, by decide +kernel, rfl, by decide +kernel, by decide +kernel⟩
theorem ok_family {f : Addr} {fd : FuncData} (F : Fun K "_law_family" "_law_family" lFamily f fd) (B : TxB mg)
    (hC : HasF P w K mg base "_law_cell" 1 ["_law_script", "_law_k"] (spCell K)) (hD : HasF P w K mg base "_law_digits" 1 ["_law_cell_here", "_law_count_here"] spDigits)
    (hR : HasF P w K mg base "_law_drawn" 1 ["_law_model", "_law_heights", "_law_digits_here", "_law_most"] spDrawn) (hP : HasF P w K mg base "_law_put" 1 ["_law_model", "_law_heights", "_law_lefts", "_law_rights"] spPut) :
    FnOk P w K mg base CX0 2 f fd ["_law_script", "_law_first", "_law_count_here", "_law_most"] (spFamily K) := by
  obtain ⟨f1, fd1, G1, b1, m1, k1⟩ := hC
  obtain ⟨f2, fd2, G2, b2, m2, k2⟩ := hD
  obtain ⟨f3, fd3, G3, b3, m3, k3⟩ := hR
  obtain ⟨f4, fd4, G4, b4, m4, k4⟩ := hP
  refine F.ok scFamily (fun vs H Q E h => ?_) (fun cdv A outer s H vs Q E hr h => ?_)
  · obtain ⟨a, ns, n, rfl, _⟩ := h
    rfl
  · obtain ⟨a, ns, n, rfl, hS, hn, q⟩ := h
    refine ⟨_, pss_cons (ps_set (i := 4) scFamily.nd rfl (Or.inl rfl) (pe_lst (pa_cons (pe_tup (pa_cons (pe_lst pa_nil) (pa_cons (pe_lst pa_nil) pa_nil))) pa_nil)))
      (pss_cons (ps_set (i := 5) scFamily.nd rfl (Or.inl rfl) (pe_lst (pa_cons pe_int pa_nil)))
      (pss_cons (ps_for PassesOwn.never rfl (pi_range1 (by rfl) B.range (pa_cons (pv 2) pa_nil)) (pg_name (i := 6) scFamily.nd rfl (Or.inl rfl))
        (pss_cons (ps_set (i := 7) scFamily.nd rfl (Or.inl rfl) (pe_call G3 hr rfl m3 k3 b3 .nil pass0 (pa_cons (pv 4) (pa_cons (pv 5) (pa_cons
            (pe_call G2 hr rfl m2 k2 b2 .nil pass0 (pa_cons (pe_call G1 hr rfl m1 k1 b1 .nil pass0 (pa_cons (pv 0) (pa_cons (pe_op op_add (pv 1) (pv 6)) pa_nil))) (pa_cons pe_int pa_nil))) (pa_cons (pv 3) pa_nil))))))
        (pss_one (ps_expr (pe_call G4 hr rfl m4 k4 b4 .nil pass0 (pa_cons (pv 4) (pa_cons (pv 5) (pa_cons (pe_ix ix_tup (pv 7) pe_int (fun _ _ => rfl)) (pa_cons (pe_ix ix_tup (pv 7) pe_int (fun _ _ => rfl)) pa_nil)))))))))
      (pss_one (ps_ret (pe_tup (pa_cons (pv 4) (pa_cons (pv 5) pa_nil))))))), ?_⟩
    -- _law_model = [([], [])]; _law_heights = [0]
    refine ⟨Nat.zero_le _, fun l0 hl0 => ?_⟩
    generalize e1 : upd H l0 _ = H1
    obtain ⟨s1, g1⟩ := laid e1 hl0
    refine ⟨Nat.zero_le _, fun r0 hr0 => ?_⟩
    generalize e2 : upd H1 r0 _ = H2
    obtain ⟨s2, g2⟩ := laid e2 hr0
    refine ⟨by show 2 ≤ sizeLine; decide, fun t0 ht0 => ?_⟩
    generalize e3 : upd H2 t0 _ = H3
    obtain ⟨s3, g3⟩ := laid e3 ht0
    refine ⟨by show 1 ≤ sizeLine; decide, fun lm hlm => ?_⟩
    generalize e4 : upd H3 lm _ = H4
    obtain ⟨s4, g4⟩ := laid e4 hlm
    refine ⟨by show 1 ≤ sizeLine; decide, fun lh hlh => ?_⟩
    generalize e5 : upd H4 lh _ = H5
    obtain ⟨s5, g5⟩ := laid e5 hlh
    have S5 : Same H H5 := s1.trans (s2.trans (s3.trans (s4.trans s5)))
    have lm0 : H lm = none := Same.free (s1.trans (s2.trans s3)) hlm
    have lh0 : H lh = none := Same.free (s1.trans (s2.trans (s3.trans s4))) hlh
    have nmh : lm ≠ lh := fun z => by rw [← z, g4] at hlh; cases hlh
    have lm5 := s5 _ _ g4
    have t05 := s5 _ _ (s4 _ _ g3)
    have l05 := s5 _ _ (s4 _ _ (s3 _ _ (s2 _ _ g1)))
    have r05 := s5 _ _ (s4 _ _ (s3 _ _ g2))
    have free : ∀ c o, H4 c = some o → H c = none → c ≠ lm → (fun b => H b = none ∧ b ≠ lm ∧ b ≠ lh) c := fun c o ec hc nc => ⟨hc, nc, fun z => by rw [z, hlh] at ec; cases ec⟩
    have hf5 : Frs (fun b => H b = none ∧ b ≠ lm ∧ b ≠ lh) H5 [t0] [([], [])] := by
      refine ⟨rfl, fun i u m a b => ?_⟩
      cases i with
      | succ i => simp at a
      | zero =>
        cases a
        cases b
        refine ⟨free _ _ (s4 _ _ g3) (Same.free (s1.trans s2) ht0) ?_, l0, r0, free _ _ (s4 _ _ (s3 _ _ (s2 _ _ g1))) hl0 ?_, free _ _ (s4 _ _ (s3 _ _ g2)) (Same.free s1 hr0) ?_, t05, l05, r05⟩
        · exact ne_of_none g3 hlm
        · exact ne_of_none (s3 _ _ (s2 _ _ g1)) hlm
        · exact ne_of_none (s3 _ _ g2) hlm
    have mo5 : MOk [([], [])] := ⟨low_one, fun f hf => by rw [List.mem_singleton.mp hf]; exact ⟨Nat.zero_le _, Nat.zero_le _⟩, Nat.zero_lt_one⟩
    -- for _law_k in range(_law_count_here)
    refine ⟨_, rfl, (n : Int), rfl, by omega, by omega, for_range (n := n) (fun i σ H' => ∃ (v v' : Option V) (M : Yd) (hs : List Int), σ = [some (.ref a), some (.int 1), some (vI n), some (.int 8), some (.ref lm), some (.ref lh), v, v'] ∧ Same H H' ∧
        ModelAt (fun b => H b = none ∧ b ≠ lm ∧ b ≠ lh) H' lm M ∧ H' lh = some (.lst (hs.map V.int)) ∧ hs.length = M.length ∧ hs[0]? = some 0 ∧ MOk M ∧ M.length ≤ i + 1)
      ⟨none, none, [([], [])], [0], rfl, S5, ⟨[t0], lm5, hf5⟩, g5, rfl, rfl, mo5, Nat.le_refl _⟩ ?_ ?_⟩
    · rintro i σ H' hi ⟨v, v', M, hs, rfl, sm, MA, hh, hl, h0, mo, hM⟩
      refine ⟨_, rfl, _, rfl, _, rfl, _, rfl, _, rfl, _, _, rfl, rfl, ?_⟩
      refine ⟨a, ns, 1 + i, ?_, Same.seq sm hS, fun c => ?_⟩
      · show [V.ref a, V.int (1 + (0 + (i : Int)))] = [V.ref a, V.int ((1 + i : Nat) : Int)]
        rw [Int.zero_add] <;> rfl
      refine ⟨c, rfl, fun d ds H6 hd s6 g6 dl _ => ?_⟩
      have MA6 := MA.keep s6
      refine ⟨_, rfl, ?_⟩
      refine ⟨_, lm, lh, d, M, hs, ds, rfl, MA6, s6 _ _ hh, hl, h0, g6, dl, mo, by omega, fun t l r ls rs H7 s7 g7 l7 r7 => ?_⟩
      have S7 := s6.trans s7
      have MA7 := MA6.keep s7
      obtain ⟨fr7, lm7, _⟩ := id MA7
      have lh7 := S7 _ _ hh
      refine ⟨_, rfl, _, rfl, _, rfl, t, _, _, _, rfl, rfl, SqT.of g7, rfl, _, rfl, t, _, _, _, rfl, rfl, SqT.of g7, rfl, ?_⟩
      refine ⟨_, lm, lh, l, r, M, hs, ls, rs, rfl, MA7, lh7, hl, nmh, l7, r7, fun c h => h.2, fun c hc => ⟨Same.free (sm.trans S7) hc, (fun z => by rw [z, lm7] at hc; cases hc), (fun z => by rw [z, lh7] at hc; cases hc)⟩, by omega, mo.pos, fun M' hs' H8 hM' MA8 lh8 hl8 h08 k8 n8 => ?_⟩
      refine ⟨_, _, M', hs', rfl, fun c o ec => k8 _ _ (S7 _ _ (sm _ _ ec)) (fun z => by rw [z, lm0] at ec; cases ec) (fun z => by rw [z, lh0] at ec; cases ec), MA8, lh8, hl8, h08.trans h0, ?_, ?_⟩
      · rcases hM' with rfl | ⟨g, rfl, g1', g2', g3'⟩
        · exact mo
        · exact mo.snoc g1' g2' g3'
      · rcases hM' with rfl | ⟨g, rfl, _⟩
        · omega
        · rw [List.length_append, List.length_singleton]
          omega
    rintro σ H' ⟨v, v', M, hs, rfl, sm, MA, hh, hl, h0, mo, hM⟩
    refine ⟨_, rfl, _, rfl, by show 2 ≤ sizeLine; decide, fun t ht => ?_⟩
    generalize e8 : upd H' t _ = H8
    obtain ⟨s8, g8⟩ := laid e8 ht
    obtain ⟨fr, m1', m2'⟩ := MA.keep s8
    exact q t lm lh M H8 (sm.trans s8) g8 ⟨fr, m1', m2'.imp fun b h => h.1⟩ mo (by omega) lm0
end
end K18
/-! _law_built. -/
namespace K18
open PySem L2 Gm Nd
def nu (l : List Nat) (k : Nat) : Nat := l.getD k 0
theorem nu_at {l : List Nat} {k : Nat} (h : k < l.length) : l[k]? = some (nu l k) := by
  unfold nu
  rw [List.getD_eq_getElem?_getD, List.getElem?_eq_getElem h] <;> rfl
theorem nu_app {l : List Nat} {k n : Nat} (h : k < l.length) : nu (l ++ [n]) k = nu l k := by
  unfold nu
  rw [List.getD_eq_getElem?_getD, List.getD_eq_getElem?_getD, List.getElem?_append_left h]
theorem nu_last (l : List Nat) (n : Nat) : nu (l ++ [n]) l.length = n := by
  unfold nu
  rw [List.getD_eq_getElem?_getD]
  simp
theorem nu_mem {l : List Nat} {k : Nat} (h : k < l.length) : nu l k ∈ l := List.mem_of_getElem? (nu_at h)
theorem cut_one (xs : List V) : cutV xs (some 1) none = xs.drop 1 := by
  unfold cutV
  rw [show HT.sIx xs.length 0 (some 1) = min 1 xs.length from HT.sIx_nat xs.length 0 1, HT.sIx_none]
  have e : xs.drop (min 1 xs.length) = xs.drop 1 := by
    cases xs with
    | nil => rfl
    | cons x r => rw [List.length_cons, Nat.min_eq_left (by omega)]
  rw [e]
  refine List.take_of_length_le ?_
  rw [List.length_drop]
  omega
/-- the numbers are made like the model -/
def Made (M Y : Yd) (l : List Nat) (i : Nat) : Prop := ∀ k, k ≤ i → (∀ j ∈ lo M k, nu l j ∈ lo Y (nu l k)) ∧ ∀ j ∈ ro M k, nu l j ∈ ro Y (nu l k)
section
variable {P : Program} {w : World} {K : PySem.W.Frag} {mg : Str → Option Value} {base : Heap}
def spBuilt (P : Program) (w : World) (CY : Addr) : Sp := fun vs H Q _ => ∃ (N : Addr → Prop) (y : YA) (lm : Addr) (M : Yd), vs = [.ref y.p, .ref lm] ∧ YardAt P w CY y H [([], [])] [(0, 0)] ∧ ModelAt N H lm M ∧ MOk M ∧ M.length ≤ 24 ∧ (∀ c, N c → ¬ Part y c) ∧ ¬ Part y lm ∧
  ∀ (p : Addr) (l : List Nat) (Y : Yd) (H' : Hp), H p = none → KeepY y H H' → YardAt P w CY y H' Y [(0, 0)] → H' p = some (.lst (nums l)) → l.length = M.length → (∀ x ∈ l, x < Y.length) → Y.length ≤ M.length → Made M Y l (M.length - 1) → Q (.ref p) H'
abbrev nBuilt : List Str := ["_law_yard", "_law_model", "_law_numbers", "_law_form", "_law_k"]
theorem scBuilt : FnScope nBuilt ["_law_yard", "_law_model"] (defScope lBuilt) := ⟨rfl, rfl, rfl, by decide +kernel, rfl, by decide +kernel, by decide +kernel⟩
theorem ok_built {CY f : Addr} {fd : FuncData} (F : Fun K "_law_built" "_law_built" lBuilt f fd) (TY : TxY K mg CY) (B : TxB mg) (hG : HasM P w K mg base CY "game" 2 ["self", "lefts", "rights"] (spGame P w CY)) :
    FnOk P w K mg base CX0 3 f fd ["_law_yard", "_law_model"] (spBuilt P w CY) := by
  obtain ⟨fG, fdG, GG, bG, mG⟩ := hG
  refine F.ok scBuilt (fun vs H Q E h => ?_) (fun cdv A outer s H vs Q E hr h => ?_)
  · obtain ⟨N, y, lm, M, rfl, _⟩ := h
    rfl
  · obtain ⟨N, y, lm, M, rfl, S, MA, mo, hM, hN, nlm, q⟩ := h
    refine ⟨_, pss_cons (ps_set (i := 2) scBuilt.nd rfl (Or.inr rfl) (pe_lst (pa_cons pe_int pa_nil)))
      (pss_cons (ps_for PassesOwn.never rfl (pi_list (pe_slice sl_list (pv 1) (po_some pe_int) po_none)) (pg_name (i := 3) scBuilt.nd rfl (Or.inl rfl))
        (pss_one (ps_expr (pe_bm PySem.F.plainAttrs_list PySem.F.slot_list_append PySem.F.type_list_append mt_append (pv 2) (pa_cons (pe_meth (pv 0) TY.cl mG GG hr bG .nil pass0
          (pa_cons (pe_lc (own := [("_law_k", 4)]) (g := gName 4) (tt := tYes) (te := tOp (rIxL K) (tVar 2) (tVar 4)) rfl scBuilt.nd (pi_list (pe_ix ix_tup (pv 3) pe_int (fun _ _ => rfl)))
              (blkOk_by (own := [("_law_k", 4)]) (N := nBuilt) (sc := defScope lBuilt) (by decide +kernel)) (fun _ _ _ _ _ => pg_name (i := 4) scBuilt.nd rfl (Or.inl rfl)) (fun _ _ _ _ _ => pts_nil) (fun _ _ _ _ _ => pe_ix ix_list (pv 2) (pv 4) (fun _ _ => rfl)))
          (pa_cons (pe_lc (own := [("_law_k", 4)]) (g := gName 4) (tt := tYes) (te := tOp (rIxL K) (tVar 2) (tVar 4)) rfl scBuilt.nd (pi_list (pe_ix ix_tup (pv 3) pe_int (fun _ _ => rfl)))
              (blkOk_by (own := [("_law_k", 4)]) (N := nBuilt) (sc := defScope lBuilt) (by decide +kernel)) (fun _ _ _ _ _ => pg_name (i := 4) scBuilt.nd rfl (Or.inl rfl)) (fun _ _ _ _ _ => pts_nil) (fun _ _ _ _ _ => pe_ix ix_list (pv 2) (pv 4) (fun _ _ => rfl))) pa_nil))) pa_nil)))))
      (pss_one (ps_ret (pv 2)))), ?_⟩
    obtain ⟨fr, hm, hf⟩ := id MA
    -- _law_numbers = [0]
    refine ⟨by show 1 ≤ sizeLine; decide, fun p hp => ?_⟩
    generalize e1 : upd H p _ = H1
    obtain ⟨s1, g1⟩ := laid e1 hp
    have np : ¬ Part y p := S.no_new hp
    have S1 := S.same s1
    -- for _law_form in _law_model[1:]
    refine ⟨_, rfl, _, rfl, lm, _, rfl, SqL.of (s1 _ _ hm), fun c hc => ?_⟩
    rw [cut_one]
    generalize e2 : upd H1 c _ = H2
    obtain ⟨s2, g2⟩ := laid e2 hc
    have nc : ¬ Part y c := S1.no_new hc
    have ncp : c ≠ p := fun z => by rw [z, g1] at hc; cases hc
    have S2 := S1.same s2
    have made0 : Made M [([], [])] [0] 0 := fun k hk => by
      have e : k = 0 := by omega
      subst e
      exact ⟨fun j hj => absurd (mo.low 0 j (.inl hj)) (Nat.not_lt_zero _), fun j hj => absurd (mo.low 0 j (.inr hj)) (Nat.not_lt_zero _)⟩
    have hlen : ((fr.map V.ref).drop 1).length = M.length - 1 := by rw [List.length_drop, List.length_map, hf.1]
    refine ⟨c, rfl, ⟨_, SqL.of g2⟩, for_list (K := K) (a := c) (xs := (fr.map V.ref).drop 1) (fun i σ H' => ∃ (v : Option V) (l : List Nat) (Y : Yd), σ = [some (.ref y.p), some (.ref lm), some (.ref p), v, none] ∧ (∀ b o, H2 b = some o → ¬ Part y b → b ≠ p → H' b = some o) ∧ YardAt P w CY y H' Y [(0, 0)] ∧
        H' p = some (.lst (nums l)) ∧ l.length = i + 1 ∧ (∀ x ∈ l, x < Y.length) ∧ Y.length ≤ i + 1 ∧ Made M Y l i)
      ⟨none, [0], [([], [])], rfl, fun b o eb _ _ => eb, S2, s2 _ _ g1, rfl, fun x hx => by rw [List.mem_singleton.mp hx]; exact Nat.zero_lt_one, Nat.le_refl _, made0⟩ (fun i σ H' _ ⟨_, _, _, _, k2, _⟩ => SqL.of (k2 _ _ g2 nc ncp)) ?_ ?_⟩
    · rintro i x σ H' hi ⟨v, l, Y, rfl, k2, S', pl, ll, lY, Yl, md⟩
      have hil : i < M.length - 1 := by
        have := (List.getElem?_eq_some_iff.mp hi).1
        rw [hlen] at this
        exact this
      obtain ⟨t, r1, r2, f1, et, ef, nt, nr1, nr2, u1, u2, u3⟩ := hf.at_ (i := i + 1) (by omega)
      have ex : x = .ref t := by
        rw [List.getElem?_drop, List.getElem?_map, Nat.add_comm, et] at hi
        exact (Option.some.inj hi).symm
      subst ex
      have old : ∀ b o, H b = some o → N b → H' b = some o := fun b o eb nb => k2 _ _ (s2 _ _ (s1 _ _ eb)) (hN b nb) fun z => by rw [z, hp] at eb; cases eb
      have t' := old _ _ u1 nt
      have u2' := old _ _ u2 nr1
      have u3' := old _ _ u3 nr2
      have few := mo.few f1 (List.mem_of_getElem? ef)
      have id0 : Same H' H' := Same.refl H'
      refine ⟨_, rfl, .inl ⟨rfl, _, SqL.of pl⟩, _, rfl, y.p, y.dx, _, rfl, S'.ob, yf_game y, ?_⟩
      refine ⟨_, rfl, t, _, _, _, rfl, rfl, SqT.of (id0 _ _ t'), rfl, r1, rfl, ⟨_, SqL.of (id0 _ _ u2')⟩, fun D hD => ?_⟩
      refine lc_list (K := K) (a := r1) (xs := nums f1.1) (fun i2 H'' => H'' D = some (.lst (nums ((f1.1.take i2).map (nu l)))) ∧ Same H' H'') ⟨upd_same, Same.new (Same.refl _) hD⟩ (fun i2 H'' _ q2 => SqL.of (q2.2 _ _ (id0 _ _ u2'))) ?_ ?_
      · rintro i2 x2 H'' hx2 ⟨dD, sm⟩
        obtain ⟨j, hj, rfl, hji⟩ := nums_mem hx2
        have hjl : j < l.length := by
          have := mo.low (i + 1) j
          rw [lo_of ef, ro_of ef] at this
          have := this (by first | exact .inl hj | exact .inr hj)
          omega
        refine ⟨rfl, ?_⟩
        refine iteT (B := False) ?_
        have hi2 : i2 < (nums f1.1).length := (List.getElem?_eq_some_iff.mp hx2).1
        rw [List.length_map] at hi2
        refine ⟨_, rfl, _, rfl, p, _, _, vI (nu l j), rfl, rfl, SqL.of (sm _ _ (id0 _ _ pl)), atI_nat (by rw [List.getElem?_map, nu_at hjl] <;> rfl), ?_⟩
        refine ⟨_, dD, by rw [List.length_map, List.length_map, List.length_take, sizeLine_eq]; omega, ?_, fun b o eb => ?_⟩
        · rw [upd_same, List.take_add_one, hji, List.map_append, nums_app] <;> rfl
        · rw [upd_ne (ne_of_none eb hD)]
          exact sm _ _ eb
      rintro H3 ⟨d3, s3⟩
      rw [List.take_of_length_le (by rw [List.length_map]; exact Nat.le_refl _)] at d3
      refine ⟨_, rfl, t, _, _, _, rfl, rfl, SqT.of (s3 _ _ t'), rfl, r2, rfl, ⟨_, SqL.of (s3 _ _ u3')⟩, fun D2 hD2 => ?_⟩
      refine lc_list (K := K) (a := r2) (xs := nums f1.2) (fun i2 H'' => H'' D2 = some (.lst (nums ((f1.2.take i2).map (nu l)))) ∧ Same H3 H'') ⟨upd_same, Same.new (Same.refl _) hD2⟩ (fun i2 H'' _ q2 => SqL.of (q2.2 _ _ (s3 _ _ u3'))) ?_ ?_
      · rintro i2 x2 H'' hx2 ⟨dD, sm⟩
        obtain ⟨j, hj, rfl, hji⟩ := nums_mem hx2
        have hjl : j < l.length := by
          have := mo.low (i + 1) j
          rw [lo_of ef, ro_of ef] at this
          have := this (by first | exact .inl hj | exact .inr hj)
          omega
        refine ⟨rfl, ?_⟩
        refine iteT (B := False) ?_
        have hi2 : i2 < (nums f1.2).length := (List.getElem?_eq_some_iff.mp hx2).1
        rw [List.length_map] at hi2
        refine ⟨_, rfl, _, rfl, p, _, _, vI (nu l j), rfl, rfl, SqL.of (sm _ _ (s3 _ _ pl)), atI_nat (by rw [List.getElem?_map, nu_at hjl] <;> rfl), ?_⟩
        refine ⟨_, dD, by rw [List.length_map, List.length_map, List.length_take, sizeLine_eq]; omega, ?_, fun b o eb => ?_⟩
        · rw [upd_same, List.take_add_one, hji, List.map_append, nums_app] <;> rfl
        · rw [upd_ne (ne_of_none eb hD2)]
          exact sm _ _ eb
      rintro H4 ⟨d4, s4⟩
      rw [List.take_of_length_le (by rw [List.length_map]; exact Nat.le_refl _)] at d4
      have S4 := S'.same (s3.trans s4)
      have nD : ¬ Part y D := S'.no_new hD
      have nD2 : ¬ Part y D2 := S'.no_new (Same.free s3 hD2)
      have below : ∀ j, (j ∈ f1.1 ∨ j ∈ f1.2) → j < l.length := fun j hj => by
        have := mo.low (i + 1) j
        rw [lo_of ef, ro_of ef] at this
        have := this hj
        omega
      refine ⟨y, Y, [(0, 0)], D, D2, f1.1.map (nu l), f1.2.map (nu l), rfl, S4, s4 _ _ d3, d4, nD, nD2, by rw [List.length_map]; omega, by rw [List.length_map]; omega, ?_, by omega, fun n Z H5 k5 S5 z5 n5 hl5 hr5 => ?_⟩
      · rintro x (hx | hx)
        · obtain ⟨j, hj, rfl⟩ := List.mem_map.mp hx
          exact lY _ (nu_mem (below j (.inl hj)))
        · obtain ⟨j, hj, rfl⟩ := List.mem_map.mp hx
          exact lY _ (nu_mem (below j (.inr hj)))
      have p5 := k5 _ _ (s4 _ _ (s3 _ _ pl)) np
      refine ⟨p, _, _, rfl, rfl, p5, by rw [List.length_map, ll, sizeLine_eq]; omega, ?_⟩
      refine ⟨_, l ++ [n], Y ++ Z, rfl, fun b o eb nb bp => ?_, S5.other p5 np, by rw [upd_same, nums_app] <;> rfl, by rw [List.length_append, ll] <;> rfl, fun x hx => ?_, by rw [List.length_append]; omega, fun k hk => ?_⟩
      · rw [upd_ne bp]
        exact k5 _ _ (s4 _ _ (s3 _ _ (k2 _ _ eb nb bp))) nb
      · rcases List.mem_append.mp hx with hx | hx
        · have := lY x hx
          rw [List.length_append]
          omega
        · rw [List.mem_singleton.mp hx]
          exact n5
      · by_cases hki : k = i + 1
        · subst hki
          have en : nu (l ++ [n]) (i + 1) = n := by rw [← ll]; exact nu_last l n
          rw [en, lo_of ef, ro_of ef]
          refine ⟨fun j hj => ?_, fun j hj => ?_⟩
          · rw [nu_app (below j (.inl hj))]
            exact (hl5 _).mpr (List.mem_map.mpr ⟨j, hj, rfl⟩)
          · rw [nu_app (below j (.inr hj))]
            exact (hr5 _).mpr (List.mem_map.mpr ⟨j, hj, rfl⟩)
        · have hk2 : k ≤ i := by omega
          obtain ⟨a1, a2⟩ := md k hk2
          have hkl : k < l.length := by omega
          rw [nu_app hkl, lo_app (lY _ (nu_mem hkl)), ro_app (lY _ (nu_mem hkl))]
          refine ⟨fun j hj => ?_, fun j hj => ?_⟩
          · have := mo.low k j (.inl hj)
            rw [nu_app (by omega)]
            exact a1 j hj
          · have := mo.low k j (.inr hj)
            rw [nu_app (by omega)]
            exact a2 j hj
    rintro σ H' ⟨v, l, Y, rfl, k2, S', pl, ll, lY, Yl, md⟩
    rw [hlen] at ll Yl md
    have pos := mo.pos
    exact ⟨_, rfl, q p l Y H' hp (fun b o eb nb => k2 _ _ (s2 _ _ (s1 _ _ eb)) nb fun z => by rw [z, hp] at eb; cases eb) S' pl (by omega) lY (by omega) md⟩
end
end K18
/-! _law_told. -/
namespace K18
open PySem L2 Gm Nd
/-- at rr's places stand lists of these truths, none of them at rp -/
def Rws (rp : Addr) (H : Hp) (rr : List Addr) (L : List (List Bool)) : Prop := rr.length = L.length ∧ ∀ (i : Nat) (t : Addr) (l : List Bool), rr[i]? = some t → L[i]? = some l → t ≠ rp ∧ H t = some (.lst (l.map V.bl))
theorem Rws.keep {rp : Addr} {H H' : Hp} {rr : List Addr} {L : List (List Bool)} (R : Rws rp H rr L) (k : ∀ t xs, H t = some (.lst xs) → t ≠ rp → H' t = some (.lst xs)) : Rws rp H' rr L := by
  refine ⟨R.1, fun i t l a b => ?_⟩
  obtain ⟨n, h⟩ := R.2 i t l a b
  exact ⟨n, k _ _ h n⟩
theorem Rws.snoc {rp : Addr} {H : Hp} {rr : List Addr} {L : List (List Bool)} (R : Rws rp H rr L) {t : Addr} {l : List Bool} (n : t ≠ rp) (h : H t = some (.lst (l.map V.bl))) : Rws rp H (rr ++ [t]) (L ++ [l]) := by
  refine ⟨by rw [List.length_append, List.length_append, R.1] <;> rfl, fun i u m a b => ?_⟩
  by_cases e : i < rr.length
  · rw [List.getElem?_append_left e] at a
    rw [List.getElem?_append_left (by rw [← R.1]; exact e)] at b
    exact R.2 i u m a b
  · rw [List.getElem?_append_right (by omega)] at a
    rw [List.getElem?_append_right (by rw [← R.1]; omega), ← R.1] at b
    have hi : i - rr.length = 0 := by
      have := (List.getElem?_eq_some_iff.mp a).1
      simp at this
      omega
    rw [hi] at a b
    simp at a b
    subst a b
    exact ⟨n, h⟩
theorem Rws.at_ {rp : Addr} {H : Hp} {rr : List Addr} {L : List (List Bool)} (R : Rws rp H rr L) {i : Nat} (hi : i < L.length) : ∃ t l, rr[i]? = some t ∧ L[i]? = some l ∧ t ≠ rp ∧ H t = some (.lst (l.map V.bl)) := by
  have h1 : i < rr.length := by rw [R.1]; exact hi
  obtain ⟨n, h⟩ := R.2 i rr[i] L[i] (List.getElem?_eq_getElem h1) (List.getElem?_eq_getElem hi)
  exact ⟨rr[i], L[i], List.getElem?_eq_getElem h1, List.getElem?_eq_getElem hi, n, h⟩
theorem OrdAt.other {C : Addr} {o : OA} {y : YA} {H : Hp} {Y : Yd} (O : OrdAt C o y H Y) {D : Addr} {xs : List V} {u : HO} (hD : H D = some (.lst xs)) : OrdAt C o y (upd H D u) Y := by
  obtain ⟨kvs, d, k⟩ := O.dic
  refine ⟨?_, kvs, ?_, k⟩
  · rw [upd_ne (ne_of O.ob hD (by intro z; cases z))]
    exact O.ob
  · rw [upd_ne (ne_of d hD (by intro z; cases z))]
    exact d
/-- the rows of a list of games -/
def rowsOf (Y : Yd) (l : List Nat) : List (List Bool) := l.map fun a => l.map fun b => ge Y a b
section
variable {P : Program} {w : World} {K : PySem.W.Frag} {mg : Str → Option Value} {base : Heap}
def spTold (P : Program) (w : World) (CY CO : Addr) (n : Nat) : Sp := fun vs H Q _ => ∃ (o : OA) (y : YA) (Y : Yd) (T : List (Nat × Nat)) (p : Addr) (l : List Nat), vs = [.ref o.q, .ref p] ∧ OrdAt CO o y H Y ∧ YardAt P w CY y H Y T ∧ Y.length + Y.length ≤ n + 1 ∧ Y.length ≤ 500 ∧
  H p = some (.lst (nums l)) ∧ (∀ x ∈ l, x < Y.length) ∧ l.length ≤ 100 ∧
  ∀ (rp : Addr) (rr : List Addr) (H' : Hp), KeepO o.d H H' → OrdAt CO o y H' Y → H rp = none → H' rp = some (.lst (rr.map V.ref)) → Rws rp H' rr (rowsOf Y l) → Q (.ref rp) H'
abbrev nTold : List Str := ["_law_order", "_law_numbers", "_law_rows", "_law_one", "_law_row", "_law_told_here", "_law_other"]
theorem scTold : FnScope nTold ["_law_order", "_law_numbers"] (defScope lTold) := ⟨rfl, rfl, rfl, by decide +kernel, rfl, by decide +kernel, by decide +kernel⟩
theorem ok_told {CY CO f : Addr} {fd : FuncData} {k n : Nat} (F : Fun K "_law_told" "_law_told" lTold f fd) (TO : TxO K mg CO) (B : TxB mg) (hA : HasM P w K mg base CO "at_least" k ["self", "one", "other"] (spAt P w CY CO n)) :
    FnOk P w K mg base CX0 (k + 1) f fd ["_law_order", "_law_numbers"] (spTold P w CY CO n) := by
  obtain ⟨fA, fdA, GA, bA, mA⟩ := hA
  refine F.ok scTold (fun vs H Q E h => ?_) (fun cdv A outer s H vs Q E hr h => ?_)
  · obtain ⟨o, y, Y, T, p, l, rfl, _⟩ := h
    rfl
  · obtain ⟨o, y, Y, T, p, l, rfl, O, S, hn, hY, hp, hl, hl100, q⟩ := h
    refine ⟨_, pss_cons (ps_set (i := 2) scTold.nd rfl (Or.inl rfl) (pe_lst pa_nil))
      (pss_cons (ps_for PassesOwn.never rfl (pi_list (pv 1)) (pg_name (i := 3) scTold.nd rfl (Or.inr rfl))
        (pss_one (ps_expr (pe_bm PySem.F.plainAttrs_list PySem.F.slot_list_append PySem.F.type_list_append mt_append (pv 2) (pa_cons
          (pe_lc (own := [("_law_other", 6)]) (g := gName 6) (tt := tYes) (te := tMeth CO "at_least" (spAt P w CY CO n) [] E0 (tVar 0) (tCons (tVar 3) (tCons (tVar 6) tNil))) rfl scTold.nd (pi_list (pv 1))
            (blkOk_by (own := [("_law_other", 6)]) (N := nTold) (sc := defScope lTold) (by decide +kernel)) (fun _ _ _ _ _ => pg_name (i := 6) scTold.nd rfl (Or.inl rfl)) (fun _ _ _ _ _ => pts_nil)
            (fun _ _ _ _ _ => pe_meth (pv 0) TO.cl mA GA hr bA .nil pass0 (pa_cons (pv 3) (pa_cons (pv 6) pa_nil)))) pa_nil)))))
      (pss_cons (ps_for PassesOwn.never rfl (pi_list (pv 2)) (pg_name (i := 4) scTold.nd rfl (Or.inl rfl))
        (pss_one (ps_for PassesOwn.never rfl (pi_list (pv 4)) (pg_name (i := 5) scTold.nd rfl (Or.inl rfl))
          (pss_one (ps_if (pt_not (pt_val (pe_callB call_isi (by rfl) B.isinstance (by decide +kernel) (pa_cons (pv 5) (pa_cons (pe_bltn (v := .ty "bool") (by rfl) B.bool (by decide +kernel) rfl) pa_nil))))) (pss_one (ps_ret pe_non)) pss_nil)))))
      (pss_one (ps_ret (pv 2))))), ?_⟩
    refine ⟨Nat.zero_le _, fun rp hrp => ?_⟩
    generalize e1 : upd H rp _ = H1
    obtain ⟨s1, g1⟩ := laid e1 hrp
    have O1 := O.keep s1
    have S1 := S.same s1
    have p1 := s1 _ _ hp
    have npr : p ≠ rp := fun z => by rw [← z, hp] at hrp; cases hrp
    obtain ⟨kvs1, d1, _⟩ := O1.dic
    have npd : p ≠ o.d := ne_of p1 d1 (by intro z; cases z)
    have nrd : rp ≠ o.d := ne_of g1 d1 (by intro z; cases z)
    -- for _law_one in _law_numbers
    refine ⟨_, rfl, p, rfl, ⟨_, SqL.of p1⟩, for_list (K := K) (a := p) (xs := nums l) (fun i σ H' => ∃ (v : Option V) (rr : List Addr), σ = [some (.ref o.q), some (.ref p), some (.ref rp), v, none, none, none] ∧ (∀ b u, H1 b = some u → b ≠ o.d → b ≠ rp → H' b = some u) ∧ OrdAt CO o y H' Y ∧ YardAt P w CY y H' Y T ∧
        H' rp = some (.lst (rr.map V.ref)) ∧ Rws rp H' rr ((l.take i).map fun a => l.map fun b => ge Y a b))
      ⟨none, [], rfl, fun b u eb _ _ => eb, O1, S1, g1, rfl, fun i t l a => nomatch a⟩ (fun i σ H' _ ⟨_, _, _, k2, _⟩ => SqL.of (k2 _ _ p1 npd npr)) ?_ ?_⟩
    · rintro i x σ H' hi ⟨v, rr, rfl, k2, O2, S2, r2, R2⟩
      obtain ⟨a, ha, rfl, hai⟩ := nums_mem hi
      have p2 := k2 _ _ p1 npd npr
      refine ⟨_, rfl, .inl ⟨rfl, _, SqL.of r2⟩, _, rfl, p, rfl, ⟨_, SqL.of p2⟩, fun D hD => ?_⟩
      have nDd : D ≠ o.d := fun z => by
        obtain ⟨_, d2, _⟩ := O2.dic
        rw [z, d2] at hD
        cases hD
      have nDr : D ≠ rp := fun z => by rw [z, r2] at hD; cases hD
      refine lc_list (K := K) (a := p) (xs := nums l) (fun j H'' => H'' D = some (.lst (((l.take j).map fun b => ge Y a b).map V.bl)) ∧ OrdAt CO o y H'' Y ∧ KeepO o.d H' H'') ⟨upd_same, O2.keep (Same.new (Same.refl _) hD), KeepO.of (Same.new (Same.refl _) hD)⟩ (fun j H'' _ ⟨_, _, k3⟩ => SqL.of (k3 _ _ p2 npd)) ?_ ?_
      · rintro j x H'' hj ⟨dD, O3, k3⟩
        obtain ⟨b, hb, rfl, hbj⟩ := nums_mem hj
        have ha2 := hl a ha
        have hb2 := hl b hb
        refine ⟨rfl, ?_⟩
        refine iteT (B := False) ?_
        refine ⟨_, rfl, o.q, o.dx, _, rfl, O3.ob, of_at o y, _, rfl, _, rfl, o, y, Y, T, a, b, rfl, O3, O2.yard S2 k3, ha2, hb2, by omega, hY, fun H4 k4 O4 => ?_⟩
        have d4 := k4 _ _ dD nDd
        refine ⟨_, d4, by rw [List.length_map, List.length_map, List.length_take, sizeLine_eq]; omega, ?_, O4.other d4, fun c u ec nc => ?_⟩
        · rw [upd_same, List.take_add_one, hbj, List.map_append, List.map_append] <;> rfl
        · rw [upd_ne (ne_of_none ec hD)]
          exact (k3.trans k4) _ _ ec nc
      · rintro H3 ⟨dD, O3, k3⟩
        rw [List.take_of_length_le (by rw [List.length_map]; exact Nat.le_refl _)] at dD
        have r3 := k3 _ _ r2 nrd
        have rl : rr.length = ((l.take i).map fun a => l.map fun b => ge Y a b).length := R2.1
        rw [List.length_map, List.length_take] at rl
        refine ⟨rp, _, _, rfl, rfl, r3, by rw [List.length_map, sizeLine_eq]; omega, ?_⟩
        generalize e4 : upd H3 rp _ = H4
        obtain ⟨k4, g4⟩ := wrote e4
        have O4 : OrdAt CO o y H4 Y := by rw [← e4]; exact O3.other r3
        have S4 : YardAt P w CY y H4 Y T := by
          rw [← e4]
          have nP : ¬ Part y rp := S.no_new hrp
          exact (O2.yard S2 k3).other r3 nP
        have d3n : ∀ t xs, H3 t = some (.lst xs) → t ≠ rp → H4 t = some (.lst xs) := fun t xs et nt => k4 _ _ et nt
        have R4 : Rws rp H4 rr ((l.take i).map fun a => l.map fun b => ge Y a b) := R2.keep fun t xs et nt => k4 _ _ (k3 _ _ et (by
          obtain ⟨_, d2, _⟩ := O2.dic
          exact ne_of et d2 (by intro z; cases z))) nt
        refine ⟨_, rr ++ [D], rfl, fun b u eb b1 b2 => k4 _ _ (k3 _ _ (k2 _ _ eb b1 b2) b1) b2, O4, S4, by rw [g4, List.map_append] <;> rfl, ?_⟩
        rw [List.take_add_one, hai, List.map_append]
        exact R4.snoc nDr (k4 _ _ dD nDr)
    rintro σ H2 ⟨v, rr, rfl, k2, O2, S2, r2, R2⟩
    rw [List.take_of_length_le (by rw [List.length_map]; exact Nat.le_refl _)] at R2
    -- for _law_row in _law_rows: for _law_told_here in _law_row
    refine ⟨_, rfl, rp, rfl, ⟨_, SqL.of r2⟩, for_list (K := K) (a := rp) (xs := rr.map V.ref) (fun i σ H' => H' = H2 ∧ ∃ v1 v2, σ = [some (.ref o.q), some (.ref p), some (.ref rp), v, v1, v2, none]) ⟨rfl, none, none, rfl⟩ (fun i σ H' _ q => by rw [q.1]; exact SqL.of r2) ?_ ?_⟩
    · rintro i x σ H' hi ⟨rfl, v1, v2, rfl⟩
      have hil := (List.getElem?_eq_some_iff.mp hi).1
      rw [List.length_map, R2.1] at hil
      obtain ⟨t, row, et, _, _, ht⟩ := R2.at_ hil
      have ex : x = .ref t := by
        rw [List.getElem?_map, et] at hi
        exact (Option.some.inj hi).symm
      subst ex
      refine ⟨_, rfl, t, rfl, ⟨_, SqL.of ht⟩, for_list (K := K) (a := t) (xs := row.map V.bl) (fun i σ H3 => H3 = H' ∧ ∃ v2, σ = [some (.ref o.q), some (.ref p), some (.ref rp), v, some (.ref t), v2, none]) ⟨rfl, v2, rfl⟩ (fun i σ H3 _ q => by rw [q.1]; exact SqL.of ht) ?_ ?_⟩
      · rintro j x σ H3 hj ⟨rfl, v3, rfl⟩
        obtain ⟨b, rfl⟩ : ∃ b, x = .bl b := by
          rw [List.getElem?_map] at hj
          obtain ⟨b, _, e⟩ := Option.map_eq_some_iff.mp hj
          exact ⟨b, e.symm⟩
        refine ⟨_, rfl, .bl b, .ty "bool", .type "bool", .type "bool", true, rfl, .ty "bool", .base (.bl b), kit_ty (by decide +kernel), true, rfl, ?_⟩
        refine iteF ?_
        exact ⟨rfl, _, rfl⟩
      · rintro σ H3 ⟨rfl, v3, rfl⟩
        exact ⟨rfl, _, _, rfl⟩
    · rintro σ H' ⟨rfl, v1, v2, rfl⟩
      refine ⟨_, rfl, q rp rr H' (fun b u eb nb => k2 _ _ (s1 _ _ eb) nb fun z => by rw [z, hrp] at eb; cases eb) O2 hrp r2 R2⟩
end
end K18
/-! _law_transitive, _law_options, _law_one_of_four. -/
namespace K18
open PySem L2 Gm Nd
/-- the truth at a place of the rows -/
def tt (L : List (List Bool)) (i j : Nat) : Bool := (L.getD i []).getD j false
def Square (L : List (List Bool)) : Prop := ∀ (i : Nat) (r : List Bool), L[i]? = some r → r.length = L.length
theorem atI0 {α : Type} {xs : List α} {i : Nat} {v : α} (h : xs[i]? = some v) : atI xs (0 + (i : Int)) = some v := by
  rw [Int.zero_add]
  exact atI_nat h
theorem row_at {rp : Addr} {H : Hp} {rr : List Addr} {L : List (List Bool)} (R : Rws rp H rr L) (q : Square L) {i : Nat} (hi : i < L.length) : ∃ (t : Addr) (xs : List V), (rr.map V.ref)[i]? = some (.ref t) ∧ H t = some (.lst xs) ∧ ∀ j, j < L.length → xs[j]? = some (.bl (tt L i j)) := by
  obtain ⟨t, l, e1, e2, _, h⟩ := R.at_ hi
  refine ⟨t, _, by rw [List.getElem?_map, e1] <;> rfl, h, fun j hj => ?_⟩
  have hl := q i l e2
  have hj2 : j < l.length := by omega
  have el : L.getD i [] = l := by rw [List.getD_eq_getElem?_getD, e2] <;> rfl
  unfold tt
  rw [el, List.getD_eq_getElem?_getD, List.getElem?_map, List.getElem?_eq_getElem hj2] <;> rfl
section
variable {P : Program} {w : World} {K : PySem.W.Frag} {mg : Str → Option Value} {base : Heap}
/-! ### _law_transitive -/
def spTrans : Sp := fun vs H Q _ => ∃ (rp : Addr) (rr : List Addr) (L : List (List Bool)), vs = [.ref rp] ∧ H rp = some (.lst (rr.map V.ref)) ∧ Rws rp H rr L ∧ Square L ∧ L.length ≤ 1000 ∧ (∀ i, i < L.length → tt L i i = true) ∧ (∀ i j k, i < L.length → j < L.length → k < L.length → tt L i j = true → tt L j k = true → tt L i k = true) ∧ Q (.bl true) H
abbrev nTrans : List Str := ["_law_rows", "_law_one", "_law_other", "_law_third"]
theorem scTrans : FnScope nTrans ["_law_rows"] (defScope lTrans) := ⟨rfl, rfl, rfl, by decide +kernel, rfl, by decide +kernel, by decide +kernel⟩
theorem ok_trans {f : Addr} {fd : FuncData} (F : Fun K "_law_transitive" "_law_transitive" lTrans f fd) (B : TxB mg) : FnOk P w K mg base CX0 1 f fd ["_law_rows"] spTrans := by
  refine F.ok scTrans (fun vs H Q E h => ?_) (fun cdv A outer s H vs Q E hr h => ?_)
  · obtain ⟨rp, rr, L, rfl, _⟩ := h
    rfl
  · obtain ⟨rp, rr, L, rfl, hp, R, sq, hL, rf, tr, q⟩ := h
    refine ⟨_, pss_cons (ps_for PassesOwn.never rfl (pi_range1 (by rfl) B.range (pa_cons (pe_callB call_len_seq (by rfl) B.len PySem.boot_len (pa_cons (pv 0) pa_nil)) pa_nil)) (pg_name (i := 1) scTrans.nd rfl (Or.inl rfl))
        (pss_cons (ps_if (pt_not (pt_val (pe_ix ix_list (pe_ix ix_list (pv 0) (pv 1) (fun _ _ => rfl)) (pv 1) (fun _ _ => rfl)))) (pss_one (ps_ret pe_bl)) pss_nil)
        (pss_one (ps_for PassesOwn.never rfl (pi_range1 (by rfl) B.range (pa_cons (pe_callB call_len_seq (by rfl) B.len PySem.boot_len (pa_cons (pv 0) pa_nil)) pa_nil)) (pg_name (i := 2) scTrans.nd rfl (Or.inl rfl))
          (pss_one (ps_if (pt_val (pe_ix ix_list (pe_ix ix_list (pv 0) (pv 1) (fun _ _ => rfl)) (pv 2) (fun _ _ => rfl)))
            (pss_one (ps_for PassesOwn.never rfl (pi_range1 (by rfl) B.range (pa_cons (pe_callB call_len_seq (by rfl) B.len PySem.boot_len (pa_cons (pv 0) pa_nil)) pa_nil)) (pg_name (i := 3) scTrans.nd rfl (Or.inl rfl))
              (pss_one (ps_if (PW.pt (pw_and (pt_val (pe_ix ix_list (pe_ix ix_list (pv 0) (pv 2) (fun _ _ => rfl)) (pv 3) (fun _ _ => rfl))) (pw_and1 (pt_not (pt_val (pe_ix ix_list (pe_ix ix_list (pv 0) (pv 1) (fun _ _ => rfl)) (pv 3) (fun _ _ => rfl)))))))
                (pss_one (ps_ret pe_bl)) pss_nil)))) pss_nil))))))
      (pss_one (ps_ret pe_bl)), ?_⟩
    have hrr : (rr.map V.ref).length = L.length := by rw [List.length_map, R.1]
    refine ⟨_, rfl, rp, _, rfl, .inl (SqL.of hp), (L.length : Int), by rw [hrr] <;> rfl, by omega, by omega, for_range (n := L.length) (fun i σ H' => H' = H ∧ ∃ v1 v2 v3, σ = [some (.ref rp), v1, v2, v3]) ⟨rfl, none, none, none, rfl⟩ ?_ ?_⟩
    · rintro i σ H' hi ⟨rfl, v1, v2, v3, rfl⟩
      obtain ⟨t, xs, a1, a2, a3⟩ := row_at R sq hi
      refine ⟨_, rfl, _, rfl, rp, _, _, .ref t, rfl, rfl, SqL.of hp, atI0 a1, _, rfl, t, _, _, _, rfl, rfl, SqL.of a2, atI0 (a3 i hi), _, rfl, ?_⟩
      rw [rf i hi]
      refine iteF ?_
      refine ⟨_, rfl, rp, _, rfl, .inl (SqL.of hp), (L.length : Int), by rw [hrr] <;> rfl, by omega, by omega, for_range (n := L.length) (fun j σ H3 => H3 = H' ∧ ∃ v2 v3, σ = [some (.ref rp), some (.int (0 + (i : Int))), v2, v3]) ⟨rfl, v2, v3, rfl⟩ ?_ ?_⟩
      · rintro j σ H3 hj ⟨rfl, v2, v3, rfl⟩
        obtain ⟨t2, xs2, b1, b2, b3⟩ := row_at R sq hj
        refine ⟨_, rfl, _, rfl, rp, _, _, .ref t, rfl, rfl, SqL.of hp, atI0 a1, _, rfl, t, _, _, _, rfl, rfl, SqL.of a2, atI0 (a3 j hj), _, rfl, ?_⟩
        cases e : tt L i j with
        | false =>
          refine iteF ?_
          exact ⟨rfl, _, _, rfl⟩
        | true =>
          refine iteT ?_
          refine ⟨_, rfl, rp, _, rfl, .inl (SqL.of hp), (L.length : Int), by rw [hrr] <;> rfl, by omega, by omega, for_range (n := L.length) (fun k σ H4 => H4 = H3 ∧ ∃ v3, σ = [some (.ref rp), some (.int (0 + (i : Int))), some (.int (0 + (j : Int))), v3]) ⟨rfl, v3, rfl⟩ ?_ ?_⟩
          · rintro k σ H4 hk ⟨rfl, v3, rfl⟩
            refine ⟨_, rfl, _, rfl, rp, _, _, .ref t2, rfl, rfl, SqL.of hp, atI0 b1, _, rfl, t2, _, _, _, rfl, rfl, SqL.of b2, atI0 (b3 k hk), _, rfl, ?_⟩
            cases e2 : tt L j k with
            | false =>
              refine iteF ?_
              refine iteF ?_
              exact ⟨rfl, _, rfl⟩
            | true =>
              refine iteT ?_
              refine ⟨_, rfl, _, rfl, rp, _, _, .ref t, rfl, rfl, SqL.of hp, atI0 a1, _, rfl, t, _, _, _, rfl, rfl, SqL.of a2, atI0 (a3 k hk), _, rfl, ?_⟩
              rw [tr i j k hi hj hk e e2]
              refine iteF ?_
              exact ⟨rfl, _, rfl⟩
          · rintro σ H4 ⟨rfl, v3, rfl⟩
            exact ⟨rfl, _, _, rfl⟩
      · rintro σ H3 ⟨rfl, v2, v3, rfl⟩
        exact ⟨rfl, _, _, _, rfl⟩
    · rintro σ H' ⟨rfl, v1, v2, v3, rfl⟩
      exact q
/-! ### _law_options -/
def spOpts : Sp := fun vs H Q _ => ∃ (N : Addr → Prop) (lm rp : Addr) (rr : List Addr) (M : Yd) (L : List (List Bool)), vs = [.ref lm, .ref rp] ∧ ModelAt N H lm M ∧ Low M ∧ H rp = some (.lst (rr.map V.ref)) ∧ Rws rp H rr L ∧ Square L ∧ M.length ≤ L.length ∧ M.length ≤ 1000 ∧
  (∀ i, i < M.length → (∀ j ∈ lo M i, tt L j i = false) ∧ ∀ j ∈ ro M i, tt L i j = false) ∧ Q (.bl true) H
abbrev nOpts : List Str := ["_law_model", "_law_rows", "_law_at", "_law_option"]
theorem scOpts : FnScope nOpts ["_law_model", "_law_rows"] (defScope lOpts) := ⟨rfl, rfl, rfl, by decide +kernel, rfl, by decide +kernel, by decide +kernel⟩
theorem ok_opts {f : Addr} {fd : FuncData} (F : Fun K "_law_options" "_law_options" lOpts f fd) (B : TxB mg) : FnOk P w K mg base CX0 1 f fd ["_law_model", "_law_rows"] spOpts := by
  refine F.ok scOpts (fun vs H Q E h => ?_) (fun cdv A outer s H vs Q E hr h => ?_)
  · obtain ⟨N, lm, rp, rr, M, L, rfl, _⟩ := h
    rfl
  · obtain ⟨N, lm, rp, rr, M, L, rfl, MA, low, hp, R, sq, hML, hM, op, q⟩ := h
    obtain ⟨fr, hm, hf⟩ := id MA
    have hfr : (fr.map V.ref).length = M.length := by rw [List.length_map, hf.1]
    refine ⟨_, pss_cons (ps_for PassesOwn.never rfl (pi_range1 (by rfl) B.range (pa_cons (pe_callB call_len_seq (by rfl) B.len PySem.boot_len (pa_cons (pv 0) pa_nil)) pa_nil)) (pg_name (i := 2) scOpts.nd rfl (Or.inl rfl))
        (pss_cons (ps_for PassesOwn.never rfl (pi_list (pe_ix ix_tup (pe_ix ix_list (pv 0) (pv 2) (fun _ _ => rfl)) pe_int (fun _ _ => rfl))) (pg_name (i := 3) scOpts.nd rfl (Or.inl rfl))
          (pss_one (ps_if (pt_val (pe_ix ix_list (pe_ix ix_list (pv 1) (pv 3) (fun _ _ => rfl)) (pv 2) (fun _ _ => rfl))) (pss_one (ps_ret pe_bl)) pss_nil)))
        (pss_one (ps_for PassesOwn.never rfl (pi_list (pe_ix ix_tup (pe_ix ix_list (pv 0) (pv 2) (fun _ _ => rfl)) pe_int (fun _ _ => rfl))) (pg_name (i := 3) scOpts.nd rfl (Or.inl rfl))
          (pss_one (ps_if (pt_val (pe_ix ix_list (pe_ix ix_list (pv 1) (pv 2) (fun _ _ => rfl)) (pv 3) (fun _ _ => rfl))) (pss_one (ps_ret pe_bl)) pss_nil))))))
      (pss_one (ps_ret pe_bl)), ?_⟩
    refine ⟨_, rfl, lm, _, rfl, .inl (SqL.of hm), (M.length : Int), by rw [hfr] <;> rfl, by omega, by omega, for_range (n := M.length) (fun i σ H' => H' = H ∧ ∃ v1 v2, σ = [some (.ref lm), some (.ref rp), v1, v2]) ⟨rfl, none, none, rfl⟩ ?_ ?_⟩
    · rintro i σ H' hi ⟨rfl, v1, v2, rfl⟩
      obtain ⟨u, l, r, g, e1, e2, _, _, _, u1, u2, u3⟩ := hf.at_ hi
      obtain ⟨op1, op2⟩ := op i hi
      rw [lo_of e2] at op1
      rw [ro_of e2] at op2
      have au : (fr.map V.ref)[i]? = some (.ref u) := by rw [List.getElem?_map, e1] <;> rfl
      refine ⟨_, rfl, _, rfl, lm, _, _, .ref u, rfl, rfl, SqL.of hm, atI0 au, u, _, _, _, rfl, rfl, SqT.of u1, rfl, l, rfl, ⟨_, SqL.of u2⟩, for_list (K := K) (a := l) (xs := nums g.1) (fun j σ H3 => H3 = H' ∧ ∃ v2, σ = [some (.ref lm), some (.ref rp), some (.int (0 + (i : Int))), v2]) ⟨rfl, v2, rfl⟩ (fun j σ H3 _ q => by rw [q.1]; exact SqL.of u2) ?_ ?_⟩
      · rintro j x σ H3 hj ⟨rfl, v2, rfl⟩
        obtain ⟨b, hb, rfl, _⟩ := nums_mem hj
        have hb2 := low i b (by rw [lo_of e2]; exact .inl hb)
        obtain ⟨t, xs, a1, a2, a3⟩ := row_at R sq (i := b) (by omega)
        refine ⟨_, rfl, _, rfl, rp, _, _, .ref t, rfl, rfl, SqL.of hp, atI_nat a1, _, rfl, t, _, _, _, rfl, rfl, SqL.of a2, atI0 (a3 i (by omega)), _, rfl, ?_⟩
        rw [op1 b hb]
        refine iteF ?_
        exact ⟨rfl, _, rfl⟩
      rintro σ H3 ⟨rfl, v3, rfl⟩
      refine ⟨_, rfl, _, rfl, lm, _, _, .ref u, rfl, rfl, SqL.of hm, atI0 au, u, _, _, _, rfl, rfl, SqT.of u1, rfl, r, rfl, ⟨_, SqL.of u3⟩, for_list (K := K) (a := r) (xs := nums g.2) (fun j σ H4 => H4 = H3 ∧ ∃ v2, σ = [some (.ref lm), some (.ref rp), some (.int (0 + (i : Int))), v2]) ⟨rfl, v3, rfl⟩ (fun j σ H4 _ q => by rw [q.1]; exact SqL.of u3) ?_ ?_⟩
      · rintro j x σ H4 hj ⟨rfl, v2, rfl⟩
        obtain ⟨b, hb, rfl, _⟩ := nums_mem hj
        have hb2 := low i b (by rw [ro_of e2]; exact .inr hb)
        obtain ⟨t, xs, a1, a2, a3⟩ := row_at R sq (i := i) (by omega)
        refine ⟨_, rfl, _, rfl, rp, _, _, .ref t, rfl, rfl, SqL.of hp, atI0 a1, _, rfl, t, _, _, _, rfl, rfl, SqL.of a2, atI_nat (a3 b (by omega)), _, rfl, ?_⟩
        rw [op2 b hb]
        refine iteF ?_
        exact ⟨rfl, _, rfl⟩
      · rintro σ H4 ⟨rfl, v2, rfl⟩
        exact ⟨rfl, _, _, rfl⟩
    · rintro σ H' ⟨rfl, v1, v2, rfl⟩
      exact q
/-! ### _law_one_of_four -/
def spOne (P : Program) (w : World) (CY CO : Addr) (n : Nat) : Sp := fun vs H Q _ => ∃ (o : OA) (y : YA) (Y : Yd) (T : List (Nat × Nat)) (a b : Nat), vs = [.ref o.q, vI a, vI b] ∧ OrdAt CO o y H Y ∧ YardAt P w CY y H Y T ∧ a < Y.length ∧ b < Y.length ∧ a + b < n ∧ Y.length ≤ 500 ∧
  ∀ H', KeepO o.d H H' → OrdAt CO o y H' Y → Q (.bl true) H'
abbrev nOne : List Str := ["_law_order", "_law_one", "_law_other", "_law_told_here", "_law_word"]
theorem scOne : FnScope nOne ["_law_order", "_law_one", "_law_other"] (defScope lOne) := ⟨rfl, rfl, rfl, by decide +kernel, rfl, by decide +kernel, by decide +kernel⟩
def four (x z : Bool) : List Bool := [x && z, !x && !z, z && !x, x && !z]
theorem four_one (x z : Bool) : (four x z).countP (· == true) = 1 ∧ (four x z).countP (· == false) = 3 := by cases x <;> cases z <;> decide
theorem countP_take {p : Bool → Bool} {L : List Bool} {i : Nat} {b : Bool} (h : L[i]? = some b) : (L.take (i + 1)).countP p = (L.take i).countP p + if p b then 1 else 0 := by
  rw [List.take_add_one, h, List.countP_append]
  show _ + List.countP p [b] = _
  rw [List.countP_singleton]
theorem ok_one {CY CO f : Addr} {fd : FuncData} {k n : Nat} (F : Fun K "_law_one_of_four" "_law_one_of_four" lOne f fd) (TO : TxO K mg CO) (B : TxB mg)
    (h1 : HasM P w K mg base CO "alike" k ["self", "one", "other"] (spCmp P w CY CO n fun x z => x && z)) (h2 : HasM P w K mg base CO "apart" k ["self", "one", "other"] (spCmp P w CY CO n fun x z => !x && !z)) (h3 : HasM P w K mg base CO "less" k ["self", "one", "other"] (spCmp P w CY CO n fun x z => z && !x)) :
    FnOk P w K mg base CX0 (k + 1) f fd ["_law_order", "_law_one", "_law_other"] (spOne P w CY CO n) := by
  obtain ⟨f1, fd1, G1, b1, m1⟩ := h1
  obtain ⟨f2, fd2, G2, b2, m2⟩ := h2
  obtain ⟨f3, fd3, G3, b3, m3⟩ := h3
  refine F.ok scOne (fun vs H Q E h => ?_) (fun cdv A outer s H vs Q E hr h => ?_)
  · obtain ⟨o, y, Y, T, a, b, rfl, _⟩ := h
    rfl
  · obtain ⟨o, y, Y, T, a, b, rfl, O, S, ha, hb, hab, hY, q⟩ := h
    refine ⟨_, pss_cons (ps_set (i := 3) scOne.nd rfl (Or.inl rfl) (pe_lst (pa_cons (pe_meth (pv 0) TO.cl m1 G1 hr b1 .nil pass0 (pa_cons (pv 1) (pa_cons (pv 2) pa_nil))) (pa_cons (pe_meth (pv 0) TO.cl m2 G2 hr b2 .nil pass0 (pa_cons (pv 1) (pa_cons (pv 2) pa_nil)))
          (pa_cons (pe_meth (pv 0) TO.cl m3 G3 hr b3 .nil pass0 (pa_cons (pv 1) (pa_cons (pv 2) pa_nil))) (pa_cons (pe_meth (pv 0) TO.cl m3 G3 hr b3 .nil pass0 (pa_cons (pv 2) (pa_cons (pv 1) pa_nil))) pa_nil))))))
      (pss_one (ps_ret (pe_and
        (pe_cmpR op_eq (pe_callB call_len_seq (by rfl) B.len PySem.boot_len (pa_cons (pe_lc (own := [("_law_word", 4)]) (g := gName 4) (tt := tTest (tOp (fun x y H Q => ∃ a b, x = .bl a ∧ y = .bl b ∧ Q (.bl (decide (a = b))) H) (tVar 4) (tC (.bl true)))) (te := tVar 4) rfl scOne.nd (pi_list (pv 3))
            (blkOk_by (own := [("_law_word", 4)]) (N := nOne) (sc := defScope lOne) (by decide +kernel)) (fun _ _ _ _ _ => pg_name (i := 4) scOne.nd rfl (Or.inl rfl)) (fun _ _ _ _ _ => pts_one (pt_cmpR op_is_bl (pv 4) pe_bl (nomark _))) (fun _ _ _ _ _ => pv 4)) pa_nil)) pe_int (nomark _))
        (pe_one (pe_cmpR op_eq (pe_callB call_len_seq (by rfl) B.len PySem.boot_len (pa_cons (pe_lc (own := [("_law_word", 4)]) (g := gName 4) (tt := tTest (tOp (fun x y H Q => ∃ a b, x = .bl a ∧ y = .bl b ∧ Q (.bl (decide (a = b))) H) (tVar 4) (tC (.bl false)))) (te := tVar 4) rfl scOne.nd (pi_list (pv 3))
            (blkOk_by (own := [("_law_word", 4)]) (N := nOne) (sc := defScope lOne) (by decide +kernel)) (fun _ _ _ _ _ => pg_name (i := 4) scOne.nd rfl (Or.inl rfl)) (fun _ _ _ _ _ => pts_one (pt_cmpR op_is_bl (pv 4) pe_bl (nomark _))) (fun _ _ _ _ _ => pv 4)) pa_nil)) pe_int (nomark _)))))), ?_⟩
    have hno : ∀ {m : Str}, (of_ o y).lookup m = none → (of_ o y).lookup m = none := fun h => h
    refine ⟨_, rfl, o.q, o.dx, _, rfl, O.ob, of_alike o y, _, rfl, _, rfl, o, y, Y, T, a, b, rfl, O, S, ha, hb, hab, hY, fun H1 k1 O1 => ?_⟩
    refine ⟨_, rfl, o.q, o.dx, _, rfl, O1.ob, of_apart o y, _, rfl, _, rfl, o, y, Y, T, a, b, rfl, O1, O.yard S k1, ha, hb, hab, hY, fun H2 k2 O2 => ?_⟩
    refine ⟨_, rfl, o.q, o.dx, _, rfl, O2.ob, of_less o y, _, rfl, _, rfl, o, y, Y, T, a, b, rfl, O2, O.yard S (k1.trans k2), ha, hb, hab, hY, fun H3 k3 O3 => ?_⟩
    refine ⟨_, rfl, o.q, o.dx, _, rfl, O3.ob, of_less o y, _, rfl, _, rfl, o, y, Y, T, b, a, rfl, O3, O.yard S (k1.trans (k2.trans k3)), hb, ha, by omega, hY, fun H4 k4 O4 => ?_⟩
    refine ⟨by show 4 ≤ sizeLine; decide, fun p hp => ?_⟩
    generalize e5 : upd H4 p _ = H5
    obtain ⟨s5, g5⟩ := laid e5 hp
    have g5 : H5 p = some (.lst ((four (ge Y a b) (ge Y b a)).map V.bl)) := g5
    obtain ⟨c1, c2⟩ := four_one (ge Y a b) (ge Y b a)
    generalize four (ge Y a b) (ge Y b a) = L4 at g5 c1 c2
    have O5 := O4.keep s5
    have K5 : KeepO o.d H H5 := k1.trans (k2.trans (k3.trans (k4.trans (KeepO.of s5))))
    have bat : ∀ {i : Nat} {x : V}, (L4.map V.bl)[i]? = some x → ∃ b, x = .bl b ∧ L4[i]? = some b := fun {i x} h => by
      rw [List.getElem?_map] at h
      obtain ⟨b, h1, h2⟩ := Option.map_eq_some_iff.mp h
      exact ⟨b, h2.symm, h1⟩
    -- len([.. if _law_word is True]) == 1
    refine ⟨_, rfl, p, rfl, ⟨_, SqL.of g5⟩, fun D hD => ?_⟩
    refine lc_list (K := K) (a := p) (xs := L4.map V.bl) (fun i H' => ∃ ws : List V, H' D = some (.lst ws) ∧ ws.length = (L4.take i).countP (· == true) ∧ Same H5 H') ⟨[], upd_same, rfl, Same.new (Same.refl _) hD⟩ (fun i H' _ ⟨_, _, _, sm⟩ => SqL.of (sm _ _ g5)) ?_ ?_
    · rintro i x H' hx ⟨ws, dD, wl, sm⟩
      obtain ⟨b', rfl, hb'⟩ := bat hx
      refine ⟨rfl, _, rfl, _, _, rfl, rfl, _, rfl, ?_⟩
      cases b' with
      | false =>
        refine iteF ?_
        refine ⟨ws, dD, ?_, sm⟩
        rw [countP_take hb', wl] <;> rfl
      | true =>
        refine iteT (B := False) ?_
        refine ⟨_, rfl, ws, dD, ?_, ws ++ [.bl true], upd_same, ?_, fun c u ec => ?_⟩
        · rw [wl, sizeLine_eq]
          have : L4.countP (· == true) = 1 := c1
          have h6 : (L4.take i).countP (· == true) ≤ L4.countP (· == true) := (List.take_sublist i L4).countP_le
          omega
        · rw [List.length_append, wl, countP_take hb'] <;> rfl
        · rw [upd_ne (ne_of_none ec hD)]
          exact sm _ _ ec
    rintro H6 ⟨ws, dD, wl, s6⟩
    rw [List.take_of_length_le (by rw [List.length_map]; exact Nat.le_refl _), c1] at wl
    refine ⟨D, ws, rfl, .inl (SqL.of dD), rfl, true, by rw [wl] <;> rfl, ?_⟩
    refine iteT ?_
    -- len([.. if _law_word is False]) == 3
    have g6 := s6 _ _ g5
    refine ⟨_, rfl, p, rfl, ⟨_, SqL.of g6⟩, fun D2 hD2 => ?_⟩
    refine lc_list (K := K) (a := p) (xs := L4.map V.bl) (fun i H' => ∃ ws : List V, H' D2 = some (.lst ws) ∧ ws.length = (L4.take i).countP (· == false) ∧ Same H6 H') ⟨[], upd_same, rfl, Same.new (Same.refl _) hD2⟩ (fun i H' _ ⟨_, _, _, sm⟩ => SqL.of (sm _ _ g6)) ?_ ?_
    · rintro i x H' hx ⟨ws, dD, wl, sm⟩
      obtain ⟨b', rfl, hb'⟩ := bat hx
      refine ⟨rfl, _, rfl, _, _, rfl, rfl, _, rfl, ?_⟩
      cases b' with
      | true =>
        refine iteF ?_
        refine ⟨ws, dD, ?_, sm⟩
        rw [countP_take hb', wl] <;> rfl
      | false =>
        refine iteT (B := False) ?_
        refine ⟨_, rfl, ws, dD, ?_, ws ++ [.bl false], upd_same, ?_, fun c u ec => ?_⟩
        · rw [wl, sizeLine_eq]
          have h6 : (L4.take i).countP (· == false) ≤ L4.countP (· == false) := (List.take_sublist i L4).countP_le
          omega
        · rw [List.length_append, wl, countP_take hb'] <;> rfl
        · rw [upd_ne (ne_of_none ec hD2)]
          exact sm _ _ ec
    rintro H7 ⟨ws2, dD2, wl2, s7⟩
    rw [List.take_of_length_le (by rw [List.length_map]; exact Nat.le_refl _), c2] at wl2
    refine ⟨D2, ws2, rfl, .inl (SqL.of dD2), rfl, ?_⟩
    have q1 := q H7 (K5.trans (KeepO.of (s6.trans s7))) (O5.keep (s6.trans s7))
    rw [wl2]
    exact q1
end
end K18
/-! The law. -/
namespace K18
open PySem L2 Gm Nd
theorem tt_rows {Y : Yd} {l : List Nat} {i j : Nat} (hi : i < l.length) (hj : j < l.length) : tt (rowsOf Y l) i j = ge Y (nu l i) (nu l j) := by
  have e : (rowsOf Y l).getD i [] = l.map fun b => ge Y (nu l i) b := by
    unfold rowsOf
    rw [List.getD_eq_getElem?_getD, List.getElem?_map, nu_at hi] <;> rfl
  unfold tt
  rw [e, List.getD_eq_getElem?_getD, List.getElem?_map, nu_at hj] <;> rfl
theorem rows_len (Y : Yd) (l : List Nat) : (rowsOf Y l).length = l.length := List.length_map _
theorem rows_square (Y : Yd) (l : List Nat) : Square (rowsOf Y l) := fun i r h => by
  unfold rowsOf at h
  rw [List.getElem?_map] at h
  obtain ⟨a, _, rfl⟩ := Option.map_eq_some_iff.mp h
  rw [rows_len, List.length_map]
theorem nu_left {l t : List Nat} {i : Nat} (h : i < l.length) : nu (l ++ t) i = nu l i := by
  unfold nu
  rw [List.getD_eq_getElem?_getD, List.getD_eq_getElem?_getD, List.getElem?_append_left h]
theorem nu_right {l t : List Nat} {i : Nat} : nu (l ++ t) (l.length + i) = nu t i := by
  unfold nu
  rw [List.getD_eq_getElem?_getD, List.getD_eq_getElem?_getD, List.getElem?_append_right (by omega)]
  rw [show l.length + i - l.length = i by omega]
theorem Trn.at_ {T : List (Nat × Nat)} : ∀ {os ks : List Nat} {i : Nat}, Trn T os ks → i < os.length → (nu os i, nu ks i) ∈ T
  | _, _, _, .nil, h => absurd h (Nat.not_lt_zero _)
  | _, _, 0, .cons r t, _ => r
  | _, _, i + 1, .cons r t, h => Trn.at_ (i := i) t (Nat.lt_of_succ_lt_succ h)
/-! ### rows as data -/
def rD (L : List (List Bool)) : PyData := .list (L.map fun r => .list (r.map .bool))
theorem lay_bools : ∀ l : List Bool, PyData.canLayAll0 (l.map .bool) = true
  | [] => rfl
  | x :: l => by
    show (PyData.canLay0 (.bool x) && PyData.canLayAll0 (l.map .bool)) = true
    rw [lay_bools l]
    rfl
theorem depth_bools : ∀ l : List Bool, PyData.depthAll (l.map .bool) = 0
  | [] => rfl
  | x :: l => by
    show max 0 (PyData.depthAll (l.map .bool)) = 0
    rw [depth_bools l] <;> rfl
theorem lay_rows : ∀ L : List (List Bool), PyData.canLayAll0 (L.map fun r => .list (r.map .bool)) = true
  | [] => rfl
  | r :: L => by
    show (PyData.canLayAll0 (r.map .bool) && PyData.canLayAll0 (L.map fun r => .list (r.map .bool))) = true
    rw [lay_rows L, lay_bools r] <;> rfl
theorem depth_rows : ∀ L : List (List Bool), PyData.depthAll (L.map fun r => PyData.list (r.map .bool)) ≤ 1
  | [] => Nat.zero_le _
  | r :: L => by
    show max (PyData.depthAll (r.map .bool) + 1) (PyData.depthAll (L.map fun r => PyData.list (r.map .bool))) ≤ 1
    have h1 := depth_bools r
    have h2 := depth_rows L
    omega
theorem lay_rD (L : List (List Bool)) : (rD L).canLay0 = true := lay_rows L
theorem shaped_rD (L : List (List Bool)) : SeqAt.shaped (rD L) = true := by
  unfold SeqAt.shaped
  rw [lay_rD, Bool.true_and]
  refine decide_eq_true ?_
  have h := depth_rows L
  show PyData.depthAll (L.map fun r => PyData.list (r.map .bool)) + 1 ≤ 64
  omega
theorem dp_bools {K : PySem.W.Frag} {H : Hp} : ∀ l : List Bool, DpAll K H (l.map V.bl) (l.map .bool)
  | [] => .nil
  | x :: l => .cons (.bl _) (dp_bools l)
theorem dp_rows {K : PySem.W.Frag} {H : Hp} {rp : Addr} : ∀ {rr : List Addr} {L : List (List Bool)}, Rws rp H rr L → DpAll K H (rr.map V.ref) (L.map fun r => .list (r.map .bool))
  | [], [], _ => .nil
  | [], _ :: _, R => by have := R.1; simp at this
  | _ :: _, [], R => by have := R.1; simp at this
  | t :: rr, r :: L, R => by
    obtain ⟨_, h⟩ := R.2 0 t r rfl rfl
    refine .cons (.lst (SqL.of h) (dp_bools r)) (dp_rows (rp := rp) ⟨?_, fun i u l a b => R.2 (i + 1) u l a b⟩)
    have := R.1
    simpa using this
theorem cut_take (xs : List V) {m : Nat} (h : m ≤ xs.length) : cutV xs none (some (m : Int)) = xs.take m := by
  unfold cutV
  rw [HT.sIx_nat, HT.sIx_none, List.drop_zero, Nat.min_eq_left h, Nat.sub_zero]
section
variable {P : Program} {w : World} {K : PySem.W.Frag} {mg : Str → Option Value} {base : Heap}
def spLaw (K : PySem.W.Frag) : Sp := fun vs H Q _ => ∃ (a : Addr) (ns : List Int), vs = [.ref a] ∧ SqL K H a (ns.map V.int) ∧ ∀ H', Q (.bl true) H'
abbrev nLaw : List Str := ["_law_script", "_law_yard", "_law_order", "_law_model", "_law_numbers", "_law_turned", "_law_rows", "_law_many", "_law_one", "_law_other", "_law_number", "_law_row"]
theorem scLaw : FnScope nLaw ["_law_script"] (defScope lLaw) := ⟨rfl, rfl, rfl, by decide +kernel, rfl, by decide +kernel, by decide +kernel⟩
theorem ok_law {CY CO f fYI fOI : Addr} {fd fdYI fdOI : FuncData} (F : Fun K "law" "law" lLaw f fd) (TY : TxY K mg CY) (TO : TxO K mg CO) (B : TxB mg)
    (MY : Mk K CY fYI) (GYI : FnOk P w K mg base CX0 1 fYI fdYI ["self"] (spYInit P w CY)) (bYI : Binds K fdYI ["self"] []) (MO : Mk K CO fOI) (GOI : FnOk P w K mg base CX0 1 fOI fdOI ["self", "yard"] (spOInit CO)) (bOI : Binds K fdOI ["self", "yard"] [])
    (hT : HasM P w K mg base CY "turned" 27 ["self", "game"] (spTurned P w CY 24))
    (hCell : HasF P w K mg base "_law_cell" 1 ["_law_script", "_law_k"] (spCell K)) (hCnt : HasF P w K mg base "_law_count" 1 ["_law_cell_here"] spCount)
    (hFam : HasF P w K mg base "_law_family" 2 ["_law_script", "_law_first", "_law_count_here", "_law_most"] (spFamily K)) (hBlt : HasF P w K mg base "_law_built" 3 ["_law_yard", "_law_model"] (spBuilt P w CY))
    (hTold : HasF P w K mg base "_law_told" 195 ["_law_order", "_law_numbers"] (spTold P w CY CO 96)) (hTr : HasF P w K mg base "_law_transitive" 1 ["_law_rows"] spTrans)
    (hOp : HasF P w K mg base "_law_options" 1 ["_law_model", "_law_rows"] spOpts) (hOne : HasF P w K mg base "_law_one_of_four" 196 ["_law_order", "_law_one", "_law_other"] (spOne P w CY CO 96)) :
    FnOk P w K mg base CX0 197 f fd ["_law_script"] (spLaw K) := by
  obtain ⟨fT, fdT, GT, bT, mT⟩ := hT
  obtain ⟨f1, fd1, G1, b1, m1, k1⟩ := hCell
  obtain ⟨f2, fd2, G2, b2, m2, k2⟩ := hCnt
  obtain ⟨f3, fd3, G3, b3, m3, k3⟩ := hFam
  obtain ⟨f4, fd4, G4, b4, m4, k4⟩ := hBlt
  obtain ⟨f5, fd5, G5, b5, m5, k5⟩ := hTold
  obtain ⟨f6, fd6, G6, b6, m6, k6⟩ := hTr
  obtain ⟨f7, fd7, G7, b7, m7, k7⟩ := hOp
  obtain ⟨f8, fd8, G8, b8, m8, k8⟩ := hOne
  refine F.ok scLaw (fun vs H Q E h => ?_) (fun cdv A outer s H vs Q E hr h => ?_)
  · obtain ⟨a, ns, rfl, _⟩ := h
    rfl
  · obtain ⟨a, ns, rfl, hS, q⟩ := h
    have hr1 : Room 1 _ := hr.mono (by decide)
    have hr2 : Room 2 _ := hr.mono (by decide)
    have hr3 : Room 3 _ := hr.mono (by decide)
    have hr27 : Room 27 _ := hr.mono (by decide)
    have hr195 : Room 195 _ := hr.mono (by decide)
    have hu64 : (cxOf CX0 P w K mg base nLaw "law" (defScope lLaw) f cdv A outer s H E).nox.A.units + 64 < cLine := hr.units
    refine ⟨_, pss_cons (ps_set (i := 1) scLaw.nd rfl (Or.inr rfl) (pe_make0 MY GYI hr2 rfl TY.mgC bYI .nil pass0))
      (pss_cons (ps_set (i := 2) scLaw.nd rfl (Or.inl rfl) (pe_make MO GOI hr2 rfl TO.mgC bOI .nil pass0 (pa_cons (pv 1) pa_nil)))
      (pss_cons (ps_set (i := 3) scLaw.nd rfl (Or.inl rfl) (pe_ix ix_tup (pe_call G3 hr2 rfl m3 k3 b3 .nil pass0 (pa_cons (pv 0) (pa_cons pe_int (pa_cons (pe_call G2 hr1 rfl m2 k2 b2 .nil pass0 (pa_cons (pe_call G1 hr1 rfl m1 k1 b1 .nil pass0 (pa_cons (pv 0) (pa_cons pe_int pa_nil))) pa_nil)) (pa_cons pe_int pa_nil))))) pe_int (fun _ _ => rfl)))
      (pss_cons (ps_set (i := 4) scLaw.nd rfl (Or.inl rfl) (pe_call G4 hr3 rfl m4 k4 b4 .nil pass0 (pa_cons (pv 1) (pa_cons (pv 3) pa_nil))))
      (pss_cons (ps_setLc (i := 5) (own := [("_law_number", 10)]) (g := gName 10) (tt := tYes) (te := tMeth CY "turned" (spTurned P w CY 24) [] E0 (tVar 1) (tCons (tVar 10) tNil)) rfl scLaw.nd rfl rfl (sw_true rfl rfl rfl (by decide +kernel))
          (pi_list (pv 4)) (blkOk_by (own := [("_law_number", 10)]) (N := nLaw) (sc := defScope lLaw) (by decide +kernel)) (fun _ _ _ _ _ => pg_name (i := 10) scLaw.nd rfl (Or.inl rfl)) (fun _ _ _ _ _ => pts_nil)
          (fun _ _ _ _ _ => pe_meth (pv 1) TY.cl mT GT hr27 bT .nil pass0 (pa_cons (pv 10) pa_nil)))
      (pss_cons (ps_set (i := 6) scLaw.nd rfl (Or.inl rfl) (pe_call G5 hr195 rfl m5 k5 b5 .nil pass0 (pa_cons (pv 2) (pa_cons (pe_op op_cat (pv 4) (pv 5)) pa_nil))))
      (pss_cons (ps_if (PW.pt (pw_or (pt_cmpR op_isN (pv 6) pe_non (nomark _)) (pw_or (pt_not (pt_val (pe_call G6 hr1 rfl m6 k6 b6 .nil pass0 (pa_cons (pv 6) pa_nil)))) (pw_or1 (pt_not (pt_val (pe_call G7 hr1 rfl m7 k7 b7 .nil pass0 (pa_cons (pv 3) (pa_cons (pv 6) pa_nil))))))))) (pss_one (ps_ret pe_bl)) pss_nil)
      (pss_cons (ps_set (i := 7) scLaw.nd rfl (Or.inr rfl) (pe_callB call_len_seq (by rfl) B.len PySem.boot_len (pa_cons (pv 4) pa_nil)))
      (pss_cons (ps_for PassesOwn.never rfl (pi_range1 (by rfl) B.range (pa_cons (pv 7) pa_nil)) (pg_name (i := 8) scLaw.nd rfl (Or.inl rfl))
        (pss_one (ps_for PassesOwn.never rfl (pi_range1 (by rfl) B.range (pa_cons (pv 7) pa_nil)) (pg_name (i := 9) scLaw.nd rfl (Or.inl rfl))
          (pss_cons (ps_if (pt_cmpR op_ne (pe_ix ix_list (pe_ix ix_list (pv 6) (pv 8) (fun _ _ => rfl)) (pv 9) (fun _ _ => rfl)) (pe_ix ix_list (pe_ix ix_list (pv 6) (pe_op op_add (pv 7) (pv 9)) (fun _ _ => rfl)) (pe_op op_add (pv 7) (pv 8)) (fun _ _ => rfl)) (nomark _)) (pss_one (ps_ret pe_bl)) pss_nil)
          (pss_one (ps_if (pt_not (pt_val (pe_call G8 hr rfl m8 k8 b8 .nil pass0 (pa_cons (pv 2) (pa_cons (pe_ix ix_list (pv 4) (pv 8) (fun _ _ => rfl)) (pa_cons (pe_ix ix_list (pv 4) (pv 9) (fun _ _ => rfl)) pa_nil)))))) (pss_one (ps_ret pe_bl)) pss_nil))))))
      (pss_one (ps_ret (pe_cmpR (op_eqD hu64) (pe_call G5 hr195 rfl m5 k5 b5 .nil pass0 (pa_cons (pv 2) (pa_cons (pv 4) pa_nil)))
          (pe_lc (own := [("_law_row", 11)]) (g := gName 11) (tt := tYes) (te := tSl (rSlL K) (tVar 11) tNoPart (tPart (tVar 7))) rfl scLaw.nd (pi_list (pe_slice sl_list (pv 6) po_none (po_some (pv 7))))
            (blkOk_by (own := [("_law_row", 11)]) (N := nLaw) (sc := defScope lLaw) (by decide +kernel)) (fun _ _ _ _ _ => pg_name (i := 11) scLaw.nd rfl (Or.inl rfl)) (fun _ _ _ _ _ => pts_nil)
            (fun _ _ _ _ _ => pe_slice sl_list (pv 11) po_none (po_some (pv 7)))) (nomark _)))))))))))), ?_⟩
    -- _law_yard = Yard()
    intro x dx nx ndx nex
    generalize e1 : upd (upd H dx _) x _ = H1
    have s1 : Same H H1 := fun c u ec => by
      rw [← e1, upd_ne (ne_of_none ec nx), upd_ne (ne_of_none ec ndx)]
      exact ec
    have g1 : H1 x = some (.ins CY dx []) := by rw [← e1]; exact upd_same
    refine ⟨x, dx, rfl, g1, fun y H2 ey hfr k2' S2 => ⟨rfl, ?_⟩⟩
    subst ey
    have s2 : Same H H2 := fun c u ec => k2' _ _ (s1 _ _ ec) (ne_of_none ec nx)
    -- _law_order = Order(_law_yard)
    refine ⟨_, rfl, ?_⟩
    intro qa dq nq ndq neq
    generalize e3 : upd (upd H2 dq _) qa _ = H3
    have s3 : Same H2 H3 := fun c u ec => by
      rw [← e3, upd_ne (ne_of_none ec nq), upd_ne (ne_of_none ec ndq)]
      exact ec
    have g3 : H3 qa = some (.ins CO dq []) := by rw [← e3]; exact upd_same
    refine ⟨qa, dq, y, rfl, g3, fun o H4 eo hd0 k4' ob4 d4 => ⟨rfl, ?_⟩⟩
    subst eo
    have s4 : Same H2 H4 := fun c u ec => k4' _ _ (s3 _ _ ec) (ne_of_none ec nq)
    have S4 := S2.same s4
    have S04 : Same H H4 := s2.trans s4
    -- _law_model = _law_family(..)[0]
    refine ⟨_, rfl, _, rfl, a, ns, 0, rfl, Same.seq S04 hS, fun c => ?_⟩
    refine ⟨c, rfl, fun n hn => ?_⟩
    refine ⟨a, ns, n, rfl, Same.seq S04 hS, hn, fun t lm lh M H5 s5 g5 MA mo hM lm0 => ?_⟩
    refine ⟨t, _, _, .ref lm, rfl, rfl, SqT.of g5, rfl, ?_⟩
    have S5 := S4.same s5
    -- _law_numbers = _law_built(_law_yard, _law_model)
    refine ⟨_, rfl, _, rfl, fun b => H4 b = none, y, lm, M, rfl, S5, MA, mo, hM, fun c hc => S4.no_new hc, S4.no_new lm0, fun p l Y H6 hp k6 S6 g6 ll lY Yl made => ?_⟩
    have hM0 := mo.pos
    have ob6 := k6 _ _ (s5 _ _ ob4) (S5.no_kind (s5 _ _ ob4) fun z => z)
    have d6 := k6 _ _ (s5 _ _ d4) (S5.no_kind (s5 _ _ d4) fun z => z)
    have MA6 : ModelAt (fun b => H4 b = none) H6 lm M := by
      obtain ⟨fr, h1, h2⟩ := MA
      exact ⟨fr, k6 _ _ h1 (S4.no_new lm0), h2.keep fun c u ec nc => k6 _ _ ec (S4.no_new nc)⟩
    have np : ¬ Part y p := S5.no_new hp
    -- _law_turned
    refine ⟨_, rfl, p, rfl, ⟨_, SqL.of g6⟩, fun D hD => ?_⟩
    have nD : ¬ Part y D := S6.no_new hD
    refine lc_list (K := K) (a := p) (xs := nums l) (fun i H' => ∃ (Z : Yd) (W : List (Nat × Nat)) (ts : List Nat), H' D = some (.lst (nums ts)) ∧ YardAt P w CY y H' (Y ++ Z) ([(0, 0)] ++ W) ∧ Trn ([(0, 0)] ++ W) (l.take i) ts ∧ (∀ e ∈ W, e.1 < Y.length) ∧ Z.length ≤ W.length ∧ KeepY y H6 H')
      ⟨[], [], [], upd_same, by rw [List.append_nil]; exact S6.same (Same.new (Same.refl _) hD), .nil, (fun e he => nomatch he), Nat.le_refl _, KeepY.new (KeepY.refl y H6) hD⟩ (fun i H' _ ⟨_, _, _, _, _, _, _, _, KY⟩ => SqL.of (KY _ _ g6 np)) ?_ ?_
    · rintro i x H' hx ⟨Z, W, ts, dD, S', tn, hW, hZ, KY⟩
      obtain ⟨g, hg, rfl, hgi⟩ := nums_mem hx
      have hgl := lY g hg
      refine ⟨rfl, ?_⟩
      refine iteT (B := False) ?_
      refine ⟨_, rfl, y.p, y.dx, _, rfl, S'.ob, yf_turned y, _, rfl, y, Y ++ Z, [(0, 0)] ++ W, Y.length, g, rfl, S', by rw [List.length_append]; omega, by omega, hgl, ?_, by rw [List.length_append, List.length_append, List.length_singleton]; omega, fun t' Z2 W2 H2' K2 S2' mem2 w2 z2 => ?_⟩
      · intro e he
        rcases List.mem_append.mp he with he | he
        · rw [List.mem_singleton.mp he]
          show 0 < Y.length
          omega
        · exact hW e he
      have D2 := K2 _ _ dD nD
      have kl := Paired.length tn
      rw [List.length_take] at kl
      refine ⟨nums ts, D2, by rw [List.length_map, sizeLine_eq]; omega, Z ++ Z2, W ++ W2, ts ++ [t'], by rw [upd_same, nums_app] <;> rfl, ?_, ?_, ?_, by rw [List.length_append, List.length_append]; omega, ?_⟩
      · rw [← List.append_assoc, ← List.append_assoc]
        exact S2'.other D2 nD
      · rw [← List.append_assoc, List.take_add_one, hgi]
        exact Paired.snoc tn.more mem2
      · intro e he
        rcases List.mem_append.mp he with he | he
        · exact hW e he
        · have := w2 e he
          omega
      · intro b u eb nb
        rw [upd_ne (ne_of_none eb hD)]
        exact K2 _ _ (KY _ _ eb nb) nb
    rintro H7 ⟨Z, W, ts, dD, S7, tn, hW, hZ, k7'⟩
    rw [List.take_of_length_le (by rw [List.length_map]; exact Nat.le_refl _)] at tn
    have tl := Paired.length tn
    have hWl : W.length + 1 ≤ Y.length := by
      have q1 := nodup_le Y.length _ S7.tnd (fun x hx => by
        obtain ⟨e, he, rfl⟩ := List.mem_map.mp hx
        rcases List.mem_append.mp he with he | he
        · rw [List.mem_singleton.mp he]
          show 0 < Y.length
          have := S6.pos
          omega
        · exact hW e he)
      rw [List.length_map, List.length_append, List.length_singleton] at q1
      omega
    generalize eY : Y ++ Z = Y' at S7
    have Yl' : Y'.length ≤ 47 := by
      rw [← eY, List.length_append]
      omega
    have YY : Y.length ≤ Y'.length := by
      rw [← eY, List.length_append]
      omega
    generalize eT : [(0, 0)] ++ W = T' at S7 tn
    have lY' : ∀ x ∈ l, x < Y'.length := fun x hx => Nat.lt_of_lt_of_le (lY x hx) YY
    have tY' : ∀ x ∈ ts, x < Y'.length := fun x hx => by
      obtain ⟨o', _, e'⟩ := tn.right x hx
      exact (S7.tin _ e').2
    have ob7 := k7' _ _ ob6 (S6.no_kind ob6 fun z => z)
    have d7 := k7' _ _ d6 (S6.no_kind d6 fun z => z)
    have O7 : OrdAt CO o y H7 Y' := ⟨ob7, [], d7, List.nodup_nil, fun e he => nomatch he⟩
    have g7 := k7' _ _ g6 np
    have MA7 : ModelAt (fun b => H4 b = none) H7 lm M := by
      obtain ⟨fr, h1, h2⟩ := MA6
      exact ⟨fr, k7' _ _ h1 (S4.no_new lm0), h2.keep fun c u ec nc => k7' _ _ ec (S4.no_new nc)⟩
    -- _law_rows = _law_told(_law_order, _law_numbers + _law_turned)
    refine ⟨_, rfl, _, rfl, _, rfl, p, D, _, _, rfl, rfl, g7, dD, by rw [List.length_map, List.length_map, sizeLine_eq]; omega, fun c hc => ?_⟩
    generalize e8 : upd H7 c _ = H8
    obtain ⟨s8, g8⟩ := laid e8 hc
    rw [← nums_app] at g8
    refine ⟨o, y, Y', T', c, l ++ ts, rfl, O7.keep s8, S7.same s8, by omega, by omega, g8, fun x hx => ?_, by rw [List.length_append]; omega, fun rp rr H9 k9 O9 hrp g9 R9 => ?_⟩
    · rcases List.mem_append.mp hx with hx | hx
      · exact lY' x hx
      · exact tY' x hx
    have K9 : KeepO o.d H7 H9 := (KeepO.of s8).trans k9
    have S9 := O7.yard S7 K9
    have sq := rows_square Y' (l ++ ts)
    have rl : (rowsOf Y' (l ++ ts)).length = l.length + ts.length := by rw [rows_len, List.length_append]
    have d7n : ∀ c xs, H7 c = some (.lst xs) → c ≠ o.d := fun c xs ec => ne_of ec d7 (by intro z; cases z)
    have MA9 : ModelAt (fun b => H4 b = none) H9 lm M := by
      obtain ⟨fr, h1, h2⟩ := MA7
      refine ⟨fr, K9 _ _ h1 (d7n _ _ h1), h2.keep fun c u ec nc => K9 _ _ ec fun z => ?_⟩
      rw [z, d4] at nc
      cases nc
    have hll : ∀ i, i < (rowsOf Y' (l ++ ts)).length → i < (l ++ ts).length := fun i hi => by rw [rows_len] at hi; exact hi
    -- if _law_rows is None or not .. or not ..
    refine ⟨_, rfl, rfl, _, rfl, ?_⟩
    refine iteF ?_
    refine ⟨_, rfl, rp, rr, rowsOf Y' (l ++ ts), rfl, g9, R9, sq, by omega, fun i hi => ?_, fun i j k hi hj hk e1 e2 => ?_, _, rfl, ?_⟩
    · rw [tt_rows (hll i hi) (hll i hi)]
      exact refl S9.low _
    · rw [tt_rows (hll i hi) (hll j hj)] at e1
      rw [tt_rows (hll j hj) (hll k hk)] at e2
      rw [tt_rows (hll i hi) (hll k hk)]
      exact trans S9.low e1 e2
    refine iteF ?_
    have made' : ∀ i, i < M.length → (∀ j ∈ lo M i, nu l j ∈ lo Y' (nu l i)) ∧ ∀ j ∈ ro M i, nu l j ∈ ro Y' (nu l i) := fun i hi => by
      obtain ⟨a1, a2⟩ := made i (by omega)
      rw [← eY, lo_app (lY _ (nu_mem (by omega))), ro_app (lY _ (nu_mem (by omega)))]
      exact ⟨a1, a2⟩
    refine ⟨_, rfl, _, rfl, _, lm, rp, rr, M, rowsOf Y' (l ++ ts), rfl, MA9, mo.low, g9, R9, sq, by omega, by omega, fun i hi => ⟨fun j hj => ?_, fun j hj => ?_⟩, _, rfl, ?_⟩
    · have hji := mo.low i j (.inl hj)
      rw [tt_rows (by rw [List.length_append]; omega) (by rw [List.length_append]; omega), nu_left (by omega), nu_left (by omega)]
      exact not_l S9.low ((made' i hi).1 j hj)
    · have hji := mo.low i j (.inr hj)
      rw [tt_rows (by rw [List.length_append]; omega) (by rw [List.length_append]; omega), nu_left (by omega), nu_left (by omega)]
      exact not_r S9.low ((made' i hi).2 j hj)
    refine iteF ?_
    -- _law_many = len(_law_numbers)
    have p9 := K9 _ _ g7 (d7n _ _ g7)
    refine ⟨_, rfl, p, _, rfl, .inl (SqL.of p9), ?_⟩
    generalize hm : (nums l).length = m
    have hm : m = l.length := by rw [← hm, List.length_map]
    have rowAt : ∀ {H' : Hp}, KeepO o.d H9 H' → Rws rp H' rr (rowsOf Y' (l ++ ts)) := fun {H'} k => R9.keep fun t xs et _ => k _ _ et (by
      obtain ⟨_, d9, _⟩ := O9.dic
      exact ne_of et d9 (by intro z; cases z))
    obtain ⟨kv9, d9, _⟩ := O9.dic
    have nrd : rp ≠ o.d := ne_of g9 d9 (by intro z; cases z)
    have npd : p ≠ o.d := ne_of p9 d9 (by intro z; cases z)
    -- the two loops
    refine ⟨_, rfl, (m : Int), rfl, by omega, by omega, for_range (n := m) (fun i σ H' => ∃ v8 v9, σ = [some (.ref a), some (.ref y.p), some (.ref o.q), some (.ref lm), some (.ref p), some (.ref D), some (.ref rp), some (.int (m : Int)), v8, v9, none, none] ∧ KeepO o.d H9 H' ∧ OrdAt CO o y H' Y')
      ⟨none, none, rfl, KeepO.refl _ _, O9⟩ ?_ ?_⟩
    · rintro i σ H' hi ⟨v8, v9, rfl, k10, O10⟩
      refine ⟨_, rfl, (m : Int), rfl, by omega, by omega, for_range (n := m) (fun j σ H' => ∃ v9, σ = [some (.ref a), some (.ref y.p), some (.ref o.q), some (.ref lm), some (.ref p), some (.ref D), some (.ref rp), some (.int (m : Int)), some (.int (0 + (i : Int))), v9, none, none] ∧ KeepO o.d H9 H' ∧ OrdAt CO o y H' Y')
        ⟨v9, rfl, k10, O10⟩ ?_ ?_⟩
      · rintro j σ H3' hj ⟨v9', rfl, k11, O11⟩
        have R11 := rowAt k11
        have g11 := k11 _ _ g9 nrd
        have p11 := k11 _ _ p9 npd
        obtain ⟨t1, xs1, a1, a2, a3⟩ := row_at R11 sq (i := i) (by omega)
        obtain ⟨t2, xs2, b1', b2', b3'⟩ := row_at R11 sq (i := l.length + j) (by omega)
        have ij : (m : Int) + (0 + (j : Int)) = ((l.length + j : Nat) : Int) := by omega
        have ii : (m : Int) + (0 + (i : Int)) = ((l.length + i : Nat) : Int) := by omega
        have at1 : atI (rr.map V.ref) ((m : Int) + (0 + (j : Int))) = some (.ref t2) := by
          rw [ij]
          exact atI_nat b1'
        have at2 : atI xs2 ((m : Int) + (0 + (i : Int))) = some (.bl (tt (rowsOf Y' (l ++ ts)) (l.length + j) (l.length + i))) := by
          rw [ii]
          exact atI_nat (b3' _ (by omega))
        have same : tt (rowsOf Y' (l ++ ts)) i j = tt (rowsOf Y' (l ++ ts)) (l.length + j) (l.length + i) := by
          rw [tt_rows (by rw [List.length_append]; omega) (by rw [List.length_append]; omega), tt_rows (by rw [List.length_append]; omega) (by rw [List.length_append]; omega), nu_left (by omega), nu_left (by omega), nu_right, nu_right]
          exact turn S9.low S9.tok (tn.at_ (by omega)) (tn.at_ (by omega))
        refine ⟨_, rfl, _, rfl, rp, _, _, .ref t1, rfl, rfl, SqL.of g11, atI0 a1, _, rfl, t1, _, _, _, rfl, rfl, SqL.of a2, atI0 (a3 j (by omega)), ?_⟩
        refine ⟨_, rfl, _, rfl, _, rfl, _, _, rfl, rfl, rp, _, _, .ref t2, rfl, rfl, SqL.of g11, at1, _, rfl, _, rfl, _, _, rfl, rfl, t2, _, _, _, rfl, rfl, SqL.of b2', at2, rfl, _, rfl, ?_⟩
        refine iteNS (by rw [same]) ?_
        have hil : i < l.length := by omega
        have hjl : j < l.length := by omega
        have la := lY' _ (nu_mem hil)
        have lb := lY' _ (nu_mem hjl)
        refine ⟨_, rfl, _, rfl, _, rfl, p, _, _, vI (nu l i), rfl, rfl, SqL.of p11, atI0 (by rw [List.getElem?_map, nu_at hil] <;> rfl), _, rfl, _, rfl, p, _, _, vI (nu l j), rfl, rfl, SqL.of p11, atI0 (by rw [List.getElem?_map, nu_at hjl] <;> rfl), ?_⟩
        refine ⟨o, y, Y', T', _, _, rfl, O11, O9.yard S9 k11, la, lb, by omega, by omega, fun H12 k12 O12 => ⟨_, rfl, ?_⟩⟩
        refine iteF ?_
        exact ⟨_, rfl, k11.trans k12, O12⟩
      · rintro σ H3' ⟨v9', rfl, k11, O11⟩
        exact ⟨_, _, rfl, k11, O11⟩
    rintro σ H10 ⟨v8, v9, rfl, k10, O10⟩
    -- return _law_told(..) == [_law_row[:_law_many] for _law_row in _law_rows[:_law_many]]
    have p10 := k10 _ _ p9 npd
    refine ⟨_, rfl, _, rfl, o, y, Y', T', p, l, rfl, O10, O9.yard S9 k10, by omega, by omega, p10, lY', by omega, fun rp2 rr2 H11 k11 O11 hrp2 g11 R11 => ?_⟩
    have k911 : KeepO o.d H9 H11 := k10.trans k11
    have R11' := rowAt k911
    have r11 := k911 _ _ g9 nrd
    refine ⟨_, rfl, _, rfl, _, rfl, rp, _, rfl, SqL.of r11, fun c2 hc2 => ?_⟩
    have hml : m ≤ (rr.map V.ref).length := by rw [List.length_map, R9.1]; omega
    rw [cut_take _ hml]
    generalize e12 : upd H11 c2 _ = H12
    obtain ⟨s12, g12⟩ := laid e12 hc2
    have R12 : Rws rp H12 rr (rowsOf Y' (l ++ ts)) := R11'.keep fun t xs et _ => s12 _ _ et
    refine ⟨c2, rfl, ⟨_, SqL.of g12⟩, fun D2 hD2 => ?_⟩
    refine lc_list (K := K) (a := c2) (xs := (rr.map V.ref).take m) (fun i H' => ∃ cs : List Addr, H' D2 = some (.lst (cs.map V.ref)) ∧ Rws D2 H' cs ((rowsOf Y' l).take i) ∧ Same H12 H') ⟨[], upd_same, ⟨rfl, fun i t r a => nomatch a⟩, Same.new (Same.refl _) hD2⟩ (fun i H' _ ⟨_, _, _, sm⟩ => SqL.of (sm _ _ g12)) ?_ ?_
    · rintro i x H' hx ⟨cs, dD2, Rc, sm⟩
      have him : i < m := by
        have := (List.getElem?_eq_some_iff.mp hx).1
        rw [List.length_take] at this
        omega
      have hil : i < l.length := by omega
      obtain ⟨t1, r1, et, er, _, ht⟩ := R12.at_ (i := i) (by omega)
      have ex : x = .ref t1 := by
        rw [List.getElem?_take, if_pos him, List.getElem?_map, et] at hx
        exact (Option.some.inj hx).symm
      subst ex
      have er1 : r1 = (l ++ ts).map fun b => ge Y' (nu l i) b := by
        unfold rowsOf at er
        rw [List.getElem?_map, nu_at (by rw [List.length_append]; omega), nu_left hil] at er
        exact (Option.some.inj er).symm
      have hr1l : m ≤ (r1.map V.bl).length := by rw [er1, List.length_map, List.length_map, List.length_append]; omega
      refine ⟨rfl, ?_⟩
      refine iteT (B := False) ?_
      refine ⟨_, rfl, _, rfl, _, rfl, t1, _, rfl, SqL.of (sm _ _ ht), fun pn hpn => ?_⟩
      rw [cut_take _ hr1l]
      generalize e13 : upd H' pn _ = H13
      obtain ⟨s13, g13⟩ := laid e13 hpn
      have d13 := s13 _ _ dD2
      have cl := Rc.1
      rw [List.length_take] at cl
      have npn : pn ≠ D2 := fun z => by rw [z, dD2] at hpn; cases hpn
      refine ⟨_, d13, by rw [List.length_map, sizeLine_eq]; omega, cs ++ [pn], by rw [upd_same, List.map_append] <;> rfl, ?_, fun c u ec => ?_⟩
      · have row : (rowsOf Y' l)[i]? = some (r1.take m) := by
          unfold rowsOf
          rw [List.getElem?_map, nu_at hil, er1, hm, ← List.map_take, List.take_left] <;> rfl
        rw [List.take_add_one, row]
        have R13 : Rws D2 (upd H13 D2 (.lst (cs.map V.ref ++ [.ref pn]))) cs ((rowsOf Y' l).take i) := Rc.keep fun t xs et nt => by
          rw [upd_ne nt]
          exact s13 _ _ et
        refine R13.snoc npn ?_
        rw [upd_ne npn, g13, List.map_take]
      · rw [upd_ne (ne_of_none ec hD2)]
        exact s13 _ _ (sm _ _ ec)
    rintro H14 ⟨cs, dD2, Rc, sm⟩
    have e15 : ((rr.map V.ref).take m).length = m := by rw [List.length_take]; omega
    rw [e15, List.take_of_length_le (by rw [rows_len]; omega)] at Rc
    have g14 := sm _ _ (s12 _ _ g11)
    have R14 : Rws rp2 H14 rr2 (rowsOf Y' l) := R11.keep fun t xs et _ => sm _ _ (s12 _ _ et)
    refine ⟨rD (rowsOf Y' l), rD (rowsOf Y' l), .lst (SqL.of g14) (dp_rows R14), .lst (SqL.of dD2) (dp_rows Rc), shaped_rD _, shaped_rD _, ?_⟩
    rw [SeqAt.eqv_refl _ (lay_rD _)]
    exact q H14
end
end K18
/-! What the top has left: where each def stands, the classes, the built-in names. -/
namespace K18
open PySem L2 Gm Nd
theorem scProp : FnScope ["self"] ["self"] (defScope oYard) := ⟨rfl, rfl, rfl, by decide +kernel, rfl, by decide +kernel, by decide +kernel⟩
theorem all_mk {l : PySem.W.OpenLaw} {w : World} {K : PySem.W.Frag} {h : Heap} {mg : Str → Option Value} {fa CY CO pp f0 f1 f2 f3 f4 f5 f6 f7 f8 f9 f10 f11 f12 f13 f14 f15 f16 f17 f18 f19 f20 f21 f22 f23 f24 f25 : Addr} {rs : List Value}
    {od0 an0 od1 an1 od2 an2 od3 an3 od4 an4 od5 an5 od6 an6 od7 an7 od8 an8 od9 an9 od10 an10 od11 an11 od12 an12 od13 an13 od14 an14 od15 an15 od16 an16 od17 an17 od18 an18 od19 an19 od20 an20 od21 an21 od22 an22 od23 an23 od24 an24 od25 an25 : Option Addr} {sl0 sl1 sl2 sl3 sl4 sl5 sl6 sl7 sl8 sl9 sl10 sl11 sl12 sl13 sl14 sl15 sl16 sl17 sl18 sl19 sl20 sl21 sl22 sl23 sl24 sl25 : Array (Option Value)}
    {oc0 kV0 dc0 pm0 cd0 ct0 oc1 kV1 dc1 pm1 cd1 ct1 oc2 kV2 dc2 pm2 cd2 ct2 oc3 kV3 dc3 pm3 cd3 ct3 oc4 kV4 dc4 pm4 cd4 ct4 oc5 kV5 dc5 pm5 cd5 ct5 oc6 kV6 dc6 pm6 cd6 ct6 oc7 kV7 dc7 pm7 cd7 ct7 oc8 kV8 dc8 pm8 cd8 ct8 oc9 kV9 dc9 pm9 cd9 ct9 oc10 kV10 dc10 pm10 cd10 ct10 oc11 kV11 dc11 pm11 cd11 ct11 oc12 kV12 dc12 pm12 cd12 ct12 oc13 kV13 dc13 pm13 cd13 ct13 oc14 kV14 dc14 pm14 cd14 ct14 oc15 kV15 dc15 pm15 cd15 ct15 oc16 kV16 dc16 pm16 cd16 ct16 oc17 kV17 dc17 pm17 cd17 ct17 oc18 kV18 dc18 pm18 cd18 ct18 oc19 kV19 dc19 pm19 cd19 ct19 oc20 kV20 dc20 pm20 cd20 ct20 oc21 kV21 dc21 pm21 cd21 ct21 oc22 kV22 dc22 pm22 cd22 ct22 oc23 kV23 dc23 pm23 cd23 ct23 oc24 kV24 dc24 pm24 cd24 ct24 oc25 kV25 dc25 pm25 cd25 ct25 : Value}
    (X : K.In h) (G : h.Ns mainGlobals mg) (hfa : mg "law" = some (.ref fa))
    (gCY : PySem.W.nsIn K mainGlobals "Yard" = some (some (.ref CY)))
    (gCO : PySem.W.nsIn K mainGlobals "Order" = some (some (.ref CO)))
    (a0 : PySem.W.findIn K (.ref CY) "__init__" = some (some (.ref f0)))
    (n0 : PySem.W.isFn K (.ref f0) = true)
    (l0 : K.lookup f0 = some ⟨oc0, od0, .func (PySem.W.fnOf "__init__" "Yard.__init__" (defArgs yInit) (defBody yInit) (defScope yInit) .none kV0 dc0 pm0 an0 cd0 ct0), sl0⟩)
    (c0 : PySem.W.codeIn K cd0 "Yard.__init__" = true)
    (k0 : PySem.W.keepIn K (.ref f0) = true)
    (a1 : PySem.W.findIn K (.ref CY) "_check" = some (some (.ref f1)))
    (n1 : PySem.W.isFn K (.ref f1) = true)
    (l1 : K.lookup f1 = some ⟨oc1, od1, .func (PySem.W.fnOf "_check" "Yard._check" (defArgs yCheck) (defBody yCheck) (defScope yCheck) .none kV1 dc1 pm1 an1 cd1 ct1), sl1⟩)
    (c1 : PySem.W.codeIn K cd1 "Yard._check" = true)
    (k1 : PySem.W.keepIn K (.ref f1) = true)
    (a2 : PySem.W.findIn K (.ref CY) "lefts" = some (some (.ref f2)))
    (n2 : PySem.W.isFn K (.ref f2) = true)
    (l2 : K.lookup f2 = some ⟨oc2, od2, .func (PySem.W.fnOf "lefts" "Yard.lefts" (defArgs yLefts) (defBody yLefts) (defScope yLefts) .none kV2 dc2 pm2 an2 cd2 ct2), sl2⟩)
    (c2 : PySem.W.codeIn K cd2 "Yard.lefts" = true)
    (k2 : PySem.W.keepIn K (.ref f2) = true)
    (a3 : PySem.W.findIn K (.ref CY) "rights" = some (some (.ref f3)))
    (n3 : PySem.W.isFn K (.ref f3) = true)
    (l3 : K.lookup f3 = some ⟨oc3, od3, .func (PySem.W.fnOf "rights" "Yard.rights" (defArgs yRights) (defBody yRights) (defScope yRights) .none kV3 dc3 pm3 an3 cd3 ct3), sl3⟩)
    (c3 : PySem.W.codeIn K cd3 "Yard.rights" = true)
    (k3 : PySem.W.keepIn K (.ref f3) = true)
    (a4 : PySem.W.findIn K (.ref CY) "height" = some (some (.ref f4)))
    (n4 : PySem.W.isFn K (.ref f4) = true)
    (l4 : K.lookup f4 = some ⟨oc4, od4, .func (PySem.W.fnOf "height" "Yard.height" (defArgs yHeight) (defBody yHeight) (defScope yHeight) .none kV4 dc4 pm4 an4 cd4 ct4), sl4⟩)
    (c4 : PySem.W.codeIn K cd4 "Yard.height" = true)
    (k4 : PySem.W.keepIn K (.ref f4) = true)
    (a5 : PySem.W.findIn K (.ref CY) "game" = some (some (.ref f5)))
    (n5 : PySem.W.isFn K (.ref f5) = true)
    (l5 : K.lookup f5 = some ⟨oc5, od5, .func (PySem.W.fnOf "game" "Yard.game" (defArgs yGame) (defBody yGame) (defScope yGame) .none kV5 dc5 pm5 an5 cd5 ct5), sl5⟩)
    (c5 : PySem.W.codeIn K cd5 "Yard.game" = true)
    (k5 : PySem.W.keepIn K (.ref f5) = true)
    (a6 : PySem.W.findIn K (.ref CY) "turned" = some (some (.ref f6)))
    (n6 : PySem.W.isFn K (.ref f6) = true)
    (l6 : K.lookup f6 = some ⟨oc6, od6, .func (PySem.W.fnOf "turned" "Yard.turned" (defArgs yTurned) (defBody yTurned) (defScope yTurned) .none kV6 dc6 pm6 an6 cd6 ct6), sl6⟩)
    (c6 : PySem.W.codeIn K cd6 "Yard.turned" = true)
    (k6 : PySem.W.keepIn K (.ref f6) = true)
    (a7 : PySem.W.findIn K (.ref CO) "__init__" = some (some (.ref f7)))
    (n7 : PySem.W.isFn K (.ref f7) = true)
    (l7 : K.lookup f7 = some ⟨oc7, od7, .func (PySem.W.fnOf "__init__" "Order.__init__" (defArgs oInit) (defBody oInit) (defScope oInit) .none kV7 dc7 pm7 an7 cd7 ct7), sl7⟩)
    (c7 : PySem.W.codeIn K cd7 "Order.__init__" = true)
    (k7 : PySem.W.keepIn K (.ref f7) = true)
    (a8 : PySem.W.findIn K (.ref CO) "at_least" = some (some (.ref f8)))
    (n8 : PySem.W.isFn K (.ref f8) = true)
    (l8 : K.lookup f8 = some ⟨oc8, od8, .func (PySem.W.fnOf "at_least" "Order.at_least" (defArgs oAt) (defBody oAt) (defScope oAt) .none kV8 dc8 pm8 an8 cd8 ct8), sl8⟩)
    (c8 : PySem.W.codeIn K cd8 "Order.at_least" = true)
    (k8 : PySem.W.keepIn K (.ref f8) = true)
    (a9 : PySem.W.findIn K (.ref CO) "alike" = some (some (.ref f9)))
    (n9 : PySem.W.isFn K (.ref f9) = true)
    (l9 : K.lookup f9 = some ⟨oc9, od9, .func (PySem.W.fnOf "alike" "Order.alike" (defArgs oAlike) (defBody oAlike) (defScope oAlike) .none kV9 dc9 pm9 an9 cd9 ct9), sl9⟩)
    (c9 : PySem.W.codeIn K cd9 "Order.alike" = true)
    (k9 : PySem.W.keepIn K (.ref f9) = true)
    (a10 : PySem.W.findIn K (.ref CO) "less" = some (some (.ref f10)))
    (n10 : PySem.W.isFn K (.ref f10) = true)
    (l10 : K.lookup f10 = some ⟨oc10, od10, .func (PySem.W.fnOf "less" "Order.less" (defArgs oLess) (defBody oLess) (defScope oLess) .none kV10 dc10 pm10 an10 cd10 ct10), sl10⟩)
    (c10 : PySem.W.codeIn K cd10 "Order.less" = true)
    (k10 : PySem.W.keepIn K (.ref f10) = true)
    (a11 : PySem.W.findIn K (.ref CO) "apart" = some (some (.ref f11)))
    (n11 : PySem.W.isFn K (.ref f11) = true)
    (l11 : K.lookup f11 = some ⟨oc11, od11, .func (PySem.W.fnOf "apart" "Order.apart" (defArgs oApart) (defBody oApart) (defScope oApart) .none kV11 dc11 pm11 an11 cd11 ct11), sl11⟩)
    (c11 : PySem.W.codeIn K cd11 "Order.apart" = true)
    (k11 : PySem.W.keepIn K (.ref f11) = true)
    (a12 : PySem.W.findIn K (.ref CO) "_reckon" = some (some (.ref f12)))
    (n12 : PySem.W.isFn K (.ref f12) = true)
    (l12 : K.lookup f12 = some ⟨oc12, od12, .func (PySem.W.fnOf "_reckon" "Order._reckon" (defArgs oReck) (defBody oReck) (defScope oReck) .none kV12 dc12 pm12 an12 cd12 ct12), sl12⟩)
    (c12 : PySem.W.codeIn K cd12 "Order._reckon" = true)
    (k12 : PySem.W.keepIn K (.ref f12) = true)
    (a13 : PySem.W.nsIn K mainGlobals "_law_cell" = some (some (.ref f13)))
    (l13 : K.lookup f13 = some ⟨oc13, od13, .func (PySem.W.fnOf "_law_cell" "_law_cell" (defArgs lCell) (defBody lCell) (defScope lCell) .none kV13 dc13 pm13 an13 cd13 ct13), sl13⟩)
    (c13 : PySem.W.codeIn K cd13 "_law_cell" = true)
    (k13 : PySem.W.keepIn K (.ref f13) = true)
    (a14 : PySem.W.nsIn K mainGlobals "_law_digits" = some (some (.ref f14)))
    (l14 : K.lookup f14 = some ⟨oc14, od14, .func (PySem.W.fnOf "_law_digits" "_law_digits" (defArgs lDigits) (defBody lDigits) (defScope lDigits) .none kV14 dc14 pm14 an14 cd14 ct14), sl14⟩)
    (c14 : PySem.W.codeIn K cd14 "_law_digits" = true)
    (k14 : PySem.W.keepIn K (.ref f14) = true)
    (a15 : PySem.W.nsIn K mainGlobals "_law_put" = some (some (.ref f15)))
    (l15 : K.lookup f15 = some ⟨oc15, od15, .func (PySem.W.fnOf "_law_put" "_law_put" (defArgs lPut) (defBody lPut) (defScope lPut) .none kV15 dc15 pm15 an15 cd15 ct15), sl15⟩)
    (c15 : PySem.W.codeIn K cd15 "_law_put" = true)
    (k15 : PySem.W.keepIn K (.ref f15) = true)
    (a16 : PySem.W.nsIn K mainGlobals "_law_drawn" = some (some (.ref f16)))
    (l16 : K.lookup f16 = some ⟨oc16, od16, .func (PySem.W.fnOf "_law_drawn" "_law_drawn" (defArgs lDrawn) (defBody lDrawn) (defScope lDrawn) .none kV16 dc16 pm16 an16 cd16 ct16), sl16⟩)
    (c16 : PySem.W.codeIn K cd16 "_law_drawn" = true)
    (k16 : PySem.W.keepIn K (.ref f16) = true)
    (a17 : PySem.W.nsIn K mainGlobals "_law_family" = some (some (.ref f17)))
    (l17 : K.lookup f17 = some ⟨oc17, od17, .func (PySem.W.fnOf "_law_family" "_law_family" (defArgs lFamily) (defBody lFamily) (defScope lFamily) .none kV17 dc17 pm17 an17 cd17 ct17), sl17⟩)
    (c17 : PySem.W.codeIn K cd17 "_law_family" = true)
    (k17 : PySem.W.keepIn K (.ref f17) = true)
    (a18 : PySem.W.nsIn K mainGlobals "_law_count" = some (some (.ref f18)))
    (l18 : K.lookup f18 = some ⟨oc18, od18, .func (PySem.W.fnOf "_law_count" "_law_count" (defArgs lCount) (defBody lCount) (defScope lCount) .none kV18 dc18 pm18 an18 cd18 ct18), sl18⟩)
    (c18 : PySem.W.codeIn K cd18 "_law_count" = true)
    (k18 : PySem.W.keepIn K (.ref f18) = true)
    (a19 : PySem.W.nsIn K mainGlobals "_law_built" = some (some (.ref f19)))
    (l19 : K.lookup f19 = some ⟨oc19, od19, .func (PySem.W.fnOf "_law_built" "_law_built" (defArgs lBuilt) (defBody lBuilt) (defScope lBuilt) .none kV19 dc19 pm19 an19 cd19 ct19), sl19⟩)
    (c19 : PySem.W.codeIn K cd19 "_law_built" = true)
    (k19 : PySem.W.keepIn K (.ref f19) = true)
    (a20 : PySem.W.nsIn K mainGlobals "_law_told" = some (some (.ref f20)))
    (l20 : K.lookup f20 = some ⟨oc20, od20, .func (PySem.W.fnOf "_law_told" "_law_told" (defArgs lTold) (defBody lTold) (defScope lTold) .none kV20 dc20 pm20 an20 cd20 ct20), sl20⟩)
    (c20 : PySem.W.codeIn K cd20 "_law_told" = true)
    (k20 : PySem.W.keepIn K (.ref f20) = true)
    (a21 : PySem.W.nsIn K mainGlobals "_law_transitive" = some (some (.ref f21)))
    (l21 : K.lookup f21 = some ⟨oc21, od21, .func (PySem.W.fnOf "_law_transitive" "_law_transitive" (defArgs lTrans) (defBody lTrans) (defScope lTrans) .none kV21 dc21 pm21 an21 cd21 ct21), sl21⟩)
    (c21 : PySem.W.codeIn K cd21 "_law_transitive" = true)
    (k21 : PySem.W.keepIn K (.ref f21) = true)
    (a22 : PySem.W.nsIn K mainGlobals "_law_one_of_four" = some (some (.ref f22)))
    (l22 : K.lookup f22 = some ⟨oc22, od22, .func (PySem.W.fnOf "_law_one_of_four" "_law_one_of_four" (defArgs lOne) (defBody lOne) (defScope lOne) .none kV22 dc22 pm22 an22 cd22 ct22), sl22⟩)
    (c22 : PySem.W.codeIn K cd22 "_law_one_of_four" = true)
    (k22 : PySem.W.keepIn K (.ref f22) = true)
    (a23 : PySem.W.nsIn K mainGlobals "_law_options" = some (some (.ref f23)))
    (l23 : K.lookup f23 = some ⟨oc23, od23, .func (PySem.W.fnOf "_law_options" "_law_options" (defArgs lOpts) (defBody lOpts) (defScope lOpts) .none kV23 dc23 pm23 an23 cd23 ct23), sl23⟩)
    (c23 : PySem.W.codeIn K cd23 "_law_options" = true)
    (k23 : PySem.W.keepIn K (.ref f23) = true)
    (a24 : PySem.W.nsIn K mainGlobals "law" = some (some (.ref f24)))
    (l24 : K.lookup f24 = some ⟨oc24, od24, .func (PySem.W.fnOf "law" "law" (defArgs lLaw) (defBody lLaw) (defScope lLaw) .none kV24 dc24 pm24 an24 cd24 ct24), sl24⟩)
    (c24 : PySem.W.codeIn K cd24 "law" = true)
    (k24 : PySem.W.keepIn K (.ref f24) = true)
    (p1 : PySem.W.findIn K (.ref CO) "yard" = some (some (.ref pp)))
    (p2 : PySem.W.specialIn K (.ref pp) "__get__" = some (some (.builtin "property.__get__")))
    (p3 : PySem.W.takesIn K (.ref pp) = some true)
    (p4 : PySem.W.recIn K pp "property" = some (.ref f25 :: rs))
    (l25 : K.lookup f25 = some ⟨oc25, od25, .func (PySem.W.fnOf "yard" "Order.yard" (defArgs oYard) (defBody oYard) (defScope oYard) .none kV25 dc25 pm25 an25 cd25 ct25), sl25⟩)
    (c25 : PySem.W.codeIn K cd25 "Order.yard" = true)
    (k25 : PySem.W.keepIn K (.ref f25) = true)
    (pgCY : PySem.W.plainGet K CY Str.empty = true)
    (hdCY : PySem.W.hasDictIn K CY = true)
    (poCY : PySem.W.plainOver K CY = true)
    (saCY : PySem.W.findIn K (.ref CY) "__setattr__" = some (some (.builtin "object.__setattr__")))
    (mkCY : PySem.W.makesIn K CY = true)
    (kcCY : PySem.W.keepIn K (.ref CY) = true)
    (pgCO : PySem.W.plainGet K CO Str.empty = true)
    (hdCO : PySem.W.hasDictIn K CO = true)
    (poCO : PySem.W.plainOver K CO = true)
    (saCO : PySem.W.findIn K (.ref CO) "__setattr__" = some (some (.builtin "object.__setattr__")))
    (mkCO : PySem.W.makesIn K CO = true)
    (kcCO : PySem.W.keepIn K (.ref CO) = true)
    (ny0 : PySem.W.findIn K (.ref CY) "_lefts" = some none)
    (ny1 : PySem.W.findIn K (.ref CY) "_rights" = some none)
    (ny2 : PySem.W.findIn K (.ref CY) "_heights" = some none)
    (ny3 : PySem.W.findIn K (.ref CY) "_numbers" = some none)
    (ny4 : PySem.W.findIn K (.ref CY) "_turned" = some none)
    (no0 : PySem.W.findIn K (.ref CO) "_yard" = some none)
    (no1 : PySem.W.findIn K (.ref CO) "_at_least" = some none)
    (no2 : PySem.W.findIn K (.ref CO) "_can_win" = some none)
    (z0 : PySem.W.nsIn K mainGlobals "len" = some none)
    (z1 : PySem.W.nsIn K mainGlobals "range" = some none)
    (z2 : PySem.W.nsIn K mainGlobals "int" = some none)
    (z3 : PySem.W.nsIn K mainGlobals "max" = some none)
    (z4 : PySem.W.nsIn K mainGlobals "set" = some none)
    (z5 : PySem.W.nsIn K mainGlobals "sorted" = some none)
    (z6 : PySem.W.nsIn K mainGlobals "tuple" = some none)
    (z7 : PySem.W.nsIn K mainGlobals "list" = some none)
    (z8 : PySem.W.nsIn K mainGlobals "isinstance" = some none)
    (z9 : PySem.W.nsIn K mainGlobals "bool" = some none)
    : ∃ fd : FuncData, (∀ (s : Shared) (v : Value), BindsTo s fd ⟨[v], []⟩ [("_law_script", v)]) ∧ ∀ base : Heap, K.In base → base.Ns mainGlobals mg → FnOk l.prog w K mg base CX0 197 fa fd ["_law_script"] (spLaw K) := by
  have e := hfa.symm.trans (PySem.W.mg_of X G a24)
  cases e
  have TY : TxY K mg CY := ⟨⟨pgCY, hdCY, poCY, saCY⟩, ny0, ny1, ny2, ny3, ny4, PySem.W.mg_of X G gCY⟩
  have TO : TxO K mg CO := ⟨⟨pgCO, hdCO, poCO, saCO⟩, no0, no1, no2, PySem.W.mg_of X G gCO⟩
  have TB : TxB mg := ⟨PySem.W.mg_none_of X G z0, PySem.W.mg_none_of X G z1, PySem.W.mg_none_of X G z2, PySem.W.mg_none_of X G z3, PySem.W.mg_none_of X G z4, PySem.W.mg_none_of X G z5, PySem.W.mg_none_of X G z6, PySem.W.mg_none_of X G z7, PySem.W.mg_none_of X G z8, PySem.W.mg_none_of X G z9⟩
  have F0 := fun_mk (st := yInit) l0 c0 k0
  have b0 := F0.binds (ps := ["self"]) fun _ _ _ _ _ _ us hl => match us, hl with | [_], _ => rfl
  have m0 : Meth K CY "__init__" f0 := ⟨a0, n0, k0⟩
  have F1 := fun_mk (st := yCheck) l1 c1 k1
  have b1 := F1.binds (ps := ["self", "game"]) fun _ _ _ _ _ _ us hl => match us, hl with | [_, _], _ => rfl
  have m1 : Meth K CY "_check" f1 := ⟨a1, n1, k1⟩
  have F2 := fun_mk (st := yLefts) l2 c2 k2
  have b2 := F2.binds (ps := ["self", "game"]) fun _ _ _ _ _ _ us hl => match us, hl with | [_, _], _ => rfl
  have m2 : Meth K CY "lefts" f2 := ⟨a2, n2, k2⟩
  have F3 := fun_mk (st := yRights) l3 c3 k3
  have b3 := F3.binds (ps := ["self", "game"]) fun _ _ _ _ _ _ us hl => match us, hl with | [_, _], _ => rfl
  have m3 : Meth K CY "rights" f3 := ⟨a3, n3, k3⟩
  have F4 := fun_mk (st := yHeight) l4 c4 k4
  have b4 := F4.binds (ps := ["self", "game"]) fun _ _ _ _ _ _ us hl => match us, hl with | [_, _], _ => rfl
  have m4 : Meth K CY "height" f4 := ⟨a4, n4, k4⟩
  have F5 := fun_mk (st := yGame) l5 c5 k5
  have b5 := F5.binds (ps := ["self", "lefts", "rights"]) fun _ _ _ _ _ _ us hl => match us, hl with | [_, _, _], _ => rfl
  have m5 : Meth K CY "game" f5 := ⟨a5, n5, k5⟩
  have F6 := fun_mk (st := yTurned) l6 c6 k6
  have b6 := F6.binds (ps := ["self", "game"]) fun _ _ _ _ _ _ us hl => match us, hl with | [_, _], _ => rfl
  have m6 : Meth K CY "turned" f6 := ⟨a6, n6, k6⟩
  have F7 := fun_mk (st := oInit) l7 c7 k7
  have b7 := F7.binds (ps := ["self", "yard"]) fun _ _ _ _ _ _ us hl => match us, hl with | [_, _], _ => rfl
  have m7 : Meth K CO "__init__" f7 := ⟨a7, n7, k7⟩
  have F8 := fun_mk (st := oAt) l8 c8 k8
  have b8 := F8.binds (ps := ["self", "one", "other"]) fun _ _ _ _ _ _ us hl => match us, hl with | [_, _, _], _ => rfl
  have m8 : Meth K CO "at_least" f8 := ⟨a8, n8, k8⟩
  have F9 := fun_mk (st := oAlike) l9 c9 k9
  have b9 := F9.binds (ps := ["self", "one", "other"]) fun _ _ _ _ _ _ us hl => match us, hl with | [_, _, _], _ => rfl
  have m9 : Meth K CO "alike" f9 := ⟨a9, n9, k9⟩
  have F10 := fun_mk (st := oLess) l10 c10 k10
  have b10 := F10.binds (ps := ["self", "one", "other"]) fun _ _ _ _ _ _ us hl => match us, hl with | [_, _, _], _ => rfl
  have m10 : Meth K CO "less" f10 := ⟨a10, n10, k10⟩
  have F11 := fun_mk (st := oApart) l11 c11 k11
  have b11 := F11.binds (ps := ["self", "one", "other"]) fun _ _ _ _ _ _ us hl => match us, hl with | [_, _, _], _ => rfl
  have m11 : Meth K CO "apart" f11 := ⟨a11, n11, k11⟩
  have F12 := fun_mk (st := oReck) l12 c12 k12
  have b12 := F12.binds (ps := ["self", "one", "other"]) fun _ _ _ _ _ _ us hl => match us, hl with | [_, _, _], _ => rfl
  have m12 : Meth K CO "_reckon" f12 := ⟨a12, n12, k12⟩
  have F13 := fun_mk (st := lCell) l13 c13 k13
  have b13 := F13.binds (ps := ["_law_script", "_law_k"]) fun _ _ _ _ _ _ us hl => match us, hl with | [_, _], _ => rfl
  have m13 := PySem.W.mg_of X G a13
  have F14 := fun_mk (st := lDigits) l14 c14 k14
  have b14 := F14.binds (ps := ["_law_cell_here", "_law_count_here"]) fun _ _ _ _ _ _ us hl => match us, hl with | [_, _], _ => rfl
  have m14 := PySem.W.mg_of X G a14
  have F15 := fun_mk (st := lPut) l15 c15 k15
  have b15 := F15.binds (ps := ["_law_model", "_law_heights", "_law_lefts", "_law_rights"]) fun _ _ _ _ _ _ us hl => match us, hl with | [_, _, _, _], _ => rfl
  have m15 := PySem.W.mg_of X G a15
  have F16 := fun_mk (st := lDrawn) l16 c16 k16
  have b16 := F16.binds (ps := ["_law_model", "_law_heights", "_law_digits_here", "_law_most"]) fun _ _ _ _ _ _ us hl => match us, hl with | [_, _, _, _], _ => rfl
  have m16 := PySem.W.mg_of X G a16
  have F17 := fun_mk (st := lFamily) l17 c17 k17
  have b17 := F17.binds (ps := ["_law_script", "_law_first", "_law_count_here", "_law_most"]) fun _ _ _ _ _ _ us hl => match us, hl with | [_, _, _, _], _ => rfl
  have m17 := PySem.W.mg_of X G a17
  have F18 := fun_mk (st := lCount) l18 c18 k18
  have b18 := F18.binds (ps := ["_law_cell_here"]) fun _ _ _ _ _ _ us hl => match us, hl with | [_], _ => rfl
  have m18 := PySem.W.mg_of X G a18
  have F19 := fun_mk (st := lBuilt) l19 c19 k19
  have b19 := F19.binds (ps := ["_law_yard", "_law_model"]) fun _ _ _ _ _ _ us hl => match us, hl with | [_, _], _ => rfl
  have m19 := PySem.W.mg_of X G a19
  have F20 := fun_mk (st := lTold) l20 c20 k20
  have b20 := F20.binds (ps := ["_law_order", "_law_numbers"]) fun _ _ _ _ _ _ us hl => match us, hl with | [_, _], _ => rfl
  have m20 := PySem.W.mg_of X G a20
  have F21 := fun_mk (st := lTrans) l21 c21 k21
  have b21 := F21.binds (ps := ["_law_rows"]) fun _ _ _ _ _ _ us hl => match us, hl with | [_], _ => rfl
  have m21 := PySem.W.mg_of X G a21
  have F22 := fun_mk (st := lOne) l22 c22 k22
  have b22 := F22.binds (ps := ["_law_order", "_law_one", "_law_other"]) fun _ _ _ _ _ _ us hl => match us, hl with | [_, _, _], _ => rfl
  have m22 := PySem.W.mg_of X G a22
  have F23 := fun_mk (st := lOpts) l23 c23 k23
  have b23 := F23.binds (ps := ["_law_model", "_law_rows"]) fun _ _ _ _ _ _ us hl => match us, hl with | [_, _], _ => rfl
  have m23 := PySem.W.mg_of X G a23
  have F24 := fun_mk (st := lLaw) l24 c24 k24
  have b24 := F24.binds (ps := ["_law_script"]) fun _ _ _ _ _ _ us hl => match us, hl with | [_], _ => rfl
  have m24 := PySem.W.mg_of X G a24
  have F25 := fun_mk (st := oYard) l25 c25 k25
  have b25 := F25.binds (ps := ["self"]) fun _ _ _ _ _ _ us hl => match us, hl with | [_], _ => rfl
  have PP : PropOf K CO "yard" pp f25 := ⟨p1, p2, p3, rs, p4⟩
  refine ⟨PySem.W.fnOf "law" "law" (defArgs lLaw) (defBody lLaw) (defScope lLaw) .none kV24 dc24 pm24 an24 cd24 ct24, fun s v => .of_eq rfl, fun base _ _ => ?_⟩
  have GP : FnOk l.prog w K mg base CX0 1 f25 _ ["self"] (getSp CO "_yard") := fn_getter (k := 0) l25 c25 scProp rfl rfl TO.cl TO.n1
  have GC : FnOk l.prog w K mg base CX0 1 f1 _ ["self", "game"] (spCheck l.prog w CY) := ok_check F1 TY TB
  have GL : FnOk l.prog w K mg base CX0 2 f2 _ ["self", "game"] (spList l.prog w CY lo) := ok_lefts F2 TY TB GC b1 m1
  have GR : FnOk l.prog w K mg base CX0 2 f3 _ ["self", "game"] (spList l.prog w CY ro) := ok_rights F3 TY TB GC b1 m1
  have GH : FnOk l.prog w K mg base CX0 2 f4 _ ["self", "game"] (spHeight l.prog w CY) := ok_height F4 TY GC b1 m1
  have GG : FnOk l.prog w K mg base CX0 2 f5 _ ["self", "lefts", "rights"] (spGame l.prog w CY) := ok_game F5 TY TB GC b1 m1
  have GT : FnOk l.prog w K mg base CX0 27 f6 _ ["self", "game"] (spTurned l.prog w CY 24) := ok_turned F6 TY b6 m6 GC b1 m1 GG b5 m5 24
  have hP : HasP l.prog w K mg base CO "yard" 1 (getSp CO "_yard") := ⟨_, _, _, PP, GP, b25⟩
  have GA : FnOk l.prog w K mg base CX0 194 f8 _ ["self", "one", "other"] (spAt l.prog w CY CO 96) := ok_at F8 F12 TY TO hP ⟨_, _, GL, b2, m2⟩ ⟨_, _, GR, b3, m3⟩ ⟨_, _, GH, b4, m4⟩ b8 m8 b12 m12 96
  have G1 : FnOk l.prog w K mg base CX0 195 f9 _ ["self", "one", "other"] (spCmp l.prog w CY CO 96 fun x z => x && z) := ok_alike F9 TO GA b8 m8
  have G2 : FnOk l.prog w K mg base CX0 195 f10 _ ["self", "one", "other"] (spCmp l.prog w CY CO 96 fun x z => z && !x) := ok_less F10 TO GA b8 m8
  have G3 : FnOk l.prog w K mg base CX0 195 f11 _ ["self", "one", "other"] (spCmp l.prog w CY CO 96 fun x z => !x && !z) := ok_apart F11 TO GA b8 m8
  have Q1 : FnOk l.prog w K mg base CX0 1 f13 _ ["_law_script", "_law_k"] (spCell K) := ok_cell F13 TB
  have Q2 : FnOk l.prog w K mg base CX0 1 f14 _ ["_law_cell_here", "_law_count_here"] (spDigits) := ok_digits F14 TB
  have Q3 : FnOk l.prog w K mg base CX0 1 f15 _ ["_law_model", "_law_heights", "_law_lefts", "_law_rights"] (spPut) := ok_put F15 TB
  have Q4 : FnOk l.prog w K mg base CX0 1 f16 _ ["_law_model", "_law_heights", "_law_digits_here", "_law_most"] (spDrawn) := ok_drawn F16 TB
  have Q5 : FnOk l.prog w K mg base CX0 2 f17 _ ["_law_script", "_law_first", "_law_count_here", "_law_most"] (spFamily K) := ok_family F17 TB ⟨_, _, Q1, b13, m13, k13⟩ ⟨_, _, Q2, b14, m14, k14⟩ ⟨_, _, Q4, b16, m16, k16⟩ ⟨_, _, Q3, b15, m15, k15⟩
  have Q6 : FnOk l.prog w K mg base CX0 1 f18 _ ["_law_cell_here"] (spCount) := ok_count F18 TB
  have Q7 : FnOk l.prog w K mg base CX0 3 f19 _ ["_law_yard", "_law_model"] (spBuilt l.prog w CY) := ok_built F19 TY TB ⟨_, _, GG, b5, m5⟩
  have Q8 : FnOk l.prog w K mg base CX0 195 f20 _ ["_law_order", "_law_numbers"] (spTold l.prog w CY CO 96) := ok_told F20 TO TB ⟨_, _, GA, b8, m8⟩
  have Q9 : FnOk l.prog w K mg base CX0 1 f21 _ ["_law_rows"] (spTrans) := ok_trans F21 TB
  have Q10 : FnOk l.prog w K mg base CX0 1 f23 _ ["_law_model", "_law_rows"] (spOpts) := ok_opts F23 TB
  have Q11 : FnOk l.prog w K mg base CX0 196 f22 _ ["_law_order", "_law_one", "_law_other"] (spOne l.prog w CY CO 96) := ok_one F22 TO TB ⟨_, _, G1, b9, m9⟩ ⟨_, _, G3, b11, m11⟩ ⟨_, _, G2, b10, m10⟩
  exact ok_law F24 TY TO TB ⟨mkCY, a0, n0, kcCY⟩ (ok_yinit F0 TY) b0 ⟨mkCO, a7, n7, kcCO⟩ (ok_oinit F7 TO) b7 ⟨_, _, GT, b6, m6⟩
    ⟨_, _, Q1, b13, m13, k13⟩ ⟨_, _, Q6, b18, m18, k18⟩ ⟨_, _, Q5, b17, m17, k17⟩ ⟨_, _, Q7, b19, m19, k19⟩ ⟨_, _, Q8, b20, m20, k20⟩ ⟨_, _, Q9, b21, m21, k21⟩ ⟨_, _, Q10, b23, m23, k23⟩ ⟨_, _, Q11, b22, m22, k22⟩
theorem walk {l : PySem.W.OpenLaw} {q : Program} {loose : List Str} {XP : (Str → Option Value) → Heap → Prop} {YP : World → Heap → Prop} {d : DefRec} {K : Params → PySem.W.Frag} (hn : l.most = some 63) (hdf : d.params.defaults = [])
    (hY : ∀ (w : World) (h : Heap), YP w h → (K w.params).In h)
    (F : ∀ (w : World) (mg : Str → Option Value) (fa : Addr) (h : Heap), (K w.params).In h → h.Ns mainGlobals mg → mg d.name = some (.ref fa) →
      ∃ fd : FuncData, (∀ (s : Shared) (u : Value), BindsTo s fd ⟨[u], []⟩ [("_law_script", u)]) ∧ ∀ base : Heap, (K w.params).In base → base.Ns mainGlobals mg → FnOk l.prog w (K w.params) mg base CX0 197 fa fd ["_law_script"] (spLaw (K w.params))) :
    PySem.W.WalkO q loose XP YP l.row.toRowW d [] (fun f vs => PySem.call f vs) :=
  L2.walk_of (n := 63) (k := 197) (x := "_law_script") (CX := fun _ => CX0) (sp := fun w => spLaw (K w.params)) hn (by decide) hdf ⟨rfl, by decide, by decide⟩ hY F (fun _ _ a ns _ _ hS => ⟨a, ns, rfl, hS, fun _ => rfl⟩) fun _ _ _ _ _ z => z
end K18
open PySem PySem.W PyProof.Rows
set_option maxRecDepth 100000 in
set_option maxHeartbeats 0 in
theorem PySem.Challenge.cw_sumsplay_k18_whole_partial_order_holds : PySem.Challenge.rw_sumsplay_k18_whole_partial_order.Holds := by
  w_on; o_law; k_head; (case hw => w_witness2)
  k_fill
  refine K18.walk (l := PySem.Challenge.rw_sumsplay_k18_whole_partial_order) rfl rfl (fun w h Y => PySem.W.kIn_of Y) ?F
  case F =>
    intro w mg fa h KX G hmg
    refine' K18.all_mk KX G hmg ?gCY ?gCO ?a0 ?n0 ?l0 ?c0 ?k0 ?a1 ?n1 ?l1 ?c1 ?k1 ?a2 ?n2 ?l2 ?c2 ?k2 ?a3 ?n3 ?l3 ?c3 ?k3 ?a4 ?n4 ?l4 ?c4 ?k4 ?a5 ?n5 ?l5 ?c5 ?k5 ?a6 ?n6 ?l6 ?c6 ?k6 ?a7 ?n7 ?l7 ?c7 ?k7 ?a8 ?n8 ?l8 ?c8 ?k8 ?a9 ?n9 ?l9 ?c9 ?k9 ?a10 ?n10 ?l10 ?c10 ?k10 ?a11 ?n11 ?l11 ?c11 ?k11 ?a12 ?n12 ?l12 ?c12 ?k12 ?a13 ?l13 ?c13 ?k13 ?a14 ?l14 ?c14 ?k14 ?a15 ?l15 ?c15 ?k15 ?a16 ?l16 ?c16 ?k16 ?a17 ?l17 ?c17 ?k17 ?a18 ?l18 ?c18 ?k18 ?a19 ?l19 ?c19 ?k19 ?a20 ?l20 ?c20 ?k20 ?a21 ?l21 ?c21 ?k21 ?a22 ?l22 ?c22 ?k22 ?a23 ?l23 ?c23 ?k23 ?a24 ?l24 ?c24 ?k24 ?p1 ?p2 ?p3 ?p4 ?l25 ?c25 ?k25 ?pgCY ?hdCY ?poCY ?saCY ?mkCY ?kcCY ?pgCO ?hdCO ?poCO ?saCO ?mkCO ?kcCO ?ny0 ?ny1 ?ny2 ?ny3 ?ny4 ?no0 ?no1 ?no2 ?z0 ?z1 ?z2 ?z3 ?z4 ?z5 ?z6 ?z7 ?z8 ?z9
    (case gCY => k_is)
    (case gCO => k_is)
    (case a0 => k_is)
    (case n0 => k_is)
    (case l0 => k_is)
    (case c0 => k_is)
    (case k0 => k_is)
    (case a1 => k_is)
    (case n1 => k_is)
    (case l1 => k_is)
    (case c1 => k_is)
    (case k1 => k_is)
    (case a2 => k_is)
    (case n2 => k_is)
    (case l2 => k_is)
    (case c2 => k_is)
    (case k2 => k_is)
    (case a3 => k_is)
    (case n3 => k_is)
    (case l3 => k_is)
    (case c3 => k_is)
    (case k3 => k_is)
    (case a4 => k_is)
    (case n4 => k_is)
    (case l4 => k_is)
    (case c4 => k_is)
    (case k4 => k_is)
    (case a5 => k_is)
    (case n5 => k_is)
    (case l5 => k_is)
    (case c5 => k_is)
    (case k5 => k_is)
    (case a6 => k_is)
    (case n6 => k_is)
    (case l6 => k_is)
    (case c6 => k_is)
    (case k6 => k_is)
    (case a7 => k_is)
    (case n7 => k_is)
    (case l7 => k_is)
    (case c7 => k_is)
    (case k7 => k_is)
    (case a8 => k_is)
    (case n8 => k_is)
    (case l8 => k_is)
    (case c8 => k_is)
    (case k8 => k_is)
    (case a9 => k_is)
    (case n9 => k_is)
    (case l9 => k_is)
    (case c9 => k_is)
    (case k9 => k_is)
    (case a10 => k_is)
    (case n10 => k_is)
    (case l10 => k_is)
    (case c10 => k_is)
    (case k10 => k_is)
    (case a11 => k_is)
    (case n11 => k_is)
    (case l11 => k_is)
    (case c11 => k_is)
    (case k11 => k_is)
    (case a12 => k_is)
    (case n12 => k_is)
    (case l12 => k_is)
    (case c12 => k_is)
    (case k12 => k_is)
    (case a13 => k_is)
    (case l13 => k_is)
    (case c13 => k_is)
    (case k13 => k_is)
    (case a14 => k_is)
    (case l14 => k_is)
    (case c14 => k_is)
    (case k14 => k_is)
    (case a15 => k_is)
    (case l15 => k_is)
    (case c15 => k_is)
    (case k15 => k_is)
    (case a16 => k_is)
    (case l16 => k_is)
    (case c16 => k_is)
    (case k16 => k_is)
    (case a17 => k_is)
    (case l17 => k_is)
    (case c17 => k_is)
    (case k17 => k_is)
    (case a18 => k_is)
    (case l18 => k_is)
    (case c18 => k_is)
    (case k18 => k_is)
    (case a19 => k_is)
    (case l19 => k_is)
    (case c19 => k_is)
    (case k19 => k_is)
    (case a20 => k_is)
    (case l20 => k_is)
    (case c20 => k_is)
    (case k20 => k_is)
    (case a21 => k_is)
    (case l21 => k_is)
    (case c21 => k_is)
    (case k21 => k_is)
    (case a22 => k_is)
    (case l22 => k_is)
    (case c22 => k_is)
    (case k22 => k_is)
    (case a23 => k_is)
    (case l23 => k_is)
    (case c23 => k_is)
    (case k23 => k_is)
    (case a24 => k_is)
    (case l24 => k_is)
    (case c24 => k_is)
    (case k24 => k_is)
    (case p1 => k_is)
    (case p2 => k_is)
    (case p3 => k_is)
    (case p4 => k_is)
    (case l25 => k_is)
    (case c25 => k_is)
    (case k25 => k_is)
    (case pgCY => k_is)
    (case hdCY => k_is)
    (case poCY => k_is)
    (case saCY => k_is)
    (case mkCY => k_is)
    (case kcCY => k_is)
    (case pgCO => k_is)
    (case hdCO => k_is)
    (case poCO => k_is)
    (case saCO => k_is)
    (case mkCO => k_is)
    (case kcCO => k_is)
    (case ny0 => k_is)
    (case ny1 => k_is)
    (case ny2 => k_is)
    (case ny3 => k_is)
    (case ny4 => k_is)
    (case no0 => k_is)
    (case no1 => k_is)
    (case no2 => k_is)
    (case z0 => k_is)
    (case z1 => k_is)
    (case z2 => k_is)
    (case z3 => k_is)
    (case z4 => k_is)
    (case z5 => k_is)
    (case z6 => k_is)
    (case z7 => k_is)
    (case z8 => k_is)
    (case z9 => k_is)
#print axioms PySem.Challenge.cw_sumsplay_k18_whole_partial_order_holds
