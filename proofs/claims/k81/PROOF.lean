import PyProof.Rows.All
import Wide.All
import OpenK.AllK
import Wide.FinOn
import HandS.ForMost
import HandS.IsInst
import HandS.More
import HandS.Style
import HandS.TupAny
import HandS.Conv
import HandS.RaiseMore
import HandS.Walk
import HandS.SortInts
import HandS.Small
import HandS.Wide
import HandS.EndBits
import HandS.Zip
import KE.DatumOrd
import KE.GoesEnum
import KE.GoesMore
import PyProof.Draws
import PyProof.DictMoreH
import HandS.Evl
import PySem.Challenge.RW_walkclubs_k81_whole_least_papers_by_all
set_option maxHeartbeats 1000000
set_option linter.all false
/-! Plain mathematics of walks, pictures and what is hung on them. -/
namespace Wc

/-! ### lists -/
theorem nodup_sub_len : ∀ {l l2 : List Nat}, l.Nodup → (∀ x ∈ l, x ∈ l2) → l.length ≤ l2.length
  | [], _, _, _ => Nat.zero_le _
  | a :: r, l2, h, hs => by
    obtain ⟨h1, h2⟩ := List.nodup_cons.mp h
    have ha : a ∈ l2 := hs a List.mem_cons_self
    have hr : ∀ x ∈ r, x ∈ l2.erase a := fun x hx => by
      have hne : x ≠ a := fun e => h1 (e ▸ hx)
      exact (List.mem_erase_of_ne hne).mpr (hs x (List.mem_cons_of_mem _ hx))
    have ih := nodup_sub_len h2 hr
    rw [List.length_erase_of_mem ha] at ih
    have := List.length_pos_of_mem ha
    rw [List.length_cons]
    omega
theorem nodup_lt_len {l : List Nat} {m : Nat} (h : l.Nodup) (hs : ∀ x ∈ l, x < m) : l.length ≤ m := by
  have := nodup_sub_len (l2 := List.range m) h fun x hx => List.mem_range.mpr (hs x hx)
  rwa [List.length_range] at this
theorem full_mem {l : List Nat} {m : Nat} (h : l.Nodup) (hs : ∀ x ∈ l, x < m) (hl : l.length = m) {y : Nat} (hy : y < m) : y ∈ l := by
  by_cases hm : y ∈ l
  · exact hm
  · have h2 := nodup_sub_len (l := y :: l) (l2 := List.range m) (List.nodup_cons.mpr ⟨hm, h⟩) fun x hx => by
      rcases List.mem_cons.mp hx with e | e
      · exact List.mem_range.mpr (e ▸ hy)
      · exact List.mem_range.mpr (hs x e)
    rw [List.length_cons, List.length_range] at h2
    omega

/-! ### walks -/
def stepOk (L : Nat) (s : Int) : Prop := 1 ≤ s.natAbs ∧ s.natAbs ≤ L
theorem stepOk.neg {L : Nat} {s : Int} (h : stepOk L s) : stepOk L (-s) := by
  unfold stepOk at *
  rw [Int.natAbs_neg]
  exact h
theorem stepOk.up {L : Nat} {s : Int} (h : stepOk L s) : stepOk (L + 1) s := ⟨h.1, Nat.le_succ_of_le h.2⟩
def stPush (acc : List Int) (s : Int) : List Int := if acc.getLast? = some (-s) then acc.dropLast else acc ++ [s]
def straight (w : List Int) : List Int := w.foldl stPush []
def back (w : List Int) : List Int := w.reverse.map (fun s => -s)
theorem back_back (w : List Int) : back (back w) = w := by
  unfold back
  rw [← List.map_reverse, List.reverse_reverse, List.map_map]
  have : ((fun s : Int => -s) ∘ fun s => -s) = id := by
    funext s
    show - -s = s
    omega
  rw [this, List.map_id]
/-- no step beside its opposite one -/
def IsSt : List Int → Prop
  | [] => True
  | [_] => True
  | a :: b :: r => b ≠ -a ∧ IsSt (b :: r)
theorem isSt_dropLast : ∀ {w : List Int}, IsSt w → IsSt w.dropLast
  | [], _ => trivial
  | [_], _ => trivial
  | [_, _], _ => trivial
  | a :: b :: c :: r, h => by
    have ih := isSt_dropLast (w := b :: c :: r) h.2
    show IsSt (a :: b :: (c :: r).dropLast)
    exact ⟨h.1, ih⟩
theorem isSt_snoc : ∀ {w : List Int} {s : Int}, IsSt w → (w.getLast? ≠ some (-s)) → IsSt (w ++ [s])
  | [], _, _, _ => trivial
  | [a], s, _, h => by
    refine ⟨fun e => h ?_, trivial⟩
    show some a = some (-s)
    rw [e, Int.neg_neg]
  | a :: b :: r, s, h, hl => by
    refine ⟨h.1, isSt_snoc (w := b :: r) h.2 ?_⟩
    rw [List.getLast?_cons_cons] at hl
    exact hl
theorem isSt_push {acc : List Int} {s : Int} (h : IsSt acc) : IsSt (stPush acc s) := by
  unfold stPush
  split
  · exact isSt_dropLast h
  · rename_i hn
    exact isSt_snoc h hn
theorem isSt_straight (w : List Int) : IsSt (straight w) := by
  unfold straight
  have : ∀ (w acc : List Int), IsSt acc → IsSt (w.foldl stPush acc) := by
    intro w
    induction w with
    | nil => intro acc h; exact h
    | cons s r ih => intro acc h; exact ih _ (isSt_push h)
  exact this w [] trivial
theorem mem_push {acc : List Int} {s x : Int} (h : x ∈ stPush acc s) : x ∈ acc ∨ x = s := by
  unfold stPush at h
  split at h
  · exact .inl (List.dropLast_subset _ h)
  · rcases List.mem_append.mp h with h | h
    · exact .inl h
    · exact .inr (List.mem_singleton.mp h)
theorem mem_straight {w : List Int} {x : Int} (h : x ∈ straight w) : x ∈ w := by
  have : ∀ (w acc : List Int), x ∈ w.foldl stPush acc → x ∈ acc ∨ x ∈ w := by
    intro w
    induction w with
    | nil => intro acc h; exact .inl h
    | cons s r ih =>
      intro acc h
      rcases ih _ h with h | h
      · rcases mem_push h with h | h
        · exact .inl h
        · exact .inr (h ▸ List.mem_cons_self)
      · exact .inr (List.mem_cons_of_mem _ h)
  rcases this w [] h with h | h
  · cases h
  · exact h
theorem length_push (acc : List Int) (s : Int) : (stPush acc s).length ≤ acc.length + 1 := by
  unfold stPush
  split
  · rw [List.length_dropLast]; omega
  · rw [List.length_append, List.length_singleton]; exact Nat.le_refl _
theorem length_straight (w : List Int) : (straight w).length ≤ w.length := by
  have : ∀ (w acc : List Int), (w.foldl stPush acc).length ≤ acc.length + w.length := by
    intro w
    induction w with
    | nil => intro acc; exact Nat.le_refl _
    | cons s r ih =>
      intro acc
      have h1 := ih (stPush acc s)
      have h2 := length_push acc s
      rw [List.foldl_cons, List.length_cons]
      omega
  have := this w []
  rw [List.length_nil, Nat.zero_add] at this
  exact this

/-! ### pictures -/
structure Pic where
  n : Nat
  go : Nat → Int → Option Nat
structure Pic.Ok (P : Pic) (L : Nat) : Prop where
  pos : 0 < P.n
  ok : ∀ r s g, P.go r s = some g → r < P.n ∧ g < P.n ∧ stepOk L s ∧ P.go g (-s) = some r
theorem Pic.Ok.up {P : Pic} {L : Nat} (h : P.Ok L) : P.Ok (L + 1) :=
  ⟨h.pos, fun r s g e => let ⟨a, b, c, d⟩ := h.ok r s g e; ⟨a, b, c.up, d⟩⟩
def led (P : Pic) (r : Nat) (w : List Int) : Option Nat := w.foldl (fun o s => o.bind fun r => P.go r s) (some r)
theorem led_nil (P : Pic) (r : Nat) : led P r [] = some r := rfl
theorem led_none (P : Pic) : ∀ w : List Int, w.foldl (fun o s => o.bind fun r => P.go r s) none = none
  | [] => rfl
  | _ :: r => led_none P r
theorem led_cons (P : Pic) (r : Nat) (s : Int) (w : List Int) : led P r (s :: w) = (P.go r s).bind fun g => led P g w := by
  unfold led
  rw [List.foldl_cons]
  show List.foldl _ (P.go r s) w = _
  cases P.go r s with
  | none => exact led_none P w
  | some g => rfl
theorem led_snoc (P : Pic) (r : Nat) (w : List Int) (s : Int) : led P r (w ++ [s]) = (led P r w).bind fun g => P.go g s := by
  unfold led
  rw [List.foldl_append]
  rfl
theorem led_lt {P : Pic} {L : Nat} (h : P.Ok L) : ∀ {w : List Int} {r e : Nat}, r < P.n → led P r w = some e → e < P.n
  | [], r, e, hr, he => by cases he; exact hr
  | s :: w, r, e, hr, he => by
    rw [led_cons] at he
    cases hg : P.go r s with
    | none => rw [hg] at he; cases he
    | some g =>
      rw [hg] at he
      exact led_lt h (h.ok r s g hg).2.1 he

/-- a room more, behind a step that led nowhere -/
def Pic.add (P : Pic) (r : Nat) (s : Int) : Pic := ⟨P.n + 1, fun r' s' => if r' = r ∧ s' = s then some P.n else if r' = P.n then (if s' = -s then some r else none) else P.go r' s'⟩
/-- a picture grown by trees -/
structure Grown (P P' : Pic) : Prop where
  le : P.n ≤ P'.n
  mono : ∀ r s g, P.go r s = some g → P'.go r s = some g
  old : ∀ (w : List Int) (q e : Nat), IsSt w → q < P.n → e < P.n → led P' q w = some e → led P q w = some e
theorem Grown.refl (P : Pic) : Grown P P := ⟨Nat.le_refl _, fun _ _ _ h => h, fun _ _ _ _ _ _ h => h⟩
theorem Grown.trans {P Q R : Pic} (a : Grown P Q) (b : Grown Q R) : Grown P R :=
  ⟨Nat.le_trans a.le b.le, fun r s g h => b.mono r s g (a.mono r s g h), fun w q e hw hq he h => a.old w q e hw hq he (b.old w q e hw (Nat.lt_of_lt_of_le hq a.le) (Nat.lt_of_lt_of_le he a.le) h)⟩
theorem Grown.led {P Q : Pic} (a : Grown P Q) : ∀ {w : List Int} {r e : Nat}, Wc.led P r w = some e → Wc.led Q r w = some e
  | [], r, e, h => h
  | s :: w, r, e, h => by
    rw [led_cons] at h ⊢
    cases hg : P.go r s with
    | none => rw [hg] at h; cases h
    | some g =>
      rw [hg] at h
      rw [a.mono r s g hg]
      exact Grown.led a h
section
variable {P : Pic} {L : Nat} {r : Nat} {s : Int}
theorem add_new (hr : r < P.n) (s : Int) : (P.add r s).go r s = some P.n := by
  show (if r = r ∧ s = s then _ else _) = _
  rw [if_pos ⟨rfl, rfl⟩]
theorem add_back (hr : r < P.n) (s t : Int) : (P.add r s).go P.n t = if t = -s then some r else none := by
  show (if P.n = r ∧ t = s then _ else _) = _
  rw [if_neg (fun h => Nat.ne_of_gt hr h.1), if_pos rfl]
theorem add_old {r' : Nat} {s' : Int} (h1 : ¬ (r' = r ∧ s' = s)) (h2 : r' ≠ P.n) : (P.add r s).go r' s' = P.go r' s' := by
  show (if r' = r ∧ s' = s then _ else _) = _
  rw [if_neg h1, if_neg h2]
theorem step_ne {L : Nat} {s : Int} (h : stepOk L s) : -s ≠ s := by
  unfold stepOk at h
  omega
theorem add_ok (h : P.Ok L) (hr : r < P.n) (hs : stepOk L s) (hn : P.go r s = none) : (P.add r s).Ok L := by
  refine ⟨Nat.succ_pos _, fun r' s' g e => ?_⟩
  by_cases c1 : r' = r ∧ s' = s
  · obtain ⟨rfl, rfl⟩ := c1
    rw [add_new hr] at e
    cases e
    refine ⟨Nat.lt_succ_of_lt hr, Nat.lt_succ_self _, hs, ?_⟩
    rw [add_back hr, if_pos rfl]
  · by_cases c2 : r' = P.n
    · subst c2
      rw [add_back hr] at e
      split at e
      · rename_i e2
        cases e
        refine ⟨Nat.lt_succ_self _, Nat.lt_succ_of_lt hr, by rw [e2]; exact hs.neg, ?_⟩
        rw [e2, Int.neg_neg]
        exact add_new hr s
      · cases e
    · rw [add_old c1 c2] at e
      obtain ⟨a, b, c, d⟩ := h.ok r' s' g e
      refine ⟨Nat.lt_succ_of_lt a, Nat.lt_succ_of_lt b, c, ?_⟩
      rw [add_old ?_ (Nat.ne_of_lt b)]
      · exact d
      · rintro ⟨e1, e2⟩
        subst e1
        rw [e2, hn] at d
        cases d
theorem add_grown (h : P.Ok L) (hr : r < P.n) (hs : stepOk L s) (hn : P.go r s = none) : Grown P (P.add r s) := by
  refine ⟨Nat.le_succ _, fun r' s' g e => ?_, ?_⟩
  · rw [add_old ?_ (Nat.ne_of_lt (h.ok r' s' g e).1)]
    · exact e
    · rintro ⟨rfl, rfl⟩
      rw [hn] at e
      cases e
  · intro w
    induction w with
    | nil => intro q e _ _ _ he; exact he
    | cons t w ih =>
      intro q e hw hq he hl
      rw [led_cons] at hl ⊢
      by_cases c1 : q = r ∧ t = s
      · obtain ⟨rfl, rfl⟩ := c1
        rw [add_new hr] at hl
        -- in the new room
        cases w with
        | nil =>
          have : P.n = e := Option.some.inj hl
          omega
        | cons u w =>
          have hu : u ≠ -t := hw.1
          have hl : led (P.add q t) P.n (u :: w) = some e := hl
          rw [led_cons, add_back hr, if_neg hu] at hl
          cases hl
      · rw [add_old c1 (Nat.ne_of_lt hq)] at hl
        cases hg : P.go q t with
        | none => rw [hg] at hl; cases hl
        | some g =>
          rw [hg] at hl
          refine ih g e ?_ (h.ok q t g hg).2.1 he hl
          cases w with
          | nil => trivial
          | cons u w => exact hw.2
end

/-! ### hanging walks -/
def hStep (x : Pic × Nat) (s : Int) : Pic × Nat := match x.1.go x.2 s with
  | some g => (x.1, g)
  | none => (x.1.add x.2 s, x.1.n)
def hWalk (P : Pic) (w : List Int) : Pic × Nat := w.foldl hStep (P, 0)
def hNext (x : Pic × List Nat) (w : List Int) : Pic × List Nat := ((hWalk x.1 (straight w)).1, x.2 ++ [(hWalk x.1 (straight w)).2])
def hung (P : Pic) (ws : List (List Int)) : Pic × List Nat := ws.foldl hNext (P, [])
/-- what holds of a picture with a room where one stands, grown from P -/
structure HOk (L : Nat) (P : Pic) (x : Pic × Nat) : Prop where
  ok : x.1.Ok L
  here : x.2 < x.1.n
  gr : Grown P x.1
theorem hStep_ok {L : Nat} {P : Pic} {x : Pic × Nat} {s : Int} (h : HOk L P x) (hs : stepOk L s) :
    HOk L P (hStep x s) ∧ (hStep x s).1.go x.2 s = some (hStep x s).2 ∧ (hStep x s).1.n ≤ x.1.n + 1 ∧ Grown x.1 (hStep x s).1 := by
  unfold hStep
  cases hg : x.1.go x.2 s with
  | some g => exact ⟨⟨h.ok, (h.ok.ok _ _ _ hg).2.1, h.gr⟩, hg, Nat.le_succ _, Grown.refl _⟩
  | none =>
    have ag := add_grown h.ok h.here hs hg
    exact ⟨⟨add_ok h.ok h.here hs hg, Nat.lt_succ_self _, h.gr.trans ag⟩, add_new h.here s, Nat.le_refl _, ag⟩
theorem hWalk_gen {L : Nat} {P : Pic} : ∀ (w : List Int) (x : Pic × Nat), HOk L P x → (∀ s ∈ w, stepOk L s) →
    HOk L P (w.foldl hStep x) ∧ led (w.foldl hStep x).1 x.2 w = some (w.foldl hStep x).2 ∧ (w.foldl hStep x).1.n ≤ x.1.n + w.length ∧ Grown x.1 (w.foldl hStep x).1
  | [], x, h, _ => ⟨h, rfl, Nat.le_refl _, Grown.refl _⟩
  | s :: w, x, h, hs => by
    obtain ⟨h1, h2, h3, h4⟩ := hStep_ok h (hs s List.mem_cons_self)
    obtain ⟨i1, i2, i3, i4⟩ := hWalk_gen w (hStep x s) h1 fun t ht => hs t (List.mem_cons_of_mem _ ht)
    rw [List.foldl_cons]
    refine ⟨i1, ?_, ?_, h4.trans i4⟩
    · rw [led_cons, i4.mono _ _ _ h2]
      exact i2
    · rw [List.length_cons]; omega
theorem hWalk_ok {L : Nat} {P : Pic} (h : P.Ok L) {w : List Int} (hs : ∀ s ∈ w, stepOk L s) :
    HOk L P (hWalk P w) ∧ led (hWalk P w).1 0 w = some (hWalk P w).2 ∧ (hWalk P w).1.n ≤ P.n + w.length :=
  let ⟨a, b, c, _⟩ := hWalk_gen w (P, 0) ⟨h, h.pos, Grown.refl _⟩ hs
  ⟨a, b, c⟩
/-- the steps of all the straight walks -/
def total : List (List Int) → Nat
  | [] => 0
  | w :: r => (straight w).length + total r
/-- what holds of hung -/
structure HungOk (L : Nat) (P : Pic) (ws : List (List Int)) (x : Pic × List Nat) : Prop where
  ok : x.1.Ok L
  gr : Grown P x.1
  len : x.2.length = ws.length
  at_ : ∀ (i : Nat) (w : List Int) (e : Nat), ws[i]? = some w → x.2[i]? = some e → led x.1 0 (straight w) = some e ∧ e < x.1.n
  few : x.1.n ≤ P.n + total ws
theorem total_append (a : List (List Int)) (w : List Int) : total (a ++ [w]) = total a + (straight w).length := by
  induction a with
  | nil => show (straight w).length + 0 = 0 + _; omega
  | cons b r ih =>
    show (straight b).length + total (r ++ [w]) = (straight b).length + total r + _
    omega
theorem hNext_ok {L : Nat} {P : Pic} {done : List (List Int)} {x : Pic × List Nat} (h : HungOk L P done x) {w : List Int} (hs : ∀ s ∈ w, stepOk L s) : HungOk L P (done ++ [w]) (hNext x w) := by
  have hs' : ∀ s ∈ straight w, stepOk L s := fun s m => hs s (mem_straight m)
  obtain ⟨a, b, c⟩ := hWalk_ok h.ok hs'
  refine ⟨a.ok, h.gr.trans a.gr, ?_, fun i v e h1 h2 => ?_, ?_⟩
  · show (x.2 ++ [_]).length = _
    rw [List.length_append, List.length_append, h.len]
    rfl
  · have h2 : (x.2 ++ [(hWalk x.1 (straight w)).2])[i]? = some e := h2
    by_cases hi : i < done.length
    · rw [List.getElem?_append_left hi] at h1
      rw [List.getElem?_append_left (by rw [h.len]; exact hi)] at h2
      obtain ⟨p, q⟩ := h.at_ i v e h1 h2
      exact ⟨a.gr.led p, Nat.lt_of_lt_of_le q a.gr.le⟩
    · rw [List.getElem?_append_right (by omega)] at h1
      rw [List.getElem?_append_right (by rw [h.len]; omega), h.len] at h2
      have hi0 : i - done.length = 0 := by
        rcases Nat.eq_zero_or_pos (i - done.length) with z | z
        · exact z
        · rw [List.getElem?_eq_none (by rw [List.length_singleton]; omega)] at h1
          cases h1
      rw [hi0] at h1 h2
      cases h1
      cases h2
      exact ⟨b, a.here⟩
  · rw [total_append]
    have := h.few
    show (hWalk x.1 (straight w)).1.n ≤ _
    omega
theorem hung_gen {L : Nat} {P : Pic} : ∀ (ws done : List (List Int)) (x : Pic × List Nat), HungOk L P done x → (∀ w ∈ ws, ∀ s ∈ w, stepOk L s) → HungOk L P (done ++ ws) (ws.foldl hNext x)
  | [], done, x, h, _ => by rw [List.append_nil]; exact h
  | w :: r, done, x, h, hs => by
    have := hung_gen r (done ++ [w]) (hNext x w) (hNext_ok h (hs w List.mem_cons_self)) fun v hv => hs v (List.mem_cons_of_mem _ hv)
    rw [List.append_assoc] at this
    exact this
theorem hung0 {L : Nat} {P : Pic} (h : P.Ok L) : HungOk L P [] (P, []) := ⟨h, Grown.refl _, rfl, fun i w e h => by simp at h, Nat.le_refl _⟩
theorem hung_ok {L : Nat} {P : Pic} (h : P.Ok L) {ws : List (List Int)} (hs : ∀ w ∈ ws, ∀ s ∈ w, stepOk L s) : HungOk L P ws (hung P ws) :=
  hung_gen ws [] (P, []) (hung0 h) hs
/-- one of the ends is home exactly if one of the walks belongs -/
theorem hung_zero {L : Nat} {P : Pic} {ws : List (List Int)} {x : Pic × List Nat} (h : HungOk L P ws x) (hp : 0 < P.n) : 0 ∈ x.2 ↔ ∃ w ∈ ws, led P 0 (straight w) = some 0 := by
  constructor
  · intro m
    obtain ⟨i, hi, e⟩ := List.getElem_of_mem m
    have hi' : i < ws.length := by rw [← h.len]; exact hi
    have h2 : x.2[i]? = some 0 := by rw [List.getElem?_eq_getElem hi, e]
    obtain ⟨p, _⟩ := h.at_ i ws[i] 0 (List.getElem?_eq_getElem hi') h2
    exact ⟨ws[i], List.getElem_mem hi', h.gr.old _ 0 0 (isSt_straight _) hp hp p⟩
  · rintro ⟨w, m, e⟩
    obtain ⟨i, hi, e1⟩ := List.getElem_of_mem m
    have hi' : i < x.2.length := by rw [h.len]; exact hi
    obtain ⟨p, _⟩ := h.at_ i w x.2[i] (by rw [List.getElem?_eq_getElem hi, e1]) (List.getElem?_eq_getElem hi')
    rw [h.gr.led e] at p
    have : x.2[i] = 0 := (Option.some.inj p).symm
    rw [← this]
    exact List.getElem_mem hi'
end Wc
set_option maxHeartbeats 1000000
set_option linter.all false
/-! Plain mathematics: places, partings, what a least number of places is. -/
namespace Wc

/-! ### acting -/
structure Rep (L m : Nat) (act : Int → Nat → Nat) : Prop where
  lt : ∀ s, stepOk L s → ∀ x, x < m → act s x < m
  inv : ∀ s, stepOk L s → ∀ x, x < m → act (-s) (act s x) = x
def actW (act : Int → Nat → Nat) (w : List Int) (x : Nat) : Nat := w.foldl (fun x s => act s x) x
theorem actW_append (act : Int → Nat → Nat) (a b : List Int) (x : Nat) : actW act (a ++ b) x = actW act b (actW act a x) := by
  unfold actW
  rw [List.foldl_append]
section
variable {L m : Nat} {act : Int → Nat → Nat}
theorem Rep.ltW (R : Rep L m act) : ∀ {w : List Int} {x : Nat}, (∀ s ∈ w, stepOk L s) → x < m → actW act w x < m
  | [], x, _, h => h
  | s :: w, x, hs, h => Rep.ltW R (w := w) (x := act s x) (fun t ht => hs t (List.mem_cons_of_mem _ ht)) (R.lt s (hs s List.mem_cons_self) x h)
theorem Rep.inv' (R : Rep L m act) {s : Int} (h : stepOk L s) {x : Nat} (hx : x < m) : act s (act (-s) x) = x := by
  have := R.inv (-s) h.neg x hx
  rwa [Int.neg_neg] at this
theorem act_push (R : Rep L m act) {acc : List Int} {s x : Nat → Nat} {t : Int} {y : Nat} (ha : ∀ s ∈ acc, stepOk L s) (ht : stepOk L t) (hy : y < m) : actW act (stPush acc t) y = act t (actW act acc y) := by
  unfold stPush
  split
  · rename_i e
    have hne : acc ≠ [] := by
      rintro rfl
      cases e
    have hlast : acc = acc.dropLast ++ [-t] := by
      have h1 := List.dropLast_concat_getLast hne
      have h2 : acc.getLast hne = -t := by
        rw [List.getLast?_eq_some_getLast hne] at e
        exact Option.some.inj e
      rw [h2] at h1
      exact h1.symm
    have hd : actW act acc y = act (-t) (actW act acc.dropLast y) := by
      conv => lhs; rw [hlast]
      rw [actW_append]
      rfl
    rw [hd, R.inv' ht]
    exact R.ltW (fun s hs => ha s (List.dropLast_subset _ hs)) hy
  · rw [actW_append]
    rfl
theorem act_straight (R : Rep L m act) {w : List Int} {y : Nat} (hw : ∀ s ∈ w, stepOk L s) (hy : y < m) : actW act (straight w) y = actW act w y := by
  have : ∀ (w acc : List Int), (∀ s ∈ w, stepOk L s) → (∀ s ∈ acc, stepOk L s) → actW act (w.foldl stPush acc) y = actW act w (actW act acc y) := by
    intro w
    induction w with
    | nil => intro acc _ _; rfl
    | cons s r ih =>
      intro acc h1 h2
      rw [List.foldl_cons, ih _ (fun t ht => h1 t (List.mem_cons_of_mem _ ht))]
      · rw [act_push (s := id) (x := id) R h2 (h1 s List.mem_cons_self) hy]
        rfl
      · intro t ht
        rcases mem_push ht with z | z
        · exact h2 t z
        · exact z ▸ h1 s List.mem_cons_self
  exact this w [] hw fun _ h => nomatch h
theorem act_back (R : Rep L m act) : ∀ {w : List Int} {x : Nat}, (∀ s ∈ w, stepOk L s) → x < m → actW act (back w) (actW act w x) = x
  | [], x, _, _ => rfl
  | s :: w, x, hs, hx => by
    have h1 := hs s List.mem_cons_self
    have ih := act_back R (w := w) (x := act s x) (fun t ht => hs t (List.mem_cons_of_mem _ ht)) (R.lt s h1 x hx)
    show actW act (back (s :: w)) (actW act w (act s x)) = x
    unfold back at ih ⊢
    rw [List.reverse_cons, List.map_append, actW_append, ih]
    exact R.inv s h1 x hx
end
theorem back_ok {L : Nat} {w : List Int} (h : ∀ s ∈ w, stepOk L s) : ∀ s ∈ back w, stepOk L s := fun s hs => by
  unfold back at hs
  obtain ⟨t, ht, e⟩ := List.mem_map.mp hs
  rw [← e]
  exact (h t (List.mem_reverse.mp ht)).neg
/-- the rooms' places go along with the steps -/
def Cons (act : Int → Nat → Nat) (P : Pic) (f : Nat → Nat) : Prop := ∀ r s g, P.go r s = some g → act s (f r) = f g
theorem Cons.led {act : Int → Nat → Nat} {P : Pic} {f : Nat → Nat} (h : Cons act P f) : ∀ {w : List Int} {r e : Nat}, Wc.led P r w = some e → actW act w (f r) = f e
  | [], r, e, he => by cases he; rfl
  | s :: w, r, e, he => by
    rw [led_cons] at he
    cases hg : P.go r s with
    | none => rw [hg] at he; cases he
    | some g =>
      rw [hg] at he
      show actW act w (act s (f r)) = f e
      rw [h r s g hg]
      exact Cons.led h he
theorem Cons.grown {act : Int → Nat → Nat} {P P' : Pic} {f : Nat → Nat} (h : Cons act P' f) (g : Grown P P') : Cons act P f := fun r s q e => h r s q (g.mono r s q e)
/-- the web's rooms have a place of m, home 0, and no walk leads 0 to itself -/
def Sem (L : Nat) (P : Pic) (ws : List (List Int)) (m : Nat) : Prop :=
  ∃ (act : Int → Nat → Nat) (f : Nat → Nat), Rep L m act ∧ (∀ r, r < P.n → f r < m) ∧ f 0 = 0 ∧ Cons act P f ∧ ∀ w ∈ ws, actW act w 0 ≠ 0
theorem Sem.sub {L : Nat} {P : Pic} {ws vs : List (List Int)} {m : Nat} (h : Sem L P ws m) (hs : ∀ v ∈ vs, v ∈ ws) : Sem L P vs m := by
  obtain ⟨act, f, a, b, c, d, e⟩ := h
  exact ⟨act, f, a, b, c, d, fun v hv => e v (hs v hv)⟩
theorem Sem.about {L : Nat} {P : Pic} {ws : List (List Int)} {m : Nat} (h : Sem L P ws m) (hp : P.Ok L) (hw : ∀ w ∈ ws, ∀ s ∈ w, stepOk L s) : Sem L P (ws.reverse.map back) m := by
  obtain ⟨act, f, a, b, c, d, e⟩ := h
  refine ⟨act, f, a, b, c, d, fun v hv => ?_⟩
  obtain ⟨w, hm, rfl⟩ := List.mem_map.mp hv
  have hm' := List.mem_reverse.mp hm
  have h0 : 0 < m := by have := b 0 hp.pos; rw [c] at this; exact this
  intro z
  -- act (back w) 0 = 0, so act w 0 = 0
  have hb := act_back a (w := back w) (x := 0) (back_ok (hw w hm')) h0
  rw [back_back, z] at hb
  exact e w hm' hb
theorem about_about (ws : List (List Int)) : ((ws.reverse.map back).reverse.map back) = ws := by
  rw [← List.map_reverse, List.reverse_reverse, List.map_map]
  have : (back ∘ back) = id := by
    funext w
    exact back_back w
  rw [this, List.map_id]

/-! ### partings -/
/-- one more than the greatest, 0 of none -/
def mx1 (q : List Nat) : Nat := q.foldr (fun x m => max (x + 1) m) 0
theorem mx1_cons (x : Nat) (q : List Nat) : mx1 (x :: q) = max (x + 1) (mx1 q) := rfl
theorem lt_mx1 : ∀ {q : List Nat} {x : Nat}, x ∈ q → x < mx1 q
  | a :: r, x, h => by
    rw [mx1_cons]
    rcases List.mem_cons.mp h with e | e
    · subst e; omega
    · have := lt_mx1 e; omega
theorem mx1_le : ∀ {q : List Nat} {m : Nat}, (∀ x ∈ q, x < m) → mx1 q ≤ m
  | [], _, _ => Nat.zero_le _
  | a :: r, m, h => by
    rw [mx1_cons]
    have h1 := h a List.mem_cons_self
    have h2 := mx1_le (q := r) (m := m) fun x hx => h x (List.mem_cons_of_mem _ hx)
    omega
/-- numbers in the order of their first standing -/
def RG (q : List Nat) : Prop := ∀ k, k < q.length → q.getD k 0 ≤ mx1 (q.take k)
def Fits (P : Pic) (q : List Nat) : Prop := ∀ r r' s g g', r < q.length → r' < q.length → g < q.length → g' < q.length → P.go r s = some g → P.go r' s = some g' → q.getD r 0 = q.getD r' 0 → q.getD g 0 = q.getD g' 0
/-- the first rooms parted -/
structure Part (P : Pic) (ends : List Nat) (most : Nat) (q : List Nat) : Prop where
  pos : 0 < q.length
  le : q.length ≤ P.n
  rg : RG q
  lt : ∀ x ∈ q, x < most
  off : ∀ e ∈ ends, e < q.length → q.getD e 0 ≠ 0
  fits : Fits P q
theorem getD_appL {q l : List Nat} {k : Nat} (h : k < q.length) : (q ++ l).getD k 0 = q.getD k 0 := by
  rw [List.getD_eq_getElem?_getD, List.getD_eq_getElem?_getD, List.getElem?_append_left h]
theorem getD_appR (q : List Nat) (x : Nat) : (q ++ [x]).getD q.length 0 = x := by
  rw [List.getD_eq_getElem?_getD, List.getElem?_append_right (Nat.le_refl _), Nat.sub_self]
  rfl
theorem idx_appL {a b : List Nat} {x : Nat} (h : x ∈ a) : (a ++ b).idxOf x = a.idxOf x := by
  rw [List.idxOf_append, if_pos h]
theorem idx_appR {a : List Nat} {x : Nat} (h : ¬ x ∈ a) : (a ++ [x]).idxOf x = a.length := by
  rw [List.idxOf_append, if_neg h, List.idxOf_cons_self, Nat.zero_add]
theorem getD_take {q : List Nat} {i k : Nat} (h : i < k) : (q.take k).getD i 0 = q.getD i 0 := by
  rw [List.getD_eq_getElem?_getD, List.getD_eq_getElem?_getD, List.getElem?_take_of_lt h]
theorem RG.take {q : List Nat} (h : RG q) (k : Nat) : RG (q.take k) := fun i hi => by
  rw [List.length_take] at hi
  rw [getD_take (by omega), List.take_take, Nat.min_eq_left (by omega)]
  exact h i (by omega)
theorem Fits.take {P : Pic} {q : List Nat} (h : Fits P q) (k : Nat) : Fits P (q.take k) := fun r r' s g g' a b c d e f z => by
  rw [List.length_take] at a b c d
  rw [getD_take (by omega), getD_take (by omega)] at z ⊢
  exact h r r' s g g' (by omega) (by omega) (by omega) (by omega) e f z
theorem Part.take {P : Pic} {ends : List Nat} {most : Nat} {q : List Nat} (h : Part P ends most q) {k : Nat} (hk : 0 < k) : Part P ends most (q.take k) := by
  have hp := h.pos
  refine ⟨by rw [List.length_take]; omega, by rw [List.length_take]; have := h.le; omega, h.rg.take k, fun x hx => h.lt x (List.mem_of_mem_take hx), fun e he hl => ?_, h.fits.take k⟩
  rw [List.length_take] at hl
  rw [getD_take (by omega)]
  exact h.off e he (by omega)
theorem RG.snoc {q : List Nat} {x : Nat} (h : RG q) (hx : x ≤ mx1 q) : RG (q ++ [x]) := fun k hk => by
  rw [List.length_append, List.length_singleton] at hk
  by_cases e : k < q.length
  · rw [getD_appL e, List.take_append_of_le_length (by omega)]
    exact h k e
  · have ek : k = q.length := by omega
    subst ek
    rw [getD_appR, List.take_left']
    · exact hx
    · rfl
theorem RG.first {q : List Nat} (h : RG q) (hp : 0 < q.length) : q.getD 0 0 = 0 := Nat.le_zero.mp (h 0 hp)
theorem Part.snoc {P : Pic} {ends : List Nat} {most : Nat} {q : List Nat} {x : Nat} (h : Part P ends most q) (hl : q.length < P.n) (hx : x ≤ mx1 q) (hm : x < most) (ho : x ≠ 0 ∨ q.length ∉ ends) (hf : Fits P (q ++ [x])) : Part P ends most (q ++ [x]) := by
  refine ⟨by rw [List.length_append]; exact Nat.succ_pos _, by rw [List.length_append, List.length_singleton]; omega, h.rg.snoc hx, fun y hy => ?_, fun e he hl => ?_, hf⟩
  · rcases List.mem_append.mp hy with z | z
    · exact h.lt y z
    · rw [List.mem_singleton.mp z]; exact hm
  · rw [List.length_append, List.length_singleton] at hl
    by_cases c : e < q.length
    · rw [getD_appL c]
      exact h.off e he c
    · have ek : e = q.length := by omega
      subst ek
      rw [getD_appR]
      rcases ho with z | z
      · exact z
      · exact absurd he z
theorem Part.one {P : Pic} {ends : List Nat} {most : Nat} (hp : 0 < P.n) (hm : 0 < most) (h0 : 0 ∉ ends) : Part P ends most [0] := by
  refine ⟨Nat.succ_pos _, hp, fun k hk => ?_, fun x hx => ?_, fun e he hl => ?_, fun r r' s g g' a b c d _ _ _ => ?_⟩
  · have : k = 0 := Nat.lt_one_iff.mp hk
    subst this
    exact Nat.zero_le _
  · rw [List.mem_singleton.mp hx]; exact hm
  · have : e = 0 := Nat.lt_one_iff.mp hl
    exact absurd (this ▸ he) h0
  · have c' : g = 0 := Nat.lt_one_iff.mp c
    have d' : g' = 0 := Nat.lt_one_iff.mp d
    rw [c', d']
/-- all rooms parted -/
def Whole (P : Pic) (ends : List Nat) (most : Nat) (q : List Nat) : Prop := Part P ends most q ∧ q.length = P.n
theorem Whole.up {P : Pic} {ends : List Nat} {m m' : Nat} {q : List Nat} (h : Whole P ends m q) (hm : m ≤ m') : Whole P ends m' q :=
  ⟨⟨h.1.pos, h.1.le, h.1.rg, fun x hx => Nat.lt_of_lt_of_le (h.1.lt x hx) hm, h.1.off, h.1.fits⟩, h.2⟩
/-- a parting is one of as many parts as it has -/
theorem Whole.tight {P : Pic} {ends : List Nat} {m : Nat} {q : List Nat} (h : Whole P ends m q) : Whole P ends (mx1 q) q :=
  ⟨⟨h.1.pos, h.1.le, h.1.rg, fun x hx => lt_mx1 hx, h.1.off, h.1.fits⟩, h.2⟩
theorem mx1_range_le (k : Nat) : mx1 (List.range k) = k := by
  refine Nat.le_antisymm (mx1_le fun x hx => List.mem_range.mp hx) ?_
  cases k with
  | zero => exact Nat.zero_le _
  | succ k => exact lt_mx1 (List.mem_range.mpr (Nat.lt_succ_self k))
theorem getD_range {n i : Nat} (h : i < n) : (List.range n).getD i 0 = i := by
  rw [List.getD_eq_getElem?_getD, List.getElem?_range h]
  rfl
/-- each room a part of its own -/
theorem whole_range {P : Pic} {ends : List Nat} (hp : 0 < P.n) (h0 : 0 ∉ ends) : Whole P ends P.n (List.range P.n) := by
  refine ⟨⟨by rw [List.length_range]; exact hp, by rw [List.length_range]; exact Nat.le_refl _, fun k hk => ?_, fun x hx => List.mem_range.mp hx, fun e he hl => ?_, fun r r' s g g' a b c d e f z => ?_⟩, List.length_range⟩
  · rw [List.length_range] at hk
    rw [getD_range hk, List.take_range, Nat.min_eq_left (by omega), mx1_range_le]
    exact Nat.le_refl _
  · rw [List.length_range] at hl
    rw [getD_range hl]
    intro z
    exact h0 (z ▸ he)
  · rw [List.length_range] at a b c d
    rw [getD_range a, getD_range b] at z
    subst z
    rw [e] at f
    cases f
    rfl

/-! ### any places make a parting -/
def vals (f : Nat → Nat) : Nat → List Nat
  | 0 => []
  | k + 1 => if f k ∈ vals f k then vals f k else vals f k ++ [f k]
theorem vals_mem (f : Nat → Nat) : ∀ {k x : Nat}, x ∈ vals f k ↔ ∃ j, j < k ∧ f j = x
  | 0, x => ⟨(fun h => nomatch h), (fun ⟨j, h, _⟩ => absurd h (Nat.not_lt_zero j))⟩
  | k + 1, x => by
    unfold vals
    constructor
    · intro h
      split at h
      · obtain ⟨j, a, b⟩ := (vals_mem f).mp h
        exact ⟨j, Nat.lt_succ_of_lt a, b⟩
      · rcases List.mem_append.mp h with h | h
        · obtain ⟨j, a, b⟩ := (vals_mem f).mp h
          exact ⟨j, Nat.lt_succ_of_lt a, b⟩
        · exact ⟨k, Nat.lt_succ_self k, (List.mem_singleton.mp h).symm⟩
    · rintro ⟨j, a, b⟩
      by_cases c : j < k
      · have : x ∈ vals f k := (vals_mem f).mpr ⟨j, c, b⟩
        split
        · exact this
        · exact List.mem_append_left _ this
      · have : j = k := by omega
        subst this
        split
        · rename_i h; rw [← b]; exact h
        · rw [b]; exact List.mem_append_right _ (List.mem_singleton.mpr rfl)
theorem vals_nodup (f : Nat → Nat) : ∀ k : Nat, (vals f k).Nodup
  | 0 => List.nodup_nil
  | k + 1 => by
    unfold vals
    split
    · exact vals_nodup f k
    · rename_i h
      refine List.nodup_append.mpr ⟨vals_nodup f k, by simp, fun a ha b hb e => ?_⟩
      rw [List.mem_singleton.mp hb] at e
      exact h (e ▸ ha)
theorem vals_idx (f : Nat → Nat) {k n x : Nat} (hk : k ≤ n) (h : x ∈ vals f k) : (vals f n).idxOf x = (vals f k).idxOf x := by
  induction n with
  | zero => have : k = 0 := by omega
            subst this; rfl
  | succ n ih =>
    by_cases c : k = n + 1
    · subst c; rfl
    · have hk' : k ≤ n := by omega
      have hx : x ∈ vals f n := by
        obtain ⟨j, a, b⟩ := (vals_mem f).mp h
        exact (vals_mem f).mpr ⟨j, by omega, b⟩
      rw [← ih hk']
      show (if f n ∈ vals f n then vals f n else vals f n ++ [f n]).idxOf x = _
      split
      · rfl
      · exact idx_appL hx
def canon (f : Nat → Nat) (n : Nat) : List Nat := (List.range n).map fun i => (vals f n).idxOf (f i)
theorem canon_length (f : Nat → Nat) (n : Nat) : (canon f n).length = n := by
  unfold canon
  rw [List.length_map, List.length_range]
theorem canon_get (f : Nat → Nat) {n i : Nat} (h : i < n) : (canon f n).getD i 0 = (vals f n).idxOf (f i) := by
  unfold canon
  rw [List.getD_eq_getElem?_getD, List.getElem?_map, List.getElem?_range h]
  rfl
theorem canon_eq (f : Nat → Nat) {n i j : Nat} (hi : i < n) (hj : j < n) : (canon f n).getD i 0 = (canon f n).getD j 0 ↔ f i = f j := by
  rw [canon_get f hi, canon_get f hj]
  constructor
  · intro h
    have a : (vals f n).idxOf (f i) < (vals f n).length := List.idxOf_lt_length_of_mem ((vals_mem f).mpr ⟨i, hi, rfl⟩)
    have b : (vals f n).idxOf (f j) < (vals f n).length := List.idxOf_lt_length_of_mem ((vals_mem f).mpr ⟨j, hj, rfl⟩)
    have a' := List.getElem_idxOf a
    have b' := List.getElem_idxOf b
    rw [← a', ← b']
    congr 1
  · intro h; rw [h]
theorem canon_lt (f : Nat → Nat) {n m : Nat} (h : ∀ i, i < n → f i < m) : ∀ x ∈ canon f n, x < m := by
  intro x hx
  unfold canon at hx
  obtain ⟨i, hi, e⟩ := List.mem_map.mp hx
  have hi' := List.mem_range.mp hi
  have a : (vals f n).idxOf (f i) < (vals f n).length := List.idxOf_lt_length_of_mem ((vals_mem f).mpr ⟨i, hi', rfl⟩)
  have b : (vals f n).length ≤ m := nodup_lt_len (vals_nodup f n) fun y hy => by
    obtain ⟨j, c, d⟩ := (vals_mem f).mp hy
    exact d ▸ h j c
  omega
theorem canon_rg (f : Nat → Nat) (n : Nat) : RG (canon f n) := fun k hk => by
  rw [canon_length] at hk
  rw [canon_get f hk]
  -- all numbers below the number of values seen are there
  have seen : ∀ v, v < (vals f k).length → v ∈ (canon f n).take k := by
    intro v hv
    have hm : (vals f k)[v] ∈ vals f k := List.getElem_mem hv
    obtain ⟨j, a, b⟩ := (vals_mem f).mp hm
    have e : (canon f n).getD j 0 = v := by
      rw [canon_get f (by omega), b, vals_idx f (Nat.le_of_lt hk) hm]
      exact (vals_nodup f k).idxOf_getElem v hv
    have hj : j < ((canon f n).take k).length := by rw [List.length_take, canon_length]; omega
    rw [← getD_take (k := k) a, List.getD_eq_getElem?_getD, List.getElem?_eq_getElem hj] at e
    have e : ((canon f n).take k)[j] = v := e
    rw [← e]
    exact List.getElem_mem hj
  have up : (vals f k).length ≤ mx1 ((canon f n).take k) := by
    rcases Nat.eq_zero_or_pos (vals f k).length with z | z
    · omega
    · have := lt_mx1 (seen ((vals f k).length - 1) (by omega))
      omega
  by_cases c : f k ∈ vals f k
  · rw [vals_idx f (Nat.le_of_lt hk) c]
    have := List.idxOf_lt_length_of_mem c
    omega
  · have h1 : f k ∈ vals f (k + 1) := (vals_mem f).mpr ⟨k, Nat.lt_succ_self k, rfl⟩
    rw [vals_idx f hk h1]
    have h2 : vals f (k + 1) = vals f k ++ [f k] := by
      show (if f k ∈ vals f k then vals f k else vals f k ++ [f k]) = _
      rw [if_neg c]
    rw [h2, idx_appR c]
    exact up
/-- places along the steps, none of the ends at home's -/
structure Lab (P : Pic) (ends : List Nat) (m : Nat) (f : Nat → Nat) : Prop where
  lt : ∀ r, r < P.n → f r < m
  cons : ∀ r r' s g g', P.go r s = some g → P.go r' s = some g' → f r = f r' → f g = f g'
  off : ∀ e ∈ ends, f e ≠ f 0
theorem whole_of_lab {P : Pic} {L : Nat} {ends : List Nat} {m : Nat} {f : Nat → Nat} (hp : P.Ok L) (h : Lab P ends m f) : Whole P ends m (canon f P.n) := by
  refine ⟨⟨by rw [canon_length]; exact hp.pos, by rw [canon_length]; exact Nat.le_refl _, canon_rg f P.n, canon_lt f h.lt, fun e he hl z => ?_, fun r r' s g g' a b c d e1 e2 z => ?_⟩, canon_length f P.n⟩
  · rw [canon_length] at hl
    have h0 : (canon f P.n).getD 0 0 = 0 := (canon_rg f P.n).first (by rw [canon_length]; exact hp.pos)
    exact h.off e he ((canon_eq f hl hp.pos).mp (z.trans h0.symm))
  · rw [canon_length] at a b c d
    exact (canon_eq f c d).mpr (h.cons r r' s g g' e1 e2 ((canon_eq f a b).mp z))
/-- from a paper to a parting of what is hung -/
theorem ext_step {L m : Nat} {act : Int → Nat → Nat} (R : Rep L m act) {P : Pic} {x : Pic × Nat} {s : Int} (h : HOk L P x) (hs : stepOk L s)
    (he : ∃ f : Nat → Nat, Cons act x.1 f ∧ (∀ r, r < x.1.n → f r < m) ∧ f 0 = 0) : ∃ f : Nat → Nat, Cons act (hStep x s).1 f ∧ (∀ r, r < (hStep x s).1.n → f r < m) ∧ f 0 = 0 := by
  obtain ⟨f, h1, h2, h3⟩ := he
  unfold hStep
  cases hg : x.1.go x.2 s with
  | some g => exact ⟨f, h1, h2, h3⟩
  | none =>
    have hx := h.here
    refine ⟨fun r => if r = x.1.n then act s (f x.2) else f r, fun r t g e => ?_, fun r hr => ?_, ?_⟩
    · by_cases c1 : r = x.2 ∧ t = s
      · obtain ⟨rfl, rfl⟩ := c1
        rw [add_new hx] at e
        cases e
        simp only [if_neg (Nat.ne_of_lt hx), if_true]
      · by_cases c2 : r = x.1.n
        · subst c2
          rw [add_back hx] at e
          split at e
          · rename_i e2
            cases e
            subst e2
            simp only [if_true, if_neg (Nat.ne_of_lt hx)]
            exact R.inv s hs _ (h2 _ hx)
          · cases e
        · rw [add_old c1 c2] at e
          simp only [if_neg c2, if_neg (Nat.ne_of_lt (h.ok.ok r t g e).2.1)]
          exact h1 r t g e
    · show (if r = x.1.n then act s (f x.2) else f r) < m
      split
      · exact R.lt s hs _ (h2 _ hx)
      · rename_i c
        have hr : r < x.1.n + 1 := hr
        exact h2 r (by omega)
    · show (if 0 = x.1.n then act s (f x.2) else f 0) = 0
      rw [if_neg (by omega)]
      exact h3
theorem ext_walk {L m : Nat} {act : Int → Nat → Nat} (R : Rep L m act) {P : Pic} : ∀ (w : List Int) (x : Pic × Nat), HOk L P x → (∀ s ∈ w, stepOk L s) →
    (∃ f : Nat → Nat, Cons act x.1 f ∧ (∀ r, r < x.1.n → f r < m) ∧ f 0 = 0) → ∃ f : Nat → Nat, Cons act (w.foldl hStep x).1 f ∧ (∀ r, r < (w.foldl hStep x).1.n → f r < m) ∧ f 0 = 0
  | [], x, _, _, he => he
  | s :: w, x, h, hs, he => by
    rw [List.foldl_cons]
    exact ext_walk R w (hStep x s) (hStep_ok h (hs s List.mem_cons_self)).1 (fun t ht => hs t (List.mem_cons_of_mem _ ht)) (ext_step R h (hs s List.mem_cons_self) he)
theorem ext_all {L m : Nat} {act : Int → Nat → Nat} (R : Rep L m act) {P : Pic} : ∀ (ws done : List (List Int)) (x : Pic × List Nat), HungOk L P done x → (∀ w ∈ ws, ∀ s ∈ w, stepOk L s) →
    (∃ f : Nat → Nat, Cons act x.1 f ∧ (∀ r, r < x.1.n → f r < m) ∧ f 0 = 0) → ∃ f : Nat → Nat, Cons act (ws.foldl hNext x).1 f ∧ (∀ r, r < (ws.foldl hNext x).1.n → f r < m) ∧ f 0 = 0
  | [], done, x, _, _, he => he
  | w :: r, done, x, h, hs, he => by
    rw [List.foldl_cons]
    refine ext_all R r (done ++ [w]) (hNext x w) (hNext_ok h (hs w List.mem_cons_self)) (fun v hv => hs v (List.mem_cons_of_mem _ hv)) ?_
    exact ext_walk R (straight w) (x.1, 0) ⟨h.ok, h.ok.pos, Grown.refl _⟩ (fun s m => hs w List.mem_cons_self s (mem_straight m)) he
theorem whole_of_sem {L m : Nat} {P : Pic} {ws : List (List Int)} (hp : P.Ok L) (hw : ∀ w ∈ ws, ∀ s ∈ w, stepOk L s) (h : Sem L P ws m) : ∃ q, Whole (hung P ws).1 (hung P ws).2 m q := by
  obtain ⟨act, f0, R, a, b, c, d⟩ := h
  have H := hung_ok hp hw
  obtain ⟨f, h1, h2, h3⟩ := ext_all R ws [] (P, []) (hung0 hp) hw ⟨f0, c, a, b⟩
  have h1 : Cons act (hung P ws).1 f := h1
  have h2 : ∀ r, r < (hung P ws).1.n → f r < m := h2
  refine ⟨_, whole_of_lab H.ok (f := f) ⟨h2, fun r r' s g g' e1 e2 z => ?_, fun e he => ?_⟩⟩
  · rw [← h1 r s g e1, ← h1 r' s g' e2, z]
  · obtain ⟨i, hi, e1⟩ := List.getElem_of_mem he
    have hi' : i < ws.length := by rw [← H.len]; exact hi
    obtain ⟨p, q⟩ := H.at_ i ws[i] e (List.getElem?_eq_getElem hi') (by rw [List.getElem?_eq_getElem hi, e1])
    have h0 : 0 < m := by have := h2 0 H.ok.pos; rw [h3] at this; exact this
    have hm : ws[i] ∈ ws := List.getElem_mem hi'
    have := h1.led p
    rw [← this, h3, act_straight R (hw _ hm) h0]
    exact d _ hm
end Wc
set_option maxHeartbeats 1000000
set_option linter.all false
/-! Plain mathematics: books of turns that complete a picture. -/
namespace Wc

structure Book (L m : Nat) (ts : List (List Nat)) : Prop where
  len : ts.length = L
  each : ∀ t ∈ ts, t.length = m ∧ t.Nodup ∧ ∀ x ∈ t, x < m
def invL (m : Nat) (t : List Nat) : List Nat := (List.range m).map fun y => t.idxOf y
def rowS (m : Nat) (ts : List (List Nat)) (s : Int) : List Nat := if 0 < s then ts.getD (s.toNat - 1) [] else invL m (ts.getD ((-s).toNat - 1) [])
def actB (m : Nat) (ts : List (List Nat)) (s : Int) (x : Nat) : Nat := (rowS m ts s).getD x 0
theorem getD_lt {l : List Nat} {i : Nat} (h : i < l.length) : l.getD i 0 = l[i] := by
  rw [List.getD_eq_getElem?_getD, List.getElem?_eq_getElem h]
  rfl
theorem getD_mem {l : List Nat} {i : Nat} (h : i < l.length) : l.getD i 0 ∈ l := by
  rw [getD_lt h]
  exact List.getElem_mem h
theorem invL_length (m : Nat) (t : List Nat) : (invL m t).length = m := by
  unfold invL
  rw [List.length_map, List.length_range]
theorem invL_get {m : Nat} {t : List Nat} {y : Nat} (h : y < m) : (invL m t).getD y 0 = t.idxOf y := by
  unfold invL
  rw [List.getD_eq_getElem?_getD, List.getElem?_map, List.getElem?_range h]
  rfl
section
variable {L m : Nat} {ts : List (List Nat)}
theorem Book.at_ (B : Book L m ts) {i : Nat} (h : i < L) : (ts.getD i []).length = m ∧ (ts.getD i []).Nodup ∧ ∀ x ∈ ts.getD i [], x < m := by
  have h' : i < ts.length := by rw [B.len]; exact h
  have e : ts.getD i [] = ts[i] := by
    rw [List.getD_eq_getElem?_getD, List.getElem?_eq_getElem h']
    rfl
  rw [e]
  exact B.each _ (List.getElem_mem h')
theorem one_turn {t : List Nat} (h : t.length = m ∧ t.Nodup ∧ ∀ x ∈ t, x < m) {x : Nat} (hx : x < m) : t.getD x 0 < m ∧ (invL m t).getD x 0 < m ∧ (invL m t).getD (t.getD x 0) 0 = x ∧ t.getD ((invL m t).getD x 0) 0 = x := by
  obtain ⟨h1, h2, h3⟩ := h
  have hx' : x < t.length := by rw [h1]; exact hx
  have a : t.getD x 0 < m := h3 _ (getD_mem hx')
  have mem : x ∈ t := full_mem h2 h3 h1 hx
  have ix := List.idxOf_lt_length_of_mem mem
  have b : (invL m t).getD x 0 < m := by
    rw [invL_get hx]
    rw [h1] at ix
    exact ix
  refine ⟨a, b, ?_, ?_⟩
  · rw [invL_get a, getD_lt hx']
    exact h2.idxOf_getElem x hx'
  · rw [invL_get hx, getD_lt ix]
    exact List.getElem_idxOf ix
theorem rowS_cases (B : Book L m ts) {s : Int} (h : stepOk L s) : ∃ i, i < L ∧ ((s = (i : Int) + 1 ∧ rowS m ts s = ts.getD i [] ∧ rowS m ts (-s) = invL m (ts.getD i [])) ∨ (s = -((i : Int) + 1) ∧ rowS m ts s = invL m (ts.getD i []) ∧ rowS m ts (-s) = ts.getD i [])) := by
  have h1 := h.1
  have h2 := h.2
  by_cases c : 0 < s
  · refine ⟨s.toNat - 1, by omega, .inl ⟨by omega, ?_, ?_⟩⟩
    · unfold rowS
      rw [if_pos c]
    · unfold rowS
      rw [if_neg (by omega), Int.neg_neg]
  · refine ⟨(-s).toNat - 1, by omega, .inr ⟨by omega, ?_, ?_⟩⟩
    · unfold rowS
      rw [if_neg c]
    · unfold rowS
      rw [if_pos (by omega)]
theorem rowS_length (B : Book L m ts) {s : Int} (h : stepOk L s) : (rowS m ts s).length = m := by
  obtain ⟨i, hi, ⟨_, e, _⟩ | ⟨_, e, _⟩⟩ := rowS_cases B h
  · rw [e]; exact (B.at_ hi).1
  · rw [e]; exact invL_length _ _
theorem Book.rep (B : Book L m ts) : Rep L m (actB m ts) := by
  refine ⟨fun s hs x hx => ?_, fun s hs x hx => ?_⟩
  · obtain ⟨i, hi, ⟨_, e, _⟩ | ⟨_, e, _⟩⟩ := rowS_cases B hs
    · unfold actB; rw [e]; exact (one_turn (B.at_ hi) hx).1
    · unfold actB; rw [e]; exact (one_turn (B.at_ hi) hx).2.1
  · obtain ⟨i, hi, ⟨_, e, e'⟩ | ⟨_, e, e'⟩⟩ := rowS_cases B hs
    · unfold actB; rw [e, e']; exact (one_turn (B.at_ hi) hx).2.2.1
    · unfold actB; rw [e, e']; exact (one_turn (B.at_ hi) hx).2.2.2
end

/-! ### completing -/
/-- the rooms to which a letter does not lead -/
def freeL (Q : Pic) (s : Int) : List Nat := (List.range Q.n).filter fun r => (Q.go r (-s)).isNone
/-- how many rooms ahead have no step s -/
def cnt (Q : Pic) (s : Int) (k : Nat) : Nat := ((List.range k).filter fun r => (Q.go r s).isNone).length
def turnAt (Q : Pic) (s : Int) (r : Nat) : Nat := match Q.go r s with
  | some x => x
  | none => (freeL Q s).getD (cnt Q s r) 0
def turnOf (Q : Pic) (s : Int) : List Nat := (List.range Q.n).map (turnAt Q s)
def turnsOf (L : Nat) (Q : Pic) : List (List Nat) := (List.range L).map fun i : Nat => turnOf Q ((i : Int) + 1)
theorem cnt_succ (Q : Pic) (s : Int) (k : Nat) : cnt Q s (k + 1) = cnt Q s k + if (Q.go k s).isNone then 1 else 0 := by
  unfold cnt
  rw [List.range_succ, List.filter_append, List.length_append]
  cases hg : Q.go k s with
  | none => simp [List.filter_cons, hg]
  | some x => simp [List.filter_cons, hg]
theorem cnt_mono (Q : Pic) (s : Int) {a b : Nat} (h : a ≤ b) : cnt Q s a ≤ cnt Q s b := by
  induction b with
  | zero => have : a = 0 := by omega
            subst this; exact Nat.le_refl _
  | succ b ih =>
    by_cases c : a = b + 1
    · subst c; exact Nat.le_refl _
    · have := ih (by omega)
      rw [cnt_succ]; omega
theorem cnt_some (Q : Pic) (s : Int) : ∀ k : Nat, cnt Q s k + ((List.range k).filter fun r => (Q.go r s).isSome).length = k
  | 0 => rfl
  | k + 1 => by
    have ih := cnt_some Q s k
    rw [cnt_succ, List.range_succ, List.filter_append, List.length_append]
    cases hg : Q.go k s with
    | none =>
      simp only [hg, Option.isNone_none, List.filter_cons, Option.isSome_none, List.filter_nil, Bool.false_eq_true, if_false, if_true, List.length_nil]
      omega
    | some x =>
      simp only [hg, Option.isNone_some, List.filter_cons, Option.isSome_some, List.filter_nil, Bool.false_eq_true, if_false, if_true, List.length_singleton]
      omega
section
variable {Q : Pic} {L : Nat}
theorem some_le (h : Q.Ok L) (s : Int) : ((List.range Q.n).filter fun r => (Q.go r s).isSome).length ≤ ((List.range Q.n).filter fun r => (Q.go r (-s)).isSome).length := by
  have := nodup_sub_len (l := (((List.range Q.n).filter fun r => (Q.go r s).isSome).map fun r => (Q.go r s).getD 0)) (l2 := (List.range Q.n).filter fun r => (Q.go r (-s)).isSome) ?_ ?_
  · rwa [List.length_map] at this
  · refine List.pairwise_map.mpr ?_
    refine (List.Pairwise.and_mem.mp ((List.nodup_range).filter _)).imp ?_
    intro a b ⟨ha, hb, hne⟩ e
    have ha := (List.mem_filter.mp ha).2
    have hb := (List.mem_filter.mp hb).2
    obtain ⟨x, hx⟩ := Option.isSome_iff_exists.mp ha
    obtain ⟨y, hy⟩ := Option.isSome_iff_exists.mp hb
    rw [hx, hy] at e
    have e : x = y := e
    subst e
    have h1 := (h.ok a s x hx).2.2.2
    have h2 := (h.ok b s x hy).2.2.2
    rw [h1] at h2
    exact hne (Option.some.inj h2)
  · intro y hy
    obtain ⟨r, hr, e⟩ := List.mem_map.mp hy
    have hr := (List.mem_filter.mp hr).2
    obtain ⟨x, hx⟩ := Option.isSome_iff_exists.mp hr
    rw [hx] at e
    have e : x = y := e
    subst e
    obtain ⟨_, b, _, d⟩ := h.ok r s x hx
    exact List.mem_filter.mpr ⟨List.mem_range.mpr b, by rw [d]; rfl⟩
theorem free_len (h : Q.Ok L) (s : Int) : cnt Q s Q.n ≤ (freeL Q s).length := by
  have a := cnt_some Q s Q.n
  have b := cnt_some Q (-s) Q.n
  have c := some_le h (-s)
  rw [Int.neg_neg] at c
  have d : (freeL Q s).length = cnt Q (-s) Q.n := rfl
  omega
theorem cnt_lt (h : Q.Ok L) {s : Int} {r : Nat} (hr : r < Q.n) (hn : Q.go r s = none) : cnt Q s r < (freeL Q s).length := by
  have a := free_len h s
  have b := cnt_mono Q s (show r + 1 ≤ Q.n from hr)
  rw [cnt_succ, hn] at b
  simp only [Option.isNone_none, if_true] at b
  omega
theorem free_mem {s : Int} {x : Nat} (h : x ∈ freeL Q s) : x < Q.n ∧ Q.go x (-s) = none := by
  obtain ⟨a, b⟩ := List.mem_filter.mp h
  exact ⟨List.mem_range.mp a, Option.isNone_iff_eq_none.mp b⟩
theorem free_nodup (s : Int) : (freeL Q s).Nodup := List.nodup_range.filter _
theorem turnAt_some {s : Int} {r x : Nat} (h : Q.go r s = some x) : turnAt Q s r = x := by
  unfold turnAt
  rw [h]
theorem turnAt_none {s : Int} {r : Nat} (h : Q.go r s = none) : turnAt Q s r = (freeL Q s).getD (cnt Q s r) 0 := by
  unfold turnAt
  rw [h]
theorem turnAt_lt (h : Q.Ok L) {s : Int} {r : Nat} (hr : r < Q.n) : turnAt Q s r < Q.n := by
  cases hg : Q.go r s with
  | some x => rw [turnAt_some hg]; exact (h.ok r s x hg).2.1
  | none => rw [turnAt_none hg]; exact (free_mem (getD_mem (cnt_lt h hr hg))).1
theorem turnAt_inj (h : Q.Ok L) {s : Int} {r r' : Nat} (hr : r < Q.n) (hr' : r' < Q.n) (e : turnAt Q s r = turnAt Q s r') : r = r' := by
  cases hg : Q.go r s with
  | some x =>
    cases hg' : Q.go r' s with
    | some y =>
      rw [turnAt_some hg, turnAt_some hg'] at e
      subst e
      have h1 := (h.ok r s x hg).2.2.2
      have h2 := (h.ok r' s x hg').2.2.2
      rw [h1] at h2
      exact Option.some.inj h2
    | none =>
      rw [turnAt_some hg, turnAt_none hg'] at e
      have h1 := (h.ok r s x hg).2.2.2
      have h2 := (free_mem (getD_mem (cnt_lt h hr' hg'))).2
      rw [← e, h1] at h2
      cases h2
  | none =>
    cases hg' : Q.go r' s with
    | some y =>
      rw [turnAt_none hg, turnAt_some hg'] at e
      have h1 := (h.ok r' s y hg').2.2.2
      have h2 := (free_mem (getD_mem (cnt_lt h hr hg))).2
      rw [e, h1] at h2
      cases h2
    | none =>
      rw [turnAt_none hg, turnAt_none hg'] at e
      have l1 := cnt_lt h hr hg
      have l2 := cnt_lt h hr' hg'
      rw [getD_lt l1, getD_lt l2] at e
      have e2 := (List.getElem_inj (free_nodup (Q := Q) s)).mp e
      have aux : ∀ a b : Nat, a < b → Q.go a s = none → cnt Q s a < cnt Q s b := fun a b hab hn => by
        have := cnt_mono Q s (show a + 1 ≤ b from hab)
        rw [cnt_succ, hn] at this
        simp only [Option.isNone_none, if_true] at this
        omega
      rcases Nat.lt_trichotomy r r' with z | z | z
      · have := aux r r' z hg; omega
      · exact z
      · have := aux r' r z hg'; omega
theorem turnOf_ok (h : Q.Ok L) (s : Int) : (turnOf Q s).length = Q.n ∧ (turnOf Q s).Nodup ∧ ∀ x ∈ turnOf Q s, x < Q.n := by
  refine ⟨by unfold turnOf; rw [List.length_map, List.length_range], ?_, fun x hx => ?_⟩
  · unfold turnOf
    refine List.pairwise_map.mpr ?_
    refine (List.Pairwise.and_mem.mp List.nodup_range).imp ?_
    intro a b ⟨ha, hb, hne⟩ e
    exact hne (turnAt_inj h (List.mem_range.mp ha) (List.mem_range.mp hb) e)
  · unfold turnOf at hx
    obtain ⟨r, hr, e⟩ := List.mem_map.mp hx
    exact e ▸ turnAt_lt h (List.mem_range.mp hr)
theorem turnsOf_book (h : Q.Ok L) : Book L Q.n (turnsOf L Q) := by
  refine ⟨by unfold turnsOf; rw [List.length_map, List.length_range], fun t ht => ?_⟩
  unfold turnsOf at ht
  obtain ⟨i, _, e⟩ := List.mem_map.mp ht
  exact e ▸ turnOf_ok h _
theorem turnsOf_get {i : Nat} (h : i < L) : (turnsOf L Q).getD i [] = turnOf Q ((i : Int) + 1) := by
  unfold turnsOf
  rw [List.getD_eq_getElem?_getD, List.getElem?_map, List.getElem?_range h]
  rfl
theorem turnOf_get {s : Int} {r : Nat} (h : r < Q.n) : (turnOf Q s).getD r 0 = turnAt Q s r := by
  unfold turnOf
  rw [List.getD_eq_getElem?_getD, List.getElem?_map, List.getElem?_range h]
  rfl
/-- the book goes along the picture -/
theorem turns_cons (h : Q.Ok L) : Cons (actB Q.n (turnsOf L Q)) Q fun r => r := by
  intro r s g e
  obtain ⟨hr, hg, hs, hb⟩ := h.ok r s g e
  have B := turnsOf_book h
  obtain ⟨i, hi, ⟨e1, e2, _⟩ | ⟨e1, e2, e3⟩⟩ := rowS_cases B hs
  · unfold actB
    rw [e2, turnsOf_get hi, ← e1, turnOf_get hr]
    exact turnAt_some e
  · -- from the other end
    have z : actB Q.n (turnsOf L Q) (-s) g = r := by
      unfold actB
      rw [e3, turnsOf_get hi, show (i : Int) + 1 = -s by omega, turnOf_get hg]
      exact turnAt_some hb
    have := B.rep.inv' hs hg
    rw [z] at this
    exact this
end

/-! ### a parting's picture -/
/-- where a step leads a part -/
def leads (P : Pic) (q : List Nat) (m : Nat) : Pic := ⟨m, fun a s => (List.range P.n).findSome? fun r => if q.getD r 0 = a then (P.go r s).map fun g => q.getD g 0 else none⟩
theorem leads_of {P : Pic} {q : List Nat} {m : Nat} {a x : Nat} {s : Int} (h : (leads P q m).go a s = some x) : ∃ r g, r < P.n ∧ q.getD r 0 = a ∧ P.go r s = some g ∧ q.getD g 0 = x := by
  obtain ⟨r, hr, e⟩ := List.exists_of_findSome?_eq_some h
  have hr := List.mem_range.mp hr
  split at e
  · rename_i c
    obtain ⟨g, hg, e⟩ := Option.map_eq_some_iff.mp e
    exact ⟨r, g, hr, c, hg, e⟩
  · cases e
theorem leads_to {P : Pic} {L : Nat} {ends q : List Nat} {m m' : Nat} (hp : P.Ok L) (hw : Whole P ends m' q) {r g : Nat} {s : Int} (hg : P.go r s = some g) : (leads P q m).go (q.getD r 0) s = some (q.getD g 0) := by
  obtain ⟨hr, hg', _, _⟩ := hp.ok r s g hg
  cases e : (leads P q m).go (q.getD r 0) s with
  | none =>
    have e : ((List.range P.n).findSome? fun r' => if q.getD r' 0 = q.getD r 0 then (P.go r' s).map fun g => q.getD g 0 else none) = none := e
    have := List.findSome?_eq_none_iff.mp e r (List.mem_range.mpr hr)
    rw [if_pos rfl, hg] at this
    cases this
  | some x =>
    obtain ⟨r', g', h1, h2, h3, h4⟩ := leads_of e
    obtain ⟨_, hg2, _, _⟩ := hp.ok r' s g' h3
    have hl := hw.2
    rw [← h4]
    exact congrArg some (hw.1.fits r' r s g' g (by omega) (by omega) (by omega) (by omega) h3 hg h2)
theorem leads_ok {P : Pic} {L : Nat} {ends q : List Nat} {m : Nat} (hp : P.Ok L) (hw : Whole P ends m q) : (leads P q m).Ok L := by
  have hl := hw.2
  have lt : ∀ r, r < P.n → q.getD r 0 < m := fun r hr => hw.1.lt _ (getD_mem (by omega))
  refine ⟨?_, fun a s x e => ?_⟩
  · have := lt 0 hp.pos
    show 0 < m
    omega
  · obtain ⟨r, g, h1, h2, h3, h4⟩ := leads_of e
    obtain ⟨_, hg2, hs, hb⟩ := hp.ok r s g h3
    refine ⟨h2 ▸ lt r h1, h4 ▸ lt g hg2, hs, ?_⟩
    rw [← h4, ← h2]
    exact leads_to hp hw hb
/-- what the book of a parting's picture does -/
theorem parting_acts {P : Pic} {L : Nat} {ends q : List Nat} {m : Nat} (hp : P.Ok L) (hw : Whole P ends m q) : Cons (actB m (turnsOf L (leads P q m))) P fun r => q.getD r 0 := by
  intro r s g e
  exact turns_cons (leads_ok hp hw) _ s _ (leads_to hp hw e)
/-- from a parting of what is hung to a paper -/
theorem paper_of_whole {L m : Nat} {P : Pic} {ws : List (List Int)} {x : Pic × List Nat} {q : List Nat} (hw : ∀ w ∈ ws, ∀ s ∈ w, stepOk L s) (H : HungOk L P ws x) (h : Whole x.1 x.2 m q) :
    Rep L m (actB m (turnsOf L (leads x.1 q m))) ∧ (∀ r, r < P.n → q.getD r 0 < m) ∧ q.getD 0 0 = 0 ∧ Cons (actB m (turnsOf L (leads x.1 q m))) P (fun r => q.getD r 0) ∧ ∀ w ∈ ws, actW (actB m (turnsOf L (leads x.1 q m))) w 0 ≠ 0 := by
  have B : Book L m (turnsOf L (leads x.1 q m)) := turnsOf_book (leads_ok H.ok h)
  have R := B.rep
  have C := parting_acts H.ok h
  have hl := h.2
  have hle := H.gr.le
  have h0 : q.getD 0 0 = 0 := h.1.rg.first h.1.pos
  refine ⟨R, fun r hr => h.1.lt _ (getD_mem (by omega)), h0, C.grown H.gr, fun w hm => ?_⟩
  obtain ⟨i, hi, e1⟩ := List.getElem_of_mem hm
  have hi' : i < x.2.length := by rw [H.len]; exact hi
  obtain ⟨p, hp⟩ := H.at_ i w x.2[i] (by rw [List.getElem?_eq_getElem hi, e1]) (List.getElem?_eq_getElem hi')
  have hm0 : 0 < m := by
    have := h.1.lt _ (getD_mem (l := q) (i := 0) h.1.pos)
    omega
  have z := C.led p
  have z : actW (actB m (turnsOf L (leads x.1 q m))) (straight w) (q.getD 0 0) = q.getD x.2[i] 0 := z
  rw [h0, act_straight R (hw w hm) hm0] at z
  rw [z]
  exact h.1.off _ (List.getElem_mem hi') (by omega)
theorem sem_of_whole {L m : Nat} {P : Pic} {ws : List (List Int)} {x : Pic × List Nat} {q : List Nat} (hw : ∀ w ∈ ws, ∀ s ∈ w, stepOk L s) (H : HungOk L P ws x) (h : Whole x.1 x.2 m q) : Sem L P ws m := by
  obtain ⟨a, b, c, d, e⟩ := paper_of_whole hw H h
  exact ⟨_, _, a, b, c, d, e⟩

/-! ### the least number of places -/
def Least (P : Pic) (ends : List Nat) (m : Nat) : Prop := (∃ q, Whole P ends m q) ∧ ∀ m', m' < m → ¬ ∃ q, Whole P ends m' q
theorem Least.unique {P : Pic} {ends : List Nat} {a b : Nat} (h : Least P ends a) (h' : Least P ends b) : a = b := by
  rcases Nat.lt_trichotomy a b with z | z | z
  · exact absurd h.1 (h'.2 a z)
  · exact z
  · exact absurd h'.1 (h.2 b z)
theorem Least.le {P : Pic} {ends : List Nat} {a m : Nat} (h : Least P ends a) {q : List Nat} (hq : Whole P ends m q) : a ≤ m := by
  rcases Nat.lt_or_ge m a with z | z
  · exact absurd ⟨q, hq⟩ (h.2 m z)
  · exact z
/-- a whole parting of the least number has just so many parts -/
theorem Least.tight {P : Pic} {ends : List Nat} {m : Nat} {q : List Nat} (h : Least P ends m) (hq : Whole P ends m q) : mx1 q = m := by
  have a := h.le hq.tight
  have b : mx1 q ≤ m := mx1_le hq.1.lt
  omega
theorem Least.two {P : Pic} {ends : List Nat} {m : Nat} (h : Least P ends m) (he : ends ≠ []) (hlt : ∀ e ∈ ends, e < P.n) : 2 ≤ m := by
  obtain ⟨q, hq⟩ := h.1
  cases ends with
  | nil => exact absurd rfl he
  | cons e r =>
    have h1 := hlt e List.mem_cons_self
    have hl := hq.2
    have h2 := hq.1.off e List.mem_cons_self (by omega)
    have h3 := hq.1.lt _ (getD_mem (l := q) (i := e) (by omega))
    omega
section
variable {L : Nat} {P : Pic}
/-- fewer walks, no more places -/
theorem least_sub {ws vs : List (List Int)} {a b : Nat} (hp : P.Ok L) (hw : ∀ w ∈ ws, ∀ s ∈ w, stepOk L s) (hs : ∀ v ∈ vs, v ∈ ws) (ha : Least (hung P vs).1 (hung P vs).2 a) (hb : Least (hung P ws).1 (hung P ws).2 b) : a ≤ b := by
  obtain ⟨q, hq⟩ := hb.1
  have S := (sem_of_whole hw (hung_ok hp hw) hq).sub hs
  obtain ⟨q', hq'⟩ := whole_of_sem hp (fun v hv => hw v (hs v hv)) S
  exact ha.le hq'
theorem least_about_le {ws : List (List Int)} {a b : Nat} (hp : P.Ok L) (hw : ∀ w ∈ ws, ∀ s ∈ w, stepOk L s) (ha : Least (hung P (ws.reverse.map back)).1 (hung P (ws.reverse.map back)).2 a) (hb : Least (hung P ws).1 (hung P ws).2 b) : a ≤ b := by
  obtain ⟨q, hq⟩ := hb.1
  have S := (sem_of_whole hw (hung_ok hp hw) hq).about hp hw
  obtain ⟨q', hq'⟩ := whole_of_sem hp (fun v hv => by
    obtain ⟨w, hm, rfl⟩ := List.mem_map.mp hv
    exact back_ok (hw w (List.mem_reverse.mp hm))) S
  exact ha.le hq'
theorem about_ok {ws : List (List Int)} (hw : ∀ w ∈ ws, ∀ s ∈ w, stepOk L s) : ∀ w ∈ ws.reverse.map back, ∀ s ∈ w, stepOk L s := fun v hv => by
  obtain ⟨w, hm, rfl⟩ := List.mem_map.mp hv
  exact back_ok (hw w (List.mem_reverse.mp hm))
/-- turned about and turned back: as many -/
theorem least_about {ws : List (List Int)} {a b : Nat} (hp : P.Ok L) (hw : ∀ w ∈ ws, ∀ s ∈ w, stepOk L s) (ha : Least (hung P (ws.reverse.map back)).1 (hung P (ws.reverse.map back)).2 a) (hb : Least (hung P ws).1 (hung P ws).2 b) : a = b := by
  refine Nat.le_antisymm (least_about_le hp hw ha hb) ?_
  have hb' := hb
  rw [← about_about ws] at hb'
  exact least_about_le hp (about_ok hw) hb' ha
/-- no end of the turned ones is home if none of the others' is -/
theorem about_zero {ws : List (List Int)} (hp : P.Ok L) (hw : ∀ w ∈ ws, ∀ s ∈ w, stepOk L s) (h : 0 ∉ (hung P ws).2) : 0 ∉ (hung P (ws.reverse.map back)).2 := by
  have W := whole_range (P := (hung P ws).1) (hung_ok hp hw).ok.pos h
  obtain ⟨q', hq'⟩ := whole_of_sem hp (about_ok hw) ((sem_of_whole hw (hung_ok hp hw) W).about hp hw)
  intro hm
  have := hq'.1.off 0 hm hq'.1.pos
  exact this (hq'.1.rg.first hq'.1.pos)
end
/-- fewer walks: none of the ends is home -/
theorem hung_take {P : Pic} {ws : List (List Int)} {k : Nat} (h : 0 ∉ (hung P ws).2) : 0 ∉ (hung P (ws.take k)).2 := by
  have key : ∀ (ws : List (List Int)) (x : Pic × List Nat), ∀ e ∈ x.2, e ∈ (ws.foldl hNext x).2 := by
    intro ws
    induction ws with
    | nil => intro x e h; exact h
    | cons w r ih => intro x e h; exact ih (hNext x w) e (List.mem_append_left _ h)
  intro hm
  refine h ?_
  have e : hung P ws = (ws.drop k).foldl hNext (hung P (ws.take k)) := by
    unfold hung
    rw [← List.foldl_append, List.take_append_drop]
  rw [e]
  exact key _ _ _ hm
end Wc
set_option maxHeartbeats 1000000
set_option linter.all false
/-! Plain mathematics: rooms in the order of first ways; webs. -/
namespace Wc

/-! ### the steps in their order -/
def stepsL (L : Nat) : List Int := (List.range L).flatMap fun i : Nat => [(i : Int) + 1, -((i : Int) + 1)]
theorem stepsL_succ (L : Nat) : stepsL (L + 1) = stepsL L ++ [(L : Int) + 1, -((L : Int) + 1)] := by
  unfold stepsL
  rw [List.range_succ, List.flatMap_append]
  simp
theorem mem_stepsL {L : Nat} {s : Int} : s ∈ stepsL L ↔ stepOk L s := by
  unfold stepsL stepOk
  rw [List.mem_flatMap]
  constructor
  · rintro ⟨i, hi, h⟩
    have hi := List.mem_range.mp hi
    simp at h
    omega
  · intro h
    refine ⟨s.natAbs - 1, List.mem_range.mpr (by omega), ?_⟩
    simp
    omega
theorem stepsL_length (L : Nat) : (stepsL L).length = 2 * L := by
  induction L with
  | zero => rfl
  | succ L ih => rw [stepsL_succ, List.length_append, ih]; simp; omega

/-! ### first ways -/
def bStep (P : Pic) (r : Nat) (o : List Nat) (s : Int) : List Nat := match P.go r s with
  | some g => if g ∈ o then o else o ++ [g]
  | none => o
def bRow (L : Nat) (P : Pic) (r : Nat) (o : List Nat) : List Nat := (stepsL L).foldl (bStep P r) o
def bfs (L : Nat) (P : Pic) : Nat → List Nat
  | 0 => [0]
  | k + 1 => match (bfs L P k)[k]? with
    | some r => bRow L P r (bfs L P k)
    | none => bfs L P k
/-- the rooms that are reached, in the order of their first ways -/
def order (L : Nat) (P : Pic) : List Nat := bfs L P P.n

structure OrdOk (P : Pic) (o : List Nat) : Prop where
  nd : o.Nodup
  lt : ∀ x ∈ o, x < P.n
theorem OrdOk.len {P : Pic} {o : List Nat} (h : OrdOk P o) : o.length ≤ P.n := nodup_lt_len h.nd h.lt
section
variable {P : Pic} {L : Nat}
theorem bStep_ok (hp : P.Ok L) {r : Nat} {o : List Nat} (h : OrdOk P o) (s : Int) : OrdOk P (bStep P r o s) := by
  unfold bStep
  cases hg : P.go r s with
  | none => exact h
  | some g =>
    show OrdOk P (if g ∈ o then o else o ++ [g])
    split
    · exact h
    · rename_i hn
      refine ⟨List.nodup_append.mpr ⟨h.nd, by simp, fun a ha b hb e => ?_⟩, fun x hx => ?_⟩
      · rw [List.mem_singleton.mp hb] at e
        exact hn (e ▸ ha)
      · rcases List.mem_append.mp hx with z | z
        · exact h.lt x z
        · rw [List.mem_singleton.mp z]; exact (hp.ok r s g hg).2.1
theorem bStep_pre (P : Pic) (r : Nat) (o : List Nat) (s : Int) : o <+: bStep P r o s := by
  unfold bStep
  cases hg : P.go r s with
  | none => exact List.prefix_refl o
  | some g =>
    show o <+: (if g ∈ o then o else o ++ [g])
    split
    · exact List.prefix_refl o
    · exact List.prefix_append o [g]
theorem bFold_ok (hp : P.Ok L) (r : Nat) : ∀ (ss : List Int) (o : List Nat), OrdOk P o → OrdOk P (ss.foldl (bStep P r) o)
  | [], _, h => h
  | s :: ss, _, h => bFold_ok hp r ss _ (bStep_ok hp h s)
theorem bFold_pre (P : Pic) (r : Nat) : ∀ (ss : List Int) (o : List Nat), o <+: ss.foldl (bStep P r) o
  | [], o => List.prefix_refl o
  | s :: ss, o => (bStep_pre P r o s).trans (bFold_pre P r ss _)
theorem bfs_ok (hp : P.Ok L) : ∀ k : Nat, OrdOk P (bfs L P k)
  | 0 => ⟨by show [0].Nodup; simp, fun x hx => by rw [List.mem_singleton.mp hx]; exact hp.pos⟩
  | k + 1 => by
    have ih := bfs_ok hp k
    unfold bfs
    cases (bfs L P k)[k]? with
    | none => exact ih
    | some r => exact bFold_ok hp r _ _ ih
theorem bfs_pre1 (L : Nat) (P : Pic) (k : Nat) : bfs L P k <+: bfs L P (k + 1) := by
  show bfs L P k <+: (match (bfs L P k)[k]? with
    | some r => bRow L P r (bfs L P k)
    | none => bfs L P k)
  cases (bfs L P k)[k]? with
  | none => exact List.prefix_refl _
  | some r => exact bFold_pre P r _ _
theorem bfs_pre (L : Nat) (P : Pic) {a b : Nat} (h : a ≤ b) : bfs L P a <+: bfs L P b := by
  induction b with
  | zero => have : a = 0 := by omega
            subst this; exact List.prefix_refl _
  | succ b ih =>
    by_cases c : a = b + 1
    · subst c; exact List.prefix_refl _
    · exact (ih (by omega)).trans (bfs_pre1 L P b)
theorem bfs_stop {k : Nat} (h : (bfs L P k).length ≤ k) : bfs L P (k + 1) = bfs L P k := by
  show (match (bfs L P k)[k]? with
    | some r => bRow L P r (bfs L P k)
    | none => bfs L P k) = _
  rw [List.getElem?_eq_none h]
theorem bfs_end {k : Nat} (h : (bfs L P k).length ≤ k) : ∀ j : Nat, bfs L P (k + j) = bfs L P k
  | 0 => rfl
  | j + 1 => by
    have ih := bfs_end h j
    rw [← Nat.add_assoc, bfs_stop (by rw [ih]; omega), ih]
theorem bfs_order (hp : P.Ok L) {k : Nat} (hk : k ≤ P.n) (h : (bfs L P k).length ≤ k) : bfs L P k = order L P := by
  unfold order
  have := bfs_end h (P.n - k)
  rw [show k + (P.n - k) = P.n by omega] at this
  exact this.symm
theorem bfs_head (L : Nat) (P : Pic) (k : Nat) : (bfs L P k)[0]? = some 0 := by
  obtain ⟨t, e⟩ := bfs_pre L P (Nat.zero_le k)
  rw [← e]
  rfl
theorem bfs_len_pos (L : Nat) (P : Pic) (k : Nat) : 0 < (bfs L P k).length := by
  have := bfs_head L P k
  rcases Nat.eq_zero_or_pos (bfs L P k).length with z | z
  · rw [List.getElem?_eq_none (by omega)] at this
    cases this
  · exact z
/-- the rooms that stand in the order so far, and one turn of the loop -/
theorem bfs_turn {k r : Nat} (h : (bfs L P k)[k]? = some r) : bfs L P (k + 1) = bRow L P r (bfs L P k) := by
  show (match (bfs L P k)[k]? with
    | some r => bRow L P r (bfs L P k)
    | none => bfs L P k) = _
  rw [h]
theorem order_ok (hp : P.Ok L) : OrdOk P (order L P) := bfs_ok hp _
/-- all rooms in the order are gone through: where their steps lead is in it -/
theorem bFold_has (P : Pic) (r : Nat) : ∀ (ss : List Int) (o : List Nat) (s : Int) (g : Nat), s ∈ ss → P.go r s = some g → g ∈ ss.foldl (bStep P r) o
  | t :: ss, o, s, g, hs, hg => by
    rcases List.mem_cons.mp hs with e | e
    · subst e
      have : g ∈ bStep P r o s := by
        unfold bStep
        rw [hg]
        show g ∈ (if g ∈ o then o else o ++ [g])
        split
        · rename_i c; exact c
        · exact List.mem_append_right _ (List.mem_singleton.mpr rfl)
      exact (bFold_pre P r ss _).subset this
    · exact bFold_has P r ss _ s g e hg
theorem order_closed (hp : P.Ok L) {r g : Nat} {s : Int} (hr : r ∈ order L P) (hg : P.go r s = some g) : g ∈ order L P := by
  obtain ⟨i, hi, e⟩ := List.getElem_of_mem hr
  have hle := (order_ok hp).len
  have hi' : i < P.n := by omega
  -- at its turn
  have hin : (bfs L P (i + 1)) <+: order L P := bfs_pre L P hi'
  have hpre : (bfs L P i) <+: order L P := bfs_pre L P (Nat.le_of_lt hi')
  have hs := (hp.ok r s g hg).2.2.1
  cases c : (bfs L P i)[i]? with
  | none =>
    -- the order was whole before
    have hlen : (bfs L P i).length ≤ i := List.getElem?_eq_none_iff.mp c
    have := bfs_order hp (Nat.le_of_lt hi') hlen
    rw [this] at hlen
    omega
  | some r' =>
    have e' : (order L P)[i]? = some r' := by
      obtain ⟨t, z⟩ := hpre
      rw [← z, List.getElem?_append_left (List.getElem?_eq_some_iff.mp c).1]
      exact c
    rw [List.getElem?_eq_getElem hi] at e'
    have e2 : r' = r := by rw [← e]; exact (Option.some.inj e').symm
    subst e2
    rw [bfs_turn c] at hin
    exact hin.subset (bFold_has P r' _ _ s g (mem_stepsL.mpr hs) hg)
/-- at its turn a room stands in the order so far -/
theorem bfs_at (hp : P.Ok L) {k r : Nat} (h : (order L P)[k]? = some r) : (bfs L P k)[k]? = some r := by
  have hk : k < (order L P).length := (List.getElem?_eq_some_iff.mp h).1
  have hn : k < P.n := Nat.lt_of_lt_of_le hk (order_ok hp).len
  cases c : (bfs L P k)[k]? with
  | none =>
    have hlen := List.getElem?_eq_none_iff.mp c
    have := bfs_order hp (Nat.le_of_lt hn) hlen
    rw [this] at hlen
    omega
  | some r' =>
    obtain ⟨t, z⟩ := bfs_pre L P (Nat.le_of_lt hn)
    have z : bfs L P k ++ t = order L P := z
    rw [← z, List.getElem?_append_left (List.getElem?_eq_some_iff.mp c).1, c] at h
    exact h
theorem bfs_len (hp : P.Ok L) : bfs L P (order L P).length = order L P := by
  have hle := (order_ok hp).len
  refine bfs_order hp hle ?_
  obtain ⟨t, z⟩ := bfs_pre L P hle
  have z : bfs L P (order L P).length ++ t = order L P := z
  have := congrArg List.length z
  rw [List.length_append] at this
  omega
/-- each room in the order but home is reached by a step from one ahead -/
theorem bFold_from (P : Pic) (r : Nat) : ∀ (ss : List Int) (o : List Nat) (x : Nat), x ∈ ss.foldl (bStep P r) o → x ∈ o ∨ ∃ s, P.go r s = some x
  | [], o, x, h => .inl h
  | s :: ss, o, x, h => by
    rcases bFold_from P r ss _ x h with z | z
    · unfold bStep at z
      cases hg : P.go r s with
      | none => rw [hg] at z; exact .inl z
      | some g =>
        rw [hg] at z
        have z : x ∈ (if g ∈ o then o else o ++ [g]) := z
        split at z
        · exact .inl z
        · rcases List.mem_append.mp z with z | z
          · exact .inl z
          · exact .inr ⟨s, by rw [hg, List.mem_singleton.mp z]⟩
    · exact .inr z
theorem bfs_from : ∀ (k x : Nat), x ∈ bfs L P k → x = 0 ∨ ∃ r s, r ∈ bfs L P k ∧ P.go r s = some x
  | 0, x, h => .inl (List.mem_singleton.mp h)
  | k + 1, x, h => by
    have pre := (bfs_pre1 L P k).subset
    cases c : (bfs L P k)[k]? with
    | none =>
      rw [bfs_stop (List.getElem?_eq_none_iff.mp c)] at h ⊢
      exact bfs_from k x h
    | some r =>
      rw [bfs_turn c] at h
      rcases bFold_from P r _ _ x h with z | ⟨s, z⟩
      · rcases bfs_from k x z with z | ⟨r', s, a, b⟩
        · exact .inl z
        · exact .inr ⟨r', s, pre a, b⟩
      · exact .inr ⟨r, s, pre (List.mem_of_getElem? c), z⟩
end

/-! ### webs -/
/-- a web's picture: all rooms in the order of first ways, two steps at least from each but home -/
structure Web (L : Nat) (P : Pic) : Prop where
  l1 : 1 ≤ L
  l4 : L ≤ 4
  ok : P.Ok L
  ord : order L P = List.range P.n
  two : ∀ r, 0 < r → r < P.n → ∃ s t, s ≠ t ∧ (P.go r s).isSome ∧ (P.go r t).isSome
def enc : Option Nat → Int
  | some g => (g : Int)
  | none => -1
def rowOf (L : Nat) (P : Pic) (r : Nat) : List Int := (List.range L).map fun i : Nat => enc (P.go r ((i : Int) + 1))
def rowsOf (L : Nat) (P : Pic) : List (List Int) := (List.range P.n).map (rowOf L P)
theorem rowOf_length (L : Nat) (P : Pic) (r : Nat) : (rowOf L P r).length = L := by
  unfold rowOf
  rw [List.length_map, List.length_range]
theorem rowOf_get {L : Nat} (P : Pic) (r : Nat) {i : Nat} (h : i < L) : (rowOf L P r)[i]? = some (enc (P.go r ((i : Int) + 1))) := by
  unfold rowOf
  rw [List.getElem?_map, List.getElem?_range h]
  rfl
theorem rowsOf_length (L : Nat) (P : Pic) : (rowsOf L P).length = P.n := by
  unfold rowsOf
  rw [List.length_map, List.length_range]
theorem rowsOf_get (L : Nat) {P : Pic} {r : Nat} (h : r < P.n) : (rowsOf L P)[r]? = some (rowOf L P r) := by
  unfold rowsOf
  rw [List.getElem?_map, List.getElem?_range h]
  rfl
theorem go_up {P : Pic} {L : Nat} (hp : P.Ok L) (r : Nat) : P.go r ((L : Int) + 1) = none ∧ P.go r (-((L : Int) + 1)) = none := by
  constructor
  · cases h : P.go r ((L : Int) + 1) with
    | none => rfl
    | some g => have := (hp.ok r _ g h).2.2.1; unfold stepOk at this; omega
  · cases h : P.go r (-((L : Int) + 1)) with
    | none => rfl
    | some g => have := (hp.ok r _ g h).2.2.1; unfold stepOk at this; omega
/-- a letter more that is nowhere gone -/
theorem bRow_up {P : Pic} {L : Nat} (hp : P.Ok L) (r : Nat) (o : List Nat) : bRow (L + 1) P r o = bRow L P r o := by
  unfold bRow
  rw [stepsL_succ, List.foldl_append]
  obtain ⟨a, b⟩ := go_up hp r
  simp only [List.foldl_cons, List.foldl_nil]
  unfold bStep
  rw [b, a]
theorem bfs_up {P : Pic} {L : Nat} (hp : P.Ok L) : ∀ k : Nat, bfs (L + 1) P k = bfs L P k
  | 0 => rfl
  | k + 1 => by
    unfold bfs
    rw [bfs_up hp k]
    cases (bfs L P k)[k]? with
    | none => rfl
    | some r => exact bRow_up hp r _
theorem Web.up {P : Pic} {L : Nat} (h : Web L P) (hl : L < 4) : Web (L + 1) P :=
  ⟨by omega, by omega, h.ok.up, by unfold order; rw [bfs_up h.ok]; exact h.ord, h.two⟩
theorem rowOf_up {P : Pic} {L : Nat} (hp : P.Ok L) (r : Nat) : rowOf (L + 1) P r = rowOf L P r ++ [-1] := by
  unfold rowOf
  rw [List.range_succ, List.map_append]
  simp only [List.map_cons, List.map_nil]
  rw [(go_up hp r).1]
  rfl

/-! ### naming the rooms anew -/
/-- the picture of the rooms in the order o -/
def renamed (P : Pic) (o : List Nat) : Pic := ⟨o.length, fun i s => match o[i]? with
  | some r => (P.go r s).map fun g => o.idxOf g
  | none => none⟩
section
variable {P : Pic} {L : Nat}
theorem renamed_go {o : List Nat} {i r : Nat} {s : Int} (h : o[i]? = some r) : (renamed P o).go i s = (P.go r s).map fun g => o.idxOf g := by
  show (match o[i]? with
    | some r => (P.go r s).map fun g => o.idxOf g
    | none => none) = _
  rw [h]
theorem idx_of {o : List Nat} (nd : o.Nodup) {i r : Nat} (h : o[i]? = some r) : o.idxOf r = i := by
  obtain ⟨a, b⟩ := List.getElem?_eq_some_iff.mp h
  rw [← b]
  exact nd.idxOf_getElem i a
theorem renamed_ok (hp : P.Ok L) : (renamed P (order L P)).Ok L := by
  have O := order_ok hp
  refine ⟨bfs_len_pos L P _, fun i s j e => ?_⟩
  have e : (match (order L P)[i]? with
    | some r => (P.go r s).map fun g => (order L P).idxOf g
    | none => none) = some j := e
  cases c : (order L P)[i]? with
  | none => rw [c] at e; cases e
  | some r =>
    rw [c] at e
    obtain ⟨g, hg, e⟩ := Option.map_eq_some_iff.mp e
    obtain ⟨_, _, hs, hb⟩ := hp.ok r s g hg
    have hr := List.mem_of_getElem? c
    have hgm := order_closed hp hr hg
    have hj : j < (order L P).length := by rw [← e]; exact List.idxOf_lt_length_of_mem hgm
    refine ⟨(List.getElem?_eq_some_iff.mp c).1, hj, hs, ?_⟩
    have hat : (order L P)[j]? = some g := by
      rw [List.getElem?_eq_getElem hj]
      congr 1
      have := List.getElem_idxOf (List.idxOf_lt_length_of_mem hgm)
      rw [← this]
      congr 1
      exact e.symm
    rw [renamed_go hat, hb]
    show some ((order L P).idxOf r) = some i
    rw [idx_of O.nd c]
theorem bfs_renamed (hp : P.Ok L) : ∀ k : Nat, bfs L (renamed P (order L P)) k = List.range (bfs L P k).length
  | 0 => rfl
  | k + 1 => by
    have O := order_ok hp
    have ih := bfs_renamed hp k
    have fold : ∀ (ss : List Int) (r : Nat) (o : List Nat), (∀ s ∈ ss, True) → (order L P)[k]? = some r → (ss.foldl (bStep P r) o) <+: order L P → (ss.foldl (bStep (renamed P (order L P)) k) (List.range o.length)) = List.range (ss.foldl (bStep P r) o).length := by
      intro ss
      induction ss with
      | nil => intro r o _ _ _; rfl
      | cons s ss ihs =>
        intro r o h0 hr hpre
        have hpre : (ss.foldl (bStep P r) (bStep P r o s)) <+: order L P := hpre
        have key : bStep (renamed P (order L P)) k (List.range o.length) s = List.range (bStep P r o s).length := by
          have po : bStep P r o s <+: order L P := (bFold_pre P r ss _).trans hpre
          have po0 : o <+: order L P := (bStep_pre P r o s).trans po
          unfold bStep at po ⊢
          rw [renamed_go hr]
          cases hg : P.go r s with
          | none => rfl
          | some g =>
            rw [hg] at po
            have po : (if g ∈ o then o else o ++ [g]) <+: order L P := po
            show (if (order L P).idxOf g ∈ List.range o.length then List.range o.length else List.range o.length ++ [(order L P).idxOf g]) = List.range (if g ∈ o then o else o ++ [g]).length
            by_cases c : g ∈ o
            · obtain ⟨t, z⟩ := po0
              have : (order L P).idxOf g < o.length := by
                rw [← z, idx_appL c]
                exact List.idxOf_lt_length_of_mem c
              rw [if_pos c, if_pos (List.mem_range.mpr this)]
            · rw [if_neg c] at po
              obtain ⟨t, z⟩ := po
              have e : (order L P).idxOf g = o.length := by
                rw [← z, idx_appL (List.mem_append_right _ (List.mem_singleton.mpr rfl)), idx_appR c]
              rw [if_neg c, e, if_neg (fun h => Nat.lt_irrefl _ (List.mem_range.mp h)), List.length_append, List.length_singleton, List.range_succ]
        rw [List.foldl_cons, List.foldl_cons, key]
        exact ihs r _ (fun _ _ => trivial) hr hpre
    cases c : (bfs L P k)[k]? with
    | none =>
      rw [bfs_stop (List.getElem?_eq_none_iff.mp c)]
      have : (bfs L (renamed P (order L P)) k).length ≤ k := by
        rw [ih, List.length_range]
        exact List.getElem?_eq_none_iff.mp c
      rw [bfs_stop this, ih]
    | some r =>
      have hk : k < (bfs L P k).length := (List.getElem?_eq_some_iff.mp c).1
      have hkn : k < P.n := Nat.lt_of_lt_of_le hk (bfs_ok hp k).len
      have hr : (order L P)[k]? = some r := by
        obtain ⟨t, z⟩ := bfs_pre L P (Nat.le_of_lt hkn)
        show (bfs L P P.n)[k]? = some r
        rw [← z, List.getElem?_append_left hk]
        exact c
      have c' : (bfs L (renamed P (order L P)) k)[k]? = some k := by
        rw [ih, List.getElem?_range hk]
      rw [bfs_turn c, bfs_turn c', ih]
      refine fold _ r _ (fun _ _ => trivial) hr ?_
      show bRow L P r (bfs L P k) <+: _
      rw [← bfs_turn c]
      exact bfs_pre L P hkn
/-- a picture without idle ends, its rooms named in the order of first ways, is a web -/
theorem renamed_web (hp : P.Ok L) (h1 : 1 ≤ L) (h4 : L ≤ 4) (two : ∀ r, 0 < r → r < P.n → (∃ s, (P.go r s).isSome) → ∃ s t, s ≠ t ∧ (P.go r s).isSome ∧ (P.go r t).isSome) : Web L (renamed P (order L P)) := by
  have O := order_ok hp
  refine ⟨h1, h4, renamed_ok hp, ?_, fun i h0 hi => ?_⟩
  · show bfs L (renamed P (order L P)) (order L P).length = List.range (order L P).length
    have hlen : (bfs L (renamed P (order L P)) (order L P).length).length ≤ (order L P).length := (bfs_ok (renamed_ok hp) _).len
    have e := bfs_renamed hp P.n
    have e : bfs L (renamed P (order L P)) P.n = List.range (order L P).length := e
    have e2 := bfs_end hlen (P.n - (order L P).length)
    rw [show (order L P).length + (P.n - (order L P).length) = P.n by have := O.len; omega] at e2
    rw [← e2]
    exact e
  · have hi : i < (order L P).length := hi
    have hat : (order L P)[i]? = some (order L P)[i] := List.getElem?_eq_getElem hi
    have hr : (order L P)[i] ∈ order L P := List.getElem_mem hi
    have hne : 0 < (order L P)[i] := by
      rcases Nat.eq_zero_or_pos (order L P)[i] with z | z
      · have h00 : (order L P)[0]? = some 0 := bfs_head L P _
        have a := idx_of O.nd h00
        have b := idx_of O.nd hat
        rw [z] at b
        omega
      · exact z
    obtain ⟨s, t, hst, ha, hb⟩ := two _ hne (O.lt _ hr) (by
      rcases bfs_from P.n _ hr with z | ⟨r, s, _, b⟩
      · omega
      · exact ⟨-s, by rw [(hp.ok _ _ _ b).2.2.2]; rfl⟩)
    refine ⟨s, t, hst, ?_, ?_⟩
    · rw [renamed_go hat, Option.isSome_map]; exact ha
    · rw [renamed_go hat, Option.isSome_map]; exact hb
end
end Wc
set_option Elab.async false
set_option linter.all false
set_option maxRecDepth 100000
set_option maxHeartbeats 4000000
/-! Rules of my own: enumerate over a tuple, setdefault of a dict with tuple keys, max and sorted of a tuple, a tuple turned about, a power. -/
namespace PySem
theorem meets_enumerate_new1B {v : Value} {o : Obj} {H : Heap → Prop} (B : Begins v o H) :
    Meets (Builtin.«enumerate.__new__» ⟨[.type "enumerate", v], []⟩) (fun _ R s => H s.heap ∧
      R (.ok (.ret (.ref (s.heap.push o).objs.size))) { s with heap := (s.heap.push o).push { cls := .type "enumerate", data := .fields #[.none, .bool false, .ref s.heap.objs.size, rawInt 0, .none, .none] } }) :=
  .of_wp fun prog w A R s h => by
    obtain ⟨hp, g, d, tk, os⟩ := s; obtain ⟨h1, h⟩ := h
    have hsub := sub_enumerate
    have q1 : ∀ {A' : Around} {E : Value → Shared → Prop} {Q : Value → Shared → Prop}, Q (.ref hp.objs.size) ⟨hp.push o, g, d, tk, os⟩ → wpAny (model prog w) A' (pyIter v) Q E ⟨hp, g, d, tk, os⟩ :=
      fun q => B.iter prog w _ _ ⟨hp, g, d, tk, os⟩ _ h1 q
    wp_walk using q1
    refine wpAny_stack_any fun st => wpAny_pure ?_
    split
    · rename_i c _ _ _ _ _
      cases (c == Value.type "enumerate")
      · wp_walk using q1
        exact ⟨_, rfl, h⟩
      · wp_walk using q1
        exact ⟨_, rfl, h⟩
    · wp_walk using q1
      exact ⟨_, rfl, h⟩
section
variable {prog : Program} {w : World} {A : Around} {E : Value → Shared → Prop} {s : Shared}
theorem enum_begins1 {v : Value} {o : Obj} {H : Heap → Prop} {Q : Value → Shared → Prop} (B : Begins v o H) (h1 : H s.heap)
    (h : ∀ h', IsEnum h' (s.heap.objs.size + 1) s.heap.objs.size 0 .none → h'.get? s.heap.objs.size = some o → h'.objs.size = s.heap.objs.size + 2 →
      (∀ b o, s.heap.get? b = some o → h'.get? b = some o) → Q (.ref (s.heap.objs.size + 1)) { s with heap := h' }) :
    wpAny (model prog w) A (call (.type "enumerate") [v]) Q E s := by
  refine callType_new F.called_enumerate (by decide) (F.typeCall_enumerate_1 _) (F.newCall_enumerate_1 _) (fun obj => F.args_object_init_2 obj _) F.entry_enumerate_new
    (meets_enumerate_new1B B) ⟨h1, ?_⟩
  have hz : (s.heap.push o).objs.size = s.heap.objs.size + 1 := Heap.size_push ..
  show _ ∧ _
  rw [hz]
  have he : IsEnum ((s.heap.push o).push { cls := .type "enumerate", data := .fields #[.none, .bool false, .ref s.heap.objs.size, rawInt 0, .none, .none] }) (s.heap.objs.size + 1) s.heap.objs.size 0 .none := by
    have := Heap.get?_push_size (s.heap.push o) (o := { cls := .type "enumerate", data := .fields #[.none, .bool false, .ref s.heap.objs.size, rawInt 0, .none, .none] }) rfl
    rw [hz] at this; exact this
  refine ⟨⟨_, he, rfl⟩, h _ he (Heap.get?_push_of_some _ (Heap.get?_push_size _ B.free)) (by rw [Heap.size_push, hz]) fun b o x => Heap.get?_push_of_some _ (Heap.get?_push_of_some _ x)⟩
end
end PySem

namespace L2
open PySem PySem.Spec PyProof.Rows

/-! ### enumerate(a tuple) -/
def IteT (K : PySem.W.Frag) (a : Addr) : It :=
  ⟨fun i H => ∃ (xs : List V) (x : V), SqT K H a xs ∧ xs[i]? = some x, fun i H v H' => ∃ T x, v = .ref T ∧ H T = none ∧ H' = upd H T (.tup [.int (i : Nat), x]) ∧ ∀ xs, SqT K H a xs → xs[i]? = some x, fun i H => ∃ xs : List V, SqT K H a xs ∧ xs.length ≤ i⟩
theorem turn_enumT {P : Program} {w : World} {K : PySem.W.Frag} {elts : List Expr} {kk : Nat} {tpos : Pos} (a e it : Addr) :
    Turn P w K (.Tuple elts kk tpos) (IteT K a) [e, it] e (fun i h => (∃ old, IsEnum h e it ((i : Nat) : Int) old) ∧ h.IsTupleIter it a i ∧ e ≠ it) where
  mem := by simp
  obj := fun i h st b hb => by
    obtain ⟨⟨old, he⟩, ⟨o, ho, hc, hd⟩, _⟩ := st
    have e' : b = e ∨ b = it := by simpa using hb
    rcases e' with z | z
    · rw [z]; exact ⟨_, he, fun v q => nomatch q⟩
    · rw [z]; exact ⟨o, ho, fun v q => by rw [hd] at q; cases q⟩
  keep := fun i h h' st k => let ⟨⟨old, he⟩, hi, hne⟩ := st; ⟨⟨old, k e (by simp) _ he⟩, hi.at fun o q => k it (by simp) o q, hne⟩
  item := by
    intro X hP hw hK hc i pins s σ H E I hf st hg
    subst hP hw hK
    obtain ⟨⟨old, he⟩, hit, hne⟩ := st
    obtain ⟨xs, x, hq, hx⟩ := hg
    obtain ⟨its, rv, p, hz⟩ := I.tuple hq
    obtain ⟨u, hu, ru⟩ := rv.get hx
    have hel : e < s.heap.objs.size := Heap.lt_size he
    have hil : it < s.heap.objs.size := by obtain ⟨_, q, _⟩ := hit; exact Heap.lt_size q
    have hai : a ≠ it := by
      rintro rfl
      obtain ⟨o1, h1, c1, _⟩ := hit
      obtain ⟨o2, h2, c2, _⟩ := p
      rw [h1] at h2
      cases h2
      rw [c1] at c2
      exact absurd (Value.type.inj c2) (by decide)
    have hae : a ≠ e := by
      rintro rfl
      obtain ⟨o2, h2, c2, _⟩ := p
      rw [he] at h2
      cases h2
      exact absurd (Value.type.inj c2) (by decide)
    have hn := I.ok.hd hc
    have hlt : i < its.toArray.size := by
      rw [List.size_toArray]
      exact (List.getElem?_eq_some_iff.mp hu).1
    refine wpAny_pyNext_enum_itemD (Draws.tuple (A := X.A.in1) hn it a hai its.toArray) he ⟨hit, p⟩ hlt hne (by simp [hne, Ne.symm hae]) fun y h' tk hP ho hst hT hsz hk => ?_
    have ey : y = u := by
      have hP : its.toArray[i]? = some y := hP
      rw [List.getElem?_toArray, hu] at hP
      exact (Option.some.inj hP).symm
    subst ey
    have hit' := hst.1
    refine ⟨_, rfl, wpAny_letOwnedTupleGo_enum (s := { s with heap := h', toks := tk + 1 }) ho fun h'' he' sb => ?_⟩
    have hT2 : h''.get? s.heap.objs.size = some { cls := .type "tuple", data := .seq #[.int i tk, y] } := (sb.2 _ (Nat.ne_of_gt hel)).trans hT
    have new : ObjOk X.prog X.w (upd H s.heap.objs.size (.tup [.int (i : Nat), x])) h'' s.heap.objs.size (.tup [.int (i : Nat), x]) :=
      ⟨by show 2 ≤ sizeLine; decide, [.int i tk, y], .cons ⟨_, rfl⟩ (.cons ru .nil), ⟨_, hT2, rfl, _, rfl⟩⟩
    have I1 : Inv X pins σ (upd H s.heap.objs.size (.tup [.int (i : Nat), x])) { s with heap := h'', toks := tk + 1 } :=
      I.turnedNew (ch := [e, it]) (fun b ob hb q => (sb.2 b (fun z => hb (by simp [z]))).trans (hk b ob (fun z => hb (by simp [z])) (fun z => hb (by simp [z])) q)) hf (Nat.le_refl _) new
    refine ⟨.ref s.heap.objs.size, _, I1, rfl, ⟨_, x, rfl, I.hok.fresh (Nat.le_refl _), rfl, fun ys hy => by rw [I.tuple_inj hy hq]; exact hx⟩, ⟨⟨y, ?_⟩, hit'.at fun o q => (sb.2 it (Ne.symm hne)).trans q, hne⟩, fun b hb => ?_⟩
    · have e1 : ((i + 1 : Nat) : Int) = (i : Int) + 1 := by omega
      rw [e1]; exact he'
    · have hb' : b < s.heap.objs.size := by
        have e' : b = e ∨ b = it := by simpa using hb
        rcases e' with z | z
        · rw [z]; exact hel
        · rw [z]; exact hil
      rw [upd_ne (Nat.ne_of_lt hb')]
      exact (hf b hb).1
  done := by
    intro X hP hw hK hc i pins s σ H E I hf st hg
    subst hP hw hK
    obtain ⟨⟨old, he⟩, hit, hne⟩ := st
    obtain ⟨xs, hq, hx⟩ := hg
    obtain ⟨its, rv, p, hz⟩ := I.tuple hq
    obtain ⟨f0, f1, f2, f3, f4, f5⟩ := hf it (by simp)
    have hl := rv.length
    have hn := I.ok.hd hc
    have hT : s.TypeIs (.ref e) "enumerate" := ⟨_, he, rfl⟩
    unfold pyNext
    refine wpAny_bind (wpAny_attempt (wpAny_callSpecial?_slot (name := Str.ofString "__next__") hT F.slot_enumerate_next
      (wpAny_call_entry F.slot_enumerate_next hT F.entry_enumerate_next ?_ (F.args_enumerate_next_1 _))))
    show wpAny _ _ (field (.ref e) 2 >>= _) _ _ _
    refine wpAny_bind (wpAny_field he rfl (x := .ref it) rfl ?_)
    refine wpAny_bind (wpAny_nextOf_tuple_end (A := X.A.in1) hn hit p (by rw [List.getElem?_toArray]; exact List.getElem?_eq_none (by omega)) fun h' x he' hx' => ?_)
    obtain ⟨o, ho, hc'⟩ := hx'
    refine wpAny_bind (wpAny_isInstance (T := "StopIteration") (b := true) ⟨o, ho, hc'⟩ isSubtype_stop ?_)
    exact wpAny_pure ⟨rfl, I.turned (t' := s.toks) (fun b o hb q => he' b o hb q) f0 f1 f3 f4 f5⟩
  self := fun A i s Q E st h => let ⟨⟨_, he⟩, _⟩ := st; wpAny_pyIter_enum he h
def iEnumT (K : PySem.W.Frag) (ta : TA) : TI := fun σ H R => ta σ H fun vs H1 => ∃ a xs, vs = [.ref a] ∧ SqT K H1 a xs ∧ R (IteT K a) H1
theorem pi_enumT {X : Cx} {e : Expr} {ta : TA} {p pos tpos : Pos} {elts : List Expr} {kk : Nat} (hg : Gl X "enumerate") (hm : X.mg "enumerate" = none) (ha : PA X [e] ta) (hs : starEach [e] X.env = [(false, eval e X.env)] := by rfl) :
    PI X (.Tuple elts kk tpos) (.Call (.Name "enumerate" p) [e] [] pos) (iEnumT X.K ta) := by
  refine ⟨fun pins s σ H R I h => ?_⟩
  refine Call_ (ld_blt I hg hm boot_enumerate (PyProof.Rows.callWith_type1 (thn (ha.run pos pins s σ H _ I h) fun us s1 ⟨vs, H1, I1, r1, q1⟩ => ?_) hs rfl))
  obtain ⟨a, xs, ex, hq, q⟩ := q1
  subst ex
  cases r1 with
  | cons r rr =>
    cases rr
    cases r
    obtain ⟨its, rv, p', hz⟩ := I1.tuple hq
    refine enum_begins1 (begins_tuple a its.toArray) p' fun h' he hit hsz hk => wpAny_pyIter_enum he ?_
    have I2 : Inv X pins σ H1 { s1 with heap := h' } := I1.kept (t' := s1.toks) hk
    refine ⟨s1.heap.objs.size + 1, [s1.heap.objs.size + 1, s1.heap.objs.size], _, _, H1, rfl, I2, turn_enumT a (s1.heap.objs.size + 1) s1.heap.objs.size, ⟨⟨.none, he⟩, ⟨_, hit, rfl, rfl⟩, Nat.succ_ne_self _⟩, fun b hb => ?_, q⟩
    have e' : b = s1.heap.objs.size + 1 ∨ b = s1.heap.objs.size := by simpa using hb
    have hle : s1.heap.objs.size ≤ b := by
      rcases e' with z | z
      · rw [z]; exact Nat.le_add_right _ _
      · rw [z]; exact Nat.le_refl _
    exact I1.fpOk hle (I1.hok.fresh hle)
theorem walk_enumT {K : PySem.W.Frag} {a : Addr} {xs : List V} : Walk (IteT K a) xs.length (fun H => SqT K H a xs) (YPair (fun i => some (.int (i : Nat))) (fun i => xs[i]?)) :=
  ⟨fun i _ hi q => ⟨xs, xs[i], q, by simp [hi]⟩, fun _ q => ⟨xs, q, Nat.le_refl _⟩, fun i _ _ _ _ q y => by
    obtain ⟨T, x, h1, h2, h3, h4⟩ := y
    exact ⟨T, _, x, h1, h2, h3, rfl, h4 xs q⟩⟩

/-! ### a power of a greater base -/
def CPowW (i j : Int) : Prop := 0 ≤ j ∧ (Builtin.Int.intBits i : Int) * j ≤ 2 ^ 27
theorem op_powW {X : Cx} : OpR X (binaryOp .Pow) (rI CPowW fun i j => .int (i ^ j.toNat)) := opI fun _ _ _ _ _ _ _ hc q => pow_int hc.1 hc.2 q

/-! ### max(t), t a tuple of ints -/
def rMaxT (K : PySem.W.Frag) : List V → Hp → VK → Prop := fun vs H Q => ∃ (a : Addr) (ns : List Int), vs = [V.ref a] ∧ SqT K H a (ns.map V.int) ∧ 0 < ns.length ∧ ∀ m, m ∈ ns → (∀ y, y ∈ ns → y ≤ m) → Q (.int m) H
theorem dpAll_ints {K : PySem.W.Frag} {H : Hp} : ∀ ns : List Int, DpAll K H (ns.map V.int) (ns.map PyData.int)
  | [] => .nil
  | n :: r => .cons (.int n) (dpAll_ints r)
theorem foldl_max_mem : ∀ (ns : List Int) (n : Int), ns.foldl max n ∈ n :: ns
  | [], n => List.mem_cons_self
  | k :: r, n => by
    have h := foldl_max_mem r (max n k)
    rw [List.foldl_cons]
    rcases List.mem_cons.mp h with e | e
    · rw [e]
      rcases Int.le_total n k with c | c
      · rw [Int.max_eq_right c]; exact List.mem_cons_of_mem _ List.mem_cons_self
      · rw [Int.max_eq_left c]; exact List.mem_cons_self
    · exact List.mem_cons_of_mem _ (List.mem_cons_of_mem _ e)
theorem foldl_max_le : ∀ (ns : List Int) (n : Int), ∀ y ∈ n :: ns, y ≤ ns.foldl max n
  | [], n, y, h => by rw [List.mem_singleton.mp h]; exact Int.le_refl _
  | k :: r, n, y, h => by
    have ih := foldl_max_le r (max n k)
    rw [List.foldl_cons]
    have h0 := ih (max n k) List.mem_cons_self
    rcases List.mem_cons.mp h with e | e
    · rw [e]; exact Int.le_trans (Int.le_max_left n k) h0
    · rcases List.mem_cons.mp e with e | e
      · rw [e]; exact Int.le_trans (Int.le_max_right n k) h0
      · exact ih y (List.mem_cons_of_mem _ e)
theorem cr_maxT {X : Cx} (hc : X.calm = true) (hu : X.A.units + 64 < cLine) : CallR X (.builtin "max") (rMaxT X.K) := by
  intro pins s σ H vs us Q I r h
  obtain ⟨a, ns, rfl, hs, hne, q⟩ := h
  obtain ⟨its, rv, ht, hz⟩ := I.tuple hs
  rw [Vals.ref1 r]
  obtain ⟨n, rest, rfl⟩ : ∃ n rest, ns = n :: rest := by
    cases ns with
    | nil => exact absurd hne (by decide)
    | cons n rest => exact ⟨n, rest, rfl⟩
  obtain ⟨as, rs⟩ := Dp.readsAll I ((n :: rest).map PyData.int) _ its (dpAll_ints _) rv
  have hAl : PySem.W.AlikeAll ((n :: rest).map PyData.int) := PySem.W.alikeAll_datum (α := Int) (n :: rest)
  have hdep : PyData.depthAll ((n :: rest).map PyData.int) = 0 := Nat.le_zero.mp (PySem.W.depthAll_map (α := Int) (n :: rest))
  have hdep2 : PyData.depthAll (PyData.int n :: rest.map PyData.int) = 0 := hdep
  have hroom : X.A.units + 1 + PyData.depthAll (PyData.int n :: rest.map PyData.int) < cLine := by
    rw [hdep2]
    omega
  refine PySem.W.max_tuple_data (I.ok.hd hc) (show s.heap.IsTuple a its.toArray from ht) (x := .int n) (xs := rest.map .int) (by simpa using rs) hAl hroom fun i v h' tk bs hv hr hk => ?_
  rw [PySem.W.maxD_ints] at hr
  have hv' : ∃ t, v = .int (rest.foldl max n) t := by
    cases hr with
    | int i t => exact ⟨t, rfl⟩
  obtain ⟨t, rfl⟩ := hv'
  exact ⟨.int (rest.foldl max n), H, I.kept (t' := tk) hk, ⟨t, rfl⟩, q _ (foldl_max_mem rest n) (foldl_max_le rest n)⟩

/-! ### t[::-1], t a tuple -/
theorem places_back (n : Nat) : Builtin.Slice.slicePlaces ((n : Int) - 1) (-1) (-1) = n := by
  unfold Builtin.Slice.slicePlaces
  rw [if_neg (by decide)]
  by_cases h : (n : Int) - 1 > -1
  · rw [if_pos h]
    have : ((n : Int) - 1 - -1 - 1) / (- -1) + 1 = (n : Int) := by
      rw [show (- -1 : Int) = 1 by decide, Int.ediv_one]
      omega
    rw [this, Int.toNat_natCast]
  · rw [if_neg h]
    have : n = 0 := by omega
    subst this
    rfl
theorem pick_back (xs : Array Value) : ((List.range xs.size).filterMap fun (m : Nat) => xs[(((xs.size : Int) - 1) + (m : Int) * -1).toNat]?).toArray = xs.toList.reverse.toArray := by
  have e : (List.range xs.size).filterMap (fun (m : Nat) => xs[(((xs.size : Int) - 1) + (m : Int) * -1).toNat]?) = (((List.range xs.size).map (fun k => xs.size - 1 - k)).filterMap (xs[·]?)) := by
    rw [List.filterMap_map]
    congr 1
    funext m
    have : (((xs.size : Int) - 1) + (m : Int) * -1).toNat = xs.size - 1 - m := by omega
    show xs[(((xs.size : Int) - 1) + (m : Int) * -1).toNat]? = xs[xs.size - 1 - m]?
    rw [this]
  rw [e, PySem.W.krv_range, List.filterMap_reverse, PySem.W.krv_all]
section
variable {prog : Program} {w : World} {A : Around} {E : Value → Shared → Prop} {s : Shared}
theorem sliceApplied_back {sl : Addr} {vl vu vk : Value} {n : Nat} {Q : Int × Int × Nat → Shared → Prop} (hs : s.heap.IsSliceOf sl vl vu vk) (pl : IsPart vl none) (pu : IsPart vu none) (pk : IsPart vk (some (-1)))
    (h : Q ((n : Int) - 1, -1, n) s) : wpAny (model prog w) A (Builtin.Slice.sliceApplied (.ref sl) (pure (n : Int))) Q E s := by
  obtain ⟨os, hos, hcs, hds⟩ := id hs
  unfold Builtin.Slice.sliceApplied Builtin.Slice.sliceFields
  refine wpAny_bind (wpAny_bind (wpAny_field hos hds (x := vl) rfl (wpAny_bind (wpAny_field hos hds (x := vu) rfl (wpAny_bind (wpAny_field hos hds (x := vk) rfl (wpAny_pure ?_)))))))
  refine wpAny_bind (HT.slicePart_ pk ?_)
  show wpAny _ _ (if ((-1 : Int) == 0) = true then _ else _) _ _ s
  rw [if_neg (by decide)]
  refine wpAny_bind (HT.slicePart_ pl (wpAny_bind (HT.slicePart_ pu (wpAny_bind (wpAny_pure ?_)))))
  show wpAny _ _ (pure (((n : Int) - 1), (-1 : Int), Builtin.Slice.slicePlaces ((n : Int) - 1) (-1) (-1))) _ _ s
  rw [places_back]
  exact wpAny_pure h
theorem getItem_tuple_back {t sl : Addr} {items : Array Value} {vl vu vk : Value} {Q : Value → Shared → Prop} (ht : IsTup s.heap t items) (hs : s.heap.IsSliceOf sl vl vu vk) (pl : IsPart vl none) (pu : IsPart vu none) (pk : IsPart vk (some (-1)))
    (h : Q (.ref s.heap.objs.size) { s with heap := s.heap.push { cls := .type "tuple", data := .seq items.toList.reverse.toArray } })
    (hsz : items.size ≤ sizeLine) : wpAny (model prog w) A (getItem (.ref t) (.ref sl)) Q E s := by
  have htake : sizeOk (.seq items.toList.reverse.toArray) := by
    show items.toList.reverse.toArray.size ≤ sizeLine
    rw [List.size_toArray, List.length_reverse, Array.length_toList]
    exact hsz
  obtain ⟨os, hos, hcs, hds⟩ := id hs
  have hTs : s.TypeIs (.ref sl) "slice" := ⟨os, hos, hcs⟩
  unfold getItem
  try with_reducible refine wpAny_holding ?_
  first | refine wpAny_bind (wpAny_pure ?_) | skip
  refine wpAny_bind (wpAny_sequenceKey ht.typeIs (by decide) ?_)
  refine wpAny_bind (wpAny_callSpecial?_slot (name := Str.ofString "__getitem__") ht.typeIs PyProof.Rows.slot_tuple_getitem
    (wpAny_call_entry PyProof.Rows.slot_tuple_getitem ht.typeIs PyProof.Rows.entry_tuple_getitem ?_ (PyProof.Rows.args_tuple_getitem _ _)))
  show wpAny _ _ (Builtin.Tuple.tupleItemsOf (.ref t) >>= _) _ _ s
  refine wpAny_bind (tupleItemsOf_ ht ?_)
  refine wpAny_bind (wpAny_typeOf hTs ?_)
  rw [if_pos (by decide)]
  refine wpAny_bind (sliceApplied_back hs pl pu pk ?_)
  have hno : ¬ ((((items.size : Int) - 1) == 0 && (-1 : Int) == 1 && items.size == items.size) = true) := by
    intro q
    rw [Bool.and_eq_true, Bool.and_eq_true] at q
    exact absurd q.1.2 (by decide)
  show wpAny _ _ (if (((items.size : Int) - 1) == 0 && (-1 : Int) == 1 && items.size == items.size) = true then _ else _) _ _ s
  rw [if_neg hno, pick_back]
  first
    | exact wpAny_bind (m := Builtin.Tuple.tupleExact _) (wpAny_newObj_type (wpAny_pure ⟨_, rfl, wpAny_pure h⟩) htake)
    | exact wpAny_bind (m := Builtin.Tuple.tupleExact _) (wpAny_newObj_type (wpAny_bind (wpAny_pure (wpAny_pure ⟨_, rfl, wpAny_pure h⟩))) htake)
    | exact wpAny_bind (wpAny_bind (m := Builtin.Tuple.tupleExact _) (wpAny_newObj_type (wpAny_pure (wpAny_pure ⟨_, rfl, wpAny_pure h⟩)) htake))
    | exact wpAny_bind (wpAny_bind (m := Builtin.Tuple.tupleExact _) (wpAny_newObj_type (wpAny_pure ⟨_, rfl, wpAny_pure h⟩) htake))
end
def tRevT (K : PySem.W.Frag) (te : TE) : TE := fun σ H Q => te σ H fun x H1 => ∃ a xs, x = .ref a ∧ SqT K H1 a xs ∧ ∀ p, H1 p = none → Q (.ref p) (upd H1 p (.tup xs.reverse))
theorem pe_revT {X : Cx} {e : Expr} {te : TE} {k : Nat} {p1 p2 p3 pos : Pos} (he : PE X e te) : PE X (.Subscript e (.Slice none none (some (.UnaryOp .USub (.Constant (.int 1) k p1) p2)) p3) pos) (tRevT X.K te) := by
  refine ⟨fun pins s σ H Q I h => ?_⟩
  refine Subscript_ (thn (he.run pins s σ H _ I h) fun v s1 ⟨x, H1, I1, r1, q1⟩ => ?_)
  obtain ⟨a, xs, ex, hx, q⟩ := q1
  subst ex
  cases r1
  have hst : PO X (some (.UnaryOp .USub (.Constant (.int 1) k p1) p2)) (tPart (tUn (rU fun i => .int (-i)) (tC (.int 1)))) := po_some (pe_un un_neg pe_int)
  refine wpAny_Slice (thn (po_none.run pins s1 σ H1 (fun o H2 => o = none ∧ H2 = H1) I1 ⟨rfl, rfl⟩) fun vl s2 ⟨l, H2, I2, pl, el, e2⟩ => ?_)
  subst el e2
  refine thn (po_none.run pins s2 σ H2 (fun o H3 => o = none ∧ H3 = H2) I2 ⟨rfl, rfl⟩) fun vu s3 ⟨u, H3, I3, pu, eu, e3⟩ => ?_
  subst eu e3
  refine thn (hst.run pins s3 σ H3 (fun o H4 => o = some (-1) ∧ H4 = H3) I3 ⟨1, rfl, -1, rfl, rfl, rfl⟩) fun vs s4 ⟨o, H4, I4, ps, eo, e4⟩ => ?_
  subst eo e4
  have I5 : Inv X pins σ H4 { s4 with heap := s4.heap.push { cls := .type "slice", data := .fields #[vl, vu, vs] } } := I4.kept (t' := s4.toks) fun b ob q => Heap.get?_push_of_some _ q
  obtain ⟨its, r, ht, hz⟩ := I5.tuple hx
  have hlen := r.length
  show wpAny (model X.prog X.w) X.A (subscriptTail e (.Slice none none (some (.UnaryOp .USub (.Constant (.int 1) k p1) p2)) p3) (.ref a) (.ref s4.heap.objs.size)) (EP X pins σ Q) X.xe { s4 with heap := s4.heap.push { cls := .type "slice", data := .fields #[vl, vu, vs] } }
  refine tail_any (ops := [.ref a, .ref s4.heap.objs.size]) ht.typeIs (PyProof.Rows.slot_tuple_getitem.lookup) ?_ (by with_unfolding_all rfl)
  refine getItem_tuple_back ht (Heap.IsSliceOf.new _ vl vu vs) pl pu ps ?_ (by rw [List.size_toArray]; omega)
  refine ⟨.ref _, _, I5.laid (t' := s4.toks) (o := .tup xs.reverse) (fun b ob q => Heap.get?_push_of_some _ q) (Nat.le_refl _) ?_, rfl, q _ (I5.hok.fresh (Nat.le_refl _))⟩
  exact ⟨by rw [List.length_reverse]; exact hz, _, r.reverse, IsTup.new _ _⟩

/-! ### d.setdefault(t, x), d a dict with tuple keys -/
def tDSetdT (td ty tx : TE) : TE := fun σ H Q => td σ H fun x H1 => ∃ a, x = .ref a ∧ IsD H1 a ∧ ty σ H1 fun y H2 => tx σ H2 fun z H3 => ∃ (kvs : List (List Key × V)) (k : List Key) (b : Addr), H3 a = some (.dT kvs) ∧ y = .ref b ∧ H3 b = some (.tup (k.map kV)) ∧ kvs.length < sizeLine ∧
  (∀ v, valV kvs k = some v → Q v H3) ∧ (valV kvs k = none → Q z (upd H3 a (.dT (putK kvs k z))))
theorem pe_dsetdT {X : Cx} {o e f : Expr} {td ty tx : TE} {apos cpos : Pos} (hu : X.A.units + 1 < cLine) (ho : PE X o td) (he : PE X e ty) (hf : PE X f tx) (m : M2 X o "setdefault" apos e f cpos) : PE X (.Call (.Attribute o "setdefault" apos) [e, f] [] cpos) (tDSetdT td ty tx) := by
  refine ⟨fun pins s σ H Q I h => ?_⟩
  refine wpAny_Call_method m.base m.few m.line PySem.F.plainAttrs_dict PySem.F.slot_dict_setdefault PySem.F.type_dict_setdefault (thn (ho.run pins s σ H _ I h) fun u s1 ⟨x, H1, I1, rx, a, ex, d, q1⟩ => ?_)
  subst ex
  obtain rfl : u = Value.ref a := rx
  obtain ⟨t1, t2, _⟩ := isD_at I1 d
  refine ⟨t1, t2, ?_⟩
  rw [m.trees]
  refine Calls.callWith_builtin rfl (Calls.evalArgs_plain (Calls.spliced_cons (thn (he.run pins s1 σ H1 _ I1 q1) fun iv s2 ⟨y, H2, I2, ry, q2⟩ =>
    Calls.spliced_cons (thn (hf.run pins s2 σ H2 _ I2 q2) fun fv s3 ⟨z, H3, I3, rz, kvs, k, b, ea, ey, eb, hl, q3, q4⟩ => Calls.spliced_nil ?_))))
  subst ey
  obtain rfl : iv = Value.ref b := ry
  obtain ⟨hzl, hd, xs, rel, dd⟩ := dt_of I3.hok ea
  have hz : xs.length ≤ sizeLine := by rw [← Paired.length rel]; exact hzl
  have rv := rel.val k
  refine call_setdefault_heap (hsz := hz) (tupleKind_room_in1 hu) (key_of I3.hok eb) hd dd (fun p hp => ?_) (fun hn h' dd' hs => ?_)
  · rw [hp] at rv
    cases c : valV kvs k with
    | none => rw [c] at rv; exact rv.elim
    | some v =>
      rw [c] at rv
      exact ⟨v, _, I3.tok _, rv, q3 v c⟩
  · rw [hn] at rv
    cases c : valV kvs k with
    | some v => rw [c] at rv; exact rv.elim
    | none =>
      have hl' : (putK kvs k z).length ≤ sizeLine := by have := length_putK kvs k z; omega
      obtain ⟨q, es, ep, hq, h2, h3, h4, _, h5⟩ := dd'
      refine ⟨z, _, d_write (ob := .dT (putK kvs k z)) I3 (by rw [ea]; exact True.intro) hs ⟨q, hq⟩ ⟨hl', hd, _, (rel.put k eb rz).keeps fun c ys ec => ?_, q, es, ep, hq, h2, h3, h4, h5⟩, rz, q4 c⟩
      rw [upd_ne (ne_of ec ea (fun z => nomatch z))]
      exact ec
end L2

/-! ### sorted(t), t a tuple of ints -/
namespace SrtO
open PySem PySem.Spec PyProof.Rows
section
variable {prog : Program} {w : World} {A : Around} {E : Value → Shared → Prop} {s : Shared}
theorem collect_tup {l : Addr} {vs : List Value} {Q : List Value → Shared → Prop} (hl : IsTup s.heap l vs.toArray)
    (h : Q vs { s with heap := (s.heap.push (seqObj "list" #[] 0)).update s.heap.objs.size (Obj.mapSeq (· ++ vs.toArray)) }) (hsz : vs.length ≤ sizeLine) :
    wpAny (model prog w) A (collect (.ref l)) Q E s := by
  obtain ⟨o, ho, hc, n, hd⟩ := id hl
  unfold collect
  refine wpAny_bind (wpAny_runValue (codeAny_builtin entry_proto_collect' ?_))
  show wpAny _ _ (do again (.builtin "list.__iadd__" ⟨[← newList [], .ref l], []⟩)) _ _ s
  refine wpAny_bind (wpAny_newList (wpAny_pure ⟨Code.quiet_builtin _ (by decide +kernel), codeAny_builtin entry_list_iadd' ?_⟩))
  show wpAny _ _ (Builtin.List.listExtendWith (.ref s.heap.objs.size) (.ref l) (.ref s.heap.objs.size)) _ _ { s with heap := s.heap.push (seqObj "list" #[] 0) }
  unfold Builtin.List.listExtendWith
  have ho' : (s.heap.push (seqObj "list" #[] 0)).get? l = some o := Heap.get?_push_of_some _ ho
  refine wpAny_bind (wpAny_typeOf (T := "tuple") ⟨o, ho', hc⟩ ?_)
  have ht : (Value.type "tuple" == Value.type "tuple") = true := by rfl
  rw [if_pos (by rw [ht]; simp)]
  refine wpAny_bind (listItems_at ho' hd ?_)
  refine wpAny_bind (listItems_at (xs := #[]) (n := 0) (Heap.get?_push_size _ rfl) rfl ?_)
  rw [if_neg (by simp)]
  refine wpAny_bind (listUpdate_at (xs := #[]) (n := 0) (Heap.get?_push_size _ rfl) rfl ?_ (Nat.zero_le _) (by show (#[] ++ vs.toArray).size ≤ sizeLine + 1; simp only [Array.size_append, List.size_toArray, List.length_nil]; omega))
  refine wpAny_pure ?_
  show wpAny (model prog w) A (do
      let o ← load s.heap.objs.size
      match o.data with
      | .seq xs _ => pure xs.toList
      | _ => unsupported "internal:collect") Q E { s with heap := (s.heap.push (seqObj "list" #[] 0)).update s.heap.objs.size (Obj.mapSeq (· ++ vs.toArray)) }
  refine wpAny_bind (wpAny_load (get?_update_seq (Heap.get?_push_size _ rfl) _) ?_)
  show wpAny _ _ (pure ((#[] : Array Value) ++ vs.toArray).toList) Q E _
  rw [show ((#[] : Array Value) ++ vs.toArray).toList = vs by simp]
  exact wpAny_pure h
theorem sorted_ordT {l : Addr} {vs : List Value} {ltv : Value → Value → Bool} {Q : Value → Shared → Prop} (O : Swo ltv) (hl : IsTup s.heap l vs.toArray) (hz : vs.length ≤ sizeLine)
    (hS : 2 ≤ vs.length → ∀ (h₁ : Heap) (a : Addr), h₁.get? a = some (seqObj "list" vs.toArray 0) → (∀ b o, s.heap.get? b = some o → b ≠ a ∧ h₁.get? b = some o) → SortableO prog w A.in1.in1 { s with heap := h₁ } a vs ltv)
    (h : ∀ out : List Value, Srtd ltv out → Stb ltv out vs → Q (.ref (s.heap.objs.size + 1)) { s with heap := sortedAll s.heap vs out.toArray }) :
    wpAny (model prog w) A (call (.builtin "sorted") [.ref l]) Q E s := by
  refine Calls.call_function_entry kind_sorted plain_sorted entry_sorted (args_sorted1 _) ?_
  unfold Builtin.«sorted»
  refine wpAny_bind (m := checkCount "sorted" 1 1 _) (wpAny_pure ?_)
  refine wpAny_bind (collect_tup hl ?_ hz)
  refine wpAny_bind (wpAny_newList ?_ hz)
  have hsz : ((s.heap.push (seqObj "list" #[] 0)).update s.heap.objs.size (Obj.mapSeq (· ++ vs.toArray))).objs.size = s.heap.objs.size + 1 := by
    rw [Heap.size_update, size_push']
  have hoL : (((s.heap.push (seqObj "list" #[] 0)).update s.heap.objs.size (Obj.mapSeq (· ++ vs.toArray))).push (seqObj "list" vs.toArray 0)).get? (s.heap.objs.size + 1) = some (seqObj "list" vs.toArray 0) := by
    rw [← hsz]; exact Heap.get?_push_size _ rfl
  have keep : ∀ b o, s.heap.get? b = some o → b ≠ s.heap.objs.size + 1 ∧ (((s.heap.push (seqObj "list" #[] 0)).update s.heap.objs.size (Obj.mapSeq (· ++ vs.toArray))).push (seqObj "list" vs.toArray 0)).get? b = some o := fun b o q => by
    have hlt : b < s.heap.objs.size := Heap.lt_size q
    refine ⟨Nat.ne_of_lt (Nat.lt_succ_of_lt hlt), Heap.get?_push_of_some _ ?_⟩
    rw [Heap.get?_update_ne _ _ _ _ (Nat.ne_of_lt hlt)]
    exact Heap.get?_push_of_some _ q
  show wpAny _ _ _ _ _ { s with heap := ((s.heap.push (seqObj "list" #[] 0)).update s.heap.objs.size (Obj.mapSeq (· ++ vs.toArray))).push (seqObj "list" vs.toArray 0) }
  rw [hsz]
  refine wpAny_bind (wpAny_holding (wpAny_call_entry slot_list_sort ⟨_, hoL, rfl⟩ entry_list_sort (list_sort_ord O hoL hz (fun h2 => hS h2 _ _ hoL keep) fun out hs hb => ⟨_, rfl, ?_⟩) (args_list_sort _)))
  exact wpAny_pure ⟨_, rfl, h out hs hb⟩
end
end SrtO
namespace L2
open PySem PySem.Spec PyProof.Rows
def rSortedTI (K : PySem.W.Frag) : List V → Hp → VK → Prop := fun vs H Q => ∃ (a : Addr) (ns : List Int), vs = [V.ref a] ∧ SqT K H a (ns.map V.int) ∧
  ∀ (ns' : List Int) (p : Addr), ns'.Perm ns → ns'.Pairwise (· ≤ ·) → H p = none → Q (.ref p) (upd H p (.lst (ns'.map V.int)))
theorem cr_sortedTI {X : Cx} : CallR X (.builtin "sorted") (rSortedTI X.K) := by
  intro pins s σ H vs us Q I r h
  obtain ⟨a, ns, rfl, hs, q⟩ := h
  obtain ⟨its, rv, hl, hz⟩ := I.tuple hs
  rw [Vals.ref1 r]
  have hi := rv.ints
  refine SrtO.sorted_ordT SrtO.swo_int hl (by rw [← rv.length]; exact hz) (fun h2 h₁ a' _ _ => SrtO.ints_sortable hi h2) fun out h1 h2 => ?_
  obtain ⟨k1, k2, k3⟩ := SrtO.ints_out hi h1 h2
  obtain ⟨ep, he'⟩ := PyProof.Rows.sortedAll_at s.heap its out.toArray
  have hlen : ((out.map SrtO.iv).map V.int).length ≤ sizeLine := by
    rw [List.length_map, k2.length_eq]
    rw [List.length_map] at hz
    exact hz
  exact ⟨.ref _, upd H (s.heap.objs.size + 1) (.lst ((out.map SrtO.iv).map V.int)), I.laid (t' := s.toks) (fun _ _ => PyProof.Rows.sortedAll_old) (Nat.le_succ _) ⟨hlen, out, ep, vals_of_ints k1, he'⟩, rfl, q _ _ k2 k3 (I.hok.fresh (Nat.le_succ _))⟩
end L2
set_option Elab.async false
set_option linter.all false
set_option maxRecDepth 100000
set_option maxHeartbeats 4000000
/-! The text by places, promises, what stands in the heap. -/
namespace Wk
open PySem L2 Wc
/-! ### the text -/
def top (i : Nat) : Stmt := PySem.Challenge.pw_walkclubs_k81_whole_least_papers_by_all.main.body.getD i (.Pass ⟨0, 0, 0, 0⟩)
/-- the built-ins are still the built-ins -/
structure Bi (mg : Str → Option Value) : Prop where
  len : mg "len" = none
  range : mg "range" = none
  enumerate : mg "enumerate" = none
  isinstance : mg "isinstance" = none
  int : mg "int" = none
  bool : mg "bool" = none
  tuple : mg "tuple" = none
  list : mg "list" = none
  dict : mg "dict" = none
  set : mg "set" = none
  all : mg "all" = none
  any : mg "any" = none
  sorted : mg "sorted" = none
  min : mg "min" = none
  max : mg "max" = none
  abs : mg "abs" = none
  sum : mg "sum" = none
  repr : mg "repr" = none
  letters : ∃ t, mg "MOST_LETTERS" = some (.int 4 t)
  places : ∃ t, mg "MOST_PLACES" = some (.int 40 t)
  walks : ∃ t, mg "MOST_WALKS" = some (.int 4 t)
/-- a def of the top as it stands -/
structure Df (K : PySem.W.Frag) (mg : Str → Option Value) (x : Str) (st : Stmt) (ps : List Str) : Prop where
  ex : ∃ (f : Addr) (fd : FuncData), Fun K x x st f fd ∧ mg x = some (.ref f) ∧ Binds K fd ps []
/-- a def that keeps its promise, by at most k calls one in another -/
structure Has (P : Program) (w : World) (K : PySem.W.Frag) (mg : Str → Option Value) (base : Heap) (k : Nat) (x : Str) (ps : List Str) (sp : Sp) : Prop where
  ex : ∃ (f : Addr) (fd : FuncData), FnOk P w K mg base CX0 k f fd ps sp ∧ mg x = some (.ref f) ∧ PySem.W.keepIn K (.ref f) = true ∧ Binds K fd ps []
theorem Has.mono {P : Program} {w : World} {K : PySem.W.Frag} {mg : Str → Option Value} {base : Heap} {j k : Nat} {x : Str} {ps : List Str} {sp : Sp} (h : Has P w K mg base j x ps sp) (hk : j ≤ k) : Has P w K mg base k x ps sp := by
  obtain ⟨f, fd, a, b, c, d⟩ := h.ex
  exact ⟨f, fd, a.mono hk, b, c, d⟩
def tHas (sp : Sp) (t : TA) : TE := fun σ H Q => t σ H fun vs H1 => sp vs H1 Q E0
theorem pe_has {X : Cx} {k : Nat} {x : Str} {ps : List Str} {sp : Sp} {e : Expr} {es : List Expr} {t : TA} {p pos : Pos} (h : Has X.prog X.w X.K X.mg X.base k x ps sp) (hr : Room k X.A) (ha : PA X (e :: es) t) (hg : Gl X x := by rfl)
    (hdb : (x == ("__debug__" : Str)) = false := by decide) (he : starEach (e :: es) X.env = (false, eval e X.env) :: starEach es X.env := by rfl) (hpl : (backTo pos (starEach es X.env)).any (·.1) = false := by rfl) :
    PE X (.Call (.Name x p) (e :: es) [] pos) (tHas sp t) := by
  obtain ⟨f, fd, a, b, c, d⟩ := h.ex
  have z := pe_call (p := p) (pos := pos) (E := E0) a hr hg b c d .nil pass0 ha hdb he hpl
  have e : tCall sp [] E0 t = tHas sp t := by
    funext σ H Q
    unfold tCall tHas
    congr 1
    funext vs H1
    rw [List.append_nil]
  rw [e] at z
  exact z
theorem Df.ok {P : Program} {w : World} {K : PySem.W.Frag} {mg : Str → Option Value} {base : Heap} {x : Str} {st : Stmt} {N ps : List Str} {k : Nat} {sp : Sp} (F : Df K mg x st ps) (S : FnScope N ps (defScope st)) (len : ∀ vs H Q E, sp vs H Q E → vs.length = ps.length)
    (hbody : ∀ (f : Addr) (cdv : Value) (A : Around) (outer : List Env) (s : Shared) (H : Hp) (vs : List V) (Q : VK) (E : XK), Room k (A.deeper (PyProof.Rows.envOfC x (defScope st) s.heap.objs.size f cdv)) → sp vs H Q E →
      ∃ t, PSs (cxOf CX0 P w K mg base N x (defScope st) f cdv A outer s H E).nox (defBody st) t ∧ t { nx := fun _ H' => Q .non H', rt := Q } (start N vs) H) : Has P w K mg base (k + 1) x ps sp := by
  obtain ⟨f, fd, a, b, c⟩ := F.ex
  exact ⟨f, fd, a.ok S len (hbody f), b, a.kp, c⟩
theorem small {n : Nat} (h : n ≤ 100000) : n ≤ sizeLine := Nat.le_trans h (by decide)
theorem smallL {n : Nat} (h : n ≤ 100000) : n < sizeLine := Nat.lt_of_le_of_lt h (by decide)
theorem hu64 {A : Around} {k : Nat} (hr : Room k A) : A.units + 64 < cLine := hr.units

/-! ### heaps -/
theorem same_new {H : Hp} {p : Addr} {o : HO} (h : H p = none) : Same H (upd H p o) := fun b x e => by
  rw [upd_ne (ne_of_none e h)]
  exact e
/-- what H does not know may change -/
theorem _root_.L2.Same.mut {H H' : Hp} {p : Addr} {o : HO} (e : Same H H') (h : H p = none) : Same H (upd H' p o) := fun a u ha => by
  rw [upd_ne (ne_of_none ha h)]
  exact e a u ha
theorem _root_.L2.Same.tup {K : PySem.W.Frag} {H H' : Hp} {a : Addr} {xs : List V} (e : Same H H') (h : SqT K H a xs) : SqT K H' a xs := by
  rcases h with (h | ⟨o, h⟩) | h
  · exact .inl (.inl (e _ _ h))
  · exact .inl (.inr ⟨o, e _ _ h⟩)
  · exact .inr h
/-- all but one stays -/
def But (q : Addr) (H H' : Hp) : Prop := ∀ b o, b ≠ q → H b = some o → H' b = some o
theorem But.refl (q : Addr) (H : Hp) : But q H H := fun _ _ _ h => h
theorem But.trans {q : Addr} {H H1 H2 : Hp} (a : But q H H1) (b : But q H1 H2) : But q H H2 := fun c o n h => b c o n (a c o n h)
theorem _root_.L2.Same.but {q : Addr} {H H' : Hp} (a : Same H H') : But q H H' := fun c o _ h => a c o h
theorem But.free {q : Addr} {H H' : Hp} (e : But q H H') {l : Addr} (hq : l ≠ q) (h : H' l = none) : H l = none := by
  cases c : H l with
  | none => rfl
  | some o =>
    rw [e l o hq c] at h
    cases h
theorem But.upd {q : Addr} {H H' : Hp} {o : HO} (a : But q H H') : But q H (L2.upd H' q o) := fun c u n h => by
  rw [upd_ne n]
  exact a c u n h
theorem But.new {q p : Addr} {H H' : Hp} {o : HO} (a : But q H H') (h : H' p = none) : But q H (L2.upd H' p o) := fun c u n hc => by
  have := a c u n hc
  rw [upd_ne (ne_of_none this h)]
  exact this
theorem But.tup {K : PySem.W.Frag} {q : Addr} {H H' : Hp} {a : Addr} {xs zs : List V} (e : But q H H') (hq : H q = some (.lst zs)) (h : SqT K H a xs) : SqT K H' a xs := by
  rcases h with (h | ⟨o, h⟩) | h
  · exact .inl (.inl (e _ _ (ne_of h hq (by intro z; cases z)) h))
  · exact .inl (.inr ⟨o, e _ _ (ne_of h hq (by intro z; cases z)) h⟩)
  · exact .inr h

/-! ### promises' ends -/
def RV (v : V) (H : Hp) (Q : VK) : Prop := ∀ H', Same H H' → Q v H'
def RL (xs : List V) (H : Hp) (Q : VK) : Prop := ∀ p H', Same H H' → H p = none → H' p = some (.lst xs) → Q (.ref p) H'
def RT (xs : List V) (H : Hp) (Q : VK) : Prop := ∀ p H', Same H H' → H p = none → H' p = some (.tup xs) → Q (.ref p) H'

/-! ### data -/
abbrev vi (ns : List Int) : List V := ns.map V.int
abbrev vn (ns : List Nat) : List V := ns.map fun n : Nat => V.int (n : Int)
theorem vn_vi (ns : List Nat) : vn ns = vi (ns.map Int.ofNat) := by
  unfold vn vi
  rw [List.map_map]
  rfl
theorem vi_get {ns : List Int} {i : Nat} {z : Int} (h : ns[i]? = some z) : (vi ns)[i]? = some (.int z) := by
  unfold vi
  rw [List.getElem?_map, h]
  rfl
theorem of_vi_get {ns : List Int} {i : Nat} {x : V} (h : (vi ns)[i]? = some x) : ∃ z, ns[i]? = some z ∧ x = .int z := by
  unfold vi at h
  rw [List.getElem?_map] at h
  cases c : ns[i]? with
  | none => rw [c] at h; cases h
  | some z => rw [c] at h; exact ⟨z, rfl, (Option.some.inj h).symm⟩
theorem vn_get {ns : List Nat} {i z : Nat} (h : ns[i]? = some z) : (vn ns)[i]? = some (.int (z : Int)) := by
  unfold vn
  rw [List.getElem?_map, h]
  rfl
theorem of_vn_get {ns : List Nat} {i : Nat} {x : V} (h : (vn ns)[i]? = some x) : ∃ z : Nat, ns[i]? = some z ∧ x = .int (z : Int) := by
  unfold vn at h
  rw [List.getElem?_map] at h
  cases c : ns[i]? with
  | none => rw [c] at h; cases h
  | some z => rw [c] at h; exact ⟨z, rfl, (Option.some.inj h).symm⟩
theorem refs_get {as : List Addr} {i : Nat} {b : Addr} (h : as[i]? = some b) : (as.map V.ref)[i]? = some (.ref b) := by
  rw [List.getElem?_map, h]
  rfl
theorem of_refs_get {as : List Addr} {i : Nat} {x : V} (h : (as.map V.ref)[i]? = some x) : ∃ b, as[i]? = some b ∧ x = .ref b := by
  rw [List.getElem?_map] at h
  cases c : as[i]? with
  | none => rw [c] at h; cases h
  | some z => rw [c] at h; exact ⟨z, rfl, (Option.some.inj h).symm⟩
theorem lt_of_get {α : Type} {l : List α} {i : Nat} {x : α} (h : l[i]? = some x) : i < l.length := (List.getElem?_eq_some_iff.mp h).1
/-- a tuple of whole numbers -/
abbrev TI (K : PySem.W.Frag) (H : Hp) (a : Addr) (ns : List Int) : Prop := SqT K H a (vi ns)
/-- a tuple of tuples of whole numbers -/
structure TuT (K : PySem.W.Frag) (H : Hp) (a : Addr) (nss : List (List Int)) : Prop where
  ex : ∃ as : List Addr, SqT K H a (as.map V.ref) ∧ as.length = nss.length ∧ ∀ (i : Nat) b ns, as[i]? = some b → nss[i]? = some ns → TI K H b ns
theorem TuT.same {K : PySem.W.Frag} {H H' : Hp} {a : Addr} {nss : List (List Int)} (h : TuT K H a nss) (e : Same H H') : TuT K H' a nss := by
  obtain ⟨as, h1, h2, h3⟩ := h.ex
  exact ⟨as, e.tup h1, h2, fun i b ns p q => e.tup (h3 i b ns p q)⟩
theorem TuT.but {K : PySem.W.Frag} {q : Addr} {H H' : Hp} {a : Addr} {nss : List (List Int)} {zs : List V} (h : TuT K H a nss) (e : But q H H') (hq : H q = some (.lst zs)) : TuT K H' a nss := by
  obtain ⟨as, h1, h2, h3⟩ := h.ex
  exact ⟨as, e.tup hq h1, h2, fun i b ns p r => e.tup hq (h3 i b ns p r)⟩
/-- a web -/
def WebAt (K : PySem.W.Frag) (H : Hp) (a : Addr) (L : Nat) (P : Pic) : Prop := ∃ b, SqT K H a [.int (L : Int), .ref b] ∧ TuT K H b (rowsOf L P)
theorem WebAt.same {K : PySem.W.Frag} {H H' : Hp} {a : Addr} {L : Nat} {P : Pic} (h : WebAt K H a L P) (e : Same H H') : WebAt K H' a L P := let ⟨b, h1, h2⟩ := h; ⟨b, e.tup h1, h2.same e⟩
theorem WebAt.but {K : PySem.W.Frag} {q : Addr} {H H' : Hp} {a : Addr} {L : Nat} {P : Pic} {zs : List V} (h : WebAt K H a L P) (e : But q H H') (hq : H q = some (.lst zs)) : WebAt K H' a L P := let ⟨b, h1, h2⟩ := h; ⟨b, e.tup hq h1, h2.but e hq⟩
/-- a book of turns -/
def BookAt (K : PySem.W.Frag) (H : Hp) (a : Addr) (L : Nat) (ts : List (List Nat)) : Prop := ∃ b, SqT K H a [.int (L : Int), .ref b] ∧ TuT K H b (ts.map fun t => t.map Int.ofNat)
theorem BookAt.same {K : PySem.W.Frag} {H H' : Hp} {a : Addr} {L : Nat} {ts : List (List Nat)} (h : BookAt K H a L ts) (e : Same H H') : BookAt K H' a L ts := let ⟨b, h1, h2⟩ := h; ⟨b, e.tup h1, h2.same e⟩

/-! ### dicts from whole numbers to rooms -/
abbrev Row := List (Int × Nat)
def e2 (p : Int × Nat) : Key × V := (Sum.inl p.1, .int (p.2 : Int))
def lk (s : Int) : Row → Option Nat
  | [] => none
  | p :: r => if p.1 = s then some p.2 else lk s r
theorem valV_e2 (s : Int) : ∀ l : Row, valV (l.map e2) (Sum.inl s) = (lk s l).map fun g : Nat => V.int (g : Int)
  | [] => rfl
  | p :: r => by
    rw [List.map_cons]
    unfold lk
    by_cases h : p.1 = s
    · rw [if_pos h, valV_pos (show (e2 p).1 = Sum.inl s from congrArg Sum.inl h)]
      rfl
    · rw [if_neg h, valV_neg (show ¬ (e2 p).1 = Sum.inl s from fun e => h (Sum.inl.inj e))]
      exact valV_e2 s r
theorem lk_append (s t : Int) (g : Nat) : ∀ l : Row, lk s (l ++ [(t, g)]) = match lk s l with | some x => some x | none => if t = s then some g else none
  | [] => rfl
  | p :: r => by
    show (if p.1 = s then some p.2 else lk s (r ++ [(t, g)])) = match (if p.1 = s then some p.2 else lk s r) with | some x => some x | none => if t = s then some g else none
    by_cases h : p.1 = s
    · rw [if_pos h, if_pos h]
    · rw [if_neg h, if_neg h]
      exact lk_append s t g r
theorem putK_e2 {s : Int} {l : Row} (g : Nat) (h : lk s l = none) : putK (l.map e2) (Sum.inl s) (.int (g : Int)) = (l ++ [(s, g)]).map e2 := by
  rw [putK_new _ (by rw [valV_e2, h]; rfl), List.map_append]
  rfl
theorem lk_mem {s : Int} {g : Nat} : ∀ {l : Row}, lk s l = some g → (s, g) ∈ l
  | p :: r, h => by
    unfold lk at h
    by_cases c : p.1 = s
    · rw [if_pos c] at h
      have : p.2 = g := Option.some.inj h
      rw [← c, ← this]
      exact List.mem_cons_self
    · rw [if_neg c] at h
      exact List.mem_cons_of_mem _ (lk_mem h)
theorem lk_of_mem {s : Int} {g : Nat} : ∀ {l : Row}, (l.map (·.1)).Nodup → (s, g) ∈ l → lk s l = some g
  | p :: r, h, hm => by
    have h : (p.1 :: r.map (·.1)).Nodup := h
    obtain ⟨h1, h2⟩ := List.nodup_cons.mp h
    unfold lk
    rcases List.mem_cons.mp hm with e | e
    · rw [← e, if_pos rfl]
    · have : p.1 ≠ s := fun c => h1 (c ▸ List.mem_map.mpr ⟨_, e, rfl⟩)
      rw [if_neg this]
      exact lk_of_mem h2 e
theorem lk_none {s : Int} : ∀ {l : Row}, lk s l = none ↔ s ∉ l.map (·.1)
  | [] => by simp [lk]
  | p :: r => by
    unfold lk
    by_cases c : p.1 = s
    · rw [if_pos c]
      simp [c]
    · rw [if_neg c, lk_none (l := r)]
      simp [Ne.symm c]
theorem nd_append {s : Int} {g : Nat} {l : Row} (h : (l.map (·.1)).Nodup) (hn : lk s l = none) : ((l ++ [(s, g)]).map (·.1)).Nodup := by
  rw [List.map_append]
  refine List.nodup_append.mpr ⟨h, by simp, fun a ha b hb e => ?_⟩
  have : b = s := List.mem_singleton.mp hb
  rw [this] at e
  exact lk_none.mp hn (e ▸ ha)
theorem int_sub_len : ∀ {l l2 : List Int}, l.Nodup → (∀ x ∈ l, x ∈ l2) → l.length ≤ l2.length
  | [], _, _, _ => Nat.zero_le _
  | a :: r, l2, h, hs => by
    obtain ⟨h1, h2⟩ := List.nodup_cons.mp h
    have ha : a ∈ l2 := hs a List.mem_cons_self
    have hr : ∀ x ∈ r, x ∈ l2.erase a := fun x hx => by
      have hne : x ≠ a := fun e => h1 (e ▸ hx)
      exact (List.mem_erase_of_ne hne).mpr (hs x (List.mem_cons_of_mem _ hx))
    have ih := int_sub_len h2 hr
    rw [List.length_erase_of_mem ha] at ih
    have := List.length_pos_of_mem ha
    rw [List.length_cons]
    omega
/-- a row's steps are steps of the letters -/
theorem row_len {L : Nat} {l : Row} (h : (l.map (·.1)).Nodup) (hs : ∀ s g, lk s l = some g → stepOk L s) : l.length ≤ 2 * L := by
  have := int_sub_len (l := l.map (·.1)) (l2 := stepsL L) h fun x hx => by
    obtain ⟨p, hp, rfl⟩ := List.mem_map.mp hx
    exact mem_stepsL.mpr (hs p.1 p.2 (lk_of_mem h hp))
  rwa [List.length_map, stepsL_length] at this
/-- a dict of a room's steps, told by a function -/
structure RowAt (H : Hp) (d : Addr) (l : Row) (f : Int → Option Nat) : Prop where
  at_ : H d = some (.dK (l.map e2))
  nd : (l.map (·.1)).Nodup
  go : ∀ s, lk s l = f s
theorem RowAt.same {H H' : Hp} {d : Addr} {l : Row} {f : Int → Option Nat} (h : RowAt H d l f) (e : Same H H') : RowAt H' d l f := ⟨e _ _ h.at_, h.nd, h.go⟩
theorem RowAt.of {H H' : Hp} {d : Addr} {l : Row} {f : Int → Option Nat} (h : RowAt H d l f) (e : H' d = H d) : RowAt H' d l f := ⟨by rw [e]; exact h.at_, h.nd, h.go⟩
theorem RowAt.get {H : Hp} {d : Addr} {l : Row} {f : Int → Option Nat} (h : RowAt H d l f) (s : Int) : DGet H d (.int s) ((f s).map fun g : Nat => V.int (g : Int)) := by
  have := DGet.k (k := Sum.inl s) h.at_
  rw [valV_e2, h.go] at this
  exact this
theorem RowAt.isD {H : Hp} {d : Addr} {l : Row} {f : Int → Option Nat} (h : RowAt H d l f) : IsD H d := .inl ⟨_, .inl h.at_⟩
/-- a step more -/
theorem RowAt.put {H : Hp} {d : Addr} {l : Row} {f : Int → Option Nat} {L : Nat} (h : RowAt H d l f) {s : Int} {g : Nat} (hn : f s = none) (hL : L ≤ 1000) (hs : ∀ s g, f s = some g → stepOk L s) :
    ∃ H', DPut H d (.int s) (.int (g : Int)) H' ∧ H' = upd H d (.dK ((l ++ [(s, g)]).map e2)) ∧ RowAt H' d (l ++ [(s, g)]) (fun t => if t = s then some g else f t) := by
  have hlen := row_len (L := L) h.nd fun s g e => hs s g (by rw [← h.go]; exact e)
  have hn' : lk s l = none := by rw [h.go]; exact hn
  have p := DPut.k (k := Sum.inl s) (v := .int (g : Int)) h.at_ (by rw [List.length_map]; exact smallL (by omega))
  rw [putK_e2 g hn'] at p
  refine ⟨_, p, rfl, upd_same, nd_append h.nd hn', fun t => ?_⟩
  rw [lk_append, h.go t]
  by_cases c : t = s
  · subst c
    rw [hn]
  · cases f t with
    | none => simp [c, Ne.symm c]
    | some x => simp [c]

/-! ### a picture in the heap -/
structure Pics (H : Hp) (ds : List Addr) (kv : Nat → Row) (P : Pic) : Prop where
  nd : ds.Nodup
  len : ds.length = P.n
  row : ∀ (i : Nat) d, ds[i]? = some d → RowAt H d (kv i) (P.go i)
/-- a list of dicts that is a picture -/
def PicAt (H : Hp) (a : Addr) (P : Pic) : Prop := ∃ ds kv, H a = some (.lst (ds.map V.ref)) ∧ Pics H ds kv P
theorem Pics.same {H H' : Hp} {ds : List Addr} {kv : Nat → Row} {P : Pic} (h : Pics H ds kv P) (e : Same H H') : Pics H' ds kv P := ⟨h.nd, h.len, fun i d hd => (h.row i d hd).same e⟩
theorem PicAt.same {H H' : Hp} {a : Addr} {P : Pic} (h : PicAt H a P) (e : Same H H') : PicAt H' a P := let ⟨ds, kv, h1, h2⟩ := h; ⟨ds, kv, e _ _ h1, h2.same e⟩
theorem Pics.but {q : Addr} {H H' : Hp} {ds : List Addr} {kv : Nat → Row} {P : Pic} {zs : List V} (h : Pics H ds kv P) (e : But q H H') (hq : H q = some (.lst zs)) : Pics H' ds kv P :=
  ⟨h.nd, h.len, fun i d hd => let r := h.row i d hd; ⟨e _ _ (ne_of r.at_ hq (by intro z; cases z)) r.at_, r.nd, r.go⟩⟩
theorem PicAt.but {q : Addr} {H H' : Hp} {a : Addr} {P : Pic} {zs : List V} (h : PicAt H a P) (e : But q H H') (hq : H q = some (.lst zs)) (hne : a ≠ q) : PicAt H' a P := let ⟨ds, kv, h1, h2⟩ := h; ⟨ds, kv, e _ _ hne h1, h2.but e hq⟩
theorem Pics.get {H : Hp} {ds : List Addr} {kv : Nat → Row} {P : Pic} (h : Pics H ds kv P) {i : Nat} (hi : i < P.n) : ∃ d, ds[i]? = some d ∧ RowAt H d (kv i) (P.go i) := by
  have : i < ds.length := by rw [h.len]; exact hi
  exact ⟨ds[i], List.getElem?_eq_getElem this, h.row i _ (List.getElem?_eq_getElem this)⟩
/-! ### comprehensions whose parts change nothing that stood -/
section
variable {J : It} {n : Nat} {G : Hp → Prop} {Y : Nat → Hp → V → Hp → Prop}
theorem lcg (w : Walk J n G Y) {g : TG} {tt : TT} {te : TE} {vs : List Nat} {σ : St} {H : Hp} {Qd : Addr → Hp → Prop} (f : Nat → Bool) (v : Nat → V) (hz : n ≤ 50000) (hG : ∀ H', Same H H' → G H') (hY : ∀ i H' x H2, Y i H' x H2 → Same H' H2)
    (he : ∀ i x H' H2, i < n → Same H H' → Same H H2 → Y i H' x H2 → ∃ σ2, (∀ Qg : St → Hp → Prop, Qg σ2 H2 → g x (wipe σ vs) H2 Qg) ∧ wipe σ2 vs = wipe σ vs ∧ Evl.EvT tt σ2 H2 (f i) ∧ (f i = true → Evl.Ev te σ2 H2 (v i)))
    (q : ∀ D H', H D = none → Same H H' → H' D = some (.lst (Evl.given n f v)) → Qd D H') :
    ∀ D, H D = none → ∃ W : Nat → Nat → Hp → Prop, (∃ m, W 0 m (upd H D (.lst []))) ∧ ∀ i m H, W i m H →
      (J.stop i H ∧ Qd D H) ∨ (J.go i H ∧ ∃ Nx : Hp → Prop, (∀ H', Nx H' → ∃ m', m' < m ∧ W (i + 1) m' H') ∧ ∀ x H', J.yld i H x H' → g x (wipe σ vs) H' fun σ2 H2 => wipe σ2 vs = wipe σ vs ∧ tt σ2 H2 fun b H3 =>
        if b = true then te σ2 H3 fun y H4 => ∃ acc, H4 D = some (.lst acc) ∧ acc.length < sizeLine ∧ Nx (upd H4 D (.lst (acc ++ [y]))) else Nx H3) := fun D hD =>
  lc_it w (Qd := Qd D) (fun i H' => Same H H' ∧ H' D = some (.lst (Evl.given i f v))) ⟨same_new hD, upd_same⟩ (fun i H' _ h => hG H' h.1) (fun i x H' H2 hi h y => by
    have s2 := hY i H' x H2 y
    obtain ⟨σ2, h1, h2, h3, h4⟩ := he i x H' H2 hi h.1 (h.1.trans s2) y
    refine h1 _ ⟨h2, ?_⟩
    refine h3 H2 (Same.refl H2) _ fun H3 s3 => ?_
    have s3 : Same H2 H3 := s3
    have d3 : H3 D = some (.lst (Evl.given i f v)) := s3 _ _ (s2 _ _ h.2)
    cases hf : f i with
    | true =>
      show te σ2 H3 _
      refine h4 hf H3 s3 _ fun H4 s4 => ⟨_, s4 _ _ d3, smallL (by have := Evl.given_len i f v; omega), ((h.1.trans s2).trans (s3.trans s4)).mut hD, ?_⟩
      rw [upd_same, Evl.given_yes hf]
    | false =>
      refine ⟨(h.1.trans s2).trans s3, ?_⟩
      rw [Evl.given_no hf]
      exact d3) (fun H' h => q D H' hD h.1 h.2)
end
theorem YAt.same {xs : List V} : ∀ i H' x H2, YAt xs i H' x H2 → Same H' H2 := fun _ _ _ _ y => by rw [y.1]; exact Same.refl _
theorem YFn.same {f : Nat → V} : ∀ i H' x H2, YFn f i H' x H2 → Same H' H2 := fun _ _ _ _ y => by rw [y.1]; exact Same.refl _
theorem YPair.same {xs ys : Nat → Option V} : ∀ i H' x H2, YPair xs ys i H' x H2 → Same H' H2 := fun _ _ _ _ ⟨T, x, y, _, hn, e, _, _⟩ => by rw [e]; exact same_new hn
theorem given_all (n : Nat) (v : Nat → V) : Evl.given n (fun _ => true) v = (List.range n).map v := by
  unfold Evl.given
  rw [List.filter_eq_self.mpr fun _ _ => rfl]
theorem given_eq {n : Nat} {v : Nat → V} {ys : List V} (h : ys.length = n) (hv : ∀ i y, ys[i]? = some y → v i = y) : Evl.given n (fun _ => true) v = ys := by
  rw [given_all]
  refine List.ext_getElem? fun i => ?_
  rw [List.getElem?_map]
  by_cases c : i < n
  · rw [List.getElem?_range c]
    have : i < ys.length := by omega
    rw [List.getElem?_eq_getElem this]
    show some (v i) = _
    rw [hv i _ (List.getElem?_eq_getElem this)]
  · rw [List.getElem?_eq_none (by rw [List.length_range]; omega), List.getElem?_eq_none (by omega)]
    rfl
theorem evt_yes {σ : St} {H : Hp} : Evl.EvT tYes σ H true := fun H1 _ Q q => q H1 (Evl.Ex.refl H1)
/-! ### the rules that lean on the written part, by its name -/
section
variable {X : Cx} (K : PySem.W.Frag)
theorem kIxL (e : X.K = K := by rfl) : IxR X (rIxL K) := by subst e; exact ix_list
theorem kIxT (e : X.K = K := by rfl) : IxR X (rIxT K) := by subst e; exact ix_tup
theorem kLen (e : X.K = K := by rfl) : CallR X (.builtin "len") (Evl.rLenS K) := by subst e; exact call_len_seq
theorem kIsi (e : X.K = K := by rfl) : CallR X (.builtin "isinstance") (rIsi K) := by subst e; exact call_isi
theorem kAll (hc : X.calm = true := by rfl) (e : X.K = K := by rfl) : CallR X (.builtin "all") (rAll K) := by subst e; exact cr_all hc
theorem kAny (hc : X.calm = true := by rfl) (e : X.K = K := by rfl) : CallR X (.builtin "any") (rAny K) := by subst e; exact cr_any hc
theorem kSum (hc : X.calm = true := by rfl) (e : X.K = K := by rfl) : CallR X (.builtin "sum") (rSum K) := by subst e; exact cr_sum hc
theorem kMax (hc : X.calm = true := by rfl) (e : X.K = K := by rfl) : CallR X (.builtin "max") (rMax K) := by subst e; exact cr_max hc
theorem kMaxT (hu : X.A.units + 64 < cLine) (hc : X.calm = true := by rfl) (e : X.K = K := by rfl) : CallR X (.builtin "max") (rMaxT K) := by subst e; exact cr_maxT hc hu
theorem kSortL (e : X.K = K := by rfl) : CallR X (.builtin "sorted") (rSortedI K) := by subst e; exact cr_sortedI
theorem kSortT (e : X.K = K := by rfl) : CallR X (.builtin "sorted") (rSortedTI K) := by subst e; exact cr_sortedTI
def rTupOf (K : PySem.W.Frag) : List V → Hp → VK → Prop := fun xs H Q => ∃ p ys, xs = [.ref p] ∧ ((SqL K H p ys ∧ ∀ l, H l = none → Q (.ref l) (upd H l (.tup ys))) ∨ (SqT K H p ys ∧ Q (.ref p) H))
theorem kTup (e : X.K = K := by rfl) : CallR X (.type "tuple") (rTupOf K) := by subst e; exact call_tuple_of
theorem kLst (e : X.K = K := by rfl) : CallR X (.type "list") (Evl.rListS K) := by subst e; exact call_list_of
theorem kIn (e : X.K = K := by rfl) : OpR X (compareOp .In) (rIn K false) := by subst e; exact op_in_seq
theorem kNotIn (e : X.K = K := by rfl) : OpR X (compareOp .NotIn) (rIn K true) := by subst e; exact op_notIn_seq
theorem kCatT (e : X.K = K := by rfl) : OpR X (binaryOp .Add) (rCatA K) := by subst e; exact op_catA
theorem kSlL (e : X.K = K := by rfl) : SlR X (rSlL K) := by subst e; exact sl_list
theorem kSlT (e : X.K = K := by rfl) : SlR X (rSlA K) := by subst e; exact sl_tupA
theorem kEqD (hu : X.A.units + 64 < cLine) (e : X.K = K := by rfl) : OpR X (compareOp .Eq) (rEqD K) := by subst e; exact op_eqD hu
theorem kNeD (hu : X.A.units + 64 < cLine) (e : X.K = K := by rfl) : OpR X (compareOp .NotEq) (rNeD K) := by subst e; exact op_neD hu
theorem kIdx (e : X.K = K := by rfl) : MtR X "list.index" (rIndex K) := by subst e; exact mt_index
theorem k_tup {es : List Expr} {kk : Nat} {t : TGs} {n : Nat} {pos : Pos} (hc : X.calm = true) (h : PGs X es t)
    (hn : (assignEach es X.env).length = n := by rfl) (hst : (assignEach es X.env).findIdx? (·.1) = none := by rfl) (e : X.K = K := by rfl) : PG X (.Tuple es kk pos) (gTup K n t) := by subst e; exact pg_tup hc h hn hst
theorem k_bm0 {o : Expr} {to : TE} {T id : String} {name : Str} {r : V → List V → Hp → VK → Prop} {apos cpos : Pos} (pa : PlainAttrs T) (slot : Slot T name id) (hty : typeOf (.builtin id) = pure (.type "method_descriptor")) (hm : MtR X id r) (ho : PE X o to)
    (hbase : attributeBase o name X.env (eval o X.env) = eval o X.env := by rfl) (hline : (apos.endLine == cpos.line) = true := by rfl) (eK : X.K = K := by rfl) : PE X (.Call (.Attribute o name apos) [] [] cpos) (tBM0 K T r to) := by subst eK; exact pe_bm0 pa slot hty hm ho hbase hline
theorem k_bm {o e : Expr} {es : List Expr} {to : TE} {t : TA} {T id : String} {name : Str} {r : V → List V → Hp → VK → Prop} {apos cpos : Pos} (pa : PlainAttrs T) (slot : Slot T name id) (hty : typeOf (.builtin id) = pure (.type "method_descriptor")) (hm : MtR X id r) (ho : PE X o to) (ha : PA X (e :: es) t)
    (hbase : attributeBase o name X.env (eval o X.env) = eval o X.env := by rfl)
    (hfew : ((backTo cpos (starEach (e :: es) X.env)).all (fun x => !x.1) && (backToKw cpos (keywordEach [] X.env)).all (fun x => x.1.isSome)
      && decide ((e :: es).length + ([] : List Keyword).length + (if ([] : List Keyword).isEmpty then 0 else 1) < 30)) = true := by rfl)
    (hline : (apos.endLine == cpos.line) = true := by rfl) (hs : starEach (e :: es) X.env = (false, eval e X.env) :: starEach es X.env := by rfl) (hplain : (backTo cpos (starEach es X.env)).any (·.1) = false := by rfl) (eK : X.K = K := by rfl) :
    PE X (.Call (.Attribute o name apos) (e :: es) [] cpos) (tBM K T r to t) := by subst eK; exact pe_bm pa slot hty hm ho ha hbase hfew hline hs hplain
end
end Wk
set_option Elab.async false
set_option linter.all false
set_option maxRecDepth 100000
set_option maxHeartbeats 4000000
namespace Wk
open PySem L2 Wc
section
variable {P : Program} {w : World} {K : PySem.W.Frag} {mg : Str → Option Value} {base : Heap}
abbrev s_steps_of : Stmt := top 5
abbrev n_steps_of : List Str := ["letters", "found", "letter"]
theorem sc_steps_of : FnScope n_steps_of ["letters"] (defScope s_steps_of) := ⟨rfl, rfl, rfl, by decide +kernel, rfl, by decide +kernel, by decide +kernel⟩
def sp_steps_of : Sp := fun vs H Q _ => ∃ L : Nat, vs = [.int (L : Int)] ∧ L ≤ 5 ∧ RL (vi (stepsL L)) H Q
theorem ok_steps_of (B : Bi mg) (F : Df K mg "steps_of" s_steps_of ["letters"]) : Has P w K mg base 1 "steps_of" ["letters"] sp_steps_of := by
  refine F.ok sc_steps_of (fun vs H Q E h => ?_) (fun f cdv A outer s H vs Q E hr h => ?_)
  · obtain ⟨L, rfl, _⟩ := h
    rfl
  · obtain ⟨L, rfl, hL, q⟩ := h
    refine ⟨_, (pss_cons (ps_set (i := 1) sc_steps_of.nd rfl (Or.inl rfl) (pe_lst pa_nil))
      (pss_cons (ps_for PassesOwn.never rfl (pi_range2 rfl B.range (pa_cons pe_int (pa_cons (pe_op op_add (pv 0) pe_int) pa_nil))) (pg_name (i := 2) sc_steps_of.nd rfl (Or.inl rfl))
        (pss_one (ps_expr (k_bm K PySem.F.plainAttrs_list PySem.F.slot_list_extend PySem.F.type_list_extend mt_extend (pv 1) (pa_cons (pe_lst (pa_cons (pv 2) (pa_cons (pe_un un_neg (pv 2)) pa_nil))) pa_nil)))))
      (pss_one (ps_ret (pv 1))))), ?_⟩
    refine ⟨Nat.zero_le _, fun l nl => ?_⟩
    refine ⟨_, rfl, _, _, rfl, rfl, _, _, rfl, ⟨by omega, by omega, by omega, by omega⟩, for_range (lo := 1) (n := ((L : Int) + 1 - 1).toNat) (fun i σ H' => ∃ y, σ = [some (.int (L : Int)), some (.ref l), y] ∧ Same H H' ∧ H' l = some (.lst (vi (stepsL i)))) ⟨none, rfl, same_new nl, upd_same⟩ (fun i σ H' hi ⟨y, e, sm, hl⟩ => ?_) (fun σ H' ⟨y, e, sm, hl⟩ => ?_)⟩
    · subst e
      refine ⟨_, rfl, .inl ⟨rfl, _, SqL.of hl⟩, _, rfl, _, rfl, _, rfl, (by show 2 ≤ sizeLine; decide), fun p np => ?_⟩
      have npl : l ≠ p := ne_of_none hl np
      refine ⟨l, p, _, _, rfl, rfl, by rw [upd_ne npl]; exact hl, upd_same, ?_, ?_⟩
      · have := stepsL_length i
        rw [List.length_map, this]
        exact small (by simp; omega)
      · refine ⟨_, rfl, (sm.trans (same_new np)).mut nl, ?_⟩
        rw [upd_same, stepsL_succ, vi, vi, List.map_append]
        have e1 : (1 : Int) + (i : Int) = (i : Int) + 1 := by omega
        rw [e1]
        rfl
    · subst e
      have e1 : ((L : Int) + 1 - 1).toNat = L := by omega
      rw [e1] at hl
      exact ⟨_, rfl, q l H' sm nl hl⟩

/-! ### straightened -/
theorem take_foldl {w : List Int} {i : Nat} {x : Int} (h : w[i]? = some x) : (w.take (i + 1)).foldl stPush [] = stPush ((w.take i).foldl stPush []) x := by
  rw [List.take_add_one, h, List.foldl_append]
  rfl
theorem fold_len (w : List Int) (i : Nat) : ((w.take i).foldl stPush []).length ≤ w.length := by
  have := length_straight (w.take i)
  rw [List.length_take] at this
  unfold straight at this
  omega
theorem last_get {ns : List Int} {z : Int} (h : ns.getLast? = some z) : atI (vi ns) (-1) = some (.int z) := by
  have hne : ns ≠ [] := by
    rintro rfl
    cases h
  have e := List.dropLast_concat_getLast hne
  have e2 : ns.getLast hne = z := by
    rw [List.getLast?_eq_some_getLast hne] at h
    exact Option.some.inj h
  rw [e2] at e
  rw [← e, vi, List.map_append]
  exact atI_last _ _
theorem stPush_pos {acc : List Int} {s : Int} (h : acc.getLast? = some (-s)) : stPush acc s = acc.dropLast := by
  unfold stPush
  rw [if_pos h]
theorem stPush_neg {acc : List Int} {s : Int} (h : ¬ acc.getLast? = some (-s)) : stPush acc s = acc ++ [s] := by
  unfold stPush
  rw [if_neg h]
abbrev s_straightened : Stmt := top 6
abbrev n_straightened : List Str := ["walk", "found", "step"]
theorem sc_straightened : FnScope n_straightened ["walk"] (defScope s_straightened) := ⟨rfl, rfl, rfl, by decide +kernel, rfl, by decide +kernel, by decide +kernel⟩
def sp_straightened (K : PySem.W.Frag) : Sp := fun vs H Q _ => ∃ (a : Addr) (w : List Int), vs = [.ref a] ∧ TI K H a w ∧ w.length ≤ 1000 ∧ RT (vi (straight w)) H Q
theorem ok_straightened (B : Bi mg) (F : Df K mg "straightened" s_straightened ["walk"]) : Has P w K mg base 1 "straightened" ["walk"] (sp_straightened K) := by
  refine F.ok sc_straightened (fun vs H Q E h => ?_) (fun f cdv A outer s H vs Q E hr h => ?_)
  · obtain ⟨a, w, rfl, _⟩ := h
    rfl
  · obtain ⟨a, w, rfl, ha, hw, q⟩ := h
    refine ⟨_, (pss_cons (ps_set (i := 1) sc_straightened.nd rfl (Or.inl rfl) (pe_lst pa_nil))
      (pss_cons (ps_for PassesOwn.never rfl (pi_tup (pv 0)) (pg_name (i := 2) sc_straightened.nd rfl (Or.inl rfl))
        (pss_one (ps_if (PW.pt (pw_and (pt_cmpR op_gt (pe_callB (kLen K) (by rfl) B.len PySem.boot_len (pa_cons (pv 1) pa_nil)) pe_int (nomark _)) (pw_and1 (pt_cmpR op_eq (pe_ix (kIxL K) (pv 1) (pe_un un_neg pe_int) (fun _ _ => rfl)) (pe_un un_neg (pv 2)) (nomark _)))))
          (pss_one (ps_expr (k_bm0 K PySem.F.plainAttrs_list PySem.F.slot_list_pop PySem.F.type_list_pop mt_pop (pv 1))))
          (pss_one (ps_expr (k_bm K PySem.F.plainAttrs_list PySem.F.slot_list_append PySem.F.type_list_append mt_append (pv 1) (pa_cons (pv 2) pa_nil)))))))
      (pss_one (ps_ret (pe_callTy (kTup K) (by rfl) B.tuple (by decide +kernel) (pa_cons (pv 1) pa_nil)))))), ?_⟩
    refine ⟨Nat.zero_le _, fun l nl => ?_⟩
    refine ⟨_, rfl, a, rfl, ⟨_, (same_new nl).tup ha⟩, for_tup (xs := vi w) (fun i σ H' => ∃ y, σ = [some (.ref a), some (.ref l), y] ∧ Same H H' ∧ H' l = some (.lst (vi ((w.take i).foldl stPush [])))) ⟨none, rfl, same_new nl, upd_same⟩ (fun i σ H' _ ⟨y, e, sm, hl⟩ => sm.tup ha) (fun i x σ H' hx ⟨y, e, sm, hl⟩ => ?_) (fun σ H' ⟨y, e, sm, hl⟩ => ?_)⟩
    · subst e
      obtain ⟨z, hz, rfl⟩ := of_vi_get hx
      have hlen := fold_len w i
      refine ⟨_, rfl, l, _, rfl, .inl (SqL.of hl), _, _, rfl, rfl, _, rfl, ?_⟩
      rw [List.length_map]
      by_cases c : (0 : Int) < (((w.take i).foldl stPush []).length : Int)
      · rw [decide_eq_true c]
        refine iteT ?_
        have hne : (w.take i).foldl stPush [] ≠ [] := by
          intro e
          rw [e] at c
          exact absurd c (by decide)
        have hg := List.getLast?_eq_some_getLast hne
        refine ⟨_, rfl, _, rfl, l, _, _, _, rfl, rfl, SqL.of hl, last_get hg, _, rfl, _, rfl, rfl, _, rfl, ?_⟩
        by_cases d : ((w.take i).foldl stPush []).getLast hne = -z
        · rw [d, decide_eq_true rfl]
          refine iteT ?_
          have hat : (vi ((w.take i).foldl stPush []))[(vi ((w.take i).foldl stPush [])).length - 1]? = some (.int (((w.take i).foldl stPush []).getLast hne)) := by
            rw [List.length_map]
            refine vi_get ?_
            rw [← List.getLast?_eq_getElem?]
            exact hg
          refine ⟨_, rfl, .inl ⟨rfl, _, SqL.of hl⟩, l, _, _, rfl, rfl, hl, hat, ?_⟩
          refine ⟨_, rfl, sm.mut nl, ?_⟩
          rw [upd_same, take_foldl hz]
          rw [stPush_pos (by rw [← d]; exact hg), vi, vi, List.map_dropLast]
        · rw [decide_eq_false (fun e => d (V.int.inj e))]
          refine iteF ?_
          refine ⟨_, rfl, .inl ⟨rfl, _, SqL.of hl⟩, _, rfl, l, _, _, rfl, rfl, hl, by rw [List.length_map]; exact smallL (by omega), ?_⟩
          refine ⟨_, rfl, sm.mut nl, ?_⟩
          rw [upd_same, take_foldl hz]
          rw [stPush_neg (by rw [hg]; exact fun e => d (Option.some.inj e)), vi, vi, List.map_append]
          rfl
      · rw [decide_eq_false c]
        refine iteF ?_
        refine iteF ?_
        have hnil : (w.take i).foldl stPush [] = [] := List.length_eq_zero_iff.mp (by omega)
        refine ⟨_, rfl, .inl ⟨rfl, _, SqL.of hl⟩, _, rfl, l, _, _, rfl, rfl, hl, by rw [List.length_map]; exact smallL (by omega), ?_⟩
        refine ⟨_, rfl, sm.mut nl, ?_⟩
        rw [upd_same, take_foldl hz, hnil]
        rfl
    · subst e
      rw [List.length_map, List.take_length] at hl
      refine ⟨_, rfl, l, _, rfl, .inl ⟨SqL.of hl, fun p np => ?_⟩⟩
      exact q p _ (sm.trans (same_new np)) (sm.free np) upd_same
abbrev s_law_straight : Stmt := top 45
abbrev n_law_straight : List Str := ["_law_walk_here", "_law_found", "_law_step"]
theorem sc_law_straight : FnScope n_law_straight ["_law_walk_here"] (defScope s_law_straight) := ⟨rfl, rfl, rfl, by decide +kernel, rfl, by decide +kernel, by decide +kernel⟩
def sp_law_straight (K : PySem.W.Frag) : Sp := fun vs H Q _ => ∃ (a : Addr) (w : List Int), vs = [.ref a] ∧ TI K H a w ∧ w.length ≤ 1000 ∧ RT (vi (straight w)) H Q
theorem ok_law_straight (B : Bi mg) (F : Df K mg "_law_straight" s_law_straight ["_law_walk_here"]) : Has P w K mg base 1 "_law_straight" ["_law_walk_here"] (sp_law_straight K) := by
  refine F.ok sc_law_straight (fun vs H Q E h => ?_) (fun f cdv A outer s H vs Q E hr h => ?_)
  · obtain ⟨a, w, rfl, _⟩ := h
    rfl
  · obtain ⟨a, w, rfl, ha, hw, q⟩ := h
    refine ⟨_, (pss_cons (ps_set (i := 1) sc_law_straight.nd rfl (Or.inl rfl) (pe_lst pa_nil))
      (pss_cons (ps_for PassesOwn.never rfl (pi_tup (pv 0)) (pg_name (i := 2) sc_law_straight.nd rfl (Or.inl rfl))
        (pss_one (ps_if (PW.pt (pw_and (pt_cmpR op_gt (pe_callB (kLen K) (by rfl) B.len PySem.boot_len (pa_cons (pv 1) pa_nil)) pe_int (nomark _)) (pw_and1 (pt_cmpR op_eq (pe_ix (kIxL K) (pv 1) (pe_un un_neg pe_int) (fun _ _ => rfl)) (pe_un un_neg (pv 2)) (nomark _)))))
          (pss_one (ps_expr (k_bm0 K PySem.F.plainAttrs_list PySem.F.slot_list_pop PySem.F.type_list_pop mt_pop (pv 1))))
          (pss_one (ps_expr (k_bm K PySem.F.plainAttrs_list PySem.F.slot_list_append PySem.F.type_list_append mt_append (pv 1) (pa_cons (pv 2) pa_nil)))))))
      (pss_one (ps_ret (pe_callTy (kTup K) (by rfl) B.tuple (by decide +kernel) (pa_cons (pv 1) pa_nil)))))), ?_⟩
    refine ⟨Nat.zero_le _, fun l nl => ?_⟩
    refine ⟨_, rfl, a, rfl, ⟨_, (same_new nl).tup ha⟩, for_tup (xs := vi w) (fun i σ H' => ∃ y, σ = [some (.ref a), some (.ref l), y] ∧ Same H H' ∧ H' l = some (.lst (vi ((w.take i).foldl stPush [])))) ⟨none, rfl, same_new nl, upd_same⟩ (fun i σ H' _ ⟨y, e, sm, hl⟩ => sm.tup ha) (fun i x σ H' hx ⟨y, e, sm, hl⟩ => ?_) (fun σ H' ⟨y, e, sm, hl⟩ => ?_)⟩
    · subst e
      obtain ⟨z, hz, rfl⟩ := of_vi_get hx
      have hlen := fold_len w i
      refine ⟨_, rfl, l, _, rfl, .inl (SqL.of hl), _, _, rfl, rfl, _, rfl, ?_⟩
      rw [List.length_map]
      by_cases c : (0 : Int) < (((w.take i).foldl stPush []).length : Int)
      · rw [decide_eq_true c]
        refine iteT ?_
        have hne : (w.take i).foldl stPush [] ≠ [] := by
          intro e
          rw [e] at c
          exact absurd c (by decide)
        have hg := List.getLast?_eq_some_getLast hne
        refine ⟨_, rfl, _, rfl, l, _, _, _, rfl, rfl, SqL.of hl, last_get hg, _, rfl, _, rfl, rfl, _, rfl, ?_⟩
        by_cases d : ((w.take i).foldl stPush []).getLast hne = -z
        · rw [d, decide_eq_true rfl]
          refine iteT ?_
          have hat : (vi ((w.take i).foldl stPush []))[(vi ((w.take i).foldl stPush [])).length - 1]? = some (.int (((w.take i).foldl stPush []).getLast hne)) := by
            rw [List.length_map]
            refine vi_get ?_
            rw [← List.getLast?_eq_getElem?]
            exact hg
          refine ⟨_, rfl, .inl ⟨rfl, _, SqL.of hl⟩, l, _, _, rfl, rfl, hl, hat, ?_⟩
          refine ⟨_, rfl, sm.mut nl, ?_⟩
          rw [upd_same, take_foldl hz]
          rw [stPush_pos (by rw [← d]; exact hg), vi, vi, List.map_dropLast]
        · rw [decide_eq_false (fun e => d (V.int.inj e))]
          refine iteF ?_
          refine ⟨_, rfl, .inl ⟨rfl, _, SqL.of hl⟩, _, rfl, l, _, _, rfl, rfl, hl, by rw [List.length_map]; exact smallL (by omega), ?_⟩
          refine ⟨_, rfl, sm.mut nl, ?_⟩
          rw [upd_same, take_foldl hz]
          rw [stPush_neg (by rw [hg]; exact fun e => d (Option.some.inj e)), vi, vi, List.map_append]
          rfl
      · rw [decide_eq_false c]
        refine iteF ?_
        refine iteF ?_
        have hnil : (w.take i).foldl stPush [] = [] := List.length_eq_zero_iff.mp (by omega)
        refine ⟨_, rfl, .inl ⟨rfl, _, SqL.of hl⟩, _, rfl, l, _, _, rfl, rfl, hl, by rw [List.length_map]; exact smallL (by omega), ?_⟩
        refine ⟨_, rfl, sm.mut nl, ?_⟩
        rw [upd_same, take_foldl hz, hnil]
        rfl
    · subst e
      rw [List.length_map, List.take_length] at hl
      refine ⟨_, rfl, l, _, rfl, .inl ⟨SqL.of hl, fun p np => ?_⟩⟩
      exact q p _ (sm.trans (same_new np)) (sm.free np) upd_same

/-! ### what values are -/
def sp_int1 : Sp := fun vs H Q _ => ∃ i : Int, vs = [.int i] ∧ RV (.bl true) H Q
abbrev s_is_integer : Stmt := top 9
abbrev n_is_integer : List Str := ["value"]
theorem sc_is_integer : FnScope n_is_integer ["value"] (defScope s_is_integer) := ⟨rfl, rfl, rfl, by decide +kernel, rfl, by decide +kernel, by decide +kernel⟩
theorem ok_is_integer (B : Bi mg) (F : Df K mg "is_integer" s_is_integer ["value"]) : Has P w K mg base 1 "is_integer" ["value"] sp_int1 := by
  refine F.ok sc_is_integer (fun vs H Q E h => ?_) (fun f cdv A outer s H vs Q E hr h => ?_)
  · obtain ⟨i, rfl, _⟩ := h
    rfl
  · obtain ⟨i, rfl, q⟩ := h
    refine ⟨_, (pss_one (ps_ret (pe_and (pe_callB (kIsi K) (by rfl) B.isinstance (by decide +kernel) (pa_cons (pv 0) (pa_cons (pe_bltn (v := .ty "int") (by rfl) B.int (by decide +kernel) rfl) pa_nil))) (pe_one (pe_not (pe_callB (kIsi K) (by rfl) B.isinstance (by decide +kernel) (pa_cons (pv 0) (pa_cons (pe_bltn (v := .ty "bool") (by rfl) B.bool (by decide +kernel) rfl) pa_nil)))))))), ?_⟩
    refine ⟨_, rfl, _, _, _, _, true, rfl, .ty "int", .base (.int i), kit_ty (by decide +kernel), ?_⟩
    refine ⟨true, rfl, iteT ?_⟩
    refine ⟨_, rfl, _, _, _, _, false, rfl, .ty "bool", .base (.int i), kit_ty (by decide +kernel), ?_⟩
    exact ⟨false, rfl, q H (Same.refl H)⟩
abbrev s_law_is_whole : Stmt := top 55
abbrev n_law_is_whole : List Str := ["_law_value"]
theorem sc_law_is_whole : FnScope n_law_is_whole ["_law_value"] (defScope s_law_is_whole) := ⟨rfl, rfl, rfl, by decide +kernel, rfl, by decide +kernel, by decide +kernel⟩
theorem ok_law_is_whole (B : Bi mg) (F : Df K mg "_law_is_whole" s_law_is_whole ["_law_value"]) : Has P w K mg base 1 "_law_is_whole" ["_law_value"] sp_int1 := by
  refine F.ok sc_law_is_whole (fun vs H Q E h => ?_) (fun f cdv A outer s H vs Q E hr h => ?_)
  · obtain ⟨i, rfl, _⟩ := h
    rfl
  · obtain ⟨i, rfl, q⟩ := h
    refine ⟨_, (pss_one (ps_ret (pe_and (pe_callB (kIsi K) (by rfl) B.isinstance (by decide +kernel) (pa_cons (pv 0) (pa_cons (pe_bltn (v := .ty "int") (by rfl) B.int (by decide +kernel) rfl) pa_nil))) (pe_one (pe_not (pe_callB (kIsi K) (by rfl) B.isinstance (by decide +kernel) (pa_cons (pv 0) (pa_cons (pe_bltn (v := .ty "bool") (by rfl) B.bool (by decide +kernel) rfl) pa_nil)))))))), ?_⟩
    refine ⟨_, rfl, _, _, _, _, true, rfl, .ty "int", .base (.int i), kit_ty (by decide +kernel), ?_⟩
    refine ⟨true, rfl, iteT ?_⟩
    refine ⟨_, rfl, _, _, _, _, false, rfl, .ty "bool", .base (.int i), kit_ty (by decide +kernel), ?_⟩
    exact ⟨false, rfl, q H (Same.refl H)⟩
abbrev s_is_letters : Stmt := top 11
abbrev n_is_letters : List Str := ["value"]
theorem sc_is_letters : FnScope n_is_letters ["value"] (defScope s_is_letters) := ⟨rfl, rfl, rfl, by decide +kernel, rfl, by decide +kernel, by decide +kernel⟩
def sp_is_letters : Sp := fun vs H Q _ => ∃ L : Nat, vs = [.int (L : Int)] ∧ 1 ≤ L ∧ L ≤ 4 ∧ RV (.bl true) H Q
theorem ok_is_letters (B : Bi mg) (F : Df K mg "is_letters" s_is_letters ["value"]) (h_is_integer : Has P w K mg base 1 "is_integer" ["value"] sp_int1) : Has P w K mg base 2 "is_letters" ["value"] sp_is_letters := by
  refine F.ok sc_is_letters (fun vs H Q E h => ?_) (fun f cdv A outer s H vs Q E hr h => ?_)
  · obtain ⟨i, rfl, _⟩ := h
    rfl
  · obtain ⟨L, rfl, h1, h4, q⟩ := h
    obtain ⟨tML, hML⟩ := B.letters
    refine ⟨_, (pss_one (ps_ret (pe_and (pe_has h_is_integer (hr.mono (by omega)) (pa_cons (pv 0) pa_nil)) (pe_one (pe_chain op_le op_le pe_int (pv 0) (pe_glob (v := .int 4) (by rfl) hML ⟨_, rfl⟩)))))), ?_⟩
    refine ⟨_, rfl, _, rfl, fun H1 s1 => ?_⟩
    refine ⟨true, rfl, iteT ?_⟩
    refine ⟨_, rfl, _, _, rfl, rfl, _, rfl, ?_⟩
    rw [decide_eq_true (show (1 : Int) ≤ (L : Int) by omega)]
    refine iteT ⟨_, _, rfl, rfl, ?_⟩
    have : Q (.bl (decide ((L : Int) ≤ 4))) H1 := by
      rw [decide_eq_true (show (L : Int) ≤ 4 by omega)]
      exact q H1 s1
    exact this
abbrev s_is_step : Stmt := top 12
abbrev n_is_step : List Str := ["value", "letters"]
theorem sc_is_step : FnScope n_is_step ["value", "letters"] (defScope s_is_step) := ⟨rfl, rfl, rfl, by decide +kernel, rfl, by decide +kernel, by decide +kernel⟩
def sp_is_step : Sp := fun vs H Q _ => ∃ (s : Int) (L : Nat), vs = [.int s, .int (L : Int)] ∧ stepOk L s ∧ RV (.bl true) H Q
theorem ok_is_step (B : Bi mg) (F : Df K mg "is_step" s_is_step ["value", "letters"]) (h_is_integer : Has P w K mg base 1 "is_integer" ["value"] sp_int1) : Has P w K mg base 2 "is_step" ["value", "letters"] sp_is_step := by
  refine F.ok sc_is_step (fun vs H Q E h => ?_) (fun f cdv A outer s H vs Q E hr h => ?_)
  · obtain ⟨i, L, rfl, _⟩ := h
    rfl
  · obtain ⟨t, L, rfl, ht, q⟩ := h
    refine ⟨_, (pss_one (ps_ret (pe_and (pe_has h_is_integer (hr.mono (by omega)) (pa_cons (pv 0) pa_nil)) (pe_one (pe_chain op_le op_le pe_int (pe_callB call_abs (by rfl) B.abs (by decide +kernel) (pa_cons (pv 0) pa_nil)) (pv 1)))))), ?_⟩
    refine ⟨_, rfl, _, rfl, fun H1 s1 => ?_⟩
    refine ⟨true, rfl, iteT ?_⟩
    have h1 := ht.1
    have h2 := ht.2
    refine ⟨_, rfl, _, rfl, _, _, rfl, rfl, _, rfl, ?_⟩
    rw [decide_eq_true (show (1 : Int) ≤ (if t < 0 then -t else t) by split <;> omega)]
    refine iteT ⟨_, rfl, _, _, rfl, rfl, ?_⟩
    have : Q (.bl (decide ((if t < 0 then -t else t) ≤ (L : Int)))) H1 := by
      rw [decide_eq_true (show (if t < 0 then -t else t) ≤ (L : Int) by split <;> omega)]
      exact q H1 s1
    exact this

theorem all_true (n : Nat) : (Evl.given n (fun _ => true) fun _ => V.bl true) = (List.replicate n true).map V.bl := by
  refine given_eq (by rw [List.length_map, List.length_replicate]) fun i y h => ?_
  rw [List.getElem?_map] at h
  cases c : (List.replicate n true)[i]? with
  | none => rw [c] at h; cases h
  | some b =>
    rw [c] at h
    have := List.mem_of_getElem? c
    rw [(List.mem_replicate.mp this).2] at h
    exact Option.some.inj h
theorem all_id (n : Nat) : (List.replicate n true).all id = true := by
  rw [List.all_eq_true]
  intro x hx
  exact (List.mem_replicate.mp hx).2
abbrev s_is_a_walk : Stmt := top 13
abbrev n_is_a_walk : List Str := ["value", "letters", "step"]
theorem sc_is_a_walk : FnScope n_is_a_walk ["value", "letters"] (defScope s_is_a_walk) := ⟨rfl, rfl, rfl, by decide +kernel, rfl, by decide +kernel, by decide +kernel⟩
def sp_is_a_walk (K : PySem.W.Frag) : Sp := fun vs H Q _ => ∃ (a : Addr) (wk : List Int) (L : Nat), vs = [.ref a, .int (L : Int)] ∧ TI K H a wk ∧ wk.length ≤ 1000 ∧ (∀ s ∈ wk, stepOk L s) ∧ RV (.bl true) H Q
theorem tyX_tup {K : PySem.W.Frag} {H : Hp} {a : Addr} {xs : List V} (h : SqT K H a xs) : TyX K H (.ref a) (.type "tuple") := by
  rcases h with (h | ⟨o, h⟩) | ⟨o, its, n, h, hc, _⟩
  · exact .base (.tup h)
  · exact .fTuple h
  · exact .kTuple h hc
theorem ok_is_a_walk (B : Bi mg) (F : Df K mg "is_a_walk" s_is_a_walk ["value", "letters"]) (h_is_step : Has P w K mg base 2 "is_step" ["value", "letters"] sp_is_step) : Has P w K mg base 3 "is_a_walk" ["value", "letters"] (sp_is_a_walk K) := by
  refine F.ok sc_is_a_walk (fun vs H Q E h => ?_) (fun f cdv A outer s H vs Q E hr h => ?_)
  · obtain ⟨a, wk, L, rfl, _⟩ := h
    rfl
  · obtain ⟨a, wk, L, rfl, ha, hl, hs, q⟩ := h
    refine ⟨_, (pss_one (ps_ret (pe_and (pe_callB (kIsi K) (by rfl) B.isinstance (by decide +kernel) (pa_cons (pv 0) (pa_cons (pe_bltn (v := .ty "tuple") (by rfl) B.tuple (by decide +kernel) rfl) pa_nil))) (pe_one (pe_callB (kAll K) (by rfl) B.all (by decide +kernel) (pa_cons (pe_lc (own := [("step", 2)]) rfl sc_is_a_walk.nd (pi_tup (pv 0)) (blkOk_by (N := n_is_a_walk) (sc := defScope s_is_a_walk) (by decide +kernel)) (fun _ _ _ _ _ => (pg_name (i := 2) sc_is_a_walk.nd rfl (Or.inl rfl))) (fun _ _ _ _ _ => pts_nil) (fun _ _ _ _ _ => (pe_has h_is_step (hr.mono (by omega)) (pa_cons (pv 2) (pa_cons (pv 1) pa_nil))))) pa_nil)))))), ?_⟩
    refine ⟨_, rfl, _, _, _, _, true, rfl, .ty "tuple", tyX_tup ha, kit_ty (by decide +kernel), ?_⟩
    refine ⟨true, rfl, iteT ?_⟩
    refine ⟨_, rfl, a, rfl, ⟨_, ha⟩, lcg walk_tup (fun _ => true) (fun _ => V.bl true) (by rw [List.length_map]; omega) (fun H' s' => s'.tup ha) YAt.same (fun i x H1 H2 hi s1 s2 y => ?_) (fun D H1 hD s1 h1 => ?_)⟩
    · obtain ⟨z, hz, rfl⟩ := of_vi_get y.2
      refine ⟨_, fun Qg h => h, rfl, evt_yes, fun _ H3 s3 Q3 q3 => ?_⟩
      exact ⟨_, rfl, _, rfl, z, L, rfl, hs z (List.mem_of_getElem? hz), fun H4 s4 => q3 H4 s4⟩
    · rw [all_true] at h1
      refine ⟨_, _, rfl, SqL.of h1, ?_⟩
      rw [all_id]
      exact q H1 s1
abbrev s_is_a_row : Stmt := top 14
abbrev n_is_a_row : List Str := ["value", "letters", "rooms", "room"]
theorem sc_is_a_row : FnScope n_is_a_row ["value", "letters", "rooms"] (defScope s_is_a_row) := ⟨rfl, rfl, rfl, by decide +kernel, rfl, by decide +kernel, by decide +kernel⟩
def sp_is_a_row (K : PySem.W.Frag) : Sp := fun vs H Q _ => ∃ (a : Addr) (row : List Int) (L m : Nat), vs = [.ref a, .int (L : Int), .int (m : Int)] ∧ TI K H a row ∧ row.length = L ∧ L ≤ 5 ∧ (∀ z ∈ row, -1 ≤ z ∧ z < (m : Int)) ∧ RV (.bl true) H Q
theorem ok_is_a_row (B : Bi mg) (F : Df K mg "is_a_row" s_is_a_row ["value", "letters", "rooms"]) (h_is_integer : Has P w K mg base 1 "is_integer" ["value"] sp_int1) : Has P w K mg base 2 "is_a_row" ["value", "letters", "rooms"] (sp_is_a_row K) := by
  refine F.ok sc_is_a_row (fun vs H Q E h => ?_) (fun f cdv A outer s H vs Q E hr h => ?_)
  · obtain ⟨a, wk, L, m, rfl, _⟩ := h
    rfl
  · obtain ⟨a, row, L, m, rfl, ha, hl, hL, hs, q⟩ := h
    refine ⟨_, (pss_cons (ps_if (PW.pt (pw_or (pt_not (pt_val (pe_callB (kIsi K) (by rfl) B.isinstance (by decide +kernel) (pa_cons (pv 0) (pa_cons (pe_bltn (v := .ty "tuple") (by rfl) B.tuple (by decide +kernel) rfl) pa_nil))))) (pw_or1 (pt_cmpR op_ne (pe_callB (kLen K) (by rfl) B.len PySem.boot_len (pa_cons (pv 0) pa_nil)) (pv 1) (nomark _)))))
        (pss_one (ps_ret pe_bl))
        pss_nil)
      (pss_one (ps_ret (pe_callB (kAll K) (by rfl) B.all (by decide +kernel) (pa_cons (pe_lc (own := [("room", 3)]) rfl sc_is_a_row.nd (pi_tup (pv 0)) (blkOk_by (N := n_is_a_row) (sc := defScope s_is_a_row) (by decide +kernel)) (fun _ _ _ _ _ => (pg_name (i := 3) sc_is_a_row.nd rfl (Or.inl rfl))) (fun _ _ _ _ _ => pts_nil) (fun _ _ _ _ _ => (pe_and (pe_has h_is_integer (hr.mono (by omega)) (pa_cons (pv 3) pa_nil)) (pe_one (pe_chain op_le op_lt (pe_un un_neg pe_int) (pv 3) (pv 2)))))) pa_nil))))), ?_⟩
    refine ⟨_, rfl, _, _, _, _, true, rfl, .ty "tuple", tyX_tup ha, kit_ty (by decide +kernel), ?_⟩
    refine ⟨true, rfl, iteF ?_⟩
    refine ⟨_, rfl, a, _, rfl, .inr ha, _, rfl, rfl, _, rfl, ?_⟩
    rw [List.length_map, hl, decide_eq_true rfl]
    refine iteF ?_
    refine ⟨_, rfl, a, rfl, ⟨_, ha⟩, lcg walk_tup (fun _ => true) (fun _ => V.bl true) (by rw [List.length_map]; omega) (fun H' s' => s'.tup ha) YAt.same (fun i x H1 H2 hi s1 s2 y => ?_) (fun D H1 hD s1 h1 => ?_)⟩
    · obtain ⟨z, hz, rfl⟩ := of_vi_get y.2
      refine ⟨_, fun Qg h => h, rfl, evt_yes, fun _ H3 s3 Q3 q3 => ?_⟩
      obtain ⟨z1, z2⟩ := hs z (List.mem_of_getElem? hz)
      refine ⟨_, rfl, z, rfl, fun H4 s4 => ⟨true, rfl, iteT ?_⟩⟩
      refine ⟨_, rfl, _, rfl, _, _, rfl, rfl, _, rfl, ?_⟩
      rw [decide_eq_true (show (-1 : Int) ≤ z from z1)]
      refine iteT ⟨_, rfl, _, _, rfl, rfl, ?_⟩
      have : Q3 (.bl (decide (z < (m : Int)))) H4 := by
        rw [decide_eq_true z2]
        exact q3 H4 s4
      exact this
    · rw [all_true] at h1
      refine ⟨_, _, rfl, SqL.of h1, ?_⟩
      rw [all_id]
      exact q H1 s1
end
end Wk
set_option Elab.async false
set_option linter.all false
set_option maxRecDepth 100000
set_option maxHeartbeats 4000000
namespace Wk
open PySem L2 Wc
/-! ### new objects, one a turn -/
/-- ds are new objects behind H, the j-th of them is what c says of the j-th of ix -/
structure News (H H' : Hp) (ds : List Addr) (ix : List Nat) (c : Nat → HO) : Prop where
  nd : ds.Nodup
  len : ds.length = ix.length
  at_ : ∀ (j : Nat) d i, ds[j]? = some d → ix[j]? = some i → H' d = some (c i)
  new : ∀ d ∈ ds, H d = none
theorem News.same {H H1 H2 : Hp} {ds : List Addr} {ix : List Nat} {c : Nat → HO} (h : News H H1 ds ix c) (e : Same H1 H2) : News H H2 ds ix c := ⟨h.nd, h.len, fun j d i a b => e _ _ (h.at_ j d i a b), h.new⟩
theorem News.upd {H H1 : Hp} {ds : List Addr} {ix : List Nat} {c : Nat → HO} {D : Addr} {o : HO} (h : News H H1 ds ix c) (hD : D ∉ ds) : News H (upd H1 D o) ds ix c :=
  ⟨h.nd, h.len, fun j d i a b => by
    have hm := List.mem_of_getElem? a
    have hne : d ≠ D := by
      rintro rfl
      exact hD hm
    rw [upd_ne hne]
    exact h.at_ j d i a b, h.new⟩
theorem News.there {H H1 : Hp} {ds : List Addr} {ix : List Nat} {c : Nat → HO} (h : News H H1 ds ix c) : ∀ d ∈ ds, ∃ o, H1 d = some o := fun d hd => by
  obtain ⟨j, hj, e⟩ := List.getElem_of_mem hd
  have : j < ix.length := by rw [← h.len]; exact hj
  exact ⟨_, h.at_ j d ix[j] (by rw [List.getElem?_eq_getElem hj, e]) (List.getElem?_eq_getElem this)⟩
theorem News.snoc {H H1 H2 : Hp} {ds : List Addr} {ix : List Nat} {c : Nat → HO} {p : Addr} {i : Nat} (h : News H H1 ds ix c) (s0 : Same H H1) (s : Same H1 H2) (hp : H1 p = none) (h2 : H2 p = some (c i)) : News H H2 (ds ++ [p]) (ix ++ [i]) c := by
  refine ⟨List.nodup_append.mpr ⟨h.nd, by simp, fun a ha b hb e => ?_⟩, by rw [List.length_append, List.length_append, h.len]; rfl, fun j d k a b => ?_, fun d hd => ?_⟩
  · have : b = p := List.mem_singleton.mp hb
    obtain ⟨o, ho⟩ := h.there a ha
    rw [e, this, hp] at ho
    cases ho
  · by_cases cj : j < ds.length
    · rw [List.getElem?_append_left cj] at a
      rw [List.getElem?_append_left (by rw [← h.len]; exact cj)] at b
      exact s _ _ (h.at_ j d k a b)
    · rw [List.getElem?_append_right (by omega)] at a
      rw [List.getElem?_append_right (by rw [← h.len]; omega), ← h.len] at b
      have hj : j - ds.length = 0 := by
        rcases Nat.eq_zero_or_pos (j - ds.length) with z | z
        · exact z
        · rw [List.getElem?_eq_none (by rw [List.length_singleton]; omega)] at a
          cases a
      rw [hj] at a b
      have e1 : p = d := Option.some.inj a
      have e2 : i = k := Option.some.inj b
      rw [← e1, ← e2]
      exact h2
  · rcases List.mem_append.mp hd with z | z
    · exact h.new d z
    · rw [List.mem_singleton.mp z]
      exact s0.free hp
section
variable {J : It} {n : Nat} {G : Hp → Prop} {Y : Nat → Hp → V → Hp → Prop}
theorem lcn (w : Walk J n G Y) {g : TG} {tt : TT} {te : TE} {vs : List Nat} {σ : St} {H : Hp} {Qd : Addr → Hp → Prop} (f : Nat → Bool) (c : Nat → HO) (hz : n ≤ 50000) (hG : ∀ H', Same H H' → G H') (hY : ∀ i H' x H2, Y i H' x H2 → Same H' H2)
    (he : ∀ i x H' H2, i < n → Same H H' → Same H H2 → Y i H' x H2 → ∃ σ2, (∀ Qg : St → Hp → Prop, Qg σ2 H2 → g x (wipe σ vs) H2 Qg) ∧ wipe σ2 vs = wipe σ vs ∧ Evl.EvT tt σ2 H2 (f i) ∧
      (f i = true → ∀ H3, Same H2 H3 → ∀ Q' : VK, (∀ p H4, Same H3 H4 → H3 p = none → H4 p = some (c i) → Q' (.ref p) H4) → te σ2 H3 Q'))
    (q : ∀ D ds H', H D = none → Same H H' → H' D = some (.lst (ds.map V.ref)) → News H H' ds ((List.range n).filter f) c → D ∉ ds → Qd D H') :
    ∀ D, H D = none → ∃ W : Nat → Nat → Hp → Prop, (∃ m, W 0 m (upd H D (.lst []))) ∧ ∀ i m H, W i m H →
      (J.stop i H ∧ Qd D H) ∨ (J.go i H ∧ ∃ Nx : Hp → Prop, (∀ H', Nx H' → ∃ m', m' < m ∧ W (i + 1) m' H') ∧ ∀ x H', J.yld i H x H' → g x (wipe σ vs) H' fun σ2 H2 => wipe σ2 vs = wipe σ vs ∧ tt σ2 H2 fun b H3 =>
        if b = true then te σ2 H3 fun y H4 => ∃ acc, H4 D = some (.lst acc) ∧ acc.length < sizeLine ∧ Nx (upd H4 D (.lst (acc ++ [y]))) else Nx H3) := fun D hD =>
  lc_it w (Qd := Qd D) (fun i H' => ∃ ds, Same H H' ∧ H' D = some (.lst (ds.map V.ref)) ∧ News H H' ds ((List.range i).filter f) c ∧ D ∉ ds) ⟨[], same_new hD, upd_same, ⟨List.nodup_nil, rfl, fun j d i a => by simp at a, fun d h => nomatch h⟩, fun h => nomatch h⟩ (fun i H' _ ⟨ds, h, _⟩ => hG H' h) (fun i x H' H2 hi ⟨ds, h, hDl, hN, hDn⟩ y => by
    have s2 := hY i H' x H2 y
    obtain ⟨σ2, h1, h2, h3, h4⟩ := he i x H' H2 hi h (h.trans s2) y
    refine h1 _ ⟨h2, ?_⟩
    refine h3 H2 (Same.refl H2) _ fun H3 s3 => ?_
    have s3 : Same H2 H3 := s3
    have s13 := s2.trans s3
    have hr : (List.range (i + 1)).filter f = (List.range i).filter f ++ (if f i then [i] else []) := by
      rw [List.range_succ, List.filter_append, List.filter_cons, List.filter_nil]
    cases hf : f i with
    | true =>
      show te σ2 H3 _
      refine h4 hf H3 s3 _ fun p H4 s4 np hp => ⟨_, s4 _ _ (s13 _ _ hDl), ?_, ds ++ [p], ((h.trans s13).trans s4).mut hD, ?_, ?_, ?_⟩
      · rw [List.length_map, hN.len]
        refine smallL ?_
        have := List.length_filter_le f (List.range i)
        rw [List.length_range] at this
        omega
      · rw [upd_same, List.map_append]
        rfl
      · rw [hr, hf]
        have := (hN.same s13).snoc (h.trans s13) s4 np hp
        refine this.upd ?_
        intro z
        rcases List.mem_append.mp z with z | z
        · exact hDn z
        · rw [← List.mem_singleton.mp z, s13 _ _ hDl] at np
          cases np
      · intro z
        rcases List.mem_append.mp z with z | z
        · exact hDn z
        · rw [← List.mem_singleton.mp z, s13 _ _ hDl] at np
          cases np
    | false =>
      refine ⟨ds, h.trans s13, s13 _ _ hDl, ?_, hDn⟩
      rw [hr, hf]
      show News H H3 ds ((List.range i).filter f ++ []) c
      rw [List.append_nil]
      exact hN.same s13) (fun H' ⟨ds, h, hDl, hN, hDn⟩ => q D ds H' hD h hDl hN hDn)
end
/-! ### a picture is filled -/
def _root_.Wc.Pic.set (P : Pic) (i : Nat) (s : Int) (g : Nat) : Pic := ⟨P.n, fun r t => if r = i ∧ t = s then some g else P.go r t⟩
theorem set_at (P : Pic) (i : Nat) (s : Int) (g : Nat) : (P.set i s g).go i s = some g := if_pos ⟨rfl, rfl⟩
theorem set_ne {P : Pic} {i r : Nat} {s t : Int} {g : Nat} (h : ¬ (r = i ∧ t = s)) : (P.set i s g).go r t = P.go r t := if_neg h
theorem Pics.congr {H : Hp} {ds : List Addr} {kv : Nat → Row} {P Q : Pic} (h : Pics H ds kv P) (hn : Q.n = P.n) (hg : ∀ i, i < P.n → ∀ s, Q.go i s = P.go i s) : Pics H ds kv Q :=
  ⟨h.nd, h.len.trans hn.symm, fun i d hd => let r := h.row i d hd; ⟨r.at_, r.nd, fun s => by rw [hg i (by rw [← h.len]; exact lt_of_get hd)]; exact r.go s⟩⟩
theorem nd_get {α : Type} {l : List α} (h : l.Nodup) {i j : Nat} {x : α} (a : l[i]? = some x) (b : l[j]? = some x) : i = j := nd_ix h a b
theorem Pics.put {H : Hp} {ds : List Addr} {kv : Nat → Row} {Q : Pic} {i : Nat} {d : Addr} {s : Int} {g L : Nat} (h : Pics H ds kv Q) (hi : ds[i]? = some d) (hn : Q.go i s = none) (hL : L ≤ 1000) (hs : ∀ s g, Q.go i s = some g → stepOk L s) :
    ∃ H' kv', DPut H d (.int s) (.int (g : Int)) H' ∧ (∃ o, H' = upd H d o) ∧ Pics H' ds kv' (Q.set i s g) := by
  obtain ⟨H', p, e, r⟩ := (h.row i d hi).put (L := L) (g := g) hn hL hs
  refine ⟨H', fun j => if j = i then kv i ++ [(s, g)] else kv j, p, ⟨_, e⟩, h.nd, h.len, fun j d' hd' => ?_⟩
  by_cases c : j = i
  · subst c
    rw [hi] at hd'
    cases hd'
    simp only [if_true]
    refine ⟨r.at_, r.nd, fun t => ?_⟩
    rw [r.go t]
    show _ = if j = j ∧ t = s then some g else Q.go j t
    by_cases ct : t = s
    · rw [if_pos ct, if_pos ⟨rfl, ct⟩]
    · rw [if_neg ct, if_neg (fun z => ct z.2)]
  · simp only [if_neg c]
    have hne : d' ≠ d := fun z => c (nd_get h.nd hd' (z ▸ hi))
    have r' := h.row j d' hd'
    refine ⟨by rw [e, upd_ne hne]; exact r'.at_, r'.nd, fun t => ?_⟩
    rw [r'.go t]
    show _ = if j = i ∧ t = s then some g else Q.go j t
    rw [if_neg (fun z => c z.1)]
/-- all empty -/
def empty (n : Nat) : Pic := ⟨n, fun _ _ => none⟩
theorem pics_empty {H H' : Hp} {ds : List Addr} {n : Nat} {c : Nat → HO} (h : News H H' ds ((List.range n).filter fun _ => true) c) (hc : ∀ i, c i = .dK []) : Pics H' ds (fun _ => []) (empty n) := by
  have e : (List.range n).filter (fun _ => true) = List.range n := List.filter_eq_self.mpr fun _ _ => rfl
  have hl := h.len
  rw [e, List.length_range] at hl
  refine ⟨h.nd, hl, fun i d hd => ⟨?_, List.nodup_nil, fun s => rfl⟩⟩
  have := h.at_ i d i hd (by rw [e, List.getElem?_range (by rw [← hl]; exact lt_of_get hd)])
  rw [hc] at this
  exact this
/-- the steps that the rows' first places tell -/
def doneAt (i j r l : Nat) : Bool := decide (r < i ∨ (r = i ∧ l < j))
def upTo (P : Pic) (i j : Nat) : Pic := ⟨P.n, fun r s => match P.go r s with
  | some q => if doneAt i j (if 0 < s then r else q) (s.natAbs - 1) then some q else none
  | none => none⟩
section
variable {P : Pic} {L : Nat}
theorem upTo_some {i j r q : Nat} {s : Int} (h : P.go r s = some q) : (upTo P i j).go r s = if doneAt i j (if 0 < s then r else q) (s.natAbs - 1) then some q else none := by
  show (match P.go r s with
    | some q => if doneAt i j (if 0 < s then r else q) (s.natAbs - 1) then some q else none
    | none => none) = _
  rw [h]
theorem upTo_none {i j r : Nat} {s : Int} (h : P.go r s = none) : (upTo P i j).go r s = none := by
  show (match P.go r s with
    | some q => if doneAt i j (if 0 < s then r else q) (s.natAbs - 1) then some q else none
    | none => none) = _
  rw [h]
theorem upTo_sub {i j r q : Nat} {s : Int} (h : (upTo P i j).go r s = some q) : P.go r s = some q := by
  cases c : P.go r s with
  | none => rw [upTo_none c] at h; cases h
  | some g =>
    rw [upTo_some c] at h
    by_cases d : doneAt i j (if 0 < s then r else g) (s.natAbs - 1) = true
    · rw [if_pos d] at h
      exact h
    · rw [if_neg d] at h
      cases h
theorem upTo_start (r : Nat) (s : Int) : (upTo P 0 0).go r s = none := by
  cases c : P.go r s with
  | none => exact upTo_none c
  | some g =>
    rw [upTo_some c, if_neg]
    unfold doneAt
    rw [decide_eq_true_eq]
    omega
theorem upTo_row (hp : P.Ok L) (i r : Nat) (s : Int) : (upTo P i L).go r s = (upTo P (i + 1) 0).go r s := by
  cases c : P.go r s with
  | none => rw [upTo_none c, upTo_none c]
  | some g =>
    have hs := (hp.ok r s g c).2.2.1
    have h1 := hs.1
    have h2 := hs.2
    rw [upTo_some c, upTo_some c]
    have : doneAt i L (if 0 < s then r else g) (s.natAbs - 1) = doneAt (i + 1) 0 (if 0 < s then r else g) (s.natAbs - 1) := by
      unfold doneAt
      rw [decide_eq_decide]
      omega
    rw [this]
theorem upTo_end (hp : P.Ok L) (r : Nat) (s : Int) : (upTo P P.n 0).go r s = P.go r s := by
  cases c : P.go r s with
  | none => exact upTo_none c
  | some g =>
    obtain ⟨h1, h2, _, _⟩ := hp.ok r s g c
    rw [upTo_some c, if_pos]
    unfold doneAt
    rw [decide_eq_true_eq]
    split <;> omega
theorem upTo_skip (hp : P.Ok L) {i j : Nat} (h : P.go i ((j : Int) + 1) = none) (r : Nat) (s : Int) : (upTo P i (j + 1)).go r s = (upTo P i j).go r s := by
  cases c : P.go r s with
  | none => rw [upTo_none c, upTo_none c]
  | some g =>
    obtain ⟨_, _, hs, hb⟩ := hp.ok r s g c
    have h1 := hs.1
    rw [upTo_some c, upTo_some c]
    have : doneAt i (j + 1) (if 0 < s then r else g) (s.natAbs - 1) = doneAt i j (if 0 < s then r else g) (s.natAbs - 1) := by
      unfold doneAt
      rw [decide_eq_decide]
      by_cases hs0 : 0 < s
      · rw [if_pos hs0]
        have : ¬ (r = i ∧ s.natAbs - 1 = j) := by
          rintro ⟨e1, e2⟩
          have : s = (j : Int) + 1 := by omega
          rw [e1, this, h] at c
          cases c
        omega
      · rw [if_neg hs0]
        have : ¬ (g = i ∧ s.natAbs - 1 = j) := by
          rintro ⟨e1, e2⟩
          have : -s = (j : Int) + 1 := by omega
          rw [e1, this, h] at hb
          cases hb
        omega
    rw [this]
theorem upTo_new (hp : P.Ok L) {i j g : Nat} (h : P.go i ((j : Int) + 1) = some g) : (upTo P i j).go i ((j : Int) + 1) = none ∧ (upTo P i j).go g (-((j : Int) + 1)) = none := by
  have hb := (hp.ok i _ g h).2.2.2
  constructor
  · rw [upTo_some h, if_neg]
    unfold doneAt
    rw [decide_eq_true_eq, if_pos (by omega)]
    omega
  · rw [upTo_some hb, if_neg]
    unfold doneAt
    rw [decide_eq_true_eq, if_neg (by omega)]
    omega
theorem upTo_step (hp : P.Ok L) {i j g : Nat} (h : P.go i ((j : Int) + 1) = some g) (r : Nat) (s : Int) : (upTo P i (j + 1)).go r s = (((upTo P i j).set i ((j : Int) + 1) g).set g (-((j : Int) + 1)) i).go r s := by
  have hb := (hp.ok i _ g h).2.2.2
  by_cases c1 : r = g ∧ s = -((j : Int) + 1)
  · obtain ⟨rfl, rfl⟩ := c1
    rw [set_at, upTo_some hb, if_pos]
    unfold doneAt
    rw [decide_eq_true_eq, if_neg (by omega)]
    omega
  · rw [set_ne c1]
    by_cases c2 : r = i ∧ s = (j : Int) + 1
    · obtain ⟨rfl, rfl⟩ := c2
      rw [set_at, upTo_some h, if_pos]
      unfold doneAt
      rw [decide_eq_true_eq, if_pos (by omega)]
      omega
    · rw [set_ne c2]
      cases c : P.go r s with
      | none => rw [upTo_none c, upTo_none c]
      | some x =>
        obtain ⟨_, _, hs, hb2⟩ := hp.ok r s x c
        have h1 := hs.1
        rw [upTo_some c, upTo_some c]
        have : doneAt i (j + 1) (if 0 < s then r else x) (s.natAbs - 1) = doneAt i j (if 0 < s then r else x) (s.natAbs - 1) := by
          unfold doneAt
          rw [decide_eq_decide]
          by_cases hs0 : 0 < s
          · rw [if_pos hs0]
            have : ¬ (r = i ∧ s.natAbs - 1 = j) := fun ⟨e1, e2⟩ => c2 ⟨e1, by omega⟩
            omega
          · rw [if_neg hs0]
            have : ¬ (x = i ∧ s.natAbs - 1 = j) := by
              rintro ⟨e1, e2⟩
              have e3 : -s = (j : Int) + 1 := by omega
              rw [e1, e3, h] at hb2
              have : g = r := Option.some.inj hb2
              exact c1 ⟨this.symm, by omega⟩
            omega
        rw [this]
end
/-- the promise of a new picture -/
def RPic (P : Pic) (H : Hp) (Q : VK) : Prop := ∀ p ds kv H', Same H H' → H p = none → (∀ d ∈ ds, H d = none) → H' p = some (.lst (ds.map V.ref)) → Pics H' ds kv P → Q (.ref p) H'

section
variable {P : Program} {w : World} {K : PySem.W.Frag} {mg : Str → Option Value} {base : Heap}
/-- what stands while the rows are gone through -/
structure Fill (H H' : Hp) (l : Addr) (ds : List Addr) (P : Pic) : Prop where
  sm : Same H H'
  lst : H' l = some (.lst (ds.map V.ref))
  new : ∀ d ∈ ds, H d = none
  pic : ∃ kv, Pics H' ds kv P
theorem Fill.grow {H H1 H2 : Hp} {l : Addr} {ds : List Addr} {P : Pic} (h : Fill H H1 l ds P) (e : Same H1 H2) : Fill H H2 l ds P := ⟨h.sm.trans e, e _ _ h.lst, h.new, let ⟨kv, p⟩ := h.pic; ⟨kv, p.same e⟩⟩
theorem Fill.congr {H H' : Hp} {l : Addr} {ds : List Addr} {P Q : Pic} (h : Fill H H' l ds P) (hn : Q.n = P.n) (hg : ∀ i s, Q.go i s = P.go i s) : Fill H H' l ds Q := ⟨h.sm, h.lst, h.new, let ⟨kv, p⟩ := h.pic; ⟨kv, p.congr hn fun i _ s => hg i s⟩⟩
/-- the dict of a room -/
theorem Fill.at_ {H H' : Hp} {l : Addr} {ds : List Addr} {P : Pic} (h : Fill H H' l ds P) {i : Nat} (hi : i < P.n) : ∃ d, ds[i]? = some d ∧ (ds.map V.ref)[i]? = some (.ref d) := by
  obtain ⟨kv, p⟩ := h.pic
  obtain ⟨d, hd, _⟩ := p.get hi
  exact ⟨d, hd, refs_get hd⟩
theorem Fill.put {H H' : Hp} {l : Addr} {ds : List Addr} {P : Pic} {i g L : Nat} {d : Addr} {s : Int} (h : Fill H H' l ds P) (hi : ds[i]? = some d) (hn : P.go i s = none) (hL : L ≤ 1000) (hs : ∀ i s g, P.go i s = some g → stepOk L s) :
    ∃ H2, DPut H' d (.int s) (.int (g : Int)) H2 ∧ Fill H H2 l ds (P.set i s g) ∧ But d H' H2 := by
  obtain ⟨kv, p⟩ := h.pic
  obtain ⟨H2, kv2, a, ⟨o, e⟩, b⟩ := p.put (g := g) hi hn hL (hs i)
  have hd := h.new d (List.mem_of_getElem? hi)
  have hld : l ≠ d := ne_of h.lst (p.row i d hi).at_ (by intro z; cases z)
  refine ⟨H2, a, ⟨by rw [e]; exact h.sm.mut hd, by rw [e, upd_ne hld]; exact h.lst, h.new, kv2, b⟩, ?_⟩
  rw [e]
  exact (But.refl d H').upd
theorem enc_nonneg {o : Option Nat} : (0 : Int) ≤ enc o ↔ ∃ g, o = some g := by
  cases o with
  | none => exact ⟨fun h => absurd h (by decide), fun ⟨g, e⟩ => nomatch e⟩
  | some g => exact ⟨fun _ => ⟨g, rfl⟩, fun _ => Int.natCast_nonneg g⟩
theorem tu_get {K : PySem.W.Frag} {H : Hp} {nss : List (List Int)} {as : List Addr} {i : Nat} {x : V} (h2 : as.length = nss.length) (h3 : ∀ (i : Nat) b ns, as[i]? = some b → nss[i]? = some ns → TI K H b ns) (hx : (as.map V.ref)[i]? = some x) : ∃ b ns, x = .ref b ∧ as[i]? = some b ∧ nss[i]? = some ns ∧ TI K H b ns := by
  obtain ⟨b, hb, rfl⟩ := of_refs_get hx
  have hi := lt_of_get hb
  have : i < nss.length := by omega
  exact ⟨b, nss[i], rfl, hb, List.getElem?_eq_getElem this, h3 i b _ hb (List.getElem?_eq_getElem this)⟩
abbrev s_doors_of : Stmt := top 15
abbrev n_doors_of : List Str := ["rows", "found", "row", "room", "at", "goal"]
theorem sc_doors_of : FnScope n_doors_of ["rows"] (defScope s_doors_of) := ⟨rfl, rfl, rfl, by decide +kernel, rfl, by decide +kernel, by decide +kernel⟩
def sp_doors_of (K : PySem.W.Frag) : Sp := fun vs H Q _ => ∃ (a : Addr) (L : Nat) (P : Pic), vs = [.ref a] ∧ P.Ok L ∧ L ≤ 5 ∧ P.n ≤ 1000 ∧ TuT K H a (rowsOf L P) ∧ RPic P H Q
theorem ok_doors_of (B : Bi mg) (F : Df K mg "doors_of" s_doors_of ["rows"]) : Has P w K mg base 1 "doors_of" ["rows"] (sp_doors_of K) := by
  refine F.ok sc_doors_of (fun vs H Q E h => ?_) (fun f cdv A outer s H vs Q E hr h => ?_)
  · obtain ⟨a, L, P, rfl, _⟩ := h
    rfl
  · obtain ⟨a, L, P, rfl, hp, hL, hn, hT, q⟩ := h
    obtain ⟨as, hA, hlen, hrow⟩ := hT.ex
    rw [rowsOf_length] at hlen
    refine ⟨_, (pss_cons (ps_setLc (i := 1) (own := [("row", 2)]) rfl sc_doors_of.nd rfl rfl (sw_true rfl rfl rfl (by decide +kernel)) (pi_tup (pv 0)) (blkOk_by (N := n_doors_of) (sc := defScope s_doors_of) (by decide +kernel)) (fun _ _ _ _ _ => (pg_name (i := 2) sc_doors_of.nd rfl (Or.inl rfl))) (fun _ _ _ _ _ => pts_nil) (fun _ _ _ _ _ => pe_dnewK))
      (pss_cons (ps_for PassesOwn.never rfl (pi_enumT (by rfl) B.enumerate (pa_cons (pv 0) pa_nil)) (k_tup K (n := 2) rfl (pgs_cons (pg_name (i := 3) sc_doors_of.nd rfl (Or.inl rfl)) (pgs_cons (pg_name (i := 2) sc_doors_of.nd rfl (Or.inl rfl)) pgs_nil)))
        (pss_one (ps_for PassesOwn.never rfl (pi_enumT (by rfl) B.enumerate (pa_cons (pv 2) pa_nil)) (k_tup K (n := 2) rfl (pgs_cons (pg_name (i := 4) sc_doors_of.nd rfl (Or.inl rfl)) (pgs_cons (pg_name (i := 5) sc_doors_of.nd rfl (Or.inl rfl)) pgs_nil)))
          (pss_one (ps_if (pt_cmpR op_ge (pv 5) pe_int (nomark _))
            (pss_cons (ps_dput (hu_of hr) (pe_ix (kIxL K) (pv 1) (pv 3) (fun _ _ => rfl)) (pe_op op_add (pv 4) pe_int) (pv 5) rfl)
            (pss_one (ps_dput (hu_of hr) (pe_ix (kIxL K) (pv 1) (pv 5) (fun _ _ => rfl)) (pe_op op_sub (pe_un un_neg (pv 4)) pe_int) (pv 3) rfl)))
            pss_nil)))))
      (pss_one (ps_ret (pv 1))))), ?_⟩
    refine ⟨_, rfl, a, rfl, ⟨_, hA⟩, lcn walk_tup (fun _ => true) (fun _ => .dK []) (by rw [List.length_map]; omega) (fun H' s' => s'.tup hA) YAt.same (fun i x H1 H2 hi s1 s2 y => ?_) (fun l ds H1 hl s1 h1 hN hD => ?_)⟩
    · exact ⟨_, fun Qg h => h, rfl, evt_yes, fun _ H3 s3 Q3 q3 p np => q3 p _ (same_new np) np upd_same⟩
    · have pe := pics_empty (c := fun _ => .dK []) hN (fun _ => rfl)
      rw [List.length_map, hlen] at pe
      have f0 : Fill H H1 l ds (upTo P 0 0) := ⟨s1, h1, hN.new, _, pe.congr rfl fun i _ s => upTo_start i s⟩
      refine ⟨_, rfl, a, _, rfl, s1.tup hA, for_it walk_enumT (fun i σ H' => ∃ y2 y3 y4 y5, σ = [some (.ref a), some (.ref l), y2, y3, y4, y5] ∧ Fill H H' l ds (upTo P i 0)) ⟨none, none, none, none, rfl, f0⟩ (fun i σ H' _ ⟨_, _, _, _, _, fl⟩ => fl.sm.tup hA) (fun i x σ H2 H3 hi ⟨y2, y3, y4, y5, e, fl⟩ hy => ?_) (fun σ H' ⟨y2, y3, y4, y5, e, fl⟩ => ?_)⟩
      · subst e
        rw [List.length_map, hlen] at hi
        obtain ⟨T, x1, x2, rfl, nT, rfl, e1, e2⟩ := hy
        cases e1
        obtain ⟨b, ns, rfl, hb, hns, hB⟩ := tu_get (nss := rowsOf L P) (by rw [rowsOf_length]; exact hlen) (fun j b ns p r => fl.sm.tup (hrow j b ns p r)) e2
        rw [rowsOf_get L hi] at hns
        cases hns
        have sT := same_new (o := .tup [.int (i : Nat), .ref b]) nT
        have fl2 := fl.grow sT
        have hB2 := sT.tup hB
        refine ⟨T, _, rfl, SqT.of upd_same, rfl, _, _, rfl, _, _, rfl, rfl, ?_⟩
        refine ⟨_, rfl, b, _, rfl, hB2, for_it walk_enumT (fun j σ H' => ∃ y4 y5, σ = [some (.ref a), some (.ref l), some (.ref b), some (.int (i : Int)), y4, y5] ∧ Fill H H' l ds (upTo P i j) ∧ TI K H' b (rowOf L P i)) ⟨y4, y5, rfl, fl2, hB2⟩ (fun j σ H' _ ⟨_, _, _, _, hb⟩ => hb) (fun j x σ H4 H5 hj ⟨y4, y5, e, f3, hB3⟩ hy => ?_) (fun σ H' ⟨y4, y5, e, f3, hB3⟩ => ?_)⟩
        · subst e
          rw [List.length_map, rowOf_length] at hj
          obtain ⟨T2, x1, x2, rfl, nT2, rfl, e1, e3⟩ := hy
          cases e1
          obtain ⟨z, hz, rfl⟩ := of_vi_get e3
          rw [rowOf_get P i hj] at hz
          cases hz
          have sT2 := same_new (o := .tup [.int (j : Nat), .int (enc (P.go i ((j : Int) + 1)))]) nT2
          have f4 := f3.grow sT2
          have hB4 := sT2.tup hB3
          refine ⟨T2, _, rfl, SqT.of upd_same, rfl, _, _, rfl, _, _, rfl, rfl, ?_⟩
          refine ⟨_, rfl, _, _, rfl, rfl, _, rfl, ?_⟩
          cases hg : P.go i ((j : Int) + 1) with
          | none =>
            rw [hg] at f4 hB4
            rw [decide_eq_false (show ¬ (0 : Int) ≤ enc none by decide)]
            refine iteF ⟨_, _, rfl, ?_, hB4⟩
            exact f4.congr rfl fun r s => upTo_skip hp hg r s
          | some g =>
            rw [hg] at f4 hB4
            obtain ⟨_, hgn, hs, hb⟩ := hp.ok i _ g hg
            rw [decide_eq_true (show (0 : Int) ≤ enc (some g) from Int.natCast_nonneg g)]
            refine iteT ?_
            obtain ⟨d1, hd1, hr1⟩ := f4.at_ (i := i) hi
            obtain ⟨n1, n2⟩ := upTo_new hp hg
            have stp : ∀ r s q, (upTo P i j).go r s = some q → stepOk L s := fun r s q e => (hp.ok r s q (upTo_sub e)).2.2.1
            obtain ⟨H6, p6, f6, b6⟩ := f4.put (L := L) hd1 n1 (by omega) stp
            have hB6 : TI K H6 b (rowOf L P i) := by
              obtain ⟨kv, pk⟩ := f4.pic
              rcases hB4 with (z | ⟨o, z⟩) | z
              · exact .inl (.inl (b6 _ _ (ne_of z (pk.row i d1 hd1).at_ (by intro z; cases z)) z))
              · exact .inl (.inr ⟨o, b6 _ _ (ne_of z (pk.row i d1 hd1).at_ (by intro z; cases z)) z⟩)
              · exact .inr z
            refine ⟨_, rfl, _, rfl, _, rfl, l, _, _, _, rfl, rfl, SqL.of f4.lst, atI_nat hr1, _, rfl, _, _, rfl, rfl, d1, H6, rfl, p6, ?_⟩
            obtain ⟨d2, hd2, hr2⟩ := f6.at_ (i := g) hgn
            have n3 : ((upTo P i j).set i ((j : Int) + 1) g).go g (-((j : Int) + 1)) = none := by
              rw [set_ne (by rintro ⟨_, z⟩; omega)]
              exact n2
            have stp2 : ∀ r s q, ((upTo P i j).set i ((j : Int) + 1) g).go r s = some q → stepOk L s := fun r s q e => by
              by_cases c : r = i ∧ s = (j : Int) + 1
              · rw [c.2]; exact hs
              · rw [set_ne c] at e; exact stp r s q e
            obtain ⟨H7, p7, f7, b7⟩ := f6.put (g := i) (L := L) hd2 n3 (by omega) stp2
            have hB7 : TI K H7 b (rowOf L P i) := by
              obtain ⟨kv, pk⟩ := f6.pic
              rcases hB6 with (z | ⟨o, z⟩) | z
              · exact .inl (.inl (b7 _ _ (ne_of z (pk.row g d2 hd2).at_ (by intro z; cases z)) z))
              · exact .inl (.inr ⟨o, b7 _ _ (ne_of z (pk.row g d2 hd2).at_ (by intro z; cases z)) z⟩)
              · exact .inr z
            have ek : -(j : Int) - 1 = -((j : Int) + 1) := by omega
            refine ⟨_, rfl, _, rfl, _, rfl, l, _, _, _, rfl, rfl, SqL.of f6.lst, atI_nat hr2, _, rfl, _, rfl, _, _, rfl, rfl, d2, H7, rfl, (by show DPut H6 d2 (V.int (-(j : Int) - 1)) (V.int (i : Int)) H7; rw [ek]; exact p7), ?_⟩
            exact ⟨_, _, rfl, f7.congr rfl fun r s => upTo_step hp hg r s, hB7⟩
        · subst e
          rw [List.length_map, rowOf_length] at f3
          exact ⟨_, _, _, _, rfl, f3.congr rfl fun r s => (upTo_row hp i r s).symm⟩
      · subst e
        rw [List.length_map, hlen] at fl
        obtain ⟨kv, pk⟩ := fl.pic
        exact ⟨_, rfl, q l ds kv H' fl.sm hl fl.new fl.lst (pk.congr rfl fun i _ s => (upTo_end hp i s).symm)⟩
abbrev s_law_doors : Stmt := top 50
abbrev n_law_doors : List Str := ["_law_web_here", "_law_found", "_law_row", "_law_room", "_law_at", "_law_goal", "_law_ahead", "_law_behind"]
theorem sc_law_doors : FnScope n_law_doors ["_law_web_here"] (defScope s_law_doors) := ⟨rfl, rfl, rfl, by decide +kernel, rfl, by decide +kernel, by decide +kernel⟩
def sp_law_doors (K : PySem.W.Frag) : Sp := fun vs H Q _ => ∃ (a : Addr) (L : Nat) (P : Pic), vs = [.ref a] ∧ P.Ok L ∧ L ≤ 5 ∧ P.n ≤ 1000 ∧ WebAt K H a L P ∧ RPic P H Q
theorem ok_law_doors (B : Bi mg) (F : Df K mg "_law_doors" s_law_doors ["_law_web_here"]) : Has P w K mg base 1 "_law_doors" ["_law_web_here"] (sp_law_doors K) := by
  refine F.ok sc_law_doors (fun vs H Q E h => ?_) (fun f cdv A outer s H vs Q E hr h => ?_)
  · obtain ⟨a, L, P, rfl, _⟩ := h
    rfl
  · obtain ⟨wa, L, P, rfl, hp, hL, hn, ⟨a, hW, hT⟩, q⟩ := h
    obtain ⟨as, hA, hlen, hrow⟩ := hT.ex
    rw [rowsOf_length] at hlen
    refine ⟨_, (pss_cons (ps_setLc (i := 1) (own := [("_law_row", 2)]) rfl sc_law_doors.nd rfl rfl (sw_true rfl rfl rfl (by decide +kernel)) (pi_tup (pe_ix (kIxT K) (pv 0) pe_int (fun _ _ => rfl))) (blkOk_by (N := n_law_doors) (sc := defScope s_law_doors) (by decide +kernel)) (fun _ _ _ _ _ => (pg_name (i := 2) sc_law_doors.nd rfl (Or.inl rfl))) (fun _ _ _ _ _ => pts_nil) (fun _ _ _ _ _ => pe_dnewK))
      (pss_cons (ps_for PassesOwn.never rfl (pi_enumT (by rfl) B.enumerate (pa_cons (pe_ix (kIxT K) (pv 0) pe_int (fun _ _ => rfl)) pa_nil)) (k_tup K (n := 2) rfl (pgs_cons (pg_name (i := 3) sc_law_doors.nd rfl (Or.inl rfl)) (pgs_cons (pg_name (i := 2) sc_law_doors.nd rfl (Or.inl rfl)) pgs_nil)))
        (pss_one (ps_for PassesOwn.never rfl (pi_enumT (by rfl) B.enumerate (pa_cons (pv 2) pa_nil)) (k_tup K (n := 2) rfl (pgs_cons (pg_name (i := 4) sc_law_doors.nd rfl (Or.inl rfl)) (pgs_cons (pg_name (i := 5) sc_law_doors.nd rfl (Or.inl rfl)) pgs_nil)))
          (pss_one (ps_if (pt_cmpR op_ge (pv 5) pe_int (nomark _))
            (pss_cons (ps_par (i := 6) (j := 7) (by rfl) sc_law_doors.nd rfl rfl (by decide) rfl rfl (pa_cons (pe_ix (kIxL K) (pv 1) (pv 3) (fun _ _ => rfl)) (pa_cons (pe_ix (kIxL K) (pv 1) (pv 5) (fun _ _ => rfl)) pa_nil)) (by rfl))
            (pss_cons (ps_dput (hu_of hr) (pv 6) (pe_op op_add (pv 4) pe_int) (pv 5) rfl)
            (pss_one (ps_dput (hu_of hr) (pv 7) (pe_op op_sub (pe_un un_neg (pv 4)) pe_int) (pv 3) rfl))))
            pss_nil)))))
      (pss_one (ps_ret (pv 1))))), ?_⟩
    refine ⟨_, rfl, wa, _, 1, _, rfl, rfl, hW, atI_nat (j := 1) rfl, a, rfl, ⟨_, hA⟩, lcn walk_tup (fun _ => true) (fun _ => .dK []) (by rw [List.length_map]; omega) (fun H' s' => s'.tup hA) YAt.same (fun i x H1 H2 hi s1 s2 y => ?_) (fun l ds H1 hl s1 h1 hN hD => ?_)⟩
    · exact ⟨_, fun Qg h => h, rfl, evt_yes, fun _ H3 s3 Q3 q3 p np => q3 p _ (same_new np) np upd_same⟩
    · have pe := pics_empty (c := fun _ => .dK []) hN (fun _ => rfl)
      rw [List.length_map, hlen] at pe
      have f0 : Fill H H1 l ds (upTo P 0 0) := ⟨s1, h1, hN.new, _, pe.congr rfl fun i _ s => upTo_start i s⟩
      refine ⟨_, rfl, wa, _, 1, _, rfl, rfl, s1.tup hW, atI_nat (j := 1) rfl, a, _, rfl, s1.tup hA, for_it walk_enumT (fun i σ H' => ∃ y2 y3 y4 y5 y6 y7, σ = [some (.ref wa), some (.ref l), y2, y3, y4, y5, y6, y7] ∧ Fill H H' l ds (upTo P i 0)) ⟨none, none, none, none, none, none, rfl, f0⟩ (fun i σ H' _ ⟨_, _, _, _, _, _, _, fl⟩ => fl.sm.tup hA) (fun i x σ H2 H3 hi ⟨y2, y3, y4, y5, y6, y7, e, fl⟩ hy => ?_) (fun σ H' ⟨y2, y3, y4, y5, y6, y7, e, fl⟩ => ?_)⟩
      · subst e
        rw [List.length_map, hlen] at hi
        obtain ⟨T, x1, x2, rfl, nT, rfl, e1, e2⟩ := hy
        cases e1
        obtain ⟨b, ns, rfl, hb, hns, hB⟩ := tu_get (nss := rowsOf L P) (by rw [rowsOf_length]; exact hlen) (fun j b ns p r => fl.sm.tup (hrow j b ns p r)) e2
        rw [rowsOf_get L hi] at hns
        cases hns
        have sT := same_new (o := .tup [.int (i : Nat), .ref b]) nT
        have fl2 := fl.grow sT
        have hB2 := sT.tup hB
        refine ⟨T, _, rfl, SqT.of upd_same, rfl, _, _, rfl, _, _, rfl, rfl, ?_⟩
        refine ⟨_, rfl, b, _, rfl, hB2, for_it walk_enumT (fun j σ H' => ∃ y4 y5 y6 y7, σ = [some (.ref wa), some (.ref l), some (.ref b), some (.int (i : Int)), y4, y5, y6, y7] ∧ Fill H H' l ds (upTo P i j) ∧ TI K H' b (rowOf L P i)) ⟨y4, y5, y6, y7, rfl, fl2, hB2⟩ (fun j σ H' _ ⟨_, _, _, _, _, _, hb⟩ => hb) (fun j x σ H4 H5 hj ⟨y4, y5, y6, y7, e, f3, hB3⟩ hy => ?_) (fun σ H' ⟨y4, y5, y6, y7, e, f3, hB3⟩ => ?_)⟩
        · subst e
          rw [List.length_map, rowOf_length] at hj
          obtain ⟨T2, x1, x2, rfl, nT2, rfl, e1, e3⟩ := hy
          cases e1
          obtain ⟨z, hz, rfl⟩ := of_vi_get e3
          rw [rowOf_get P i hj] at hz
          cases hz
          have sT2 := same_new (o := .tup [.int (j : Nat), .int (enc (P.go i ((j : Int) + 1)))]) nT2
          have f4 := f3.grow sT2
          have hB4 := sT2.tup hB3
          refine ⟨T2, _, rfl, SqT.of upd_same, rfl, _, _, rfl, _, _, rfl, rfl, ?_⟩
          refine ⟨_, rfl, _, _, rfl, rfl, _, rfl, ?_⟩
          cases hg : P.go i ((j : Int) + 1) with
          | none =>
            rw [hg] at f4 hB4
            rw [decide_eq_false (show ¬ (0 : Int) ≤ enc none by decide)]
            refine iteF ⟨_, _, _, _, rfl, ?_, hB4⟩
            exact f4.congr rfl fun r s => upTo_skip hp hg r s
          | some g =>
            rw [hg] at f4 hB4
            obtain ⟨_, hgn, hs, hb⟩ := hp.ok i _ g hg
            rw [decide_eq_true (show (0 : Int) ≤ enc (some g) from Int.natCast_nonneg g)]
            refine iteT ?_
            obtain ⟨d1, hd1, hr1⟩ := f4.at_ (i := i) hi
            obtain ⟨n1, n2⟩ := upTo_new hp hg
            have stp : ∀ r s q, (upTo P i j).go r s = some q → stepOk L s := fun r s q e => (hp.ok r s q (upTo_sub e)).2.2.1
            obtain ⟨H6, p6, f6, b6⟩ := f4.put (L := L) hd1 n1 (by omega) stp
            have hB6 : TI K H6 b (rowOf L P i) := by
              obtain ⟨kv, pk⟩ := f4.pic
              rcases hB4 with (z | ⟨o, z⟩) | z
              · exact .inl (.inl (b6 _ _ (ne_of z (pk.row i d1 hd1).at_ (by intro z; cases z)) z))
              · exact .inl (.inr ⟨o, b6 _ _ (ne_of z (pk.row i d1 hd1).at_ (by intro z; cases z)) z⟩)
              · exact .inr z
            obtain ⟨d2, hd2, hr2⟩ := f4.at_ (i := g) hgn
            refine ⟨_, rfl, _, rfl, l, _, _, _, rfl, rfl, SqL.of f4.lst, atI_nat hr1, _, rfl, _, rfl, l, _, _, _, rfl, rfl, SqL.of f4.lst, atI_nat hr2, _, _, rfl, ?_⟩
            refine ⟨_, rfl, _, rfl, _, rfl, _, _, rfl, rfl, d1, H6, rfl, p6, ?_⟩
            have n3 : ((upTo P i j).set i ((j : Int) + 1) g).go g (-((j : Int) + 1)) = none := by
              rw [set_ne (by rintro ⟨_, z⟩; omega)]
              exact n2
            have stp2 : ∀ r s q, ((upTo P i j).set i ((j : Int) + 1) g).go r s = some q → stepOk L s := fun r s q e => by
              by_cases c : r = i ∧ s = (j : Int) + 1
              · rw [c.2]; exact hs
              · rw [set_ne c] at e; exact stp r s q e
            obtain ⟨H7, p7, f7, b7⟩ := f6.put (g := i) (L := L) hd2 n3 (by omega) stp2
            have hB7 : TI K H7 b (rowOf L P i) := by
              obtain ⟨kv, pk⟩ := f6.pic
              rcases hB6 with (z | ⟨o, z⟩) | z
              · exact .inl (.inl (b7 _ _ (ne_of z (pk.row g d2 hd2).at_ (by intro z; cases z)) z))
              · exact .inl (.inr ⟨o, b7 _ _ (ne_of z (pk.row g d2 hd2).at_ (by intro z; cases z)) z⟩)
              · exact .inr z
            have ek : -(j : Int) - 1 = -((j : Int) + 1) := by omega
            refine ⟨_, rfl, _, rfl, _, rfl, _, rfl, _, _, rfl, rfl, d2, H7, rfl, (by show DPut H6 d2 (V.int (-(j : Int) - 1)) (V.int (i : Int)) H7; rw [ek]; exact p7), ?_⟩
            exact ⟨_, _, _, _, rfl, f7.congr rfl fun r s => upTo_step hp hg r s, hB7⟩
        · subst e
          rw [List.length_map, rowOf_length] at f3
          exact ⟨_, _, _, _, _, _, rfl, f3.congr rfl fun r s => (upTo_row hp i r s).symm⟩
      · subst e
        rw [List.length_map, hlen] at fl
        obtain ⟨kv, pk⟩ := fl.pic
        exact ⟨_, rfl, q l ds kv H' fl.sm hl fl.new fl.lst (pk.congr rfl fun i _ s => (upTo_end hp i s).symm)⟩
end
end Wk
set_option Elab.async false
set_option linter.all false
set_option maxRecDepth 100000
set_option maxHeartbeats 4000000
namespace Wk
open PySem L2 Wc
section
variable {P : Program} {w : World} {K : PySem.W.Frag} {mg : Str → Option Value} {base : Heap}
/-! ### is_one_way -/
/-- the goals of a letter -/
def goalsOf (P : Pic) (i : Nat) : List Int := ((List.range P.n).filter fun r => decide ((0 : Int) ≤ enc (P.go r ((i : Int) + 1)))).map fun r => enc (P.go r ((i : Int) + 1))
theorem goals_nodup {P : Pic} {L : Nat} (hp : P.Ok L) (i : Nat) : (goalsOf P i).Nodup := by
  unfold goalsOf
  refine List.pairwise_map.mpr ?_
  refine (List.Pairwise.and_mem.mp ((List.nodup_range).filter _)).imp ?_
  intro a b ⟨ha, hb, hne⟩ e
  have ha := of_decide_eq_true (List.mem_filter.mp ha).2
  have hb := of_decide_eq_true (List.mem_filter.mp hb).2
  obtain ⟨x, hx⟩ := enc_nonneg.mp ha
  obtain ⟨y, hy⟩ := enc_nonneg.mp hb
  rw [hx, hy] at e
  have e : (x : Int) = (y : Int) := e
  have e : x = y := by omega
  subst e
  have h1 := (hp.ok a _ x hx).2.2.2
  have h2 := (hp.ok b _ x hy).2.2.2
  rw [h1] at h2
  exact hne (Option.some.inj h2)
abbrev s_is_one_way : Stmt := top 16
abbrev n_is_one_way : List Str := ["rows", "letters", "at", "goals", "row"]
theorem sc_is_one_way : FnScope n_is_one_way ["rows", "letters"] (defScope s_is_one_way) := ⟨rfl, rfl, rfl, by decide +kernel, rfl, by decide +kernel, by decide +kernel⟩
def sp_is_one_way (K : PySem.W.Frag) : Sp := fun vs H Q _ => ∃ (a : Addr) (L : Nat) (P : Pic), vs = [.ref a, .int (L : Int)] ∧ P.Ok L ∧ L ≤ 5 ∧ P.n ≤ 1000 ∧ TuT K H a (rowsOf L P) ∧ RV (.bl true) H Q
theorem ok_is_one_way (B : Bi mg) (F : Df K mg "is_one_way" s_is_one_way ["rows", "letters"]) : Has P w K mg base 1 "is_one_way" ["rows", "letters"] (sp_is_one_way K) := by
  refine F.ok sc_is_one_way (fun vs H Q E h => ?_) (fun f cdv A outer s H vs Q E hr h => ?_)
  · obtain ⟨a, L, P, rfl, _⟩ := h
    rfl
  · obtain ⟨a, L, P, rfl, hp, hL, hn, hT, q⟩ := h
    obtain ⟨as, hA, hlen, hrow⟩ := hT.ex
    refine ⟨_, (pss_cons (ps_for PassesOwn.never rfl (pi_range1 rfl B.range (pa_cons (pv 1) pa_nil)) (pg_name (i := 2) sc_is_one_way.nd rfl (Or.inr rfl))
        (pss_cons (ps_setLc (i := 3) (own := [("row", 4)]) rfl sc_is_one_way.nd rfl rfl (sw_true rfl rfl rfl (by decide +kernel)) (pi_tup (pv 0)) (blkOk_by (N := n_is_one_way) (sc := defScope s_is_one_way) (by decide +kernel)) (fun _ _ _ _ _ => (pg_name (i := 4) sc_is_one_way.nd rfl (Or.inl rfl))) (fun _ _ _ _ _ => (pts_one (pt_cmpR op_ge (pe_ix (kIxT K) (pv 4) (pv 2) (fun _ _ => rfl)) pe_int (nomark _)))) (fun _ _ _ _ _ => (pe_ix (kIxT K) (pv 4) (pv 2) (fun _ _ => rfl))))
        (pss_one (ps_if (pt_cmpR op_lt (RZ.pe_lenSetI (by rfl) B.len (by rfl) B.set (pv 3)) (pe_callB (kLen K) (by rfl) B.len PySem.boot_len (pa_cons (pv 3) pa_nil)) (nomark _))
          (pss_one (ps_ret pe_bl))
          pss_nil))))
      (pss_one (ps_ret pe_bl))), ?_⟩
    refine ⟨_, rfl, L, rfl, by omega, by omega, for_range (lo := 0) (n := (L : Int).toNat) (fun i σ H' => ∃ y2 y3 y4, σ = [some (.ref a), some (.int (L : Int)), y2, y3, y4] ∧ Same H H') ⟨none, none, none, rfl, Same.refl H⟩ (fun i σ H' hi ⟨y2, y3, y4, e, sm⟩ => ?_) (fun σ H' ⟨y2, y3, y4, e, sm⟩ => q H' sm)⟩
    subst e
    have hi' : i < L := by omega
    have e0 : (0 : Int) + (i : Int) = ((i : Nat) : Int) := by omega
    rw [e0]
    refine ⟨_, rfl, a, rfl, ⟨_, sm.tup hA⟩, lcg walk_tup (fun r => decide ((0 : Int) ≤ enc (P.go r ((i : Int) + 1)))) (fun r => .int (enc (P.go r ((i : Int) + 1)))) (by rw [List.length_map, hlen, rowsOf_length]; omega) (fun H2 s2 => s2.tup (sm.tup hA)) YAt.same (fun r x H1 H2 hr' s1 s2 y => ?_) (fun D H1 hD s1 h1 => ?_)⟩
    · obtain ⟨b, ns, rfl, hb, hns, hB⟩ := tu_get hlen (fun j b ns p r => s2.tup (sm.tup (hrow j b ns p r))) y.2
      rw [List.length_map, hlen, rowsOf_length] at hr'
      rw [rowsOf_get L hr'] at hns
      cases hns
      have hat : atI (vi (rowOf L P r)) (i : Int) = some (.int (enc (P.go r ((i : Int) + 1)))) := atI_nat (vi_get (rowOf_get P r hi'))
      refine ⟨_, fun Qg h => h, rfl, fun H3 s3 Q3 q3 => ?_, fun _ H3 s3 Q3 q3 => ?_⟩
      · exact ⟨_, rfl, _, rfl, b, _, _, _, rfl, rfl, Same.tup s3 hB, hat, _, _, rfl, rfl, _, rfl, q3 H3 (Evl.Ex.refl H3)⟩
      · exact ⟨_, rfl, _, rfl, b, _, _, _, rfl, rfl, Same.tup s3 hB, hat, q3 H3 (Evl.Ex.refl H3)⟩
    · have hg : Evl.given (as.map V.ref).length (fun r => decide ((0 : Int) ≤ enc (P.go r ((i : Int) + 1)))) (fun r => V.int (enc (P.go r ((i : Int) + 1)))) = vi (goalsOf P i) := by
        unfold Evl.given goalsOf vi
        rw [List.map_map, List.length_map, hlen, rowsOf_length]
        rfl
      rw [hg] at h1
      have hl : (goalsOf P i).length ≤ 4000 := by
        unfold goalsOf
        rw [List.length_map]
        have := List.length_filter_le (fun r => decide ((0 : Int) ≤ enc (P.go r ((i : Int) + 1)))) (List.range P.n)
        rw [List.length_range] at this
        omega
      refine ⟨_, rfl, D, goalsOf P i, rfl, SqL.of h1, goals_nodup hp i, hl, _, rfl, D, _, rfl, .inl (SqL.of h1), _, _, rfl, rfl, _, rfl, ?_⟩
      rw [List.length_map, decide_eq_false (Int.lt_irrefl _)]
      exact iteF ⟨_, _, _, rfl, sm.trans s1⟩

/-! ### first_order -/
def metK (o : List Nat) : List (Key × V) := o.map fun x : Nat => ((Sum.inl (x : Int) : Key), V.bl true)
theorem metK_val (o : List Nat) (x : Nat) : valV (metK o) (Sum.inl (x : Int)) = if x ∈ o then some (.bl true) else none := by
  induction o with
  | nil => rfl
  | cons a r ih =>
    show valV (((Sum.inl (a : Int) : Key), V.bl true) :: metK r) _ = _
    by_cases c : a = x
    · subst c
      rw [valV_pos rfl, if_pos List.mem_cons_self]
    · rw [valV_neg (fun e => c (by have := Sum.inl.inj e; omega)), ih]
      simp [Ne.symm c]
theorem metK_put {o : List Nat} {x : Nat} (h : x ∉ o) : putK (metK o) (Sum.inl (x : Int)) (.bl true) = metK (o ++ [x]) := by
  rw [putK_new _ (by rw [metK_val, if_neg h]), metK, metK, List.map_append]
  rfl
theorem metK_length (o : List Nat) : (metK o).length = o.length := by
  unfold metK
  rw [List.length_map]
theorem foldl_take {α : Type} {ss : List Int} {f : α → Int → α} {o : α} {i : Nat} {x : Int} (h : ss[i]? = some x) : (ss.take (i + 1)).foldl f o = f ((ss.take i).foldl f o) x := by
  rw [List.take_add_one, h, List.foldl_append]
  rfl
theorem vn_at {o : List Nat} {k r : Nat} (h : o[k]? = some r) : atI (vn o) (k : Int) = some (.int (r : Int)) := atI_nat (vn_get h)
theorem getD_none : (Option.map (fun g : Nat => V.int (g : Int)) none).getD .non = V.non := rfl
abbrev s_first_order : Stmt := top 17
abbrev n_first_order : List Str := ["letters", "doors", "home", "order", "met", "at", "step", "goal"]
theorem sc_first_order : FnScope n_first_order ["letters", "doors", "home"] (defScope s_first_order) := ⟨rfl, rfl, rfl, by decide +kernel, rfl, by decide +kernel, by decide +kernel⟩
def sp_first_order : Sp := fun vs H Q _ => ∃ (L : Nat) (a : Addr) (P : Pic), vs = [.int (L : Int), .ref a, .int 0] ∧ P.Ok L ∧ L ≤ 5 ∧ P.n ≤ 1000 ∧ PicAt H a P ∧ RL (vn (order L P)) H Q
theorem ok_first_order (B : Bi mg) (F : Df K mg "first_order" s_first_order ["letters", "doors", "home"]) (h_steps_of : Has P w K mg base 1 "steps_of" ["letters"] sp_steps_of) : Has P w K mg base 2 "first_order" ["letters", "doors", "home"] sp_first_order := by
  refine F.ok sc_first_order (fun vs H Q E h => ?_) (fun f cdv A outer s H vs Q E hr h => ?_)
  · obtain ⟨L, a, P, rfl, _⟩ := h
    rfl
  · obtain ⟨L, a, P, rfl, hp, hL, hn, ⟨ds, kv, hA, hP⟩, q⟩ := h
    refine ⟨_, (pss_cons (ps_par3 (i := 3) (j := 4) (l := 5) (by rfl) sc_first_order.nd rfl rfl rfl (by decide) (by decide) (by decide) rfl rfl rfl (pa_cons (pe_lst (pa_cons (pv 2) pa_nil)) (pa_cons (pe_disp (pps_cons (pv 2) pe_bl pps_nil) (by rfl) (by rfl) (fun z => by cases z) (by decide)) (pa_cons pe_int pa_nil))) (by rfl))
      (pss_cons (ps_while PassesOwn.never (pt_cmpR op_lt (pv 5) (pe_callB (kLen K) (by rfl) B.len PySem.boot_len (pa_cons (pv 3) pa_nil)) (nomark _))
        (pss_cons (ps_for PassesOwn.never rfl (pi_list (pe_has h_steps_of (hr.mono (by omega)) (pa_cons (pv 0) pa_nil))) (pg_name (i := 6) sc_first_order.nd rfl (Or.inl rfl))
          (pss_cons (ps_set (i := 7) sc_first_order.nd rfl (Or.inl rfl) (pe_dget1 (hu_of hr) (pe_ix (kIxL K) (pv 1) (pe_ix (kIxL K) (pv 3) (pv 5) (fun _ _ => rfl)) (fun _ _ => rfl)) (pv 6) ⟨by rfl, by rfl, by rfl, by rfl⟩))
          (pss_one (ps_if (PW.pt (pw_and (pt_cmpR op_notN (pv 7) pe_non (nomark _)) (pw_and1 (pt_cmp (pc_dnotin (hu_of hr) (pv 7) (pv 4))))))
            (pss_cons (ps_dput (hu_of hr) (pv 4) (pv 7) pe_bl rfl)
            (pss_one (ps_expr (k_bm K PySem.F.plainAttrs_list PySem.F.slot_list_append PySem.F.type_list_append mt_append (pv 3) (pa_cons (pv 7) pa_nil)))))
            pss_nil))))
        (pss_one (ps_aug (i := 5) sc_first_order.nd rfl (Or.inl rfl) pe_int ip_add))))
      (pss_one (ps_ret (pv 3))))), ?_⟩
    refine ⟨_, rfl, (by show 1 ≤ sizeLine; decide), fun l nl => ?_⟩
    have s1 := same_new (o := .lst [.int 0]) nl
    intro m nm
    have nlm : l ≠ m := ne_of_none upd_same nm
    refine ⟨_, rfl, upd_same, [((Sum.inl (0 : Int) : Key), V.bl true)], rfl, by decide, ?_⟩
    refine ⟨_, _, _, rfl, ?_⟩
    rw [upd_upd]
    have s2 := s1.trans (same_new (o := .dK (mergeK [] [((Sum.inl (0 : Int) : Key), V.bl true)])) nm)
    have nm0 := s1.free nm
    refine ⟨fun μ σ H' => ∃ k y6 y7, σ = [some (.int (L : Int)), some (.ref a), some (.int 0), some (.ref l), some (.ref m), some (.int (k : Nat)), y6, y7] ∧ Same H H' ∧ H' l = some (.lst (vn (bfs L P k))) ∧ H' m = some (.dK (metK (bfs L P k))) ∧ k ≤ (bfs L P k).length ∧ μ = P.n - k, ⟨P.n, 0, none, none, rfl, s2, ?_, upd_same, Nat.zero_le _, rfl⟩, ?_⟩
    · rw [upd_ne nlm]
      exact upd_same
    rintro μ σ H' ⟨k, y6, y7, rfl, sm, hl, hm, hk, rfl⟩
    refine ⟨_, rfl, _, rfl, l, _, rfl, .inl (SqL.of hl), _, _, rfl, rfl, _, rfl, ?_⟩
    rw [List.length_map]
    by_cases c : (k : Int) < ((bfs L P k).length : Int)
    · rw [decide_eq_true c]
      refine iteT ?_
      have c' : k < (bfs L P k).length := by omega
      have hkn : k < P.n := Nat.lt_of_lt_of_le c' (bfs_ok hp k).len
      have hat : (bfs L P k)[k]? = some (bfs L P k)[k] := List.getElem?_eq_getElem c'
      generalize hrr : (bfs L P k)[k] = r at hat
      have hrn : r < P.n := hrr ▸ (bfs_ok hp k).lt _ (List.getElem_mem c')
      refine ⟨fun σ' H2 => ∃ y6 y7, σ' = [some (.int (L : Int)), some (.ref a), some (.int 0), some (.ref l), some (.ref m), some (.int ((k + 1 : Nat) : Int)), y6, y7] ∧ Same H H2 ∧ H2 l = some (.lst (vn (bfs L P (k + 1)))) ∧ H2 m = some (.dK (metK (bfs L P (k + 1)))), ?_, ?_⟩
      · rintro σ' H2 ⟨z6, z7, rfl, b1, b2, b3⟩
        refine ⟨P.n - (k + 1), by omega, k + 1, z6, z7, rfl, b1, b2, b3, ?_, rfl⟩
        have := (bfs_pre1 L P k).length_le
        omega
      · refine ⟨_, rfl, L, rfl, hL, fun t H2 s12 nt ht => ?_⟩
        refine ⟨t, rfl, ⟨_, SqL.of ht⟩, for_list (xs := vi (stepsL L)) (fun j σ H3 => ∃ y6 y7, σ = [some (.int (L : Int)), some (.ref a), some (.int 0), some (.ref l), some (.ref m), some (.int (k : Nat)), y6, y7] ∧ Same H H3 ∧ H3 l = some (.lst (vn (((stepsL L).take j).foldl (bStep P r) (bfs L P k)))) ∧ H3 m = some (.dK (metK (((stepsL L).take j).foldl (bStep P r) (bfs L P k)))) ∧ H3 t = some (.lst (vi (stepsL L))))
          ⟨y6, y7, rfl, sm.trans s12, s12 _ _ hl, s12 _ _ hm, ht⟩ (fun j σ H3 _ ⟨_, _, _, _, _, _, h⟩ => SqL.of h) (fun j x σ H3 hx ⟨z6, z7, e, b1, b2, b3, b4⟩ => ?_) (fun σ H3 ⟨z6, z7, e, b1, b2, b3, b4⟩ => ?_)⟩
        · subst e
          obtain ⟨st, hst, rfl⟩ := of_vi_get hx
          generalize ho : ((stepsL L).take j).foldl (bStep P r) (bfs L P k) = o at b2 b3
          have oo : OrdOk P o := ho ▸ bFold_ok hp r _ _ (bfs_ok hp k)
          have hat2 : o[k]? = some r := by
            obtain ⟨z, hz⟩ := bFold_pre P r ((stepsL L).take j) (bfs L P k)
            rw [ho] at hz
            rw [← hz, List.getElem?_append_left c']
            exact hat
          obtain ⟨d, hd, hrow⟩ := (hP.same b1).get hrn
          have hf := foldl_take (f := bStep P r) (o := bfs L P k) hst
          rw [ho] at hf
          refine ⟨_, rfl, _, rfl, _, rfl, l, _, _, _, rfl, rfl, SqL.of b2, vn_at hat2, a, _, _, _, rfl, rfl, SqL.of (b1 _ _ hA), atI_nat (refs_get hd), d, rfl, hrow.isD, _, rfl, _, hrow.get st, ?_⟩
          cases hg : P.go r st with
          | none =>
            refine ⟨_, rfl, rfl, _, rfl, iteF ?_⟩
            refine iteF ⟨_, _, rfl, b1, ?_, ?_, b4⟩
            · rw [hf]; unfold bStep; rw [hg]; exact b2
            · rw [hf]; unfold bStep; rw [hg]; exact b3
          | some g =>
            refine ⟨_, rfl, rfl, _, rfl, iteT ?_⟩
            refine ⟨_, rfl, _, rfl, m, _, rfl, DGet.k (k := Sum.inl (g : Int)) b3, ?_⟩
            rw [metK_val]
            by_cases cm : g ∈ o
            · rw [if_pos cm]
              refine ⟨_, rfl, iteF ⟨_, _, rfl, b1, ?_, ?_, b4⟩⟩
              · rw [hf]; unfold bStep; rw [hg]; show H3 l = some (.lst (vn (if g ∈ o then o else o ++ [g]))); rw [if_pos cm]; exact b2
              · rw [hf]; unfold bStep; rw [hg]; show H3 m = some (.dK (metK (if g ∈ o then o else o ++ [g]))); rw [if_pos cm]; exact b3
            · rw [if_neg cm]
              have hol := oo.len
              have hstep : bStep P r o st = o ++ [g] := by
                unfold bStep
                rw [hg]
                show (if g ∈ o then o else o ++ [g]) = _
                rw [if_neg cm]
              refine ⟨_, rfl, iteT ?_⟩
              refine ⟨_, rfl, _, rfl, m, _, rfl, DPut.k (k := Sum.inl (g : Int)) b3 (by rw [metK_length]; exact smallL (by omega)), ?_⟩
              have nlm' : l ≠ m := nlm
              have ntm : t ≠ m := ne_of b4 b3 (by intro z; cases z)
              have ntl : t ≠ l := by
                rintro rfl
                rw [hl] at nt
                cases nt
              refine ⟨_, rfl, .inl ⟨rfl, _, SqL.of (by rw [upd_ne nlm']; exact b2)⟩, _, rfl, l, _, _, rfl, rfl, by rw [upd_ne nlm']; exact b2, by rw [List.length_map]; exact smallL (by omega), ?_⟩
              refine ⟨_, _, rfl, (b1.mut nm0).mut nl, ?_, ?_, ?_⟩
              · rw [hf, hstep, upd_same, vn, vn, List.map_append]
                rfl
              · rw [hf, hstep, upd_ne nlm'.symm, upd_same, metK_put cm]
              · rw [upd_ne ntl, upd_ne ntm]
                exact b4
        · subst e
          rw [List.length_map, List.take_length] at b2 b3
          have hb : (stepsL L).foldl (bStep P r) (bfs L P k) = bfs L P (k + 1) := (bfs_turn hat).symm
          rw [hb] at b2 b3
          exact ⟨_, rfl, _, _, rfl, rfl, z6, z7, rfl, b1, b2, b3⟩
    · rw [decide_eq_false c]
      refine iteF ?_
      have hle : (bfs L P k).length ≤ k := by omega
      have hkn : k ≤ P.n := Nat.le_trans hk (bfs_ok hp k).len
      rw [bfs_order hp hkn hle] at hl
      exact ⟨_, rfl, q l H' sm nl hl⟩

/-! ### is_a_web, need_web -/
theorem enc_bounds {P : Pic} {L : Nat} (hp : P.Ok L) {r : Nat} : ∀ z ∈ rowOf L P r, -1 ≤ z ∧ z < (P.n : Int) := fun z hz => by
  unfold rowOf at hz
  obtain ⟨i, _, e⟩ := List.mem_map.mp hz
  rw [← e]
  cases hg : P.go r ((i : Int) + 1) with
  | none => exact ⟨Int.le_refl _, by show (-1 : Int) < _; omega⟩
  | some g =>
    have := (hp.ok r _ g hg).2.1
    exact ⟨by show (-1 : Int) ≤ (g : Int); omega, by show (g : Int) < _; omega⟩
theorem all_false (n : Nat) : (Evl.given n (fun _ => true) fun _ => V.bl false) = (List.replicate n false).map V.bl := by
  refine given_eq (by rw [List.length_map, List.length_replicate]) fun i y h => ?_
  rw [List.getElem?_map] at h
  cases c : (List.replicate n false)[i]? with
  | none => rw [c] at h; cases h
  | some b =>
    rw [c] at h
    have := List.mem_of_getElem? c
    rw [(List.mem_replicate.mp this).2] at h
    exact Option.some.inj h
theorem any_id (n : Nat) : (List.replicate n false).any id = false := by
  rw [List.any_eq_false]
  intro x hx
  rw [(List.mem_replicate.mp hx).2]
  exact Bool.false_ne_true
theorem row_two {l : Row} {s t : Int} (hs : (lk s l).isSome) (ht : (lk t l).isSome) (hne : s ≠ t) : 2 ≤ l.length := by
  obtain ⟨x, hx⟩ := Option.isSome_iff_exists.mp hs
  obtain ⟨y, hy⟩ := Option.isSome_iff_exists.mp ht
  have m1 := lk_mem hx
  have m2 := lk_mem hy
  match l, m1, m2 with
  | [], m1, _ => cases m1
  | [p], m1, m2 =>
    have e1 := List.mem_singleton.mp m1
    have e2 := List.mem_singleton.mp m2
    rw [← e1] at e2
    exact absurd (congrArg Prod.fst e2).symm hne
  | _ :: _ :: r, _, _ => simp
theorem rgV_vn (n : Nat) : rgV 0 (n : Int) = vn (List.range n) := by
  unfold rgV vn
  rw [show ((n : Int) - 0).toNat = n by omega]
  refine List.map_congr_left fun i _ => ?_
  rw [Int.zero_add]
theorem eqv_list (ns : List Int) : PyData.eqv (.list (ns.map PyData.int)) (.list (ns.map PyData.int)) = true := by
  have h := PySem.W.shaped_ints ns
  exact SeqAt.eqv_refl _ (Bool.and_eq_true_iff.mp h).1
theorem web_ne {P : Pic} {L : Nat} (hp : P.Ok L) : ¬ (((P.n : Nat) : Int) = 0) := by
  have := hp.pos
  omega
abbrev s_is_a_web : Stmt := top 18
abbrev n_is_a_web : List Str := ["value", "letters", "rows", "row", "doors", "steps"]
theorem sc_is_a_web : FnScope n_is_a_web ["value"] (defScope s_is_a_web) := ⟨rfl, rfl, rfl, by decide +kernel, rfl, by decide +kernel, by decide +kernel⟩
def sp_is_a_web (K : PySem.W.Frag) : Sp := fun vs H Q _ => ∃ (a : Addr) (L : Nat) (P : Pic), vs = [.ref a] ∧ Web L P ∧ P.n ≤ 1000 ∧ WebAt K H a L P ∧ RV (.bl true) H Q
theorem ok_is_a_web (B : Bi mg) (F : Df K mg "is_a_web" s_is_a_web ["value"]) (h_is_letters : Has P w K mg base 2 "is_letters" ["value"] sp_is_letters) (h_is_a_row : Has P w K mg base 2 "is_a_row" ["value", "letters", "rooms"] (sp_is_a_row K))
    (h_is_one_way : Has P w K mg base 1 "is_one_way" ["rows", "letters"] (sp_is_one_way K)) (h_doors_of : Has P w K mg base 1 "doors_of" ["rows"] (sp_doors_of K)) (h_first_order : Has P w K mg base 2 "first_order" ["letters", "doors", "home"] sp_first_order) :
    Has P w K mg base 3 "is_a_web" ["value"] (sp_is_a_web K) := by
  refine F.ok sc_is_a_web (fun vs H Q E h => ?_) (fun f cdv A outer s H vs Q E hr h => ?_)
  · obtain ⟨a, L, P, rfl, _⟩ := h
    rfl
  · obtain ⟨a, L, P, rfl, W, hn, ⟨b, hW, hT⟩, q⟩ := h
    obtain ⟨as, hA, hlen, hrow⟩ := hT.ex
    have hp := W.ok
    have h4 := W.l4
    refine ⟨_, (pss_cons (ps_if (PW.pt (pw_or (pt_not (pt_val (pe_callB (kIsi K) (by rfl) B.isinstance (by decide +kernel) (pa_cons (pv 0) (pa_cons (pe_bltn (v := .ty "tuple") (by rfl) B.tuple (by decide +kernel) rfl) pa_nil))))) (pw_or (pt_cmpR op_ne (pe_callB (kLen K) (by rfl) B.len PySem.boot_len (pa_cons (pv 0) pa_nil)) pe_int (nomark _)) (pw_or1 (pt_not (pt_val (pe_has h_is_letters (hr.mono (by omega)) (pa_cons (pe_ix (kIxT K) (pv 0) pe_int (fun _ _ => rfl)) pa_nil))))))))
        (pss_one (ps_ret pe_bl))
        pss_nil)
      (pss_cons (ps_asg (pv 0) (k_tup K (n := 2) rfl (pgs_cons (pg_name (i := 1) sc_is_a_web.nd rfl (Or.inr rfl)) (pgs_cons (pg_name (i := 2) sc_is_a_web.nd rfl (Or.inr rfl)) pgs_nil))))
      (pss_cons (ps_if (PW.pt (pw_or (pt_not (pt_val (pe_callB (kIsi K) (by rfl) B.isinstance (by decide +kernel) (pa_cons (pv 2) (pa_cons (pe_bltn (v := .ty "tuple") (by rfl) B.tuple (by decide +kernel) rfl) pa_nil))))) (pw_or1 (pt_cmpR op_eq (pe_callB (kLen K) (by rfl) B.len PySem.boot_len (pa_cons (pv 2) pa_nil)) pe_int (nomark _)))))
        (pss_one (ps_ret pe_bl))
        pss_nil)
      (pss_cons (ps_if (PW.pt (pw_or (pt_not (pt_val (pe_callB (kAll K) (by rfl) B.all (by decide +kernel) (pa_cons (pe_lc (own := [("row", 3)]) rfl sc_is_a_web.nd (pi_tup (pv 2)) (blkOk_by (N := n_is_a_web) (sc := defScope s_is_a_web) (by decide +kernel)) (fun _ _ _ _ _ => (pg_name (i := 3) sc_is_a_web.nd rfl (Or.inl rfl))) (fun _ _ _ _ _ => pts_nil) (fun _ _ _ _ _ => (pe_has h_is_a_row (hr.mono (by omega)) (pa_cons (pv 3) (pa_cons (pv 1) (pa_cons (pe_callB (kLen K) (by rfl) B.len PySem.boot_len (pa_cons (pv 2) pa_nil)) pa_nil)))))) pa_nil)))) (pw_or1 (pt_not (pt_val (pe_has h_is_one_way (hr.mono (by omega)) (pa_cons (pv 2) (pa_cons (pv 1) pa_nil))))))))
        (pss_one (ps_ret pe_bl))
        pss_nil)
      (pss_cons (ps_set (i := 4) sc_is_a_web.nd rfl (Or.inl rfl) (pe_has h_doors_of (hr.mono (by omega)) (pa_cons (pv 2) pa_nil)))
      (pss_cons (ps_if (pt_val (pe_callB (kAny K) (by rfl) B.any (by decide +kernel) (pa_cons (pe_lc (own := [("steps", 5)]) rfl sc_is_a_web.nd (pi_list (pe_slice (kSlL K) (pv 4) (po_some pe_int) po_none)) (blkOk_by (N := n_is_a_web) (sc := defScope s_is_a_web) (by decide +kernel)) (fun _ _ _ _ _ => (pg_name (i := 5) sc_is_a_web.nd rfl (Or.inl rfl))) (fun _ _ _ _ _ => pts_nil) (fun _ _ _ _ _ => (pe_cmpR op_lt (pe_callB call_lenD (by rfl) B.len PySem.boot_len (pa_cons (pv 5) pa_nil)) pe_int (nomark _)))) pa_nil)))
        (pss_one (ps_ret pe_bl))
        pss_nil)
      (pss_one (ps_ret (pe_cmpR (kEqD K (hu64 hr)) (pe_has h_first_order (hr.mono (by omega)) (pa_cons (pv 1) (pa_cons (pv 4) (pa_cons pe_int pa_nil)))) (pe_listRg rfl (by rfl) B.list (prg_1 (by rfl) B.range (pe_callB (kLen K) (by rfl) B.len PySem.boot_len (pa_cons (pv 2) pa_nil)))) (nomark _)))))))))), ?_⟩
    refine ⟨_, rfl, _, _, _, _, true, rfl, .ty "tuple", tyX_tup hW, kit_ty (by decide +kernel), ?_⟩
    refine ⟨true, rfl, iteF ?_⟩
    refine ⟨_, rfl, a, _, rfl, .inr hW, rfl, _, rfl, iteF ?_⟩
    refine ⟨_, rfl, a, _, 0, _, rfl, rfl, hW, atI_nat (j := 0) rfl, L, rfl, W.l1, W.l4, fun H1 s1 => ?_⟩
    refine ⟨true, rfl, iteF ?_⟩
    refine ⟨_, rfl, a, _, rfl, s1.tup hW, rfl, _, _, rfl, _, _, rfl, rfl, ?_⟩
    -- rows is a tuple that is not empty
    refine ⟨_, rfl, _, _, _, _, true, rfl, .ty "tuple", tyX_tup (s1.tup hA), kit_ty (by decide +kernel), ?_⟩
    refine ⟨true, rfl, iteF ?_⟩
    refine ⟨_, rfl, b, _, rfl, .inr (s1.tup hA), rfl, _, rfl, ?_⟩
    rw [List.length_map, hlen, rowsOf_length, decide_eq_false (fun e => web_ne hp (V.int.inj e))]
    refine iteF ?_
    -- the rows
    refine ⟨_, rfl, b, rfl, ⟨_, s1.tup hA⟩, lcg walk_tup (fun _ => true) (fun _ => V.bl true) (by rw [List.length_map, hlen, rowsOf_length]; omega) (fun H' s' => s'.tup (s1.tup hA)) YAt.same (fun i x H2 H3 hi s2 s3 y => ?_) (fun D H2 hD s2 h2 => ?_)⟩
    · obtain ⟨c, ns, rfl, hb, hns, hB⟩ := tu_get hlen (fun j b ns p r => s3.tup (s1.tup (hrow j b ns p r))) y.2
      rw [List.length_map, hlen, rowsOf_length] at hi
      rw [rowsOf_get L hi] at hns
      cases hns
      refine ⟨_, fun Qg h => h, rfl, evt_yes, fun _ H4 s4 Q4 q4 => ?_⟩
      have s4 : Same H3 H4 := s4
      refine ⟨_, rfl, _, rfl, _, rfl, b, _, rfl, .inr (s4.tup (s3.tup (s1.tup hA))), ?_⟩
      refine ⟨c, rowOf L P i, L, P.n, ?_, s4.tup hB, rowOf_length L P i, by omega, enc_bounds hp, fun H5 s5 => q4 H5 s5⟩
      rw [List.length_map, hlen, rowsOf_length]
    rw [all_true] at h2
    refine ⟨_, _, rfl, SqL.of h2, ?_⟩
    rw [all_id]
    refine ⟨true, rfl, iteF ?_⟩
    have s12 := s1.trans s2
    refine ⟨_, rfl, _, rfl, b, L, P, rfl, hp, by omega, hn, hT.same s12, fun H3 s3 => ⟨true, rfl, iteF ?_⟩⟩
    have s13 := s12.trans s3
    -- doors
    refine ⟨_, rfl, b, L, P, rfl, hp, by omega, hn, hT.same s13, fun p ds kv H4 s4 np nds hl hP => ?_⟩
    have s14 := s13.trans s4
    refine ⟨_, rfl, 1, rfl, p, _, rfl, SqL.of hl, fun c nc => ?_⟩
    have hcut : cutV (ds.map V.ref) (some 1) none = (ds.drop 1).map V.ref := by
      unfold cutV
      rw [show HT.sIx (ds.map V.ref).length 0 (some 1) = min 1 (ds.map V.ref).length from HT.sIx_nat _ 0 1, HT.sIx_none, List.map_drop]
      have hl1 : 1 ≤ (ds.map V.ref).length := by
        rw [List.length_map, hP.len]
        exact hp.pos
      rw [Nat.min_eq_left hl1]
      exact List.take_of_length_le (by rw [List.length_drop]; exact Nat.le_refl _)
    rw [hcut]
    have s5 := same_new (o := .lst ((ds.drop 1).map V.ref)) nc
    refine ⟨c, rfl, ⟨_, SqL.of upd_same⟩, lcg (walk_list (xs := (ds.drop 1).map V.ref)) (fun _ => true) (fun _ => V.bl false) (by rw [List.length_map, List.length_drop, hP.len]; omega) (fun H' s' => SqL.of (s' _ _ upd_same)) YAt.same (fun i x H6 H7 hi s6 s7 y => ?_) (fun D H6 hD s6 h6 => ?_)⟩
    · obtain ⟨d, hd, rfl⟩ := of_refs_get y.2
      rw [List.getElem?_drop] at hd
      have hlt := lt_of_get hd
      rw [hP.len] at hlt
      refine ⟨_, fun Qg h => h, rfl, evt_yes, fun _ H8 s8 Q8 q8 => ?_⟩
      have s8 : Same H7 H8 := s8
      have hrw := (hP.row _ d hd).same (s5.trans (s7.trans s8))
      obtain ⟨st, t, hne, h1, h2⟩ := W.two (1 + i) (by omega) hlt
      rw [← hrw.go] at h1 h2
      have h2l := row_two h1 h2 hne
      refine ⟨_, rfl, d, _, rfl, hrw.at_, _, _, rfl, rfl, ?_⟩
      rw [List.length_map]
      have : Q8 (.bl (decide (((kv (1 + i)).length : Int) < 2))) H8 := by
        rw [decide_eq_false (by omega)]
        exact q8 H8 (Evl.Ex.refl H8)
      exact this
    rw [all_false] at h6
    refine ⟨_, _, rfl, SqL.of h6, ?_⟩
    rw [any_id]
    refine ⟨false, rfl, iteF ?_⟩
    have s46 := s5.trans s6
    -- the order
    refine ⟨_, rfl, _, rfl, L, p, P, rfl, hp, by omega, hn, ⟨ds, kv, s46 _ _ hl, hP.same s46⟩, fun o H7 s7 no ho => ?_⟩
    have s17 := s14.trans (s46.trans s7)
    refine ⟨_, rfl, b, _, rfl, .inr (s17.tup hA), _, rfl, ?_⟩
    rw [List.length_map, hlen, rowsOf_length]
    refine ⟨RgOk.of_le (Int.le_refl 0) (by omega) (by decide) (by omega), fun r nr => ?_⟩
    rw [rgV_vn]
    have hno : H7 o = some (.lst (vn (order L P))) := ho
    rw [W.ord, vn_vi] at ho
    have hor := (same_new (o := .lst (vn (List.range P.n))) nr) _ _ ho
    refine ⟨_, _, .lst (SqL.of hor) (dpAll_ints _), .lst (SqL.of (by rw [upd_same, vn_vi])) (dpAll_ints _), PySem.W.shaped_ints _, PySem.W.shaped_ints _, ?_⟩
    rw [eqv_list]
    exact q _ (s17.trans (same_new nr))
abbrev s_need_web : Stmt := top 19
abbrev n_need_web : List Str := ["web"]
theorem sc_need_web : FnScope n_need_web ["web"] (defScope s_need_web) := ⟨rfl, rfl, rfl, by decide +kernel, rfl, by decide +kernel, by decide +kernel⟩
def sp_need_web (K : PySem.W.Frag) : Sp := fun vs H Q _ => ∃ (a : Addr) (L : Nat) (P : Pic), vs = [.ref a] ∧ Web L P ∧ P.n ≤ 1000 ∧ WebAt K H a L P ∧ RV .non H Q
theorem ok_need_web (B : Bi mg) (F : Df K mg "need_web" s_need_web ["web"]) (h_is_a_web : Has P w K mg base 3 "is_a_web" ["value"] (sp_is_a_web K)) : Has P w K mg base 4 "need_web" ["web"] (sp_need_web K) := by
  refine F.ok sc_need_web (fun vs H Q E h => ?_) (fun f cdv A outer s H vs Q E hr h => ?_)
  · obtain ⟨a, L, P, rfl, _⟩ := h
    rfl
  · obtain ⟨a, L, P, rfl, W, hn, hW, q⟩ := h
    refine ⟨_, (pss_one (ps_if (pt_not (pt_val (pe_has h_is_a_web (hr.mono (by omega)) (pa_cons (pv 0) pa_nil))))
        (pss_one ps_never)
        pss_nil)), ?_⟩
    refine ⟨_, rfl, a, L, P, rfl, W, hn, hW, fun H1 s1 => ⟨true, rfl, iteF ?_⟩⟩
    exact q H1 s1
end
end Wk
set_option Elab.async false
set_option linter.all false
set_option maxRecDepth 100000
set_option maxHeartbeats 4000000
namespace Wk
open PySem L2 Wc
section
variable {P : Program} {w : World} {K : PySem.W.Frag} {mg : Str → Option Value} {base : Heap}
theorem sqt_upd {K : PySem.W.Frag} {H : Hp} {b m : Addr} {xs : List V} {o o0 : HO} (h : SqT K H b xs) (hm : H m = some o0) (h1 : ∀ ys, o0 ≠ .tup ys) (h2 : ∀ ob ys, o0 ≠ .frz ob (.tup ys)) : SqT K (upd H m o) b xs := by
  rcases h with (h | ⟨ob, h⟩) | h
  · exact .inl (.inl (by rw [upd_ne (ne_of h hm (h1 xs).symm)]; exact h))
  · exact .inl (.inr ⟨ob, by rw [upd_ne (ne_of h hm (h2 ob xs).symm)]; exact h⟩)
  · exact .inr h
theorem sqt_dK {K : PySem.W.Frag} {H : Hp} {b m : Addr} {xs : List V} {o : HO} {kvs : List (Key × V)} (h : SqT K H b xs) (hm : H m = some (.dK kvs)) : SqT K (upd H m o) b xs :=
  sqt_upd h hm (fun _ z => by cases z) (fun _ _ z => by cases z)
theorem sqt_lst {K : PySem.W.Frag} {H : Hp} {b m : Addr} {xs : List V} {o : HO} {ys : List V} (h : SqT K H b xs) (hm : H m = some (.lst ys)) : SqT K (upd H m o) b xs :=
  sqt_upd h hm (fun _ z => by cases z) (fun _ _ z => by cases z)
theorem led_steps {P : Pic} {L : Nat} (hp : P.Ok L) : ∀ {w : List Int} {r e : Nat}, led P r w = some e → ∀ s ∈ w, stepOk L s
  | [], _, _, _, s, h => nomatch h
  | t :: w, r, e, hl, s, h => by
    rw [led_cons] at hl
    cases hg : P.go r t with
    | none => rw [hg] at hl; cases hl
    | some g =>
      rw [hg] at hl
      rcases List.mem_cons.mp h with z | z
      · rw [z]; exact (hp.ok r t g hg).2.2.1
      · exact led_steps hp hl s z
/-! ### first_ways -/
/-- the ways found so far -/
structure WaysAt (K : PySem.W.Frag) (P : Pic) (H : Hp) (kvs : List (Key × V)) (o : List Nat) : Prop where
  keys : kvs.map (·.1) = o.map (fun x : Nat => (Sum.inl (x : Int) : Key))
  at_ : ∀ x ∈ o, ∃ b wy, valV kvs (Sum.inl (x : Int)) = some (.ref b) ∧ TI K H b wy ∧ led P 0 wy = some x ∧ wy.length < o.length
theorem WaysAt.none {K : PySem.W.Frag} {P : Pic} {H : Hp} {kvs : List (Key × V)} {o : List Nat} (h : WaysAt K P H kvs o) {x : Nat} (hx : x ∉ o) : valV kvs (Sum.inl (x : Int)) = none := by
  cases c : valV kvs (Sum.inl (x : Int)) with
  | none => rfl
  | some v =>
    have := valV_in c
    rw [h.keys] at this
    obtain ⟨y, hy, e⟩ := List.mem_map.mp this
    have : y = x := by have := Sum.inl.inj e; omega
    exact absurd (this ▸ hy) hx
theorem WaysAt.same {K : PySem.W.Frag} {P : Pic} {H H' : Hp} {kvs : List (Key × V)} {o : List Nat} (h : WaysAt K P H kvs o) (e : Same H H') : WaysAt K P H' kvs o :=
  ⟨h.keys, fun x hx => let ⟨b, wy, a, c, d, f⟩ := h.at_ x hx; ⟨b, wy, a, e.tup c, d, f⟩⟩
abbrev s_first_ways : Stmt := top 22
abbrev n_first_ways : List Str := ["letters", "doors", "home", "found", "room", "step", "goal"]
theorem sc_first_ways : FnScope n_first_ways ["letters", "doors", "home"] (defScope s_first_ways) := ⟨rfl, rfl, rfl, by decide +kernel, rfl, by decide +kernel, by decide +kernel⟩
def sp_first_ways (K : PySem.W.Frag) : Sp := fun vs H Q _ => ∃ (L : Nat) (a : Addr) (P : Pic), vs = [.int (L : Int), .ref a, .int 0] ∧ P.Ok L ∧ L ≤ 5 ∧ P.n ≤ 1000 ∧ PicAt H a P ∧
  ∀ p kvs H', Same H H' → H p = none → H' p = some (.dK kvs) → (∀ x ∈ order L P, ∃ b wy, valV kvs (Sum.inl (x : Int)) = some (.ref b) ∧ TI K H' b wy ∧ led P 0 wy = some x) → Q (.ref p) H'
theorem ok_first_ways (B : Bi mg) (F : Df K mg "first_ways" s_first_ways ["letters", "doors", "home"]) (h_steps_of : Has P w K mg base 1 "steps_of" ["letters"] sp_steps_of) (h_first_order : Has P w K mg base 2 "first_order" ["letters", "doors", "home"] sp_first_order) :
    Has P w K mg base 3 "first_ways" ["letters", "doors", "home"] (sp_first_ways K) := by
  refine F.ok sc_first_ways (fun vs H Q E h => ?_) (fun f cdv A outer s H vs Q E hr h => ?_)
  · obtain ⟨L, a, P, rfl, _⟩ := h
    rfl
  · obtain ⟨L, a, P, rfl, hp, hL, hn, ⟨ds, kv, hA, hP⟩, q⟩ := h
    refine ⟨_, (pss_cons (ps_set (i := 3) sc_first_ways.nd rfl (Or.inl rfl) (pe_disp (pps_cons (pv 2) (pe_tup pa_nil) pps_nil) (by rfl) (by rfl) (fun z => by cases z) (by decide)))
      (pss_cons (ps_for PassesOwn.never rfl (pi_list (pe_has h_first_order (hr.mono (by omega)) (pa_cons (pv 0) (pa_cons (pv 1) (pa_cons (pv 2) pa_nil))))) (pg_name (i := 4) sc_first_ways.nd rfl (Or.inl rfl))
        (pss_one (ps_for PassesOwn.never rfl (pi_list (pe_has h_steps_of (hr.mono (by omega)) (pa_cons (pv 0) pa_nil))) (pg_name (i := 5) sc_first_ways.nd rfl (Or.inl rfl))
          (pss_cons (ps_set (i := 6) sc_first_ways.nd rfl (Or.inl rfl) (pe_dget1 (hu_of hr) (pe_ix (kIxL K) (pv 1) (pv 4) (fun _ _ => rfl)) (pv 5) ⟨by rfl, by rfl, by rfl, by rfl⟩))
          (pss_one (ps_if (PW.pt (pw_and (pt_cmpR op_notN (pv 6) pe_non (nomark _)) (pw_and1 (pt_cmp (pc_dnotin (hu_of hr) (pv 6) (pv 3))))))
            (pss_one (ps_dput (hu_of hr) (pv 3) (pv 6) (pe_op (kCatT K) (pe_dget (hu_of hr) (pv 3) (pv 4) (fun _ _ => rfl)) (pe_tup (pa_cons (pv 5) pa_nil))) rfl))
            pss_nil))))))
      (pss_one (ps_ret (pv 3))))), ?_⟩
    intro m nm
    refine ⟨_, rfl, Nat.zero_le _, fun e ne => ?_⟩
    have nme : m ≠ e := ne_of_none upd_same ne
    have nme0 : H e = none := by
      rw [upd_ne nme.symm] at ne
      exact ne
    refine ⟨by rw [upd_ne nme]; exact upd_same, [((Sum.inl (0 : Int) : Key), V.ref e)], rfl, (by show 1 ≤ 15; decide), ?_⟩
    have s1 : Same H (upd (upd (upd H m (.dK [])) e (.tup [])) m (.dK (mergeK [] [((Sum.inl (0 : Int) : Key), V.ref e)]))) := ((same_new nm).trans (same_new ne)).mut nm
    have w1 : WaysAt K P (upd (upd (upd H m (.dK [])) e (.tup [])) m (.dK (mergeK [] [((Sum.inl (0 : Int) : Key), V.ref e)]))) [((Sum.inl (0 : Int) : Key), V.ref e)] [0] := by
      refine ⟨rfl, fun x hx => ?_⟩
      have : x = 0 := List.mem_singleton.mp hx
      subst this
      exact ⟨e, [], rfl, SqT.of (by rw [upd_ne nme.symm]; exact upd_same), rfl, Nat.zero_lt_one⟩
    refine ⟨_, rfl, _, rfl, _, rfl, L, a, P, rfl, hp, hL, hn, ⟨ds, kv, s1 _ _ hA, hP.same s1⟩, fun l H2 s12 nl hl => ?_⟩
    have s2 := s1.trans s12
    have hm2 := s12 _ _ (upd_same (H := upd (upd H m (.dK [])) e (.tup [])) (a := m) (o := .dK (mergeK [] [((Sum.inl (0 : Int) : Key), V.ref e)])))
    refine ⟨l, rfl, ⟨_, SqL.of hl⟩, for_list (xs := vn (order L P)) (fun k σ H3 => ∃ y4 y5 y6 kvs, σ = [some (.int (L : Int)), some (.ref a), some (.int 0), some (.ref m), y4, y5, y6] ∧ Same H H3 ∧ H3 l = some (.lst (vn (order L P))) ∧ H3 m = some (.dK kvs) ∧ WaysAt K P H3 kvs (bfs L P k))
      ⟨none, none, none, _, rfl, s2, hl, hm2, w1.same s12⟩ (fun k σ H3 _ ⟨_, _, _, _, _, _, h, _⟩ => SqL.of h) (fun k x σ H3 hx ⟨y4, y5, y6, kvs, e, b1, b2, b3, b4⟩ => ?_) (fun σ H3 ⟨y4, y5, y6, kvs, e, b1, b2, b3, b4⟩ => ?_)⟩
    · subst e
      obtain ⟨r, hr0, rfl⟩ := of_vn_get hx
      have hat := bfs_at hp hr0
      have hrn : r < P.n := (order_ok hp).lt r (List.mem_of_getElem? hr0)
      refine ⟨_, rfl, L, rfl, hL, fun t H4 s34 nt ht => ?_⟩
      have ntm : t ≠ m := by
        rintro rfl
        rw [b3] at nt
        cases nt
      have ntl : t ≠ l := by
        rintro rfl
        rw [b2] at nt
        cases nt
      have nlm : l ≠ m := ne_of b2 b3 (by intro z; cases z)
      refine ⟨t, rfl, ⟨_, SqL.of ht⟩, for_list (xs := vi (stepsL L)) (fun j σ H5 => ∃ y5 y6 kvs, σ = [some (.int (L : Int)), some (.ref a), some (.int 0), some (.ref m), some (.int (r : Int)), y5, y6] ∧ Same H H5 ∧ H5 l = some (.lst (vn (order L P))) ∧ H5 t = some (.lst (vi (stepsL L))) ∧ H5 m = some (.dK kvs) ∧ WaysAt K P H5 kvs (((stepsL L).take j).foldl (bStep P r) (bfs L P k)))
        ⟨y5, y6, kvs, rfl, b1.trans s34, s34 _ _ b2, ht, s34 _ _ b3, b4.same s34⟩ (fun j σ H5 _ ⟨_, _, _, _, _, _, h, _⟩ => SqL.of h) (fun j x σ H5 hx ⟨z5, z6, kw, e, c1, c2, c3, c4, c5⟩ => ?_) (fun σ H5 ⟨z5, z6, kw, e, c1, c2, c3, c4, c5⟩ => ?_)⟩
      · subst e
        obtain ⟨st, hst, rfl⟩ := of_vi_get hx
        have hf := foldl_take (f := bStep P r) (o := bfs L P k) hst
        generalize ho : ((stepsL L).take j).foldl (bStep P r) (bfs L P k) = o at c5 hf
        have oo : OrdOk P o := ho ▸ bFold_ok hp r _ _ (bfs_ok hp k)
        have hol := oo.len
        have hro : r ∈ o := ho ▸ (bFold_pre P r ((stepsL L).take j) (bfs L P k)).subset (List.mem_of_getElem? hat)
        obtain ⟨d, hd, hrow⟩ := (hP.same c1).get hrn
        refine ⟨_, rfl, _, rfl, a, _, _, _, rfl, rfl, SqL.of (c1 _ _ hA), atI_nat (refs_get hd), d, rfl, hrow.isD, _, rfl, _, hrow.get st, ?_⟩
        cases hg : P.go r st with
        | none =>
          refine ⟨_, rfl, rfl, _, rfl, iteF ?_⟩
          refine iteF ⟨_, _, kw, rfl, c1, c2, c3, c4, ?_⟩
          rw [hf]; unfold bStep; rw [hg]; exact c5
        | some g =>
          refine ⟨_, rfl, rfl, _, rfl, iteT ?_⟩
          refine ⟨_, rfl, _, rfl, m, _, rfl, DGet.k (k := Sum.inl (g : Int)) c4, ?_⟩
          by_cases cm : g ∈ o
          · obtain ⟨b, wy, hv, _⟩ := c5.at_ g cm
            rw [hv]
            refine ⟨_, rfl, iteF ⟨_, _, kw, rfl, c1, c2, c3, c4, ?_⟩⟩
            rw [hf]; unfold bStep; rw [hg]; show WaysAt K P H5 kw (if g ∈ o then o else o ++ [g]); rw [if_pos cm]; exact c5
          · have hv := c5.none cm
            rw [hv]
            have hstep : bStep P r o st = o ++ [g] := by
              unfold bStep
              rw [hg]
              show (if g ∈ o then o else o ++ [g]) = _
              rw [if_neg cm]
            obtain ⟨b, wy, hvr, hb, hle, hwl⟩ := c5.at_ r hro
            refine ⟨_, rfl, iteT ?_⟩
            refine ⟨_, rfl, _, rfl, m, _, rfl, (hvr ▸ DGet.k (k := Sum.inl (r : Int)) c4), ?_⟩
            refine ⟨_, rfl, (by show 1 ≤ sizeLine; decide), fun u nu => ?_⟩
            have su := same_new (o := .tup [.int st]) nu
            have nmu : m ≠ u := ne_of_none c4 nu
            refine ⟨b, u, _, _, rfl, rfl, su.tup hb, SqT.of upd_same, ?_, ?_⟩
            · rw [List.length_map]
              exact small (by show wy.length + 1 ≤ _; omega)
            -- the way behind it, at whatever address
            have fin : ∀ (c : Addr) (H6 : Hp), Same (upd H5 u (.tup [.int st])) H6 → TI K H6 c (wy ++ [st]) → (∃ z4 z5 kw', [some (V.int (L : Int)), some (.ref a), some (.int 0), some (.ref m), some (.int (r : Int)), some (.int st), some (.int (g : Int))] = [some (V.int (L : Int)), some (.ref a), some (.int 0), some (.ref m), some (.int (r : Int)), z4, z5] ∧ Same H (upd H6 m (.dK (putK kw (Sum.inl (g : Int)) (.ref c)))) ∧ (upd H6 m (.dK (putK kw (Sum.inl (g : Int)) (.ref c)))) l = some (.lst (vn (order L P))) ∧ (upd H6 m (.dK (putK kw (Sum.inl (g : Int)) (.ref c)))) t = some (.lst (vi (stepsL L))) ∧ (upd H6 m (.dK (putK kw (Sum.inl (g : Int)) (.ref c)))) m = some (.dK kw') ∧ WaysAt K P (upd H6 m (.dK (putK kw (Sum.inl (g : Int)) (.ref c)))) kw' (((stepsL L).take (j + 1)).foldl (bStep P r) (bfs L P k))) := by
              intro c H6 s6 hc
              have s56 := su.trans s6
              have hm6 := s56 _ _ c4
              refine ⟨_, _, _, rfl, (c1.trans s56).mut nm, by rw [upd_ne nlm]; exact s56 _ _ c2, by rw [upd_ne ntm]; exact s56 _ _ c3, upd_same, ?_⟩
              rw [hf, hstep]
              refine ⟨?_, fun x hx => ?_⟩
              · rw [putK_new _ hv, List.map_append, List.map_append, c5.keys]
                rfl
              · rw [valV_put]
                by_cases cx : x = g
                · subst cx
                  rw [if_pos rfl]
                  refine ⟨c, wy ++ [st], rfl, sqt_dK hc hm6, ?_, ?_⟩
                  · rw [led_snoc, hle]
                    exact hg
                  · rw [List.length_append, List.length_append, List.length_singleton, List.length_singleton]
                    omega
                · have hxo : x ∈ o := by
                    rcases List.mem_append.mp hx with z | z
                    · exact z
                    · exact absurd (List.mem_singleton.mp z) cx
                  obtain ⟨b', wy', hv', hb', hle', hwl'⟩ := c5.at_ x hxo
                  rw [if_neg (fun e => cx (by have := Sum.inl.inj e; omega))]
                  refine ⟨b', wy', hv', sqt_dK (s56.tup hb') hm6, hle', ?_⟩
                  rw [List.length_append, List.length_singleton]
                  omega
            have hlen : ∀ {kk : List (Key × V)}, kk = kw → kk.length < sizeLine := fun e => by
              have := congrArg List.length c5.keys
              rw [List.length_map, List.length_map] at this
              rw [e]
              exact smallL (by omega)
            refine ⟨fun e0 => ?_, fun _ e0 => absurd e0 (by intro z; cases z), fun _ _ p np => ?_⟩
            · have e1 : wy = [] := List.map_eq_nil_iff.mp e0
              refine ⟨_, rfl, _, rfl, m, _, rfl, DPut.k (k := Sum.inl (g : Int)) (su _ _ c4) (hlen rfl), ?_⟩
              refine fin u _ (Same.refl _) ?_
              rw [e1]
              exact SqT.of upd_same
            · have sp := same_new (o := .tup (vi wy ++ [.int st])) np
              refine ⟨_, rfl, _, rfl, m, _, rfl, DPut.k (k := Sum.inl (g : Int)) (sp _ _ (su _ _ c4)) (hlen rfl), ?_⟩
              refine fin p _ sp (SqT.of ?_)
              rw [upd_same, vi, vi, List.map_append]
              rfl
      · subst e
        rw [List.length_map, List.take_length] at c5
        have hb : (stepsL L).foldl (bStep P r) (bfs L P k) = bfs L P (k + 1) := (bfs_turn hat).symm
        rw [hb] at c5
        exact ⟨_, _, _, kw, rfl, c1, c2, c4, c5⟩
    · subst e
      rw [List.length_map, bfs_len hp] at b4
      refine ⟨_, rfl, q m kvs H3 b1 nm b3 fun x hx => ?_⟩
      obtain ⟨b, wy, z1, z2, z3, _⟩ := b4.at_ x hx
      exact ⟨b, wy, z1, z2, z3⟩

/-! ### ways_of -/
/-- t is a way of the picture -/
def WayT (K : PySem.W.Frag) (H : Hp) (L : Nat) (P : Pic) (t : Addr) : Prop := ∃ r i g : Nat, SqT K H t [.int (r : Int), .int ((i : Int) + 1), .int (g : Int)] ∧ i < L ∧ P.go r ((i : Int) + 1) = some g
theorem WayT.same {K : PySem.W.Frag} {H H' : Hp} {L : Nat} {P : Pic} {t : Addr} (h : WayT K H L P t) (e : Same H H') : WayT K H' L P t := let ⟨r, i, g, a, b⟩ := h; ⟨r, i, g, e.tup a, b⟩
abbrev s_ways_of : Stmt := top 21
abbrev n_ways_of : List Str := ["web", "found", "room", "row", "at", "goal"]
theorem sc_ways_of : FnScope n_ways_of ["web"] (defScope s_ways_of) := ⟨rfl, rfl, rfl, by decide +kernel, rfl, by decide +kernel, by decide +kernel⟩
def sp_ways_of (K : PySem.W.Frag) : Sp := fun vs H Q _ => ∃ (a : Addr) (L : Nat) (P : Pic), vs = [.ref a] ∧ P.Ok L ∧ L ≤ 5 ∧ P.n ≤ 1000 ∧ WebAt K H a L P ∧
  ∀ p (ts : List Addr) H', Same H H' → H p = none → H' p = some (.lst (ts.map V.ref)) → (∀ t ∈ ts, WayT K H' L P t) → Q (.ref p) H'
theorem ok_ways_of (B : Bi mg) (F : Df K mg "ways_of" s_ways_of ["web"]) : Has P w K mg base 1 "ways_of" ["web"] (sp_ways_of K) := by
  refine F.ok sc_ways_of (fun vs H Q E h => ?_) (fun f cdv A outer s H vs Q E hr h => ?_)
  · obtain ⟨a, L, P, rfl, _⟩ := h
    rfl
  · obtain ⟨wa, L, P, rfl, hp, hL, hn, ⟨a, hW, hT⟩, q⟩ := h
    obtain ⟨as, hA, hlen, hrow⟩ := hT.ex
    rw [rowsOf_length] at hlen
    refine ⟨_, (pss_cons (ps_set (i := 1) sc_ways_of.nd rfl (Or.inl rfl) (pe_lst pa_nil))
      (pss_cons (ps_for PassesOwn.never rfl (pi_enumT (by rfl) B.enumerate (pa_cons (pe_ix (kIxT K) (pv 0) pe_int (fun _ _ => rfl)) pa_nil)) (k_tup K (n := 2) rfl (pgs_cons (pg_name (i := 2) sc_ways_of.nd rfl (Or.inr rfl)) (pgs_cons (pg_name (i := 3) sc_ways_of.nd rfl (Or.inl rfl)) pgs_nil)))
        (pss_one (ps_expr (k_bm K PySem.F.plainAttrs_list PySem.F.slot_list_extend PySem.F.type_list_extend mt_extend (pv 1) (pa_cons (pe_lc (own := [("at", 4), ("goal", 5)]) rfl sc_ways_of.nd (pi_enumT (by rfl) B.enumerate (pa_cons (pv 3) pa_nil)) (blkOk_by (N := n_ways_of) (sc := defScope s_ways_of) (by decide +kernel)) (fun _ _ _ _ _ => (k_tup K (n := 2) rfl (pgs_cons (pg_name (i := 4) sc_ways_of.nd rfl (Or.inl rfl)) (pgs_cons (pg_name (i := 5) sc_ways_of.nd rfl (Or.inl rfl)) pgs_nil)))) (fun _ _ _ _ _ => (pts_one (pt_cmpR op_ge (pv 5) pe_int (nomark _)))) (fun _ _ _ _ _ => (pe_tup (pa_cons (pv 2) (pa_cons (pe_op op_add (pv 4) pe_int) (pa_cons (pv 5) pa_nil)))))) pa_nil)))))
      (pss_one (ps_ret (pv 1))))), ?_⟩
    refine ⟨Nat.zero_le _, fun l nl => ?_⟩
    have s1 := same_new (o := .lst []) nl
    refine ⟨_, rfl, wa, _, 1, _, rfl, rfl, s1.tup hW, atI_nat (j := 1) rfl, a, _, rfl, s1.tup hA, for_it walk_enumT (fun i σ H' => ∃ y2 y3 y4 y5 ts, σ = [some (.ref wa), some (.ref l), y2, y3, y4, y5] ∧ Same H H' ∧ H' l = some (.lst ((ts : List Addr).map V.ref)) ∧ (∀ t ∈ ts, WayT K H' L P t) ∧ ts.length ≤ 5 * i) ⟨none, none, none, none, [], rfl, s1, upd_same, (fun _ h => nomatch h), Nat.zero_le _⟩ (fun i σ H' _ ⟨_, _, _, _, _, _, sm, _⟩ => sm.tup hA) (fun i x σ H2 H3 hi ⟨y2, y3, y4, y5, ts, e, sm, hl, hts, hln⟩ hy => ?_) (fun σ H' ⟨y2, y3, y4, y5, ts, e, sm, hl, hts, hln⟩ => ?_)⟩
    · subst e
      rw [List.length_map, hlen] at hi
      obtain ⟨T, x1, x2, rfl, nT, rfl, e1, e2⟩ := hy
      cases e1
      obtain ⟨b, ns, rfl, hb, hns, hB⟩ := tu_get (nss := rowsOf L P) (by rw [rowsOf_length]; exact hlen) (fun j b ns p r => sm.tup (hrow j b ns p r)) e2
      rw [rowsOf_get L hi] at hns
      cases hns
      have sT := same_new (o := .tup [.int (i : Nat), .ref b]) nT
      refine ⟨T, _, rfl, SqT.of upd_same, rfl, _, _, rfl, _, _, rfl, rfl, ?_⟩
      refine ⟨_, rfl, .inl ⟨rfl, _, SqL.of (sT _ _ hl)⟩, _, rfl, b, _, rfl, sT.tup hB, lcn walk_enumT (fun j => decide ((0 : Int) ≤ enc (P.go i ((j : Int) + 1)))) (fun j => .tup [.int (i : Int), .int ((j : Int) + 1), .int (enc (P.go i ((j : Int) + 1)))]) (by rw [List.length_map, rowOf_length]; omega) (fun H' s' => s'.tup (sT.tup hB)) YPair.same (fun j x H4 H5 hj s4 s5 y => ?_) (fun D dd H4 hD s4 h4 hN hDn => ?_)⟩
      · rw [List.length_map, rowOf_length] at hj
        obtain ⟨T2, x1, x2, rfl, nT2, rfl, e1, e3⟩ := y
        cases e1
        obtain ⟨z, hz, rfl⟩ := of_vi_get e3
        rw [rowOf_get P i hj] at hz
        cases hz
        refine ⟨_, fun Qg h => ⟨T2, _, rfl, SqT.of upd_same, rfl, _, _, rfl, _, _, rfl, rfl, h⟩, rfl, fun H6 s6 Q6 q6 => ?_, fun _ H6 s6 Q6 q6 => ?_⟩
        · exact ⟨_, rfl, _, _, rfl, rfl, _, rfl, q6 H6 (Evl.Ex.refl H6)⟩
        · exact ⟨_, rfl, _, rfl, _, _, rfl, rfl, _, rfl, (by show 3 ≤ sizeLine; decide), fun p np => q6 p _ (same_new np) np upd_same⟩
      · rw [List.length_map, rowOf_length] at hN
        have hdl : dd.length ≤ 5 := by
          rw [hN.len]
          have := List.length_filter_le (fun j : Nat => decide ((0 : Int) ≤ enc (P.go i ((j : Int) + 1)))) (List.range L)
          rw [List.length_range] at this
          omega
        have s34 := sT.trans s4
        have nlD : l ≠ D := by
          rintro rfl
          rw [sT _ _ hl] at hD
          cases hD
        refine ⟨l, D, _, _, rfl, rfl, s34 _ _ hl, h4, ?_, ?_⟩
        · rw [List.length_map, List.length_map]
          exact small (by omega)
        · refine ⟨_, _, _, _, ts ++ dd, rfl, (sm.trans s34).mut nl, by rw [upd_same, List.map_append], fun t ht => ?_, by rw [List.length_append]; omega⟩
          have hl4 := s34 _ _ hl
          rcases List.mem_append.mp ht with z | z
          · obtain ⟨r, k, g, a1, a2⟩ := (hts t z).same s34
            exact ⟨r, k, g, sqt_lst a1 hl4, a2⟩
          · obtain ⟨j, hj, e⟩ := List.getElem_of_mem z
            have hj2 : j < ((List.range L).filter fun j : Nat => decide ((0 : Int) ≤ enc (P.go i ((j : Int) + 1)))).length := by rw [← hN.len]; exact hj
            have hc := hN.at_ j t _ (by rw [List.getElem?_eq_getElem hj, e]) (List.getElem?_eq_getElem hj2)
            have hm := List.getElem_mem hj2
            obtain ⟨m1, m2⟩ := List.mem_filter.mp hm
            have m1 := List.mem_range.mp m1
            obtain ⟨g, hg⟩ := enc_nonneg.mp (of_decide_eq_true m2)
            rw [hg] at hc
            exact ⟨i, _, g, sqt_lst (SqT.of hc) hl4, m1, hg⟩
    · subst e
      exact ⟨_, rfl, q l ts H' sm nl hl hts⟩
end
end Wk
set_option Elab.async false
set_option linter.all false
set_option maxRecDepth 100000
set_option maxHeartbeats 4000000
namespace Wk
open PySem L2 Wc
section
variable {P : Program} {w : World} {K : PySem.W.Frag} {mg : Str → Option Value} {base : Heap}
/-- a turn's entries as they stand in the heap -/
abbrev tn (t : List Nat) : List Int := t.map Int.ofNat
theorem tn_vn (t : List Nat) : vi (tn t) = vn t := (vn_vi t).symm
theorem turn_perm {t : List Nat} {m : Nat} (h : t.length = m ∧ t.Nodup ∧ ∀ x ∈ t, x < m) : (tn t).Perm (tn (List.range m)) := by
  obtain ⟨h1, h2, h3⟩ := h
  refine List.Perm.map _ ?_
  refine (List.perm_ext_iff_of_nodup h2 List.nodup_range).mpr fun x => ⟨fun hx => List.mem_range.mpr (h3 x hx), fun hx => full_mem h2 h3 h1 (List.mem_range.mp hx)⟩
theorem range_rising (m : Nat) : (tn (List.range m)).Pairwise (· ≤ ·) := by
  refine List.pairwise_map.mpr ?_
  exact List.pairwise_lt_range.imp fun {a b} h => Int.ofNat_le.mpr (Nat.le_of_lt h)
theorem turn_sorted {t : List Nat} {m : Nat} {ns : List Int} (h : t.length = m ∧ t.Nodup ∧ ∀ x ∈ t, x < m) (hp : ns.Perm (tn t)) (hs : ns.Pairwise (· ≤ ·)) : ns = tn (List.range m) :=
  PySem.W.ksm_same (hp.trans (turn_perm h)) hs (range_rising m)
theorem rgV_tn (m : Nat) : rgV 0 (m : Int) = vi (tn (List.range m)) := by rw [rgV_vn, tn_vn]
abbrev s_is_a_turn : Stmt := top 25
abbrev n_is_a_turn : List Str := ["value", "many", "place"]
theorem sc_is_a_turn : FnScope n_is_a_turn ["value", "many"] (defScope s_is_a_turn) := ⟨rfl, rfl, rfl, by decide +kernel, rfl, by decide +kernel, by decide +kernel⟩
def sp_is_a_turn (K : PySem.W.Frag) : Sp := fun vs H Q _ => ∃ (a : Addr) (t : List Nat) (m : Nat), vs = [.ref a, .int (m : Int)] ∧ TI K H a (tn t) ∧ (t.length = m ∧ t.Nodup ∧ ∀ x ∈ t, x < m) ∧ m ≤ 40 ∧ RV (.bl true) H Q
theorem ok_is_a_turn (B : Bi mg) (F : Df K mg "is_a_turn" s_is_a_turn ["value", "many"]) (h_is_integer : Has P w K mg base 1 "is_integer" ["value"] sp_int1) : Has P w K mg base 2 "is_a_turn" ["value", "many"] (sp_is_a_turn K) := by
  refine F.ok sc_is_a_turn (fun vs H Q E h => ?_) (fun f cdv A outer s H vs Q E hr h => ?_)
  · obtain ⟨a, t, m, rfl, _⟩ := h
    rfl
  · obtain ⟨a, t, m, rfl, ha, ht, hm, q⟩ := h
    have hl : (vi (tn t)).length = m := by rw [List.length_map, List.length_map, ht.1]
    refine ⟨_, (pss_cons (ps_if (PW.pt (pw_or (pt_not (pt_val (pe_callB (kIsi K) (by rfl) B.isinstance (by decide +kernel) (pa_cons (pv 0) (pa_cons (pe_bltn (v := .ty "tuple") (by rfl) B.tuple (by decide +kernel) rfl) pa_nil))))) (pw_or (pt_cmpR op_ne (pe_callB (kLen K) (by rfl) B.len PySem.boot_len (pa_cons (pv 0) pa_nil)) (pv 1) (nomark _)) (pw_or1 (pt_not (pt_val (pe_callB (kAll K) (by rfl) B.all (by decide +kernel) (pa_cons (pe_lc (own := [("place", 2)]) rfl sc_is_a_turn.nd (pi_tup (pv 0)) (blkOk_by (N := n_is_a_turn) (sc := defScope s_is_a_turn) (by decide +kernel)) (fun _ _ _ _ _ => (pg_name (i := 2) sc_is_a_turn.nd rfl (Or.inl rfl))) (fun _ _ _ _ _ => pts_nil) (fun _ _ _ _ _ => (pe_has h_is_integer (hr.mono (by omega)) (pa_cons (pv 2) pa_nil)))) pa_nil))))))))
        (pss_one (ps_ret pe_bl))
        pss_nil)
      (pss_one (ps_ret (pe_cmpR (kEqD K (hu64 hr)) (pe_callB (kSortT K) (by rfl) B.sorted (by decide +kernel) (pa_cons (pv 0) pa_nil)) (pe_listRg rfl (by rfl) B.list (prg_1 (by rfl) B.range (pv 1))) (nomark _))))), ?_⟩
    refine ⟨_, rfl, _, _, _, _, true, rfl, .ty "tuple", tyX_tup ha, kit_ty (by decide +kernel), ?_⟩
    refine ⟨true, rfl, iteF ?_⟩
    refine ⟨_, rfl, a, _, rfl, .inr ha, _, rfl, rfl, _, rfl, ?_⟩
    rw [hl, decide_eq_true rfl]
    refine iteF ?_
    refine ⟨_, rfl, a, rfl, ⟨_, ha⟩, lcg walk_tup (fun _ => true) (fun _ => V.bl true) (by omega) (fun H' s' => s'.tup ha) YAt.same (fun i x H1 H2 hi s1 s2 y => ?_) (fun D H1 hD s1 h1 => ?_)⟩
    · obtain ⟨z, hz, rfl⟩ := of_vi_get y.2
      refine ⟨_, fun Qg h => h, rfl, evt_yes, fun _ H3 s3 Q3 q3 => ?_⟩
      exact ⟨_, rfl, z, rfl, fun H4 s4 => q3 H4 s4⟩
    rw [all_true] at h1
    refine ⟨_, _, rfl, SqL.of h1, ?_⟩
    rw [all_id]
    refine ⟨true, rfl, iteF ?_⟩
    refine ⟨_, rfl, a, _, rfl, s1.tup ha, fun ns p pm rs np => ?_⟩
    have en := turn_sorted ht pm rs
    subst en
    have s2 := same_new (o := .lst ((tn (List.range m)).map V.int)) np
    refine ⟨_, rfl, m, rfl, RgOk.of_le (Int.le_refl 0) (by omega) (by decide) (by omega), fun r nr => ?_⟩
    rw [rgV_tn]
    refine ⟨_, _, .lst (SqL.of ((same_new (o := .lst (vi (tn (List.range m)))) nr) _ _ upd_same)) (dpAll_ints _), .lst (SqL.of upd_same) (dpAll_ints _), PySem.W.shaped_ints _, PySem.W.shaped_ints _, ?_⟩
    rw [eqv_list]
    exact q _ (s1.trans (s2.trans (same_new nr)))
theorem ts_get {L m : Nat} {ts : List (List Nat)} (B : Book L m ts) {i : Nat} (h : i < L) : ts[i]? = some (ts.getD i []) := by
  have : i < ts.length := by rw [B.len]; exact h
  rw [List.getD_eq_getElem?_getD, List.getElem?_eq_getElem this]
  rfl
theorem tts_get {L m : Nat} {ts : List (List Nat)} (B : Book L m ts) {i : Nat} (h : i < L) : (ts.map tn)[i]? = some (tn (ts.getD i [])) := by
  rw [List.getElem?_map, ts_get B h]
  rfl
abbrev s_is_a_book : Stmt := top 26
abbrev n_is_a_book : List Str := ["value", "letters", "turns", "many", "turn"]
theorem sc_is_a_book : FnScope n_is_a_book ["value"] (defScope s_is_a_book) := ⟨rfl, rfl, rfl, by decide +kernel, rfl, by decide +kernel, by decide +kernel⟩
def sp_is_a_book (K : PySem.W.Frag) : Sp := fun vs H Q _ => ∃ (a : Addr) (L m : Nat) (ts : List (List Nat)), vs = [.ref a] ∧ BookAt K H a L ts ∧ Book L m ts ∧ 1 ≤ L ∧ L ≤ 4 ∧ 1 ≤ m ∧ m ≤ 40 ∧ RV (.bl true) H Q
theorem ok_is_a_book (B : Bi mg) (F : Df K mg "is_a_book" s_is_a_book ["value"]) (h_is_letters : Has P w K mg base 2 "is_letters" ["value"] sp_is_letters) (h_is_a_turn : Has P w K mg base 2 "is_a_turn" ["value", "many"] (sp_is_a_turn K)) :
    Has P w K mg base 3 "is_a_book" ["value"] (sp_is_a_book K) := by
  refine F.ok sc_is_a_book (fun vs H Q E h => ?_) (fun f cdv A outer s H vs Q E hr h => ?_)
  · obtain ⟨a, L, m, ts, rfl, _⟩ := h
    rfl
  · obtain ⟨a, L, m, ts, rfl, ⟨b, hW, hT⟩, hB, h1, h4, hm1, hm40, q⟩ := h
    obtain ⟨as, hA, hlen, hrow⟩ := hT.ex
    rw [List.length_map, hB.len] at hlen
    obtain ⟨tMP, hMP⟩ := B.places
    have h0 : 0 < as.length := by omega
    have hg0 : as[0]? = some as[0] := List.getElem?_eq_getElem h0
    have hr0 := hrow 0 _ _ hg0 (tts_get hB (by omega : 0 < L))
    have hl0 : (vi (tn (ts.getD 0 []))).length = m := by rw [List.length_map, List.length_map]; exact (hB.at_ (by omega : 0 < L)).1
    refine ⟨_, (pss_cons (ps_if (PW.pt (pw_or (pt_not (pt_val (pe_callB (kIsi K) (by rfl) B.isinstance (by decide +kernel) (pa_cons (pv 0) (pa_cons (pe_bltn (v := .ty "tuple") (by rfl) B.tuple (by decide +kernel) rfl) pa_nil))))) (pw_or (pt_cmpR op_ne (pe_callB (kLen K) (by rfl) B.len PySem.boot_len (pa_cons (pv 0) pa_nil)) pe_int (nomark _)) (pw_or1 (pt_not (pt_val (pe_has h_is_letters (hr.mono (by omega)) (pa_cons (pe_ix (kIxT K) (pv 0) pe_int (fun _ _ => rfl)) pa_nil))))))))
        (pss_one (ps_ret pe_bl))
        pss_nil)
      (pss_cons (ps_asg (pv 0) (k_tup K (n := 2) rfl (pgs_cons (pg_name (i := 1) sc_is_a_book.nd rfl (Or.inl rfl)) (pgs_cons (pg_name (i := 2) sc_is_a_book.nd rfl (Or.inl rfl)) pgs_nil))))
      (pss_cons (ps_if (PW.pt (pw_or (pt_not (pt_val (pe_callB (kIsi K) (by rfl) B.isinstance (by decide +kernel) (pa_cons (pv 2) (pa_cons (pe_bltn (v := .ty "tuple") (by rfl) B.tuple (by decide +kernel) rfl) pa_nil))))) (pw_or (pt_cmpR op_ne (pe_callB (kLen K) (by rfl) B.len PySem.boot_len (pa_cons (pv 2) pa_nil)) (pv 1) (nomark _)) (pw_or1 (pt_not (pt_val (pe_callB (kIsi K) (by rfl) B.isinstance (by decide +kernel) (pa_cons (pe_ix (kIxT K) (pv 2) pe_int (fun _ _ => rfl)) (pa_cons (pe_bltn (v := .ty "tuple") (by rfl) B.tuple (by decide +kernel) rfl) pa_nil)))))))))
        (pss_one (ps_ret pe_bl))
        pss_nil)
      (pss_cons (ps_set (i := 3) sc_is_a_book.nd rfl (Or.inr rfl) (pe_callB (kLen K) (by rfl) B.len PySem.boot_len (pa_cons (pe_ix (kIxT K) (pv 2) pe_int (fun _ _ => rfl)) pa_nil)))
      (pss_one (ps_ret (pe_and (pe_chain op_le op_le pe_int (pv 3) (pe_glob (v := .int 40) (by rfl) hMP ⟨_, rfl⟩)) (pe_one (pe_callB (kAll K) (by rfl) B.all (by decide +kernel) (pa_cons (pe_lc (own := [("turn", 4)]) rfl sc_is_a_book.nd (pi_tup (pv 2)) (blkOk_by (N := n_is_a_book) (sc := defScope s_is_a_book) (by decide +kernel)) (fun _ _ _ _ _ => (pg_name (i := 4) sc_is_a_book.nd rfl (Or.inl rfl))) (fun _ _ _ _ _ => pts_nil) (fun _ _ _ _ _ => (pe_has h_is_a_turn (hr.mono (by omega)) (pa_cons (pv 4) (pa_cons (pv 3) pa_nil))))) pa_nil)))))))))), ?_⟩
    refine ⟨_, rfl, _, _, _, _, true, rfl, .ty "tuple", tyX_tup hW, kit_ty (by decide +kernel), ?_⟩
    refine ⟨true, rfl, iteF ?_⟩
    refine ⟨_, rfl, a, _, rfl, .inr hW, rfl, _, rfl, iteF ?_⟩
    refine ⟨_, rfl, a, _, 0, _, rfl, rfl, hW, atI_nat (j := 0) rfl, L, rfl, h1, h4, fun H1 s1 => ?_⟩
    refine ⟨true, rfl, iteF ?_⟩
    refine ⟨_, rfl, a, _, rfl, s1.tup hW, rfl, _, _, rfl, _, _, rfl, rfl, ?_⟩
    refine ⟨_, rfl, _, _, _, _, true, rfl, .ty "tuple", tyX_tup (s1.tup hA), kit_ty (by decide +kernel), ?_⟩
    refine ⟨true, rfl, iteF ?_⟩
    refine ⟨_, rfl, b, _, rfl, .inr (s1.tup hA), _, rfl, rfl, _, rfl, ?_⟩
    rw [List.length_map, hlen, decide_eq_true rfl]
    refine iteF ?_
    refine ⟨_, rfl, b, _, 0, _, rfl, rfl, s1.tup hA, atI_nat (j := 0) (refs_get hg0), _, _, _, _, true, rfl, .ty "tuple", tyX_tup (s1.tup hr0), kit_ty (by decide +kernel), ?_⟩
    refine ⟨true, rfl, iteF ?_⟩
    refine ⟨_, rfl, b, _, 0, _, rfl, rfl, s1.tup hA, atI_nat (j := 0) (refs_get hg0), _, _, rfl, .inr (s1.tup hr0), ?_⟩
    rw [hl0]
    refine ⟨_, rfl, _, _, rfl, rfl, _, rfl, ?_⟩
    rw [decide_eq_true (show (1 : Int) ≤ (m : Int) by omega)]
    refine iteT ⟨_, _, rfl, rfl, _, rfl, ?_⟩
    rw [decide_eq_true (show (m : Int) ≤ 40 by omega)]
    refine iteT ?_
    refine ⟨_, rfl, b, rfl, ⟨_, s1.tup hA⟩, lcg walk_tup (fun _ => true) (fun _ => V.bl true) (by rw [List.length_map]; omega) (fun H' s' => s'.tup (s1.tup hA)) YAt.same (fun i x H2 H3 hi s2 s3 y => ?_) (fun D H2 hD s2 h2 => ?_)⟩
    · obtain ⟨c, ns, rfl, hb, hns, hc⟩ := tu_get (nss := ts.map tn) (by rw [List.length_map, hB.len]; exact hlen) (fun j b ns p r => s3.tup (s1.tup (hrow j b ns p r))) y.2
      rw [List.length_map, hlen] at hi
      rw [tts_get hB hi] at hns
      cases hns
      refine ⟨_, fun Qg h => h, rfl, evt_yes, fun _ H4 s4 Q4 q4 => ?_⟩
      exact ⟨_, rfl, _, rfl, c, ts.getD i [], m, rfl, Same.tup s4 hc, hB.at_ hi, hm40, fun H5 s5 => q4 H5 s5⟩
    rw [all_true] at h2
    refine ⟨_, _, rfl, SqL.of h2, ?_⟩
    rw [all_id]
    exact q H2 (s1.trans s2)
abbrev s_law_is_book : Stmt := top 56
abbrev n_law_is_book : List Str := ["_law_value", "_law_letters", "_law_turns", "_law_turn", "_law_place"]
theorem sc_law_is_book : FnScope n_law_is_book ["_law_value", "_law_letters"] (defScope s_law_is_book) := ⟨rfl, rfl, rfl, by decide +kernel, rfl, by decide +kernel, by decide +kernel⟩
def sp_law_is_book (K : PySem.W.Frag) : Sp := fun vs H Q _ => ∃ (a : Addr) (L m : Nat) (ts : List (List Nat)), vs = [.ref a, .int (L : Int)] ∧ BookAt K H a L ts ∧ Book L m ts ∧ 1 ≤ L ∧ L ≤ 4 ∧ 1 ≤ m ∧ m ≤ 40 ∧ RV (.bl true) H Q
theorem ok_law_is_book (B : Bi mg) (F : Df K mg "_law_is_book" s_law_is_book ["_law_value", "_law_letters"]) (h__law_is_whole : Has P w K mg base 1 "_law_is_whole" ["_law_value"] sp_int1) :
    Has P w K mg base 2 "_law_is_book" ["_law_value", "_law_letters"] (sp_law_is_book K) := by
  refine F.ok sc_law_is_book (fun vs H Q E h => ?_) (fun f cdv A outer s H vs Q E hr h => ?_)
  · obtain ⟨a, L, m, ts, rfl, _⟩ := h
    rfl
  · obtain ⟨a, L, m, ts, rfl, ⟨b, hW, hT⟩, hB, h1, h4, hm1, hm40, q⟩ := h
    obtain ⟨as, hA, hlen, hrow⟩ := hT.ex
    rw [List.length_map, hB.len] at hlen
    have h0 : 0 < as.length := by omega
    have hg0 : as[0]? = some as[0] := List.getElem?_eq_getElem h0
    have hr0 := hrow 0 _ _ hg0 (tts_get hB (by omega : 0 < L))
    have hl0 : (vi (tn (ts.getD 0 []))).length = m := by rw [List.length_map, List.length_map]; exact (hB.at_ (by omega : 0 < L)).1
    refine ⟨_, (pss_cons (ps_if (PW.pt (pw_or (pt_not (pt_val (pe_callB (kIsi K) (by rfl) B.isinstance (by decide +kernel) (pa_cons (pv 0) (pa_cons (pe_bltn (v := .ty "tuple") (by rfl) B.tuple (by decide +kernel) rfl) pa_nil))))) (pw_or (pt_cmpR op_ne (pe_callB (kLen K) (by rfl) B.len PySem.boot_len (pa_cons (pv 0) pa_nil)) pe_int (nomark _)) (pw_or (pt_not (pt_val (pe_has h__law_is_whole (hr.mono (by omega)) (pa_cons (pe_ix (kIxT K) (pv 0) pe_int (fun _ _ => rfl)) pa_nil)))) (pw_or1 (pt_cmpR op_ne (pe_ix (kIxT K) (pv 0) pe_int (fun _ _ => rfl)) (pv 1) (nomark _)))))))
        (pss_one (ps_ret pe_bl))
        pss_nil)
      (pss_cons (ps_set (i := 2) sc_law_is_book.nd rfl (Or.inl rfl) (pe_ix (kIxT K) (pv 0) pe_int (fun _ _ => rfl)))
      (pss_cons (ps_if (PW.pt (pw_or (pt_not (pt_val (pe_callB (kIsi K) (by rfl) B.isinstance (by decide +kernel) (pa_cons (pv 2) (pa_cons (pe_bltn (v := .ty "tuple") (by rfl) B.tuple (by decide +kernel) rfl) pa_nil))))) (pw_or1 (pt_cmpR op_ne (pe_callB (kLen K) (by rfl) B.len PySem.boot_len (pa_cons (pv 2) pa_nil)) (pv 1) (nomark _)))))
        (pss_one (ps_ret pe_bl))
        pss_nil)
      (pss_cons (ps_for PassesOwn.never rfl (pi_tup (pv 2)) (pg_name (i := 3) sc_law_is_book.nd rfl (Or.inl rfl))
        (pss_cons (ps_if (PW.pt (pw_or (pt_not (pt_val (pe_callB (kIsi K) (by rfl) B.isinstance (by decide +kernel) (pa_cons (pv 3) (pa_cons (pe_bltn (v := .ty "tuple") (by rfl) B.tuple (by decide +kernel) rfl) pa_nil))))) (pw_or1 (pt_not (pt_val (pe_callB (kAll K) (by rfl) B.all (by decide +kernel) (pa_cons (pe_lc (own := [("_law_place", 4)]) rfl sc_law_is_book.nd (pi_tup (pv 3)) (blkOk_by (N := n_law_is_book) (sc := defScope s_law_is_book) (by decide +kernel)) (fun _ _ _ _ _ => (pg_name (i := 4) sc_law_is_book.nd rfl (Or.inl rfl))) (fun _ _ _ _ _ => pts_nil) (fun _ _ _ _ _ => (pe_has h__law_is_whole (hr.mono (by omega)) (pa_cons (pv 4) pa_nil)))) pa_nil)))))))
          (pss_one (ps_ret pe_bl))
          pss_nil)
        (pss_one (ps_if (PW.pt (pw_or (pt_not (pt_chain op_le op_le pe_int (pe_callB (kLen K) (by rfl) B.len PySem.boot_len (pa_cons (pv 3) pa_nil)) pe_int)) (pw_or1 (pt_cmpR (kNeD K (hu64 hr)) (pe_callB (kSortT K) (by rfl) B.sorted (by decide +kernel) (pa_cons (pv 3) pa_nil)) (pe_listRg rfl (by rfl) B.list (prg_1 (by rfl) B.range (pe_callB (kLen K) (by rfl) B.len PySem.boot_len (pa_cons (pe_ix (kIxT K) (pv 2) pe_int (fun _ _ => rfl)) pa_nil)))) (nomark _)))))
          (pss_one (ps_ret pe_bl))
          pss_nil))))
      (pss_one (ps_ret pe_bl)))))), ?_⟩
    refine ⟨_, rfl, _, _, _, _, true, rfl, .ty "tuple", tyX_tup hW, kit_ty (by decide +kernel), ?_⟩
    refine ⟨true, rfl, iteF ?_⟩
    refine ⟨_, rfl, a, _, rfl, .inr hW, rfl, _, rfl, iteF ?_⟩
    refine ⟨_, rfl, a, _, 0, _, rfl, rfl, hW, atI_nat (j := 0) rfl, _, rfl, fun H1 s1 => ?_⟩
    refine ⟨true, rfl, iteF ?_⟩
    refine ⟨_, rfl, a, _, 0, _, rfl, rfl, s1.tup hW, atI_nat (j := 0) rfl, _, rfl, rfl, _, rfl, ?_⟩
    rw [decide_eq_true rfl]
    refine iteF ?_
    refine ⟨_, rfl, a, _, 1, _, rfl, rfl, s1.tup hW, atI_nat (j := 1) rfl, ?_⟩
    refine ⟨_, rfl, _, _, _, _, true, rfl, .ty "tuple", tyX_tup (s1.tup hA), kit_ty (by decide +kernel), ?_⟩
    refine ⟨true, rfl, iteF ?_⟩
    refine ⟨_, rfl, b, _, rfl, .inr (s1.tup hA), _, rfl, rfl, _, rfl, ?_⟩
    rw [List.length_map, hlen, decide_eq_true rfl]
    refine iteF ?_
    refine ⟨_, rfl, b, rfl, ⟨_, s1.tup hA⟩, for_tup (xs := as.map V.ref) (fun i σ H' => ∃ y3 y4, σ = [some (.ref a), some (.int (L : Int)), some (.ref b), y3, y4] ∧ Same H H') ⟨none, none, rfl, s1⟩ (fun i σ H' _ ⟨_, _, _, sm⟩ => sm.tup hA) (fun i x σ H2 hx ⟨y3, y4, e, sm⟩ => ?_) (fun σ H2 ⟨y3, y4, e, sm⟩ => q H2 sm)⟩
    subst e
    obtain ⟨c, ns, rfl, hb, hns, hc⟩ := tu_get (nss := ts.map tn) (by rw [List.length_map, hB.len]; exact hlen) (fun j b ns p r => sm.tup (hrow j b ns p r)) hx
    have hi : i < L := by have := lt_of_get hb; omega
    rw [tts_get hB hi] at hns
    cases hns
    have ht := hB.at_ hi
    have hl : (vi (tn (ts.getD i []))).length = m := by rw [List.length_map, List.length_map, ht.1]
    refine ⟨_, rfl, _, _, _, _, true, rfl, .ty "tuple", tyX_tup hc, kit_ty (by decide +kernel), ?_⟩
    refine ⟨true, rfl, iteF ?_⟩
    refine ⟨_, rfl, c, rfl, ⟨_, hc⟩, lcg walk_tup (fun _ => true) (fun _ => V.bl true) (by omega) (fun H' s' => s'.tup hc) YAt.same (fun j x H3 H4 hj s3 s4 y => ?_) (fun D H3 hD s3 h3 => ?_)⟩
    · obtain ⟨z, hz, rfl⟩ := of_vi_get y.2
      refine ⟨_, fun Qg h => h, rfl, evt_yes, fun _ H5 s5 Q5 q5 => ?_⟩
      exact ⟨_, rfl, z, rfl, fun H6 s6 => q5 H6 s6⟩
    rw [all_true] at h3
    refine ⟨_, _, rfl, SqL.of h3, ?_⟩
    rw [all_id]
    refine ⟨true, rfl, iteF ?_⟩
    have hc3 := s3.tup hc
    refine ⟨_, rfl, c, _, rfl, .inr hc3, ?_⟩
    rw [hl]
    refine ⟨_, _, rfl, rfl, _, rfl, ?_⟩
    rw [decide_eq_true (show (1 : Int) ≤ (m : Int) by omega)]
    refine iteT ⟨_, _, rfl, rfl, _, rfl, ?_⟩
    rw [decide_eq_true (show (m : Int) ≤ 40 by omega)]
    refine iteF ?_
    refine ⟨_, rfl, c, _, rfl, hc3, fun ns p pm rs np => ?_⟩
    have en := turn_sorted ht pm rs
    subst en
    have s5 := same_new (o := .lst ((tn (List.range m)).map V.int)) np
    have sm5 := (sm.trans s3).trans s5
    refine ⟨_, rfl, b, _, 0, _, rfl, rfl, sm5.tup hA, atI_nat (j := 0) (refs_get hg0), _, _, rfl, .inr (sm5.tup hr0), ?_⟩
    rw [hl0]
    refine ⟨m, rfl, RgOk.of_le (Int.le_refl 0) (by omega) (by decide) (by omega), fun r nr => ?_⟩
    rw [rgV_tn]
    refine ⟨_, _, .lst (SqL.of ((same_new (o := .lst (vi (tn (List.range m)))) nr) _ _ upd_same)) (dpAll_ints _), .lst (SqL.of upd_same) (dpAll_ints _), PySem.W.shaped_ints _, PySem.W.shaped_ints _, ?_⟩
    rw [eqv_list]
    exact ⟨_, rfl, iteF ⟨_, _, rfl, sm5.trans (same_new nr)⟩⟩
end
end Wk
set_option Elab.async false
set_option linter.all false
set_option maxRecDepth 100000
set_option maxHeartbeats 4000000
namespace Wk
open PySem L2 Wc
section
variable {P : Program} {w : World} {K : PySem.W.Frag} {mg : Str → Option Value} {base : Heap}
abbrev s_places_of : Stmt := top 27
abbrev n_places_of : List Str := ["book"]
theorem sc_places_of : FnScope n_places_of ["book"] (defScope s_places_of) := ⟨rfl, rfl, rfl, by decide +kernel, rfl, by decide +kernel, by decide +kernel⟩
def sp_places_of (K : PySem.W.Frag) : Sp := fun vs H Q _ => ∃ (a : Addr) (L m : Nat) (ts : List (List Nat)), vs = [.ref a] ∧ BookAt K H a L ts ∧ Book L m ts ∧ 1 ≤ L ∧ RV (.int (m : Int)) H Q
theorem ok_places_of (B : Bi mg) (F : Df K mg "places_of" s_places_of ["book"]) : Has P w K mg base 1 "places_of" ["book"] (sp_places_of K) := by
  refine F.ok sc_places_of (fun vs H Q E h => ?_) (fun f cdv A outer s H vs Q E hr h => ?_)
  · obtain ⟨a, L, m, ts, rfl, _⟩ := h
    rfl
  · obtain ⟨a, L, m, ts, rfl, ⟨b, hW, hT⟩, hB, h1, q⟩ := h
    obtain ⟨as, hA, hlen, hrow⟩ := hT.ex
    rw [List.length_map, hB.len] at hlen
    have h0 : 0 < as.length := by omega
    have hg0 : as[0]? = some as[0] := List.getElem?_eq_getElem h0
    have hr0 := hrow 0 _ _ hg0 (tts_get hB (by omega : 0 < L))
    have hl0 : (vi (tn (ts.getD 0 []))).length = m := by rw [List.length_map, List.length_map]; exact (hB.at_ (by omega : 0 < L)).1
    refine ⟨_, (pss_one (ps_ret (pe_callB (kLen K) (by rfl) B.len PySem.boot_len (pa_cons (pe_ix (kIxT K) (pe_ix (kIxT K) (pv 0) pe_int (fun _ _ => rfl)) pe_int (fun _ _ => rfl)) pa_nil)))), ?_⟩
    refine ⟨_, rfl, a, _, 1, _, rfl, rfl, hW, atI_nat (j := 1) rfl, b, _, 0, _, rfl, rfl, hA, atI_nat (j := 0) (refs_get hg0), _, _, rfl, .inr hr0, ?_⟩
    rw [hl0]
    exact q H (Same.refl H)
/-! ### the turns by their steps -/
/-- a list that is going to be the turn back -/
structure BackOk (t : List Nat) (m i : Nat) (bs : List Nat) : Prop where
  len : bs.length = m
  at_ : ∀ r x, r < i → t[r]? = some x → bs[x]? = some r
theorem BackOk.zero {t : List Nat} {m : Nat} {bs : List Nat} (h : bs.length = m) : BackOk t m 0 bs := ⟨h, fun r x hr => absurd hr (Nat.not_lt_zero r)⟩
theorem BackOk.step {t : List Nat} {m i x : Nat} {bs : List Nat} (h : BackOk t m i bs) (ht : t.length = m ∧ t.Nodup ∧ ∀ x ∈ t, x < m) (hx : t[i]? = some x) : BackOk t m (i + 1) (bs.set x i) := by
  have hxm := ht.2.2 x (List.mem_of_getElem? hx)
  refine ⟨by rw [List.length_set]; exact h.len, fun r y hr hy => ?_⟩
  by_cases c : r = i
  · subst c
    rw [hx] at hy
    cases hy
    rw [List.getElem?_set_self (by rw [h.len]; exact hxm)]
  · have hne : x ≠ y := by
      rintro rfl
      exact c (nd_get ht.2.1 hy hx)
    rw [List.getElem?_set_ne hne]
    exact h.at_ r y (by omega) hy
theorem BackOk.full {t : List Nat} {m : Nat} {bs : List Nat} (h : BackOk t m m bs) (ht : t.length = m ∧ t.Nodup ∧ ∀ x ∈ t, x < m) : bs = invL m t := by
  refine List.ext_getElem? fun y => ?_
  by_cases c : y < m
  · have hm := full_mem ht.2.1 ht.2.2 ht.1 c
    have hlt := List.idxOf_lt_length_iff.mpr hm
    have hg : t[t.idxOf y]? = some y := by
      rw [List.getElem?_eq_getElem hlt]
      exact congrArg some (List.getElem_idxOf hlt)
    rw [h.at_ _ _ (by omega) hg]
    unfold invL
    rw [List.getElem?_map, List.getElem?_range c]
    rfl
  · rw [List.getElem?_eq_none (by rw [h.len]; omega), List.getElem?_eq_none (by rw [invL_length]; omega)]
theorem vn_set (bs : List Nat) (x i : Nat) : (vn bs).set x (.int (i : Int)) = vn (bs.set x i) := (List.map_set).symm
/-- the turns of the first letters, by their steps -/
theorem putK_le {κ : Type} [DecidableEq κ] (k : κ) (x : V) (c : List (κ × V)) : (putK c k x).length ≤ c.length + 1 := by
  unfold putK
  by_cases e : (c.any fun kv => decide (kv.1 = k)) = true
  · rw [if_pos e, List.length_map]
    omega
  · rw [if_neg e, List.length_append]
    simp
def TAt (H : Hp) (kvs : List (Key × V)) (i m : Nat) (ts : List (List Nat)) : Prop := kvs.length ≤ 2 * i ∧ ∀ s, stepOk i s → ∃ b, valV kvs (Sum.inl s) = some (.ref b) ∧ H b = some (.lst (vn (rowS m ts s)))
theorem TAt.same {H H' : Hp} {kvs : List (Key × V)} {i m : Nat} {ts : List (List Nat)} (h : TAt H kvs i m ts) (e : Same H H') : TAt H' kvs i m ts := ⟨h.1, fun s hs => let ⟨b, x, y⟩ := h.2 s hs; ⟨b, x, e _ _ y⟩⟩
theorem TAt.dk {H : Hp} {kvs k2 : List (Key × V)} {d : Addr} {o : HO} {i m : Nat} {ts : List (List Nat)} (h : TAt H kvs i m ts) (hd : H d = some (.dK k2)) : TAt (upd H d o) kvs i m ts := ⟨h.1, fun s hs => let ⟨b, x, y⟩ := h.2 s hs; ⟨b, x, by rw [upd_ne (ne_of y hd (by intro z; cases z))]; exact y⟩⟩
theorem TAt.zero (H : Hp) (m : Nat) (ts : List (List Nat)) : TAt H [] 0 m ts := ⟨Nat.le_refl _, fun s hs => by have := hs.1; have := hs.2; omega⟩
theorem TAt.put {H : Hp} {kvs : List (Key × V)} {i m : Nat} {ts : List (List Nat)} {b1 b2 : Addr} (h : TAt H kvs i m ts) (h1 : H b1 = some (.lst (vn (rowS m ts ((i : Int) + 1))))) (h2 : H b2 = some (.lst (vn (rowS m ts (-((i : Int) + 1)))))) :
    TAt H (putK (putK kvs (Sum.inl ((i : Int) + 1)) (.ref b1)) (Sum.inl (-((i : Int) + 1))) (.ref b2)) (i + 1) m ts := by
  refine ⟨?_, fun s hs => ?_⟩
  · have := putK_le (Sum.inl (-((i : Int) + 1))) (.ref b2) (putK kvs (Sum.inl ((i : Int) + 1)) (.ref b1))
    have := putK_le (Sum.inl ((i : Int) + 1)) (.ref b1) kvs
    have := h.1
    omega
  rw [valV_put, valV_put]
  by_cases c1 : s = -((i : Int) + 1)
  · subst c1
    exact ⟨b2, by rw [if_pos rfl], h2⟩
  · rw [if_neg (fun e => c1 (Sum.inl.inj e))]
    by_cases c2 : s = (i : Int) + 1
    · subst c2
      exact ⟨b1, by rw [if_pos rfl], h1⟩
    · rw [if_neg (fun e => c2 (Sum.inl.inj e))]
      have a1 := hs.1
      have a2 := hs.2
      exact h.2 s ⟨a1, by omega⟩
theorem rowS_pos (m : Nat) (ts : List (List Nat)) (i : Nat) : rowS m ts ((i : Int) + 1) = ts.getD i [] := by
  unfold rowS
  rw [if_pos (by omega)]
  congr 1
theorem rowS_neg (m : Nat) (ts : List (List Nat)) (i : Nat) : rowS m ts (-((i : Int) + 1)) = invL m (ts.getD i []) := by
  unfold rowS
  rw [if_neg (by omega)]
  rw [show (- -((i : Int) + 1)).toNat - 1 = i by omega]
/-- the promise of both -/
def RTurns (L m : Nat) (ts : List (List Nat)) (H : Hp) (Q : VK) : Prop := ∀ p kvs H', Same H H' → H p = none → H' p = some (.dK kvs) → TAt H' kvs L m ts → Q (.ref p) H'
theorem rep_zero (m : Nat) : (List.replicate (m : Int).toNat [V.int 0]).flatten = vn (List.replicate m 0) := by
  rw [Int.toNat_natCast]
  unfold vn
  rw [List.map_replicate]
  induction m with
  | zero => rfl
  | succ n ih => rw [List.replicate_succ, List.flatten_cons, ih, List.replicate_succ]; rfl
theorem ix_nat {n j : Nat} (h : j < n) : ixN n (j : Int) = some j := by
  unfold ixN
  rw [if_pos (by omega), if_pos (by omega)]
  rfl
abbrev s_turns_by_step : Stmt := top 28
abbrev n_turns_by_step : List Str := ["book", "letters", "turns", "found", "letter", "turn", "back", "place", "goal"]
theorem sc_turns_by_step : FnScope n_turns_by_step ["book"] (defScope s_turns_by_step) := ⟨rfl, rfl, rfl, by decide +kernel, rfl, by decide +kernel, by decide +kernel⟩
def sp_turns (K : PySem.W.Frag) : Sp := fun vs H Q _ => ∃ (a : Addr) (L m : Nat) (ts : List (List Nat)), vs = [.ref a] ∧ BookAt K H a L ts ∧ Book L m ts ∧ L ≤ 5 ∧ m ≤ 1000 ∧ RTurns L m ts H Q
theorem ok_turns_by_step (B : Bi mg) (F : Df K mg "turns_by_step" s_turns_by_step ["book"]) : Has P w K mg base 1 "turns_by_step" ["book"] (sp_turns K) := by
  refine F.ok sc_turns_by_step (fun vs H Q E h => ?_) (fun f cdv A outer s H vs Q E hr h => ?_)
  · obtain ⟨a, L, m, ts, rfl, _⟩ := h
    rfl
  · obtain ⟨a, L, m, ts, rfl, ⟨b, hW, hT⟩, hB, hL, hm, q⟩ := h
    obtain ⟨as, hA, hlen, hrow⟩ := hT.ex
    rw [List.length_map, hB.len] at hlen
    refine ⟨_, (pss_cons (ps_asg (pv 0) (k_tup K (n := 2) rfl (pgs_cons (pg_name (i := 1) sc_turns_by_step.nd rfl (Or.inl rfl)) (pgs_cons (pg_name (i := 2) sc_turns_by_step.nd rfl (Or.inl rfl)) pgs_nil))))
      (pss_cons (ps_set (i := 3) sc_turns_by_step.nd rfl (Or.inl rfl) pe_dnewK)
      (pss_cons (ps_for PassesOwn.never rfl (pi_range2 rfl B.range (pa_cons pe_int (pa_cons (pe_op op_add (pv 1) pe_int) pa_nil))) (pg_name (i := 4) sc_turns_by_step.nd rfl (Or.inl rfl))
        (pss_cons (ps_set (i := 5) sc_turns_by_step.nd rfl (Or.inl rfl) (pe_ix (kIxT K) (pv 2) (pe_op op_sub (pv 4) pe_int) (fun _ _ => rfl)))
        (pss_cons (ps_set (i := 6) sc_turns_by_step.nd rfl (Or.inl rfl) (pe_op op_rep (pe_lst (pa_cons pe_int pa_nil)) (pe_callB (kLen K) (by rfl) B.len PySem.boot_len (pa_cons (pv 5) pa_nil))))
        (pss_cons (ps_for PassesOwn.never rfl (pi_enumT (by rfl) B.enumerate (pa_cons (pv 5) pa_nil)) (k_tup K (n := 2) rfl (pgs_cons (pg_name (i := 7) sc_turns_by_step.nd rfl (Or.inl rfl)) (pgs_cons (pg_name (i := 8) sc_turns_by_step.nd rfl (Or.inl rfl)) pgs_nil)))
          (pss_one (ps_asg (pv 7) (pg_sub (pv 6) (pv 8) set_list))))
        (pss_one (ps_asg (pe_tup (pa_cons (pe_callTy (kLst K) (by rfl) B.list (by decide +kernel) (pa_cons (pv 5) pa_nil)) (pa_cons (pv 6) pa_nil))) (k_tup K (n := 2) rfl (pgs_cons (pg_sub (pv 3) (pv 4) (set_dict (hu_of hr))) (pgs_cons (pg_sub (pv 3) (pe_un un_neg (pv 4)) (set_dict (hu_of hr))) pgs_nil)))))))))
      (pss_one (ps_ret (pv 3)))))), ?_⟩
    refine ⟨_, rfl, a, _, rfl, hW, rfl, _, _, rfl, _, _, rfl, rfl, ?_⟩
    intro d nd
    have s1 := same_new (o := .dK []) nd
    refine ⟨_, rfl, _, _, rfl, rfl, _, _, rfl, ⟨by omega, by omega, by omega, by omega⟩, for_range (lo := 1) (n := ((L : Int) + 1 - 1).toNat) (fun i σ H' => ∃ y4 y5 y6 y7 y8 kvs, σ = [some (.ref a), some (.int (L : Int)), some (.ref b), some (.ref d), y4, y5, y6, y7, y8] ∧ Same H H' ∧ H' d = some (.dK kvs) ∧ TAt H' kvs i m ts) ⟨none, none, none, none, none, [], rfl, s1, upd_same, TAt.zero _ m ts⟩ (fun i σ H' hi ⟨y4, y5, y6, y7, y8, kvs, e, sm, hd, hk⟩ => ?_) (fun σ H' ⟨y4, y5, y6, y7, y8, kvs, e, sm, hd, hk⟩ => ?_)⟩
    · subst e
      have hiL : i < L := by omega
      have ht := hB.at_ hiL
      have hia : i < as.length := by omega
      have hgi : as[i]? = some as[i] := List.getElem?_eq_getElem hia
      generalize as[i] = c at hgi
      have hc := sm.tup (hrow i _ _ hgi (tts_get hB hiL))
      have e1 : (1 : Int) + (i : Int) - 1 = (i : Int) := by omega
      refine ⟨_, rfl, _, rfl, _, _, rfl, rfl, b, _, _, _, rfl, rfl, sm.tup hA, (by show atI _ ((1 : Int) + (i : Int) - 1) = _; rw [e1]; exact atI_nat (refs_get hgi)), ?_⟩
      have hl : (vi (tn (ts.getD i []))).length = m := by rw [List.length_map, List.length_map]; exact ht.1
      refine ⟨by show 1 ≤ sizeLine; decide, fun l nl => ?_⟩
      have sl := same_new (o := .lst [.int 0]) nl
      refine ⟨_, rfl, c, _, rfl, .inr (sl.tup hc), ?_⟩
      rw [hl]
      refine ⟨l, _, _, rfl, rfl, upd_same, by omega, by omega, small (by show 1 * _ ≤ _; omega), fun p np => ?_⟩
      rw [rep_zero]
      have s2 := sl.trans (same_new (o := .lst (vn (List.replicate m 0))) np)
      have np' := sl.free np
      refine ⟨_, rfl, c, _, rfl, s2.tup hc, for_it walk_enumT (fun j σ H2 => ∃ y7 y8 bs, σ = [some (.ref a), some (.int (L : Int)), some (.ref b), some (.ref d), some (.int (1 + (i : Int))), some (.ref c), some (.ref p), y7, y8] ∧ Same H' H2 ∧ H2 p = some (.lst (vn bs)) ∧ BackOk (ts.getD i []) m j bs) ⟨y7, y8, _, rfl, s2, upd_same, .zero (by rw [List.length_replicate])⟩ (fun j σ H2 _ ⟨_, _, _, _, e, _⟩ => e.tup hc) (fun j x σ H2 H3 hj ⟨y7, y8, bs, e, sm2, hp, hb⟩ hy => ?_) (fun σ H2 ⟨y7, y8, bs, e, sm2, hp, hb⟩ => ?_)⟩
      · subst e
        obtain ⟨T, x1, x2, rfl, nT, rfl, e1, e3⟩ := hy
        cases e1
        obtain ⟨z, hz, rfl⟩ := of_vi_get e3
        rw [List.getElem?_map] at hz
        cases hx : (ts.getD i [])[j]? with
        | none => rw [hx] at hz; cases hz
        | some x =>
        rw [hx] at hz
        cases hz
        have hxm := ht.2.2 x (List.mem_of_getElem? hx)
        have sT := same_new (o := .tup [.int (j : Nat), .int (Int.ofNat x)]) nT
        refine ⟨T, _, rfl, SqT.of upd_same, rfl, _, _, rfl, _, _, rfl, rfl, ?_⟩
        refine ⟨_, rfl, _, rfl, _, rfl, p, _, _, x, rfl, rfl, sT _ _ hp, ix_nat (by rw [List.length_map, hb.len]; exact hxm), ?_⟩
        refine ⟨_, _, bs.set x j, rfl, (sm2.trans sT).mut np', ?_, hb.step ht hx⟩
        rw [upd_same, vn_set]
      · subst e
        rw [hl] at hb
        have hbs := hb.full ht
        subst hbs
        have hc2 := sm2.tup hc
        have hd2 := sm2 _ _ hd
        refine ⟨_, rfl, c, _, rfl, .inr hc2, fun u nu => ?_⟩
        have su := same_new (o := .lst (vi (tn (ts.getD i [])))) nu
        refine ⟨_, rfl, by show 2 ≤ sizeLine; decide, fun v nv => ?_⟩
        have sv := same_new (o := .tup [.ref u, .ref p]) nv
        have s5 := su.trans sv
        refine ⟨v, _, rfl, SqT.of upd_same, rfl, _, _, rfl, ?_⟩
        have k5 := (hk.same sm2).same s5
        have hd5 := s5 _ _ hd2
        have hlen := hk.1
        have hu5 := sv _ _ (upd_same (H := H2) (a := u) (o := .lst (vi (tn (ts.getD i [])))))
        have hp5 := s5 _ _ hp
        refine ⟨_, rfl, _, rfl, d, _, rfl, DPut.k (k := Sum.inl ((1 : Int) + (i : Int))) hd5 (smallL (by omega)), ?_⟩
        refine ⟨_, _, rfl, ?_⟩
        refine ⟨_, rfl, _, rfl, _, rfl, d, _, rfl, DPut.k (k := Sum.inl (-((1 : Int) + (i : Int)))) upd_same (smallL (by have := putK_le (Sum.inl ((1 : Int) + (i : Int))) (.ref u) kvs; omega)), rfl, ?_⟩
        have e4 : (1 : Int) + (i : Int) = (i : Int) + 1 := by omega
        rw [upd_upd, e4]
        refine ⟨_, _, _, _, _, _, rfl, ((sm.trans sm2).trans s5).mut nd, upd_same, (k5.put ?_ ?_).dk hd5⟩
        · rw [rowS_pos, ← tn_vn]
          exact hu5
        · rw [rowS_neg]
          exact hp5
    · subst e
      rw [show ((L : Int) + 1 - 1).toNat = L by omega] at hk
      exact ⟨_, rfl, q d kvs H' sm nd hd hk⟩
abbrev s_law_rows : Stmt := top 47
abbrev n_law_rows : List Str := ["_law_book", "_law_rows_here", "_law_at", "_law_turn", "_law_back_here", "_law_place", "_law_goal"]
theorem sc_law_rows : FnScope n_law_rows ["_law_book"] (defScope s_law_rows) := ⟨rfl, rfl, rfl, by decide +kernel, rfl, by decide +kernel, by decide +kernel⟩
theorem ok_law_rows (B : Bi mg) (F : Df K mg "_law_rows" s_law_rows ["_law_book"]) : Has P w K mg base 1 "_law_rows" ["_law_book"] (sp_turns K) := by
  refine F.ok sc_law_rows (fun vs H Q E h => ?_) (fun f cdv A outer s H vs Q E hr h => ?_)
  · obtain ⟨a, L, m, ts, rfl, _⟩ := h
    rfl
  · obtain ⟨a, L, m, ts, rfl, ⟨b, hW, hT⟩, hB, hL, hm, q⟩ := h
    obtain ⟨as, hA, hlen, hrow⟩ := hT.ex
    rw [List.length_map, hB.len] at hlen
    refine ⟨_, (pss_cons (ps_set (i := 1) sc_law_rows.nd rfl (Or.inl rfl) pe_dnewK)
      (pss_cons (ps_for PassesOwn.never rfl (pi_enumT (by rfl) B.enumerate (pa_cons (pe_ix (kIxT K) (pv 0) pe_int (fun _ _ => rfl)) pa_nil)) (k_tup K (n := 2) rfl (pgs_cons (pg_name (i := 2) sc_law_rows.nd rfl (Or.inl rfl)) (pgs_cons (pg_name (i := 3) sc_law_rows.nd rfl (Or.inl rfl)) pgs_nil)))
        (pss_cons (ps_set (i := 4) sc_law_rows.nd rfl (Or.inl rfl) (pe_callTy (kLst K) (by rfl) B.list (by decide +kernel) (pa_cons (pv 3) pa_nil)))
        (pss_cons (ps_for PassesOwn.never rfl (pi_enumT (by rfl) B.enumerate (pa_cons (pv 3) pa_nil)) (k_tup K (n := 2) rfl (pgs_cons (pg_name (i := 5) sc_law_rows.nd rfl (Or.inl rfl)) (pgs_cons (pg_name (i := 6) sc_law_rows.nd rfl (Or.inl rfl)) pgs_nil)))
          (pss_one (ps_asg (pv 5) (pg_sub (pv 4) (pv 6) set_list))))
        (pss_cons (ps_dput (hu_of hr) (pv 1) (pe_op op_add (pv 2) pe_int) (pe_callTy (kLst K) (by rfl) B.list (by decide +kernel) (pa_cons (pv 3) pa_nil)) rfl)
        (pss_one (ps_dput (hu_of hr) (pv 1) (pe_op op_sub (pe_un un_neg (pv 2)) pe_int) (pv 4) rfl))))))
      (pss_one (ps_ret (pv 1))))), ?_⟩
    intro d nd
    have s1 := same_new (o := .dK []) nd
    refine ⟨_, rfl, a, _, 1, _, rfl, rfl, s1.tup hW, atI_nat (j := 1) rfl, b, _, rfl, s1.tup hA, for_it walk_enumT (fun i σ H' => ∃ y2 y3 y4 y5 y6 kvs, σ = [some (.ref a), some (.ref d), y2, y3, y4, y5, y6] ∧ Same H H' ∧ H' d = some (.dK kvs) ∧ TAt H' kvs i m ts) ⟨none, none, none, none, none, [], rfl, s1, upd_same, TAt.zero _ m ts⟩ (fun i σ H' _ ⟨_, _, _, _, _, _, _, sm, _⟩ => sm.tup hA) (fun i x σ H1 H' hi ⟨y2, y3, y4, y5, y6, kvs, e, sm1, hd1, hk1⟩ hy => ?_) (fun σ H' ⟨y2, y3, y4, y5, y6, kvs, e, sm, hd, hk⟩ => ?_)⟩
    · subst e
      rw [List.length_map, hlen] at hi
      have ht := hB.at_ hi
      obtain ⟨T, x1, x2, rfl, nT, rfl, e1, e2⟩ := hy
      cases e1
      obtain ⟨c, ns, rfl, hb, hns, hc1⟩ := tu_get (nss := ts.map tn) (by rw [List.length_map, hB.len]; exact hlen) (fun j b ns p r => sm1.tup (hrow j b ns p r)) e2
      rw [tts_get hB hi] at hns
      cases hns
      have sT := same_new (o := .tup [.int (i : Nat), .ref c]) nT
      have hc := sT.tup hc1
      have sm := sm1.trans sT
      have hd := sT _ _ hd1
      have hk := hk1.same sT
      have hl : (vi (tn (ts.getD i []))).length = m := by rw [List.length_map, List.length_map]; exact ht.1
      refine ⟨T, _, rfl, SqT.of upd_same, rfl, _, _, rfl, _, _, rfl, rfl, ?_⟩
      generalize hH' : upd H1 T (.tup [.int (i : Nat), .ref c]) = H' at *
      refine ⟨_, rfl, c, _, rfl, .inr hc, fun p np => ?_⟩
      have s2 := same_new (o := .lst (vi (tn (ts.getD i [])))) np
      refine ⟨_, rfl, c, _, rfl, s2.tup hc, for_it walk_enumT (fun j σ H2 => ∃ y5 y6 bs, σ = [some (.ref a), some (.ref d), some (.int (i : Int)), some (.ref c), some (.ref p), y5, y6] ∧ Same H' H2 ∧ H2 p = some (.lst (vn bs)) ∧ BackOk (ts.getD i []) m j bs) ⟨y5, y6, ts.getD i [], rfl, s2, by rw [upd_same, ← tn_vn], .zero ht.1⟩ (fun j σ H2 _ ⟨_, _, _, _, e, _⟩ => e.tup hc) (fun j x σ H2 H3 hj ⟨y5, y6, bs, e, sm2, hp, hb⟩ hy => ?_) (fun σ H2 ⟨y5, y6, bs, e, sm2, hp, hb⟩ => ?_)⟩
      · subst e
        obtain ⟨T, x1, x2, rfl, nT, rfl, e1, e3⟩ := hy
        cases e1
        obtain ⟨z, hz, rfl⟩ := of_vi_get e3
        rw [List.getElem?_map] at hz
        cases hx : (ts.getD i [])[j]? with
        | none => rw [hx] at hz; cases hz
        | some x =>
        rw [hx] at hz
        cases hz
        have hxm := ht.2.2 x (List.mem_of_getElem? hx)
        have sT := same_new (o := .tup [.int (j : Nat), .int (Int.ofNat x)]) nT
        refine ⟨T, _, rfl, SqT.of upd_same, rfl, _, _, rfl, _, _, rfl, rfl, ?_⟩
        refine ⟨_, rfl, _, rfl, _, rfl, p, _, _, x, rfl, rfl, sT _ _ hp, ix_nat (by rw [List.length_map, hb.len]; exact hxm), ?_⟩
        refine ⟨_, _, bs.set x j, rfl, (sm2.trans sT).mut np, ?_, hb.step ht hx⟩
        rw [upd_same, vn_set]
      · subst e
        rw [hl] at hb
        have hbs := hb.full ht
        subst hbs
        have hc2 := sm2.tup hc
        have hd2 := sm2 _ _ hd
        refine ⟨_, rfl, c, _, rfl, .inr hc2, fun u nu => ?_⟩
        have su := same_new (o := .lst (vi (tn (ts.getD i [])))) nu
        have k5 := (hk.same sm2).same su
        have hd5 := su _ _ hd2
        have hlen := hk.1
        have hp5 := su _ _ hp
        refine ⟨_, rfl, _, rfl, _, _, rfl, rfl, d, _, rfl, DPut.k (k := Sum.inl ((i : Int) + 1)) hd5 (smallL (by omega)), ?_⟩
        have ek : -(i : Int) - 1 = -((i : Int) + 1) := by omega
        refine ⟨_, rfl, _, rfl, _, rfl, _, rfl, _, _, rfl, rfl, d, _, rfl, DPut.k (k := Sum.inl (-(i : Int) - 1)) upd_same (smallL (by have := putK_le (Sum.inl ((i : Int) + 1)) (.ref u) kvs; omega)), ?_⟩
        rw [upd_upd, ek]
        refine ⟨_, _, _, _, _, _, rfl, ((sm.trans sm2).trans su).mut nd, upd_same, (k5.put ?_ ?_).dk hd5⟩
        · rw [rowS_pos, ← tn_vn]
          exact upd_same
        · rw [rowS_neg]
          exact hp5
    · subst e
      rw [List.length_map, hlen] at hk
      exact ⟨_, rfl, q d kvs H' sm nd hd hk⟩
abbrev s_turned_by : Stmt := top 29
abbrev n_turned_by : List Str := ["book", "walk", "steps", "found", "step", "place"]
theorem sc_turned_by : FnScope n_turned_by ["book", "walk"] (defScope s_turned_by) := ⟨rfl, rfl, rfl, by decide +kernel, rfl, by decide +kernel, by decide +kernel⟩
theorem rowS_get {L m : Nat} {ts : List (List Nat)} (B : Book L m ts) {s : Int} (hs : stepOk L s) {x : Nat} (hx : x < m) : (rowS m ts s)[x]? = some (actB m ts s x) := by
  unfold actB
  have : x < (rowS m ts s).length := by rw [rowS_length B hs]; exact hx
  rw [getD_lt this, List.getElem?_eq_getElem this]
def sp_turned_by (K : PySem.W.Frag) : Sp := fun vs H Q _ => ∃ (a c : Addr) (L m : Nat) (ts : List (List Nat)) (wk : List Int), vs = [.ref a, .ref c] ∧ BookAt K H a L ts ∧ Book L m ts ∧ 1 ≤ L ∧ L ≤ 5 ∧ m ≤ 1000 ∧ TI K H c wk ∧ (∀ s ∈ wk, stepOk L s) ∧ RL (vn ((List.range m).map (actW (actB m ts) wk))) H Q
theorem ok_turned_by (B : Bi mg) (F : Df K mg "turned_by" s_turned_by ["book", "walk"]) (h_turns_by_step : Has P w K mg base 1 "turns_by_step" ["book"] (sp_turns K)) (h_places_of : Has P w K mg base 1 "places_of" ["book"] (sp_places_of K)) :
    Has P w K mg base 2 "turned_by" ["book", "walk"] (sp_turned_by K) := by
  refine F.ok sc_turned_by (fun vs H Q E h => ?_) (fun f cdv A outer s H vs Q E hr h => ?_)
  · obtain ⟨a, c, L, m, ts, wk, rfl, _⟩ := h
    rfl
  · obtain ⟨a, c, L, m, ts, wk, rfl, hBk, hB, h1, hL, hm, hc, hw, q⟩ := h
    refine ⟨_, (pss_cons (ps_asg (pe_tup (pa_cons (pe_has h_turns_by_step (hr.mono (by omega)) (pa_cons (pv 0) pa_nil)) (pa_cons (pe_listRg rfl (by rfl) B.list (prg_1 (by rfl) B.range (pe_has h_places_of (hr.mono (by omega)) (pa_cons (pv 0) pa_nil)))) pa_nil))) (k_tup K (n := 2) rfl (pgs_cons (pg_name (i := 2) sc_turned_by.nd rfl (Or.inr rfl)) (pgs_cons (pg_name (i := 3) sc_turned_by.nd rfl (Or.inl rfl)) pgs_nil))))
      (pss_cons (ps_for PassesOwn.never rfl (pi_tup (pv 1)) (pg_name (i := 4) sc_turned_by.nd rfl (Or.inr rfl))
        (pss_one (ps_setLc (i := 3) (own := [("place", 5)]) rfl sc_turned_by.nd rfl rfl (sw_true rfl rfl rfl (by decide +kernel)) (pi_list (pv 3)) (blkOk_by (N := n_turned_by) (sc := defScope s_turned_by) (by decide +kernel)) (fun _ _ _ _ _ => (pg_name (i := 5) sc_turned_by.nd rfl (Or.inl rfl))) (fun _ _ _ _ _ => pts_nil) (fun _ _ _ _ _ => (pe_ix (kIxL K) (pe_dget (hu_of hr) (pv 2) (pv 4) (fun _ _ => rfl)) (pv 5) (fun _ _ => rfl))))))
      (pss_one (ps_ret (pv 3))))), ?_⟩
    refine ⟨_, rfl, a, L, m, ts, rfl, hBk, hB, hL, hm, fun d kvs H1 s1 nd hd hk => ?_⟩
    refine ⟨_, rfl, a, L, m, ts, rfl, hBk.same s1, hB, h1, fun H2 s2 => ?_⟩
    refine ⟨m, rfl, RgOk.of_le (Int.le_refl 0) (by omega) (by decide) (by omega), fun r nr => ?_⟩
    rw [rgV_vn]
    have s3 := same_new (o := .lst (vn (List.range m))) nr
    refine ⟨by show 2 ≤ sizeLine; decide, fun v nv => ?_⟩
    have s4 := same_new (o := .tup [.ref d, .ref r]) nv
    have s14 := s2.trans (s3.trans s4)
    refine ⟨v, _, rfl, SqT.of upd_same, rfl, _, _, rfl, _, _, rfl, rfl, ?_⟩
    refine ⟨_, rfl, c, rfl, ⟨_, (s1.trans s14).tup hc⟩, for_tup (xs := vi wk) (fun i σ H' => ∃ y4 y5 l, σ = [some (.ref a), some (.ref c), some (.ref d), some (.ref l), y4, y5] ∧ Same H1 H' ∧ H l = none ∧ H' l = some (.lst (vn ((List.range m).map (actW (actB m ts) (wk.take i)))))) ⟨none, none, r, rfl, s14, (s1.trans s2).free nr, ?_⟩ (fun i σ H' _ ⟨_, _, _, _, sm, _⟩ => (s1.trans sm).tup hc) (fun i x σ H' hx ⟨y4, y5, l, e, sm, nl, hl⟩ => ?_) (fun σ H' ⟨y4, y5, l, e, sm, nl, hl⟩ => ?_)⟩
    · rw [s4 _ _ upd_same, List.take_zero]
      show some (HO.lst (vn (List.range m))) = some (HO.lst (vn ((List.range m).map fun x => x)))
      rw [List.map_id']
    · subst e
      obtain ⟨st, hst, rfl⟩ := of_vi_get hx
      have hso := hw st (List.mem_of_getElem? hst)
      have hps : ∀ s ∈ wk.take i, stepOk L s := fun s hs => hw s (List.mem_of_mem_take hs)
      refine ⟨_, rfl, l, rfl, ⟨_, SqL.of hl⟩, lcg walk_list (fun _ => true) (fun j => V.int ((actW (actB m ts) (wk.take (i + 1)) j : Nat) : Int)) (by rw [List.length_map, List.length_map, List.length_range]; omega) (fun H2 s2 => SqL.of (s2 _ _ hl)) YAt.same (fun j x H2 H3 hj s2 s3 y => ?_) (fun D H2 hD s2 h2 => ?_)⟩
      · obtain ⟨z, hz, rfl⟩ := of_vn_get y.2
        have hj' : j < m := by
          have := lt_of_get hz
          rw [List.length_map, List.length_range] at this
          exact this
        rw [List.getElem?_map, List.getElem?_range hj'] at hz
        cases hz
        refine ⟨_, fun Qg h => h, rfl, evt_yes, fun _ H4 s4 Q4 q4 => ?_⟩
        have s4 : Same H3 H4 := s4
        have sm4 := sm.trans (s3.trans s4)
        obtain ⟨b, hb1, hb2⟩ := (hk.same sm4).2 st hso
        have hlt := hB.rep.ltW hps hj'
        refine ⟨_, rfl, _, rfl, d, _, rfl, (hb1 ▸ DGet.k (k := Sum.inl st) (sm4 _ _ hd)), _, rfl, b, _, _, _, rfl, rfl, SqL.of hb2, atI_nat (vn_get (rowS_get hB hso hlt)), ?_⟩
        have e5 : actW (actB m ts) (wk.take (i + 1)) j = actB m ts st (actW (actB m ts) (wk.take i) j) := by
          rw [List.take_add_one, hst, Option.toList_some, actW_append]
          rfl
        rw [← e5]
        exact q4 H4 (Evl.Ex.refl H4)
      · refine ⟨_, _, D, rfl, sm.trans s2, (s1.trans sm).free hD, ?_⟩
        rw [h2, given_all]
        rw [List.length_map, List.length_map, List.length_range]
        unfold vn
        rw [List.map_map]
        rfl
    · subst e
      rw [List.length_map, List.take_length] at hl
      exact ⟨_, rfl, q l H' (s1.trans sm) nl hl⟩
end
end Wk
set_option Elab.async false
set_option linter.all false
set_option maxRecDepth 100000
set_option maxHeartbeats 4000000
namespace Wk
open PySem L2 Wc
section
variable {P : Program} {w : World} {K : PySem.W.Frag} {mg : Str → Option Value} {base : Heap}
/-- the walks that are asked about -/
structure WsOk (L : Nat) (ws : List (List Int)) : Prop where
  l1 : 1 ≤ ws.length
  l4 : ws.length ≤ 4
  ok : ∀ w ∈ ws, ∀ s ∈ w, stepOk L s
  sz : ∀ w ∈ ws, w.length ≤ 200
theorem WsOk.get {L : Nat} {ws : List (List Int)} (h : WsOk L ws) {i : Nat} {w : List Int} (e : ws[i]? = some w) : (∀ s ∈ w, stepOk L s) ∧ w.length ≤ 200 := ⟨h.ok w (List.mem_of_getElem? e), h.sz w (List.mem_of_getElem? e)⟩
theorem total_le {c : Nat} : ∀ {ws : List (List Int)}, (∀ w ∈ ws, w.length ≤ c) → total ws ≤ c * ws.length
  | [], _ => Nat.zero_le _
  | w :: r, h => by
    have h1 := h w List.mem_cons_self
    have h2 := total_le (ws := r) fun v hv => h v (List.mem_cons_of_mem _ hv)
    have h3 := length_straight w
    show (straight w).length + total r ≤ c * (r.length + 1)
    rw [Nat.mul_succ]
    omega
abbrev s_need_web_and_walks : Stmt := top 32
abbrev n_need_web_and_walks : List Str := ["web", "walks", "right", "walk"]
theorem sc_need_web_and_walks : FnScope n_need_web_and_walks ["web", "walks"] (defScope s_need_web_and_walks) := ⟨rfl, rfl, rfl, by decide +kernel, rfl, by decide +kernel, by decide +kernel⟩
def sp_need_ww (K : PySem.W.Frag) : Sp := fun vs H Q _ => ∃ (a c : Addr) (L : Nat) (P : Pic) (ws : List (List Int)), vs = [.ref a, .ref c] ∧ Web L P ∧ P.n ≤ 1000 ∧ WebAt K H a L P ∧ TuT K H c ws ∧ WsOk L ws ∧ RV .non H Q
theorem ok_need_web_and_walks (B : Bi mg) (F : Df K mg "need_web_and_walks" s_need_web_and_walks ["web", "walks"]) (h_need_web : Has P w K mg base 4 "need_web" ["web"] (sp_need_web K)) (h_is_a_walk : Has P w K mg base 3 "is_a_walk" ["value", "letters"] (sp_is_a_walk K)) :
    Has P w K mg base 5 "need_web_and_walks" ["web", "walks"] (sp_need_ww K) := by
  refine F.ok sc_need_web_and_walks (fun vs H Q E h => ?_) (fun f cdv A outer s H vs Q E hr h => ?_)
  · obtain ⟨a, c, L, P, ws, rfl, _⟩ := h
    rfl
  · obtain ⟨a, c, L, P, ws, rfl, W, hn, hW, hT, hw, q⟩ := h
    obtain ⟨tMW, hMW⟩ := B.walks
    have hW0 := hW
    obtain ⟨b, hWb, hTb⟩ := hW0
    obtain ⟨as, hA, hlen, hrow⟩ := hT.ex
    have h1 := hw.l1
    have h4 := hw.l4
    refine ⟨_, (pss_cons (ps_expr (pe_has h_need_web (hr.mono (by omega)) (pa_cons (pv 0) pa_nil)))
      (pss_cons (ps_set (i := 2) sc_need_web_and_walks.nd rfl (Or.inl rfl) (pe_and (pe_callB (kIsi K) (by rfl) B.isinstance (by decide +kernel) (pa_cons (pv 1) (pa_cons (pe_bltn (v := .ty "tuple") (by rfl) B.tuple (by decide +kernel) rfl) pa_nil))) (pe_one (pe_chain op_le op_le pe_int (pe_callB (kLen K) (by rfl) B.len PySem.boot_len (pa_cons (pv 1) pa_nil)) (pe_glob (v := .int 4) (by rfl) hMW ⟨_, rfl⟩)))))
      (pss_one (ps_if (PW.pt (pw_or (pt_not (pt_val (pv 2))) (pw_or1 (pt_not (pt_val (pe_callB (kAll K) (by rfl) B.all (by decide +kernel) (pa_cons (pe_lc (own := [("walk", 3)]) rfl sc_need_web_and_walks.nd (pi_tup (pv 1)) (blkOk_by (N := n_need_web_and_walks) (sc := defScope s_need_web_and_walks) (by decide +kernel)) (fun _ _ _ _ _ => (pg_name (i := 3) sc_need_web_and_walks.nd rfl (Or.inl rfl))) (fun _ _ _ _ _ => pts_nil) (fun _ _ _ _ _ => (pe_has h_is_a_walk (hr.mono (by omega)) (pa_cons (pv 3) (pa_cons (pe_ix (kIxT K) (pv 0) pe_int (fun _ _ => rfl)) pa_nil))))) pa_nil)))))))
        (pss_one ps_never)
        pss_nil)))), ?_⟩
    refine ⟨_, rfl, a, L, P, rfl, W, hn, hW, fun H1 s1 => ?_⟩
    refine ⟨_, rfl, _, _, _, _, true, rfl, .ty "tuple", tyX_tup (s1.tup hA), kit_ty (by decide +kernel), ?_⟩
    refine ⟨true, rfl, iteT ?_⟩
    refine ⟨_, rfl, c, _, rfl, .inr (s1.tup hA), _, _, rfl, rfl, _, rfl, ?_⟩
    rw [List.length_map, hlen, decide_eq_true (show (1 : Int) ≤ (ws.length : Int) by omega)]
    refine iteT ⟨_, _, rfl, rfl, _, rfl, true, ?_, iteF ?_⟩
    · show V.bl (decide ((ws.length : Int) ≤ 4)) = _
      rw [decide_eq_true (show (ws.length : Int) ≤ 4 by omega)]
    refine ⟨_, rfl, c, rfl, ⟨_, s1.tup hA⟩, lcg walk_tup (fun _ => true) (fun _ => V.bl true) (by rw [List.length_map]; omega) (fun H' s' => s'.tup (s1.tup hA)) YAt.same (fun i x H2 H3 hi s2 s3 y => ?_) (fun D H2 hD s2 h2 => ?_)⟩
    · obtain ⟨d, wk, rfl, hb, hns, hd⟩ := tu_get hlen (fun j b ns p r => s3.tup (s1.tup (hrow j b ns p r))) y.2
      obtain ⟨g1, g2⟩ := hw.get hns
      refine ⟨_, fun Qg h => h, rfl, evt_yes, fun _ H4 s4 Q4 q4 => ?_⟩
      have s4 : Same H3 H4 := s4
      exact ⟨_, rfl, _, rfl, a, _, 0, _, rfl, rfl, s4.tup (s3.tup (s1.tup hWb)), atI_nat (j := 0) rfl, d, wk, L, rfl, s4.tup hd, by omega, g1, fun H5 s5 => q4 H5 s5⟩
    · rw [all_true] at h2
      refine ⟨_, _, rfl, SqL.of h2, ?_⟩
      rw [all_id]
      refine ⟨true, rfl, iteF ?_⟩
      exact q H2 (s1.trans s2)
/-! ### hung -/
theorem Fill.add {H H' : Hp} {l d : Addr} {ds : List Addr} {P : Pic} {r L : Nat} {s : Int} (h : Fill H H' l ds P) (nl : H l = none) (hp : P.Ok L) (hL : L ≤ 1000) (hr : r < P.n) (hd : ds[r]? = some d) (hn : P.go r s = none) :
    ∃ k0 o, H' d = some (.dK k0) ∧ DPut H' d (.int s) (.int (P.n : Int)) (upd H' d (.dK o)) ∧ Fill H (upd H' d (.dK o)) l ds (P.set r s P.n) ∧ ∀ m, upd H' d (.dK o) m = none →
      Fill H (upd (upd (upd (upd H' d (.dK o)) m (.dK [])) m (.dK [(Sum.inl (-s), V.int (r : Int))])) l (.lst (ds.map V.ref ++ [.ref m]))) l (ds ++ [m]) (P.add r s) := by
  obtain ⟨kv, p⟩ := h.pic
  have rw0 := p.row r d hd
  obtain ⟨H2, pd, e2, ra⟩ := rw0.put (L := L) (g := P.n) hn hL (fun s g e => (hp.ok r s g e).2.2.1)
  have hdn := h.new d (List.mem_of_getElem? hd)
  have hld : l ≠ d := ne_of h.lst rw0.at_ (by intro z; cases z)
  subst e2
  have pk : Pics (upd H' d (.dK ((kv r ++ [(s, P.n)]).map e2))) ds (fun j => if j = r then kv r ++ [(s, P.n)] else kv j) (P.set r s P.n) := by
    refine ⟨p.nd, p.len, fun j d' hd' => ?_⟩
    by_cases c : j = r
    · subst c
      rw [hd] at hd'
      cases hd'
      simp only [if_true]
      refine ⟨ra.at_, ra.nd, fun t => ?_⟩
      rw [ra.go t]
      show _ = if j = j ∧ t = s then some P.n else P.go j t
      by_cases ct : t = s
      · rw [if_pos ct, if_pos ⟨rfl, ct⟩]
      · rw [if_neg ct, if_neg (fun z => ct z.2)]
    · simp only [if_neg c]
      have hne : d' ≠ d := fun z => c (nd_get p.nd hd' (z ▸ hd))
      have r' := p.row j d' hd'
      refine ⟨by rw [upd_ne hne]; exact r'.at_, r'.nd, fun t => ?_⟩
      rw [r'.go t]
      show _ = if j = r ∧ t = s then some P.n else P.go j t
      rw [if_neg (fun z => c z.1)]
  have f2 : Fill H (upd H' d (.dK ((kv r ++ [(s, P.n)]).map e2))) l ds (P.set r s P.n) := ⟨h.sm.mut hdn, by rw [upd_ne hld]; exact h.lst, h.new, _, pk⟩
  refine ⟨_, _, rw0.at_, pd, f2, fun m nm => ?_⟩
  have nmH := f2.sm.free nm
  have hml : m ≠ l := by
    rintro rfl
    rw [f2.lst] at nm
    cases nm
  refine ⟨((f2.sm.mut nmH).mut nmH).mut nl, ?_, fun x hx => ?_, fun j => if j = P.n then [(-s, r)] else (fun j => if j = r then kv r ++ [(s, P.n)] else kv j) j, ?_, ?_, fun j d' hd' => ?_⟩
  · rw [upd_same, List.map_append]
    rfl
  · rcases List.mem_append.mp hx with z | z
    · exact h.new x z
    · rw [List.mem_singleton.mp z]; exact nmH
  · refine List.nodup_append.mpr ⟨p.nd, by simp, fun a ha b hb e => ?_⟩
    have : b = m := List.mem_singleton.mp hb
    obtain ⟨i, hi, ei⟩ := List.getElem_of_mem ha
    have := (pk.row i a (by rw [List.getElem?_eq_getElem hi, ei])).at_
    rw [e, ‹b = m›, nm] at this
    cases this
  · rw [List.length_append, p.len]
    rfl
  · by_cases c : j < ds.length
    · rw [List.getElem?_append_left c] at hd'
      rw [p.len] at c
      simp only [if_neg (show ¬ j = P.n by omega)]
      have r' := pk.row j d' hd'
      have hdm : d' ≠ m := by
        rintro rfl
        have := r'.at_
        rw [nm] at this
        cases this
      have hdl : d' ≠ l := ne_of r'.at_ f2.lst (by intro z; cases z)
      refine ⟨by rw [upd_ne hdl, upd_ne hdm, upd_ne hdm]; exact r'.at_, r'.nd, fun t => ?_⟩
      rw [r'.go t]
      show (if j = r ∧ t = s then some P.n else P.go j t) = if j = r ∧ t = s then some P.n else if j = P.n then (if t = -s then some r else none) else P.go j t
      rw [if_neg (show ¬ j = P.n by omega)]
    · rw [List.getElem?_append_right (by omega)] at hd'
      have c0 : j - ds.length = 0 := by
        rcases Nat.eq_zero_or_pos (j - ds.length) with z | z
        · exact z
        · rw [List.getElem?_eq_none (by rw [List.length_singleton]; omega)] at hd'
          cases hd'
      rw [c0] at hd'
      cases hd'
      have hj : j = P.n := by have := p.len; omega
      subst hj
      simp only [if_true]
      refine ⟨by rw [upd_ne hml, upd_same]; rfl, by simp, fun t => ?_⟩
      rw [add_back hr s t]
      show (if -s = t then some r else none) = _
      by_cases ct : t = -s
      · rw [if_pos ct, if_pos ct.symm]
      · rw [if_neg ct, if_neg (Ne.symm ct)]
/-- the steps of a walk so far -/
def hAt (x : Pic) (v : List Int) (j : Nat) : Pic × Nat := (v.take j).foldl hStep (x, 0)
theorem hAt_zero (x : Pic) (v : List Int) : hAt x v 0 = (x, 0) := rfl
theorem hAt_step {x : Pic} {v : List Int} {j : Nat} {s : Int} (h : v[j]? = some s) : hAt x v (j + 1) = hStep (hAt x v j) s := by
  unfold hAt
  rw [List.take_add_one, h, List.foldl_append]
  rfl
theorem hAt_full (x : Pic) (v : List Int) : hAt x v v.length = hWalk x v := by
  unfold hAt hWalk
  rw [List.take_length]
theorem hAt_ok {L : Nat} {x : Pic} {v : List Int} (h : x.Ok L) (hs : ∀ s ∈ v, stepOk L s) (j : Nat) : HOk L x (hAt x v j) ∧ (hAt x v j).1.n ≤ x.n + v.length := by
  obtain ⟨a, _, c, _⟩ := hWalk_gen (v.take j) (x, 0) ⟨h, h.pos, Grown.refl _⟩ fun s hs' => hs s (List.mem_of_mem_take hs')
  have c : (hAt x v j).1.n ≤ x.n + (v.take j).length := c
  rw [List.length_take] at c
  exact ⟨a, by omega⟩
/-- the walks so far -/
def hTo (P : Pic) (ws : List (List Int)) (k : Nat) : Pic × List Nat := (ws.take k).foldl hNext (P, [])
theorem hTo_step {P : Pic} {ws : List (List Int)} {k : Nat} {w : List Int} (h : ws[k]? = some w) : hTo P ws (k + 1) = hNext (hTo P ws k) w := by
  unfold hTo
  rw [List.take_add_one, h, List.foldl_append]
  rfl
theorem hTo_full (P : Pic) (ws : List (List Int)) : hTo P ws ws.length = hung P ws := by
  unfold hTo hung
  rw [List.take_length]
theorem hTo_ok {L : Nat} {P : Pic} {ws : List (List Int)} (h : P.Ok L) (hw : WsOk L ws) (k : Nat) : (hTo P ws k).1.Ok L ∧ (hTo P ws k).1.n ≤ P.n + 800 ∧ (hTo P ws k).2.length ≤ 4 := by
  have g := hung_gen (ws.take k) [] (P, []) (hung0 h) fun w hm => hw.ok w (List.mem_of_mem_take hm)
  have hl : (ws.take k).length ≤ 4 := by rw [List.length_take]; have := hw.l4; omega
  have ht := total_le (ws := ws.take k) (c := 200) fun w hm => hw.sz w (List.mem_of_mem_take hm)
  have hf := g.few
  rw [List.nil_append] at hf
  have he := g.len
  rw [List.nil_append] at he
  exact ⟨g.ok, by show (List.foldl hNext (P, []) (ws.take k)).1.n ≤ _; omega, by show (List.foldl hNext (P, []) (ws.take k)).2.length ≤ _; omega⟩
/-- the promise of hung -/
def RHung (x : Pic × List Nat) (H : Hp) (Q : VK) : Prop := ∀ t p e H', Same H H' → H' t = some (.tup [.ref p, .ref e]) → PicAt H' p x.1 → H' e = some (.lst (vn x.2)) → Q (.ref t) H'
abbrev s_hung : Stmt := top 33
abbrev n_hung : List Str := ["web", "walks", "doors", "ends", "walk", "here", "step"]
theorem sc_hung : FnScope n_hung ["web", "walks"] (defScope s_hung) := ⟨rfl, rfl, rfl, by decide +kernel, rfl, by decide +kernel, by decide +kernel⟩
def sp_hung (K : PySem.W.Frag) : Sp := fun vs H Q _ => ∃ (a c : Addr) (L : Nat) (P : Pic) (ws : List (List Int)), vs = [.ref a, .ref c] ∧ P.Ok L ∧ L ≤ 5 ∧ P.n ≤ 100 ∧ WebAt K H a L P ∧ TuT K H c ws ∧ WsOk L ws ∧ RHung (hung P ws) H Q
theorem ok_hung (B : Bi mg) (F : Df K mg "hung" s_hung ["web", "walks"]) (h_doors_of : Has P w K mg base 1 "doors_of" ["rows"] (sp_doors_of K)) (h_straightened : Has P w K mg base 1 "straightened" ["walk"] (sp_straightened K)) :
    Has P w K mg base 2 "hung" ["web", "walks"] (sp_hung K) := by
  refine F.ok sc_hung (fun vs H Q E h => ?_) (fun f cdv A outer s H vs Q E hr h => ?_)
  · obtain ⟨a, c, L, P, ws, rfl, _⟩ := h
    rfl
  · obtain ⟨a, c, L, P, ws, rfl, hp, hL, hn, ⟨b, hW, hTb⟩, hT, hw, q⟩ := h
    obtain ⟨as, hA, hlen, hrow⟩ := hT.ex
    refine ⟨_, (pss_cons (ps_par (i := 2) (j := 3) (by rfl) sc_hung.nd rfl rfl (by decide) rfl rfl (pa_cons (pe_has h_doors_of (hr.mono (by omega)) (pa_cons (pe_ix (kIxT K) (pv 0) pe_int (fun _ _ => rfl)) pa_nil)) (pa_cons (pe_lst pa_nil) pa_nil)) (by rfl))
      (pss_cons (ps_for PassesOwn.never rfl (pi_tup (pv 1)) (pg_name (i := 4) sc_hung.nd rfl (Or.inl rfl))
        (pss_cons (ps_set (i := 5) sc_hung.nd rfl (Or.inl rfl) pe_int)
        (pss_cons (ps_for PassesOwn.never rfl (pi_tup (pe_has h_straightened (hr.mono (by omega)) (pa_cons (pv 4) pa_nil))) (pg_name (i := 6) sc_hung.nd rfl (Or.inl rfl))
          (pss_cons (ps_if (pt_cmp (pc_dnotin (hu_of hr) (pv 6) (pe_ix (kIxL K) (pv 2) (pv 5) (fun _ _ => rfl))))
            (pss_cons (ps_dput (hu_of hr) (pe_ix (kIxL K) (pv 2) (pv 5) (fun _ _ => rfl)) (pv 6) (pe_callB (kLen K) (by rfl) B.len PySem.boot_len (pa_cons (pv 2) pa_nil)) rfl)
            (pss_one (ps_expr (k_bm K PySem.F.plainAttrs_list PySem.F.slot_list_append PySem.F.type_list_append mt_append (pv 2) (pa_cons (pe_disp (pps_cons (pe_un un_neg (pv 6)) (pv 5) pps_nil) (by rfl) (by rfl) (fun z => by cases z) (by decide)) pa_nil)))))
            pss_nil)
          (pss_one (ps_set (i := 5) sc_hung.nd rfl (Or.inl rfl) (pe_dget (hu_of hr) (pe_ix (kIxL K) (pv 2) (pv 5) (fun _ _ => rfl)) (pv 6) (fun _ _ => rfl))))))
        (pss_one (ps_expr (k_bm K PySem.F.plainAttrs_list PySem.F.slot_list_append PySem.F.type_list_append mt_append (pv 3) (pa_cons (pv 5) pa_nil)))))))
      (pss_one (ps_ret (pe_tup (pa_cons (pv 2) (pa_cons (pv 3) pa_nil))))))), ?_⟩
    refine ⟨_, rfl, a, _, 1, _, rfl, rfl, hW, atI_nat (j := 1) rfl, b, L, P, rfl, hp, hL, by omega, hTb, fun l ds kv H1 s1 nl nds hl hP => ?_⟩
    refine ⟨Nat.zero_le _, fun e ne => ?_⟩
    have se := same_new (o := .lst []) ne
    have ne0 := s1.free ne
    have hle : l ≠ e := ne_of_none hl ne
    refine ⟨_, _, rfl, ?_⟩
    have f0 : Fill H (upd H1 e (.lst [])) l ds P := ⟨s1.trans se, se _ _ hl, nds, kv, hP.same se⟩
    refine ⟨_, rfl, c, rfl, ⟨_, f0.sm.tup hA⟩, for_tup (xs := as.map V.ref) (fun k σ H' => ∃ y4 y5 y6 ds, σ = [some (.ref a), some (.ref c), some (.ref l), some (.ref e), y4, y5, y6] ∧ Fill H H' l ds (hTo P ws k).1 ∧ H' e = some (.lst (vn (hTo P ws k).2))) ⟨none, none, none, ds, rfl, f0, upd_same⟩ (fun i σ H' _ ⟨_, _, _, _, _, f, _⟩ => f.sm.tup hA) (fun k x σ H' hx ⟨y4, y5, y6, ds, er, f1, he⟩ => ?_) (fun σ H' ⟨y4, y5, y6, ds, er, f1, he⟩ => ?_)⟩
    · subst er
      obtain ⟨d, wk, rfl, hb, hns, hd⟩ := tu_get hlen (fun j b ns p r => f1.sm.tup (hrow j b ns p r)) hx
      obtain ⟨g1, g2⟩ := hw.get hns
      obtain ⟨o1, o2, o3⟩ := hTo_ok hp hw k
      have hso : ∀ s ∈ straight wk, stepOk L s := fun s m => g1 s (mem_straight m)
      have hsl := length_straight wk
      refine ⟨_, rfl, d, wk, rfl, hd, by omega, fun t H2 s2 nt ht => ?_⟩
      have f2 := f1.grow s2
      have he2 := s2 _ _ he
      refine ⟨t, rfl, ⟨_, SqT.of ht⟩, for_tup (xs := vi (straight wk)) (fun j σ H' => ∃ y6 ds, σ = [some (.ref a), some (.ref c), some (.ref l), some (.ref e), some (.ref d), some (.int ((hAt (hTo P ws k).1 (straight wk) j).2 : Int)), y6] ∧ Fill H H' l ds (hAt (hTo P ws k).1 (straight wk) j).1 ∧ H' e = some (.lst (vn (hTo P ws k).2)) ∧ SqT K H' t (vi (straight wk))) ⟨y6, ds, rfl, f2, he2, SqT.of ht⟩ (fun i σ H' _ ⟨_, _, _, _, _, f⟩ => f) (fun j x σ H' hx ⟨y6, ds, er, f3, he3, ht3⟩ => ?_) (fun σ H' ⟨y6, ds, er, f3, he3, ht3⟩ => ?_)⟩
      · subst er
        obtain ⟨st, hst, rfl⟩ := of_vi_get hx
        obtain ⟨hok, hnn⟩ := hAt_ok o1 hso j
        rw [hAt_step hst]
        generalize hAt (hTo P ws k).1 (straight wk) j = y at f3 hok hnn ⊢
        obtain ⟨Y, r⟩ := y
        have hrY : r < Y.n := hok.here
        have hYo : Y.Ok L := hok.ok
        have hYn : Y.n ≤ 3000 := by have : Y.n ≤ _ := hnn; omega
        obtain ⟨d1, hd1, hr1⟩ := f3.at_ hrY
        obtain ⟨kv3, p3⟩ := f3.pic
        have rw1 := p3.row r d1 hd1
        have hg1 := rw1.get st
        refine ⟨_, rfl, _, rfl, _, rfl, l, _, _, _, rfl, rfl, SqL.of f3.lst, atI_nat hr1, d1, _, rfl, hg1, ?_⟩
        unfold hStep
        cases hg : Y.go r st with
        | some g =>
          rw [hg] at hg1
          refine ⟨_, rfl, iteF ?_⟩
          exact ⟨_, rfl, _, rfl, l, _, _, _, rfl, rfl, SqL.of f3.lst, atI_nat hr1, _, rfl, d1, _, rfl, hg1, _, _, rfl, f3, he3, ht3⟩
        | none =>
          obtain ⟨k0, o, hk0, pd, f4, fin⟩ := f3.add nl hYo (by omega) hrY hd1 hg
          have hdl : d1 ≠ l := ne_of hk0 f3.lst (by intro z; cases z)
          have hde : d1 ≠ e := ne_of hk0 he3 (by intro z; cases z)
          refine ⟨_, rfl, iteT ?_⟩
          refine ⟨_, rfl, l, _, rfl, .inl (SqL.of f3.lst), ?_⟩
          rw [List.length_map, p3.len]
          refine ⟨_, rfl, _, rfl, l, _, _, _, rfl, rfl, SqL.of f3.lst, atI_nat hr1, _, rfl, d1, _, rfl, pd, ?_⟩
          refine ⟨_, rfl, .inl ⟨rfl, _, SqL.of f4.lst⟩, ?_⟩
          intro m nm
          have f5 := fin m nm
          have hml : l ≠ m := ne_of_none f4.lst nm
          refine ⟨_, rfl, _, rfl, _, rfl, upd_same, [((Sum.inl (-st) : Key), V.int (r : Int))], rfl, (by show 1 ≤ 15; decide), ?_⟩
          refine ⟨l, _, _, rfl, rfl, by rw [upd_ne hml, upd_ne hml]; exact f4.lst, by rw [List.length_map, p3.len]; exact smallL (by omega), ?_⟩
          have he5 : (upd (upd (upd (upd H' d1 (.dK o)) m (.dK [])) m (.dK [(Sum.inl (-st), V.int (r : Int))])) l (.lst (ds.map V.ref ++ [.ref m]))) e = some (.lst (vn (hTo P ws k).2)) := by
            have : e ≠ m := by
              rintro rfl
              rw [upd_ne hde.symm, he3] at nm
              cases nm
            rw [upd_ne hle.symm, upd_ne this, upd_ne this, upd_ne hde.symm]
            exact he3
          have ht5 : SqT K (upd (upd (upd (upd H' d1 (.dK o)) m (.dK [])) m (.dK [(Sum.inl (-st), V.int (r : Int))])) l (.lst (ds.map V.ref ++ [.ref m]))) t (vi (straight wk)) :=
            sqt_lst (sqt_dK ((same_new nm).tup (sqt_dK ht3 hk0)) upd_same) (by rw [upd_ne hml, upd_ne hml]; exact f4.lst)
          generalize hH5 : (upd (upd (upd (upd H' d1 (.dK o)) m (.dK [])) m (.dK [(Sum.inl (-st), V.int (r : Int))])) l (.lst (ds.map V.ref ++ [.ref m]))) = H5 at f5 he5 ht5
          obtain ⟨d2, hd2, hr2⟩ := f5.at_ (i := r) (show r < Y.n + 1 by omega)
          obtain ⟨kv5, p5⟩ := f5.pic
          have hg5 := (p5.row r d2 hd2).get st
          rw [add_new hrY] at hg5
          have stp : mergeK [] [((Sum.inl (-st) : Key), V.int (r : Int))] = [(Sum.inl (-st), V.int (r : Int))] := rfl
          rw [stp, hH5]
          exact ⟨_, rfl, _, rfl, l, _, _, _, rfl, rfl, SqL.of f5.lst, atI_nat hr2, _, rfl, d2, _, rfl, hg5, _, _, rfl, f5, he5, ht5⟩
      · subst er
        rw [List.length_map, hAt_full] at f3
        rw [List.length_map, hAt_full]
        have hel : e ≠ l := hle.symm
        refine ⟨_, rfl, .inl ⟨rfl, _, SqL.of he3⟩, _, rfl, e, _, _, rfl, rfl, he3, by rw [List.length_map]; exact smallL (by omega), ?_⟩
        refine ⟨_, _, _, ds, rfl, ?_, ?_⟩
        · rw [hTo_step hns]
          obtain ⟨kv3, p3⟩ := f3.pic
          refine ⟨f3.sm.mut ne0, by rw [upd_ne hle]; exact f3.lst, f3.new, kv3, p3.nd, p3.len, fun i d hd => ?_⟩
          have r3 := p3.row i d hd
          exact r3.of (upd_ne (ne_of r3.at_ he3 (by intro z; cases z)))
        · rw [hTo_step hns, upd_same]
          show _ = some (HO.lst (vn (_ ++ [_])))
          rw [vn, vn, List.map_append]
          rfl
    · subst er
      rw [List.length_map, hlen, hTo_full] at f1 he
      refine ⟨_, rfl, _, rfl, by show 2 ≤ sizeLine; decide, fun t nt => ?_⟩
      obtain ⟨kv1, p1⟩ := f1.pic
      have st := same_new (o := .tup [.ref l, .ref e]) nt
      exact q t l e _ (f1.sm.trans st) upd_same ⟨ds, kv1, st _ _ f1.lst, p1.same st⟩ (st _ _ he)
theorem filter_all (n : Nat) : (List.range n).filter (fun _ => true) = List.range n := List.filter_eq_self.mpr fun _ _ => rfl
/-- dicts copied -/
theorem pics_copy {H H1 H' : Hp} {ds ds2 : List Addr} {kv : Nat → Row} {P : Pic} {n : Nat} (h : Pics H ds kv P) (hn : n = P.n) (hN : News H1 H' ds2 ((List.range n).filter fun _ => true) (fun i => .dK ((kv i).map e2))) : Pics H' ds2 kv P := by
  have hl := hN.len
  rw [filter_all, List.length_range] at hl
  refine ⟨hN.nd, by rw [hl, hn], fun i d hd => ?_⟩
  have hi : i < P.n := by have := lt_of_get hd; omega
  obtain ⟨d0, hd0, r0⟩ := h.get hi
  exact ⟨hN.at_ i d i hd (by rw [filter_all, List.getElem?_range (by omega)]), r0.nd, r0.go⟩
abbrev s_law_hung : Stmt := top 58
abbrev n_law_hung : List Str := ["_law_doors_here", "_law_walks_here", "_law_found", "_law_ends", "_law_steps", "_law_walk_here", "_law_here", "_law_step"]
theorem sc_law_hung : FnScope n_law_hung ["_law_doors_here", "_law_walks_here"] (defScope s_law_hung) := ⟨rfl, rfl, rfl, by decide +kernel, rfl, by decide +kernel, by decide +kernel⟩
def sp_law_hung (K : PySem.W.Frag) : Sp := fun vs H Q _ => ∃ (a c : Addr) (L : Nat) (P : Pic) (ws : List (List Int)), vs = [.ref a, .ref c] ∧ P.Ok L ∧ L ≤ 5 ∧ P.n ≤ 100 ∧ PicAt H a P ∧ TuT K H c ws ∧ WsOk L ws ∧ RHung (hung P ws) H Q
theorem ok_law_hung (B : Bi mg) (F : Df K mg "_law_hung" s_law_hung ["_law_doors_here", "_law_walks_here"]) (h__law_straight : Has P w K mg base 1 "_law_straight" ["_law_walk_here"] (sp_law_straight K)) :
    Has P w K mg base 2 "_law_hung" ["_law_doors_here", "_law_walks_here"] (sp_law_hung K) := by
  refine F.ok sc_law_hung (fun vs H Q E h => ?_) (fun f cdv A outer s H vs Q E hr h => ?_)
  · obtain ⟨a, c, L, P, ws, rfl, _⟩ := h
    rfl
  · obtain ⟨a, c, L, P, ws, rfl, hp, hL, hn, ⟨ds0, kv, hD, hP⟩, hT, hw, q⟩ := h
    obtain ⟨as, hA, hlen, hrow⟩ := hT.ex
    refine ⟨_, (pss_cons (ps_par (i := 2) (j := 3) (by rfl) sc_law_hung.nd rfl rfl (by decide) rfl rfl (pa_cons (pe_lc (own := [("_law_steps", 4)]) rfl sc_law_hung.nd (pi_list (pv 0)) (blkOk_by (N := n_law_hung) (sc := defScope s_law_hung) (by decide +kernel)) (fun _ _ _ _ _ => (pg_name (i := 4) sc_law_hung.nd rfl (Or.inl rfl))) (fun _ _ _ _ _ => pts_nil) (fun _ _ _ _ _ => (pe_callTy call_dictD (by rfl) B.dict (by decide +kernel) (pa_cons (pv 4) pa_nil)))) (pa_cons (pe_lst pa_nil) pa_nil)) (by rfl))
      (pss_cons (ps_for PassesOwn.never rfl (pi_tup (pv 1)) (pg_name (i := 5) sc_law_hung.nd rfl (Or.inl rfl))
        (pss_cons (ps_set (i := 6) sc_law_hung.nd rfl (Or.inl rfl) pe_int)
        (pss_cons (ps_for PassesOwn.never rfl (pi_tup (pe_has h__law_straight (hr.mono (by omega)) (pa_cons (pv 5) pa_nil))) (pg_name (i := 7) sc_law_hung.nd rfl (Or.inl rfl))
          (pss_cons (ps_set (i := 4) sc_law_hung.nd rfl (Or.inl rfl) (pe_ix (kIxL K) (pv 2) (pv 6) (fun _ _ => rfl)))
          (pss_cons (ps_if (pt_cmp (pc_dnotin (hu_of hr) (pv 7) (pv 4)))
            (pss_cons (ps_dput (hu_of hr) (pv 4) (pv 7) (pe_callB (kLen K) (by rfl) B.len PySem.boot_len (pa_cons (pv 2) pa_nil)) rfl)
            (pss_one (ps_expr (k_bm K PySem.F.plainAttrs_list PySem.F.slot_list_append PySem.F.type_list_append mt_append (pv 2) (pa_cons (pe_disp (pps_cons (pe_un un_neg (pv 7)) (pv 6) pps_nil) (by rfl) (by rfl) (fun z => by cases z) (by decide)) pa_nil)))))
            pss_nil)
          (pss_one (ps_set (i := 6) sc_law_hung.nd rfl (Or.inl rfl) (pe_dget (hu_of hr) (pv 4) (pv 7) (fun _ _ => rfl)))))))
        (pss_one (ps_expr (k_bm K PySem.F.plainAttrs_list PySem.F.slot_list_append PySem.F.type_list_append mt_append (pv 3) (pa_cons (pv 6) pa_nil)))))))
      (pss_one (ps_ret (pe_tup (pa_cons (pv 2) (pa_cons (pv 3) pa_nil))))))), ?_⟩
    refine ⟨_, rfl, a, rfl, ⟨_, SqL.of hD⟩, lcn walk_list (fun _ => true) (fun i => .dK ((kv i).map e2)) (by rw [List.length_map, hP.len]; omega) (fun H' s' => SqL.of (s' _ _ hD)) YAt.same (fun i x H1 H2 hi s1 s2 y => ?_) (fun l ds H1 nl s1 hl hN hD => ?_)⟩
    · obtain ⟨d, hd, rfl⟩ := of_refs_get y.2
      refine ⟨_, fun Qg h => h, rfl, evt_yes, fun _ H3 s3 Q3 q3 => ?_⟩
      have r3 := (hP.row i d hd).same (s2.trans s3)
      exact ⟨_, rfl, d, _, rfl, .inl r3.at_, fun p np => q3 p _ (same_new np) np upd_same⟩
    have hP1 := pics_copy hP (by rw [List.length_map, hP.len]) hN
    refine ⟨Nat.zero_le _, fun e ne => ?_⟩
    have se := same_new (o := .lst []) ne
    have ne0 := s1.free ne
    have hle : l ≠ e := ne_of_none hl ne
    refine ⟨_, _, rfl, ?_⟩
    have f0 : Fill H (upd H1 e (.lst [])) l ds P := ⟨s1.trans se, se _ _ hl, hN.new, kv, hP1.same se⟩
    refine ⟨_, rfl, c, rfl, ⟨_, f0.sm.tup hA⟩, for_tup (xs := as.map V.ref) (fun k σ H' => ∃ y4 y5 y6 y7 ds, σ = [some (.ref a), some (.ref c), some (.ref l), some (.ref e), y4, y5, y6, y7] ∧ Fill H H' l ds (hTo P ws k).1 ∧ H' e = some (.lst (vn (hTo P ws k).2))) ⟨none, none, none, none, ds, rfl, f0, upd_same⟩ (fun i σ H' _ ⟨_, _, _, _, _, _, f, _⟩ => f.sm.tup hA) (fun k x σ H' hx ⟨y4, y5, y6, y7, ds, er, f1, he⟩ => ?_) (fun σ H' ⟨y4, y5, y6, y7, ds, er, f1, he⟩ => ?_)⟩
    · subst er
      obtain ⟨d, wk, rfl, hb, hns, hd⟩ := tu_get hlen (fun j b ns p r => f1.sm.tup (hrow j b ns p r)) hx
      obtain ⟨g1, g2⟩ := hw.get hns
      obtain ⟨o1, o2, o3⟩ := hTo_ok hp hw k
      have hso : ∀ s ∈ straight wk, stepOk L s := fun s m => g1 s (mem_straight m)
      have hsl := length_straight wk
      refine ⟨_, rfl, d, wk, rfl, hd, by omega, fun t H2 s2 nt ht => ?_⟩
      have f2 := f1.grow s2
      have he2 := s2 _ _ he
      refine ⟨t, rfl, ⟨_, SqT.of ht⟩, for_tup (xs := vi (straight wk)) (fun j σ H' => ∃ y4 y7 ds, σ = [some (.ref a), some (.ref c), some (.ref l), some (.ref e), y4, some (.ref d), some (.int ((hAt (hTo P ws k).1 (straight wk) j).2 : Int)), y7] ∧ Fill H H' l ds (hAt (hTo P ws k).1 (straight wk) j).1 ∧ H' e = some (.lst (vn (hTo P ws k).2)) ∧ SqT K H' t (vi (straight wk))) ⟨y4, y7, ds, rfl, f2, he2, SqT.of ht⟩ (fun i σ H' _ ⟨_, _, _, _, _, _, f⟩ => f) (fun j x σ H' hx ⟨y4, y7, ds, er, f3, he3, ht3⟩ => ?_) (fun σ H' ⟨y4, y7, ds, er, f3, he3, ht3⟩ => ?_)⟩
      · subst er
        obtain ⟨st, hst, rfl⟩ := of_vi_get hx
        obtain ⟨hok, hnn⟩ := hAt_ok o1 hso j
        rw [hAt_step hst]
        generalize hAt (hTo P ws k).1 (straight wk) j = y at f3 hok hnn ⊢
        obtain ⟨Y, r⟩ := y
        have hrY : r < Y.n := hok.here
        have hYo : Y.Ok L := hok.ok
        have hYn : Y.n ≤ 3000 := by have : Y.n ≤ _ := hnn; omega
        obtain ⟨d1, hd1, hr1⟩ := f3.at_ hrY
        obtain ⟨kv3, p3⟩ := f3.pic
        have rw1 := p3.row r d1 hd1
        have hg1 := rw1.get st
        refine ⟨_, rfl, _, rfl, l, _, _, _, rfl, rfl, SqL.of f3.lst, atI_nat hr1, ?_⟩
        refine ⟨_, rfl, _, rfl, d1, _, rfl, hg1, ?_⟩
        unfold hStep
        cases hg : Y.go r st with
        | some g =>
          rw [hg] at hg1
          refine ⟨_, rfl, iteF ?_⟩
          exact ⟨_, rfl, _, rfl, d1, _, rfl, hg1, _, _, _, rfl, f3, he3, ht3⟩
        | none =>
          obtain ⟨k0, o, hk0, pd, f4, fin⟩ := f3.add nl hYo (by omega) hrY hd1 hg
          have hdl : d1 ≠ l := ne_of hk0 f3.lst (by intro z; cases z)
          have hde : d1 ≠ e := ne_of hk0 he3 (by intro z; cases z)
          refine ⟨_, rfl, iteT ?_⟩
          refine ⟨_, rfl, l, _, rfl, .inl (SqL.of f3.lst), ?_⟩
          rw [List.length_map, p3.len]
          refine ⟨_, rfl, _, rfl, d1, _, rfl, pd, ?_⟩
          refine ⟨_, rfl, .inl ⟨rfl, _, SqL.of f4.lst⟩, ?_⟩
          intro m nm
          have f5 := fin m nm
          have hml : l ≠ m := ne_of_none f4.lst nm
          refine ⟨_, rfl, _, rfl, _, rfl, upd_same, [((Sum.inl (-st) : Key), V.int (r : Int))], rfl, (by show 1 ≤ 15; decide), ?_⟩
          refine ⟨l, _, _, rfl, rfl, by rw [upd_ne hml, upd_ne hml]; exact f4.lst, by rw [List.length_map, p3.len]; exact smallL (by omega), ?_⟩
          have he5 : (upd (upd (upd (upd H' d1 (.dK o)) m (.dK [])) m (.dK [(Sum.inl (-st), V.int (r : Int))])) l (.lst (ds.map V.ref ++ [.ref m]))) e = some (.lst (vn (hTo P ws k).2)) := by
            have : e ≠ m := by
              rintro rfl
              rw [upd_ne hde.symm, he3] at nm
              cases nm
            rw [upd_ne hle.symm, upd_ne this, upd_ne this, upd_ne hde.symm]
            exact he3
          have ht5 : SqT K (upd (upd (upd (upd H' d1 (.dK o)) m (.dK [])) m (.dK [(Sum.inl (-st), V.int (r : Int))])) l (.lst (ds.map V.ref ++ [.ref m]))) t (vi (straight wk)) :=
            sqt_lst (sqt_dK ((same_new nm).tup (sqt_dK ht3 hk0)) upd_same) (by rw [upd_ne hml, upd_ne hml]; exact f4.lst)
          generalize hH5 : (upd (upd (upd (upd H' d1 (.dK o)) m (.dK [])) m (.dK [(Sum.inl (-st), V.int (r : Int))])) l (.lst (ds.map V.ref ++ [.ref m]))) = H5 at f5 he5 ht5
          obtain ⟨kv5, p5⟩ := f5.pic
          have hg5 := (p5.row r d1 (by rw [List.getElem?_append_left (lt_of_get hd1)]; exact hd1)).get st
          rw [add_new hrY] at hg5
          have stp : mergeK [] [((Sum.inl (-st) : Key), V.int (r : Int))] = [(Sum.inl (-st), V.int (r : Int))] := rfl
          rw [stp, hH5]
          exact ⟨_, rfl, _, rfl, d1, _, rfl, hg5, _, _, _, rfl, f5, he5, ht5⟩
      · subst er
        rw [List.length_map, hAt_full] at f3
        rw [List.length_map, hAt_full]
        have hel : e ≠ l := hle.symm
        refine ⟨_, rfl, .inl ⟨rfl, _, SqL.of he3⟩, _, rfl, e, _, _, rfl, rfl, he3, by rw [List.length_map]; exact smallL (by omega), ?_⟩
        refine ⟨_, _, _, _, ds, rfl, ?_, ?_⟩
        · rw [hTo_step hns]
          obtain ⟨kv3, p3⟩ := f3.pic
          refine ⟨f3.sm.mut ne0, by rw [upd_ne hle]; exact f3.lst, f3.new, kv3, p3.nd, p3.len, fun i d hd => ?_⟩
          have r3 := p3.row i d hd
          exact r3.of (upd_ne (ne_of r3.at_ he3 (by intro z; cases z)))
        · rw [hTo_step hns, upd_same]
          show _ = some (HO.lst (vn (_ ++ [_])))
          rw [vn, vn, List.map_append]
          rfl
    · subst er
      rw [List.length_map, hlen, hTo_full] at f1 he
      refine ⟨_, rfl, _, rfl, by show 2 ≤ sizeLine; decide, fun t nt => ?_⟩
      obtain ⟨kv1, p1⟩ := f1.pic
      have st := same_new (o := .tup [.ref l, .ref e]) nt
      exact q t l e _ (f1.sm.trans st) upd_same ⟨ds, kv1, st _ _ f1.lst, p1.same st⟩ (st _ _ he)
end
end Wk
set_option Elab.async false
set_option linter.all false
set_option maxRecDepth 100000
set_option maxHeartbeats 4000000
namespace Wk
open PySem L2 Wc
section
variable {P : Program} {w : World} {K : PySem.W.Frag} {mg : Str → Option Value} {base : Heap}
/-! ### completed -/
def RBook (K : PySem.W.Frag) (L : Nat) (ts : List (List Nat)) (H : Hp) (Q : VK) : Prop := ∀ t H', Same H H' → BookAt K H' t L ts → Q (.ref t) H'
theorem filter_congr2 {f g : Nat → Bool} {n : Nat} (h : ∀ i, i < n → f i = g i) : (List.range n).filter f = (List.range n).filter g :=
  List.filter_congr fun i hi => h i (List.mem_range.mp hi)
theorem given_free (Q : Pic) (s : Int) : Evl.given Q.n (fun i => !(Q.go i (-s)).isSome) (fun i : Nat => V.int (i : Int)) = vn (freeL Q s) := by
  unfold Evl.given freeL vn
  congr 1
  refine filter_congr2 fun i _ => ?_
  cases Q.go i (-s) <;> rfl
abbrev s_completed : Stmt := top 34
abbrev n_completed : List Str := ["letters", "doors", "turns", "letter", "free", "room", "steps", "turn", "used"]
theorem sc_completed : FnScope n_completed ["letters", "doors"] (defScope s_completed) := ⟨rfl, rfl, rfl, by decide +kernel, rfl, by decide +kernel, by decide +kernel⟩
def sp_completed (K : PySem.W.Frag) : Sp := fun vs H Q _ => ∃ (L : Nat) (a : Addr) (P : Pic), vs = [.int (L : Int), .ref a] ∧ P.Ok L ∧ L ≤ 5 ∧ P.n ≤ 5000 ∧ PicAt H a P ∧ RBook K L (turnsOf L P) H Q
theorem ok_completed (B : Bi mg) (F : Df K mg "completed" s_completed ["letters", "doors"]) : Has P w K mg base 1 "completed" ["letters", "doors"] (sp_completed K) := by
  refine F.ok sc_completed (fun vs H Q E h => ?_) (fun f cdv A outer s H vs Q E hr h => ?_)
  · obtain ⟨L, a, P, rfl, _⟩ := h
    rfl
  · obtain ⟨L, a, P, rfl, hp, hL, hn, ⟨ds, kv, hA, hP⟩, q⟩ := h
    have hdl : ds.length = P.n := hP.len
    refine ⟨_, (pss_cons (ps_set (i := 2) sc_completed.nd rfl (Or.inl rfl) (pe_lst pa_nil))
      (pss_cons (ps_for PassesOwn.never rfl (pi_range2 rfl B.range (pa_cons pe_int (pa_cons (pe_op op_add (pv 0) pe_int) pa_nil))) (pg_name (i := 3) sc_completed.nd rfl (Or.inr rfl))
        (pss_cons (ps_setLc (i := 4) (own := [("room", 5), ("steps", 6)]) rfl sc_completed.nd rfl rfl (sw_true rfl rfl rfl (by decide +kernel)) (pi_enum (by rfl) B.enumerate (pa_cons (pv 1) pa_nil)) (blkOk_by (N := n_completed) (sc := defScope s_completed) (by decide +kernel)) (fun _ _ _ _ _ => (k_tup K (n := 2) rfl (pgs_cons (pg_name (i := 5) sc_completed.nd rfl (Or.inl rfl)) (pgs_cons (pg_name (i := 6) sc_completed.nd rfl (Or.inl rfl)) pgs_nil)))) (fun _ _ _ _ _ => (pts_one (pt_cmp (pc_dnotin (hu_of hr) (pe_un un_neg (pv 3)) (pv 6))))) (fun _ _ _ _ _ => (pv 5)))
        (pss_cons (ps_par (i := 7) (j := 8) (by rfl) sc_completed.nd rfl rfl (by decide) rfl rfl (pa_cons (pe_lst pa_nil) (pa_cons pe_int pa_nil)) (by rfl))
        (pss_cons (ps_for PassesOwn.never rfl (pi_list (pv 1)) (pg_name (i := 6) sc_completed.nd rfl (Or.inl rfl))
          (pss_one (ps_if (pt_cmp (pc_din (hu_of hr) (pv 3) (pv 6)))
            (pss_one (ps_expr (k_bm K PySem.F.plainAttrs_list PySem.F.slot_list_append PySem.F.type_list_append mt_append (pv 7) (pa_cons (pe_dget (hu_of hr) (pv 6) (pv 3) (fun _ _ => rfl)) pa_nil))))
            (pss_cons (ps_expr (k_bm K PySem.F.plainAttrs_list PySem.F.slot_list_append PySem.F.type_list_append mt_append (pv 7) (pa_cons (pe_ix (kIxL K) (pv 4) (pv 8) (fun _ _ => rfl)) pa_nil)))
            (pss_one (ps_aug (i := 8) sc_completed.nd rfl (Or.inl rfl) pe_int ip_add))))))
        (pss_one (ps_expr (k_bm K PySem.F.plainAttrs_list PySem.F.slot_list_append PySem.F.type_list_append mt_append (pv 2) (pa_cons (pe_callTy (kTup K) (by rfl) B.tuple (by decide +kernel) (pa_cons (pv 7) pa_nil)) pa_nil))))))))
      (pss_one (ps_ret (pe_tup (pa_cons (pv 0) (pa_cons (pe_callTy (kTup K) (by rfl) B.tuple (by decide +kernel) (pa_cons (pv 2) pa_nil)) pa_nil))))))), ?_⟩
    refine ⟨Nat.zero_le _, fun l nl => ?_⟩
    have s1 := same_new (o := .lst []) nl
    refine ⟨_, rfl, _, _, rfl, rfl, _, _, rfl, ⟨by omega, by omega, by omega, by omega⟩, for_range (lo := 1) (n := ((L : Int) + 1 - 1).toNat) (fun i σ H' => ∃ y3 y4 y5 y6 y7 y8 as, σ = [some (.int (L : Int)), some (.ref a), some (.ref l), y3, y4, y5, y6, y7, y8] ∧ Same H H' ∧ H' l = some (.lst ((as : List Addr).map V.ref)) ∧ as.length = i ∧ ∀ j b, as[j]? = some b → TI K H' b (tn ((turnsOf L P).getD j []))) ⟨none, none, none, none, none, none, [], rfl, s1, upd_same, rfl, fun j b h => by simp at h⟩ (fun i σ H' hi ⟨y3, y4, y5, y6, y7, y8, as, e, sm, hl, hal, hat⟩ => ?_) (fun σ H' ⟨y3, y4, y5, y6, y7, y8, as, e, sm, hl, hal, hat⟩ => ?_)⟩
    · subst e
      have hiL : i < L := by omega
      generalize hs : (1 : Int) + (i : Int) = s
      have hs' : s = (i : Int) + 1 := by omega
      refine ⟨_, rfl, a, _, rfl, SqL.of (sm _ _ hA), lcg walk_enum (fun j => !(P.go j (-s)).isSome) (fun j : Nat => V.int (j : Int)) (by rw [List.length_map]; omega) (fun H2 s2 => SqL.of (s2 _ _ (sm _ _ hA))) YPair.same (fun j x H2 H3 hj s2 s3 y => ?_) (fun fr H2 nf s2 hf => ?_)⟩
      · rw [List.length_map, hdl] at hj
        obtain ⟨T, x1, x2, rfl, nT, rfl, e1, e3⟩ := y
        cases e1
        obtain ⟨d, hd, rfl⟩ := of_refs_get e3
        refine ⟨_, fun Qg h => ⟨T, _, rfl, SqT.of upd_same, rfl, _, _, rfl, _, _, rfl, rfl, h⟩, rfl, fun H4 s4 Q4 q4 => ?_, fun _ H4 s4 Q4 q4 => ?_⟩
        · have r4 := (hP.row j d hd).same (sm.trans (s3.trans s4))
          have g4 := r4.get (-s)
          refine ⟨_, rfl, _, rfl, _, rfl, d, _, rfl, g4, ?_⟩
          refine ⟨_, rfl, ?_⟩
          have e5 : (!((P.go j (-s)).map fun g : Nat => V.int (g : Int)).isSome) = !(P.go j (-s)).isSome := by cases P.go j (-s) <;> rfl
          rw [e5]
          exact q4 H4 (Evl.Ex.refl H4)
        · exact ⟨_, rfl, q4 H4 (Evl.Ex.refl H4)⟩
      · rw [List.length_map, hdl, given_free] at hf
        have sm2 := sm.trans s2
        have hl2 := s2 _ _ hl
        have hlf : l ≠ fr := by
          rintro rfl
          rw [hl] at nf
          cases nf
        refine ⟨Nat.zero_le _, fun t nt => ?_⟩
        have st := same_new (o := .lst []) nt
        have ntH := sm2.free nt
        have hlt : l ≠ t := ne_of_none hl2 nt
        have hft : fr ≠ t := ne_of_none hf nt
        refine ⟨_, _, rfl, ?_⟩
        refine ⟨_, rfl, a, rfl, ⟨_, SqL.of ((sm2.trans st) _ _ hA)⟩, for_list (xs := ds.map V.ref) (fun j σ H' => ∃ y5 y6, σ = [some (.int (L : Int)), some (.ref a), some (.ref l), some (.int s), some (.ref fr), y5, y6, some (.ref t), some (.int (cnt P s j : Int))] ∧ Same H2 H' ∧ H' t = some (.lst (vn ((List.range j).map (turnAt P s))))) ⟨y5, y6, rfl, st, upd_same⟩ (fun j σ H' _ ⟨_, _, _, e, _⟩ => SqL.of ((sm2.trans e) _ _ hA)) (fun j x σ H' hx ⟨y5, y6, e, s3, ht⟩ => ?_) (fun σ H' ⟨y5, y6, e, s3, ht⟩ => ?_)⟩
        · subst e
          obtain ⟨d, hd, rfl⟩ := of_refs_get hx
          have hj : j < P.n := by have := lt_of_get hd; omega
          have r3 := (hP.row j d hd).same (sm2.trans s3)
          have g3 := r3.get s
          have hrg : (List.range (j + 1)).map (turnAt P s) = (List.range j).map (turnAt P s) ++ [turnAt P s j] := by rw [List.range_succ, List.map_append]; rfl
          have hcs := cnt_succ P s j
          have htl : (vn ((List.range j).map (turnAt P s))).length < sizeLine := by rw [List.length_map, List.length_map, List.length_range]; exact smallL (by omega)
          refine ⟨_, rfl, _, rfl, d, _, rfl, g3, ?_⟩
          cases hg : P.go j s with
          | some g =>
            rw [hg] at g3 hcs
            refine ⟨_, rfl, iteT ?_⟩
            refine ⟨_, rfl, .inl ⟨rfl, _, SqL.of ht⟩, _, rfl, _, rfl, d, _, rfl, g3, t, _, _, rfl, rfl, ht, htl, ?_⟩
            have e6 : cnt P s (j + 1) = cnt P s j := hcs
            refine ⟨_, _, by rw [e6]; rfl, s3.mut nt, ?_⟩
            rw [upd_same, hrg, turnAt_some hg, vn, vn, List.map_append]
            rfl
          | none =>
            rw [hg] at g3 hcs
            refine ⟨_, rfl, iteF ?_⟩
            have hc := cnt_lt hp hj hg
            have hfg : (freeL P s)[cnt P s j]? = some (turnAt P s j) := by
              rw [turnAt_none hg, getD_lt hc, List.getElem?_eq_getElem hc]
            refine ⟨_, rfl, .inl ⟨rfl, _, SqL.of ht⟩, _, rfl, _, rfl, fr, _, _, _, rfl, rfl, SqL.of (s3 _ _ hf), atI_nat (vn_get hfg), t, _, _, rfl, rfl, ht, htl, ?_⟩
            have e6 : cnt P s (j + 1) = cnt P s j + 1 := hcs
            refine ⟨_, rfl, _, _, rfl, rfl, ?_⟩
            refine ⟨_, _, by rw [e6]; rfl, s3.mut nt, ?_⟩
            rw [upd_same, hrg, vn, vn, List.map_append]
            rfl
        · subst e
          rw [List.length_map, hdl] at ht
          have ht : H' t = some (.lst (vn (turnOf P s))) := ht
          have hl3 := s3 _ _ hl2
          refine ⟨_, rfl, .inl ⟨rfl, _, SqL.of hl3⟩, _, rfl, t, _, rfl, .inl ⟨SqL.of ht, fun u nu => ?_⟩⟩
          have su := same_new (o := .tup (vn (turnOf P s))) nu
          have s23 := s3.trans su
          have hlu : l ≠ u := ne_of_none hl3 nu
          refine ⟨l, _, _, rfl, rfl, su _ _ hl3, by rw [List.length_map, hal]; exact smallL (by omega), ?_⟩
          refine ⟨_, _, _, _, _, _, as ++ [u], rfl, (sm2.trans s23).mut nl, by rw [upd_same, List.map_append]; rfl, by rw [List.length_append, hal]; rfl, fun j b hb => ?_⟩
          by_cases c : j < as.length
          · rw [List.getElem?_append_left c] at hb
            exact sqt_lst (Same.tup (s2.trans s23) (hat j b hb)) (su _ _ hl3)
          · rw [List.getElem?_append_right (by omega)] at hb
            have c0 : j - as.length = 0 := by
              rcases Nat.eq_zero_or_pos (j - as.length) with z | z
              · exact z
              · rw [List.getElem?_eq_none (by rw [List.length_singleton]; omega)] at hb
                cases hb
            rw [c0] at hb
            cases hb
            have hj : j = i := by omega
            subst hj
            rw [turnsOf_get hiL, ← hs']
            refine sqt_lst ?_ (su _ _ hl3)
            rw [tn_vn]
            exact SqT.of upd_same
    · subst e
      have eL : ((L : Int) + 1 - 1).toNat = L := by omega
      rw [eL] at hal
      refine ⟨_, rfl, _, rfl, l, _, rfl, .inl ⟨SqL.of hl, fun u nu => ?_⟩⟩
      have su := same_new (o := .tup (as.map V.ref)) nu
      refine ⟨by show 2 ≤ sizeLine; decide, fun v nv => ?_⟩
      have sv := same_new (o := .tup [.int (L : Int), .ref u]) nv
      have s5 := su.trans sv
      refine q v _ (sm.trans s5) ⟨u, SqT.of upd_same, as, sv.tup (SqT.of upd_same), ?_, fun j b ns h1 h2 => ?_⟩
      · rw [List.length_map, hal, (turnsOf_book hp).len]
      · rw [List.getElem?_map] at h2
        have hj : j < L := by have := lt_of_get h1; omega
        rw [ts_get (turnsOf_book hp) hj] at h2
        cases h2
        exact s5.tup (hat j b h1)
end
end Wk
set_option Elab.async false
set_option linter.all false
set_option maxRecDepth 100000
set_option maxHeartbeats 4000000
namespace Wk
open PySem L2 Wc
/-! ### does a parting fit -/
def kP (ps : List Nat) (r : Nat) (s : Int) : List Key := [Sum.inl ((ps.getD r 0 : Nat) : Int), Sum.inl s]
structure LedAt (Q : Pic) (ps : List Nat) (kvs : List (List Key × V)) (D : Nat → Int → Nat → Prop) : Prop where
  from_ : ∀ k v, valV kvs k = some v → ∃ r s g, r < ps.length ∧ g < ps.length ∧ Q.go r s = some g ∧ k = kP ps r s ∧ v = .int ((ps.getD g 0 : Nat) : Int)
  has : ∀ r s g, D r s g → g < ps.length → valV kvs (kP ps r s) = some (.int ((ps.getD g 0 : Nat) : Int))
theorem kP_inj {ps : List Nat} {r r' : Nat} {s s' : Int} (h : kP ps r s = kP ps r' s') : ps.getD r 0 = ps.getD r' 0 ∧ s = s' := by
  unfold kP at h
  obtain ⟨h1, h2⟩ := List.cons.inj h
  obtain ⟨h2, _⟩ := List.cons.inj h2
  have := Sum.inl.inj h1
  exact ⟨by omega, Sum.inl.inj h2⟩
section
variable {Q : Pic} {ps : List Nat} {kvs : List (List Key × V)} {D D' : Nat → Int → Nat → Prop} {i g : Nat} {s : Int}
theorem LedAt.start : LedAt Q ps [] (fun _ _ _ => False) := ⟨fun k v h => (nomatch (h : (none : Option V) = some v)), fun _ _ _ h => h.elim⟩
theorem LedAt.less (h : LedAt Q ps kvs D) (hd : ∀ r t x, D' r t x → x < ps.length → D r t x) : LedAt Q ps kvs D' := ⟨h.from_, fun r t x a b => h.has r t x (hd r t x a b) b⟩
theorem LedAt.seen (h : LedAt Q ps kvs D) (hd : ∀ r t x, D' r t x → x < ps.length → D r t x ∨ (r = i ∧ t = s ∧ x = g)) (hv : valV kvs (kP ps i s) = some (.int ((ps.getD g 0 : Nat) : Int))) : LedAt Q ps kvs D' :=
  ⟨h.from_, fun r t x a b => by
    rcases hd r t x a b with z | ⟨rfl, rfl, rfl⟩
    · exact h.has r t x z b
    · exact hv⟩
theorem LedAt.put (h : LedAt Q ps kvs D) (hd : ∀ r t x, D' r t x → x < ps.length → D r t x ∨ (r = i ∧ t = s ∧ x = g)) (hi : i < ps.length) (hgl : g < ps.length) (hg : Q.go i s = some g) (hv : valV kvs (kP ps i s) = none) :
    LedAt Q ps (putK kvs (kP ps i s) (.int ((ps.getD g 0 : Nat) : Int))) D' := by
  refine ⟨fun k v e => ?_, fun r t x a b => ?_⟩
  · rw [valV_put] at e
    by_cases c : k = kP ps i s
    · rw [if_pos c] at e
      exact ⟨i, s, g, hi, hgl, hg, c, (Option.some.inj e).symm⟩
    · rw [if_neg c] at e
      exact h.from_ k v e
  · rw [valV_put]
    rcases hd r t x a b with z | ⟨rfl, rfl, rfl⟩
    · have := h.has r t x z b
      have c : ¬ kP ps r t = kP ps i s := by
        intro c
        rw [c, hv] at this
        cases this
      rw [if_neg c]
      exact this
    · rw [if_pos rfl]
theorem LedAt.clash (h : LedAt Q ps kvs D) (hi : i < ps.length) (hgl : g < ps.length) (hg : Q.go i s = some g) {v : V} (hv : valV kvs (kP ps i s) = some v) (hne : v ≠ .int ((ps.getD g 0 : Nat) : Int)) : ¬ Fits Q ps := fun hf => by
  obtain ⟨r, t, x, a, b, c, d, e⟩ := h.from_ _ _ hv
  obtain ⟨d1, rfl⟩ := kP_inj d
  have := hf i r s g x hi a hgl b hg c d1
  rw [← this] at e
  exact hne e
theorem LedAt.fits (h : LedAt Q ps kvs D) (hd : ∀ r t x, r < ps.length → Q.go r t = some x → D r t x) : Fits Q ps := fun r r' t g g' a b c d e f z => by
  have h1 := h.has r t g (hd r t g a e) c
  have h2 := h.has r' t g' (hd r' t g' b f) d
  have : kP ps r t = kP ps r' t := by unfold kP; rw [z]
  rw [this, h2] at h1
  have := V.int.inj (Option.some.inj h1)
  omega
end
/-- what is gone through -/
def dn (Q : Pic) (kv : Nat → Row) (i j : Nat) : Nat → Int → Nat → Prop := fun r s g => Q.go r s = some g ∧ (r < i ∨ (r = i ∧ (s, g) ∈ (kv i).take j))
theorem _root_.L2.Same.lst {K : PySem.W.Frag} {H H' : Hp} {a : Addr} {xs : List V} (e : Same H H') (h : SqL K H a xs) : SqL K H' a xs := by
  rcases h with (h | ⟨o, h⟩) | h
  · exact .inl (.inl (e _ _ h))
  · exact .inl (.inr ⟨o, e _ _ h⟩)
  · exact .inr h
theorem sql_dK {K : PySem.W.Frag} {H : Hp} {b m : Addr} {xs : List V} {o : HO} {kvs : List (Key × V)} (h : SqL K H b xs) (hm : H m = some (.dK kvs)) : SqL K (upd H m o) b xs := by
  rcases h with (h | ⟨ob, h⟩) | h
  · exact .inl (.inl (by rw [upd_ne (ne_of h hm (by intro z; cases z))]; exact h))
  · exact .inl (.inr ⟨ob, by rw [upd_ne (ne_of h hm (by intro z; cases z))]; exact h⟩)
  · exact .inr h
theorem same_unlock {H0 H' : Hp} {d : Addr} {u z : HO} (h : H0 d = some u) (e : Same (upd H0 d z) H') : Same H0 (upd H' d u) := fun a o ha => by
  by_cases c : a = d
  · subst c
    rw [h] at ha
    cases ha
    exact upd_same
  · rw [upd_ne c]
    exact e a o (by rw [upd_ne c]; exact ha)
theorem same_lock {H0 H' : Hp} {d : Addr} {z : HO} (e : Same H0 H') : Same (upd H0 d z) (upd H' d z) := fun a o ha => by
  by_cases c : a = d
  · subst c
    rw [upd_same] at ha ⊢
    exact ha
  · rw [upd_ne c] at ha ⊢
    exact e a o ha
section
variable {P : Program} {w : World} {K : PySem.W.Frag} {mg : Str → Option Value} {base : Heap}
abbrev s_fits : Stmt := top 35
abbrev n_fits : List Str := ["doors", "parts", "led", "room", "part", "step", "goal"]
theorem sc_fits : FnScope n_fits ["doors", "parts"] (defScope s_fits) := ⟨rfl, rfl, rfl, by decide +kernel, rfl, by decide +kernel, by decide +kernel⟩
def sp_fits (K : PySem.W.Frag) : Sp := fun vs H Q _ => ∃ (a q : Addr) (L : Nat) (P : Pic) (ps : List Nat), vs = [.ref a, .ref q] ∧ P.Ok L ∧ L ≤ 5 ∧ P.n ≤ 5000 ∧ PicAt H a P ∧ SqL K H q (vn ps) ∧ ps.length ≤ P.n ∧ ∀ b, (b = true ↔ Fits P ps) → RV (.bl b) H Q
theorem ok_fits (B : Bi mg) (F : Df K mg "fits" s_fits ["doors", "parts"]) : Has P w K mg base 1 "fits" ["doors", "parts"] (sp_fits K) := by
  refine F.ok sc_fits (fun vs H Q E h => ?_) (fun f cdv A outer s H vs Q E hr h => ?_)
  · obtain ⟨a, q, L, P, ps, rfl, _⟩ := h
    rfl
  · obtain ⟨a, q, L, P, ps, rfl, hp, hL, hn, ⟨ds, kv, hA, hP⟩, hq, hps, fin⟩ := h
    refine ⟨_, (pss_cons (ps_set (i := 2) sc_fits.nd rfl (Or.inl rfl) pe_dnewT)
      (pss_cons (ps_for PassesOwn.never rfl (pi_enum (by rfl) B.enumerate (pa_cons (pv 1) pa_nil)) (k_tup K (n := 2) rfl (pgs_cons (pg_name (i := 3) sc_fits.nd rfl (Or.inl rfl)) (pgs_cons (pg_name (i := 4) sc_fits.nd rfl (Or.inl rfl)) pgs_nil)))
        (pss_one (ps_lock (ps_for PassesOwn.never rfl (pi_items (pe_ix (kIxL K) (pv 0) (pv 3) (fun _ _ => rfl))) (k_tup K (n := 2) rfl (pgs_cons (pg_name (i := 5) sc_fits.nd rfl (Or.inl rfl)) (pgs_cons (pg_name (i := 6) sc_fits.nd rfl (Or.inl rfl)) pgs_nil)))
          (pss_one (ps_if (PW.pt (pw_and (pt_cmpR op_lt (pv 6) (pe_callB (kLen K) (by rfl) B.len PySem.boot_len (pa_cons (pv 1) pa_nil)) (nomark _)) (pw_and1 (pt_cmpR op_ne (pe_dsetdT (hu_of hr) (pv 2) (pe_tup (pa_cons (pv 4) (pa_cons (pv 5) pa_nil))) (pe_ix (kIxL K) (pv 1) (pv 6) (fun _ _ => rfl)) ⟨by rfl, by rfl, by rfl, by rfl⟩) (pe_ix (kIxL K) (pv 1) (pv 6) (fun _ _ => rfl)) (nomark _)))))
            (pss_one (ps_ret pe_bl))
            pss_nil))))))
      (pss_one (ps_ret pe_bl)))), ?_⟩
    intro m nm
    have s1 := same_new (o := .dT []) nm
    have ham : a ≠ m := ne_of_none hA nm
    refine ⟨_, rfl, q, _, rfl, s1.lst hq, for_it walk_enum (fun i σ H' => ∃ y3 y4 y5 y6 kvs, σ = [some (.ref a), some (.ref q), some (.ref m), y3, y4, y5, y6] ∧ Same H H' ∧ H' m = some (.dT kvs) ∧ LedAt P ps kvs (dn P kv i 0) ∧ kvs.length ≤ 10 * i) ⟨none, none, none, none, [], rfl, s1, upd_same, LedAt.start.less fun r t x h _ => ?_, Nat.le_refl _⟩ (fun i σ H' _ ⟨_, _, _, _, _, _, sm, _⟩ => sm.lst hq) (fun i x σ H1 H' hi ⟨y3, y4, y5, y6, kvs, e, sm1, hm1, hl, hk⟩ hy => ?_) (fun σ H' ⟨y3, y4, y5, y6, kvs, e, sm, hm, hl, hk⟩ => ?_)⟩
    · obtain ⟨_, z | ⟨_, z⟩⟩ := h
      · exact absurd z (Nat.not_lt_zero r)
      · rw [List.take_zero] at z
        cases z
    · subst e
      rw [List.length_map] at hi
      obtain ⟨T, x1, x2, rfl, nT, rfl, e1, ey⟩ := hy
      cases e1
      obtain ⟨p, hpi, rfl⟩ := of_vn_get ey
      have sT := same_new (o := .tup [.int (i : Nat), .int (p : Int)]) nT
      refine ⟨T, _, rfl, SqT.of upd_same, rfl, _, _, rfl, _, _, rfl, rfl, ?_⟩
      have hm := sT _ _ hm1
      have sm := sm1.trans sT
      generalize upd H1 T (.tup [.int (i : Nat), .int (p : Int)]) = H' at hm sm
      have hin : i < P.n := by omega
      have hpd : ps.getD i 0 = p := by rw [List.getD_eq_getElem?_getD, hpi]; rfl
      obtain ⟨d, hd, rw0⟩ := hP.get hin
      have had : a ≠ d := ne_of hA rw0.at_ (by intro z; cases z)
      have hdm : d ≠ m := ne_of_none rw0.at_ nm
      have hkl : (kv i).length ≤ 10 := by
        have := row_len (L := L) rw0.nd fun s g e => (hp.ok i s g (by rw [← rw0.go]; exact e)).2.2.1
        omega
      refine ⟨d, _, sm _ _ rw0.at_, trivial, fun od => ?_⟩
      -- while the dict is read
      have nm' : ∀ z, upd H d z m = none := fun z => by rw [upd_ne hdm.symm]; exact nm
      have hA' : upd H d (.frz od (.dK ((kv i).map e2))) a = some (.lst (ds.map V.ref)) := by rw [upd_ne had]; exact hA
      have hq' : SqL K (upd H d (.frz od (.dK ((kv i).map e2)))) q (vn ps) := sql_dK hq rw0.at_
      have hd' : upd H d (.frz od (.dK ((kv i).map e2))) d = some (.frz od (.dK ((kv i).map e2))) := upd_same
      have sl := same_lock (d := d) (z := .frz od (.dK ((kv i).map e2))) sm
      refine ⟨_, rfl, _, rfl, a, _, _, _, rfl, rfl, SqL.of (sl _ _ hA'), atI_nat (refs_get hd), ?_⟩
      refine ⟨d, od, _, rfl, upd_same, for_it walk_items (fun j σ H2 => ∃ y5 y6 kvs, σ = [some (.ref a), some (.ref q), some (.ref m), some (.int (i : Int)), some (.int (p : Int)), y5, y6] ∧ Same (upd H d (.frz od (.dK ((kv i).map e2)))) H2 ∧ H2 m = some (.dT kvs) ∧ LedAt P ps kvs (dn P kv i j) ∧ kvs.length ≤ 10 * i + j) ⟨y5, y6, kvs, rfl, sl, by rw [upd_ne hdm.symm]; exact hm, hl, hk⟩ (fun j σ H2 _ ⟨_, _, _, _, s2, _⟩ => s2 _ _ hd') (fun j x σ H2 H3 hj ⟨y5, y6, kvs, e, s2, hm2, hl2, hk2⟩ hy => ?_) (fun σ H2 ⟨y5, y6, kvs, e, s2, hm2, hl2, hk2⟩ => ?_)⟩
      · subst e
        rw [List.length_map] at hj
        obtain ⟨T, x1, x2, rfl, nT, rfl, e1, e3⟩ := hy
        have hkj : (kv i)[j]? = some (kv i)[j] := List.getElem?_eq_getElem hj
        generalize (kv i)[j] = kj at hkj
        obtain ⟨st, g⟩ := kj
        have e1 : (((kv i).map e2)[j]?).map (fun kv => kV kv.1) = some x1 := e1
        have e3 : (((kv i).map e2)[j]?).map Prod.snd = some x2 := e3
        rw [List.getElem?_map, hkj] at e1 e3
        cases e1
        cases e3
        have sT := same_new (o := .tup [.int st, .int (g : Int)]) nT
        have hgo : P.go i st = some g := by rw [← rw0.go]; exact lk_of_mem rw0.nd (List.mem_of_getElem? hkj)
        have hdn : ∀ r t x, dn P kv i (j + 1) r t x → x < ps.length → dn P kv i j r t x ∨ (r = i ∧ t = st ∧ x = g) := fun r t x ⟨a1, a2⟩ _ => by
          rcases a2 with z | ⟨rfl, z⟩
          · exact .inl ⟨a1, .inl z⟩
          · rw [List.take_add_one, hkj] at z
            rcases List.mem_append.mp z with z | z
            · exact .inl ⟨a1, .inr ⟨rfl, z⟩⟩
            · have := List.mem_singleton.mp z
              cases this
              exact .inr ⟨rfl, rfl, rfl⟩
        have s3 := s2.trans sT
        have hm3 := sT _ _ hm2
        refine ⟨T, _, rfl, SqT.of upd_same, rfl, _, _, rfl, _, _, rfl, rfl, ?_⟩
        have lq : ∀ {H4 : Hp}, Same (upd H d (.frz od (.dK ((kv i).map e2)))) H4 → SqL K H4 q (vn ps) := fun s4 => Same.lst s4 hq'
        refine ⟨_, rfl, _, rfl, q, _, rfl, .inl (lq s3), _, _, rfl, rfl, _, rfl, ?_⟩
        rw [List.length_map]
        by_cases c : (g : Int) < (ps.length : Int)
        · rw [decide_eq_true c]
          refine iteT ?_
          have hgl : g < ps.length := by omega
          have hgv : (vn ps)[g]? = some (.int ((ps.getD g 0 : Nat) : Int)) := vn_get (by rw [getD_lt hgl]; exact List.getElem?_eq_getElem hgl)
          refine ⟨_, rfl, m, rfl, .inr ⟨_, .inl hm3⟩, ?_⟩
          refine ⟨_, rfl, _, rfl, by show 2 ≤ sizeLine; decide, fun u nu => ?_⟩
          have su := same_new (o := .tup [.int (p : Int), .int st]) nu
          have s4 := s3.trans su
          have hm4 := su _ _ hm3
          have ek : kP ps i st = [Sum.inl (p : Int), Sum.inl st] := by unfold kP; rw [hpd]
          refine ⟨_, rfl, _, rfl, q, _, _, _, rfl, rfl, lq s4, atI_nat hgv, ?_⟩
          refine ⟨kvs, kP ps i st, u, hm4, rfl, by rw [ek]; exact upd_same, smallL (by omega), fun v hv => ?_, fun hv => ?_⟩
          · refine ⟨_, rfl, _, rfl, q, _, _, _, rfl, rfl, lq s4, atI_nat hgv, ?_⟩
            obtain ⟨r', t', x', _, _, _, _, ev⟩ := hl2.from_ _ _ hv
            subst ev
            refine ⟨rfl, _, rfl, ?_⟩
            by_cases cv : (V.int ((ps.getD x' 0 : Nat) : Int)) = .int ((ps.getD g 0 : Nat) : Int)
            · rw [decide_eq_true cv]
              refine iteF ?_
              rw [cv] at hv
              exact ⟨_, _, kvs, rfl, s4, hm4, hl2.seen hdn hv, by omega⟩
            · rw [decide_eq_false cv]
              refine iteT ?_
              have hnf := hl2.clash hi hgl hgo hv cv
              exact ⟨s4 _ _ hd', fin false ⟨fun z => absurd z Bool.false_ne_true, fun z => absurd z hnf⟩ _ (same_unlock rw0.at_ s4)⟩
          · have hmH : upd H d (.frz od (.dK ((kv i).map e2))) m = none := nm' _
            have s5 := s4.mut (o := .dT (putK kvs (kP ps i st) (.int ((ps.getD g 0 : Nat) : Int)))) hmH
            refine ⟨_, rfl, _, rfl, q, _, _, _, rfl, rfl, lq s5, atI_nat hgv, ?_⟩
            refine ⟨rfl, _, rfl, ?_⟩
            rw [decide_eq_true rfl]
            refine iteF ?_
            refine ⟨_, _, _, rfl, s5, upd_same, hl2.put hdn hi hgl hgo hv, ?_⟩
            have := putK_le (kP ps i st) (.int ((ps.getD g 0 : Nat) : Int)) kvs
            omega
        · rw [decide_eq_false c]
          refine iteF (iteF ?_)
          exact ⟨_, _, kvs, rfl, s3, hm3, hl2.less fun r t x a1 a2 => by
            rcases hdn r t x a1 a2 with z | ⟨_, _, z⟩
            · exact z
            · omega, by omega⟩
      · subst e
        have hn1 := s2 _ _ hd'
        rw [List.length_map] at hl2 hk2
        refine ⟨hn1, _, _, _, _, kvs, rfl, same_unlock rw0.at_ s2, by rw [upd_ne hdm.symm]; exact hm2, hl2.less fun r t x ⟨a1, a2⟩ _ => ⟨a1, ?_⟩, by omega⟩
        rcases a2 with z | ⟨rfl, z⟩
        · by_cases c : r = i
          · subst c
            exact .inr ⟨rfl, by rw [List.take_length]; exact lk_mem (by rw [rw0.go]; exact a1)⟩
          · exact .inl (by omega)
        · rw [List.take_zero] at z
          cases z
    · subst e
      rw [List.length_map] at hl
      refine fin true ⟨fun _ => hl.fits fun r t x hr e => ⟨e, .inl hr⟩, fun _ => rfl⟩ H' sm
abbrev s_law_fits : Stmt := top 59
abbrev n_law_fits : List Str := ["_law_hung_here", "_law_row", "_law_led_here", "_law_room", "_law_place", "_law_step", "_law_goal"]
theorem sc_law_fits : FnScope n_law_fits ["_law_hung_here", "_law_row"] (defScope s_law_fits) := ⟨rfl, rfl, rfl, by decide +kernel, rfl, by decide +kernel, by decide +kernel⟩
def sp_law_fits (K : PySem.W.Frag) : Sp := fun vs H Q _ => ∃ (a q : Addr) (L : Nat) (P : Pic) (ps : List Nat), vs = [.ref a, .ref q] ∧ P.Ok L ∧ L ≤ 5 ∧ P.n ≤ 5000 ∧ PicAt H a P ∧ SqT K H q (vn ps) ∧ ps.length ≤ P.n ∧ ∀ b, (b = true ↔ Fits P ps) → RV (.bl b) H Q
theorem ok_law_fits (B : Bi mg) (F : Df K mg "_law_fits" s_law_fits ["_law_hung_here", "_law_row"]) : Has P w K mg base 1 "_law_fits" ["_law_hung_here", "_law_row"] (sp_law_fits K) := by
  refine F.ok sc_law_fits (fun vs H Q E h => ?_) (fun f cdv A outer s H vs Q E hr h => ?_)
  · obtain ⟨a, q, L, P, ps, rfl, _⟩ := h
    rfl
  · obtain ⟨a, q, L, P, ps, rfl, hp, hL, hn, ⟨ds, kv, hA, hP⟩, hq, hps, fin⟩ := h
    refine ⟨_, (pss_cons (ps_set (i := 2) sc_law_fits.nd rfl (Or.inl rfl) pe_dnewT)
      (pss_cons (ps_for PassesOwn.never rfl (pi_enumT (by rfl) B.enumerate (pa_cons (pv 1) pa_nil)) (k_tup K (n := 2) rfl (pgs_cons (pg_name (i := 3) sc_law_fits.nd rfl (Or.inl rfl)) (pgs_cons (pg_name (i := 4) sc_law_fits.nd rfl (Or.inl rfl)) pgs_nil)))
        (pss_one (ps_lock (ps_for PassesOwn.never rfl (pi_items (pe_ix (kIxL K) (pv 0) (pv 3) (fun _ _ => rfl))) (k_tup K (n := 2) rfl (pgs_cons (pg_name (i := 5) sc_law_fits.nd rfl (Or.inl rfl)) (pgs_cons (pg_name (i := 6) sc_law_fits.nd rfl (Or.inl rfl)) pgs_nil)))
          (pss_one (ps_if (PW.pt (pw_and (pt_cmpR op_lt (pv 6) (pe_callB (kLen K) (by rfl) B.len PySem.boot_len (pa_cons (pv 1) pa_nil)) (nomark _)) (pw_and1 (pt_cmpR op_ne (pe_dsetdT (hu_of hr) (pv 2) (pe_tup (pa_cons (pv 4) (pa_cons (pv 5) pa_nil))) (pe_ix (kIxT K) (pv 1) (pv 6) (fun _ _ => rfl)) ⟨by rfl, by rfl, by rfl, by rfl⟩) (pe_ix (kIxT K) (pv 1) (pv 6) (fun _ _ => rfl)) (nomark _)))))
            (pss_one (ps_ret pe_bl))
            pss_nil))))))
      (pss_one (ps_ret pe_bl)))), ?_⟩
    intro m nm
    have s1 := same_new (o := .dT []) nm
    have ham : a ≠ m := ne_of_none hA nm
    refine ⟨_, rfl, q, _, rfl, s1.tup hq, for_it walk_enumT (fun i σ H' => ∃ y3 y4 y5 y6 kvs, σ = [some (.ref a), some (.ref q), some (.ref m), y3, y4, y5, y6] ∧ Same H H' ∧ H' m = some (.dT kvs) ∧ LedAt P ps kvs (dn P kv i 0) ∧ kvs.length ≤ 10 * i) ⟨none, none, none, none, [], rfl, s1, upd_same, LedAt.start.less fun r t x h _ => ?_, Nat.le_refl _⟩ (fun i σ H' _ ⟨_, _, _, _, _, _, sm, _⟩ => sm.tup hq) (fun i x σ H1 H' hi ⟨y3, y4, y5, y6, kvs, e, sm1, hm1, hl, hk⟩ hy => ?_) (fun σ H' ⟨y3, y4, y5, y6, kvs, e, sm, hm, hl, hk⟩ => ?_)⟩
    · obtain ⟨_, z | ⟨_, z⟩⟩ := h
      · exact absurd z (Nat.not_lt_zero r)
      · rw [List.take_zero] at z
        cases z
    · subst e
      rw [List.length_map] at hi
      obtain ⟨T, x1, x2, rfl, nT, rfl, e1, ey⟩ := hy
      cases e1
      obtain ⟨p, hpi, rfl⟩ := of_vn_get ey
      have sT := same_new (o := .tup [.int (i : Nat), .int (p : Int)]) nT
      refine ⟨T, _, rfl, SqT.of upd_same, rfl, _, _, rfl, _, _, rfl, rfl, ?_⟩
      have hm := sT _ _ hm1
      have sm := sm1.trans sT
      generalize upd H1 T (.tup [.int (i : Nat), .int (p : Int)]) = H' at hm sm
      have hin : i < P.n := by omega
      have hpd : ps.getD i 0 = p := by rw [List.getD_eq_getElem?_getD, hpi]; rfl
      obtain ⟨d, hd, rw0⟩ := hP.get hin
      have had : a ≠ d := ne_of hA rw0.at_ (by intro z; cases z)
      have hdm : d ≠ m := ne_of_none rw0.at_ nm
      have hkl : (kv i).length ≤ 10 := by
        have := row_len (L := L) rw0.nd fun s g e => (hp.ok i s g (by rw [← rw0.go]; exact e)).2.2.1
        omega
      refine ⟨d, _, sm _ _ rw0.at_, trivial, fun od => ?_⟩
      -- while the dict is read
      have nm' : ∀ z, upd H d z m = none := fun z => by rw [upd_ne hdm.symm]; exact nm
      have hA' : upd H d (.frz od (.dK ((kv i).map e2))) a = some (.lst (ds.map V.ref)) := by rw [upd_ne had]; exact hA
      have hq' : SqT K (upd H d (.frz od (.dK ((kv i).map e2)))) q (vn ps) := sqt_dK hq rw0.at_
      have hd' : upd H d (.frz od (.dK ((kv i).map e2))) d = some (.frz od (.dK ((kv i).map e2))) := upd_same
      have sl := same_lock (d := d) (z := .frz od (.dK ((kv i).map e2))) sm
      refine ⟨_, rfl, _, rfl, a, _, _, _, rfl, rfl, SqL.of (sl _ _ hA'), atI_nat (refs_get hd), ?_⟩
      refine ⟨d, od, _, rfl, upd_same, for_it walk_items (fun j σ H2 => ∃ y5 y6 kvs, σ = [some (.ref a), some (.ref q), some (.ref m), some (.int (i : Int)), some (.int (p : Int)), y5, y6] ∧ Same (upd H d (.frz od (.dK ((kv i).map e2)))) H2 ∧ H2 m = some (.dT kvs) ∧ LedAt P ps kvs (dn P kv i j) ∧ kvs.length ≤ 10 * i + j) ⟨y5, y6, kvs, rfl, sl, by rw [upd_ne hdm.symm]; exact hm, hl, hk⟩ (fun j σ H2 _ ⟨_, _, _, _, s2, _⟩ => s2 _ _ hd') (fun j x σ H2 H3 hj ⟨y5, y6, kvs, e, s2, hm2, hl2, hk2⟩ hy => ?_) (fun σ H2 ⟨y5, y6, kvs, e, s2, hm2, hl2, hk2⟩ => ?_)⟩
      · subst e
        rw [List.length_map] at hj
        obtain ⟨T, x1, x2, rfl, nT, rfl, e1, e3⟩ := hy
        have hkj : (kv i)[j]? = some (kv i)[j] := List.getElem?_eq_getElem hj
        generalize (kv i)[j] = kj at hkj
        obtain ⟨st, g⟩ := kj
        have e1 : (((kv i).map e2)[j]?).map (fun kv => kV kv.1) = some x1 := e1
        have e3 : (((kv i).map e2)[j]?).map Prod.snd = some x2 := e3
        rw [List.getElem?_map, hkj] at e1 e3
        cases e1
        cases e3
        have sT := same_new (o := .tup [.int st, .int (g : Int)]) nT
        have hgo : P.go i st = some g := by rw [← rw0.go]; exact lk_of_mem rw0.nd (List.mem_of_getElem? hkj)
        have hdn : ∀ r t x, dn P kv i (j + 1) r t x → x < ps.length → dn P kv i j r t x ∨ (r = i ∧ t = st ∧ x = g) := fun r t x ⟨a1, a2⟩ _ => by
          rcases a2 with z | ⟨rfl, z⟩
          · exact .inl ⟨a1, .inl z⟩
          · rw [List.take_add_one, hkj] at z
            rcases List.mem_append.mp z with z | z
            · exact .inl ⟨a1, .inr ⟨rfl, z⟩⟩
            · have := List.mem_singleton.mp z
              cases this
              exact .inr ⟨rfl, rfl, rfl⟩
        have s3 := s2.trans sT
        have hm3 := sT _ _ hm2
        refine ⟨T, _, rfl, SqT.of upd_same, rfl, _, _, rfl, _, _, rfl, rfl, ?_⟩
        have lq : ∀ {H4 : Hp}, Same (upd H d (.frz od (.dK ((kv i).map e2)))) H4 → SqT K H4 q (vn ps) := fun s4 => Same.tup s4 hq'
        refine ⟨_, rfl, _, rfl, q, _, rfl, .inr (lq s3), _, _, rfl, rfl, _, rfl, ?_⟩
        rw [List.length_map]
        by_cases c : (g : Int) < (ps.length : Int)
        · rw [decide_eq_true c]
          refine iteT ?_
          have hgl : g < ps.length := by omega
          have hgv : (vn ps)[g]? = some (.int ((ps.getD g 0 : Nat) : Int)) := vn_get (by rw [getD_lt hgl]; exact List.getElem?_eq_getElem hgl)
          refine ⟨_, rfl, m, rfl, .inr ⟨_, .inl hm3⟩, ?_⟩
          refine ⟨_, rfl, _, rfl, by show 2 ≤ sizeLine; decide, fun u nu => ?_⟩
          have su := same_new (o := .tup [.int (p : Int), .int st]) nu
          have s4 := s3.trans su
          have hm4 := su _ _ hm3
          have ek : kP ps i st = [Sum.inl (p : Int), Sum.inl st] := by unfold kP; rw [hpd]
          refine ⟨_, rfl, _, rfl, q, _, _, _, rfl, rfl, lq s4, atI_nat hgv, ?_⟩
          refine ⟨kvs, kP ps i st, u, hm4, rfl, by rw [ek]; exact upd_same, smallL (by omega), fun v hv => ?_, fun hv => ?_⟩
          · refine ⟨_, rfl, _, rfl, q, _, _, _, rfl, rfl, lq s4, atI_nat hgv, ?_⟩
            obtain ⟨r', t', x', _, _, _, _, ev⟩ := hl2.from_ _ _ hv
            subst ev
            refine ⟨rfl, _, rfl, ?_⟩
            by_cases cv : (V.int ((ps.getD x' 0 : Nat) : Int)) = .int ((ps.getD g 0 : Nat) : Int)
            · rw [decide_eq_true cv]
              refine iteF ?_
              rw [cv] at hv
              exact ⟨_, _, kvs, rfl, s4, hm4, hl2.seen hdn hv, by omega⟩
            · rw [decide_eq_false cv]
              refine iteT ?_
              have hnf := hl2.clash hi hgl hgo hv cv
              exact ⟨s4 _ _ hd', fin false ⟨fun z => absurd z Bool.false_ne_true, fun z => absurd z hnf⟩ _ (same_unlock rw0.at_ s4)⟩
          · have hmH : upd H d (.frz od (.dK ((kv i).map e2))) m = none := nm' _
            have s5 := s4.mut (o := .dT (putK kvs (kP ps i st) (.int ((ps.getD g 0 : Nat) : Int)))) hmH
            refine ⟨_, rfl, _, rfl, q, _, _, _, rfl, rfl, lq s5, atI_nat hgv, ?_⟩
            refine ⟨rfl, _, rfl, ?_⟩
            rw [decide_eq_true rfl]
            refine iteF ?_
            refine ⟨_, _, _, rfl, s5, upd_same, hl2.put hdn hi hgl hgo hv, ?_⟩
            have := putK_le (kP ps i st) (.int ((ps.getD g 0 : Nat) : Int)) kvs
            omega
        · rw [decide_eq_false c]
          refine iteF (iteF ?_)
          exact ⟨_, _, kvs, rfl, s3, hm3, hl2.less fun r t x a1 a2 => by
            rcases hdn r t x a1 a2 with z | ⟨_, _, z⟩
            · exact z
            · omega, by omega⟩
      · subst e
        have hn1 := s2 _ _ hd'
        rw [List.length_map] at hl2 hk2
        refine ⟨hn1, _, _, _, _, kvs, rfl, same_unlock rw0.at_ s2, by rw [upd_ne hdm.symm]; exact hm2, hl2.less fun r t x ⟨a1, a2⟩ _ => ⟨a1, ?_⟩, by omega⟩
        rcases a2 with z | ⟨rfl, z⟩
        · by_cases c : r = i
          · subst c
            exact .inr ⟨rfl, by rw [List.take_length]; exact lk_mem (by rw [rw0.go]; exact a1)⟩
          · exact .inl (by omega)
        · rw [List.take_zero] at z
          cases z
    · subst e
      rw [List.length_map] at hl
      refine fin true ⟨fun _ => hl.fits fun r t x hr e => ⟨e, .inl hr⟩, fun _ => rfl⟩ H' sm
end
end Wk
set_option Elab.async false
set_option linter.all false
set_option maxRecDepth 100000
set_option maxHeartbeats 4000000
namespace Wk
open PySem L2 Wc
theorem inV_vn (n : Nat) (ends : List Nat) : inV (.int (n : Int)) (vn ends) = decide (n ∈ ends) := by
  unfold inV vn
  rw [List.any_map]
  induction ends with
  | nil => rfl
  | cons a r ih =>
    rw [List.any_cons, ih]
    have e : ((fun y => eqV y (V.int (n : Int))) ∘ fun n : Nat => V.int (n : Int)) a = decide (a = n) := by
      show eqV (.int (a : Int)) (.int (n : Int)) = _
      unfold eqV
      by_cases c : a = n
      · subst c
        simp
      · have : ¬ (a : Int) = (n : Int) := by omega
        simp [c, this]
    rw [e]
    by_cases c : a = n
    · subst c
      simp
    · simp [c, Ne.symm c]
theorem flat_vn (ns : List Nat) : (vn ns).all flatV = true := by
  rw [List.all_eq_true]
  intro x hx
  obtain ⟨n, _, rfl⟩ := List.mem_map.mp hx
  rfl
theorem max_mx1 {q : List Nat} {z : Int} (h1 : z ∈ q.map Int.ofNat) (h2 : ∀ y, y ∈ q.map Int.ofNat → y ≤ z) : z + 1 = (mx1 q : Int) := by
  obtain ⟨n, hn, rfl⟩ := List.mem_map.mp h1
  have a := lt_mx1 hn
  have b := mx1_le (q := q) (m := n + 1) fun x hx => by
    have := h2 _ (List.mem_map.mpr ⟨x, hx, rfl⟩)
    have : (x : Int) ≤ (n : Int) := this
    omega
  show (n : Int) + 1 = _
  omega
theorem ext_one {w ps : List Nat} (h : w.take ps.length = ps) (hl : ps.length < w.length) : w.take (ps.length + 1) = ps ++ [w.getD ps.length 0] := by
  rw [List.take_add_one, h, getD_lt hl, List.getElem?_eq_getElem hl]
  rfl
theorem ext_part {P : Pic} {ends w ps : List Nat} {most : Nat} (hw : Whole P ends most w) (h : w.take ps.length = ps) (hp : 0 < ps.length) (hl : ps.length < P.n) :
    Part P ends most (ps ++ [w.getD ps.length 0]) ∧ w.getD ps.length 0 < most ∧ w.getD ps.length 0 ≤ mx1 ps ∧ (w.getD ps.length 0 ≠ 0 ∨ ps.length ∉ ends) := by
  have hl' : ps.length < w.length := by rw [hw.2]; exact hl
  have e := ext_one h hl'
  have p := hw.1.take (k := ps.length + 1) (Nat.succ_pos _)
  rw [e] at p
  refine ⟨p, p.lt _ (List.mem_append_right _ (List.mem_singleton.mpr rfl)), ?_, ?_⟩
  · have := hw.1.rg ps.length hl'
    rw [h] at this
    exact this
  · by_cases c : ps.length ∈ ends
    · refine .inl ?_
      have := p.off _ c (by rw [List.length_append, List.length_singleton]; omega)
      rw [getD_appR] at this
      exact this
    · exact .inr c
theorem ite_both {c : Bool} {A B : Prop} (ha : A) (hb : A → c = false → B) : if c = true then A else B := by
  cases c with
  | true => exact iteT ha
  | false => exact iteF (hb ha rfl)
section
variable {P : Program} {w : World} {K : PySem.W.Frag} {mg : Str → Option Value} {base : Heap}
abbrev s_parting : Stmt := top 36
abbrev n_parting : List Str := ["doors", "ends", "most", "parts", "part", "grown", "found"]
theorem sc_parting : FnScope n_parting ["doors", "ends", "most", "parts"] (defScope s_parting) := ⟨rfl, rfl, rfl, by decide +kernel, rfl, by decide +kernel, by decide +kernel⟩
def sp_parting (n : Nat) : Sp := fun vs H Q _ => ∃ (a e q : Addr) (L most : Nat) (P : Pic) (ends ps : List Nat), vs = [.ref a, .ref e, .int (most : Int), .ref q] ∧ P.Ok L ∧ L ≤ 5 ∧ P.n ≤ 1000 ∧ most ≤ 5000 ∧ PicAt H a P ∧ H e = some (.lst (vn ends)) ∧ H q = some (.lst (vn ps)) ∧ Part P ends most ps ∧ P.n < ps.length + n ∧
  (∀ H', Same H H' → (∀ w, Whole P ends most w → w.take ps.length ≠ ps) → Q .non H') ∧ ∀ p w H', Same H H' → H' p = some (.lst (vn w)) → Whole P ends most w → Q (.ref p) H'
theorem ok_parting1 {n : Nat} (B : Bi mg) (F : Df K mg "parting" s_parting ["doors", "ends", "most", "parts"]) (h_fits : Has P w K mg base 1 "fits" ["doors", "parts"] (sp_fits K)) (h_parting : Has P w K mg base (n + 1) "parting" ["doors", "ends", "most", "parts"] (sp_parting n)) :
    Has P w K mg base (n + 2) "parting" ["doors", "ends", "most", "parts"] (sp_parting (n + 1)) := by
  refine F.ok sc_parting (fun vs H Q E h => ?_) (fun f cdv A outer s H vs Q E hr h => ?_)
  · obtain ⟨a, e, q, L, most, P, ends, ps, rfl, _⟩ := h
    rfl
  · obtain ⟨a, e, q, L, most, P, ends, ps, rfl, hp, hL, hn, hmo, hPA, hE, hq, hPt, hfu, fin0, fin1⟩ := h
    have hPA0 := hPA
    obtain ⟨ds, kv, hA, hP⟩ := hPA0
    refine ⟨_, (pss_cons (ps_if (pt_cmpR op_eq (pe_callB (kLen K) (by rfl) B.len PySem.boot_len (pa_cons (pv 3) pa_nil)) (pe_callB (kLen K) (by rfl) B.len PySem.boot_len (pa_cons (pv 0) pa_nil)) (nomark _))
        (pss_one (ps_ret (pv 3)))
        pss_nil)
      (pss_cons (ps_for PassesOwn.never rfl (pi_range1 rfl B.range (pa_cons (pe_callB (call_min2 rfl) (by rfl) B.min (by decide +kernel) (pa_cons (pv 2) (pa_cons (pe_op op_add (pe_callB (kMax K) (by rfl) B.max (by decide +kernel) (pa_cons (pv 3) pa_nil)) pe_int) pa_nil))) pa_nil)) (pg_name (i := 4) sc_parting.nd rfl (Or.inl rfl))
        (pss_cons (ps_set (i := 5) sc_parting.nd rfl (Or.inl rfl) (pe_op op_cat (pv 3) (pe_lst (pa_cons (pv 4) pa_nil))))
        (pss_one (ps_if (PW.pt (pw_and (PW.pt (pw_or (pt_cmpR op_ne (pv 4) pe_int (nomark _)) (pw_or1 (pt_cmpR (kNotIn K) (pe_callB (kLen K) (by rfl) B.len PySem.boot_len (pa_cons (pv 3) pa_nil)) (pv 1) (by rfl))))) (pw_and1 (pt_val (pe_has h_fits (hr.mono (by omega)) (pa_cons (pv 0) (pa_cons (pv 5) pa_nil)))))))
          (pss_cons (ps_set (i := 6) sc_parting.nd rfl (Or.inl rfl) (pe_has h_parting (hr.mono (by omega)) (pa_cons (pv 0) (pa_cons (pv 1) (pa_cons (pv 2) (pa_cons (pv 5) pa_nil))))))
          (pss_one (ps_if (pt_cmpR op_notN (pv 6) pe_non (nomark _))
            (pss_one (ps_ret (pv 6)))
            pss_nil)))
          pss_nil))))
      (pss_one (ps_ret pe_non)))), ?_⟩
    refine ⟨_, rfl, q, _, rfl, .inl (SqL.of hq), _, rfl, a, _, rfl, .inl (SqL.of hA), rfl, _, rfl, ?_⟩
    rw [List.length_map, List.length_map, hP.len]
    by_cases c : ps.length = P.n
    · rw [c, decide_eq_true rfl]
      refine iteT ?_
      exact ⟨_, rfl, fin1 q ps H (Same.refl H) hq ⟨hPt, c⟩⟩
    · have hl : ps.length < P.n := Nat.lt_of_le_of_ne hPt.le c
      rw [decide_eq_false (fun z => c (by have := V.int.inj z; omega))]
      refine iteF ?_
      have hq2 := hq
      rw [vn_vi] at hq2
      refine ⟨_, rfl, _, rfl, q, ps.map Int.ofNat, rfl, SqL.of hq2, by rw [List.length_map]; exact hPt.pos, fun z hz1 hz2 => ?_⟩
      have hz := max_mx1 hz1 hz2
      have hmx : mx1 ps ≤ most := mx1_le hPt.lt
      refine ⟨_, _, rfl, rfl, _, _, rfl, ?_⟩
      have hm : (if z + 1 + 1 < (most : Int) then z + 1 + 1 else (most : Int)) = ((min most (mx1 ps + 1) : Nat) : Int) := by
        split <;> omega
      refine ⟨((min most (mx1 ps + 1) : Nat) : Int), ?_, by omega, by omega, for_range (lo := 0) (n := min most (mx1 ps + 1)) (fun i σ H' => ∃ y4 y5 y6, σ = [some (.ref a), some (.ref e), some (.int (most : Int)), some (.ref q), y4, y5, y6] ∧ Same H H' ∧ ∀ w, Whole P ends most w → w.take ps.length = ps → i ≤ w.getD ps.length 0) ⟨none, none, none, rfl, Same.refl H, fun _ _ _ => Nat.zero_le _⟩ (fun i σ H' hi ⟨y4, y5, y6, er, sm, hno⟩ => ?_) (fun σ H' ⟨y4, y5, y6, er, sm, hno⟩ => ?_)⟩
      · refine congrArg (fun j : Int => [V.int j]) ?_
        show (if z + 2 < (most : Int) then z + 2 else (most : Int)) = _
        have e2 : z + 2 = z + 1 + 1 := by omega
        rw [e2, hm]
      · subst er
        have hi1 : i < most := by omega
        have hi2 : i ≤ mx1 ps := by omega
        have e0 : (0 : Int) + (i : Int) = (i : Int) := Int.zero_add _
        rw [e0]
        refine ⟨_, rfl, _, rfl, by show 1 ≤ sizeLine; decide, fun u nu => ?_⟩
        have su := same_new (o := .lst [.int (i : Int)]) nu
        have hq1 := (sm.trans su) _ _ hq
        have hPn := hPt.le
        refine ⟨q, u, _, _, rfl, rfl, hq1, upd_same, by rw [List.length_map]; exact small (by show _ + 1 ≤ _; omega), fun g ng => ?_⟩
        have eg : vn ps ++ [.int (i : Int)] = vn (ps ++ [i]) := by rw [vn, vn, List.map_append]; rfl
        rw [eg]
        have sg := same_new (o := .lst (vn (ps ++ [i]))) ng
        have s2 := su.trans sg
        have s3 := sm.trans s2
        have hgv : upd (upd H' u (.lst [.int (i : Int)])) g (.lst (vn (ps ++ [i]))) g = some (.lst (vn (ps ++ [i]))) := upd_same
        generalize upd (upd H' u (.lst [.int (i : Int)])) g (.lst (vn (ps ++ [i]))) = H2 at s3 hgv
        have hlen1 : (ps ++ [i]).length = ps.length + 1 := by rw [List.length_append]; rfl
        -- what is left when i is no part of the next room
        have next : (∀ w, Whole P ends most w → w.take ps.length = ps → i ≠ w.getD ps.length 0) → ∀ w, Whole P ends most w → w.take ps.length = ps → i + 1 ≤ w.getD ps.length 0 := fun hne w hw ht => by
          have a1 := hno w hw ht
          have a2 := hne w hw ht
          omega
        refine ⟨_, rfl, rfl, _, rfl, ?_⟩
        by_cases ho : i ≠ 0 ∨ ps.length ∉ ends
        · refine ite_both ?_ fun rest hc => ?_
          · refine iteT ?_
            refine ⟨_, rfl, _, rfl, a, g, L, P, ps ++ [i], rfl, hp, hL, by omega, hPA.same s3, SqL.of hgv, by omega, fun b hb H3 s4 => ?_⟩
            have s5 := s3.trans s4
            refine ⟨b, rfl, ?_⟩
            cases b with
            | false =>
              refine iteF ?_
              refine ⟨_, _, _, rfl, s5, next fun w hw ht z => ?_⟩
              have := (ext_part hw ht hPt.pos hl).1.fits
              rw [← z] at this
              exact Bool.false_ne_true (hb.mpr this)
            | true =>
              refine iteT ?_
              have hP2 := hPt.snoc hl hi2 hi1 ho (hb.mp rfl)
              refine ⟨_, rfl, _, rfl, _, rfl, _, rfl, a, e, g, L, most, P, ends, ps ++ [i], rfl, hp, hL, hn, hmo, hPA.same s5, s5 _ _ hE, s4 _ _ hgv, hP2, by omega, fun H4 s6 hno4 => ?_, fun p w H4 s6 hw hW => ?_⟩
              · refine ⟨_, rfl, rfl, _, rfl, iteF ?_⟩
                refine ⟨_, _, _, rfl, s5.trans s6, next fun w hw ht z => ?_⟩
                have := ext_one ht (by rw [hw.2]; exact hl)
                rw [← z] at this
                exact hno4 w hw (by rw [hlen1]; exact this)
              · refine ⟨_, rfl, rfl, _, rfl, iteT ?_⟩
                exact ⟨_, rfl, fin1 p w H4 (s5.trans s6) hw hW⟩
          · refine ⟨_, rfl, q, _, rfl, .inl (SqL.of (s3 _ _ hq)), _, rfl, e, _, rfl, .inl (SqL.of (s3 _ _ hE)), rfl, flat_vn ends, _, rfl, ?_⟩
            have i0 : i = 0 := by
              by_cases c0 : i = 0
              · exact c0
              · rw [decide_eq_false (fun z => c0 (by have := V.int.inj z; omega))] at hc
                cases hc
            have hne : ps.length ∉ ends := by
              rcases ho with z | z
              · exact absurd i0 z
              · exact z
            rw [List.length_map, inV_vn, decide_eq_false hne]
            exact rest
        · have i0 : i = 0 := Classical.byContradiction fun z => ho (.inl z)
          have hme : ps.length ∈ ends := Classical.byContradiction fun z => ho (.inr z)
          subst i0
          rw [decide_eq_true (show V.int ((0 : Nat) : Int) = V.int 0 from rfl)]
          refine iteF ?_
          refine ⟨_, rfl, q, _, rfl, .inl (SqL.of (s3 _ _ hq)), _, rfl, e, _, rfl, .inl (SqL.of (s3 _ _ hE)), rfl, flat_vn ends, _, rfl, ?_⟩
          rw [List.length_map, inV_vn, decide_eq_true hme]
          refine iteF (iteF ?_)
          refine ⟨_, _, _, rfl, s3, next fun w hw ht z => ?_⟩
          obtain ⟨_, _, _, a3⟩ := ext_part hw ht hPt.pos hl
          rcases a3 with a3 | a3
          · exact a3 z.symm
          · exact a3 hme
      · subst er
        refine fin0 H' sm fun w hw ht => ?_
        obtain ⟨_, a1, a2, _⟩ := ext_part hw ht hPt.pos hl
        have := hno w hw ht
        omega
theorem ok_parting (B : Bi mg) (F : Df K mg "parting" s_parting ["doors", "ends", "most", "parts"]) (h_fits : Has P w K mg base 1 "fits" ["doors", "parts"] (sp_fits K)) : ∀ n : Nat, Has P w K mg base (n + 1) "parting" ["doors", "ends", "most", "parts"] (sp_parting n)
  | 0 => F.ok sc_parting (fun vs H Q E h => by
      obtain ⟨a, e, q, L, most, P, ends, ps, rfl, _⟩ := h
      rfl) (fun f cdv A outer s H vs Q E hr h => by
      obtain ⟨a, e, q, L, most, P, ends, ps, rfl, _, _, _, _, _, _, _, hPt, hfu, _⟩ := h
      have := hPt.le
      omega)
  | n + 1 => ok_parting1 B F h_fits (ok_parting B F h_fits n)
abbrev s_least_parting : Stmt := top 37
abbrev n_least_parting : List Str := ["doors", "ends", "most", "found"]
theorem sc_least_parting : FnScope n_least_parting ["doors", "ends"] (defScope s_least_parting) := ⟨rfl, rfl, rfl, by decide +kernel, rfl, by decide +kernel, by decide +kernel⟩
def sp_least_parting : Sp := fun vs H Q _ => ∃ (a e : Addr) (L : Nat) (P : Pic) (ends : List Nat), vs = [.ref a, .ref e] ∧ P.Ok L ∧ L ≤ 5 ∧ P.n ≤ 110 ∧ PicAt H a P ∧ H e = some (.lst (vn ends)) ∧ 0 ∉ ends ∧
  ∀ p w m H', Same H H' → H' p = some (.lst (vn w)) → Whole P ends m w → Least P ends m → mx1 w = m → Q (.ref p) H'
theorem ok_least_parting (B : Bi mg) (F : Df K mg "least_parting" s_least_parting ["doors", "ends"]) (h_parting : Has P w K mg base 111 "parting" ["doors", "ends", "most", "parts"] (sp_parting 110)) :
    Has P w K mg base 112 "least_parting" ["doors", "ends"] sp_least_parting := by
  refine F.ok sc_least_parting (fun vs H Q E h => ?_) (fun f cdv A outer s H vs Q E hr h => ?_)
  · obtain ⟨a, e, L, P, ends, rfl, _⟩ := h
    rfl
  · obtain ⟨a, e, L, P, ends, rfl, hp, hL, hn, hPA, hE, h0, fin⟩ := h
    have hpos := hp.pos
    refine ⟨_, (pss_cons (ps_asg (pe_tup (pa_cons pe_int (pa_cons pe_non pa_nil))) (k_tup K (n := 2) rfl (pgs_cons (pg_name (i := 2) sc_least_parting.nd rfl (Or.inl rfl)) (pgs_cons (pg_name (i := 3) sc_least_parting.nd rfl (Or.inl rfl)) pgs_nil))))
      (pss_cons (ps_while PassesOwn.never (pt_cmpR op_isN (pv 3) pe_non (nomark _))
        (pss_cons (ps_set (i := 3) sc_least_parting.nd rfl (Or.inl rfl) (pe_has h_parting (hr.mono (by omega)) (pa_cons (pv 0) (pa_cons (pv 1) (pa_cons (pv 2) (pa_cons (pe_lst (pa_cons pe_int pa_nil)) pa_nil))))))
        (pss_one (ps_aug (i := 2) sc_least_parting.nd rfl (Or.inl rfl) pe_int ip_add))))
      (pss_one (ps_ret (pv 3))))), ?_⟩
    refine ⟨by show 2 ≤ sizeLine; decide, fun t nt => ?_⟩
    have st := same_new (o := .tup [.int 1, .non]) nt
    refine ⟨t, _, rfl, SqT.of upd_same, rfl, _, _, rfl, _, _, rfl, rfl, ?_⟩
    have none_at : ∀ m, (∀ w, ¬ Whole P ends m w) → m < P.n := fun m h => by
      by_cases c : m < P.n
      · exact c
      · exact absurd ((whole_range hpos h0).up (by omega)) (h _)
    refine ⟨fun μ σ H' => ∃ m : Nat, Same H H' ∧ ((σ = [some (.ref a), some (.ref e), some (.int (m : Int)), some .non] ∧ 1 ≤ m ∧ m ≤ P.n ∧ (∀ m', m' < m → ∀ w, ¬ Whole P ends m' w) ∧ μ = P.n + 1 - m) ∨
      ∃ p w, σ = [some (.ref a), some (.ref e), some (.int ((m : Int) + 1)), some (.ref p)] ∧ H' p = some (.lst (vn w)) ∧ Whole P ends m w ∧ (∀ m', m' < m → ∀ w, ¬ Whole P ends m' w) ∧ μ = 0), ⟨P.n, 1, st, .inl ⟨rfl, Nat.le_refl _, hpos, fun m' hm w hw => ?_, rfl⟩⟩, ?_⟩
    · have := hw.1.lt _ (getD_mem hw.1.pos)
      omega
    rintro μ σ H' ⟨m, sm, ⟨rfl, h1, hmn, hno, rfl⟩ | ⟨p, w, rfl, hw, hW, hno, rfl⟩⟩
    · refine ⟨_, rfl, rfl, _, rfl, iteT ?_⟩
      refine ⟨fun σ' H2 => Same H H2 ∧ ((σ' = [some (.ref a), some (.ref e), some (.int ((m : Int) + 1)), some .non] ∧ ∀ w, ¬ Whole P ends m w) ∨ ∃ p w, σ' = [some (.ref a), some (.ref e), some (.int ((m : Int) + 1)), some (.ref p)] ∧ H2 p = some (.lst (vn w)) ∧ Whole P ends m w), ?_, ?_⟩
      · rintro σ' H2 ⟨s2, ⟨rfl, hnn⟩ | ⟨p, w, rfl, hw, hW⟩⟩
        · have := none_at m hnn
          refine ⟨P.n + 1 - (m + 1), by omega, m + 1, s2, .inl ⟨rfl, by omega, by omega, fun m' hm w => ?_, rfl⟩⟩
          by_cases c : m' = m
          · subst c
            exact hnn w
          · exact hno m' (by omega) w
        · exact ⟨0, by omega, m, s2, .inr ⟨p, w, rfl, hw, hW, hno, rfl⟩⟩
      · refine ⟨_, rfl, _, rfl, _, rfl, by show 1 ≤ sizeLine; decide, fun z nz => ?_⟩
        have sz := same_new (o := .lst [.int 0]) nz
        have s2 := sm.trans sz
        refine ⟨a, e, z, L, m, P, ends, [0], rfl, hp, hL, by omega, by omega, hPA.same s2, s2 _ _ hE, upd_same, Part.one hpos (by omega) h0, by show P.n < 1 + 110; omega, fun H4 s4 hnn => ?_, fun p w H4 s4 hw hW => ?_⟩
        · refine ⟨_, rfl, _, _, rfl, rfl, s2.trans s4, .inl ⟨rfl, fun w hW => hnn w hW ?_⟩⟩
          have hwl := hW.1.pos
          have h00 := hW.1.rg.first hwl
          rw [getD_lt hwl] at h00
          cases w with
          | nil => exact absurd hwl (Nat.lt_irrefl 0)
          | cons x r =>
            have : x = 0 := h00
            subst this
            rfl
        · exact ⟨_, rfl, _, _, rfl, rfl, s2.trans s4, .inr ⟨p, w, rfl, hw, hW⟩⟩
    · refine ⟨_, rfl, rfl, _, rfl, iteF ?_⟩
      have hlst : Least P ends m := ⟨⟨w, hW⟩, fun m' hm ⟨q, hq⟩ => hno m' hm q hq⟩
      exact ⟨_, rfl, fin p w m H' sm hw hW hlst (hlst.tight hW)⟩
end
end Wk
set_option Elab.async false
set_option linter.all false
set_option maxRecDepth 100000
set_option maxHeartbeats 4000000
namespace Wk
open PySem L2 Wc
theorem upd_self {H : Hp} {d : Addr} {o : HO} (h : H d = some o) : upd H d o = H := by
  funext a
  by_cases c : a = d
  · rw [c, upd_same, h]
  · rw [upd_ne c]
theorem putK_same {κ : Type} [DecidableEq κ] {k : κ} {v : V} {c : List (κ × V)} (nd : (c.map (·.1)).Nodup) (h : valV c k = some v) : putK c k v = c := by
  unfold putK
  by_cases e : (c.any fun kv => decide (kv.1 = k)) = true
  · rw [if_pos e]
    clear e
    induction c with
    | nil => rfl
    | cons p r ih =>
      have nd : (p.1 :: r.map (·.1)).Nodup := nd
      obtain ⟨n1, n2⟩ := List.nodup_cons.mp nd
      rw [List.map_cons]
      by_cases c : p.1 = k
      · rw [valV_pos c] at h
        have h : p.2 = v := Option.some.inj h
        rw [if_pos c]
        have e1 : (p.1, v) = p := by rw [← h]
        rw [e1]
        congr 1
        refine (List.map_congr_left fun x hx => ?_).trans (List.map_id _)
        have : x.1 ≠ k := fun z => n1 (c ▸ z ▸ List.mem_map.mpr ⟨x, hx, rfl⟩)
        rw [if_neg this]
        rfl
      · rw [valV_neg c] at h
        rw [if_neg c, ih n2 h]
  · exfalso
    have := valV_in h
    obtain ⟨p, hp, hk⟩ := List.mem_map.mp this
    exact e (List.any_eq_true.mpr ⟨p, hp, decide_eq_true hk⟩)
section
variable {P : Program} {w : World} {K : PySem.W.Frag} {mg : Str → Option Value} {base : Heap}
/-- the same again -/
theorem Fill.again {H H' : Hp} {l : Addr} {ds : List Addr} {P : Pic} {i g L : Nat} {d : Addr} {s : Int} (h : Fill H H' l ds P) (hi : ds[i]? = some d) (hg : P.go i s = some g) (hL : L ≤ 1000) (hs : ∀ i s g, P.go i s = some g → stepOk L s) : DPut H' d (.int s) (.int (g : Int)) H' := by
  obtain ⟨kv, p⟩ := h.pic
  have r := p.row i d hi
  have hl := row_len (L := L) r.nd fun s g e => hs i s g (by rw [← r.go]; exact e)
  have q := DPut.k (k := Sum.inl s) (v := .int (g : Int)) r.at_ (by rw [List.length_map]; exact smallL (by omega))
  have e : putK ((kv i).map e2) (Sum.inl s) (.int (g : Int)) = (kv i).map e2 := by
    refine putK_same ?_ (by rw [valV_e2, r.go, hg]; rfl)
    rw [List.map_map]
    have := r.nd
    have e3 : ((fun x : Key × V => x.1) ∘ e2) = (fun z : Int => (Sum.inl z : Key)) ∘ (fun x : Int × Nat => x.1) := rfl
    rw [e3, ← List.map_map]
    exact (List.pairwise_map.mpr (this.imp fun hne z => hne (Sum.inl.inj z)))
  rw [e, upd_self r.at_] at q
  exact q
abbrev s_paper_places : Stmt := top 39
abbrev n_paper_places : List Str := ["web", "walks", "doors", "ends"]
theorem sc_paper_places : FnScope n_paper_places ["web", "walks"] (defScope s_paper_places) := ⟨rfl, rfl, rfl, by decide +kernel, rfl, by decide +kernel, by decide +kernel⟩
/-- what is asked of a web with walks -/
structure Ask (L : Nat) (P : Pic) (ws : List (List Int)) : Prop where
  web : Web L P
  wok : WsOk L ws
  n : P.n ≤ 100
  hn : (hung P ws).1.n ≤ 110
theorem Ask.hok {L : Nat} {P : Pic} {ws : List (List Int)} (h : Ask L P ws) : HungOk L P ws (hung P ws) := hung_ok h.web.ok h.wok.ok
def sp_paper_places (K : PySem.W.Frag) : Sp := fun vs H Q _ => ∃ (a c : Addr) (L : Nat) (P : Pic) (ws : List (List Int)), vs = [.ref a, .ref c] ∧ Ask L P ws ∧ WebAt K H a L P ∧ TuT K H c ws ∧
  (0 ∈ (hung P ws).2 → RV .non H Q) ∧ (0 ∉ (hung P ws).2 → ∀ m, Least (hung P ws).1 (hung P ws).2 m → RV (.int (m : Int)) H Q)
theorem ok_paper_places (B : Bi mg) (F : Df K mg "paper_places" s_paper_places ["web", "walks"]) (h_need_web_and_walks : Has P w K mg base 5 "need_web_and_walks" ["web", "walks"] (sp_need_ww K)) (h_hung : Has P w K mg base 2 "hung" ["web", "walks"] (sp_hung K))
    (h_least_parting : Has P w K mg base 112 "least_parting" ["doors", "ends"] sp_least_parting) : Has P w K mg base 113 "paper_places" ["web", "walks"] (sp_paper_places K) := by
  refine F.ok sc_paper_places (fun vs H Q E h => ?_) (fun f cdv A outer s H vs Q E hr h => ?_)
  · obtain ⟨a, c, L, P, ws, rfl, _⟩ := h
    rfl
  · obtain ⟨a, c, L, P, ws, rfl, k, hW, hT, q0, q1⟩ := h
    have hp := k.web.ok
    have h4 := k.web.l4
    have hn := k.n
    have hhn := k.hn
    have H0 := k.hok
    refine ⟨_, (pss_cons (ps_expr (pe_has h_need_web_and_walks (hr.mono (by omega)) (pa_cons (pv 0) (pa_cons (pv 1) pa_nil))))
      (pss_cons (ps_asg (pe_has h_hung (hr.mono (by omega)) (pa_cons (pv 0) (pa_cons (pv 1) pa_nil))) (k_tup K (n := 2) rfl (pgs_cons (pg_name (i := 2) sc_paper_places.nd rfl (Or.inl rfl)) (pgs_cons (pg_name (i := 3) sc_paper_places.nd rfl (Or.inl rfl)) pgs_nil))))
      (pss_cons (ps_if (pt_cmpR (kIn K) pe_int (pv 3) (by rfl))
        (pss_one (ps_ret pe_non))
        pss_nil)
      (pss_one (ps_ret (pe_op op_add (pe_callB (kMax K) (by rfl) B.max (by decide +kernel) (pa_cons (pe_has h_least_parting (hr.mono (by omega)) (pa_cons (pv 2) (pa_cons (pv 3) pa_nil))) pa_nil)) pe_int)))))), ?_⟩
    refine ⟨_, rfl, _, rfl, a, c, L, P, ws, rfl, k.web, by omega, hW, hT, k.wok, fun H1 s1 => ?_⟩
    refine ⟨_, rfl, _, rfl, a, c, L, P, ws, rfl, hp, by omega, hn, hW.same s1, hT.same s1, k.wok, fun t p e H2 s2 ht hP he => ?_⟩
    have s12 := s1.trans s2
    refine ⟨t, _, rfl, SqT.of ht, rfl, _, _, rfl, _, _, rfl, rfl, ?_⟩
    refine ⟨_, rfl, e, _, rfl, .inl (SqL.of he), rfl, flat_vn _, _, rfl, ?_⟩
    have e0 : inV (.int 0) (vn (hung P ws).2) = decide (0 ∈ (hung P ws).2) := inV_vn 0 _
    rw [e0]
    by_cases c0 : 0 ∈ (hung P ws).2
    · rw [decide_eq_true c0]
      exact iteT (q0 c0 H2 s12)
    · rw [decide_eq_false c0]
      refine iteF ?_
      refine ⟨_, rfl, _, rfl, p, e, L, _, _, rfl, H0.ok, by omega, hhn, hP, he, c0, fun u v m H3 s3 hu hV hL hm => ?_⟩
      rw [vn_vi] at hu
      refine ⟨u, v.map Int.ofNat, rfl, SqL.of hu, by rw [List.length_map]; exact hV.1.pos, fun z z1 z2 => ?_⟩
      have hz := max_mx1 z1 z2
      rw [hm] at hz
      refine ⟨_, _, rfl, rfl, ?_⟩
      have ez : (fun i j : Int => V.int (i + j)) z 1 = .int (m : Int) := congrArg V.int hz
      rw [ez]
      exact q1 c0 m hL H3 (s12.trans s3)
abbrev s_least_paper : Stmt := top 40
abbrev n_least_paper : List Str := ["web", "walks", "doors", "ends", "parts", "leads", "part", "room", "step", "goal"]
theorem sc_least_paper : FnScope n_least_paper ["web", "walks"] (defScope s_least_paper) := ⟨rfl, rfl, rfl, by decide +kernel, rfl, by decide +kernel, by decide +kernel⟩
def sp_least_paper (K : PySem.W.Frag) : Sp := fun vs H Q _ => ∃ (a c : Addr) (L : Nat) (P : Pic) (ws : List (List Int)), vs = [.ref a, .ref c] ∧ Ask L P ws ∧ WebAt K H a L P ∧ TuT K H c ws ∧
  (0 ∈ (hung P ws).2 → RV .non H Q) ∧ (0 ∉ (hung P ws).2 → ∀ q m, Least (hung P ws).1 (hung P ws).2 m → Whole (hung P ws).1 (hung P ws).2 m q → RBook K L (turnsOf L (leads (hung P ws).1 q m)) H Q)
/-- the leads of the rooms gone through -/
structure LeadTo (P : Pic) (q : List Nat) (m : Nat) (D : Nat → Int → Nat → Prop) (R : Pic) : Prop where
  n : R.n = m
  of_ : ∀ a s x, R.go a s = some x → ∃ r g, P.go r s = some g ∧ q.getD r 0 = a ∧ q.getD g 0 = x
  to_ : ∀ r s g, D r s g → R.go (q.getD r 0) s = some (q.getD g 0)
theorem LeadTo.less {P R : Pic} {q : List Nat} {m : Nat} {D D' : Nat → Int → Nat → Prop} (h : LeadTo P q m D R) (hd : ∀ r s g, D' r s g → D r s g) : LeadTo P q m D' R := ⟨h.n, h.of_, fun r s g a => h.to_ r s g (hd r s g a)⟩
theorem LeadTo.full {P R : Pic} {L : Nat} {ends q : List Nat} {m : Nat} {D : Nat → Int → Nat → Prop} (h : LeadTo P q m D R) (hp : P.Ok L) (hw : Whole P ends m q) (hd : ∀ r s g, P.go r s = some g → D r s g) (a : Nat) (s : Int) : (leads P q m).go a s = R.go a s := by
  cases e : R.go a s with
  | some x =>
    obtain ⟨r, g, h1, h2, h3⟩ := h.of_ a s x e
    rw [← h2, ← h3]
    exact leads_to hp hw h1
  | none =>
    cases e2 : (leads P q m).go a s with
    | none => rfl
    | some x =>
      obtain ⟨r, g, h1, h2, h3, h4⟩ := leads_of e2
      have := h.to_ r s g (hd r s g h3)
      rw [h2, e] at this
      cases this
theorem ok_least_paper (B : Bi mg) (F : Df K mg "least_paper" s_least_paper ["web", "walks"]) (h_need_web_and_walks : Has P w K mg base 5 "need_web_and_walks" ["web", "walks"] (sp_need_ww K)) (h_hung : Has P w K mg base 2 "hung" ["web", "walks"] (sp_hung K))
    (h_least_parting : Has P w K mg base 112 "least_parting" ["doors", "ends"] sp_least_parting) (h_completed : Has P w K mg base 1 "completed" ["letters", "doors"] (sp_completed K)) : Has P w K mg base 113 "least_paper" ["web", "walks"] (sp_least_paper K) := by
  refine F.ok sc_least_paper (fun vs H Q E h => ?_) (fun f cdv A outer s H vs Q E hr h => ?_)
  · obtain ⟨a, c, L, P, ws, rfl, _⟩ := h
    rfl
  · obtain ⟨a, c, L, P, ws, rfl, k, hW, hT, q0, q1⟩ := h
    have hp := k.web.ok
    have h4 := k.web.l4
    have hn := k.n
    have hhn := k.hn
    have H0 := k.hok
    refine ⟨_, (pss_cons (ps_expr (pe_has h_need_web_and_walks (hr.mono (by omega)) (pa_cons (pv 0) (pa_cons (pv 1) pa_nil))))
      (pss_cons (ps_asg (pe_has h_hung (hr.mono (by omega)) (pa_cons (pv 0) (pa_cons (pv 1) pa_nil))) (k_tup K (n := 2) rfl (pgs_cons (pg_name (i := 2) sc_least_paper.nd rfl (Or.inl rfl)) (pgs_cons (pg_name (i := 3) sc_least_paper.nd rfl (Or.inl rfl)) pgs_nil))))
      (pss_cons (ps_if (pt_cmpR (kIn K) pe_int (pv 3) (by rfl))
        (pss_one (ps_ret pe_non))
        pss_nil)
      (pss_cons (ps_set (i := 4) sc_least_paper.nd rfl (Or.inl rfl) (pe_has h_least_parting (hr.mono (by omega)) (pa_cons (pv 2) (pa_cons (pv 3) pa_nil))))
      (pss_cons (ps_setLc (i := 5) (own := [("part", 6)]) rfl sc_least_paper.nd rfl rfl (sw_true rfl rfl rfl (by decide +kernel)) (pi_range1 rfl B.range (pa_cons (pe_op op_add (pe_callB (kMax K) (by rfl) B.max (by decide +kernel) (pa_cons (pv 4) pa_nil)) pe_int) pa_nil)) (blkOk_by (N := n_least_paper) (sc := defScope s_least_paper) (by decide +kernel)) (fun _ _ _ _ _ => (pg_name (i := 6) sc_least_paper.nd rfl (Or.inl rfl))) (fun _ _ _ _ _ => pts_nil) (fun _ _ _ _ _ => pe_dnewK))
      (pss_cons (ps_for PassesOwn.never rfl (pi_enum (by rfl) B.enumerate (pa_cons (pv 4) pa_nil)) (k_tup K (n := 2) rfl (pgs_cons (pg_name (i := 7) sc_least_paper.nd rfl (Or.inl rfl)) (pgs_cons (pg_name (i := 6) sc_least_paper.nd rfl (Or.inl rfl)) pgs_nil)))
        (pss_one (ps_lock (ps_for PassesOwn.never rfl (pi_items (pe_ix (kIxL K) (pv 2) (pv 7) (fun _ _ => rfl))) (k_tup K (n := 2) rfl (pgs_cons (pg_name (i := 8) sc_least_paper.nd rfl (Or.inl rfl)) (pgs_cons (pg_name (i := 9) sc_least_paper.nd rfl (Or.inl rfl)) pgs_nil)))
          (pss_one (ps_dput (hu_of hr) (pe_ix (kIxL K) (pv 5) (pv 6) (fun _ _ => rfl)) (pv 8) (pe_ix (kIxL K) (pv 4) (pv 9) (fun _ _ => rfl)) rfl))))))
      (pss_one (ps_ret (pe_has h_completed (hr.mono (by omega)) (pa_cons (pe_ix (kIxT K) (pv 0) pe_int (fun _ _ => rfl)) (pa_cons (pv 5) pa_nil))))))))))), ?_⟩
    refine ⟨_, rfl, _, rfl, a, c, L, P, ws, rfl, k.web, by omega, hW, hT, k.wok, fun H1 s1 => ?_⟩
    refine ⟨_, rfl, _, rfl, a, c, L, P, ws, rfl, hp, by omega, hn, hW.same s1, hT.same s1, k.wok, fun t p e H2 s2 ht hP he => ?_⟩
    have s12 := s1.trans s2
    refine ⟨t, _, rfl, SqT.of ht, rfl, _, _, rfl, _, _, rfl, rfl, ?_⟩
    refine ⟨_, rfl, e, _, rfl, .inl (SqL.of he), rfl, flat_vn _, _, rfl, ?_⟩
    have e0 : inV (.int 0) (vn (hung P ws).2) = decide (0 ∈ (hung P ws).2) := inV_vn 0 _
    rw [e0]
    by_cases c0 : 0 ∈ (hung P ws).2
    · rw [decide_eq_true c0]
      exact iteT (q0 c0 H2 s12)
    · rw [decide_eq_false c0]
      refine iteF ?_
      refine ⟨_, rfl, _, rfl, p, e, L, _, _, rfl, H0.ok, by omega, hhn, hP, he, c0, fun u v m H3 s3 hu hV hL hm => ?_⟩
      have hP := hP.same s3
      have fin := q1 c0 v m hL hV
      have hok := H0.ok
      generalize (hung P ws).1 = PP at *
      generalize (hung P ws).2 = ends at *
      have s13 := s12.trans s3
      have hu2 := hu
      rw [vn_vi] at hu2
      refine ⟨_, rfl, u, v.map Int.ofNat, rfl, SqL.of hu2, by rw [List.length_map]; exact hV.1.pos, fun z z1 z2 => ?_⟩
      have hz := max_mx1 z1 z2
      rw [hm] at hz
      refine ⟨_, _, rfl, rfl, ?_⟩
      obtain ⟨ds, kv, hA, hPk⟩ := hP
      have hvl : v.length = PP.n := hV.2
      have hmn : m ≤ 110 := by
        have := hL.le (whole_range hok.pos c0)
        omega
      refine ⟨(m : Int), congrArg (fun j : Int => [V.int j]) hz, by omega, by omega, lcn (walk_range (lo := 0) (n := m)) (fun _ => true) (fun _ => .dK []) (by omega) (fun H' s' => trivial) YFn.same (fun i x H4 H5 hi s4 s5 y => ?_) (fun l dl H4 nl s4 hl hN hD => ?_)⟩
      · exact ⟨_, fun Qg h => h, rfl, evt_yes, fun _ H3 s3 Q3 q3 p np => q3 p _ (same_new np) np upd_same⟩
      have pe := pics_empty (c := fun _ => .dK []) hN (fun _ => rfl)
      have f0 : Fill H3 H4 l dl (empty m) := ⟨s4, hl, hN.new, _, pe⟩
      refine ⟨_, rfl, u, _, rfl, SqL.of (f0.sm _ _ hu), for_it walk_enum (fun i σ H' => ∃ y6 y7 y8 y9 R, σ = [some (.ref a), some (.ref c), some (.ref p), some (.ref e), some (.ref u), some (.ref l), y6, y7, y8, y9] ∧ Fill H3 H' l dl R ∧ LeadTo PP v m (dn PP kv i 0) R) ⟨none, none, none, none, _, rfl, f0, rfl, (fun a s x h => nomatch (h : (none : Option Nat) = some x)), fun r t x h => ?_⟩ (fun i σ H' _ ⟨_, _, _, _, _, _, fl, _⟩ => SqL.of (fl.sm _ _ hu)) (fun i x σ H5 H' hi ⟨y6, y7, y8, y9, R, er, f1, ld⟩ hy => ?_) (fun σ H' ⟨y6, y7, y8, y9, R, er, f1, ld⟩ => ?_)⟩
      · obtain ⟨_, z | ⟨_, z⟩⟩ := h
        · exact absurd z (Nat.not_lt_zero r)
        · rw [List.take_zero] at z
          cases z
      · subst er
        rw [List.length_map] at hi
        obtain ⟨T, x1, x2, rfl, nT, rfl, e1, ey⟩ := hy
        cases e1
        obtain ⟨pp, hpi, rfl⟩ := of_vn_get ey
        have sT := same_new (o := .tup [.int (i : Nat), .int (pp : Int)]) nT
        refine ⟨T, _, rfl, SqT.of upd_same, rfl, _, _, rfl, _, _, rfl, rfl, ?_⟩
        have f2 := f1.grow sT
        generalize upd H5 T (.tup [.int (i : Nat), .int (pp : Int)]) = H' at f2
        have hin : i < PP.n := by omega
        have hpd : v.getD i 0 = pp := by rw [List.getD_eq_getElem?_getD, hpi]; rfl
        obtain ⟨d, hd, rw0⟩ := hPk.get hin
        have had : p ≠ d := ne_of hA rw0.at_ (by intro z; cases z)
        have hud : u ≠ d := ne_of hu rw0.at_ (by intro z; cases z)
        have ndl : ∀ x ∈ dl, x ≠ d := fun x hx => by
          rintro rfl
          have := f2.new x hx
          rw [rw0.at_] at this
          cases this
        have hld : l ≠ d := by
          rintro rfl
          rw [rw0.at_] at nl
          cases nl
        refine ⟨d, _, f2.sm _ _ rw0.at_, trivial, fun od => ?_⟩
        have hA' : upd H3 d (.frz od (.dK ((kv i).map e2))) p = some (.lst (ds.map V.ref)) := by rw [upd_ne had]; exact hA
        have hu' : upd H3 d (.frz od (.dK ((kv i).map e2))) u = some (.lst (vn v)) := by rw [upd_ne hud]; exact hu
        have hd' : upd H3 d (.frz od (.dK ((kv i).map e2))) d = some (.frz od (.dK ((kv i).map e2))) := upd_same
        have f3 : Fill (upd H3 d (.frz od (.dK ((kv i).map e2)))) (upd H' d (.frz od (.dK ((kv i).map e2)))) l dl R := by
          obtain ⟨kvR, pR⟩ := f2.pic
          refine ⟨same_lock f2.sm, by rw [upd_ne hld]; exact f2.lst, fun x hx => by rw [upd_ne (ndl x hx)]; exact f2.new x hx, kvR, pR.nd, pR.len, fun j x hx => ?_⟩
          exact (pR.row j x hx).of (upd_ne (ndl x (List.mem_of_getElem? hx)))
        refine ⟨_, rfl, _, rfl, p, _, _, _, rfl, rfl, SqL.of (f3.sm _ _ hA'), atI_nat (refs_get hd), ?_⟩
        refine ⟨d, od, _, rfl, upd_same, for_it walk_items (fun j σ H2 => ∃ y8 y9 R, σ = [some (.ref a), some (.ref c), some (.ref p), some (.ref e), some (.ref u), some (.ref l), some (.int (pp : Int)), some (.int (i : Int)), y8, y9] ∧ Fill (upd H3 d (.frz od (.dK ((kv i).map e2)))) H2 l dl R ∧ LeadTo PP v m (dn PP kv i j) R) ⟨y8, y9, R, rfl, f3, ld⟩ (fun j σ H2 _ ⟨_, _, _, _, fl, _⟩ => fl.sm _ _ hd') (fun j x σ H5 H6 hj ⟨y8, y9, R, er, f4, ld4⟩ hy => ?_) (fun σ H2 ⟨y8, y9, R, er, f4, ld4⟩ => ?_)⟩
        · subst er
          rw [List.length_map] at hj
          obtain ⟨T, x1, x2, rfl, nT, rfl, e1, e3⟩ := hy
          have hkj : (kv i)[j]? = some (kv i)[j] := List.getElem?_eq_getElem hj
          generalize (kv i)[j] = kj at hkj
          obtain ⟨st, g⟩ := kj
          have e1 : (((kv i).map e2)[j]?).map (fun kv => kV kv.1) = some x1 := e1
          have e3 : (((kv i).map e2)[j]?).map Prod.snd = some x2 := e3
          rw [List.getElem?_map, hkj] at e1 e3
          cases e1
          cases e3
          have sT := same_new (o := .tup [.int st, .int (g : Int)]) nT
          have f5 := f4.grow sT
          have hgo : PP.go i st = some g := by rw [← rw0.go]; exact lk_of_mem rw0.nd (List.mem_of_getElem? hkj)
          have hgn := (hok.ok i st g hgo).2.1
          have hdn : ∀ r t x, dn PP kv i (j + 1) r t x → dn PP kv i j r t x ∨ (r = i ∧ t = st ∧ x = g) := fun r t x ⟨a1, a2⟩ => by
            rcases a2 with z | ⟨rfl, z⟩
            · exact .inl ⟨a1, .inl z⟩
            · rw [List.take_add_one, hkj] at z
              rcases List.mem_append.mp z with z | z
              · exact .inl ⟨a1, .inr ⟨rfl, z⟩⟩
              · have := List.mem_singleton.mp z
                cases this
                exact .inr ⟨rfl, rfl, rfl⟩
          refine ⟨T, _, rfl, SqT.of upd_same, rfl, _, _, rfl, _, _, rfl, rfl, ?_⟩
          have hgv : (vn v)[g]? = some (.int ((v.getD g 0 : Nat) : Int)) := vn_get (by rw [getD_lt (by omega)]; exact List.getElem?_eq_getElem (by omega))
          have hppm : pp < R.n := by
            rw [ld4.n]
            exact hV.1.lt pp (List.mem_of_getElem? hpi)
          obtain ⟨dx, hdx, hrx⟩ := f5.at_ hppm
          have hso : ∀ i s g, R.go i s = some g → stepOk L s := fun i s g e => by
            obtain ⟨r, g', h1, _⟩ := ld4.of_ i s g e
            exact (hok.ok r s g' h1).2.2.1
          refine ⟨_, rfl, _, rfl, u, _, _, _, rfl, rfl, SqL.of (f5.sm _ _ hu'), atI_nat hgv, _, rfl, _, rfl, l, _, _, _, rfl, rfl, SqL.of f5.lst, atI_nat hrx, _, rfl, ?_⟩
          cases hR : R.go pp st with
          | some x =>
            obtain ⟨r, g', h1, h2, h3⟩ := ld4.of_ pp st x hR
            have hx : x = v.getD g 0 := by
              obtain ⟨a1, a2, _, _⟩ := hok.ok r st g' h1
              rw [← h3]
              exact hV.1.fits r i st g' g (by omega) (by omega) (by omega) (by omega) h1 hgo (by rw [h2, hpd])
            subst hx
            refine ⟨dx, _, rfl, f5.again (L := L) hdx hR (by omega) hso, _, _, R, rfl, f5, ld4.n, ld4.of_, fun r t x hD => ?_⟩
            rcases hdn r t x hD with z | ⟨rfl, rfl, rfl⟩
            · exact ld4.to_ r t x z
            · rw [hpd]; exact hR
          | none =>
            obtain ⟨H7, p7, f7, b7⟩ := f5.put (g := v.getD g 0) (L := L) hdx hR (by omega) hso
            refine ⟨dx, _, rfl, p7, _, _, _, rfl, f7, ld4.n, fun b s x hx => ?_, fun r t x hD => ?_⟩
            · by_cases cc : b = pp ∧ s = st
              · obtain ⟨rfl, rfl⟩ := cc
                rw [set_at] at hx
                exact ⟨i, g, hgo, hpd, Option.some.inj hx⟩
              · rw [set_ne cc] at hx
                exact ld4.of_ b s x hx
            · rcases hdn r t x hD with z | ⟨rfl, rfl, rfl⟩
              · have h8 := ld4.to_ r t x z
                by_cases cc : v.getD r 0 = pp ∧ t = st
                · rw [cc.1, cc.2, hR] at h8
                  cases h8
                · rw [set_ne cc]
                  exact h8
              · rw [hpd, set_at]
        · subst er
          have hn1 := f4.sm _ _ hd'
          rw [List.length_map] at ld4
          refine ⟨hn1, _, _, _, _, R, rfl, ?_, ld4.less fun r t x ⟨a1, a2⟩ => ⟨a1, ?_⟩⟩
          · obtain ⟨kvR, pR⟩ := f4.pic
            refine ⟨same_unlock rw0.at_ f4.sm, by rw [upd_ne hld]; exact f4.lst, f2.new, kvR, pR.nd, pR.len, fun j x hx => ?_⟩
            exact (pR.row j x hx).of (upd_ne (ndl x (List.mem_of_getElem? hx)))
          · rcases a2 with z | ⟨rfl, z⟩
            · by_cases c : r = i
              · subst c
                exact .inr ⟨rfl, by rw [List.take_length]; exact lk_mem (by rw [rw0.go]; exact a1)⟩
              · exact .inl (by omega)
            · rw [List.take_zero] at z
              cases z
      · subst er
        rw [List.length_map, hvl] at ld
        have hlo := leads_ok hok hV
        have hfl := ld.full hok hV fun r s g e => ⟨e, .inl (hok.ok r s g e).1⟩
        obtain ⟨kvR, pR⟩ := f1.pic
        have s14 := s13.trans f1.sm
        obtain ⟨b, hWb, _⟩ := hW.same s14
        refine ⟨_, rfl, a, _, 0, _, rfl, rfl, hWb, atI_nat (j := 0) rfl, _, rfl, L, l, _, rfl, hlo, by omega, by show m ≤ 5000; omega, ⟨dl, kvR, f1.lst, pR.congr ld.n.symm fun i _ s => hfl i s⟩, fun t H5 s5 hB => ?_⟩
        exact fin t H5 (s14.trans s5) hB
end
end Wk
set_option Elab.async false
set_option linter.all false
set_option maxRecDepth 100000
set_option maxHeartbeats 4000000
namespace Wk
open PySem L2 Wc
section
variable {P : Program} {w : World} {K : PySem.W.Frag} {mg : Str → Option Value} {base : Heap}
abbrev s_paper_holds : Stmt := top 38
abbrev n_paper_holds : List Str := ["web", "walks", "value", "ways", "places", "room", "letter", "goal", "walk"]
theorem sc_paper_holds : FnScope n_paper_holds ["web", "walks", "value"] (defScope s_paper_holds) := ⟨rfl, rfl, rfl, by decide +kernel, rfl, by decide +kernel, by decide +kernel⟩
def sp_paper_holds (K : PySem.W.Frag) : Sp := fun vs H Q _ => ∃ (a c v : Addr) (L m : Nat) (P : Pic) (ws : List (List Int)) (ts : List (List Nat)) (f : Nat → Nat), vs = [.ref a, .ref c, .ref v] ∧ Ask L P ws ∧ WebAt K H a L P ∧ TuT K H c ws ∧
  BookAt K H v L ts ∧ Book L m ts ∧ 1 ≤ m ∧ m ≤ 40 ∧ f 0 = 0 ∧ (∀ r, r < P.n → f r < m) ∧ Cons (actB m ts) P f ∧ (∀ w ∈ ws, actW (actB m ts) w 0 ≠ 0) ∧ RV (.bl true) H Q
theorem ok_paper_holds (B : Bi mg) (F : Df K mg "paper_holds" s_paper_holds ["web", "walks", "value"]) (h_need_web_and_walks : Has P w K mg base 5 "need_web_and_walks" ["web", "walks"] (sp_need_ww K)) (h_is_a_book : Has P w K mg base 3 "is_a_book" ["value"] (sp_is_a_book K))
    (h_first_ways : Has P w K mg base 3 "first_ways" ["letters", "doors", "home"] (sp_first_ways K)) (h_doors_of : Has P w K mg base 1 "doors_of" ["rows"] (sp_doors_of K)) (h_turned_by : Has P w K mg base 2 "turned_by" ["book", "walk"] (sp_turned_by K))
    (h_ways_of : Has P w K mg base 1 "ways_of" ["web"] (sp_ways_of K)) : Has P w K mg base 6 "paper_holds" ["web", "walks", "value"] (sp_paper_holds K) := by
  refine F.ok sc_paper_holds (fun vs H Q E h => ?_) (fun f cdv A outer s H vs Q E hr h => ?_)
  · obtain ⟨a, c, v, L, m, P, ws, ts, f, rfl, _⟩ := h
    rfl
  · obtain ⟨a, c, v, L, m, P, ws, ts, f, rfl, k, hW, hT, hV, hB, hm1, hm40, hf0, hf, hC, hA, q⟩ := h
    have hp := k.web.ok
    have h4 := k.web.l4
    have h1 := k.web.l1
    have hn := k.n
    have hW0 := hW
    obtain ⟨b, hWb, hTb⟩ := hW0
    have hV0 := hV
    obtain ⟨vb, hVb, hVt⟩ := hV0
    obtain ⟨rs, hR, hRlen, _⟩ := hTb.ex
    rw [rowsOf_length] at hRlen
    refine ⟨_, (pss_cons (ps_expr (pe_has h_need_web_and_walks (hr.mono (by omega)) (pa_cons (pv 0) (pa_cons (pv 1) pa_nil))))
      (pss_cons (ps_if (PW.pt (pw_or (pt_not (pt_val (pe_has h_is_a_book (hr.mono (by omega)) (pa_cons (pv 2) pa_nil)))) (pw_or1 (pt_cmpR op_ne (pe_ix (kIxT K) (pv 2) pe_int (fun _ _ => rfl)) (pe_ix (kIxT K) (pv 0) pe_int (fun _ _ => rfl)) (nomark _)))))
        (pss_one (ps_ret pe_bl))
        pss_nil)
      (pss_cons (ps_set (i := 3) sc_paper_holds.nd rfl (Or.inr rfl) (pe_has h_first_ways (hr.mono (by omega)) (pa_cons (pe_ix (kIxT K) (pv 0) pe_int (fun _ _ => rfl)) (pa_cons (pe_has h_doors_of (hr.mono (by omega)) (pa_cons (pe_ix (kIxT K) (pv 0) pe_int (fun _ _ => rfl)) pa_nil)) (pa_cons pe_int pa_nil)))))
      (pss_cons (ps_setLc (i := 4) (own := [("room", 5)]) rfl sc_paper_holds.nd rfl rfl (sw_true rfl rfl rfl (by decide +kernel)) (pi_range1 rfl B.range (pa_cons (pe_callB (kLen K) (by rfl) B.len PySem.boot_len (pa_cons (pe_ix (kIxT K) (pv 0) pe_int (fun _ _ => rfl)) pa_nil)) pa_nil)) (blkOk_by (N := n_paper_holds) (sc := defScope s_paper_holds) (by decide +kernel)) (fun _ _ _ _ _ => (pg_name (i := 5) sc_paper_holds.nd rfl (Or.inl rfl))) (fun _ _ _ _ _ => pts_nil) (fun _ _ _ _ _ => (pe_ix (kIxL K) (pe_has h_turned_by (hr.mono (by omega)) (pa_cons (pv 2) (pa_cons (pe_dget (hu_of hr) (pv 3) (pv 5) (fun _ _ => rfl)) pa_nil))) pe_int (fun _ _ => rfl))))
      (pss_cons (ps_for PassesOwn.never rfl (pi_list (pe_has h_ways_of (hr.mono (by omega)) (pa_cons (pv 0) pa_nil))) (k_tup K (n := 3) rfl (pgs_cons (pg_name (i := 5) sc_paper_holds.nd rfl (Or.inl rfl)) (pgs_cons (pg_name (i := 6) sc_paper_holds.nd rfl (Or.inl rfl)) (pgs_cons (pg_name (i := 7) sc_paper_holds.nd rfl (Or.inl rfl)) pgs_nil))))
        (pss_one (ps_if (pt_cmpR op_ne (pe_ix (kIxT K) (pe_ix (kIxT K) (pe_ix (kIxT K) (pv 2) pe_int (fun _ _ => rfl)) (pe_op op_sub (pv 6) pe_int) (fun _ _ => rfl)) (pe_ix (kIxL K) (pv 4) (pv 5) (fun _ _ => rfl)) (fun _ _ => rfl)) (pe_ix (kIxL K) (pv 4) (pv 7) (fun _ _ => rfl)) (nomark _))
          (pss_one (ps_ret pe_bl))
          pss_nil)))
      (pss_one (ps_ret (pe_callB (kAll K) (by rfl) B.all (by decide +kernel) (pa_cons (pe_lc (own := [("walk", 8)]) rfl sc_paper_holds.nd (pi_tup (pv 1)) (blkOk_by (N := n_paper_holds) (sc := defScope s_paper_holds) (by decide +kernel)) (fun _ _ _ _ _ => (pg_name (i := 8) sc_paper_holds.nd rfl (Or.inl rfl))) (fun _ _ _ _ _ => pts_nil) (fun _ _ _ _ _ => (pe_cmpR op_ne (pe_ix (kIxL K) (pe_has h_turned_by (hr.mono (by omega)) (pa_cons (pv 2) (pa_cons (pv 8) pa_nil))) pe_int (fun _ _ => rfl)) pe_int (nomark _)))) pa_nil))))))))), ?_⟩
    refine ⟨_, rfl, _, rfl, a, c, L, P, ws, rfl, k.web, by omega, hW, hT, k.wok, fun H1 s1 => ?_⟩
    refine ⟨_, rfl, v, L, m, ts, rfl, hV.same s1, hB, h1, h4, hm1, hm40, fun H2 s2 => ?_⟩
    have s12 := s1.trans s2
    refine ⟨true, rfl, iteF ?_⟩
    refine ⟨_, rfl, v, _, 0, _, rfl, rfl, s12.tup hVb, atI_nat (j := 0) rfl, _, rfl, a, _, 0, _, rfl, rfl, s12.tup hWb, atI_nat (j := 0) rfl, rfl, _, rfl, ?_⟩
    rw [decide_eq_true rfl]
    refine iteF ?_
    refine ⟨_, rfl, a, _, 0, _, rfl, rfl, s12.tup hWb, atI_nat (j := 0) rfl, _, rfl, a, _, 1, _, rfl, rfl, s12.tup hWb, atI_nat (j := 1) rfl, b, L, P, rfl, hp, by omega, by omega, hTb.same s12, fun l ds kv H3 s3 nl nds hl hP => ?_⟩
    refine ⟨L, l, P, rfl, hp, by omega, by omega, ⟨ds, kv, hl, hP⟩, fun d kvs H4 s4 nd hd hways => ?_⟩
    have s14 := s12.trans (s3.trans s4)
    refine ⟨_, rfl, a, _, 1, _, rfl, rfl, s14.tup hWb, atI_nat (j := 1) rfl, b, _, rfl, .inr (s14.tup hR), ?_⟩
    rw [List.length_map, hRlen]
    refine ⟨_, rfl, by omega, by omega, lcg (walk_range (lo := 0) (n := P.n)) (fun _ => true) (fun i : Nat => V.int ((f i : Nat) : Int)) (by omega) (fun H' s' => trivial) YFn.same (fun i x H5 H6 hi s5 s6 y => ?_) (fun pl H5 npl s5 h5 => ?_)⟩
    · obtain ⟨_, rfl⟩ := y
      refine ⟨_, fun Qg h => h, rfl, evt_yes, fun _ H7 s7 Q7 q7 => ?_⟩
      have s7 : Same H6 H7 := s7
      have s47 := s6.trans s7
      obtain ⟨bw, wy, hv, hbw, hle⟩ := hways i (by rw [k.web.ord]; exact List.mem_range.mpr hi)
      have e0 : (0 : Int) + (i : Int) = (i : Int) := Int.zero_add _
      have hv' : valV kvs (Sum.inl ((0 : Int) + (i : Int))) = some (.ref bw) := by rw [e0]; exact hv
      refine ⟨_, rfl, _, rfl, _, rfl, d, _, rfl, (hv' ▸ DGet.k (k := Sum.inl ((0 : Int) + (i : Int))) (s47 _ _ hd)), v, bw, L, m, ts, wy, rfl, hV.same (s14.trans s47), hB, h1, by omega, by omega, s47.tup hbw, led_steps hp hle, fun t H8 s8 nt ht => ?_⟩
      have hz : (vn ((List.range m).map (actW (actB m ts) wy)))[0]? = some (.int ((f i : Nat) : Int)) := by
        refine vn_get ?_
        rw [List.getElem?_map, List.getElem?_range (by omega)]
        have := hC.led hle
        rw [hf0] at this
        exact congrArg some this
      refine ⟨t, _, 0, _, rfl, rfl, SqL.of ht, atI_nat (j := 0) hz, ?_⟩
      exact q7 H8 s8
    rw [given_all] at h5
    have s15 := s14.trans s5
    refine ⟨_, rfl, a, L, P, rfl, hp, by omega, by omega, hW.same s15, fun wl wts H6 s6 nwl hwl hway => ?_⟩
    have s16 := s15.trans s6
    have h6 := s6 _ _ h5
    refine ⟨wl, rfl, ⟨_, SqL.of hwl⟩, for_list (xs := wts.map V.ref) (fun i σ H' => ∃ y5 y6 y7 y8, σ = [some (.ref a), some (.ref c), some (.ref v), some (.ref d), some (.ref pl), y5, y6, y7, y8] ∧ Same H6 H') ⟨none, none, none, none, rfl, Same.refl H6⟩ (fun i σ H' _ ⟨_, _, _, _, _, sm⟩ => SqL.of (sm _ _ hwl)) (fun i x σ H' hx ⟨y5, y6, y7, y8, e, sm⟩ => ?_) (fun σ H' ⟨y5, y6, y7, y8, e, sm⟩ => ?_)⟩
    · subst e
      obtain ⟨t, ht, rfl⟩ := of_refs_get hx
      obtain ⟨r, j, g, ht3, hj, hg⟩ := (hway t (List.mem_of_getElem? ht)).same sm
      obtain ⟨hrn, hgn, hst, _⟩ := hp.ok r _ g hg
      have s17 := s16.trans sm
      have h7 := sm _ _ h6
      refine ⟨t, _, rfl, ht3, rfl, _, _, rfl, _, _, rfl, _, _, rfl, rfl, ?_⟩
      obtain ⟨as, hAs, hlen, hrow⟩ := hVt.ex
      rw [List.length_map, hB.len] at hlen
      have hja : j < as.length := by omega
      have hgj : as[j]? = some as[j] := List.getElem?_eq_getElem hja
      generalize as[j] = tj at hgj
      have htj := s17.tup (hrow j _ _ hgj (tts_get hB hj))
      have e1 : ((j : Int) + 1) - 1 = (j : Int) := by omega
      have pget : ∀ {x : Nat}, x < P.n → ((List.range P.n).map fun i : Nat => V.int ((f i : Nat) : Int))[x]? = some (.int ((f x : Nat) : Int)) := fun {x} hx => by
        rw [List.getElem?_map, List.getElem?_range hx]
        rfl
      have hval : (vi (tn (ts.getD j [])))[f r]? = some (.int ((f g : Nat) : Int)) := by
        rw [tn_vn]
        refine vn_get ?_
        have := rowS_get hB hst (hf r hrn)
        rw [rowS_pos] at this
        rw [this, hC r _ g hg]
      refine ⟨_, rfl, v, _, 1, _, rfl, rfl, s17.tup hVb, atI_nat (j := 1) rfl, _, rfl, _, _, rfl, rfl, vb, _, _, _, rfl, rfl, s17.tup hAs, (by show atI _ ((j : Int) + 1 - 1) = _; rw [e1]; exact atI_nat (refs_get hgj)), _, rfl, _, rfl, pl, _, _, _, rfl, rfl, SqL.of h7, atI_nat (pget hrn), tj, _, _, _, rfl, rfl, htj, atI_nat hval, _, rfl, _, rfl, pl, _, _, _, rfl, rfl, SqL.of h7, atI_nat (pget hgn), rfl, _, rfl, ?_⟩
      rw [decide_eq_true rfl]
      exact iteF ⟨_, _, _, _, rfl, sm⟩
    · subst e
      have s17 := s16.trans sm
      obtain ⟨as, hAs, hlen, hrow⟩ := hT.ex
      have hl4 := k.wok.l4
      refine ⟨_, rfl, c, rfl, ⟨_, s17.tup hAs⟩, lcg walk_tup (fun _ => true) (fun _ => V.bl true) (by rw [List.length_map]; omega) (fun H' s' => s'.tup (s17.tup hAs)) YAt.same (fun i x H8 H9 hi s8 s9 y => ?_) (fun D H8 hD s8 h8 => ?_)⟩
      · obtain ⟨wd, wk, rfl, hb, hns, hd⟩ := tu_get hlen (fun j b ns p r => s9.tup (s17.tup (hrow j b ns p r))) y.2
        obtain ⟨g1, g2⟩ := k.wok.get hns
        refine ⟨_, fun Qg h => h, rfl, evt_yes, fun _ H10 s10 Q10 q10 => ?_⟩
        have s10 : Same H9 H10 := s10
        refine ⟨_, rfl, _, rfl, v, wd, L, m, ts, wk, rfl, hV.same (s17.trans (s9.trans s10)), hB, h1, by omega, by omega, s10.tup hd, g1, fun t H11 s11 nt ht => ?_⟩
        have hz : (vn ((List.range m).map (actW (actB m ts) wk)))[0]? = some (.int ((actW (actB m ts) wk 0 : Nat) : Int)) := by
          refine vn_get ?_
          rw [List.getElem?_map, List.getElem?_range (by omega)]
          rfl
        refine ⟨t, _, 0, _, rfl, rfl, SqL.of ht, atI_nat (j := 0) hz, rfl, ?_⟩
        have hne := hA wk (List.mem_of_getElem? hns)
        rw [decide_eq_false (fun z => hne (by have := V.int.inj z; omega))]
        exact q10 H11 s11
      · rw [all_true] at h8
        refine ⟨_, _, rfl, SqL.of h8, ?_⟩
        rw [all_id]
        exact q H8 (s17.trans s8)
end
end Wk
set_option Elab.async false
set_option linter.all false
set_option maxRecDepth 100000
set_option maxHeartbeats 4000000
set_option exponentiation.threshold 2000
namespace Wk
open PySem L2 Wc
/-! ### the well -/
/-- the heap without what stands at q: what is said of it says nothing of q -/
def rm (H : Hp) (q : Addr) : Hp := fun a => if a = q then none else H a
theorem rm_self (H : Hp) (q : Addr) : rm H q q = none := if_pos rfl
theorem rm_ne {H : Hp} {q a : Addr} (h : a ≠ q) : rm H q a = H a := if_neg h
theorem rm_same (H : Hp) (q : Addr) : Same (rm H q) H := fun a o h => by
  by_cases c : a = q
  · rw [c, rm_self] at h
    cases h
  · rw [rm_ne c] at h
    exact h
theorem rm_of {H H' : Hp} (q : Addr) (e : Same H H') : Same (rm H q) H' := (rm_same H q).trans e
theorem rm_trans {H H1 H2 : Hp} {q : Addr} (a : Same (rm H q) H1) (b : Same (rm H1 q) H2) : Same (rm H q) H2 := fun c o h => by
  by_cases e : c = q
  · rw [e, rm_self] at h
    cases h
  · exact b c o (by rw [rm_ne e]; exact a c o h)
/-- from a heap that has nothing at q -/
theorem rm_base {B H1 H2 : Hp} {q : Addr} (a : Same B H1) (hq : B q = none) (b : Same (rm H1 q) H2) : Same B H2 := fun c o h => by
  have : c ≠ q := ne_of_none h hq
  exact b c o (by rw [rm_ne this]; exact a c o h)
/-- a well that at most n numbers were drawn from -/
def Well (H : Hp) (q : Addr) (n : Nat) : Prop := ∃ x y z : Int, H q = some (.lst [.int x, .int y, .int z]) ∧ 0 ≤ x ∧ 0 ≤ y ∧ y < 2 ^ 110 ∧ 0 ≤ z ∧ z ≤ (n : Int)
theorem Well.same {H H' : Hp} {q : Addr} {n : Nat} (h : Well H q n) (e : Same H H') : Well H' q n := let ⟨x, y, z, a, b⟩ := h; ⟨x, y, z, e _ _ a, b⟩
theorem Well.up {H : Hp} {q : Addr} {n m : Nat} (h : Well H q n) (e : n ≤ m) : Well H q m := let ⟨x, y, z, a, b, c, d, f, g⟩ := h; ⟨x, y, z, a, b, c, d, f, by omega⟩
theorem Well.there {H : Hp} {q : Addr} {n : Nat} (h : Well H q n) : ∃ o, H q = some o := let ⟨_, _, _, a, _⟩ := h; ⟨_, a⟩
theorem Well.of {H H' : Hp} {q : Addr} {n : Nat} (h : Well H q n) (e : H' q = H q) : Well H' q n := let ⟨x, y, z, a, b⟩ := h; ⟨x, y, z, e.trans a, b⟩
theorem Well.new {H : Hp} {q p : Addr} {n : Nat} (h : Well H q n) (hp : H p = none) : q ≠ p := let ⟨_, _, _, a, _⟩ := h; ne_of_none a hp
theorem Well.dK {H : Hp} {q p : Addr} {n : Nat} {kvs : List (Key × V)} (h : Well H q n) (hp : H p = some (.dK kvs)) : q ≠ p := let ⟨_, _, _, a, _⟩ := h; ne_of a hp (by intro z; cases z)
theorem Well.refs {H : Hp} {q p : Addr} {n : Nat} {ds : List Addr} (h : Well H q n) (hp : H p = some (.lst (ds.map V.ref))) : q ≠ p := let ⟨_, _, _, a, _⟩ := h; ne_of a hp (by
  intro z
  cases ds with
  | nil => cases z
  | cons d r => cases z)
theorem Well.tup {K : PySem.W.Frag} {H : Hp} {q a : Addr} {n : Nat} {xs : List V} (h : Well H q n) (ha : SqT K H a xs) : SqT K (rm H q) a xs := by
  obtain ⟨x, y, z, hq, _⟩ := h
  rcases ha with (h | ⟨o, h⟩) | h
  · exact .inl (.inl (by rw [rm_ne (ne_of h hq (by intro z; cases z))]; exact h))
  · exact .inl (.inr ⟨o, by rw [rm_ne (ne_of h hq (by intro z; cases z))]; exact h⟩)
  · exact .inr h
theorem Well.tut {K : PySem.W.Frag} {H : Hp} {q a : Addr} {n : Nat} {nss : List (List Int)} (h : Well H q n) (ha : TuT K H a nss) : TuT K (rm H q) a nss := by
  obtain ⟨as, h1, h2, h3⟩ := ha.ex
  exact ⟨as, h.tup h1, h2, fun i b ns p r => h.tup (h3 i b ns p r)⟩
theorem Well.web {K : PySem.W.Frag} {H : Hp} {q a : Addr} {n L : Nat} {P : Pic} (h : Well H q n) (ha : WebAt K H a L P) : WebAt K (rm H q) a L P := let ⟨b, h1, h2⟩ := ha; ⟨b, h.tup h1, h.tut h2⟩
theorem Well.pic {H : Hp} {q a : Addr} {n : Nat} {P : Pic} (h : Well H q n) (ha : PicAt H a P) : PicAt (rm H q) a P := by
  obtain ⟨ds, kv, h1, h2⟩ := ha
  exact ⟨ds, kv, by rw [rm_ne (h.refs h1).symm]; exact h1, h2.nd, h2.len, fun i d hd => (h2.row i d hd).of (rm_ne (h.dK (h2.row i d hd).at_).symm)⟩
section
variable {P : Program} {w : World} {K : PySem.W.Frag} {mg : Str → Option Value} {base : Heap}
abbrev s_law_well : Stmt := top 42
abbrev n_law_well : List Str := ["_law_script", "_law_k", "_law_cell", "_law_crowd", "_law_other", "_law_seed"]
theorem sc_law_well : FnScope n_law_well ["_law_script", "_law_k"] (defScope s_law_well) := ⟨rfl, rfl, rfl, by decide +kernel, rfl, by decide +kernel, by decide +kernel⟩
def sp_law_well (K : PySem.W.Frag) : Sp := fun vs H Q _ => ∃ (a : Addr) (ns : List Int) (k : Nat), vs = [.ref a, .int (k : Int)] ∧ SqL K H a (vi ns) ∧ ns.length ≤ 1000 ∧ k ≤ 1000 ∧ ∀ p H', Same H H' → H p = none → Well H' p 0 → Q (.ref p) H'
theorem small_mul {i j : Int} (h : -(2 ^ 64) < j ∧ j < 2 ^ 64) : CMul i j := .inr h
theorem small_mul' {i j : Int} (h : -(2 ^ 64) < i ∧ i < 2 ^ 64) : CMul i j := .inl h
theorem ten_pow {k : Nat} (h : (4 : Int) * (k : Int) ≤ 2 ^ 27) : CPowW 10 (k : Int) := ⟨by omega, by
  have e : Builtin.Int.intBits 10 = 4 := by decide +kernel
  rw [e]
  exact h⟩
theorem ok_law_well (B : Bi mg) (F : Df K mg "_law_well" s_law_well ["_law_script", "_law_k"]) : Has P w K mg base 1 "_law_well" ["_law_script", "_law_k"] (sp_law_well K) := by
  refine F.ok sc_law_well (fun vs H Q E h => ?_) (fun f cdv A outer s H vs Q E hr h => ?_)
  · obtain ⟨a, ns, k, rfl, _⟩ := h
    rfl
  · obtain ⟨a, ns, k, rfl, ha, hl, hk, q⟩ := h
    refine ⟨_, (pss_cons (ps_set (i := 2) sc_law_well.nd rfl (Or.inl rfl) (pe_op op_add (pe_op op_add (pe_op op_mul pe_int (pv 1)) pe_int) (pe_op op_mul pe_int (pe_callB (kLen K) (by rfl) B.len PySem.boot_len (pa_cons (pv 0) pa_nil)))))
      (pss_cons (ps_if (pt_cmpR op_lt (pv 1) (pe_callB (kLen K) (by rfl) B.len PySem.boot_len (pa_cons (pv 0) pa_nil)) (nomark _))
        (pss_one (ps_set (i := 2) sc_law_well.nd rfl (Or.inl rfl) (pe_ix (kIxL K) (pv 0) (pv 1) (fun _ _ => rfl))))
        pss_nil)
      (pss_cons (ps_set (i := 3) sc_law_well.nd rfl (Or.inl rfl) (pe_callB (kSum K) (by rfl) B.sum (by decide +kernel) (pa_cons (pe_lc (own := [("_law_other", 4)]) rfl sc_law_well.nd (pi_list (pv 0)) (blkOk_by (N := n_law_well) (sc := defScope s_law_well) (by decide +kernel)) (fun _ _ _ _ _ => (pg_name (i := 4) sc_law_well.nd rfl (Or.inl rfl))) (fun _ _ _ _ _ => pts_nil) (fun _ _ _ _ _ => (pe_op op_mod (pe_callTy call_int1 (by rfl) B.int (by decide +kernel) (pa_cons (pv 4) pa_nil)) (pe_op op_add (pe_op op_powW pe_int pe_int) pe_int)))) pa_nil)))
      (pss_cons (ps_set (i := 5) sc_law_well.nd rfl (Or.inl rfl) (pe_op op_mod (pe_callTy call_int1 (by rfl) B.int (by decide +kernel) (pa_cons (pe_op op_add (pe_op op_add (pe_op op_add (pe_op op_mul (pe_callB call_abs (by rfl) B.abs (by decide +kernel) (pa_cons (pv 2) pa_nil)) pe_int) (pe_op op_mul pe_int (pe_callTy call_int1 (by rfl) B.int (by decide +kernel) (pa_cons (pe_cmpR op_lt (pv 2) pe_int (nomark _)) pa_nil)))) (pe_op op_mul (pv 3) pe_int)) (pe_op op_mul pe_int (pv 1))) pa_nil)) (pe_op op_add (pe_op op_powW pe_int pe_int) pe_int)))
      (pss_one (ps_ret (pe_lst (pa_cons (pe_callB (call_max2 rfl) (by rfl) B.max (by decide +kernel) (pa_cons pe_int (pa_cons (pe_op op_sub (pv 2) (pe_op op_powW pe_int pe_int)) pa_nil))) (pa_cons (pv 5) (pa_cons pe_int pa_nil)))))))))), ?_⟩
    refine ⟨_, rfl, _, _, rfl, rfl, small_mul' (by decide), _, _, rfl, rfl, _, rfl, a, _, rfl, .inl ha, _, _, rfl, rfl, small_mul' (by decide), _, _, rfl, rfl, ?_⟩
    refine ⟨_, rfl, _, rfl, a, _, rfl, .inl ha, _, _, rfl, rfl, _, rfl, ?_⟩
    have hal : (vi ns).length = ns.length := List.length_map _
    rw [hal]
    by_cases ck : (k : Int) < (ns.length : Int)
    case' pos =>
      rw [decide_eq_true ck]
      have hkl : k < ns.length := by omega
      refine iteT ⟨_, rfl, _, rfl, a, _, _, _, rfl, rfl, ha, atI_nat (vi_get (List.getElem?_eq_getElem hkl)), ?_⟩
      generalize ns[k] = cell
    case' neg =>
      rw [decide_eq_false ck]
      refine iteF ?_
      show tSeq _ _ _ [some (V.ref a), some (V.int (k : Int)), some (V.int (43 * (k : Int) + 29 + 7 * (ns.length : Int))), none, none, none] H
      generalize 43 * (k : Int) + 29 + 7 * (ns.length : Int) = cell
    all_goals
      refine ⟨_, rfl, a, rfl, ⟨_, ha⟩, lcg walk_list (fun _ => true) (fun i => V.int ((ns.getD i 0) % (10 ^ 24 + 7))) (by rw [hal]; omega) (fun H' s' => s'.lst ha) YAt.same (fun i x H2 H3 hi s2 s3 y => ?_) (fun D H2 hD s2 h2 => ?_)⟩
      · obtain ⟨z, hz, rfl⟩ := of_vi_get y.2
        refine ⟨_, fun Qg h => h, rfl, evt_yes, fun _ H4 s4 Q4 q4 => ?_⟩
        have ez : ns.getD i 0 = z := by rw [List.getD_eq_getElem?_getD, hz]; rfl
        rw [ez] at q4
        refine ⟨_, rfl, .inl ⟨_, rfl, _, _, rfl, rfl, ten_pow (k := 24) (by decide), _, _, rfl, rfl, _, _, rfl, rfl, (by show (0 : Int) < 10 ^ Int.toNat 24 + 7; decide), q4 H4 (Evl.Ex.refl H4)⟩⟩
      · rw [given_all] at h2
        have h2' : H2 D = some (.lst (((List.range (vi ns).length).map fun i : Nat => ns.getD i 0 % (10 ^ 24 + 7)).map V.int)) := by rw [h2, List.map_map]; rfl
        refine ⟨_, _, rfl, SqL.of h2', ?_⟩
        generalize ((List.range (vi ns).length).map fun i : Nat => ns.getD i 0 % (10 ^ 24 + 7)).sum = crowd
        refine ⟨_, rfl, _, rfl, _, _, rfl, rfl, small_mul (by decide), _, rfl, _, _, rfl, rfl, .inr ⟨_, rfl, ?_⟩⟩
        refine ⟨_, _, rfl, rfl, small_mul' (by decide), _, _, rfl, rfl, _, rfl, _, _, rfl, rfl, small_mul (by decide), _, _, rfl, rfl, _, rfl, _, _, rfl, rfl, small_mul' (by decide), _, _, rfl, rfl, .inl ⟨_, rfl, ?_⟩⟩
        refine ⟨_, _, rfl, rfl, ten_pow (k := 30) (by decide), _, _, rfl, rfl, _, _, rfl, rfl, (by show (0 : Int) < 10 ^ Int.toNat 30 + 57; decide), ?_⟩
        refine ⟨_, rfl, _, _, rfl, rfl, ten_pow (k := 18) (by decide), _, _, rfl, rfl, _, _, rfl, _, rfl, (by show 3 ≤ sizeLine; decide), fun p np => ?_⟩
        refine q p _ (s2.trans (same_new np)) (s2.free np) ⟨_, _, _, upd_same, ?_, ?_, ?_, Int.le_refl 0, Int.le_refl 0⟩
        · split <;> omega
        · exact Int.emod_nonneg _ (by decide)
        · exact Int.lt_of_lt_of_le (Int.emod_lt_of_pos _ (by decide)) (by decide)
abbrev s_law_pick : Stmt := top 43
abbrev n_law_pick : List Str := ["_law_well_here", "_law_many", "_law_found", "_law_stirred"]
theorem sc_law_pick : FnScope n_law_pick ["_law_well_here", "_law_many"] (defScope s_law_pick) := ⟨rfl, rfl, rfl, by decide +kernel, rfl, by decide +kernel, by decide +kernel⟩
def sp_law_pick : Sp := fun vs H Q _ => ∃ (q : Addr) (n many : Nat), vs = [.ref q, .int (many : Int)] ∧ 0 < many ∧ many ≤ 1000000 ∧ n ≤ 1000000 ∧ Well H q n ∧ ∀ (r : Nat) H', Same (rm H q) H' → Well H' q (n + 1) → r < many → Q (.int (r : Int)) H'
theorem ok_law_pick (B : Bi mg) (F : Df K mg "_law_pick" s_law_pick ["_law_well_here", "_law_many"]) : Has P w K mg base 1 "_law_pick" ["_law_well_here", "_law_many"] sp_law_pick := by
  refine F.ok sc_law_pick (fun vs H Q E h => ?_) (fun f cdv A outer s H vs Q E hr h => ?_)
  · obtain ⟨q, n, many, rfl, _⟩ := h
    rfl
  · obtain ⟨q, n, many, rfl, hm, hm6, hn, ⟨x, y, z, hq, hx, hy, hy2, hz, hz2⟩, fin⟩ := h
    refine ⟨_, (pss_cons (ps_if (pt_cmpR op_gt (pe_ix (kIxL K) (pv 0) pe_int (fun _ _ => rfl)) pe_int (nomark _))
        (pss_cons (ps_set (i := 2) sc_law_pick.nd rfl (Or.inl rfl) (pe_op op_mod (pe_callTy call_int1 (by rfl) B.int (by decide +kernel) (pa_cons (pe_ix (kIxL K) (pv 0) pe_int (fun _ _ => rfl)) pa_nil)) (pv 1)))
        (pss_cons (ps_asg (pe_op op_fdivW (pe_ix (kIxL K) (pv 0) pe_int (fun _ _ => rfl)) (pv 1)) (pg_sub (pv 0) pe_int set_list))
        (pss_one (ps_ret (pv 2)))))
        pss_nil)
      (pss_cons (ps_asg (pe_op op_add (pe_ix (kIxL K) (pv 0) pe_int (fun _ _ => rfl)) pe_int) (pg_sub (pv 0) pe_int set_list))
      (pss_cons (ps_set (i := 3) sc_law_pick.nd rfl (Or.inl rfl) (pe_op op_mod (pe_callTy call_int1 (by rfl) B.int (by decide +kernel) (pa_cons (pe_op op_add (pe_op op_powW (pe_op op_add (pe_ix (kIxL K) (pv 0) pe_int (fun _ _ => rfl)) (pe_op op_mul pe_int (pe_ix (kIxL K) (pv 0) pe_int (fun _ _ => rfl)))) pe_int) (pe_op op_mul pe_int (pe_ix (kIxL K) (pv 0) pe_int (fun _ _ => rfl)))) pa_nil)) (pe_op op_add (pe_op op_powW pe_int pe_int) pe_int)))
      (pss_cons (ps_set (i := 3) sc_law_pick.nd rfl (Or.inl rfl) (pe_op op_mod (pe_callTy call_int1 (by rfl) B.int (by decide +kernel) (pa_cons (pe_op op_mulW (pv 3) (pe_op op_add (pv 3) (pe_op op_mul pe_int (pe_ix (kIxL K) (pv 0) pe_int (fun _ _ => rfl))))) pa_nil)) (pe_op op_add (pe_op op_powW pe_int pe_int) pe_int)))
      (pss_one (ps_ret (pe_op op_mod (pe_callTy call_int1 (by rfl) B.int (by decide +kernel) (pa_cons (pe_op op_fdivW (pv 3) pe_int) pa_nil)) (pv 1)))))))), ?_⟩
    have hm0 : (0 : Int) < (many : Int) := by omega
    have fin' : ∀ (i : Int) H', Same (rm H q) H' → Well H' q (n + 1) → Q (.int (i % (many : Int))) H' := fun i H' a b => by
      have h1 := Int.emod_nonneg i (by omega : (many : Int) ≠ 0)
      have h2 := Int.emod_lt_of_pos i hm0
      have h3 := fin (i % (many : Int)).toNat H' a b (by omega)
      rwa [Int.toNat_of_nonneg h1] at h3
    refine ⟨_, rfl, q, _, 0, _, rfl, rfl, SqL.of hq, atI_nat (j := 0) rfl, _, _, rfl, rfl, _, rfl, ?_⟩
    by_cases c : x > 0
    · rw [decide_eq_true c]
      refine iteT ?_
      refine ⟨_, rfl, q, _, 0, _, rfl, rfl, SqL.of hq, atI_nat (j := 0) rfl, .inl ⟨_, rfl, _, rfl, _, _, rfl, rfl, hm0, ?_⟩⟩
      refine ⟨_, rfl, q, _, 0, _, rfl, rfl, SqL.of hq, atI_nat (j := 0) rfl, _, rfl, _, _, rfl, rfl, ⟨hm0, ?_⟩, ?_⟩
      · show (many : Int).natAbs.log2 < 9000
        have h1 : (many : Int).natAbs = many := by omega
        rw [h1]
        have : many.log2 < 20 := (Nat.log2_lt (by omega)).mpr (by omega)
        omega
      · refine ⟨_, rfl, q, _, _, 0, rfl, rfl, hq, rfl, ?_⟩
        refine ⟨_, rfl, fin' x _ ((rm_same H q).mut (rm_self H q)) ⟨_, _, _, upd_same, ?_, hy, hy2, hz, by omega⟩⟩
        exact Int.ediv_nonneg hx (by omega)
    · rw [decide_eq_false c]
      refine iteF ?_
      refine ⟨_, rfl, q, _, 2, _, rfl, rfl, SqL.of hq, atI_nat (j := 2) rfl, _, _, rfl, rfl, _, rfl, q, _, 2, 2, rfl, rfl, hq, rfl, ?_⟩
      have h1 : upd H q (.lst [.int x, .int y, .int (z + 1)]) q = some (.lst [.int x, .int y, .int (z + 1)]) := upd_same
      have sm : Same (rm H q) (upd H q (.lst [.int x, .int y, .int (z + 1)])) := (rm_same H q).mut (rm_self H q)
      have hw : Well (upd H q (.lst [.int x, .int y, .int (z + 1)])) q (n + 1) := ⟨_, _, _, upd_same, hx, hy, hy2, by omega, by omega⟩
      show tSeq _ _ _ _ (upd H q (.lst [.int x, .int y, .int (z + 1)]))
      generalize upd H q (.lst [.int x, .int y, .int (z + 1)]) = H1 at h1 sm hw
      have hz1 : 0 ≤ z + 1 ∧ z + 1 ≤ 1000001 := by omega
      generalize z + 1 = u at h1 hz1
      refine ⟨_, rfl, q, _, 1, _, rfl, rfl, SqL.of h1, atI_nat (j := 1) rfl, _, rfl, q, _, 2, _, rfl, rfl, SqL.of h1, atI_nat (j := 2) rfl, _, _, rfl, rfl, small_mul' (by decide), _, _, rfl, rfl, _, _, rfl, rfl, ⟨by decide, ?_⟩, ?_⟩
      · have : Builtin.Int.intBits (y + 161803398 * u) ≤ 111 := intBits_le_iff.mpr (by omega)
        omega
      refine ⟨_, rfl, q, _, 2, _, rfl, rfl, SqL.of h1, atI_nat (j := 2) rfl, _, _, rfl, rfl, small_mul' (by decide), _, _, rfl, rfl, .inl ⟨_, rfl, ?_⟩⟩
      refine ⟨_, _, rfl, rfl, ten_pow (k := 31) (by decide), _, _, rfl, rfl, _, _, rfl, rfl, (by show (0 : Int) < 10 ^ Int.toNat 31 + 33; decide), ?_⟩
      have hs : ∀ i : Int, 0 ≤ i % (10 ^ Int.toNat 31 + 33) ∧ i % (10 ^ Int.toNat 31 + 33) < 2 ^ 110 := fun i => ⟨Int.emod_nonneg _ (by decide), Int.lt_of_lt_of_le (Int.emod_lt_of_pos _ (by decide)) (by decide)⟩
      obtain ⟨hs1, hs2⟩ := hs ((y + 161803398 * u) ^ Int.toNat 3 + 29 * u)
      refine ⟨_, rfl, _, rfl, _, rfl, q, _, 2, _, rfl, rfl, SqL.of h1, atI_nat (j := 2) rfl, _, _, rfl, rfl, small_mul' (by decide), _, _, rfl, rfl, _, _, rfl, rfl, wide_mul (a := 111) (b := 111) ?_ ?_ (by decide) (by decide) (by decide), .inl ⟨_, rfl, ?_⟩⟩
      · generalize ((y + 161803398 * u) ^ Int.toNat 3 + 29 * u) % (10 ^ Int.toNat 31 + 33) = s at hs1 hs2 ⊢
        omega
      · generalize ((y + 161803398 * u) ^ Int.toNat 3 + 29 * u) % (10 ^ Int.toNat 31 + 33) = s at hs1 hs2 ⊢
        omega
      refine ⟨_, _, rfl, rfl, ten_pow (k := 29) (by decide), _, _, rfl, rfl, _, _, rfl, rfl, (by show (0 : Int) < 10 ^ Int.toNat 29 + 319; decide), ?_⟩
      refine ⟨_, rfl, _, _, rfl, rfl, ⟨by decide, by decide +kernel⟩, .inl ⟨_, rfl, _, rfl, _, _, rfl, rfl, hm0, ?_⟩⟩
      exact fin' _ _ sm hw
end
end Wk
set_option Elab.async false
set_option linter.all false
set_option maxRecDepth 100000
set_option maxHeartbeats 4000000
namespace Wk
open PySem L2 Wc
theorem ifS_if {p : Prop} {t : TT} {A B : TS} {D : Ends} {σ : St} {H : Hp} (ht : ∀ R : Bool → Hp → Prop, (p → R true H) → R false H → t σ H R) (a : p → A D σ H) (b : B D σ H) : tIfS t A B D σ H := ht _ (fun h => iteT (a h)) (iteF b)
section
variable {P : Program} {w : World} {K : PySem.W.Frag} {mg : Str → Option Value} {base : Heap}
abbrev s_law_back : Stmt := top 44
abbrev n_law_back : List Str := ["_law_walk_here", "_law_step"]
theorem sc_law_back : FnScope n_law_back ["_law_walk_here"] (defScope s_law_back) := ⟨rfl, rfl, rfl, by decide +kernel, rfl, by decide +kernel, by decide +kernel⟩
def sp_law_back (K : PySem.W.Frag) : Sp := fun vs H Q _ => ∃ (a : Addr) (w : List Int), vs = [.ref a] ∧ TI K H a w ∧ w.length ≤ 1000 ∧ RT (vi (back w)) H Q
theorem ok_law_back (B : Bi mg) (F : Df K mg "_law_back" s_law_back ["_law_walk_here"]) : Has P w K mg base 1 "_law_back" ["_law_walk_here"] (sp_law_back K) := by
  refine F.ok sc_law_back (fun vs H Q E h => ?_) (fun f cdv A outer s H vs Q E hr h => ?_)
  · obtain ⟨a, w, rfl, _⟩ := h
    rfl
  · obtain ⟨a, w, rfl, ha, hw, q⟩ := h
    refine ⟨_, (pss_one (ps_ret (pe_callTy (kTup K) (by rfl) B.tuple (by decide +kernel) (pa_cons (pe_lc (own := [("_law_step", 1)]) rfl sc_law_back.nd (pi_tup (pe_revT (pv 0))) (blkOk_by (N := n_law_back) (sc := defScope s_law_back) (by decide +kernel)) (fun _ _ _ _ _ => (pg_name (i := 1) sc_law_back.nd rfl (Or.inl rfl))) (fun _ _ _ _ _ => pts_nil) (fun _ _ _ _ _ => (pe_un un_neg (pv 1)))) pa_nil)))), ?_⟩
    refine ⟨_, rfl, a, _, rfl, ha, fun p np => ?_⟩
    have s1 := same_new (o := .tup (vi w).reverse) np
    have hp : upd H p (.tup (vi w).reverse) p = some (.tup (vi w.reverse)) := by rw [upd_same, vi, vi, List.map_reverse]
    refine ⟨p, rfl, ⟨_, SqT.of hp⟩, lcg walk_tup (fun _ => true) (fun i => V.int (-(w.reverse.getD i 0))) (by rw [List.length_map, List.length_reverse]; omega) (fun H' s' => s'.tup (SqT.of hp)) YAt.same (fun i x H2 H3 hi s2 s3 y => ?_) (fun D H2 hD s2 h2 => ?_)⟩
    · obtain ⟨z, hz, rfl⟩ := of_vi_get y.2
      refine ⟨_, fun Qg h => h, rfl, evt_yes, fun _ H4 s4 Q4 q4 => ?_⟩
      have ez : w.reverse.getD i 0 = z := by rw [List.getD_eq_getElem?_getD, hz]; rfl
      rw [ez] at q4
      exact ⟨_, rfl, _, rfl, q4 H4 (Evl.Ex.refl H4)⟩
    · have e2 : Evl.given (vi w.reverse).length (fun _ => true) (fun i => V.int (-(w.reverse.getD i 0))) = vi (back w) := by
        refine given_eq (by rw [vi, vi, List.length_map, List.length_map]; unfold back; rw [List.length_map]) fun i y h => ?_
        obtain ⟨z, hz, rfl⟩ := of_vi_get h
        unfold back at hz
        rw [List.getElem?_map] at hz
        obtain ⟨x, hx, rfl⟩ := Option.map_eq_some_iff.mp hz
        rw [List.getD_eq_getElem?_getD, hx]
        rfl
      rw [e2] at h2
      refine ⟨D, _, rfl, .inl ⟨SqL.of h2, fun u nu => ?_⟩⟩
      exact q u _ (s1.trans (s2.trans (same_new nu))) ((s1.trans s2).free nu) upd_same
/-! ### where a walk leads -/
def vo : Option Nat → V
  | none => .non
  | some g => .int (g : Int)
theorem led_take {P : Pic} {r i : Nat} {w : List Int} {s : Int} (h : w[i]? = some s) : led P r (w.take (i + 1)) = (led P r (w.take i)).bind fun g => P.go g s := by
  rw [List.take_add_one, h]
  exact led_snoc P r _ s
abbrev s_law_led : Stmt := top 51
abbrev n_law_led : List Str := ["_law_doors_here", "_law_room", "_law_walk_here", "_law_here", "_law_step"]
theorem sc_law_led : FnScope n_law_led ["_law_doors_here", "_law_room", "_law_walk_here"] (defScope s_law_led) := ⟨rfl, rfl, rfl, by decide +kernel, rfl, by decide +kernel, by decide +kernel⟩
def sp_law_led (K : PySem.W.Frag) : Sp := fun vs H Q _ => ∃ (a c : Addr) (r L : Nat) (P : Pic) (w : List Int), vs = [.ref a, .int (r : Int), .ref c] ∧ P.Ok L ∧ r < P.n ∧ PicAt H a P ∧ TI K H c w ∧ RV (vo (led P r w)) H Q
theorem ok_law_led (B : Bi mg) (F : Df K mg "_law_led" s_law_led ["_law_doors_here", "_law_room", "_law_walk_here"]) : Has P w K mg base 1 "_law_led" ["_law_doors_here", "_law_room", "_law_walk_here"] (sp_law_led K) := by
  refine F.ok sc_law_led (fun vs H Q E h => ?_) (fun f cdv A outer s H vs Q E hr h => ?_)
  · obtain ⟨a, c, r, L, P, w, rfl, _⟩ := h
    rfl
  · obtain ⟨a, c, r, L, P, w, rfl, hp, hrn, ⟨ds, kv, hA, hP⟩, hc, q⟩ := h
    refine ⟨_, (pss_cons (ps_set (i := 3) sc_law_led.nd rfl (Or.inl rfl) (pv 1))
      (pss_cons (ps_for PassesOwn.never rfl (pi_tup (pv 2)) (pg_name (i := 4) sc_law_led.nd rfl (Or.inl rfl))
        (pss_one (ps_if (pt_cmpR op_notN (pv 3) pe_non (nomark _))
          (pss_one (ps_set (i := 3) sc_law_led.nd rfl (Or.inl rfl) (pe_dget1 (hu_of hr) (pe_ix (kIxL K) (pv 0) (pv 3) (fun _ _ => rfl)) (pv 4) ⟨by rfl, by rfl, by rfl, by rfl⟩)))
          pss_nil)))
      (pss_one (ps_ret (pv 3))))), ?_⟩
    refine ⟨_, rfl, _, rfl, c, rfl, ⟨_, hc⟩, for_tup (xs := vi w) (fun i σ H' => ∃ y4, σ = [some (.ref a), some (.int (r : Int)), some (.ref c), some (vo (led P r (w.take i))), y4] ∧ Same H H') ⟨none, rfl, Same.refl H⟩ (fun i σ H' _ ⟨_, _, sm⟩ => sm.tup hc) (fun i x σ H' hx ⟨y4, e, sm⟩ => ?_) (fun σ H' ⟨y4, e, sm⟩ => ?_)⟩
    · subst e
      obtain ⟨z, hz, rfl⟩ := of_vi_get hx
      have e1 := led_take (P := P) (r := r) hz
      cases hg : led P r (w.take i) with
      | none =>
        rw [hg] at e1
        refine ⟨_, rfl, rfl, _, rfl, iteF ?_⟩
        exact ⟨_, by rw [e1]; rfl, sm⟩
      | some g =>
        rw [hg] at e1
        have hgn := led_lt hp hrn hg
        obtain ⟨d, hd, hrow⟩ := (hP.same sm).get hgn
        refine ⟨_, rfl, rfl, _, rfl, iteT ?_⟩
        refine ⟨_, rfl, _, rfl, a, _, _, _, rfl, rfl, SqL.of (sm _ _ hA), atI_nat (refs_get hd), d, rfl, hrow.isD, _, rfl, _, hrow.get z, ?_⟩
        have ev : ((P.go g z).map fun g : Nat => V.int (g : Int)).getD .non = vo (led P r (w.take (i + 1))) := by
          rw [e1]
          show _ = vo (P.go g z)
          cases P.go g z <;> rfl
        exact ⟨some (.int z), by rw [← ev]; rfl, sm⟩
    · subst e
      rw [List.length_map, List.take_length]
      exact ⟨_, rfl, q H' sm⟩
/-! ### walks drawn -/
/-- a walk drawn: at most k numbers, at most m steps -/
def RWalk (K : PySem.W.Frag) (L n m : Nat) (q : Addr) (H : Hp) (Q : VK) : Prop := ∀ p wk H', Same (rm H q) H' → Well H' q n → TI K H' p wk → (∀ s ∈ wk, stepOk L s) → wk.length ≤ m → Q (.ref p) H'
abbrev s_law_walk : Stmt := top 46
abbrev n_law_walk : List Str := ["_law_well_here", "_law_letters", "_law_most", "_law_found", "_law_turn", "_law_step"]
theorem sc_law_walk : FnScope n_law_walk ["_law_well_here", "_law_letters", "_law_most"] (defScope s_law_walk) := ⟨rfl, rfl, rfl, by decide +kernel, rfl, by decide +kernel, by decide +kernel⟩
def sp_law_walk (K : PySem.W.Frag) : Sp := fun vs H Q _ => ∃ (q : Addr) (n L m : Nat), vs = [.ref q, .int (L : Int), .int (m : Int)] ∧ Well H q n ∧ n ≤ 900000 ∧ 1 ≤ L ∧ L ≤ 5 ∧ m ≤ 40 ∧ RWalk K L (n + 100) m q H Q
theorem ok_law_walk (B : Bi mg) (F : Df K mg "_law_walk" s_law_walk ["_law_well_here", "_law_letters", "_law_most"]) (h__law_pick : Has P w K mg base 1 "_law_pick" ["_law_well_here", "_law_many"] sp_law_pick) :
    Has P w K mg base 2 "_law_walk" ["_law_well_here", "_law_letters", "_law_most"] (sp_law_walk K) := by
  refine F.ok sc_law_walk (fun vs H Q E h => ?_) (fun f cdv A outer s H vs Q E hr h => ?_)
  · obtain ⟨q, n, L, m, rfl, _⟩ := h
    rfl
  · obtain ⟨q, n, L, m, rfl, hw, hn, hL1, hL5, hm, fin⟩ := h
    refine ⟨_, (pss_cons (ps_set (i := 3) sc_law_walk.nd rfl (Or.inl rfl) (pe_lst pa_nil))
      (pss_cons (ps_for PassesOwn.never rfl (pi_range1 rfl B.range (pa_cons (pe_has h__law_pick (hr.mono (by omega)) (pa_cons (pv 0) (pa_cons (pe_op op_add (pv 2) pe_int) pa_nil))) pa_nil)) (pg_name (i := 4) sc_law_walk.nd rfl (Or.inl rfl))
        (pss_cons (ps_set (i := 5) sc_law_walk.nd rfl (Or.inl rfl) (pe_op op_add pe_int (pe_has h__law_pick (hr.mono (by omega)) (pa_cons (pv 0) (pa_cons (pv 1) pa_nil)))))
        (pss_one (ps_expr (k_bm K PySem.F.plainAttrs_list PySem.F.slot_list_append PySem.F.type_list_append mt_append (pv 3) (pa_cons (pe_ifExp (pt_cmpR op_eq (pe_has h__law_pick (hr.mono (by omega)) (pa_cons (pv 0) (pa_cons pe_int pa_nil))) pe_int (nomark _)) (pv 5) (pe_un un_neg (pv 5))) pa_nil))))))
      (pss_one (ps_ret (pe_callTy (kTup K) (by rfl) B.tuple (by decide +kernel) (pa_cons (pv 3) pa_nil)))))), ?_⟩
    refine ⟨Nat.zero_le _, fun l nl => ?_⟩
    have s1 := same_new (o := .lst []) nl
    have hql := hw.new nl
    have nlB : rm H q l = none := by rw [rm_ne hql.symm]; exact nl
    have sB : Same (rm H q) (upd H l (.lst [])) := (rm_same H q).trans s1
    refine ⟨_, rfl, _, rfl, _, _, rfl, rfl, q, n, m + 1, rfl, by omega, by omega, by omega, hw.same s1, fun r H1 s2 w2 hrm => ?_⟩
    have s12 := rm_base sB (rm_self H q) s2
    have hl1 : H1 l = some (.lst []) := s2 l _ (by rw [rm_ne hql.symm]; exact upd_same)
    refine ⟨(r : Int), rfl, by omega, by omega, for_range (lo := 0) (n := r) (fun i σ H' => ∃ y4 y5 wk, σ = [some (.ref q), some (.int (L : Int)), some (.int (m : Int)), some (.ref l), y4, y5] ∧ Same (rm H q) H' ∧ Well H' q (n + 1 + 2 * i) ∧ H' l = some (.lst (vi wk)) ∧ (∀ s ∈ wk, stepOk L s) ∧ wk.length = i) ⟨none, none, [], rfl, s12, w2, hl1, (fun _ h => nomatch h), rfl⟩ (fun i σ H' hi ⟨y4, y5, wk, e, sm, hW, hl, hst, hlen⟩ => ?_) (fun σ H' ⟨y4, y5, wk, e, sm, hW, hl, hst, hlen⟩ => ?_)⟩
    · subst e
      refine ⟨_, rfl, _, rfl, q, _, L, rfl, by omega, by omega, by omega, hW, fun t H2 s3 w3 htL => ?_⟩
      have sm2 := rm_base sm (rm_self H q) s3
      have hl2 : H2 l = some (.lst (vi wk)) := s3 l _ (by rw [rm_ne hql.symm]; exact hl)
      refine ⟨_, _, rfl, rfl, ?_⟩
      refine ⟨_, rfl, .inl ⟨rfl, _, SqL.of hl2⟩, _, rfl, q, _, 2, rfl, by omega, by omega, by omega, w3, fun u H3 s4 w4 hu2 => ?_⟩
      have sm3 := rm_base sm2 (rm_self H q) s4
      have hl3 : H3 l = some (.lst (vi wk)) := s4 l _ (by rw [rm_ne hql.symm]; exact hl2)
      have hvl : (vi wk).length < sizeLine := by rw [List.length_map]; exact smallL (by omega)
      -- the step behind it
      have done : ∀ z : Int, stepOk L z → (∃ y4 y5 wk', [some (V.ref q), some (.int (L : Int)), some (.int (m : Int)), some (.ref l), some (.int (0 + (i : Int))), some (.int (1 + (t : Int)))] = [some (V.ref q), some (.int (L : Int)), some (.int (m : Int)), some (.ref l), y4, y5] ∧ Same (rm H q) (upd H3 l (.lst (vi wk ++ [.int z]))) ∧ Well (upd H3 l (.lst (vi wk ++ [.int z]))) q (n + 1 + 2 * (i + 1)) ∧ (upd H3 l (.lst (vi wk ++ [.int z]))) l = some (.lst (vi wk')) ∧ (∀ s ∈ wk', stepOk L s) ∧ wk'.length = i + 1) := fun z hz =>
        ⟨_, _, wk ++ [z], rfl, sm3.mut nlB, (w4.of (upd_ne hql)).up (by omega), by rw [upd_same, vi, vi, List.map_append]; rfl, fun s hs => by
          rcases List.mem_append.mp hs with h | h
          · exact hst s h
          · rw [List.mem_singleton.mp h]; exact hz, by rw [List.length_append, hlen]; rfl⟩
      refine ⟨rfl, _, rfl, ?_⟩
      by_cases cu : (V.int (u : Int)) = .int 0
      · rw [decide_eq_true cu]
        refine iteT ⟨_, rfl, l, _, _, rfl, rfl, hl3, hvl, ?_⟩
        exact done _ ⟨by omega, by omega⟩
      · rw [decide_eq_false cu]
        refine iteF ⟨_, rfl, _, rfl, l, _, _, rfl, rfl, hl3, hvl, ?_⟩
        exact done _ ⟨by omega, by omega⟩
    · subst e
      refine ⟨_, rfl, l, _, rfl, .inl ⟨SqL.of hl, fun p np => ?_⟩⟩
      have sp := same_new (o := .tup (vi wk)) np
      exact fin p wk _ (sm.trans sp) ((hW.same sp).up (by omega)) (SqT.of upd_same) hst (by omega)
end
end Wk
set_option Elab.async false
set_option linter.all false
set_option maxRecDepth 100000
set_option maxHeartbeats 4000000
namespace Wk
open PySem L2 Wc
section
variable {P : Program} {w : World} {K : PySem.W.Frag} {mg : Str → Option Value} {base : Heap}
abbrev s_law_path : Stmt := top 52
abbrev n_law_path : List Str := ["_law_well_here", "_law_doors_here", "_law_room", "_law_most", "_law_found", "_law_here", "_law_back_here", "_law_turn", "_law_steps", "_law_step"]
theorem sc_law_path : FnScope n_law_path ["_law_well_here", "_law_doors_here", "_law_room", "_law_most"] (defScope s_law_path) := ⟨rfl, rfl, rfl, by decide +kernel, rfl, by decide +kernel, by decide +kernel⟩
def sp_law_path (K : PySem.W.Frag) : Sp := fun vs H Q _ => ∃ (q a : Addr) (n r L m : Nat) (P : Pic), vs = [.ref q, .ref a, .int (r : Int), .int (m : Int)] ∧ Well H q n ∧ n ≤ 900000 ∧ P.Ok L ∧ L ≤ 5 ∧ P.n ≤ 1000 ∧ PicAt H a P ∧ r < P.n ∧ 1 ≤ m ∧ m ≤ 40 ∧ RWalk K L (n + 100) m q H Q
theorem ok_law_path (B : Bi mg) (F : Df K mg "_law_path" s_law_path ["_law_well_here", "_law_doors_here", "_law_room", "_law_most"]) (h__law_pick : Has P w K mg base 1 "_law_pick" ["_law_well_here", "_law_many"] sp_law_pick) :
    Has P w K mg base 2 "_law_path" ["_law_well_here", "_law_doors_here", "_law_room", "_law_most"] (sp_law_path K) := by
  refine F.ok sc_law_path (fun vs H Q E h => ?_) (fun f cdv A outer s H vs Q E hr h => ?_)
  · obtain ⟨q, a, n, r, L, m, P, rfl, _⟩ := h
    rfl
  · obtain ⟨q, a, n, r, L, m, P, rfl, hw, hn, hp, hL, hpn, hPA, hr0, hm1, hm40, fin⟩ := h
    obtain ⟨ds, kv, hA, hP⟩ := hw.pic hPA
    refine ⟨_, (pss_cons (ps_asg (pe_tup (pa_cons (pe_lst pa_nil) (pa_cons (pv 2) (pa_cons (pe_cmpR op_eq (pe_has h__law_pick (hr.mono (by omega)) (pa_cons (pv 0) (pa_cons pe_int pa_nil))) pe_int (nomark _)) pa_nil)))) (k_tup K (n := 3) rfl (pgs_cons (pg_name (i := 4) sc_law_path.nd rfl (Or.inr rfl)) (pgs_cons (pg_name (i := 5) sc_law_path.nd rfl (Or.inl rfl)) (pgs_cons (pg_name (i := 6) sc_law_path.nd rfl (Or.inl rfl)) pgs_nil)))))
      (pss_cons (ps_for PassesOwn.never rfl (pi_range1 rfl B.range (pa_cons (pe_op op_add pe_int (pe_has h__law_pick (hr.mono (by omega)) (pa_cons (pv 0) (pa_cons (pv 3) pa_nil)))) pa_nil)) (pg_name (i := 7) sc_law_path.nd rfl (Or.inr rfl))
        (pss_cons (ps_lock (ps_setLc (i := 8) (own := [("_law_step", 9)]) rfl sc_law_path.nd rfl rfl (sw_true rfl rfl rfl (by decide +kernel)) (pi_keys (pe_ix (kIxL K) (pv 1) (pv 5) (fun _ _ => rfl))) (blkOk_by (N := n_law_path) (sc := defScope s_law_path) (by decide +kernel)) (fun _ _ _ _ _ => (pg_name (i := 9) sc_law_path.nd rfl (Or.inl rfl))) (fun _ _ _ _ _ => (pts_one (PW.pt (pw_or (pt_cmpR op_eq (pe_callB (kLen K) (by rfl) B.len PySem.boot_len (pa_cons (pv 4) pa_nil)) pe_int (nomark _)) (pw_or (pt_cmpR op_ne (pv 9) (pe_un un_neg (pe_ix (kIxL K) (pv 4) (pe_un un_neg pe_int) (fun _ _ => rfl))) (nomark _)) (pw_or1 (pt_cmpR op_eq (pv 7) pe_int (nomark _)))))))) (fun _ _ _ _ _ => (pv 9))))
        (pss_one (ps_if (PW.pt (pw_and (pt_cmpR op_gt (pe_callB (kLen K) (by rfl) B.len PySem.boot_len (pa_cons (pv 8) pa_nil)) pe_int (nomark _)) (pw_and1 (pt_not (PW.pt (pw_and (pt_val (pv 6)) (pw_and (pt_cmpR op_gt (pv 7) pe_int (nomark _)) (pw_and1 (pt_cmpR op_eq (pv 5) (pv 2) (nomark _))))))))))
          (pss_cons (ps_expr (k_bm K PySem.F.plainAttrs_list PySem.F.slot_list_append PySem.F.type_list_append mt_append (pv 4) (pa_cons (pe_ix (kIxL K) (pv 8) (pe_has h__law_pick (hr.mono (by omega)) (pa_cons (pv 0) (pa_cons (pe_callB (kLen K) (by rfl) B.len PySem.boot_len (pa_cons (pv 8) pa_nil)) pa_nil))) (fun _ _ => rfl)) pa_nil)))
          (pss_one (ps_set (i := 5) sc_law_path.nd rfl (Or.inl rfl) (pe_dget (hu_of hr) (pe_ix (kIxL K) (pv 1) (pv 5) (fun _ _ => rfl)) (pe_ix (kIxL K) (pv 4) (pe_un un_neg pe_int) (fun _ _ => rfl)) (fun _ _ => rfl)))))
          pss_nil))))
      (pss_one (ps_ret (pe_callTy (kTup K) (by rfl) B.tuple (by decide +kernel) (pa_cons (pv 4) pa_nil)))))), ?_⟩
    refine ⟨Nat.zero_le _, fun l nl => ?_⟩
    have s1 := same_new (o := .lst []) nl
    have hql := hw.new nl
    have nlB : rm H q l = none := by rw [rm_ne hql.symm]; exact nl
    have sB : Same (rm H q) (upd H l (.lst [])) := (rm_same H q).trans s1
    refine ⟨_, rfl, _, rfl, q, n, 2, rfl, by omega, by omega, by omega, hw.same s1, fun u H1 s2 w2 hu2 => ?_⟩
    have s12 := rm_base sB (rm_self H q) s2
    have hl1 : H1 l = some (.lst []) := s2 l _ (by rw [rm_ne hql.symm]; exact upd_same)
    refine ⟨rfl, ?_⟩
    generalize decide (V.int (u : Int) = .int 0) = bb
    refine ⟨by show 3 ≤ sizeLine; decide, fun t nt => ?_⟩
    have st := same_new (o := .tup [.ref l, .int (r : Int), .bl bb]) nt
    refine ⟨t, _, rfl, SqT.of upd_same, rfl, _, _, rfl, _, _, rfl, _, _, rfl, rfl, ?_⟩
    have s13 := s12.trans st
    have w3 := w2.same st
    have hl3 := st _ _ hl1
    generalize upd H1 t (.tup [.ref l, .int (r : Int), .bl bb]) = H2 at s13 w3 hl3
    refine ⟨_, rfl, _, rfl, q, _, m, rfl, by omega, by omega, by omega, w3, fun v H3 s4 w4 hv => ?_⟩
    have s14 := rm_base s13 (rm_self H q) s4
    have hl4 : H3 l = some (.lst []) := s4 l _ (by rw [rm_ne hql.symm]; exact hl3)
    refine ⟨_, _, rfl, rfl, (1 : Int) + (v : Int), rfl, by omega, by omega, ?_⟩
    refine for_range (lo := 0) (n := ((1 : Int) + (v : Int)).toNat) (fun i σ H' => ∃ y7 y8 y9 here fw, σ = [some (.ref q), some (.ref a), some (.int (r : Int)), some (.int (m : Int)), some (.ref l), some (.int ((here : Nat) : Int)), some (.bl bb), y7, y8, y9] ∧ Same (rm H q) H' ∧ Well H' q (n + 2 + i) ∧ H' l = some (.lst (vi fw)) ∧ (∀ s ∈ fw, stepOk L s) ∧ fw.length ≤ i ∧ here < P.n) ⟨none, none, none, r, [], rfl, s14, w4, hl4, (fun _ h => nomatch h), Nat.le_refl 0, hr0⟩ (fun i σ H' hi ⟨y7, y8, y9, here, fw, e, sm, hW, hl, hst, hlen, hhn⟩ => ?_) (fun σ H' ⟨y7, y8, y9, here, fw, e, sm, hW, hl, hst, hlen, hhn⟩ => ?_)
    · subst e
      obtain ⟨d, hd, rw0⟩ := hP.get hhn
      have hdl : d ≠ l := ne_of_none rw0.at_ nlB
      have hdq : d ≠ q := ne_of_none rw0.at_ (rm_self H q)
      have had : a ≠ d := ne_of hA rw0.at_ (by intro z; cases z)
      have hkl : (kv here).length ≤ 10 := by
        have := row_len (L := L) rw0.nd fun s g e => (hp.ok here s g (by rw [← rw0.go]; exact e)).2.2.1
        omega
      refine ⟨d, _, sm _ _ rw0.at_, trivial, fun od => ?_⟩
      have sl := same_lock (d := d) (z := .frz od (.dK ((kv here).map e2))) sm
      have hlL : upd H' d (.frz od (.dK ((kv here).map e2))) l = some (.lst (vi fw)) := by rw [upd_ne hdl.symm]; exact hl
      have hA' : upd (rm H q) d (.frz od (.dK ((kv here).map e2))) a = some (.lst (ds.map V.ref)) := by rw [upd_ne had]; exact hA
      have hdL : upd H' d (.frz od (.dK ((kv here).map e2))) d = some (.frz od (.dK ((kv here).map e2))) := upd_same
      have hWL : Well (upd H' d (.frz od (.dK ((kv here).map e2)))) q (n + 2 + i) := hW.of (upd_ne hdq.symm)
      have unl : ∀ H5, Same (upd H' d (.frz od (.dK ((kv here).map e2)))) H5 → Same (rm H q) (upd H5 d (.dK ((kv here).map e2))) := fun H5 e => same_unlock rw0.at_ (sl.trans e)
      generalize upd H' d (.frz od (.dK ((kv here).map e2))) = HL at *
      refine ⟨_, rfl, _, rfl, a, _, _, _, rfl, rfl, SqL.of (sl _ _ hA'), atI_nat (refs_get hd), d, od, rfl, .inl ⟨_, hdL, lcg walk_keys (fun j => if fw.length = 0 then true else if ((kv here).getD j (0, 0)).1 ≠ -(fw.getLastD 0) then true else decide (V.int (0 + (i : Int)) = V.int 3)) (fun j => V.int ((kv here).getD j (0, 0)).1) (by rw [List.length_map]; omega) (fun H' s' => s' _ _ hdL) (fun i H' x H2 y => by rw [y.1]; exact Same.refl _) (fun j x H4 H5 hj s4 s5 y => ?_) (fun D H5 nD s5 h5 => ?_)⟩⟩
      · obtain ⟨_, k, v', hk, rfl⟩ := y
        rw [List.length_map] at hj
        have hkj : (kv here)[j]? = some (kv here)[j] := List.getElem?_eq_getElem hj
        have hgd : (kv here).getD j (0, 0) = (kv here)[j] := by rw [List.getD_eq_getElem?_getD, hkj]; rfl
        rw [hgd]
        generalize (kv here)[j] = kj at hkj
        rw [List.getElem?_map, hkj] at hk
        cases hk
        refine ⟨_, fun Qg h => h, rfl, fun H6 s6 Q6 q6 => ?_, fun _ H6 s6 Q6 q6 => ⟨_, rfl, q6 H6 (Evl.Ex.refl H6)⟩⟩
        have hl6 : H6 l = some (.lst (vi fw)) := s6 _ _ (s5 _ _ hlL)
        have q6 := q6 H6 (Evl.Ex.refl H6)
        refine ⟨_, rfl, l, _, rfl, .inl (SqL.of hl6), rfl, _, rfl, ?_⟩
        rw [List.length_map]
        by_cases c0 : fw.length = 0
        · rw [if_pos c0] at q6
          rw [c0, decide_eq_true (show V.int ((0 : Nat) : Int) = V.int 0 from rfl)]
          exact iteT q6
        · rw [if_neg c0] at q6
          rw [decide_eq_false (fun z => c0 (by have := V.int.inj z; omega))]
          refine iteF ?_
          have hne : fw ≠ [] := fun z => c0 (by rw [z]; rfl)
          have hg : fw.getLast? = some (fw.getLastD 0) := by rw [List.getLastD_eq_getLast?, List.getLast?_eq_some_getLast hne]; rfl
          refine ⟨_, rfl, _, rfl, _, rfl, l, _, _, _, rfl, rfl, SqL.of hl6, last_get hg, _, rfl, rfl, _, rfl, ?_⟩
          by_cases c1 : kj.1 = -(fw.getLastD 0)
          · rw [if_neg (fun z => z c1)] at q6
            rw [decide_eq_true (show kV (Sum.inl kj.1) = (fun i => V.int (-i)) (fw.getLastD 0) from congrArg V.int c1)]
            refine iteF ?_
            exact ⟨_, rfl, rfl, _, rfl, q6⟩
          · rw [if_pos c1] at q6
            rw [decide_eq_false (show ¬ kV (Sum.inl kj.1) = (fun i => V.int (-i)) (fw.getLastD 0) from fun z => c1 (V.int.inj z))]
            exact iteT q6
      · refine ⟨s5 _ _ hdL, ?_⟩
        obtain ⟨stps, hs5, hmem, hsl⟩ : ∃ stps : List Int, H5 D = some (.lst (vi stps)) ∧ (∀ z ∈ stps, ∃ g, P.go here z = some g) ∧ stps.length ≤ 10 := by
          refine ⟨_, by rw [h5]; unfold Evl.given; rw [vi, List.map_map]; rfl, fun z hz => ?_, by rw [List.length_map]; refine Nat.le_trans (List.length_filter_le _ _) ?_; rw [List.length_range, List.length_map]; exact hkl⟩
          obtain ⟨j, hj, rfl⟩ := List.mem_map.mp hz
          have hj := List.mem_range.mp (List.mem_filter.mp hj).1
          rw [List.length_map] at hj
          have hkj : (kv here)[j]? = some (kv here)[j] := List.getElem?_eq_getElem hj
          have hgd : (kv here).getD j (0, 0) = (kv here)[j] := by rw [List.getD_eq_getElem?_getD, hkj]; rfl
          rw [hgd, ← rw0.go]
          exact ⟨_, lk_of_mem rw0.nd (List.mem_of_getElem? hkj)⟩
        have hDd : D ≠ d := by
          rintro rfl
          rw [hdL] at nD
          cases nD
        have hDl : D ≠ l := by
          rintro rfl
          rw [hlL] at nD
          cases nD
        have h6B := unl H5 s5
        have hW6 : Well (upd H5 d (.dK ((kv here).map e2))) q (n + 2 + i) := (hWL.same s5).of (upd_ne hdq.symm)
        have hl6 : upd H5 d (.dK ((kv here).map e2)) l = some (.lst (vi fw)) := by rw [upd_ne hdl.symm]; exact s5 _ _ hlL
        have hD6 : upd H5 d (.dK ((kv here).map e2)) D = some (.lst (vi stps)) := by rw [upd_ne hDd]; exact hs5
        have hDq : D ≠ q := by
          rintro rfl
          obtain ⟨_, _, _, z, _⟩ := hWL
          rw [nD] at z
          cases z
        clear nD hs5 h5
        generalize upd H5 d (.dK ((kv here).map e2)) = H6 at *
        dsimp only
        refine ifS_if (p := 0 < stps.length) (fun R ra rb => ?_) (fun hp0 => ?_) ?_
        · refine ⟨_, rfl, D, _, rfl, .inl (SqL.of hD6), _, _, rfl, rfl, _, rfl, ?_⟩
          rw [List.length_map]
          by_cases c : (stps.length : Int) > 0
          · rw [decide_eq_true c]
            have ra := ra (by omega)
            refine iteT ⟨_, rfl, bb, rfl, ?_⟩
            cases bb with
            | false => exact iteF ra
            | true =>
              refine iteT ⟨_, rfl, _, _, rfl, rfl, _, rfl, ?_⟩
              by_cases c2 : (0 : Int) + (i : Int) > 0
              · rw [decide_eq_true c2]
                refine iteT ⟨_, rfl, _, rfl, rfl, _, rfl, ?_⟩
                cases decide (V.int (here : Int) = V.int (r : Int)) with
                | true => exact rb
                | false => exact ra
              · rw [decide_eq_false c2]
                exact iteF ra
          · rw [decide_eq_false c]
            exact iteF rb
        · refine ⟨_, rfl, .inl ⟨rfl, _, SqL.of hl6⟩, _, rfl, _, rfl, _, rfl, D, _, rfl, .inl (SqL.of hD6), ?_⟩
          rw [List.length_map]
          refine ⟨q, n + 2 + i, stps.length, rfl, hp0, by omega, by omega, hW6, fun t H7 s7 w7 ht => ?_⟩
          have hB7 := rm_base h6B (rm_self H q) s7
          have hD7 : H7 D = some (.lst (vi stps)) := s7 D _ (by rw [rm_ne hDq]; exact hD6)
          have hl7 : H7 l = some (.lst (vi fw)) := s7 l _ (by rw [rm_ne hql.symm]; exact hl6)
          have hst0 : stps[t]? = some stps[t] := List.getElem?_eq_getElem ht
          generalize stps[t] = st at hst0
          obtain ⟨g, hg⟩ := hmem st (List.mem_of_getElem? hst0)
          obtain ⟨_, hgn, hso, _⟩ := hp.ok here st g hg
          refine ⟨D, _, _, _, rfl, rfl, SqL.of hD7, atI_nat (vi_get hst0), l, _, _, rfl, rfl, hl7, by rw [List.length_map]; exact smallL (by omega), ?_⟩
          have hB8 := hB7.mut (o := .lst (vi fw ++ [.int st])) nlB
          have hl8 : upd H7 l (.lst (vi fw ++ [.int st])) l = some (.lst (vi (fw ++ [st]))) := by rw [upd_same, vi, vi, List.map_append]; rfl
          have hW8 : Well (upd H7 l (.lst (vi fw ++ [.int st]))) q (n + 2 + (i + 1)) := (w7.of (upd_ne hql)).up (by omega)
          generalize upd H7 l (.lst (vi fw ++ [.int st])) = H8 at *
          have rw8 := rw0.same hB8
          have hgd := rw8.get st
          rw [hg] at hgd
          refine ⟨_, rfl, _, rfl, a, _, _, _, rfl, rfl, SqL.of (hB8 _ _ hA), atI_nat (refs_get hd), _, rfl, _, rfl, l, _, _, _, rfl, rfl, SqL.of hl8, last_get (List.getLast?_concat), d, _, rfl, hgd, ?_⟩
          refine ⟨_, _, _, g, fw ++ [st], rfl, hB8, hW8, hl8, fun s hs => ?_, by rw [List.length_append]; show _ + 1 ≤ _; omega, hgn⟩
          rcases List.mem_append.mp hs with h | h
          · exact hst s h
          · rw [List.mem_singleton.mp h]; exact hso
        · exact ⟨_, _, _, here, fw, rfl, h6B, hW6.up (by omega), hl6, hst, by omega, hhn⟩
    · subst e
      refine ⟨_, rfl, l, _, rfl, .inl ⟨SqL.of hl, fun p np => ?_⟩⟩
      have sp := same_new (o := .tup (vi fw)) np
      exact fin p fw _ (sm.trans sp) ((hW.same sp).up (by omega)) (SqT.of upd_same) hst (by omega)
end
end Wk
set_option Elab.async false
set_option linter.all false
set_option maxRecDepth 100000
set_option maxHeartbeats 4000000
namespace Wk
open PySem L2 Wc
theorem catT_all {K : PySem.W.Frag} {H : Hp} {a b : Addr} {xs ys : List Int} {Q : VK} (ha : TI K H a xs) (hb : TI K H b ys) (hz : xs.length + ys.length ≤ 100000) (q : ∀ p H', Same H H' → TI K H' p (xs ++ ys) → Q (.ref p) H') : rCatA K (.ref a) (.ref b) H Q := by
  refine ⟨a, b, _, _, rfl, rfl, ha, hb, ?_, fun h => ?_, fun _ h => ?_, fun _ _ p np => ?_⟩
  · rw [List.length_map, List.length_map]
    exact small hz
  · have : xs = [] := List.map_eq_nil_iff.mp h
    subst this
    exact q b H (Same.refl H) hb
  · have : ys = [] := List.map_eq_nil_iff.mp h
    subst this
    exact q a H (Same.refl H) (by rw [List.append_nil]; exact ha)
  · refine q p _ (same_new np) (SqT.of ?_)
    rw [upd_same, vi, vi, vi, List.map_append]
/-- what a slice leaves -/
def cutI (xs : List Int) (lo hi : Option Int) : List Int := (xs.drop (HT.sIx xs.length 0 lo)).take (HT.sIx xs.length xs.length hi - HT.sIx xs.length 0 lo)
theorem slT_all {K : PySem.W.Frag} {H : Hp} {a : Addr} {xs : List Int} {lo hi : Option Int} {Q : VK} (ha : TI K H a xs) (q : ∀ p H', Same H H' → TI K H' p (cutI xs lo hi) → Q (.ref p) H') : rSlA K (.ref a) lo hi H Q := by
  refine ⟨a, _, rfl, ha, fun h => ?_, fun h p np => ?_⟩
  · rw [List.length_map] at h
    refine q a H (Same.refl H) ?_
    unfold cutI
    rw [h.1, h.2, List.drop_zero, Nat.sub_zero, List.take_length]
    exact ha
  · refine q p _ (same_new np) (SqT.of ?_)
    rw [upd_same]
    unfold cutV cutI
    rw [List.length_map, vi, vi, List.map_take, List.map_drop]
theorem cutI_mem {xs : List Int} {lo hi : Option Int} {x : Int} (h : x ∈ cutI xs lo hi) : x ∈ xs := List.mem_of_mem_drop (List.mem_of_mem_take h)
theorem cutI_len (xs : List Int) (lo hi : Option Int) : (cutI xs lo hi).length ≤ xs.length := by
  unfold cutI
  rw [List.length_take, List.length_drop]
  omega
theorem cutI_to (xs : List Int) (n : Nat) : (cutI xs none (some (n : Int))).length ≤ n := by
  unfold cutI
  rw [show HT.sIx xs.length xs.length (some (n : Int)) = min n xs.length from HT.sIx_nat _ _ n, List.length_take]
  omega
section
variable {P : Program} {w : World} {K : PySem.W.Frag} {mg : Str → Option Value} {base : Heap}
theorem scal_vo (o : Option Nat) : scal (vo o) (.int 0) = true := by cases o <;> rfl
abbrev s_law_away : Stmt := top 53
abbrev n_law_away : List Str := ["_law_well_here", "_law_doors_here", "_law_letters", "_law_walk_here", "_law_most", "_law_first", "_law_steps", "_law_letter", "_law_size", "_law_step", "_law_other"]
theorem sc_law_away : FnScope n_law_away ["_law_well_here", "_law_doors_here", "_law_letters", "_law_walk_here", "_law_most"] (defScope s_law_away) := ⟨rfl, rfl, rfl, by decide +kernel, rfl, by decide +kernel, by decide +kernel⟩
def sp_law_away (K : PySem.W.Frag) : Sp := fun vs H Q _ => ∃ (q a c : Addr) (n L m : Nat) (P : Pic) (wk : List Int), vs = [.ref q, .ref a, .int (L : Int), .ref c, .int (m : Int)] ∧ Well H q n ∧ n ≤ 900000 ∧ P.Ok L ∧ 1 ≤ L ∧ L ≤ 5 ∧ PicAt H a P ∧ TI K H c wk ∧ (∀ s ∈ wk, stepOk L s) ∧ wk.length ≤ m ∧ m ≤ 100 ∧ RWalk K L (n + 1) m q H Q
theorem ok_law_away (B : Bi mg) (F : Df K mg "_law_away" s_law_away ["_law_well_here", "_law_doors_here", "_law_letters", "_law_walk_here", "_law_most"]) (h__law_pick : Has P w K mg base 1 "_law_pick" ["_law_well_here", "_law_many"] sp_law_pick)
    (h__law_straight : Has P w K mg base 1 "_law_straight" ["_law_walk_here"] (sp_law_straight K)) (h__law_led : Has P w K mg base 1 "_law_led" ["_law_doors_here", "_law_room", "_law_walk_here"] (sp_law_led K)) :
    Has P w K mg base 2 "_law_away" ["_law_well_here", "_law_doors_here", "_law_letters", "_law_walk_here", "_law_most"] (sp_law_away K) := by
  refine F.ok sc_law_away (fun vs H Q E h => ?_) (fun f cdv A outer s H vs Q E hr h => ?_)
  · obtain ⟨q, a, c, n, L, m, P, wk, rfl, _⟩ := h
    rfl
  · obtain ⟨q, a, c, n, L, m, P, wk, rfl, hw, hn, hp, hL1, hL5, hPA, hc, hst, hwl, hm, fin⟩ := h
    have hPB := hw.pic hPA
    have hcB := hw.tup hc
    refine ⟨_, (pss_cons (ps_set (i := 5) sc_law_away.nd rfl (Or.inl rfl) (pe_has h__law_pick (hr.mono (by omega)) (pa_cons (pv 0) (pa_cons (pe_op op_mul pe_int (pv 2)) pa_nil))))
      (pss_cons (ps_set (i := 6) sc_law_away.nd rfl (Or.inl rfl) (pe_op op_cat (pe_lc (own := [("_law_letter", 7)]) rfl sc_law_away.nd (pi_range2 rfl B.range (pa_cons pe_int (pa_cons (pe_op op_add (pv 2) pe_int) pa_nil))) (blkOk_by (N := n_law_away) (sc := defScope s_law_away) (by decide +kernel)) (fun _ _ _ _ _ => (pg_name (i := 7) sc_law_away.nd rfl (Or.inl rfl))) (fun _ _ _ _ _ => pts_nil) (fun _ _ _ _ _ => (pv 7))) (pe_lc (own := [("_law_letter", 7)]) rfl sc_law_away.nd (pi_range2 rfl B.range (pa_cons pe_int (pa_cons (pe_op op_add (pv 2) pe_int) pa_nil))) (blkOk_by (N := n_law_away) (sc := defScope s_law_away) (by decide +kernel)) (fun _ _ _ _ _ => (pg_name (i := 7) sc_law_away.nd rfl (Or.inl rfl))) (fun _ _ _ _ _ => pts_nil) (fun _ _ _ _ _ => (pe_un un_neg (pv 7))))))
      (pss_cons (ps_for PassesOwn.never rfl (pi_range1 rfl B.range (pa_cons (pe_op op_add (pe_callB (kLen K) (by rfl) B.len PySem.boot_len (pa_cons (pv 3) pa_nil)) pe_int) pa_nil)) (pg_name (i := 8) sc_law_away.nd rfl (Or.inl rfl))
        (pss_one (ps_for PassesOwn.never rfl (pi_list (pe_op op_cat (pe_slice (kSlL K) (pv 6) (po_some (pv 5)) po_none) (pe_slice (kSlL K) (pv 6) po_none (po_some (pv 5))))) (pg_name (i := 9) sc_law_away.nd rfl (Or.inl rfl))
          (pss_cons (ps_set (i := 10) sc_law_away.nd rfl (Or.inl rfl) (pe_has h__law_straight (hr.mono (by omega)) (pa_cons (pe_op (kCatT K) (pe_slice (kSlT K) (pv 3) po_none (po_some (pe_op op_sub (pe_callB (kLen K) (by rfl) B.len PySem.boot_len (pa_cons (pv 3) pa_nil)) (pv 8)))) (pe_tup (pa_cons (pv 9) pa_nil))) pa_nil)))
          (pss_one (ps_if (PW.pt (pw_and (pt_cmpR op_le (pe_callB (kLen K) (by rfl) B.len PySem.boot_len (pa_cons (pv 10) pa_nil)) (pv 4) (nomark _)) (pw_and1 (pt_cmpR op_ne (pe_has h__law_led (hr.mono (by omega)) (pa_cons (pv 1) (pa_cons pe_int (pa_cons (pv 10) pa_nil)))) pe_int (nomark _)))))
            (pss_one (ps_ret (pv 10)))
            pss_nil))))))
      (pss_one (ps_ret (pv 3)))))), ?_⟩
    refine ⟨_, rfl, _, rfl, _, _, rfl, rfl, small_mul' (by decide), q, n, 2 * L, (by show [V.ref q, V.int (2 * (L : Int))] = _; rfl), by omega, by omega, by omega, hw, fun fr H1 s1 w1 hfr => ?_⟩
    -- the steps
    refine ⟨_, rfl, _, _, rfl, rfl, 1, _, rfl, ⟨by omega, by omega, by omega, by omega⟩, lcg (walk_range (lo := 1) (n := ((L : Int) + 1 - 1).toNat)) (fun _ => true) (fun i : Nat => V.int ((i : Int) + 1)) (by omega) (fun H' s' => trivial) YFn.same (fun i x H2 H3 hi s2 s3 y => ?_) (fun D1 H2 n2 s2 h2 => ?_)⟩
    · obtain ⟨_, rfl⟩ := y
      refine ⟨_, fun Qg h => h, rfl, evt_yes, fun _ H4 s4 Q4 q4 => ?_⟩
      have e1 : (1 : Int) + (i : Int) = (i : Int) + 1 := by omega
      rw [← e1] at q4
      exact ⟨_, rfl, q4 H4 (Evl.Ex.refl H4)⟩
    refine ⟨_, rfl, _, _, rfl, rfl, 1, _, rfl, ⟨by omega, by omega, by omega, by omega⟩, lcg (walk_range (lo := 1) (n := ((L : Int) + 1 - 1).toNat)) (fun _ => true) (fun i : Nat => V.int (-((i : Int) + 1))) (by omega) (fun H' s' => trivial) YFn.same (fun i x H3 H4 hi s3 s4 y => ?_) (fun D2 H3 n3 s3 h3 => ?_)⟩
    · obtain ⟨_, rfl⟩ := y
      refine ⟨_, fun Qg h => h, rfl, evt_yes, fun _ H5 s5 Q5 q5 => ?_⟩
      have e1 : (1 : Int) + (i : Int) = (i : Int) + 1 := by omega
      rw [← e1] at q5
      exact ⟨_, rfl, _, rfl, q5 H5 (Evl.Ex.refl H5)⟩
    rw [given_all] at h2 h3
    have eL : ((L : Int) + 1 - 1).toNat = L := by omega
    rw [eL] at h2 h3
    refine ⟨D1, D2, _, _, rfl, rfl, s3 _ _ h2, h3, by rw [List.length_map, List.length_map, List.length_range]; exact small (by omega), fun D3 n4 => ?_⟩
    have s4 := same_new (o := .lst ((List.range L).map (fun i : Nat => V.int ((i : Int) + 1)) ++ (List.range L).map (fun i : Nat => V.int (-((i : Int) + 1))))) n4
    have sB4 := s1.trans (s2.trans (s3.trans s4))
    have w4 := w1.same (s2.trans (s3.trans s4))
    obtain ⟨stp, hstp, hmem, hsl⟩ : ∃ stp : List Int, upd H3 D3 (.lst ((List.range L).map (fun i : Nat => V.int ((i : Int) + 1)) ++ (List.range L).map (fun i : Nat => V.int (-((i : Int) + 1))))) D3 = some (.lst (vi stp)) ∧ (∀ z ∈ stp, stepOk L z) ∧ stp.length ≤ 10 := by
      refine ⟨(List.range L).map (fun i : Nat => (i : Int) + 1) ++ (List.range L).map (fun i : Nat => -((i : Int) + 1)), by rw [upd_same, vi, List.map_append, List.map_map, List.map_map]; rfl, fun z hz => ?_, by rw [List.length_append, List.length_map, List.length_map, List.length_range]; omega⟩
      rcases List.mem_append.mp hz with h | h
      · obtain ⟨i, hi, rfl⟩ := List.mem_map.mp h
        have := List.mem_range.mp hi
        exact ⟨by omega, by omega⟩
      · obtain ⟨i, hi, rfl⟩ := List.mem_map.mp h
        have := List.mem_range.mp hi
        exact ⟨by omega, by omega⟩
    generalize upd H3 D3 (.lst ((List.range L).map (fun i : Nat => V.int ((i : Int) + 1)) ++ (List.range L).map (fun i : Nat => V.int (-((i : Int) + 1))))) = H4 at *
    refine ⟨_, rfl, c, _, rfl, .inr (sB4.tup hcB), _, _, rfl, rfl, (((vi wk).length : Nat) : Int) + 1, rfl, by rw [List.length_map]; omega, by rw [List.length_map]; omega, for_range (lo := 0) (n := ((((vi wk).length : Nat) : Int) + 1).toNat) (fun i σ H' => ∃ y7 y8 y9 y10, σ = [some (.ref q), some (.ref a), some (.int (L : Int)), some (.ref c), some (.int (m : Int)), some (.int (fr : Int)), some (.ref D3), y7, y8, y9, y10] ∧ Same H4 H') ⟨none, none, none, none, rfl, Same.refl H4⟩ (fun i σ H' hi ⟨y7, y8, y9, y10, e, sm⟩ => ?_) (fun σ H' ⟨y7, y8, y9, y10, e, sm⟩ => ?_)⟩
    · subst e
      have hD3 := sm _ _ hstp
      -- the steps in turn
      refine ⟨_, rfl, _, rfl, fr, rfl, D3, _, rfl, SqL.of hD3, fun p1 np1 => ?_⟩
      have sp1 := same_new (o := .lst (cutV (vi stp) (some (fr : Int)) none)) np1
      refine ⟨_, rfl, _, rfl, fr, rfl, D3, _, rfl, SqL.of (sp1 _ _ hD3), fun p2 np2 => ?_⟩
      have sp2 := same_new (o := .lst (cutV (vi stp) none (some (fr : Int)))) np2
      refine ⟨p1, p2, _, _, rfl, rfl, sp2 _ _ upd_same, upd_same, by have := cutV_length (vi stp) (some (fr : Int)) none; have := cutV_length (vi stp) none (some (fr : Int)); rw [List.length_map] at *; exact small (by omega), fun p3 np3 => ?_⟩
      have sp3 := same_new (o := .lst (cutV (vi stp) (some (fr : Int)) none ++ cutV (vi stp) none (some (fr : Int)))) np3
      have s5 := sm.trans (sp1.trans (sp2.trans sp3))
      obtain ⟨sq, hsq, hmem2⟩ : ∃ sq : List Int, upd (upd (upd H' p1 (.lst (cutV (vi stp) (some (fr : Int)) none))) p2 (.lst (cutV (vi stp) none (some (fr : Int))))) p3 (.lst (cutV (vi stp) (some (fr : Int)) none ++ cutV (vi stp) none (some (fr : Int)))) p3 = some (.lst (vi sq)) ∧ ∀ z ∈ sq, stepOk L z := by
        refine ⟨cutI stp (some (fr : Int)) none ++ cutI stp none (some (fr : Int)), ?_, fun z hz => ?_⟩
        · rw [upd_same]
          unfold cutV cutI
          rw [List.length_map, vi, vi, List.map_append, List.map_take, List.map_drop, List.map_take, List.map_drop]
        · rcases List.mem_append.mp hz with h | h
          · exact hmem z (cutI_mem h)
          · exact hmem z (cutI_mem h)
      generalize upd (upd (upd H' p1 (.lst (cutV (vi stp) (some (fr : Int)) none))) p2 (.lst (cutV (vi stp) none (some (fr : Int))))) p3 (.lst (cutV (vi stp) (some (fr : Int)) none ++ cutV (vi stp) none (some (fr : Int)))) = H5 at s5 hsq
      refine ⟨p3, rfl, ⟨_, SqL.of hsq⟩, for_list (xs := vi sq) (fun j σ H' => ∃ y9 y10, σ = [some (.ref q), some (.ref a), some (.int (L : Int)), some (.ref c), some (.int (m : Int)), some (.int (fr : Int)), some (.ref D3), y7, some (.int (0 + (i : Int))), y9, y10] ∧ Same H5 H') ⟨y9, y10, rfl, Same.refl H5⟩ (fun j σ H' _ ⟨_, _, _, e⟩ => SqL.of (e _ _ hsq)) (fun j x σ H6 hx ⟨y9, y10, e, sm6⟩ => ?_) (fun σ H6 ⟨y9, y10, e, sm6⟩ => ⟨_, _, _, _, e, s5.trans sm6⟩)⟩
      subst e
      obtain ⟨st, hst0, rfl⟩ := of_vi_get hx
      have hso := hmem2 st (List.mem_of_getElem? hst0)
      have s6 := sB4.trans (s5.trans sm6)
      have hc6 := s6.tup hcB
      refine ⟨_, rfl, _, rfl, c, _, rfl, .inr hc6, _, rfl, _, _, rfl, rfl, _, rfl, slT_all hc6 fun p H7 s7 hz => ?_⟩
      generalize hzz : cutI wk none (some (((vi wk).length : Int) - (0 + (i : Int)))) = zs at hz
      have hzm : ∀ s ∈ zs, stepOk L s := fun s hs => hst s (cutI_mem (hzz ▸ hs))
      have hzl : zs.length ≤ wk.length := hzz ▸ cutI_len wk _ _
      refine ⟨_, rfl, by show 1 ≤ sizeLine; decide, fun u nu => ?_⟩
      have su := same_new (o := .tup [.int st]) nu
      have hu : TI K (upd H7 u (.tup [.int st])) u [st] := SqT.of upd_same
      refine catT_all (su.tup hz) hu (by show zs.length + 1 ≤ _; omega) fun p2 H8 s8 h8 => ?_
      refine ⟨p2, zs ++ [st], rfl, h8, by rw [List.length_append]; show zs.length + 1 ≤ _; omega, fun p3 H9 s9 np3 h9 => ?_⟩
      have s69 := s6.trans (s7.trans (su.trans (s8.trans s9)))
      have sm9 := sm6.trans (s7.trans (su.trans (s8.trans s9)))
      have w9 := (w4.same s5).same sm9
      refine ⟨_, rfl, p3, _, rfl, .inr (SqT.of h9), _, rfl, _, _, rfl, rfl, _, rfl, ?_⟩
      rw [List.length_map]
      by_cases cl : ((straight (zs ++ [st])).length : Int) ≤ (m : Int)
      · rw [decide_eq_true cl]
        refine iteT ?_
        refine ⟨_, rfl, _, rfl, a, p3, 0, L, P, _, rfl, hp, hp.pos, hPB.same s69, SqT.of h9, fun H10 s10 => ?_⟩
        refine ⟨scal_vo _, _, rfl, ?_⟩
        cases decide (vo (led P 0 (straight (zs ++ [st]))) = V.int 0) with
        | true => exact iteF ⟨_, _, rfl, sm9.trans s10⟩
        | false =>
          refine iteT ⟨_, rfl, ?_⟩
          refine fin p3 _ H10 (s69.trans s10) (w9.same s10) (s10.tup (SqT.of h9)) (fun s hs => ?_) (by omega)
          rcases List.mem_append.mp (mem_straight hs) with h | h
          · exact hzm s h
          · rw [List.mem_singleton.mp h]; exact hso
      · rw [decide_eq_false cl]
        exact iteF (iteF ⟨_, _, rfl, sm9⟩)
    · subst e
      have s5 := sB4.trans sm
      exact ⟨_, rfl, fin c wk H' s5 (w4.same sm) (s5.tup hcB) hst hwl⟩
end
end Wk
set_option Elab.async false
set_option linter.all false
set_option maxRecDepth 100000
set_option maxHeartbeats 4000000
namespace Wk
open PySem L2 Wc
/-- a statement whose end is told, before what follows -/
theorem seq_mid {a b : TS} {D : Ends} {σ : L2.St} {H : Hp} (M : L2.St → Hp → Prop) (ha : ∀ N : Ends, (∀ σ' H', M σ' H' → N.nx σ' H') → a N σ H) (hb : ∀ σ' H', M σ' H' → b D σ' H') : tSeq a b D σ H := ha { D with nx := b D } hb
/-- the walks so far -/
structure WAcc (K : PySem.W.Frag) (B H : Hp) (q l : Addr) (n L bd i : Nat) (as : List Addr) (wss : List (List Int)) : Prop where
  sm : Same B H
  well : Well H q n
  lst : H l = some (.lst (as.map V.ref))
  la : as.length = i
  lw : wss.length = i
  at_ : ∀ (j : Nat) b w, as[j]? = some b → wss[j]? = some w → TI K H b w
  ok : ∀ w ∈ wss, (∀ s ∈ w, stepOk L s) ∧ w.length ≤ bd + 2
section
variable {K : PySem.W.Frag} {B H H' : Hp} {q l : Addr} {n m L bd i : Nat} {as : List Addr} {wss : List (List Int)}
theorem WAcc.pick (h : WAcc K B H q l n L bd i as wss) (hq : B q = none) (e : Same (rm H q) H') (w : Well H' q m) : WAcc K B H' q l m L bd i as wss :=
  ⟨rm_base h.sm hq e, w, e _ _ (by rw [rm_ne (h.well.refs h.lst).symm]; exact h.lst), h.la, h.lw, fun j b w a c => e.tup (h.well.tup (h.at_ j b w a c)), h.ok⟩
theorem WAcc.grow (h : WAcc K B H q l n L bd i as wss) (e : Same H H') : WAcc K B H' q l n L bd i as wss :=
  ⟨h.sm.trans e, h.well.same e, e _ _ h.lst, h.la, h.lw, fun j b w a c => e.tup (h.at_ j b w a c), h.ok⟩
theorem WAcc.up (h : WAcc K B H q l n L bd i as wss) (e : n ≤ m) : WAcc K B H q l m L bd i as wss := ⟨h.sm, h.well.up e, h.lst, h.la, h.lw, h.at_, h.ok⟩
theorem WAcc.add (h : WAcc K B H q l n L bd i as wss) (hl : B l = none) {p : Addr} {w : List Int} (hp : TI K H p w) (hw : (∀ s ∈ w, stepOk L s) ∧ w.length ≤ bd + 2) : WAcc K B (upd H l (.lst (as.map V.ref ++ [.ref p]))) q l n L bd (i + 1) (as ++ [p]) (wss ++ [w]) := by
  refine ⟨h.sm.mut hl, h.well.of (upd_ne (h.well.refs h.lst)), by rw [upd_same, List.map_append]; rfl, by rw [List.length_append, h.la]; rfl, by rw [List.length_append, h.lw]; rfl, fun j b v a c => ?_, fun v hv => ?_⟩
  · by_cases hj : j < i
    · rw [List.getElem?_append_left (by rw [h.la]; exact hj)] at a
      rw [List.getElem?_append_left (by rw [h.lw]; exact hj)] at c
      exact sqt_lst (h.at_ j b v a c) h.lst
    · rw [List.getElem?_append_right (by rw [h.la]; omega), h.la] at a
      rw [List.getElem?_append_right (by rw [h.lw]; omega), h.lw] at c
      have c0 : j - i = 0 := by
        rcases Nat.eq_zero_or_pos (j - i) with z | z
        · exact z
        · rw [List.getElem?_eq_none (by rw [List.length_singleton]; omega)] at a
          cases a
      rw [c0] at a c
      cases a
      cases c
      exact sqt_lst hp h.lst
  · rcases List.mem_append.mp hv with z | z
    · exact h.ok v z
    · rw [List.mem_singleton.mp z]; exact hw
end
section
variable {P : Program} {w : World} {K : PySem.W.Frag} {mg : Str → Option Value} {base : Heap}
abbrev s_law_walks : Stmt := top 54
abbrev n_law_walks : List Str := ["_law_well_here", "_law_letters", "_law_doors_here", "_law_bound", "_law_found", "_law_left", "_law_many", "_law_turn", "_law_share", "_law_way", "_law_walk_here", "_law_at", "_law_step"]
theorem sc_law_walks : FnScope n_law_walks ["_law_well_here", "_law_letters", "_law_doors_here", "_law_bound"] (defScope s_law_walks) := ⟨rfl, rfl, rfl, by decide +kernel, rfl, by decide +kernel, by decide +kernel⟩
def sp_law_walks (K : PySem.W.Frag) : Sp := fun vs H Q _ => ∃ (q a : Addr) (n L bd : Nat) (P : Pic), vs = [.ref q, .int (L : Int), .ref a, .int (bd : Int)] ∧ Well H q n ∧ n ≤ 800000 ∧ P.Ok L ∧ 1 ≤ L ∧ L ≤ 5 ∧ P.n ≤ 100 ∧ PicAt H a P ∧ bd ≤ 8 ∧
  ∀ p ws H', Same (rm H q) H' → TuT K H' p ws → WsOk L ws → (∀ w ∈ ws, w.length ≤ bd + 2) → Q (.ref p) H'
theorem ok_law_walks (B : Bi mg) (F : Df K mg "_law_walks" s_law_walks ["_law_well_here", "_law_letters", "_law_doors_here", "_law_bound"]) (h__law_pick : Has P w K mg base 1 "_law_pick" ["_law_well_here", "_law_many"] sp_law_pick)
    (h__law_walk : Has P w K mg base 2 "_law_walk" ["_law_well_here", "_law_letters", "_law_most"] (sp_law_walk K)) (h__law_path : Has P w K mg base 2 "_law_path" ["_law_well_here", "_law_doors_here", "_law_room", "_law_most"] (sp_law_path K))
    (h__law_straight : Has P w K mg base 1 "_law_straight" ["_law_walk_here"] (sp_law_straight K)) (h__law_led : Has P w K mg base 1 "_law_led" ["_law_doors_here", "_law_room", "_law_walk_here"] (sp_law_led K))
    (h__law_away : Has P w K mg base 2 "_law_away" ["_law_well_here", "_law_doors_here", "_law_letters", "_law_walk_here", "_law_most"] (sp_law_away K)) :
    Has P w K mg base 3 "_law_walks" ["_law_well_here", "_law_letters", "_law_doors_here", "_law_bound"] (sp_law_walks K) := by
  refine F.ok sc_law_walks (fun vs H Q E h => ?_) (fun f cdv A outer s H vs Q E hr h => ?_)
  · obtain ⟨q, a, n, L, bd, P, rfl, _⟩ := h
    rfl
  · obtain ⟨q, a, n, L, bd, P, rfl, hw, hn, hp, hL1, hL5, hpn, hPA, hbd, fin⟩ := h
    have hPB := hw.pic hPA
    refine ⟨_, (pss_cons (ps_par3 (i := 4) (j := 5) (l := 6) (by rfl) sc_law_walks.nd rfl rfl rfl (by decide) (by decide) (by decide) rfl rfl rfl (pa_cons (pe_lst pa_nil) (pa_cons (pv 3) (pa_cons (pe_ix (kIxL K) (pe_lst (pa_cons pe_int (pa_cons pe_int (pa_cons pe_int (pa_cons pe_int (pa_cons pe_int pa_nil)))))) (pe_has h__law_pick (hr.mono (by omega)) (pa_cons (pv 0) (pa_cons pe_int pa_nil))) (fun _ _ => rfl)) pa_nil))) (by rfl))
      (pss_cons (ps_for PassesOwn.never rfl (pi_range1 rfl B.range (pa_cons (pv 6) pa_nil)) (pg_name (i := 7) sc_law_walks.nd rfl (Or.inl rfl))
        (pss_cons (ps_set (i := 8) sc_law_walks.nd rfl (Or.inl rfl) (pe_ifExp (pt_cmpR op_gt (pe_has h__law_pick (hr.mono (by omega)) (pa_cons (pv 0) (pa_cons pe_int pa_nil))) pe_int (nomark _)) (pe_op op_fdivW (pv 5) (pe_op op_sub (pv 6) (pv 7))) (pv 5)))
        (pss_cons (ps_set (i := 9) sc_law_walks.nd rfl (Or.inl rfl) (pe_has h__law_pick (hr.mono (by omega)) (pa_cons (pv 0) (pa_cons pe_int pa_nil))))
        (pss_cons (ps_set (i := 10) sc_law_walks.nd rfl (Or.inl rfl) (pe_has h__law_walk (hr.mono (by omega)) (pa_cons (pv 0) (pa_cons (pv 1) (pa_cons (pe_callB (call_min2 rfl) (by rfl) B.min (by decide +kernel) (pa_cons (pv 8) (pa_cons pe_int pa_nil))) pa_nil)))))
        (pss_cons (ps_if (pt_cmpR op_eq (pv 9) pe_int (nomark _))
          (pss_one (ps_set (i := 10) sc_law_walks.nd rfl (Or.inl rfl) (pe_has h__law_path (hr.mono (by omega)) (pa_cons (pv 0) (pa_cons (pv 2) (pa_cons pe_int (pa_cons (pe_callB (call_max2 rfl) (by rfl) B.max (by decide +kernel) (pa_cons pe_int (pa_cons (pe_callB (call_min2 rfl) (by rfl) B.min (by decide +kernel) (pa_cons (pv 8) (pa_cons pe_int pa_nil))) pa_nil))) pa_nil)))))))
          pss_nil)
        (pss_cons (ps_set (i := 10) sc_law_walks.nd rfl (Or.inl rfl) (pe_slice (kSlT K) (pe_has h__law_straight (hr.mono (by omega)) (pa_cons (pv 10) pa_nil)) po_none (po_some (pv 8))))
        (pss_cons (ps_if (PW.pt (pw_and (pt_cmpR op_eq (pe_has h__law_led (hr.mono (by omega)) (pa_cons (pv 2) (pa_cons pe_int (pa_cons (pv 10) pa_nil)))) pe_int (nomark _)) (pw_and1 (pt_cmpR op_gt (pe_has h__law_pick (hr.mono (by omega)) (pa_cons (pv 0) (pa_cons pe_int pa_nil))) pe_int (nomark _)))))
          (pss_one (ps_set (i := 10) sc_law_walks.nd rfl (Or.inl rfl) (pe_has h__law_away (hr.mono (by omega)) (pa_cons (pv 0) (pa_cons (pv 2) (pa_cons (pv 1) (pa_cons (pv 10) (pa_cons (pv 8) pa_nil))))))))
          pss_nil)
        (pss_cons (ps_set (i := 5) sc_law_walks.nd rfl (Or.inl rfl) (pe_op op_sub (pv 5) (pe_callB (kLen K) (by rfl) B.len PySem.boot_len (pa_cons (pv 10) pa_nil))))
        (pss_cons (ps_if (pt_cmpR op_eq (pv 9) pe_int (nomark _))
          (pss_cons (ps_par (i := 11) (j := 12) (by rfl) sc_law_walks.nd rfl rfl (by decide) rfl rfl (pa_cons (pe_has h__law_pick (hr.mono (by omega)) (pa_cons (pv 0) (pa_cons (pe_op op_add (pe_callB (kLen K) (by rfl) B.len PySem.boot_len (pa_cons (pv 10) pa_nil)) pe_int) pa_nil))) (pa_cons (pe_op op_add pe_int (pe_has h__law_pick (hr.mono (by omega)) (pa_cons (pv 0) (pa_cons (pv 1) pa_nil)))) pa_nil)) (by rfl))
          (pss_one (ps_set (i := 10) sc_law_walks.nd rfl (Or.inl rfl) (pe_op (kCatT K) (pe_op (kCatT K) (pe_slice (kSlT K) (pv 10) po_none (po_some (pv 11))) (pe_tup (pa_cons (pv 12) (pa_cons (pe_un un_neg (pv 12)) pa_nil)))) (pe_slice (kSlT K) (pv 10) (po_some (pv 11)) po_none)))))
          pss_nil)
        (pss_one (ps_expr (k_bm K PySem.F.plainAttrs_list PySem.F.slot_list_append PySem.F.type_list_append mt_append (pv 4) (pa_cons (pv 10) pa_nil)))))))))))))
      (pss_one (ps_ret (pe_callTy (kTup K) (by rfl) B.tuple (by decide +kernel) (pa_cons (pv 4) pa_nil)))))), ?_⟩
    refine ⟨Nat.zero_le _, fun l nl => ?_⟩
    have sl := same_new (o := .lst []) nl
    have hql := hw.new nl
    have nlB : rm H q l = none := by rw [rm_ne hql.symm]; exact nl
    refine ⟨_, rfl, by show 5 ≤ sizeLine; decide, fun l2 nl2 => ?_⟩
    have sl2 := same_new (o := .lst [.int 1, .int 1, .int 2, .int 3, .int 4]) nl2
    have hl2q : q ≠ l2 := (hw.same sl).new nl2
    refine ⟨_, rfl, q, n, 5, rfl, by omega, by omega, by omega, hw.same (sl.trans sl2), fun r H1 s1 w1 hr5 => ?_⟩
    have hl2 : H1 l2 = some (.lst (vn [1, 1, 2, 3, 4])) := s1 l2 _ (by rw [rm_ne hl2q.symm]; exact upd_same)
    have hl1 : H1 l = some (.lst (([] : List Addr).map V.ref)) := s1 l _ (by rw [rm_ne hql.symm]; exact sl2 _ _ upd_same)
    have sB1 : Same (rm H q) H1 := rm_base ((rm_same H q).trans (sl.trans sl2)) (rm_self H q) s1
    obtain ⟨mv, hmv, hmv1, hmv4⟩ : ∃ mv : Nat, [1, 1, 2, 3, 4][r]? = some mv ∧ 1 ≤ mv ∧ mv ≤ 4 := by
      match r, hr5 with
      | 0, _ => exact ⟨1, rfl, by decide, by decide⟩
      | 1, _ => exact ⟨1, rfl, by decide, by decide⟩
      | 2, _ => exact ⟨2, rfl, by decide, by decide⟩
      | 3, _ => exact ⟨3, rfl, by decide, by decide⟩
      | 4, _ => exact ⟨4, rfl, by decide, by decide⟩
    refine ⟨l2, _, _, _, rfl, rfl, SqL.of hl2, atI_nat (vn_get hmv), _, _, _, rfl, ?_⟩
    refine ⟨_, rfl, (mv : Int), rfl, by omega, by omega, for_range (lo := 0) (n := (mv : Int).toNat) (fun i σ H' => ∃ y7 y8 y9 y10 y11 y12 left as wss, σ = [some (.ref q), some (.int (L : Int)), some (.ref a), some (.int (bd : Int)), some (.ref l), some (.int ((left : Nat) : Int)), some (.int (mv : Int)), y7, y8, y9, y10, y11, y12] ∧ left ≤ bd ∧ WAcc K (rm H q) H' q l (n + 1 + 210 * i) L bd i as wss) ⟨none, none, none, none, none, none, bd, [], [], rfl, Nat.le_refl _, sB1, w1, hl1, rfl, rfl, (fun j b w e => by simp at e), (fun _ h => nomatch h)⟩ (fun i σ H' hi ⟨y7, y8, y9, y10, y11, y12, left, as, wss, e, hlf, acc⟩ => ?_) (fun σ H' ⟨y7, y8, y9, y10, y11, y12, left, as, wss, e, hlf, acc⟩ => ?_)⟩
    · subst e
      have hi4 : i < mv := by omega
      -- the share
      refine seq_mid (fun σ' H2 => ∃ sh, σ' = [some (.ref q), some (.int (L : Int)), some (.ref a), some (.int (bd : Int)), some (.ref l), some (.int (left : Int)), some (.int (mv : Int)), some (.int (0 + (i : Int))), some (.int ((sh : Nat) : Int)), y9, y10, y11, y12] ∧ sh ≤ left ∧ WAcc K (rm H q) H2 q l (n + 2 + 210 * i) L bd i as wss) (fun N hN => ?_) (fun σ' H2 ⟨sh, e, hsh, acc2⟩ => ?_)
      · refine ⟨_, rfl, q, n + 1 + 210 * i, 3, rfl, by omega, by omega, by omega, acc.well, fun r H2 s2 w2 hr3 => ?_⟩
        have acc2 := (acc.pick (rm_self H q) s2 w2).up (m := n + 2 + 210 * i) (by omega)
        refine ⟨_, _, rfl, rfl, _, rfl, ?_⟩
        by_cases c : (r : Int) > 0
        · rw [decide_eq_true c]
          refine iteT ?_
          refine ⟨_, rfl, _, rfl, _, rfl, _, _, rfl, rfl, _, _, rfl, rfl, ⟨by omega, ?_⟩, ?_⟩
          · have h1 : ((mv : Int) - (0 + (i : Int))).natAbs = mv - i := by omega
            show ((mv : Int) - (0 + (i : Int))).natAbs.log2 < 9000
            rw [h1]
            have : (mv - i).log2 < 20 := (Nat.log2_lt (by omega)).mpr (by omega)
            omega
          · have e1 : (left : Int) / ((mv : Int) - (0 + (i : Int))) = ((left / (mv - i) : Nat) : Int) := by
              rw [show (mv : Int) - (0 + (i : Int)) = ((mv - i : Nat) : Int) by omega]
              rfl
            refine hN _ _ ⟨left / (mv - i), ?_, Nat.div_le_self _ _, acc2⟩
            rw [← e1]
            rfl
        · rw [decide_eq_false c]
          exact iteF ⟨_, rfl, hN _ _ ⟨left, rfl, Nat.le_refl _, acc2⟩⟩
      subst e
      -- the way, the walk
      refine ⟨_, rfl, q, n + 2 + 210 * i, 4, rfl, by omega, by omega, by omega, acc2.well, fun way H3 s3 w3 hway => ?_⟩
      have acc3 := acc2.pick (rm_self H q) s3 w3
      refine ⟨_, rfl, _, rfl, _, rfl, _, _, rfl, q, _, L, sh, (by show [V.ref q, V.int (L : Int), V.int (if (40 : Int) < (sh : Int) then 40 else (sh : Int))] = _; rw [if_neg (by omega)]), acc3.well, by omega, hL1, hL5, by omega, fun p1 wk1 H4 s4 w4 hp1 hst1 hl1 => ?_⟩
      have acc4 := acc3.pick (rm_self H q) s4 w4
      dsimp only
      refine seq_mid (fun σ' H5 => ∃ p wk, σ' = [some (.ref q), some (.int (L : Int)), some (.ref a), some (.int (bd : Int)), some (.ref l), some (.int (left : Int)), some (.int (mv : Int)), some (.int (0 + (i : Int))), some (.int (sh : Int)), some (.int (way : Int)), some (.ref p), y11, y12] ∧ TI K H5 p wk ∧ (∀ s ∈ wk, stepOk L s) ∧ wk.length ≤ 40 ∧ WAcc K (rm H q) H5 q l (n + 203 + 210 * i) L bd i as wss) (fun N hN => ?_) (fun σ' H5 ⟨p2, wk2, e, hp2, hst2, hl2, acc5⟩ => ?_)
      · refine ⟨_, rfl, rfl, _, rfl, ?_⟩
        by_cases c : V.int (way : Int) = .int 0
        · rw [decide_eq_true c]
          refine iteT ?_
          refine ⟨_, rfl, _, rfl, _, rfl, _, _, rfl, _, _, rfl, q, a, _, 0, L, max 1 sh, P, ?_, acc4.well, by omega, hp, hL5, by omega, hPB.same acc4.sm, hp.pos, by omega, by omega, fun p wk H5 s5 w5 hp5 hst5 hl5 => ?_⟩
          · show [V.ref q, V.ref a, V.int 0, V.int (if (if (12 : Int) < (sh : Int) then 12 else (sh : Int)) > 1 then (if (12 : Int) < (sh : Int) then 12 else (sh : Int)) else 1)] = _
            rw [if_neg (show ¬ (12 : Int) < (sh : Int) by omega)]
            have : (if (sh : Int) > 1 then (sh : Int) else 1) = ((max 1 sh : Nat) : Int) := by split <;> omega
            rw [this]
            rfl
          · exact hN _ _ ⟨p, wk, rfl, hp5, hst5, by omega, (acc4.pick (rm_self H q) s5 w5).up (by omega)⟩
        · rw [decide_eq_false c]
          exact iteF (hN _ _ ⟨p1, wk1, rfl, hp1, hst1, by omega, acc4.up (by omega)⟩)
      subst e
      -- straight, cut
      refine ⟨_, rfl, p2, wk2, rfl, hp2, by omega, fun t H6 s6 nt ht => ?_⟩
      refine ⟨_, rfl, _, rfl, slT_all (SqT.of ht) fun p3 H7 s7 hp3 => ?_⟩
      have acc7 := acc5.grow (s6.trans s7)
      have hst3 : ∀ s ∈ cutI (straight wk2) none (some (sh : Int)), stepOk L s := fun s hs => hst2 s (mem_straight (cutI_mem hs))
      have hl3 := cutI_to (straight wk2) sh
      generalize cutI (straight wk2) none (some (sh : Int)) = wk3 at hp3 hst3 hl3
      dsimp only
      -- another one, if it belongs
      refine seq_mid (fun σ' H5 => ∃ p wk, σ' = [some (.ref q), some (.int (L : Int)), some (.ref a), some (.int (bd : Int)), some (.ref l), some (.int (left : Int)), some (.int (mv : Int)), some (.int (0 + (i : Int))), some (.int (sh : Int)), some (.int (way : Int)), some (.ref p), y11, y12] ∧ TI K H5 p wk ∧ (∀ s ∈ wk, stepOk L s) ∧ wk.length ≤ sh ∧ WAcc K (rm H q) H5 q l (n + 205 + 210 * i) L bd i as wss) (fun N hN => ?_) (fun σ' H8 ⟨p4, wk4, e, hp4, hst4, hl4, acc8⟩ => ?_)
      · refine ⟨_, rfl, _, rfl, a, p3, 0, L, P, wk3, rfl, hp, hp.pos, hPB.same acc7.sm, hp3, fun H8 s8 => ?_⟩
        have acc8 := acc7.grow s8
        have hp8 := s8.tup hp3
        refine ⟨by rw [scal_vo], _, rfl, ?_⟩
        cases decide (vo (led P 0 wk3) = V.int 0) with
        | false => exact iteF (iteF (hN _ _ ⟨p3, wk3, rfl, hp8, hst3, hl3, acc8.up (by omega)⟩))
        | true =>
          refine iteT ?_
          refine ⟨_, rfl, q, _, 8, rfl, by omega, by omega, by omega, acc8.well, fun r H9 s9 w9 hr8 => ?_⟩
          have acc9 := acc8.pick (rm_self H q) s9 w9
          have hp9 := s9.tup (acc8.well.tup hp8)
          refine ⟨_, _, rfl, rfl, _, rfl, ?_⟩
          by_cases c : (r : Int) > 0
          · rw [decide_eq_true c]
            refine iteT ?_
            refine ⟨_, rfl, _, rfl, _, rfl, _, rfl, _, rfl, q, a, p3, _, L, sh, P, wk3, rfl, acc9.well, by omega, hp, hL1, hL5, hPB.same acc9.sm, hp9, hst3, hl3, by omega, fun p wk H5 s5 w5 hp5 hst5 hl5 => ?_⟩
            exact hN _ _ ⟨p, wk, rfl, hp5, hst5, hl5, (acc9.pick (rm_self H q) s5 w5).up (by omega)⟩
          · rw [decide_eq_false c]
            exact iteF (hN _ _ ⟨p3, wk3, rfl, hp9, hst3, hl3, acc9.up (by omega)⟩)
      subst e
      -- what is left
      refine ⟨_, rfl, _, rfl, p4, _, rfl, .inr hp4, _, _, rfl, rfl, ?_⟩
      have elf : (fun i j : Int => V.int (i - j)) (left : Int) (((vi wk4).length : Nat) : Int) = .int ((left - wk4.length : Nat) : Int) := by
        show V.int ((left : Int) - (((vi wk4).length : Nat) : Int)) = _
        rw [List.length_map]
        exact congrArg V.int (by omega)
      rw [elf]
      dsimp only
      -- two steps that go nowhere
      refine seq_mid (fun σ' H5 => ∃ p wk z11 z12, σ' = [some (.ref q), some (.int (L : Int)), some (.ref a), some (.int (bd : Int)), some (.ref l), some (.int ((left - wk4.length : Nat) : Int)), some (.int (mv : Int)), some (.int (0 + (i : Int))), some (.int (sh : Int)), some (.int (way : Int)), some (.ref p), z11, z12] ∧ TI K H5 p wk ∧ (∀ s ∈ wk, stepOk L s) ∧ wk.length ≤ bd + 2 ∧ WAcc K (rm H q) H5 q l (n + 207 + 210 * i) L bd i as wss) (fun N hN => ?_) (fun σ' H9 ⟨p5, wk5, z11, z12, e, hp5, hst5, hl5, acc9⟩ => ?_)
      · refine ⟨_, rfl, rfl, _, rfl, ?_⟩
        by_cases c : V.int (way : Int) = .int 1
        · rw [decide_eq_true c]
          refine iteT ?_
          refine ⟨_, rfl, _, rfl, p4, _, rfl, .inr hp4, _, _, rfl, rfl, q, _, wk4.length + 1, (by show [V.ref q, V.int ((((vi wk4).length : Nat) : Int) + 1)] = _; rw [List.length_map]; rfl), by omega, by omega, by omega, acc8.well, fun at_ H9 s9 w9 hat => ?_⟩
          have acc9 := acc8.pick (rm_self H q) s9 w9
          have hp9 := s9.tup (acc8.well.tup hp4)
          refine ⟨_, rfl, _, rfl, q, _, L, rfl, by omega, by omega, by omega, acc9.well, fun st H10 s10 w10 hst0 => ?_⟩
          have acc10 := acc9.pick (rm_self H q) s10 w10
          have hp10 := s10.tup (acc9.well.tup hp9)
          refine ⟨_, _, rfl, rfl, _, _, rfl, ?_⟩
          refine ⟨_, rfl, _, rfl, _, rfl, slT_all hp10 fun u1 H11 s11 hu1 => ?_⟩
          refine ⟨_, rfl, _, rfl, _, rfl, by show 2 ≤ sizeLine; decide, fun u2 nu2 => ?_⟩
          have s12 := same_new (o := .tup [.int (1 + (st : Int)), .int (-(1 + (st : Int)))]) nu2
          have hu2 : TI K (upd H11 u2 (.tup [.int (1 + (st : Int)), .int (-(1 + (st : Int)))])) u2 [1 + (st : Int), -(1 + (st : Int))] := SqT.of upd_same
          have c1 := cutI_len wk4 none (some (at_ : Int))
          have c2 := cutI_len wk4 (some (at_ : Int)) none
          refine catT_all (s12.tup hu1) hu2 (by show _ + 2 ≤ _; omega) fun u3 H12 s13 hu3 => ?_
          have s113 := s11.trans (s12.trans s13)
          refine ⟨_, rfl, _, rfl, _, rfl, ?_⟩
          dsimp only [tNoPart]
          refine slT_all (s113.tup hp10) fun u4 H13 s14 hu4 => ?_
          refine catT_all (s14.tup hu3) hu4 (by rw [List.length_append]; show _ + 2 + _ ≤ _; omega) fun u5 H14 s15 hu5 => ?_
          refine hN _ _ ⟨u5, _, _, _, rfl, hu5, fun s hs => ?_, ?_, (acc10.grow (s113.trans (s14.trans s15))).up (by omega)⟩
          · rcases List.mem_append.mp hs with h | h
            · rcases List.mem_append.mp h with h | h
              · exact hst4 s (cutI_mem h)
              · rcases List.mem_cons.mp h with h | h
                · rw [h]; exact ⟨by omega, by omega⟩
                · rw [List.mem_singleton.mp h]; exact ⟨by omega, by omega⟩
            · exact hst4 s (cutI_mem h)
          · have c3 : (cutI wk4 none (some (at_ : Int))).length + (cutI wk4 (some (at_ : Int)) none).length ≤ wk4.length := by
              unfold cutI
              rw [show HT.sIx wk4.length wk4.length (some (at_ : Int)) = min at_ wk4.length from HT.sIx_nat _ _ at_, show HT.sIx wk4.length 0 (some (at_ : Int)) = min at_ wk4.length from HT.sIx_nat _ _ at_, HT.sIx_none, HT.sIx_none, List.length_take, List.length_drop, List.length_take, List.length_drop]
              omega
            rw [List.length_append, List.length_append]
            show _ + 2 + _ ≤ _
            omega
        · rw [decide_eq_false c]
          exact iteF (hN _ _ ⟨p4, wk4, y11, y12, rfl, hp4, hst4, by omega, acc8.up (by omega)⟩)
      subst e
      refine ⟨_, rfl, .inl ⟨rfl, _, SqL.of acc9.lst⟩, _, rfl, l, _, _, rfl, rfl, acc9.lst, by rw [List.length_map, acc9.la]; exact smallL (by omega), ?_⟩
      exact ⟨_, _, _, _, _, _, left - wk4.length, _, _, rfl, by omega, (acc9.add nlB hp5 ⟨hst5, hl5⟩).up (by omega)⟩
    · subst e
      refine ⟨_, rfl, l, _, rfl, .inl ⟨SqL.of acc.lst, fun p np => ?_⟩⟩
      have sp := same_new (o := .tup (as.map V.ref)) np
      have ha := acc.grow sp
      refine fin p wss _ ha.sm ⟨as, SqT.of upd_same, by rw [ha.la, ha.lw], ha.at_⟩ ⟨by rw [ha.lw]; omega, by rw [ha.lw]; omega, fun w hw => (ha.ok w hw).1, fun w hw => by have := (ha.ok w hw).2; omega⟩ fun w hw => (ha.ok w hw).2
end
end Wk
set_option Elab.async false
set_option linter.all false
set_option maxRecDepth 100000
set_option maxHeartbeats 4000000
namespace Wk
open PySem L2 Wc
/-! ### a step is taken away -/
def _root_.Wc.Pic.del (P : Pic) (i : Nat) (s : Int) : Pic := ⟨P.n, fun r t => if r = i ∧ t = s then none else P.go r t⟩
theorem del_at (P : Pic) (i : Nat) (s : Int) : (P.del i s).go i s = none := if_pos ⟨rfl, rfl⟩
theorem del_ne {P : Pic} {i r : Nat} {s t : Int} (h : ¬ (r = i ∧ t = s)) : (P.del i s).go r t = P.go r t := if_neg h
theorem del_sub {P : Pic} {i r q : Nat} {s t : Int} (h : (P.del i s).go r t = some q) : P.go r t = some q ∧ ¬ (r = i ∧ t = s) := by
  by_cases c : r = i ∧ t = s
  · rw [c.1, c.2, del_at] at h
    cases h
  · rw [del_ne c] at h
    exact ⟨h, c⟩
def dropR (l : Row) (s : Int) : Row := l.filter fun p => decide (p.1 ≠ s)
theorem dropR_e2 (l : Row) (s : Int) : dropK (l.map e2) (Sum.inl s) = (dropR l s).map e2 := by
  unfold dropK dropR
  rw [List.filter_map]
  congr 1
  refine List.filter_congr fun p _ => ?_
  show decide ((Sum.inl p.1 : Key) ≠ Sum.inl s) = decide (p.1 ≠ s)
  by_cases c : p.1 = s
  · simp [c]
  · have : (Sum.inl p.1 : Key) ≠ Sum.inl s := fun e => c (Sum.inl.inj e)
    simp [c, this]
theorem dropR_lk (l : Row) (s t : Int) : lk t (dropR l s) = if t = s then none else lk t l := by
  induction l with
  | nil =>
    unfold dropR
    rw [List.filter_nil]
    unfold lk
    simp
  | cons p r ih =>
    unfold dropR at ih ⊢
    rw [List.filter_cons]
    by_cases c : p.1 = s
    · simp only [c, ne_eq, not_true_eq_false, decide_false, Bool.false_eq_true, if_false]
      rw [ih]
      by_cases d : t = s
      · rw [if_pos d, if_pos d]
      · rw [if_neg d, if_neg d]
        rw [show lk t (p :: r) = lk t r by rw [lk, if_neg (by rw [c]; exact Ne.symm d)]]
    · simp only [c, ne_eq, not_false_eq_true, decide_true, if_true]
      by_cases d : p.1 = t
      · rw [show lk t (p :: List.filter (fun p => decide (¬ p.1 = s)) r) = some p.2 by unfold lk; rw [if_pos d], show lk t (p :: r) = some p.2 by unfold lk; rw [if_pos d], if_neg (by rw [← d]; exact c)]
      · rw [show lk t (p :: List.filter (fun p => decide (¬ p.1 = s)) r) = lk t (List.filter (fun p => decide (¬ p.1 = s)) r) by rw [lk, if_neg d], show lk t (p :: r) = lk t r by rw [lk, if_neg d]]
        exact ih
theorem Pics.del {H : Hp} {ds : List Addr} {kv : Nat → Row} {P : Pic} {i : Nat} {d : Addr} {s : Int} (h : Pics H ds kv P) (hi : ds[i]? = some d) :
    Pics (upd H d (.dK (dropK ((kv i).map e2) (Sum.inl s)))) ds (fun j => if j = i then dropR (kv i) s else kv j) (P.del i s) := by
  refine ⟨h.nd, h.len, fun j d' hd' => ?_⟩
  by_cases c : j = i
  · subst c
    rw [hi] at hd'
    cases hd'
    have r := h.row j d hi
    simp only [if_true]
    refine ⟨by rw [upd_same, dropR_e2], r.nd.sublist ((List.filter_sublist).map _), fun t => ?_⟩
    rw [dropR_lk]
    show _ = if j = j ∧ t = s then none else P.go j t
    by_cases ct : t = s
    · rw [if_pos ct, if_pos ⟨rfl, ct⟩]
    · rw [if_neg ct, if_neg (fun z => ct z.2), r.go]
  · simp only [if_neg c]
    have r := h.row j d' hd'
    have hne : d' ≠ d := fun z => c (nd_get h.nd hd' (z ▸ hi))
    refine ⟨by rw [upd_ne hne]; exact r.at_, r.nd, fun t => ?_⟩
    rw [r.go t]
    show _ = if j = i ∧ t = s then none else P.go j t
    rw [if_neg (fun z => c z.1)]
/-- an edge is taken away -/
theorem del_ok {R : Pic} {L x g : Nat} {s : Int} (h : R.Ok L) (hg : R.go x s = some g) : ((R.del x s).del g (-s)).Ok L := by
  refine ⟨h.pos, fun r t q e => ?_⟩
  obtain ⟨e1, n1⟩ := del_sub e
  obtain ⟨e2, n2⟩ := del_sub e1
  obtain ⟨a, b, c, d⟩ := h.ok r t q e2
  have hb := (h.ok x s g hg).2.2.2
  refine ⟨a, b, c, ?_⟩
  have m1 : ¬ (q = g ∧ -t = -s) := by
    rintro ⟨rfl, z⟩
    have : t = s := by omega
    subst this
    rw [hb] at d
    exact n2 ⟨(Option.some.inj d).symm, rfl⟩
  have m2 : ¬ (q = x ∧ -t = s) := by
    rintro ⟨rfl, z⟩
    rw [z, hg] at d
    have : g = r := Option.some.inj d
    exact n1 ⟨this.symm, by omega⟩
  rw [del_ne m1, del_ne m2]
  exact d
/-! ### how many steps there are -/
def pairsL (n L : Nat) : List (Nat × Int) := (List.range n).flatMap fun r => (stepsL L).map fun s => (r, s)
def cntE (n L : Nat) (R : Pic) : Nat := ((pairsL n L).filter fun p => (R.go p.1 p.2).isSome).length
theorem pairs_len (L : Nat) : ∀ n : Nat, (pairsL n L).length = n * (2 * L)
  | 0 => by unfold pairsL; rw [Nat.zero_mul]; rfl
  | n + 1 => by
    have ih := pairs_len L n
    unfold pairsL at ih ⊢
    have h2 : ([n].flatMap fun r => (stepsL L).map fun s => (r, s)).length = 2 * L := by
      show (((stepsL L).map fun s => (n, s)) ++ []).length = _
      rw [List.append_nil, List.length_map, stepsL_length]
    rw [List.range_succ, List.flatMap_append, List.length_append, ih, h2]
    exact (Nat.succ_mul n (2 * L)).symm
theorem cntE_le (n L : Nat) (R : Pic) : cntE n L R ≤ n * (2 * L) := by
  rw [← pairs_len L n]
  exact List.length_filter_le _ _
theorem filter_lt {α : Type} {f g : α → Bool} : ∀ {l : List α}, (∀ x, f x = true → g x = true) → (∃ x ∈ l, g x = true ∧ f x = false) → (l.filter f).length < (l.filter g).length
  | [], _, ⟨x, h, _⟩ => nomatch h
  | a :: r, hs, ⟨x, hx, hg, hf⟩ => by
    have le : ∀ l : List α, (l.filter f).length ≤ (l.filter g).length := fun l => by
      induction l with
      | nil => exact Nat.le_refl _
      | cons b t ih =>
        rw [List.filter_cons, List.filter_cons]
        cases hb : f b with
        | true => rw [hs b hb]; simp only [if_true, List.length_cons]; omega
        | false =>
          cases hgb : g b with
          | true => simp only [if_true, Bool.false_eq_true, if_false, List.length_cons]; omega
          | false => simp only [Bool.false_eq_true, if_false]; exact ih
    rw [List.filter_cons, List.filter_cons]
    rcases List.mem_cons.mp hx with z | z
    · subst z
      rw [hg, hf]
      simp only [if_true, Bool.false_eq_true, if_false, List.length_cons]
      have := le r
      omega
    · have ih := filter_lt (l := r) hs ⟨x, z, hg, hf⟩
      cases hb : f a with
      | true => rw [hs a hb]; simp only [if_true, List.length_cons]; omega
      | false =>
        cases hgb : g a with
        | true => simp only [if_true, Bool.false_eq_true, if_false, List.length_cons]; omega
        | false => simp only [Bool.false_eq_true, if_false]; exact ih
theorem cntE_del {n L x g : Nat} {s : Int} {R : Pic} (h : R.Ok L) (hn : R.n = n) (hg : R.go x s = some g) : cntE n L ((R.del x s).del g (-s)) < cntE n L R := by
  obtain ⟨a, _, c, _⟩ := h.ok x s g hg
  refine filter_lt (fun p hp => ?_) ⟨(x, s), ?_, ?_, ?_⟩
  · obtain ⟨q, hq⟩ := Option.isSome_iff_exists.mp hp
    rw [(del_sub (del_sub hq).1).1]
    rfl
  · exact List.mem_flatMap.mpr ⟨x, List.mem_range.mpr (by omega), List.mem_map.mpr ⟨s, mem_stepsL.mpr c, rfl⟩⟩
  · show (R.go x s).isSome = true
    rw [hg]; rfl
  · show (((R.del x s).del g (-s)).go x s).isSome = false
    have : ((R.del x s).del g (-s)).go x s = none := by
      by_cases z : x = g ∧ s = -s
      · exact if_pos z
      · rw [del_ne z, del_at]
    rw [this]; rfl
/-! ### the idle ends are taken away -/
structure Trim (n L : Nat) (R : Pic) (kv : Nat → Row) (il : List Nat) : Prop where
  ok : R.Ok L
  hn : R.n = n
  idle : ∀ x ∈ il, 0 < x ∧ x < n ∧ (kv x).length ≤ 1
  all : ∀ r, 0 < r → r < n → (kv r).length = 1 → r ∈ il
theorem row_len_two {l : Row} (h : 2 ≤ l.length) (nd : (l.map (·.1)).Nodup) : ∃ s t, s ≠ t ∧ (lk s l).isSome ∧ (lk t l).isSome := by
  match l, h, nd with
  | p :: r :: _, _, nd =>
    have nd : (p.1 :: r.1 :: _).Nodup := nd
    obtain ⟨n1, _⟩ := List.nodup_cons.mp nd
    have hne : p.1 ≠ r.1 := fun z => n1 (by rw [z]; exact List.mem_cons_self)
    refine ⟨p.1, r.1, hne, ?_, ?_⟩
    · rw [lk, if_pos rfl]; rfl
    · rw [lk, if_neg hne, lk, if_pos rfl]; rfl
theorem Trim.pop {n L : Nat} {R : Pic} {kv : Nat → Row} {il : List Nat} {x : Nat} (h : Trim n L R kv (il ++ [x])) (hx : kv x = []) : Trim n L R kv il :=
  ⟨h.ok, h.hn, fun y hy => h.idle y (List.mem_append_left _ hy), fun r a b c => by
    rcases List.mem_append.mp (h.all r a b c) with z | z
    · exact z
    · rw [List.mem_singleton.mp z, hx] at c
      cases c⟩
theorem Trim.step {n L x g : Nat} {R : Pic} {kv : Nat → Row} {il il2 : List Nat} {s : Int} (h : Trim n L R kv (il ++ [x])) (hx : kv x = [(s, g)]) (hg : R.go x s = some g) (hne : g ≠ x)
    (hi : il2 = il ++ (if 0 < g ∧ (dropR (kv g) (-s)).length = 1 then [g] else [])) :
    Trim n L ((R.del x s).del g (-s)) (fun j => if j = g then dropR ((fun j => if j = x then dropR (kv x) s else kv j) g) (-s) else (fun j => if j = x then dropR (kv x) s else kv j) j) il2 := by
  obtain ⟨a1, a2, a3, a4⟩ := h.ok.ok x s g hg
  have hn := h.hn
  have ex : dropR (kv x) s = [] := by rw [hx]; unfold dropR; simp
  have kg : (fun j => if j = x then dropR (kv x) s else kv j) g = kv g := if_neg hne
  rw [kg]
  have sub : ∀ (l : Row) (t : Int), (dropR l t).length ≤ l.length := fun l t => List.length_filter_le _ _
  refine ⟨del_ok h.ok hg, hn, fun y hy => ?_, fun r r0 rn hr => ?_⟩
  · rw [hi] at hy
    rcases List.mem_append.mp hy with z | z
    · obtain ⟨b1, b2, b3⟩ := h.idle y (List.mem_append_left _ z)
      refine ⟨b1, b2, ?_⟩
      by_cases c : y = g
      · subst c
        simp only [if_true]
        have := sub (kv y) (-s)
        omega
      · simp only [if_neg c]
        by_cases d : y = x
        · simp only [if_pos d]
          rw [ex]; exact Nat.zero_le _
        · simp only [if_neg d]; exact b3
    · by_cases c : 0 < g ∧ (dropR (kv g) (-s)).length = 1
      · rw [if_pos c] at z
        rw [List.mem_singleton.mp z]
        refine ⟨c.1, by omega, ?_⟩
        simp only [if_true]
        omega
      · rw [if_neg c] at z
        cases z
  · rw [hi]
    by_cases c : r = g
    · subst c
      simp only [if_true] at hr
      exact List.mem_append_right _ (by rw [if_pos ⟨r0, hr⟩]; exact List.mem_singleton.mpr rfl)
    · simp only [if_neg c] at hr
      by_cases d : r = x
      · simp only [if_pos d] at hr
        rw [ex] at hr
        cases hr
      · simp only [if_neg d] at hr
        rcases List.mem_append.mp (h.all r r0 rn hr) with z | z
        · exact List.mem_append_left _ z
        · exact absurd (List.mem_singleton.mp z) d
section
variable {P : Program} {w : World} {K : PySem.W.Frag} {mg : Str → Option Value} {base : Heap}
/-- what stands while the picture is trimmed -/
structure TrimAt (H H' : Hp) (l li : Addr) (ds : List Addr) (n L : Nat) (R : Pic) (kv : Nat → Row) (il : List Nat) : Prop where
  sm : Same H H'
  lst : H' l = some (.lst (ds.map V.ref))
  idl : H' li = some (.lst (vn il))
  pic : Pics H' ds kv R
  tr : Trim n L R kv il
abbrev s_law_named : Stmt := top 48
abbrev n_law_named : List Str := ["_law_letters", "_law_doors_here", "_law_left", "_law_steps", "_law_idle", "_law_room", "_law_step", "_law_goal", "_law_order", "_law_at", "_law_letter", "_law_rows_here", "_law_row"]
theorem sc_law_named : FnScope n_law_named ["_law_letters", "_law_doors_here"] (defScope s_law_named) := ⟨rfl, rfl, rfl, by decide +kernel, rfl, by decide +kernel, by decide +kernel⟩
def sp_law_named (K : PySem.W.Frag) : Sp := fun vs H Q _ => ∃ (L : Nat) (a : Addr) (P : Pic), vs = [.int (L : Int), .ref a] ∧ P.Ok L ∧ 1 ≤ L ∧ L ≤ 4 ∧ P.n ≤ 1000 ∧ PicAt H a P ∧ ∀ t P' H', Same H H' → WebAt K H' t L P' → Web L P' → P'.n ≤ P.n → Q (.ref t) H'
theorem ok_law_named (B : Bi mg) (F : Df K mg "_law_named" s_law_named ["_law_letters", "_law_doors_here"]) : Has P w K mg base 1 "_law_named" ["_law_letters", "_law_doors_here"] (sp_law_named K) := by
  refine F.ok sc_law_named (fun vs H Q E h => ?_) (fun f cdv A outer s H vs Q E hr h => ?_)
  · obtain ⟨L, a, P, rfl, _⟩ := h
    rfl
  · obtain ⟨L, a, P, rfl, hp, hL1, hL4, hpn, ⟨ds0, kv0, hA, hP0⟩, fin⟩ := h
    have hpos := hp.pos
    refine ⟨_, (pss_cons (ps_set (i := 2) sc_law_named.nd rfl (Or.inr rfl) (pe_lc (own := [("_law_steps", 3)]) rfl sc_law_named.nd (pi_list (pv 1)) (blkOk_by (N := n_law_named) (sc := defScope s_law_named) (by decide +kernel)) (fun _ _ _ _ _ => (pg_name (i := 3) sc_law_named.nd rfl (Or.inl rfl))) (fun _ _ _ _ _ => pts_nil) (fun _ _ _ _ _ => (pe_callTy call_dictD (by rfl) B.dict (by decide +kernel) (pa_cons (pv 3) pa_nil)))))
      (pss_cons (ps_setLc (i := 4) (own := [("_law_room", 5)]) rfl sc_law_named.nd rfl rfl (sw_true rfl rfl rfl (by decide +kernel)) (pi_range2 rfl B.range (pa_cons pe_int (pa_cons (pe_callB (kLen K) (by rfl) B.len PySem.boot_len (pa_cons (pv 2) pa_nil)) pa_nil))) (blkOk_by (N := n_law_named) (sc := defScope s_law_named) (by decide +kernel)) (fun _ _ _ _ _ => (pg_name (i := 5) sc_law_named.nd rfl (Or.inl rfl))) (fun _ _ _ _ _ => (pts_one (pt_cmpR op_eq (pe_callB call_lenD (by rfl) B.len PySem.boot_len (pa_cons (pe_ix (kIxL K) (pv 2) (pv 5) (fun _ _ => rfl)) pa_nil)) pe_int (nomark _)))) (fun _ _ _ _ _ => (pv 5)))
      (pss_cons (ps_while PassesOwn.never (pt_cmpR op_gt (pe_callB (kLen K) (by rfl) B.len PySem.boot_len (pa_cons (pv 4) pa_nil)) pe_int (nomark _))
        (pss_cons (ps_set (i := 5) sc_law_named.nd rfl (Or.inr rfl) (k_bm0 K PySem.F.plainAttrs_list PySem.F.slot_list_pop PySem.F.type_list_pop mt_pop (pv 4)))
        (pss_one (ps_for PassesOwn.never rfl (pi_list (pe_callTy (call_list_dK rfl) (by rfl) B.list (by decide +kernel) (pa_cons (pe_ix (kIxL K) (pv 2) (pv 5) (fun _ _ => rfl)) pa_nil))) (pg_name (i := 6) sc_law_named.nd rfl (Or.inl rfl))
          (pss_cons (ps_set (i := 7) sc_law_named.nd rfl (Or.inl rfl) (pe_dpop1 (pe_ix (kIxL K) (pv 2) (pv 5) (fun _ _ => rfl)) (pv 6) ⟨by rfl, by rfl, by rfl, by rfl⟩))
          (pss_cons (ps_expr (pe_dpop1 (pe_ix (kIxL K) (pv 2) (pv 7) (fun _ _ => rfl)) (pe_un un_neg (pv 6)) ⟨by rfl, by rfl, by rfl, by rfl⟩))
          (pss_one (ps_if (PW.pt (pw_and (pt_cmpR op_gt (pv 7) pe_int (nomark _)) (pw_and1 (pt_cmpR op_eq (pe_callB call_lenD (by rfl) B.len PySem.boot_len (pa_cons (pe_ix (kIxL K) (pv 2) (pv 7) (fun _ _ => rfl)) pa_nil)) pe_int (nomark _)))))
            (pss_one (ps_expr (k_bm K PySem.F.plainAttrs_list PySem.F.slot_list_append PySem.F.type_list_append mt_append (pv 4) (pa_cons (pv 7) pa_nil))))
            pss_nil))))))))
      (pss_cons (ps_asg (pe_tup (pa_cons (pe_lst (pa_cons pe_int pa_nil)) (pa_cons pe_int pa_nil))) (k_tup K (n := 2) rfl (pgs_cons (pg_name (i := 8) sc_law_named.nd rfl (Or.inr rfl)) (pgs_cons (pg_name (i := 9) sc_law_named.nd rfl (Or.inl rfl)) pgs_nil))))
      (pss_cons (ps_while PassesOwn.never (pt_cmpR op_lt (pv 9) (pe_callB (kLen K) (by rfl) B.len PySem.boot_len (pa_cons (pv 8) pa_nil)) (nomark _))
        (pss_cons (ps_for PassesOwn.never rfl (pi_range2 rfl B.range (pa_cons pe_int (pa_cons (pe_op op_add (pv 0) pe_int) pa_nil))) (pg_name (i := 10) sc_law_named.nd rfl (Or.inl rfl))
          (pss_one (ps_for PassesOwn.never rfl (pi_tup (pe_tup (pa_cons (pv 10) (pa_cons (pe_un un_neg (pv 10)) pa_nil)))) (pg_name (i := 6) sc_law_named.nd rfl (Or.inl rfl))
            (pss_one (ps_if (PW.pt (pw_and (pt_cmp (pc_din (hu_of hr) (pv 6) (pe_ix (kIxL K) (pv 2) (pe_ix (kIxL K) (pv 8) (pv 9) (fun _ _ => rfl)) (fun _ _ => rfl)))) (pw_and1 (pt_cmpR (kNotIn K) (pe_dget (hu_of hr) (pe_ix (kIxL K) (pv 2) (pe_ix (kIxL K) (pv 8) (pv 9) (fun _ _ => rfl)) (fun _ _ => rfl)) (pv 6) (fun _ _ => rfl)) (pv 8) (by rfl)))))
              (pss_one (ps_expr (k_bm K PySem.F.plainAttrs_list PySem.F.slot_list_append PySem.F.type_list_append mt_append (pv 8) (pa_cons (pe_dget (hu_of hr) (pe_ix (kIxL K) (pv 2) (pe_ix (kIxL K) (pv 8) (pv 9) (fun _ _ => rfl)) (fun _ _ => rfl)) (pv 6) (fun _ _ => rfl)) pa_nil))))
              pss_nil)))))
        (pss_one (ps_set (i := 9) sc_law_named.nd rfl (Or.inl rfl) (pe_op op_add (pv 9) pe_int)))))
      (pss_cons (ps_set (i := 11) sc_law_named.nd rfl (Or.inl rfl) (pe_lst pa_nil))
      (pss_cons (ps_for PassesOwn.never rfl (pi_list (pv 8)) (pg_name (i := 5) sc_law_named.nd rfl (Or.inr rfl))
        (pss_cons (ps_setLc (i := 12) (own := [("_law_letter", 10)]) rfl sc_law_named.nd rfl rfl (sw_true rfl rfl rfl (by decide +kernel)) (pi_range2 rfl B.range (pa_cons pe_int (pa_cons (pe_op op_add (pv 0) pe_int) pa_nil))) (blkOk_by (N := n_law_named) (sc := defScope s_law_named) (by decide +kernel)) (fun _ _ _ _ _ => (pg_name (i := 10) sc_law_named.nd rfl (Or.inl rfl))) (fun _ _ _ _ _ => pts_nil) (fun _ _ _ _ _ => (pe_dget1 (hu_of hr) (pe_ix (kIxL K) (pv 2) (pv 5) (fun _ _ => rfl)) (pv 10) ⟨by rfl, by rfl, by rfl, by rfl⟩)))
        (pss_one (ps_expr (k_bm K PySem.F.plainAttrs_list PySem.F.slot_list_append PySem.F.type_list_append mt_append (pv 11) (pa_cons (pe_callTy (kTup K) (by rfl) B.tuple (by decide +kernel) (pa_cons (pe_lc (own := [("_law_goal", 7)]) rfl sc_law_named.nd (pi_list (pv 12)) (blkOk_by (N := n_law_named) (sc := defScope s_law_named) (by decide +kernel)) (fun _ _ _ _ _ => (pg_name (i := 7) sc_law_named.nd rfl (Or.inl rfl))) (fun _ _ _ _ _ => pts_nil) (fun _ _ _ _ _ => (pe_ifExp (pt_cmpR op_isN (pv 7) pe_non (nomark _)) (pe_un un_neg pe_int) (k_bm K PySem.F.plainAttrs_list PySem.F.slot_list_index PySem.F.type_list_index (kIdx K) (pv 8) (pa_cons (pv 7) pa_nil))))) pa_nil)) pa_nil))))))
      (pss_one (ps_ret (pe_tup (pa_cons (pv 0) (pa_cons (pe_callTy (kTup K) (by rfl) B.tuple (by decide +kernel) (pa_cons (pv 11) pa_nil)) pa_nil)))))))))))), ?_⟩
    refine ⟨_, rfl, a, rfl, ⟨_, SqL.of hA⟩, lcn walk_list (fun _ => true) (fun i => .dK ((kv0 i).map e2)) (by rw [List.length_map, hP0.len]; omega) (fun H' s' => SqL.of (s' _ _ hA)) YAt.same (fun i x H1 H2 hi s1 s2 y => ?_) (fun l ds H1 nl s1 hl hN hD => ?_)⟩
    · obtain ⟨d, hd, rfl⟩ := of_refs_get y.2
      refine ⟨_, fun Qg h => h, rfl, evt_yes, fun _ H3 s3 Q3 q3 => ?_⟩
      have r3 := (hP0.row i d hd).same (s2.trans s3)
      exact ⟨_, rfl, d, _, rfl, .inl r3.at_, fun p np => q3 p _ (same_new np) np upd_same⟩
    have hP1 := pics_copy hP0 (by rw [List.length_map, hP0.len]) hN
    have hnew := hN.new
    -- the idle ends
    refine ⟨_, rfl, l, _, rfl, .inl (SqL.of hl), _, _, rfl, ?_⟩
    rw [List.length_map, hP1.len]
    refine ⟨⟨by omega, by omega, by omega, by omega⟩, lcg (walk_range (lo := 1) (n := ((P.n : Int) - 1).toNat)) (fun j => decide (V.int ((kv0 (1 + j)).length : Int) = V.int 1)) (fun j => V.int ((1 : Int) + (j : Int))) (by omega) (fun H' s' => trivial) YFn.same (fun j x H2 H3 hj s2 s3 y => ?_) (fun li H2 nli s2 hli => ?_)⟩
    · obtain ⟨_, rfl⟩ := y
      have hj1 : 1 + j < P.n := by omega
      obtain ⟨d, hd, rw0⟩ := (hP1.same s3).get hj1
      have e1 : (1 : Int) + (j : Int) = ((1 + j : Nat) : Int) := by omega
      refine ⟨_, fun Qg h => h, rfl, fun H4 s4 Q4 q4 => ?_, fun _ H4 s4 Q4 q4 => ⟨_, rfl, q4 H4 (Evl.Ex.refl H4)⟩⟩
      have s4 : Same H3 H4 := s4
      have rw4 := rw0.same s4
      have q4 := q4 H4 (Evl.Ex.refl H4)
      refine ⟨_, rfl, _, rfl, l, _, _, _, rfl, rfl, SqL.of ((s3.trans s4) _ _ hl), (by show atI _ ((1 : Int) + (j : Int)) = _; rw [e1]; exact atI_nat (refs_get hd)), d, _, rfl, rw4.at_, rfl, _, rfl, ?_⟩
      rw [List.length_map]
      exact q4
    have hli : H2 li = some (.lst (vn (((List.range ((P.n : Int) - 1).toNat).filter fun j => decide (V.int ((kv0 (1 + j)).length : Int) = V.int 1)).map fun j => 1 + j))) := by
      rw [hli]
      unfold Evl.given vn
      rw [List.map_map]
      congr 3
    have t0 : Trim P.n L P kv0 (((List.range ((P.n : Int) - 1).toNat).filter fun j => decide (V.int ((kv0 (1 + j)).length : Int) = V.int 1)).map fun j => 1 + j) := by
      refine ⟨hp, rfl, fun x hx => ?_, fun r r0 rn hr => ?_⟩
      · obtain ⟨j, hj, rfl⟩ := List.mem_map.mp hx
        obtain ⟨j1, j2⟩ := List.mem_filter.mp hj
        have j1 := List.mem_range.mp j1
        have := V.int.inj (of_decide_eq_true j2)
        exact ⟨by omega, by omega, by omega⟩
      · refine List.mem_map.mpr ⟨r - 1, List.mem_filter.mpr ⟨List.mem_range.mpr (by omega), ?_⟩, by omega⟩
        rw [show 1 + (r - 1) = r by omega, hr]
        rfl
    have hlli : l ≠ li := by
      rintro rfl
      rw [hl] at nli
      cases nli
    have nli0 := s1.free nli
    have hmu : cntE P.n L P + (((List.range ((P.n : Int) - 1).toNat).filter fun j => decide (V.int ((kv0 (1 + j)).length : Int) = V.int 1)).map fun j => 1 + j).length ≤ 10000 := by
      have h1 := cntE_le P.n L P
      have h2 := List.length_filter_le (fun j => decide (V.int ((kv0 (1 + j)).length : Int) = V.int 1)) (List.range ((P.n : Int) - 1).toNat)
      rw [List.length_range] at h2
      rw [List.length_map]
      have h3 : P.n * (2 * L) ≤ 1000 * 8 := Nat.mul_le_mul (by omega) (by omega)
      omega
    have T0 : TrimAt H H2 l li ds P.n L P kv0 _ := ⟨s1.trans s2, s2 _ _ hl, hli, hP1.same s2, t0⟩
    generalize (((List.range ((P.n : Int) - 1).toNat).filter fun j => decide (V.int ((kv0 (1 + j)).length : Int) = V.int 1)).map fun j => 1 + j) = il0 at T0 hmu
    refine ⟨fun μ σ H' => ∃ R kv il y3 y5 y6 y7, σ = [some (.int (L : Int)), some (.ref a), some (.ref l), y3, some (.ref li), y5, y6, y7, none, none, none, none, none] ∧ TrimAt H H' l li ds P.n L R kv il ∧ μ = cntE P.n L R + il.length ∧ μ ≤ 10000, ⟨_, P, kv0, il0, _, _, _, _, rfl, T0, rfl, hmu⟩, ?_⟩
    rintro μ σ H' ⟨R, kv, il, y3, y5, y6, y7, rfl, T, rfl, hmu⟩
    refine ⟨_, rfl, li, _, rfl, .inl (SqL.of T.idl), _, _, rfl, rfl, _, rfl, ?_⟩
    rw [List.length_map]
    by_cases c : (il.length : Int) > 0
    · rw [decide_eq_true c]
      refine iteT ?_
      refine ⟨fun σ' H2 => ∃ μ', μ' < cntE P.n L R + il.length ∧ ∃ R kv il y3 y5 y6 y7, σ' = [some (.int (L : Int)), some (.ref a), some (.ref l), y3, some (.ref li), y5, y6, y7, none, none, none, none, none] ∧ TrimAt H H2 l li ds P.n L R kv il ∧ μ' = cntE P.n L R + il.length, fun σ' H2 ⟨m', hm, R, kv, il, y3, y5, y6, y7, a1, a2, a3⟩ => ⟨m', hm, R, kv, il, y3, y5, y6, y7, a1, a2, a3, by omega⟩, ?_⟩
      have hne : il ≠ [] := fun z => by rw [z] at c; exact absurd c (by decide)
      obtain ⟨il2, x, rfl⟩ : ∃ il2 x, il = il2 ++ [x] := ⟨il.dropLast, il.getLast hne, (List.dropLast_concat_getLast hne).symm⟩
      have hlast : (vn (il2 ++ [x]))[(vn (il2 ++ [x])).length - 1]? = some (.int (x : Int)) := by
        rw [List.length_map, List.length_append, List.length_singleton, Nat.add_sub_cancel]
        exact vn_get (List.getElem?_concat_length)
      have hdrop : (vn (il2 ++ [x])).dropLast = vn il2 := by rw [vn, vn, List.map_append]; exact List.dropLast_concat
      refine ⟨_, rfl, .inl ⟨rfl, _, SqL.of T.idl⟩, li, _, _, rfl, rfl, T.idl, hlast, ?_⟩
      rw [hdrop]
      obtain ⟨hx0, hxn, hxl⟩ := T.tr.idle x (List.mem_append_right _ (List.mem_singleton.mpr rfl))
      have hRn := T.tr.hn
      have picL : ∀ {H3 : Hp} {ys zs : List V}, H3 li = some (.lst ys) → ∀ {kv' : Nat → Row} {R' : Pic}, Pics H3 ds kv' R' → Pics (upd H3 li (.lst zs)) ds kv' R' := fun {H3 ys zs} hli3 {kv' R'} p => ⟨p.nd, p.len, fun j d hd => let r := p.row j d hd; r.of (upd_ne (ne_of r.at_ hli3 (by intro z; cases z)))⟩
      have p1 : Pics (upd H' li (.lst (vn il2))) ds kv R := picL T.idl T.pic
      have sm1 := T.sm.mut (o := .lst (vn il2)) nli0
      have hl1 : upd H' li (.lst (vn il2)) l = some (.lst (ds.map V.ref)) := by rw [upd_ne hlli]; exact T.lst
      have hi1 : upd H' li (.lst (vn il2)) li = some (.lst (vn il2)) := upd_same
      have tr := T.tr
      generalize upd H' li (.lst (vn il2)) = H2 at p1 sm1 hl1 hi1
      obtain ⟨d, hd, rw0⟩ := p1.get (show x < R.n by omega)
      refine ⟨_, rfl, _, rfl, l, _, _, _, rfl, rfl, SqL.of hl1, atI_nat (refs_get hd), d, _, rfl, rw0.at_, fun t nt => ?_⟩
      have hkey : ((kv x).map e2).map (fun kv => kV kv.1) = vi ((kv x).map (·.1)) := by rw [List.map_map, vi, List.map_map]; rfl
      rw [hkey]
      have hlit : li ≠ t := ne_of_none hi1 nt
      have s2 := same_new (o := .lst (vi ((kv x).map (·.1)))) nt
      have p2 := p1.same s2
      have hl2 := s2 _ _ hl1
      have hi2 := s2 _ _ hi1
      have sm2 := sm1.trans s2
      have ht : upd H2 t (.lst (vi ((kv x).map (·.1)))) t = some (.lst (vi ((kv x).map (·.1)))) := upd_same
      generalize upd H2 t (.lst (vi ((kv x).map (·.1)))) = H3 at p2 hl2 hi2 sm2 ht
      have rw2 := p2.row x d hd
      cases hkx : kv x with
      | nil =>
        rw [hkx] at ht
        refine ⟨t, rfl, ⟨_, SqL.of ht⟩, for_list (xs := []) (fun i σ H' => σ = [some (.int (L : Int)), some (.ref a), some (.ref l), y3, some (.ref li), some (.int (x : Int)), y6, y7, none, none, none, none, none] ∧ H' = H3) ⟨rfl, rfl⟩ (fun i σ H' _ e => by rw [e.2]; exact SqL.of ht) (fun i x σ H' hx _ => by simp at hx) (fun σ H' e => ?_)⟩
        obtain ⟨rfl, rfl⟩ := e
        exact ⟨_, by rw [List.length_append]; show cntE P.n L R + il2.length < _ + (_ + 1); omega, R, kv, il2, _, _, _, _, rfl, ⟨sm2, hl2, hi2, p2, tr.pop hkx⟩, rfl⟩
      | cons p0 r0 =>
        obtain ⟨st, g⟩ := p0
        have hr0 : r0 = [] := by
          rw [hkx] at hxl
          exact List.length_eq_zero_iff.mp (by rw [List.length_cons] at hxl; omega)
        subst hr0
        have hgo : R.go x st = some g := by rw [← rw2.go, hkx, lk, if_pos rfl]
        obtain ⟨_, hgn, hso, hgb⟩ := tr.ok.ok x st g hgo
        have hgx : g ≠ x := by
          rintro rfl
          have h2 := rw2.go (-st)
          rw [hgb, hkx] at h2
          have hne2 : st ≠ -st := by have := hso.1; omega
          rw [lk, if_neg hne2] at h2
          cases h2
        rw [hkx] at ht
        have p3 := p2.del (s := st) hd
        refine ⟨t, rfl, ⟨_, SqL.of ht⟩, for_list (xs := [V.int st]) (fun i σ H' => (i = 0 ∧ σ = [some (.int (L : Int)), some (.ref a), some (.ref l), y3, some (.ref li), some (.int (x : Int)), y6, y7, none, none, none, none, none] ∧ H' = H3) ∨ (i = 1 ∧ H' t = some (.lst [V.int st]) ∧ ∃ μ', μ' < cntE P.n L R + (il2 ++ [x]).length ∧ ∃ R kv il y3 y5 y6 y7, σ = [some (.int (L : Int)), some (.ref a), some (.ref l), y3, some (.ref li), y5, y6, y7, none, none, none, none, none] ∧ TrimAt H H' l li ds P.n L R kv il ∧ μ' = cntE P.n L R + il.length)) (.inl ⟨rfl, rfl, rfl⟩) (fun i σ H' hi e => ?_) (fun i z σ H' hx e => ?_) (fun σ H' e => ?_)⟩
        · rcases e with ⟨_, _, rfl⟩ | ⟨_, e, _⟩
          · exact SqL.of ht
          · exact SqL.of e
        · have hi0 : i = 0 ∧ z = .int st := by
            cases i with
            | zero => exact ⟨rfl, (Option.some.inj hx).symm⟩
            | succ i => simp at hx
          obtain ⟨rfl, rfl⟩ := hi0
          rcases e with ⟨_, rfl, rfl⟩ | ⟨e, _⟩
          case inr => exact absurd e (by decide)
          case inl =>
          have hdt : t ≠ d := ne_of ht rw2.at_ (by intro z; cases z)
          have hdl : l ≠ d := ne_of hl2 rw2.at_ (by intro z; cases z)
          have hdi : li ≠ d := ne_of hi2 rw2.at_ (by intro z; cases z)
          have hdn := hnew d (List.mem_of_getElem? hd)
          have hv1 : valV ((kv x).map e2) (Sum.inl st) = some (.int (g : Int)) := by rw [valV_e2, rw2.go, hgo]; rfl
          refine ⟨_, rfl, _, rfl, l, _, _, _, rfl, rfl, SqL.of hl2, atI_nat (refs_get hd), d, rfl, rw2.isD, _, rfl, _, Sum.inl st, _, rw2.at_, rfl, hv1, ?_⟩
          have sm3 := sm2.mut (o := .dK (dropK ((kv x).map e2) (Sum.inl st))) hdn
          have hl3 : upd H' d (.dK (dropK ((kv x).map e2) (Sum.inl st))) l = some (.lst (ds.map V.ref)) := by rw [upd_ne hdl]; exact hl2
          have hi3 : upd H' d (.dK (dropK ((kv x).map e2) (Sum.inl st))) li = some (.lst (vn il2)) := by rw [upd_ne hdi]; exact hi2
          have ht3 : upd H' d (.dK (dropK ((kv x).map e2) (Sum.inl st))) t = some (.lst [V.int st]) := by rw [upd_ne hdt]; exact ht
          dsimp only
          generalize upd H' d (.dK (dropK ((kv x).map e2) (Sum.inl st))) = H4 at p3 sm3 hl3 hi3 ht3
          obtain ⟨d2, hd2, rw3⟩ := p3.get (show g < (R.del x st).n from hgn)
          have hd2t : t ≠ d2 := ne_of ht3 rw3.at_ (by intro z; cases z)
          have hd2l : l ≠ d2 := ne_of hl3 rw3.at_ (by intro z; cases z)
          have hd2i : li ≠ d2 := ne_of hi3 rw3.at_ (by intro z; cases z)
          have hd2n := hnew d2 (List.mem_of_getElem? hd2)
          have hgb2 : (R.del x st).go g (-st) = some x := by rw [del_ne (fun z => hgx z.1)]; exact hgb
          have hv2 := valV_e2 (-st) ((fun j => if j = x then dropR (kv x) st else kv j) g)
          rw [rw3.go, hgb2] at hv2
          have p4 := p3.del (s := -st) hd2
          refine ⟨_, rfl, _, rfl, l, _, _, _, rfl, rfl, SqL.of hl3, atI_nat (refs_get hd2), d2, rfl, rw3.isD, _, rfl, _, rfl, _, Sum.inl (-st), _, rw3.at_, rfl, hv2, ?_⟩
          have sm4 := sm3.mut (o := .dK (dropK (((fun j => if j = x then dropR (kv x) st else kv j) g).map e2) (Sum.inl (-st)))) hd2n
          have hl5 : upd H4 d2 (.dK (dropK (((fun j => if j = x then dropR (kv x) st else kv j) g).map e2) (Sum.inl (-st)))) l = some (.lst (ds.map V.ref)) := by rw [upd_ne hd2l]; exact hl3
          have hi5 : upd H4 d2 (.dK (dropK (((fun j => if j = x then dropR (kv x) st else kv j) g).map e2) (Sum.inl (-st)))) li = some (.lst (vn il2)) := by rw [upd_ne hd2i]; exact hi3
          have ht5 : upd H4 d2 (.dK (dropK (((fun j => if j = x then dropR (kv x) st else kv j) g).map e2) (Sum.inl (-st)))) t = some (.lst [V.int st]) := by rw [upd_ne hd2t]; exact ht3
          generalize upd H4 d2 (.dK (dropK (((fun j => if j = x then dropR (kv x) st else kv j) g).map e2) (Sum.inl (-st)))) = H5 at p4 sm4 hl5 hi5 ht5
          have rw5 := p4.row g d2 hd2
          have kg : (fun j => if j = g then dropR ((fun j => if j = x then dropR (kv x) st else kv j) g) (-st) else (fun j => if j = x then dropR (kv x) st else kv j) j) g = dropR (kv g) (-st) := by
            simp only [if_true, if_neg hgx]
          have h5g : H5 d2 = some (.dK ((dropR (kv g) (-st)).map e2)) := by
            rw [← kg]
            exact rw5.at_
          have hE := cntE_del tr.ok tr.hn hgo
          have fin3 : ∀ (il3 : List Nat) (H6 : Hp) (y7 : Option V) (kvx : Nat → Row), il3 = il2 ++ (if 0 < g ∧ (dropR (kv g) (-st)).length = 1 then [g] else []) → TrimAt H H6 l li ds P.n L ((R.del x st).del g (-st)) kvx il3 → ∃ μ', μ' < cntE P.n L R + (il2 ++ [x]).length ∧ ∃ R kv il z3 z5 z6 z7, [some (V.int (L : Int)), some (.ref a), some (.ref l), y3, some (.ref li), some (.int (x : Int)), some (.int st), y7, none, none, none, none, none] = [some (.int (L : Int)), some (.ref a), some (.ref l), z3, some (.ref li), z5, z6, z7, none, none, none, none, none] ∧ TrimAt H H6 l li ds P.n L R kv il ∧ μ' = cntE P.n L R + il.length := fun il3 H6 y7 kvx e3 T3 => by
            have hl : il3.length ≤ il2.length + 1 := by
              rw [e3, List.length_append]
              split <;> simp
            exact ⟨_, by rw [List.length_append]; show cntE P.n L ((R.del x st).del g (-st)) + il3.length < _ + (_ + 1); omega, _, _, il3, _, _, _, _, rfl, T3, rfl⟩
          have hil2 : (vn il2).length < sizeLine := by
            rw [List.length_append, List.length_singleton] at hmu
            rw [List.length_map]
            exact smallL (by omega)
          refine ⟨_, rfl, _, _, rfl, rfl, _, rfl, ?_⟩
          by_cases cg : (g : Int) > 0
          · rw [decide_eq_true cg]
            refine iteT ⟨_, rfl, _, rfl, l, _, _, _, rfl, rfl, SqL.of hl5, atI_nat (refs_get hd2), d2, _, rfl, h5g, rfl, _, rfl, ?_⟩
            rw [List.length_map]
            by_cases c1 : (dropR (kv g) (-st)).length = 1
            · rw [c1, decide_eq_true (show V.int ((1 : Nat) : Int) = V.int 1 from rfl)]
              refine iteT ⟨_, rfl, .inl ⟨rfl, _, SqL.of hi5⟩, _, rfl, li, _, _, rfl, rfl, hi5, hil2, ?_⟩
              have e3 : il2 ++ [g] = il2 ++ (if 0 < g ∧ (dropR (kv g) (-st)).length = 1 then [g] else []) := by rw [if_pos ⟨by omega, c1⟩]
              refine .inr ⟨rfl, by rw [upd_ne hlit.symm]; exact ht5, fin3 _ _ _ _ e3 ⟨sm4.mut nli0, by rw [upd_ne hlli]; exact hl5, by rw [upd_same, vn, vn, List.map_append]; rfl, picL hi5 p4, tr.step hkx hgo hgx e3⟩⟩
            · rw [decide_eq_false (fun z => c1 (by have := V.int.inj z; omega))]
              have e3 : il2 = il2 ++ (if 0 < g ∧ (dropR (kv g) (-st)).length = 1 then [g] else []) := by rw [if_neg (fun z => c1 z.2), List.append_nil]
              exact iteF (.inr ⟨rfl, ht5, fin3 _ _ _ _ e3 ⟨sm4, hl5, hi5, p4, tr.step hkx hgo hgx e3⟩⟩)
          · rw [decide_eq_false cg]
            have e3 : il2 = il2 ++ (if 0 < g ∧ (dropR (kv g) (-st)).length = 1 then [g] else []) := by rw [if_neg (fun z => cg (by omega)), List.append_nil]
            exact iteF (iteF (.inr ⟨rfl, ht5, fin3 _ _ _ _ e3 ⟨sm4, hl5, hi5, p4, tr.step hkx hgo hgx e3⟩⟩))
        · rcases e with ⟨z, _⟩ | ⟨_, _, e⟩
          · cases z
          · exact e
    · rw [decide_eq_false c]
      refine iteF ?_
      have hil : il = [] := List.length_eq_zero_iff.mp (by omega)
      subst hil
      have two : ∀ r, 0 < r → r < R.n → (∃ s, (R.go r s).isSome) → ∃ s t, s ≠ t ∧ (R.go r s).isSome ∧ (R.go r t).isSome := fun r r0 rn ⟨s, hs⟩ => by
        obtain ⟨d, hd, rw0⟩ := T.pic.get rn
        have h1 : (kv r).length ≠ 1 := fun z => nomatch T.tr.all r r0 (by have := T.tr.hn; omega) z
        have h2 : (kv r).length ≠ 0 := fun z => by
          rw [← rw0.go, List.length_eq_zero_iff.mp z] at hs
          cases hs
        obtain ⟨u, v, a, b, c⟩ := row_len_two (by omega) rw0.nd
        rw [rw0.go] at b c
        exact ⟨u, v, a, b, c⟩
      have hR := T.tr.ok
      have hRn := T.tr.hn
      have W := renamed_web hR hL1 hL4 two
      have sm0 := T.sm
      have hl0 := T.lst
      have pic0 := T.pic
      clear T T0 t0 hli two
      refine ⟨by show 1 ≤ sizeLine; decide, fun o no => ?_⟩
      have so := same_new (o := .lst [.int 0]) no
      have noH := sm0.free no
      have hlo : l ≠ o := ne_of_none hl0 no
      refine ⟨by show 2 ≤ sizeLine; decide, fun tt ntt => ?_⟩
      have stt := same_new (o := .tup [.ref o, .int 0]) ntt
      refine ⟨tt, _, rfl, SqT.of upd_same, rfl, _, _, rfl, _, _, rfl, rfl, ?_⟩
      have s0 := so.trans stt
      refine ⟨fun μ σ H2 => ∃ k y5 y6 y7 y10, σ = [some (.int (L : Int)), some (.ref a), some (.ref l), y3, some (.ref li), y5, y6, y7, some (.ref o), some (.int ((k : Nat) : Int)), y10, none, none] ∧ Same H' H2 ∧ H2 o = some (.lst (vn (bfs L R k))) ∧ k ≤ (bfs L R k).length ∧ μ = R.n - k, ⟨R.n, 0, _, _, _, _, rfl, s0, stt _ _ upd_same, Nat.zero_le _, rfl⟩, ?_⟩
      rintro μ σ H2 ⟨k, y5, y6, y7, y10, rfl, sm, ho, hk, rfl⟩
      refine ⟨_, rfl, _, rfl, o, _, rfl, .inl (SqL.of ho), _, _, rfl, rfl, _, rfl, ?_⟩
      rw [List.length_map]
      by_cases c : (k : Int) < ((bfs L R k).length : Int)
      · rw [decide_eq_true c]
        refine iteT ?_
        have c' : k < (bfs L R k).length := by omega
        have hkn : k < R.n := Nat.lt_of_lt_of_le c' (bfs_ok hR k).len
        have hat : (bfs L R k)[k]? = some (bfs L R k)[k] := List.getElem?_eq_getElem c'
        generalize hrr : (bfs L R k)[k] = r at hat
        have hrn : r < R.n := hrr ▸ (bfs_ok hR k).lt _ (List.getElem_mem c')
        refine ⟨fun σ' H3 => ∃ y5 y6 y7 y10, σ' = [some (.int (L : Int)), some (.ref a), some (.ref l), y3, some (.ref li), y5, y6, y7, some (.ref o), some (.int ((k + 1 : Nat) : Int)), y10, none, none] ∧ Same H' H3 ∧ H3 o = some (.lst (vn (bfs L R (k + 1)))), ?_, ?_⟩
        · rintro σ' H3 ⟨z5, z6, z7, z10, rfl, b1, b2⟩
          refine ⟨R.n - (k + 1), by omega, k + 1, z5, z6, z7, z10, rfl, b1, b2, ?_, rfl⟩
          have := (bfs_pre1 L R k).length_le
          omega
        · refine ⟨_, rfl, _, _, rfl, rfl, _, _, rfl, ⟨by omega, by omega, by omega, by omega⟩, for_range (lo := 1) (n := ((L : Int) + 1 - 1).toNat) (fun i σ H3 => ∃ y6 y10, σ = [some (.int (L : Int)), some (.ref a), some (.ref l), y3, some (.ref li), y5, y6, y7, some (.ref o), some (.int ((k : Nat) : Int)), y10, none, none] ∧ Same H' H3 ∧ H3 o = some (.lst (vn ((stepsL i).foldl (bStep R r) (bfs L R k))))) ⟨y6, y10, rfl, sm, ho⟩ (fun i σ H3 hi ⟨y6, y10, e, sm3, ho3⟩ => ?_) (fun σ H3 ⟨y6, y10, e, sm3, ho3⟩ => ?_)⟩
          · subst e
            refine ⟨_, rfl, _, rfl, _, rfl, by show 2 ≤ sizeLine; decide, fun u nu => ?_⟩
            generalize hz : (1 : Int) + (i : Int) = z
            have hzi : z = (i : Int) + 1 := by omega
            have su := same_new (o := .tup [.int z, .int (-z)]) nu
            refine ⟨u, rfl, ⟨_, SqT.of upd_same⟩, for_tup (xs := vi [z, -z]) (fun j σ H4 => ∃ y6, σ = [some (.int (L : Int)), some (.ref a), some (.ref l), y3, some (.ref li), y5, y6, y7, some (.ref o), some (.int ((k : Nat) : Int)), some (.int z), none, none] ∧ Same H' H4 ∧ H4 o = some (.lst (vn (([z, -z].take j).foldl (bStep R r) ((stepsL i).foldl (bStep R r) (bfs L R k))))) ∧ SqT K H4 u (vi [z, -z])) ⟨y6, rfl, sm3.trans su, su _ _ ho3, SqT.of upd_same⟩ (fun j σ H4 _ ⟨_, _, _, _, h⟩ => h) (fun j x σ H4 hx ⟨z6, e, b1, b2, b3⟩ => ?_) (fun σ H4 ⟨z6, e, b1, b2, b3⟩ => ?_)⟩
            · subst e
              obtain ⟨st, hst, rfl⟩ := of_vi_get hx
              have hf := foldl_take (f := bStep R r) (o := (stepsL i).foldl (bStep R r) (bfs L R k)) hst
              generalize hob : ([z, -z].take j).foldl (bStep R r) ((stepsL i).foldl (bStep R r) (bfs L R k)) = ob at b2 hf
              have oo : OrdOk R ob := hob ▸ bFold_ok hR r _ _ (bFold_ok hR r _ _ (bfs_ok hR k))
              have hat2 : ob[k]? = some r := by
                obtain ⟨q1, hq1⟩ := bFold_pre R r (stepsL i) (bfs L R k)
                obtain ⟨q2, hq2⟩ := bFold_pre R r ([z, -z].take j) ((stepsL i).foldl (bStep R r) (bfs L R k))
                rw [hob] at hq2
                rw [← hq2, ← hq1, List.append_assoc, List.getElem?_append_left c']
                exact hat
              obtain ⟨d, hd, hrow⟩ := (pic0.same b1).get hrn
              have hl4 := b1 _ _ hl0
              have hg1 := hrow.get st
              have hol := oo.len
              refine ⟨_, rfl, _, rfl, _, rfl, _, rfl, o, _, _, _, rfl, rfl, SqL.of b2, vn_at hat2, l, _, _, _, rfl, rfl, SqL.of hl4, atI_nat (refs_get hd), d, _, rfl, hg1, ?_⟩
              cases hg : R.go r st with
              | none =>
                refine ⟨_, rfl, iteF (iteF ?_)⟩
                refine ⟨_, rfl, b1, ?_, b3⟩
                rw [hf]; unfold bStep; rw [hg]; exact b2
              | some g =>
                rw [hg] at hg1
                refine ⟨_, rfl, iteT ?_⟩
                refine ⟨_, rfl, _, rfl, _, rfl, o, _, _, _, rfl, rfl, SqL.of b2, vn_at hat2, l, _, _, _, rfl, rfl, SqL.of hl4, atI_nat (refs_get hd), _, rfl, d, _, rfl, hg1, _, rfl, o, _, rfl, .inl (SqL.of b2), rfl, flat_vn _, _, rfl, ?_⟩
                rw [inV_vn]
                by_cases cm : g ∈ ob
                · rw [decide_eq_true cm]
                  refine iteF ⟨_, rfl, b1, ?_, b3⟩
                  rw [hf]; unfold bStep; rw [hg]; show H4 o = some (.lst (vn (if g ∈ ob then ob else ob ++ [g]))); rw [if_pos cm]; exact b2
                · rw [decide_eq_false cm]
                  have hstep : bStep R r ob st = ob ++ [g] := by
                    unfold bStep
                    rw [hg]
                    show (if g ∈ ob then ob else ob ++ [g]) = _
                    rw [if_neg cm]
                  refine iteT ⟨_, rfl, .inl ⟨rfl, _, SqL.of b2⟩, _, rfl, _, rfl, _, rfl, o, _, _, _, rfl, rfl, SqL.of b2, vn_at hat2, l, _, _, _, rfl, rfl, SqL.of hl4, atI_nat (refs_get hd), _, rfl, d, _, rfl, hg1, o, _, _, rfl, rfl, b2, by rw [List.length_map]; exact smallL (by omega), ?_⟩
                  refine ⟨_, rfl, b1.mut no, ?_, sqt_lst b3 b2⟩
                  rw [hf, hstep, upd_same, vn, vn, List.map_append]
                  rfl
            · subst e
              refine ⟨_, _, rfl, b1, ?_⟩
              rw [b2, stepsL_succ, List.foldl_append, ← hzi]
              rfl
          · subst e
            rw [show ((L : Int) + 1 - 1).toNat = L by omega] at ho3
            have hb : (stepsL L).foldl (bStep R r) (bfs L R k) = bfs L R (k + 1) := (bfs_turn hat).symm
            rw [hb] at ho3
            exact ⟨_, rfl, _, _, rfl, rfl, _, _, _, _, rfl, sm3, ho3⟩
      · rw [decide_eq_false c]
        refine iteF ?_
        have hle : (bfs L R k).length ≤ k := by omega
        have hkn : k ≤ R.n := Nat.le_trans hk (bfs_ok hR k).len
        rw [bfs_order hR hkn hle] at ho
        have OK := order_ok hR
        have hord : ∀ g ∈ order L R, (order L R)[(order L R).idxOf g]? = some g := fun g hg => by
          have := List.idxOf_lt_length_iff.mpr hg
          rw [List.getElem?_eq_getElem this]
          exact congrArg some (List.getElem_idxOf this)
        have hclosed : ∀ r ∈ order L R, ∀ s g, R.go r s = some g → g ∈ order L R := fun r hr s g e => order_closed hR hr e
        have hOl := OK.len
        refine ⟨Nat.zero_le _, fun rws nr => ?_⟩
        have sr := same_new (o := .lst []) nr
        have ho5 := sr _ _ ho
        have hor : o ≠ rws := ne_of_none ho nr
        refine ⟨_, rfl, o, rfl, ⟨_, SqL.of ho5⟩, for_list (xs := vn (order L R)) (fun i σ H5 => ∃ y5 y7 y10 y12 as, σ = [some (.int (L : Int)), some (.ref a), some (.ref l), y3, some (.ref li), y5, y6, y7, some (.ref o), some (.int ((k : Nat) : Int)), y10, some (.ref rws), y12] ∧ Same H2 H5 ∧ H5 rws = some (.lst ((as : List Addr).map V.ref)) ∧ as.length = i ∧ ∀ j b, as[j]? = some b → TI K H5 b (rowOf L (renamed R (order L R)) j)) ⟨_, _, _, _, [], rfl, sr, upd_same, rfl, fun j b h => by simp at h⟩ (fun i σ H5 _ ⟨_, _, _, _, _, _, e, _⟩ => SqL.of (e _ _ ho)) (fun i x σ H5 hx ⟨y5, y7, y10, y12, as, e, s5, hr5, has, hat⟩ => ?_) (fun σ H5 ⟨y5, y7, y10, y12, as, e, s5, hr5, has, hat⟩ => ?_)⟩
        · subst e
          obtain ⟨r, hr0, rfl⟩ := of_vn_get hx
          have hrm := List.mem_of_getElem? hr0
          have hrn := OK.lt r hrm
          have sm5 := sm.trans s5
          obtain ⟨d, hd, hrow⟩ := (pic0.same sm5).get hrn
          have eL : ((L : Int) + 1 - 1).toNat = L := by omega
          refine ⟨_, rfl, _, _, rfl, rfl, 1, _, rfl, ⟨by omega, by omega, by omega, by omega⟩, lcg (walk_range (lo := 1) (n := ((L : Int) + 1 - 1).toNat)) (fun _ => true) (fun j : Nat => vo (R.go r ((j : Int) + 1))) (by omega) (fun H' s' => trivial) YFn.same (fun j x H6 H7 hj s6 s7 y => ?_) (fun D H6 nD s6 h6 => ?_)⟩
          · obtain ⟨_, rfl⟩ := y
            refine ⟨_, fun Qg h => h, rfl, evt_yes, fun _ H8 s8 Q8 q8 => ?_⟩
            have s8 : Same H7 H8 := s8
            have e1 : (1 : Int) + (j : Int) = (j : Int) + 1 := by omega
            have hrow8 := hrow.same (s7.trans s8)
            have q8 := q8 H8 (Evl.Ex.refl H8)
            have ev : ((R.go r ((1 : Int) + (j : Int))).map fun g : Nat => V.int (g : Int)).getD .non = vo (R.go r ((j : Int) + 1)) := by
              rw [e1]
              cases R.go r ((j : Int) + 1) <;> rfl
            refine ⟨_, rfl, _, rfl, l, _, _, _, rfl, rfl, SqL.of ((sm5.trans (s7.trans s8)) _ _ hl0), atI_nat (refs_get hd), d, rfl, hrow8.isD, _, rfl, _, hrow8.get ((1 : Int) + (j : Int)), ?_⟩
            rw [ev]
            exact q8
          rw [given_all, eL] at h6
          have sm6 := sm5.trans s6
          have hr6 := s6 _ _ hr5
          have ho6 := (s5.trans s6) _ _ ho
          refine ⟨_, rfl, .inl ⟨rfl, _, SqL.of hr6⟩, ?_⟩
          refine ⟨_, rfl, D, rfl, ⟨_, SqL.of h6⟩, lcg walk_list (fun _ => true) (fun j : Nat => V.int (enc ((renamed R (order L R)).go i ((j : Int) + 1)))) (by rw [List.length_map, List.length_range]; omega) (fun H' s' => SqL.of (s' _ _ h6)) YAt.same (fun j x H7 H8 hj s7 s8 y => ?_) (fun D2 H7 nD2 s7 h7 => ?_)⟩
          · rw [List.length_map, List.length_range] at hj
            have hx := y.2
            rw [List.getElem?_map, List.getElem?_range hj] at hx
            obtain rfl : vo (R.go r ((j : Int) + 1)) = x := Option.some.inj hx
            refine ⟨_, fun Qg h => h, rfl, evt_yes, fun _ H9 s9 Q9 q9 => ?_⟩
            have s9 : Same H8 H9 := s9
            have q9 := q9 H9 (Evl.Ex.refl H9)
            rw [renamed_go hr0] at q9
            have ho9 := (s8.trans s9) _ _ ho6
            cases hg : R.go r ((j : Int) + 1) with
            | none =>
              rw [hg] at q9
              exact ⟨_, rfl, rfl, _, rfl, iteT ⟨_, rfl, q9⟩⟩
            | some g =>
              rw [hg] at q9
              have hgm := hclosed r hrm _ g hg
              refine ⟨_, rfl, rfl, _, rfl, iteF ⟨_, rfl, .inl ⟨rfl, _, SqL.of ho9⟩, _, rfl, o, _, _, (order L R).idxOf g, .int (g : Int), rfl, rfl, SqL.of ho9, rfl, flat_vn _, vn_get (hord g hgm), ?_, fun m z' hm hz' => ?_, q9⟩⟩
              · show ((g : Int) == (g : Int)) = true
                exact beq_self_eq_true _
              · obtain ⟨y, hy, rfl⟩ := of_vn_get hz'
                show ((y : Int) == (g : Int)) = false
                have : ¬ (y : Int) = (g : Int) := fun z => by
                  have e : y = g := by omega
                  subst e
                  have := idx_of OK.nd hy
                  omega
                exact beq_eq_false_iff_ne.mpr this
          · have e7 : Evl.given ((List.range L).map fun j : Nat => vo (R.go r ((j : Int) + 1))).length (fun _ => true) (fun j : Nat => V.int (enc ((renamed R (order L R)).go i ((j : Int) + 1)))) = vi (rowOf L (renamed R (order L R)) i) := by
              rw [given_all, List.length_map, List.length_range]
              unfold rowOf vi
              rw [List.map_map]
              rfl
            rw [e7] at h7
            have hr7 := s7 _ _ hr6
            refine ⟨D2, _, rfl, .inl ⟨SqL.of h7, fun u nu => ?_⟩⟩
            have su := same_new (o := .tup (vi (rowOf L (renamed R (order L R)) i))) nu
            have hil := lt_of_get hr0
            refine ⟨rws, _, _, rfl, rfl, su _ _ hr7, by rw [List.length_map, has]; exact smallL (by omega), ?_⟩
            have s57 := s6.trans (s7.trans su)
            refine ⟨_, _, _, _, as ++ [u], rfl, (s5.trans s57).mut nr, by rw [upd_same, List.map_append]; rfl, by rw [List.length_append, has]; rfl, fun j b hb => ?_⟩
            by_cases cj : j < as.length
            · rw [List.getElem?_append_left cj] at hb
              exact sqt_lst (s57.tup (hat j b hb)) (s57 _ _ hr5)
            · rw [List.getElem?_append_right (by omega)] at hb
              have c0 : j - as.length = 0 := by
                rcases Nat.eq_zero_or_pos (j - as.length) with z | z
                · exact z
                · rw [List.getElem?_eq_none (by rw [List.length_singleton]; omega)] at hb
                  cases hb
              rw [c0] at hb
              cases hb
              have hj : j = i := by omega
              subst hj
              exact sqt_lst (SqT.of upd_same) (s57 _ _ hr5)
        · subst e
          rw [List.length_map] at has
          refine ⟨_, rfl, _, rfl, rws, _, rfl, .inl ⟨SqL.of hr5, fun u nu => ?_⟩⟩
          have su := same_new (o := .tup (as.map V.ref)) nu
          refine ⟨by show 2 ≤ sizeLine; decide, fun v nv => ?_⟩
          have sv := same_new (o := .tup [.int (L : Int), .ref u]) nv
          have s56 := su.trans sv
          refine fin v (renamed R (order L R)) _ ((sm0.trans (sm.trans s5)).trans s56) ⟨u, SqT.of upd_same, as, sv.tup (SqT.of upd_same), ?_, fun j b ns h1 h2 => ?_⟩ W (by show (order L R).length ≤ P.n; omega)
          · rw [rowsOf_length]
            exact has
          · have hj : j < (order L R).length := by have := lt_of_get h1; omega
            rw [rowsOf_get L (show j < (renamed R (order L R)).n from hj)] at h2
            cases h2
            exact s56.tup (hat j b h1)
end
end Wk
set_option Elab.async false
set_option linter.all false
set_option maxRecDepth 100000
set_option maxHeartbeats 4000000
namespace Wk
open PySem L2 Wc
/-- an edge more -/
theorem set_ok {P : Pic} {L r g : Nat} {s : Int} (h : P.Ok L) (hr : r < P.n) (hg : g < P.n) (hs : stepOk L s) (h1 : P.go r s = none) (h2 : P.go g (-s) = none) : ((P.set r s g).set g (-s) r).Ok L := by
  have hns : -s ≠ s := step_ne hs
  have at1 : ((P.set r s g).set g (-s) r).go r s = some g := by
    rw [set_ne (fun z => hns z.2.symm), set_at]
  refine ⟨h.pos, fun a t x e => ?_⟩
  by_cases c1 : a = g ∧ t = -s
  · obtain ⟨rfl, rfl⟩ := c1
    rw [set_at] at e
    cases e
    refine ⟨hg, hr, hs.neg, ?_⟩
    rw [Int.neg_neg]
    exact at1
  · rw [set_ne c1] at e
    by_cases c2 : a = r ∧ t = s
    · obtain ⟨rfl, rfl⟩ := c2
      rw [set_at] at e
      cases e
      exact ⟨hr, hg, hs, set_at _ _ _ _⟩
    · rw [set_ne c2] at e
      obtain ⟨b1, b2, b3, b4⟩ := h.ok a t x e
      refine ⟨b1, b2, b3, ?_⟩
      have m1 : ¬ (x = g ∧ -t = -s) := by
        rintro ⟨rfl, z⟩
        rw [z, h2] at b4
        cases b4
      have m2 : ¬ (x = r ∧ -t = s) := by
        rintro ⟨rfl, z⟩
        rw [z, h1] at b4
        cases b4
      rw [set_ne m1, set_ne m2]
      exact b4
theorem Fill.pick {B H H' : Hp} {q l : Addr} {ds : List Addr} {P : Pic} {n : Nat} (h : Fill B H l ds P) (hq : B q = none) (w : Well H q n) (e : Same (rm H q) H') : Fill B H' l ds P := by
  obtain ⟨kv, p⟩ := h.pic
  refine ⟨rm_base h.sm hq e, e _ _ (by rw [rm_ne (w.refs h.lst).symm]; exact h.lst), h.new, kv, p.nd, p.len, fun i d hd => ?_⟩
  have r := p.row i d hd
  exact ⟨e _ _ (by rw [rm_ne (w.dK r.at_).symm]; exact r.at_), r.nd, r.go⟩
theorem Well.but {H H' : Hp} {q d : Addr} {n : Nat} {kvs : List (Key × V)} (h : Well H q n) (hd : H d = some (.dK kvs)) (b : But d H H') : Well H' q n := by
  have hne := h.dK hd
  obtain ⟨x, y, z, a, c⟩ := h
  exact ⟨x, y, z, b _ _ hne a, c⟩
/-- the picture of the first letters -/
structure Half (L m i j : Nat) (R : Pic) : Prop where
  ok : R.Ok L
  hn : R.n = m
  up : ∀ r x t, R.go r t = some x → 0 < t → t < (i : Int) + 1 ∨ (t = (i : Int) + 1 ∧ r < j)
theorem Half.next {L m i : Nat} {R : Pic} (h : Half L m i m R) : Half L m (i + 1) 0 R := ⟨h.ok, h.hn, fun r x t e ht => by
  rcases h.up r x t e ht with z | ⟨z, _⟩
  · exact .inl (by omega)
  · exact .inl (by omega)⟩
theorem Half.skip {L m i j : Nat} {R : Pic} (h : Half L m i j R) : Half L m i (j + 1) R := ⟨h.ok, h.hn, fun r x t e ht => by
  rcases h.up r x t e ht with z | ⟨z, y⟩
  · exact .inl z
  · exact .inr ⟨z, by omega⟩⟩
theorem Half.none {L m i j : Nat} {R : Pic} (h : Half L m i j R) : R.go j ((i : Int) + 1) = none := by
  cases e : R.go j ((i : Int) + 1) with
  | none => rfl
  | some x =>
    rcases h.up j x _ e (by omega) with z | ⟨_, z⟩
    · omega
    · omega
theorem Half.edge {L m i j g : Nat} {R : Pic} (h : Half L m i j R) (hi : i < L) (hj : j < m) (hg : g < m) (hgn : R.go g (-((i : Int) + 1)) = Option.none) : Half L m i (j + 1) ((R.set j ((i : Int) + 1) g).set g (-((i : Int) + 1)) j) := by
  have hn := h.hn
  refine ⟨set_ok h.ok (by omega) (by omega) ⟨by omega, by omega⟩ h.none hgn, hn, fun r x t e ht => ?_⟩
  by_cases c1 : r = g ∧ t = -((i : Int) + 1)
  · omega
  · rw [set_ne c1] at e
    by_cases c2 : r = j ∧ t = (i : Int) + 1
    · exact .inr ⟨c2.2, by omega⟩
    · rw [set_ne c2] at e
      exact h.skip.up r x t e ht
section
variable {P : Program} {w : World} {K : PySem.W.Frag} {mg : Str → Option Value} {base : Heap}
abbrev s_law_web : Stmt := top 49
abbrev n_law_web : List Str := ["_law_well_here", "_law_letters", "_law_many", "_law_gaps", "_law_doors_here", "_law_room", "_law_letter", "_law_start", "_law_closed", "_law_free", "_law_at", "_law_steps"]
theorem sc_law_web : FnScope n_law_web ["_law_well_here", "_law_letters", "_law_many", "_law_gaps"] (defScope s_law_web) := ⟨rfl, rfl, rfl, by decide +kernel, rfl, by decide +kernel, by decide +kernel⟩
def sp_law_web (K : PySem.W.Frag) : Sp := fun vs H Q _ => ∃ (q : Addr) (n L m gp : Nat), vs = [.ref q, .int (L : Int), .int (m : Int), .int (gp : Int)] ∧ Well H q n ∧ n ≤ 800000 ∧ 1 ≤ L ∧ L ≤ 4 ∧ 1 ≤ m ∧ m ≤ 100 ∧ gp ≤ 1000 ∧
  ∀ t P' H', Same (rm H q) H' → Well H' q (n + 2000) → WebAt K H' t L P' → Web L P' → P'.n ≤ m → Q (.ref t) H'
theorem ok_law_web (B : Bi mg) (F : Df K mg "_law_web" s_law_web ["_law_well_here", "_law_letters", "_law_many", "_law_gaps"]) (h__law_pick : Has P w K mg base 1 "_law_pick" ["_law_well_here", "_law_many"] sp_law_pick)
    (h__law_named : Has P w K mg base 1 "_law_named" ["_law_letters", "_law_doors_here"] (sp_law_named K)) : Has P w K mg base 2 "_law_web" ["_law_well_here", "_law_letters", "_law_many", "_law_gaps"] (sp_law_web K) := by
  refine F.ok sc_law_web (fun vs H Q E h => ?_) (fun f cdv A outer s H vs Q E hr h => ?_)
  · obtain ⟨q, n, L, m, gp, rfl, _⟩ := h
    rfl
  · obtain ⟨q, n, L, m, gp, rfl, hw, hn, hL1, hL4, hm1, hm, hgp, fin⟩ := h
    refine ⟨_, (pss_cons (ps_set (i := 4) sc_law_web.nd rfl (Or.inr rfl) (pe_lc (own := [("_law_room", 5)]) rfl sc_law_web.nd (pi_range1 rfl B.range (pa_cons (pv 2) pa_nil)) (blkOk_by (N := n_law_web) (sc := defScope s_law_web) (by decide +kernel)) (fun _ _ _ _ _ => (pg_name (i := 5) sc_law_web.nd rfl (Or.inl rfl))) (fun _ _ _ _ _ => pts_nil) (fun _ _ _ _ _ => pe_dnewK)))
      (pss_cons (ps_for PassesOwn.never rfl (pi_range2 rfl B.range (pa_cons pe_int (pa_cons (pe_op op_add (pv 1) pe_int) pa_nil))) (pg_name (i := 6) sc_law_web.nd rfl (Or.inr rfl))
        (pss_one (ps_for PassesOwn.never rfl (pi_range1 rfl B.range (pa_cons (pv 2) pa_nil)) (pg_name (i := 5) sc_law_web.nd rfl (Or.inl rfl))
          (pss_cons (ps_asg (pe_tup (pa_cons (pe_has h__law_pick (hr.mono (by omega)) (pa_cons (pv 0) (pa_cons (pv 2) pa_nil))) (pa_cons (pe_or (pe_cmpR op_eq (pv 3) pe_int (nomark _)) (pe_one (pe_cmpR op_gt (pe_has h__law_pick (hr.mono (by omega)) (pa_cons (pv 0) (pa_cons (pe_op op_add (pv 3) pe_int) pa_nil))) pe_int (nomark _)))) pa_nil))) (k_tup K (n := 2) rfl (pgs_cons (pg_name (i := 7) sc_law_web.nd rfl (Or.inr rfl)) (pgs_cons (pg_name (i := 8) sc_law_web.nd rfl (Or.inl rfl)) pgs_nil))))
          (pss_cons (ps_setLc (i := 9) (own := [("_law_at", 10)]) rfl sc_law_web.nd rfl rfl (sw_true rfl rfl rfl (by decide +kernel)) (pi_range1 rfl B.range (pa_cons (pv 2) pa_nil)) (blkOk_by (N := n_law_web) (sc := defScope s_law_web) (by decide +kernel)) (fun _ _ _ _ _ => (pg_name (i := 10) sc_law_web.nd rfl (Or.inl rfl))) (fun _ _ _ _ _ => (pts_one (pt_cmp (pc_dnotin (hu_of hr) (pe_un un_neg (pv 6)) (pe_ix (kIxL K) (pv 4) (pe_op op_mod (pe_callTy call_int1 (by rfl) B.int (by decide +kernel) (pa_cons (pe_op op_add (pv 7) (pv 10)) pa_nil)) (pv 2)) (fun _ _ => rfl)))))) (fun _ _ _ _ _ => (pe_op op_mod (pe_callTy call_int1 (by rfl) B.int (by decide +kernel) (pa_cons (pe_op op_add (pv 7) (pv 10)) pa_nil)) (pv 2))))
          (pss_one (ps_if (pt_val (pv 8))
            (pss_cons (ps_dput (hu_of hr) (pe_ix (kIxL K) (pv 4) (pv 5) (fun _ _ => rfl)) (pv 6) (pe_ix (kIxL K) (pv 9) pe_int (fun _ _ => rfl)) rfl)
            (pss_cons (ps_set (i := 11) sc_law_web.nd rfl (Or.inl rfl) (pe_ix (kIxL K) (pv 4) (pe_ix (kIxL K) (pv 9) pe_int (fun _ _ => rfl)) (fun _ _ => rfl)))
            (pss_one (ps_dput (hu_of hr) (pv 11) (pe_un un_neg (pv 6)) (pv 5) rfl))))
            pss_nil)))))))
      (pss_one (ps_ret (pe_has h__law_named (hr.mono (by omega)) (pa_cons (pv 1) (pa_cons (pv 4) pa_nil))))))), ?_⟩
    refine ⟨_, rfl, (m : Int), rfl, by omega, by omega, lcn (walk_range (lo := 0) (n := (m : Int).toNat)) (fun _ => true) (fun _ => .dK []) (by omega) (fun H' s' => trivial) YFn.same (fun i x H4 H5 hi s4 s5 y => ?_) (fun l ds H1 nl s1 hl hN hD => ?_)⟩
    · exact ⟨_, fun Qg h => h, rfl, evt_yes, fun _ H3 s3 Q3 q3 p np => q3 p _ (same_new np) np upd_same⟩
    have pe := pics_empty (c := fun _ => .dK []) hN (fun _ => rfl)
    rw [Int.toNat_natCast] at pe
    have nlB : rm H q l = none := by rw [rm_ne (hw.new nl).symm]; exact nl
    have nB : ∀ d ∈ ds, rm H q d = none := fun d hd => by rw [rm_ne (hw.new (hN.new d hd)).symm]; exact hN.new d hd
    have f0 : Fill (rm H q) H1 l ds (empty m) := ⟨(rm_same H q).trans s1, hl, nB, _, pe⟩
    have hh0 : Half L m 0 0 (empty m) := ⟨⟨hm1, fun r t x e => nomatch (e : (none : Option Nat) = some x)⟩, rfl, fun r x t e => nomatch (e : (none : Option Nat) = some x)⟩
    have bud : ∀ {i j : Nat}, i < L → j ≤ m → n + 2 * m * i + 2 * j ≤ n + 2000 := fun {i j} hi hj => by
      have : 2 * m * i ≤ 2 * 100 * 3 := Nat.mul_le_mul (by omega) (by omega)
      omega
    refine ⟨_, rfl, _, _, rfl, rfl, _, _, rfl, ⟨by omega, by omega, by omega, by omega⟩, for_range (lo := 1) (n := ((L : Int) + 1 - 1).toNat) (fun i σ H' => ∃ y5 y6 y7 y8 y9 y10 y11 R, σ = [some (.ref q), some (.int (L : Int)), some (.int (m : Int)), some (.int (gp : Int)), some (.ref l), y5, y6, y7, y8, y9, y10, y11] ∧ Fill (rm H q) H' l ds R ∧ Half L m i 0 R ∧ Well H' q (n + 2 * m * i)) ⟨none, none, none, none, none, none, none, _, rfl, f0, hh0, hw.same s1⟩ (fun i σ H' hi ⟨y5, y6, y7, y8, y9, y10, y11, R, e, f1, hh, w1⟩ => ?_) (fun σ H' ⟨y5, y6, y7, y8, y9, y10, y11, R, e, f1, hh, w1⟩ => ?_)⟩
    · subst e
      have hiL : i < L := by omega
      have hz : (1 : Int) + (i : Int) = (i : Int) + 1 := by omega
      refine ⟨_, rfl, (m : Int), rfl, by omega, by omega, for_range (lo := 0) (n := (m : Int).toNat) (fun j σ H' => ∃ y5 y7 y8 y9 y10 y11 R, σ = [some (.ref q), some (.int (L : Int)), some (.int (m : Int)), some (.int (gp : Int)), some (.ref l), y5, some (.int (1 + (i : Int))), y7, y8, y9, y10, y11] ∧ Fill (rm H q) H' l ds R ∧ Half L m i j R ∧ Well H' q (n + 2 * m * i + 2 * j)) ⟨y5, y7, y8, y9, y10, y11, R, rfl, f1, hh, w1⟩ (fun j σ H' hj ⟨y5, y7, y8, y9, y10, y11, R, e, f1, hh, w1⟩ => ?_) (fun σ H' ⟨y5, y7, y8, y9, y10, y11, R, e, f1, hh, w1⟩ => ?_)⟩
      · subst e
        have hjm : j < m := by omega
        have hb := bud hiL (Nat.le_of_lt hjm)
        refine seq_mid (fun σ' H2 => ∃ st cl, σ' = [some (.ref q), some (.int (L : Int)), some (.int (m : Int)), some (.int (gp : Int)), some (.ref l), some (.int (0 + (j : Int))), some (.int (1 + (i : Int))), some (.int ((st : Nat) : Int)), some (.bl cl), y9, y10, y11] ∧ st < m ∧ Fill (rm H q) H2 l ds R ∧ Well H2 q (n + 2 * m * i + 2 * (j + 1))) (fun N hN => ?_) (fun σ' H2 ⟨st, cl, e, hst, f2, w2⟩ => ?_)
        · refine ⟨_, rfl, _, rfl, q, _, m, rfl, by omega, by omega, by omega, w1, fun st H2 s2 w2 hst => ?_⟩
          have f2 := f1.pick (rm_self H q) w1 s2
          refine ⟨_, rfl, rfl, _, rfl, ?_⟩
          have fin2 : ∀ (cl : Bool) (H3 : Hp), Fill (rm H q) H3 l ds R → Well H3 q (n + 2 * m * i + 2 * (j + 1)) → ∀ p, H3 p = none → gTup K 2 (gCons (gName 7) (gCons (gName 8) gNil)) (.ref p) [some (V.ref q), some (.int (L : Int)), some (.int (m : Int)), some (.int (gp : Int)), some (.ref l), some (.int (0 + (j : Int))), some (.int (1 + (i : Int))), y7, y8, y9, y10, y11] (upd H3 p (.tup [.int (st : Int), .bl cl])) N.nx := fun cl H3 f3 w3 p np => by
            have sp := same_new (o := .tup [.int (st : Int), .bl cl]) np
            exact ⟨p, _, rfl, SqT.of upd_same, rfl, _, _, rfl, _, _, rfl, rfl, hN _ _ ⟨st, cl, rfl, hst, f3.grow sp, w3.same sp⟩⟩
          cases decide (V.int (gp : Int) = V.int 0) with
          | true => exact iteT ⟨by show 2 ≤ sizeLine; decide, fin2 true H2 f2 (w2.up (by omega))⟩
          | false =>
            refine iteF ?_
            refine ⟨_, rfl, _, rfl, _, _, rfl, rfl, q, _, gp + 1, rfl, by omega, by omega, by omega, w2, fun r H3 s3 w3 hr => ?_⟩
            exact ⟨_, _, rfl, rfl, by show 2 ≤ sizeLine; decide, fin2 _ H3 (f2.pick (rm_self H q) w2 s3) (w3.up (by omega))⟩
        subst e
        have hRn := hh.hn
        have egm : ∀ a : Nat, ((st : Int) + (0 + (a : Int))) % (m : Int) = (((st + a) % m : Nat) : Int) := fun a => by
          rw [show (st : Int) + (0 + (a : Int)) = ((st + a : Nat) : Int) by omega]
          rfl
        refine ⟨_, rfl, (m : Int), rfl, by omega, by omega, lcg (walk_range (lo := 0) (n := (m : Int).toNat)) (fun a => !(R.go ((st + a) % m) (-((1 : Int) + (i : Int)))).isSome) (fun a => V.int (((st + a) % m : Nat) : Int)) (by omega) (fun H' s' => trivial) YFn.same (fun a x H3 H4 ha s3 s4 y => ?_) (fun fr H3 nf s3 hf => ?_)⟩
        · obtain ⟨_, rfl⟩ := y
          have hgm : (st + a) % m < R.n := by rw [hRn]; exact Nat.mod_lt _ (by omega)
          refine ⟨_, fun Qg h => h, rfl, fun H5 s5 Q5 q5 => ?_, fun _ H5 s5 Q5 q5 => ?_⟩
          · have f5 := f2.grow (s4.trans s5)
            obtain ⟨kv, pk⟩ := f5.pic
            obtain ⟨d, hd, rw5⟩ := pk.get hgm
            have g5 := rw5.get (-((1 : Int) + (i : Int)))
            have q5 := q5 H5 (Evl.Ex.refl H5)
            refine ⟨_, rfl, _, rfl, _, rfl, _, rfl, _, rfl, _, _, rfl, rfl, .inl ⟨_, rfl, _, rfl, _, _, rfl, rfl, (by show (0 : Int) < (m : Int); omega), l, _, _, _, rfl, rfl, SqL.of f5.lst, (by show atI _ (((st : Int) + (0 + (a : Int))) % (m : Int)) = _; rw [egm]; exact atI_nat (refs_get hd)), d, _, rfl, g5, ?_⟩⟩
            refine ⟨_, rfl, ?_⟩
            have e5 : (!((R.go ((st + a) % m) (-((1 : Int) + (i : Int)))).map fun g : Nat => V.int (g : Int)).isSome) = !(R.go ((st + a) % m) (-((1 : Int) + (i : Int)))).isSome := by cases R.go ((st + a) % m) (-((1 : Int) + (i : Int))) <;> rfl
            rw [e5]
            exact q5
          · have q5 := q5 H5 (Evl.Ex.refl H5)
            rw [← egm] at q5
            exact ⟨_, rfl, _, rfl, _, _, rfl, rfl, .inl ⟨_, rfl, _, rfl, _, _, rfl, rfl, (by show (0 : Int) < (m : Int); omega), q5⟩⟩
        have f3 := f2.grow s3
        have w3 := w2.same s3
        dsimp only
        refine ⟨_, rfl, cl, rfl, ?_⟩
        cases cl with
        | false => exact iteF ⟨_, _, _, _, _, _, R, rfl, f3, hh.skip, w3⟩
        | true =>
          refine iteT ?_
          have hRl : R.go j (1 + (i : Int)) = none := by rw [hz]; exact hh.none
          have hns : stepOk L (1 + (i : Int)) := ⟨by omega, by omega⟩
          -- one of them is free
          obtain ⟨g0, hg0, hg0m, hg0n⟩ : ∃ g0 : Nat, (Evl.given (m : Int).toNat (fun a => !(R.go ((st + a) % m) (-((1 : Int) + (i : Int)))).isSome) (fun a => V.int (((st + a) % m : Nat) : Int)))[0]? = some (.int (g0 : Int)) ∧ g0 < m ∧ R.go g0 (-(1 + (i : Int))) = none := by
            have hcl := cnt_lt hh.ok (s := 1 + (i : Int)) (r := j) (by omega) hRl
            have hpos : 0 < (freeL R (1 + (i : Int))).length := by omega
            obtain ⟨b1, b2⟩ := free_mem (List.getElem_mem hpos)
            generalize (freeL R (1 + (i : Int)))[0] = g at b1 b2
            have hgm : g < m := by omega
            obtain ⟨a, ham, hag⟩ : ∃ a, a < m ∧ (st + a) % m = g := by
              by_cases c : st ≤ g
              · exact ⟨g - st, by omega, by rw [show st + (g - st) = g by omega]; exact Nat.mod_eq_of_lt hgm⟩
              · exact ⟨g + m - st, by omega, by rw [show st + (g + m - st) = g + m by omega, Nat.add_mod_right]; exact Nat.mod_eq_of_lt hgm⟩
            have hmem : a ∈ (List.range (m : Int).toNat).filter (fun a => !(R.go ((st + a) % m) (-((1 : Int) + (i : Int)))).isSome) := by
              refine List.mem_filter.mpr ⟨List.mem_range.mpr (by omega), ?_⟩
              show (!(R.go ((st + a) % m) (-((1 : Int) + (i : Int)))).isSome) = true
              rw [hag, b2]
              rfl
            have hlen := List.length_pos_of_mem hmem
            have h0 := List.getElem_mem hlen
            obtain ⟨_, c2⟩ := List.mem_filter.mp h0
            refine ⟨(st + ((List.range (m : Int).toNat).filter (fun a => !(R.go ((st + a) % m) (-((1 : Int) + (i : Int)))).isSome))[0]) % m, ?_, Nat.mod_lt _ (by omega), ?_⟩
            · unfold Evl.given
              rw [List.getElem?_map, List.getElem?_eq_getElem hlen]
              rfl
            · generalize ((List.range (m : Int).toNat).filter (fun a => !(R.go ((st + a) % m) (-((1 : Int) + (i : Int)))).isSome))[0] = b at c2
              cases e : R.go ((st + b) % m) (-(1 + (i : Int))) with
              | none => rfl
              | some x =>
                rw [e] at c2
                cases c2
          have stp : ∀ r s x, R.go r s = some x → stepOk L s := fun r s x e => (hh.ok.ok r s x e).2.2.1
          obtain ⟨d1, hd1, hr1⟩ := f3.at_ (i := j) (by omega)
          obtain ⟨kv3, p3⟩ := f3.pic
          have at1 := (p3.row j d1 hd1).at_
          obtain ⟨H6, p6, f6, b6⟩ := f3.put (g := g0) (L := L) hd1 hRl (by omega) stp
          have w6 := w3.but at1 b6
          have hf6 := b6 _ _ (ne_of hf at1 (by intro z; cases z)) hf
          obtain ⟨d2, hd2, hr2⟩ := f6.at_ (i := g0) (show g0 < R.n by omega)
          have n3 : (R.set j (1 + (i : Int)) g0).go g0 (-(1 + (i : Int))) = none := by
            rw [set_ne (by rintro ⟨_, z⟩; omega)]
            exact hg0n
          have stp2 : ∀ r s x, (R.set j (1 + (i : Int)) g0).go r s = some x → stepOk L s := fun r s x e => by
            by_cases c : r = j ∧ s = 1 + (i : Int)
            · rw [c.2]; exact hns
            · rw [set_ne c] at e; exact stp r s x e
          obtain ⟨kv6, p6k⟩ := f6.pic
          have at2 := (p6k.row g0 d2 hd2).at_
          obtain ⟨H7, p7, f7, b7⟩ := f6.put (g := j) (L := L) hd2 n3 (by omega) stp2
          have w7 := w6.but at2 b7
          have e0j : (0 : Int) + (j : Int) = (j : Int) := Int.zero_add _
          refine ⟨_, rfl, fr, _, 0, _, rfl, rfl, SqL.of hf, atI_nat (j := 0) hg0, _, rfl, _, rfl, l, _, _, _, rfl, rfl, SqL.of f3.lst, (by show atI _ ((0 : Int) + (j : Int)) = _; rw [e0j]; exact atI_nat hr1), _, rfl, d1, H6, rfl, p6, ?_⟩
          refine ⟨_, rfl, _, rfl, fr, _, 0, _, rfl, rfl, SqL.of hf6, atI_nat (j := 0) hg0, l, _, _, _, rfl, rfl, SqL.of f6.lst, atI_nat hr2, ?_⟩
          refine ⟨_, rfl, _, rfl, _, rfl, _, rfl, d2, H7, rfl, (by show DPut H6 d2 (V.int (-(1 + (i : Int)))) (V.int ((0 : Int) + (j : Int))) H7; rw [e0j]; exact p7), ?_⟩
          have hed := hh.edge hiL hjm hg0m (by rw [← hz]; exact hg0n)
          rw [← hz] at hed
          exact ⟨_, _, _, _, _, _, _, rfl, f7, hed, w7⟩
      · subst e
        rw [Int.toNat_natCast] at hh w1
        refine ⟨_, _, _, _, _, _, _, R, rfl, f1, hh.next, w1.up ?_⟩
        rw [Nat.mul_succ]
        omega
    · subst e
      rw [show ((L : Int) + 1 - 1).toNat = L by omega] at hh w1
      obtain ⟨kv, pk⟩ := f1.pic
      refine ⟨_, rfl, _, rfl, L, l, R, rfl, hh.ok, hL1, hL4, by have := hh.hn; omega, ⟨ds, kv, f1.lst, pk⟩, fun t P' H2 s2 hW W hPn => ?_⟩
      refine fin t P' H2 (f1.sm.trans s2) ((w1.same s2).up ?_) hW W (by have := hh.hn; omega)
      have : 2 * m * L ≤ 2 * 100 * 4 := Nat.mul_le_mul (by omega) hL4
      omega
end
end Wk
set_option Elab.async false
set_option linter.all false
set_option maxRecDepth 100000
set_option maxHeartbeats 4000000
namespace Wk
open PySem L2 Wc
/-- the places found so far -/
structure KeepAt (n : Nat) (f : Nat → Nat) (kvs : List (Key × V)) (o : List Nat) : Prop where
  keys : kvs.map (·.1) = o.map (fun x : Nat => (Sum.inl (x : Int) : Key))
  at_ : ∀ x ∈ o, valV kvs (Sum.inl (x : Int)) = some (.int ((f x : Nat) : Int))
  nd : o.Nodup
  lt : ∀ x ∈ o, x < n
theorem KeepAt.none {n : Nat} {f : Nat → Nat} {kvs : List (Key × V)} {o : List Nat} (h : KeepAt n f kvs o) {x : Nat} (hx : x ∉ o) : valV kvs (Sum.inl (x : Int)) = none := by
  cases c : valV kvs (Sum.inl (x : Int)) with
  | none => rfl
  | some v =>
    have := valV_in c
    rw [h.keys] at this
    obtain ⟨y, hy, e⟩ := List.mem_map.mp this
    have : y = x := by have := Sum.inl.inj e; omega
    exact absurd (this ▸ hy) hx
theorem KeepAt.len {n : Nat} {f : Nat → Nat} {kvs : List (Key × V)} {o : List Nat} (h : KeepAt n f kvs o) : o.length ≤ n ∧ kvs.length = o.length := by
  have := congrArg List.length h.keys
  rw [List.length_map, List.length_map] at this
  exact ⟨nodup_lt_len h.nd h.lt, this⟩
theorem KeepAt.put {n : Nat} {f : Nat → Nat} {kvs : List (Key × V)} {o : List Nat} {g : Nat} (h : KeepAt n f kvs o) (hg : g ∉ o) (hn : g < n) : KeepAt n f (putK kvs (Sum.inl (g : Int)) (.int ((f g : Nat) : Int))) (o ++ [g]) := by
  refine ⟨?_, fun x hx => ?_, List.nodup_append.mpr ⟨h.nd, by simp, fun a ha b hb e => ?_⟩, fun x hx => ?_⟩
  · rw [putK_new _ (h.none hg), List.map_append, List.map_append, h.keys]
    rfl
  · rw [valV_put]
    by_cases c : x = g
    · subst c
      rw [if_pos rfl]
    · rw [if_neg (fun e => c (by have := Sum.inl.inj e; omega))]
      rcases List.mem_append.mp hx with z | z
      · exact h.at_ x z
      · exact absurd (List.mem_singleton.mp z) c
  · have : b = g := List.mem_singleton.mp hb
    rw [this] at e
    exact hg (e ▸ ha)
  · rcases List.mem_append.mp hx with z | z
    · exact h.lt x z
    · rw [List.mem_singleton.mp z]; exact hn
section
variable {P : Program} {w : World} {K : PySem.W.Frag} {mg : Str → Option Value} {base : Heap}
abbrev s_law_keeps : Stmt := top 57
abbrev n_law_keeps : List Str := ["_law_doors_here", "_law_walks_here", "_law_book", "_law_rows_here", "_law_places", "_law_order", "_law_at", "_law_room", "_law_step", "_law_goal", "_law_walk_here", "_law_here"]
theorem sc_law_keeps : FnScope n_law_keeps ["_law_doors_here", "_law_walks_here", "_law_book"] (defScope s_law_keeps) := ⟨rfl, rfl, rfl, by decide +kernel, rfl, by decide +kernel, by decide +kernel⟩
def sp_law_keeps (K : PySem.W.Frag) : Sp := fun vs H Q _ => ∃ (a c v : Addr) (L m : Nat) (P : Pic) (ws : List (List Int)) (ts : List (List Nat)) (f : Nat → Nat), vs = [.ref a, .ref c, .ref v] ∧ P.Ok L ∧ L ≤ 5 ∧ P.n ≤ 1000 ∧ PicAt H a P ∧ TuT K H c ws ∧ WsOk L ws ∧
  BookAt K H v L ts ∧ Book L m ts ∧ 1 ≤ m ∧ m ≤ 40 ∧ f 0 = 0 ∧ (∀ r, r < P.n → f r < m) ∧ Cons (actB m ts) P f ∧ (∀ w ∈ ws, actW (actB m ts) w 0 ≠ 0) ∧ RV (.bl true) H Q
theorem ok_law_keeps (B : Bi mg) (F : Df K mg "_law_keeps" s_law_keeps ["_law_doors_here", "_law_walks_here", "_law_book"]) (h__law_rows : Has P w K mg base 1 "_law_rows" ["_law_book"] (sp_turns K)) :
    Has P w K mg base 2 "_law_keeps" ["_law_doors_here", "_law_walks_here", "_law_book"] (sp_law_keeps K) := by
  refine F.ok sc_law_keeps (fun vs H Q E h => ?_) (fun fa cdv A outer s H vs Q E hr h => ?_)
  · obtain ⟨a, c, v, L, m, P, ws, ts, f, rfl, _⟩ := h
    rfl
  · obtain ⟨a, c, v, L, m, P, ws, ts, f, rfl, hp, hL, hn, ⟨ds, kv, hA0, hP0⟩, hT0, hws, hV, hB, hm1, hm40, hf0, hf, hC, hAct, q⟩ := h
    refine ⟨_, (pss_cons (ps_asg (pe_tup (pa_cons (pe_has h__law_rows (hr.mono (by omega)) (pa_cons (pv 2) pa_nil)) (pa_cons (pe_disp (pps_cons pe_int pe_int pps_nil) (by rfl) (by rfl) (fun z => by cases z) (by decide)) (pa_cons (pe_lst (pa_cons pe_int pa_nil)) (pa_cons pe_int pa_nil))))) (k_tup K (n := 4) rfl (pgs_cons (pg_name (i := 3) sc_law_keeps.nd rfl (Or.inl rfl)) (pgs_cons (pg_name (i := 4) sc_law_keeps.nd rfl (Or.inl rfl)) (pgs_cons (pg_name (i := 5) sc_law_keeps.nd rfl (Or.inl rfl)) (pgs_cons (pg_name (i := 6) sc_law_keeps.nd rfl (Or.inl rfl)) pgs_nil))))))
      (pss_cons (ps_while PassesOwn.never (pt_cmpR op_lt (pv 6) (pe_callB (kLen K) (by rfl) B.len PySem.boot_len (pa_cons (pv 5) pa_nil)) (nomark _))
        (pss_cons (ps_set (i := 7) sc_law_keeps.nd rfl (Or.inl rfl) (pe_ix (kIxL K) (pv 5) (pv 6) (fun _ _ => rfl)))
        (pss_cons (ps_lock (ps_for PassesOwn.never rfl (pi_items (pe_ix (kIxL K) (pv 0) (pv 7) (fun _ _ => rfl))) (k_tup K (n := 2) rfl (pgs_cons (pg_name (i := 8) sc_law_keeps.nd rfl (Or.inl rfl)) (pgs_cons (pg_name (i := 9) sc_law_keeps.nd rfl (Or.inl rfl)) pgs_nil)))
          (pss_cons (ps_if (pt_cmp (pc_dnotin (hu_of hr) (pv 9) (pv 4)))
            (pss_cons (ps_dput (hu_of hr) (pv 4) (pv 9) (pe_ix (kIxL K) (pe_dget (hu_of hr) (pv 3) (pv 8) (fun _ _ => rfl)) (pe_dget (hu_of hr) (pv 4) (pv 7) (fun _ _ => rfl)) (fun _ _ => rfl)) rfl)
            (pss_one (ps_expr (k_bm K PySem.F.plainAttrs_list PySem.F.slot_list_append PySem.F.type_list_append mt_append (pv 5) (pa_cons (pv 9) pa_nil)))))
            pss_nil)
          (pss_one (ps_if (pt_cmpR op_ne (pe_dget (hu_of hr) (pv 4) (pv 9) (fun _ _ => rfl)) (pe_ix (kIxL K) (pe_dget (hu_of hr) (pv 3) (pv 8) (fun _ _ => rfl)) (pe_dget (hu_of hr) (pv 4) (pv 7) (fun _ _ => rfl)) (fun _ _ => rfl)) (nomark _))
            (pss_one (ps_ret pe_bl))
            pss_nil)))))
        (pss_one (ps_set (i := 6) sc_law_keeps.nd rfl (Or.inl rfl) (pe_op op_add (pv 6) pe_int))))))
      (pss_cons (ps_for PassesOwn.never rfl (pi_tup (pv 1)) (pg_name (i := 10) sc_law_keeps.nd rfl (Or.inl rfl))
        (pss_cons (ps_set (i := 11) sc_law_keeps.nd rfl (Or.inl rfl) pe_int)
        (pss_cons (ps_for PassesOwn.never rfl (pi_tup (pv 10)) (pg_name (i := 8) sc_law_keeps.nd rfl (Or.inl rfl))
          (pss_one (ps_set (i := 11) sc_law_keeps.nd rfl (Or.inl rfl) (pe_ix (kIxL K) (pe_dget (hu_of hr) (pv 3) (pv 8) (fun _ _ => rfl)) (pv 11) (fun _ _ => rfl)))))
        (pss_one (ps_if (pt_cmpR op_eq (pv 11) pe_int (nomark _))
          (pss_one (ps_ret pe_bl))
          pss_nil)))))
      (pss_one (ps_ret pe_bl))))), ?_⟩
    refine ⟨_, rfl, v, L, m, ts, rfl, hV, hB, hL, by omega, fun d0 tk H1 s1 nd0 hd0 hTA => ?_⟩
    have hA := s1 _ _ hA0
    have hP := hP0.same s1
    have hT := hT0.same s1
    intro mm nmm
    have sm1 := same_new (o := .dK []) nmm
    refine ⟨upd_same, [((Sum.inl (0 : Int) : Key), V.int 0)], rfl, by show 1 ≤ 15; decide, by show 1 ≤ sizeLine; decide, fun l nl => ?_⟩
    rw [upd_upd] at nl ⊢
    have sm2 := same_new (o := .dK (mergeK [] [((Sum.inl (0 : Int) : Key), V.int 0)])) nmm
    have hml : mm ≠ l := ne_of_none upd_same nl
    have nl1 := sm2.free nl
    have sl := same_new (o := .lst [.int 0]) nl
    refine ⟨by show 4 ≤ sizeLine; decide, fun t nt => ?_⟩
    have st := same_new (o := .tup [.ref d0, .ref mm, .ref l, .int 0]) nt
    refine ⟨t, _, rfl, SqT.of upd_same, rfl, _, _, rfl, _, _, rfl, _, _, rfl, _, _, rfl, rfl, ?_⟩
    have s2 := sm2.trans (sl.trans st)
    have hm2 := (sl.trans st) _ _ (upd_same (H := H1) (a := mm) (o := .dK (mergeK [] [((Sum.inl (0 : Int) : Key), V.int 0)])))
    have hl2 := st _ _ (upd_same (H := upd H1 mm (.dK (mergeK [] [((Sum.inl (0 : Int) : Key), V.int 0)]))) (a := l) (o := .lst [.int 0]))
    have k0 : KeepAt P.n f (mergeK [] [((Sum.inl (0 : Int) : Key), V.int 0)]) [0] := ⟨rfl, fun x hx => by
      rw [List.mem_singleton.mp hx, hf0]
      rfl, by simp, fun x hx => by rw [List.mem_singleton.mp hx]; exact hp.pos⟩
    refine ⟨fun μ σ H' => ∃ k y7 y8 y9 o kvs, σ = [some (.ref a), some (.ref c), some (.ref v), some (.ref d0), some (.ref mm), some (.ref l), some (.int ((k : Nat) : Int)), y7, y8, y9, none, none] ∧ Same H1 H' ∧ H' mm = some (.dK kvs) ∧ H' l = some (.lst (vn o)) ∧ KeepAt P.n f kvs o ∧ k ≤ o.length ∧ μ = P.n - k, ⟨P.n, 0, _, _, _, [0], _, rfl, s2, hm2, hl2, k0, Nat.zero_le _, rfl⟩, ?_⟩
    rintro μ σ H' ⟨k, y7, y8, y9, o, kvs, rfl, sm, hmm, hl, kp, hk, rfl⟩
    refine ⟨_, rfl, _, rfl, l, _, rfl, .inl (SqL.of hl), _, _, rfl, rfl, _, rfl, ?_⟩
    rw [List.length_map]
    by_cases ck : (k : Int) < (o.length : Int)
    · rw [decide_eq_true ck]
      refine iteT ?_
      have c' : k < o.length := by omega
      have hat : o[k]? = some o[k] := List.getElem?_eq_getElem c'
      have hrm : o[k] ∈ o := List.getElem_mem c'
      generalize o[k] = r at hat hrm
      have hrn := kp.lt r hrm
      have hkn : k < P.n := by have := kp.len.1; omega
      obtain ⟨d, hd, rw0⟩ := hP.get hrn
      have hdm : d ≠ mm := ne_of_none rw0.at_ nmm
      have hdl : d ≠ l := ne_of_none rw0.at_ nl1
      have had : a ≠ d := ne_of hA rw0.at_ (by intro z; cases z)
      have hkl : (kv r).length ≤ 10 := by
        have := row_len (L := L) rw0.nd fun s g e => (hp.ok r s g (by rw [← rw0.go]; exact e)).2.2.1
        omega
      refine ⟨fun σ' H3 => ∃ y7 y8 y9 o2 kvs, σ' = [some (.ref a), some (.ref c), some (.ref v), some (.ref d0), some (.ref mm), some (.ref l), some (.int ((k + 1 : Nat) : Int)), y7, y8, y9, none, none] ∧ Same H1 H3 ∧ H3 mm = some (.dK kvs) ∧ H3 l = some (.lst (vn o2)) ∧ KeepAt P.n f kvs o2 ∧ o <+: o2, ?_, ?_⟩
      · rintro σ' H3 ⟨z7, z8, z9, o2, kvs2, rfl, b1, b2, b3, b4, b5⟩
        exact ⟨P.n - (k + 1), by omega, k + 1, z7, z8, z9, o2, kvs2, rfl, b1, b2, b3, b4, by have := b5.length_le; omega, rfl⟩
      · refine ⟨_, rfl, _, rfl, l, _, _, _, rfl, rfl, SqL.of hl, vn_at hat, ?_⟩
        refine ⟨d, _, sm _ _ rw0.at_, trivial, fun od => ?_⟩
        have hA' : upd H1 d (.frz od (.dK ((kv r).map e2))) a = some (.lst (ds.map V.ref)) := by rw [upd_ne had]; exact hA
        have nmL : upd H1 d (.frz od (.dK ((kv r).map e2))) mm = none := by rw [upd_ne hdm.symm]; exact nmm
        have nlL : upd H1 d (.frz od (.dK ((kv r).map e2))) l = none := by rw [upd_ne hdl.symm]; exact nl1
        have hd' : upd H1 d (.frz od (.dK ((kv r).map e2))) d = some (.frz od (.dK ((kv r).map e2))) := upd_same
        have hdd0 : d0 ≠ d := by
          rintro rfl
          have := (hP0.row r d0 hd).at_
          rw [nd0] at this
          cases this
        have hd0' : upd H1 d (.frz od (.dK ((kv r).map e2))) d0 = some (.dK tk) := by rw [upd_ne hdd0]; exact hd0
        have hTA' : TAt (upd H1 d (.frz od (.dK ((kv r).map e2)))) tk L m ts := hTA.dk rw0.at_
        have slk := same_lock (d := d) (z := .frz od (.dK ((kv r).map e2))) sm
        refine ⟨_, rfl, _, rfl, a, _, _, _, rfl, rfl, SqL.of (slk _ _ hA'), atI_nat (refs_get hd), ?_⟩
        refine ⟨d, od, _, rfl, upd_same, for_it walk_items (fun j σ H3 => ∃ y8 y9 o2 kvs, σ = [some (.ref a), some (.ref c), some (.ref v), some (.ref d0), some (.ref mm), some (.ref l), some (.int ((k : Nat) : Int)), some (.int (r : Int)), y8, y9, none, none] ∧ Same (upd H1 d (.frz od (.dK ((kv r).map e2)))) H3 ∧ H3 mm = some (.dK kvs) ∧ H3 l = some (.lst (vn o2)) ∧ KeepAt P.n f kvs o2 ∧ o <+: o2) ⟨y8, y9, o, kvs, rfl, slk, by rw [upd_ne hdm.symm]; exact hmm, by rw [upd_ne hdl.symm]; exact hl, kp, List.prefix_refl o⟩ (fun j σ H3 _ ⟨_, _, _, _, _, e, _⟩ => e _ _ hd') (fun j x σ H3 H4 hj ⟨y8, y9, o2, kvs, e, b1, b2, b3, b4, b5⟩ hy => ?_) (fun σ H3 ⟨y8, y9, o2, kvs, e, b1, b2, b3, b4, b5⟩ => ?_)⟩
        · subst e
          rw [List.length_map] at hj
          obtain ⟨T, x1, x2, rfl, nT, rfl, e1, e3⟩ := hy
          have hkj : (kv r)[j]? = some (kv r)[j] := List.getElem?_eq_getElem hj
          generalize (kv r)[j] = kj at hkj
          obtain ⟨stp, g⟩ := kj
          have e1 : (((kv r).map e2)[j]?).map (fun kv => kV kv.1) = some x1 := e1
          have e3 : (((kv r).map e2)[j]?).map Prod.snd = some x2 := e3
          rw [List.getElem?_map, hkj] at e1 e3
          cases e1
          cases e3
          have sT := same_new (o := .tup [.int stp, .int (g : Int)]) nT
          have hgo : P.go r stp = some g := by rw [← rw0.go]; exact lk_of_mem rw0.nd (List.mem_of_getElem? hkj)
          obtain ⟨_, hgn, hso, _⟩ := hp.ok r stp g hgo
          have c1 := b1.trans sT
          have c2 := sT _ _ b2
          have c3 := sT _ _ b3
          refine ⟨T, _, rfl, SqT.of upd_same, rfl, _, _, rfl, _, _, rfl, rfl, ?_⟩
          have hrm2 : r ∈ o2 := b5.subset hrm
          have hvr := b4.at_ r hrm2
          obtain ⟨tb, ht1, ht2⟩ := hTA'.2 stp hso
          have hrow : (vn (rowS m ts stp))[f r]? = some (.int ((f g : Nat) : Int)) := by
            have := rowS_get hB hso (hf r hrn)
            rw [hC r stp g hgo] at this
            exact vn_get this
          -- the value that stands there
          have dgr : ∀ {H5 : Hp} {kv5 : List (Key × V)}, H5 mm = some (.dK kv5) → valV kv5 (Sum.inl (r : Int)) = some (.int ((f r : Nat) : Int)) → DGet H5 mm (.int (r : Int)) (some (.int ((f r : Nat) : Int))) := fun h1 h2 => h2 ▸ DGet.k (k := Sum.inl (r : Int)) h1
          have dgs : ∀ {H5 : Hp}, Same (upd H1 d (.frz od (.dK ((kv r).map e2)))) H5 → DGet H5 d0 (.int stp) (some (.ref tb)) := fun h1 => ht1 ▸ DGet.k (k := Sum.inl stp) (h1 _ _ hd0')
          refine seq_mid (fun σ' H5 => ∃ o3 kv3, σ' = [some (.ref a), some (.ref c), some (.ref v), some (.ref d0), some (.ref mm), some (.ref l), some (.int ((k : Nat) : Int)), some (.int (r : Int)), some (.int stp), some (.int (g : Int)), none, none] ∧ Same (upd H1 d (.frz od (.dK ((kv r).map e2)))) H5 ∧ H5 mm = some (.dK kv3) ∧ H5 l = some (.lst (vn o3)) ∧ KeepAt P.n f kv3 o3 ∧ o <+: o3 ∧ g ∈ o3 ∧ r ∈ o3) (fun N hN => ?_) (fun σ' H5 ⟨o3, kv3, e, g1, g2, g3, g4, g5, g6, g7⟩ => ?_)
          · refine ⟨_, rfl, _, rfl, mm, _, rfl, DGet.k (k := Sum.inl (g : Int)) c2, ?_⟩
            by_cases cm : g ∈ o2
            · rw [b4.at_ g cm]
              exact ⟨_, rfl, iteF (hN _ _ ⟨o2, kvs, rfl, c1, c2, c3, b4, b5, cm, hrm2⟩)⟩
            · rw [b4.none cm]
              refine ⟨_, rfl, iteT ?_⟩
              obtain ⟨n1, n2⟩ := b4.len
              refine ⟨_, rfl, _, rfl, d0, _, rfl, dgs c1, _, rfl, _, rfl, mm, _, rfl, dgr c2 hvr, tb, _, _, _, rfl, rfl, SqL.of (c1 _ _ ht2), atI_nat hrow, _, rfl, _, rfl, mm, _, rfl, DPut.k (k := Sum.inl (g : Int)) c2 (smallL (by omega)), ?_⟩
              have hlm : l ≠ mm := hml.symm
              refine ⟨_, rfl, .inl ⟨rfl, _, SqL.of (by rw [upd_ne hlm]; exact c3)⟩, _, rfl, l, _, _, rfl, rfl, by rw [upd_ne hlm]; exact c3, by rw [List.length_map]; exact smallL (by omega), ?_⟩
              exact hN _ _ ⟨o2 ++ [g], _, rfl, (c1.mut nmL).mut nlL, by rw [upd_ne hml]; exact upd_same, by rw [upd_same, vn, vn, List.map_append]; rfl, b4.put cm hgn, b5.trans (List.prefix_append o2 [g]), List.mem_append_right _ (List.mem_singleton.mpr rfl), List.mem_append_left _ hrm2⟩
          · subst e
            have hvg := g4.at_ g g6
            refine ⟨_, rfl, _, rfl, mm, _, rfl, (hvg ▸ DGet.k (k := Sum.inl (g : Int)) g2), _, rfl, _, rfl, d0, _, rfl, dgs g1, _, rfl, _, rfl, mm, _, rfl, dgr g2 (g4.at_ r g7), tb, _, _, _, rfl, rfl, SqL.of (g1 _ _ ht2), atI_nat hrow, rfl, _, rfl, ?_⟩
            rw [decide_eq_true rfl]
            exact iteF ⟨_, _, o3, kv3, rfl, g1, g2, g3, g4, g5⟩
        · subst e
          refine ⟨b1 _ _ hd', _, rfl, _, _, rfl, rfl, _, _, _, o2, kvs, rfl, same_unlock rw0.at_ b1, by rw [upd_ne hdm.symm]; exact b2, by rw [upd_ne hdl.symm]; exact b3, b4, b5⟩
    · rw [decide_eq_false ck]
      refine iteF ?_
      obtain ⟨as, hAs, hlen, hrow⟩ := hT.ex
      refine ⟨_, rfl, c, rfl, ⟨_, sm.tup hAs⟩, for_tup (xs := as.map V.ref) (fun i σ H3 => ∃ y7 y8 y9 y10 y11, σ = [some (.ref a), some (.ref c), some (.ref v), some (.ref d0), some (.ref mm), some (.ref l), some (.int ((k : Nat) : Int)), y7, y8, y9, y10, y11] ∧ Same H1 H3) ⟨_, _, _, _, _, rfl, sm⟩ (fun i σ H3 _ ⟨_, _, _, _, _, _, e⟩ => e.tup hAs) (fun i x σ H3 hx ⟨y7, y8, y9, y10, y11, e, s3⟩ => ?_) (fun σ H3 ⟨y7, y8, y9, y10, y11, e, s3⟩ => ?_)⟩
      · subst e
        obtain ⟨wd, wk, rfl, hb, hns, hd⟩ := tu_get hlen (fun j b ns p r => s3.tup (hrow j b ns p r)) hx
        obtain ⟨g1, g2⟩ := hws.get hns
        refine ⟨_, rfl, wd, rfl, ⟨_, hd⟩, for_tup (xs := vi wk) (fun j σ H4 => ∃ y8, σ = [some (.ref a), some (.ref c), some (.ref v), some (.ref d0), some (.ref mm), some (.ref l), some (.int ((k : Nat) : Int)), y7, y8, y9, some (.ref wd), some (.int ((actW (actB m ts) (wk.take j) 0 : Nat) : Int))] ∧ Same H3 H4) ⟨y8, rfl, Same.refl H3⟩ (fun j σ H4 _ ⟨_, _, e⟩ => e.tup hd) (fun j x σ H4 hx ⟨y8, e, s4⟩ => ?_) (fun σ H4 ⟨y8, e, s4⟩ => ?_)⟩
        · subst e
          obtain ⟨stp, hst, rfl⟩ := of_vi_get hx
          have hso := g1 stp (List.mem_of_getElem? hst)
          have s14 := s3.trans s4
          obtain ⟨tb, ht1, ht2⟩ := (hTA.same s14).2 stp hso
          have hlt := hB.rep.ltW (w := wk.take j) (x := 0) (fun s hs => g1 s (List.mem_of_mem_take hs)) (by omega)
          refine ⟨_, rfl, _, rfl, d0, _, rfl, (ht1 ▸ DGet.k (k := Sum.inl stp) (s14 _ _ hd0)), _, rfl, tb, _, _, _, rfl, rfl, SqL.of ht2, atI_nat (vn_get (rowS_get hB hso hlt)), ?_⟩
          have e5 : actW (actB m ts) (wk.take (j + 1)) 0 = actB m ts stp (actW (actB m ts) (wk.take j) 0) := by
            rw [List.take_add_one, hst, Option.toList_some, actW_append]
            rfl
          exact ⟨_, by rw [e5]; rfl, s4⟩
        · subst e
          have hne := hAct wk (List.mem_of_getElem? hns)
          rw [List.length_map, List.take_length]
          refine ⟨_, rfl, rfl, _, rfl, ?_⟩
          rw [decide_eq_false (fun z => hne (by have := V.int.inj z; omega))]
          exact iteF ⟨_, _, _, _, _, rfl, s3.trans s4⟩
      · exact q H3 (s1.trans s3)
end
end Wk
set_option Elab.async false
set_option linter.all false
set_option maxRecDepth 100000
set_option maxHeartbeats 4000000
namespace Wk
open PySem L2 Wc
def fc : Nat → Nat
  | 0 => 1
  | n + 1 => (n + 1) * fc n
theorem fc_le : ∀ i, i < 9 → fc i ≤ 40320 := by decide
theorem rg_take {q : List Nat} (h : RG q) : ∀ k, k ≤ q.length → mx1 (q.take k) ≤ k
  | 0, _ => by rw [List.take_zero]; exact Nat.le_refl 0
  | k + 1, hk => by
    have ih := rg_take h k (by omega)
    refine mx1_le fun x hx => ?_
    have hkl : k < q.length := by omega
    rw [List.take_add_one, List.getElem?_eq_getElem hkl] at hx
    rcases List.mem_append.mp hx with z | z
    · have := lt_mx1 z
      omega
    · have e : x = q[k] := List.mem_singleton.mp z
      have := h k hkl
      rw [getD_lt hkl] at this
      omega
theorem rg_len {q : List Nat} (h : RG q) : mx1 q ≤ q.length := by
  have := rg_take h q.length (Nat.le_refl _)
  rwa [List.take_length] at this
theorem ifS_ex {p : Prop} {t : TT} {A B : TS} {D : Ends} {σ : L2.St} {H : Hp} (ht : ∀ R : Bool → Hp → Prop, (∀ H', Same H H' → p → R true H') → (∀ H', Same H H' → R false H') → t σ H R) (a : ∀ H', Same H H' → p → A D σ H') (b : ∀ H', Same H H' → B D σ H') : tIfS t A B D σ H :=
  ht _ (fun H' s h => iteT (a H' s h)) fun H' s => iteF (b H' s)
/-- rows that are partings of the first i rooms -/
structure RowsAt (K : PySem.W.Frag) (H : Hp) (g : Addr) (P : Pic) (ends : List Nat) (most i : Nat) (as : List Addr) : Prop where
  lst : H g = some (.lst (as.map V.ref))
  at_ : ∀ b ∈ as, ∃ q, SqT K H b (vn q) ∧ Part P ends most q ∧ q.length = i
theorem RowsAt.same {K : PySem.W.Frag} {H H' : Hp} {g : Addr} {P : Pic} {ends : List Nat} {most i : Nat} {as : List Addr} (h : RowsAt K H g P ends most i as) (e : Same H H') : RowsAt K H' g P ends most i as :=
  ⟨e _ _ h.lst, fun b hb => let ⟨q, a, c⟩ := h.at_ b hb; ⟨q, e.tup a, c⟩⟩
theorem RowsAt.other {K : PySem.W.Frag} {H : Hp} {g g2 : Addr} {P : Pic} {ends : List Nat} {most i : Nat} {as : List Addr} {xs ys : List V} (h : RowsAt K H g P ends most i as) (hn : g ≠ g2) (h2 : H g2 = some (.lst xs)) : RowsAt K (upd H g2 (.lst ys)) g P ends most i as :=
  ⟨by rw [upd_ne hn]; exact h.lst, fun b hb => let ⟨q, a, c⟩ := h.at_ b hb; ⟨q, sqt_lst a h2, c⟩⟩
theorem RowsAt.add {K : PySem.W.Frag} {H : Hp} {g b : Addr} {P : Pic} {ends q : List Nat} {most i : Nat} {as : List Addr} (h : RowsAt K H g P ends most i as) (hb : SqT K H b (vn q)) (hp : Part P ends most q) (hl : q.length = i) : RowsAt K (upd H g (.lst (as.map V.ref ++ [.ref b]))) g P ends most i (as ++ [b]) :=
  ⟨by rw [upd_same, List.map_append]; rfl, fun c hc => by
    rcases List.mem_append.mp hc with z | z
    · obtain ⟨p, a1, a2⟩ := h.at_ c z
      exact ⟨p, sqt_lst a1 h.lst, a2⟩
    · rw [List.mem_singleton.mp z]
      exact ⟨q, sqt_lst hb h.lst, hp, hl⟩⟩
section
variable {P : Program} {w : World} {K : PySem.W.Frag} {mg : Str → Option Value} {base : Heap}
abbrev s_law_has_places : Stmt := top 60
abbrev n_law_has_places : List Str := ["_law_hung_here", "_law_ends", "_law_most", "_law_rows_here", "_law_room", "_law_grown", "_law_row", "_law_place"]
theorem sc_law_has_places : FnScope n_law_has_places ["_law_hung_here", "_law_ends", "_law_most"] (defScope s_law_has_places) := ⟨rfl, rfl, rfl, by decide +kernel, rfl, by decide +kernel, by decide +kernel⟩
def sp_law_has_places (K : PySem.W.Frag) : Sp := fun vs H Q _ => ∃ (a e : Addr) (L most : Nat) (P : Pic) (ends : List Nat), vs = [.ref a, .ref e, .int (most : Int)] ∧ P.Ok L ∧ L ≤ 5 ∧ P.n ≤ 8 ∧ 1 ≤ most ∧ most ≤ 1000 ∧ PicAt H a P ∧ H e = some (.lst (vn ends)) ∧ 0 ∉ ends ∧ (∀ q, ¬ Whole P ends most q) ∧ RV (.bl false) H Q
theorem ok_law_has_places (B : Bi mg) (F : Df K mg "_law_has_places" s_law_has_places ["_law_hung_here", "_law_ends", "_law_most"]) (h__law_fits : Has P w K mg base 1 "_law_fits" ["_law_hung_here", "_law_row"] (sp_law_fits K)) :
    Has P w K mg base 2 "_law_has_places" ["_law_hung_here", "_law_ends", "_law_most"] (sp_law_has_places K) := by
  refine F.ok sc_law_has_places (fun vs H Q E h => ?_) (fun f cdv A outer s H vs Q E hr h => ?_)
  · obtain ⟨a, e, L, most, P, ends, rfl, _⟩ := h
    rfl
  · obtain ⟨a, e, L, most, P, ends, rfl, hp, hL, hn, hm1, hm, hPA, hE, h0, hno, fin⟩ := h
    have hPA0 := hPA
    obtain ⟨ds, kv, hA, hP⟩ := hPA0
    have hpos := hp.pos
    refine ⟨_, (pss_cons (ps_set (i := 3) sc_law_has_places.nd rfl (Or.inl rfl) (pe_lst (pa_cons (pe_tup (pa_cons pe_int pa_nil)) pa_nil)))
      (pss_cons (ps_for PassesOwn.never rfl (pi_range2 rfl B.range (pa_cons pe_int (pa_cons (pe_callB (kLen K) (by rfl) B.len PySem.boot_len (pa_cons (pv 0) pa_nil)) pa_nil))) (pg_name (i := 4) sc_law_has_places.nd rfl (Or.inl rfl))
        (pss_cons (ps_set (i := 5) sc_law_has_places.nd rfl (Or.inl rfl) (pe_lst pa_nil))
        (pss_cons (ps_for PassesOwn.never rfl (pi_list (pv 3)) (pg_name (i := 6) sc_law_has_places.nd rfl (Or.inl rfl))
          (pss_one (ps_for PassesOwn.never rfl (pi_range1 rfl B.range (pa_cons (pe_callB (call_min2 rfl) (by rfl) B.min (by decide +kernel) (pa_cons (pv 2) (pa_cons (pe_op op_add (pe_callB (kMaxT K (hu64 hr)) (by rfl) B.max (by decide +kernel) (pa_cons (pv 6) pa_nil)) pe_int) pa_nil))) pa_nil)) (pg_name (i := 7) sc_law_has_places.nd rfl (Or.inl rfl))
            (pss_one (ps_if (PW.pt (pw_and (PW.pt (pw_or (pt_cmpR op_gt (pv 7) pe_int (nomark _)) (pw_or1 (pt_cmpR (kNotIn K) (pv 4) (pv 1) (by rfl))))) (pw_and1 (pt_val (pe_has h__law_fits (hr.mono (by omega)) (pa_cons (pv 0) (pa_cons (pe_op (kCatT K) (pv 6) (pe_tup (pa_cons (pv 7) pa_nil))) pa_nil)))))))
              (pss_one (ps_expr (k_bm K PySem.F.plainAttrs_list PySem.F.slot_list_append PySem.F.type_list_append mt_append (pv 5) (pa_cons (pe_op (kCatT K) (pv 6) (pe_tup (pa_cons (pv 7) pa_nil))) pa_nil))))
              pss_nil)))))
        (pss_one (ps_set (i := 3) sc_law_has_places.nd rfl (Or.inl rfl) (pv 5))))))
      (pss_one (ps_ret (pe_cmpR op_gt (pe_callB (kLen K) (by rfl) B.len PySem.boot_len (pa_cons (pv 3) pa_nil)) pe_int (nomark _)))))), ?_⟩
    refine ⟨by show 1 ≤ sizeLine; decide, fun t nt => ?_⟩
    have st := same_new (o := .tup [.int 0]) nt
    refine ⟨by show 1 ≤ sizeLine; decide, fun g ng => ?_⟩
    have sg := same_new (o := .lst [.ref t]) ng
    have r0 : RowsAt K (upd (upd H t (.tup [.int 0])) g (.lst [.ref t])) g P ends most 1 [t] := ⟨upd_same, fun b hb => ⟨[0], by rw [List.mem_singleton.mp hb]; exact sg.tup (SqT.of upd_same), Part.one hpos (by omega) h0, rfl⟩⟩
    refine ⟨_, rfl, a, _, rfl, .inl (SqL.of ((st.trans sg) _ _ hA)), _, _, rfl, ?_⟩
    rw [List.length_map, hP.len]
    refine ⟨⟨by omega, by omega, by omega, by omega⟩, for_range (lo := 1) (n := ((P.n : Int) - 1).toNat) (fun i σ H' => ∃ y4 y5 y6 y7 g as, σ = [some (.ref a), some (.ref e), some (.int (most : Int)), some (.ref g), y4, y5, y6, y7] ∧ Same H H' ∧ RowsAt K H' g P ends most (i + 1) as ∧ as.length ≤ fc (i + 1)) ⟨none, none, none, none, g, [t], rfl, st.trans sg, r0, Nat.le_refl 1⟩ (fun i σ H' hi ⟨y4, y5, y6, y7, g, as, er, sm, ra, hal⟩ => ?_) (fun σ H' ⟨y4, y5, y6, y7, g, as, er, sm, ra, hal⟩ => ?_)⟩
    · subst er
      have hi8 : i + 1 < P.n := by omega
      refine ⟨Nat.zero_le _, fun g2 ng2 => ?_⟩
      have s2 := same_new (o := .lst []) ng2
      have hgg : g ≠ g2 := ne_of_none ra.lst ng2
      have ng2H := sm.free ng2
      have fb : fc (i + 2) = (i + 2) * fc (i + 1) := rfl
      have fb2 := fc_le (i + 2) (by omega)
      have r1 : RowsAt K (upd H' g2 (.lst [])) g2 P ends most (i + 2) [] := ⟨upd_same, fun b hb => nomatch hb⟩
      refine ⟨_, rfl, g, rfl, ⟨_, SqL.of (s2 _ _ ra.lst)⟩, for_list (xs := as.map V.ref) (fun j σ H3 => ∃ y6 y7 bs, σ = [some (.ref a), some (.ref e), some (.int (most : Int)), some (.ref g), some (.int (1 + (i : Int))), some (.ref g2), y6, y7] ∧ Same H H3 ∧ RowsAt K H3 g P ends most (i + 1) as ∧ RowsAt K H3 g2 P ends most (i + 2) bs ∧ bs.length ≤ j * (i + 2)) ⟨y6, y7, [], rfl, sm.trans s2, ra.same s2, r1, Nat.zero_le _⟩ (fun j σ H3 _ ⟨_, _, _, _, _, r, _⟩ => SqL.of r.lst) (fun j x σ H3 hx ⟨y6, y7, bs, er, sm3, ra3, rb3, hbl⟩ => ?_) (fun σ H3 ⟨y6, y7, bs, er, sm3, ra3, rb3, hbl⟩ => ?_)⟩
      · subst er
        obtain ⟨b, hb, rfl⟩ := of_refs_get hx
        have hj := lt_of_get hb
        obtain ⟨ps, hps, hPt, hpl⟩ := ra3.at_ b (List.mem_of_getElem? hb)
        have hps2 := hps
        rw [vn_vi] at hps2
        refine ⟨_, rfl, _, rfl, b, ps.map Int.ofNat, rfl, hps2, by rw [List.length_map]; omega, fun z z1 z2 => ?_⟩
        have hz := max_mx1 z1 z2
        have hmx := rg_len hPt.rg
        refine ⟨_, _, rfl, rfl, _, _, rfl, ?_⟩
        have hmn : (if z + 1 + 1 < (most : Int) then z + 1 + 1 else (most : Int)) = ((min most (mx1 ps + 1) : Nat) : Int) := by split <;> omega
        have hjb : j * (i + 2) + (i + 2) ≤ 40320 := by
          have h1 : (j + 1) * (i + 2) ≤ fc (i + 1) * (i + 2) := Nat.mul_le_mul_right _ (by omega)
          rw [Nat.succ_mul] at h1
          rw [Nat.mul_comm (fc (i + 1))] at h1
          omega
        refine ⟨((min most (mx1 ps + 1) : Nat) : Int), ?_, by omega, by omega, for_range (lo := 0) (n := min most (mx1 ps + 1)) (fun x σ H4 => ∃ y7 bs, σ = [some (.ref a), some (.ref e), some (.int (most : Int)), some (.ref g), some (.int (1 + (i : Int))), some (.ref g2), some (.ref b), y7] ∧ Same H H4 ∧ RowsAt K H4 g P ends most (i + 1) as ∧ RowsAt K H4 g2 P ends most (i + 2) bs ∧ bs.length ≤ j * (i + 2) + x ∧ SqT K H4 b (vn ps)) ⟨y7, bs, rfl, sm3, ra3, rb3, hbl, hps⟩ (fun x σ H4 hxi ⟨y7, bs, er, sm4, ra4, rb4, hbl4, hb4⟩ => ?_) (fun σ H4 ⟨y7, bs, er, sm4, ra4, rb4, hbl4, hb4⟩ => ?_)⟩
        · refine congrArg (fun j : Int => [V.int j]) ?_
          show (if z + 2 < (most : Int) then z + 2 else (most : Int)) = _
          have e2 : z + 2 = z + 1 + 1 := by omega
          rw [e2, hmn]
        · subst er
          have e0 : (0 : Int) + (x : Int) = (x : Int) := Int.zero_add _
          rw [e0]
          have hx1 : x < most := by omega
          have hx2 : x ≤ mx1 ps := by omega
          -- the row with the place behind it
          have cat : ∀ {H5 : Hp} {Q5 : VK}, SqT K H5 b (vn ps) → (∀ p H6, Same H5 H6 → SqT K H6 p (vn (ps ++ [x])) → Q5 (.ref p) H6) → ∀ u, H5 u = none → rCatA K (.ref b) (.ref u) (upd H5 u (.tup [.int (x : Int)])) Q5 := fun {H5 Q5} hb5 q5 u nu => by
            have su := same_new (o := .tup [.int (x : Int)]) nu
            rw [vn_vi] at hb5
            refine catT_all (su.tup hb5) (ys := [(x : Int)]) (SqT.of upd_same) (by rw [List.length_map]; show _ + 1 ≤ _; omega) fun p H6 s6 hp6 => ?_
            refine q5 p H6 (su.trans s6) ?_
            have : ps.map Int.ofNat ++ [(x : Int)] = (ps ++ [x]).map Int.ofNat := by rw [List.map_append]; rfl
            rw [this] at hp6
            rw [vn_vi]
            exact hp6
          refine ifS_ex (p := Part P ends most (ps ++ [x])) (fun R ra rb => ?_) (fun H5 s5 hP2 => ?_) (fun H5 s5 => ?_)
          · refine ⟨_, rfl, _, _, rfl, rfl, _, rfl, ?_⟩
            by_cases ho : x ≠ 0 ∨ (i + 1) ∉ ends
            · refine ite_both ?_ fun rest hc => ?_
              · refine iteT ?_
                refine ⟨_, rfl, _, rfl, _, rfl, by show 1 ≤ sizeLine; decide, fun u nu => cat hb4 (fun p H6 s6 hp6 => ?_) u nu⟩
                refine ⟨a, p, L, P, ps ++ [x], rfl, hp, hL, by omega, hPA.same (sm4.trans s6), hp6, by rw [List.length_append]; show _ + 1 ≤ _; omega, fun bb hbb H7 s7 => ?_⟩
                refine ⟨bb, rfl, ?_⟩
                cases bb with
                | false => exact rb H7 (s6.trans s7)
                | true => exact ra H7 (s6.trans s7) (hPt.snoc (by omega) hx2 hx1 (by rw [hpl]; exact ho) (hbb.mp rfl))
              · have x0 : x = 0 := by
                  have := of_decide_eq_false hc
                  omega
                have hne : (i + 1) ∉ ends := by
                  rcases ho with z | z
                  · exact absurd x0 z
                  · exact z
                refine ⟨_, rfl, _, rfl, e, _, rfl, .inl (SqL.of (sm4 _ _ hE)), rfl, flat_vn ends, _, rfl, ?_⟩
                have e1 : inV (.int (1 + (i : Int))) (vn ends) = decide ((i + 1) ∈ ends) := by
                  rw [show (1 : Int) + (i : Int) = ((i + 1 : Nat) : Int) by omega]
                  exact inV_vn _ _
                rw [e1, decide_eq_false hne]
                exact rest
            · have x0 : x = 0 := Classical.byContradiction fun z => ho (.inl z)
              have hme : (i + 1) ∈ ends := Classical.byContradiction fun z => ho (.inr z)
              subst x0
              refine iteF ?_
              refine ⟨_, rfl, _, rfl, e, _, rfl, .inl (SqL.of (sm4 _ _ hE)), rfl, flat_vn ends, _, rfl, ?_⟩
              have e1 : inV (.int (1 + (i : Int))) (vn ends) = decide ((i + 1) ∈ ends) := by
                rw [show (1 : Int) + (i : Int) = ((i + 1 : Nat) : Int) by omega]
                exact inV_vn _ _
              rw [e1, decide_eq_true hme]
              exact iteF (rb H4 (Same.refl H4))
          · have rb5 := rb4.same s5
            refine ⟨_, rfl, .inl ⟨rfl, _, SqL.of rb5.lst⟩, ?_⟩
            refine ⟨_, rfl, _, rfl, by show 1 ≤ sizeLine; decide, fun u nu => cat (s5.tup hb4) (fun p H6 s6 hp6 => ?_) u nu⟩
            have rb6 := rb5.same s6
            have ra6 := (ra4.same s5).same s6
            have hb6 := (s5.trans s6).tup hb4
            refine ⟨g2, _, _, rfl, rfl, rb6.lst, by rw [List.length_map]; exact smallL (by omega), ?_⟩
            exact ⟨_, bs ++ [p], rfl, (sm4.trans (s5.trans s6)).mut ng2H, ra6.other hgg rb6.lst, rb6.add hp6 hP2 (by rw [List.length_append, hpl]; rfl), by rw [List.length_append]; show bs.length + 1 ≤ _; omega, sqt_lst hb6 rb6.lst⟩
          · exact ⟨_, bs, rfl, sm4.trans s5, ra4.same s5, rb4.same s5, by omega, s5.tup hb4⟩
        · subst er
          refine ⟨_, _, bs, rfl, sm4, ra4, rb4, ?_⟩
          rw [Nat.succ_mul]
          omega
      · subst er
        rw [List.length_map] at hbl
        refine ⟨_, rfl, _, _, _, _, g2, bs, rfl, sm3, rb3, ?_⟩
        rw [fb]
        refine Nat.le_trans hbl ?_
        rw [Nat.mul_comm]
        exact Nat.mul_le_mul_left _ hal
    · subst er
      have hnil : as = [] := by
        cases as with
        | nil => rfl
        | cons b r =>
          obtain ⟨q, _, h1, h2⟩ := ra.at_ b List.mem_cons_self
          exact absurd ⟨h1, by omega⟩ (hno q)
      subst hnil
      refine ⟨_, rfl, g, _, rfl, .inl (SqL.of ra.lst), _, _, rfl, rfl, ?_⟩
      exact fin H' sm
end
end Wk
set_option Elab.async false
set_option linter.all false
set_option maxRecDepth 100000
set_option maxHeartbeats 4000000
namespace Wk
open PySem L2 Wc
/-- a def that keeps its promise, with its text -/
structure HasF (P : Program) (w : World) (K : PySem.W.Frag) (mg : Str → Option Value) (base : Heap) (k : Nat) (x : Str) (st : Stmt) (ps : List Str) (sp : Sp) : Prop where
  ex : ∃ (f : Addr) (fd : FuncData), FnOk P w K mg base CX0 k f fd ps sp ∧ mg x = some (.ref f) ∧ PySem.W.keepIn K (.ref f) = true ∧ Binds K fd ps [] ∧ Fun K x x st f fd
theorem HasF.has {P : Program} {w : World} {K : PySem.W.Frag} {mg : Str → Option Value} {base : Heap} {k : Nat} {x : Str} {st : Stmt} {ps : List Str} {sp : Sp} (h : HasF P w K mg base k x st ps sp) : Has P w K mg base k x ps sp := by
  obtain ⟨f, fd, a, b, c, d, _⟩ := h.ex
  exact ⟨f, fd, a, b, c, d⟩
theorem Df.okF {P : Program} {w : World} {K : PySem.W.Frag} {mg : Str → Option Value} {base : Heap} {x : Str} {st : Stmt} {N ps : List Str} {k : Nat} {sp : Sp} (F : Df K mg x st ps) (S : FnScope N ps (defScope st)) (len : ∀ vs H Q E, sp vs H Q E → vs.length = ps.length)
    (hbody : ∀ (f : Addr) (cdv : Value) (A : Around) (outer : List Env) (s : Shared) (H : Hp) (vs : List V) (Q : VK) (E : XK), Room k (A.deeper (PyProof.Rows.envOfC x (defScope st) s.heap.objs.size f cdv)) → sp vs H Q E →
      ∃ t, PSs (cxOf CX0 P w K mg base N x (defScope st) f cdv A outer s H E).nox (defBody st) t ∧ t { nx := fun _ H' => Q .non H', rt := Q } (start N vs) H) : HasF P w K mg base (k + 1) x st ps sp := by
  obtain ⟨f, fd, a, b, c⟩ := F.ex
  exact ⟨f, fd, a.ok S len (hbody f), b, a.kp, c, a⟩
/-- paper_places(walks = .., web = ..) -/
def swapA : List Value → List Value → List Value
  | [], [a, b] => [b, a]
  | _, _ => []
def swapV : List V → List V → List V
  | [], [a, b] => [b, a]
  | _, _ => []
theorem pp_binds {K : PySem.W.Frag} {f : Addr} {fd : FuncData} (F : Fun K "paper_places" "paper_places" s_paper_places f fd) : KBinds K fd ["web", "walks"] ["walks", "web"] swapA swapV := by
  obtain ⟨oc, od, kV, doc, pm, an, cdv, ct, osl, rfl, lk, hcd⟩ := F.ex
  refine ⟨fun s us ws _ hl => ?_, fun {vs us zs ws} r1 r2 => ?_⟩
  · match us, ws, hl with
    | [], [a, b], _ => exact .of_eq rfl
  · cases r1 with
    | nil =>
      cases r2 with
      | nil => exact .nil
      | cons ra r2 =>
        cases r2 with
        | nil => exact .nil
        | cons rb r2 =>
          cases r2 with
          | nil => exact .cons rb (.cons ra .nil)
          | cons _ _ => exact .nil
    | cons _ _ => exact .nil
def tHas2 (sp : Sp) (t1 t2 : TE) : TE := fun σ H Q => t1 σ H fun v1 H1 => t2 σ H1 fun v2 H2 => sp [v2, v1] H2 Q E0
theorem pe_hasK {X : Cx} {k : Nat} {sp : Sp} {e1 e2 : Expr} {t1 t2 : TE} {p p1 p2 pos : Pos} (h : HasF X.prog X.w X.K X.mg X.base k "paper_places" s_paper_places ["web", "walks"] sp) (hr : Room k X.A) (h1 : PE X e1 t1) (h2 : PE X e2 t2) (hg : Gl X "paper_places" := by rfl) :
    PE X (.Call (.Name "paper_places" p) [] [⟨some "walks", e1, p1⟩, ⟨some "web", e2, p2⟩] pos) (tHas2 sp t1 t2) := by
  obtain ⟨f, fd, a, b, c, _, F⟩ := h.ex
  refine ⟨fun pins s σ H Q I q => ?_⟩
  refine wpAny_Call_Name_kw (ld_glob I hg b ?_ (by decide))
  refine PySem.W.callWith_KW0 (h₀ := X.base) I.ok.mod.kin c rfl ?_ rfl
  refine thn ((pk_cons h1 (pk_cons h2 pk_nil)).run pos pins s σ H (fun zs H2 => sp (swapV [] zs) H2 Q E0) I q) fun ws s2 ⟨zs, H2, I2, rz, q2⟩ => ⟨I2.kIn, ?_⟩
  exact run_fnk (E := E0) a hr (pp_binds F) pass0 I2 .nil rz q2
section
variable {P : Program} {w : World} {K : PySem.W.Frag} {mg : Str → Option Value} {base : Heap}
theorem okF_paper_places (B : Bi mg) (F : Df K mg "paper_places" s_paper_places ["web", "walks"]) (h_need_web_and_walks : Has P w K mg base 5 "need_web_and_walks" ["web", "walks"] (sp_need_ww K)) (h_hung : Has P w K mg base 2 "hung" ["web", "walks"] (sp_hung K))
    (h_least_parting : Has P w K mg base 112 "least_parting" ["doors", "ends"] sp_least_parting) : HasF P w K mg base 113 "paper_places" s_paper_places ["web", "walks"] (sp_paper_places K) := by
  refine F.okF sc_paper_places (fun vs H Q E h => ?_) (fun f cdv A outer s H vs Q E hr h => ?_)
  · obtain ⟨a, c, L, P, ws, rfl, _⟩ := h
    rfl
  · obtain ⟨a, c, L, P, ws, rfl, k, hW, hT, q0, q1⟩ := h
    have hp := k.web.ok
    have h4 := k.web.l4
    have hn := k.n
    have hhn := k.hn
    have H0 := k.hok
    refine ⟨_, (pss_cons (ps_expr (pe_has h_need_web_and_walks (hr.mono (by omega)) (pa_cons (pv 0) (pa_cons (pv 1) pa_nil))))
      (pss_cons (ps_asg (pe_has h_hung (hr.mono (by omega)) (pa_cons (pv 0) (pa_cons (pv 1) pa_nil))) (k_tup K (n := 2) rfl (pgs_cons (pg_name (i := 2) sc_paper_places.nd rfl (Or.inl rfl)) (pgs_cons (pg_name (i := 3) sc_paper_places.nd rfl (Or.inl rfl)) pgs_nil))))
      (pss_cons (ps_if (pt_cmpR (kIn K) pe_int (pv 3) (by rfl))
        (pss_one (ps_ret pe_non))
        pss_nil)
      (pss_one (ps_ret (pe_op op_add (pe_callB (kMax K) (by rfl) B.max (by decide +kernel) (pa_cons (pe_has h_least_parting (hr.mono (by omega)) (pa_cons (pv 2) (pa_cons (pv 3) pa_nil))) pa_nil)) pe_int)))))), ?_⟩
    refine ⟨_, rfl, _, rfl, a, c, L, P, ws, rfl, k.web, by omega, hW, hT, k.wok, fun H1 s1 => ?_⟩
    refine ⟨_, rfl, _, rfl, a, c, L, P, ws, rfl, hp, by omega, hn, hW.same s1, hT.same s1, k.wok, fun t p e H2 s2 ht hP he => ?_⟩
    have s12 := s1.trans s2
    refine ⟨t, _, rfl, SqT.of ht, rfl, _, _, rfl, _, _, rfl, rfl, ?_⟩
    refine ⟨_, rfl, e, _, rfl, .inl (SqL.of he), rfl, flat_vn _, _, rfl, ?_⟩
    have e0 : inV (.int 0) (vn (hung P ws).2) = decide (0 ∈ (hung P ws).2) := inV_vn 0 _
    rw [e0]
    by_cases c0 : 0 ∈ (hung P ws).2
    · rw [decide_eq_true c0]
      exact iteT (q0 c0 H2 s12)
    · rw [decide_eq_false c0]
      refine iteF ?_
      refine ⟨_, rfl, _, rfl, p, e, L, _, _, rfl, H0.ok, by omega, hhn, hP, he, c0, fun u v m H3 s3 hu hV hL hm => ?_⟩
      rw [vn_vi] at hu
      refine ⟨u, v.map Int.ofNat, rfl, SqL.of hu, by rw [List.length_map]; exact hV.1.pos, fun z z1 z2 => ?_⟩
      have hz := max_mx1 z1 z2
      rw [hm] at hz
      refine ⟨_, _, rfl, rfl, ?_⟩
      have ez : (fun i j : Int => V.int (i + j)) z 1 = .int (m : Int) := congrArg V.int hz
      rw [ez]
      exact q1 c0 m hL H3 (s12.trans s3)
end
end Wk
set_option Elab.async false
set_option linter.all false
set_option maxRecDepth 100000
set_option maxHeartbeats 4000000
namespace Wk
open PySem L2 Wc
open SkE (call_repr_int)
/-- what is asked of a web with walks that the law makes -/
structure Made (L : Nat) (P : Pic) (ws : List (List Int)) : Prop where
  web : Web L P
  wok : WsOk L ws
  n : P.n ≤ 10
  sz : ∀ w ∈ ws, w.length ≤ 10
  sum : P.n + total ws ≤ 40
theorem total_sub {c : Nat} {ws : List (List Int)} (h : ∀ w ∈ ws, w.length ≤ c) (hl : ws.length ≤ 4) : total ws ≤ c * 4 := by
  have h1 := total_le h
  have h2 : c * ws.length ≤ c * 4 := Nat.mul_le_mul_left _ hl
  omega
theorem ask_of {L : Nat} {P : Pic} {ws : List (List Int)} (hW : Web L P) (hw : WsOk L ws) (hn : P.n ≤ 10) (hs : ∀ w ∈ ws, w.length ≤ 10) : Ask L P ws := by
  refine ⟨hW, hw, by omega, ?_⟩
  have h1 := (hung_ok hW.ok hw.ok).few
  have h2 := total_sub hs hw.l4
  omega
theorem Made.ask {L : Nat} {P : Pic} {ws : List (List Int)} (h : Made L P ws) : Ask L P ws := ask_of h.web h.wok h.n h.sz
theorem Made.take {L : Nat} {P : Pic} {ws : List (List Int)} (h : Made L P ws) {k : Nat} (hk : 1 ≤ k) : Ask L P (ws.take k) := by
  have h1 := h.wok.l1
  have h4 := h.wok.l4
  refine ask_of h.web ⟨by rw [List.length_take]; omega, by rw [List.length_take]; omega, fun w hw => h.wok.ok w (List.mem_of_mem_take hw), fun w hw => h.wok.sz w (List.mem_of_mem_take hw)⟩ h.n fun w hw => h.sz w (List.mem_of_mem_take hw)
theorem back_len (w : List Int) : (back w).length = w.length := by
  unfold back
  rw [List.length_map, List.length_reverse]
theorem Made.about {L : Nat} {P : Pic} {ws : List (List Int)} (h : Made L P ws) : Ask L P (ws.reverse.map back) := by
  have h1 := h.wok.l1
  have h4 := h.wok.l4
  have sz : ∀ w ∈ ws.reverse.map back, w.length ≤ 10 := fun v hv => by
    obtain ⟨w, hw, rfl⟩ := List.mem_map.mp hv
    rw [back_len]
    exact h.sz w (List.mem_reverse.mp hw)
  exact ask_of h.web ⟨by rw [List.length_map, List.length_reverse]; exact h1, by rw [List.length_map, List.length_reverse]; exact h4, about_ok h.wok.ok, fun w hw => by have := sz w hw; omega⟩ h.n sz
theorem Made.up {L : Nat} {P : Pic} {ws : List (List Int)} (h : Made L P ws) (hl : L < 4) : Ask (L + 1) P ws :=
  ask_of (h.web.up hl) ⟨h.wok.l1, h.wok.l4, fun w hw s hs => (h.wok.ok w hw s hs).up, h.wok.sz⟩ h.n h.sz
/-- where the walks lead -/
def ledV (P : Pic) (w : List Int) : V := vo (led P 0 (straight w))
theorem inV_led (P : Pic) (ws : List (List Int)) : inV (.int 0) (ws.map (ledV P)) = decide (∃ w ∈ ws, led P 0 (straight w) = some 0) := by
  unfold inV
  rw [List.any_map, Bool.eq_iff_iff, List.any_eq_true, decide_eq_true_eq]
  have e : ∀ w, ((fun y => eqV y (.int 0)) ∘ ledV P) w = true ↔ led P 0 (straight w) = some 0 := fun w => by
    show eqV (vo (led P 0 (straight w))) (.int 0) = true ↔ _
    cases led P 0 (straight w) with
    | none => exact ⟨fun h => (nomatch h), fun h => (nomatch h)⟩
    | some g =>
      show ((g : Int) == 0) = true ↔ _
      rw [beq_iff_eq]
      exact ⟨fun h => congrArg some (by omega), fun h => by have := Option.some.inj h; omega⟩
  exact ⟨fun ⟨w, a, b⟩ => ⟨w, a, (e w).mp b⟩, fun ⟨w, a, b⟩ => ⟨w, a, (e w).mpr b⟩⟩
theorem flat_led (P : Pic) (ws : List (List Int)) : (ws.map (ledV P)).all flatV = true := by
  rw [List.all_eq_true]
  intro x hx
  obtain ⟨w, _, rfl⟩ := List.mem_map.mp hx
  unfold ledV
  cases led P 0 (straight w) <;> rfl
theorem given_ws {α : Type} (ws : List α) (d : α) (g : α → V) : Evl.given ws.length (fun _ => true) (fun i => g (ws.getD i d)) = ws.map g := by
  refine given_eq (List.length_map _) fun i y h => ?_
  rw [List.getElem?_map] at h
  obtain ⟨w, hw, rfl⟩ := Option.map_eq_some_iff.mp h
  rw [List.getD_eq_getElem?_getD, hw]
  rfl
theorem sum_total : ∀ ws : List (List Int), (ws.map fun w => ((straight w).length : Int)).sum = (total ws : Int)
  | [] => rfl
  | w :: r => by
    rw [List.map_cons, List.sum_cons, sum_total r]
    show _ = (((straight w).length + total r : Nat) : Int)
    omega
/-- a slice of the walks -/
theorem slTut {K : PySem.W.Frag} {H : Hp} {a : Addr} {nss : List (List Int)} {n : Nat} {z : Int} {Q : VK} (hzn : z = (n : Int)) (h : TuT K H a nss) (q : ∀ p H', Same H H' → TuT K H' p (nss.take n) → Q (.ref p) H') : rSlA K (.ref a) none (some z) H Q := by
  subst hzn
  obtain ⟨as, hA, hl, hr⟩ := h.ex
  have e1 : HT.sIx (as.map V.ref).length (as.map V.ref).length (some (n : Int)) = min n as.length := by rw [List.length_map]; exact HT.sIx_nat _ _ n
  refine ⟨a, _, rfl, hA, fun c => ?_, fun c p np => ?_⟩
  · have c2 := c.2
    rw [e1, List.length_map] at c2
    refine q a H (Same.refl H) ⟨as, hA, by rw [List.length_take]; omega, fun i b ns h1 h2 => ?_⟩
    have := lt_of_get h1
    rw [List.getElem?_take_of_lt (by omega)] at h2
    exact hr i b ns h1 h2
  · have sp := same_new (o := .tup (cutV (as.map V.ref) none (some (n : Int)))) np
    have ec : cutV (as.map V.ref) none (some (n : Int)) = (as.take n).map V.ref := by
      unfold cutV
      rw [e1, HT.sIx_none, List.drop_zero, Nat.sub_zero, List.map_take]
      by_cases c : n ≤ as.length
      · rw [Nat.min_eq_left c]
      · rw [Nat.min_eq_right (by omega), List.take_of_length_le (by rw [List.length_map]; exact Nat.le_refl _), List.take_of_length_le (by rw [List.length_map]; omega)]
    refine q p _ sp ⟨as.take n, SqT.of (by rw [upd_same, ec]), by rw [List.length_take, List.length_take, hl], fun i b ns h1 h2 => ?_⟩
    have l1 := lt_of_get h1
    rw [List.length_take] at l1
    rw [List.getElem?_take_of_lt (by omega)] at h1 h2
    exact sp.tup (hr i b ns h1 h2)
/-- new tuples of whole numbers, in a tuple -/
theorem news_tut {K : PySem.W.Frag} {H H1 H2 : Hp} {ds : List Addr} {n : Nat} {g : Nat → List Int} {u : Addr} {nss : List (List Int)} (h : News H H1 ds ((List.range n).filter fun _ => true) (fun i => .tup (vi (g i)))) (s : Same H1 H2) (hu : H2 u = some (.tup (ds.map V.ref))) (hl : nss.length = n) (hg : ∀ i ns, nss[i]? = some ns → g i = ns) : TuT K H2 u nss := by
  have hd := h.len
  rw [filter_all, List.length_range] at hd
  refine ⟨ds, SqT.of hu, by rw [hd, hl], fun i b ns h1 h2 => ?_⟩
  have hi : i < n := by have := lt_of_get h1; omega
  have := h.at_ i b i h1 (by rw [filter_all, List.getElem?_range hi])
  rw [hg i ns h2] at this
  exact s.tup (SqT.of this)
theorem rev_get {α : Type} {l : List α} {i : Nat} {x : α} (h : l.reverse[i]? = some x) : l[l.length - 1 - i]? = some x := by
  have hi := lt_of_get h
  rw [List.length_reverse] at hi
  rw [List.getElem?_reverse hi] at h
  exact h
theorem log_small {n : Nat} (h : n ≤ 100) : ((n : Int)).natAbs.log2 < 1920 := by
  by_cases c : n = 0
  · subst c
    decide
  · have h1 : ((n : Int)).natAbs = n := by omega
    rw [h1]
    have : n.log2 < 10 := (Nat.log2_lt c).mpr (by omega)
    omega
section
variable {P : Program} {w : World} {K : PySem.W.Frag} {mg : Str → Option Value} {base : Heap}
abbrev s_law_least_right : Stmt := top 61
abbrev n_law_least_right : List Str := ["_law_web_here", "_law_doors_here", "_law_walks_here", "_law_most", "_law_places", "_law_told", "_law_walk_here", "_law_hung_here", "_law_ends", "_law_ahead", "_law_size", "_law_mine", "_law_about", "_law_wider", "_law_row"]
theorem sc_law_least_right : FnScope n_law_least_right ["_law_web_here", "_law_doors_here", "_law_walks_here", "_law_most"] (defScope s_law_least_right) := ⟨rfl, rfl, rfl, by decide +kernel, rfl, by decide +kernel, by decide +kernel⟩
def sp_law_least_right (K : PySem.W.Frag) : Sp := fun vs H Q _ => ∃ (a d c : Addr) (L mo : Nat) (P : Pic) (ws : List (List Int)), vs = [.ref a, .ref d, .ref c, .int (mo : Int)] ∧ mo ≤ 8 ∧ Made L P ws ∧ WebAt K H a L P ∧ PicAt H d P ∧ TuT K H c ws ∧ RV (.bl true) H Q
theorem ok_law_least_right (B : Bi mg) (F : Df K mg "_law_least_right" s_law_least_right ["_law_web_here", "_law_doors_here", "_law_walks_here", "_law_most"]) (k_paper_places : HasF P w K mg base 113 "paper_places" s_paper_places ["web", "walks"] (sp_paper_places K))
    (h_paper_places : Has P w K mg base 113 "paper_places" ["web", "walks"] (sp_paper_places K)) (h_least_paper : Has P w K mg base 113 "least_paper" ["web", "walks"] (sp_least_paper K)) (h__law_led : Has P w K mg base 1 "_law_led" ["_law_doors_here", "_law_room", "_law_walk_here"] (sp_law_led K))
    (h__law_straight : Has P w K mg base 1 "_law_straight" ["_law_walk_here"] (sp_law_straight K)) (h__law_is_book : Has P w K mg base 2 "_law_is_book" ["_law_value", "_law_letters"] (sp_law_is_book K)) (h__law_keeps : Has P w K mg base 2 "_law_keeps" ["_law_doors_here", "_law_walks_here", "_law_book"] (sp_law_keeps K))
    (h_paper_holds : Has P w K mg base 6 "paper_holds" ["web", "walks", "value"] (sp_paper_holds K)) (h__law_hung : Has P w K mg base 2 "_law_hung" ["_law_doors_here", "_law_walks_here"] (sp_law_hung K)) (h__law_has_places : Has P w K mg base 2 "_law_has_places" ["_law_hung_here", "_law_ends", "_law_most"] (sp_law_has_places K))
    (h__law_is_whole : Has P w K mg base 1 "_law_is_whole" ["_law_value"] sp_int1) (h__law_back : Has P w K mg base 1 "_law_back" ["_law_walk_here"] (sp_law_back K)) :
    Has P w K mg base 114 "_law_least_right" ["_law_web_here", "_law_doors_here", "_law_walks_here", "_law_most"] (sp_law_least_right K) := by
  refine F.ok sc_law_least_right (fun vs H Q E h => ?_) (fun fa cdv A outer s H vs Q E hr h => ?_)
  · obtain ⟨a, d, c, L, mo, P, ws, rfl, _⟩ := h
    rfl
  · obtain ⟨a, d, c, L, mo, P, ws, rfl, hmo, M, hW, hD, hT, fin⟩ := h
    have hp := M.web.ok
    have hL1 := M.web.l1
    have hL4 := M.web.l4
    have hw1 := M.wok.l1
    have hw4 := M.wok.l4
    have hn := M.n
    have hsum := M.sum
    have HO := hung_ok hp M.wok.ok
    have hz := hung_zero HO hp.pos
    have hfew := HO.few
    have hT0 := hT
    obtain ⟨as, hA, hlen, hrow⟩ := hT0.ex
    -- the ends of the walks in the doors
    refine ⟨_, (pss_cons (ps_par (i := 4) (j := 5) (by rfl) sc_law_least_right.nd rfl rfl (by decide) rfl rfl (pa_cons (pe_has h_paper_places (hr.mono (by omega)) (pa_cons (pv 0) (pa_cons (pv 2) pa_nil))) (pa_cons (pe_has h_least_paper (hr.mono (by omega)) (pa_cons (pv 0) (pa_cons (pv 2) pa_nil))) pa_nil)) (by rfl))
      (pss_cons (ps_if (pt_cmpR (kIn K) pe_int (pe_lc (own := [("_law_walk_here", 6)]) rfl sc_law_least_right.nd (pi_tup (pv 2)) (blkOk_by (N := n_law_least_right) (sc := defScope s_law_least_right) (by decide +kernel)) (fun _ _ _ _ _ => (pg_name (i := 6) sc_law_least_right.nd rfl (Or.inl rfl))) (fun _ _ _ _ _ => pts_nil) (fun _ _ _ _ _ => (pe_has h__law_led (hr.mono (by omega)) (pa_cons (pv 1) (pa_cons pe_int (pa_cons (pe_has h__law_straight (hr.mono (by omega)) (pa_cons (pv 6) pa_nil)) pa_nil)))))) (by rfl))
        (pss_one (ps_ret (pe_and (pe_cmpR op_isN (pv 4) pe_non (nomark _)) (pe_one (pe_cmpR op_isN (pv 5) pe_non (nomark _))))))
        pss_nil)
      (pss_cons (ps_if (PW.pt (pw_or (pt_not (pt_val (pe_has h__law_is_book (hr.mono (by omega)) (pa_cons (pv 5) (pa_cons (pe_ix (kIxT K) (pv 0) pe_int (fun _ _ => rfl)) pa_nil))))) (pw_or1 (pt_not (pt_val (pe_has h__law_keeps (hr.mono (by omega)) (pa_cons (pv 1) (pa_cons (pv 2) (pa_cons (pv 5) pa_nil)))))))))
        (pss_one (ps_ret pe_bl))
        pss_nil)
      (pss_cons (ps_if (PW.pt (pw_or (pt_cmpR op_ne (pe_callB call_repr_int (by rfl) B.repr (by decide +kernel) (pa_cons (pv 4) pa_nil)) (pe_callB call_repr_int (by rfl) B.repr (by decide +kernel) (pa_cons (pe_callB (kLen K) (by rfl) B.len PySem.boot_len (pa_cons (pe_ix (kIxT K) (pe_ix (kIxT K) (pv 5) pe_int (fun _ _ => rfl)) pe_int (fun _ _ => rfl)) pa_nil)) pa_nil)) (nomark _)) (pw_or1 (pt_cmpR op_notBl (pe_has h_paper_holds (hr.mono (by omega)) (pa_cons (pv 0) (pa_cons (pv 2) (pa_cons (pv 5) pa_nil)))) pe_bl (nomark _)))))
        (pss_one (ps_ret pe_bl))
        pss_nil)
      (pss_cons (ps_if (pt_cmpR op_gt (pv 4) (pe_op op_add (pe_callB (kLen K) (by rfl) B.len PySem.boot_len (pa_cons (pe_ix (kIxT K) (pv 0) pe_int (fun _ _ => rfl)) pa_nil)) (pe_callB (kSum K) (by rfl) B.sum (by decide +kernel) (pa_cons (pe_lc (own := [("_law_walk_here", 6)]) rfl sc_law_least_right.nd (pi_tup (pv 2)) (blkOk_by (N := n_law_least_right) (sc := defScope s_law_least_right) (by decide +kernel)) (fun _ _ _ _ _ => (pg_name (i := 6) sc_law_least_right.nd rfl (Or.inl rfl))) (fun _ _ _ _ _ => pts_nil) (fun _ _ _ _ _ => (pe_callB (kLen K) (by rfl) B.len PySem.boot_len (pa_cons (pe_has h__law_straight (hr.mono (by omega)) (pa_cons (pv 6) pa_nil)) pa_nil)))) pa_nil))) (nomark _))
        (pss_one (ps_ret pe_bl))
        pss_nil)
      (pss_cons (ps_asg (pe_has h__law_hung (hr.mono (by omega)) (pa_cons (pv 1) (pa_cons (pv 2) pa_nil))) (k_tup K (n := 2) rfl (pgs_cons (pg_name (i := 7) sc_law_least_right.nd rfl (Or.inl rfl)) (pgs_cons (pg_name (i := 8) sc_law_least_right.nd rfl (Or.inl rfl)) pgs_nil))))
      (pss_cons (ps_if (PW.pt (pw_and (pt_cmpR op_le (pe_callB (kLen K) (by rfl) B.len PySem.boot_len (pa_cons (pv 7) pa_nil)) (pv 3) (nomark _)) (pw_and1 (pt_val (pe_has h__law_has_places (hr.mono (by omega)) (pa_cons (pv 7) (pa_cons (pv 8) (pa_cons (pe_op op_sub (pv 4) pe_int) pa_nil))))))))
        (pss_one (ps_ret pe_bl))
        pss_nil)
      (pss_cons (ps_set (i := 9) sc_law_least_right.nd rfl (Or.inl rfl) pe_int)
      (pss_cons (ps_for PassesOwn.never rfl (pi_range2 rfl B.range (pa_cons pe_int (pa_cons (pe_op op_add (pe_callB (kLen K) (by rfl) B.len PySem.boot_len (pa_cons (pv 2) pa_nil)) pe_int) pa_nil))) (pg_name (i := 10) sc_law_least_right.nd rfl (Or.inl rfl))
        (pss_cons (ps_set (i := 11) sc_law_least_right.nd rfl (Or.inl rfl) (pe_has h_paper_places (hr.mono (by omega)) (pa_cons (pv 0) (pa_cons (pe_slice (kSlT K) (pv 2) po_none (po_some (pv 10))) pa_nil))))
        (pss_cons (ps_if (PW.pt (pw_or (pt_not (pt_val (pe_has h__law_is_whole (hr.mono (by omega)) (pa_cons (pv 11) pa_nil)))) (pw_or1 (pt_not (pt_chain op_le op_le (pv 9) (pv 11) (pv 4))))))
          (pss_one (ps_ret pe_bl))
          pss_nil)
        (pss_one (ps_set (i := 9) sc_law_least_right.nd rfl (Or.inl rfl) (pv 11))))))
      (pss_cons (ps_set (i := 12) sc_law_least_right.nd rfl (Or.inl rfl) (pe_callTy (kTup K) (by rfl) B.tuple (by decide +kernel) (pa_cons (pe_lc (own := [("_law_walk_here", 6)]) rfl sc_law_least_right.nd (pi_tup (pe_revT (pv 2))) (blkOk_by (N := n_law_least_right) (sc := defScope s_law_least_right) (by decide +kernel)) (fun _ _ _ _ _ => (pg_name (i := 6) sc_law_least_right.nd rfl (Or.inl rfl))) (fun _ _ _ _ _ => pts_nil) (fun _ _ _ _ _ => (pe_has h__law_back (hr.mono (by omega)) (pa_cons (pv 6) pa_nil)))) pa_nil)))
      (pss_cons (ps_if (pt_cmpR op_ne (pe_callB call_repr_int (by rfl) B.repr (by decide +kernel) (pa_cons (pe_has h_paper_places (hr.mono (by omega)) (pa_cons (pv 0) (pa_cons (pv 12) pa_nil))) pa_nil)) (pe_callB call_repr_int (by rfl) B.repr (by decide +kernel) (pa_cons (pv 4) pa_nil)) (nomark _))
        (pss_one (ps_ret pe_bl))
        pss_nil)
      (pss_cons (ps_set (i := 13) sc_law_least_right.nd rfl (Or.inl rfl) (pe_tup (pa_cons (pe_op op_add (pe_ix (kIxT K) (pv 0) pe_int (fun _ _ => rfl)) pe_int) (pa_cons (pe_callTy (kTup K) (by rfl) B.tuple (by decide +kernel) (pa_cons (pe_lc (own := [("_law_row", 14)]) rfl sc_law_least_right.nd (pi_tup (pe_ix (kIxT K) (pv 0) pe_int (fun _ _ => rfl))) (blkOk_by (N := n_law_least_right) (sc := defScope s_law_least_right) (by decide +kernel)) (fun _ _ _ _ _ => (pg_name (i := 14) sc_law_least_right.nd rfl (Or.inl rfl))) (fun _ _ _ _ _ => pts_nil) (fun _ _ _ _ _ => (pe_op (kCatT K) (pv 14) (pe_tup (pa_cons (pe_un un_neg pe_int) pa_nil))))) pa_nil)) pa_nil))))
      (pss_one (ps_ret (pe_or (pe_cmpR op_eq (pe_ix (kIxT K) (pv 0) pe_int (fun _ _ => rfl)) pe_int (nomark _)) (pe_one (pe_cmpR op_eq (pe_callB call_repr_int (by rfl) B.repr (by decide +kernel) (pa_cons (pe_hasK k_paper_places (hr.mono (by omega)) (pv 2) (pv 13)) pa_nil)) (pe_callB call_repr_int (by rfl) B.repr (by decide +kernel) (pa_cons (pv 4) pa_nil)) (nomark _)))))))))))))))))), ?_⟩
    refine ⟨_, rfl, _, rfl, a, c, L, P, ws, rfl, M.ask, hW, hT, fun h0 H1 s1 => ?_, fun h0 m hL H1 s1 => ?_⟩
    · refine ⟨_, rfl, _, rfl, a, c, L, P, ws, rfl, M.ask, hW.same s1, hT.same s1, fun h0' H2 s2 => ?_, fun h0' => absurd h0 h0'⟩
      have s12 := s1.trans s2
      refine ⟨_, _, rfl, ?_⟩
      have hA1 := s12.tup hA
      refine ⟨_, rfl, c, rfl, ⟨_, hA1⟩, lcg walk_tup (fun _ => true) (fun i => ledV P (ws.getD i [])) (by rw [List.length_map]; omega) (fun H' s' => s'.tup hA1) YAt.same (fun i x H4 H5 hi s4 s5 y => ?_) (fun D H3 nD s3 h3 => ?_)⟩
      · obtain ⟨wd, wk, rfl, hb, hns, hd⟩ := tu_get hlen (fun j b ns p r => s5.tup (s12.tup (hrow j b ns p r))) y.2
        obtain ⟨g1, g2⟩ := M.wok.get hns
        have ew : ws.getD i [] = wk := by rw [List.getD_eq_getElem?_getD, hns]; rfl
        refine ⟨_, fun Qg h => h, rfl, evt_yes, fun _ H6 s6 Q6 q6 => ?_⟩
        have s6 : Same H5 H6 := s6
        rw [ew] at q6
        refine ⟨_, rfl, _, rfl, wd, wk, rfl, s6.tup hd, by omega, fun p H7 s7 np h7 => ?_⟩
        exact ⟨d, p, 0, L, P, _, rfl, hp, hp.pos, hD.same (s12.trans (s5.trans (s6.trans s7))), SqT.of h7, fun H8 s8 => q6 H8 (s7.trans s8)⟩
      rw [List.length_map, hlen, given_ws ws [] (ledV P)] at h3
      refine ⟨D, _, rfl, .inl (SqL.of h3), rfl, flat_led P ws, _, rfl, ?_⟩
      rw [inV_led, decide_eq_true (hz.mp h0)]
      refine iteT ?_
      refine ⟨_, rfl, rfl, _, rfl, iteT ⟨_, rfl, rfl, ?_⟩⟩
      exact fin H3 (s12.trans s3)
    · refine ⟨_, rfl, _, rfl, a, c, L, P, ws, rfl, M.ask, hW.same s1, hT.same s1, fun h0' => absurd h0' h0, fun h0' q m' hL' hq => ?_⟩
      obtain rfl := hL'.unique hL
      intro t H2 s2 hBt
      have s12 := s1.trans s2
      refine ⟨_, _, rfl, ?_⟩
      have hA1 := s12.tup hA
      refine ⟨_, rfl, c, rfl, ⟨_, hA1⟩, lcg walk_tup (fun _ => true) (fun i => ledV P (ws.getD i [])) (by rw [List.length_map]; omega) (fun H' s' => s'.tup hA1) YAt.same (fun i x H4 H5 hi s4 s5 y => ?_) (fun D H3 nD s3 h3 => ?_)⟩
      · obtain ⟨wd, wk, rfl, hb, hns, hd⟩ := tu_get hlen (fun j b ns p r => s5.tup (s12.tup (hrow j b ns p r))) y.2
        obtain ⟨g1, g2⟩ := M.wok.get hns
        have ew : ws.getD i [] = wk := by rw [List.getD_eq_getElem?_getD, hns]; rfl
        refine ⟨_, fun Qg h => h, rfl, evt_yes, fun _ H6 s6 Q6 q6 => ?_⟩
        have s6 : Same H5 H6 := s6
        rw [ew] at q6
        refine ⟨_, rfl, _, rfl, wd, wk, rfl, s6.tup hd, by omega, fun p H7 s7 np h7 => ?_⟩
        exact ⟨d, p, 0, L, P, _, rfl, hp, hp.pos, hD.same (s12.trans (s5.trans (s6.trans s7))), SqT.of h7, fun H8 s8 => q6 H8 (s7.trans s8)⟩
      rw [List.length_map, hlen, given_ws ws [] (ledV P)] at h3
      refine ⟨D, _, rfl, .inl (SqL.of h3), rfl, flat_led P ws, _, rfl, ?_⟩
      rw [inV_led, decide_eq_false (fun z => h0 (hz.mpr z))]
      refine iteF ?_
      have s13 := s12.trans s3
      have hB3 := hBt.same s3
      -- the paper
      obtain ⟨_, pf, pf0, pC, pA⟩ := paper_of_whole M.wok.ok HO hq
      have hBk : Book L m' (turnsOf L (leads (hung P ws).1 q m')) := turnsOf_book (leads_ok HO.ok hq)
      have hm40 : m' ≤ 40 := by
        have := hL.le (whole_range HO.ok.pos h0)
        omega
      have hends : (hung P ws).2 ≠ [] := fun z => by
        have := HO.len
        rw [z] at this
        have : 0 = ws.length := this
        omega
      have hlt : ∀ e ∈ (hung P ws).2, e < (hung P ws).1.n := fun e he => by
        obtain ⟨i, hi, e1⟩ := List.getElem_of_mem he
        have hi' : i < ws.length := by rw [← HO.len]; exact hi
        exact (HO.at_ i ws[i] e (List.getElem?_eq_getElem hi') (by rw [List.getElem?_eq_getElem hi, e1])).2
      have hm2 := hL.two hends hlt
      generalize hts : turnsOf L (leads (hung P ws).1 q m') = ts at hB3 hBk pC pA
      obtain ⟨wb, hWb, hWT⟩ := hW
      refine ⟨_, rfl, _, rfl, a, _, 0, _, rfl, rfl, s13.tup hWb, atI_nat (j := 0) rfl, t, L, m', ts, rfl, hB3, hBk, hL1, hL4, by omega, hm40, fun H4 s4 => ⟨true, rfl, iteF ?_⟩⟩
      have s14 := s13.trans s4
      refine ⟨_, rfl, _, rfl, _, rfl, d, c, t, L, m', P, ws, ts, fun r => q.getD r 0, rfl, hp, by omega, by omega, hD.same s14, hT.same s14, M.wok, hB3.same s4, hBk, by omega, hm40, pf0, pf, pC, pA, fun H5 s5 => ⟨true, rfl, iteF ?_⟩⟩
      have s15 := s14.trans s5
      have hB5 := hB3.same (s4.trans s5)
      -- as many places
      obtain ⟨bb, hb1, hb2⟩ := hB5
      obtain ⟨bs, hbs, hbl, hbr⟩ := hb2.ex
      rw [List.length_map, hBk.len] at hbl
      have hg0 : bs[0]? = some bs[0] := List.getElem?_eq_getElem (by omega)
      have hr0 := hbr 0 _ _ hg0 (tts_get hBk (by omega : 0 < L))
      have hl0 : (vi (tn (ts.getD 0 []))).length = m' := by rw [List.length_map, List.length_map]; exact (hBk.at_ (by omega : 0 < L)).1
      refine ⟨_, rfl, _, rfl, log_small (by omega), _, rfl, t, _, 1, _, rfl, rfl, hb1, atI_nat (j := 1) rfl, bb, _, 0, _, rfl, rfl, hbs, atI_nat (j := 0) (refs_get hg0), _, _, rfl, .inr hr0, ?_⟩
      rw [hl0]
      refine ⟨_, rfl, log_small (by omega), rfl, _, rfl, ?_⟩
      rw [decide_eq_true rfl]
      refine iteF ?_
      have hWA : WebAt K H a L P := ⟨wb, hWb, hWT⟩
      have hB5 : BookAt K H5 t L ts := ⟨bb, hb1, bs, hbs, by rw [List.length_map, hBk.len]; exact hbl, hbr⟩
      refine ⟨_, rfl, _, rfl, _, rfl, a, c, t, L, m', P, ws, ts, fun r => q.getD r 0, rfl, M.ask, hWA.same s15, hT.same s15, hB5, hBk, by omega, hm40, pf0, pf, pC, pA, fun H6 s6 => ?_⟩
      refine ⟨true, true, rfl, rfl, _, rfl, ?_⟩
      rw [decide_eq_true rfl]
      refine iteF ?_
      have s16 := s15.trans s6
      -- not too many places
      obtain ⟨rs, hRs, hRlen, hRrow⟩ := hWT.ex
      rw [rowsOf_length] at hRlen
      have hA6 := s16.tup hA
      refine ⟨_, rfl, _, rfl, a, _, 1, _, rfl, rfl, s16.tup hWb, atI_nat (j := 1) rfl, wb, _, rfl, .inr (s16.tup hRs), ?_⟩
      rw [List.length_map, hRlen]
      refine ⟨_, rfl, c, rfl, ⟨_, hA6⟩, lcg walk_tup (fun _ => true) (fun i => (fun w : List Int => V.int ((straight w).length : Int)) (ws.getD i [])) (by rw [List.length_map]; omega) (fun H' s' => s'.tup hA6) YAt.same (fun i x H7 H8 hi s7 s8 y => ?_) (fun D2 H7 nD2 s7 h7 => ?_)⟩
      · obtain ⟨wd, wk, rfl, hb, hns, hd⟩ := tu_get hlen (fun j b ns p r => s8.tup (s16.tup (hrow j b ns p r))) y.2
        obtain ⟨g1, g2⟩ := M.wok.get hns
        have ew : ws.getD i [] = wk := by rw [List.getD_eq_getElem?_getD, hns]; rfl
        refine ⟨_, fun Qg h => h, rfl, evt_yes, fun _ H9 s9 Q9 q9 => ?_⟩
        have s9 : Same H8 H9 := s9
        rw [ew] at q9
        refine ⟨_, rfl, wd, wk, rfl, s9.tup hd, by omega, fun p H10 s10 np h10 => ?_⟩
        refine ⟨p, _, rfl, .inr (SqT.of h10), ?_⟩
        rw [List.length_map]
        exact q9 H10 s10
      have h7' : H7 D2 = some (.lst ((ws.map fun w => ((straight w).length : Int)).map V.int)) := by
        rw [h7, List.length_map, hlen, given_ws ws [] (fun w : List Int => V.int ((straight w).length : Int)), List.map_map]
        rfl
      refine ⟨_, _, rfl, SqL.of h7', ?_⟩
      rw [sum_total]
      have hmt : m' ≤ P.n + total ws := by
        have := hL.le (whole_range HO.ok.pos h0)
        omega
      refine ⟨_, _, rfl, rfl, _, _, rfl, rfl, _, rfl, ?_⟩
      rw [decide_eq_false (show ¬ (m' : Int) > (P.n : Int) + (total ws : Int) by omega)]
      refine iteF ?_
      have s17 := s16.trans s7
      -- what is hung
      refine ⟨_, rfl, _, rfl, d, c, L, P, ws, rfl, hp, by omega, by omega, hD.same s17, hT.same s17, M.wok, fun t2 p2 e2' H8 s8 ht2 hP2 he2 => ?_⟩
      have s18 := s17.trans s8
      refine ⟨t2, _, rfl, SqT.of ht2, rfl, _, _, rfl, _, _, rfl, rfl, ?_⟩
      obtain ⟨dh, kvh, hAh, hPh⟩ := hP2
      dsimp only
      refine ifS_ex (p := False) (fun R ra rb => ?_) (fun H9 s9 hF => hF.elim) (fun H9 s9 => ?_)
      · refine ⟨_, rfl, p2, _, rfl, .inl (SqL.of hAh), _, rfl, _, _, rfl, rfl, _, rfl, ?_⟩
        rw [List.length_map, hPh.len]
        by_cases cm : ((hung P ws).1.n : Int) ≤ (mo : Int)
        · rw [decide_eq_true cm]
          refine iteT ?_
          refine ⟨_, rfl, _, rfl, _, rfl, _, _, rfl, rfl, p2, e2', L, m' - 1, (hung P ws).1, (hung P ws).2, ?_, HO.ok, by omega, by omega, by omega, by omega, ⟨dh, kvh, hAh, hPh⟩, he2, h0, fun q2 hq2 => hL.2 (m' - 1) (by omega) ⟨q2, hq2⟩, fun H9 s9 => ⟨false, rfl, rb H9 s9⟩⟩
          show [V.ref p2, V.ref e2', V.int ((m' : Int) - 1)] = _
          rw [show (m' : Int) - 1 = ((m' - 1 : Nat) : Int) by omega]
        · rw [decide_eq_false cm]
          exact iteF (rb H8 (Same.refl H8))
      have s19 := s18.trans s9
      -- the first ones of the walks
      have hA9 := s19.tup hA
      refine ⟨_, rfl, c, _, rfl, .inr hA9, ?_⟩
      rw [List.length_map, hlen]
      refine ⟨_, _, rfl, rfl, _, _, rfl, ⟨by omega, by omega, by omega, by omega⟩, for_range (lo := 1) (n := ((ws.length : Int) + 1 - 1).toNat) (fun i σ H' => ∃ y10 y11 ah, σ = [some (.ref a), some (.ref d), some (.ref c), some (.int (mo : Int)), some (.int (m' : Int)), some (.ref t), none, some (.ref p2), some (.ref e2'), some (.int ((ah : Nat) : Int)), y10, y11, none, none, none] ∧ Same H H' ∧ ((i = 0 ∧ ah = 2) ∨ Least (hung P (ws.take i)).1 (hung P (ws.take i)).2 ah)) ⟨_, _, 2, rfl, s19, .inl ⟨rfl, rfl⟩⟩ (fun i σ H' hi ⟨y10, y11, ah, er, sm, hah⟩ => ?_) (fun σ H' ⟨y10, y11, ah, er, sm, hah⟩ => ?_)⟩
      · subst er
        have hT9 := hT.same sm
        refine ⟨_, rfl, _, rfl, _, rfl, _, rfl, slTut (n := i + 1) (by omega) hT9 fun p3 H10 s10 hTk => ?_⟩
        have s110 := sm.trans s10
        have mk := M.take (k := i + 1) (by omega)
        have h0k : 0 ∉ (hung P (ws.take (i + 1))).2 := hung_take h0
        refine ⟨a, p3, L, P, ws.take (i + 1), rfl, mk, hWA.same s110, hTk, fun z => absurd z h0k, fun _ m1 hL1' H11 s11 => ?_⟩
        have s111 := s110.trans s11
        have hle : m1 ≤ m' := least_sub hp M.wok.ok (fun v hv => List.mem_of_mem_take hv) hL1' hL
        have hge : ah ≤ m1 := by
          rcases hah with ⟨_, rfl⟩ | hah
          · have hHk := mk.hok
            refine hL1'.two (fun z => ?_) fun e he => ?_
            · have := hHk.len
              rw [z, List.length_take] at this
              have : 0 = min (i + 1) ws.length := this
              omega
            · obtain ⟨j, hj, e1⟩ := List.getElem_of_mem he
              have hj' : j < (ws.take (i + 1)).length := by rw [← hHk.len]; exact hj
              exact (hHk.at_ j (ws.take (i + 1))[j] e (List.getElem?_eq_getElem hj') (by rw [List.getElem?_eq_getElem hj, e1])).2
          · refine least_sub hp mk.wok.ok (fun v hv => ?_) hah hL1'
            have : ws.take i = (ws.take (i + 1)).take i := by rw [List.take_take, Nat.min_eq_left (by omega)]
            rw [this] at hv
            exact List.mem_of_mem_take hv
        refine ⟨_, rfl, m1, rfl, fun H12 s12' => ⟨true, rfl, iteF ?_⟩⟩
        refine ⟨_, rfl, _, rfl, _, _, rfl, rfl, _, rfl, ?_⟩
        rw [decide_eq_true (show (ah : Int) ≤ (m1 : Int) by omega)]
        refine iteT ⟨_, rfl, _, _, rfl, rfl, _, rfl, ?_⟩
        rw [decide_eq_true (show (m1 : Int) ≤ (m' : Int) by omega)]
        refine iteF ?_
        exact ⟨_, rfl, _, _, m1, rfl, s111.trans s12', .inr hL1'⟩
      · subst er
        -- all of them turned about
        have hA10 := sm.tup hA
        refine ⟨_, rfl, c, _, rfl, hA10, fun p3 np3 => ?_⟩
        have s3' := same_new (o := .tup (as.map V.ref).reverse) np3
        have hp3 : upd H' p3 (.tup (as.map V.ref).reverse) p3 = some (.tup (as.reverse.map V.ref)) := by rw [upd_same, List.map_reverse]
        have sm3 := sm.trans s3'
        refine ⟨p3, rfl, ⟨_, SqT.of hp3⟩, lcn walk_tup (fun _ => true) (fun i => .tup (vi (back (ws.reverse.getD i [])))) (by rw [List.length_map, List.length_reverse]; omega) (fun H' s' => SqT.of (s' _ _ hp3)) YAt.same (fun i x H10 H11 hi s10 s11 y => ?_) (fun D3 dl H10 nD3 s10 h10 hN hDn => ?_)⟩
        · obtain ⟨b, hb, rfl⟩ := of_refs_get y.2
          have hb' := rev_get hb
          have hi' := lt_of_get hb
          rw [List.length_reverse] at hi'
          have hwg : ws.reverse[i]? = some (ws.reverse[i]'(by rw [List.length_reverse]; omega)) := List.getElem?_eq_getElem _
          generalize ws.reverse[i]'(by rw [List.length_reverse]; omega) = wk at hwg
          have hwg' := rev_get hwg
          rw [← hlen] at hwg'
          have hd := (sm3.trans s11).tup (hrow _ b wk hb' hwg')
          obtain ⟨g1, g2⟩ := M.wok.get hwg'
          have ew : ws.reverse.getD i [] = wk := by rw [List.getD_eq_getElem?_getD, hwg]; rfl
          refine ⟨_, fun Qg h => h, rfl, evt_yes, fun _ H12 s12' Q12 q12 => ?_⟩
          rw [ew] at q12
          exact ⟨_, rfl, b, wk, rfl, s12'.tup hd, by omega, fun p H13 s13' np h13 => q12 p H13 s13' np h13⟩
        rw [List.length_map, List.length_reverse, hlen] at hN
        refine ⟨D3, _, rfl, .inl ⟨SqL.of h10, fun u nu => ?_⟩⟩
        have su := same_new (o := .tup (dl.map V.ref)) nu
        have hTa : TuT K (upd H10 u (.tup (dl.map V.ref))) u (ws.reverse.map back) := news_tut hN su upd_same (by rw [List.length_map, List.length_reverse]) fun i ns h => by
          rw [List.getElem?_map] at h
          obtain ⟨x, hx, rfl⟩ := Option.map_eq_some_iff.mp h
          rw [List.getD_eq_getElem?_getD, hx]
          rfl
        have s20 := sm3.trans (s10.trans su)
        have h0a := about_zero hp M.wok.ok h0
        refine ⟨_, rfl, _, rfl, a, u, L, P, _, rfl, M.about, hWA.same s20, hTa, fun z => absurd z h0a, fun _ m1 hLa H11 s11 => ?_⟩
        obtain rfl := least_about hp M.wok.ok hLa hL
        have s21 := s20.trans s11
        refine ⟨_, rfl, log_small (by omega), _, rfl, _, rfl, log_small (by omega), rfl, _, rfl, ?_⟩
        rw [decide_eq_true rfl]
        refine iteF ?_
        -- with a letter more
        have hRs11 := s21.tup hRs
        refine ⟨_, rfl, a, _, 0, _, rfl, rfl, s21.tup hWb, atI_nat (j := 0) rfl, _, _, rfl, rfl, _, rfl, a, _, 1, _, rfl, rfl, s21.tup hWb, atI_nat (j := 1) rfl, wb, rfl, ⟨_, hRs11⟩, lcn walk_tup (fun _ => true) (fun i => .tup (vi (rowOf L P i ++ [-1]))) (by rw [List.length_map, hRlen]; omega) (fun H' s' => s'.tup hRs11) YAt.same (fun i x H12 H13 hi s12' s13' y => ?_) (fun D4 dr H12 nD4 s12' h12 hN2 hDn2 => ?_)⟩
        · obtain ⟨rb, row, rfl, hrb, hns, hrd⟩ := tu_get (nss := rowsOf L P) (by rw [rowsOf_length]; exact hRlen) (fun j b ns p r => s13'.tup (s21.tup (hRrow j b ns p r))) y.2
          rw [List.length_map, hRlen] at hi
          rw [rowsOf_get L hi] at hns
          cases hns
          refine ⟨_, fun Qg h => h, rfl, evt_yes, fun _ H14 s14' Q14 q14 => ?_⟩
          refine ⟨_, rfl, _, rfl, by show 1 ≤ sizeLine; decide, fun u2 nu2 => ?_⟩
          have su2 := same_new (o := .tup [.int (-1)]) nu2
          have hl5 := rowOf_length L P i
          refine ⟨rb, u2, _, _, rfl, rfl, su2.tup (s14'.tup hrd), SqT.of upd_same, by rw [List.length_map, hl5]; exact small (by show L + 1 ≤ _; omega), fun z => ?_, fun _ z => ?_, fun _ _ p np => ?_⟩
          · have := congrArg List.length z
            rw [List.length_map, hl5] at this
            have : L = 0 := this
            omega
          · cases z
          · refine q14 p _ (su2.trans (same_new np)) (su2.free np) ?_
            rw [upd_same, vi, vi, List.map_append]
            rfl
        rw [List.length_map, hRlen] at hN2
        refine ⟨D4, _, rfl, .inl ⟨SqL.of h12, fun u3 nu3 => ?_⟩⟩
        have su3 := same_new (o := .tup (dr.map V.ref)) nu3
        have hTw : TuT K (upd H12 u3 (.tup (dr.map V.ref))) u3 (rowsOf (L + 1) P) := news_tut hN2 su3 upd_same (rowsOf_length _ _) fun i ns h => by
          have hi : i < P.n := by have := lt_of_get h; rw [rowsOf_length] at this; exact this
          rw [rowsOf_get _ hi, rowOf_up hp] at h
          exact Option.some.inj h
        refine ⟨by show 2 ≤ sizeLine; decide, fun u4 nu4 => ?_⟩
        have su4 := same_new (o := .tup [.int ((L : Int) + 1), .ref u3]) nu4
        have s22 := s21.trans (s12'.trans (su3.trans su4))
        have hWw : WebAt K (upd (upd H12 u3 (.tup (dr.map V.ref))) u4 (.tup [.int ((L : Int) + 1), .ref u3])) u4 (L + 1) P := ⟨u3, SqT.of upd_same, hTw.same su4⟩
        dsimp only
        refine ⟨_, rfl, a, _, 0, _, rfl, rfl, s22.tup hWb, atI_nat (j := 0) rfl, rfl, _, rfl, ?_⟩
        by_cases cL : L = 4
        · rw [decide_eq_true (show V.int ((L : Nat) : Int) = V.int 4 from congrArg V.int (by omega))]
          exact iteT (fin _ s22)
        · rw [decide_eq_false (fun z => cL (by have := V.int.inj z; omega))]
          refine iteF ?_
          refine ⟨_, rfl, _, rfl, u4, c, L + 1, P, ws, rfl, M.up (by omega), hWw, hT.same s22, fun z => absurd z h0, fun _ m2 hL2 H15 s15' => ?_⟩
          obtain rfl := hL2.unique hL
          refine ⟨_, rfl, log_small (by omega), _, rfl, _, rfl, log_small (by omega), rfl, ?_⟩
          have : Q (.bl (decide (V.str (toString (m2 : Int)) = V.str (toString (m2 : Int))))) H15 := by
            rw [decide_eq_true rfl]
            exact fin H15 (s22.trans s15')
          exact this
end
end Wk
set_option Elab.async false
set_option linter.all false
set_option maxRecDepth 100000
set_option maxHeartbeats 4000000
namespace Wk
open PySem L2 Wc
section
variable {P : Program} {w : World} {K : PySem.W.Frag} {mg : Str → Option Value} {base : Heap}
abbrev s_law : Stmt := top 62
abbrev n_law : List Str := ["_law_script", "_law_k", "_law_well_here", "_law_letters", "_law_web_here", "_law_doors_here", "_law_walks_here"]
theorem sc_law : FnScope n_law ["_law_script"] (defScope s_law) := ⟨rfl, rfl, rfl, by decide +kernel, rfl, by decide +kernel, by decide +kernel⟩
def sp_law (K : PySem.W.Frag) : Sp := fun vs H Q _ => ∃ (a : Addr) (ns : List Int), vs = [.ref a] ∧ SqL K H a (vi ns) ∧ ns.length ≤ 63 ∧ ∀ H', Q (.bl true) H'
theorem ok_law {fa : Addr} {fd : FuncData} (B : Bi mg) (F : Fun K "law" "law" s_law fa fd) (h__law_well : Has P w K mg base 1 "_law_well" ["_law_script", "_law_k"] (sp_law_well K)) (h__law_pick : Has P w K mg base 1 "_law_pick" ["_law_well_here", "_law_many"] sp_law_pick)
    (h__law_web : Has P w K mg base 2 "_law_web" ["_law_well_here", "_law_letters", "_law_many", "_law_gaps"] (sp_law_web K)) (h__law_doors : Has P w K mg base 1 "_law_doors" ["_law_web_here"] (sp_law_doors K))
    (h__law_walks : Has P w K mg base 3 "_law_walks" ["_law_well_here", "_law_letters", "_law_doors_here", "_law_bound"] (sp_law_walks K)) (h__law_least_right : Has P w K mg base 114 "_law_least_right" ["_law_web_here", "_law_doors_here", "_law_walks_here", "_law_most"] (sp_law_least_right K)) :
    FnOk P w K mg base CX0 115 fa fd ["_law_script"] (sp_law K) := by
  refine F.ok sc_law (fun vs H Q E h => ?_) (fun cdv A outer s H vs Q E hr h => ?_)
  · obtain ⟨a, ns, rfl, _⟩ := h
    rfl
  · obtain ⟨a, ns, rfl, hS, hl, fin⟩ := h
    refine ⟨_, (pss_cons (ps_for PassesOwn.never rfl (pi_range1 rfl B.range (pa_cons (pe_callB (call_max2 rfl) (by rfl) B.max (by decide +kernel) (pa_cons pe_int (pa_cons (pe_callB (call_min2 rfl) (by rfl) B.min (by decide +kernel) (pa_cons pe_int (pa_cons (pe_callB (kLen K) (by rfl) B.len PySem.boot_len (pa_cons (pv 0) pa_nil)) pa_nil))) pa_nil))) pa_nil)) (pg_name (i := 1) sc_law.nd rfl (Or.inl rfl))
        (pss_cons (ps_set (i := 2) sc_law.nd rfl (Or.inl rfl) (pe_has h__law_well (hr.mono (by omega)) (pa_cons (pv 0) (pa_cons (pv 1) pa_nil))))
        (pss_cons (ps_set (i := 3) sc_law.nd rfl (Or.inl rfl) (pe_op op_add pe_int (pe_has h__law_pick (hr.mono (by omega)) (pa_cons (pv 2) (pa_cons pe_int pa_nil)))))
        (pss_cons (ps_set (i := 4) sc_law.nd rfl (Or.inl rfl) (pe_has h__law_web (hr.mono (by omega)) (pa_cons (pv 2) (pa_cons (pv 3) (pa_cons (pe_op op_add pe_int (pe_has h__law_pick (hr.mono (by omega)) (pa_cons (pv 2) (pa_cons pe_int pa_nil)))) (pa_cons (pe_has h__law_pick (hr.mono (by omega)) (pa_cons (pv 2) (pa_cons pe_int pa_nil))) pa_nil))))))
        (pss_cons (ps_set (i := 5) sc_law.nd rfl (Or.inl rfl) (pe_has h__law_doors (hr.mono (by omega)) (pa_cons (pv 4) pa_nil)))
        (pss_cons (ps_set (i := 6) sc_law.nd rfl (Or.inl rfl) (pe_has h__law_walks (hr.mono (by omega)) (pa_cons (pv 2) (pa_cons (pv 3) (pa_cons (pv 5) (pa_cons (pe_op op_sub pe_int (pe_callB (kLen K) (by rfl) B.len PySem.boot_len (pa_cons (pe_ix (kIxT K) (pv 4) pe_int (fun _ _ => rfl)) pa_nil))) pa_nil))))))
        (pss_one (ps_if (pt_not (pt_val (pe_has h__law_least_right (hr.mono (by omega)) (pa_cons (pv 4) (pa_cons (pv 5) (pa_cons (pv 6) (pa_cons (pe_ifExp (pt_cmpR op_lt (pv 1) pe_int (nomark _)) pe_int pe_int) pa_nil)))))))
          (pss_one (ps_ret pe_bl))
          pss_nil))))))))
      (pss_one (ps_ret pe_bl))), ?_⟩
    refine ⟨_, rfl, a, _, rfl, .inl hS, _, _, rfl, _, _, rfl, ?_⟩
    rw [List.length_map]
    have hmn : (if (if (ns.length : Int) < 63 then (ns.length : Int) else 63) > 1 then (if (ns.length : Int) < 63 then (ns.length : Int) else 63) else 1) = ((max 1 (min 63 ns.length) : Nat) : Int) := by
      split <;> split <;> omega
    refine ⟨((max 1 (min 63 ns.length) : Nat) : Int), congrArg (fun j : Int => [V.int j]) hmn, by omega, by omega, for_range (lo := 0) (n := max 1 (min 63 ns.length)) (fun i σ H' => ∃ y1 y2 y3 y4 y5 y6, σ = [some (.ref a), y1, y2, y3, y4, y5, y6] ∧ Same H H') ⟨_, _, _, _, _, _, rfl, Same.refl H⟩ (fun i σ H' hi ⟨y1, y2, y3, y4, y5, y6, er, sm⟩ => ?_) (fun σ H' ⟨y1, y2, y3, y4, y5, y6, er, sm⟩ => ?_)⟩
    · subst er
      refine ⟨_, rfl, _, rfl, a, ns, i, (by show [V.ref a, V.int ((0 : Int) + (i : Int))] = _; rw [Int.zero_add]), sm.lst hS, by omega, by omega, fun q H1 s1 nq w1 => ?_⟩
      have nq0 := sm.free nq
      have s01 := sm.trans s1
      refine ⟨_, rfl, q, 0, 4, rfl, by omega, by omega, by omega, w1, fun r H2 s2 w2 hr4 => ?_⟩
      have s02 := rm_base s01 nq0 s2
      refine ⟨_, _, rfl, rfl, ?_⟩
      refine ⟨_, rfl, _, rfl, _, rfl, q, _, 7, rfl, by omega, by omega, by omega, w2, fun r7 H3 s3 w3 hr7 => ?_⟩
      have s03 := rm_base s02 nq0 s3
      refine ⟨_, _, rfl, rfl, _, rfl, q, _, 4, rfl, by omega, by omega, by omega, w3, fun gp H4 s4 w4 hgp => ?_⟩
      have s04 := rm_base s03 nq0 s4
      refine ⟨q, _, r + 1, r7 + 1, gp, (by show [V.ref q, V.int ((1 : Int) + (r : Int)), V.int ((1 : Int) + (r7 : Int)), V.int (gp : Int)] = _; rw [show (1 : Int) + (r : Int) = ((r + 1 : Nat) : Int) by omega, show (1 : Int) + (r7 : Int) = ((r7 + 1 : Nat) : Int) by omega]), w4, by omega, by omega, by omega, by omega, by omega, by omega, fun t PP H5 s5 w5 hW W hPn => ?_⟩
      have s05 := rm_base s04 nq0 s5
      have hp := W.ok
      have hpos := hp.pos
      refine ⟨_, rfl, t, r + 1, PP, rfl, hp, by omega, by omega, hW, fun p ds kv H6 s6 np nds hpl hPk => ?_⟩
      have s06 := s05.trans s6
      have w6 := w5.same s6
      have hW6 := hW.same s6
      have hD6 : PicAt H6 p PP := ⟨ds, kv, hpl, hPk⟩
      obtain ⟨wb, hWb, hWT⟩ := hW6
      have hW6 : WebAt K H6 t (r + 1) PP := ⟨wb, hWb, hWT⟩
      obtain ⟨rs, hRs, hRl, _⟩ := hWT.ex
      rw [rowsOf_length] at hRl
      refine ⟨_, rfl, _, rfl, _, rfl, _, rfl, t, _, 1, _, rfl, rfl, hWb, atI_nat (j := 1) rfl, wb, _, rfl, .inr hRs, _, _, rfl, rfl, ?_⟩
      refine ⟨q, p, _, r + 1, 8 - PP.n, PP, ?_, w6, by omega, hp, by omega, by omega, by omega, hD6, by omega, fun c ws H7 s7 hT hwk hws => ?_⟩
      · show [V.ref q, V.int ((1 : Int) + (r : Int)), V.ref p, V.int (8 - (((rs.map V.ref).length : Nat) : Int))] = _
        rw [List.length_map, hRl, show (1 : Int) + (r : Int) = ((r + 1 : Nat) : Int) by omega, show (8 : Int) - (PP.n : Int) = ((8 - PP.n : Nat) : Int) by omega]
      have s07 := rm_base s06 nq0 s7
      have hW7 := (w6.web hW6).same s7
      have hD7 := (w6.pic hD6).same s7
      have M : Made (r + 1) PP ws := ⟨W, hwk, by omega, fun w hw => by have := hws w hw; omega, by
        have := total_sub hws hwk.l4
        omega⟩
      refine ⟨_, rfl, _, rfl, _, rfl, _, rfl, _, _, rfl, rfl, _, rfl, ?_⟩
      by_cases ck : (0 : Int) + (i : Int) < 12
      · rw [decide_eq_true ck]
        refine iteT ?_
        refine ⟨t, p, c, r + 1, 8, PP, ws, rfl, by omega, M, hW7, hD7, hT, fun H8 s8 => ⟨true, rfl, iteF ?_⟩⟩
        exact ⟨_, _, _, _, _, _, rfl, s07.trans s8⟩
      · rw [decide_eq_false ck]
        refine iteF ?_
        refine ⟨t, p, c, r + 1, 6, PP, ws, rfl, by omega, M, hW7, hD7, hT, fun H8 s8 => ⟨true, rfl, iteF ?_⟩⟩
        exact ⟨_, _, _, _, _, _, rfl, s07.trans s8⟩
    · subst er
      exact fin H'
end
end Wk
set_option Elab.async false
set_option linter.all false
set_option maxRecDepth 100000
set_option maxHeartbeats 4000000
namespace Wk
open PySem L2 Wc
/-- a def as it stands at the top -/
theorem df_mk {K : PySem.W.Frag} {h : Heap} {mg : Str → Option Value} {x : Str} {st : Stmt} {ps : List Str} {f : Addr} {oc : Value} {od an : Option Addr} {osl : Array (Option Value)} {kV doc pm cdv ct : Value} (X : K.In h) (G : h.Ns mainGlobals mg)
    (a : PySem.W.nsIn K mainGlobals x = some (some (.ref f))) (l : K.lookup f = some ⟨oc, od, .func (PySem.W.fnOf x x (defArgs st) (defBody st) (defScope st) .none kV doc pm an cdv ct), osl⟩) (c : PySem.W.codeIn K cdv x = true) (k : PySem.W.keepIn K (.ref f) = true)
    (hb : ∀ (kV doc pm : Value) (an : Option Addr) (cdv ct : Value) (us : List Value), us.length = ps.length → bindArgs (PySem.W.fnOf x x (defArgs st) (defBody st) (defScope st) .none kV doc pm an cdv ct) ⟨us, []⟩ = pure (ps.zip us)) : Df K mg x st ps := by
  have F := fun_mk (st := st) l c k
  exact ⟨f, _, F, PySem.W.mg_of X G a, F.binds hb⟩

theorem bi_mk {K : PySem.W.Frag} {h : Heap} {mg : Str → Option Value} {t1 t2 t3 : Tok} (X : K.In h) (G : h.Ns mainGlobals mg) (b0 : PySem.W.nsIn K mainGlobals "len" = some none) (b1 : PySem.W.nsIn K mainGlobals "range" = some none) (b2 : PySem.W.nsIn K mainGlobals "enumerate" = some none) (b3 : PySem.W.nsIn K mainGlobals "isinstance" = some none) (b4 : PySem.W.nsIn K mainGlobals "int" = some none) (b5 : PySem.W.nsIn K mainGlobals "bool" = some none) (b6 : PySem.W.nsIn K mainGlobals "tuple" = some none) (b7 : PySem.W.nsIn K mainGlobals "list" = some none) (b8 : PySem.W.nsIn K mainGlobals "dict" = some none) (b9 : PySem.W.nsIn K mainGlobals "set" = some none) (b10 : PySem.W.nsIn K mainGlobals "all" = some none) (b11 : PySem.W.nsIn K mainGlobals "any" = some none) (b12 : PySem.W.nsIn K mainGlobals "sorted" = some none) (b13 : PySem.W.nsIn K mainGlobals "min" = some none) (b14 : PySem.W.nsIn K mainGlobals "max" = some none) (b15 : PySem.W.nsIn K mainGlobals "abs" = some none) (b16 : PySem.W.nsIn K mainGlobals "sum" = some none) (b17 : PySem.W.nsIn K mainGlobals "repr" = some none) (bL : PySem.W.nsIn K mainGlobals "MOST_LETTERS" = some (some (.int 4 t1))) (bP : PySem.W.nsIn K mainGlobals "MOST_PLACES" = some (some (.int 40 t2))) (bW : PySem.W.nsIn K mainGlobals "MOST_WALKS" = some (some (.int 4 t3))) : Bi mg :=
  ⟨PySem.W.mg_none_of X G b0, PySem.W.mg_none_of X G b1, PySem.W.mg_none_of X G b2, PySem.W.mg_none_of X G b3, PySem.W.mg_none_of X G b4, PySem.W.mg_none_of X G b5, PySem.W.mg_none_of X G b6, PySem.W.mg_none_of X G b7, PySem.W.mg_none_of X G b8, PySem.W.mg_none_of X G b9, PySem.W.mg_none_of X G b10, PySem.W.mg_none_of X G b11, PySem.W.mg_none_of X G b12, PySem.W.mg_none_of X G b13, PySem.W.mg_none_of X G b14, PySem.W.mg_none_of X G b15, PySem.W.mg_none_of X G b16, PySem.W.mg_none_of X G b17, ⟨_, PySem.W.mg_of X G bL⟩, ⟨_, PySem.W.mg_of X G bP⟩, ⟨_, PySem.W.mg_of X G bW⟩⟩
section
variable {P : Program} {w : World} {K : PySem.W.Frag} {mg : Str → Option Value} {base : Heap}
theorem law_all {fa : Addr} {fd : FuncData} (B : Bi mg) (D_steps_of : Df K mg "steps_of" s_steps_of ["letters"]) (D_straightened : Df K mg "straightened" s_straightened ["walk"]) (D__law_straight : Df K mg "_law_straight" s_law_straight ["_law_walk_here"]) (D_is_integer : Df K mg "is_integer" s_is_integer ["value"]) (D__law_is_whole : Df K mg "_law_is_whole" s_law_is_whole ["_law_value"]) (D_is_letters : Df K mg "is_letters" s_is_letters ["value"]) (D_is_step : Df K mg "is_step" s_is_step ["value", "letters"]) (D_is_a_walk : Df K mg "is_a_walk" s_is_a_walk ["value", "letters"]) (D_is_a_row : Df K mg "is_a_row" s_is_a_row ["value", "letters", "rooms"]) (D_doors_of : Df K mg "doors_of" s_doors_of ["rows"]) (D__law_doors : Df K mg "_law_doors" s_law_doors ["_law_web_here"]) (D_is_one_way : Df K mg "is_one_way" s_is_one_way ["rows", "letters"]) (D_first_order : Df K mg "first_order" s_first_order ["letters", "doors", "home"]) (D_is_a_web : Df K mg "is_a_web" s_is_a_web ["value"]) (D_need_web : Df K mg "need_web" s_need_web ["web"]) (D_first_ways : Df K mg "first_ways" s_first_ways ["letters", "doors", "home"]) (D_ways_of : Df K mg "ways_of" s_ways_of ["web"]) (D_is_a_turn : Df K mg "is_a_turn" s_is_a_turn ["value", "many"]) (D_is_a_book : Df K mg "is_a_book" s_is_a_book ["value"]) (D__law_is_book : Df K mg "_law_is_book" s_law_is_book ["_law_value", "_law_letters"]) (D_places_of : Df K mg "places_of" s_places_of ["book"]) (D_turns_by_step : Df K mg "turns_by_step" s_turns_by_step ["book"]) (D__law_rows : Df K mg "_law_rows" s_law_rows ["_law_book"]) (D_turned_by : Df K mg "turned_by" s_turned_by ["book", "walk"]) (D_need_web_and_walks : Df K mg "need_web_and_walks" s_need_web_and_walks ["web", "walks"]) (D_hung : Df K mg "hung" s_hung ["web", "walks"]) (D__law_hung : Df K mg "_law_hung" s_law_hung ["_law_doors_here", "_law_walks_here"]) (D_completed : Df K mg "completed" s_completed ["letters", "doors"]) (D_fits : Df K mg "fits" s_fits ["doors", "parts"]) (D__law_fits : Df K mg "_law_fits" s_law_fits ["_law_hung_here", "_law_row"]) (D_parting : Df K mg "parting" s_parting ["doors", "ends", "most", "parts"]) (D_least_parting : Df K mg "least_parting" s_least_parting ["doors", "ends"]) (D_paper_places : Df K mg "paper_places" s_paper_places ["web", "walks"]) (D_least_paper : Df K mg "least_paper" s_least_paper ["web", "walks"]) (D_paper_holds : Df K mg "paper_holds" s_paper_holds ["web", "walks", "value"]) (D__law_well : Df K mg "_law_well" s_law_well ["_law_script", "_law_k"]) (D__law_pick : Df K mg "_law_pick" s_law_pick ["_law_well_here", "_law_many"]) (D__law_back : Df K mg "_law_back" s_law_back ["_law_walk_here"]) (D__law_led : Df K mg "_law_led" s_law_led ["_law_doors_here", "_law_room", "_law_walk_here"]) (D__law_walk : Df K mg "_law_walk" s_law_walk ["_law_well_here", "_law_letters", "_law_most"]) (D__law_path : Df K mg "_law_path" s_law_path ["_law_well_here", "_law_doors_here", "_law_room", "_law_most"]) (D__law_away : Df K mg "_law_away" s_law_away ["_law_well_here", "_law_doors_here", "_law_letters", "_law_walk_here", "_law_most"]) (D__law_walks : Df K mg "_law_walks" s_law_walks ["_law_well_here", "_law_letters", "_law_doors_here", "_law_bound"]) (D__law_named : Df K mg "_law_named" s_law_named ["_law_letters", "_law_doors_here"]) (D__law_web : Df K mg "_law_web" s_law_web ["_law_well_here", "_law_letters", "_law_many", "_law_gaps"]) (D__law_keeps : Df K mg "_law_keeps" s_law_keeps ["_law_doors_here", "_law_walks_here", "_law_book"]) (D__law_has_places : Df K mg "_law_has_places" s_law_has_places ["_law_hung_here", "_law_ends", "_law_most"]) (D__law_least_right : Df K mg "_law_least_right" s_law_least_right ["_law_web_here", "_law_doors_here", "_law_walks_here", "_law_most"]) (F : Fun K "law" "law" s_law fa fd) : FnOk P w K mg base CX0 115 fa fd ["_law_script"] (sp_law K) := by
  have h_steps_of := ok_steps_of (P := P) (w := w) (base := base) B D_steps_of
  have h_straightened := ok_straightened (P := P) (w := w) (base := base) B D_straightened
  have h__law_straight := ok_law_straight (P := P) (w := w) (base := base) B D__law_straight
  have h_is_integer := ok_is_integer (P := P) (w := w) (base := base) B D_is_integer
  have h__law_is_whole := ok_law_is_whole (P := P) (w := w) (base := base) B D__law_is_whole
  have h_is_letters := ok_is_letters (P := P) (w := w) (base := base) B D_is_letters h_is_integer
  have h_is_step := ok_is_step (P := P) (w := w) (base := base) B D_is_step h_is_integer
  have h_is_a_walk := ok_is_a_walk (P := P) (w := w) (base := base) B D_is_a_walk h_is_step
  have h_is_a_row := ok_is_a_row (P := P) (w := w) (base := base) B D_is_a_row h_is_integer
  have h_doors_of := ok_doors_of (P := P) (w := w) (base := base) B D_doors_of
  have h__law_doors := ok_law_doors (P := P) (w := w) (base := base) B D__law_doors
  have h_is_one_way := ok_is_one_way (P := P) (w := w) (base := base) B D_is_one_way
  have h_first_order := ok_first_order (P := P) (w := w) (base := base) B D_first_order h_steps_of
  have h_is_a_web := ok_is_a_web (P := P) (w := w) (base := base) B D_is_a_web h_is_letters h_is_a_row h_is_one_way h_doors_of h_first_order
  have h_need_web := ok_need_web (P := P) (w := w) (base := base) B D_need_web h_is_a_web
  have h_first_ways := ok_first_ways (P := P) (w := w) (base := base) B D_first_ways h_steps_of h_first_order
  have h_ways_of := ok_ways_of (P := P) (w := w) (base := base) B D_ways_of
  have h_is_a_turn := ok_is_a_turn (P := P) (w := w) (base := base) B D_is_a_turn h_is_integer
  have h_is_a_book := ok_is_a_book (P := P) (w := w) (base := base) B D_is_a_book h_is_letters h_is_a_turn
  have h__law_is_book := ok_law_is_book (P := P) (w := w) (base := base) B D__law_is_book h__law_is_whole
  have h_places_of := ok_places_of (P := P) (w := w) (base := base) B D_places_of
  have h_turns_by_step := ok_turns_by_step (P := P) (w := w) (base := base) B D_turns_by_step
  have h__law_rows := ok_law_rows (P := P) (w := w) (base := base) B D__law_rows
  have h_turned_by := ok_turned_by (P := P) (w := w) (base := base) B D_turned_by h_turns_by_step h_places_of
  have h_need_web_and_walks := ok_need_web_and_walks (P := P) (w := w) (base := base) B D_need_web_and_walks h_need_web h_is_a_walk
  have h_hung := ok_hung (P := P) (w := w) (base := base) B D_hung h_doors_of h_straightened
  have h__law_hung := ok_law_hung (P := P) (w := w) (base := base) B D__law_hung h__law_straight
  have h_completed := ok_completed (P := P) (w := w) (base := base) B D_completed
  have h_fits := ok_fits (P := P) (w := w) (base := base) B D_fits
  have h__law_fits := ok_law_fits (P := P) (w := w) (base := base) B D__law_fits
  have h_parting := ok_parting (P := P) (w := w) (base := base) B D_parting h_fits 110
  have h_least_parting := ok_least_parting (P := P) (w := w) (base := base) B D_least_parting h_parting
  have h_least_paper := ok_least_paper (P := P) (w := w) (base := base) B D_least_paper h_need_web_and_walks h_hung h_least_parting h_completed
  have h_paper_holds := ok_paper_holds (P := P) (w := w) (base := base) B D_paper_holds h_need_web_and_walks h_is_a_book h_first_ways h_doors_of h_turned_by h_ways_of
  have h__law_well := ok_law_well (P := P) (w := w) (base := base) B D__law_well
  have h__law_pick := ok_law_pick (P := P) (w := w) (base := base) B D__law_pick
  have h__law_back := ok_law_back (P := P) (w := w) (base := base) B D__law_back
  have h__law_led := ok_law_led (P := P) (w := w) (base := base) B D__law_led
  have h__law_walk := ok_law_walk (P := P) (w := w) (base := base) B D__law_walk h__law_pick
  have h__law_path := ok_law_path (P := P) (w := w) (base := base) B D__law_path h__law_pick
  have h__law_away := ok_law_away (P := P) (w := w) (base := base) B D__law_away h__law_pick h__law_straight h__law_led
  have h__law_walks := ok_law_walks (P := P) (w := w) (base := base) B D__law_walks h__law_pick h__law_walk h__law_path h__law_straight h__law_led h__law_away
  have h__law_named := ok_law_named (P := P) (w := w) (base := base) B D__law_named
  have h__law_web := ok_law_web (P := P) (w := w) (base := base) B D__law_web h__law_pick h__law_named
  have h__law_keeps := ok_law_keeps (P := P) (w := w) (base := base) B D__law_keeps h__law_rows
  have h__law_has_places := ok_law_has_places (P := P) (w := w) (base := base) B D__law_has_places h__law_fits
  have k_paper_places := okF_paper_places (P := P) (w := w) (base := base) B D_paper_places h_need_web_and_walks h_hung h_least_parting
  have h_paper_places := k_paper_places.has
  have h__law_least_right := ok_law_least_right (P := P) (w := w) (base := base) B D__law_least_right k_paper_places h_paper_places h_least_paper h__law_led h__law_straight h__law_is_book h__law_keeps h_paper_holds h__law_hung h__law_has_places h__law_is_whole h__law_back
  exact ok_law B F h__law_well h__law_pick h__law_web h__law_doors h__law_walks h__law_least_right
end
theorem all_mk {l : PySem.W.OpenLaw} {w : World} {K : PySem.W.Frag} {h : Heap} {mg : Str → Option Value} {fa f1 : Addr} (X : K.In h) (G : h.Ns mainGlobals mg) (hfa : mg "law" = some (.ref fa))
    {od1 an1 : Option Addr} {sl1 : Array (Option Value)} {oc1 kV1 dc1 pm1 cd1 ct1 : Value}
    (a1 : PySem.W.nsIn K mainGlobals "law" = some (some (.ref f1))) (l1 : K.lookup f1 = some ⟨oc1, od1, .func (PySem.W.fnOf "law" "law" (defArgs s_law) (defBody s_law) (defScope s_law) .none kV1 dc1 pm1 an1 cd1 ct1), sl1⟩) (c1 : PySem.W.codeIn K cd1 "law" = true) (k1 : PySem.W.keepIn K (.ref f1) = true)
    (B : Bi mg) (D_steps_of : Df K mg "steps_of" s_steps_of ["letters"]) (D_straightened : Df K mg "straightened" s_straightened ["walk"]) (D__law_straight : Df K mg "_law_straight" s_law_straight ["_law_walk_here"]) (D_is_integer : Df K mg "is_integer" s_is_integer ["value"]) (D__law_is_whole : Df K mg "_law_is_whole" s_law_is_whole ["_law_value"]) (D_is_letters : Df K mg "is_letters" s_is_letters ["value"]) (D_is_step : Df K mg "is_step" s_is_step ["value", "letters"]) (D_is_a_walk : Df K mg "is_a_walk" s_is_a_walk ["value", "letters"]) (D_is_a_row : Df K mg "is_a_row" s_is_a_row ["value", "letters", "rooms"]) (D_doors_of : Df K mg "doors_of" s_doors_of ["rows"]) (D__law_doors : Df K mg "_law_doors" s_law_doors ["_law_web_here"]) (D_is_one_way : Df K mg "is_one_way" s_is_one_way ["rows", "letters"]) (D_first_order : Df K mg "first_order" s_first_order ["letters", "doors", "home"]) (D_is_a_web : Df K mg "is_a_web" s_is_a_web ["value"]) (D_need_web : Df K mg "need_web" s_need_web ["web"]) (D_first_ways : Df K mg "first_ways" s_first_ways ["letters", "doors", "home"]) (D_ways_of : Df K mg "ways_of" s_ways_of ["web"]) (D_is_a_turn : Df K mg "is_a_turn" s_is_a_turn ["value", "many"]) (D_is_a_book : Df K mg "is_a_book" s_is_a_book ["value"]) (D__law_is_book : Df K mg "_law_is_book" s_law_is_book ["_law_value", "_law_letters"]) (D_places_of : Df K mg "places_of" s_places_of ["book"]) (D_turns_by_step : Df K mg "turns_by_step" s_turns_by_step ["book"]) (D__law_rows : Df K mg "_law_rows" s_law_rows ["_law_book"]) (D_turned_by : Df K mg "turned_by" s_turned_by ["book", "walk"]) (D_need_web_and_walks : Df K mg "need_web_and_walks" s_need_web_and_walks ["web", "walks"]) (D_hung : Df K mg "hung" s_hung ["web", "walks"]) (D__law_hung : Df K mg "_law_hung" s_law_hung ["_law_doors_here", "_law_walks_here"]) (D_completed : Df K mg "completed" s_completed ["letters", "doors"]) (D_fits : Df K mg "fits" s_fits ["doors", "parts"]) (D__law_fits : Df K mg "_law_fits" s_law_fits ["_law_hung_here", "_law_row"]) (D_parting : Df K mg "parting" s_parting ["doors", "ends", "most", "parts"]) (D_least_parting : Df K mg "least_parting" s_least_parting ["doors", "ends"]) (D_paper_places : Df K mg "paper_places" s_paper_places ["web", "walks"]) (D_least_paper : Df K mg "least_paper" s_least_paper ["web", "walks"]) (D_paper_holds : Df K mg "paper_holds" s_paper_holds ["web", "walks", "value"]) (D__law_well : Df K mg "_law_well" s_law_well ["_law_script", "_law_k"]) (D__law_pick : Df K mg "_law_pick" s_law_pick ["_law_well_here", "_law_many"]) (D__law_back : Df K mg "_law_back" s_law_back ["_law_walk_here"]) (D__law_led : Df K mg "_law_led" s_law_led ["_law_doors_here", "_law_room", "_law_walk_here"]) (D__law_walk : Df K mg "_law_walk" s_law_walk ["_law_well_here", "_law_letters", "_law_most"]) (D__law_path : Df K mg "_law_path" s_law_path ["_law_well_here", "_law_doors_here", "_law_room", "_law_most"]) (D__law_away : Df K mg "_law_away" s_law_away ["_law_well_here", "_law_doors_here", "_law_letters", "_law_walk_here", "_law_most"]) (D__law_walks : Df K mg "_law_walks" s_law_walks ["_law_well_here", "_law_letters", "_law_doors_here", "_law_bound"]) (D__law_named : Df K mg "_law_named" s_law_named ["_law_letters", "_law_doors_here"]) (D__law_web : Df K mg "_law_web" s_law_web ["_law_well_here", "_law_letters", "_law_many", "_law_gaps"]) (D__law_keeps : Df K mg "_law_keeps" s_law_keeps ["_law_doors_here", "_law_walks_here", "_law_book"]) (D__law_has_places : Df K mg "_law_has_places" s_law_has_places ["_law_hung_here", "_law_ends", "_law_most"]) (D__law_least_right : Df K mg "_law_least_right" s_law_least_right ["_law_web_here", "_law_doors_here", "_law_walks_here", "_law_most"]) :
    ∃ fd : FuncData, (∀ (s : Shared) (v : Value), BindsTo s fd ⟨[v], []⟩ [("_law_script", v)]) ∧ ∀ base : Heap, K.In base → base.Ns mainGlobals mg → FnOk l.prog w K mg base CX0 115 fa fd ["_law_script"] (sp_law K) := by
  have e := hfa.symm.trans (PySem.W.mg_of X G a1)
  cases e
  exact ⟨PySem.W.fnOf "law" "law" (defArgs s_law) (defBody s_law) (defScope s_law) .none kV1 dc1 pm1 an1 cd1 ct1, fun s v => .of_eq rfl, fun base _ _ => law_all B D_steps_of D_straightened D__law_straight D_is_integer D__law_is_whole D_is_letters D_is_step D_is_a_walk D_is_a_row D_doors_of D__law_doors D_is_one_way D_first_order D_is_a_web D_need_web D_first_ways D_ways_of D_is_a_turn D_is_a_book D__law_is_book D_places_of D_turns_by_step D__law_rows D_turned_by D_need_web_and_walks D_hung D__law_hung D_completed D_fits D__law_fits D_parting D_least_parting D_paper_places D_least_paper D_paper_holds D__law_well D__law_pick D__law_back D__law_led D__law_walk D__law_path D__law_away D__law_walks D__law_named D__law_web D__law_keeps D__law_has_places D__law_least_right (fun_mk (st := s_law) l1 c1 k1)⟩
theorem walk {l : PySem.W.OpenLaw} {q : Program} {loose : List Str} {XP : (Str → Option Value) → Heap → Prop} {YP : World → Heap → Prop} {d : DefRec} {K : Params → PySem.W.Frag} (hn : l.most = some 63) (hdf : d.params.defaults = [])
    (hY : ∀ (w : World) (h : Heap), YP w h → (K w.params).In h)
    (F : ∀ (w : World) (mg : Str → Option Value) (fa : Addr) (h : Heap), (K w.params).In h → h.Ns mainGlobals mg → mg d.name = some (.ref fa) →
      ∃ fd : FuncData, (∀ (s : Shared) (u : Value), BindsTo s fd ⟨[u], []⟩ [("_law_script", u)]) ∧ ∀ base : Heap, (K w.params).In base → base.Ns mainGlobals mg → FnOk l.prog w (K w.params) mg base CX0 115 fa fd ["_law_script"] (sp_law (K w.params))) :
    PySem.W.WalkO q loose XP YP l.row.toRowW d [] (fun f vs => PySem.call f vs) :=
  L2.walk_of (n := 63) (k := 115) (x := "_law_script") (CX := fun _ => CX0) (sp := fun w => sp_law (K w.params)) hn (by decide) hdf ⟨rfl, by decide, by decide⟩ hY F (fun _ _ a ns hl _ hS => ⟨a, ns, rfl, hS, hl, fun _ => rfl⟩) fun _ _ _ _ _ z => z
end Wk

open PySem PySem.W PyProof.Rows in
set_option maxRecDepth 100000 in
set_option maxHeartbeats 0 in
theorem PySem.Challenge.cw_walkclubs_k81_whole_least_papers_by_all_holds : PySem.Challenge.rw_walkclubs_k81_whole_least_papers_by_all.Holds := by
  w_on; o_law; k_head; (case hw => w_witness2)
  k_fill
  refine Wk.walk (l := PySem.Challenge.rw_walkclubs_k81_whole_least_papers_by_all) rfl rfl (fun w h Y => PySem.W.kIn_of Y) ?F
  case F =>
    intro w mg fa h KX G hmg
    refine' Wk.all_mk KX G hmg ?a1 ?l1 ?c1 ?k1 ?B ?D_steps_of ?D_straightened ?D__law_straight ?D_is_integer ?D__law_is_whole ?D_is_letters ?D_is_step ?D_is_a_walk ?D_is_a_row ?D_doors_of ?D__law_doors ?D_is_one_way ?D_first_order ?D_is_a_web ?D_need_web ?D_first_ways ?D_ways_of ?D_is_a_turn ?D_is_a_book ?D__law_is_book ?D_places_of ?D_turns_by_step ?D__law_rows ?D_turned_by ?D_need_web_and_walks ?D_hung ?D__law_hung ?D_completed ?D_fits ?D__law_fits ?D_parting ?D_least_parting ?D_paper_places ?D_least_paper ?D_paper_holds ?D__law_well ?D__law_pick ?D__law_back ?D__law_led ?D__law_walk ?D__law_path ?D__law_away ?D__law_walks ?D__law_named ?D__law_web ?D__law_keeps ?D__law_has_places ?D__law_least_right
    (case a1 => k_is)
    (case l1 => k_is)
    (case c1 => k_is)
    (case k1 => k_is)
    case B =>
      refine' Wk.bi_mk KX G ?b0 ?b1 ?b2 ?b3 ?b4 ?b5 ?b6 ?b7 ?b8 ?b9 ?b10 ?b11 ?b12 ?b13 ?b14 ?b15 ?b16 ?b17 ?bL ?bP ?bW
      (case b0 => k_is)
      (case b1 => k_is)
      (case b2 => k_is)
      (case b3 => k_is)
      (case b4 => k_is)
      (case b5 => k_is)
      (case b6 => k_is)
      (case b7 => k_is)
      (case b8 => k_is)
      (case b9 => k_is)
      (case b10 => k_is)
      (case b11 => k_is)
      (case b12 => k_is)
      (case b13 => k_is)
      (case b14 => k_is)
      (case b15 => k_is)
      (case b16 => k_is)
      (case b17 => k_is)
      (case bL => k_is)
      (case bP => k_is)
      (case bW => k_is)
    case D_steps_of =>
      refine' Wk.df_mk KX G ?a ?l ?c ?k (fun _ _ _ _ _ _ us hl => match us, hl with | [_], _ => rfl)
      (case a => k_is)
      (case l => k_is)
      (case c => k_is)
      (case k => k_is)
    case D_straightened =>
      refine' Wk.df_mk KX G ?a ?l ?c ?k (fun _ _ _ _ _ _ us hl => match us, hl with | [_], _ => rfl)
      (case a => k_is)
      (case l => k_is)
      (case c => k_is)
      (case k => k_is)
    case D__law_straight =>
      refine' Wk.df_mk KX G ?a ?l ?c ?k (fun _ _ _ _ _ _ us hl => match us, hl with | [_], _ => rfl)
      (case a => k_is)
      (case l => k_is)
      (case c => k_is)
      (case k => k_is)
    case D_is_integer =>
      refine' Wk.df_mk KX G ?a ?l ?c ?k (fun _ _ _ _ _ _ us hl => match us, hl with | [_], _ => rfl)
      (case a => k_is)
      (case l => k_is)
      (case c => k_is)
      (case k => k_is)
    case D__law_is_whole =>
      refine' Wk.df_mk KX G ?a ?l ?c ?k (fun _ _ _ _ _ _ us hl => match us, hl with | [_], _ => rfl)
      (case a => k_is)
      (case l => k_is)
      (case c => k_is)
      (case k => k_is)
    case D_is_letters =>
      refine' Wk.df_mk KX G ?a ?l ?c ?k (fun _ _ _ _ _ _ us hl => match us, hl with | [_], _ => rfl)
      (case a => k_is)
      (case l => k_is)
      (case c => k_is)
      (case k => k_is)
    case D_is_step =>
      refine' Wk.df_mk KX G ?a ?l ?c ?k (fun _ _ _ _ _ _ us hl => match us, hl with | [_, _], _ => rfl)
      (case a => k_is)
      (case l => k_is)
      (case c => k_is)
      (case k => k_is)
    case D_is_a_walk =>
      refine' Wk.df_mk KX G ?a ?l ?c ?k (fun _ _ _ _ _ _ us hl => match us, hl with | [_, _], _ => rfl)
      (case a => k_is)
      (case l => k_is)
      (case c => k_is)
      (case k => k_is)
    case D_is_a_row =>
      refine' Wk.df_mk KX G ?a ?l ?c ?k (fun _ _ _ _ _ _ us hl => match us, hl with | [_, _, _], _ => rfl)
      (case a => k_is)
      (case l => k_is)
      (case c => k_is)
      (case k => k_is)
    case D_doors_of =>
      refine' Wk.df_mk KX G ?a ?l ?c ?k (fun _ _ _ _ _ _ us hl => match us, hl with | [_], _ => rfl)
      (case a => k_is)
      (case l => k_is)
      (case c => k_is)
      (case k => k_is)
    case D__law_doors =>
      refine' Wk.df_mk KX G ?a ?l ?c ?k (fun _ _ _ _ _ _ us hl => match us, hl with | [_], _ => rfl)
      (case a => k_is)
      (case l => k_is)
      (case c => k_is)
      (case k => k_is)
    case D_is_one_way =>
      refine' Wk.df_mk KX G ?a ?l ?c ?k (fun _ _ _ _ _ _ us hl => match us, hl with | [_, _], _ => rfl)
      (case a => k_is)
      (case l => k_is)
      (case c => k_is)
      (case k => k_is)
    case D_first_order =>
      refine' Wk.df_mk KX G ?a ?l ?c ?k (fun _ _ _ _ _ _ us hl => match us, hl with | [_, _, _], _ => rfl)
      (case a => k_is)
      (case l => k_is)
      (case c => k_is)
      (case k => k_is)
    case D_is_a_web =>
      refine' Wk.df_mk KX G ?a ?l ?c ?k (fun _ _ _ _ _ _ us hl => match us, hl with | [_], _ => rfl)
      (case a => k_is)
      (case l => k_is)
      (case c => k_is)
      (case k => k_is)
    case D_need_web =>
      refine' Wk.df_mk KX G ?a ?l ?c ?k (fun _ _ _ _ _ _ us hl => match us, hl with | [_], _ => rfl)
      (case a => k_is)
      (case l => k_is)
      (case c => k_is)
      (case k => k_is)
    case D_first_ways =>
      refine' Wk.df_mk KX G ?a ?l ?c ?k (fun _ _ _ _ _ _ us hl => match us, hl with | [_, _, _], _ => rfl)
      (case a => k_is)
      (case l => k_is)
      (case c => k_is)
      (case k => k_is)
    case D_ways_of =>
      refine' Wk.df_mk KX G ?a ?l ?c ?k (fun _ _ _ _ _ _ us hl => match us, hl with | [_], _ => rfl)
      (case a => k_is)
      (case l => k_is)
      (case c => k_is)
      (case k => k_is)
    case D_is_a_turn =>
      refine' Wk.df_mk KX G ?a ?l ?c ?k (fun _ _ _ _ _ _ us hl => match us, hl with | [_, _], _ => rfl)
      (case a => k_is)
      (case l => k_is)
      (case c => k_is)
      (case k => k_is)
    case D_is_a_book =>
      refine' Wk.df_mk KX G ?a ?l ?c ?k (fun _ _ _ _ _ _ us hl => match us, hl with | [_], _ => rfl)
      (case a => k_is)
      (case l => k_is)
      (case c => k_is)
      (case k => k_is)
    case D__law_is_book =>
      refine' Wk.df_mk KX G ?a ?l ?c ?k (fun _ _ _ _ _ _ us hl => match us, hl with | [_, _], _ => rfl)
      (case a => k_is)
      (case l => k_is)
      (case c => k_is)
      (case k => k_is)
    case D_places_of =>
      refine' Wk.df_mk KX G ?a ?l ?c ?k (fun _ _ _ _ _ _ us hl => match us, hl with | [_], _ => rfl)
      (case a => k_is)
      (case l => k_is)
      (case c => k_is)
      (case k => k_is)
    case D_turns_by_step =>
      refine' Wk.df_mk KX G ?a ?l ?c ?k (fun _ _ _ _ _ _ us hl => match us, hl with | [_], _ => rfl)
      (case a => k_is)
      (case l => k_is)
      (case c => k_is)
      (case k => k_is)
    case D__law_rows =>
      refine' Wk.df_mk KX G ?a ?l ?c ?k (fun _ _ _ _ _ _ us hl => match us, hl with | [_], _ => rfl)
      (case a => k_is)
      (case l => k_is)
      (case c => k_is)
      (case k => k_is)
    case D_turned_by =>
      refine' Wk.df_mk KX G ?a ?l ?c ?k (fun _ _ _ _ _ _ us hl => match us, hl with | [_, _], _ => rfl)
      (case a => k_is)
      (case l => k_is)
      (case c => k_is)
      (case k => k_is)
    case D_need_web_and_walks =>
      refine' Wk.df_mk KX G ?a ?l ?c ?k (fun _ _ _ _ _ _ us hl => match us, hl with | [_, _], _ => rfl)
      (case a => k_is)
      (case l => k_is)
      (case c => k_is)
      (case k => k_is)
    case D_hung =>
      refine' Wk.df_mk KX G ?a ?l ?c ?k (fun _ _ _ _ _ _ us hl => match us, hl with | [_, _], _ => rfl)
      (case a => k_is)
      (case l => k_is)
      (case c => k_is)
      (case k => k_is)
    case D__law_hung =>
      refine' Wk.df_mk KX G ?a ?l ?c ?k (fun _ _ _ _ _ _ us hl => match us, hl with | [_, _], _ => rfl)
      (case a => k_is)
      (case l => k_is)
      (case c => k_is)
      (case k => k_is)
    case D_completed =>
      refine' Wk.df_mk KX G ?a ?l ?c ?k (fun _ _ _ _ _ _ us hl => match us, hl with | [_, _], _ => rfl)
      (case a => k_is)
      (case l => k_is)
      (case c => k_is)
      (case k => k_is)
    case D_fits =>
      refine' Wk.df_mk KX G ?a ?l ?c ?k (fun _ _ _ _ _ _ us hl => match us, hl with | [_, _], _ => rfl)
      (case a => k_is)
      (case l => k_is)
      (case c => k_is)
      (case k => k_is)
    case D__law_fits =>
      refine' Wk.df_mk KX G ?a ?l ?c ?k (fun _ _ _ _ _ _ us hl => match us, hl with | [_, _], _ => rfl)
      (case a => k_is)
      (case l => k_is)
      (case c => k_is)
      (case k => k_is)
    case D_parting =>
      refine' Wk.df_mk KX G ?a ?l ?c ?k (fun _ _ _ _ _ _ us hl => match us, hl with | [_, _, _, _], _ => rfl)
      (case a => k_is)
      (case l => k_is)
      (case c => k_is)
      (case k => k_is)
    case D_least_parting =>
      refine' Wk.df_mk KX G ?a ?l ?c ?k (fun _ _ _ _ _ _ us hl => match us, hl with | [_, _], _ => rfl)
      (case a => k_is)
      (case l => k_is)
      (case c => k_is)
      (case k => k_is)
    case D_paper_places =>
      refine' Wk.df_mk KX G ?a ?l ?c ?k (fun _ _ _ _ _ _ us hl => match us, hl with | [_, _], _ => rfl)
      (case a => k_is)
      (case l => k_is)
      (case c => k_is)
      (case k => k_is)
    case D_least_paper =>
      refine' Wk.df_mk KX G ?a ?l ?c ?k (fun _ _ _ _ _ _ us hl => match us, hl with | [_, _], _ => rfl)
      (case a => k_is)
      (case l => k_is)
      (case c => k_is)
      (case k => k_is)
    case D_paper_holds =>
      refine' Wk.df_mk KX G ?a ?l ?c ?k (fun _ _ _ _ _ _ us hl => match us, hl with | [_, _, _], _ => rfl)
      (case a => k_is)
      (case l => k_is)
      (case c => k_is)
      (case k => k_is)
    case D__law_well =>
      refine' Wk.df_mk KX G ?a ?l ?c ?k (fun _ _ _ _ _ _ us hl => match us, hl with | [_, _], _ => rfl)
      (case a => k_is)
      (case l => k_is)
      (case c => k_is)
      (case k => k_is)
    case D__law_pick =>
      refine' Wk.df_mk KX G ?a ?l ?c ?k (fun _ _ _ _ _ _ us hl => match us, hl with | [_, _], _ => rfl)
      (case a => k_is)
      (case l => k_is)
      (case c => k_is)
      (case k => k_is)
    case D__law_back =>
      refine' Wk.df_mk KX G ?a ?l ?c ?k (fun _ _ _ _ _ _ us hl => match us, hl with | [_], _ => rfl)
      (case a => k_is)
      (case l => k_is)
      (case c => k_is)
      (case k => k_is)
    case D__law_led =>
      refine' Wk.df_mk KX G ?a ?l ?c ?k (fun _ _ _ _ _ _ us hl => match us, hl with | [_, _, _], _ => rfl)
      (case a => k_is)
      (case l => k_is)
      (case c => k_is)
      (case k => k_is)
    case D__law_walk =>
      refine' Wk.df_mk KX G ?a ?l ?c ?k (fun _ _ _ _ _ _ us hl => match us, hl with | [_, _, _], _ => rfl)
      (case a => k_is)
      (case l => k_is)
      (case c => k_is)
      (case k => k_is)
    case D__law_path =>
      refine' Wk.df_mk KX G ?a ?l ?c ?k (fun _ _ _ _ _ _ us hl => match us, hl with | [_, _, _, _], _ => rfl)
      (case a => k_is)
      (case l => k_is)
      (case c => k_is)
      (case k => k_is)
    case D__law_away =>
      refine' Wk.df_mk KX G ?a ?l ?c ?k (fun _ _ _ _ _ _ us hl => match us, hl with | [_, _, _, _, _], _ => rfl)
      (case a => k_is)
      (case l => k_is)
      (case c => k_is)
      (case k => k_is)
    case D__law_walks =>
      refine' Wk.df_mk KX G ?a ?l ?c ?k (fun _ _ _ _ _ _ us hl => match us, hl with | [_, _, _, _], _ => rfl)
      (case a => k_is)
      (case l => k_is)
      (case c => k_is)
      (case k => k_is)
    case D__law_named =>
      refine' Wk.df_mk KX G ?a ?l ?c ?k (fun _ _ _ _ _ _ us hl => match us, hl with | [_, _], _ => rfl)
      (case a => k_is)
      (case l => k_is)
      (case c => k_is)
      (case k => k_is)
    case D__law_web =>
      refine' Wk.df_mk KX G ?a ?l ?c ?k (fun _ _ _ _ _ _ us hl => match us, hl with | [_, _, _, _], _ => rfl)
      (case a => k_is)
      (case l => k_is)
      (case c => k_is)
      (case k => k_is)
    case D__law_keeps =>
      refine' Wk.df_mk KX G ?a ?l ?c ?k (fun _ _ _ _ _ _ us hl => match us, hl with | [_, _, _], _ => rfl)
      (case a => k_is)
      (case l => k_is)
      (case c => k_is)
      (case k => k_is)
    case D__law_has_places =>
      refine' Wk.df_mk KX G ?a ?l ?c ?k (fun _ _ _ _ _ _ us hl => match us, hl with | [_, _, _], _ => rfl)
      (case a => k_is)
      (case l => k_is)
      (case c => k_is)
      (case k => k_is)
    case D__law_least_right =>
      refine' Wk.df_mk KX G ?a ?l ?c ?k (fun _ _ _ _ _ _ us hl => match us, hl with | [_, _, _, _], _ => rfl)
      (case a => k_is)
      (case l => k_is)
      (case c => k_is)
      (case k => k_is)
