import PyProof.Rows.All
import Wide.All
import OpenK.AllK
import Wide.FinOn
import PySem.Challenge.RW_unpartedrows_k26_whole_greatest_choices
import HandS.ForMost
import HandS.ForExc
import HandS.IsInst
import HandS.Strs
import HandS.Conv
import HandS.Style
import HandS.SortRule
import HandS.SortInts
import HandS.SetFor
import HandS.Deep
import HandS.TupAny
import KE.KEqSeq
import HandS.Codes
set_option Elab.async false
set_option linter.all false
set_option maxRecDepth 100000
set_option maxHeartbeats 4000000
namespace K26
/-! ### trees -/
inductive Tree where
  | leaf (i : Int)
  | node (row : Bool) (ts : List Tree)
  deriving Inhabited
mutual
def leaves : Tree → List Int
  | .leaf i => [i]
  | .node _ ts => leavesL ts
def leavesL : List Tree → List Int
  | [] => []
  | t :: r => leaves t ++ leavesL r
end
mutual
def Wf : Tree → Prop
  | .leaf _ => True
  | .node _ ts => 2 ≤ ts.length ∧ WfL ts
def WfL : List Tree → Prop
  | [] => True
  | t :: r => Wf t ∧ WfL r
end
theorem wfL_iff : ∀ {ts : List Tree}, WfL ts ↔ ∀ t ∈ ts, Wf t
  | [] => by simp [WfL]
  | t :: r => by rw [WfL, wfL_iff (ts := r)]; simp
theorem leavesL_eq : ∀ ts : List Tree, leavesL ts = ts.flatMap leaves
  | [] => by simp [leavesL]
  | t :: r => by rw [leavesL, leavesL_eq r, List.flatMap_cons]
theorem leavesL_append (a b : List Tree) : leavesL (a ++ b) = leavesL a ++ leavesL b := by
  rw [leavesL_eq, leavesL_eq, leavesL_eq, List.flatMap_append]
theorem leavesL_single (t : Tree) : leavesL [t] = leaves t := by simp [leavesL]
theorem leavesL_perm {a b : List Tree} (h : a.Perm b) : (leavesL a).Perm (leavesL b) := by
  rw [leavesL_eq, leavesL_eq]
  exact List.Perm.flatMap_right leaves h
mutual
theorem leaves_pos : ∀ t : Tree, Wf t → 0 < (leaves t).length
  | .leaf _, _ => by simp [leaves]
  | .node _ ts, h => by
    rw [Wf] at h
    have := leavesL_len ts h.2
    rw [leaves]
    omega
theorem leavesL_len : ∀ ts : List Tree, WfL ts → ts.length ≤ (leavesL ts).length
  | [], _ => by simp
  | t :: r, h => by
    rw [WfL] at h
    have h1 := leaves_pos t h.1
    have h2 := leavesL_len r h.2
    rw [leavesL, List.length_append, List.length_cons]
    omega
end
theorem child_le : ∀ {ts : List Tree} {t : Tree}, WfL ts → t ∈ ts → (leaves t).length + (ts.length - 1) ≤ (leavesL ts).length
  | [], _, _, h => by cases h
  | a :: r, t, hw, h => by
    rw [WfL] at hw
    rw [leavesL, List.length_append, List.length_cons]
    cases h with
    | head => have := leavesL_len r hw.2; omega
    | tail _ h =>
      have h1 := child_le hw.2 h
      have h2 := leaves_pos a hw.1
      have h3 : 0 < r.length := List.length_pos_of_mem h
      omega
theorem child_lt {w : Bool} {ts : List Tree} {t : Tree} (h : Wf (.node w ts)) (m : t ∈ ts) : (leaves t).length < (leavesL ts).length := by
  rw [Wf] at h
  have := child_le h.2 m
  omega
theorem child_wf {w : Bool} {ts : List Tree} {t : Tree} (h : Wf (.node w ts)) (m : t ∈ ts) : Wf t := by
  rw [Wf] at h
  exact wfL_iff.mp h.2 t m
/-! ### shares -/
inductive Sh where
  | no | all | some
  deriving DecidableEq
def cnt (c : List Int) (t : Tree) : Nat := ((leaves t).filter fun x => decide (x ∈ c)).length
def share (c : List Int) (t : Tree) : Sh := if cnt c t = 0 then .no else if cnt c t = (leaves t).length then .all else .some
def pick (c : List Int) (s : Sh) (ts : List Tree) : List Tree := ts.filter fun t => decide (share c t = s)
theorem pick_perm (c : List Int) : ∀ ts : List Tree, (pick c .no ts ++ (pick c .some ts ++ pick c .all ts)).Perm ts
  | [] => .nil
  | t :: r => by
    have ih := pick_perm c r
    unfold pick at ih ⊢
    rw [List.filter_cons, List.filter_cons, List.filter_cons]
    cases h : share c t with
    | no => simpa using ih
    | some =>
      simp only [reduceCtorEq, decide_false, decide_true, if_false, if_true]
      refine (List.perm_middle (l₁ := r.filter fun t => decide (share c t = .no))).trans ?_
      exact .cons _ ih
    | all =>
      simp only [reduceCtorEq, decide_false, decide_true, if_false, if_true]
      rw [← List.append_assoc]
      refine (List.perm_middle (l₁ := (r.filter fun t => decide (share c t = .no)) ++ (r.filter fun t => decide (share c t = .some)))).trans ?_
      rw [List.append_assoc]
      exact .cons _ ih
theorem pick_mem {c : List Int} {s : Sh} {ts : List Tree} {t : Tree} (h : t ∈ pick c s ts) : t ∈ ts ∧ share c t = s := by
  unfold pick at h
  rw [List.mem_filter, decide_eq_true_eq] at h
  exact h
theorem pick_wf {c : List Int} {s : Sh} {ts : List Tree} (h : WfL ts) : WfL (pick c s ts) := wfL_iff.mpr fun t m => wfL_iff.mp h t (pick_mem m).1
theorem some_node {c : List Int} {t : Tree} (h : share c t = .some) : ∃ w ts, t = .node w ts := by
  cases t with
  | node w ts => exact ⟨w, ts, rfl⟩
  | leaf i =>
    exfalso
    unfold share cnt at h
    rw [leaves] at h
    by_cases m : i ∈ c
    · simp [m] at h
    · simp [m] at h
/-! ### making -/
def mkAny : List Tree → Tree
  | [t] => t
  | ts => .node false ts
def mkRow (ts : List Tree) : Tree := if ts.length < 3 then mkAny ts else .node true ts
theorem mkAny_one {ts : List Tree} (h : ts.length = 1) : mkAny ts = ts.getD 0 default := by
  match ts, h with
  | [t], _ => rfl
theorem mkAny_ne {ts : List Tree} (h : ts.length ≠ 1) : mkAny ts = .node false ts := by
  match ts, h with
  | [], _ => rfl
  | [t], h => exact absurd rfl h
  | _ :: _ :: _, _ => rfl
theorem mkAny_leaves (ts : List Tree) : leaves (mkAny ts) = leavesL ts := by
  by_cases h : ts.length = 1
  · match ts, h with
    | [t], _ => rw [leavesL_single]; rfl
  · rw [mkAny_ne h, leaves]
theorem mkAny_wf {ts : List Tree} (h0 : ts ≠ []) (h : WfL ts) : Wf (mkAny ts) := by
  by_cases h1 : ts.length = 1
  · match ts, h1 with
    | [t], _ => rw [WfL] at h; exact h.1
  · rw [mkAny_ne h1, Wf]
    have : 0 < ts.length := List.length_pos_iff.mpr h0
    exact ⟨by omega, h⟩
theorem mkRow_leaves (ts : List Tree) : leaves (mkRow ts) = leavesL ts := by
  unfold mkRow
  split
  · exact mkAny_leaves ts
  · rw [leaves]
theorem mkRow_wf {ts : List Tree} (h0 : ts ≠ []) (h : WfL ts) : Wf (mkRow ts) := by
  unfold mkRow
  split
  · exact mkAny_wf h0 h
  · rw [Wf]; exact ⟨by omega, h⟩
theorem wfL_append {a b : List Tree} (ha : WfL a) (hb : WfL b) : WfL (a ++ b) := wfL_iff.mpr fun t m => by
  rcases List.mem_append.mp m with m | m
  · exact wfL_iff.mp ha t m
  · exact wfL_iff.mp hb t m
theorem wfL_single {t : Tree} (h : Wf t) : WfL [t] := by rw [WfL]; exact ⟨h, trivial⟩
theorem wfL_rev {a : List Tree} (h : WfL a) : WfL a.reverse := wfL_iff.mpr fun t m => wfL_iff.mp h t (List.mem_reverse.mp m)
theorem wfL_of_perm {a b : List Tree} (p : a.Perm b) (h : WfL a) : WfL b := wfL_iff.mpr fun t m => wfL_iff.mp h t (p.mem_iff.mpr m)
theorem wfL_take {a : List Tree} (n : Nat) (h : WfL a) : WfL (a.take n) := wfL_iff.mpr fun t m => wfL_iff.mp h t (List.mem_of_mem_take m)
theorem wfL_drop {a : List Tree} (n : Nat) (h : WfL a) : WfL (a.drop n) := wfL_iff.mpr fun t m => wfL_iff.mp h t (List.mem_of_mem_drop m)
/-- nothing, or the one tree any -/
def optAny (ts : List Tree) : List Tree := if ts = [] then [] else [mkAny ts]
theorem optAny_nil : optAny [] = [] := rfl
theorem optAny_ne {ts : List Tree} (h : ts ≠ []) : optAny ts = [mkAny ts] := if_neg h
theorem optAny_leaves (ts : List Tree) : leavesL (optAny ts) = leavesL ts := by
  unfold optAny
  split
  · rename_i h; rw [h]
  · rw [leavesL_single, mkAny_leaves]
theorem optAny_wf {ts : List Tree} (h : WfL ts) : WfL (optAny ts) := by
  unfold optAny
  split
  · rw [WfL]; trivial
  · rename_i h0; exact wfL_single (mkAny_wf h0 h)
/-! ### gathering pieces -/
def gather {α : Type} (g : α → Option (List Tree)) : List α → Option (List Tree)
  | [] => some []
  | x :: r => match g x with
    | none => none
    | some a => match gather g r with
      | none => none
      | some b => some (a ++ b)
theorem gather_snoc {α : Type} {g : α → Option (List Tree)} {a b : List Tree} {x : α} : ∀ {l : List α}, gather g l = some a → g x = some b → gather g (l ++ [x]) = some (a ++ b) := by
  intro l
  induction l generalizing a with
  | nil =>
    intro h1 h2
    simp only [gather, Option.some.injEq] at h1
    subst h1
    show gather g [x] = _
    simp [gather, h2]
  | cons y r ih =>
    intro h1 h2
    simp only [gather] at h1
    split at h1
    · cases h1
    · rename_i c hc
      split at h1
      · cases h1
      · rename_i d hd
        simp only [Option.some.injEq] at h1
        subst h1
        show gather g (y :: (r ++ [x])) = _
        simp only [gather, hc, ih hd h2, List.append_assoc]
theorem gather_none {α : Type} {g : α → Option (List Tree)} {x : α} (hx : g x = none) : ∀ {l : List α}, x ∈ l → gather g l = none
  | y :: r, h => by
    simp only [gather]
    cases h with
    | head => rw [hx]
    | tail _ h =>
      rw [gather_none hx h]
      split <;> rfl
theorem gather_all {α : Type} {g : α → Option (List Tree)} {P : List Tree → Prop} (h0 : P []) (ha : ∀ a b, P a → P b → P (a ++ b)) : ∀ {l : List α} {r : List Tree}, (∀ x ∈ l, ∀ b, g x = some b → P b) → gather g l = some r → P r
  | [], r, _, h => by
    simp only [gather, Option.some.injEq] at h
    rw [← h]; exact h0
  | y :: l, r, hg, h => by
    simp only [gather] at h
    split at h
    · cases h
    · rename_i c hc
      split at h
      · cases h
      · rename_i d hd
        simp only [Option.some.injEq] at h
        rw [← h]
        exact ha _ _ (hg y List.mem_cons_self c hc) (gather_all h0 ha (fun x m => hg x (List.mem_cons_of_mem _ m)) hd)
theorem gather_leaves {α : Type} {g : α → Option (List Tree)} {L : α → List Int} : ∀ {l : List α} {r : List Tree}, (∀ x ∈ l, ∀ b, g x = some b → (leavesL b).Perm (L x)) → gather g l = some r → (leavesL r).Perm (l.flatMap L)
  | [], r, _, h => by
    simp only [gather, Option.some.injEq] at h
    rw [← h, leavesL]; exact .nil
  | y :: l, r, hg, h => by
    simp only [gather] at h
    split at h
    · cases h
    · rename_i c hc
      split at h
      · cases h
      · rename_i d hd
        simp only [Option.some.injEq] at h
        rw [← h, leavesL_append, List.flatMap_cons]
        exact (hg y List.mem_cons_self c hc).append (gather_leaves (fun x m => hg x (List.mem_cons_of_mem _ m)) hd)
/-! ### splitting -/
def rank : Sh → Int
  | .no => 0
  | .some => 1
  | .all => 2
def sortI (l : List Int) : List Int := l.mergeSort (fun a b => decide (a ≤ b))
/-- the shares ascend, and at most one is «some» -/
def ascends (ss : List Sh) : Bool := decide (ss.map rank = sortI (ss.map rank)) && decide ((ss.map rank).count 1 < 2)
def splitAny (f : Tree → Option (List Tree)) (c : List Int) (ts : List Tree) : Option (List Tree) :=
  match pick c .some ts with
  | [] => some (optAny (pick c .no ts) ++ optAny (pick c .all ts))
  | [m] => match f m with
    | none => none
    | some a => some (optAny (pick c .no ts) ++ a ++ optAny (pick c .all ts))
  | _ => none
def piece (f : Tree → Option (List Tree)) (c : List Int) (t : Tree) : Option (List Tree) := if share c t = .some then f t else some [t]
def told (c : List Int) (ts : List Tree) : List Tree := if ascends (ts.map (share c)) then ts else ts.reverse
def splitRow (f : Tree → Option (List Tree)) (c : List Int) (ts : List Tree) : Option (List Tree) :=
  if ascends ((told c ts).map (share c)) then gather (piece f c) (told c ts) else none
def splitN (c : List Int) : Nat → Tree → Option (List Tree)
  | 0, _ => none
  | _ + 1, .leaf _ => none
  | n + 1, .node false ts => splitAny (splitN c n) c ts
  | n + 1, .node true ts => splitRow (splitN c n) c ts
/-- a list into which a tree is split -/
structure IsSplit (t : Tree) (l : List Tree) : Prop where
  wf : WfL l
  perm : (leavesL l).Perm (leaves t)
theorem IsSplit.ne {t : Tree} {l : List Tree} (h : IsSplit t l) (w : Wf t) : l ≠ [] := fun e => by
  have h1 := h.perm.length_eq
  have h2 := leaves_pos t w
  rw [e, leavesL] at h1
  simp at h1
  omega
theorem told_perm (c : List Int) (ts : List Tree) : (told c ts).Perm ts := by
  unfold told
  split
  · exact .refl _
  · exact List.reverse_perm ts
theorem splitAny_is {f : Tree → Option (List Tree)} {c : List Int} {w : Bool} {ts l : List Tree} (hw : Wf (.node w ts)) (hf : ∀ t ∈ ts, ∀ l, f t = some l → IsSplit t l) (h : splitAny f c ts = some l) : IsSplit (.node w ts) l := by
  have pp := leavesL_perm (pick_perm c ts)
  rw [leavesL_append, leavesL_append] at pp
  have hl : WfL ts := by rw [Wf] at hw; exact hw.2
  unfold splitAny at h
  split at h
  · rename_i hm
    rw [hm, leavesL, List.nil_append] at pp
    injection h with h
    subst h
    refine ⟨wfL_append (optAny_wf (pick_wf hl)) (optAny_wf (pick_wf hl)), ?_⟩
    rw [leavesL_append, optAny_leaves, optAny_leaves, leaves]
    exact pp
  · rename_i m hm
    rw [hm, leavesL_single] at pp
    split at h
    · cases h
    · rename_i a ha
      injection h with h
      subst h
      have mm : m ∈ ts := (pick_mem (c := c) (s := .some) (by rw [hm]; exact List.mem_cons_self)).1
      have q := hf m mm a ha
      refine ⟨wfL_append (wfL_append (optAny_wf (pick_wf hl)) q.wf) (optAny_wf (pick_wf hl)), ?_⟩
      rw [leavesL_append, leavesL_append, optAny_leaves, optAny_leaves, leaves, List.append_assoc]
      exact ((List.Perm.refl _).append (q.perm.append (.refl _))).trans pp
  · cases h
theorem splitRow_is {f : Tree → Option (List Tree)} {c : List Int} {w : Bool} {ts l : List Tree} (hw : Wf (.node w ts)) (hf : ∀ t ∈ ts, ∀ l, f t = some l → IsSplit t l) (h : splitRow f c ts = some l) : IsSplit (.node w ts) l := by
  have hl : WfL ts := by rw [Wf] at hw; exact hw.2
  have tp := told_perm c ts
  unfold splitRow at h
  split at h
  · have pc : ∀ x ∈ told c ts, ∀ b, piece f c x = some b → IsSplit x b := fun x m b e => by
      have mx : x ∈ ts := tp.mem_iff.mp m
      unfold piece at e
      split at e
      · exact hf x mx b e
      · injection e with e
        subst e
        exact ⟨wfL_single (wfL_iff.mp hl x mx), by rw [leavesL_single]⟩
    refine ⟨gather_all (P := WfL) (by rw [WfL]; trivial) (fun _ _ => wfL_append) (fun x m b e => (pc x m b e).wf) h, ?_⟩
    have q := gather_leaves (L := leaves) (fun x m b e => (pc x m b e).perm) h
    rw [← leavesL_eq] at q
    rw [leaves]
    exact q.trans (leavesL_perm tp)
  · cases h
theorem splitN_is {c : List Int} : ∀ {n : Nat} {t : Tree} {l : List Tree}, Wf t → splitN c n t = some l → IsSplit t l
  | 0, _, _, _, h => by cases h
  | n + 1, .leaf _, _, _, h => by cases h
  | n + 1, .node false ts, l, hw, h => splitAny_is hw (fun t m l e => splitN_is (child_wf hw m) e) h
  | n + 1, .node true ts, l, hw, h => splitRow_is hw (fun t m l e => splitN_is (child_wf hw m) e) h
/-! ### joining -/
def touched (c : List Int) (ts : List Tree) : List Nat := (List.range ts.length).filter fun i => decide (share c (ts.getD i default) ≠ .no)
def joinedAny (f : Tree → Option (List Tree)) (c : List Int) (ts : List Tree) : Option Tree :=
  match pick c .some ts with
  | [] => some (mkAny (pick c .no ts ++ [mkAny (pick c .all ts)]))
  | [a] => match f a with
    | none => none
    | some la => some (mkAny (pick c .no ts ++ [mkRow (la ++ optAny (pick c .all ts))]))
  | [a, b] => match f a with
    | none => none
    | some la => match f b with
      | none => none
      | some lb => some (mkAny (pick c .no ts ++ [mkRow (la ++ optAny (pick c .all ts) ++ lb.reverse)]))
  | _ => none
def rowPiece (f : Tree → Option (List Tree)) (c : List Int) (ts : List Tree) (last : Nat) (i : Nat) : Option (List Tree) :=
  if share c (ts.getD i default) = .some then
    match f (ts.getD i default) with
    | none => none
    | some a => some (if i = last then a.reverse else a)
  else some [ts.getD i default]
def joinedRowAt (f : Tree → Option (List Tree)) (c : List Int) (ts : List Tree) (first last : Nat) : Option Tree :=
  if (List.range' (first + 1) (last - (first + 1))).filter (fun i => decide (share c (ts.getD i default) ≠ .all)) = [] then
    match gather (rowPiece f c ts last) (List.range' first (last + 1 - first)) with
    | none => none
    | some m => some (mkRow (ts.take first ++ m ++ ts.drop (last + 1)))
  else none
def joinedRow (f : Tree → Option (List Tree)) (c : List Int) (ts : List Tree) : Option Tree :=
  joinedRowAt f c ts ((touched c ts).getD 0 0) ((touched c ts).getLastD 0)
def joinN (f : Tree → Option (List Tree)) (c : List Int) : Nat → Tree → Option Tree
  | 0, _ => none
  | _ + 1, .leaf i => some (.leaf i)
  | n + 1, .node w ts =>
    if share c (.node w ts) = .all then some (.node w ts)
    else match touched c ts with
      | [k] => match joinN f c n (ts.getD k default) with
        | none => none
        | some u => some (.node w (ts.take k ++ [u] ++ ts.drop (k + 1)))
      | _ => if w then joinedRow f c ts else joinedAny f c ts
end K26
namespace K26
/-! ### touched -/
theorem share_no {c : List Int} {t : Tree} : share c t = .no ↔ ∀ x ∈ leaves t, x ∉ c := by
  unfold share
  constructor
  · intro h x hx hc
    split at h
    · rename_i h0
      unfold cnt at h0
      have : x ∈ (leaves t).filter fun x => decide (x ∈ c) := List.mem_filter.mpr ⟨hx, decide_eq_true hc⟩
      rw [List.length_eq_zero_iff.mp h0] at this
      cases this
    · split at h <;> cases h
  · intro h
    rw [if_pos]
    unfold cnt
    rw [List.length_eq_zero_iff, List.filter_eq_nil_iff]
    intro x hx
    simpa using h x hx
theorem mem_leavesL {ts : List Tree} {x : Int} : x ∈ leavesL ts ↔ ∃ t ∈ ts, x ∈ leaves t := by
  rw [leavesL_eq, List.mem_flatMap]
theorem hit_part {c : List Int} {w : Bool} {ts : List Tree} (h : share c (.node w ts) ≠ .no) : ∃ t ∈ ts, share c t ≠ .no := by
  apply Classical.byContradiction
  intro hn
  apply h
  rw [share_no]
  intro x hx hc
  rw [leaves, mem_leavesL] at hx
  obtain ⟨t, m, hx⟩ := hx
  exact hn ⟨t, m, fun e => share_no.mp e x hx hc⟩
theorem hit_of {c : List Int} {t : Tree} {x : Int} (h1 : x ∈ leaves t) (h2 : x ∈ c) : share c t ≠ .no := fun e => share_no.mp e x h1 h2
theorem getD_of_lt {ts : List Tree} {i : Nat} (h : i < ts.length) : ts.getD i default = ts[i] := by
  rw [List.getD_eq_getElem?_getD, List.getElem?_eq_getElem h]; rfl
theorem mem_touched {c : List Int} {ts : List Tree} {i : Nat} : i ∈ touched c ts ↔ i < ts.length ∧ share c (ts.getD i default) ≠ .no := by
  unfold touched
  rw [List.mem_filter, List.mem_range, decide_eq_true_eq]
theorem touched_ne {c : List Int} {w : Bool} {ts : List Tree} (h : share c (.node w ts) ≠ .no) : touched c ts ≠ [] := by
  obtain ⟨t, m, ht⟩ := hit_part h
  obtain ⟨i, hi, e⟩ := List.mem_iff_getElem.mp m
  intro e0
  have : i ∈ touched c ts := mem_touched.mpr ⟨hi, by rw [getD_of_lt hi, e]; exact ht⟩
  rw [e0] at this
  cases this
theorem touched_sorted (c : List Int) (ts : List Tree) : (touched c ts).Pairwise (· < ·) := by
  unfold touched
  exact List.Pairwise.filter _ List.pairwise_lt_range
theorem getD_zero_mem {l : List Nat} (h : l ≠ []) : l.getD 0 0 ∈ l := by
  cases l with
  | nil => exact absurd rfl h
  | cons a r => exact List.mem_cons_self
theorem getLastD_in : ∀ (l : List Nat) (d : Nat), l.getLastD d ∈ d :: l
  | [], d => by simp
  | a :: r, d => by
    rw [List.getLastD_cons]
    exact List.mem_cons_of_mem _ (getLastD_in r a)
theorem getLastD_mem {l : List Nat} (h : l ≠ []) : l.getLastD 0 ∈ l := by
  cases l with
  | nil => exact absurd rfl h
  | cons a r => rw [List.getLastD_cons]; exact getLastD_in r a
theorem first_le_last {l : List Nat} (h : l ≠ []) (s : l.Pairwise (· < ·)) : l.getD 0 0 ≤ l.getLastD 0 := by
  cases l with
  | nil => exact absurd rfl h
  | cons a r =>
    have m := getLastD_mem h
    rcases List.mem_cons.mp m with e | e
    · rw [e]; exact Nat.le_refl _
    · exact Nat.le_of_lt (List.rel_of_pairwise_cons s e)
theorem flatMap_range' (ts : List Tree) : ∀ (k a : Nat), a + k ≤ ts.length → (List.range' a k).flatMap (fun i => leaves (ts.getD i default)) = leavesL ((ts.drop a).take k)
  | 0, a, _ => by simp [leavesL]
  | k + 1, a, h => by
    have h1 : a < ts.length := by omega
    rw [List.range'_succ, List.flatMap_cons, flatMap_range' ts k (a + 1) (by omega), List.drop_eq_getElem_cons h1, List.take_succ_cons, leavesL, getD_of_lt h1]
structure IsTree (t u : Tree) : Prop where
  wf : Wf u
  perm : (leaves u).Perm (leaves t)
theorem joinedAny_is {f : Tree → Option (List Tree)} {c : List Int} {ts : List Tree} {u : Tree} (hw : Wf (.node false ts)) (hh : share c (.node false ts) ≠ .no) (hf : ∀ t ∈ ts, ∀ l, f t = some l → IsSplit t l) (h : joinedAny f c ts = some u) : IsTree (.node false ts) u := by
  have pp := leavesL_perm (pick_perm c ts)
  rw [leavesL_append, leavesL_append] at pp
  have hl : WfL ts := by rw [Wf] at hw; exact hw.2
  have sm : ∀ {a : Tree}, a ∈ pick c .some ts → a ∈ ts := fun m => (pick_mem m).1
  unfold joinedAny at h
  split at h
  · rename_i hm
    injection h with h
    subst h
    have ne : pick c .all ts ≠ [] := by
      obtain ⟨t, m, ht⟩ := hit_part hh
      intro e
      cases hs : share c t with
      | no => exact ht hs
      | some =>
        have : t ∈ pick c .some ts := List.mem_filter.mpr ⟨m, decide_eq_true hs⟩
        rw [hm] at this; cases this
      | all =>
        have : t ∈ pick c .all ts := List.mem_filter.mpr ⟨m, decide_eq_true hs⟩
        rw [e] at this; cases this
    refine ⟨mkAny_wf (by simp) (wfL_append (pick_wf hl) (wfL_single (mkAny_wf ne (pick_wf hl)))), ?_⟩
    rw [mkAny_leaves, leavesL_append, leavesL_single, mkAny_leaves, leaves]
    rw [hm, leavesL, List.nil_append] at pp
    exact pp
  · rename_i a hm
    split at h
    · cases h
    · rename_i la ha
      injection h with h
      subst h
      have ma : a ∈ ts := sm (by rw [hm]; exact List.mem_cons_self)
      have qa := hf a ma la ha
      have w1 := wfL_append qa.wf (optAny_wf (pick_wf (c := c) (s := .all) hl))
      have n1 : la ++ optAny (pick c .all ts) ≠ [] := by
        have := qa.ne (wfL_iff.mp hl a ma)
        cases la with
        | nil => exact absurd rfl this
        | cons _ _ => simp
      refine ⟨mkAny_wf (by simp) (wfL_append (pick_wf hl) (wfL_single (mkRow_wf n1 w1))), ?_⟩
      rw [mkAny_leaves, leavesL_append, leavesL_single, mkRow_leaves, leavesL_append, optAny_leaves, leaves]
      rw [hm, leavesL_single] at pp
      exact ((List.Perm.refl _).append (qa.perm.append (.refl _))).trans pp
  · rename_i a b hm
    split at h
    · cases h
    · rename_i la ha
      split at h
      · cases h
      · rename_i lb hb
        injection h with h
        subst h
        have ma : a ∈ ts := sm (by rw [hm]; exact List.mem_cons_self)
        have mb : b ∈ ts := sm (by rw [hm]; exact List.mem_cons_of_mem _ List.mem_cons_self)
        have qa := hf a ma la ha
        have qb := hf b mb lb hb
        have w1 := wfL_append (wfL_append qa.wf (optAny_wf (pick_wf (c := c) (s := .all) hl))) (wfL_rev qb.wf)
        have n1 : la ++ optAny (pick c .all ts) ++ lb.reverse ≠ [] := by
          have := qa.ne (wfL_iff.mp hl a ma)
          cases la with
          | nil => exact absurd rfl this
          | cons _ _ => simp
        refine ⟨mkAny_wf (by simp) (wfL_append (pick_wf hl) (wfL_single (mkRow_wf n1 w1))), ?_⟩
        rw [mkAny_leaves, leavesL_append, leavesL_single, mkRow_leaves, leavesL_append, leavesL_append, optAny_leaves, leaves]
        rw [hm, leavesL, leavesL_single] at pp
        have pb : (leavesL lb.reverse).Perm (leaves b) := (leavesL_perm (List.reverse_perm lb)).trans qb.perm
        refine ((List.Perm.refl _).append ((qa.perm.append (.refl _)).append pb)).trans (List.Perm.trans ?_ pp)
        refine (List.Perm.refl _).append ?_
        rw [List.append_assoc, List.append_assoc]
        exact (List.Perm.refl _).append List.perm_append_comm
  · cases h
theorem joinedRow_is {f : Tree → Option (List Tree)} {c : List Int} {ts : List Tree} {u : Tree} (hw : Wf (.node true ts)) (hh : share c (.node true ts) ≠ .no) (hf : ∀ t ∈ ts, ∀ l, f t = some l → IsSplit t l) (h : joinedRow f c ts = some u) : IsTree (.node true ts) u := by
  have hl : WfL ts := by rw [Wf] at hw; exact hw.2
  have tn := touched_ne hh
  have m1 := mem_touched.mp (getD_zero_mem tn)
  have m2 := mem_touched.mp (getLastD_mem tn)
  have le := first_le_last tn (touched_sorted c ts)
  unfold joinedRow at h
  generalize hfi : (touched c ts).getD 0 0 = first at *
  generalize hla : (touched c ts).getLastD 0 = last at *
  unfold joinedRowAt at h
  split at h
  · split at h
    · cases h
    · rename_i m hm
      injection h with h
      subst h
      have pc : ∀ i ∈ List.range' first (last + 1 - first), ∀ b, rowPiece f c ts last i = some b → IsSplit (ts.getD i default) b := fun i hi b e => by
        have hi' := List.mem_range'_1.mp hi
        have il : i < ts.length := by omega
        have mi : ts.getD i default ∈ ts := by rw [getD_of_lt il]; exact List.getElem_mem il
        unfold rowPiece at e
        split at e
        · split at e
          · cases e
          · rename_i a ha
            injection e with e
            subst e
            have q := hf _ mi a ha
            split
            · exact ⟨wfL_rev q.wf, (leavesL_perm (List.reverse_perm a)).trans q.perm⟩
            · exact q
        · injection e with e
          subst e
          exact ⟨wfL_single (wfL_iff.mp hl _ mi), by rw [leavesL_single]⟩
      have wm : WfL m := gather_all (P := WfL) (by rw [WfL]; trivial) (fun _ _ => wfL_append) (fun x m b e => (pc x m b e).wf) hm
      have pm := gather_leaves (L := fun i => leaves (ts.getD i default)) (fun x m b e => (pc x m b e).perm) hm
      rw [flatMap_range' ts _ _ (by omega)] at pm
      have wa := wfL_append (wfL_append (wfL_take first hl) wm) (wfL_drop (last + 1) hl)
      have pa : (leavesL (ts.take first ++ m ++ ts.drop (last + 1))).Perm (leavesL ts) := by
        have e1 : ts = ts.take first ++ ((ts.drop first).take (last + 1 - first) ++ ts.drop (last + 1)) := by
          have e2 : (ts.drop first).take (last + 1 - first) ++ ts.drop (last + 1) = ts.drop first := by
            have := List.take_append_drop (last + 1 - first) (ts.drop first)
            rw [List.drop_drop, show first + (last + 1 - first) = last + 1 by omega] at this
            exact this
          rw [e2, List.take_append_drop]
        have e3 : leavesL ts = leavesL (ts.take first) ++ (leavesL ((ts.drop first).take (last + 1 - first)) ++ leavesL (ts.drop (last + 1))) := by
          rw [← leavesL_append, ← leavesL_append, ← e1]
        rw [e3, leavesL_append, leavesL_append, List.append_assoc]
        exact (List.Perm.refl _).append (pm.append (.refl _))
      have ne : ts.take first ++ m ++ ts.drop (last + 1) ≠ [] := fun e => by
        have h1 := pa.length_eq
        have h2 := leaves_pos _ hw
        rw [leaves] at h2
        rw [e, leavesL] at h1
        simp at h1
        omega
      refine ⟨mkRow_wf ne wa, ?_⟩
      rw [mkRow_leaves, leaves]
      exact pa
  · cases h
theorem joinN_is {f : Tree → Option (List Tree)} {c : List Int} (hf : ∀ t l, Wf t → f t = some l → IsSplit t l) : ∀ {n : Nat} {t u : Tree}, Wf t → share c t ≠ .no → joinN f c n t = some u → IsTree t u
  | 0, _, _, _, _, h => by cases h
  | n + 1, .leaf i, u, hw, _, h => by
    rw [joinN] at h
    injection h with h
    subst h
    exact ⟨hw, .refl _⟩
  | n + 1, .node w ts, u, hw, hh, h => by
    have hl : WfL ts := by rw [Wf] at hw; exact hw.2
    rw [joinN] at h
    split at h
    · injection h with h
      subst h
      exact ⟨hw, .refl _⟩
    · split at h
      · rename_i k hk
        have mk : k ∈ touched c ts := by rw [hk]; exact List.mem_cons_self
        obtain ⟨kl, ks⟩ := mem_touched.mp mk
        rw [getD_of_lt kl] at h ks
        split at h
        · cases h
        · rename_i v hv
          injection h with h
          subst h
          have mt : ts[k] ∈ ts := List.getElem_mem kl
          have q := joinN_is hf (wfL_iff.mp hl _ mt) ks hv
          have e1 : ts = ts.take k ++ [ts[k]] ++ ts.drop (k + 1) := by
            rw [List.append_assoc, List.singleton_append, ← List.drop_eq_getElem_cons kl, List.take_append_drop]
          refine ⟨?_, ?_⟩
          · rw [Wf] at hw ⊢
            refine ⟨?_, wfL_append (wfL_append (wfL_take k hl) (wfL_single q.wf)) (wfL_drop _ hl)⟩
            rw [List.length_append, List.length_append, List.length_take, List.length_drop, List.length_singleton]
            omega
          · have e3 : leavesL ts = leavesL (ts.take k) ++ leaves ts[k] ++ leavesL (ts.drop (k + 1)) := by
              rw [← leavesL_single (t := ts[k]), ← leavesL_append, ← leavesL_append, ← e1]
            rw [leaves, leaves, e3, leavesL_append, leavesL_append, leavesL_single]
            exact ((List.Perm.refl _).append q.perm).append (.refl _)
      · cases w with
        | false => exact joinedAny_is hw hh (fun t m l e => hf t l (wfL_iff.mp hl t m) e) h
        | true => exact joinedRow_is hw hh (fun t m l e => hf t l (wfL_iff.mp hl t m) e) h
/-! ### the normal form -/
def minL : List Int → Int
  | [] => 0
  | [x] => x
  | x :: y :: r => min x (minL (y :: r))
theorem minL_le : ∀ {l : List Int} {y : Int}, y ∈ l → minL l ≤ y
  | [x], y, h => by
    rw [List.mem_singleton] at h
    rw [h]; exact Int.le_refl _
  | x :: z :: r, y, h => by
    rw [minL]
    rcases List.mem_cons.mp h with e | e
    · rw [e]; exact Int.min_le_left _ _
    · exact Int.le_trans (Int.min_le_right _ _) (minL_le e)
theorem minL_mem : ∀ {l : List Int}, 0 < l.length → minL l ∈ l
  | [x], _ => List.mem_cons_self
  | x :: z :: r, _ => by
    rw [minL]
    have ih := minL_mem (l := z :: r) (by simp)
    rcases Int.le_total x (minL (z :: r)) with h | h
    · rw [Int.min_eq_left h]; exact List.mem_cons_self
    · rw [Int.min_eq_right h]; exact List.mem_cons_of_mem _ ih
theorem minL_eq {l : List Int} {m : Int} (h1 : m ∈ l) (h2 : ∀ y, y ∈ l → m ≤ y) : m = minL l :=
  Int.le_antisymm (h2 _ (minL_mem (List.length_pos_of_mem h1))) (minL_le h1)
def least (t : Tree) : Int := minL (leaves t)
def leP (a b : Int × Int) : Bool := decide (a.1 < b.1 ∨ (a.1 = b.1 ∧ a.2 ≤ b.2))
def sortP (l : List (Int × Int)) : List (Int × Int) := l.mergeSort leP
theorem leP_trans (a b c : Int × Int) (h1 : leP a b = true) (h2 : leP b c = true) : leP a c = true := by
  unfold leP at *
  rw [decide_eq_true_eq] at *
  omega
theorem leP_total (a b : Int × Int) : (leP a b || leP b a) = true := by
  unfold leP
  rw [Bool.or_eq_true, decide_eq_true_eq, decide_eq_true_eq]
  omega
theorem leP_anti {a b : Int × Int} (h1 : leP a b = true) (h2 : leP b a = true) : a = b := by
  unfold leP at *
  rw [decide_eq_true_eq] at *
  exact Prod.ext (by omega) (by omega)
theorem sortP_perm (l : List (Int × Int)) : (sortP l).Perm l := List.mergeSort_perm l leP
theorem sortP_uniq {l m : List (Int × Int)} (p : m.Perm l) (s : m.Pairwise (fun a b => leP a b = true)) : m = sortP l :=
  List.Perm.eq_of_pairwise (le := fun a b => leP a b = true) (fun a b _ _ h1 h2 => leP_anti h1 h2) s (List.pairwise_mergeSort leP_trans leP_total l) (p.trans (sortP_perm l).symm)
theorem sortI_perm (l : List Int) : (sortI l).Perm l := List.mergeSort_perm l _
theorem sortI_uniq {l m : List Int} (p : m.Perm l) (s : m.Pairwise (· ≤ ·)) : m = sortI l := by
  refine List.Perm.eq_of_pairwise (le := (· ≤ ·)) (fun a b _ _ h1 h2 => Int.le_antisymm h1 h2) s ?_ (p.trans (sortI_perm l).symm)
  have := List.pairwise_mergeSort (le := fun a b : Int => decide (a ≤ b)) (fun a b c h1 h2 => by rw [decide_eq_true_eq] at *; omega) (fun a b => by rw [Bool.or_eq_true, decide_eq_true_eq, decide_eq_true_eq]; omega) l
  exact this.imp fun h => by rw [decide_eq_true_eq] at h; exact h
def keys (ps : List Tree) : List (Int × Int) := (List.range ps.length).map fun (i : Nat) => (least (ps.getD i default), (i : Int))
def sortAny (ps : List Tree) : List Tree := (sortP (keys ps)).map fun q => ps.getD q.2.toNat default
def flip (ps : List Tree) : List Tree := if least (ps.getD (ps.length - 1) default) < least (ps.getD 0 default) then ps.reverse else ps
mutual
def norm : Tree → Tree
  | .leaf i => .leaf i
  | .node false ts => .node false (sortAny (normL ts))
  | .node true ts => .node true (flip (normL ts))
def normL : List Tree → List Tree
  | [] => []
  | t :: r => norm t :: normL r
end
theorem normL_eq : ∀ ts : List Tree, normL ts = ts.map norm
  | [] => by simp [normL]
  | t :: r => by rw [normL, normL_eq r, List.map_cons]
theorem range_getD (ps : List Tree) : (List.range ps.length).map (fun i => ps.getD i default) = ps := by
  apply List.ext_getElem
  · simp
  · intro i h1 h2
    rw [List.getElem_map, List.getElem_range, getD_of_lt h2]
theorem sortAny_perm (ps : List Tree) : (sortAny ps).Perm ps := by
  have h := (sortP_perm (keys ps)).map (fun q : Int × Int => ps.getD q.2.toNat default)
  have e : (keys ps).map (fun q : Int × Int => ps.getD q.2.toNat default) = ps := by
    unfold keys
    rw [List.map_map]
    exact range_getD ps
  rw [e] at h
  exact h
theorem flip_perm (ps : List Tree) : (flip ps).Perm ps := by
  unfold flip
  split
  · exact List.reverse_perm ps
  · exact .refl _
mutual
theorem norm_is : ∀ t : Tree, Wf t → IsTree t (norm t)
  | .leaf i, h => by rw [norm]; exact ⟨h, .refl _⟩
  | .node false ts, h => by
    rw [Wf] at h
    have ih := normL_is ts h.2
    have p := sortAny_perm (normL ts)
    have pl := p.length_eq
    rw [norm]
    refine ⟨?_, ?_⟩
    · rw [Wf]
      refine ⟨?_, wfL_of_perm p.symm ih.1⟩
      rw [normL_eq, List.length_map] at pl
      rw [normL_eq]
      omega
    · rw [leaves, leaves]
      exact (leavesL_perm p).trans ih.2
  | .node true ts, h => by
    rw [Wf] at h
    have ih := normL_is ts h.2
    have p := flip_perm (normL ts)
    have pl := p.length_eq
    rw [norm]
    refine ⟨?_, ?_⟩
    · rw [Wf]
      refine ⟨?_, wfL_of_perm p.symm ih.1⟩
      rw [normL_eq, List.length_map] at pl
      rw [normL_eq]
      omega
    · rw [leaves, leaves]
      exact (leavesL_perm p).trans ih.2
theorem normL_is : ∀ ts : List Tree, WfL ts → WfL (normL ts) ∧ (leavesL (normL ts)).Perm (leavesL ts)
  | [], _ => by rw [normL]; exact ⟨by rw [WfL]; trivial, .refl _⟩
  | t :: r, h => by
    rw [WfL] at h
    have h1 := norm_is t h.1
    have h2 := normL_is r h.2
    rw [normL]
    refine ⟨?_, ?_⟩
    · rw [WfL]; exact ⟨h1.wf, h2.1⟩
    · rw [leavesL, leavesL]; exact h1.perm.append h2.2
end
/-! ### reduced -/
def red (c : List Int) (t : Tree) : Option Tree := if c.length < 2 then some (norm t) else (joinN (splitN c 8) c 8 t).map norm
theorem IsTree.trans {t u v : Tree} (a : IsTree t u) (b : IsTree u v) : IsTree t v := ⟨b.wf, b.perm.trans a.perm⟩
theorem red_is {c : List Int} {t u : Tree} (hw : Wf t) (hc : ∀ x ∈ c, x ∈ leaves t) (h : red c t = some u) : IsTree t u := by
  unfold red at h
  split at h
  · injection h with h
    subst h
    exact norm_is t hw
  · rename_i h2
    cases hj : joinN (splitN c 8) c 8 t with
    | none => rw [hj] at h; cases h
    | some v =>
      rw [hj] at h
      injection h with h
      subst h
      have hs : share c t ≠ .no := by
        cases c with
        | nil => exact absurd (show ([] : List Int).length < 2 by decide) h2
        | cons x r => exact hit_of (hc x List.mem_cons_self) List.mem_cons_self
      have a := joinN_is (fun t l w e => splitN_is w e) hw hs hj
      exact a.trans (norm_is v a.wf)
def redAll : List (List Int) → Tree → Option Tree
  | [], t => some t
  | c :: r, t => match red c t with
    | none => none
    | some u => redAll r u
def plain (n : Nat) : Tree := mkAny ((List.range n).map fun (i : Nat) => .leaf (i : Int))
theorem leavesL_leaf (l : List Nat) : leavesL (l.map fun (i : Nat) => Tree.leaf (i : Int)) = l.map fun (i : Nat) => (i : Int) := by
  induction l with
  | nil => rfl
  | cons a r ih => rw [List.map_cons, List.map_cons, leavesL, ih]; rfl
theorem plain_leaves (n : Nat) : leaves (plain n) = (List.range n).map fun (i : Nat) => (i : Int) := by
  unfold plain
  rw [mkAny_leaves, leavesL_leaf]
theorem plain_wf {n : Nat} (h : 1 ≤ n) : Wf (plain n) := by
  unfold plain
  refine mkAny_wf (fun e => ?_) (wfL_iff.mpr fun t m => ?_)
  · have := congrArg List.length e
    rw [List.length_map, List.length_range] at this
    simp at this
    omega
  · obtain ⟨i, _, e⟩ := List.mem_map.mp m
    rw [← e, Wf]; trivial
end K26
namespace K26
/-! ### choices -/
def choices : Nat → List Int → List (List Int)
  | 0, _ => [[]]
  | k + 1, l => (List.range l.length).flatMap fun i => (choices k (l.drop (i + 1))).map fun r => l.getD i 0 :: r
theorem choices_nil (k : Nat) : choices (k + 1) [] = [] := rfl
theorem choices_cons (k : Nat) (x : Int) (r : List Int) : choices (k + 1) (x :: r) = ((choices k r).map fun s => x :: s) ++ choices (k + 1) r := by
  rw [choices, choices, List.length_cons, List.range_succ_eq_map, List.flatMap_cons, List.flatMap_map]
  rfl
theorem choices_len : ∀ (l : List Int) (k : Nat), (choices k l).length ≤ 2 ^ l.length
  | l, 0 => by
    rw [choices]
    exact Nat.one_le_two_pow
  | [], k + 1 => by
    rw [choices_nil]
    exact Nat.zero_le _
  | x :: r, k + 1 => by
    rw [choices_cons, List.length_append, List.length_map, List.length_cons]
    have h1 := choices_len r k
    have h2 := choices_len r (k + 1)
    rw [Nat.pow_succ]
    omega
theorem choices_sub : ∀ {l : List Int} {k : Nat} {s : List Int}, s ∈ choices k l → s.Sublist l ∧ s.length = k
  | l, 0, s, h => by
    rw [choices, List.mem_singleton] at h
    rw [h]
    exact ⟨List.nil_sublist _, rfl⟩
  | [], k + 1, s, h => by
    rw [choices_nil] at h
    cases h
  | x :: r, k + 1, s, h => by
    rw [choices_cons] at h
    rcases List.mem_append.mp h with h | h
    · obtain ⟨t, ht, e⟩ := List.mem_map.mp h
      obtain ⟨h1, h2⟩ := choices_sub ht
      subst e
      exact ⟨h1.cons_cons x, by rw [List.length_cons, h2]⟩
    · obtain ⟨h1, h2⟩ := choices_sub h
      exact ⟨h1.cons x, h2⟩
theorem sub_choices : ∀ {l s : List Int}, s.Sublist l → s ∈ choices s.length l
  | l, [], _ => by
    rw [List.length_nil, choices]
    exact List.mem_singleton.mpr rfl
  | [], x :: s, h => by cases h
  | y :: r, x :: s, h => by
    rw [List.length_cons, choices_cons]
    refine List.mem_append.mpr ?_
    cases h with
    | cons _ h =>
      have := sub_choices h
      rw [List.length_cons] at this
      exact .inr this
    | cons_cons _ h => exact .inl (List.mem_map.mpr ⟨s, sub_choices h, rfl⟩)
/-- the order of tuples -/
def lexL : List Int → List Int → Bool
  | [], [] => false
  | [], _ :: _ => true
  | _ :: _, [] => false
  | x :: xs, y :: ys => if x = y then lexL xs ys else decide (x < y)
theorem lexL_asym : ∀ {a b : List Int}, lexL a b = true → lexL b a = false
  | [], [], h => by cases h
  | [], _ :: _, _ => rfl
  | _ :: _, [], h => by cases h
  | x :: xs, y :: ys, h => by
    unfold lexL at h ⊢
    by_cases e : x = y
    · rw [if_pos e] at h
      rw [if_pos e.symm]
      exact lexL_asym h
    · rw [if_neg e, decide_eq_true_eq] at h
      rw [if_neg (Ne.symm e), decide_eq_false_iff_not]
      omega
theorem lexL_irrefl (a : List Int) : lexL a a = false := by
  cases h : lexL a a with
  | false => rfl
  | true => rw [← h]; exact lexL_asym h
theorem choices_asc : ∀ {l : List Int} (k : Nat), l.Pairwise (· < ·) → (choices k l).Pairwise fun a b => lexL a b = true
  | l, 0, _ => by
    rw [choices]
    exact List.pairwise_singleton _ _
  | [], k + 1, _ => by
    rw [choices_nil]
    exact .nil
  | x :: r, k + 1, h => by
    rw [choices_cons]
    have hr := (List.pairwise_cons.mp h).2
    have hx := (List.pairwise_cons.mp h).1
    refine List.pairwise_append.mpr ⟨?_, choices_asc (k + 1) hr, fun a ha b hb => ?_⟩
    · refine List.pairwise_map.mpr ((choices_asc k hr).imp fun {a b} q => ?_)
      show lexL (x :: a) (x :: b) = true
      rw [lexL, if_pos rfl]
      exact q
    · obtain ⟨s, _, e⟩ := List.mem_map.mp ha
      subst e
      obtain ⟨h1, h2⟩ := choices_sub hb
      match b, h1, h2 with
      | [], _, h2 => cases h2
      | y :: t, h1, _ =>
        have my : y ∈ r := h1.subset List.mem_cons_self
        have := hx y my
        rw [lexL, if_neg (by omega), decide_eq_true_eq]
        exact this
/-! ### the greatest choice -/
def idxs (m : Nat) : List Int := (List.range m).map fun (i : Nat) => (i : Int)
theorem idxs_len (m : Nat) : (idxs m).length = m := by
  unfold idxs
  rw [List.length_map, List.length_range]
theorem idxs_asc (m : Nat) : (idxs m).Pairwise (· < ·) := by
  unfold idxs
  refine List.pairwise_map.mpr (List.pairwise_lt_range.imp fun h => ?_)
  omega
theorem mem_idxs {m : Nat} {x : Int} : x ∈ idxs m ↔ 0 ≤ x ∧ x < m := by
  unfold idxs
  rw [List.mem_map]
  constructor
  · rintro ⟨i, hi, e⟩
    rw [List.mem_range] at hi
    omega
  · intro h
    exact ⟨x.toNat, List.mem_range.mpr (by omega), by omega⟩
def setsAt (S : List (List Int)) (ch : List Int) : List (List Int) := ch.map fun i => S.getD i.toNat []
def fits (n : Nat) (S : List (List Int)) (ch : List Int) : Bool := (redAll (setsAt S ch) (plain n)).isSome
structure Greatest (fit : List Int → Bool) (l ch : List Int) : Prop where
  sub : ch.Sublist l
  ok : fit ch = true
  more : ∀ s, s.Sublist l → ch.length < s.length → fit s = false
  first : ∀ s, s.Sublist l → s.length = ch.length → lexL s ch = true → fit s = false
theorem greatest_of {fit : List Int → Bool} {l : List Int} {k j : Nat} {ch : List Int} (hl : l.Pairwise (· < ·)) (hj : (choices k l)[j]? = some ch) (ok : fit ch = true)
    (more : ∀ k', k < k' → k' ≤ l.length → ∀ s ∈ choices k' l, fit s = false) (first : ∀ s ∈ (choices k l).take j, fit s = false) : Greatest fit l ch := by
  have mem : ch ∈ choices k l := List.mem_of_getElem? hj
  obtain ⟨hs, hk⟩ := choices_sub mem
  refine ⟨hs, ok, fun s h1 h2 => ?_, fun s h1 h2 h3 => ?_⟩
  · exact more s.length (by omega) h1.length_le s (sub_choices h1)
  · have ms := sub_choices h1
    rw [h2, hk] at ms
    obtain ⟨i, hi, e⟩ := List.mem_iff_getElem.mp ms
    obtain ⟨hj', ej⟩ := List.getElem?_eq_some_iff.mp hj
    have asc := choices_asc k hl
    have lt : i < j := by
      rcases Nat.lt_or_ge i j with h | h
      · exact h
      · exfalso
        rcases Nat.eq_or_lt_of_le h with e2 | h
        · subst e2
          rw [← e, ej] at h3
          rw [lexL_irrefl] at h3
          cases h3
        · have := List.pairwise_iff_getElem.mp asc j i hj' hi h
          rw [e, ej] at this
          have q := lexL_asym h3
          rw [this] at q
          cases q
    refine first s ?_
    refine List.mem_iff_getElem.mpr ⟨i, by rw [List.length_take]; omega, ?_⟩
    rw [List.getElem_take, e]
theorem fits_nil (n : Nat) (S : List (List Int)) : fits n S [] = true := rfl
/-- a set of n things -/
structure IsSet (n : Nat) (c : List Int) : Prop where
  asc : c.Pairwise (· < ·)
  mem : ∀ x ∈ c, 0 ≤ x ∧ x < n
theorem asc_len {n : Int} : ∀ {c : List Int} {a : Int}, c.Pairwise (· < ·) → (∀ x ∈ c, a ≤ x ∧ x < n) → (c.length : Int) ≤ max 0 (n - a)
  | [], _, _, _ => by
    show (0 : Int) ≤ _
    omega
  | x :: r, a, h, hm => by
    have h1 := List.pairwise_cons.mp h
    have hx := hm x List.mem_cons_self
    have ih := asc_len (a := x + 1) h1.2 fun y hy => ⟨by have := h1.1 y hy; omega, (hm y (List.mem_cons_of_mem _ hy)).2⟩
    rw [List.length_cons]
    omega
theorem IsSet.len {n : Nat} {c : List Int} (h : IsSet n c) : c.length ≤ n := by
  have := asc_len h.asc h.mem
  omega
end K26
set_option maxHeartbeats 4000000
namespace K26
open PySem PySem.Spec PyProof.Rows L2
/-! ### the text by places -/
def topS (i : Nat) : Stmt := PySem.Challenge.pw_unpartedrows_k26_whole_greatest_choices.main.body.getD i (.Pass ⟨0, 0, 0, 0⟩)
/-! ### heaps -/
/-- the tuples stand as they stood -/
def Kept (H H' : Hp) : Prop := ∀ a xs, H a = some (.tup xs) → H' a = some (.tup xs)
theorem Kept.refl (H : Hp) : Kept H H := fun _ _ h => h
theorem Kept.trans {H H1 H2 : Hp} (a : Kept H H1) (b : Kept H1 H2) : Kept H H2 := fun c xs h => b c xs (a c xs h)
theorem same_kept {H H' : Hp} (s : Same H H') : Kept H H' := fun a xs h => s a _ h
theorem same_new {H : Hp} {p : Addr} {o : HO} (h : H p = none) : Same H (upd H p o) := fun b u q => by
  rw [upd_ne (ne_of_none q h)]
  exact q
theorem same_put {H0 H : Hp} {p : Addr} {o : HO} (s : Same H0 H) (h : H0 p = none) : Same H0 (upd H p o) := fun b u q => by
  rw [upd_ne (ne_of_none q h)]
  exact s b u q
theorem kept_new {H : Hp} {p : Addr} {o : HO} (h : H p = none) : Kept H (upd H p o) := same_kept (same_new h)
theorem kept_lst {H : Hp} {p : Addr} {xs ys : List V} (h : H p = some (.lst xs)) : Kept H (upd H p (.lst ys)) := fun b zs q => by
  rw [upd_ne (ne_of q h (by intro z; cases z))]
  exact q
theorem sizeL {n : Nat} (h : n ≤ 1000) : n ≤ sizeLine := Nat.le_of_lt (small1000 h)
/-! ### trees in the heap -/
def word (w : Bool) : Str := if w then "row" else "any"
mutual
def TreeAt (H : Hp) : Tree → V → Prop
  | .leaf i, v => v = .int i
  | .node w ts, v => ∃ a b vs, v = .ref a ∧ H a = some (.tup [.str (word w), .ref b]) ∧ H b = some (.tup vs) ∧ TreesAt H ts vs
def TreesAt (H : Hp) : List Tree → List V → Prop
  | [], vs => vs = []
  | t :: r, vs => ∃ v vs', vs = v :: vs' ∧ TreeAt H t v ∧ TreesAt H r vs'
end
mutual
theorem TreeAt.mono {H H' : Hp} (k : Kept H H') : ∀ {t : Tree} {v : V}, TreeAt H t v → TreeAt H' t v
  | .leaf i, v, h => by
    rw [TreeAt] at h ⊢
    exact h
  | .node w ts, v, h => by
    rw [TreeAt] at h ⊢
    obtain ⟨a, b, vs, h1, h2, h3, h4⟩ := h
    exact ⟨a, b, vs, h1, k _ _ h2, k _ _ h3, TreesAt.mono k h4⟩
theorem TreesAt.mono {H H' : Hp} (k : Kept H H') : ∀ {ts : List Tree} {vs : List V}, TreesAt H ts vs → TreesAt H' ts vs
  | [], vs, h => by
    rw [TreesAt] at h ⊢
    exact h
  | t :: r, vs, h => by
    rw [TreesAt] at h ⊢
    obtain ⟨v, vs', h1, h2, h3⟩ := h
    exact ⟨v, vs', h1, TreeAt.mono k h2, TreesAt.mono k h3⟩
end
theorem TreesAt.nil {H : Hp} : TreesAt H [] [] := by rw [TreesAt]
theorem TreesAt.cons {H : Hp} {t : Tree} {ts : List Tree} {v : V} {vs : List V} (h : TreeAt H t v) (hs : TreesAt H ts vs) : TreesAt H (t :: ts) (v :: vs) := by
  rw [TreesAt]
  exact ⟨v, vs, rfl, h, hs⟩
theorem TreesAt.one {H : Hp} {t : Tree} {v : V} (h : TreeAt H t v) : TreesAt H [t] [v] := .cons h .nil
theorem TreesAt.append {H : Hp} : ∀ {ts us : List Tree} {vs ws : List V}, TreesAt H ts vs → TreesAt H us ws → TreesAt H (ts ++ us) (vs ++ ws)
  | [], us, vs, ws, h, h2 => by
    rw [TreesAt] at h
    subst h
    exact h2
  | t :: r, us, vs, ws, h, h2 => by
    rw [TreesAt] at h
    obtain ⟨v, vs', e, h3, h4⟩ := h
    subst e
    exact .cons h3 (TreesAt.append h4 h2)
theorem TreesAt.length {H : Hp} : ∀ {ts : List Tree} {vs : List V}, TreesAt H ts vs → vs.length = ts.length
  | [], vs, h => by
    rw [TreesAt] at h
    rw [h]; rfl
  | t :: r, vs, h => by
    rw [TreesAt] at h
    obtain ⟨v, vs', e, _, h4⟩ := h
    rw [e, List.length_cons, List.length_cons, TreesAt.length h4]
theorem TreesAt.get {H : Hp} : ∀ {ts : List Tree} {vs : List V} {i : Nat} {v : V}, TreesAt H ts vs → vs[i]? = some v → ∃ t, ts[i]? = some t ∧ TreeAt H t v
  | [], vs, i, v, h, hi => by
    rw [TreesAt] at h
    subst h
    simp at hi
  | t :: r, vs, i, v, h, hi => by
    rw [TreesAt] at h
    obtain ⟨u, vs', e, h3, h4⟩ := h
    subst e
    cases i with
    | zero =>
      have e : u = v := Option.some.inj hi
      subst e
      exact ⟨t, rfl, h3⟩
    | succ j => exact TreesAt.get (i := j) h4 hi
theorem TreesAt.at {H : Hp} {ts : List Tree} {vs : List V} {i : Nat} (h : TreesAt H ts vs) (hi : i < ts.length) : ∃ v, vs[i]? = some v ∧ TreeAt H (ts.getD i default) v := by
  have hl := h.length
  have hv : i < vs.length := by omega
  obtain ⟨t, h1, h2⟩ := h.get (List.getElem?_eq_getElem hv)
  refine ⟨vs[i], List.getElem?_eq_getElem hv, ?_⟩
  rw [List.getElem?_eq_getElem hi] at h1
  rw [getD_of_lt hi, Option.some.inj h1]
  exact h2
theorem TreesAt.take {H : Hp} : ∀ (n : Nat) {ts : List Tree} {vs : List V}, TreesAt H ts vs → TreesAt H (ts.take n) (vs.take n)
  | 0, ts, vs, _ => .nil
  | n + 1, [], vs, h => by
    rw [TreesAt] at h
    subst h
    exact .nil
  | n + 1, t :: r, vs, h => by
    rw [TreesAt] at h
    obtain ⟨v, vs', e, h3, h4⟩ := h
    subst e
    exact .cons h3 (TreesAt.take n h4)
theorem TreesAt.drop {H : Hp} : ∀ (n : Nat) {ts : List Tree} {vs : List V}, TreesAt H ts vs → TreesAt H (ts.drop n) (vs.drop n)
  | 0, ts, vs, h => h
  | n + 1, [], vs, h => by
    rw [TreesAt] at h
    subst h
    exact .nil
  | n + 1, t :: r, vs, h => by
    rw [TreesAt] at h
    obtain ⟨v, vs', e, h3, h4⟩ := h
    subst e
    exact TreesAt.drop n h4
theorem TreesAt.reverse {H : Hp} : ∀ {ts : List Tree} {vs : List V}, TreesAt H ts vs → TreesAt H ts.reverse vs.reverse
  | [], vs, h => by
    rw [TreesAt] at h
    subst h
    exact .nil
  | t :: r, vs, h => by
    rw [TreesAt] at h
    obtain ⟨v, vs', e, h3, h4⟩ := h
    subst e
    rw [List.reverse_cons, List.reverse_cons]
    exact (TreesAt.reverse h4).append (.one h3)
theorem take_snoc {α : Type} {xs : List α} {i : Nat} {x : α} (h : xs[i]? = some x) : xs.take (i + 1) = xs.take i ++ [x] := by
  rw [List.take_add_one, h]; rfl
/-! ### trees as data -/
mutual
def dT : Tree → PyData
  | .leaf i => .int i
  | .node w ts => .tuple [.str (word w), .tuple (dTs ts)]
def dTs : List Tree → List PyData
  | [] => []
  | t :: r => dT t :: dTs r
end
mutual
theorem TreeAt.dp {K : PySem.W.Frag} {H : Hp} : ∀ {t : Tree} {v : V}, TreeAt H t v → Dp K H v (dT t)
  | .leaf i, v, h => by
    rw [TreeAt] at h
    subst h
    rw [dT]
    exact .int i
  | .node w ts, v, h => by
    rw [TreeAt] at h
    obtain ⟨a, b, vs, h1, h2, h3, h4⟩ := h
    subst h1
    rw [dT]
    exact .tup (SqT.of h2) (.cons (.str _) (.cons (.tup (SqT.of h3) (TreesAt.dp h4)) .nil))
theorem TreesAt.dp {K : PySem.W.Frag} {H : Hp} : ∀ {ts : List Tree} {vs : List V}, TreesAt H ts vs → DpAll K H vs (dTs ts)
  | [], vs, h => by
    rw [TreesAt] at h
    subst h
    rw [dTs]
    exact .nil
  | t :: r, vs, h => by
    rw [TreesAt] at h
    obtain ⟨v, vs', e, h3, h4⟩ := h
    subst e
    rw [dTs]
    exact .cons (TreeAt.dp h3) (TreesAt.dp h4)
end
theorem strOk_word (w : Bool) : PyData.strOk (word w) = true := by cases w <;> decide +kernel
mutual
theorem dT_lay : ∀ t : Tree, (dT t).canLay0 = true
  | .leaf i => by rw [dT, PyData.canLay0]
  | .node w ts => by
    rw [dT]
    simp only [PyData.canLay0, PyData.canLayAll0, strOk_word, dTs_lay ts, Bool.and_self]
theorem dTs_lay : ∀ ts : List Tree, PyData.canLayAll0 (dTs ts) = true
  | [] => by rw [dTs, PyData.canLayAll0]
  | t :: r => by
    rw [dTs, PyData.canLayAll0, dT_lay t, dTs_lay r]; rfl
end
mutual
theorem dT_depth : ∀ t : Tree, Wf t → (dT t).depth ≤ 2 * ((leaves t).length - 1)
  | .leaf i, _ => by rw [dT, PyData.depth]; exact Nat.zero_le _
  | .node w ts, h => by
    have hw := h
    rw [Wf] at h
    have ih := dTs_depth ts h.2 ((leavesL ts).length - (ts.length - 1)) (fun t m => by have := child_le h.2 m; omega)
    have h3 := leavesL_len ts h.2
    rw [dT, leaves]
    simp only [PyData.depth, PyData.depthAll]
    omega
theorem dTs_depth : ∀ ts : List Tree, WfL ts → ∀ n, (∀ t ∈ ts, (leaves t).length ≤ n) → PyData.depthAll (dTs ts) ≤ 2 * (n - 1)
  | [], _, n, _ => by rw [dTs, PyData.depthAll]; exact Nat.zero_le _
  | t :: r, h, n, hn => by
    rw [WfL] at h
    have h1 := dT_depth t h.1
    have h2 := dTs_depth r h.2 n fun u m => hn u (List.mem_cons_of_mem _ m)
    have h3 := hn t List.mem_cons_self
    rw [dTs, PyData.depthAll]
    omega
end
theorem dTs_shaped {ts : List Tree} (h : WfL ts) (hn : ∀ t ∈ ts, (leaves t).length ≤ 8) : SeqAt.shaped (.list (dTs ts)) = true := by
  have h1 := dTs_depth ts h 8 hn
  show (PyData.canLay0 (.list (dTs ts)) && decide (PyData.depth (.list (dTs ts)) ≤ 64)) = true
  rw [Bool.and_eq_true]
  refine ⟨by simp only [PyData.canLay0]; exact dTs_lay ts, decide_eq_true ?_⟩
  simp only [PyData.depth]
  omega
theorem nil_shaped : SeqAt.shaped (.list []) = true := by decide +kernel
theorem eqv_nil {ds : List PyData} : PyData.eqv (.list ds) (.list []) = ds.isEmpty := by
  cases ds with
  | nil => simp [PyData.eqv, PyData.eqvAll]
  | cons d r => simp [PyData.eqv, PyData.eqvAll]
theorem dTs_isEmpty (ts : List Tree) : (dTs ts).isEmpty = ts.isEmpty := by
  cases ts with
  | nil => rw [dTs]; rfl
  | cons t r => rw [dTs]; rfl
/-- xs != [], [] just made at q -/
theorem trees_ne {K : PySem.W.Frag} {H : Hp} {p q : Addr} {vs : List V} {ts : List Tree} {Q : VK} (hp : H p = some (.lst vs)) (ht : TreesAt H ts vs) (hw : WfL ts) (hn : ∀ t ∈ ts, (leaves t).length ≤ 8) (hq : H q = some (.lst [])) (h : Q (.bl (!ts.isEmpty)) H) : rNeD K (.ref p) (.ref q) H Q := by
  refine ⟨_, _, .lst (SqL.of hp) ht.dp, .lst (SqL.of hq) .nil, dTs_shaped hw hn, nil_shaped, ?_⟩
  rw [eqv_nil, dTs_isEmpty]
  exact h
theorem ints_dp {K : PySem.W.Frag} {H : Hp} : ∀ ns : List Int, DpAll K H (ns.map V.int) (ns.map PyData.int)
  | [] => .nil
  | n :: r => .cons (.int n) (ints_dp r)
theorem ints_ne {K : PySem.W.Frag} {H : Hp} {p q : Addr} {ns : List Int} {Q : VK} (hp : H p = some (.lst (ns.map V.int))) (hq : H q = some (.lst [])) (h : Q (.bl (!ns.isEmpty)) H) : rNeD K (.ref p) (.ref q) H Q := by
  refine ⟨_, _, .lst (SqL.of hp) (ints_dp ns), .lst (SqL.of hq) .nil, PySem.W.ke_shaped_ints ns, nil_shaped, ?_⟩
  rw [eqv_nil]
  cases ns with
  | nil => exact h
  | cons a r => exact h
/-! ### what a comprehension collects -/
/-- the turns of a comprehension's walk J, its list at D, end with Qd -/
def Walked (J : It) (g : TG) (tt : TT) (te : TE) (vs : List Nat) (σ : L2.St) (H1 : Hp) (D : Addr) (Qd : Hp → Prop) : Prop :=
  ∃ W : Nat → Nat → Hp → Prop,
    (∃ m, W 0 m (upd H1 D (.lst []))) ∧
      ∀ i m H, W i m H → (J.stop i H ∧ Qd H) ∨ (J.go i H ∧ ∃ Nx : Hp → Prop,
        (∀ H', Nx H' → ∃ m', m' < m ∧ W (i + 1) m' H') ∧
          ∀ x H', J.yld i H x H' → g x (wipe σ vs) H' fun σ2 H2 => wipe σ2 vs = wipe σ vs ∧
            tt σ2 H2 fun b H3 => if b = true then te σ2 H3 (fun y H4 => ∃ acc, H4 D = some (.lst acc) ∧ acc.length < sizeLine ∧ Nx (upd H4 D (.lst (acc ++ [y])))) else Nx H3)
section
variable {K : PySem.W.Frag} {a : Addr} {xs : List V} {g : TG} {tt : TT} {te : TE} {vs : List Nat} {σ : L2.St} {H1 : Hp} {D : Addr} {Qd : Hp → Prop}
theorem lcf_list (P : Nat → List V → Hp → Prop) (hD : H1 D = none) (hL : SqL K H1 a xs) (len : xs.length ≤ 1000) (mono : ∀ i acc H H', Kept H H' → P i acc H → P i acc H') (h0 : P 0 [] H1)
    (step : ∀ i x H acc (QT : V → Hp → Prop) (QF : Hp → Prop), xs[i]? = some x → Same H1 H → P i acc H → (∀ y H4, Same H H4 → P (i + 1) (acc ++ [y]) H4 → QT y H4) → (∀ H3, Same H H3 → P (i + 1) acc H3 → QF H3) →
      g x (wipe σ vs) H fun σ2 H2 => wipe σ2 vs = wipe σ vs ∧ tt σ2 H2 fun b H3 => if b = true then te σ2 H3 QT else QF H3)
    (fin : ∀ H' ys, Same H1 H' → H' D = some (.lst ys) → ys.length ≤ 1000 → P xs.length ys H' → Qd H') :
    Walked (Itl K a) g tt te vs σ H1 D Qd := by
  refine lc_list (xs := xs) (fun i H => Same H1 H ∧ ∃ acc, H D = some (.lst acc) ∧ acc.length ≤ i ∧ P i acc H) ⟨same_new hD, [], upd_same, Nat.le_refl _, mono _ _ _ _ (kept_new hD) h0⟩ (fun i H _ ⟨s, _⟩ => s.seq hL) ?_ ?_
  · rintro i x H hx ⟨s, acc, hd, hl, p⟩
    have hi : i < xs.length := (List.getElem?_eq_some_iff.mp hx).1
    refine step i x H acc _ _ hx s p (fun y H4 s4 p4 => ⟨acc, s4 _ _ hd, small1000 (by omega), same_put (s.trans s4) hD, acc ++ [y], upd_same, ?_, mono _ _ _ _ (kept_lst (s4 _ _ hd)) p4⟩) (fun H3 s3 p3 => ⟨s.trans s3, acc, s3 _ _ hd, by omega, p3⟩)
    rw [List.length_append, List.length_singleton]
    omega
  · rintro H ⟨s, acc, hd, hl, p⟩
    exact fin H acc s hd (by omega) p
theorem lcf_tup (P : Nat → List V → Hp → Prop) (hD : H1 D = none) (hL : H1 a = some (.tup xs)) (len : xs.length ≤ 1000) (mono : ∀ i acc H H', Kept H H' → P i acc H → P i acc H') (h0 : P 0 [] H1)
    (step : ∀ i x H acc (QT : V → Hp → Prop) (QF : Hp → Prop), xs[i]? = some x → Same H1 H → P i acc H → (∀ y H4, Same H H4 → P (i + 1) (acc ++ [y]) H4 → QT y H4) → (∀ H3, Same H H3 → P (i + 1) acc H3 → QF H3) →
      g x (wipe σ vs) H fun σ2 H2 => wipe σ2 vs = wipe σ vs ∧ tt σ2 H2 fun b H3 => if b = true then te σ2 H3 QT else QF H3)
    (fin : ∀ H' ys, Same H1 H' → H' D = some (.lst ys) → ys.length ≤ 1000 → P xs.length ys H' → Qd H') :
    Walked (Itt K a) g tt te vs σ H1 D Qd := by
  refine lc_tup (xs := xs) (fun i H => Same H1 H ∧ ∃ acc, H D = some (.lst acc) ∧ acc.length ≤ i ∧ P i acc H) ⟨same_new hD, [], upd_same, Nat.le_refl _, mono _ _ _ _ (kept_new hD) h0⟩ (fun i H _ ⟨s, _⟩ => SqT.of (s _ _ hL)) ?_ ?_
  · rintro i x H hx ⟨s, acc, hd, hl, p⟩
    have hi : i < xs.length := (List.getElem?_eq_some_iff.mp hx).1
    refine step i x H acc _ _ hx s p (fun y H4 s4 p4 => ⟨acc, s4 _ _ hd, small1000 (by omega), same_put (s.trans s4) hD, acc ++ [y], upd_same, ?_, mono _ _ _ _ (kept_lst (s4 _ _ hd)) p4⟩) (fun H3 s3 p3 => ⟨s.trans s3, acc, s3 _ _ hd, by omega, p3⟩)
    rw [List.length_append, List.length_singleton]
    omega
  · rintro H ⟨s, acc, hd, hl, p⟩
    exact fin H acc s hd (by omega) p
theorem lcf_range {lo : Int} {n : Nat} (P : Nat → List V → Hp → Prop) (hD : H1 D = none) (len : n ≤ 1000) (mono : ∀ i acc H H', Kept H H' → P i acc H → P i acc H') (h0 : P 0 [] H1)
    (step : ∀ i H acc (QT : V → Hp → Prop) (QF : Hp → Prop), i < n → Same H1 H → P i acc H → (∀ y H4, Same H H4 → P (i + 1) (acc ++ [y]) H4 → QT y H4) → (∀ H3, Same H H3 → P (i + 1) acc H3 → QF H3) →
      g (.int (lo + i)) (wipe σ vs) H fun σ2 H2 => wipe σ2 vs = wipe σ vs ∧ tt σ2 H2 fun b H3 => if b = true then te σ2 H3 QT else QF H3)
    (fin : ∀ H' ys, Same H1 H' → H' D = some (.lst ys) → ys.length ≤ 1000 → P n ys H' → Qd H') :
    Walked (Itr lo n) g tt te vs σ H1 D Qd := by
  refine lc_range (fun i H => Same H1 H ∧ ∃ acc, H D = some (.lst acc) ∧ acc.length ≤ i ∧ P i acc H) ⟨same_new hD, [], upd_same, Nat.le_refl _, mono _ _ _ _ (kept_new hD) h0⟩ ?_ ?_
  · rintro i H hi ⟨s, acc, hd, hl, p⟩
    refine step i H acc _ _ hi s p (fun y H4 s4 p4 => ⟨acc, s4 _ _ hd, small1000 (by omega), same_put (s.trans s4) hD, acc ++ [y], upd_same, ?_, mono _ _ _ _ (kept_lst (s4 _ _ hd)) p4⟩) (fun H3 s3 p3 => ⟨s.trans s3, acc, s3 _ _ hd, by omega, p3⟩)
    rw [List.length_append, List.length_singleton]
    omega
  · rintro H ⟨s, acc, hd, hl, p⟩
    exact fin H acc s hd (by omega) p
end
/-! ### a def by its name -/
structure DefAt (K : PySem.W.Frag) (mg : Str → Option Value) (x : Str) (st : Stmt) (ps : List Str) : Prop where
  ex : ∃ f fd, Fun K x x st f fd ∧ mg x = some (.ref f) ∧ Binds K fd ps []
def Ok (P : Program) (w : World) (K : PySem.W.Frag) (mg : Str → Option Value) (base : Heap) (x : Str) (k : Nat) (ps : List Str) (sp : Sp) : Prop :=
  ∃ f fd, FnOk P w K mg base CX0 k f fd ps sp ∧ mg x = some (.ref f) ∧ PySem.W.keepIn K (.ref f) = true ∧ Binds K fd ps []
section
variable {P : Program} {w : World} {K : PySem.W.Frag} {mg : Str → Option Value} {base : Heap}
theorem Ok.mono {x : Str} {j k : Nat} {ps : List Str} {sp : Sp} (h : Ok P w K mg base x j ps sp) (hk : j ≤ k) : Ok P w K mg base x k ps sp := by
  obtain ⟨f, fd, F, a, b, c⟩ := h
  exact ⟨f, fd, F.mono hk, a, b, c⟩
theorem ok_def {x : Str} {st : Stmt} {N ps : List Str} {k : Nat} {sp : Sp} (D : DefAt K mg x st ps) (S : FnScope N ps (defScope st)) (len : ∀ vs H Q E, sp vs H Q E → vs.length = ps.length)
    (hbody : ∀ (f : Addr) (cdv : Value) (A : Around) (outer : List Env) (s : Shared) (H : Hp) (vs : List V) (Q : VK) (E : XK), Room k (A.deeper (envOfC x (defScope st) s.heap.objs.size f cdv)) → sp vs H Q E →
      ∃ t, PSs (cxOf CX0 P w K mg base N x (defScope st) f cdv A outer s H E).nox (defBody st) t ∧ t { nx := fun _ H' => Q .non H', rt := Q } (start N vs) H) : Ok P w K mg base x (k + 1) ps sp := by
  obtain ⟨f, fd, F, g, b⟩ := D.ex
  exact ⟨f, fd, F.ok S len (hbody f), g, F.kp, b⟩
end
section
variable {X : Cx} {x : Str} {k j : Nat} {ps : List Str} {sp : Sp} {e : Expr} {es : List Expr} {p pos : Pos} {t : TA}
theorem pe_callO (G : Ok X.prog X.w X.K X.mg X.base x j ps sp) (hr : Room k X.A) (hj : j ≤ k) (ha : PA X (e :: es) t) (hg : Gl X x := by rfl) (hdb : (x == ("__debug__" : Str)) = false := by decide) (he : starEach (e :: es) X.env = (false, eval e X.env) :: starEach es X.env := by rfl) (hpl : (backTo pos (starEach es X.env)).any (·.1) = false := by rfl) :
    PE X (.Call (.Name x p) (e :: es) [] pos) (tCall sp [] E0 t) := by
  obtain ⟨f, fd, F, g, kp, b⟩ := G
  exact pe_call F (hr.mono hj) hg g kp b .nil pass0 ha hdb he hpl
end
/-! ### own rules -/
open AutoSeq1 (wpAny_loadPart')
theorem list_extend_tuple (l : Addr) (items : Array Value) (n : Nat) (b : Addr) (items2 : Array Value) (n2 : Nat) (dd : Option Addr) (sl : Array (Option Value)) (hs0 : ¬(!items.isEmpty && Builtin.List.listTooLong (items.size + items2.size)) = true) (hs1 : items.size ≤ sizeLine) (hs2 : items.size + items2.size ≤ sizeLine + 1) :
    Meets (Builtin.«list.extend» ⟨[.ref l, .ref b], []⟩) (fun _ R s => s.heap.get? l = some { cls := .type "list", dict := none, data := .seq items n, slots := #[] } ∧ s.heap.get? b = some { cls := .type "tuple", dict := dd, data := .seq items2 n2, slots := sl } ∧ R (.ok (.ret Value.none)) { s with heap := s.heap.update l (Obj.mapSeq fun x => x ++ items2), toks := s.toks }) :=
  .of_wp fun prog w A R s h => by
    obtain ⟨hp, g, d, tk, os⟩ := s; obtain ⟨hl, hb, h⟩ := h; have f1 := AutoSeq1.idx_int; have f2 := AutoSeq1.sub_tuple_tuple; have f3 := AutoSeq1.sub_list_list; have f4 := AutoSeq1.sub_tuple_list; have f5 := AutoSeq1.sub_list_tuple;
    have hz' : (items ++ items2).size ≤ sizeLine + 1 := by rw [Array.size_append]; exact hs2
    wp_walk using (wpAny_updateSeq hl rfl (hz := hs1) (_hz' := hz')), wpAny_loadPart' hl, wpAny_loadPart' hb; exact ⟨_, rfl, h⟩
section
variable {X : Cx}
/-- xs.extend(t), t a tuple -/
def rExtT : V → List V → Hp → VK → Prop := fun x vs H Q => ∃ l b xs zs, x = .ref l ∧ vs = [.ref b] ∧ H l = some (.lst xs) ∧ H b = some (.tup zs) ∧ xs.length + zs.length ≤ sizeLine ∧ Q .non (upd H l (.lst (xs ++ zs)))
theorem mt_extT : MtR X "list.extend" rExtT := by
  intro pins s σ H x vs v us Q I rx rv h
  obtain ⟨l, b, xs, zs, rfl, rfl, hH, hB, hz, q⟩ := h
  cases rx
  obtain ⟨u, rfl, ru⟩ := Vals.one rv
  cases ru
  obtain ⟨z, its, n, r, hl, e⟩ := I.lstM hH
  obtain ⟨its2, r2, pl, hz2⟩ := I.tuple (SqT.of hB)
  obtain ⟨⟨cls, dd, dt, sl⟩, ho, hc, n2, hd⟩ := pl
  simp only at hc hd
  subst hc
  subst hd
  have hl2 := r2.length
  have hsz : its.toArray.size + its2.toArray.size ≤ sizeLine := by rw [List.size_toArray, List.size_toArray]; omega
  have hlong : ¬ (!its.toArray.isEmpty && Builtin.List.listTooLong (its.toArray.size + its2.toArray.size)) = true := by
    rw [notLongL hsz, Bool.and_false]
    exact Bool.false_ne_true
  refine call_meets F.slot_list_extend ⟨_, e, rfl⟩ F.entry_list_extend (F.args_list_extend_2 _ _)
    (list_extend_tuple l its.toArray n b its2.toArray n2 dd sl hlong (by rw [List.size_toArray]; omega) (by omega)) ⟨e, ho, ?_⟩
  refine ⟨.non, _, I.lset (its' := its ++ its2) hH e (by simp) (r.append r2) ?_, rfl, q⟩
  rw [List.length_append]
  omega
/-- (a, b, ..).m(e), a tuple just displayed -/
def tDM (r : V → List V → Hp → VK → Prop) (ts t : TA) : TE := fun σ H Q => ts σ H fun xs H1 => xs.length ≤ sizeLine ∧ ∀ p, H1 p = none → t σ (upd H1 p (.tup xs)) fun vs H2 => r (.ref p) vs H2 Q
theorem pe_dm {es as : List Expr} {e : Expr} {k} {ts t : TA} {name : Str} {id : String} {r : V → List V → Hp → VK → Prop} {tp apos cpos : Pos} (pa : PlainAttrs "tuple") (slot : Slot "tuple" name id) (hty : typeOf (.builtin id) = pure (.type "method_descriptor")) (hm : MtR X id r) (hts : PA X as ts) (ha : PA X (e :: es) t)
    (hbase : attributeBase (.Tuple as k tp) name X.env (eval (.Tuple as k tp) X.env) = eval (.Tuple as k tp) X.env := by rfl)
    (hfew : ((backTo cpos (starEach (e :: es) X.env)).all (fun x => !x.1) && (backToKw cpos (keywordEach [] X.env)).all (fun x => x.1.isSome)
      && decide ((e :: es).length + ([] : List Keyword).length + (if ([] : List Keyword).isEmpty then 0 else 1) < 30)) = true := by rfl)
    (hline : (apos.endLine == cpos.line) = true := by rfl) (hs : starEach (e :: es) X.env = (false, eval e X.env) :: starEach es X.env := by rfl) (hplain : (backTo cpos (starEach es X.env)).any (·.1) = false := by rfl) :
    PE X (.Call (.Attribute (.Tuple as k tp) name apos) (e :: es) [] cpos) (tDM r ts t) := by
  refine ⟨fun pins s σ H Q I h => ?_⟩
  refine wpAny_Call_method_late hbase hfew hline rfl ?_
  refine wpAny_Tuple_spliced (thn (hts.run tp pins s σ H _ I h) fun us s1 ⟨xs, H1, I1, r1, z, q⟩ => ⟨by rw [← r1.length]; exact z, ?_⟩)
  have hf : H1 s1.heap.objs.size = none := I1.hok.fresh (Nat.le_refl _)
  have I2 : Inv X pins σ (upd H1 s1.heap.objs.size (.tup xs)) { s1 with heap := s1.heap.push { cls := .type "tuple", data := .seq us.toArray } } :=
    I1.laid (t' := s1.toks) (fun b u e => Heap.get?_push_of_some _ e) (Nat.le_refl _) ⟨z, us, r1, ⟨_, Heap.get?_push_size _ rfl, rfl, _, rfl⟩⟩
  refine ⟨"tuple", id, pa, slot, hty, ⟨_, Heap.get?_push_size _ rfl, rfl⟩, fun a ea => ?_, ?_⟩
  · cases ea
    exact ⟨_, Heap.get?_push_size _ rfl, rfl⟩
  · have hA := ha.run cpos pins _ σ _ _ I2 (q _ hf)
    rw [hs] at hA ⊢
    refine Calls.callWith_builtin (by show (false || (backTo cpos (starEach es X.env)).any (·.1)) = false; rw [hplain] <;> rfl) (Calls.evalArgs_plain ?_)
    exact thn hA fun us s2 ⟨vs, H2, I2, r2, q2⟩ => hm pins s2 σ H2 (.ref s1.heap.objs.size) vs _ us Q I2 rfl r2 q2
end
end K26
set_option maxHeartbeats 4000000
namespace K26
open PySem PySem.Spec PyProof.Rows L2
/-- what the top has written, its defs apart -/
structure Txt (K : PySem.W.Frag) (mg : Str → Option Value) : Prop where
  things : ∃ t, mg "MOST_THINGS" = some (.int 24 t)
  sets : ∃ t, mg "MOST_SETS" = some (.int 40 t)
  few : ∃ t, mg "MOST_FOR_CHOICES" = some (.int 8 t)
  len : mg "len" = none
  range : mg "range" = none
  isinstance : mg "isinstance" = none
  min : mg "min" = none
  max : mg "max" = none
  sorted : mg "sorted" = none
  enumerate : mg "enumerate" = none
  list : mg "list" = none
  tuple : mg "tuple" = none
  int : mg "int" = none
  bool : mg "bool" = none
/-! ### sets in the heap -/
def SetsAt (H : Hp) : List (List Int) → List V → Prop
  | [], vs => vs = []
  | c :: r, vs => ∃ a vs', vs = .ref a :: vs' ∧ H a = some (.tup (c.map V.int)) ∧ SetsAt H r vs'
theorem SetsAt.mono {H H' : Hp} (k : Kept H H') : ∀ {S : List (List Int)} {vs : List V}, SetsAt H S vs → SetsAt H' S vs
  | [], vs, h => h
  | c :: r, vs, ⟨a, vs', e, h1, h2⟩ => ⟨a, vs', e, k _ _ h1, SetsAt.mono k h2⟩
theorem SetsAt.length {H : Hp} : ∀ {S : List (List Int)} {vs : List V}, SetsAt H S vs → vs.length = S.length
  | [], vs, h => by
    have e : vs = [] := h
    rw [e]; rfl
  | c :: r, vs, ⟨a, vs', e, h1, h2⟩ => by rw [e, List.length_cons, List.length_cons, SetsAt.length h2]
theorem SetsAt.get {H : Hp} : ∀ {S : List (List Int)} {vs : List V} {i : Nat} {v : V}, SetsAt H S vs → vs[i]? = some v → ∃ a c, v = .ref a ∧ S[i]? = some c ∧ H a = some (.tup (c.map V.int))
  | [], vs, i, v, h, hi => by
    have e : vs = [] := h
    subst e
    simp at hi
  | c :: r, vs, i, v, ⟨a, vs', e, h1, h2⟩, hi => by
    subst e
    cases i with
    | zero =>
      have e : V.ref a = v := Option.some.inj hi
      exact ⟨a, c, e.symm, rfl, h1⟩
    | succ j => exact SetsAt.get (i := j) h2 hi
theorem SetsAt.append {H : Hp} : ∀ {S R : List (List Int)} {vs ws : List V}, SetsAt H S vs → SetsAt H R ws → SetsAt H (S ++ R) (vs ++ ws)
  | [], R, vs, ws, h, h2 => by
    have e : vs = [] := h
    subst e
    exact h2
  | c :: r, R, vs, ws, ⟨a, vs', e, h1, h3⟩, h2 => by
    subst e
    exact ⟨a, vs' ++ ws, rfl, h1, SetsAt.append h3 h2⟩
theorem SetsAt.one {H : Hp} {a : Addr} {c : List Int} (h : H a = some (.tup (c.map V.int))) : SetsAt H [c] [.ref a] := ⟨a, [], rfl, h, rfl⟩
theorem ints_get {c : List Int} {i : Nat} (h : i < c.length) : (c.map V.int)[i]? = some (.int c[i]) := by
  rw [List.getElem?_map, List.getElem?_eq_getElem h]; rfl
theorem atI_ints {c : List Int} {i : Nat} (h : i < c.length) : atI (c.map V.int) (i : Int) = some (.int c[i]) := atI_nat (ints_get h)
section
variable {P : Program} {w : World} {K : PySem.W.Frag} {mg : Str → Option Value} {base : Heap}
theorem blT {p : Prop} [Decidable p] (h : p) : V.bl (decide p) = V.bl true := by rw [decide_eq_true h]
theorem blF {p : Prop} [Decidable p] (h : ¬ p) : V.bl (decide p) = V.bl false := by rw [decide_eq_false h]
/-! ### is_size -/
abbrev sIsSize : Stmt := topS 7
theorem scIsSize : FnScope ["n"] ["n"] (defScope sIsSize) := ⟨rfl, rfl, rfl, by decide +kernel, rfl, by decide +kernel, by decide +kernel⟩
def spIsSize : Sp := fun vs H Q _ => ∃ n : Int, vs = [.int n] ∧ 1 ≤ n ∧ n ≤ 24 ∧ Q (.bl true) H
theorem ok_is_size (T : Txt K mg) (D : DefAt K mg "is_size" sIsSize ["n"]) : Ok P w K mg base "is_size" 1 ["n"] spIsSize := by
  refine ok_def D scIsSize (fun vs H Q E h => ?_) (fun f cdv A outer s H vs Q E hr h => ?_)
  · obtain ⟨n, rfl, _⟩ := h
    rfl
  obtain ⟨n, rfl, h1, h2, q⟩ := h
  obtain ⟨t24, m24⟩ := T.things
  refine ⟨_, pss_one (ps_ret (pe_chain op_le op_le pe_int (pv 0) (pe_glob (v := .int 24) rfl m24 ⟨_, rfl⟩))), ?_⟩
  refine ⟨_, rfl, 1, n, rfl, rfl, true, blT h1, iteT ⟨n, 24, rfl, rfl, ?_⟩⟩
  show Q (.bl (decide (n ≤ 24))) H
  rw [decide_eq_true h2]
  exact q
/-! ### check_things -/
abbrev sCheckThings : Stmt := topS 8
theorem scCheckThings : FnScope ["n"] ["n"] (defScope sCheckThings) := ⟨rfl, rfl, rfl, by decide +kernel, rfl, by decide +kernel, by decide +kernel⟩
def spCheckThings : Sp := fun vs H Q _ => ∃ n : Int, vs = [.int n] ∧ 1 ≤ n ∧ n ≤ 24 ∧ Q (.int n) H
theorem ok_check_things (D : DefAt K mg "check_things" sCheckThings ["n"]) (G : Ok P w K mg base "is_size" 1 ["n"] spIsSize) : Ok P w K mg base "check_things" 2 ["n"] spCheckThings := by
  refine ok_def D scCheckThings (fun vs H Q E h => ?_) (fun f cdv A outer s H vs Q E hr h => ?_)
  · obtain ⟨n, rfl, _⟩ := h
    rfl
  obtain ⟨n, rfl, h1, h2, q⟩ := h
  refine ⟨_, pss_cons (ps_if (pt_not (pt_val (pe_callO G hr (by decide) (pa_cons (pv 0) pa_nil)))) pss_never pss_nil) (pss_one (ps_ret (pv 0))), ?_⟩
  exact ⟨_, rfl, n, rfl, h1, h2, _, rfl, iteF ⟨_, rfl, q⟩⟩
/-! ### is_set -/
abbrev sIsSet : Stmt := topS 9
theorem scIsSet : FnScope ["n", "chosen", "at"] ["n", "chosen"] (defScope sIsSet) := ⟨rfl, rfl, rfl, by decide +kernel, rfl, by decide +kernel, by decide +kernel⟩
def spIsSet : Sp := fun vs H Q _ => ∃ (n : Nat) (a : Addr) (c : List Int), vs = [.int n, .ref a] ∧ n ≤ 24 ∧ H a = some (.tup (c.map V.int)) ∧ IsSet n c ∧ Q (.bl true) H
theorem ok_is_set (T : Txt K mg) (D : DefAt K mg "is_set" sIsSet ["n", "chosen"]) : Ok P w K mg base "is_set" 1 ["n", "chosen"] spIsSet := by
  refine ok_def D scIsSet (fun vs H Q E h => ?_) (fun f cdv A outer s H vs Q E hr h => ?_)
  · obtain ⟨n, a, c, rfl, _⟩ := h
    rfl
  obtain ⟨n, a, c, rfl, hn, hc, hs, q⟩ := h
  have hl := hs.len
  have ix : ∀ {X : Cx}, IxR X (rIxT X.K) := ix_tup
  refine ⟨_, pss_cons (ps_for PassesOwn.never rfl (pi_range1 (by rfl) T.range (pa_cons (pe_callB call_len_seq (by rfl) T.len PySem.boot_len (pa_cons (pv 1) pa_nil)) pa_nil)) (pg_name (i := 2) scIsSet.nd rfl (.inl rfl))
      (pss_cons (ps_if (pt_not (pt_chain op_le op_lt pe_int (pe_ix ix_tup (pv 1) (pv 2) (fun _ _ => rfl)) (pv 0))) pss_never pss_nil)
      (pss_one (ps_if (PW.pt (pw_and (pt_cmpR op_gt (pv 2) pe_int (nomark _)) (pw_and1 (pt_cmpR op_ge (pe_ix ix_tup (pv 1) (pe_op op_sub (pv 2) pe_int) (fun _ _ => rfl)) (pe_ix ix_tup (pv 1) (pv 2) (fun _ _ => rfl)) (nomark _))))) pss_never pss_nil))))
    (pss_one (ps_ret pe_bl)), ?_⟩
  refine ⟨_, rfl, a, _, rfl, .inr (SqT.of hc), _, rfl, by omega, by rw [List.length_map]; omega, ?_⟩
  rw [List.length_map, Int.toNat_natCast]
  refine for_range (lo := 0) (n := c.length) (fun i σ H' => H' = H ∧ ∃ v, σ = [some (.int n), some (.ref a), v]) ⟨rfl, none, rfl⟩ ?_ ?_
  · rintro i σ H' hi ⟨rfl, v, rfl⟩
    rw [Int.zero_add]
    have m := hs.mem c[i] (List.getElem_mem hi)
    refine ⟨_, rfl, _, rfl, a, _, _, _, rfl, rfl, SqT.of hc, atI_ints hi, 0, _, rfl, rfl, true, blT m.1, iteT ⟨_, rfl, _, _, rfl, rfl, true, blT m.2, iteF ?_⟩⟩
    by_cases h0 : (0 : Int) < (i : Int)
    · obtain ⟨j, rfl⟩ : ∃ j, i = j + 1 := ⟨i - 1, by omega⟩
      have hj : j < c.length := by omega
      have e : ((j + 1 : Nat) : Int) - 1 = (j : Int) := by omega
      have lt := List.pairwise_iff_getElem.mp hs.asc j (j + 1) hj hi (Nat.lt_succ_self j)
      refine ⟨_, rfl, _, _, rfl, rfl, true, blT h0, iteT ⟨_, rfl, _, rfl, _, _, rfl, rfl, a, _, _, _, rfl, congrArg V.int e, SqT.of hc, atI_ints hj, _, rfl, _, rfl, a, _, _, _, rfl, rfl, SqT.of hc, atI_ints hi, _, _, rfl, rfl, false, blF (by omega), iteF ⟨rfl, _, rfl⟩⟩⟩
    · exact ⟨_, rfl, _, _, rfl, rfl, false, blF h0, iteF (iteF ⟨rfl, _, rfl⟩)⟩
  · rintro σ H' ⟨rfl, v, rfl⟩
    exact q
/-! ### check_set -/
abbrev sCheckSet : Stmt := topS 10
theorem scCheckSet : FnScope ["n", "chosen"] ["n", "chosen"] (defScope sCheckSet) := ⟨rfl, rfl, rfl, by decide +kernel, rfl, by decide +kernel, by decide +kernel⟩
def spCheckSet : Sp := fun vs H Q _ => ∃ (n : Nat) (a : Addr) (c : List Int), vs = [.int n, .ref a] ∧ 1 ≤ n ∧ n ≤ 24 ∧ H a = some (.tup (c.map V.int)) ∧ IsSet n c ∧ Q (.ref a) H
theorem ok_check_set (D : DefAt K mg "check_set" sCheckSet ["n", "chosen"]) (G1 : Ok P w K mg base "is_size" 1 ["n"] spIsSize) (G2 : Ok P w K mg base "is_set" 1 ["n", "chosen"] spIsSet) : Ok P w K mg base "check_set" 2 ["n", "chosen"] spCheckSet := by
  refine ok_def D scCheckSet (fun vs H Q E h => ?_) (fun f cdv A outer s H vs Q E hr h => ?_)
  · obtain ⟨n, a, c, rfl, _⟩ := h
    rfl
  obtain ⟨n, a, c, rfl, h1, hn, hc, hs, q⟩ := h
  refine ⟨_, pss_cons (ps_if (PW.pt (pw_or (pt_not (pt_val (pe_callO G1 hr (by decide) (pa_cons (pv 0) pa_nil)))) (pw_or1 (pt_not (pt_val (pe_callO G2 hr (by decide) (pa_cons (pv 0) (pa_cons (pv 1) pa_nil)))))))) pss_never pss_nil) (pss_one (ps_ret (pv 1))), ?_⟩
  exact ⟨_, rfl, n, rfl, by omega, by omega, _, rfl, iteF ⟨_, rfl, _, rfl, n, a, c, rfl, hn, hc, hs, _, rfl, iteF ⟨_, rfl, q⟩⟩⟩
/-! ### check_table -/
abbrev sCheckTable : Stmt := topS 11
theorem scCheckTable : FnScope ["n", "sets", "chosen"] ["n", "sets"] (defScope sCheckTable) := ⟨rfl, rfl, rfl, by decide +kernel, rfl, by decide +kernel, by decide +kernel⟩
def spCheckTable : Sp := fun vs H Q _ => ∃ (n : Nat) (a : Addr) (S : List (List Int)) (ws : List V), vs = [.int n, .ref a] ∧ 1 ≤ n ∧ n ≤ 24 ∧ H a = some (.tup ws) ∧ SetsAt H S ws ∧ S.length ≤ 40 ∧ (∀ c ∈ S, IsSet n c) ∧ Q (.ref a) H
theorem ok_check_table (T : Txt K mg) (D : DefAt K mg "check_table" sCheckTable ["n", "sets"]) (G1 : Ok P w K mg base "is_size" 1 ["n"] spIsSize) (G2 : Ok P w K mg base "check_set" 2 ["n", "chosen"] spCheckSet) : Ok P w K mg base "check_table" 3 ["n", "sets"] spCheckTable := by
  refine ok_def D scCheckTable (fun vs H Q E h => ?_) (fun f cdv A outer s H vs Q E hr h => ?_)
  · obtain ⟨n, a, S, ws, rfl, _⟩ := h
    rfl
  obtain ⟨n, a, S, ws, rfl, h1, hn, hc, hS, h40, hs, q⟩ := h
  obtain ⟨t40, m40⟩ := T.sets
  have hl := hS.length
  refine ⟨_, pss_cons (ps_if (PW.pt (pw_or (pt_not (pt_val (pe_callO G1 hr (by decide) (pa_cons (pv 0) pa_nil)))) (pw_or1 (pt_cmpR op_gt (pe_callB call_len_seq (by rfl) T.len PySem.boot_len (pa_cons (pv 1) pa_nil)) (pe_glob (v := .int 40) rfl m40 ⟨_, rfl⟩) (nomark _))))) pss_never pss_nil)
    (pss_cons (ps_for PassesOwn.never rfl (pi_tup (pv 1)) (pg_name (i := 2) scCheckTable.nd rfl (.inl rfl)) (pss_one (ps_expr (pe_callO G2 hr (by decide) (pa_cons (pv 0) (pa_cons (pv 2) pa_nil))))))
    (pss_one (ps_ret (pv 1)))), ?_⟩
  refine ⟨_, rfl, n, rfl, by omega, by omega, _, rfl, iteF ⟨_, rfl, a, ws, rfl, .inr (SqT.of hc), _, _, rfl, rfl, false, blF (by omega), iteF ?_⟩⟩
  refine ⟨_, rfl, a, rfl, ⟨_, SqT.of hc⟩, ?_⟩
  refine for_tup (K := K) (a := a) (xs := ws) (fun i σ H' => H' = H ∧ ∃ v, σ = [some (.int n), some (.ref a), v]) ⟨rfl, none, rfl⟩ (fun i σ H' _ h => by rw [h.1]; exact SqT.of hc) ?_ ?_
  · rintro i x σ H' hi ⟨rfl, v, rfl⟩
    obtain ⟨b, c, rfl, hc2, hb⟩ := hS.get hi
    exact ⟨_, rfl, _, rfl, n, b, c, rfl, h1, hn, hb, hs c (List.mem_of_getElem? hc2), rfl, _, rfl⟩
  · rintro σ H' ⟨rfl, v, rfl⟩
    exact ⟨_, rfl, q⟩
end
end K26
set_option maxHeartbeats 4000000
namespace K26
open PySem PySem.Spec PyProof.Rows L2
def isLeaf : Tree → Bool
  | .leaf _ => true
  | .node _ _ => false
theorem leavesL_take_le (ts : List Tree) (i : Nat) : (leavesL (ts.take i)).length ≤ (leavesL ts).length := by
  have e := congrArg (fun l => (leavesL l).length) (List.take_append_drop i ts)
  simp only [leavesL_append, List.length_append] at e
  omega
section
variable {P : Program} {w : World} {K : PySem.W.Frag} {mg : Str → Option Value} {base : Heap}
/-- what is never asked is promised -/
theorem ok_none {x : Str} {st : Stmt} {ps : List Str} {k : Nat} {sp : Sp} (D : DefAt K mg x st ps) (no : ∀ vs H Q E, ¬ sp vs H Q E) : Ok P w K mg base x k ps sp := by
  obtain ⟨f, fd, F, g, b⟩ := D.ex
  exact ⟨f, fd, ⟨fun vs H Q E h => absurd h (no vs H Q E), fun A outer s H args us vs Q E _ _ _ _ h => absurd h (no vs H Q E)⟩, g, F.kp, b⟩
/-! ### is_thing -/
abbrev sIsThing : Stmt := topS 13
theorem scIsThing : FnScope ["tree"] ["tree"] (defScope sIsThing) := ⟨rfl, rfl, rfl, by decide +kernel, rfl, by decide +kernel, by decide +kernel⟩
def spIsThing : Sp := fun vs H Q _ => ∃ (v : V) (t : Tree), vs = [v] ∧ TreeAt H t v ∧ Q (.bl (isLeaf t)) H
theorem ok_is_thing (T : Txt K mg) (D : DefAt K mg "is_thing" sIsThing ["tree"]) : Ok P w K mg base "is_thing" 1 ["tree"] spIsThing := by
  refine ok_def D scIsThing (fun vs H Q E h => ?_) (fun f cdv A outer s H vs Q E hr h => ?_)
  · obtain ⟨v, t, rfl, _⟩ := h
    rfl
  obtain ⟨v, t, rfl, ht, q⟩ := h
  refine ⟨_, pss_one (ps_ret (pe_callB call_isi (by rfl) T.isinstance (by decide +kernel) (pa_cons (pv 0) (pa_cons (pe_bltn (v := .ty "int") (by rfl) T.int (by decide +kernel) rfl) pa_nil)))), ?_⟩
  cases t with
  | leaf i =>
    rw [TreeAt] at ht
    subst ht
    exact ⟨_, rfl, _, _, _, _, true, rfl, .ty "int", .base (.int i), kit_ty (by decide +kernel), q⟩
  | node w ts =>
    rw [TreeAt] at ht
    obtain ⟨a, b, ws, rfl, h1, h2, h3⟩ := ht
    exact ⟨_, rfl, _, _, _, _, false, rfl, .ty "int", .base (.tup h1), kit_ty (by decide +kernel), q⟩
/-! ### listed -/
abbrev sListed : Stmt := topS 14
theorem scListed : FnScope ["tree", "found", "part"] ["tree"] (defScope sListed) := ⟨rfl, rfl, rfl, by decide +kernel, rfl, by decide +kernel, by decide +kernel⟩
def spListed (n : Nat) : Sp := fun vs H Q _ => ∃ (v : V) (t : Tree), vs = [v] ∧ TreeAt H t v ∧ Wf t ∧ (leaves t).length ≤ n ∧ ∀ p H', Same H H' → H p = none → H' p = some (.lst ((leaves t).map V.int)) → Q (.ref p) H'
theorem ok_listed (D : DefAt K mg "listed" sListed ["tree"]) (G : Ok P w K mg base "is_thing" 1 ["tree"] spIsThing) : ∀ n, n ≤ 100 → Ok P w K mg base "listed" (n + 1) ["tree"] (spListed n)
  | 0, _ => ok_none D fun vs H Q E h => by
    obtain ⟨v, t, rfl, _, hw, hn, _⟩ := h
    have := leaves_pos t hw
    omega
  | n + 1, h100 => by
    have ih := ok_listed D G n (by omega)
    refine ok_def D scListed (fun vs H Q E h => ?_) (fun f cdv A outer s H vs Q E hr h => ?_)
    · obtain ⟨v, t, rfl, _⟩ := h
      rfl
    obtain ⟨v, t, rfl, ht, hw, hn, q⟩ := h
    refine ⟨_, pss_cons (ps_if (pt_val (pe_callO G hr (by omega) (pa_cons (pv 0) pa_nil))) (pss_one (ps_ret (pe_lst (pa_cons (pv 0) pa_nil)))) pss_nil)
      (pss_cons (ps_set (i := 1) scListed.nd rfl (.inl rfl) (pe_lst pa_nil))
      (pss_cons (ps_for PassesOwn.never rfl (pi_tup (pe_ix ix_tup (pv 0) pe_int (fun _ _ => rfl))) (pg_name (i := 2) scListed.nd rfl (.inl rfl))
        (pss_one (ps_expr (pe_bm PySem.F.plainAttrs_list PySem.F.slot_list_extend PySem.F.type_list_extend mt_extend (pv 1) (pa_cons (pe_callO ih hr (by omega) (pa_cons (pv 2) pa_nil)) pa_nil)))))
      (pss_one (ps_ret (pv 1))))), ?_⟩
    refine ⟨_, rfl, v, t, rfl, ht, _, rfl, ?_⟩
    cases t with
    | leaf i =>
      rw [TreeAt] at ht
      subst ht
      refine iteT ⟨_, rfl, (by show 1 ≤ sizeLine; decide), fun p np => q p _ (same_new np) np ?_⟩
      rw [upd_same, leaves]; rfl
    | node w ts =>
      refine iteF ⟨Nat.zero_le _, fun p np => ?_⟩
      have s1 : Same H (upd H p (.lst [])) := same_new np
      have ht1 := ht.mono (same_kept s1)
      have htk := ht1
      rw [TreeAt] at ht1
      obtain ⟨a, b, ws, rfl, h1, h2, h3⟩ := ht1
      have hws : WfL ts := by rw [Wf] at hw; exact hw.2
      rw [leaves] at hn q
      refine ⟨_, rfl, a, _, _, _, rfl, rfl, SqT.of h1, atI_nat (j := 1) rfl, b, rfl, ⟨_, SqT.of h2⟩, ?_⟩
      refine for_tup (K := K) (a := b) (xs := ws) (fun i σ H' => ∃ v, σ = [some (.ref a), some (.ref p), v] ∧ Same H H' ∧ Kept (upd H p (.lst [])) H' ∧ H' p = some (.lst ((leavesL (ts.take i)).map V.int)))
        ⟨none, rfl, s1, .refl _, upd_same⟩ (fun i σ H' _ ⟨_, _, _, k, _⟩ => SqT.of (k _ _ h2)) ?_ ?_
      · rintro i x σ H' hx ⟨v, rfl, s2, k2, e2⟩
        obtain ⟨t, hti, hta⟩ := h3.get hx
        have mt : t ∈ ts := List.mem_of_getElem? hti
        have lt := child_lt hw mt
        have et := take_snoc hti
        have le := leavesL_take_le ts (i + 1)
        rw [et, leavesL_append, leavesL_single, List.length_append] at le
        refine ⟨_, rfl, .inl ⟨rfl, _, SqL.of e2⟩, _, rfl, x, t, rfl, hta.mono k2, child_wf hw mt, by omega, fun c H3 s3 nc ec => ?_⟩
        refine ⟨p, c, _, _, rfl, rfl, s3 _ _ e2, ec, sizeL (by rw [List.length_map, List.length_map]; omega), _, rfl, same_put (s2.trans s3) np, (k2.trans (same_kept s3)).trans (kept_lst (s3 _ _ e2)), ?_⟩
        rw [upd_same, et, leavesL_append, leavesL_single, List.map_append]
      · rintro σ H' ⟨v, rfl, s2, k2, e2⟩
        rw [h3.length, List.take_length] at e2
        exact ⟨_, rfl, q p H' s2 np e2⟩
/-! ### least_thing -/
abbrev sLeast : Stmt := topS 15
theorem scLeast : FnScope ["tree"] ["tree"] (defScope sLeast) := ⟨rfl, rfl, rfl, by decide +kernel, rfl, by decide +kernel, by decide +kernel⟩
def spLeast : Sp := fun vs H Q _ => ∃ (v : V) (t : Tree), vs = [v] ∧ TreeAt H t v ∧ Wf t ∧ (leaves t).length ≤ 8 ∧ ∀ H', Same H H' → Q (.int (least t)) H'
theorem ok_least (T : Txt K mg) (D : DefAt K mg "least_thing" sLeast ["tree"]) (G : Ok P w K mg base "listed" 9 ["tree"] (spListed 8)) : Ok P w K mg base "least_thing" 10 ["tree"] spLeast := by
  refine ok_def D scLeast (fun vs H Q E h => ?_) (fun f cdv A outer s H vs Q E hr h => ?_)
  · obtain ⟨v, t, rfl, _⟩ := h
    rfl
  obtain ⟨v, t, rfl, ht, hw, hn, q⟩ := h
  refine ⟨_, pss_one (ps_ret (pe_callB (cr_min rfl) (by rfl) T.min (by decide +kernel) (pa_cons (pe_callO G hr (by decide) (pa_cons (pv 0) pa_nil)) pa_nil))), ?_⟩
  refine ⟨_, rfl, v, t, rfl, ht, hw, hn, fun p H' s1 np e1 => ⟨p, _, rfl, SqL.of e1, leaves_pos t hw, fun m h1 h2 => ?_⟩⟩
  have e := minL_eq h1 h2
  subst e
  exact q H' s1
/-! ### make_any -/
abbrev sMkAny : Stmt := topS 16
theorem scMkAny : FnScope ["parts"] ["parts"] (defScope sMkAny) := ⟨rfl, rfl, rfl, by decide +kernel, rfl, by decide +kernel, by decide +kernel⟩
def spMkAny : Sp := fun vs H Q _ => ∃ (a : Addr) (ws : List V) (ts : List Tree), vs = [.ref a] ∧ H a = some (.lst ws) ∧ TreesAt H ts ws ∧ ∀ v H', Same H H' → TreeAt H' (mkAny ts) v → Q v H'
theorem node_at {H : Hp} {a b : Addr} {ws : List V} {w : Bool} {ts : List Tree} (h1 : H a = some (.tup [.str (word w), .ref b])) (h2 : H b = some (.tup ws)) (h3 : TreesAt H ts ws) : TreeAt H (.node w ts) (.ref a) := by
  rw [TreeAt]
  exact ⟨a, b, ws, rfl, h1, h2, h3⟩
theorem ok_mkAny (T : Txt K mg) (D : DefAt K mg "make_any" sMkAny ["parts"]) : Ok P w K mg base "make_any" 1 ["parts"] spMkAny := by
  refine ok_def D scMkAny (fun vs H Q E h => ?_) (fun f cdv A outer s H vs Q E hr h => ?_)
  · obtain ⟨v, ws, t, rfl, _⟩ := h
    rfl
  obtain ⟨a, ws, ts, rfl, ha, ht, q⟩ := h
  have hl := ht.length
  refine ⟨_, pss_cons (ps_if (pt_cmpR op_eq (pe_callB call_len_seq (by rfl) T.len PySem.boot_len (pa_cons (pv 0) pa_nil)) pe_int (nomark _)) (pss_one (ps_ret (pe_ix ix_list (pv 0) pe_int (fun _ _ => rfl)))) pss_nil)
    (pss_one (ps_ret (pe_tup (pa_cons pe_str (pa_cons (pe_callTy call_tuple_of (by rfl) T.tuple (by decide +kernel) (pa_cons (pv 0) pa_nil)) pa_nil))))), ?_⟩
  refine ⟨_, rfl, a, ws, rfl, .inl (SqL.of ha), rfl, ?_⟩
  by_cases h1 : ws.length = 1
  · refine ⟨true, blT (by rw [h1]; rfl), iteT ?_⟩
    obtain ⟨v, hv, hta⟩ := ht.at (i := 0) (by omega)
    refine ⟨_, rfl, a, _, _, v, rfl, rfl, SqL.of ha, atI_nat (j := 0) hv, q v H (.refl H) ?_⟩
    rw [mkAny_one (by omega)]
    exact hta
  · refine ⟨false, blF (fun e => h1 (by injection e with e; omega)), iteF ?_⟩
    refine ⟨_, rfl, a, ws, rfl, .inl ⟨SqL.of ha, fun b nb => ⟨(by show 2 ≤ sizeLine; decide), fun c nc => ?_⟩⟩⟩
    have s1 : Same H (upd H b (.tup ws)) := same_new nb
    have s2 : Same (upd H b (.tup ws)) (upd (upd H b (.tup ws)) c (.tup [.str "any", .ref b])) := same_new nc
    refine q _ _ (s1.trans s2) ?_
    rw [mkAny_ne (by omega)]
    exact node_at upd_same (s2 _ _ upd_same) (ht.mono (same_kept (s1.trans s2)))
/-! ### make_row -/
abbrev sMkRow : Stmt := topS 17
theorem scMkRow : FnScope ["parts"] ["parts"] (defScope sMkRow) := ⟨rfl, rfl, rfl, by decide +kernel, rfl, by decide +kernel, by decide +kernel⟩
def spMkRow : Sp := fun vs H Q _ => ∃ (a : Addr) (ws : List V) (ts : List Tree), vs = [.ref a] ∧ H a = some (.lst ws) ∧ TreesAt H ts ws ∧ ∀ v H', Same H H' → TreeAt H' (mkRow ts) v → Q v H'
theorem ok_mkRow (T : Txt K mg) (D : DefAt K mg "make_row" sMkRow ["parts"]) (G : Ok P w K mg base "make_any" 1 ["parts"] spMkAny) : Ok P w K mg base "make_row" 2 ["parts"] spMkRow := by
  refine ok_def D scMkRow (fun vs H Q E h => ?_) (fun f cdv A outer s H vs Q E hr h => ?_)
  · obtain ⟨v, ws, t, rfl, _⟩ := h
    rfl
  obtain ⟨a, ws, ts, rfl, ha, ht, q⟩ := h
  have hl := ht.length
  refine ⟨_, pss_cons (ps_if (pt_cmpR op_lt (pe_callB call_len_seq (by rfl) T.len PySem.boot_len (pa_cons (pv 0) pa_nil)) pe_int (nomark _)) (pss_one (ps_ret (pe_callO G hr (by decide) (pa_cons (pv 0) pa_nil)))) pss_nil)
    (pss_one (ps_ret (pe_tup (pa_cons pe_str (pa_cons (pe_callTy call_tuple_of (by rfl) T.tuple (by decide +kernel) (pa_cons (pv 0) pa_nil)) pa_nil))))), ?_⟩
  refine ⟨_, rfl, a, ws, rfl, .inl (SqL.of ha), _, _, rfl, rfl, ?_⟩
  by_cases h1 : ws.length < 3
  · refine ⟨true, blT (by omega), iteT ⟨_, rfl, a, ws, ts, rfl, ha, ht, fun v H' s1 h => q v H' s1 ?_⟩⟩
    rw [mkRow, if_pos (by omega)]
    exact h
  · refine ⟨false, blF (by omega), iteF ?_⟩
    refine ⟨_, rfl, a, ws, rfl, .inl ⟨SqL.of ha, fun b nb => ⟨(by show 2 ≤ sizeLine; decide), fun c nc => ?_⟩⟩⟩
    have s1 : Same H (upd H b (.tup ws)) := same_new nb
    have s2 : Same (upd H b (.tup ws)) (upd (upd H b (.tup ws)) c (.tup [.str "row", .ref b])) := same_new nc
    refine q _ _ (s1.trans s2) ?_
    rw [mkRow, if_neg (by omega)]
    exact node_at upd_same (s2 _ _ upd_same) (ht.mono (same_kept (s1.trans s2)))
/-! ### plain_tree -/
abbrev sPlain : Stmt := topS 19
theorem scPlain : FnScope ["n"] ["n"] (defScope sPlain) := ⟨rfl, rfl, rfl, by decide +kernel, rfl, by decide +kernel, by decide +kernel⟩
def spPlain : Sp := fun vs H Q _ => ∃ n : Nat, vs = [.int n] ∧ 1 ≤ n ∧ n ≤ 24 ∧ ∀ v H', Same H H' → TreeAt H' (plain n) v → Q v H'
theorem leaves_at (H : Hp) : ∀ l : List Nat, TreesAt H (l.map fun (i : Nat) => Tree.leaf (i : Int)) (l.map fun (i : Nat) => V.int (i : Int))
  | [] => .nil
  | i :: r => .cons (by rw [TreeAt]) (leaves_at H r)
theorem rgV_zero (n : Nat) : rgV 0 (n : Int) = (List.range n).map fun (i : Nat) => V.int (i : Int) := by
  unfold rgV
  rw [Int.sub_zero, Int.toNat_natCast]
  refine List.map_congr_left fun i _ => ?_
  rw [Int.zero_add]
theorem ok_plain (T : Txt K mg) (D : DefAt K mg "plain_tree" sPlain ["n"]) (G1 : Ok P w K mg base "check_things" 2 ["n"] spCheckThings) (G2 : Ok P w K mg base "make_any" 1 ["parts"] spMkAny) : Ok P w K mg base "plain_tree" 3 ["n"] spPlain := by
  refine ok_def D scPlain (fun vs H Q E h => ?_) (fun f cdv A outer s H vs Q E hr h => ?_)
  · obtain ⟨n, rfl, _⟩ := h
    rfl
  obtain ⟨n, rfl, h1, h2, q⟩ := h
  refine ⟨_, pss_cons (ps_expr (pe_callO G1 hr (by decide) (pa_cons (pv 0) pa_nil))) (pss_one (ps_ret (pe_callO G2 hr (by decide) (pa_cons (pe_listRg rfl (by rfl) T.list (prg_1 (by rfl) T.range (pv 0))) pa_nil)))), ?_⟩
  refine ⟨_, rfl, (n : Int), rfl, by omega, by omega, ?_⟩
  refine ⟨_, rfl, (n : Int), rfl, RgOk.of_le (by omega) (by omega) (by omega) (by omega), fun p np => ?_⟩
  rw [rgV_zero]
  exact ⟨p, _, _, rfl, upd_same, leaves_at _ (List.range n), fun v H' s1 h => q v H' ((same_new np).trans s1) h⟩
end
end K26
set_option maxHeartbeats 4000000
namespace K26
open PySem PySem.Spec PyProof.Rows L2
/-- a comprehension without a test -/
theorem tyes {σ : L2.St} {H : Hp} {F G : Hp → Prop} (h : F H) : tYes σ H fun b H3 => if b = true then F H3 else G H3 := by
  show if true = true then F H else G H
  rw [if_pos rfl]
  exact h
/-! ### a comprehension over enumerate -/
section
variable {K : PySem.W.Frag} {a : Addr} {xs : List V} {g : TG} {tt : TT} {te : TE} {vs : List Nat} {σ : L2.St} {H1 : Hp} {D : Addr} {Qd : Hp → Prop}
theorem lcf_enum (P : Nat → List V → Hp → Prop) (hD : H1 D = none) (hL : SqL K H1 a xs) (len : xs.length ≤ 1000) (mono : ∀ i acc H H', Kept H H' → P i acc H → P i acc H') (h0 : P 0 [] H1)
    (step : ∀ i x T H acc (QT : V → Hp → Prop) (QF : Hp → Prop), xs[i]? = some x → Same H1 H → H T = some (.tup [.int (i : Nat), x]) → P i acc H → (∀ y H4, Same H H4 → P (i + 1) (acc ++ [y]) H4 → QT y H4) → (∀ H3, Same H H3 → P (i + 1) acc H3 → QF H3) →
      g (.ref T) (wipe σ vs) H fun σ2 H2 => wipe σ2 vs = wipe σ vs ∧ tt σ2 H2 fun b H3 => if b = true then te σ2 H3 QT else QF H3)
    (fin : ∀ H' ys, Same H1 H' → H' D = some (.lst ys) → ys.length ≤ 1000 → P xs.length ys H' → Qd H') :
    Walked (Ite K a) g tt te vs σ H1 D Qd := by
  refine ⟨fun i m H => m = xs.length - i ∧ i ≤ xs.length ∧ Same H1 H ∧ ∃ acc, H D = some (.lst acc) ∧ acc.length ≤ i ∧ P i acc H, ⟨xs.length, by simp, Nat.zero_le _, same_new hD, [], upd_same, Nat.le_refl _, mono _ _ _ _ (kept_new hD) h0⟩, ?_⟩
  rintro i m H ⟨rfl, hi, s, acc, hd, hl, p⟩
  by_cases hlt : i < xs.length
  · refine .inr ⟨⟨xs, xs[i], s.seq hL, by simp [hlt]⟩, fun H' => Same H1 H' ∧ ∃ acc, H' D = some (.lst acc) ∧ acc.length ≤ i + 1 ∧ P (i + 1) acc H', fun H' p' => ⟨xs.length - (i + 1), by omega, rfl, hlt, p'⟩, fun x H' y => ?_⟩
    obtain ⟨T, x, rfl, nT, rfl, hx⟩ := y
    have sT : Same H (upd H T (.tup [.int (i : Nat), x])) := same_new nT
    refine step i x T _ acc _ _ (hx xs (s.seq hL)) (s.trans sT) upd_same (mono _ _ _ _ (same_kept sT) p) (fun y H4 s4 p4 => ⟨acc, s4 _ _ (sT _ _ hd), small1000 (by omega), same_put ((s.trans sT).trans s4) hD, acc ++ [y], upd_same, ?_, mono _ _ _ _ (kept_lst (s4 _ _ (sT _ _ hd))) p4⟩) (fun H3 s3 p3 => ⟨(s.trans sT).trans s3, acc, s3 _ _ (sT _ _ hd), by omega, p3⟩)
    rw [List.length_append, List.length_singleton]
    omega
  · have e : i = xs.length := by omega
    subst e
    exact .inl ⟨⟨xs, s.seq hL, Nat.le_refl _⟩, fin H acc s hd (by omega) p⟩
end
/-! ### pairs of ints -/
def PairsAt (H : Hp) : List (Int × Int) → List V → Prop
  | [], vs => vs = []
  | k :: r, vs => ∃ a vs', vs = .ref a :: vs' ∧ H a = some (.tup [.int k.1, .int k.2]) ∧ PairsAt H r vs'
theorem PairsAt.mono {H H' : Hp} (k : Kept H H') : ∀ {S : List (Int × Int)} {vs : List V}, PairsAt H S vs → PairsAt H' S vs
  | [], vs, h => h
  | c :: r, vs, ⟨a, vs', e, h1, h2⟩ => ⟨a, vs', e, k _ _ h1, PairsAt.mono k h2⟩
theorem PairsAt.length {H : Hp} : ∀ {S : List (Int × Int)} {vs : List V}, PairsAt H S vs → vs.length = S.length
  | [], vs, h => by
    have e : vs = [] := h
    rw [e]; rfl
  | c :: r, vs, ⟨a, vs', e, h1, h2⟩ => by rw [e, List.length_cons, List.length_cons, PairsAt.length h2]
theorem PairsAt.get {H : Hp} : ∀ {S : List (Int × Int)} {vs : List V} {i : Nat} {v : V}, PairsAt H S vs → vs[i]? = some v → ∃ a c, v = .ref a ∧ S[i]? = some c ∧ H a = some (.tup [.int c.1, .int c.2])
  | [], vs, i, v, h, hi => by
    have e : vs = [] := h
    subst e
    simp at hi
  | c :: r, vs, i, v, ⟨a, vs', e, h1, h2⟩, hi => by
    subst e
    cases i with
    | zero =>
      have e : V.ref a = v := Option.some.inj hi
      exact ⟨a, c, e.symm, rfl, h1⟩
    | succ j => exact PairsAt.get (i := j) h2 hi
theorem PairsAt.append {H : Hp} : ∀ {S R : List (Int × Int)} {vs ws : List V}, PairsAt H S vs → PairsAt H R ws → PairsAt H (S ++ R) (vs ++ ws)
  | [], R, vs, ws, h, h2 => by
    have e : vs = [] := h
    subst e
    exact h2
  | c :: r, R, vs, ws, ⟨a, vs', e, h1, h3⟩, h2 => by
    subst e
    exact ⟨a, vs' ++ ws, rfl, h1, PairsAt.append h3 h2⟩
theorem PairsAt.one {H : Hp} {a : Addr} {c : Int × Int} (h : H a = some (.tup [.int c.1, .int c.2])) : PairsAt H [c] [.ref a] := ⟨a, [], rfl, h, rfl⟩
/-- the pair at a value -/
def pairAt (H : Hp) : V → Int × Int
  | .ref t => match H t with
    | some (.tup [.int i, .int j]) => (i, j)
    | _ => (0, 0)
  | _ => (0, 0)
theorem pairAt_eq {H : Hp} {t : Addr} {i j : Int} (h : H t = some (.tup [.int i, .int j])) : pairAt H (.ref t) = (i, j) := by
  unfold pairAt
  simp only [h]
theorem PairsAt.map {H : Hp} : ∀ {S : List (Int × Int)} {vs : List V}, PairsAt H S vs → vs.map (pairAt H) = S
  | [], vs, h => by
    have e : vs = [] := h
    rw [e]; rfl
  | c :: r, vs, ⟨a, vs', e, h1, h2⟩ => by
    rw [e, List.map_cons, PairsAt.map h2, pairAt_eq h1]
theorem PairsAt.mem {H : Hp} {S : List (Int × Int)} {vs : List V} (h : PairsAt H S vs) : ∀ x ∈ vs, ∃ t, x = V.ref t ∧ H t = some (.tup [.int (pairAt H x).1, .int (pairAt H x).2]) := fun x m => by
  obtain ⟨i, hi, e⟩ := List.mem_iff_getElem.mp m
  obtain ⟨a, c, e1, h1, h2⟩ := h.get (i := i) (v := x) (by rw [List.getElem?_eq_getElem hi, e])
  subst e1
  refine ⟨a, rfl, ?_⟩
  rw [pairAt_eq h2]
  exact h2
theorem pairsAt_of {H : Hp} : ∀ {vs : List V}, (∀ x ∈ vs, ∃ t, x = V.ref t ∧ H t = some (.tup [.int (pairAt H x).1, .int (pairAt H x).2])) → PairsAt H (vs.map (pairAt H)) vs
  | [], _ => rfl
  | x :: r, h => by
    obtain ⟨t, e, ht⟩ := h x List.mem_cons_self
    exact ⟨t, r, by rw [e], ht, pairsAt_of fun y m => h y (List.mem_cons_of_mem _ m)⟩
theorem lexB_le {a b : Int × Int} (h : SrtO.lexB b a = false) : leP a b = true := by
  have h1 : ¬ (b.1 < a.1 ∨ (b.1 = a.1 ∧ b.2 < a.2)) := fun e => by
    rw [SrtO.lexB_iff.mpr e] at h
    cases h
  unfold leP
  rw [decide_eq_true_eq]
  omega
theorem sorted_pairs {H : Hp} {S : List (Int × Int)} {xs ys : List V} (h : PairsAt H S xs) (s : SrtO.Srtd (ltP (pairAt H)) ys) (p : ys.Perm xs) : PairsAt H (sortP S) ys := by
  have e : ys.map (pairAt H) = sortP S := by
    refine sortP_uniq ?_ ?_
    · rw [← h.map]
      exact p.map _
    · exact List.pairwise_map.mpr (s.imp fun q => lexB_le q)
  rw [← e]
  exact pairsAt_of fun x m => h.mem x (p.mem_iff.mp m)
theorem atI_neg1 {xs : List V} {v : V} (h : xs[xs.length - 1]? = some v) : atI xs (-1) = some v := by
  have h0 := (List.getElem?_eq_some_iff.mp h).1
  have e : ixN xs.length (-1) = some (xs.length - 1) := by
    unfold ixN
    rw [if_neg (by decide), if_pos (by omega)]
    exact congrArg some (by omega)
  unfold atI
  rw [e]
  exact h
theorem row_ne : ¬ (V.str "row" = V.str "any") := fun e => by
  injection e with e
  exact absurd e (by decide +kernel)
section
variable {P : Program} {w : World} {K : PySem.W.Frag} {mg : Str → Option Value} {base : Heap}
/-! ### normalized -/
abbrev sNorm : Stmt := topS 18
abbrev nNorm : List Str := ["tree", "parts", "order", "part", "index", "_"]
theorem scNorm : FnScope nNorm ["tree"] (defScope sNorm) := ⟨rfl, rfl, rfl, by decide +kernel, rfl, by decide +kernel, by decide +kernel⟩
def spNorm (n : Nat) : Sp := fun vs H Q _ => ∃ (v : V) (t : Tree), vs = [v] ∧ TreeAt H t v ∧ Wf t ∧ (leaves t).length ≤ n ∧ ∀ v' H', Same H H' → TreeAt H' (norm t) v' → Q v' H'
theorem ok_norm (T : Txt K mg) (D : DefAt K mg "normalized" sNorm ["tree"]) (G1 : Ok P w K mg base "is_thing" 1 ["tree"] spIsThing) (G2 : Ok P w K mg base "least_thing" 10 ["tree"] spLeast) : ∀ n, n ≤ 8 → Ok P w K mg base "normalized" (n + 10) ["tree"] (spNorm n)
  | 0, _ => ok_none D fun vs H Q E h => by
    obtain ⟨v, t, rfl, _, hw, hn, _⟩ := h
    have := leaves_pos t hw
    omega
  | n + 1, h8 => by
    have ih := ok_norm T D G1 G2 n (by omega)
    refine ok_def (k := n + 10) D scNorm (fun vs H Q E h => ?_) (fun f cdv A outer s H vs Q E hr h => ?_)
    · obtain ⟨v, t, rfl, _⟩ := h
      rfl
    obtain ⟨v, t, rfl, ht, hw, hn, q⟩ := h
    refine ⟨_, pss_cons (ps_if (pt_val (pe_callO G1 hr (by omega) (pa_cons (pv 0) pa_nil))) (pss_one (ps_ret (pv 0))) pss_nil)
      (pss_cons (ps_set (i := 1) scNorm.nd rfl (.inr rfl) (pe_lc (own := [("part", 3)]) (g := gName 3) (tt := tYes) rfl scNorm.nd (pi_tup (pe_ix ix_tup (pv 0) pe_int (fun _ _ => rfl))) (blkOk_by (N := nNorm) (sc := defScope sNorm) (by decide +kernel))
          (fun _ _ _ _ _ => pg_name (i := 3) scNorm.nd rfl (.inl rfl)) (fun _ _ _ _ _ => pts_nil) (fun _ _ _ _ _ => pe_callO ih hr (by omega) (pa_cons (pv 3) pa_nil))))
      (pss_cons (ps_if (pt_cmpR op_eq (pe_ix ix_tup (pv 0) pe_int (fun _ _ => rfl)) pe_str (nomark _))
          (pss_cons (ps_set (i := 2) scNorm.nd rfl (.inl rfl) (pe_callB cr_sortedPO (by rfl) T.sorted (by decide +kernel) (pa_cons
              (pe_lc (own := [("index", 4), ("part", 3)]) (g := gTup K 2 (gCons (gName 4) (gCons (gName 3) gNil))) (tt := tYes) rfl scNorm.nd (pi_enum (by rfl) T.enumerate (pa_cons (pv 1) pa_nil)) (blkOk_by (N := nNorm) (sc := defScope sNorm) (by decide +kernel))
                (fun _ _ _ _ _ => pg_tup rfl (pgs_cons (pg_name (i := 4) scNorm.nd rfl (.inl rfl)) (pgs_cons (pg_name (i := 3) scNorm.nd rfl (.inl rfl)) pgs_nil))) (fun _ _ _ _ _ => pts_nil)
                (fun _ _ _ _ _ => pe_tup (pa_cons (pe_callO G2 hr (by omega) (pa_cons (pv 3) pa_nil)) (pa_cons (pv 4) pa_nil)))) pa_nil)))
          (pss_one (ps_ret (pe_tup (pa_cons pe_str (pa_cons (pe_callTy call_tuple_of (by rfl) T.tuple (by decide +kernel) (pa_cons
              (pe_lc (own := [("_", 5), ("index", 4)]) (g := gTup K 2 (gCons (gName 5) (gCons (gName 4) gNil))) (tt := tYes) (te := tOp (rIxL K) (tVar 1) (tVar 4)) rfl scNorm.nd (pi_list (pv 2)) (blkOk_by (N := nNorm) (sc := defScope sNorm) (by decide +kernel))
                (fun _ _ _ _ _ => pg_tup rfl (pgs_cons (pg_name (i := 5) scNorm.nd rfl (.inl rfl)) (pgs_cons (pg_name (i := 4) scNorm.nd rfl (.inl rfl)) pgs_nil))) (fun _ _ _ _ _ => pts_nil)
                (fun _ _ _ _ _ => pe_ix ix_list (pv 1) (pv 4) (fun _ _ => rfl))) pa_nil)) pa_nil)))))) pss_nil)
      (pss_cons (ps_if (pt_cmpR op_gt (pe_callO G2 hr (by omega) (pa_cons (pe_ix ix_list (pv 1) pe_int (fun _ _ => rfl)) pa_nil)) (pe_callO G2 hr (by omega) (pa_cons (pe_ix ix_list (pv 1) (pe_un un_neg pe_int) (fun _ _ => rfl)) pa_nil)) (nomark _))
          (pss_one (ps_set (i := 1) scNorm.nd rfl (.inr rfl) (pe_revL (pv 1)))) pss_nil)
      (pss_one (ps_ret (pe_tup (pa_cons pe_str (pa_cons (pe_callTy call_tuple_of (by rfl) T.tuple (by decide +kernel) (pa_cons (pv 1) pa_nil)) pa_nil)))))))), ?_⟩
    refine ⟨_, rfl, v, t, rfl, ht, _, rfl, ?_⟩
    cases t with
    | leaf i => exact iteT ⟨_, rfl, q _ H (.refl H) (by rw [norm]; exact ht)⟩
    | node w ts =>
      refine iteF ?_
      have htk := ht
      rw [TreeAt] at ht
      obtain ⟨a, b, ws, rfl, h1, h2, h3⟩ := ht
      have hws : WfL ts := by rw [Wf] at hw; exact hw.2
      have h2l : 2 ≤ ts.length := by rw [Wf] at hw; exact hw.1
      have hlen := leavesL_len ts hws
      rw [leaves] at hn
      -- parts = [normalized(part) for part in tree[1]]
      refine ⟨_, rfl, a, _, _, _, rfl, rfl, SqT.of h1, atI_nat (j := 1) rfl, b, rfl, ⟨_, SqT.of h2⟩, fun D1 nD => ?_⟩
      refine lcf_tup (K := K) (a := b) (xs := ws) (fun i acc H' => TreesAt H' ((ts.take i).map norm) acc) nD h2 (by rw [h3.length]; omega) (fun _ _ _ _ k h => h.mono k) .nil ?_ ?_
      · intro i x H1 acc QT QF hx s1 hacc kT kF
        obtain ⟨t, hti, hta⟩ := h3.get hx
        have mt : t ∈ ts := List.mem_of_getElem? hti
        have lt := child_lt hw mt
        refine ⟨rfl, tyes ⟨_, rfl, x, t, rfl, hta.mono (same_kept s1), child_wf hw mt, by omega, fun v' H2 s2 hv' => kT v' H2 s2 ?_⟩⟩
        rw [take_snoc hti, List.map_append]
        exact (hacc.mono (same_kept s2)).append (.one hv')
      intro H1 ys s1 e1 y1 hys
      rw [h3.length, List.take_length, ← normL_eq] at hys
      have hps := normL_is ts hws
      have lps : (normL ts).length = ts.length := by rw [normL_eq, List.length_map]
      have lys := hys.length
      generalize hgp : normL ts = ps at *
      have wfp : ∀ i, i < ps.length → Wf (ps.getD i default) ∧ (leaves (ps.getD i default)).length ≤ 8 := fun i hi => by
        rw [getD_of_lt hi]
        have mi : ps[i] ∈ ps := List.getElem_mem hi
        have := child_le hps.1 mi
        have := hps.2.length_eq
        exact ⟨wfL_iff.mp hps.1 _ mi, by omega⟩
      refine ⟨_, rfl, a, _, _, _, rfl, rfl, SqT.of (s1 _ _ h1), atI_nat (j := 0) rfl, rfl, ?_⟩
      cases w with
      | false =>
        refine ⟨true, blT rfl, iteT ?_⟩
        -- order = sorted(..)
        refine ⟨_, rfl, D1, ys, rfl, SqL.of e1, fun D2 nD2 => ?_⟩
        refine lcf_enum (K := K) (a := D1) (xs := ys) (fun i acc H' => PairsAt H' ((keys ps).take i) acc) nD2 (SqL.of e1) y1 (fun _ _ _ _ k h => h.mono k) rfl ?_ ?_
        · intro i x T H2 acc QT QF hx s2 eT hacc kT kF
          have hi : i < ps.length := by
            have := (List.getElem?_eq_some_iff.mp hx).1
            omega
          obtain ⟨x', hx', hta⟩ := hys.at hi
          have ex : x = x' := Option.some.inj (hx.symm.trans hx')
          subst ex
          refine ⟨T, _, rfl, SqT.of eT, rfl, _, _, rfl, _, _, rfl, rfl, rfl, tyes ⟨_, rfl, x, _, rfl, hta.mono (same_kept s2), (wfp i hi).1, (wfp i hi).2, fun H3 s3 => ⟨_, rfl, (by show 2 ≤ sizeLine; decide), fun p np => kT _ _ (s3.trans (same_new np)) ?_⟩⟩⟩
          have hk : (keys ps)[i]? = some (least (ps.getD i default), (i : Int)) := by
            unfold keys
            rw [List.getElem?_map, List.getElem?_range hi]; rfl
          rw [take_snoc hk]
          exact (hacc.mono (same_kept (s3.trans (same_new np)))).append (.one upd_same)
        intro H2 zs s2 e2 z2 hzs
        have lk : (keys ps).length = ps.length := by unfold keys; rw [List.length_map, List.length_range]
        rw [lys, ← lk, List.take_length] at hzs
        refine ⟨D2, zs, pairAt H2, rfl, SqL.of e2, hzs.mem, fun os D3 srt stb nD3 => ?_⟩
        have s3 : Same H2 (upd H2 D3 (.lst os)) := same_new nD3
        have hos := (sorted_pairs hzs srt stb.perm).mono (same_kept s3)
        have los := hos.length
        have lsp := (sortP_perm (keys ps)).length_eq
        have e1' := s3 _ _ (s2 _ _ e1)
        have hys' := hys.mono (same_kept (s2.trans s3))
        -- return ('any', tuple(..))
        refine ⟨_, rfl, D3, rfl, ⟨_, SqL.of upd_same⟩, fun D4 nD4 => ?_⟩
        refine lcf_list (K := K) (a := D3) (xs := os) (fun i acc H' => TreesAt H' (((sortP (keys ps)).take i).map fun q : Int × Int => ps.getD q.2.toNat default) acc) nD4 (SqL.of upd_same) (by omega) (fun _ _ _ _ k h => h.mono k) .nil ?_ ?_
        · intro i x H4 acc QT QF hx s4 hacc kT kF
          obtain ⟨t, c, rfl, hc, htc⟩ := hos.get hx
          have mc : c ∈ keys ps := (sortP_perm (keys ps)).mem_iff.mp (List.mem_of_getElem? hc)
          obtain ⟨j, hj, ec⟩ := List.mem_map.mp mc
          rw [List.mem_range] at hj
          obtain ⟨x', hx', hta⟩ := hys'.at hj
          have e2 : c.2 = (j : Int) := by rw [← ec]
          refine ⟨t, _, rfl, SqT.of (s4 _ _ htc), rfl, _, _, rfl, _, _, rfl, rfl, rfl, tyes ⟨_, rfl, _, rfl, D1, ys, c.2, x', rfl, rfl, SqL.of (s4 _ _ e1'), at_of e2 hx', kT _ _ (.refl _) ?_⟩⟩
          rw [take_snoc hc, List.map_append]
          refine hacc.append (.one ?_)
          have : c.2.toNat = j := by omega
          show TreeAt H4 (ps.getD c.2.toNat default) x'
          rw [this]
          exact hta.mono (same_kept s4)
        intro H4 rs s4 e4 r4 hrs
        rw [los, List.take_length] at hrs
        refine ⟨D4, rs, rfl, .inl ⟨SqL.of e4, fun b2 nb => ⟨(by show 2 ≤ sizeLine; decide), fun c2 nc => ?_⟩⟩⟩
        have s5 : Same H4 (upd H4 b2 (.tup rs)) := same_new nb
        have s6 : Same (upd H4 b2 (.tup rs)) (upd (upd H4 b2 (.tup rs)) c2 (.tup [.str "any", .ref b2])) := same_new nc
        refine q _ _ (((((s1.trans s2).trans s3).trans s4).trans s5).trans s6) ?_
        rw [norm, hgp]
        exact node_at upd_same (s6 _ _ upd_same) (hrs.mono (same_kept (s5.trans s6)))
      | true =>
        refine ⟨false, blF row_ne, iteF ?_⟩
        obtain ⟨x0, hx0, ht0⟩ := hys.at (i := 0) (by omega)
        obtain ⟨x1, hx1, ht1⟩ := hys.at (i := ps.length - 1) (by omega)
        have w0 := wfp 0 (by omega)
        have w1 := wfp (ps.length - 1) (by omega)
        refine ⟨_, rfl, D1, _, _, x0, rfl, rfl, SqL.of e1, atI_nat (j := 0) hx0, x0, _, rfl, ht0, w0.1, w0.2, fun H2 s2 => ?_⟩
        refine ⟨_, rfl, 1, rfl, D1, _, _, x1, rfl, rfl, SqL.of (s2 _ _ e1), atI_neg1 (by rw [lys]; exact hx1), x1, _, rfl, ht1.mono (same_kept s2), w1.1, w1.2, fun H3 s3 => ?_⟩
        have s13 := s2.trans s3
        refine ⟨_, _, rfl, rfl, ?_⟩
        by_cases hc : least (ps.getD (ps.length - 1) default) < least (ps.getD 0 default)
        · refine ⟨true, blT hc, iteT ⟨_, rfl, D1, ys, rfl, SqL.of (s13 _ _ e1), fun D4 nD4 => ?_⟩⟩
          have s4 : Same H3 (upd H3 D4 (.lst ys.reverse)) := same_new nD4
          refine ⟨_, rfl, D4, _, rfl, .inl ⟨SqL.of upd_same, fun b2 nb => ⟨(by show 2 ≤ sizeLine; decide), fun c2 nc => ?_⟩⟩⟩
          have s5 : Same (upd H3 D4 (.lst ys.reverse)) (upd (upd H3 D4 (.lst ys.reverse)) b2 (.tup ys.reverse)) := same_new nb
          have s6 : Same (upd (upd H3 D4 (.lst ys.reverse)) b2 (.tup ys.reverse)) (upd (upd (upd H3 D4 (.lst ys.reverse)) b2 (.tup ys.reverse)) c2 (.tup [.str "row", .ref b2])) := same_new nc
          refine q _ _ ((((s1.trans s13).trans s4).trans s5).trans s6) ?_
          rw [norm, hgp, flip, if_pos hc]
          exact node_at upd_same (s6 _ _ upd_same) ((hys.mono (same_kept (((s13.trans s4).trans s5).trans s6))).reverse)
        · refine ⟨false, blF hc, iteF ?_⟩
          refine ⟨_, rfl, D1, _, rfl, .inl ⟨SqL.of (s13 _ _ e1), fun b2 nb => ⟨(by show 2 ≤ sizeLine; decide), fun c2 nc => ?_⟩⟩⟩
          have s5 : Same H3 (upd H3 b2 (.tup ys)) := same_new nb
          have s6 : Same (upd H3 b2 (.tup ys)) (upd (upd H3 b2 (.tup ys)) c2 (.tup [.str "row", .ref b2])) := same_new nc
          refine q _ _ (((s1.trans s13).trans s5).trans s6) ?_
          rw [norm, hgp, flip, if_neg hc]
          exact node_at upd_same (s6 _ _ upd_same) (hys.mono (same_kept ((s13.trans s5).trans s6)))
end
end K26
set_option maxHeartbeats 4000000
namespace K26
open PySem PySem.Spec PyProof.Rows L2
/-! ### shares as texts -/
def shw : Sh → Str
  | .no => "none"
  | .all => "all"
  | .some => "some"
theorem shw_inj : ∀ {a b : Sh}, V.str (shw a) = V.str (shw b) → a = b := by
  intro a b e
  injection e with e
  revert e
  cases a <;> cases b <;> first | (intro _; rfl) | (intro e; exact absurd e (by decide +kernel))
theorem shw_iff {a b : Sh} : V.str (shw a) = V.str (shw b) ↔ a = b := ⟨shw_inj, fun e => by rw [e]⟩
theorem flat_ints (c : List Int) : (c.map V.int).all flatV = true := by
  rw [List.all_map]
  exact List.all_eq_true.mpr fun _ _ => rfl
theorem inV_int (x : Int) (c : List Int) : inV (.int x) (c.map V.int) = decide (x ∈ c) := by
  unfold inV
  rw [List.any_map]
  by_cases h : x ∈ c
  · rw [decide_eq_true h, List.any_eq_true]
    exact ⟨x, h, by show (x == x) = true; exact beq_self_eq_true x⟩
  · rw [decide_eq_false h, List.any_eq_false]
    intro y hy
    show ¬ ((y == x) = true)
    intro e
    have := eq_of_beq e
    subst this
    exact h hy
theorem eqvAll_ints : ∀ a b : List Int, PyData.eqvAll (a.map PyData.int) (b.map PyData.int) = decide (a = b)
  | [], [] => by simp [PyData.eqvAll]
  | [], _ :: _ => by simp [PyData.eqvAll]
  | _ :: _, [] => by simp [PyData.eqvAll]
  | x :: a, y :: b => by
    rw [List.map_cons, List.map_cons, PyData.eqvAll, eqvAll_ints a b]
    simp only [PyData.eqv]
    by_cases h : x = y <;> by_cases h2 : a = b <;> simp [h, h2]
theorem eqv_ints (a b : List Int) : PyData.eqv (.list (a.map PyData.int)) (.list (b.map PyData.int)) = decide (a = b) := by
  rw [PyData.eqv]
  exact eqvAll_ints a b
def rTI (K : PySem.W.Frag) : V → List V → Hp → VK → Prop := fun x xs H Q => ∃ p, ∃ ys : List Str, ∃ z j, x = .ref p ∧ xs = [.str z] ∧ SqT K H p (ys.map V.str) ∧ ys[j]? = some z ∧ (∀ m, m < j → ys[m]? ≠ some z) ∧ Q (.int (j : Nat)) H
section
variable {P : Program} {w : World} {K : PySem.W.Frag} {mg : Str → Option Value} {base : Heap}
/-! ### share -/
abbrev sShare : Stmt := topS 21
abbrev nShare : List Str := ["tree", "chosen", "things", "count", "thing"]
theorem scShare : FnScope nShare ["tree", "chosen"] (defScope sShare) := ⟨rfl, rfl, rfl, by decide +kernel, rfl, by decide +kernel, by decide +kernel⟩
def spShare : Sp := fun vs H Q _ => ∃ (v : V) (t : Tree) (a : Addr) (c : List Int), vs = [v, .ref a] ∧ TreeAt H t v ∧ Wf t ∧ (leaves t).length ≤ 8 ∧ H a = some (.tup (c.map V.int)) ∧ ∀ H', Same H H' → Q (.str (shw (share c t))) H'
theorem ok_share (T : Txt K mg) (D : DefAt K mg "share" sShare ["tree", "chosen"]) (G : Ok P w K mg base "listed" 9 ["tree"] (spListed 8)) : Ok P w K mg base "share" 10 ["tree", "chosen"] spShare := by
  refine ok_def D scShare (fun vs H Q E h => ?_) (fun f cdv A outer s H vs Q E hr h => ?_)
  · obtain ⟨v, t, a, c, rfl, _⟩ := h
    rfl
  obtain ⟨v, t, a, c, rfl, ht, hw, hn, hc, q⟩ := h
  refine ⟨_, pss_cons (ps_set (i := 2) scShare.nd rfl (.inl rfl) (pe_callO G hr (by decide) (pa_cons (pv 0) pa_nil)))
    (pss_cons (ps_set (i := 3) scShare.nd rfl (.inl rfl) (pe_callB call_len_seq (by rfl) T.len PySem.boot_len (pa_cons
        (pe_lc (own := [("thing", 4)]) (g := gName 4) (tt := tTest (tOp (rIn K false) (tVar 4) (tVar 1))) (te := tVar 4) rfl scShare.nd (pi_list (pv 2)) (blkOk_by (N := nShare) (sc := defScope sShare) (by decide +kernel))
          (fun _ _ _ _ _ => pg_name (i := 4) scShare.nd rfl (.inl rfl)) (fun _ _ _ _ _ => pts_one (pt_cmpR op_in_seq (pv 4) (pv 1) (by rfl))) (fun _ _ _ _ _ => pv 4)) pa_nil)))
    (pss_cons (ps_if (pt_cmpR op_eq (pv 3) pe_int (nomark _)) (pss_one (ps_ret pe_str)) pss_nil)
    (pss_cons (ps_if (pt_cmpR op_eq (pv 3) (pe_callB call_len_seq (by rfl) T.len PySem.boot_len (pa_cons (pv 2) pa_nil)) (nomark _)) (pss_one (ps_ret pe_str)) pss_nil)
    (pss_one (ps_ret pe_str))))), ?_⟩
  refine ⟨_, rfl, v, t, rfl, ht, hw, hn, fun p H1 s1 np e1 => ?_⟩
  refine ⟨_, rfl, p, rfl, ⟨_, SqL.of e1⟩, fun D1 nD => ?_⟩
  refine lcf_list (K := K) (a := p) (xs := (leaves t).map V.int) (fun i acc H' => acc = (((leaves t).take i).filter fun x => decide (x ∈ c)).map V.int) nD (SqL.of e1) (by rw [List.length_map]; omega) (fun _ _ _ _ _ h => h) rfl ?_ ?_
  · intro i x H2 acc QT QF hx s2 hacc kT kF
    rw [List.getElem?_map] at hx
    obtain ⟨z, hz, rfl⟩ := Option.map_eq_some_iff.mp hx
    refine ⟨rfl, _, rfl, _, rfl, a, _, rfl, .inr (SqT.of (s2 _ _ (s1 _ _ hc))), rfl, flat_ints c, _, rfl, ?_⟩
    show if inV (.int z) (c.map V.int) = true then _ else _
    rw [inV_int]
    by_cases hm : z ∈ c
    · rw [if_pos (decide_eq_true hm)]
      refine ⟨_, rfl, kT _ _ (.refl _) ?_⟩
      rw [hacc, take_snoc hz, List.filter_append, List.map_append]
      simp [hm]
    · rw [if_neg (by rw [decide_eq_false hm]; exact Bool.false_ne_true)]
      refine kF _ (.refl _) ?_
      rw [hacc, take_snoc hz, List.filter_append]
      simp [hm]
  intro H2 ys s2 e2 y2 hys
  rw [List.length_map, List.take_length] at hys
  have hl : ys.length = cnt c t := by rw [hys, List.length_map]; rfl
  refine ⟨D1, ys, rfl, .inl (SqL.of e2), _, rfl, rfl, ?_⟩
  have sq := q H2 (s1.trans s2)
  by_cases h0 : cnt c t = 0
  · refine ⟨true, blT (by rw [hl, h0]; rfl), iteT ?_⟩
    rw [share, if_pos h0] at sq
    exact sq
  · refine ⟨false, blF (fun e => by injection e with e; omega), iteF ⟨_, rfl, _, rfl, p, _, rfl, .inl (SqL.of (s2 _ _ e1)), rfl, ?_⟩⟩
    by_cases h1 : cnt c t = (leaves t).length
    · refine ⟨true, blT (by rw [hl, h1, List.length_map]), iteT ?_⟩
      rw [share, if_neg h0, if_pos h1] at sq
      exact sq
    · refine ⟨false, blF (fun e => by injection e with e; rw [List.length_map] at e; omega), iteF ?_⟩
      rw [share, if_neg h0, if_neg h1] at sq
      exact sq
/-! ### with_share -/
abbrev sWith : Stmt := topS 22
abbrev nWith : List Str := ["parts", "chosen", "wanted", "part"]
theorem scWith : FnScope nWith ["parts", "chosen", "wanted"] (defScope sWith) := ⟨rfl, rfl, rfl, by decide +kernel, rfl, by decide +kernel, by decide +kernel⟩
/-- what is asked of the parts of a tree -/
structure Parts (H : Hp) (b : Addr) (ws : List V) (ts : List Tree) : Prop where
  tup : H b = some (.tup ws)
  tree : TreesAt H ts ws
  wf : WfL ts
  few : (leavesL ts).length ≤ 8
theorem Parts.mono {H H' : Hp} {b : Addr} {ws : List V} {ts : List Tree} (h : Parts H b ws ts) (k : Kept H H') : Parts H' b ws ts := ⟨k _ _ h.tup, h.tree.mono k, h.wf, h.few⟩
theorem Parts.le {H : Hp} {b : Addr} {ws : List V} {ts : List Tree} (h : Parts H b ws ts) {t : Tree} (m : t ∈ ts) : (leaves t).length ≤ 8 := by
  have := child_le h.wf m
  have := h.few
  omega
theorem Parts.len {H : Hp} {b : Addr} {ws : List V} {ts : List Tree} (h : Parts H b ws ts) : ts.length ≤ 8 := Nat.le_trans (leavesL_len ts h.wf) h.few
def spWith : Sp := fun vs H Q _ => ∃ (b : Addr) (ws : List V) (ts : List Tree) (a : Addr) (c : List Int) (s : Sh), vs = [.ref b, .ref a, .str (shw s)] ∧ Parts H b ws ts ∧ H a = some (.tup (c.map V.int)) ∧
  ∀ p us H', Same H H' → H p = none → H' p = some (.lst us) → TreesAt H' (pick c s ts) us → Q (.ref p) H'
theorem ok_with (D : DefAt K mg "with_share" sWith ["parts", "chosen", "wanted"]) (G : Ok P w K mg base "share" 10 ["tree", "chosen"] spShare) : Ok P w K mg base "with_share" 11 ["parts", "chosen", "wanted"] spWith := by
  refine ok_def D scWith (fun vs H Q E h => ?_) (fun f cdv A outer s H vs Q E hr h => ?_)
  · obtain ⟨b, ws, ts, a, c, s, rfl, _⟩ := h
    rfl
  obtain ⟨b, ws, ts, a, c, s, rfl, hp, hc, q⟩ := h
  refine ⟨_, pss_one (ps_ret (pe_lc (own := [("part", 3)]) (g := gName 3) (tt := tTest (tOp rEq (tCall spShare [] E0 (tCons (tVar 3) (tCons (tVar 1) tNil))) (tVar 2))) (te := tVar 3) rfl scWith.nd (pi_tup (pv 0)) (blkOk_by (N := nWith) (sc := defScope sWith) (by decide +kernel))
          (fun _ _ _ _ _ => pg_name (i := 3) scWith.nd rfl (.inl rfl)) (fun _ _ _ _ _ => pts_one (pt_cmpR op_eq (pe_callO G hr (by decide) (pa_cons (pv 3) (pa_cons (pv 1) pa_nil))) (pv 2) (nomark _))) (fun _ _ _ _ _ => pv 3))), ?_⟩
  refine ⟨_, rfl, b, rfl, ⟨_, SqT.of hp.tup⟩, fun D1 nD => ?_⟩
  have hl := hp.tree.length
  have h8 := hp.len
  refine lcf_tup (K := K) (a := b) (xs := ws) (fun i acc H' => TreesAt H' (pick c s (ts.take i)) acc) nD hp.tup (by omega) (fun _ _ _ _ k h => h.mono k) .nil ?_ ?_
  · intro i x H2 acc QT QF hx s2 hacc kT kF
    obtain ⟨t, hti, hta⟩ := hp.tree.get hx
    have mt : t ∈ ts := List.mem_of_getElem? hti
    have ep : pick c s (ts.take (i + 1)) = pick c s (ts.take i) ++ pick c s [t] := by
      unfold pick
      rw [take_snoc hti, List.filter_append]
    refine ⟨rfl, _, rfl, _, rfl, x, t, a, c, rfl, hta.mono (same_kept s2), wfL_iff.mp hp.wf t mt, hp.le mt, s2 _ _ hc, fun H3 s3 => ⟨_, rfl, rfl, ?_⟩⟩
    by_cases he : share c t = s
    · refine ⟨true, blT (by rw [he]), iteT ⟨_, rfl, kT _ _ s3 ?_⟩⟩
      have e1 : pick c s [t] = [t] := by unfold pick; simp [he]
      rw [ep, e1]
      exact (hacc.mono (same_kept s3)).append (.one (hta.mono (same_kept (s2.trans s3))))
    · refine ⟨false, blF (fun e => he (shw_inj e)), iteF (kF _ s3 ?_)⟩
      have e1 : pick c s [t] = [] := by unfold pick; simp [he]
      rw [ep, e1, List.append_nil]
      exact hacc.mono (same_kept s3)
  intro H2 ys s2 e2 y2 hys
  rw [hl, List.take_length] at hys
  exact q D1 ys H2 s2 nD e2 hys
/-! ### ascends -/
abbrev sAsc : Stmt := topS 24
abbrev nAsc : List Str := ["shares", "ranks", "told"]
theorem scAsc : FnScope nAsc ["shares"] (defScope sAsc) := ⟨rfl, rfl, rfl, by decide +kernel, rfl, by decide +kernel, by decide +kernel⟩
def spAsc : Sp := fun vs H Q _ => ∃ (a : Addr) (ss : List Sh), vs = [.ref a] ∧ H a = some (.lst (ss.map fun s => V.str (shw s))) ∧ ss.length ≤ 100 ∧ ∀ H', Same H H' → Q (.bl (ascends ss)) H'
theorem rank_at (s : Sh) : ∃ j : Nat, rank s = (j : Int) ∧ ([("none" : Str), "some", "all"] : List Str)[j]? = some (shw s) ∧ ∀ m, m < j → ([("none" : Str), "some", "all"] : List Str)[m]? ≠ some (shw s) := by
  cases s with
  | no => exact ⟨0, rfl, rfl, fun m h => by omega⟩
  | some =>
    refine ⟨1, rfl, rfl, fun m h => ?_⟩
    have e : m = 0 := by omega
    subst e
    decide +kernel
  | all =>
    refine ⟨2, rfl, rfl, fun m h => ?_⟩
    have e : m = 0 ∨ m = 1 := by omega
    rcases e with rfl | rfl <;> decide +kernel
theorem ok_asc (T : Txt K mg) (D : DefAt K mg "ascends" sAsc ["shares"]) : Ok P w K mg base "ascends" 1 ["shares"] spAsc := by
  refine ok_def D scAsc (fun vs H Q E h => ?_) (fun f cdv A outer s H vs Q E hr h => ?_)
  · obtain ⟨a, ss, rfl, _⟩ := h
    rfl
  obtain ⟨a, ss, rfl, ha, hn, q⟩ := h
  refine ⟨_, pss_cons (ps_setLc (i := 1) (own := [("told", 2)]) (g := gName 2) (tt := tYes) (te := tDM (rTI K) (tCons (tC (.str "none")) (tCons (tC (.str "some")) (tCons (tC (.str "all")) tNil))) (tCons (tVar 2) tNil)) rfl scAsc.nd rfl rfl (sw_true rfl rfl rfl (by decide +kernel)) (pi_list (pv 0)) (blkOk_by (N := nAsc) (sc := defScope sAsc) (by decide +kernel))
          (fun _ _ _ _ _ => pg_name (i := 2) scAsc.nd rfl (.inl rfl)) (fun _ _ _ _ _ => pts_nil) (fun _ _ _ _ _ => pe_dm PySem.F.plainAttrs_tuple PySem.F.slot_tuple_index PySem.F.type_tuple_index mt_tup_index (pa_cons pe_str (pa_cons pe_str (pa_cons pe_str pa_nil))) (pa_cons (pv 2) pa_nil)))
    (pss_one (ps_ret (pe_and (pe_cmpR (op_eqD hr.units) (pv 1) (pe_callB cr_sortedI (by rfl) T.sorted (by decide +kernel) (pa_cons (pv 1) pa_nil)) (nomark _))
      (pe_one (pe_cmpR op_lt (pe_bm PySem.F.plainAttrs_list PySem.F.slot_list_count PySem.F.type_list_count mt_lcount (pv 1) (pa_cons pe_int pa_nil)) pe_int (nomark _)))))), ?_⟩
  refine ⟨_, rfl, a, rfl, ⟨_, SqL.of ha⟩, fun D1 nD => ?_⟩
  refine lcf_list (K := K) (a := a) (xs := ss.map fun s => V.str (shw s)) (fun i acc H' => acc = ((ss.take i).map rank).map V.int) nD (SqL.of ha) (by rw [List.length_map]; omega) (fun _ _ _ _ _ h => h) rfl ?_ ?_
  · intro i x H2 acc QT QF hx s2 hacc kT kF
    rw [List.getElem?_map] at hx
    obtain ⟨z, hz, rfl⟩ := Option.map_eq_some_iff.mp hx
    obtain ⟨j, hj, h1, h2⟩ := rank_at z
    refine ⟨rfl, tyes ⟨(by show 3 ≤ sizeLine; decide), fun p np => ⟨_, rfl, p, ["none", "some", "all"], _, j, rfl, rfl, SqT.of upd_same, h1, h2, kT _ _ (same_new np) ?_⟩⟩⟩
    rw [hacc, take_snoc hz, List.map_append, List.map_append, ← hj]
    rfl
  intro H2 ys s2 e2 y2 hys
  rw [List.length_map, List.take_length] at hys
  subst hys
  refine ⟨_, rfl, _, rfl, D1, _, rfl, SqL.of e2, fun ns' p perm srt np => ?_⟩
  have en := sortI_uniq perm srt
  subst en
  have s3 : Same H2 (upd H2 p (.lst ((sortI (ss.map rank)).map V.int))) := same_new np
  refine ⟨_, _, .lst (SqL.of (s3 _ _ e2)) (ints_dp _), .lst (SqL.of upd_same) (ints_dp _), PySem.W.ke_shaped_ints _, PySem.W.ke_shaped_ints _, _, rfl, ?_⟩
  rw [eqv_ints]
  have sq := q _ (s2.trans s3)
  unfold ascends at sq
  by_cases h1 : ss.map rank = sortI (ss.map rank)
  · rw [if_pos (decide_eq_true h1)]
    rw [decide_eq_true h1, Bool.true_and] at sq
    refine ⟨_, rfl, .inl ⟨rfl, _, SqL.of (s3 _ _ e2)⟩, D1, _, 1, rfl, rfl, SqL.of (s3 _ _ e2), _, _, rfl, rfl, ?_⟩
    have e : decide ((((ss.map rank).count 1 : Nat) : Int) < 2) = decide ((ss.map rank).count 1 < 2) := decide_eq_decide.mpr (by omega)
    show Q (.bl (decide ((((ss.map rank).count 1 : Nat) : Int) < 2))) _
    rw [e]
    exact sq
  · rw [if_neg (by rw [decide_eq_false h1]; exact Bool.false_ne_true)]
    rw [decide_eq_false h1, Bool.false_and] at sq
    exact sq
end
end K26
set_option maxHeartbeats 4000000
namespace K26
open PySem PySem.Spec PyProof.Rows L2
/-- a new list of trees, or None -/
def RetL (H : Hp) (o : Option (List Tree)) (Q : VK) : Prop := (o = none → ∀ H', Same H H' → Q .non H') ∧ ∀ l, o = some l → ∀ p us H', Same H H' → H p = none → H' p = some (.lst us) → TreesAt H' l us → Q (.ref p) H'
theorem none_nr {a : Addr} : ¬ (V.ref a = V.non) := fun e => by cases e
/-- what stands where a part is added if there is one -/
def tOptApp (K : PySem.W.Frag) (e f : Nat) : TS := tIfS (tTest (tOp (rNeD K) (tVar e) (tLst tNil))) (tDrop (tBM K "list" rAppend (tVar f) (tCons (tCall spMkAny [] E0 (tCons (tVar e) tNil)) tNil))) tNext
theorem opt_append {K : PySem.W.Frag} {D : Ends} {σ : L2.St} {H0 H : Hp} {pe pf : Addr} {e f : Nat} {ws vs : List V} {ts acc : List Tree} (he : σ[e]? = some (some (.ref pe))) (hf : σ[f]? = some (some (.ref pf))) (s0 : Same H0 H) (n0 : H0 pf = none)
    (h1 : H pe = some (.lst ws)) (ht : TreesAt H ts ws) (hw : WfL ts) (h8 : ∀ t ∈ ts, (leaves t).length ≤ 8) (h2 : H pf = some (.lst vs)) (ha : TreesAt H acc vs) (hl : vs.length ≤ 900)
    (k : ∀ H' us, Same H0 H' → H' pf = some (.lst us) → us.length ≤ vs.length + 1 → TreesAt H' (acc ++ optAny ts) us → D.nx σ H') : tOptApp K e f D σ H := by
  refine ⟨_, he, Nat.zero_le _, fun q nq => ?_⟩
  have sq : Same H (upd H q (.lst [])) := same_new nq
  refine trees_ne (sq _ _ h1) (ht.mono (same_kept sq)) hw h8 upd_same ⟨_, rfl, ?_⟩
  cases ts with
  | nil =>
    refine iteF (k _ vs (s0.trans sq) (sq _ _ h2) (Nat.le_succ _) ?_)
    rw [optAny_nil, List.append_nil]
    exact ha.mono (same_kept sq)
  | cons t r =>
    refine iteT ⟨_, hf, .inl ⟨rfl, _, SqL.of (sq _ _ h2)⟩, _, he, pe, ws, _, rfl, sq _ _ h1, ht.mono (same_kept sq), fun v H2 s2 hv => ?_⟩
    have s02 := (s0.trans sq).trans s2
    refine ⟨pf, vs, v, rfl, rfl, s2 _ _ (sq _ _ h2), small1000 (by omega), k _ (vs ++ [v]) (same_put s02 n0) upd_same (by rw [List.length_append]; exact Nat.le_refl _) ?_⟩
    rw [optAny_ne (List.cons_ne_nil t r)]
    have kp : Kept H2 (upd H2 pf (.lst (vs ++ [v]))) := kept_lst (s2 _ _ (sq _ _ h2))
    exact ((ha.mono (same_kept (sq.trans s2))).mono kp).append (.one (hv.mono kp))
theorem pick_few {H : Hp} {b : Addr} {ws : List V} {ts : List Tree} (h : Parts H b ws ts) {c : List Int} {s : Sh} : ∀ t ∈ pick c s ts, (leaves t).length ≤ 8 := fun t m => h.le (pick_mem m).1
theorem pick_len {H : Hp} {b : Addr} {ws : List V} {ts : List Tree} (h : Parts H b ws ts) {c : List Int} {s : Sh} : (pick c s ts).length ≤ 8 := Nat.le_trans (List.length_filter_le _ _) h.len
theorem split_len {t : Tree} {l : List Tree} (h : IsSplit t l) (h8 : (leaves t).length ≤ 8) : l.length ≤ 8 := by
  have h1 := leavesL_len l h.wf
  have h2 := h.perm.length_eq
  omega
section
variable {P : Program} {w : World} {K : PySem.W.Frag} {mg : Str → Option Value} {base : Heap}
def spSplit (n : Nat) : Sp := fun vs H Q _ => ∃ (v : V) (t : Tree) (a : Addr) (c : List Int), vs = [v, .ref a] ∧ TreeAt H t v ∧ Wf t ∧ isLeaf t = false ∧ (leaves t).length ≤ n ∧ (leaves t).length ≤ 8 ∧ H a = some (.tup (c.map V.int)) ∧ RetL H (splitN c n t) Q
/-! ### split_any -/
abbrev sSplitAny : Stmt := topS 23
abbrev nSplitAny : List Str := ["parts", "chosen", "empty", "full", "mixed", "found", "inner"]
theorem scSplitAny : FnScope nSplitAny ["parts", "chosen"] (defScope sSplitAny) := ⟨rfl, rfl, rfl, by decide +kernel, rfl, by decide +kernel, by decide +kernel⟩
def spSplitAny (n : Nat) : Sp := fun vs H Q _ => ∃ (b : Addr) (ws : List V) (ts : List Tree) (a : Addr) (c : List Int), vs = [.ref b, .ref a] ∧ Parts H b ws ts ∧ (∀ t ∈ ts, (leaves t).length ≤ n) ∧ H a = some (.tup (c.map V.int)) ∧ RetL H (splitAny (splitN c n) c ts) Q
theorem ok_splitAny {n k : Nat} (T : Txt K mg) (D : DefAt K mg "split_any" sSplitAny ["parts", "chosen"]) (GW : Ok P w K mg base "with_share" 11 ["parts", "chosen", "wanted"] spWith) (GA : Ok P w K mg base "make_any" 1 ["parts"] spMkAny)
    (hk : 11 ≤ k) (GS : Ok P w K mg base "split" k ["tree", "chosen"] (spSplit n)) : Ok P w K mg base "split_any" (k + 1) ["parts", "chosen"] (spSplitAny n) := by
  refine ok_def D scSplitAny (fun vs H Q E h => ?_) (fun f cdv A outer s H vs Q E hr h => ?_)
  · obtain ⟨b, ws, ts, a, c, rfl, _⟩ := h
    rfl
  obtain ⟨b, ws, ts, a, c, rfl, hp, hn, hc, qn, ql⟩ := h
  refine ⟨_, pss_cons (ps_set (i := 2) scSplitAny.nd rfl (.inl rfl) (pe_callO GW hr hk (pa_cons (pv 0) (pa_cons (pv 1) (pa_cons pe_str pa_nil)))))
    (pss_cons (ps_set (i := 3) scSplitAny.nd rfl (.inl rfl) (pe_callO GW hr hk (pa_cons (pv 0) (pa_cons (pv 1) (pa_cons pe_str pa_nil)))))
    (pss_cons (ps_set (i := 4) scSplitAny.nd rfl (.inl rfl) (pe_callO GW hr hk (pa_cons (pv 0) (pa_cons (pv 1) (pa_cons pe_str pa_nil)))))
    (pss_cons (ps_if (pt_cmpR op_gt (pe_callB call_len_seq (by rfl) T.len PySem.boot_len (pa_cons (pv 4) pa_nil)) pe_int (nomark _)) (pss_one (ps_ret pe_non)) pss_nil)
    (pss_cons (ps_set (i := 5) scSplitAny.nd rfl (.inl rfl) (pe_lst pa_nil))
    (C8.pss_cut (ps_if (pt_cmpR (op_neD hr.units) (pv 2) (pe_lst pa_nil) (nomark _)) (pss_one (ps_expr (pe_bm PySem.F.plainAttrs_list PySem.F.slot_list_append PySem.F.type_list_append mt_append (pv 5) (pa_cons (pe_callO GA hr (by omega) (pa_cons (pv 2) pa_nil)) pa_nil)))) pss_nil)
    (C8.pss_cut (ps_if (pt_cmpR (op_neD hr.units) (pv 4) (pe_lst pa_nil) (nomark _))
        (pss_cons (ps_set (i := 6) scSplitAny.nd rfl (.inl rfl) (pe_callO GS hr (Nat.le_refl _) (pa_cons (pe_ix ix_list (pv 4) pe_int (fun _ _ => rfl)) (pa_cons (pv 1) pa_nil))))
        (pss_cons (ps_if (pt_cmp (pc_isN (pv 6))) (pss_one (ps_ret pe_non)) pss_nil)
        (pss_one (ps_expr (pe_bm PySem.F.plainAttrs_list PySem.F.slot_list_extend PySem.F.type_list_extend mt_extend (pv 5) (pa_cons (pv 6) pa_nil)))))) pss_nil)
    (C8.pss_cut (ps_if (pt_cmpR (op_neD hr.units) (pv 3) (pe_lst pa_nil) (nomark _)) (pss_one (ps_expr (pe_bm PySem.F.plainAttrs_list PySem.F.slot_list_append PySem.F.type_list_append mt_append (pv 5) (pa_cons (pe_callO GA hr (by omega) (pa_cons (pv 3) pa_nil)) pa_nil)))) pss_nil)
    (pss_one (ps_ret (pv 5)))))))))), ?_⟩
  refine ⟨_, rfl, _, rfl, b, ws, ts, a, c, .no, rfl, hp, hc, fun p1 w1 H1 s1 n1 e1 t1 => ?_⟩
  refine ⟨_, rfl, _, rfl, b, ws, ts, a, c, .all, rfl, hp.mono (same_kept s1), s1 _ _ hc, fun p2 w2 H2 s2 n2 e2 t2 => ?_⟩
  have s02 := s1.trans s2
  refine ⟨_, rfl, _, rfl, b, ws, ts, a, c, .some, rfl, hp.mono (same_kept s02), s02 _ _ hc, fun p3 w3 H3 s3 n3 e3 t3 => ?_⟩
  have s03 := s02.trans s3
  have e1' := s3 _ _ (s2 _ _ e1)
  have t1' := t1.mono (same_kept (s2.trans s3))
  have e2' := s3 _ _ e2
  have t2' := t2.mono (same_kept s3)
  have hwn := pick_wf (c := c) (s := .no) hp.wf
  have hwa := pick_wf (c := c) (s := .all) hp.wf
  have hws := pick_wf (c := c) (s := .some) hp.wf
  have l1 := optAny (pick c .no ts)
  refine ⟨_, rfl, p3, w3, rfl, .inl (SqL.of e3), _, _, rfl, rfl, ?_⟩
  have l3 := t3.length
  by_cases hm : (1 : Int) < (w3.length : Int)
  · refine ⟨true, blT hm, iteT (qn ?_ H3 s03)⟩
    unfold splitAny
    match hx : pick c .some ts with
    | [] => rw [hx, List.length_nil] at l3; omega
    | [x] => rw [hx, List.length_singleton] at l3; omega
    | x :: y :: r => rfl
  refine ⟨false, blF hm, iteF ⟨Nat.zero_le _, fun p n4 => ?_⟩⟩
  have s4 : Same H3 (upd H3 p (.lst [])) := same_new n4
  -- what is empty
  refine ⟨fun σ' H' => σ' = [some (.ref b), some (.ref a), some (.ref p1), some (.ref p2), some (.ref p3), some (.ref p), none] ∧ Same H3 H' ∧ ∃ us, H' p = some (.lst us) ∧ us.length ≤ 1 ∧ TreesAt H' (optAny (pick c .no ts)) us, ?_, ?_⟩
  · exact opt_append (H0 := H3) (vs := []) (acc := []) rfl rfl s4 n4 (s4 _ _ e1') (t1'.mono (same_kept s4)) hwn (pick_few hp) upd_same .nil (by decide) fun H' us sx ex lx tx => ⟨rfl, sx, us, ex, lx, tx⟩
  rintro σ5 H5 ⟨rfl, s5, u5, e5, l5, t5⟩
  have np : H p = none := s03.free n4
  -- what is mixed
  refine ⟨fun σ' H' => (∃ v, σ' = [some (.ref b), some (.ref a), some (.ref p1), some (.ref p2), some (.ref p3), some (.ref p), v]) ∧ Same H3 H' ∧ ∃ us m, H' p = some (.lst us) ∧ us.length ≤ 100 ∧ TreesAt H' (optAny (pick c .no ts) ++ m) us ∧ splitAny (splitN c n) c ts = some (optAny (pick c .no ts) ++ m ++ optAny (pick c .all ts)), ?_, ?_⟩
  · refine ⟨_, rfl, Nat.zero_le _, fun q nq => ?_⟩
    have sq : Same H5 (upd H5 q (.lst [])) := same_new nq
    refine trees_ne (sq _ _ (s5 _ _ e3)) (t3.mono (same_kept (s5.trans sq))) hws (pick_few hp) upd_same ⟨_, rfl, ?_⟩
    match hx : pick c .some ts with
    | [] =>
      refine iteF ⟨⟨none, rfl⟩, s5.trans sq, u5, [], sq _ _ e5, by omega, ?_, ?_⟩
      · rw [List.append_nil]
        exact t5.mono (same_kept sq)
      · unfold splitAny
        rw [hx, List.append_nil]
    | x :: y :: r =>
      rw [hx] at l3
      simp only [List.length_cons] at l3
      omega
    | [x] =>
      rw [hx] at t3
      obtain ⟨v, hv, hta⟩ := t3.at (i := 0) (Nat.zero_lt_one)
      have mx : x ∈ pick c .some ts := by rw [hx]; exact List.mem_cons_self
      obtain ⟨mt, hsx⟩ := pick_mem mx
      obtain ⟨wx, tx, ex⟩ := some_node hsx
      have hleaf : isLeaf x = false := by rw [ex]; rfl
      refine iteT ⟨_, rfl, p3, w3, 0, v, rfl, rfl, SqL.of (sq _ _ (s5 _ _ e3)), atI_nat (j := 0) hv, _, rfl, v, x, a, c, rfl, hta.mono (same_kept (s5.trans sq)), wfL_iff.mp hp.wf x mt, hleaf, hn x mt, hp.le mt, sq _ _ (s5 _ _ (s03 _ _ hc)), ?_, ?_⟩
      · intro hnone H6 s6
        refine ⟨_, rfl, true, blT rfl, iteT (qn ?_ H6 ((s03.trans s5).trans (sq.trans s6)))⟩
        unfold splitAny
        rw [hx]
        simp only [hnone]
      · intro l hl p6 u6 H6 s6 n6 e6 t6
        have is := splitN_is (wfL_iff.mp hp.wf x mt) hl
        have ll := split_len is (hp.le mt)
        have l6 := t6.length
        have e5' := s6 _ _ (sq _ _ e5)
        refine ⟨_, rfl, false, blF none_nr, iteF ⟨_, rfl, .inl ⟨rfl, _, SqL.of e5'⟩, _, rfl, p, p6, _, _, rfl, rfl, e5', e6, sizeL (by omega), ⟨_, rfl⟩, same_put (s5.trans (sq.trans s6)) n4, _, l, upd_same, by rw [List.length_append]; omega, ?_, ?_⟩⟩
        · have kp : Kept H6 (upd H6 p (.lst (u5 ++ u6))) := kept_lst e5'
          exact ((t5.mono (same_kept (sq.trans s6))).mono kp).append (t6.mono kp)
        · unfold splitAny
          rw [hx]
          simp only [hl]
  rintro σ7 H7 ⟨⟨v7, rfl⟩, s7, u7, m, e7, l7, t7, hres⟩
  refine ⟨fun σ' H' => (∃ v, σ' = [some (.ref b), some (.ref a), some (.ref p1), some (.ref p2), some (.ref p3), some (.ref p), v]) ∧ Same H3 H' ∧ ∃ us, H' p = some (.lst us) ∧ TreesAt H' (optAny (pick c .no ts) ++ m ++ optAny (pick c .all ts)) us, ?_, ?_⟩
  · exact opt_append (H0 := H3) rfl rfl s7 n4 (s7 _ _ e2') (t2'.mono (same_kept s7)) hwa (pick_few hp) e7 t7 (by omega) fun H' us sx ex lx tx => ⟨⟨_, rfl⟩, sx, us, ex, tx⟩
  rintro σ8 H8 ⟨⟨v8, rfl⟩, s8, u8, e8, t8⟩
  exact ⟨_, rfl, ql _ hres p u8 H8 (s03.trans s8) np e8 t8⟩
end
end K26
set_option maxHeartbeats 4000000
namespace K26
open PySem PySem.Spec PyProof.Rows L2
theorem gather_take {g : Tree → Option (List Tree)} {l : List Tree} {i : Nat} {t : Tree} {a b : List Tree} (h : gather g (l.take i) = some a) (ht : l[i]? = some t) (hb : g t = some b) : gather g (l.take (i + 1)) = some (a ++ b) := by
  rw [take_snoc ht]
  exact gather_snoc h hb
section
variable {P : Program} {w : World} {K : PySem.W.Frag} {mg : Str → Option Value} {base : Heap}
/-! ### split_row -/
abbrev sSplitRow : Stmt := topS 25
abbrev nSplitRow : List Str := ["parts", "chosen", "told", "part", "found", "inner"]
theorem scSplitRow : FnScope nSplitRow ["parts", "chosen"] (defScope sSplitRow) := ⟨rfl, rfl, rfl, by decide +kernel, rfl, by decide +kernel, by decide +kernel⟩
def spSplitRow (n : Nat) : Sp := fun vs H Q _ => ∃ (b : Addr) (ws : List V) (ts : List Tree) (a : Addr) (c : List Int), vs = [.ref b, .ref a] ∧ Parts H b ws ts ∧ (∀ t ∈ ts, (leaves t).length ≤ n) ∧ H a = some (.tup (c.map V.int)) ∧ RetL H (splitRow (splitN c n) c ts) Q
/-- ascends([share(part, chosen) for part in told]) -/
def tAscOf (K : PySem.W.Frag) : TE := tCall spAsc [] E0 (tCons (tLc (iList K (tVar 2)) (gName 3) tYes (tCall spShare [] E0 (tCons (tVar 3) (tCons (tVar 1) tNil))) [3]) tNil)
theorem asc_of {K : PySem.W.Frag} {σ : L2.St} {H : Hp} {Q : VK} {p a : Addr} {us : List V} {ts : List Tree} {c : List Int} (hlen : 4 ≤ σ.length) (h2 : σ[2]? = some (some (.ref p))) (h1 : σ[1]? = some (some (.ref a))) (hp : H p = some (.lst us)) (ht : TreesAt H ts us) (hw : WfL ts) (h8 : ∀ t ∈ ts, (leaves t).length ≤ 8) (hl : ts.length ≤ 8) (hc : H a = some (.tup (c.map V.int)))
    (k : ∀ H', Same H H' → Q (.bl (ascends (ts.map (share c)))) H') : tAscOf K σ H Q := by
  have lus := ht.length
  refine ⟨_, h2, p, rfl, ⟨_, SqL.of hp⟩, fun D1 nD => ?_⟩
  have w3 : (wipe σ [3])[1]? = some (some (.ref a)) := by
    show ((σ.set 3 none))[1]? = _
    rw [List.getElem?_set_ne (by decide)]
    exact h1
  have w3' : ∀ x : V, ((wipe σ [3]).set 3 (some x))[3]? = some (some x) := fun x => by
    show ((σ.set 3 none).set 3 (some x))[3]? = _
    rw [List.getElem?_set_self (by rw [List.length_set]; omega)]
  have w1' : ∀ x : V, ((wipe σ [3]).set 3 (some x))[1]? = some (some (.ref a)) := fun x => by
    rw [List.getElem?_set_ne (by decide)]
    exact w3
  refine lcf_list (K := K) (a := p) (xs := us) (fun i acc H' => acc = ((ts.take i).map (share c)).map fun s => V.str (shw s)) nD (SqL.of hp) (by omega) (fun _ _ _ _ _ h => h) rfl ?_ ?_
  · intro i x H2 acc QT QF hx s2 hacc kT kF
    obtain ⟨t, hti, hta⟩ := ht.get hx
    have mt : t ∈ ts := List.mem_of_getElem? hti
    refine ⟨?_, tyes ⟨_, w3' x, _, w1' x, x, t, a, c, rfl, hta.mono (same_kept s2), wfL_iff.mp hw t mt, h8 t mt, s2 _ _ hc, fun H3 s3 => kT _ _ s3 ?_⟩⟩
    · show ((σ.set 3 none).set 3 (some x)).set 3 none = σ.set 3 none
      rw [List.set_set, List.set_set]
    · rw [hacc, take_snoc hti, List.map_append, List.map_append]
      rfl
  intro H2 ys s2 e2 y2 hys
  rw [lus, List.take_length] at hys
  subst hys
  exact ⟨D1, _, rfl, e2, by rw [List.length_map]; omega, fun H3 s3 => k H3 (s2.trans s3)⟩
theorem ok_splitRow {n k : Nat} (T : Txt K mg) (D : DefAt K mg "split_row" sSplitRow ["parts", "chosen"]) (GH : Ok P w K mg base "share" 10 ["tree", "chosen"] spShare) (GA : Ok P w K mg base "ascends" 1 ["shares"] spAsc)
    (hk : 11 ≤ k) (GS : Ok P w K mg base "split" k ["tree", "chosen"] (spSplit n)) : Ok P w K mg base "split_row" (k + 1) ["parts", "chosen"] (spSplitRow n) := by
  refine ok_def D scSplitRow (fun vs H Q E h => ?_) (fun f cdv A outer s H vs Q E hr h => ?_)
  · obtain ⟨b, ws, ts, a, c, rfl, _⟩ := h
    rfl
  obtain ⟨b, ws, ts, a, c, rfl, hp, hn, hc, qn, ql⟩ := h
  refine ⟨_, pss_cons (ps_set (i := 2) scSplitRow.nd rfl (.inl rfl) (pe_callTy call_list_of (by rfl) T.list (by decide +kernel) (pa_cons (pv 0) pa_nil)))
    (C8.pss_cut (ps_if (pt_not (pt_val (pe_callO GA hr (by omega) (pa_cons
          (pe_lc (own := [("part", 3)]) (g := gName 3) (tt := tYes) rfl scSplitRow.nd (pi_list (pv 2)) (blkOk_by (N := nSplitRow) (sc := defScope sSplitRow) (by decide +kernel))
            (fun _ _ _ _ _ => pg_name (i := 3) scSplitRow.nd rfl (.inl rfl)) (fun _ _ _ _ _ => pts_nil) (fun _ _ _ _ _ => pe_callO GH hr (by omega) (pa_cons (pv 3) (pa_cons (pv 1) pa_nil)))) pa_nil))))
        (pss_one (ps_expr (pe_bm0 PySem.F.plainAttrs_list PySem.F.slot_list_reverse PySem.F.type_list_reverse mt_reverse (pv 2)))) pss_nil)
    (pss_cons (ps_if (pt_not (pt_val (pe_callO GA hr (by omega) (pa_cons
          (pe_lc (own := [("part", 3)]) (g := gName 3) (tt := tYes) rfl scSplitRow.nd (pi_list (pv 2)) (blkOk_by (N := nSplitRow) (sc := defScope sSplitRow) (by decide +kernel))
            (fun _ _ _ _ _ => pg_name (i := 3) scSplitRow.nd rfl (.inl rfl)) (fun _ _ _ _ _ => pts_nil) (fun _ _ _ _ _ => pe_callO GH hr (by omega) (pa_cons (pv 3) (pa_cons (pv 1) pa_nil)))) pa_nil))))
        (pss_one (ps_ret pe_non)) pss_nil)
    (pss_cons (ps_set (i := 4) scSplitRow.nd rfl (.inl rfl) (pe_lst pa_nil))
    (pss_cons (ps_for PassesOwn.never rfl (pi_list (pv 2)) (pg_name (i := 3) scSplitRow.nd rfl (.inl rfl))
        (pss_one (ps_if (pt_cmpR op_eq (pe_callO GH hr (by omega) (pa_cons (pv 3) (pa_cons (pv 1) pa_nil))) pe_str (nomark _))
          (pss_cons (ps_set (i := 5) scSplitRow.nd rfl (.inl rfl) (pe_callO GS hr (Nat.le_refl _) (pa_cons (pv 3) (pa_cons (pv 1) pa_nil))))
          (pss_cons (ps_if (pt_cmp (pc_isN (pv 5))) (pss_one (ps_ret pe_non)) pss_nil)
          (pss_one (ps_expr (pe_bm PySem.F.plainAttrs_list PySem.F.slot_list_extend PySem.F.type_list_extend mt_extend (pv 4) (pa_cons (pv 5) pa_nil))))))
          (pss_one (ps_expr (pe_bm PySem.F.plainAttrs_list PySem.F.slot_list_append PySem.F.type_list_append mt_append (pv 4) (pa_cons (pv 3) pa_nil)))))))
    (pss_one (ps_ret (pv 4))))))), ?_⟩
  have h8 := hp.len
  have hle : ∀ t ∈ ts, (leaves t).length ≤ 8 := fun t m => hp.le m
  refine ⟨_, rfl, b, ws, rfl, .inr (SqT.of hp.tup), fun p np => ?_⟩
  have s1 : Same H (upd H p (.lst ws)) := same_new np
  have t1 := hp.tree.mono (same_kept s1)
  -- told.reverse(), perhaps
  refine ⟨fun σ' H' => σ' = [some (.ref b), some (.ref a), some (.ref p), none, none, none] ∧ Same H H' ∧ ∃ us, H' p = some (.lst us) ∧ TreesAt H' (told c ts) us, ?_, ?_⟩
  · refine asc_of (by show 4 ≤ 6; decide) rfl rfl upd_same t1 hp.wf hle h8 (s1 _ _ hc) fun H2 s2 => ⟨_, rfl, ?_⟩
    have e2 := s2 _ _ (show (upd H p (.lst ws)) p = some (.lst ws) from upd_same)
    cases hb : ascends (ts.map (share c)) with
    | true =>
      refine iteF ⟨rfl, s1.trans s2, ws, e2, ?_⟩
      rw [told, if_pos hb]
      exact t1.mono (same_kept s2)
    | false =>
      refine iteT ⟨_, rfl, .inl ⟨rfl, _, SqL.of e2⟩, p, ws, rfl, rfl, e2, rfl, same_put (s1.trans s2) np, _, upd_same, ?_⟩
      rw [told, if_neg (by rw [hb]; exact Bool.false_ne_true)]
      exact ((t1.mono (same_kept s2)).mono (kept_lst e2)).reverse
  rintro σ2 H2 ⟨rfl, s2, us, e2, t2⟩
  have pm := told_perm c ts
  have wt : WfL (told c ts) := wfL_of_perm pm.symm hp.wf
  have lt : ∀ t ∈ told c ts, (leaves t).length ≤ 8 := fun t m => hle t (pm.mem_iff.mp m)
  have ln : (told c ts).length ≤ 8 := by rw [pm.length_eq]; exact h8
  have lus := t2.length
  refine asc_of (by show 4 ≤ 6; decide) rfl rfl e2 t2 wt lt ln (s2 _ _ hc) fun H3 s3 => ⟨_, rfl, ?_⟩
  have s03 := s2.trans s3
  have e3 := s3 _ _ e2
  have t3 := t2.mono (same_kept s3)
  cases hb : ascends ((told c ts).map (share c)) with
  | false =>
    refine iteT (qn ?_ H3 s03)
    rw [splitRow, if_neg (by rw [hb]; exact Bool.false_ne_true)]
  | true =>
    have eR : splitRow (splitN c n) c ts = gather (piece (splitN c n) c) (told c ts) := by rw [splitRow, if_pos hb]
    rw [eR] at qn ql
    refine iteF ⟨Nat.zero_le _, fun q nq => ?_⟩
    have s4 : Same H3 (upd H3 q (.lst [])) := same_new nq
    have nqH : H q = none := s03.free nq
    refine ⟨_, rfl, p, rfl, ⟨_, SqL.of (s4 _ _ e3)⟩, ?_⟩
    refine for_list (K := K) (a := p) (xs := us) (fun i σ H' => (∃ v3 v5, σ = [some (.ref b), some (.ref a), some (.ref p), v3, some (.ref q), v5]) ∧ Same H3 H' ∧ ∃ acc xs, gather (piece (splitN c n) c) ((told c ts).take i) = some acc ∧ H' q = some (.lst xs) ∧ TreesAt H' acc xs ∧ xs.length ≤ 8 * i)
      ⟨⟨none, none, rfl⟩, s4, [], [], rfl, upd_same, .nil, Nat.le_refl _⟩ (fun i σ H' _ h => SqL.of (h.2.1 _ _ e3)) ?_ ?_
    · rintro i x σ H5 hx ⟨⟨v3, v5, rfl⟩, s5, acc, xs, hg, eq, tq, lq⟩
      obtain ⟨t, hti, hta⟩ := t3.get hx
      have hta5 := hta.mono (same_kept s5)
      have mt : t ∈ told c ts := List.mem_of_getElem? hti
      have il : i < us.length := (List.getElem?_eq_some_iff.mp hx).1
      have wft := wfL_iff.mp wt t mt
      refine ⟨_, rfl, _, rfl, x, t, a, c, rfl, hta5, wft, lt t mt, s5 _ _ (s03 _ _ hc), fun H6 s6 => ⟨rfl, ?_⟩⟩
      have s56 := s5.trans s6
      have eq6 := s6 _ _ eq
      by_cases he : share c t = .some
      · obtain ⟨wx, tx, ex⟩ := some_node he
        have hleaf : isLeaf t = false := by rw [ex]; rfl
        refine ⟨true, blT (by rw [he]; rfl), iteT ⟨_, rfl, _, rfl, x, t, a, c, rfl, hta5.mono (same_kept s6), wft, hleaf, hn t (pm.mem_iff.mp mt), lt t mt, s56 _ _ (s03 _ _ hc), ?_, ?_⟩⟩
        · intro hnone H7 s7
          refine ⟨_, rfl, true, blT rfl, iteT (qn (gather_none (x := t) ?_ mt) H7 ((s03.trans s56).trans s7))⟩
          rw [piece, if_pos he]
          exact hnone
        · intro l hl p7 u7 H7 s7 n7 e7 t7
          have is := splitN_is wft hl
          have ll := split_len is (lt t mt)
          have l7 := t7.length
          have eq7 := s7 _ _ eq6
          have kp : Kept H7 (upd H7 q (.lst (xs ++ u7))) := kept_lst eq7
          refine ⟨_, rfl, false, blF none_nr, iteF ⟨_, rfl, .inl ⟨rfl, _, SqL.of eq7⟩, _, rfl, q, p7, _, _, rfl, rfl, eq7, e7, sizeL (by omega), ⟨_, _, rfl⟩, same_put (s56.trans s7) nq, _, _, gather_take hg hti (by rw [piece, if_pos he]; exact hl), upd_same, ((tq.mono (same_kept (s6.trans s7))).mono kp).append (t7.mono kp), by rw [List.length_append]; omega⟩⟩
      · have kp : Kept H6 (upd H6 q (.lst (xs ++ [x]))) := kept_lst eq6
        refine ⟨false, blF (fun e => he (shw_inj (b := .some) e)), iteF ⟨_, rfl, .inl ⟨rfl, _, SqL.of eq6⟩, _, rfl, q, xs, x, rfl, rfl, eq6, small1000 (by omega), ⟨_, _, rfl⟩, same_put s56 nq, _, _, gather_take hg hti (by rw [piece, if_neg he]), upd_same, ((tq.mono (same_kept s6)).mono kp).append (.one ((hta5.mono (same_kept s6)).mono kp)), by rw [List.length_append, List.length_singleton]; omega⟩⟩
    · rintro σ H5 ⟨⟨v3, v5, rfl⟩, s5, acc, xs, hg, eq, tq, lq⟩
      rw [lus, List.take_length] at hg
      exact ⟨_, rfl, ql acc hg q xs H5 (s03.trans s5) nqH eq tq⟩
/-! ### split -/
abbrev sSplit : Stmt := topS 26
theorem scSplit : FnScope ["tree", "chosen"] ["tree", "chosen"] (defScope sSplit) := ⟨rfl, rfl, rfl, by decide +kernel, rfl, by decide +kernel, by decide +kernel⟩
theorem ok_splitS {n k : Nat} (D : DefAt K mg "split" sSplit ["tree", "chosen"]) (G1 : Ok P w K mg base "split_any" k ["parts", "chosen"] (spSplitAny n)) (G2 : Ok P w K mg base "split_row" k ["parts", "chosen"] (spSplitRow n)) : Ok P w K mg base "split" (k + 1) ["tree", "chosen"] (spSplit (n + 1)) := by
  refine ok_def D scSplit (fun vs H Q E h => ?_) (fun f cdv A outer s H vs Q E hr h => ?_)
  · obtain ⟨v, t, a, c, rfl, _⟩ := h
    rfl
  obtain ⟨v, t, a, c, rfl, ht, hw, hl, hn, h8, hc, q⟩ := h
  refine ⟨_, pss_cons (ps_if (pt_cmpR op_eq (pe_ix ix_tup (pv 0) pe_int (fun _ _ => rfl)) pe_str (nomark _)) (pss_one (ps_ret (pe_callO G1 hr (Nat.le_refl _) (pa_cons (pe_ix ix_tup (pv 0) pe_int (fun _ _ => rfl)) (pa_cons (pv 1) pa_nil))))) pss_nil)
    (pss_one (ps_ret (pe_callO G2 hr (Nat.le_refl _) (pa_cons (pe_ix ix_tup (pv 0) pe_int (fun _ _ => rfl)) (pa_cons (pv 1) pa_nil))))), ?_⟩
  cases t with
  | leaf i => cases hl
  | node w ts =>
    rw [TreeAt] at ht
    obtain ⟨x, b, ws, rfl, h1, h2, h3⟩ := ht
    rw [leaves] at hn h8
    have hws : WfL ts := by rw [Wf] at hw; exact hw.2
    have hp : Parts H b ws ts := ⟨h2, h3, hws, h8⟩
    have hcn : ∀ t ∈ ts, (leaves t).length ≤ n := fun t m => by
      have := child_lt hw m
      omega
    refine ⟨_, rfl, x, _, _, _, rfl, rfl, SqT.of h1, atI_nat (j := 0) rfl, rfl, ?_⟩
    cases w with
    | false =>
      refine ⟨true, blT rfl, iteT ⟨_, rfl, x, _, _, _, rfl, rfl, SqT.of h1, atI_nat (j := 1) rfl, _, rfl, b, ws, ts, a, c, rfl, hp, hcn, hc, ?_⟩⟩
      rw [splitN] at q
      exact q
    | true =>
      refine ⟨false, blF row_ne, iteF ⟨_, rfl, x, _, _, _, rfl, rfl, SqT.of h1, atI_nat (j := 1) rfl, _, rfl, b, ws, ts, a, c, rfl, hp, hcn, hc, ?_⟩⟩
      rw [splitN] at q
      exact q
theorem ok_split (T : Txt K mg) (DA : DefAt K mg "split_any" sSplitAny ["parts", "chosen"]) (DR : DefAt K mg "split_row" sSplitRow ["parts", "chosen"]) (DS : DefAt K mg "split" sSplit ["tree", "chosen"])
    (GW : Ok P w K mg base "with_share" 11 ["parts", "chosen", "wanted"] spWith) (GM : Ok P w K mg base "make_any" 1 ["parts"] spMkAny) (GH : Ok P w K mg base "share" 10 ["tree", "chosen"] spShare) (GA : Ok P w K mg base "ascends" 1 ["shares"] spAsc) :
    ∀ n, Ok P w K mg base "split" (2 * n + 11) ["tree", "chosen"] (spSplit n)
  | 0 => ok_none DS fun vs H Q E h => by
    obtain ⟨v, t, a, c, rfl, _, hw, _, hn, _⟩ := h
    have := leaves_pos t hw
    omega
  | n + 1 => by
    have ih := ok_split T DA DR DS GW GM GH GA n
    exact ok_splitS DS (ok_splitAny T DA GW GM (by omega) ih) (ok_splitRow T DR GH GA (by omega) ih)
end
end K26
set_option maxHeartbeats 4000000
namespace K26
open PySem PySem.Spec PyProof.Rows L2
/-- a tree, or None -/
def RetT (H : Hp) (o : Option Tree) (Q : VK) : Prop := (o = none → ∀ H', Same H H' → Q .non H') ∧ ∀ t, o = some t → ∀ v H', Same H H' → TreeAt H' t v → Q v H'
/-- what split hands back, its list apart from D -/
def OL (H : Hp) (D : Addr) : Option (List Tree) → V → Prop
  | none, v => v = .non
  | some l, v => ∃ p us, v = .ref p ∧ p ≠ D ∧ H p = some (.lst us) ∧ TreesAt H l us
def LAt (H : Hp) (D : Addr) : List (Option (List Tree)) → List V → Prop
  | [], vs => vs = []
  | o :: r, vs => ∃ v vs', vs = v :: vs' ∧ OL H D o v ∧ LAt H D r vs'
theorem OL.mono {H H' : Hp} {D : Addr} (k : ∀ b o, b ≠ D → H b = some o → H' b = some o) (kp : Kept H H') : ∀ {o : Option (List Tree)} {v : V}, OL H D o v → OL H' D o v
  | none, v, h => h
  | some l, v, ⟨p, us, e, hne, hp, ht⟩ => ⟨p, us, e, hne, k _ _ hne hp, ht.mono kp⟩
theorem LAt.mono {H H' : Hp} {D : Addr} (k : ∀ b o, b ≠ D → H b = some o → H' b = some o) (kp : Kept H H') : ∀ {S : List (Option (List Tree))} {vs : List V}, LAt H D S vs → LAt H' D S vs
  | [], vs, h => h
  | o :: r, vs, ⟨v, vs', e, h1, h2⟩ => ⟨v, vs', e, h1.mono k kp, LAt.mono k kp h2⟩
theorem LAt.append {H : Hp} {D : Addr} : ∀ {S R : List (Option (List Tree))} {vs ws : List V}, LAt H D S vs → LAt H D R ws → LAt H D (S ++ R) (vs ++ ws)
  | [], R, vs, ws, h, h2 => by
    have e : vs = [] := h
    subst e
    exact h2
  | o :: r, R, vs, ws, ⟨v, vs', e, h1, h3⟩, h2 => by
    subst e
    exact ⟨v, vs' ++ ws, rfl, h1, LAt.append h3 h2⟩
theorem LAt.one {H : Hp} {D : Addr} {o : Option (List Tree)} {v : V} (h : OL H D o v) : LAt H D [o] [v] := ⟨v, [], rfl, h, rfl⟩
theorem LAt.length {H : Hp} {D : Addr} : ∀ {S : List (Option (List Tree))} {vs : List V}, LAt H D S vs → vs.length = S.length
  | [], vs, h => by
    have e : vs = [] := h
    rw [e]; rfl
  | o :: r, vs, ⟨v, vs', e, h1, h2⟩ => by rw [e, List.length_cons, List.length_cons, LAt.length h2]
def dO : Option (List Tree) → PyData
  | none => .none
  | some l => .list (dTs l)
theorem OL.dp {K : PySem.W.Frag} {H : Hp} {D : Addr} : ∀ {o : Option (List Tree)} {v : V}, OL H D o v → Dp K H v (dO o)
  | none, v, h => by
    have e : v = .non := h
    subst e
    exact .non
  | some l, v, ⟨p, us, e, _, hp, ht⟩ => by
    subst e
    exact .lst (SqL.of hp) ht.dp
theorem LAt.dp {K : PySem.W.Frag} {H : Hp} {D : Addr} : ∀ {S : List (Option (List Tree))} {vs : List V}, LAt H D S vs → DpAll K H vs (S.map dO)
  | [], vs, h => by
    have e : vs = [] := h
    subst e
    exact .nil
  | o :: r, vs, ⟨v, vs', e, h1, h2⟩ => by
    subst e
    exact .cons h1.dp (LAt.dp h2)
/-- a list of trees that may be laid -/
def Fine (o : Option (List Tree)) : Prop := ∀ l, o = some l → WfL l ∧ ∀ t ∈ l, (leaves t).length ≤ 8
theorem dO_lay : ∀ o : Option (List Tree), (dO o).canLay0 = true
  | none => by rw [dO, PyData.canLay0]
  | some l => by
    rw [dO]
    simp only [PyData.canLay0]
    exact dTs_lay l
theorem dOs_lay : ∀ S : List (Option (List Tree)), PyData.canLayAll0 (S.map dO) = true
  | [] => by rw [List.map_nil, PyData.canLayAll0]
  | o :: r => by rw [List.map_cons, PyData.canLayAll0, dO_lay o, dOs_lay r]; rfl
theorem dO_depth : ∀ o : Option (List Tree), Fine o → (dO o).depth ≤ 16
  | none, _ => by rw [dO, PyData.depth]; exact Nat.zero_le _
  | some l, h => by
    obtain ⟨h1, h2⟩ := h l rfl
    have := dTs_depth l h1 8 h2
    rw [dO]
    simp only [PyData.depth]
    omega
theorem dOs_depth : ∀ S : List (Option (List Tree)), (∀ o ∈ S, Fine o) → PyData.depthAll (S.map dO) ≤ 16
  | [], _ => by rw [List.map_nil, PyData.depthAll]; exact Nat.zero_le _
  | o :: r, h => by
    have h1 := dO_depth o (h o List.mem_cons_self)
    have h2 := dOs_depth r fun x m => h x (List.mem_cons_of_mem _ m)
    rw [List.map_cons, PyData.depthAll]
    omega
theorem dOs_shaped {S : List (Option (List Tree))} (h : ∀ o ∈ S, Fine o) : SeqAt.shaped (.list (S.map dO)) = true := by
  have h1 := dOs_depth S h
  show (PyData.canLay0 (.list (S.map dO)) && decide (PyData.depth (.list (S.map dO)) ≤ 64)) = true
  rw [Bool.and_eq_true]
  refine ⟨by simp only [PyData.canLay0]; exact dOs_lay S, decide_eq_true ?_⟩
  simp only [PyData.depth]
  omega
theorem non_shaped : SeqAt.shaped .none = true := by decide +kernel
theorem eqv_dO : ∀ o : Option (List Tree), PyData.eqv (dO o) .none = o.isNone
  | none => by rw [dO, PyData.eqv]; rfl
  | some l => by rw [dO, PyData.eqv]; rfl
/-- None in lists -/
theorem none_in {K : PySem.W.Frag} {H : Hp} {D : Addr} {S : List (Option (List Tree))} {vs : List V} {Q : VK} (hp : H D = some (.lst vs)) (h : LAt H D S vs) (hf : ∀ o ∈ S, Fine o) (q : Q (.bl (S.any Option.isNone)) H) : rInD K .non (.ref D) H Q := by
  refine ⟨.none, S.map dO, .non, .lst (SqL.of hp) h.dp, non_shaped, dOs_shaped hf, ?_⟩
  rw [List.any_map]
  have e : ((fun z => PyData.eqv z .none) ∘ dO) = Option.isNone := funext eqv_dO
  rw [e]
  exact q
theorem lists_eq {K : PySem.W.Frag} {H : Hp} {D q : Addr} {S : List (Option (List Tree))} {vs : List V} {Q : VK} (hp : H D = some (.lst vs)) (h : LAt H D S vs) (hf : ∀ o ∈ S, Fine o) (hq : H q = some (.lst [])) (k : Q (.bl S.isEmpty) H) : rEqD K (.ref D) (.ref q) H Q := by
  refine ⟨_, _, .lst (SqL.of hp) h.dp, .lst (SqL.of hq) .nil, dOs_shaped hf, nil_shaped, ?_⟩
  rw [eqv_nil]
  cases S with
  | nil => exact k
  | cons a r => exact k
theorem split_fine {c : List Int} {n : Nat} {t : Tree} (hw : Wf t) (h8 : (leaves t).length ≤ 8) : Fine (splitN c n t) := fun l e => by
  have is := splitN_is hw e
  refine ⟨is.wf, fun u m => ?_⟩
  have h1 := child_le is.wf m
  have h2 := is.perm.length_eq
  omega
section
variable {P : Program} {w : World} {K : PySem.W.Frag} {mg : Str → Option Value} {base : Heap}
/-! ### joined_any -/
abbrev sJAny : Stmt := topS 27
abbrev nJAny : List Str := ["parts", "chosen", "empty", "full", "mixed", "lists", "middle", "part"]
theorem scJAny : FnScope nJAny ["parts", "chosen"] (defScope sJAny) := ⟨rfl, rfl, rfl, by decide +kernel, rfl, by decide +kernel, by decide +kernel⟩
def spJAny : Sp := fun vs H Q _ => ∃ (b : Addr) (ws : List V) (ts : List Tree) (a : Addr) (c : List Int), vs = [.ref b, .ref a] ∧ Parts H b ws ts ∧ H a = some (.tup (c.map V.int)) ∧ RetT H (joinedAny (splitN c 8) c ts) Q
theorem ok_jany (T : Txt K mg) (D : DefAt K mg "joined_any" sJAny ["parts", "chosen"]) (GW : Ok P w K mg base "with_share" 11 ["parts", "chosen", "wanted"] spWith) (GA : Ok P w K mg base "make_any" 1 ["parts"] spMkAny) (GR : Ok P w K mg base "make_row" 2 ["parts"] spMkRow)
    (GS : Ok P w K mg base "split" 27 ["tree", "chosen"] (spSplit 8)) : Ok P w K mg base "joined_any" 28 ["parts", "chosen"] spJAny := by
  refine ok_def D scJAny (fun vs H Q E h => ?_) (fun f cdv A outer s H vs Q E hr h => ?_)
  · obtain ⟨b, ws, ts, a, c, rfl, _⟩ := h
    rfl
  obtain ⟨b, ws, ts, a, c, rfl, hp, hc, qn, qt⟩ := h
  have hu65 : (A.deeper (envOfC "joined_any" (defScope sJAny) s.heap.objs.size f cdv)).units + 65 < cLine := by
    have := hr.un
    omega
  refine ⟨_, pss_cons (ps_set (i := 2) scJAny.nd rfl (.inl rfl) (pe_callO GW hr (by decide) (pa_cons (pv 0) (pa_cons (pv 1) (pa_cons pe_str pa_nil)))))
    (pss_cons (ps_set (i := 3) scJAny.nd rfl (.inl rfl) (pe_callO GW hr (by decide) (pa_cons (pv 0) (pa_cons (pv 1) (pa_cons pe_str pa_nil)))))
    (pss_cons (ps_set (i := 4) scJAny.nd rfl (.inl rfl) (pe_callO GW hr (by decide) (pa_cons (pv 0) (pa_cons (pv 1) (pa_cons pe_str pa_nil)))))
    (pss_cons (ps_if (pt_cmpR op_gt (pe_callB call_len_seq (by rfl) T.len PySem.boot_len (pa_cons (pv 4) pa_nil)) pe_int (nomark _)) (pss_one (ps_ret pe_non)) pss_nil)
    (pss_cons (ps_setLc (i := 5) (own := [("part", 7)]) (g := gName 7) (tt := tYes) rfl scJAny.nd rfl rfl (sw_true rfl rfl rfl (by decide +kernel)) (pi_list (pv 4)) (blkOk_by (N := nJAny) (sc := defScope sJAny) (by decide +kernel))
          (fun _ _ _ _ _ => pg_name (i := 7) scJAny.nd rfl (.inl rfl)) (fun _ _ _ _ _ => pts_nil) (fun _ _ _ _ _ => pe_callO GS hr (by decide) (pa_cons (pv 7) (pa_cons (pv 1) pa_nil))))
    (pss_cons (ps_if (pt_cmpR (op_inD hu65) pe_non (pv 5) (by rfl)) (pss_one (ps_ret pe_non)) pss_nil)
    (pss_cons (ps_if (pt_cmpR (op_eqD hr.units) (pv 5) (pe_lst pa_nil) (nomark _)) (pss_one (ps_ret (pe_callO GA hr (by decide) (pa_cons (pe_op op_cat (pv 2) (pe_lst (pa_cons (pe_callO GA hr (by decide) (pa_cons (pv 3) pa_nil)) pa_nil))) pa_nil)))) pss_nil)
    (pss_cons (ps_set (i := 6) scJAny.nd rfl (.inl rfl) (pe_callTy call_list_of (by rfl) T.list (by decide +kernel) (pa_cons (pe_ix ix_list (pv 5) pe_int (fun _ _ => rfl)) pa_nil)))
    (C8.pss_cut (ps_if (pt_cmpR (op_neD hr.units) (pv 3) (pe_lst pa_nil) (nomark _)) (pss_one (ps_expr (pe_bm PySem.F.plainAttrs_list PySem.F.slot_list_append PySem.F.type_list_append mt_append (pv 6) (pa_cons (pe_callO GA hr (by decide) (pa_cons (pv 3) pa_nil)) pa_nil)))) pss_nil)
    (C8.pss_cut (ps_if (pt_cmpR op_eq (pe_callB call_len_seq (by rfl) T.len PySem.boot_len (pa_cons (pv 5) pa_nil)) pe_int (nomark _)) (pss_one (ps_expr (pe_bm PySem.F.plainAttrs_list PySem.F.slot_list_extend PySem.F.type_list_extend mt_extend (pv 6) (pa_cons (pe_revL (pe_ix ix_list (pv 5) pe_int (fun _ _ => rfl))) pa_nil)))) pss_nil)
    (pss_one (ps_ret (pe_callO GA hr (by decide) (pa_cons (pe_op op_cat (pv 2) (pe_lst (pa_cons (pe_callO GR hr (by decide) (pa_cons (pv 6) pa_nil)) pa_nil))) pa_nil))))))))))))), ?_⟩
  refine ⟨_, rfl, _, rfl, b, ws, ts, a, c, .no, rfl, hp, hc, fun p1 w1 H1 s1 n1 e1 t1 => ?_⟩
  refine ⟨_, rfl, _, rfl, b, ws, ts, a, c, .all, rfl, hp.mono (same_kept s1), s1 _ _ hc, fun p2 w2 H2 s2 n2 e2 t2 => ?_⟩
  have s02 := s1.trans s2
  refine ⟨_, rfl, _, rfl, b, ws, ts, a, c, .some, rfl, hp.mono (same_kept s02), s02 _ _ hc, fun p3 w3 H3 s3 n3 e3 t3 => ?_⟩
  have s03 := s02.trans s3
  have e1' := s3 _ _ (s2 _ _ e1)
  have t1' := t1.mono (same_kept (s2.trans s3))
  have e2' := s3 _ _ e2
  have t2' := t2.mono (same_kept s3)
  have hwn := pick_wf (c := c) (s := .no) hp.wf
  have hwa := pick_wf (c := c) (s := .all) hp.wf
  have ln := pick_len hp (c := c) (s := .no)
  have la := pick_len hp (c := c) (s := .all)
  have l1 := t1.length
  have l2 := t2.length
  have l3 := t3.length
  refine ⟨_, rfl, p3, w3, rfl, .inl (SqL.of e3), _, _, rfl, rfl, ?_⟩
  by_cases hm : (2 : Int) < (w3.length : Int)
  · refine ⟨true, blT hm, iteT (qn ?_ H3 s03)⟩
    unfold joinedAny
    match hx : pick c .some ts with
    | [] => rw [hx, List.length_nil] at l3; omega
    | [x] => rw [hx, List.length_singleton] at l3; omega
    | [x, y] => rw [hx] at l3; simp only [List.length_cons, List.length_nil] at l3; omega
    | x :: y :: z :: r => rfl
  refine ⟨false, blF hm, iteF ⟨_, rfl, p3, rfl, ⟨_, SqL.of e3⟩, fun D4 n4 => ?_⟩⟩
  -- lists
  refine lc_list (K := K) (a := p3) (xs := w3) (fun i H' => Same H3 H' ∧ ∃ acc, H' D4 = some (.lst acc) ∧ LAt H' D4 (((pick c .some ts).take i).map (splitN c 8)) acc) ⟨same_new n4, [], upd_same, rfl⟩ (fun i H' _ h => h.1.seq (SqL.of e3)) ?_ ?_
  · rintro i x H5 hx ⟨s5, acc, e5, h5⟩
    obtain ⟨t, hti, hta⟩ := t3.get hx
    have mp : t ∈ pick c .some ts := List.mem_of_getElem? hti
    obtain ⟨mt, hsx⟩ := pick_mem mp
    obtain ⟨wx, tx, ex⟩ := some_node hsx
    have hleaf : isLeaf t = false := by rw [ex]; rfl
    have hwt := wfL_iff.mp hp.wf t mt
    have h8 := hp.le mt
    have hi : i < w3.length := (List.getElem?_eq_some_iff.mp hx).1
    have lacc := h5.length
    rw [List.length_map, List.length_take] at lacc
    have fin : ∀ v H6, Same H5 H6 → OL H6 D4 (splitN c 8 t) v → ∃ acc, H6 D4 = some (.lst acc) ∧ acc.length < sizeLine ∧ (Same H3 (upd H6 D4 (.lst (acc ++ [v]))) ∧ ∃ acc', (upd H6 D4 (.lst (acc ++ [v]))) D4 = some (.lst acc') ∧ LAt (upd H6 D4 (.lst (acc ++ [v]))) D4 (((pick c .some ts).take (i + 1)).map (splitN c 8)) acc') := fun v H6 s6 ho => by
      have e6 := s6 _ _ e5
      have k6 : Kept H6 (upd H6 D4 (.lst (acc ++ [v]))) := kept_lst e6
      have o6 : ∀ b o, b ≠ D4 → H6 b = some o → (upd H6 D4 (.lst (acc ++ [v]))) b = some o := fun b o hb h => by
        rw [upd_ne hb]; exact h
      refine ⟨acc, e6, small1000 (by omega), same_put (s5.trans s6) n4, _, upd_same, ?_⟩
      rw [take_snoc hti, List.map_append]
      exact ((h5.mono (fun b o _ h => s6 b o h) (same_kept s6)).mono o6 k6).append (.one (ho.mono o6 k6))
    refine ⟨rfl, tyes ⟨_, rfl, _, rfl, x, t, a, c, rfl, hta.mono (same_kept s5), hwt, hleaf, h8, h8, s5 _ _ (s03 _ _ hc), ?_, ?_⟩⟩
    · intro hn H6 s6
      exact fin _ H6 s6 (by rw [hn]; rfl)
    · intro l hl q us H6 s6 nq eq tq
      exact fin _ H6 s6 (by rw [hl]; exact ⟨q, us, rfl, (ne_of_none e5 nq).symm, eq, tq⟩)
  rintro H4 ⟨s4, acc, e4, h4⟩
  rw [l3, List.take_length] at h4
  have fine : ∀ o ∈ (pick c .some ts).map (splitN c 8), Fine o := fun o m => by
    obtain ⟨t, mt, e⟩ := List.mem_map.mp m
    rw [← e]
    exact split_fine (wfL_iff.mp hp.wf t (pick_mem mt).1) (hp.le (pick_mem mt).1)
  have s04 := s03.trans s4
  refine ⟨_, rfl, none_in e4 h4 fine ⟨_, rfl, ?_⟩⟩
  cases hany : ((pick c .some ts).map (splitN c 8)).any Option.isNone with
  | true =>
    refine iteT (qn ?_ H4 s04)
    obtain ⟨o, mo, ho⟩ := List.any_eq_true.mp hany
    have mo' : (none : Option (List Tree)) ∈ (pick c .some ts).map (splitN c 8) := by
      cases o with
      | none => exact mo
      | some l => cases ho
    obtain ⟨t, mt, et⟩ := List.mem_map.mp mo'
    unfold joinedAny
    match hx : pick c .some ts with
    | [] => rw [hx] at mt; cases mt
    | [x] =>
      rw [hx, List.mem_singleton] at mt
      subst mt
      simp only [et]
    | [x, y] =>
      rw [hx] at mt
      rcases List.mem_cons.mp mt with rfl | mt
      · simp only [et]
      · rw [List.mem_singleton] at mt
        subst mt
        simp only [et]
        split <;> rfl
    | x :: y :: z :: r => rfl
  | false =>
    have all : ∀ t ∈ pick c .some ts, ∃ l, splitN c 8 t = some l := fun t m => by
      have := List.any_eq_false.mp hany (splitN c 8 t) (List.mem_map.mpr ⟨t, m, rfl⟩)
      cases h : splitN c 8 t with
      | none => rw [h] at this; exact absurd rfl this
      | some l => exact ⟨l, rfl⟩
    refine iteF ⟨_, rfl, Nat.zero_le _, fun q nq => ?_⟩
    have sq : Same H4 (upd H4 q (.lst [])) := same_new nq
    have e4q := sq _ _ e4
    have h4q := h4.mono (fun b o _ h => sq b o h) (same_kept sq)
    refine lists_eq e4q h4q fine upd_same ⟨_, rfl, ?_⟩
    have s3q := s4.trans sq
    have s0q := s03.trans s3q
    have e1q := s3q _ _ e1'
    have e2q := s3q _ _ e2'
    have t1q := t1'.mono (same_kept s3q)
    have t2q := t2'.mono (same_kept s3q)
    match hx : pick c .some ts with
    | [] =>
      refine iteT ⟨_, rfl, _, rfl, p2, w2, _, rfl, e2q, t2q, fun v H5 s5 hv => ⟨(by show 1 ≤ sizeLine; decide), fun r nr => ?_⟩⟩
      have sr : Same H5 (upd H5 r (.lst [v])) := same_new nr
      refine ⟨p1, r, _, _, rfl, rfl, sr _ _ (s5 _ _ e1q), upd_same, sizeL (by rw [List.length_singleton]; omega), fun z nz => ?_⟩
      have sz : Same (upd H5 r (.lst [v])) (upd (upd H5 r (.lst [v])) z (.lst (w1 ++ [v]))) := same_new nz
      have s5z := (s5.trans sr).trans sz
      refine ⟨z, _, _, rfl, upd_same, (t1q.mono (same_kept s5z)).append (.one (hv.mono (same_kept (sr.trans sz)))), fun v2 H6 s6 hv2 => qt _ ?_ v2 H6 ((s0q.trans s5z).trans s6) hv2⟩
      unfold joinedAny
      rw [hx]
    | x :: y :: z :: r => rw [hx] at l3; simp only [List.length_cons] at l3; omega
    | [x] =>
      rw [hx] at h4q
      obtain ⟨lx, hlx⟩ := all x (by rw [hx]; exact List.mem_cons_self)
      have mx : x ∈ ts := (pick_mem (c := c) (s := .some) (by rw [hx]; exact List.mem_cons_self)).1
      have isx := splitN_is (wfL_iff.mp hp.wf x mx) hlx
      have llx := split_len isx (hp.le mx)
      rw [List.map_cons, List.map_nil, hlx] at h4q
      obtain ⟨vx, vs1, eacc, ⟨px, ux, rfl, npx, epx, tpx⟩, evs⟩ := h4q
      have evs' : vs1 = [] := evs
      subst evs'
      subst eacc
      have lux := tpx.length
      refine iteF ⟨_, rfl, D4, _, 0, .ref px, rfl, rfl, SqL.of e4q, atI_nat (j := 0) rfl, px, ux, rfl, .inl (SqL.of epx), fun m nm => ?_⟩
      have sm : Same (upd H4 q (.lst [])) (upd (upd H4 q (.lst [])) m (.lst ux)) := same_new nm
      refine ⟨fun σ' H' => σ' = [some (.ref b), some (.ref a), some (.ref p1), some (.ref p2), some (.ref p3), some (.ref D4), some (.ref m), none] ∧ Same (upd H4 q (.lst [])) H' ∧ ∃ us, H' m = some (.lst us) ∧ us.length ≤ 900 ∧ TreesAt H' (lx ++ optAny (pick c .all ts)) us, ?_, ?_⟩
      · exact opt_append (H0 := upd H4 q (.lst [])) rfl rfl sm nm (sm _ _ e2q) (t2q.mono (same_kept sm)) hwa (pick_few hp) upd_same (tpx.mono (same_kept sm)) (by omega) fun H' us s' e' l' t' => ⟨rfl, s', us, e', by omega, t'⟩
      rintro σ6 H6 ⟨rfl, s6, u6, e6, l6, t6⟩
      refine ⟨fun σ' H' => σ' = [some (.ref b), some (.ref a), some (.ref p1), some (.ref p2), some (.ref p3), some (.ref D4), some (.ref m), none] ∧ H' = H6, ?_, ?_⟩
      · exact ⟨_, rfl, D4, _, rfl, .inl (SqL.of (s6 _ _ e4q)), rfl, false, blF (fun e => by injection e with e; cases e), iteF ⟨rfl, rfl⟩⟩
      rintro σ7 H7 ⟨rfl, rfl⟩
      refine ⟨_, rfl, _, rfl, m, u6, _, rfl, e6, t6, fun v H8 s8 hv => ⟨(by show 1 ≤ sizeLine; decide), fun r nr => ?_⟩⟩
      have sr : Same H8 (upd H8 r (.lst [v])) := same_new nr
      have s68 := s6.trans s8
      refine ⟨p1, r, _, _, rfl, rfl, sr _ _ (s68 _ _ e1q), upd_same, sizeL (by rw [List.length_singleton]; omega), fun z nz => ?_⟩
      have sz : Same (upd H8 r (.lst [v])) (upd (upd H8 r (.lst [v])) z (.lst (w1 ++ [v]))) := same_new nz
      have s8z := (s68.trans sr).trans sz
      refine ⟨z, _, _, rfl, upd_same, (t1q.mono (same_kept s8z)).append (.one (hv.mono (same_kept (sr.trans sz)))), fun v2 H9 s9 hv2 => qt _ ?_ v2 H9 ((s0q.trans s8z).trans s9) hv2⟩
      unfold joinedAny
      rw [hx]
      simp only [hlx]
    | [x, y] =>
      rw [hx] at h4q
      obtain ⟨lx, hlx⟩ := all x (by rw [hx]; exact List.mem_cons_self)
      obtain ⟨ly, hly⟩ := all y (by rw [hx]; exact List.mem_cons_of_mem _ List.mem_cons_self)
      have mx : x ∈ ts := (pick_mem (c := c) (s := .some) (by rw [hx]; exact List.mem_cons_self)).1
      have my : y ∈ ts := (pick_mem (c := c) (s := .some) (by rw [hx]; exact List.mem_cons_of_mem _ List.mem_cons_self)).1
      have llx := split_len (splitN_is (wfL_iff.mp hp.wf x mx) hlx) (hp.le mx)
      have lly := split_len (splitN_is (wfL_iff.mp hp.wf y my) hly) (hp.le my)
      rw [List.map_cons, List.map_cons, List.map_nil, hlx, hly] at h4q
      obtain ⟨vx, vs1, eacc, ⟨px, ux, rfl, npx, epx, tpx⟩, vy, vs2, evs, ⟨py, uy, rfl, npy, epy, tpy⟩, evs2⟩ := h4q
      have evs2' : vs2 = [] := evs2
      subst evs2'
      subst evs
      subst eacc
      have lux := tpx.length
      have luy := tpy.length
      refine iteF ⟨_, rfl, D4, _, 0, .ref px, rfl, rfl, SqL.of e4q, atI_nat (j := 0) rfl, px, ux, rfl, .inl (SqL.of epx), fun m nm => ?_⟩
      have sm : Same (upd H4 q (.lst [])) (upd (upd H4 q (.lst [])) m (.lst ux)) := same_new nm
      refine ⟨fun σ' H' => σ' = [some (.ref b), some (.ref a), some (.ref p1), some (.ref p2), some (.ref p3), some (.ref D4), some (.ref m), none] ∧ Same (upd H4 q (.lst [])) H' ∧ ∃ us, H' m = some (.lst us) ∧ us.length ≤ 900 ∧ TreesAt H' (lx ++ optAny (pick c .all ts)) us, ?_, ?_⟩
      · exact opt_append (H0 := upd H4 q (.lst [])) rfl rfl sm nm (sm _ _ e2q) (t2q.mono (same_kept sm)) hwa (pick_few hp) upd_same (tpx.mono (same_kept sm)) (by omega) fun H' us s' e' l' t' => ⟨rfl, s', us, e', by omega, t'⟩
      rintro σ6 H6 ⟨rfl, s6, u6, e6, l6, t6⟩
      refine ⟨fun σ' H' => σ' = [some (.ref b), some (.ref a), some (.ref p1), some (.ref p2), some (.ref p3), some (.ref D4), some (.ref m), none] ∧ Same (upd H4 q (.lst [])) H' ∧ ∃ us, H' m = some (.lst us) ∧ TreesAt H' (lx ++ optAny (pick c .all ts) ++ ly.reverse) us, ?_, ?_⟩
      · refine ⟨_, rfl, D4, _, rfl, .inl (SqL.of (s6 _ _ e4q)), rfl, true, blT rfl, iteT ⟨_, rfl, .inl ⟨rfl, _, SqL.of e6⟩, _, rfl, D4, _, 1, .ref py, rfl, rfl, SqL.of (s6 _ _ e4q), atI_nat (j := 1) rfl, py, uy, rfl, SqL.of (s6 _ _ epy), fun z nz => ?_⟩⟩
        have sz : Same H6 (upd H6 z (.lst uy.reverse)) := same_new nz
        have e6z := sz _ _ e6
        have kp : Kept (upd H6 z (.lst uy.reverse)) (upd (upd H6 z (.lst uy.reverse)) m (.lst (u6 ++ uy.reverse))) := kept_lst e6z
        exact ⟨m, z, _, _, rfl, rfl, e6z, upd_same, sizeL (by rw [List.length_reverse]; omega), rfl, same_put (s6.trans sz) nm, _, upd_same, ((t6.mono (same_kept sz)).mono kp).append (((tpy.mono (same_kept (s6.trans sz))).reverse).mono kp)⟩
      rintro σ7 H7 ⟨rfl, s7, u7, e7, t7⟩
      refine ⟨_, rfl, _, rfl, m, u7, _, rfl, e7, t7, fun v H8 s8 hv => ⟨(by show 1 ≤ sizeLine; decide), fun r nr => ?_⟩⟩
      have sr : Same H8 (upd H8 r (.lst [v])) := same_new nr
      have s68 := s7.trans s8
      refine ⟨p1, r, _, _, rfl, rfl, sr _ _ (s68 _ _ e1q), upd_same, sizeL (by rw [List.length_singleton]; omega), fun z nz => ?_⟩
      have sz : Same (upd H8 r (.lst [v])) (upd (upd H8 r (.lst [v])) z (.lst (w1 ++ [v]))) := same_new nz
      have s8z := (s68.trans sr).trans sz
      refine ⟨z, _, _, rfl, upd_same, (t1q.mono (same_kept s8z)).append (.one (hv.mono (same_kept (sr.trans sz)))), fun v2 H9 s9 hv2 => qt _ ?_ v2 H9 ((s0q.trans s8z).trans s9) hv2⟩
      unfold joinedAny
      rw [hx]
      simp only [hlx, hly]
end
end K26
set_option maxHeartbeats 4000000
namespace K26
open PySem PySem.Spec PyProof.Rows L2
/-! ### slices and sums of tuples -/
theorem cut_whole {ws : List V} {lo hi : Option Int} (h : HT.sIx ws.length 0 lo = 0 ∧ HT.sIx ws.length ws.length hi = ws.length) : cutV ws lo hi = ws := by
  unfold cutV
  rw [h.1, h.2, List.drop_zero, Nat.sub_zero, List.take_length]
theorem sl_any {K : PySem.W.Frag} {H : Hp} {b : Addr} {ws : List V} {lo hi : Option Int} {Q : VK} (hb : H b = some (.tup ws)) (k : ∀ r H', Same H H' → H' r = some (.tup (cutV ws lo hi)) → Q (.ref r) H') : rSlA K (.ref b) lo hi H Q :=
  ⟨b, ws, rfl, SqT.of hb, fun h => k b H (.refl H) (by rw [cut_whole h]; exact hb), fun _ p np => k p _ (same_new np) upd_same⟩
theorem cut_take {ws : List V} {k : Nat} (h : k ≤ ws.length) : cutV ws none (some (k : Int)) = ws.take k := by
  unfold cutV
  rw [HT.sIx_none, HT.sIx_nat, List.drop_zero, Nat.sub_zero, Nat.min_eq_left h]
theorem cut_drop {ws : List V} {k : Nat} (h : k ≤ ws.length) : cutV ws (some (k : Int)) none = ws.drop k := by
  unfold cutV
  rw [HT.sIx_none, HT.sIx_nat, Nat.min_eq_left h]
  exact List.take_of_length_le (by rw [List.length_drop]; exact Nat.le_refl _)
theorem cat_any {K : PySem.W.Frag} {H : Hp} {a b : Addr} {xs ys : List V} {Q : VK} (ha : H a = some (.tup xs)) (hb : H b = some (.tup ys)) (hl : xs.length + ys.length ≤ 1000) (k : ∀ r H', Same H H' → H' r = some (.tup (xs ++ ys)) → Q (.ref r) H') : rCatA K (.ref a) (.ref b) H Q := by
  refine ⟨a, b, xs, ys, rfl, rfl, SqT.of ha, SqT.of hb, sizeL hl, fun e => ?_, fun _ e => ?_, fun _ _ p np => k p _ (same_new np) upd_same⟩
  · exact k b H (.refl H) (by rw [e, List.nil_append]; exact hb)
  · exact k a H (.refl H) (by rw [e, List.append_nil]; exact ha)
theorem filter_snoc {α : Type} {p : α → Bool} {l : List α} {x : α} : (l ++ [x]).filter p = l.filter p ++ if p x = true then [x] else [] := by
  rw [List.filter_append, List.filter_cons, List.filter_nil]
theorem touched_get0 {l : List Nat} (h : l ≠ []) : l[0]? = some (l.getD 0 0) := by
  cases l with
  | nil => exact absurd rfl h
  | cons a r => rfl
theorem touched_last {l : List Nat} (h : l ≠ []) : l[l.length - 1]? = some (l.getLastD 0) := by
  rw [← List.getLast?_eq_getElem?]
  cases l with
  | nil => exact absurd rfl h
  | cons a r => rw [List.getLast?_cons, List.getLastD_cons, List.getLastD_eq_getLast?]
theorem nats_get {l : List Nat} {i k : Nat} (h : l[i]? = some k) : (l.map fun (j : Nat) => V.int (j : Int))[i]? = some (.int (k : Int)) := by
  rw [List.getElem?_map, h]; rfl
theorem nats_ints (l : List Nat) : (l.map fun (j : Nat) => V.int (j : Int)) = (l.map fun (j : Nat) => (j : Int)).map V.int := by
  rw [List.map_map]; rfl
theorem shws_get {c : List Int} {ts : List Tree} {i : Nat} (h : i < ts.length) : ((ts.map (share c)).map fun s => V.str (shw s))[i]? = some (.str (shw (share c (ts.getD i default)))) := by
  rw [List.getElem?_map, List.getElem?_map, List.getElem?_eq_getElem h, getD_of_lt h]; rfl
section
variable {P : Program} {w : World} {K : PySem.W.Frag} {mg : Str → Option Value} {base : Heap}
/-! ### joined_row -/
abbrev sJRow : Stmt := topS 28
abbrev nJRow : List Str := ["parts", "chosen", "shares", "index", "touched", "first", "last", "found", "inner", "part"]
theorem scJRow : FnScope nJRow ["parts", "chosen"] (defScope sJRow) := ⟨rfl, rfl, rfl, by decide +kernel, rfl, by decide +kernel, by decide +kernel⟩
def spJRow : Sp := fun vs H Q _ => ∃ (b : Addr) (ws : List V) (ts : List Tree) (a : Addr) (c : List Int), vs = [.ref b, .ref a] ∧ Parts H b ws ts ∧ touched c ts ≠ [] ∧ H a = some (.tup (c.map V.int)) ∧ RetT H (joinedRow (splitN c 8) c ts) Q
theorem ok_jrow (T : Txt K mg) (D : DefAt K mg "joined_row" sJRow ["parts", "chosen"]) (GH : Ok P w K mg base "share" 10 ["tree", "chosen"] spShare) (GR : Ok P w K mg base "make_row" 2 ["parts"] spMkRow)
    (GS : Ok P w K mg base "split" 27 ["tree", "chosen"] (spSplit 8)) : Ok P w K mg base "joined_row" 28 ["parts", "chosen"] spJRow := by
  refine ok_def D scJRow (fun vs H Q E h => ?_) (fun f cdv A outer s H vs Q E hr h => ?_)
  · obtain ⟨b, ws, ts, a, c, rfl, _⟩ := h
    rfl
  obtain ⟨b, ws, ts, a, c, rfl, hp, htn, hc, qn, qt⟩ := h
  refine ⟨_, pss_cons (ps_set (i := 2) scJRow.nd rfl (.inr rfl) (pe_lc (own := [("part", 9)]) (g := gName 9) (tt := tYes) rfl scJRow.nd (pi_tup (pv 0)) (blkOk_by (N := nJRow) (sc := defScope sJRow) (by decide +kernel))
          (fun _ _ _ _ _ => pg_name (i := 9) scJRow.nd rfl (.inl rfl)) (fun _ _ _ _ _ => pts_nil) (fun _ _ _ _ _ => pe_callO GH hr (by decide) (pa_cons (pv 9) (pa_cons (pv 1) pa_nil)))))
    (pss_cons (ps_setLc (i := 4) (own := [("index", 3)]) (g := gName 3) (tt := tTest (tOp rNe (tOp (rIxL K) (tVar 2) (tVar 3)) (tC (.str "none")))) (te := tVar 3) rfl scJRow.nd rfl rfl (sw_true rfl rfl rfl (by decide +kernel)) (pi_range1 (by rfl) T.range (pa_cons (pe_callB call_len_seq (by rfl) T.len PySem.boot_len (pa_cons (pv 0) pa_nil)) pa_nil)) (blkOk_by (N := nJRow) (sc := defScope sJRow) (by decide +kernel))
          (fun _ _ _ _ _ => pg_name (i := 3) scJRow.nd rfl (.inl rfl)) (fun _ _ _ _ _ => pts_one (pt_cmpR op_ne (pe_ix ix_list (pv 2) (pv 3) (fun _ _ => rfl)) pe_str (nomark _))) (fun _ _ _ _ _ => pv 3))
    (pss_cons (ps_set (i := 5) scJRow.nd rfl (.inl rfl) (pe_ix ix_list (pv 4) pe_int (fun _ _ => rfl)))
    (pss_cons (ps_set (i := 6) scJRow.nd rfl (.inl rfl) (pe_ix ix_list (pv 4) (pe_un un_neg pe_int) (fun _ _ => rfl)))
    (pss_cons (ps_if (pt_cmpR (op_neD hr.units)
          (pe_lc (own := [("index", 3)]) (g := gName 3) (tt := tTest (tOp rNe (tOp (rIxL K) (tVar 2) (tVar 3)) (tC (.str "all")))) (te := tVar 3) rfl scJRow.nd (pi_range2 (by rfl) T.range (pa_cons (pe_op op_add (pv 5) pe_int) (pa_cons (pv 6) pa_nil))) (blkOk_by (N := nJRow) (sc := defScope sJRow) (by decide +kernel))
            (fun _ _ _ _ _ => pg_name (i := 3) scJRow.nd rfl (.inl rfl)) (fun _ _ _ _ _ => pts_one (pt_cmpR op_ne (pe_ix ix_list (pv 2) (pv 3) (fun _ _ => rfl)) pe_str (nomark _))) (fun _ _ _ _ _ => pv 3))
          (pe_lst pa_nil) (nomark _)) (pss_one (ps_ret pe_non)) pss_nil)
    (pss_cons (ps_set (i := 7) scJRow.nd rfl (.inl rfl) (pe_callTy call_list_of (by rfl) T.list (by decide +kernel) (pa_cons (pe_slice sl_tupA (pv 0) po_none (po_some (pv 5))) pa_nil)))
    (pss_cons (ps_for PassesOwn.never rfl (pi_range2 (by rfl) T.range (pa_cons (pv 5) (pa_cons (pe_op op_add (pv 6) pe_int) pa_nil))) (pg_name (i := 3) scJRow.nd rfl (.inl rfl))
        (pss_cons (ps_set (i := 8) scJRow.nd rfl (.inl rfl) (pe_lst (pa_cons (pe_ix ix_tup (pv 0) (pv 3) (fun _ _ => rfl)) pa_nil)))
        (C8.pss_cut (ps_if (pt_cmpR op_eq (pe_ix ix_list (pv 2) (pv 3) (fun _ _ => rfl)) pe_str (nomark _))
            (pss_cons (ps_set (i := 8) scJRow.nd rfl (.inl rfl) (pe_callO GS hr (by decide) (pa_cons (pe_ix ix_tup (pv 0) (pv 3) (fun _ _ => rfl)) (pa_cons (pv 1) pa_nil))))
            (pss_cons (ps_if (pt_cmp (pc_isN (pv 8))) (pss_one (ps_ret pe_non)) pss_nil)
            (pss_one (ps_if (pt_cmpR op_eq (pv 3) (pv 6) (nomark _)) (pss_one (ps_set (i := 8) scJRow.nd rfl (.inl rfl) (pe_revL (pv 8)))) pss_nil)))) pss_nil)
        (pss_one (ps_expr (pe_bm PySem.F.plainAttrs_list PySem.F.slot_list_extend PySem.F.type_list_extend mt_extend (pv 7) (pa_cons (pv 8) pa_nil)))))))
    (pss_cons (ps_expr (pe_bm PySem.F.plainAttrs_list PySem.F.slot_list_extend PySem.F.type_list_extend mt_extT (pv 7) (pa_cons (pe_slice sl_tupA (pv 0) (po_some (pe_op op_add (pv 6) pe_int)) po_none) pa_nil)))
    (pss_one (ps_ret (pe_callO GR hr (by decide) (pa_cons (pv 7) pa_nil))))))))))), ?_⟩
  have h8 := hp.len
  have lws := hp.tree.length
  -- shares
  refine ⟨_, rfl, b, rfl, ⟨_, SqT.of hp.tup⟩, fun D1 n1 => ?_⟩
  refine lcf_tup (K := K) (a := b) (xs := ws) (fun i acc H' => acc = ((ts.take i).map (share c)).map fun s => V.str (shw s)) n1 hp.tup (by omega) (fun _ _ _ _ _ h => h) rfl ?_ ?_
  · intro i x H2 acc QT QF hx s2 hacc kT kF
    obtain ⟨t, hti, hta⟩ := hp.tree.get hx
    have mt : t ∈ ts := List.mem_of_getElem? hti
    refine ⟨rfl, tyes ⟨_, rfl, _, rfl, x, t, a, c, rfl, hta.mono (same_kept s2), wfL_iff.mp hp.wf t mt, hp.le mt, s2 _ _ hc, fun H3 s3 => kT _ _ s3 ?_⟩⟩
    rw [hacc, take_snoc hti, List.map_append, List.map_append]
    rfl
  intro H1 ys s1 e1 y1 hys
  rw [lws, List.take_length] at hys
  subst hys
  have hp1 := hp.mono (same_kept s1)
  -- touched
  refine ⟨_, rfl, b, ws, rfl, .inr (SqT.of hp1.tup), (ws.length : Int), rfl, by omega, by omega, fun D2 n2 => ?_⟩
  refine lcf_range (lo := 0) (n := ((ws.length : Nat) : Int).toNat) (fun i acc H' => acc = ((List.range i).filter fun j => decide (share c (ts.getD j default) ≠ .no)).map fun (j : Nat) => V.int (j : Int)) n2 (by omega) (fun _ _ _ _ _ h => h) rfl ?_ ?_
  · intro i H2 acc QT QF hi s2 hacc kT kF
    rw [Int.toNat_natCast] at hi
    rw [Int.zero_add]
    have hi' : i < ts.length := by omega
    refine ⟨rfl, _, rfl, _, rfl, D1, _, _, _, rfl, rfl, SqL.of (s2 _ _ e1), atI_nat (shws_get hi'), rfl, _, rfl, ?_⟩
    rw [List.range_succ] at *
    by_cases h0 : share c (ts.getD i default) = .no
    · have e : (!decide (V.str (shw (share c (ts.getD i default))) = V.str "none")) = false := by rw [h0]; rfl
      rw [e]
      refine iteF (kF _ (.refl _) ?_)
      rw [hacc, filter_snoc, if_neg (by simpa using h0), List.append_nil]
    · have e : (!decide (V.str (shw (share c (ts.getD i default))) = V.str "none")) = true := by
        show (!decide (V.str (shw (share c (ts.getD i default))) = V.str (shw .no))) = true
        rw [decide_eq_false (fun e => h0 (shw_inj (b := .no) e))]; rfl
      rw [e]
      refine iteT ⟨_, rfl, kT _ _ (.refl _) ?_⟩
      rw [hacc, filter_snoc, if_pos (by simpa using h0), List.map_append]
      rfl
  intro H2 us s2 e2 u2 hus
  rw [Int.toNat_natCast, lws] at hus
  have hus : us = (touched c ts).map fun (j : Nat) => V.int (j : Int) := hus
  subst hus
  have s02 := s1.trans s2
  have hp2 := hp1.mono (same_kept s2)
  have e1' := s2 _ _ e1
  have m1 := mem_touched.mp (getD_zero_mem htn)
  have m2 := mem_touched.mp (getLastD_mem htn)
  have le := first_le_last htn (touched_sorted c ts)
  have g1 := touched_get0 htn
  have g2 := touched_last htn
  have eJ : joinedRow (splitN c 8) c ts = joinedRowAt (splitN c 8) c ts ((touched c ts).getD 0 0) ((touched c ts).getLastD 0) := rfl
  rw [eJ] at qn qt
  generalize hfi : (touched c ts).getD 0 0 = first at *
  generalize hla : (touched c ts).getLastD 0 = last at *
  -- first, last
  refine ⟨_, rfl, D2, _, _, _, rfl, rfl, SqL.of e2, atI_nat (j := 0) (nats_get g1), _, rfl, 1, rfl, D2, _, _, _, rfl, rfl, SqL.of e2, atI_neg1 (nats_get (by rw [List.length_map]; exact g2)), ?_⟩
  -- [index .. != all]
  refine ⟨_, rfl, first, 1, rfl, rfl, _, rfl, (first : Int) + 1, (last : Int), rfl, ⟨by omega, by omega, by omega, by omega⟩, fun D3 n3 => ?_⟩
  have en : ((last : Int) - ((first : Int) + 1)).toNat = last - (first + 1) := by omega
  rw [en]
  refine lcf_range (lo := (first : Int) + 1) (n := last - (first + 1)) (fun i acc H' => acc = ((List.range' (first + 1) i).filter fun j => decide (share c (ts.getD j default) ≠ .all)).map fun (j : Nat) => V.int (j : Int)) n3 (by omega) (fun _ _ _ _ _ h => h) rfl ?_ ?_
  · intro i H3 acc QT QF hi s3 hacc kT kF
    have ei : (first : Int) + 1 + (i : Int) = ((first + 1 + i : Nat) : Int) := by omega
    rw [ei]
    have hi' : first + 1 + i < ts.length := by omega
    refine ⟨rfl, _, rfl, _, rfl, D1, _, _, _, rfl, rfl, SqL.of (s3 _ _ e1'), atI_nat (shws_get hi'), rfl, _, rfl, ?_⟩
    rw [List.range'_1_concat] at *
    by_cases h0 : share c (ts.getD (first + 1 + i) default) = .all
    · have e : (!decide (V.str (shw (share c (ts.getD (first + 1 + i) default))) = V.str "all")) = false := by rw [h0]; rfl
      rw [e]
      refine iteF (kF _ (.refl _) ?_)
      rw [hacc, filter_snoc, if_neg (by simpa using h0), List.append_nil]
    · have e : (!decide (V.str (shw (share c (ts.getD (first + 1 + i) default))) = V.str "all")) = true := by
        show (!decide (V.str (shw (share c (ts.getD (first + 1 + i) default))) = V.str (shw .all))) = true
        rw [decide_eq_false (fun e => h0 (shw_inj (b := .all) e))]; rfl
      rw [e]
      refine iteT ⟨_, rfl, kT _ _ (.refl _) ?_⟩
      rw [hacc, filter_snoc, if_pos (by simpa using h0), List.map_append]
      rfl
  intro H3 zs s3 e3 z3 hzs
  subst hzs
  rw [nats_ints] at e3
  refine ⟨Nat.zero_le _, fun q nq => ?_⟩
  have sq : Same H3 (upd H3 q (.lst [])) := same_new nq
  refine ints_ne (sq _ _ e3) upd_same ⟨_, rfl, ?_⟩
  rw [joinedRowAt] at qn qt
  by_cases hgap : (List.range' (first + 1) (last - (first + 1))).filter (fun i => decide (share c (ts.getD i default) ≠ .all)) = []
  case neg =>
    have e : (!(((List.range' (first + 1) (last - (first + 1))).filter fun j => decide (share c (ts.getD j default) ≠ .all)).map fun (j : Nat) => (j : Int)).isEmpty) = true := by
      rw [List.isEmpty_map]
      cases hh : (List.range' (first + 1) (last - (first + 1))).filter (fun i => decide (share c (ts.getD i default) ≠ .all)) with
      | nil => exact absurd hh hgap
      | cons x r => rfl
    rw [e]
    rw [if_neg hgap] at qn
    exact iteT (qn rfl _ ((s02.trans s3).trans sq))
  have e : (!(((List.range' (first + 1) (last - (first + 1))).filter fun j => decide (share c (ts.getD j default) ≠ .all)).map fun (j : Nat) => (j : Int)).isEmpty) = false := by
    rw [hgap]; rfl
  rw [e]
  rw [if_pos hgap] at qn qt
  have s0q := (s02.trans s3).trans sq
  have hpq := hp.mono (same_kept s0q)
  have e1q := sq _ _ (s3 _ _ e1')
  -- found = list(parts[:first])
  refine iteF ⟨_, rfl, _, rfl, (first : Int), rfl, sl_any hpq.tup fun r H4 s4 e4 => ?_⟩
  rw [cut_take (by omega)] at e4
  refine ⟨r, _, rfl, .inr (SqT.of e4), fun pf npf => ?_⟩
  have s5 : Same H4 (upd H4 pf (.lst (ws.take first))) := same_new npf
  have s04 := s0q.trans s4
  have hp4 := hp.mono (same_kept s04)
  have e1f := s4 _ _ e1q
  refine ⟨_, rfl, _, rfl, last, 1, rfl, rfl, (first : Int), (last : Int) + 1, rfl, ⟨by omega, by omega, by omega, by omega⟩, ?_⟩
  have en2 : ((last : Int) + 1 - (first : Int)).toNat = last + 1 - first := by omega
  rw [en2]
  refine for_range (lo := (first : Int)) (n := last + 1 - first) (fun i σ H' => (∃ v3 v8, σ = [some (.ref b), some (.ref a), some (.ref D1), v3, some (.ref D2), some (.int first), some (.int last), some (.ref pf), v8, none]) ∧ Same H4 H' ∧ ∃ acc xs, gather (rowPiece (splitN c 8) c ts last) (List.range' first i) = some acc ∧ H' pf = some (.lst xs) ∧ TreesAt H' (ts.take first ++ acc) xs ∧ xs.length ≤ 8 + 8 * i)
    ⟨⟨none, none, rfl⟩, s5, [], _, rfl, upd_same, by rw [List.append_nil]; exact (hp4.tree.mono (same_kept s5)).take first, by rw [List.length_take]; omega⟩ ?_ ?_
  · rintro i σ H5 hi ⟨⟨v3, v8, rfl⟩, s5', acc, xs, hg, ef, tf, lf⟩
    have ei : (first : Int) + (i : Int) = ((first + i : Nat) : Int) := by omega
    rw [ei]
    have hi' : first + i < ts.length := by omega
    have hp5 := hp4.mono (same_kept s5')
    obtain ⟨x, hx, hta⟩ := hp5.tree.at hi'
    have mt : ts.getD (first + i) default ∈ ts := by rw [getD_of_lt hi']; exact List.getElem_mem hi'
    have wft := wfL_iff.mp hp.wf _ mt
    have l8 := hp.le mt
    -- inner = [parts[index]]
    refine ⟨_, rfl, _, rfl, b, ws, _, x, rfl, rfl, SqT.of hp5.tup, atI_nat hx, (by show 1 ≤ sizeLine; decide), fun q1 nq1 => ?_⟩
    have s6 : Same H5 (upd H5 q1 (.lst [x])) := same_new nq1
    have ef6 := s6 _ _ ef
    have e1s := s6 _ _ (s5' _ _ e1f)
    refine ⟨fun σ' H' => (∃ q2, σ' = [some (.ref b), some (.ref a), some (.ref D1), some (.int ((first + i : Nat) : Int)), some (.ref D2), some (.int first), some (.int last), some (.ref pf), some (.ref q2), none] ∧ ∃ us l, rowPiece (splitN c 8) c ts last (first + i) = some l ∧ H' q2 = some (.lst us) ∧ TreesAt H' l us ∧ us.length ≤ 8) ∧ Same H5 H', ?_, ?_⟩
    · refine ⟨_, rfl, _, rfl, D1, _, _, _, rfl, rfl, SqL.of e1s, atI_nat (shws_get hi'), rfl, ?_⟩
      by_cases he : share c (ts.getD (first + i) default) = .some
      · obtain ⟨wx, tx, ex⟩ := some_node he
        have hleaf : isLeaf (ts.getD (first + i) default) = false := by rw [ex]; rfl
        have hp6 := hp5.mono (same_kept s6)
        refine ⟨true, blT (by rw [he]; rfl), iteT ⟨_, rfl, _, rfl, b, ws, _, x, rfl, rfl, SqT.of hp6.tup, atI_nat hx, _, rfl, x, _, a, c, rfl, hta.mono (same_kept s6), wft, hleaf, l8, l8, s6 _ _ (s5' _ _ (s04 _ _ hc)), ?_, ?_⟩⟩
        · intro hnone H7 s7
          refine ⟨_, rfl, true, blT rfl, iteT (qn ?_ H7 (((s04.trans s5').trans s6).trans s7))⟩
          rw [gather_none (x := first + i) ?_ (List.mem_range'_1.mpr ⟨by omega, by omega⟩)]
          rw [rowPiece, if_pos he, hnone]
        · intro l hl p7 u7 H7 s7 n7 e7 t7
          have ll := split_len (splitN_is wft hl) l8
          have l7 := t7.length
          refine ⟨_, rfl, false, blF none_nr, iteF ⟨_, rfl, _, rfl, rfl, ?_⟩⟩
          by_cases hlast : first + i = last
          · refine ⟨true, blT (by rw [hlast]), iteT ⟨_, rfl, p7, u7, rfl, SqL.of e7, fun q2 nq2 => ⟨⟨q2, rfl, u7.reverse, l.reverse, ?_, upd_same, (t7.mono (kept_new nq2)).reverse, by rw [List.length_reverse]; omega⟩, (s6.trans s7).trans (same_new nq2)⟩⟩⟩
            rw [rowPiece, if_pos he, hl]
            simp only [hlast, if_true]
          · refine ⟨false, blF (fun e => hlast (by injection e with e; omega)), iteF ⟨⟨p7, rfl, u7, l, ?_, e7, t7, by omega⟩, s6.trans s7⟩⟩
            rw [rowPiece, if_pos he, hl]
            simp only [if_neg hlast]
      · refine ⟨false, blF (fun e => he (shw_inj (b := .some) e)), iteF ⟨⟨q1, rfl, [x], [ts.getD (first + i) default], ?_, upd_same, .one (hta.mono (same_kept s6)), by show 1 ≤ 8; decide⟩, s6⟩⟩
        rw [rowPiece, if_neg he]
    rintro σ7 H7 ⟨⟨q2, rfl, us, l, hpc, eq2, tq2, lq2⟩, s7⟩
    have ef7 := s7 _ _ ef
    have kp : Kept H7 (upd H7 pf (.lst (xs ++ us))) := kept_lst ef7
    refine ⟨_, rfl, .inl ⟨rfl, _, SqL.of ef7⟩, _, rfl, pf, q2, _, _, rfl, rfl, ef7, eq2, sizeL (by omega), ⟨_, _, rfl⟩, same_put (s5'.trans s7) npf, acc ++ l, _, ?_, upd_same, ?_, by rw [List.length_append]; omega⟩
    · rw [List.range'_1_concat]
      exact gather_snoc hg hpc
    · rw [← List.append_assoc]
      exact ((tf.mono (same_kept s7)).mono kp).append (tq2.mono kp)
  · rintro σ H5 ⟨⟨v3, v8, rfl⟩, s5', acc, xs, hg, ef, tf, lf⟩
    have hp5 := hp4.mono (same_kept s5')
    rw [hg] at qt
    refine ⟨_, rfl, .inl ⟨rfl, _, SqL.of ef⟩, _, rfl, _, rfl, last, 1, rfl, rfl, ((last + 1 : Nat) : Int), rfl, ?_⟩
    unfold tNoPart
    refine sl_any hp5.tup fun r2 H6 s6 e6 => ?_
    rw [cut_drop (by omega)] at e6
    have ef6 := s6 _ _ ef
    have kp : Kept H6 (upd H6 pf (.lst (xs ++ ws.drop (last + 1)))) := kept_lst ef6
    refine ⟨pf, r2, _, _, rfl, rfl, ef6, e6, sizeL (by rw [List.length_drop]; omega), _, rfl, pf, _, _, rfl, upd_same, ((tf.mono (same_kept s6)).mono kp).append (((hp5.tree.mono (same_kept s6)).drop (last + 1)).mono kp), fun v H8 s8 hv => qt _ rfl v H8 (s04.trans ((same_put (s5'.trans s6) npf).trans s8)) hv⟩
end
end K26
set_option maxHeartbeats 4000000
namespace K26
open PySem PySem.Spec PyProof.Rows L2
theorem redAll_append : ∀ (A B : List (List Int)) (t : Tree), redAll (A ++ B) t = (redAll A t).bind (redAll B)
  | [], B, t => rfl
  | c :: r, B, t => by
    rw [List.cons_append, redAll, redAll]
    cases red c t with
    | none => rfl
    | some u => exact redAll_append r B u
theorem redAll_take {S : List (List Int)} {i : Nat} {c : List Int} {t u : Tree} (h : redAll (S.take i) t = some u) (hc : S[i]? = some c) : redAll (S.take (i + 1)) t = red c u := by
  rw [take_snoc hc, redAll_append, h]
  show redAll [c] u = _
  rw [redAll]
  cases red c u <;> rfl
theorem redAll_stop {S : List (List Int)} {i : Nat} {t : Tree} (h : redAll (S.take i) t = none) : redAll S t = none := by
  rw [← List.take_append_drop i S, redAll_append, h]; rfl
theorem joinN_many {f : Tree → Option (List Tree)} {c : List Int} {n : Nat} {w : Bool} {ts : List Tree} (hall : ¬ share c (.node w ts) = .all) (h : ¬ (touched c ts).length = 1) : joinN f c (n + 1) (.node w ts) = if w = true then joinedRow f c ts else joinedAny f c ts := by
  rw [joinN, if_neg hall]
  split
  · rename_i k hk
    rw [hk] at h
    exact absurd rfl h
  · rfl
section
variable {P : Program} {w : World} {K : PySem.W.Frag} {mg : Str → Option Value} {base : Heap}
/-! ### joined -/
abbrev sJoin : Stmt := topS 29
abbrev nJoin : List Str := ["tree", "chosen", "word", "parts", "touched", "inner", "index"]
theorem scJoin : FnScope nJoin ["tree", "chosen"] (defScope sJoin) := ⟨rfl, rfl, rfl, by decide +kernel, rfl, by decide +kernel, by decide +kernel⟩
def spJoin (n : Nat) : Sp := fun vs H Q _ => ∃ (v : V) (t : Tree) (a : Addr) (c : List Int), vs = [v, .ref a] ∧ TreeAt H t v ∧ Wf t ∧ (leaves t).length ≤ n ∧ (leaves t).length ≤ 8 ∧ share c t ≠ .no ∧ H a = some (.tup (c.map V.int)) ∧ RetT H (joinN (splitN c 8) c n t) Q
theorem tree_non {H : Hp} {t : Tree} {v : V} (h : TreeAt H t v) : ¬ (v = V.non) := by
  cases t with
  | leaf i =>
    rw [TreeAt] at h
    subst h
    intro e
    cases e
  | node w ts =>
    rw [TreeAt] at h
    obtain ⟨a, b, vs, rfl, _⟩ := h
    exact none_nr
theorem ok_join (T : Txt K mg) (D : DefAt K mg "joined" sJoin ["tree", "chosen"]) (GT : Ok P w K mg base "is_thing" 1 ["tree"] spIsThing) (GH : Ok P w K mg base "share" 10 ["tree", "chosen"] spShare)
    (GA : Ok P w K mg base "joined_any" 28 ["parts", "chosen"] spJAny) (GR : Ok P w K mg base "joined_row" 28 ["parts", "chosen"] spJRow) : ∀ n, Ok P w K mg base "joined" (n + 28) ["tree", "chosen"] (spJoin n)
  | 0 => ok_none D fun vs H Q E h => by
    obtain ⟨v, t, a, c, rfl, _, hw, hn, _⟩ := h
    have := leaves_pos t hw
    omega
  | n + 1 => by
    have ih := ok_join T D GT GH GA GR n
    refine ok_def (k := n + 28) D scJoin (fun vs H Q E h => ?_) (fun f cdv A outer s H vs Q E hr h => ?_)
    · obtain ⟨v, t, a, c, rfl, _⟩ := h
      rfl
    obtain ⟨v, t, a, c, rfl, ht, hw, hn, h8, hh, hc, qn, qt⟩ := h
    refine ⟨_, pss_cons (ps_if (PW.pt (pw_or (pt_val (pe_callO GT hr (by omega) (pa_cons (pv 0) pa_nil))) (pw_or1 (pt_cmpR op_eq (pe_callO GH hr (by omega) (pa_cons (pv 0) (pa_cons (pv 1) pa_nil))) pe_str (nomark _))))) (pss_one (ps_ret (pv 0))) pss_nil)
      (pss_cons (ps_asg (pv 0) (pg_tup rfl (pgs_cons (pg_name (i := 2) scJoin.nd rfl (.inl rfl)) (pgs_cons (pg_name (i := 3) scJoin.nd rfl (.inr rfl)) pgs_nil))))
      (pss_cons (ps_setLc (i := 4) (own := [("index", 6)]) (g := gName 6) (tt := tTest (tOp rNe (tCall spShare [] E0 (tCons (tOp (rIxT K) (tVar 3) (tVar 6)) (tCons (tVar 1) tNil))) (tC (.str "none")))) (te := tVar 6) rfl scJoin.nd rfl rfl (sw_true rfl rfl rfl (by decide +kernel)) (pi_range1 (by rfl) T.range (pa_cons (pe_callB call_len_seq (by rfl) T.len PySem.boot_len (pa_cons (pv 3) pa_nil)) pa_nil)) (blkOk_by (N := nJoin) (sc := defScope sJoin) (by decide +kernel))
          (fun _ _ _ _ _ => pg_name (i := 6) scJoin.nd rfl (.inl rfl)) (fun _ _ _ _ _ => pts_one (pt_cmpR op_ne (pe_callO GH hr (by omega) (pa_cons (pe_ix ix_tup (pv 3) (pv 6) (fun _ _ => rfl)) (pa_cons (pv 1) pa_nil))) pe_str (nomark _))) (fun _ _ _ _ _ => pv 6))
      (pss_cons (ps_if (pt_cmpR op_eq (pe_callB call_len_seq (by rfl) T.len PySem.boot_len (pa_cons (pv 4) pa_nil)) pe_int (nomark _))
          (pss_cons (ps_set (i := 5) scJoin.nd rfl (.inl rfl) (pe_callO ih hr (by omega) (pa_cons (pe_ix ix_tup (pv 3) (pe_ix ix_list (pv 4) pe_int (fun _ _ => rfl)) (fun _ _ => rfl)) (pa_cons (pv 1) pa_nil))))
          (pss_cons (ps_if (pt_cmp (pc_isN (pv 5))) (pss_one (ps_ret pe_non)) pss_nil)
          (pss_one (ps_ret (pe_tup (pa_cons (pv 2) (pa_cons (pe_op op_catA (pe_op op_catA (pe_slice sl_tupA (pv 3) po_none (po_some (pe_ix ix_list (pv 4) pe_int (fun _ _ => rfl)))) (pe_tup (pa_cons (pv 5) pa_nil))) (pe_slice sl_tupA (pv 3) (po_some (pe_op op_add (pe_ix ix_list (pv 4) pe_int (fun _ _ => rfl)) pe_int)) po_none)) pa_nil))))))) pss_nil)
      (pss_cons (ps_if (pt_cmpR op_eq (pv 2) pe_str (nomark _)) (pss_one (ps_ret (pe_callO GA hr (by omega) (pa_cons (pv 3) (pa_cons (pv 1) pa_nil))))) pss_nil)
      (pss_one (ps_ret (pe_callO GR hr (by omega) (pa_cons (pv 3) (pa_cons (pv 1) pa_nil))))))))), ?_⟩
    refine ⟨_, rfl, v, t, rfl, ht, _, rfl, ?_⟩
    cases t with
    | leaf i => exact iteT ⟨_, rfl, qt _ rfl v H (.refl H) ht⟩
    | node w ts =>
      refine iteF ⟨_, rfl, _, rfl, v, .node w ts, a, c, rfl, ht, hw, h8, hc, fun H1 s1 => ⟨rfl, ?_⟩⟩
      have qn0 := qn
      have qt0 := qt
      rw [joinN] at qn qt
      by_cases hall : share c (.node w ts) = .all
      · rw [if_pos hall] at qt
        refine ⟨true, blT (by rw [hall]; rfl), iteT ⟨_, rfl, qt _ rfl v H1 s1 (ht.mono (same_kept s1))⟩⟩
      rw [if_neg hall] at qn qt
      refine ⟨false, blF (fun e => hall (shw_inj (b := .all) e)), iteF ?_⟩
      have ht1 := ht.mono (same_kept s1)
      rw [TreeAt] at ht1
      obtain ⟨x, b, ws, rfl, h1, h2, h3⟩ := ht1
      rw [leaves] at hn h8
      have hws : WfL ts := by rw [Wf] at hw; exact hw.2
      have hp : Parts H1 b ws ts := ⟨h2, h3, hws, h8⟩
      have lws := h3.length
      have l8 := hp.len
      have htn := touched_ne hh
      have hc1 := s1 _ _ hc
      refine ⟨_, rfl, x, _, rfl, SqT.of h1, rfl, _, _, rfl, _, _, rfl, rfl, ?_⟩
      -- touched
      refine ⟨_, rfl, b, ws, rfl, .inr (SqT.of h2), (ws.length : Int), rfl, by omega, by omega, fun D2 n2 => ?_⟩
      refine lcf_range (lo := 0) (n := ((ws.length : Nat) : Int).toNat) (fun i acc H' => acc = ((List.range i).filter fun j => decide (share c (ts.getD j default) ≠ .no)).map fun (j : Nat) => V.int (j : Int)) n2 (by omega) (fun _ _ _ _ _ h => h) rfl ?_ ?_
      · intro i H2 acc QT QF hi s2 hacc kT kF
        rw [Int.toNat_natCast] at hi
        rw [Int.zero_add]
        have hi' : i < ts.length := by omega
        have hp2 := hp.mono (same_kept s2)
        obtain ⟨y, hy, hty⟩ := hp2.tree.at hi'
        have mt : ts.getD i default ∈ ts := by rw [getD_of_lt hi']; exact List.getElem_mem hi'
        refine ⟨rfl, _, rfl, _, rfl, b, _, _, _, rfl, rfl, SqT.of hp2.tup, atI_nat hy, _, rfl, y, _, a, c, rfl, hty, wfL_iff.mp hws _ mt, hp.le mt, s2 _ _ hc1, fun H3 s3 => ⟨rfl, _, rfl, ?_⟩⟩
        rw [List.range_succ] at *
        by_cases h0 : share c (ts.getD i default) = .no
        · have e : (!decide (V.str (shw (share c (ts.getD i default))) = V.str "none")) = false := by rw [h0]; rfl
          rw [e]
          refine iteF (kF _ s3 ?_)
          rw [hacc, filter_snoc, if_neg (by simpa using h0), List.append_nil]
        · have e : (!decide (V.str (shw (share c (ts.getD i default))) = V.str "none")) = true := by
            show (!decide (V.str (shw (share c (ts.getD i default))) = V.str (shw .no))) = true
            rw [decide_eq_false (fun e => h0 (shw_inj (b := .no) e))]; rfl
          rw [e]
          refine iteT ⟨_, rfl, kT _ _ s3 ?_⟩
          rw [hacc, filter_snoc, if_pos (by simpa using h0), List.map_append]
          rfl
      intro H2 us s2 e2 u2 hus
      rw [Int.toNat_natCast, lws] at hus
      have hus : us = (touched c ts).map fun (j : Nat) => V.int (j : Int) := hus
      subst hus
      have s02 := s1.trans s2
      have hp2 := hp.mono (same_kept s2)
      have hc2 := s2 _ _ hc1
      refine ⟨_, rfl, D2, _, rfl, .inl (SqL.of e2), rfl, ?_⟩
      have l2 : ((touched c ts).map fun (j : Nat) => V.int (j : Int)).length = (touched c ts).length := List.length_map _
      by_cases hone : (touched c ts).length = 1
      · refine ⟨true, blT (by rw [l2, hone]; rfl), iteT ?_⟩
        obtain ⟨k, hk⟩ := List.length_eq_one_iff.mp hone
        rw [hk] at qn qt
        have mk : k ∈ touched c ts := by rw [hk]; exact List.mem_cons_self
        obtain ⟨kl, ks⟩ := mem_touched.mp mk
        have gk : (touched c ts)[0]? = some k := by rw [hk]; rfl
        obtain ⟨y, hy, hty⟩ := hp2.tree.at kl
        have mt : ts.getD k default ∈ ts := by rw [getD_of_lt kl]; exact List.getElem_mem kl
        have lt := child_lt hw mt
        refine ⟨_, rfl, _, rfl, D2, _, _, _, rfl, rfl, SqL.of e2, atI_nat (j := 0) (nats_get gk), b, ws, _, y, rfl, rfl, SqT.of hp2.tup, atI_nat hy, _, rfl, y, _, a, c, rfl, hty, wfL_iff.mp hws _ mt, by omega, hp.le mt, ks, hc2, ?_, ?_⟩
        · intro hnone H3 s3
          refine ⟨_, rfl, true, blT rfl, iteT (qn ?_ H3 (s02.trans s3))⟩
          simp only [hnone]
        · intro u hu v' H3 s3 hv'
          have hp3 := hp2.mono (same_kept s3)
          have e2' := s3 _ _ e2
          refine ⟨_, rfl, false, blF (tree_non hv'), iteF ⟨_, rfl, _, rfl, _, rfl, D2, _, _, _, rfl, rfl, SqL.of e2', atI_nat (j := 0) (nats_get gk), (k : Int), rfl, ?_⟩⟩
          refine sl_any hp3.tup fun r1 H4 s4 e4 => ?_
          rw [cut_take (by omega)] at e4
          refine ⟨_, rfl, (by show 1 ≤ sizeLine; decide), fun r2 nr2 => ?_⟩
          have s5 : Same H4 (upd H4 r2 (.tup [v'])) := same_new nr2
          refine cat_any (s5 _ _ e4) upd_same (by rw [List.length_take, List.length_singleton]; omega) fun r3 H6 s6 e6 => ?_
          have s36 := (s4.trans s5).trans s6
          refine ⟨_, rfl, _, rfl, D2, _, _, _, rfl, rfl, SqL.of (s36 _ _ e2'), atI_nat (j := 0) (nats_get gk), k, 1, rfl, rfl, ((k + 1 : Nat) : Int), rfl, ?_⟩
          unfold tNoPart
          have hp6 := hp3.mono (same_kept s36)
          refine sl_any hp6.tup fun r4 H7 s7 e7 => ?_
          rw [cut_drop (by omega)] at e7
          refine cat_any (s7 _ _ e6) e7 (by rw [List.length_append, List.length_take, List.length_drop, List.length_singleton]; omega) fun r5 H8 s8 e8 => ?_
          refine ⟨(by show 2 ≤ sizeLine; decide), fun r6 nr6 => ?_⟩
          have s9 : Same H8 (upd H8 r6 (.tup [.str (word w), .ref r5])) := same_new nr6
          have s38 := (s36.trans s7).trans s8
          refine qt (.node w (ts.take k ++ [u] ++ ts.drop (k + 1))) ?_ _ _ ((s02.trans s3).trans (s38.trans s9)) (node_at upd_same (s9 _ _ e8) ?_)
          · simp only [hu]
          · have hp9 := hp3.mono (same_kept (s38.trans s9))
            exact ((hp9.tree.take k).append (.one (hv'.mono (same_kept (s38.trans s9))))).append (hp9.tree.drop (k + 1))
      · refine ⟨false, blF (fun e => hone (by rw [l2] at e; injection e with e; omega)), iteF ?_⟩
        rw [joinN_many hall hone] at qn0 qt0
        refine ⟨_, rfl, rfl, ?_⟩
        cases w with
        | false =>
          refine ⟨true, blT rfl, iteT ⟨_, rfl, _, rfl, b, ws, ts, a, c, rfl, hp2, hc2, fun e H3 s3 => qn0 e H3 (s02.trans s3), fun t e v' H3 s3 hv => qt0 t e v' H3 (s02.trans s3) hv⟩⟩
        | true =>
          refine ⟨false, blF row_ne, iteF ⟨_, rfl, _, rfl, b, ws, ts, a, c, rfl, hp2, htn, hc2, fun e H3 s3 => qn0 e H3 (s02.trans s3), fun t e v' H3 s3 hv => qt0 t e v' H3 (s02.trans s3) hv⟩⟩
/-! ### reduced_by -/
abbrev sRed : Stmt := topS 30
theorem scRed : FnScope ["tree", "chosen", "found"] ["tree", "chosen"] (defScope sRed) := ⟨rfl, rfl, rfl, by decide +kernel, rfl, by decide +kernel, by decide +kernel⟩
def spRed : Sp := fun vs H Q _ => ∃ (v : V) (t : Tree) (a : Addr) (c : List Int), vs = [v, .ref a] ∧ TreeAt H t v ∧ Wf t ∧ (leaves t).length ≤ 8 ∧ (∀ x ∈ c, x ∈ leaves t) ∧ H a = some (.tup (c.map V.int)) ∧ RetT H (red c t) Q
theorem ok_red (T : Txt K mg) (D : DefAt K mg "reduced_by" sRed ["tree", "chosen"]) (GN : Ok P w K mg base "normalized" 18 ["tree"] (spNorm 8)) (GJ : Ok P w K mg base "joined" 36 ["tree", "chosen"] (spJoin 8)) : Ok P w K mg base "reduced_by" 37 ["tree", "chosen"] spRed := by
  refine ok_def D scRed (fun vs H Q E h => ?_) (fun f cdv A outer s H vs Q E hr h => ?_)
  · obtain ⟨v, t, a, c, rfl, _⟩ := h
    rfl
  obtain ⟨v, t, a, c, rfl, ht, hw, h8, hcl, hc, qn, qt⟩ := h
  refine ⟨_, pss_cons (ps_if (pt_cmpR op_lt (pe_callB call_len_seq (by rfl) T.len PySem.boot_len (pa_cons (pv 1) pa_nil)) pe_int (nomark _)) (pss_one (ps_ret (pe_callO GN hr (by decide) (pa_cons (pv 0) pa_nil)))) pss_nil)
    (pss_cons (ps_set (i := 2) scRed.nd rfl (.inl rfl) (pe_callO GJ hr (by decide) (pa_cons (pv 0) (pa_cons (pv 1) pa_nil))))
    (pss_cons (ps_if (pt_cmp (pc_isN (pv 2))) (pss_one (ps_ret pe_non)) pss_nil)
    (pss_one (ps_ret (pe_callO GN hr (by decide) (pa_cons (pv 2) pa_nil)))))), ?_⟩
  refine ⟨_, rfl, a, _, rfl, .inr (SqT.of hc), _, _, rfl, rfl, ?_⟩
  rw [red] at qn qt
  by_cases h2 : c.length < 2
  · rw [if_pos h2] at qt
    refine ⟨true, blT (by rw [List.length_map]; omega), iteT ⟨_, rfl, v, t, rfl, ht, hw, h8, fun v' H' s' h' => qt _ rfl v' H' s' h'⟩⟩
  · rw [if_neg h2] at qn qt
    have hs : share c t ≠ .no := by
      cases c with
      | nil => exact absurd (show ([] : List Int).length < 2 by decide) h2
      | cons x r => exact hit_of (hcl x List.mem_cons_self) List.mem_cons_self
    refine ⟨false, blF (by rw [List.length_map]; omega), iteF ⟨_, rfl, _, rfl, v, t, a, c, rfl, ht, hw, h8, h8, hs, hc, ?_, ?_⟩⟩
    · intro hn H1 s1
      refine ⟨_, rfl, true, blT rfl, iteT (qn ?_ H1 s1)⟩
      rw [hn]; rfl
    · intro u hu v' H1 s1 hv'
      have is := joinN_is (fun t l w e => splitN_is w e) hw hs hu
      have l8 := is.perm.length_eq
      refine ⟨_, rfl, false, blF (tree_non hv'), iteF ⟨_, rfl, v', u, rfl, hv', is.wf, by omega, fun v2 H2 s2 h2' => qt _ ?_ v2 H2 (s1.trans s2) h2'⟩⟩
      rw [hu]; rfl
/-! ### reduced_by_all -/
abbrev sAll : Stmt := topS 31
theorem scAll : FnScope ["tree", "sets", "chosen"] ["tree", "sets"] (defScope sAll) := ⟨rfl, rfl, rfl, by decide +kernel, rfl, by decide +kernel, by decide +kernel⟩
def spAll (l : Bool) : Sp := fun vs H Q _ => ∃ (v : V) (t : Tree) (a : Addr) (S : List (List Int)) (ws : List V), vs = [v, .ref a] ∧ TreeAt H t v ∧ Wf t ∧ (leaves t).length ≤ 8 ∧ (if l then H a = some (.lst ws) else H a = some (.tup ws)) ∧ SetsAt H S ws ∧ (∀ c ∈ S, ∀ x ∈ c, x ∈ leaves t) ∧ RetT H (redAll S t) Q
/-- what holds ahead of the turn i -/
def AllAt (H : Hp) (S : List (List Int)) (t : Tree) (a : Addr) (i : Nat) (σ : L2.St) (H' : Hp) : Prop := ∃ v x u, σ = [some v, some (.ref a), x] ∧ Same H H' ∧ redAll (S.take i) t = some u ∧ TreeAt H' u v ∧ IsTree t u
theorem all_turn {D : Ends} {H H1 : Hp} {S : List (List Int)} {ws : List V} {t : Tree} {a : Addr} {i : Nat} {x : V} {σ : L2.St} {Q : VK} (h8 : (leaves t).length ≤ 8) (hS : SetsAt H S ws) (hcl : ∀ c ∈ S, ∀ x ∈ c, x ∈ leaves t) (q : RetT H (redAll S t) Q) (hx : ws[i]? = some x) (hp : AllAt H S t a i σ H1)
    (hrt : ∀ v H, Q v H → D.rt v H) (hnx : ∀ σ' H', AllAt H S t a (i + 1) σ' H' → D.nx σ' H') :
    gName 2 x σ H1 fun σ2 H2 => tSeq (tAsg (tCall spRed [] E0 (tCons (tVar 0) (tCons (tVar 2) tNil))) (gName 0)) (tIfS (tB (tIsN (tVar 0))) (tRet (tC .non)) tNext) D σ2 H2 := by
  obtain ⟨v, y, u, rfl, s1, hu, ht, is⟩ := hp
  obtain ⟨b, c, rfl, hc, hb⟩ := hS.get hx
  have mc : c ∈ S := List.mem_of_getElem? hc
  have hl := is.perm.length_eq
  refine ⟨_, rfl, _, rfl, v, u, b, c, rfl, ht, is.wf, by omega, fun z m => is.perm.mem_iff.mpr (hcl c mc z m), s1 _ _ hb, ?_, ?_⟩
  · intro hn H2 s2
    refine ⟨_, rfl, true, blT rfl, iteT (hrt _ _ (q.1 (redAll_stop (i := i + 1) ?_) H2 (s1.trans s2)))⟩
    rw [redAll_take hu hc]
    exact hn
  · intro u' hu' v' H2 s2 hv'
    refine ⟨_, rfl, false, blF (tree_non hv'), iteF (hnx _ _ ⟨v', _, u', rfl, s1.trans s2, ?_, hv', is.trans (red_is is.wf (fun z m => is.perm.mem_iff.mpr (hcl c mc z m)) hu')⟩)⟩
    rw [redAll_take hu hc]
    exact hu'
theorem ok_allT (D : DefAt K mg "reduced_by_all" sAll ["tree", "sets"]) (G : Ok P w K mg base "reduced_by" 37 ["tree", "chosen"] spRed) : Ok P w K mg base "reduced_by_all" 38 ["tree", "sets"] (spAll false) := by
  refine ok_def D scAll (fun vs H Q E h => ?_) (fun f cdv A outer s H vs Q E hr h => ?_)
  · obtain ⟨v, t, a, S, ws, rfl, _⟩ := h
    rfl
  obtain ⟨v, t, a, S, ws, rfl, ht, hw, h8, ha, hS, hcl, q⟩ := h
  have ha : H a = some (.tup ws) := ha
  refine ⟨_, pss_cons (ps_for PassesOwn.never rfl (pi_tup (pv 1)) (pg_name (i := 2) scAll.nd rfl (.inl rfl))
      (pss_cons (ps_set (i := 0) scAll.nd rfl (.inl rfl) (pe_callO G hr (by decide) (pa_cons (pv 0) (pa_cons (pv 2) pa_nil))))
      (pss_one (ps_if (pt_cmp (pc_isN (pv 0))) (pss_one (ps_ret pe_non)) pss_nil))))
    (pss_one (ps_ret (pv 0))), ?_⟩
  refine ⟨_, rfl, a, rfl, ⟨_, SqT.of ha⟩, ?_⟩
  refine for_tup (K := K) (a := a) (xs := ws) (AllAt H S t a) ⟨v, none, t, rfl, .refl H, rfl, ht, hw, .refl _⟩ (fun i σ H' _ ⟨_, _, _, _, s', _⟩ => SqT.of (s' _ _ ha)) ?_ ?_
  · intro i x σ H1 hx hp
    exact all_turn h8 hS hcl q hx hp (fun v H h => h) (fun σ' H' h => h)
  · rintro σ H1 ⟨v', y, u, rfl, s1, hu, hv', is⟩
    rw [hS.length, List.take_length] at hu
    exact ⟨_, rfl, q.2 u hu v' H1 s1 hv'⟩
theorem ok_allL (D : DefAt K mg "reduced_by_all" sAll ["tree", "sets"]) (G : Ok P w K mg base "reduced_by" 37 ["tree", "chosen"] spRed) : Ok P w K mg base "reduced_by_all" 38 ["tree", "sets"] (spAll true) := by
  refine ok_def D scAll (fun vs H Q E h => ?_) (fun f cdv A outer s H vs Q E hr h => ?_)
  · obtain ⟨v, t, a, S, ws, rfl, _⟩ := h
    rfl
  obtain ⟨v, t, a, S, ws, rfl, ht, hw, h8, ha, hS, hcl, q⟩ := h
  have ha : H a = some (.lst ws) := ha
  refine ⟨_, pss_cons (ps_for PassesOwn.never rfl (pi_list (pv 1)) (pg_name (i := 2) scAll.nd rfl (.inl rfl))
      (pss_cons (ps_set (i := 0) scAll.nd rfl (.inl rfl) (pe_callO G hr (by decide) (pa_cons (pv 0) (pa_cons (pv 2) pa_nil))))
      (pss_one (ps_if (pt_cmp (pc_isN (pv 0))) (pss_one (ps_ret pe_non)) pss_nil))))
    (pss_one (ps_ret (pv 0))), ?_⟩
  refine ⟨_, rfl, a, rfl, ⟨_, SqL.of ha⟩, ?_⟩
  refine for_list (K := K) (a := a) (xs := ws) (AllAt H S t a) ⟨v, none, t, rfl, .refl H, rfl, ht, hw, .refl _⟩ (fun i σ H' _ ⟨_, _, _, _, s', _⟩ => SqL.of (s' _ _ ha)) ?_ ?_
  · intro i x σ H1 hx hp
    exact all_turn h8 hS hcl q hx hp (fun v H h => h) (fun σ' H' h => h)
  · rintro σ H1 ⟨v', y, u, rfl, s1, hu, hv', is⟩
    rw [hS.length, List.take_length] at hu
    exact ⟨_, rfl, q.2 u hu v' H1 s1 hv'⟩
/-! ### tree_of -/
abbrev sTreeOf : Stmt := topS 32
theorem scTreeOf : FnScope ["n", "sets"] ["n", "sets"] (defScope sTreeOf) := ⟨rfl, rfl, rfl, by decide +kernel, rfl, by decide +kernel, by decide +kernel⟩
def spTreeOf : Sp := fun vs H Q _ => ∃ (n : Nat) (a : Addr) (S : List (List Int)) (ws : List V), vs = [.int n, .ref a] ∧ 1 ≤ n ∧ n ≤ 8 ∧ H a = some (.tup ws) ∧ SetsAt H S ws ∧ S.length ≤ 40 ∧ (∀ c ∈ S, IsSet n c) ∧ RetT H (redAll S (plain n)) Q
theorem set_in_plain {n : Nat} {c : List Int} (h : IsSet n c) : ∀ x ∈ c, x ∈ leaves (plain n) := fun x m => by
  have q := h.mem x m
  rw [plain_leaves]
  exact List.mem_map.mpr ⟨x.toNat, List.mem_range.mpr (by omega), by omega⟩
theorem plain_len (n : Nat) : (leaves (plain n)).length = n := by
  rw [plain_leaves, List.length_map, List.length_range]
theorem ok_treeOf (D : DefAt K mg "tree_of" sTreeOf ["n", "sets"]) (GC : Ok P w K mg base "check_table" 3 ["n", "sets"] spCheckTable) (GP : Ok P w K mg base "plain_tree" 3 ["n"] spPlain) (GA : Ok P w K mg base "reduced_by_all" 38 ["tree", "sets"] (spAll false)) : Ok P w K mg base "tree_of" 39 ["n", "sets"] spTreeOf := by
  refine ok_def D scTreeOf (fun vs H Q E h => ?_) (fun f cdv A outer s H vs Q E hr h => ?_)
  · obtain ⟨n, a, S, ws, rfl, _⟩ := h
    rfl
  obtain ⟨n, a, S, ws, rfl, h1, h8, ha, hS, h40, hs, q⟩ := h
  refine ⟨_, pss_cons (ps_expr (pe_callO GC hr (by decide) (pa_cons (pv 0) (pa_cons (pv 1) pa_nil)))) (pss_one (ps_ret (pe_callO GA hr (by decide) (pa_cons (pe_callO GP hr (by decide) (pa_cons (pv 0) pa_nil)) (pa_cons (pv 1) pa_nil))))), ?_⟩
  refine ⟨_, rfl, _, rfl, n, a, S, ws, rfl, h1, by omega, ha, hS, h40, hs, ?_⟩
  refine ⟨_, rfl, n, rfl, h1, by omega, fun v H1 s1 hv => ?_⟩
  exact ⟨_, rfl, v, plain n, a, S, ws, rfl, hv, plain_wf h1, by rw [plain_len]; exact h8, s1 _ _ ha, hS.mono (same_kept s1), fun c m => set_in_plain (hs c m), fun e H2 s2 => q.1 e H2 (s1.trans s2), fun t e v' H2 s2 h' => q.2 t e v' H2 (s1.trans s2) h'⟩
end
end K26
set_option maxHeartbeats 4000000
namespace K26
open PySem PySem.Spec PyProof.Rows L2
theorem size4k {n : Nat} (h : n ≤ 4096) : n < sizeLine := Nat.lt_of_le_of_lt h (by decide)
theorem cut_ints {l : List Int} {k : Nat} (h : k ≤ l.length) : cutV (l.map V.int) (some (k : Int)) none = (l.drop k).map V.int := by
  rw [cut_drop (by rw [List.length_map]; exact h), List.map_drop]
/-- what the first turns of choices_of have found -/
def chTo (k : Nat) (l : List Int) (i : Nat) : List (List Int) := (List.range i).flatMap fun i => (choices k (l.drop (i + 1))).map fun r => l.getD i 0 :: r
theorem chTo_all (k : Nat) (l : List Int) : chTo k l l.length = choices (k + 1) l := rfl
theorem chTo_succ (k : Nat) (l : List Int) (i : Nat) : chTo k l (i + 1) = chTo k l i ++ (choices k (l.drop (i + 1))).map fun r => l.getD i 0 :: r := by
  unfold chTo
  rw [List.range_succ, List.flatMap_append, List.flatMap_cons, List.flatMap_nil, List.append_nil]
theorem ch_few {l : List Int} (h : l.length ≤ 8) (k : Nat) : (choices k l).length ≤ 256 := Nat.le_trans (choices_len l k) (Nat.pow_le_pow_right (by decide) h)
section
variable {P : Program} {w : World} {K : PySem.W.Frag} {mg : Str → Option Value} {base : Heap}
/-! ### choices_of -/
abbrev sCh : Stmt := topS 35
abbrev nCh : List Str := ["indexes", "size", "found", "at", "rest"]
theorem scCh : FnScope nCh ["indexes", "size"] (defScope sCh) := ⟨rfl, rfl, rfl, by decide +kernel, rfl, by decide +kernel, by decide +kernel⟩
def spChK (k : Nat) : Sp := fun vs H Q _ => ∃ (a : Addr) (l : List Int), vs = [.ref a, .int k] ∧ H a = some (.lst (l.map V.int)) ∧ l.length ≤ 8 ∧ ∀ p us H', Same H H' → H p = none → H' p = some (.lst us) → SetsAt H' (choices k l) us → Q (.ref p) H'
def spCh : Sp := fun vs H Q E => ∃ k, k ≤ 8 ∧ spChK k vs H Q E
theorem fn_ch {f : Addr} {fd : FuncData} (T : Txt K mg) (F : Fun K "choices_of" "choices_of" sCh f fd) (g : mg "choices_of" = some (.ref f)) (bd : Binds K fd ["indexes", "size"] []) : ∀ k, FnOk P w K mg base CX0 (k + 1) f fd ["indexes", "size"] (spChK k)
  | 0 => by
    refine F.ok scCh (fun vs H Q E h => ?_) (fun cdv A outer s H vs Q E hr h => ?_)
    · obtain ⟨a, l, rfl, _⟩ := h
      rfl
    obtain ⟨a, l, rfl, ha, hl, q⟩ := h
    refine ⟨_, pss_cons (ps_if (pt_cmpR op_eq (pv 1) pe_int (nomark _)) (pss_one (ps_ret (pe_lst (pa_cons (pe_tup pa_nil) pa_nil)))) pss_nil) pss_never, ?_⟩
    refine ⟨_, rfl, rfl, true, blT rfl, iteT ⟨Nat.zero_le _, fun p np => ⟨(by show 1 ≤ sizeLine; decide), fun r nr => ?_⟩⟩⟩
    have s1 : Same H (upd H p (.tup [])) := same_new np
    have s2 : Same (upd H p (.tup [])) (upd (upd H p (.tup [])) r (.lst [.ref p])) := same_new nr
    exact q r _ _ (s1.trans s2) (s1.free nr) upd_same (.one (s2 _ _ upd_same))
  | k + 1 => by
    have ih : Ok P w K mg base "choices_of" (k + 1) ["indexes", "size"] (spChK k) := ⟨f, fd, fn_ch T F g bd k, g, F.kp, bd⟩
    refine F.ok (k := k + 1) scCh (fun vs H Q E h => ?_) (fun cdv A outer s H vs Q E hr h => ?_)
    · obtain ⟨a, l, rfl, _⟩ := h
      rfl
    obtain ⟨a, l, rfl, ha, hl, q⟩ := h
    refine ⟨_, pss_cons (ps_if (pt_cmpR op_eq (pv 1) pe_int (nomark _)) (pss_one (ps_ret (pe_lst (pa_cons (pe_tup pa_nil) pa_nil)))) pss_nil)
      (pss_cons (ps_set (i := 2) scCh.nd rfl (.inl rfl) (pe_lst pa_nil))
      (pss_cons (ps_for PassesOwn.never rfl (pi_range1 (by rfl) T.range (pa_cons (pe_callB call_len_seq (by rfl) T.len PySem.boot_len (pa_cons (pv 0) pa_nil)) pa_nil)) (pg_name (i := 3) scCh.nd rfl (.inl rfl))
        (pss_one (ps_for PassesOwn.never rfl (pi_list (pe_callO ih hr (Nat.le_refl _) (pa_cons (pe_slice sl_list (pv 0) (po_some (pe_op op_add (pv 3) pe_int)) po_none) (pa_cons (pe_op op_sub (pv 1) pe_int) pa_nil)))) (pg_name (i := 4) scCh.nd rfl (.inl rfl))
          (pss_one (ps_expr (pe_bm PySem.F.plainAttrs_list PySem.F.slot_list_append PySem.F.type_list_append mt_append (pv 2) (pa_cons (pe_op op_catA (pe_tup (pa_cons (pe_ix ix_list (pv 0) (pv 3) (fun _ _ => rfl)) pa_nil)) (pv 4)) pa_nil)))))))
      (pss_one (ps_ret (pv 2))))), ?_⟩
    refine ⟨_, rfl, rfl, false, blF (fun e => by injection e with e; omega), iteF ⟨Nat.zero_le _, fun p np => ?_⟩⟩
    have s1 : Same H (upd H p (.lst [])) := same_new np
    refine ⟨_, rfl, a, _, rfl, .inl (SqL.of (s1 _ _ ha)), ((l.map V.int).length : Int), rfl, by rw [List.length_map]; omega, by rw [List.length_map]; omega, ?_⟩
    rw [List.length_map, Int.toNat_natCast]
    refine for_range (lo := 0) (n := l.length) (fun i σ H' => (∃ v3 v4, σ = [some (.ref a), some (.int ((k + 1 : Nat) : Int)), some (.ref p), v3, v4]) ∧ Same H H' ∧ ∃ xs, H' p = some (.lst xs) ∧ xs.length ≤ 256 * i ∧ SetsAt H' (chTo k l i) xs) ⟨⟨none, none, rfl⟩, s1, [], upd_same, Nat.zero_le _, rfl⟩ ?_ ?_
    · rintro i σ H2 hi ⟨⟨v3, v4, rfl⟩, s2, xs, e2, l2, h2⟩
      rw [Int.zero_add]
      refine ⟨_, rfl, _, rfl, (i : Int), 1, rfl, rfl, ((i + 1 : Nat) : Int), rfl, ?_⟩
      unfold tNoPart
      refine ⟨a, _, rfl, SqL.of (s2 _ _ ha), fun r nr => ?_⟩
      rw [cut_ints (by omega)]
      have s3 : Same H2 (upd H2 r (.lst ((l.drop (i + 1)).map V.int))) := same_new nr
      refine ⟨_, rfl, ((k + 1 : Nat) : Int), 1, rfl, rfl, r, l.drop (i + 1), ?_, upd_same, by rw [List.length_drop]; omega, fun z us H4 s4 nz ez hz => ?_⟩
      · have e : ((k + 1 : Nat) : Int) - 1 = (k : Int) := by omega
        show [V.ref r, V.int (((k + 1 : Nat) : Int) - 1)] ++ [] = _
        rw [e]
        rfl
      have s24 := s3.trans s4
      refine ⟨z, rfl, ⟨_, SqL.of ez⟩, ?_⟩
      have lus := hz.length
      have few := ch_few (l := l.drop (i + 1)) (by rw [List.length_drop]; omega) k
      refine for_list (K := K) (a := z) (xs := us) (fun j σ H' => (∃ v4, σ = [some (.ref a), some (.int ((k + 1 : Nat) : Int)), some (.ref p), some (.int (i : Int)), v4]) ∧ Same H H' ∧ Kept H4 H' ∧ H' z = some (.lst us) ∧ ∃ ys, H' p = some (.lst ys) ∧ ys.length ≤ 256 * i + j ∧ SetsAt H' (chTo k l i ++ ((choices k (l.drop (i + 1))).take j).map fun r => l.getD i 0 :: r) ys)
        ⟨⟨v4, rfl⟩, s2.trans s24, .refl _, ez, xs, s24 _ _ e2, by omega, by rw [List.take_zero, List.map_nil, List.append_nil]; exact h2.mono (same_kept s24)⟩ (fun j σ H' _ h => SqL.of h.2.2.2.1) ?_ ?_
      · rintro j x σ H5 hx ⟨⟨v4, rfl⟩, s5, k5, ez5, ys, e5, l5, h5⟩
        obtain ⟨t, c, rfl, hct, ht⟩ := hz.get hx
        have hj : j < us.length := (List.getElem?_eq_some_iff.mp hx).1
        have hx0 : l[i]? = some (l.getD i 0) := by rw [List.getElem?_eq_getElem hi, List.getD_eq_getElem?_getD, List.getElem?_eq_getElem hi]; rfl
        have hv : atI (l.map V.int) (i : Int) = some (.int (l.getD i 0)) := atI_nat (by rw [List.getElem?_map, hx0]; rfl)
        refine ⟨_, rfl, .inl ⟨rfl, _, SqL.of e5⟩, _, rfl, _, rfl, a, _, _, _, rfl, rfl, SqL.of (s5 _ _ ha), hv, (by show 1 ≤ sizeLine; decide), fun r1 nr1 => ⟨_, rfl, ?_⟩⟩
        have s6 : Same H5 (upd H5 r1 (.tup [.int (l.getD i 0)])) := same_new nr1
        have lc := (choices_sub (List.mem_of_getElem? hct)).1.length_le
        rw [List.length_drop] at lc
        refine cat_any upd_same (s6 _ _ (k5 _ _ ht)) (by rw [List.length_singleton, List.length_map]; omega) fun r2 H7 s7 e7 => ?_
        have s57 := s6.trans s7
        have e57 := s57 _ _ e5
        have kp : Kept H7 (upd H7 p (.lst (ys ++ [.ref r2]))) := kept_lst e57
        have npz : z ≠ p := fun e => by
          rw [e] at nz
          have := s3 _ _ e2
          rw [nz] at this
          cases this
        refine ⟨p, ys, _, rfl, rfl, e57, size4k (by omega), ⟨_, rfl⟩, same_put (s5.trans s57) np, (k5.trans (same_kept s57)).trans kp, by rw [upd_ne npz]; exact s57 _ _ ez5, _, upd_same, by rw [List.length_append, List.length_singleton]; omega, ?_⟩
        rw [take_snoc hct, List.map_append, ← List.append_assoc]
        exact ((h5.mono (same_kept s57)).mono kp).append (.one (kp _ _ e7))
      · rintro σ H5 ⟨⟨v4, rfl⟩, s5, k5, ez5, ys, e5, l5, h5⟩
        rw [lus, List.take_length, ← chTo_succ] at h5
        exact ⟨⟨_, _, rfl⟩, s5, ys, e5, by omega, h5⟩
    · rintro σ H2 ⟨⟨v3, v4, rfl⟩, s2, xs, e2, l2, h2⟩
      exact ⟨_, rfl, q p xs H2 s2 np e2 h2⟩
theorem ok_ch (T : Txt K mg) (D : DefAt K mg "choices_of" sCh ["indexes", "size"]) : Ok P w K mg base "choices_of" 9 ["indexes", "size"] spCh := by
  obtain ⟨f, fd, F, g, b⟩ := D.ex
  refine ⟨f, fd, ⟨fun vs H Q E h => ?_, fun A outer s H args us vs Q E hr h0 hb hv h => ?_⟩, g, F.kp, b⟩
  · obtain ⟨k, hk, h⟩ := h
    exact (fn_ch (P := P) (w := w) (base := base) T F g b k).len vs H Q E h
  · obtain ⟨k, hk, h⟩ := h
    exact (fn_ch T F g b k).run A outer s H args us vs Q E (hr.mono (by omega)) h0 hb hv h
end
end K26
set_option maxHeartbeats 4000000
namespace K26
open PySem PySem.Spec PyProof.Rows L2
/-- what the top has written of OutOfRange -/
structure Exc (K : PySem.W.Frag) (mg : Str → Option Value) (C : Addr) : Prop where
  g : mg "OutOfRange" = some (.ref C)
  x : PySem.W.excIn K C [.type "ValueError", .type "Exception", .type "BaseException", .type "object"] "ValueError.__new__" = true
  k : PySem.W.keepIn K (.ref C) = true
  b : PySem.W.subIn K (.ref C) (.type "BaseException") = some true
  t : PySem.W.typeIn K (.ref C) = some (.type "type")
  i : PySem.W.isClsIn K C = true
  s : PySem.W.subIn K (.ref C) (.ref C) = some true
theorem idx_at (m : Nat) : rgV 0 (m : Int) = (idxs m).map V.int := by
  rw [rgV_zero]
  exact nats_ints _
theorem setsAt_take (S : List (List Int)) (ch : List Int) : setsAt S ch = ch.map fun i => S.getD i.toNat [] := rfl
section
variable {P : Program} {w : World} {K : PySem.W.Frag} {mg : Str → Option Value} {base : Heap}
/-! ### greatest_choice -/
abbrev sGC : Stmt := topS 36
abbrev nGC : List Str := ["n", "sets", "indexes", "size", "choice", "index"]
theorem scGC : FnScope nGC ["n", "sets"] (defScope sGC) := ⟨rfl, rfl, rfl, by decide +kernel, rfl, by decide +kernel, by decide +kernel⟩
def spGC : Sp := fun vs H Q _ => ∃ (n : Nat) (a : Addr) (S : List (List Int)) (ws : List V), vs = [.int n, .ref a] ∧ 1 ≤ n ∧ n ≤ 8 ∧ H a = some (.tup ws) ∧ SetsAt H S ws ∧ S.length ≤ 8 ∧ (∀ c ∈ S, IsSet n c) ∧
  ∀ p ch H', Same H H' → H' p = some (.tup (ch.map V.int)) → Greatest (fits n S) (idxs S.length) ch → Q (.ref p) H'
theorem ok_gc (T : Txt K mg) (D : DefAt K mg "greatest_choice" sGC ["n", "sets"]) (GC : Ok P w K mg base "check_table" 3 ["n", "sets"] spCheckTable) (GP : Ok P w K mg base "plain_tree" 3 ["n"] spPlain) (GA : Ok P w K mg base "reduced_by_all" 38 ["tree", "sets"] (spAll true)) (GH : Ok P w K mg base "choices_of" 9 ["indexes", "size"] spCh) :
    Ok P w K mg base "greatest_choice" 39 ["n", "sets"] spGC := by
  refine ok_def D scGC (fun vs H Q E h => ?_) (fun f cdv A outer s H vs Q E hr h => ?_)
  · obtain ⟨n, a, S, ws, rfl, _⟩ := h
    rfl
  obtain ⟨n, a, S, ws, rfl, h1, h8, ha, hS, hl, hs, q⟩ := h
  refine ⟨_, pss_cons (ps_expr (pe_callO GC hr (by decide) (pa_cons (pv 0) (pa_cons (pv 1) pa_nil))))
    (pss_cons (ps_if (pt_cmpR op_gt (pe_callB call_len_seq (by rfl) T.len PySem.boot_len (pa_cons (pv 1) pa_nil)) (pe_glob (v := .int 8) rfl T.few.choose_spec ⟨_, rfl⟩) (nomark _)) pss_never pss_nil)
    (pss_cons (ps_set (i := 2) scGC.nd rfl (.inl rfl) (pe_listRg rfl (by rfl) T.list (prg_1 (by rfl) T.range (pe_callB call_len_seq (by rfl) T.len PySem.boot_len (pa_cons (pv 1) pa_nil)))))
    (pss_cons (ps_for PassesOwn.never rfl (pi_range3 (by rfl) T.range (pa_cons (pe_callB call_len_seq (by rfl) T.len PySem.boot_len (pa_cons (pv 1) pa_nil)) (pa_cons (pe_un un_neg pe_int) (pa_cons (pe_un un_neg pe_int) pa_nil)))) (pg_name (i := 3) scGC.nd rfl (.inl rfl))
      (pss_one (ps_for PassesOwn.never rfl (pi_list (pe_callO GH hr (by decide) (pa_cons (pv 2) (pa_cons (pv 3) pa_nil)))) (pg_name (i := 4) scGC.nd rfl (.inl rfl))
        (pss_one (ps_if (pt_cmp (pc_notN (pe_callO GA hr (by decide) (pa_cons (pe_callO GP hr (by decide) (pa_cons (pv 0) pa_nil)) (pa_cons
            (pe_lc (own := [("index", 5)]) (g := gName 5) (tt := tYes) (te := tOp (rIxT K) (tVar 1) (tVar 5)) rfl scGC.nd (pi_tup (pv 4)) (blkOk_by (N := nGC) (sc := defScope sGC) (by decide +kernel))
              (fun _ _ _ _ _ => pg_name (i := 5) scGC.nd rfl (.inl rfl)) (fun _ _ _ _ _ => pts_nil) (fun _ _ _ _ _ => pe_ix ix_tup (pv 1) (pv 5) (fun _ _ => rfl))) pa_nil))))) (pss_one (ps_ret (pv 4))) pss_nil)))))
    pss_never))), ?_⟩
  have lws := hS.length
  refine ⟨_, rfl, _, rfl, n, a, S, ws, rfl, h1, by omega, ha, hS, by omega, hs, ?_⟩
  refine ⟨_, rfl, a, ws, rfl, .inr (SqT.of ha), _, _, rfl, rfl, false, blF (by omega), iteF ?_⟩
  refine ⟨_, rfl, a, ws, rfl, .inr (SqT.of ha), (ws.length : Int), rfl, RgOk.of_le (by omega) (by omega) (by omega) (by omega), fun r nr => ?_⟩
  rw [idx_at, lws]
  have sr : Same H (upd H r (.lst ((idxs S.length).map V.int))) := same_new nr
  refine ⟨_, rfl, a, ws, rfl, .inr (SqT.of (sr _ _ ha)), 1, rfl, 1, rfl, (ws.length : Int), -1, -1, _, rfl, RgC.neg (by omega) (by omega) (by omega) (by omega), ?_⟩
  have en : ((ws.length : Int) - -1).toNat = S.length + 1 := by omega
  rw [en, lws]
  refine for_rangeC (lo := (S.length : Int)) (c := -1) (n := S.length + 1) (fun i σ H' => (∃ v3 v4, σ = [some (.int n), some (.ref a), some (.ref r), v3, v4, none]) ∧ Same (upd H r (.lst ((idxs S.length).map V.int))) H' ∧ ∀ k', S.length < k' + i → k' ≤ S.length → ∀ s ∈ choices k' (idxs S.length), fits n S s = false)
    ⟨⟨none, none, rfl⟩, .refl _, fun k' h1 h2 => by omega⟩ ?_ ?_
  · rintro i σ H1 hi ⟨⟨v3, v4, rfl⟩, s1, hno⟩
    have ei : (S.length : Int) + (i : Int) * -1 = ((S.length - i : Nat) : Int) := by omega
    rw [ei]
    have s01 := sr.trans s1
    have er := s1 r _ upd_same
    refine ⟨_, rfl, _, rfl, S.length - i, by omega, r, idxs S.length, rfl, er, by rw [idxs_len]; exact hl, fun z us H2 s2 nz ez hz => ?_⟩
    refine ⟨z, rfl, ⟨_, SqL.of ez⟩, ?_⟩
    have lus := hz.length
    have s02 := s01.trans s2
    refine for_list (K := K) (a := z) (xs := us) (fun j σ H' => (∃ v4, σ = [some (.int n), some (.ref a), some (.ref r), some (.int ((S.length - i : Nat) : Int)), v4, none]) ∧ Same H2 H' ∧ ∀ s ∈ (choices (S.length - i) (idxs S.length)).take j, fits n S s = false)
      ⟨⟨v4, rfl⟩, .refl _, fun s m => by rw [List.take_zero] at m; cases m⟩ (fun j σ H' _ h => SqL.of (h.2.1 _ _ ez)) ?_ ?_
    · rintro j x σ H3 hx ⟨⟨v4, rfl⟩, s3, hnj⟩
      obtain ⟨t, ch, rfl, hch, ht⟩ := hz.get hx
      have ht3 := s3 _ _ ht
      have s03 := s02.trans s3
      obtain ⟨hsub, hlen⟩ := choices_sub (List.mem_of_getElem? hch)
      have chm : ∀ y ∈ ch, 0 ≤ y ∧ y < S.length := fun y m => mem_idxs.mp (hsub.subset m)
      have chl : ch.length ≤ 8 := by
        have := hsub.length_le
        rw [idxs_len] at this
        omega
      refine ⟨_, rfl, n, rfl, h1, by omega, fun v H4 s4 hv => ?_⟩
      have s04 := s03.trans s4
      have ha4 := s04 _ _ ha
      have hS4 := hS.mono (same_kept s04)
      refine ⟨_, rfl, t, rfl, ⟨_, SqT.of (s4 _ _ ht3)⟩, fun D4 n4 => ?_⟩
      refine lcf_tup (K := K) (a := t) (xs := ch.map V.int) (fun i acc H' => SetsAt H' (setsAt S (ch.take i)) acc) n4 (s4 _ _ ht3) (by rw [List.length_map]; omega) (fun _ _ _ _ k h => h.mono k) rfl ?_ ?_
      · intro e y H5 acc QT QF hy s5 hacc kT kF
        rw [List.getElem?_map] at hy
        obtain ⟨u, hu, rfl⟩ := Option.map_eq_some_iff.mp hy
        have mu := chm u (List.mem_of_getElem? hu)
        have lu : u.toNat < ws.length := by omega
        have eu : u = ((u.toNat : Nat) : Int) := by omega
        have hS5 := hS4.mono (same_kept s5)
        obtain ⟨c2, c3, e3, hc3, hb3⟩ := hS5.get (List.getElem?_eq_getElem lu)
        refine ⟨rfl, tyes ⟨_, rfl, _, rfl, a, ws, u, .ref c2, rfl, rfl, SqT.of (s5 _ _ ha4), at_of eu (by rw [← e3]; exact List.getElem?_eq_getElem lu), kT _ _ (.refl _) ?_⟩⟩
        have es : setsAt S (ch.take (e + 1)) = setsAt S (ch.take e) ++ [c3] := by
          unfold setsAt
          rw [take_snoc hu, List.map_append, List.map_cons, List.map_nil]
          have : S.getD u.toNat [] = c3 := by
            rw [List.getD_eq_getElem?_getD, hc3]; rfl
          rw [this]
        rw [es]
        exact hacc.append (.one hb3)
      intro H5 acc s5 e5 l5 hacc
      rw [List.length_map, List.take_length] at hacc
      have msets : ∀ c ∈ setsAt S ch, IsSet n c := fun c m => by
        obtain ⟨y, my, ey⟩ := List.mem_map.mp m
        have my' := chm y my
        rw [← ey]
        have ly : y.toNat < S.length := by omega
        rw [List.getD_eq_getElem?_getD, List.getElem?_eq_getElem ly]
        exact hs _ (List.getElem_mem ly)
      refine ⟨v, plain n, D4, setsAt S ch, acc, rfl, hv.mono (same_kept s5), plain_wf h1, by rw [plain_len]; exact h8, e5, hacc, fun c m => set_in_plain (msets c m), ?_, ?_⟩
      · intro hnone H6 s6
        refine ⟨_, rfl, iteF ⟨⟨_, rfl⟩, (s3.trans s4).trans (s5.trans s6), fun s m => ?_⟩⟩
        rw [take_snoc hch] at m
        rcases List.mem_append.mp m with m | m
        · exact hnj s m
        · rw [List.mem_singleton] at m
          subst m
          unfold fits
          rw [hnone]; rfl
      · intro u hu v' H6 s6 hv'
        refine ⟨true, by show V.bl (!decide (v' = .non)) = V.bl true; rw [decide_eq_false (tree_non hv')]; rfl, iteT ⟨_, rfl, q t ch H6 (s04.trans (s5.trans s6)) (s6 _ _ (s5 _ _ (s4 _ _ ht3))) (greatest_of (idxs_asc _) hch ?_ ?_ hnj)⟩⟩
        · unfold fits
          rw [hu]; rfl
        · intro k' h1 h2
          rw [idxs_len] at h2
          exact hno k' (by omega) h2
    · rintro σ H3 ⟨⟨v4, rfl⟩, s3, hnj⟩
      rw [lus, List.take_length] at hnj
      refine ⟨⟨_, _, rfl⟩, s1.trans (s2.trans s3), fun k' h1 h2 => ?_⟩
      by_cases hk : k' = S.length - i
      · rw [hk]
        exact hnj
      · exact hno k' (by omega) h2
  · rintro σ H1 ⟨_, _, hno⟩
    have := hno 0 (by omega) (Nat.zero_le _) [] (by rw [choices]; exact List.mem_cons_self)
    rw [fits_nil] at this
    cases this
/-- for more than 8 sets it raises OutOfRange -/
def spGCX (C : Addr) : Sp := fun vs H Q E => ∃ (n : Nat) (a : Addr) (S : List (List Int)) (ws : List V), vs = [.int n, .ref a] ∧ 1 ≤ n ∧ n ≤ 8 ∧ H a = some (.tup ws) ∧ SetsAt H S ws ∧ 8 < S.length ∧ S.length ≤ 40 ∧ (∀ c ∈ S, IsSet n c) ∧ E (.ref C) none H
theorem ok_gcX {C : Addr} (T : Txt K mg) (X : Exc K mg C) (D : DefAt K mg "greatest_choice" sGC ["n", "sets"]) (GC : Ok P w K mg base "check_table" 3 ["n", "sets"] spCheckTable) :
    ∃ f fd, FnOk P w K mg base (L2.CX P w) 4 f fd ["n", "sets"] (spGCX C) ∧ mg "greatest_choice" = some (.ref f) ∧ PySem.W.keepIn K (.ref f) = true ∧ Binds K fd ["n", "sets"] [] := by
  obtain ⟨f, fd, F, g, b⟩ := D.ex
  refine ⟨f, fd, F.okX scGC (fun vs H Q E h => ?_) (fun cdv A outer s H vs Q E hr h => ?_), g, F.kp, b⟩
  · obtain ⟨n, a, S, ws, rfl, _⟩ := h
    rfl
  obtain ⟨n, a, S, ws, rfl, h1, h8, ha, hS, hl, h40, hs, q⟩ := h
  refine ⟨_, pss_cons (ps_expr (pe_callO GC hr (by decide) (pa_cons (pv 0) (pa_cons (pv 1) pa_nil))))
    (pss_cons (ps_if (pt_cmpR op_gt (pe_callB call_len_seq (by rfl) T.len PySem.boot_len (pa_cons (pv 1) pa_nil)) (pe_glob (v := .int 8) rfl T.few.choose_spec ⟨_, rfl⟩) (nomark _)) (pss_one (ps_raise rfl (takes_of rfl rfl rfl rfl) (pmk_own PySem.F.excBase_ValueError X.x X.g X.k (raises_own X.b X.t) rfl))) pss_nil)
    pss_never), ?_⟩
  have lws := hS.length
  exact ⟨_, rfl, _, rfl, n, a, S, ws, rfl, h1, by omega, ha, hS, h40, hs, _, rfl, a, ws, rfl, .inr (SqT.of ha), _, _, rfl, rfl, true, blT (by omega), iteT q⟩
end
end K26
set_option maxHeartbeats 4000000
namespace K26
open PySem PySem.Spec PyProof.Rows L2
/-! ### sorted of a tuple of ints -/
section
variable {prog : Program} {w : World} {A : Around} {E : Value → Shared → Prop} {s : Shared}
/-- the heap behind the collecting of the items vs -/
abbrev gotAll (h : Heap) (vs : List Value) : Heap := (h.push (seqObj "list" #[] 0)).update h.objs.size (Obj.mapSeq (· ++ vs.toArray))
theorem collect_tup {l : Addr} {vs : List Value} {Q : List Value → Shared → Prop} (hl : IsTup s.heap l vs.toArray) (hz : vs.length ≤ sizeLine) (h : Q vs { s with heap := gotAll s.heap vs }) : wpAny (model prog w) A (collect (.ref l)) Q E s := by
  obtain ⟨o, ho, hc, n, hd⟩ := id hl
  have h0 : (s.heap.push (seqObj "list" #[] 0)).get? s.heap.objs.size = some (seqObj "list" #[] 0) := Heap.get?_push_size _ rfl
  have h1 : (s.heap.push (seqObj "list" #[] 0)).get? l = some o := Heap.get?_push_of_some _ ho
  have big : (#[] : Array Value).size ≤ sizeLine := Nat.zero_le _
  have z : ((#[] : Array Value) ++ vs.toArray).size ≤ sizeLine + 1 := by
    simp only [Array.size_append, List.size_toArray, List.length_nil]
    omega
  unfold collect
  refine wpAny_bind (wpAny_runValue (codeAny_builtin entry_proto_collect' ?_))
  refine wpAny_bind (m := newList []) (wpAny_newList (wpAny_pure ⟨Code.quiet_builtin _ (by decide +kernel), codeAny_builtin entry_list_iadd' ?_⟩))
  show wpAny _ _ (Builtin.List.listExtendWith (.ref s.heap.objs.size) (.ref l) (.ref s.heap.objs.size)) _ _ ⟨s.heap.push (seqObj "list" #[] 0), _, _, _, _⟩
  unfold Builtin.List.listExtendWith
  refine wpAny_bind (wpAny_typeOf (T := "tuple") ⟨o, h1, hc⟩ ?_)
  have yes : (Builtin.List.listSameRef (Value.ref s.heap.objs.size) (Value.ref l) || Value.type "tuple" == Value.type "list" || Value.type "tuple" == Value.type "tuple") = true := by
    rw [show (Value.type "tuple" == Value.type "tuple") = true from rfl, Bool.or_true]
  rw [if_pos yes]
  refine wpAny_bind (listItems_at h1 hd (wpAny_bind (listItems_at h0 rfl ?_)))
  rw [if_neg (by simp)]
  refine wpAny_bind (listUpdate_at h0 rfl (wpAny_pure ?_) big z)
  refine wpAny_bind (m := load s.heap.objs.size) (wpAny_load (get?_update_seq h0 _) ?_)
  refine wpAny_pure (?_ : Q ((#[] : Array Value) ++ vs.toArray).toList _)
  have e : ((#[] : Array Value) ++ vs.toArray).toList = vs := by simp
  rw [e]
  exact h
theorem sorted_tup {l : Addr} {vs : List Value} {ns : List Int} {Q : Value → Shared → Prop} (hl : IsTup s.heap l vs.toArray) (hz : vs.length ≤ sizeLine) (hi : IntsAre vs ns)
    (h : ∀ out : List Value, SrtO.Srtd SrtO.ltIv out → SrtO.Stb SrtO.ltIv out vs → Q (.ref (s.heap.objs.size + 1)) { s with heap := sortedAll s.heap vs out.toArray }) :
    wpAny (model prog w) A (call (.builtin "sorted") [.ref l]) Q E s := by
  have sz : (gotAll s.heap vs).objs.size = s.heap.objs.size + 1 := by rw [Heap.size_update, size_push']
  have at1 : ((gotAll s.heap vs).push (seqObj "list" vs.toArray 0)).get? (s.heap.objs.size + 1) = some (seqObj "list" vs.toArray 0) := by
    rw [← sz]
    exact Heap.get?_push_size _ rfl
  refine Calls.call_function_entry kind_sorted plain_sorted entry_sorted (args_sorted1 _) ?_
  unfold Builtin.«sorted»
  refine wpAny_bind (m := checkCount "sorted" 1 1 _) (wpAny_pure (wpAny_bind (collect_tup hl hz (wpAny_bind (wpAny_newList ?_ hz)))))
  show wpAny _ _ _ _ _ ⟨(gotAll s.heap vs).push (seqObj "list" vs.toArray 0), _, _, _, _⟩
  rw [show (gotAll s.heap vs).objs.size = s.heap.objs.size + 1 from sz]
  refine wpAny_bind (wpAny_holding (wpAny_call_entry slot_list_sort ⟨_, at1, rfl⟩ entry_list_sort (SrtO.list_sort_ord SrtO.swo_int at1 hz (fun h2 => SrtO.ints_sortable hi h2) fun out h1 h2 => ⟨_, rfl, ?_⟩) (args_list_sort _)))
  exact wpAny_pure ⟨_, rfl, h out h1 h2⟩
end
/-- sorted(t), t a tuple of ints -/
def rSortedTI : List V → Hp → VK → Prop := fun vs H Q => ∃ (a : Addr) (ns : List Int), vs = [V.ref a] ∧ H a = some (.tup (ns.map V.int)) ∧ ∀ (ns' : List Int) (p : Addr), ns'.Perm ns → ns'.Pairwise (· ≤ ·) → H p = none → Q (.ref p) (upd H p (.lst (ns'.map V.int)))
theorem cr_sortedTI {X : Cx} : CallR X (.builtin "sorted") rSortedTI := by
  intro pins s σ H vs us Q I r h
  obtain ⟨a, ns, rfl, ha, q⟩ := h
  obtain ⟨its, rv, hl, hz⟩ := I.tuple (SqT.of ha)
  rw [Vals.ref1 r]
  have hi := rv.ints
  refine sorted_tup hl (by rw [← rv.length]; exact hz) hi fun out h1 h2 => ?_
  obtain ⟨k1, k2, k3⟩ := SrtO.ints_out hi h1 h2
  obtain ⟨ep, he⟩ := sortedAll_at s.heap its out.toArray
  have few : ((out.map SrtO.iv).map V.int).length ≤ sizeLine := by
    rw [List.length_map, k2.length_eq, ← List.length_map (f := V.int) (as := ns)]
    exact hz
  exact ⟨.ref _, upd H (s.heap.objs.size + 1) (.lst ((out.map SrtO.iv).map V.int)), I.laid (t' := s.toks) (fun _ _ => sortedAll_old) (Nat.le_succ _) ⟨few, out, ep, vals_of_ints k1, he⟩, rfl, q _ _ k2 k3 (I.hok.fresh (Nat.le_succ _))⟩
end K26
set_option maxHeartbeats 4000000
namespace K26
open PySem PySem.Spec PyProof.Rows L2
section
variable {P : Program} {w : World} {K : PySem.W.Frag} {mg : Str → Option Value} {base : Heap}
/-! ### _law_cell -/
abbrev sCell : Stmt := topS 38
theorem scCell : FnScope ["_law_script", "_law_k"] ["_law_script", "_law_k"] (defScope sCell) := ⟨rfl, rfl, rfl, by decide +kernel, rfl, by decide +kernel, by decide +kernel⟩
def spCellI (K : PySem.W.Frag) : Sp := fun vs H Q _ => ∃ (a : Addr) (ns : List Int) (k : Nat), vs = [.ref a, .int k] ∧ SqL K H a (ns.map V.int) ∧ ∀ i, Q (.int i) H
theorem ok_cell (T : Txt K mg) (D : DefAt K mg "_law_cell" sCell ["_law_script", "_law_k"]) : Ok P w K mg base "_law_cell" 1 ["_law_script", "_law_k"] (spCellI K) := by
  refine ok_def D scCell (fun vs H Q E h => ?_) (fun f cdv A outer s H vs Q E hr h => ?_)
  · obtain ⟨a, ns, k, rfl, _⟩ := h
    rfl
  obtain ⟨a, ns, k, rfl, ha, q⟩ := h
  refine ⟨_, pss_cons (ps_if (pt_cmpR op_lt (pv 1) (pe_callB call_len_seq (by rfl) T.len PySem.boot_len (pa_cons (pv 0) pa_nil)) (nomark _)) (pss_one (ps_ret (pe_ix ix_list (pv 0) (pv 1) (fun _ _ => rfl)))) pss_nil) (pss_one (ps_ret pe_int)), ?_⟩
  refine ⟨_, rfl, _, rfl, a, _, rfl, .inl ha, _, _, rfl, rfl, ?_⟩
  by_cases h : k < ns.length
  · refine ⟨true, blT (by rw [List.length_map]; omega), iteT ⟨_, rfl, _, rfl, a, _, _, _, rfl, rfl, ha, atI_ints h, q _⟩⟩
  · exact ⟨false, blF (by rw [List.length_map]; omega), iteF (q _)⟩
/-! ### _law_digits -/
abbrev sDigits : Stmt := topS 39
abbrev nDigits : List Str := ["_law_cell_here", "_law_sizes", "_law_row", "_law_size"]
theorem scDigits : FnScope nDigits ["_law_cell_here", "_law_sizes"] (defScope sDigits) := ⟨rfl, rfl, rfl, by decide +kernel, rfl, by decide +kernel, by decide +kernel⟩
def spDigits : Sp := fun vs H Q _ => ∃ (i : Int) (b : Addr) (sz : List Int), vs = [.int i, .ref b] ∧ H b = some (.lst (sz.map V.int)) ∧ (∀ z ∈ sz, 0 < z ∧ z < 1000) ∧ sz.length ≤ 10 ∧
  ∀ (p : Addr) (ds : List Int) (H' : Hp), Same H H' → H' p = some (.lst (ds.map V.int)) → ds.length = sz.length → (∀ (j : Nat) (d z : Int), ds[j]? = some d → sz[j]? = some z → 0 ≤ d ∧ d < z) → Q (.ref p) H'
theorem ok_digits (T : Txt K mg) (D : DefAt K mg "_law_digits" sDigits ["_law_cell_here", "_law_sizes"]) : Ok P w K mg base "_law_digits" 1 ["_law_cell_here", "_law_sizes"] spDigits := by
  refine ok_def D scDigits (fun vs H Q E h => ?_) (fun f cdv A outer s H vs Q E hr h => ?_)
  · obtain ⟨i, b, sz, rfl, _⟩ := h
    rfl
  obtain ⟨i, b, sz, rfl, hb, hz, hl, q⟩ := h
  refine ⟨_, pss_cons (ps_set (i := 2) scDigits.nd rfl (.inl rfl) (pe_lst pa_nil))
    (pss_cons (ps_for PassesOwn.never rfl (pi_list (pv 1)) (pg_name (i := 3) scDigits.nd rfl (.inl rfl))
      (pss_cons (ps_expr (pe_bm PySem.F.plainAttrs_list PySem.F.slot_list_append PySem.F.type_list_append mt_append (pv 2) (pa_cons (pe_op op_mod (pe_callTy call_int1 (by rfl) T.int (by decide +kernel) (pa_cons (pv 0) pa_nil)) (pv 3)) pa_nil)))
      (pss_one (ps_set (i := 0) scDigits.nd rfl (.inl rfl) (pe_op op_fdivN (pv 0) (pv 3))))))
    (pss_one (ps_ret (pv 2)))), ?_⟩
  refine ⟨Nat.zero_le _, fun p np => ?_⟩
  have s1 : Same H (upd H p (.lst [])) := same_new np
  refine ⟨_, rfl, b, rfl, ⟨_, SqL.of (s1 _ _ hb)⟩, ?_⟩
  refine for_list (K := K) (a := b) (xs := sz.map V.int) (fun j σ H' => (∃ c v3, σ = [some (.int c), some (.ref b), some (.ref p), v3]) ∧ Same H H' ∧ ∃ ds : List Int, H' p = some (.lst (ds.map V.int)) ∧ ds.length = j ∧ ∀ (e : Nat) (d z : Int), ds[e]? = some d → sz[e]? = some z → 0 ≤ d ∧ d < z)
    ⟨⟨i, none, rfl⟩, s1, [], upd_same, rfl, fun e d z h => by simp at h⟩ (fun j σ H' _ h => SqL.of (h.2.1 _ _ hb)) ?_ ?_
  · rintro j x σ H1 hx ⟨⟨c, v3, rfl⟩, s2, ds, e2, l2, h2⟩
    rw [List.getElem?_map] at hx
    obtain ⟨z, hzj, rfl⟩ := Option.map_eq_some_iff.mp hx
    have hz0 := hz z (List.mem_of_getElem? hzj)
    have hj : j < sz.length := (List.getElem?_eq_some_iff.mp hzj).1
    refine ⟨_, rfl, .inl ⟨rfl, _, SqL.of e2⟩, _, rfl, .inl ⟨_, rfl, _, rfl, c, z, rfl, rfl, hz0.1, p, _, _, rfl, rfl, e2, small1000 (by rw [List.length_map]; omega), ?_⟩⟩
    refine ⟨_, rfl, _, rfl, c, z, rfl, rfl, ⟨by omega, by omega⟩, ⟨_, _, rfl⟩, same_put s2 np, ds ++ [c % z], ?_, by rw [List.length_append, List.length_singleton]; omega, fun e d z' hd hz' => ?_⟩
    · rw [upd_same, List.map_append]; rfl
    · by_cases he : e < ds.length
      · rw [List.getElem?_append_left he] at hd
        exact h2 e d z' hd hz'
      · rw [List.getElem?_append_right (by omega)] at hd
        have e0 : e - ds.length = 0 := by
          have := (List.getElem?_eq_some_iff.mp hd).1
          rw [List.length_singleton] at this
          omega
        rw [e0] at hd
        have ed : c % z = d := Option.some.inj hd
        have ee : e = j := by omega
        rw [ee, hzj] at hz'
        have ez : z = z' := Option.some.inj hz'
        rw [← ed, ← ez]
        exact ⟨Int.emod_nonneg _ (by omega), Int.emod_lt_of_pos _ hz0.1⟩
  · rintro σ H1 ⟨⟨c, v3, rfl⟩, s2, ds, e2, l2, h2⟩
    rw [List.length_map] at l2
    exact ⟨_, rfl, q p ds H1 s2 e2 l2 h2⟩
/-! ### _law_rich -/
abbrev sRich : Stmt := topS 40
abbrev nRich : List Str := ["_law_cell_here", "_law_low", "_law_high"]
theorem scRich : FnScope nRich ["_law_cell_here"] (defScope sRich) := ⟨rfl, rfl, rfl, by decide +kernel, rfl, by decide +kernel, by decide +kernel⟩
def spRich : Sp := fun vs H Q _ => ∃ i : Int, vs = [.int i] ∧ ∀ j, Q (.int j) H
theorem ok_rich (T : Txt K mg) (D : DefAt K mg "_law_rich" sRich ["_law_cell_here"]) : Ok P w K mg base "_law_rich" 1 ["_law_cell_here"] spRich := by
  refine ok_def D scRich (fun vs H Q E h => ?_) (fun f cdv A outer s H vs Q E hr h => ?_)
  · obtain ⟨i, rfl, _⟩ := h
    rfl
  obtain ⟨i, rfl, q⟩ := h
  refine ⟨_, pss_cons (ps_if (pt_cmpR op_ge (pv 0) (pe_op op_pow pe_int pe_int) (nomark _)) (pss_one (ps_ret (pv 0))) pss_nil)
    (pss_cons (ps_set (i := 1) scRich.nd rfl (.inl rfl) (pe_op op_mod (pe_callTy call_int1 (by rfl) T.int (by decide +kernel) (pa_cons (pe_op op_add (pe_op op_mul (pv 0) pe_int) pe_int) pa_nil)) pe_int))
    (pss_cons (ps_set (i := 2) scRich.nd rfl (.inl rfl) (pe_op op_mod (pe_callTy call_int1 (by rfl) T.int (by decide +kernel) (pa_cons (pe_op op_add (pe_op op_add (pe_op op_mul (pv 1) pe_int) (pe_op op_fdivN (pv 0) pe_int)) pe_int) pa_nil)) pe_int))
    (pss_one (ps_ret (pe_op op_add (pe_op op_mul (pv 1) pe_int) (pv 2)))))), ?_⟩
  refine ⟨_, rfl, 10, 18, rfl, rfl, ⟨by decide, by decide, by decide⟩, _, _, rfl, rfl, _, rfl, ?_⟩
  refine ite2 (fun _ => ⟨_, rfl, q _⟩) (fun _ => ?_)
  refine ⟨_, rfl, _, 48271, rfl, rfl, .inr ⟨by decide, by decide⟩, _, _, rfl, rfl, .inl ⟨_, rfl, _, 2147483647, rfl, rfl, (by show (0 : Int) < 2147483647; decide), ?_⟩⟩
  refine ⟨_, rfl, _, 69621, rfl, rfl, .inr ⟨by decide, by decide⟩, _, rfl, _, 7, rfl, rfl, ⟨by decide, by decide⟩, _, _, rfl, rfl, _, _, rfl, rfl, .inl ⟨_, rfl, _, 2147483629, rfl, rfl, (by show (0 : Int) < 2147483629; decide), ?_⟩⟩
  exact ⟨_, rfl, _, 2147483629, rfl, rfl, .inr ⟨by decide, by decide⟩, _, rfl, _, _, rfl, rfl, q _⟩
/-! ### _law_is_integer -/
abbrev sIsInt : Stmt := topS 41
theorem scIsInt : FnScope ["_law_actual"] ["_law_actual"] (defScope sIsInt) := ⟨rfl, rfl, rfl, by decide +kernel, rfl, by decide +kernel, by decide +kernel⟩
def spIsInt : Sp := fun vs H Q _ => ∃ i : Int, vs = [.int i] ∧ Q (.bl true) H
theorem ok_isint (T : Txt K mg) (D : DefAt K mg "_law_is_integer" sIsInt ["_law_actual"]) : Ok P w K mg base "_law_is_integer" 1 ["_law_actual"] spIsInt := by
  refine ok_def D scIsInt (fun vs H Q E h => ?_) (fun f cdv A outer s H vs Q E hr h => ?_)
  · obtain ⟨i, rfl, _⟩ := h
    rfl
  obtain ⟨i, rfl, q⟩ := h
  refine ⟨_, pss_one (ps_ret (pe_and (pe_callB call_isi (by rfl) T.isinstance (by decide +kernel) (pa_cons (pv 0) (pa_cons (pe_bltn (v := .ty "int") (by rfl) T.int (by decide +kernel) rfl) pa_nil)))
    (pe_one (pe_not (pe_callB call_isi (by rfl) T.isinstance (by decide +kernel) (pa_cons (pv 0) (pa_cons (pe_bltn (v := .ty "bool") (by rfl) T.bool (by decide +kernel) rfl) pa_nil))))))), ?_⟩
  exact ⟨_, rfl, _, _, _, _, true, rfl, .ty "int", .base (.int i), kit_ty (by decide +kernel), _, rfl, iteT ⟨_, rfl, _, _, _, _, false, rfl, .ty "bool", .base (.int i), kit_ty (by decide +kernel), _, rfl, q⟩⟩
end
end K26
set_option maxHeartbeats 4000000
namespace K26
open PySem PySem.Spec PyProof.Rows L2
theorem seqIx {i : Int} {n : Nat} (h0 : 0 ≤ i) (h1 : i < n) : seqIndex? i n = some i.toNat := by
  have e : (if i < 0 then i + (n : Int) else i) = i := if_neg (by omega)
  show (if (decide (0 ≤ (if i < 0 then i + (n : Int) else i)) && decide ((if i < 0 then i + (n : Int) else i) < n)) = true then some (if i < 0 then i + (n : Int) else i).toNat else none) = _
  rw [e, decide_eq_true h0, decide_eq_true h1]
  rfl
theorem perm_move {o l : List Int} {k : Nat} {y : Int} (h : l[k]? = some y) : ((o ++ [y]) ++ l.eraseIdx k).Perm (o ++ l) := by
  obtain ⟨hk, e⟩ := List.getElem?_eq_some_iff.mp h
  rw [List.append_assoc]
  refine (List.Perm.refl o).append ?_
  have e2 : l = l.take k ++ y :: l.drop (k + 1) := by
    rw [← e, ← List.drop_eq_getElem_cons hk, List.take_append_drop]
  have e3 : l.eraseIdx k = l.take k ++ l.drop (k + 1) := List.eraseIdx_eq_take_drop_succ ..
  rw [e3]
  conv => rhs; rw [e2]
  show (y :: (l.take k ++ l.drop (k + 1))).Perm _
  exact List.perm_middle.symm
theorem idxs_succ (i : Nat) : idxs (i + 1) = idxs i ++ [(i : Int)] := by
  unfold idxs
  rw [List.range_succ, List.map_append]; rfl
theorem isSet_sub {n : Nat} {c : List Int} (h : c.Sublist (idxs n)) : IsSet n c := ⟨(idxs_asc n).sublist h, fun x m => mem_idxs.mp (h.subset m)⟩
theorem map_eraseIdx (l : List Int) (k : Nat) : (l.map V.int).eraseIdx k = (l.eraseIdx k).map V.int := by
  rw [List.eraseIdx_eq_take_drop_succ, List.eraseIdx_eq_take_drop_succ, List.map_append, List.map_take, List.map_drop]
section
variable {P : Program} {w : World} {K : PySem.W.Frag} {mg : Str → Option Value} {base : Heap}
/-! ### _law_order -/
abbrev sOrder : Stmt := topS 42
abbrev nOrder : List Str := ["_law_cell_here", "_law_n", "_law_left", "_law_rest", "_law_order_here", "_law_k", "_law_thing"]
theorem scOrder : FnScope nOrder ["_law_cell_here", "_law_n"] (defScope sOrder) := ⟨rfl, rfl, rfl, by decide +kernel, rfl, by decide +kernel, by decide +kernel⟩
def spOrder : Sp := fun vs H Q _ => ∃ (i : Int) (n : Nat), vs = [.int i, .int n] ∧ 1 ≤ n ∧ n ≤ 8 ∧ ∀ (p : Addr) (o : List Int) (H' : Hp), Same H H' → H' p = some (.tup (o.map V.int)) → o.Perm (idxs n) → Q (.ref p) H'
theorem ok_order (T : Txt K mg) (D : DefAt K mg "_law_order" sOrder ["_law_cell_here", "_law_n"]) (G : Ok P w K mg base "_law_rich" 1 ["_law_cell_here"] spRich) : Ok P w K mg base "_law_order" 2 ["_law_cell_here", "_law_n"] spOrder := by
  refine ok_def D scOrder (fun vs H Q E h => ?_) (fun f cdv A outer s H vs Q E hr h => ?_)
  · obtain ⟨i, n, rfl, _⟩ := h
    rfl
  obtain ⟨c, n, rfl, h1, h8, q⟩ := h
  refine ⟨_, pss_cons (ps_setLc (i := 2) (own := [("_law_thing", 6)]) (g := gName 6) (tt := tYes) (te := tVar 6) rfl scOrder.nd rfl rfl (sw_true rfl rfl rfl (by decide +kernel)) (pi_range1 (by rfl) T.range (pa_cons (pv 1) pa_nil)) (blkOk_by (N := nOrder) (sc := defScope sOrder) (by decide +kernel))
          (fun _ _ _ _ _ => pg_name (i := 6) scOrder.nd rfl (.inl rfl)) (fun _ _ _ _ _ => pts_nil) (fun _ _ _ _ _ => pv 6))
    (pss_cons (ps_set (i := 3) scOrder.nd rfl (.inl rfl) (pe_callO G hr (by decide) (pa_cons (pv 0) pa_nil)))
    (pss_cons (ps_set (i := 4) scOrder.nd rfl (.inl rfl) (pe_lst pa_nil))
    (pss_cons (ps_for PassesOwn.never rfl (pi_range1 (by rfl) T.range (pa_cons (pv 1) pa_nil)) (pg_name (i := 5) scOrder.nd rfl (.inl rfl))
      (pss_cons (ps_expr (pe_bm PySem.F.plainAttrs_list PySem.F.slot_list_append PySem.F.type_list_append mt_append (pv 4) (pa_cons
          (pe_bm PySem.F.plainAttrs_list PySem.F.slot_list_pop PySem.F.type_list_pop mt_popAt (pv 2) (pa_cons (pe_op op_mod (pe_callTy call_int1 (by rfl) T.int (by decide +kernel) (pa_cons (pv 3) pa_nil)) (pe_op op_sub (pv 1) (pv 5))) pa_nil)) pa_nil)))
      (pss_cons (ps_set (i := 3) scOrder.nd rfl (.inl rfl) (pe_op op_fdivN (pv 3) (pe_op op_sub (pv 1) (pv 5))))
      (pss_one (ps_if (pt_cmpR op_eq (pv 3) pe_int (nomark _)) (pss_one (ps_set (i := 3) scOrder.nd rfl (.inl rfl) (pe_callO G hr (by decide) (pa_cons (pe_op op_add (pe_op op_add (pv 0) (pv 5)) pe_int) pa_nil)))) pss_nil)))))
    (pss_one (ps_ret (pe_callTy call_tuple_of (by rfl) T.tuple (by decide +kernel) (pa_cons (pv 4) pa_nil))))))), ?_⟩
  refine ⟨_, rfl, (n : Int), rfl, by omega, by omega, fun D1 n1 => ?_⟩
  refine lcf_range (lo := 0) (n := ((n : Nat) : Int).toNat) (fun i acc H' => acc = (idxs i).map V.int) n1 (by omega) (fun _ _ _ _ _ h => h) rfl ?_ ?_
  · intro i H2 acc QT QF hi s2 hacc kT kF
    rw [Int.zero_add]
    refine ⟨rfl, tyes ⟨_, rfl, kT _ _ (.refl _) ?_⟩⟩
    rw [hacc, idxs_succ, List.map_append]; rfl
  intro H1 ys s1 e1 y1 hys
  rw [Int.toNat_natCast] at hys
  subst hys
  refine ⟨_, rfl, c, rfl, fun r0 => ⟨Nat.zero_le _, fun p np => ?_⟩⟩
  have s2 : Same H1 (upd H1 p (.lst [])) := same_new np
  have n0 : H p = none := s1.free np
  have ne : D1 ≠ p := ne_of_none e1 np
  refine ⟨_, rfl, (n : Int), rfl, by omega, by omega, ?_⟩
  rw [Int.toNat_natCast]
  refine for_range (lo := 0) (n := n) (fun k σ H' => (∃ r v5, σ = [some (.int c), some (.int n), some (.ref D1), some (.int r), some (.ref p), v5, none]) ∧ Same H H' ∧ ∃ l o : List Int, H' D1 = some (.lst (l.map V.int)) ∧ H' p = some (.lst (o.map V.int)) ∧ l.length + k = n ∧ o.length = k ∧ (o ++ l).Perm (idxs n))
    ⟨⟨r0, none, rfl⟩, s1.trans s2, idxs n, [], s2 _ _ e1, upd_same, by rw [idxs_len]; omega, rfl, .refl _⟩ ?_ ?_
  · rintro k σ H3 hk ⟨⟨r, v5, rfl⟩, s3, l, o, el, eo, hl, ho, hp⟩
    rw [Int.zero_add]
    have hpos : (0 : Int) < (n : Int) - (k : Int) := by omega
    have i0 := Int.emod_nonneg r (show (n : Int) - (k : Int) ≠ 0 by omega)
    have i1 := Int.emod_lt_of_pos r hpos
    have ix := seqIx (i := r % ((n : Int) - (k : Int))) (n := (l.map V.int).length) i0 (by rw [List.length_map]; omega)
    have lt : (r % ((n : Int) - (k : Int))).toNat < l.length := by omega
    have gy := List.getElem?_eq_getElem lt
    generalize hj : (r % ((n : Int) - (k : Int))).toNat = j at *
    have gv : (l.map V.int)[j]? = some (.int l[j]) := by rw [List.getElem?_map, gy]; rfl
    refine ⟨_, rfl, .inl ⟨rfl, _, SqL.of eo⟩, _, rfl, .inl ⟨rfl, _, SqL.of el⟩, _, rfl, .inl ⟨_, rfl, _, rfl, _, rfl, _, _, rfl, rfl, _, _, rfl, rfl, hpos, D1, _, _, j, _, rfl, rfl, el, by omega, by omega, ix, gv, ?_⟩⟩
    have sa : Same H (upd H3 D1 (.lst ((l.map V.int).eraseIdx j))) := same_put s3 n1
    have eo2 : (upd H3 D1 (.lst ((l.map V.int).eraseIdx j))) p = some (.lst (o.map V.int)) := by rw [upd_ne ne.symm]; exact eo
    refine ⟨p, _, _, rfl, rfl, eo2, small1000 (by rw [List.length_map]; omega), ?_⟩
    have sb : Same H (upd (upd H3 D1 (.lst ((l.map V.int).eraseIdx j))) p (.lst (o.map V.int ++ [V.int l[j]]))) := same_put sa n0
    refine ⟨_, rfl, _, rfl, _, rfl, _, _, rfl, rfl, _, _, rfl, rfl, ⟨by omega, by omega⟩, _, rfl, rfl, _, rfl, ?_⟩
    have fin : ∀ r', (∃ r v5, [some (V.int c), some (V.int n), some (.ref D1), some (.int r'), some (.ref p), some (.int (k : Int)), none] = ([some (.int c), some (.int n), some (.ref D1), some (.int r), some (.ref p), v5, none] : L2.St)) ∧ Same H (upd (upd H3 D1 (.lst ((l.map V.int).eraseIdx j))) p (.lst (o.map V.int ++ [V.int l[j]]))) ∧ ∃ l' o' : List Int, (upd (upd H3 D1 (.lst ((l.map V.int).eraseIdx j))) p (.lst (o.map V.int ++ [V.int l[j]]))) D1 = some (.lst (l'.map V.int)) ∧ (upd (upd H3 D1 (.lst ((l.map V.int).eraseIdx j))) p (.lst (o.map V.int ++ [V.int l[j]]))) p = some (.lst (o'.map V.int)) ∧ l'.length + (k + 1) = n ∧ o'.length = k + 1 ∧ (o' ++ l').Perm (idxs n) := fun r' => by
      refine ⟨⟨r', _, rfl⟩, sb, l.eraseIdx j, o ++ [l[j]], ?_, ?_, ?_, ?_, (perm_move gy).trans hp⟩
      · rw [upd_ne ne, upd_same, map_eraseIdx]
      · rw [upd_same, List.map_append]; rfl
      · rw [List.length_eraseIdx_of_lt lt]; omega
      · rw [List.length_append, List.length_singleton, ho]
    refine ite2 (fun _ => ?_) (fun _ => fin _)
    exact ⟨_, rfl, _, rfl, _, _, rfl, rfl, _, _, rfl, rfl, _, rfl, fun r' => fin r'⟩
  · rintro σ H3 ⟨⟨r, v5, rfl⟩, s3, l, o, el, eo, hl, ho, hp⟩
    have l0 : l = [] := List.length_eq_zero_iff.mp (by omega)
    rw [l0, List.append_nil] at hp
    exact ⟨_, rfl, p, _, rfl, .inl ⟨SqL.of eo, fun b nb => q b o _ (s3.trans (same_new nb)) upd_same hp⟩⟩
/-! ### _law_set -/
abbrev sSet : Stmt := topS 43
abbrev nSet : List Str := ["_law_cell_here", "_law_n", "_law_bits", "_law_thing"]
theorem scSet : FnScope nSet ["_law_cell_here", "_law_n"] (defScope sSet) := ⟨rfl, rfl, rfl, by decide +kernel, rfl, by decide +kernel, by decide +kernel⟩
def spSetL : Sp := fun vs H Q _ => ∃ (i : Int) (n : Nat), vs = [.int i, .int n] ∧ 1 ≤ n ∧ n ≤ 8 ∧ ∀ (p : Addr) (c : List Int) (H' : Hp), Same H H' → H' p = some (.tup (c.map V.int)) → IsSet n c → Q (.ref p) H'
theorem ok_set (T : Txt K mg) (D : DefAt K mg "_law_set" sSet ["_law_cell_here", "_law_n"]) (G : Ok P w K mg base "_law_rich" 1 ["_law_cell_here"] spRich) : Ok P w K mg base "_law_set" 2 ["_law_cell_here", "_law_n"] spSetL := by
  refine ok_def D scSet (fun vs H Q E h => ?_) (fun f cdv A outer s H vs Q E hr h => ?_)
  · obtain ⟨i, n, rfl, _⟩ := h
    rfl
  obtain ⟨c, n, rfl, h1, h8, q⟩ := h
  refine ⟨_, pss_cons (ps_set (i := 2) scSet.nd rfl (.inr rfl) (pe_callO G hr (by decide) (pa_cons (pv 0) pa_nil)))
    (pss_one (ps_ret (pe_callTy call_tuple_of (by rfl) T.tuple (by decide +kernel) (pa_cons
      (pe_lc (own := [("_law_thing", 3)]) (g := gName 3) (te := tVar 3) rfl scSet.nd (pi_range1 (by rfl) T.range (pa_cons (pv 1) pa_nil)) (blkOk_by (N := nSet) (sc := defScope sSet) (by decide +kernel))
          (fun _ _ _ _ _ => pg_name (i := 3) scSet.nd rfl (.inl rfl)) (fun _ _ _ _ _ => pts_one (pt_cmpR op_eq (pe_op op_mod (pe_callTy call_int1 (by rfl) T.int (by decide +kernel) (pa_cons (pe_op op_fdivN (pe_op op_fdivN (pv 2) (pe_op op_add (pv 3) pe_int)) (pe_op op_add pe_int (pe_op op_mul (pv 3) (pv 3)))) pa_nil)) pe_int) pe_int (nomark _))) (fun _ _ _ _ _ => pv 3)) pa_nil)))), ?_⟩
  refine ⟨_, rfl, c, rfl, fun bits => ?_⟩
  refine ⟨_, rfl, (n : Int), rfl, by omega, by omega, fun D1 n1 => ?_⟩
  refine lcf_range (lo := 0) (n := ((n : Nat) : Int).toNat) (fun i acc H' => ∃ c : List Int, acc = c.map V.int ∧ c.Sublist (idxs i)) n1 (by omega) (fun _ _ _ _ _ h => h) ⟨[], rfl, List.nil_sublist _⟩ ?_ ?_
  · rintro i H2 acc QT QF hi s2 ⟨c2, hacc, hsub⟩ kT kF
    rw [Int.zero_add]
    rw [Int.toNat_natCast] at hi
    have hi8 : i < 8 := by omega
    have hm : (i : Int) * (i : Int) < 64 := by
      have : (i : Int) * (i : Int) = ((i * i : Nat) : Int) := (Int.natCast_mul i i).symm
      rw [this]
      have : i * i ≤ 7 * 7 := Nat.mul_le_mul (by omega) (by omega)
      omega
    have hm0 : (0 : Int) ≤ (i : Int) * (i : Int) := Int.mul_nonneg (by omega) (by omega)
    refine ⟨rfl, _, rfl, _, rfl, _, 1, rfl, rfl, _, _, rfl, rfl, ⟨by omega, by omega⟩, _, rfl, _, rfl, _, _, rfl, rfl, .inl ⟨by omega, by omega⟩, 1, _, rfl, rfl, _, _, rfl, rfl, ⟨by omega, by omega⟩, .inl ⟨_, rfl, _, 2, rfl, rfl, (by show (0 : Int) < 2; decide), rfl, _, rfl, ?_⟩⟩
    refine ite2 (fun _ => ?_) (fun _ => ?_)
    · refine ⟨_, rfl, kT _ _ (.refl _) ⟨c2 ++ [(i : Int)], ?_, ?_⟩⟩
      · rw [hacc, List.map_append]; rfl
      · rw [idxs_succ]
        exact hsub.append (List.Sublist.refl _)
    · exact kF _ (.refl _) ⟨c2, hacc, by rw [idxs_succ]; exact hsub.trans (List.sublist_append_left _ _)⟩
  rintro H1 ys s1 e1 y1 ⟨c2, rfl, hsub⟩
  rw [Int.toNat_natCast] at hsub
  exact ⟨D1, _, rfl, .inl ⟨SqL.of e1, fun b nb => q b c2 _ (s1.trans (same_new nb)) upd_same (isSet_sub hsub)⟩⟩
/-! ### _law_stretch -/
abbrev sStretch : Stmt := topS 44
abbrev nStretch : List Str := ["_law_cell_here", "_law_order_here", "_law_d", "_law_low", "_law_high"]
theorem scStretch : FnScope nStretch ["_law_cell_here", "_law_order_here"] (defScope sStretch) := ⟨rfl, rfl, rfl, by decide +kernel, rfl, by decide +kernel, by decide +kernel⟩
def spStretch : Sp := fun vs H Q _ => ∃ (i : Int) (a : Addr) (n : Nat) (o : List Int), vs = [.int i, .ref a] ∧ 1 ≤ n ∧ n ≤ 8 ∧ H a = some (.tup (o.map V.int)) ∧ o.Perm (idxs n) ∧ ∀ (p : Addr) (c : List Int) (H' : Hp), Same H H' → H' p = some (.tup (c.map V.int)) → IsSet n c → Q (.ref p) H'
theorem ok_stretch (T : Txt K mg) (D : DefAt K mg "_law_stretch" sStretch ["_law_cell_here", "_law_order_here"]) (G : Ok P w K mg base "_law_rich" 1 ["_law_cell_here"] spRich) (GD : Ok P w K mg base "_law_digits" 1 ["_law_cell_here", "_law_sizes"] spDigits) : Ok P w K mg base "_law_stretch" 2 ["_law_cell_here", "_law_order_here"] spStretch := by
  refine ok_def D scStretch (fun vs H Q E h => ?_) (fun f cdv A outer s H vs Q E hr h => ?_)
  · obtain ⟨i, a, n, o, rfl, _⟩ := h
    rfl
  obtain ⟨c, a, n, o, rfl, h1, h8, ha, ho, q⟩ := h
  have lo : o.length = n := by rw [ho.length_eq, idxs_len]
  refine ⟨_, pss_cons (ps_set (i := 2) scStretch.nd rfl (.inl rfl) (pe_callO GD hr (by decide) (pa_cons (pe_callO G hr (by decide) (pa_cons (pv 0) pa_nil)) (pa_cons (pe_lst (pa_cons (pe_callB call_len_seq (by rfl) T.len PySem.boot_len (pa_cons (pv 1) pa_nil)) (pa_cons (pe_callB call_len_seq (by rfl) T.len PySem.boot_len (pa_cons (pv 1) pa_nil)) pa_nil))) pa_nil))))
    (pss_cons (ps_set (i := 3) scStretch.nd rfl (.inl rfl) (pe_callB (call_min2 rfl) (by rfl) T.min (by decide +kernel) (pa_cons (pe_ix ix_list (pv 2) pe_int (fun _ _ => rfl)) (pa_cons (pe_ix ix_list (pv 2) pe_int (fun _ _ => rfl)) pa_nil))))
    (pss_cons (ps_set (i := 4) scStretch.nd rfl (.inl rfl) (pe_callB (call_max2 rfl) (by rfl) T.max (by decide +kernel) (pa_cons (pe_ix ix_list (pv 2) pe_int (fun _ _ => rfl)) (pa_cons (pe_ix ix_list (pv 2) pe_int (fun _ _ => rfl)) pa_nil))))
    (pss_one (ps_ret (pe_callTy call_tuple_of (by rfl) T.tuple (by decide +kernel) (pa_cons (pe_callB cr_sortedTI (by rfl) T.sorted (by decide +kernel) (pa_cons (pe_slice sl_tupA (pv 1) (po_some (pv 3)) (po_some (pe_op op_add (pv 4) pe_int))) pa_nil)) pa_nil)))))), ?_⟩
  refine ⟨_, rfl, c, rfl, fun r => ⟨_, rfl, a, _, rfl, .inr (SqT.of ha), _, rfl, a, _, rfl, .inr (SqT.of ha), (by show 2 ≤ sizeLine; decide), fun b nb => ?_⟩⟩
  have s1 : Same H (upd H b (.lst [.int ((o.map V.int).length : Nat), .int ((o.map V.int).length : Nat)])) := same_new nb
  have el : ((o.map V.int).length : Int) = (n : Int) := by rw [List.length_map, lo]
  refine ⟨r, b, [(n : Int), (n : Int)], rfl, by rw [upd_same, el]; rfl, fun z m => ?_, (by show 2 ≤ 10; decide), fun p ds H2 s2 e2 l2 h2 => ?_⟩
  · have : z = (n : Int) := by simpa using m
    omega
  have l2 : ds.length = 2 := l2
  match ds, l2, e2, h2 with
  | [d0, d1], _, e2, h2 =>
    have b0 := h2 0 d0 (n : Int) rfl rfl
    have b1 := h2 1 d1 (n : Int) rfl rfl
    have a2 := s2 _ _ (s1 _ _ ha)
    refine ⟨_, rfl, p, _, _, _, rfl, rfl, SqL.of e2, atI_nat (j := 0) rfl, _, rfl, p, _, _, _, rfl, rfl, SqL.of e2, atI_nat (j := 1) rfl, _, _, rfl, ?_⟩
    refine ⟨_, rfl, p, _, _, _, rfl, rfl, SqL.of e2, atI_nat (j := 0) rfl, _, rfl, p, _, _, _, rfl, rfl, SqL.of e2, atI_nat (j := 1) rfl, _, _, rfl, ?_⟩
    have ho' : o.Nodup := ho.nodup_iff.mpr ((idxs_asc n).imp fun h => by omega)
    refine ⟨_, rfl, _, rfl, _, rfl, _, rfl, _, 1, rfl, rfl, _, rfl, ?_⟩
    refine sl_any a2 fun t H3 s3 e3 => ?_
    have ec : ∀ lo hi, ∃ o' : List Int, cutV (o.map V.int) lo hi = o'.map V.int ∧ o'.Sublist o := fun lo hi => by
      unfold cutV
      rw [← List.map_drop, ← List.map_take]
      exact ⟨_, rfl, (List.take_sublist _ _).trans (List.drop_sublist _ _)⟩
    obtain ⟨o', eo', so'⟩ := ec (some (if d1 < d0 then d1 else d0)) (some ((if d1 > d0 then d1 else d0) + 1))
    have e3' := e3.trans (congrArg (fun x => some (HO.tup x)) eo')
    refine ⟨t, o', rfl, e3', fun ns p5 perm srt n5 => ⟨p5, _, rfl, .inl ⟨SqL.of upd_same, fun b6 n6 => q b6 ns _ ((s1.trans s2).trans ((s3.trans (same_new n5)).trans (same_new n6))) upd_same ⟨?_, fun x m => ?_⟩⟩⟩⟩
    · have nd : ns.Nodup := perm.nodup_iff.mpr (ho'.sublist so')
      exact List.Pairwise.imp₂ (fun a b h1 h2 => by omega) srt nd
    · exact mem_idxs.mp (ho.mem_iff.mp (so'.subset (perm.mem_iff.mp m)))
end
end K26
set_option maxHeartbeats 8000000
namespace K26
open PySem PySem.Spec PyProof.Rows L2
theorem lexLt_eq : ∀ a b : List Int, HT.lexLt a b = lexL a b
  | [], [] => rfl
  | [], _ :: _ => rfl
  | _ :: _, [] => rfl
  | x :: xs, y :: ys => by
    show (if x = y then HT.lexLt xs ys else decide (x < y)) = (if x = y then lexL xs ys else decide (x < y))
    rw [lexLt_eq xs ys]
def rLenS (K : PySem.W.Frag) : List V → Hp → VK → Prop := fun xs H Q => ∃ p ys, xs = [.ref p] ∧ (SqL K H p ys ∨ SqT K H p ys) ∧ Q (.int ys.length) H
/-- the sets of a choice, as a list -/
theorem sets_comp {K : PySem.W.Frag} {σ : L2.St} {H : Hp} {a t : Addr} {i : Nat} {ws : List V} {S : List (List Int)} {ch : List Int} {Q : VK} (hl : 12 ≤ σ.length) (h4 : σ[4]? = some (some (.ref a))) (hi : σ[i]? = some (some (.ref t))) (ha : H a = some (.tup ws)) (hS : SetsAt H S ws) (ht : H t = some (.tup (ch.map V.int)))
    (hc : ∀ x ∈ ch, 0 ≤ x ∧ x < S.length) (few : ch.length ≤ 100) (k : ∀ D H' acc, Same H H' → H' D = some (.lst acc) → SetsAt H' (setsAt S ch) acc → Q (.ref D) H') : tLc (iTup K (tVar i)) (gName 11) tYes (tOp (rIxT K) (tVar 4) (tVar 11)) [11] σ H Q := by
  refine ⟨_, hi, t, rfl, ⟨_, SqT.of ht⟩, fun D1 n1 => ?_⟩
  have w11 : ∀ x : V, ((wipe σ [11]).set 11 (some x))[11]? = some (some x) := fun x => by
    show ((σ.set 11 none).set 11 (some x))[11]? = _
    rw [List.getElem?_set_self (by rw [List.length_set]; omega)]
  have w4 : ∀ x : V, ((wipe σ [11]).set 11 (some x))[4]? = some (some (.ref a)) := fun x => by
    show ((σ.set 11 none).set 11 (some x))[4]? = _
    rw [List.getElem?_set_ne (by decide), List.getElem?_set_ne (by decide)]
    exact h4
  have lws := hS.length
  refine lcf_tup (K := K) (a := t) (xs := ch.map V.int) (fun i acc H' => SetsAt H' (setsAt S (ch.take i)) acc) n1 ht (by rw [List.length_map]; omega) (fun _ _ _ _ k h => h.mono k) rfl ?_ ?_
  · intro e y H5 acc QT QF hy s5 hacc kT kF
    rw [List.getElem?_map] at hy
    obtain ⟨u, hu, rfl⟩ := Option.map_eq_some_iff.mp hy
    have mu := hc u (List.mem_of_getElem? hu)
    have lu : u.toNat < ws.length := by omega
    have eu : u = ((u.toNat : Nat) : Int) := by omega
    have hS5 := hS.mono (same_kept s5)
    obtain ⟨c2, c3, e3, hc3, hb3⟩ := hS5.get (List.getElem?_eq_getElem lu)
    refine ⟨?_, tyes ⟨_, w4 _, _, w11 _, a, ws, u, .ref c2, rfl, rfl, SqT.of (s5 _ _ ha), at_of eu (by rw [← e3]; exact List.getElem?_eq_getElem lu), kT _ _ (.refl _) ?_⟩⟩
    · show ((σ.set 11 none).set 11 _).set 11 none = σ.set 11 none
      rw [List.set_set, List.set_set]
    · have es : setsAt S (ch.take (e + 1)) = setsAt S (ch.take e) ++ [c3] := by
        unfold setsAt
        rw [take_snoc hu, List.map_append, List.map_cons, List.map_nil]
        have : S.getD u.toNat [] = c3 := by
          rw [List.getD_eq_getElem?_getD, hc3]; rfl
        rw [this]
      rw [es]
      exact hacc.append (.one hb3)
  intro H5 acc s5 e5 l5 hacc
  rw [List.length_map, List.take_length] at hacc
  exact k D1 H5 acc s5 e5 hacc
/-- tuple(xs), xs a list or a tuple -/
abbrev rTupOf (K : PySem.W.Frag) : List V → Hp → VK → Prop := fun xs H Q => ∃ p ys, xs = [.ref p] ∧ ((SqL K H p ys ∧ ∀ l, H l = none → Q (.ref l) (upd H l (.tup ys))) ∨ (SqT K H p ys ∧ Q (.ref p) H))
/-- the sets of a choice, as a tuple, the last argument of a call -/
theorem sets_tup {K : PySem.W.Frag} {σ : L2.St} {H : Hp} {a t : Addr} {i : Nat} {ws : List V} {S : List (List Int)} {ch : List Int} {Q : List V → Hp → Prop} (hl : 12 ≤ σ.length) (h4 : σ[4]? = some (some (.ref a))) (hi : σ[i]? = some (some (.ref t))) (ha : H a = some (.tup ws)) (hS : SetsAt H S ws) (ht : H t = some (.tup (ch.map V.int)))
    (hc : ∀ x ∈ ch, 0 ≤ x ∧ x < S.length) (few : ch.length ≤ 100) (k : ∀ pz H' acc, Same H H' → H' pz = some (.tup acc) → SetsAt H' (setsAt S ch) acc → Q [.ref pz] H') : tCons (tCB (rTupOf K) (tCons (tLc (iTup K (tVar i)) (gName 11) tYes (tOp (rIxT K) (tVar 4) (tVar 11)) [11]) tNil)) tNil σ H Q := by
  unfold tCons tCB
  dsimp only
  refine sets_comp hl h4 hi ha hS ht hc few fun D H' acc s' e' h' => ?_
  refine ⟨D, acc, rfl, .inl ⟨SqL.of e', fun pz npz => ?_⟩⟩
  have sz : Same H' (upd H' pz (.tup acc)) := same_new npz
  exact k pz _ acc (s'.trans sz) upd_same (h'.mono (same_kept sz))
theorem setsAt_ok {n : Nat} {S : List (List Int)} {ch : List Int} (hs : ∀ c ∈ S, IsSet n c) (hc : ∀ x ∈ ch, 0 ≤ x ∧ x < S.length) : ∀ c ∈ setsAt S ch, IsSet n c := fun c m => by
  obtain ⟨y, my, ey⟩ := List.mem_map.mp m
  have my' := hc y my
  have ly : y.toNat < S.length := by omega
  rw [← ey, List.getD_eq_getElem?_getD, List.getElem?_eq_getElem ly]
  exact hs _ (List.getElem_mem ly)
theorem exm_self {K : PySem.W.Frag} {C : Addr} (h1 : PySem.W.subIn K (.ref C) (.type "BaseException") = some true) (h2 : PySem.W.isClsIn K C = true) (h3 : PySem.W.typeIn K (.ref C) = some (.type "type")) (h4 : PySem.W.subIn K (.ref C) (.ref C) = some true) : PySem.W.exmOne K (.ref C) (.ref C) = some true := by
  have e2 : (PySem.W.clsIn K C).isSome = true := h2
  unfold PySem.W.exmOne
  have e3 : PySem.W.kitCls K (.ref C) (.ref C) = some true := by
    show (if ((PySem.W.clsIn K C).isSome && PySem.W.typeIn K (.ref C) == some (.type "type")) = true then PySem.W.subIn K (.ref C) (.ref C) else none) = some true
    rw [e2, h3, if_pos (by rfl)]
    exact h4
  simp only [h1, e3, beq_self_eq_true, if_true]
section
variable {P : Program} {w : World} {K : PySem.W.Frag} {mg : Str → Option Value} {base : Heap}
/-! ### the law -/
abbrev sLaw : Stmt := topS 45
abbrev nLaw : List Str := ["_law_script", "_law_d", "_law_n", "_law_order_here", "_law_sets", "_law_k", "_law_cell_here", "_law_told", "_law_bits", "_law_chosen", "_law_long_table", "_law_index"]
theorem scLaw : FnScope nLaw ["_law_script"] (defScope sLaw) := ⟨rfl, rfl, rfl, by decide +kernel, rfl, by decide +kernel, by decide +kernel⟩
def spLaw (K : PySem.W.Frag) : Sp := fun vs H Q _ => ∃ (a : Addr) (ns : List Int), vs = [.ref a] ∧ SqL K H a (ns.map V.int) ∧ ∀ H', Q (.bl true) H'
theorem fn_law {f : Addr} {fd : FuncData} {C : Addr} (T : Txt K mg) (X : Exc K mg C) (F : Fun K "law" "law" sLaw f fd)
    (Gc : Ok P w K mg base "_law_cell" 1 ["_law_script", "_law_k"] (spCellI K)) (Gd : Ok P w K mg base "_law_digits" 1 ["_law_cell_here", "_law_sizes"] spDigits) (Gr : Ok P w K mg base "_law_rich" 1 ["_law_cell_here"] spRich) (Gi : Ok P w K mg base "_law_is_integer" 1 ["_law_actual"] spIsInt)
    (Go : Ok P w K mg base "_law_order" 2 ["_law_cell_here", "_law_n"] spOrder) (Gs : Ok P w K mg base "_law_set" 2 ["_law_cell_here", "_law_n"] spSetL) (Gt : Ok P w K mg base "_law_stretch" 2 ["_law_cell_here", "_law_order_here"] spStretch)
    (Gg : Ok P w K mg base "greatest_choice" 39 ["n", "sets"] spGC) (Gx : ∃ f fd, FnOk P w K mg base (L2.CX P w) 4 f fd ["n", "sets"] (spGCX C) ∧ mg "greatest_choice" = some (.ref f) ∧ PySem.W.keepIn K (.ref f) = true ∧ Binds K fd ["n", "sets"] []) (Gf : Ok P w K mg base "tree_of" 39 ["n", "sets"] spTreeOf) :
    FnOk P w K mg base CX0 40 f fd ["_law_script"] (spLaw K) := by
  obtain ⟨fx, fdx, FX, gx, kx, bx⟩ := Gx
  refine F.ok scLaw (fun vs H Q E h => ?_) (fun cdv A outer s H vs Q E hr h => ?_)
  · obtain ⟨a, ns, rfl, _⟩ := h
    rfl
  obtain ⟨a, ns, rfl, ha, q⟩ := h
  have hr4 : Room 4 (A.deeper (envOfC "law" (defScope sLaw) s.heap.objs.size f cdv)) := hr.mono (by decide)
  refine ⟨_, pss_cons (ps_set (i := 1) scLaw.nd rfl (.inl rfl) (pe_callO Gd hr (by decide) (pa_cons (pe_callO Gr hr (by decide) (pa_cons (pe_callO Gc hr (by decide) (pa_cons (pv 0) (pa_cons pe_int pa_nil))) pa_nil)) (pa_cons (pe_lst (pa_cons pe_int (pa_cons pe_int (pa_cons pe_int (pa_cons pe_int pa_nil))))) pa_nil))))
    (pss_cons (ps_set (i := 2) scLaw.nd rfl (.inl rfl) (pe_op op_add pe_int (pe_ix ix_list (pv 1) pe_int (fun _ _ => rfl))))
    (pss_cons (ps_set (i := 3) scLaw.nd rfl (.inr rfl) (pe_callO Go hr (by decide) (pa_cons (pe_callO Gc hr (by decide) (pa_cons (pv 0) (pa_cons pe_int pa_nil))) (pa_cons (pv 2) pa_nil))))
    (pss_cons (ps_set (i := 4) scLaw.nd rfl (.inr rfl) (pe_lst pa_nil))
    (pss_cons (ps_for PassesOwn.never rfl (pi_range1 (by rfl) T.range (pa_cons (pe_ix ix_list (pv 1) pe_int (fun _ _ => rfl)) pa_nil)) (pg_name (i := 5) scLaw.nd rfl (.inl rfl))
      (pss_cons (ps_set (i := 6) scLaw.nd rfl (.inl rfl) (pe_op op_add (pe_callO Gc hr (by decide) (pa_cons (pv 0) (pa_cons (pe_op op_add pe_int (pv 5)) pa_nil))) (pv 5)))
      (pss_one (ps_expr (pe_bm PySem.F.plainAttrs_list PySem.F.slot_list_append PySem.F.type_list_append mt_append (pv 4) (pa_cons
        (pe_ix ix_list (pe_lst (pa_cons (pe_callO Gs hr (by decide) (pa_cons (pe_op op_fdivN (pv 6) pe_int) (pa_cons (pv 2) pa_nil))) (pa_cons (pe_callO Gt hr (by decide) (pa_cons (pe_op op_fdivN (pv 6) pe_int) (pa_cons (pv 3) pa_nil))) pa_nil)))
          (pe_op op_mod (pe_callTy call_int1 (by rfl) T.int (by decide +kernel) (pa_cons (pv 6) pa_nil)) pe_int) (fun _ _ => rfl)) pa_nil))))))
    (pss_cons (ps_set (i := 4) scLaw.nd rfl (.inr rfl) (pe_callTy call_tuple_of (by rfl) T.tuple (by decide +kernel) (pa_cons (pv 4) pa_nil)))
    (pss_cons (ps_set (i := 7) scLaw.nd rfl (.inr rfl) (pe_callO Gg hr (by decide) (pa_cons (pv 2) (pa_cons (pv 4) pa_nil))))
    (pss_cons (ps_if (PW.pt (pw_or (pt_not (pt_val (pe_callB call_isi (by rfl) T.isinstance (by decide +kernel) (pa_cons (pv 7) (pa_cons (pe_bltn (v := .ty "tuple") (by rfl) T.tuple (by decide +kernel) rfl) pa_nil)))))
        (pw_or1 (pt_cmpR (op_neD hr.units)
          (pe_lc (own := [("_law_k", 5)]) (g := gName 5) (te := tVar 5) rfl scLaw.nd (pi_tup (pv 7)) (blkOk_by (N := nLaw) (sc := defScope sLaw) (by decide +kernel)) (fun _ _ _ _ _ => pg_name (i := 5) scLaw.nd rfl (.inl rfl))
            (fun _ _ _ _ _ => pts_one (PW.pt (pw_or (pt_not (pt_val (pe_callO Gi hr (by decide) (pa_cons (pv 5) pa_nil)))) (pw_or (pt_cmpR op_lt (pv 5) pe_int (nomark _)) (pw_or1 (pt_cmpR op_ge (pv 5) (pe_callB (r := rLenS K) call_len_seq (by rfl) T.len PySem.boot_len (pa_cons (pv 4) pa_nil)) (nomark _))))))) (fun _ _ _ _ _ => pv 5))
          (pe_lst pa_nil) (nomark _))))) pss_never pss_nil)
    (pss_cons (ps_if (pt_cmpR (op_neD hr.units)
          (pe_lc (own := [("_law_k", 5)]) (g := gName 5) (te := tVar 5) rfl scLaw.nd (pi_range2 (by rfl) T.range (pa_cons pe_int (pa_cons (pe_callB call_len_seq (by rfl) T.len PySem.boot_len (pa_cons (pv 7) pa_nil)) pa_nil))) (blkOk_by (N := nLaw) (sc := defScope sLaw) (by decide +kernel)) (fun _ _ _ _ _ => pg_name (i := 5) scLaw.nd rfl (.inl rfl))
            (fun _ _ _ _ _ => pts_one (pt_cmpR op_ge (pe_ix (r := rIxT K) ix_tup (pv 7) (pe_op op_sub (pv 5) pe_int) (fun _ _ => rfl)) (pe_ix (r := rIxT K) ix_tup (pv 7) (pv 5) (fun _ _ => rfl)) (nomark _))) (fun _ _ _ _ _ => pv 5))
          (pe_lst pa_nil) (nomark _)) pss_never pss_nil)
    (pss_cons (ps_if (pt_cmp (pc_isN (pe_callO Gf hr (by decide) (pa_cons (pv 2) (pa_cons (pe_callTy call_tuple_of (by rfl) T.tuple (by decide +kernel) (pa_cons
          (pe_lc (own := [("_law_index", 11)]) (g := gName 11) (tt := tYes) (te := tOp (rIxT K) (tVar 4) (tVar 11)) rfl scLaw.nd (pi_tup (pv 7)) (blkOk_by (N := nLaw) (sc := defScope sLaw) (by decide +kernel)) (fun _ _ _ _ _ => pg_name (i := 11) scLaw.nd rfl (.inl rfl)) (fun _ _ _ _ _ => pts_nil) (fun _ _ _ _ _ => pe_ix ix_tup (pv 4) (pv 11) (fun _ _ => rfl))) pa_nil)) pa_nil))))) pss_never pss_nil)
    (pss_cons (ps_for PassesOwn.never rfl (pi_range1 (by rfl) T.range (pa_cons pe_int pa_nil)) (pg_name (i := 5) scLaw.nd rfl (.inl rfl))
      (pss_cons (ps_set (i := 8) scLaw.nd rfl (.inr rfl) (pe_op op_mod (pe_callTy call_int1 (by rfl) T.int (by decide +kernel) (pa_cons (pe_op op_add (pe_ix ix_list (pv 1) pe_int (fun _ _ => rfl)) (pe_op op_mul (pv 5) (pe_callTy call_int1 (by rfl) T.int (by decide +kernel) (pa_cons (pe_op op_fdivN (pe_callO Gr hr (by decide) (pa_cons (pe_callO Gc hr (by decide) (pa_cons (pv 0) (pa_cons pe_int pa_nil))) pa_nil)) pe_int) pa_nil)))) pa_nil)) pe_int))
      (pss_cons (ps_set (i := 9) scLaw.nd rfl (.inl rfl) (pe_callTy call_tuple_of (by rfl) T.tuple (by decide +kernel) (pa_cons
          (pe_lc (own := [("_law_index", 11)]) (g := gName 11) (te := tVar 11) rfl scLaw.nd (pi_range1 (by rfl) T.range (pa_cons (pe_callB call_len_seq (by rfl) T.len PySem.boot_len (pa_cons (pv 4) pa_nil)) pa_nil)) (blkOk_by (N := nLaw) (sc := defScope sLaw) (by decide +kernel)) (fun _ _ _ _ _ => pg_name (i := 11) scLaw.nd rfl (.inl rfl))
            (fun _ _ _ _ _ => pts_one (pt_cmpR op_eq (pe_op op_mod (pe_callTy call_int1 (by rfl) T.int (by decide +kernel) (pa_cons (pe_op op_fdivN (pv 8) (pe_ix (r := rIxL K) ix_list (pe_lst (pa_cons pe_int (pa_cons pe_int (pa_cons pe_int (pa_cons pe_int (pa_cons pe_int (pa_cons pe_int (pa_cons pe_int (pa_cons pe_int pa_nil))))))))) (pv 11) (fun _ _ => rfl))) pa_nil)) pe_int) pe_int (nomark _))) (fun _ _ _ _ _ => pv 11)) pa_nil)))
      (pss_one (ps_if (PW.pt (pw_or (pt_cmpR op_gt (pe_callB call_len_seq (by rfl) T.len PySem.boot_len (pa_cons (pv 9) pa_nil)) (pe_callB call_len_seq (by rfl) T.len PySem.boot_len (pa_cons (pv 7) pa_nil)) (nomark _))
            (pw_or1 (PW.pt (pw_and (pt_cmpR op_eq (pe_callB call_len_seq (by rfl) T.len PySem.boot_len (pa_cons (pv 9) pa_nil)) (pe_callB call_len_seq (by rfl) T.len PySem.boot_len (pa_cons (pv 7) pa_nil)) (nomark _)) (pw_and1 (pt_cmpR (op_ltT hr.units0) (pv 9) (pv 7) (nomark _))))))))
          (pss_one (ps_if (pt_cmp (pc_notN (pe_callO Gf hr (by decide) (pa_cons (pv 2) (pa_cons (pe_callTy call_tuple_of (by rfl) T.tuple (by decide +kernel) (pa_cons
            (pe_lc (own := [("_law_index", 11)]) (g := gName 11) (tt := tYes) (te := tOp (rIxT K) (tVar 4) (tVar 11)) rfl scLaw.nd (pi_tup (pv 9)) (blkOk_by (N := nLaw) (sc := defScope sLaw) (by decide +kernel)) (fun _ _ _ _ _ => pg_name (i := 11) scLaw.nd rfl (.inl rfl)) (fun _ _ _ _ _ => pts_nil) (fun _ _ _ _ _ => pe_ix ix_tup (pv 4) (pv 11) (fun _ _ => rfl))) pa_nil)) pa_nil))))) pss_never pss_nil)) pss_nil)))))
    (pss_cons (ps_set (i := 10) scLaw.nd rfl (.inl rfl) (pe_callTy call_tuple_of (by rfl) T.tuple (by decide +kernel) (pa_cons
        (pe_lc (own := [("_law_k", 5)]) (g := gName 5) (tt := tYes) rfl scLaw.nd (pi_range1 (by rfl) T.range (pa_cons (pe_op op_add pe_int (pe_ix ix_list (pv 1) pe_int (fun _ _ => rfl))) pa_nil)) (blkOk_by (N := nLaw) (sc := defScope sLaw) (by decide +kernel)) (fun _ _ _ _ _ => pg_name (i := 5) scLaw.nd rfl (.inl rfl)) (fun _ _ _ _ _ => pts_nil)
          (fun _ _ _ _ _ => pe_callO Gt hr (by decide) (pa_cons (pe_op op_add (pe_callO Gc hr (by decide) (pa_cons (pv 0) (pa_cons pe_int pa_nil))) (pv 5)) (pa_cons (pv 3) pa_nil)))) pa_nil)))
    (pss_cons (ps_try_only (tb := fun W => tDrop (tCallS (spGCX C) (WE W) (tCons (tVar 2) (tCons (tVar 10) tNil)))) (ts := fun _ _ _ => tRet (tC (.bl true))) (Wout := fun _ _ _ _ => False) rfl rfl (by exact ⟨rfl, by decide, .inl X.g⟩) takes0
        (fun W pn xe tk _ => pss_one (ps_expr (by exact (pe_callS FX hr4 rfl gx kx bx (fun σ => passAt tk σ) (by exact (pa_cons (pv 2) (pa_cons (pv 10) pa_nil)))))))
        (fun a oe cls d pn _ _ => pss_one (ps_ret pe_bl)))
    pss_never)))))))))))), ?_⟩
  -- the draws
  refine ⟨_, rfl, a, ns, 0, rfl, ha, fun i0 => ⟨i0, rfl, fun r0 => ⟨(by show 4 ≤ sizeLine; decide), fun b nb => ?_⟩⟩⟩
  have s1 : Same H (upd H b (.lst [.int 8, .int 9, .int 32, .int 256])) := same_new nb
  refine ⟨r0, b, [8, 9, 32, 256], rfl, upd_same, fun z m => by simp at m; omega, (by show 4 ≤ 10; decide), fun p ds H2 s2 e2 l2 h2 => ?_⟩
  have l2 : ds.length = 4 := l2
  match ds, l2, e2, h2 with
  | [d0, d1, d2, d3], _, e2, h2 =>
  have b0 := h2 0 d0 8 rfl rfl
  have b1 := h2 1 d1 9 rfl rfl
  have b2 := h2 2 d2 32 rfl rfl
  have b3 := h2 3 d3 256 rfl rfl
  clear h2
  obtain ⟨m, rfl⟩ : ∃ m : Nat, d0 = (m : Int) := ⟨d0.toNat, by omega⟩
  have hn1 : 1 ≤ 1 + m := by omega
  have hn8 : 1 + m ≤ 8 := by omega
  have s12 := s1.trans s2
  -- n, the order
  refine ⟨_, rfl, p, _, 0, .int (m : Int), rfl, rfl, SqL.of e2, atI_nat (j := 0) rfl, 1, _, rfl, rfl, ?_⟩
  refine ⟨_, rfl, a, ns, 1, rfl, s12.seq ha, fun i1 => ⟨_, rfl, i1, 1 + m, rfl, hn1, hn8, fun po o H3 s3 e3 ho => ?_⟩⟩
  have s13 := s12.trans s3
  have e2a := s3 _ _ e2
  -- the sets
  refine ⟨Nat.zero_le _, fun ps nps => ?_⟩
  have s4 : Same H3 (upd H3 ps (.lst [])) := same_new nps
  refine ⟨_, rfl, p, _, 1, .int d1, rfl, rfl, SqL.of (s4 _ _ e2a), atI_nat (j := 1) rfl, d1, rfl, by omega, by omega, ?_⟩
  refine for_range (lo := 0) (n := d1.toNat) (fun k σ H' => (∃ v5 v6, σ = [some (.ref a), some (.ref p), some (.int (1 + (m : Int))), some (.ref po), some (.ref ps), v5, v6, none, none, none, none, none]) ∧ Same H3 H' ∧ ∃ S ws, H' ps = some (.lst ws) ∧ SetsAt H' S ws ∧ S.length = k ∧ ∀ c ∈ S, IsSet (1 + m) c)
    ⟨⟨none, none, rfl⟩, s4, [], [], upd_same, rfl, rfl, fun c h => by cases h⟩ ?_ ?_
  · rintro k σ H4 hk ⟨⟨v5, v6, rfl⟩, s4', S, ws, ews, hS, lS, hs⟩
    rw [Int.zero_add]
    have s14 := s13.trans s4'
    refine ⟨_, rfl, _, rfl, 3, _, rfl, rfl, a, ns, 3 + k, rfl, s14.seq ha, fun i2 => ⟨_, rfl, _, _, rfl, rfl, ?_⟩⟩
    refine ⟨_, rfl, .inl ⟨rfl, _, SqL.of ews⟩, ?_⟩
    refine ⟨_, rfl, (i2 + (k : Int)), 2, rfl, rfl, ⟨by decide, by decide⟩, _, rfl, _, 1 + m, rfl, hn1, hn8, fun p1 c1 H5 s5 e5 hc1 => ?_⟩
    refine ⟨_, rfl, (i2 + (k : Int)), 2, rfl, rfl, ⟨by decide, by decide⟩, _, rfl, _, po, 1 + m, o, rfl, hn1, hn8, s5 _ _ (s4' _ _ e3), ho, fun p2 c2 H6 s6 e6 hc2 => ⟨(by show 2 ≤ sizeLine; decide), fun pl npl => ?_⟩⟩
    have s7 : Same H6 (upd H6 pl (.lst [.ref p1, .ref p2])) := same_new npl
    have s47 := (s5.trans s6).trans s7
    have ews7 := s47 _ _ ews
    have lws := hS.length
    refine ⟨_, rfl, .inl ⟨_, rfl, (i2 + (k : Int)), 2, rfl, rfl, (by show (0 : Int) < 2; decide), ?_⟩⟩
    have fin : ∀ pz c, IsSet (1 + m) c → (upd H6 pl (.lst [.ref p1, .ref p2])) pz = some (.tup (c.map V.int)) → (∃ v5 v6, ([some (.ref a), some (.ref p), some (.int (1 + (m : Int))), some (.ref po), some (.ref ps), some (.int (k : Int)), some (.int (i2 + (k : Int))), none, none, none, none, none] : L2.St) = [some (.ref a), some (.ref p), some (.int (1 + (m : Int))), some (.ref po), some (.ref ps), v5, v6, none, none, none, none, none]) ∧ Same H3 (upd (upd H6 pl (.lst [.ref p1, .ref p2])) ps (.lst (ws ++ [.ref pz]))) ∧ ∃ S' ws', (upd (upd H6 pl (.lst [.ref p1, .ref p2])) ps (.lst (ws ++ [.ref pz]))) ps = some (.lst ws') ∧ SetsAt (upd (upd H6 pl (.lst [.ref p1, .ref p2])) ps (.lst (ws ++ [.ref pz]))) S' ws' ∧ S'.length = k + 1 ∧ ∀ c ∈ S', IsSet (1 + m) c := fun pz c hc hz => by
      have kp : Kept (upd H6 pl (.lst [.ref p1, .ref p2])) (upd (upd H6 pl (.lst [.ref p1, .ref p2])) ps (.lst (ws ++ [.ref pz]))) := kept_lst ews7
      refine ⟨⟨_, _, rfl⟩, same_put (s4'.trans s47) nps, S ++ [c], _, upd_same, ((hS.mono (same_kept s47)).mono kp).append (.one (kp _ _ hz)), by rw [List.length_append, List.length_singleton, lS], fun x hx => ?_⟩
      rcases List.mem_append.mp hx with hx | hx
      · exact hs x hx
      · rw [List.mem_singleton] at hx
        rw [hx]
        exact hc
    have r0' := Int.emod_nonneg (i2 + (k : Int)) (show (2 : Int) ≠ 0 by decide)
    have r1' := Int.emod_lt_of_pos (i2 + (k : Int)) (show (0 : Int) < 2 by decide)
    rcases (show (i2 + (k : Int)) % 2 = 0 ∨ (i2 + (k : Int)) % 2 = 1 by omega) with h01 | h01
    · refine ⟨pl, _, (i2 + (k : Int)) % 2, .ref p1, rfl, rfl, SqL.of upd_same, at_of (j := 0) h01 rfl, ps, ws, _, rfl, rfl, ews7, small1000 (by omega), ?_⟩
      exact fin p1 c1 hc1 (s7 _ _ (s6 _ _ e5))
    · refine ⟨pl, _, (i2 + (k : Int)) % 2, .ref p2, rfl, rfl, SqL.of upd_same, at_of (j := 1) h01 rfl, ps, ws, _, rfl, rfl, ews7, small1000 (by omega), ?_⟩
      exact fin p2 c2 hc2 (s7 _ _ e6)
  rintro σ H4 ⟨⟨v5, v6, rfl⟩, s4', S, ws, ews, hS, lS, hs⟩
  have lws := hS.length
  have lS8 : S.length ≤ 8 := by omega
  refine ⟨_, rfl, ps, ws, rfl, .inl ⟨SqL.of ews, fun pt npt => ?_⟩⟩
  have s5 : Same H4 (upd H4 pt (.tup ws)) := same_new npt
  -- told
  refine ⟨_, rfl, _, rfl, 1 + m, pt, S, ws, rfl, hn1, hn8, upd_same, hS.mono (same_kept s5), lS8, hs, fun pg ch H6 s6 e6 hg => ?_⟩
  have s16 := (s13.trans s4').trans (s5.trans s6)
  have ept : H6 pt = some (.tup ws) := s6 _ _ upd_same
  have hS6 := hS.mono (same_kept (s5.trans s6))
  have e3b := s6 _ _ (s5 _ _ (s4' _ _ e3))
  have e2b := s6 _ _ (s5 _ _ (s4' _ _ e2a))
  have chm : ∀ y ∈ ch, 0 ≤ y ∧ y < S.length := fun y hy => mem_idxs.mp (hg.sub.subset hy)
  have chl : ch.length ≤ 8 := by
    have := hg.sub.length_le
    rw [idxs_len] at this
    omega
  have chs : ch.Pairwise (· < ·) := (idxs_asc _).sublist hg.sub
  clear s12 s13 s4' s5 s4 s3 s2 s1
  -- it is a tuple of indexes
  refine ⟨_, rfl, _, _, _, _, true, rfl, .ty "tuple", .base (.tup e6), kit_ty (by decide +kernel), _, rfl, iteF ?_⟩
  refine ⟨_, rfl, pg, rfl, ⟨_, SqT.of e6⟩, fun D7 n7 => ?_⟩
  refine lcf_tup (K := K) (a := pg) (xs := ch.map V.int) (fun i acc H' => acc = []) n7 e6 (by rw [List.length_map]; omega) (fun _ _ _ _ _ h => h) rfl ?_ ?_
  · intro e y H5 acc QT QF hy s5 hacc kT kF
    rw [List.getElem?_map] at hy
    obtain ⟨u, hu, rfl⟩ := Option.map_eq_some_iff.mp hy
    have mu := chm u (List.mem_of_getElem? hu)
    exact ⟨rfl, _, rfl, u, rfl, _, rfl, iteF ⟨_, rfl, u, 0, rfl, rfl, false, blF (by omega), iteF ⟨_, rfl, _, rfl, pt, ws, rfl, .inr (SqT.of (s5 _ _ ept)), u, _, rfl, rfl, false, blF (by omega), iteF (kF _ (.refl _) hacc)⟩⟩⟩
  intro H7 acc s7 e7 l7 hacc
  subst hacc
  refine ⟨Nat.zero_le _, fun q8 n8 => ?_⟩
  have s8 : Same H7 (upd H7 q8 (.lst [])) := same_new n8
  refine ints_ne (ns := []) (s8 _ _ e7) upd_same ⟨_, rfl, iteF ?_⟩
  have s68 := s7.trans s8
  have e6c := s68 _ _ e6
  -- they ascend
  have l6 : (ch.map V.int).length = ch.length := List.length_map _
  refine ⟨_, rfl, pg, _, rfl, .inr (SqT.of e6c), 1, ((ch.map V.int).length : Int), rfl, ⟨by omega, by omega, by omega, by omega⟩, fun D9 n9 => ?_⟩
  refine lcf_range (lo := 1) (n := (((ch.map V.int).length : Int) - 1).toNat) (fun i acc H' => acc = []) n9 (by omega) (fun _ _ _ _ _ h => h) rfl ?_ ?_
  · intro i H5 acc QT QF hi s5 hacc kT kF
    have hi1 : i + 1 < ch.length := by omega
    have hi0 : i < ch.length := by omega
    have lt := List.pairwise_iff_getElem.mp chs i (i + 1) hi0 hi1 (Nat.lt_succ_self i)
    refine ⟨rfl, _, rfl, _, rfl, _, 1, rfl, rfl, pg, _, _, .int ch[i], rfl, rfl, SqT.of (s5 _ _ e6c), at_of (j := i) (by omega) (ints_get hi0), _, rfl, _, rfl, pg, _, _, .int ch[i + 1], rfl, rfl, SqT.of (s5 _ _ e6c), at_of (j := i + 1) (by omega) (ints_get hi1), _, _, rfl, rfl, false, blF (by omega), iteF (kF _ (.refl _) hacc)⟩
  intro H9 acc s9 e9 l9 hacc
  subst hacc
  refine ⟨Nat.zero_le _, fun q10 n10 => ?_⟩
  have s10 : Same H9 (upd H9 q10 (.lst [])) := same_new n10
  refine ints_ne (ns := []) (s10 _ _ e9) upd_same ⟨_, rfl, iteF ?_⟩
  have s610 := s68.trans (s9.trans s10)
  generalize hHx : upd H9 q10 (.lst []) = Hx at *
  have ept1 := s610 _ _ ept
  have e61 := s610 _ _ e6
  have hS1 := hS6.mono (same_kept s610)
  have s1x := s16.trans s610
  have e2x := s610 _ _ e2b
  have e3x := s610 _ _ e3b
  -- an order fits the choice
  refine ⟨_, rfl, sets_tup (by show 12 ≤ 12; decide) rfl rfl ept1 hS1 e61 chm (by omega) fun pz Ha acc sa ea hacc => ?_⟩
  have lsa : (setsAt S ch).length = ch.length := List.length_map _
  refine ⟨1 + m, pz, setsAt S ch, acc, rfl, hn1, hn8, ea, hacc, by omega, setsAt_ok hs chm, ?_, ?_⟩
  · intro hnone
    have := hg.ok
    unfold fits at this
    rw [hnone] at this
    cases this
  intro t ht v Hb sb hv
  refine ⟨false, blF (tree_non hv), iteF ?_⟩
  have sxb := sa.trans sb
  have s1b := s1x.trans sxb
  have ept2 := sxb _ _ ept1
  have e62 := sxb _ _ e61
  have e2y := sxb _ _ e2x
  have e3y := sxb _ _ e3x
  have hS2 := hS1.mono (same_kept sxb)
  -- no drawn choice is better
  refine ⟨12, rfl, by decide, by decide, ?_⟩
  refine for_range (lo := 0) (n := 12) (fun k σ H' => (∃ v5 v8 v9, σ = [some (.ref a), some (.ref p), some (.int (1 + (m : Int))), some (.ref po), some (.ref pt), v5, v6, some (.ref pg), v8, v9, none, none]) ∧ Same Hb H') ⟨⟨_, none, none, rfl⟩, .refl _⟩ ?_ ?_
  · rintro k σ Hc hk ⟨⟨v5, v8, v9, rfl⟩, sc⟩
    rw [Int.zero_add]
    have s1c := s1b.trans sc
    refine ⟨_, rfl, p, _, 3, .int d3, rfl, rfl, SqL.of (sc _ _ e2y), atI_nat (j := 3) rfl, _, rfl, _, rfl, a, ns, 2, rfl, s1c.seq ha, fun i3 => ⟨i3, rfl, fun r3 => ⟨_, 7, rfl, rfl, ⟨by decide, by decide⟩, .inl ⟨_, rfl, _, _, rfl, rfl, .inl ⟨by omega, by omega⟩, _, _, rfl, rfl, .inl ⟨_, rfl, _, 256, rfl, rfl, (by show (0 : Int) < 256; decide), ?_⟩⟩⟩⟩⟩
    have ept3 := sc _ _ ept2
    -- chosen
    refine ⟨_, rfl, pt, ws, rfl, .inr (SqT.of ept3), (ws.length : Int), rfl, by omega, by omega, fun Dd nd => ?_⟩
    refine lcf_range (lo := 0) (n := ((ws.length : Nat) : Int).toNat) (fun i acc H' => ∃ c : List Int, acc = c.map V.int ∧ c.Sublist (idxs i)) nd (by omega) (fun _ _ _ _ _ h => h) ⟨[], rfl, List.nil_sublist _⟩ ?_ ?_
    · rintro i H5 acc QT QF hi s5 ⟨c2, hacc, hsub⟩ kT kF
      rw [Int.zero_add]
      have hi8 : i < 8 := by omega
      have pw : ∃ z : Int, ([V.int 1, .int 2, .int 4, .int 8, .int 16, .int 32, .int 64, .int 128] : List V)[i]? = some (.int z) ∧ 1 ≤ z ∧ z ≤ 128 := by
        match i, hi8 with
        | 0, _ => exact ⟨1, rfl, by decide, by decide⟩
        | 1, _ => exact ⟨2, rfl, by decide, by decide⟩
        | 2, _ => exact ⟨4, rfl, by decide, by decide⟩
        | 3, _ => exact ⟨8, rfl, by decide, by decide⟩
        | 4, _ => exact ⟨16, rfl, by decide, by decide⟩
        | 5, _ => exact ⟨32, rfl, by decide, by decide⟩
        | 6, _ => exact ⟨64, rfl, by decide, by decide⟩
        | 7, _ => exact ⟨128, rfl, by decide, by decide⟩
      obtain ⟨z, hz, z1, z2⟩ := pw
      refine ⟨rfl, _, rfl, (by show 8 ≤ sizeLine; decide), fun pl npl => ⟨_, rfl, pl, _, (i : Int), .int z, rfl, rfl, SqL.of upd_same, atI_nat hz, _, z, rfl, rfl, ⟨by omega, by omega⟩, .inl ⟨_, rfl, _, 2, rfl, rfl, (by show (0 : Int) < 2; decide), rfl, _, rfl, ?_⟩⟩⟩
      refine ite2 (fun _ => ?_) (fun _ => ?_)
      · refine ⟨_, rfl, kT _ _ (same_new npl) ⟨c2 ++ [(i : Int)], ?_, ?_⟩⟩
        · rw [hacc, List.map_append]; rfl
        · rw [idxs_succ]
          exact hsub.append (List.Sublist.refl _)
      · exact kF _ (same_new npl) ⟨c2, hacc, by rw [idxs_succ]; exact hsub.trans (List.sublist_append_left _ _)⟩
    rintro Hd ys sd ed ld ⟨c2, rfl, hsub⟩
    rw [Int.toNat_natCast, lws] at hsub
    have cm : ∀ y ∈ c2, 0 ≤ y ∧ y < S.length := fun y hy => mem_idxs.mp (hsub.subset hy)
    have cl : c2.length ≤ 8 := by
      have := hsub.length_le
      rw [idxs_len] at this
      omega
    refine ⟨Dd, _, rfl, .inl ⟨SqL.of ed, fun pc npc => ?_⟩⟩
    have se : Same Hd (upd Hd pc (.tup (c2.map V.int))) := same_new npc
    have sbe := sc.trans (sd.trans se)
    have epc : (upd Hd pc (.tup (c2.map V.int))) pc = some (.tup (c2.map V.int)) := upd_same
    generalize hHe : upd Hd pc (.tup (c2.map V.int)) = He at *
    have ept4 := sbe _ _ ept2
    have e64 := sbe _ _ e62
    have hS4 := hS2.mono (same_kept sbe)
    have lc2 : (c2.map V.int).length = c2.length := List.length_map _
    -- a choice that is better fits no order
    have body : ∀ {D : Ends}, fits (1 + m) S c2 = false → (∀ H', Same Hb H' → D.nx [some (.ref a), some (.ref p), some (.int (1 + (m : Int))), some (.ref po), some (.ref pt), some (.int (k : Int)), v6, some (.ref pg), some (.int ((d3 + (k : Int) * r3.fdiv 7) % 256)), some (.ref pc), none, none] H') →
        tIfS (tB (tNotN (tCall spTreeOf [] E0 (tCons (tVar 2) (tCons (tCB (rTupOf K) (tCons (tLc (iTup K (tVar 9)) (gName 11) tYes (tOp (rIxT K) (tVar 4) (tVar 11)) [11]) tNil)) tNil))))) tNever tNext D
          [some (.ref a), some (.ref p), some (.int (1 + (m : Int))), some (.ref po), some (.ref pt), some (.int (k : Int)), v6, some (.ref pg), some (.int ((d3 + (k : Int) * r3.fdiv 7) % 256)), some (.ref pc), none, none] He := fun {D} hf nx => by
      refine ⟨_, rfl, sets_tup (by show 12 ≤ 12; decide) rfl rfl ept4 hS4 epc cm (by omega) fun pz Hf acc sf ef hacc => ?_⟩
      have lsa : (setsAt S c2).length = c2.length := List.length_map _
      refine ⟨1 + m, pz, setsAt S c2, acc, rfl, hn1, hn8, ef, hacc, by omega, setsAt_ok hs cm, ?_, ?_⟩
      · intro hnone Hh sh
        exact ⟨false, rfl, iteF (nx _ (sbe.trans (sf.trans sh)))⟩
      · intro t ht
        unfold fits at hf
        rw [ht] at hf
        cases hf
    refine ⟨_, rfl, pc, _, rfl, .inr (SqT.of epc), _, rfl, pg, _, rfl, .inr (SqT.of e64), _, _, rfl, rfl, ?_⟩
    by_cases hlen : ch.length < c2.length
    · refine ⟨true, blT (by omega), iteT (iteT (body (hg.more c2 hsub hlen) fun H' s' => ⟨⟨_, _, _, rfl⟩, s'⟩))⟩
    refine ⟨false, blF (by omega), iteF ⟨_, rfl, pc, _, rfl, .inr (SqT.of epc), _, rfl, pg, _, rfl, .inr (SqT.of e64), rfl, ?_⟩⟩
    by_cases hle : c2.length = ch.length
    · refine ⟨true, blT (by rw [lc2, l6, hle]), iteT ⟨_, rfl, _, rfl, pc, pg, c2, ch, rfl, rfl, SqT.of epc, SqT.of e64, _, rfl, ?_⟩⟩
      rw [lexLt_eq]
      cases hlx : lexL c2 ch with
      | true => exact iteT (body (hg.first c2 hsub hle hlx) fun H' s' => ⟨⟨_, _, _, rfl⟩, s'⟩)
      | false => exact iteF ⟨⟨_, _, _, rfl⟩, sbe⟩
    · exact ⟨false, blF (fun e => hle (by rw [lc2, l6] at e; injection e with e; omega)), iteF (iteF ⟨⟨_, _, _, rfl⟩, sbe⟩)⟩
  rintro σ Hc ⟨⟨v5, v8, v9, rfl⟩, sc⟩
  have s1c := s1b.trans sc
  -- the long table
  refine ⟨_, rfl, p, _, 2, .int d2, rfl, rfl, SqL.of (sc _ _ e2y), atI_nat (j := 2) rfl, 9, d2, rfl, rfl, 9 + d2, rfl, by omega, by omega, fun Dd nd => ?_⟩
  refine lcf_range (lo := 0) (n := (9 + d2).toNat) (fun i acc H' => ∃ S, SetsAt H' S acc ∧ S.length = i ∧ ∀ c ∈ S, IsSet (1 + m) c) nd (by omega) (fun _ _ _ _ kp ⟨S, h1, h2, h3⟩ => ⟨S, h1.mono kp, h2, h3⟩) ⟨[], rfl, rfl, fun c h => by cases h⟩ ?_ ?_
  · rintro i H5 acc QT QF hi s5 ⟨S2, hS3, lS3, hs3⟩ kT kF
    refine ⟨rfl, tyes ⟨_, rfl, a, ns, 2, rfl, (s1c.trans s5).seq ha, fun i4 => ⟨_, rfl, _, _, rfl, rfl, _, rfl, _, po, 1 + m, o, rfl, hn1, hn8, s5 _ _ (sc _ _ e3y), ho, fun pz c H6 s6 e6 hc => kT _ _ s6 ⟨S2 ++ [c], (hS3.mono (same_kept s6)).append (.one e6), by rw [List.length_append, List.length_singleton, lS3], fun x hx => ?_⟩⟩⟩⟩
    rcases List.mem_append.mp hx with hx | hx
    · exact hs3 x hx
    · rw [List.mem_singleton] at hx
      rw [hx]
      exact hc
  rintro Hd ys sd ed ld ⟨S2, hS3, lS3, hs3⟩
  refine ⟨Dd, ys, rfl, .inl ⟨SqL.of ed, fun pl npl => ?_⟩⟩
  have se : Same Hd (upd Hd pl (.tup ys)) := same_new npl
  exact ⟨_, rfl, _, rfl, 1 + m, pl, S2, ys, rfl, hn1, hn8, upd_same, hS3.mono (same_kept se), by omega, by omega, hs3, true, exm_self X.b X.i X.t X.s, fun _ a0 _ => q _, fun e => nomatch e⟩
end
end K26
set_option maxHeartbeats 4000000
namespace K26
open PySem PySem.Spec PyProof.Rows L2
/-! ### the defs as the top has left them -/
def BindsSo (x : Str) (st : Stmt) (ps : List Str) : Prop := ∀ (kV doc pm : Value) (an : Option Addr) (cdv ct : Value) (us : List Value), us.length = ps.length → bindArgs (PySem.W.fnOf x x (defArgs st) (defBody st) (defScope st) .none kV doc pm an cdv ct) ⟨us, []⟩ = pure (ps.zip us)
theorem def_mk {K : PySem.W.Frag} {h : Heap} {mg : Str → Option Value} {x : Str} {st : Stmt} {ps : List Str} {f : Addr} {oc kV dc pm cd ct : Value} {od an : Option Addr} {sl : Array (Option Value)} (b : BindsSo x st ps) (X : K.In h) (G : h.Ns mainGlobals mg)
    (a : PySem.W.nsIn K mainGlobals x = some (some (.ref f))) (l : K.lookup f = some ⟨oc, od, .func (PySem.W.fnOf x x (defArgs st) (defBody st) (defScope st) .none kV dc pm an cd ct), sl⟩) (c : PySem.W.codeIn K cd x = true) (k : PySem.W.keepIn K (.ref f) = true) : DefAt K mg x st ps := by
  have F := fun_mk (st := st) l c k
  exact ⟨f, _, F, PySem.W.mg_of X G a, F.binds b⟩
theorem b_0 : BindsSo "is_size" sIsSize ["n"] := fun _ _ _ _ _ _ us hl => match us, hl with | [_], _ => rfl
theorem b_1 : BindsSo "check_things" sCheckThings ["n"] := fun _ _ _ _ _ _ us hl => match us, hl with | [_], _ => rfl
theorem b_2 : BindsSo "is_set" sIsSet ["n", "chosen"] := fun _ _ _ _ _ _ us hl => match us, hl with | [_, _], _ => rfl
theorem b_3 : BindsSo "check_set" sCheckSet ["n", "chosen"] := fun _ _ _ _ _ _ us hl => match us, hl with | [_, _], _ => rfl
theorem b_4 : BindsSo "check_table" sCheckTable ["n", "sets"] := fun _ _ _ _ _ _ us hl => match us, hl with | [_, _], _ => rfl
theorem b_5 : BindsSo "is_thing" sIsThing ["tree"] := fun _ _ _ _ _ _ us hl => match us, hl with | [_], _ => rfl
theorem b_6 : BindsSo "listed" sListed ["tree"] := fun _ _ _ _ _ _ us hl => match us, hl with | [_], _ => rfl
theorem b_7 : BindsSo "least_thing" sLeast ["tree"] := fun _ _ _ _ _ _ us hl => match us, hl with | [_], _ => rfl
theorem b_8 : BindsSo "make_any" sMkAny ["parts"] := fun _ _ _ _ _ _ us hl => match us, hl with | [_], _ => rfl
theorem b_9 : BindsSo "make_row" sMkRow ["parts"] := fun _ _ _ _ _ _ us hl => match us, hl with | [_], _ => rfl
theorem b_10 : BindsSo "normalized" sNorm ["tree"] := fun _ _ _ _ _ _ us hl => match us, hl with | [_], _ => rfl
theorem b_11 : BindsSo "plain_tree" sPlain ["n"] := fun _ _ _ _ _ _ us hl => match us, hl with | [_], _ => rfl
theorem b_12 : BindsSo "share" sShare ["tree", "chosen"] := fun _ _ _ _ _ _ us hl => match us, hl with | [_, _], _ => rfl
theorem b_13 : BindsSo "with_share" sWith ["parts", "chosen", "wanted"] := fun _ _ _ _ _ _ us hl => match us, hl with | [_, _, _], _ => rfl
theorem b_14 : BindsSo "split_any" sSplitAny ["parts", "chosen"] := fun _ _ _ _ _ _ us hl => match us, hl with | [_, _], _ => rfl
theorem b_15 : BindsSo "ascends" sAsc ["shares"] := fun _ _ _ _ _ _ us hl => match us, hl with | [_], _ => rfl
theorem b_16 : BindsSo "split_row" sSplitRow ["parts", "chosen"] := fun _ _ _ _ _ _ us hl => match us, hl with | [_, _], _ => rfl
theorem b_17 : BindsSo "split" sSplit ["tree", "chosen"] := fun _ _ _ _ _ _ us hl => match us, hl with | [_, _], _ => rfl
theorem b_18 : BindsSo "joined_any" sJAny ["parts", "chosen"] := fun _ _ _ _ _ _ us hl => match us, hl with | [_, _], _ => rfl
theorem b_19 : BindsSo "joined_row" sJRow ["parts", "chosen"] := fun _ _ _ _ _ _ us hl => match us, hl with | [_, _], _ => rfl
theorem b_20 : BindsSo "joined" sJoin ["tree", "chosen"] := fun _ _ _ _ _ _ us hl => match us, hl with | [_, _], _ => rfl
theorem b_21 : BindsSo "reduced_by" sRed ["tree", "chosen"] := fun _ _ _ _ _ _ us hl => match us, hl with | [_, _], _ => rfl
theorem b_22 : BindsSo "reduced_by_all" sAll ["tree", "sets"] := fun _ _ _ _ _ _ us hl => match us, hl with | [_, _], _ => rfl
theorem b_23 : BindsSo "tree_of" sTreeOf ["n", "sets"] := fun _ _ _ _ _ _ us hl => match us, hl with | [_, _], _ => rfl
theorem b_24 : BindsSo "choices_of" sCh ["indexes", "size"] := fun _ _ _ _ _ _ us hl => match us, hl with | [_, _], _ => rfl
theorem b_25 : BindsSo "greatest_choice" sGC ["n", "sets"] := fun _ _ _ _ _ _ us hl => match us, hl with | [_, _], _ => rfl
theorem b_26 : BindsSo "_law_cell" sCell ["_law_script", "_law_k"] := fun _ _ _ _ _ _ us hl => match us, hl with | [_, _], _ => rfl
theorem b_27 : BindsSo "_law_digits" sDigits ["_law_cell_here", "_law_sizes"] := fun _ _ _ _ _ _ us hl => match us, hl with | [_, _], _ => rfl
theorem b_28 : BindsSo "_law_rich" sRich ["_law_cell_here"] := fun _ _ _ _ _ _ us hl => match us, hl with | [_], _ => rfl
theorem b_29 : BindsSo "_law_is_integer" sIsInt ["_law_actual"] := fun _ _ _ _ _ _ us hl => match us, hl with | [_], _ => rfl
theorem b_30 : BindsSo "_law_order" sOrder ["_law_cell_here", "_law_n"] := fun _ _ _ _ _ _ us hl => match us, hl with | [_, _], _ => rfl
theorem b_31 : BindsSo "_law_set" sSet ["_law_cell_here", "_law_n"] := fun _ _ _ _ _ _ us hl => match us, hl with | [_, _], _ => rfl
theorem b_32 : BindsSo "_law_stretch" sStretch ["_law_cell_here", "_law_order_here"] := fun _ _ _ _ _ _ us hl => match us, hl with | [_, _], _ => rfl
theorem b_33 : BindsSo "law" sLaw ["_law_script"] := fun _ _ _ _ _ _ us hl => match us, hl with | [_], _ => rfl
/-! ### all together -/
theorem top_ok {P : Program} {w : World} {K : PySem.W.Frag} {mg : Str → Option Value} {C : Addr} (T : Txt K mg) (X : Exc K mg C)
    (D0 : DefAt K mg "is_size" sIsSize ["n"])
    (D1 : DefAt K mg "check_things" sCheckThings ["n"])
    (D2 : DefAt K mg "is_set" sIsSet ["n", "chosen"])
    (D3 : DefAt K mg "check_set" sCheckSet ["n", "chosen"])
    (D4 : DefAt K mg "check_table" sCheckTable ["n", "sets"])
    (D5 : DefAt K mg "is_thing" sIsThing ["tree"])
    (D6 : DefAt K mg "listed" sListed ["tree"])
    (D7 : DefAt K mg "least_thing" sLeast ["tree"])
    (D8 : DefAt K mg "make_any" sMkAny ["parts"])
    (D9 : DefAt K mg "make_row" sMkRow ["parts"])
    (D10 : DefAt K mg "normalized" sNorm ["tree"])
    (D11 : DefAt K mg "plain_tree" sPlain ["n"])
    (D12 : DefAt K mg "share" sShare ["tree", "chosen"])
    (D13 : DefAt K mg "with_share" sWith ["parts", "chosen", "wanted"])
    (D14 : DefAt K mg "split_any" sSplitAny ["parts", "chosen"])
    (D15 : DefAt K mg "ascends" sAsc ["shares"])
    (D16 : DefAt K mg "split_row" sSplitRow ["parts", "chosen"])
    (D17 : DefAt K mg "split" sSplit ["tree", "chosen"])
    (D18 : DefAt K mg "joined_any" sJAny ["parts", "chosen"])
    (D19 : DefAt K mg "joined_row" sJRow ["parts", "chosen"])
    (D20 : DefAt K mg "joined" sJoin ["tree", "chosen"])
    (D21 : DefAt K mg "reduced_by" sRed ["tree", "chosen"])
    (D22 : DefAt K mg "reduced_by_all" sAll ["tree", "sets"])
    (D23 : DefAt K mg "tree_of" sTreeOf ["n", "sets"])
    (D24 : DefAt K mg "choices_of" sCh ["indexes", "size"])
    (D25 : DefAt K mg "greatest_choice" sGC ["n", "sets"])
    (D26 : DefAt K mg "_law_cell" sCell ["_law_script", "_law_k"])
    (D27 : DefAt K mg "_law_digits" sDigits ["_law_cell_here", "_law_sizes"])
    (D28 : DefAt K mg "_law_rich" sRich ["_law_cell_here"])
    (D29 : DefAt K mg "_law_is_integer" sIsInt ["_law_actual"])
    (D30 : DefAt K mg "_law_order" sOrder ["_law_cell_here", "_law_n"])
    (D31 : DefAt K mg "_law_set" sSet ["_law_cell_here", "_law_n"])
    (D32 : DefAt K mg "_law_stretch" sStretch ["_law_cell_here", "_law_order_here"])
    {f : Addr} {fd : FuncData} (F : Fun K "law" "law" sLaw f fd) (base : Heap) : FnOk P w K mg base CX0 40 f fd ["_law_script"] (spLaw K) := by
  have g0 : Ok P w K mg base "is_size" 1 ["n"] spIsSize := ok_is_size T D0
  have g1 : Ok P w K mg base "check_things" 2 ["n"] spCheckThings := ok_check_things D1 g0
  have g2 : Ok P w K mg base "is_set" 1 ["n", "chosen"] spIsSet := ok_is_set T D2
  have g3 : Ok P w K mg base "check_set" 2 ["n", "chosen"] spCheckSet := ok_check_set D3 g0 g2
  have g4 : Ok P w K mg base "check_table" 3 ["n", "sets"] spCheckTable := ok_check_table T D4 g0 g3
  have g5 : Ok P w K mg base "is_thing" 1 ["tree"] spIsThing := ok_is_thing T D5
  have g6 : Ok P w K mg base "listed" 9 ["tree"] (spListed 8) := ok_listed D6 g5 8 (by decide)
  have g7 : Ok P w K mg base "least_thing" 10 ["tree"] spLeast := ok_least T D7 g6
  have g8 : Ok P w K mg base "make_any" 1 ["parts"] spMkAny := ok_mkAny T D8
  have g9 : Ok P w K mg base "make_row" 2 ["parts"] spMkRow := ok_mkRow T D9 g8
  have g10 : Ok P w K mg base "normalized" 18 ["tree"] (spNorm 8) := ok_norm T D10 g5 g7 8 (by decide)
  have g11 : Ok P w K mg base "plain_tree" 3 ["n"] spPlain := ok_plain T D11 g1 g8
  have g12 : Ok P w K mg base "share" 10 ["tree", "chosen"] spShare := ok_share T D12 g6
  have g13 : Ok P w K mg base "with_share" 11 ["parts", "chosen", "wanted"] spWith := ok_with D13 g12
  have g15 : Ok P w K mg base "ascends" 1 ["shares"] spAsc := ok_asc T D15
  have g17 : Ok P w K mg base "split" 27 ["tree", "chosen"] (spSplit 8) := ok_split T D14 D16 D17 g13 g8 g12 g15 8
  have g18 : Ok P w K mg base "joined_any" 28 ["parts", "chosen"] spJAny := ok_jany T D18 g13 g8 g9 g17
  have g19 : Ok P w K mg base "joined_row" 28 ["parts", "chosen"] spJRow := ok_jrow T D19 g12 g9 g17
  have g20 : Ok P w K mg base "joined" 36 ["tree", "chosen"] (spJoin 8) := ok_join T D20 g5 g12 g18 g19 8
  have g21 : Ok P w K mg base "reduced_by" 37 ["tree", "chosen"] spRed := ok_red T D21 g10 g20
  have g22t := ok_allT D22 g21
  have g22l := ok_allL D22 g21
  have g23 : Ok P w K mg base "tree_of" 39 ["n", "sets"] spTreeOf := ok_treeOf D23 g4 g11 g22t
  have g24 : Ok P w K mg base "choices_of" 9 ["indexes", "size"] spCh := ok_ch T D24
  have g25 := ok_gc T D25 g4 g11 g22l g24
  have g25x := ok_gcX T X D25 g4
  have g26 : Ok P w K mg base "_law_cell" 1 ["_law_script", "_law_k"] (spCellI K) := ok_cell T D26
  have g27 : Ok P w K mg base "_law_digits" 1 ["_law_cell_here", "_law_sizes"] spDigits := ok_digits T D27
  have g28 : Ok P w K mg base "_law_rich" 1 ["_law_cell_here"] spRich := ok_rich T D28
  have g29 : Ok P w K mg base "_law_is_integer" 1 ["_law_actual"] spIsInt := ok_isint T D29
  have g30 := ok_order T D30 g28
  have g31 := ok_set T D31 g28
  have g32 := ok_stretch T D32 g28 g27
  exact fn_law T X F g26 g27 g28 g29 g30 g31 g32 g25 g25x g23
theorem walk {l : PySem.W.OpenLaw} {q : Program} {loose : List Str} {XP : (Str → Option Value) → Heap → Prop} {YP : World → Heap → Prop} {d : DefRec} {K : Params → PySem.W.Frag} (hn : l.most = some 63) (hdf : d.params.defaults = [])
    (hY : ∀ (w : World) (h : Heap), YP w h → (K w.params).In h)
    (F : ∀ (w : World) (mg : Str → Option Value) (fa : Addr) (h : Heap), (K w.params).In h → h.Ns mainGlobals mg → mg d.name = some (.ref fa) →
      ∃ fd : FuncData, (∀ (s : Shared) (u : Value), BindsTo s fd ⟨[u], []⟩ [("_law_script", u)]) ∧ ∀ base : Heap, (K w.params).In base → base.Ns mainGlobals mg → FnOk l.prog w (K w.params) mg base CX0 40 fa fd ["_law_script"] (spLaw (K w.params))) :
    PySem.W.WalkO q loose XP YP l.row.toRowW d [] (fun f vs => PySem.call f vs) :=
  L2.walk_of (n := 63) (k := 40) (x := "_law_script") (CX := fun _ => CX0) (sp := fun w => spLaw (K w.params)) hn (by decide) hdf ⟨rfl, by decide, by decide⟩ hY F (fun _ _ a ns _ _ hS => ⟨a, ns, rfl, hS, fun _ => rfl⟩) fun _ _ _ _ _ z => z
/-! ### from the facts of the top -/
theorem all_mk {l : PySem.W.OpenLaw} {w : World} {K : PySem.W.Frag} {h : Heap} {mg : Str → Option Value} {fa C : Addr} (KX : K.In h) (G : h.Ns mainGlobals mg) (hfa : mg "law" = some (.ref fa))
    {f0 f1 f2 f3 f4 f5 f6 f7 f8 f9 f10 f11 f12 f13 f14 f15 f16 f17 f18 f19 f20 f21 f22 f23 f24 f25 f26 f27 f28 f29 f30 f31 f32 f33 : Addr} {od0 an0 od1 an1 od2 an2 od3 an3 od4 an4 od5 an5 od6 an6 od7 an7 od8 an8 od9 an9 od10 an10 od11 an11 od12 an12 od13 an13 od14 an14 od15 an15 od16 an16 od17 an17 od18 an18 od19 an19 od20 an20 od21 an21 od22 an22 od23 an23 od24 an24 od25 an25 od26 an26 od27 an27 od28 an28 od29 an29 od30 an30 od31 an31 od32 an32 od33 an33 : Option Addr} {sl0 sl1 sl2 sl3 sl4 sl5 sl6 sl7 sl8 sl9 sl10 sl11 sl12 sl13 sl14 sl15 sl16 sl17 sl18 sl19 sl20 sl21 sl22 sl23 sl24 sl25 sl26 sl27 sl28 sl29 sl30 sl31 sl32 sl33 : Array (Option Value)}
    {oc0 kV0 dc0 pm0 cd0 ct0 oc1 kV1 dc1 pm1 cd1 ct1 oc2 kV2 dc2 pm2 cd2 ct2 oc3 kV3 dc3 pm3 cd3 ct3 oc4 kV4 dc4 pm4 cd4 ct4 oc5 kV5 dc5 pm5 cd5 ct5 oc6 kV6 dc6 pm6 cd6 ct6 oc7 kV7 dc7 pm7 cd7 ct7 oc8 kV8 dc8 pm8 cd8 ct8 oc9 kV9 dc9 pm9 cd9 ct9 oc10 kV10 dc10 pm10 cd10 ct10 oc11 kV11 dc11 pm11 cd11 ct11 oc12 kV12 dc12 pm12 cd12 ct12 oc13 kV13 dc13 pm13 cd13 ct13 oc14 kV14 dc14 pm14 cd14 ct14 oc15 kV15 dc15 pm15 cd15 ct15 oc16 kV16 dc16 pm16 cd16 ct16 oc17 kV17 dc17 pm17 cd17 ct17 oc18 kV18 dc18 pm18 cd18 ct18 oc19 kV19 dc19 pm19 cd19 ct19 oc20 kV20 dc20 pm20 cd20 ct20 oc21 kV21 dc21 pm21 cd21 ct21 oc22 kV22 dc22 pm22 cd22 ct22 oc23 kV23 dc23 pm23 cd23 ct23 oc24 kV24 dc24 pm24 cd24 ct24 oc25 kV25 dc25 pm25 cd25 ct25 oc26 kV26 dc26 pm26 cd26 ct26 oc27 kV27 dc27 pm27 cd27 ct27 oc28 kV28 dc28 pm28 cd28 ct28 oc29 kV29 dc29 pm29 cd29 ct29 oc30 kV30 dc30 pm30 cd30 ct30 oc31 kV31 dc31 pm31 cd31 ct31 oc32 kV32 dc32 pm32 cd32 ct32 oc33 kV33 dc33 pm33 cd33 ct33 : Value} {t24 t40 t8 : Tok}
    (a0 : PySem.W.nsIn K mainGlobals "is_size" = some (some (.ref f0))) (l0 : K.lookup f0 = some ⟨oc0, od0, .func (PySem.W.fnOf "is_size" "is_size" (defArgs sIsSize) (defBody sIsSize) (defScope sIsSize) .none kV0 dc0 pm0 an0 cd0 ct0), sl0⟩) (c0 : PySem.W.codeIn K cd0 "is_size" = true) (k0 : PySem.W.keepIn K (.ref f0) = true)
    (a1 : PySem.W.nsIn K mainGlobals "check_things" = some (some (.ref f1))) (l1 : K.lookup f1 = some ⟨oc1, od1, .func (PySem.W.fnOf "check_things" "check_things" (defArgs sCheckThings) (defBody sCheckThings) (defScope sCheckThings) .none kV1 dc1 pm1 an1 cd1 ct1), sl1⟩) (c1 : PySem.W.codeIn K cd1 "check_things" = true) (k1 : PySem.W.keepIn K (.ref f1) = true)
    (a2 : PySem.W.nsIn K mainGlobals "is_set" = some (some (.ref f2))) (l2 : K.lookup f2 = some ⟨oc2, od2, .func (PySem.W.fnOf "is_set" "is_set" (defArgs sIsSet) (defBody sIsSet) (defScope sIsSet) .none kV2 dc2 pm2 an2 cd2 ct2), sl2⟩) (c2 : PySem.W.codeIn K cd2 "is_set" = true) (k2 : PySem.W.keepIn K (.ref f2) = true)
    (a3 : PySem.W.nsIn K mainGlobals "check_set" = some (some (.ref f3))) (l3 : K.lookup f3 = some ⟨oc3, od3, .func (PySem.W.fnOf "check_set" "check_set" (defArgs sCheckSet) (defBody sCheckSet) (defScope sCheckSet) .none kV3 dc3 pm3 an3 cd3 ct3), sl3⟩) (c3 : PySem.W.codeIn K cd3 "check_set" = true) (k3 : PySem.W.keepIn K (.ref f3) = true)
    (a4 : PySem.W.nsIn K mainGlobals "check_table" = some (some (.ref f4))) (l4 : K.lookup f4 = some ⟨oc4, od4, .func (PySem.W.fnOf "check_table" "check_table" (defArgs sCheckTable) (defBody sCheckTable) (defScope sCheckTable) .none kV4 dc4 pm4 an4 cd4 ct4), sl4⟩) (c4 : PySem.W.codeIn K cd4 "check_table" = true) (k4 : PySem.W.keepIn K (.ref f4) = true)
    (a5 : PySem.W.nsIn K mainGlobals "is_thing" = some (some (.ref f5))) (l5 : K.lookup f5 = some ⟨oc5, od5, .func (PySem.W.fnOf "is_thing" "is_thing" (defArgs sIsThing) (defBody sIsThing) (defScope sIsThing) .none kV5 dc5 pm5 an5 cd5 ct5), sl5⟩) (c5 : PySem.W.codeIn K cd5 "is_thing" = true) (k5 : PySem.W.keepIn K (.ref f5) = true)
    (a6 : PySem.W.nsIn K mainGlobals "listed" = some (some (.ref f6))) (l6 : K.lookup f6 = some ⟨oc6, od6, .func (PySem.W.fnOf "listed" "listed" (defArgs sListed) (defBody sListed) (defScope sListed) .none kV6 dc6 pm6 an6 cd6 ct6), sl6⟩) (c6 : PySem.W.codeIn K cd6 "listed" = true) (k6 : PySem.W.keepIn K (.ref f6) = true)
    (a7 : PySem.W.nsIn K mainGlobals "least_thing" = some (some (.ref f7))) (l7 : K.lookup f7 = some ⟨oc7, od7, .func (PySem.W.fnOf "least_thing" "least_thing" (defArgs sLeast) (defBody sLeast) (defScope sLeast) .none kV7 dc7 pm7 an7 cd7 ct7), sl7⟩) (c7 : PySem.W.codeIn K cd7 "least_thing" = true) (k7 : PySem.W.keepIn K (.ref f7) = true)
    (a8 : PySem.W.nsIn K mainGlobals "make_any" = some (some (.ref f8))) (l8 : K.lookup f8 = some ⟨oc8, od8, .func (PySem.W.fnOf "make_any" "make_any" (defArgs sMkAny) (defBody sMkAny) (defScope sMkAny) .none kV8 dc8 pm8 an8 cd8 ct8), sl8⟩) (c8 : PySem.W.codeIn K cd8 "make_any" = true) (k8 : PySem.W.keepIn K (.ref f8) = true)
    (a9 : PySem.W.nsIn K mainGlobals "make_row" = some (some (.ref f9))) (l9 : K.lookup f9 = some ⟨oc9, od9, .func (PySem.W.fnOf "make_row" "make_row" (defArgs sMkRow) (defBody sMkRow) (defScope sMkRow) .none kV9 dc9 pm9 an9 cd9 ct9), sl9⟩) (c9 : PySem.W.codeIn K cd9 "make_row" = true) (k9 : PySem.W.keepIn K (.ref f9) = true)
    (a10 : PySem.W.nsIn K mainGlobals "normalized" = some (some (.ref f10))) (l10 : K.lookup f10 = some ⟨oc10, od10, .func (PySem.W.fnOf "normalized" "normalized" (defArgs sNorm) (defBody sNorm) (defScope sNorm) .none kV10 dc10 pm10 an10 cd10 ct10), sl10⟩) (c10 : PySem.W.codeIn K cd10 "normalized" = true) (k10 : PySem.W.keepIn K (.ref f10) = true)
    (a11 : PySem.W.nsIn K mainGlobals "plain_tree" = some (some (.ref f11))) (l11 : K.lookup f11 = some ⟨oc11, od11, .func (PySem.W.fnOf "plain_tree" "plain_tree" (defArgs sPlain) (defBody sPlain) (defScope sPlain) .none kV11 dc11 pm11 an11 cd11 ct11), sl11⟩) (c11 : PySem.W.codeIn K cd11 "plain_tree" = true) (k11 : PySem.W.keepIn K (.ref f11) = true)
    (a12 : PySem.W.nsIn K mainGlobals "share" = some (some (.ref f12))) (l12 : K.lookup f12 = some ⟨oc12, od12, .func (PySem.W.fnOf "share" "share" (defArgs sShare) (defBody sShare) (defScope sShare) .none kV12 dc12 pm12 an12 cd12 ct12), sl12⟩) (c12 : PySem.W.codeIn K cd12 "share" = true) (k12 : PySem.W.keepIn K (.ref f12) = true)
    (a13 : PySem.W.nsIn K mainGlobals "with_share" = some (some (.ref f13))) (l13 : K.lookup f13 = some ⟨oc13, od13, .func (PySem.W.fnOf "with_share" "with_share" (defArgs sWith) (defBody sWith) (defScope sWith) .none kV13 dc13 pm13 an13 cd13 ct13), sl13⟩) (c13 : PySem.W.codeIn K cd13 "with_share" = true) (k13 : PySem.W.keepIn K (.ref f13) = true)
    (a14 : PySem.W.nsIn K mainGlobals "split_any" = some (some (.ref f14))) (l14 : K.lookup f14 = some ⟨oc14, od14, .func (PySem.W.fnOf "split_any" "split_any" (defArgs sSplitAny) (defBody sSplitAny) (defScope sSplitAny) .none kV14 dc14 pm14 an14 cd14 ct14), sl14⟩) (c14 : PySem.W.codeIn K cd14 "split_any" = true) (k14 : PySem.W.keepIn K (.ref f14) = true)
    (a15 : PySem.W.nsIn K mainGlobals "ascends" = some (some (.ref f15))) (l15 : K.lookup f15 = some ⟨oc15, od15, .func (PySem.W.fnOf "ascends" "ascends" (defArgs sAsc) (defBody sAsc) (defScope sAsc) .none kV15 dc15 pm15 an15 cd15 ct15), sl15⟩) (c15 : PySem.W.codeIn K cd15 "ascends" = true) (k15 : PySem.W.keepIn K (.ref f15) = true)
    (a16 : PySem.W.nsIn K mainGlobals "split_row" = some (some (.ref f16))) (l16 : K.lookup f16 = some ⟨oc16, od16, .func (PySem.W.fnOf "split_row" "split_row" (defArgs sSplitRow) (defBody sSplitRow) (defScope sSplitRow) .none kV16 dc16 pm16 an16 cd16 ct16), sl16⟩) (c16 : PySem.W.codeIn K cd16 "split_row" = true) (k16 : PySem.W.keepIn K (.ref f16) = true)
    (a17 : PySem.W.nsIn K mainGlobals "split" = some (some (.ref f17))) (l17 : K.lookup f17 = some ⟨oc17, od17, .func (PySem.W.fnOf "split" "split" (defArgs sSplit) (defBody sSplit) (defScope sSplit) .none kV17 dc17 pm17 an17 cd17 ct17), sl17⟩) (c17 : PySem.W.codeIn K cd17 "split" = true) (k17 : PySem.W.keepIn K (.ref f17) = true)
    (a18 : PySem.W.nsIn K mainGlobals "joined_any" = some (some (.ref f18))) (l18 : K.lookup f18 = some ⟨oc18, od18, .func (PySem.W.fnOf "joined_any" "joined_any" (defArgs sJAny) (defBody sJAny) (defScope sJAny) .none kV18 dc18 pm18 an18 cd18 ct18), sl18⟩) (c18 : PySem.W.codeIn K cd18 "joined_any" = true) (k18 : PySem.W.keepIn K (.ref f18) = true)
    (a19 : PySem.W.nsIn K mainGlobals "joined_row" = some (some (.ref f19))) (l19 : K.lookup f19 = some ⟨oc19, od19, .func (PySem.W.fnOf "joined_row" "joined_row" (defArgs sJRow) (defBody sJRow) (defScope sJRow) .none kV19 dc19 pm19 an19 cd19 ct19), sl19⟩) (c19 : PySem.W.codeIn K cd19 "joined_row" = true) (k19 : PySem.W.keepIn K (.ref f19) = true)
    (a20 : PySem.W.nsIn K mainGlobals "joined" = some (some (.ref f20))) (l20 : K.lookup f20 = some ⟨oc20, od20, .func (PySem.W.fnOf "joined" "joined" (defArgs sJoin) (defBody sJoin) (defScope sJoin) .none kV20 dc20 pm20 an20 cd20 ct20), sl20⟩) (c20 : PySem.W.codeIn K cd20 "joined" = true) (k20 : PySem.W.keepIn K (.ref f20) = true)
    (a21 : PySem.W.nsIn K mainGlobals "reduced_by" = some (some (.ref f21))) (l21 : K.lookup f21 = some ⟨oc21, od21, .func (PySem.W.fnOf "reduced_by" "reduced_by" (defArgs sRed) (defBody sRed) (defScope sRed) .none kV21 dc21 pm21 an21 cd21 ct21), sl21⟩) (c21 : PySem.W.codeIn K cd21 "reduced_by" = true) (k21 : PySem.W.keepIn K (.ref f21) = true)
    (a22 : PySem.W.nsIn K mainGlobals "reduced_by_all" = some (some (.ref f22))) (l22 : K.lookup f22 = some ⟨oc22, od22, .func (PySem.W.fnOf "reduced_by_all" "reduced_by_all" (defArgs sAll) (defBody sAll) (defScope sAll) .none kV22 dc22 pm22 an22 cd22 ct22), sl22⟩) (c22 : PySem.W.codeIn K cd22 "reduced_by_all" = true) (k22 : PySem.W.keepIn K (.ref f22) = true)
    (a23 : PySem.W.nsIn K mainGlobals "tree_of" = some (some (.ref f23))) (l23 : K.lookup f23 = some ⟨oc23, od23, .func (PySem.W.fnOf "tree_of" "tree_of" (defArgs sTreeOf) (defBody sTreeOf) (defScope sTreeOf) .none kV23 dc23 pm23 an23 cd23 ct23), sl23⟩) (c23 : PySem.W.codeIn K cd23 "tree_of" = true) (k23 : PySem.W.keepIn K (.ref f23) = true)
    (a24 : PySem.W.nsIn K mainGlobals "choices_of" = some (some (.ref f24))) (l24 : K.lookup f24 = some ⟨oc24, od24, .func (PySem.W.fnOf "choices_of" "choices_of" (defArgs sCh) (defBody sCh) (defScope sCh) .none kV24 dc24 pm24 an24 cd24 ct24), sl24⟩) (c24 : PySem.W.codeIn K cd24 "choices_of" = true) (k24 : PySem.W.keepIn K (.ref f24) = true)
    (a25 : PySem.W.nsIn K mainGlobals "greatest_choice" = some (some (.ref f25))) (l25 : K.lookup f25 = some ⟨oc25, od25, .func (PySem.W.fnOf "greatest_choice" "greatest_choice" (defArgs sGC) (defBody sGC) (defScope sGC) .none kV25 dc25 pm25 an25 cd25 ct25), sl25⟩) (c25 : PySem.W.codeIn K cd25 "greatest_choice" = true) (k25 : PySem.W.keepIn K (.ref f25) = true)
    (a26 : PySem.W.nsIn K mainGlobals "_law_cell" = some (some (.ref f26))) (l26 : K.lookup f26 = some ⟨oc26, od26, .func (PySem.W.fnOf "_law_cell" "_law_cell" (defArgs sCell) (defBody sCell) (defScope sCell) .none kV26 dc26 pm26 an26 cd26 ct26), sl26⟩) (c26 : PySem.W.codeIn K cd26 "_law_cell" = true) (k26 : PySem.W.keepIn K (.ref f26) = true)
    (a27 : PySem.W.nsIn K mainGlobals "_law_digits" = some (some (.ref f27))) (l27 : K.lookup f27 = some ⟨oc27, od27, .func (PySem.W.fnOf "_law_digits" "_law_digits" (defArgs sDigits) (defBody sDigits) (defScope sDigits) .none kV27 dc27 pm27 an27 cd27 ct27), sl27⟩) (c27 : PySem.W.codeIn K cd27 "_law_digits" = true) (k27 : PySem.W.keepIn K (.ref f27) = true)
    (a28 : PySem.W.nsIn K mainGlobals "_law_rich" = some (some (.ref f28))) (l28 : K.lookup f28 = some ⟨oc28, od28, .func (PySem.W.fnOf "_law_rich" "_law_rich" (defArgs sRich) (defBody sRich) (defScope sRich) .none kV28 dc28 pm28 an28 cd28 ct28), sl28⟩) (c28 : PySem.W.codeIn K cd28 "_law_rich" = true) (k28 : PySem.W.keepIn K (.ref f28) = true)
    (a29 : PySem.W.nsIn K mainGlobals "_law_is_integer" = some (some (.ref f29))) (l29 : K.lookup f29 = some ⟨oc29, od29, .func (PySem.W.fnOf "_law_is_integer" "_law_is_integer" (defArgs sIsInt) (defBody sIsInt) (defScope sIsInt) .none kV29 dc29 pm29 an29 cd29 ct29), sl29⟩) (c29 : PySem.W.codeIn K cd29 "_law_is_integer" = true) (k29 : PySem.W.keepIn K (.ref f29) = true)
    (a30 : PySem.W.nsIn K mainGlobals "_law_order" = some (some (.ref f30))) (l30 : K.lookup f30 = some ⟨oc30, od30, .func (PySem.W.fnOf "_law_order" "_law_order" (defArgs sOrder) (defBody sOrder) (defScope sOrder) .none kV30 dc30 pm30 an30 cd30 ct30), sl30⟩) (c30 : PySem.W.codeIn K cd30 "_law_order" = true) (k30 : PySem.W.keepIn K (.ref f30) = true)
    (a31 : PySem.W.nsIn K mainGlobals "_law_set" = some (some (.ref f31))) (l31 : K.lookup f31 = some ⟨oc31, od31, .func (PySem.W.fnOf "_law_set" "_law_set" (defArgs sSet) (defBody sSet) (defScope sSet) .none kV31 dc31 pm31 an31 cd31 ct31), sl31⟩) (c31 : PySem.W.codeIn K cd31 "_law_set" = true) (k31 : PySem.W.keepIn K (.ref f31) = true)
    (a32 : PySem.W.nsIn K mainGlobals "_law_stretch" = some (some (.ref f32))) (l32 : K.lookup f32 = some ⟨oc32, od32, .func (PySem.W.fnOf "_law_stretch" "_law_stretch" (defArgs sStretch) (defBody sStretch) (defScope sStretch) .none kV32 dc32 pm32 an32 cd32 ct32), sl32⟩) (c32 : PySem.W.codeIn K cd32 "_law_stretch" = true) (k32 : PySem.W.keepIn K (.ref f32) = true)
    (a33 : PySem.W.nsIn K mainGlobals "law" = some (some (.ref f33))) (l33 : K.lookup f33 = some ⟨oc33, od33, .func (PySem.W.fnOf "law" "law" (defArgs sLaw) (defBody sLaw) (defScope sLaw) .none kV33 dc33 pm33 an33 cd33 ct33), sl33⟩) (c33 : PySem.W.codeIn K cd33 "law" = true) (k33 : PySem.W.keepIn K (.ref f33) = true)
    (m24 : PySem.W.nsIn K mainGlobals "MOST_THINGS" = some (some (.int 24 t24)))
    (m40 : PySem.W.nsIn K mainGlobals "MOST_SETS" = some (some (.int 40 t40)))
    (m8 : PySem.W.nsIn K mainGlobals "MOST_FOR_CHOICES" = some (some (.int 8 t8)))
    (z_len : PySem.W.nsIn K mainGlobals "len" = some none)
    (z_range : PySem.W.nsIn K mainGlobals "range" = some none)
    (z_isinstance : PySem.W.nsIn K mainGlobals "isinstance" = some none)
    (z_min : PySem.W.nsIn K mainGlobals "min" = some none)
    (z_max : PySem.W.nsIn K mainGlobals "max" = some none)
    (z_sorted : PySem.W.nsIn K mainGlobals "sorted" = some none)
    (z_enumerate : PySem.W.nsIn K mainGlobals "enumerate" = some none)
    (z_list : PySem.W.nsIn K mainGlobals "list" = some none)
    (z_tuple : PySem.W.nsIn K mainGlobals "tuple" = some none)
    (z_int : PySem.W.nsIn K mainGlobals "int" = some none)
    (z_bool : PySem.W.nsIn K mainGlobals "bool" = some none)
    (xa : PySem.W.nsIn K mainGlobals "OutOfRange" = some (some (.ref C))) (xx : PySem.W.excIn K C [.type "ValueError", .type "Exception", .type "BaseException", .type "object"] "ValueError.__new__" = true) (xk : PySem.W.keepIn K (.ref C) = true)
    (xb : PySem.W.subIn K (.ref C) (.type "BaseException") = some true) (xt : PySem.W.typeIn K (.ref C) = some (.type "type")) (xi : PySem.W.isClsIn K C = true) (xs : PySem.W.subIn K (.ref C) (.ref C) = some true) :
    ∃ fd : FuncData, (∀ (s : Shared) (u : Value), BindsTo s fd ⟨[u], []⟩ [("_law_script", u)]) ∧ ∀ base : Heap, K.In base → base.Ns mainGlobals mg → FnOk l.prog w K mg base CX0 40 fa fd ["_law_script"] (spLaw K) := by
  have e := hfa.symm.trans (PySem.W.mg_of KX G a33)
  cases e
  have T : Txt K mg := ⟨⟨_, PySem.W.mg_of KX G m24⟩, ⟨_, PySem.W.mg_of KX G m40⟩, ⟨_, PySem.W.mg_of KX G m8⟩, PySem.W.mg_none_of KX G z_len, PySem.W.mg_none_of KX G z_range, PySem.W.mg_none_of KX G z_isinstance, PySem.W.mg_none_of KX G z_min, PySem.W.mg_none_of KX G z_max, PySem.W.mg_none_of KX G z_sorted, PySem.W.mg_none_of KX G z_enumerate, PySem.W.mg_none_of KX G z_list, PySem.W.mg_none_of KX G z_tuple, PySem.W.mg_none_of KX G z_int, PySem.W.mg_none_of KX G z_bool⟩
  have X : Exc K mg C := ⟨PySem.W.mg_of KX G xa, xx, xk, xb, xt, xi, xs⟩
  refine ⟨_, fun s v => .of_eq (b_33 kV33 dc33 pm33 an33 cd33 ct33 [v] rfl), fun base _ _ => top_ok T X (def_mk b_0 KX G a0 l0 c0 k0) (def_mk b_1 KX G a1 l1 c1 k1) (def_mk b_2 KX G a2 l2 c2 k2) (def_mk b_3 KX G a3 l3 c3 k3) (def_mk b_4 KX G a4 l4 c4 k4) (def_mk b_5 KX G a5 l5 c5 k5) (def_mk b_6 KX G a6 l6 c6 k6) (def_mk b_7 KX G a7 l7 c7 k7) (def_mk b_8 KX G a8 l8 c8 k8) (def_mk b_9 KX G a9 l9 c9 k9) (def_mk b_10 KX G a10 l10 c10 k10) (def_mk b_11 KX G a11 l11 c11 k11) (def_mk b_12 KX G a12 l12 c12 k12) (def_mk b_13 KX G a13 l13 c13 k13) (def_mk b_14 KX G a14 l14 c14 k14) (def_mk b_15 KX G a15 l15 c15 k15) (def_mk b_16 KX G a16 l16 c16 k16) (def_mk b_17 KX G a17 l17 c17 k17) (def_mk b_18 KX G a18 l18 c18 k18) (def_mk b_19 KX G a19 l19 c19 k19) (def_mk b_20 KX G a20 l20 c20 k20) (def_mk b_21 KX G a21 l21 c21 k21) (def_mk b_22 KX G a22 l22 c22 k22) (def_mk b_23 KX G a23 l23 c23 k23) (def_mk b_24 KX G a24 l24 c24 k24) (def_mk b_25 KX G a25 l25 c25 k25) (def_mk b_26 KX G a26 l26 c26 k26) (def_mk b_27 KX G a27 l27 c27 k27) (def_mk b_28 KX G a28 l28 c28 k28) (def_mk b_29 KX G a29 l29 c29 k29) (def_mk b_30 KX G a30 l30 c30 k30) (def_mk b_31 KX G a31 l31 c31 k31) (def_mk b_32 KX G a32 l32 c32 k32) (fun_mk (st := sLaw) l33 c33 k33) base⟩
end K26
open PySem PySem.W PyProof.Rows
set_option maxRecDepth 100000 in
set_option maxHeartbeats 0 in
theorem PySem.Challenge.cw_unpartedrows_k26_whole_greatest_choices_holds : PySem.Challenge.rw_unpartedrows_k26_whole_greatest_choices.Holds := by
  w_on; o_law; k_head; (case hw => w_witness2)
  k_fill
  refine K26.walk (l := PySem.Challenge.rw_unpartedrows_k26_whole_greatest_choices) rfl rfl (fun w h Y => PySem.W.kIn_of Y) ?F
  case F =>
    intro w mg fa h KX G hmg
    refine' K26.all_mk KX G hmg ?a0 ?l0 ?c0 ?k0 ?a1 ?l1 ?c1 ?k1 ?a2 ?l2 ?c2 ?k2 ?a3 ?l3 ?c3 ?k3 ?a4 ?l4 ?c4 ?k4 ?a5 ?l5 ?c5 ?k5 ?a6 ?l6 ?c6 ?k6 ?a7 ?l7 ?c7 ?k7 ?a8 ?l8 ?c8 ?k8 ?a9 ?l9 ?c9 ?k9 ?a10 ?l10 ?c10 ?k10 ?a11 ?l11 ?c11 ?k11 ?a12 ?l12 ?c12 ?k12 ?a13 ?l13 ?c13 ?k13 ?a14 ?l14 ?c14 ?k14 ?a15 ?l15 ?c15 ?k15 ?a16 ?l16 ?c16 ?k16 ?a17 ?l17 ?c17 ?k17 ?a18 ?l18 ?c18 ?k18 ?a19 ?l19 ?c19 ?k19 ?a20 ?l20 ?c20 ?k20 ?a21 ?l21 ?c21 ?k21 ?a22 ?l22 ?c22 ?k22 ?a23 ?l23 ?c23 ?k23 ?a24 ?l24 ?c24 ?k24 ?a25 ?l25 ?c25 ?k25 ?a26 ?l26 ?c26 ?k26 ?a27 ?l27 ?c27 ?k27 ?a28 ?l28 ?c28 ?k28 ?a29 ?l29 ?c29 ?k29 ?a30 ?l30 ?c30 ?k30 ?a31 ?l31 ?c31 ?k31 ?a32 ?l32 ?c32 ?k32 ?a33 ?l33 ?c33 ?k33 ?m24 ?m40 ?m8 ?z_len ?z_range ?z_isinstance ?z_min ?z_max ?z_sorted ?z_enumerate ?z_list ?z_tuple ?z_int ?z_bool ?xa ?xx ?xk ?xb ?xt ?xi ?xs
    (case a0 => k_is); (case l0 => k_is); (case c0 => k_is); (case k0 => k_is)
    (case a1 => k_is); (case l1 => k_is); (case c1 => k_is); (case k1 => k_is)
    (case a2 => k_is); (case l2 => k_is); (case c2 => k_is); (case k2 => k_is)
    (case a3 => k_is); (case l3 => k_is); (case c3 => k_is); (case k3 => k_is)
    (case a4 => k_is); (case l4 => k_is); (case c4 => k_is); (case k4 => k_is)
    (case a5 => k_is); (case l5 => k_is); (case c5 => k_is); (case k5 => k_is)
    (case a6 => k_is); (case l6 => k_is); (case c6 => k_is); (case k6 => k_is)
    (case a7 => k_is); (case l7 => k_is); (case c7 => k_is); (case k7 => k_is)
    (case a8 => k_is); (case l8 => k_is); (case c8 => k_is); (case k8 => k_is)
    (case a9 => k_is); (case l9 => k_is); (case c9 => k_is); (case k9 => k_is)
    (case a10 => k_is); (case l10 => k_is); (case c10 => k_is); (case k10 => k_is)
    (case a11 => k_is); (case l11 => k_is); (case c11 => k_is); (case k11 => k_is)
    (case a12 => k_is); (case l12 => k_is); (case c12 => k_is); (case k12 => k_is)
    (case a13 => k_is); (case l13 => k_is); (case c13 => k_is); (case k13 => k_is)
    (case a14 => k_is); (case l14 => k_is); (case c14 => k_is); (case k14 => k_is)
    (case a15 => k_is); (case l15 => k_is); (case c15 => k_is); (case k15 => k_is)
    (case a16 => k_is); (case l16 => k_is); (case c16 => k_is); (case k16 => k_is)
    (case a17 => k_is); (case l17 => k_is); (case c17 => k_is); (case k17 => k_is)
    (case a18 => k_is); (case l18 => k_is); (case c18 => k_is); (case k18 => k_is)
    (case a19 => k_is); (case l19 => k_is); (case c19 => k_is); (case k19 => k_is)
    (case a20 => k_is); (case l20 => k_is); (case c20 => k_is); (case k20 => k_is)
    (case a21 => k_is); (case l21 => k_is); (case c21 => k_is); (case k21 => k_is)
    (case a22 => k_is); (case l22 => k_is); (case c22 => k_is); (case k22 => k_is)
    (case a23 => k_is); (case l23 => k_is); (case c23 => k_is); (case k23 => k_is)
    (case a24 => k_is); (case l24 => k_is); (case c24 => k_is); (case k24 => k_is)
    (case a25 => k_is); (case l25 => k_is); (case c25 => k_is); (case k25 => k_is)
    (case a26 => k_is); (case l26 => k_is); (case c26 => k_is); (case k26 => k_is)
    (case a27 => k_is); (case l27 => k_is); (case c27 => k_is); (case k27 => k_is)
    (case a28 => k_is); (case l28 => k_is); (case c28 => k_is); (case k28 => k_is)
    (case a29 => k_is); (case l29 => k_is); (case c29 => k_is); (case k29 => k_is)
    (case a30 => k_is); (case l30 => k_is); (case c30 => k_is); (case k30 => k_is)
    (case a31 => k_is); (case l31 => k_is); (case c31 => k_is); (case k31 => k_is)
    (case a32 => k_is); (case l32 => k_is); (case c32 => k_is); (case k32 => k_is)
    (case a33 => k_is); (case l33 => k_is); (case c33 => k_is); (case k33 => k_is)
    (case m24 => k_is)
    (case m40 => k_is)
    (case m8 => k_is)
    (case z_len => k_is)
    (case z_range => k_is)
    (case z_isinstance => k_is)
    (case z_min => k_is)
    (case z_max => k_is)
    (case z_sorted => k_is)
    (case z_enumerate => k_is)
    (case z_list => k_is)
    (case z_tuple => k_is)
    (case z_int => k_is)
    (case z_bool => k_is)
    (case xa => k_is); (case xx => k_exc); (case xk => k_is); (case xb => k_is); (case xt => k_is); (case xi => k_is); (case xs => first | rfl | k_is)
