import PyProof.Rows.All
import Wide.All
import OpenK.AllK
import Wide.FinOn
import HandS.ForMost
import HandS.Evl
import HandS.Walk
import HandS.Defaults
import HandS.Slots
import HandS.SlotsOwn
import HandS.ClsMeth
import HandS.IsInst
import HandS.Zip
import HandS.Strs
import HandS.TupSets
import HandS.SortInts
import HandS.SortKw
import HandS.Deep
import HandS.TupMul
import HandS.TupAny
import HandS.TupLe
import HandS.Conv
import HandS.FStr
import HandS.WrittenGet
import HandS.Style
import HandS.Flow
import HandS.Wide
import HandS.DictComp
import HandS.More
import HandS.HeadHook4
import HandS.Head2
import HandS.HeadEnd
import KE.KSortedM
import KE.KDictCopyH
import KE.KDictKeyed
import HandS.TupLen
import HandS.Zip0
import KE.KDictZip
import KE.KDictDisplayH
import HandS.List
import OpenK.KOps
import PyProof.InstEq
import PyProof.AssignAttr
import HandS.Star
import KE.SortKeyHeap
import HandS.HeadNt
import HandS.HeadHook3
import Lean
import HandS.Head0
import HandS.Head1
import PySem.Challenge.RW_seamsayings_k46_whole_least_tables
set_option linter.all false
/-! K46Math: the mathematics of least tables, no program in sight. -/
namespace K46

/-! ### lists walked beside each other -/
inductive All2 {α β : Type} (E : α → β → Prop) : List α → List β → Prop
  | nil : All2 E [] []
  | cons {a b l r} : E a b → All2 E l r → All2 E (a :: l) (b :: r)
namespace All2
variable {α β : Type} {E : α → β → Prop}
theorem length {l : List α} {r : List β} (h : All2 E l r) : l.length = r.length := by
  induction h with
  | nil => rfl
  | cons _ _ ih => simp [ih]
theorem append {l : List α} {r : List β} {l' : List α} {r' : List β} (h : All2 E l r) (h' : All2 E l' r') : All2 E (l ++ l') (r ++ r') := by
  induction h with
  | nil => exact h'
  | cons e _ ih => exact .cons e ih
theorem take {l : List α} {r : List β} (h : All2 E l r) (k : Nat) : All2 E (l.take k) (r.take k) := by
  induction h generalizing k with
  | nil => simp; exact .nil
  | cons e _ ih =>
    cases k with
    | zero => exact .nil
    | succ k => exact .cons e (ih k)
theorem get {l : List α} {r : List β} (h : All2 E l r) {k : Nat} {a : α} (e : l[k]? = some a) : ∃ b, r[k]? = some b ∧ E a b := by
  induction h generalizing k with
  | nil => simp at e
  | cons x _ ih =>
    cases k with
    | zero => simp at e; subst e; exact ⟨_, rfl, x⟩
    | succ k => simp at e; obtain ⟨b, h1, h2⟩ := ih e; exact ⟨b, by simpa using h1, h2⟩
theorem get' {l : List α} {r : List β} (h : All2 E l r) {k : Nat} {b : β} (e : r[k]? = some b) : ∃ a, l[k]? = some a ∧ E a b := by
  induction h generalizing k with
  | nil => simp at e
  | cons x _ ih =>
    cases k with
    | zero => simp at e; subst e; exact ⟨_, rfl, x⟩
    | succ k => simp at e; obtain ⟨a, h1, h2⟩ := ih e; exact ⟨a, by simpa using h1, h2⟩
theorem mono {F : α → β → Prop} {l : List α} {r : List β} (h : All2 E l r) (m : ∀ a b, E a b → F a b) : All2 F l r := by
  induction h with
  | nil => exact .nil
  | cons x _ ih => exact .cons (m _ _ x) ih
theorem of_map {γ : Type} {f : α → γ} {g : β → γ} {l : List α} {r : List β} (h : All2 E l r) (m : ∀ a b, E a b → f a = g b) : l.map f = r.map g := by
  induction h with
  | nil => rfl
  | cons x _ ih => simp [m _ _ x, ih]
end All2

/-! ### states met, one after the other -/
section
variable {α β : Type} [DecidableEq β] [Inhabited α]
/-- an item is put behind a list, if its key is new -/
def push (κ : α → β) (o : List α) (x : α) : List α := if κ x ∈ o.map κ then o else o ++ [x]
/-- what the item at k leads to with those up to it -/
def turn (κ : α → β) (F : α → α → List α) (o : List α) (k : Nat) : List α :=
  (o.take (k + 1)).foldl (fun o' i => (F i (o.getD k default)).foldl (push κ) o') o
def bfs (κ : α → β) (F : α → α → List α) : Nat → List α → Nat → List α
  | 0, o, _ => o
  | f + 1, o, k => if k < o.length then bfs κ F f (turn κ F o k) (k + 1) else o

variable {κ : α → β} {F : α → α → List α}
theorem push_prefix (o : List α) (x : α) : o <+: push κ o x := by
  unfold push; split
  · exact List.prefix_refl _
  · exact List.prefix_append _ _
theorem pushes_prefix (l : List α) : ∀ o : List α, o <+: l.foldl (push κ) o := by
  induction l with
  | nil => intro o; exact List.prefix_refl _
  | cons x l ih => intro o; exact (push_prefix o x).trans (ih _)
theorem folds_prefix (l : List α) (z : α) : ∀ o : List α, o <+: l.foldl (fun o' i => (F i z).foldl (push κ) o') o := by
  induction l with
  | nil => intro o; exact List.prefix_refl _
  | cons x l ih => intro o; exact (pushes_prefix _ o).trans (ih _)
theorem turn_prefix (o : List α) (k : Nat) : o <+: turn κ F o k := folds_prefix _ _ o
theorem bfs_prefix (f : Nat) : ∀ (o : List α) (k : Nat), o <+: bfs κ F f o k := by
  induction f with
  | zero => intro o k; exact List.prefix_refl _
  | succ f ih =>
    intro o k
    unfold bfs; split
    · exact (turn_prefix o k).trans (ih _ _)
    · exact List.prefix_refl _

/-- the keys of a list are different -/
def Dist (κ : α → β) (o : List α) : Prop := (o.map κ).Nodup
theorem push_dist {o : List α} (h : Dist κ o) (x : α) : Dist κ (push κ o x) := by
  unfold push; split
  · exact h
  · rename_i n
    unfold Dist
    rw [List.map_append, List.map_singleton, List.nodup_append]
    refine ⟨h, by simp, fun a ha b hb => ?_⟩
    rw [List.mem_singleton] at hb
    subst hb
    intro e; subst e; exact n ha
theorem pushes_dist (l : List α) : ∀ {o : List α}, Dist κ o → Dist κ (l.foldl (push κ) o) := by
  induction l with
  | nil => intro o h; exact h
  | cons x l ih => intro o h; exact ih (push_dist h x)
theorem folds_dist (l : List α) (z : α) : ∀ {o : List α}, Dist κ o → Dist κ (l.foldl (fun o' i => (F i z).foldl (push κ) o') o) := by
  induction l with
  | nil => intro o h; exact h
  | cons x l ih => intro o h; exact ih (pushes_dist _ h)
theorem turn_dist {o : List α} (h : Dist κ o) (k : Nat) : Dist κ (turn κ F o k) := folds_dist _ _ h
theorem bfs_dist (f : Nat) : ∀ {o : List α} (k : Nat), Dist κ o → Dist κ (bfs κ F f o k) := by
  induction f with
  | zero => intro o k h; exact h
  | succ f ih =>
    intro o k h
    unfold bfs; split
    · exact ih _ (turn_dist h k)
    · exact h

/-- a property of all that is met -/
theorem push_all {P : α → Prop} {o : List α} {x : α} (h : ∀ y ∈ o, P y) (hx : P x) : ∀ y ∈ push κ o x, P y := by
  unfold push; split
  · exact h
  · intro y hy
    rcases List.mem_append.mp hy with q | q
    · exact h y q
    · rw [List.mem_singleton] at q; subst q; exact hx
theorem pushes_all {P : α → Prop} (l : List α) : ∀ {o : List α}, (∀ y ∈ o, P y) → (∀ y ∈ l, P y) → ∀ y ∈ l.foldl (push κ) o, P y := by
  induction l with
  | nil => intro o h _; exact h
  | cons x l ih => intro o h hl; exact ih (push_all h (hl x List.mem_cons_self)) fun y hy => hl y (List.mem_cons_of_mem _ hy)
theorem folds_all {P : α → Prop} (l : List α) (z : α) : ∀ {o : List α}, (∀ y ∈ o, P y) → (∀ i ∈ l, ∀ y ∈ F i z, P y) → ∀ y ∈ l.foldl (fun o' i => (F i z).foldl (push κ) o') o, P y := by
  induction l with
  | nil => intro o h _; exact h
  | cons x l ih => intro o h hl; exact ih (pushes_all _ h (hl x List.mem_cons_self)) fun i hi => hl i (List.mem_cons_of_mem _ hi)
theorem getD_mem {o : List α} {k : Nat} (h : k < o.length) : o.getD k default ∈ o := by
  rw [List.getD_eq_getElem?_getD, List.getElem?_eq_getElem h, Option.getD_some]; exact List.getElem_mem h
theorem turn_all {P : α → Prop} {o : List α} {k : Nat} (hk : k < o.length) (h : ∀ y ∈ o, P y) (hF : ∀ a b, P a → P b → ∀ y ∈ F a b, P y) : ∀ y ∈ turn κ F o k, P y :=
  folds_all _ _ h fun i hi => hF i _ (h i (List.mem_of_mem_take hi)) (h _ (getD_mem hk))
theorem bfs_all {P : α → Prop} (hF : ∀ a b, P a → P b → ∀ y ∈ F a b, P y) (f : Nat) : ∀ {o : List α} (k : Nat), (∀ y ∈ o, P y) → ∀ y ∈ bfs κ F f o k, P y := by
  induction f with
  | zero => intro o k h; exact h
  | succ f ih =>
    intro o k h
    unfold bfs; split
    · rename_i hk; exact ih _ (turn_all hk h hF)
    · exact h

/-- what was pushed is there -/
theorem push_has (o : List α) (x : α) : κ x ∈ (push κ o x).map κ := by
  unfold push; split
  · assumption
  · simp
theorem has_prefix {o o' : List α} (h : o <+: o') {b : β} (m : b ∈ o.map κ) : b ∈ o'.map κ := by
  obtain ⟨t, rfl⟩ := h
  rw [List.map_append]; exact List.mem_append_left _ m
theorem pushes_has (l : List α) : ∀ (o : List α), ∀ x ∈ l, κ x ∈ (l.foldl (push κ) o).map κ := by
  induction l with
  | nil => intro o x h; cases h
  | cons y l ih =>
    intro o x h
    rcases List.mem_cons.mp h with rfl | h
    · exact has_prefix (pushes_prefix l _) (push_has o x)
    · exact ih _ x h
theorem folds_has (l : List α) (z : α) : ∀ (o : List α), ∀ i ∈ l, ∀ x ∈ F i z, κ x ∈ (l.foldl (fun o' i => (F i z).foldl (push κ) o') o).map κ := by
  induction l with
  | nil => intro o i h; cases h
  | cons y l ih =>
    intro o i h x hx
    rcases List.mem_cons.mp h with rfl | h
    · exact has_prefix (folds_prefix l z _) (pushes_has _ o x hx)
    · exact ih _ i h x hx
/-- all that the first k items lead to is there -/
def Shut (κ : α → β) (F : α → α → List α) (o : List α) (k : Nat) : Prop := ∀ i j (a b : α), i ≤ j → j < k → o[i]? = some a → o[j]? = some b → ∀ x ∈ F a b, κ x ∈ o.map κ
theorem prefix_get {o o' : List α} (h : o <+: o') {i : Nat} {a : α} (hi : i < o.length) (e : o'[i]? = some a) : o[i]? = some a := by
  obtain ⟨t, rfl⟩ := h
  rw [List.getElem?_append_left hi] at e; exact e
theorem prefix_get' {o o' : List α} (h : o <+: o') {i : Nat} {a : α} (e : o[i]? = some a) : o'[i]? = some a := by
  obtain ⟨t, rfl⟩ := h
  rw [List.getElem?_append_left (List.getElem?_eq_some_iff.mp e).1]; exact e
theorem turn_shut {o : List α} {k : Nat} (hk : k < o.length) (h : Shut κ F o k) : Shut κ F (turn κ F o k) (k + 1) := by
  intro i j a b hij hj ea eb x hx
  have ea' := prefix_get (turn_prefix o k) (by omega) ea
  have eb' := prefix_get (turn_prefix o k) (by omega) eb
  by_cases hjk : j < k
  · exact has_prefix (turn_prefix o k) (h i j a b hij hjk ea' eb' x hx)
  · have : j = k := by omega
    subst this
    have e : o.getD j default = b := by rw [List.getD_eq_getElem?_getD, eb', Option.getD_some]
    refine folds_has (F := F) (κ := κ) (o.take (j + 1)) (o.getD j default) o a ?_ x (by rw [e]; exact hx)
    have : (o.take (j + 1))[i]? = some a := by rw [List.getElem?_take, if_pos (by omega)]; exact ea'
    exact List.mem_of_getElem? this
theorem bfs_shut {P : α → Prop} {N : Nat} (hF : ∀ a b, P a → P b → ∀ y ∈ F a b, P y) (hN : ∀ o : List α, Dist κ o → (∀ y ∈ o, P y) → o.length ≤ N) (f : Nat) :
    ∀ {o : List α} (k : Nat), N ≤ f + k → k ≤ o.length → Dist κ o → (∀ y ∈ o, P y) → Shut κ F o k → Shut κ F (bfs κ F f o k) (bfs κ F f o k).length := by
  induction f with
  | zero =>
    intro o k hk hl d hP h
    have := hN o d hP
    show Shut κ F o o.length
    have e : o.length = k := by omega
    rw [e]; exact h
  | succ f ih =>
    intro o k hk hl d hP h
    unfold bfs; split
    · rename_i hlt
      refine ih (k + 1) (by omega) ?_ (turn_dist d k) (turn_all hlt hP hF) (turn_shut hlt h)
      exact Nat.le_trans hlt (turn_prefix (κ := κ) (F := F) o k).length_le
    · rename_i hge
      have e : o.length = k := by omega
      rw [e]; exact h
/-- more fuel changes nothing -/
theorem bfs_fuel {P : α → Prop} {N : Nat} (hF : ∀ a b, P a → P b → ∀ y ∈ F a b, P y) (hN : ∀ o : List α, Dist κ o → (∀ y ∈ o, P y) → o.length ≤ N) (f : Nat) :
    ∀ (g : Nat) {o : List α} (k : Nat), N ≤ f + k → N ≤ g + k → k ≤ o.length → Dist κ o → (∀ y ∈ o, P y) → bfs κ F f o k = bfs κ F g o k := by
  induction f with
  | zero =>
    intro g o k hk hg hl d hP
    have := hN o d hP
    cases g with
    | zero => rfl
    | succ g => show o = if k < o.length then _ else o; rw [if_neg (by omega)]
  | succ f ih =>
    intro g o k hk hg hl d hP
    cases g with
    | zero =>
      have := hN o d hP
      show (if k < o.length then _ else o) = o; rw [if_neg (by omega)]
    | succ g =>
      show (if k < o.length then _ else o) = (if k < o.length then _ else o)
      split
      · rename_i hlt
        exact ih g (k + 1) (by omega) (by omega) (Nat.le_trans hlt (turn_prefix (κ := κ) (F := F) o k).length_le) (turn_dist d k) (turn_all hlt hP hF)
      · rfl
end

/-! ### two walks beside each other -/
section
variable {α β γ δ : Type} [DecidableEq β] [DecidableEq δ] [Inhabited α] [Inhabited γ]
variable {κ : α → β} {F : α → α → List α} {κ' : γ → δ} {F' : γ → γ → List γ} {E : α → γ → Prop}
structure Sim (E : α → γ → Prop) (κ : α → β) (F : α → α → List α) (κ' : γ → δ) (F' : γ → γ → List γ) : Prop where
  key : ∀ a b c d, E a c → E b d → (κ a = κ b ↔ κ' c = κ' d)
  go : ∀ a b c d, E a c → E b d → All2 E (F a b) (F' c d)
theorem Sim.mem (S : Sim E κ F κ' F') {o : List α} {o' : List γ} {x : α} {y : γ} (h : All2 E o o') (e : E x y) : κ x ∈ o.map κ ↔ κ' y ∈ o'.map κ' := by
  induction h with
  | nil => simp
  | cons q _ ih =>
    rw [List.map_cons, List.map_cons, List.mem_cons, List.mem_cons, ih, S.key _ _ _ _ e q]
theorem Sim.push (S : Sim E κ F κ' F') {o : List α} {o' : List γ} {x : α} {y : γ} (h : All2 E o o') (e : E x y) : All2 E (push κ o x) (push κ' o' y) := by
  unfold K46.push
  by_cases m : κ x ∈ o.map κ
  · rw [if_pos m, if_pos ((S.mem h e).mp m)]; exact h
  · rw [if_neg m, if_neg (fun q => m ((S.mem h e).mpr q))]; exact h.append (.cons e .nil)
theorem Sim.pushes (S : Sim E κ F κ' F') {l : List α} {l' : List γ} (hl : All2 E l l') : ∀ {o : List α} {o' : List γ}, All2 E o o' → All2 E (l.foldl (K46.push κ) o) (l'.foldl (K46.push κ') o') := by
  induction hl with
  | nil => intro o o' h; exact h
  | cons e _ ih => intro o o' h; exact ih (S.push h e)
theorem Sim.folds (S : Sim E κ F κ' F') {l : List α} {l' : List γ} {z : α} {z' : γ} (ez : E z z') (hl : All2 E l l') :
    ∀ {o : List α} {o' : List γ}, All2 E o o' → All2 E (l.foldl (fun o' i => (F i z).foldl (K46.push κ) o') o) (l'.foldl (fun o' i => (F' i z').foldl (K46.push κ') o') o') := by
  induction hl with
  | nil => intro o o' h; exact h
  | cons e _ ih => intro o o' h; exact ih (S.pushes (S.go _ _ _ _ e ez) h)
theorem Sim.bfs (S : Sim E κ F κ' F') (f : Nat) : ∀ {o : List α} {o' : List γ} (k : Nat), All2 E o o' → All2 E (bfs κ F f o k) (bfs κ' F' f o' k) := by
  induction f with
  | zero => intro o o' k h; exact h
  | succ f ih =>
    intro o o' k h
    unfold K46.bfs
    rw [h.length]
    split
    · rename_i hk
      refine ih (k + 1) (S.folds ?_ (h.take _) h)
      have hk' : k < o.length := by rw [h.length]; exact hk
      obtain ⟨b, eb, q⟩ := h.get (List.getElem?_eq_getElem hk')
      rw [List.getD_eq_getElem?_getD, List.getD_eq_getElem?_getD, List.getElem?_eq_getElem hk', eb]
      exact q
    · exact h
end
end K46
set_option linter.all false
/-! K46Math2: tables, behaviours, least tables. -/
namespace K46
structure Tb where
  tie : Nat
  gap : Nat
  rows : List (List Nat)
  sides : List (List Nat)
  acc : List Nat
  deriving DecidableEq

def cell (m : List (List Nat)) (i j : Nat) : Nat := (m.getD i []).getD j 0
def Tb.n (T : Tb) : Nat := T.rows.length
def Tb.R (T : Tb) (i j : Nat) : Nat := cell T.rows i j
def Tb.S (T : Tb) (i j : Nat) : Nat := cell T.sides i j
structure Square (n : Nat) (m : List (List Nat)) : Prop where
  len : m.length = n
  row : ∀ r ∈ m, r.length = n
  lt : ∀ r ∈ m, ∀ x ∈ r, x < n
structure Tb.Ok (T : Tb) : Prop where
  rows : Square T.n T.rows
  sides : Square T.n T.sides
  tie : T.tie < T.n
  gap : T.gap < T.n
  acc : ∀ x ∈ T.acc, x < T.n
  asc : T.acc.Pairwise (· < ·)
theorem Square.cell {n : Nat} {m : List (List Nat)} (h : Square n m) {i j : Nat} (hi : i < n) (hj : j < n) : cell m i j < n := by
  have hi' : i < m.length := by rw [h.len]; exact hi
  have hr := List.getElem_mem hi'
  have hj' : j < m[i].length := by rw [h.row _ hr]; exact hj
  unfold K46.cell
  rw [List.getD_eq_getElem?_getD, List.getD_eq_getElem?_getD, List.getElem?_eq_getElem hi', Option.getD_some, List.getElem?_eq_getElem hj', Option.getD_some]
  exact h.lt _ hr _ (List.getElem_mem hj')
theorem Square.get {n : Nat} {m : List (List Nat)} (h : Square n m) {i : Nat} (hi : i < n) : ∃ r, m[i]? = some r ∧ r.length = n ∧ ∀ j, j < n → r[j]? = some (K46.cell m i j) := by
  have hi' : i < m.length := by rw [h.len]; exact hi
  have hr := List.getElem_mem hi'
  refine ⟨m[i], List.getElem?_eq_getElem hi', h.row _ hr, fun j hj => ?_⟩
  have hj' : j < m[i].length := by rw [h.row _ hr]; exact hj
  unfold K46.cell
  rw [List.getD_eq_getElem?_getD, List.getD_eq_getElem?_getD, List.getElem?_eq_getElem hi', Option.getD_some, List.getElem?_eq_getElem hj', Option.getD_some]
theorem Tb.Ok.R {T : Tb} (h : T.Ok) {i j : Nat} (hi : i < T.n) (hj : j < T.n) : T.R i j < T.n := h.rows.cell hi hj
theorem Tb.Ok.S {T : Tb} (h : T.Ok) {i j : Nat} (hi : i < T.n) (hj : j < T.n) : T.S i j < T.n := h.sides.cell hi hj
/-- a square table is what its cells are -/
theorem square_eq {n : Nat} {m : List (List Nat)} (h : Square n m) : m = (List.range n).map fun i => (List.range n).map fun j => cell m i j := by
  refine List.ext_getElem? fun i => ?_
  by_cases hi : i < n
  · obtain ⟨r, e, hl, hr⟩ := h.get hi
    rw [e, List.getElem?_map, List.getElem?_range hi, Option.map_some]
    congr 1
    refine List.ext_getElem? fun j => ?_
    by_cases hj : j < n
    · rw [hr j hj, List.getElem?_map, List.getElem?_range hj, Option.map_some]
    · rw [List.getElem?_eq_none (by omega), List.getElem?_eq_none (by simp; omega)]
  · rw [List.getElem?_eq_none (by rw [h.len]; omega), List.getElem?_eq_none (by simp; omega)]

/-! ### buildings, surroundings, behaviours -/
inductive Bld where
  | tie | gap
  | row (a b : Bld) | side (a b : Bld)
def st (T : Tb) : Bld → Nat
  | .tie => T.tie
  | .gap => T.gap
  | .row a b => T.R (st T a) (st T b)
  | .side a b => T.S (st T a) (st T b)
/-- a join with a building: in a row or side by side, the hole left or right -/
structure Step where
  row : Bool
  left : Bool
  o : Bld
def op (T : Tb) : Bool → Nat → Nat → Nat
  | true => T.R
  | false => T.S
def jn : Bool → Bld → Bld → Bld
  | true => .row
  | false => .side
theorem st_jn (T : Tb) (r : Bool) (a b : Bld) : st T (jn r a b) = op T r (st T a) (st T b) := by cases r <;> rfl
def stp (T : Tb) (s : Step) (x : Nat) : Nat := if s.left then op T s.row x (st T s.o) else op T s.row (st T s.o) x
def wrap (s : Step) (b : Bld) : Bld := if s.left then jn s.row b s.o else jn s.row s.o b
theorem st_wrap (T : Tb) (s : Step) (b : Bld) : st T (wrap s b) = stp T s (st T b) := by
  unfold wrap stp; split <;> exact st_jn _ _ _ _
def plug (T : Tb) : List Step → Nat → Nat
  | [], x => x
  | s :: c, x => plug T c (stp T s x)
def wraps : List Step → Bld → Bld
  | [], b => b
  | s :: c, b => wraps c (wrap s b)
theorem st_wraps (T : Tb) : ∀ (c : List Step) (b : Bld), st T (wraps c b) = plug T c (st T b)
  | [], _ => rfl
  | s :: c, b => by show st T (wraps c (wrap s b)) = plug T c (stp T s (st T b)); rw [st_wraps T c, st_wrap]
def beh (T : Tb) (x : Nat) : List Step → Bool := fun c => decide (plug T c x ∈ T.acc)
/-- both accept the same buildings -/
def Same (T U : Tb) : Prop := ∀ b, st T b ∈ T.acc ↔ st U b ∈ U.acc
theorem Same.refl (T : Tb) : Same T T := fun _ => Iff.rfl
theorem Same.symm {T U : Tb} (h : Same T U) : Same U T := fun b => (h b).symm
theorem Same.trans {T U W : Tb} (h : Same T U) (k : Same U W) : Same T W := fun b => (h b).trans (k b)
theorem Same.beh {T U : Tb} (h : Same T U) (b : Bld) : beh T (st T b) = beh U (st U b) := by
  funext c
  unfold K46.beh
  rw [← st_wraps, ← st_wraps]
  exact decide_eq_decide.mpr (h _)
/-- equal behaviours are kept by joins -/
theorem beh_op {T U : Tb} (h : Same T U) (r : Bool) {a b c d : Bld} (e1 : beh T (st T a) = beh U (st U c)) (e2 : beh T (st T b) = beh U (st U d)) :
    beh T (op T r (st T a) (st T b)) = beh U (op U r (st U c) (st U d)) := by
  funext k
  have q1 : beh T (op T r (st T a) (st T b)) k = beh T (st T a) (⟨r, true, b⟩ :: k) := rfl
  have q2 : beh U (st U c) (⟨r, true, b⟩ :: k) = beh U (op U r (st U c) (st U b)) k := rfl
  have q3 : beh U (op U r (st U c) (st U b)) k = beh U (st U b) (⟨r, false, c⟩ :: k) := rfl
  have q4 : beh U (st U d) (⟨r, false, c⟩ :: k) = beh U (op U r (st U c) (st U d)) k := rfl
  rw [q1, e1, q2, q3, ← h.beh b, e2, q4]
def Rch (T : Tb) (x : Nat) : Prop := ∃ b, st T b = x
theorem Rch.op {T : Tb} {x y : Nat} (r : Bool) (h : Rch T x) (k : Rch T y) : Rch T (K46.op T r x y) := by
  obtain ⟨a, rfl⟩ := h
  obtain ⟨b, rfl⟩ := k
  exact ⟨jn r a b, st_jn T r a b⟩
theorem Rch.lt {T : Tb} (h : T.Ok) {x : Nat} (r : Rch T x) : x < T.n := by
  obtain ⟨b, rfl⟩ := r
  induction b with
  | tie => exact h.tie
  | gap => exact h.gap
  | row a b iha ihb => exact h.R iha ihb
  | side a b iha ihb => exact h.S iha ihb
theorem Rch.tie (T : Tb) : Rch T T.tie := ⟨.tie, rfl⟩
theorem Rch.gap (T : Tb) : Rch T T.gap := ⟨.gap, rfl⟩

/-! ### the states met -/
def four (T : Tb) (i j : Nat) : List Nat := [T.R i j, T.R j i, T.S i j, T.S j i]
theorem four_rch {T : Tb} {a b : Nat} (ha : Rch T a) (hb : Rch T b) : ∀ y ∈ four T a b, Rch T y := by
  intro y hy
  unfold four at hy
  rw [List.mem_cons, List.mem_cons, List.mem_cons, List.mem_singleton] at hy
  rcases hy with rfl | rfl | rfl | rfl
  · exact Rch.op true ha hb
  · exact Rch.op true hb ha
  · exact Rch.op false ha hb
  · exact Rch.op false hb ha
def start (κ : Nat → Nat) (T : Tb) : List Nat := push κ [T.gap] T.tie
theorem start_rch {κ : Nat → Nat} {T : Tb} : ∀ y ∈ start κ T, Rch T y :=
  push_all (fun y hy => by rw [List.mem_singleton] at hy; subst hy; exact Rch.gap T) (Rch.tie T)
theorem start_dist {κ : Nat → Nat} {T : Tb} : Dist κ (start κ T) := push_dist (by unfold Dist; simp) _
theorem start_pos {κ : Nat → Nat} {T : Tb} : 0 < (start κ T).length := Nat.lt_of_lt_of_le (by simp : 0 < [T.gap].length) (push_prefix (κ := κ) [T.gap] T.tie).length_le
def ordOf (κ : Nat → Nat) (T : Tb) : List Nat := bfs κ (four T) T.n (start κ T) 0

/-- a list of different numbers below n -/
theorem nodup_le : ∀ (n : Nat) (l : List Nat), l.Nodup → (∀ x ∈ l, x < n) → l.length ≤ n := by
  intro n l h hl
  have := h.length_le_of_subset (l₂ := List.range n) (fun x hx => List.mem_range.mpr (hl x hx))
  simpa using this
theorem dist_nodup {α β : Type} {κ : α → β} {o : List α} (h : Dist κ o) : o.Nodup := by
  induction o with
  | nil => exact List.nodup_nil
  | cons x o ih =>
    have h' : (κ x :: o.map κ).Nodup := h
    rw [List.nodup_cons] at h' ⊢
    exact ⟨fun m => h'.1 (List.mem_map_of_mem m), ih h'.2⟩
theorem dist_inj {α β : Type} {κ : α → β} {o : List α} (h : Dist κ o) {i j : Nat} {a b : α} (ea : o[i]? = some a) (eb : o[j]? = some b) (e : κ a = κ b) : i = j := by
  have h1 : (o.map κ)[i]? = some (κ a) := by rw [List.getElem?_map, ea]; rfl
  have h2 : (o.map κ)[j]? = some (κ b) := by rw [List.getElem?_map, eb]; rfl
  rw [e] at h1
  obtain ⟨hi, qi⟩ := List.getElem?_eq_some_iff.mp h1
  obtain ⟨hj, qj⟩ := List.getElem?_eq_some_iff.mp h2
  rcases Nat.lt_trichotomy i j with q | q | q
  · exact absurd (qi.trans qj.symm) (List.pairwise_iff_getElem.mp h i j hi hj q)
  · exact q
  · exact absurd (qj.trans qi.symm) (List.pairwise_iff_getElem.mp h j i hj hi q)
theorem rch_bound {T : Tb} (h : T.Ok) (κ : Nat → Nat) : ∀ o : List Nat, Dist κ o → (∀ y ∈ o, Rch T y) → o.length ≤ T.n :=
  fun o d hP => nodup_le _ _ (dist_nodup d) fun x hx => (hP x hx).lt h

section
variable {T : Tb} (ok : T.Ok) (κ : Nat → Nat)
theorem ord_rch : ∀ y ∈ ordOf κ T, Rch T y := bfs_all (fun a b ha hb => four_rch ha hb) _ _ start_rch
theorem ord_dist : Dist κ (ordOf κ T) := bfs_dist _ _ start_dist
include ok in
theorem ord_le : (ordOf κ T).length ≤ T.n := rch_bound ok κ _ (ord_dist κ) (ord_rch κ)
include ok in
theorem ord_shut : Shut κ (four T) (ordOf κ T) (ordOf κ T).length :=
  bfs_shut (P := Rch T) (fun a b ha hb => four_rch ha hb) (rch_bound ok κ) _ _ (by omega) (Nat.zero_le _) start_dist start_rch (fun i j a b _ hj => absurd hj (Nat.not_lt_zero _))
theorem ord_prefix : start κ T <+: ordOf κ T := bfs_prefix _ _ _
theorem ord_gap : (ordOf κ T)[0]? = some T.gap :=
  prefix_get' (ord_prefix κ) (prefix_get' (push_prefix (κ := κ) [T.gap] T.tie) rfl)
theorem ord_tie : κ T.tie ∈ (ordOf κ T).map κ := has_prefix (ord_prefix κ) (push_has _ _)
theorem ord_pos : 0 < (ordOf κ T).length := (List.getElem?_eq_some_iff.mp (ord_gap κ)).1
include ok in
/-- all joins of what is met are met -/
theorem ord_op (r : Bool) {a b : Nat} (ha : a ∈ ordOf κ T) (hb : b ∈ ordOf κ T) : κ (op T r a b) ∈ (ordOf κ T).map κ := by
  obtain ⟨i, ea⟩ := List.mem_iff_getElem?.mp ha
  obtain ⟨j, eb⟩ := List.mem_iff_getElem?.mp hb
  have li := (List.getElem?_eq_some_iff.mp ea).1
  have lj := (List.getElem?_eq_some_iff.mp eb).1
  by_cases h : i ≤ j
  · refine ord_shut ok κ i j a b h lj ea eb _ ?_
    cases r <;> simp [four, op]
  · refine ord_shut ok κ j i b a (by omega) li eb ea _ ?_
    cases r <;> simp [four, op]
end
/-- all reached states are met, where the key is kept by joins -/
theorem ord_all {T : Tb} (ok : T.Ok) {κ : Nat → Nat} (hκ : ∀ (r : Bool) (a b c d : Nat), Rch T a → Rch T b → Rch T c → Rch T d → κ a = κ c → κ b = κ d → κ (op T r a b) = κ (op T r c d)) :
    ∀ b : Bld, κ (st T b) ∈ (ordOf κ T).map κ := by
  have key : ∀ (r : Bool) (a b : Bld), κ (st T a) ∈ (ordOf κ T).map κ → κ (st T b) ∈ (ordOf κ T).map κ → κ (op T r (st T a) (st T b)) ∈ (ordOf κ T).map κ := by
    intro r a b ha hb
    obtain ⟨x, hx, ex⟩ := List.mem_map.mp ha
    obtain ⟨y, hy, ey⟩ := List.mem_map.mp hb
    rw [← hκ r x y _ _ (ord_rch κ x hx) (ord_rch κ y hy) ⟨a, rfl⟩ ⟨b, rfl⟩ ex ey]
    exact ord_op ok κ r hx hy
  intro b
  induction b with
  | tie => exact ord_tie κ
  | gap => exact List.mem_map_of_mem (List.mem_of_getElem? (ord_gap κ))
  | row a b iha ihb => exact key true a b iha ihb
  | side a b iha ihb => exact key false a b iha ihb
theorem met_all {T : Tb} (ok : T.Ok) (b : Bld) : st T b ∈ ordOf id T := by
  have := ord_all ok (κ := id) (fun r a b c d _ _ _ _ e1 e2 => by simp only [id] at *; rw [e1, e2]) b
  simpa using this

/-! ### least tables -/
/-- the key tells states apart as surroundings do -/
def Disc (κ : Nat → Nat) (T : Tb) : Prop := ∀ x y, Rch T x → Rch T y → (κ x = κ y ↔ beh T x = beh T y)
def idx (κ : Nat → Nat) (o : List Nat) (x : Nat) : Nat := (o.map κ).idxOf (κ x)
def least (κ : Nat → Nat) (T : Tb) : Tb where
  tie := idx κ (ordOf κ T) T.tie
  gap := idx κ (ordOf κ T) T.gap
  rows := (ordOf κ T).map fun a => (ordOf κ T).map fun b => idx κ (ordOf κ T) (T.R a b)
  sides := (ordOf κ T).map fun a => (ordOf κ T).map fun b => idx κ (ordOf κ T) (T.S a b)
  acc := (List.range (ordOf κ T).length).filter fun i => decide ((ordOf κ T).getD i 0 ∈ T.acc)
theorem idx_lt {κ : Nat → Nat} {o : List Nat} {x : Nat} (h : κ x ∈ o.map κ) : idx κ o x < o.length := by
  have := List.idxOf_lt_length_of_mem h
  rw [List.length_map] at this; exact this
theorem idx_get {κ : Nat → Nat} {o : List Nat} {x : Nat} (h : κ x ∈ o.map κ) : ∃ y, o[idx κ o x]? = some y ∧ κ y = κ x := by
  have hl := List.idxOf_lt_length_of_mem h
  have e : (o.map κ)[(o.map κ).idxOf (κ x)]? = some (κ x) := by rw [List.getElem?_eq_getElem hl, List.getElem_idxOf hl]
  rw [List.getElem?_map] at e
  cases q : o[(o.map κ).idxOf (κ x)]? with
  | none => rw [q] at e; cases e
  | some y => rw [q] at e; exact ⟨y, q, Option.some.inj e⟩
theorem idx_of {κ : Nat → Nat} {o : List Nat} (d : Dist κ o) {i x y : Nat} (e : o[i]? = some y) (k : κ y = κ x) : idx κ o x = i := by
  have m : κ x ∈ o.map κ := by rw [← k]; exact List.mem_map_of_mem (List.mem_of_getElem? e)
  obtain ⟨z, ez, kz⟩ := idx_get m
  exact dist_inj d ez e (kz.trans k.symm)
section
variable {T : Tb} (ok : T.Ok) (κ : Nat → Nat)
theorem least_n : (least κ T).n = (ordOf κ T).length := by unfold Tb.n least; rw [List.length_map]
include ok in
theorem least_ok : (least κ T).Ok := by
  have sq : ∀ r : Bool, Square (least κ T).n ((ordOf κ T).map fun a => (ordOf κ T).map fun b => idx κ (ordOf κ T) (op T r a b)) := by
    intro r
    rw [least_n]
    refine ⟨by rw [List.length_map], fun l hl => ?_, fun l hl x hx => ?_⟩
    · obtain ⟨a, _, rfl⟩ := List.mem_map.mp hl; rw [List.length_map]
    · obtain ⟨a, ha, rfl⟩ := List.mem_map.mp hl
      obtain ⟨b, hb, rfl⟩ := List.mem_map.mp hx
      exact idx_lt (ord_op ok κ r ha hb)
  refine ⟨sq true, sq false, ?_, ?_, ?_, ?_⟩
  · rw [least_n]; exact idx_lt (ord_tie κ)
  · rw [least_n]; exact idx_lt (List.mem_map_of_mem (List.mem_of_getElem? (ord_gap κ)))
  · intro x hx
    rw [least_n]
    exact List.mem_range.mp (List.mem_filter.mp hx).1
  · exact List.Pairwise.filter _ List.pairwise_lt_range
theorem least_cell (r : Bool) {i j a b : Nat} (ea : (ordOf κ T)[i]? = some a) (eb : (ordOf κ T)[j]? = some b) : op (least κ T) r i j = idx κ (ordOf κ T) (op T r a b) := by
  have key : ∀ f : Nat → Nat → Nat, cell ((ordOf κ T).map fun a => (ordOf κ T).map fun b => f a b) i j = f a b := by
    intro f
    unfold cell
    rw [List.getD_eq_getElem?_getD, List.getD_eq_getElem?_getD, List.getElem?_map, ea, Option.map_some, Option.getD_some, List.getElem?_map, eb, Option.map_some, Option.getD_some]
  cases r
  · exact key _
  · exact key _
theorem least_gap : (least κ T).gap = 0 := idx_of (ord_dist κ) (ord_gap κ) rfl
end
section
variable {T : Tb} (ok : T.Ok) {κ : Nat → Nat} (d : Disc κ T)
include d in
theorem disc_op (r : Bool) (a b c e : Nat) (ha : Rch T a) (hb : Rch T b) (hc : Rch T c) (he : Rch T e) (k1 : κ a = κ c) (k2 : κ b = κ e) : κ (op T r a b) = κ (op T r c e) := by
  rw [d _ _ (ha.op r hb) (hc.op r he)]
  have e1 := (d _ _ ha hc).mp k1
  have e2 := (d _ _ hb he).mp k2
  obtain ⟨a, rfl⟩ := ha
  obtain ⟨b, rfl⟩ := hb
  obtain ⟨c, rfl⟩ := hc
  obtain ⟨e, rfl⟩ := he
  exact beh_op (Same.refl T) r e1 e2
include ok d in
/-- the state of a building in the least table stands for its state -/
theorem least_st (b : Bld) : ∃ y, (ordOf κ T)[st (least κ T) b]? = some y ∧ κ y = κ (st T b) := by
  have key : ∀ (r : Bool) (a b : Bld), (∃ y, (ordOf κ T)[st (least κ T) a]? = some y ∧ κ y = κ (st T a)) → (∃ y, (ordOf κ T)[st (least κ T) b]? = some y ∧ κ y = κ (st T b)) →
      ∃ y, (ordOf κ T)[st (least κ T) (jn r a b)]? = some y ∧ κ y = κ (st T (jn r a b)) := by
    intro r a b ⟨x, ex, kx⟩ ⟨y, ey, ky⟩
    rw [st_jn, st_jn, least_cell κ r ex ey]
    have hx := List.mem_of_getElem? ex
    have hy := List.mem_of_getElem? ey
    obtain ⟨z, ez, kz⟩ := idx_get (ord_op ok κ r hx hy)
    exact ⟨z, ez, kz.trans (disc_op d r _ _ _ _ (ord_rch κ _ hx) (ord_rch κ _ hy) ⟨a, rfl⟩ ⟨b, rfl⟩ kx ky)⟩
  induction b with
  | tie => exact idx_get (ord_tie κ)
  | gap => exact idx_get (List.mem_map_of_mem (List.mem_of_getElem? (ord_gap κ)))
  | row a b iha ihb => exact key true a b iha ihb
  | side a b iha ihb => exact key false a b iha ihb
theorem acc_beh {x y : Nat} (e : beh T x = beh T y) : x ∈ T.acc ↔ y ∈ T.acc := by
  have := congrFun e []
  exact decide_eq_decide.mp this
theorem mem_least_acc {i a : Nat} (e : (ordOf κ T)[i]? = some a) : i ∈ (least κ T).acc ↔ a ∈ T.acc := by
  show i ∈ List.filter _ _ ↔ _
  rw [List.mem_filter, List.mem_range, List.getD_eq_getElem?_getD, e, Option.getD_some, decide_eq_true_iff]
  exact ⟨fun h => h.2, fun h => ⟨(List.getElem?_eq_some_iff.mp e).1, h⟩⟩
include ok d in
theorem least_same : Same T (least κ T) := fun b => by
  obtain ⟨y, ey, ky⟩ := least_st ok d b
  rw [mem_least_acc ey]
  exact (acc_beh ((d _ _ (ord_rch κ _ (List.mem_of_getElem? ey)) ⟨b, rfl⟩).mp ky)).symm
end

/-- the least tables of two tables that accept the same are equal -/
theorem least_eq {T U : Tb} (okT : T.Ok) (okU : U.Ok) {κ κ' : Nat → Nat} (dT : Disc κ T) (dU : Disc κ' U) (h : Same T U) : least κ T = least κ' U := by
  let E : Nat → Nat → Prop := fun a c => Rch T a ∧ Rch U c ∧ beh T a = beh U c
  have eop : ∀ (r : Bool) (a b c e : Nat), E a c → E b e → E (op T r a b) (op U r c e) := by
    intro r a b c e ⟨h1, h2, h3⟩ ⟨k1, k2, k3⟩
    refine ⟨h1.op r k1, h2.op r k2, ?_⟩
    obtain ⟨a, rfl⟩ := h1
    obtain ⟨c, rfl⟩ := h2
    obtain ⟨b, rfl⟩ := k1
    obtain ⟨e, rfl⟩ := k2
    exact beh_op h r h3 k3
  have S : Sim E κ (four T) κ' (four U) := by
    refine ⟨fun a b c e ⟨h1, h2, h3⟩ ⟨k1, k2, k3⟩ => ?_, fun a b c e h1 h2 => ?_⟩
    · rw [dT _ _ h1 k1, dU _ _ h2 k2, h3, k3]
    · exact .cons (eop true _ _ _ _ h1 h2) (.cons (eop true _ _ _ _ h2 h1) (.cons (eop false _ _ _ _ h1 h2) (.cons (eop false _ _ _ _ h2 h1) .nil)))
  have Eg : E T.gap U.gap := ⟨Rch.gap T, Rch.gap U, h.beh .gap⟩
  have Et : E T.tie U.tie := ⟨Rch.tie T, Rch.tie U, h.beh .tie⟩
  have Es : All2 E (start κ T) (start κ' U) := S.push (.cons Eg .nil) Et
  have fT : ordOf κ T = bfs κ (four T) (T.n + U.n) (start κ T) 0 :=
    bfs_fuel (P := Rch T) (fun a b ha hb => four_rch ha hb) (rch_bound okT κ) _ _ _ (by omega) (by omega) (Nat.zero_le _) start_dist start_rch
  have fU : ordOf κ' U = bfs κ' (four U) (T.n + U.n) (start κ' U) 0 :=
    bfs_fuel (P := Rch U) (fun a b ha hb => four_rch ha hb) (rch_bound okU κ') _ _ _ (by omega) (by omega) (Nat.zero_le _) start_dist start_rch
  have A : All2 E (ordOf κ T) (ordOf κ' U) := by rw [fT, fU]; exact S.bfs _ _ Es
  have ix : ∀ x y, E x y → κ x ∈ (ordOf κ T).map κ → idx κ (ordOf κ T) x = idx κ' (ordOf κ' U) y := by
    intro x y e m
    obtain ⟨z, ez, kz⟩ := idx_get m
    obtain ⟨w, ew, e2⟩ := A.get ez
    exact (idx_of (ord_dist κ') ew ((S.key _ _ _ _ e2 e).mp kz)).symm
  have cells : ∀ r : Bool, ((ordOf κ T).map fun a => (ordOf κ T).map fun b => idx κ (ordOf κ T) (op T r a b)) = (ordOf κ' U).map fun a => (ordOf κ' U).map fun b => idx κ' (ordOf κ' U) (op U r a b) := by
    intro r
    have A' : All2 (fun a c => E a c ∧ a ∈ ordOf κ T) (ordOf κ T) (ordOf κ' U) := by
      have : ∀ {l : List Nat} {m : List Nat}, All2 E l m → (∀ x ∈ l, x ∈ ordOf κ T) → All2 (fun a c => E a c ∧ a ∈ ordOf κ T) l m := by
        intro l m h
        induction h with
        | nil => intro _; exact .nil
        | cons e _ ih => intro hs; exact .cons ⟨e, hs _ List.mem_cons_self⟩ (ih fun x hx => hs x (List.mem_cons_of_mem _ hx))
      exact this A fun _ hx => hx
    exact A'.of_map fun a c e => A'.of_map fun b d f => ix _ _ (eop r _ _ _ _ e.1 f.1) (ord_op okT κ r e.2 f.2)
  unfold least
  congr 1
  · exact ix _ _ Et (ord_tie κ)
  · exact ix _ _ Eg (List.mem_map_of_mem (List.mem_of_getElem? (ord_gap κ)))
  · exact cells true
  · exact cells false
  · rw [A.length]
    refine List.filter_congr fun i hi => ?_
    have hi' := List.mem_range.mp hi
    obtain ⟨a, ea, e⟩ := A.get' (List.getElem?_eq_getElem hi')
    rw [List.getD_eq_getElem?_getD, List.getD_eq_getElem?_getD, ea, List.getElem?_eq_getElem hi', Option.getD_some, Option.getD_some]
    have := congrFun e.2.2 []
    exact this

/-- T' is the least table of T -/
def Least (T T' : Tb) : Prop := ∃ κ, Disc κ T ∧ T' = least κ T
theorem Least.ok {T T' : Tb} (okT : T.Ok) (h : Least T T') : T'.Ok := by obtain ⟨κ, _, rfl⟩ := h; exact least_ok okT κ
theorem Least.n_le {T T' : Tb} (okT : T.Ok) (h : Least T T') : T'.n ≤ T.n := by obtain ⟨κ, _, rfl⟩ := h; rw [least_n]; exact ord_le okT κ
theorem Least.same {T T' : Tb} (okT : T.Ok) (h : Least T T') : Same T T' := by obtain ⟨κ, d, rfl⟩ := h; exact least_same okT d
theorem Least.eq {T U T' U' : Tb} (okT : T.Ok) (okU : U.Ok) (hT : Least T T') (hU : Least U U') (h : Same T U) : T' = U' := by
  obtain ⟨κ, d, rfl⟩ := hT
  obtain ⟨κ', d', rfl⟩ := hU
  exact least_eq okT okU d d' h
/-- a least table is its own least one -/
theorem Least.self {T T' T'' : Tb} (okT : T.Ok) (hT : Least T T') (h : Least T' T'') : T'' = T' :=
  (hT.eq okT (hT.ok okT) h (hT.same okT)).symm
/-- all states of a least table are met in their order -/
theorem Least.met {T T' : Tb} (okT : T.Ok) (h : Least T T') : ordOf id T' = List.range T'.n := by
  obtain ⟨κ, d, rfl⟩ := h
  let E : Nat → Nat → Prop := fun i x => Rch T x ∧ ∃ y, (ordOf κ T)[i]? = some y ∧ κ y = κ x
  have eop : ∀ (r : Bool) (a b c e : Nat), E a c → E b e → E (op (least κ T) r a b) (op T r c e) := by
    intro r a b c e ⟨h1, y, ey, ky⟩ ⟨k1, z, ez, kz⟩
    refine ⟨h1.op r k1, ?_⟩
    rw [least_cell κ r ey ez]
    have hy := List.mem_of_getElem? ey
    have hz := List.mem_of_getElem? ez
    obtain ⟨w, ew, kw⟩ := idx_get (ord_op okT κ r hy hz)
    exact ⟨w, ew, kw.trans (disc_op d r _ _ _ _ (ord_rch κ _ hy) (ord_rch κ _ hz) h1 k1 ky kz)⟩
  have S : Sim E id (four (least κ T)) κ (four T) := by
    refine ⟨fun a b c e ⟨h1, y, ey, ky⟩ ⟨k1, z, ez, kz⟩ => ⟨fun q => ?_, fun q => ?_⟩, fun a b c e h1 h2 => ?_⟩
    · simp only [id] at q
      subst q
      rw [ey] at ez
      cases ez
      exact ky.symm.trans kz
    · exact dist_inj (ord_dist κ) ey ez (ky.trans (q.trans kz.symm))
    · exact .cons (eop true _ _ _ _ h1 h2) (.cons (eop true _ _ _ _ h2 h1) (.cons (eop false _ _ _ _ h1 h2) (.cons (eop false _ _ _ _ h2 h1) .nil)))
  have Eg : E (least κ T).gap T.gap := ⟨Rch.gap T, idx_get (List.mem_map_of_mem (List.mem_of_getElem? (ord_gap κ)))⟩
  have Et : E (least κ T).tie T.tie := ⟨Rch.tie T, idx_get (ord_tie κ)⟩
  have Es : All2 E (start id (least κ T)) (start κ T) := S.push (.cons Eg .nil) Et
  have f1 : ordOf id (least κ T) = bfs id (four (least κ T)) ((least κ T).n + T.n) (start id (least κ T)) 0 :=
    bfs_fuel (P := Rch (least κ T)) (fun a b ha hb => four_rch ha hb) (rch_bound (least_ok okT κ) id) _ _ _ (by omega) (by omega) (Nat.zero_le _) start_dist start_rch
  have f2 : ordOf κ T = bfs κ (four T) ((least κ T).n + T.n) (start κ T) 0 :=
    bfs_fuel (P := Rch T) (fun a b ha hb => four_rch ha hb) (rch_bound okT κ) _ _ _ (by omega) (by omega) (Nat.zero_le _) start_dist start_rch
  have A : All2 E (ordOf id (least κ T)) (ordOf κ T) := by rw [f1, f2]; exact S.bfs _ _ Es
  refine List.ext_getElem? fun k => ?_
  rw [least_n]
  by_cases hk : k < (ordOf κ T).length
  · obtain ⟨i, ei, _, y, ey, ky⟩ := A.get' (List.getElem?_eq_getElem hk)
    rw [ei, List.getElem?_range hk]
    exact congrArg some (dist_inj (ord_dist κ) ey (List.getElem?_eq_getElem hk) ky)
  · rw [List.getElem?_eq_none (by rw [A.length]; omega), List.getElem?_eq_none (by simp; omega)]
end K46
set_option Elab.async false
set_option linter.all false
set_option autoImplicit false
set_option maxRecDepth 100000
/-! K46Base: the text by places, defs by names, their promises. -/
namespace K46
set_option maxHeartbeats 1000000
open PySem PySem.Spec PyProof.Rows L2 Evl

/-! ### the text -/
def pr : Program := PySem.Challenge.pw_seamsayings_k46_whole_least_tables
def top (i : Nat) : Stmt := pr.main.body.getD i (.Pass ⟨0, 0, 0, 0⟩)

/-- the def x, whose statement is st, stands behind the top -/
def FnG (K : PySem.W.Frag) (x : Str) (st : Stmt) : Prop := ∃ fd, FunD K x x (defArgs st) (defBody st) (defScope st) [] [] (He.ga K x) fd
/-- the def x keeps the promise sp -/
def Pr (P : Program) (w : World) (K : PySem.W.Frag) (mg : Str → Option Value) (base : Heap) (k : Nat) (x : Str) (ps : List Str) (sp : Sp) : Prop :=
  ∃ fd, FnOk P w K mg base CX0 k (He.ga K x) fd ps sp ∧ Binds K fd ps [] ∧ PySem.W.keepIn K (.ref (He.ga K x)) = true ∧ mg x = some (.ref (He.ga K x))

section
variable {X : Cx}
theorem pe_g {x : Str} {k : Nat} {ps : List Str} {sp : Sp} {e : Expr} {es : List Expr} {t : TA} {p pos : Pos} (F : Pr X.prog X.w X.K X.mg X.base k x ps sp) (hr : Room k X.A) (ha : PA X (e :: es) t) (hg : Gl X x := by rfl)
    (hdb : (x == ("__debug__" : Str)) = false := by decide) (he : starEach (e :: es) X.env = (false, eval e X.env) :: starEach es X.env := by rfl) (hpl : (backTo pos (starEach es X.env)).any (·.1) = false := by rfl) :
    PE X (.Call (.Name x p) (e :: es) [] pos) (tCall sp [] E0 t) := by
  obtain ⟨fd, F1, F2, F3, F4⟩ := F
  exact pe_call F1 hr hg F4 F3 F2 .nil pass0 ha hdb he hpl
end
section
variable {P : Program} {w : World} {K : PySem.W.Frag} {mg : Str → Option Value} {base : Heap}
theorem Pr.mono {j k : Nat} {x : Str} {ps : List Str} {sp : Sp} (F : Pr P w K mg base j x ps sp) (h : j ≤ k) : Pr P w K mg base k x ps sp := by
  obtain ⟨fd, F1, F2⟩ := F
  exact ⟨fd, F1.mono h, F2⟩
theorem pr_mk {x : Str} {st : Stmt} {N ps : List Str} {k : Nat} {sp : Sp} (F : FnG K x st) (hm : mg x = some (.ref (He.ga K x))) (S : FnScope N ps (defScope st))
    (hb : ∀ (kV doc pm : Value) (an : Option Addr) (cdv ct : Value) (us : List Value), us.length = ps.length → bindArgs (PySem.W.fnOf x x (defArgs st) (defBody st) (defScope st) .none kV doc pm an cdv ct) ⟨us, []⟩ = pure (ps.zip us))
    (len : ∀ vs H Q E, sp vs H Q E → vs.length = ps.length)
    (body : ∀ (f : Addr) (cdv : Value) (A : Around) (outer : List Env) (s : Shared) (H : Hp) (vs : List V) (Q : VK) (E : XK), Room k (A.deeper (envOfC x (defScope st) s.heap.objs.size f cdv)) → sp vs H Q E →
      ∃ t, PSs (cxOf CX0 P w K mg base N x (defScope st) f cdv A outer s H E).nox (defBody st) t ∧ t { nx := fun _ H' => Q .non H', rt := Q } (L2.start N vs) H) : Pr P w K mg base (k + 1) x ps sp := by
  obtain ⟨fd, F⟩ := F
  refine ⟨fd, F.ok S len fun cdv A outer s H vs Q E hr h => ?_, F.bindsN hb, F.kp, hm⟩
  obtain ⟨t, h1, h2⟩ := body _ cdv A outer s H vs Q E hr h
  exact ⟨t, h1.nox, h2⟩
end

/-! ### what the walks lean on: names that the top does not bind, its constants -/
structure Free (mg : Str → Option Value) : Prop where
  len : mg "len" = none
  range : mg "range" = none
  tuple : mg "tuple" = none
  list : mg "list" = none
  dict : mg "dict" = none
  set : mg "set" = none
  sorted : mg "sorted" = none
  zip : mg "zip" = none
  enumerate : mg "enumerate" = none
  isinstance : mg "isinstance" = none
  int : mg "int" = none
  bool : mg "bool" = none
  str : mg "str" = none
  abs : mg "abs" = none
  max : mg "max" = none
  min : mg "min" = none
  repr : mg "repr" = none
  all : mg "all" = none
/-- two built-in classes, one asked -/
theorem isi_ty {K : PySem.W.Frag} {a b : String} {r : Bool} (h : kitB a b = some r) : PySem.W.kitOne K (.type a) (.type b) = some r := kit_ty h
end K46
namespace K46
open PySem PySem.Spec PyProof.Rows L2 Evl
theorem b_len : bootBuiltins "len" = some (.builtin "len") := by decide +kernel
theorem b_all : bootBuiltins "all" = some (.builtin "all") := by decide +kernel
theorem b_isi : bootBuiltins "isinstance" = some (.builtin "isinstance") := by decide +kernel
theorem b_sorted : bootBuiltins "sorted" = some (.builtin "sorted") := by decide +kernel
theorem b_repr : bootBuiltins "repr" = some (.builtin "repr") := by decide +kernel
theorem b_abs : bootBuiltins "abs" = some (.builtin "abs") := by decide +kernel
theorem b_max : bootBuiltins "max" = some (.builtin "max") := by decide +kernel
theorem b_min : bootBuiltins "min" = some (.builtin "min") := by decide +kernel
theorem b_int : bootBuiltins "int" = some (.type "int") := by decide +kernel
theorem b_bool : bootBuiltins "bool" = some (.type "bool") := by decide +kernel
theorem b_str : bootBuiltins "str" = some (.type "str") := by decide +kernel
theorem b_tuple : bootBuiltins "tuple" = some (.type "tuple") := by decide +kernel
theorem b_list : bootBuiltins "list" = some (.type "list") := by decide +kernel
theorem b_dict : bootBuiltins "dict" = some (.type "dict") := by decide +kernel
theorem b_set : bootBuiltins "set" = some (.type "set") := by decide +kernel
/-- the module's constants -/
structure Consts (mg : Str → Option Value) : Prop where
  great : ∃ t, mg "GREAT" = some (.int (10 ^ 60) t)
  leaves : ∃ t, mg "MAX_LEAVES" = some (.int 60 t)
  states : ∃ t, mg "MAX_STATES" = some (.int 400 t)
  tie : ∃ t, mg "TIE" = some (.str "tie" t)
  gap : ∃ t, mg "GAP" = some (.str "gap" t)
  row : ∃ t, mg "ROW" = some (.str "row" t)
  side : ∃ t, mg "SIDE" = some (.str "side" t)
  both : ∃ t, mg "BOTH" = some (.str "both" t)
  some_ : ∃ t, mg "SOME" = some (.str "some" t)
section
variable {X : Cx}
theorem pe_gi {x : Str} {i : Int} {pos : Pos} (hm : ∃ t, X.mg x = some (.int i t)) (hg : Gl X x := by rfl) (hd : (x == ("__debug__" : Str)) = false := by decide) : PE X (.Name x pos) (tC (.int i)) := by
  obtain ⟨t, e⟩ := hm
  exact pe_glob hg e ⟨t, rfl⟩ hd
theorem pe_gs {x z : Str} {pos : Pos} (hm : ∃ t, X.mg x = some (.str z t)) (hg : Gl X x := by rfl) (hd : (x == ("__debug__" : Str)) = false := by decide) : PE X (.Name x pos) (tC (.str z)) := by
  obtain ⟨t, e⟩ := hm
  exact pe_glob hg e ⟨t, rfl⟩ hd
/-- a built-in class as a value -/
theorem pe_ty {x : Str} {T : String} {pos : Pos} (hm : X.mg x = none) (hv : bootBuiltins x = some (.type T)) (hg : Gl X x := by rfl) (hn : x ≠ "__name__" := by decide) (hd : (x == ("__debug__" : Str)) = false := by decide) : PE X (.Name x pos) (tC (.ty T)) :=
  pe_bltn hg hm hv rfl hn hd
end
end K46
set_option Elab.async false
set_option linter.all false
set_option autoImplicit false
set_option maxRecDepth 100000
/-! K46Ev: how sequences, square tables stand in the heap; what expressions over them come to. -/
namespace K46
open PySem PySem.Spec PyProof.Rows L2 Evl
set_option maxHeartbeats 1000000

abbrev nV (n : Nat) : V := .int (n : Int)
/-- v is a list or a tuple of xs -/
def Sq (K : PySem.W.Frag) (H : Hp) (v : V) (xs : List V) : Prop := ∃ a, v = .ref a ∧ (SqL K H a xs ∨ SqT K H a xs)
theorem Sq.mono {K : PySem.W.Frag} {H H' : Hp} {v : V} {xs : List V} (h : Sq K H v xs) (e : Ex H H') : Sq K H' v xs := by
  obtain ⟨a, rfl, h⟩ := h
  exact ⟨a, rfl, h.imp (ex_l e) (ex_t e)⟩
theorem Sq.l {K : PySem.W.Frag} {H : Hp} {a : Addr} {xs : List V} (h : H a = some (.lst xs)) : Sq K H (.ref a) xs := ⟨a, rfl, .inl (SqL.of h)⟩
theorem Sq.t {K : PySem.W.Frag} {H : Hp} {a : Addr} {xs : List V} (h : H a = some (.tup xs)) : Sq K H (.ref a) xs := ⟨a, rfl, .inr (SqT.of h)⟩
def SqN (K : PySem.W.Frag) (H : Hp) (v : V) (l : List Nat) : Prop := Sq K H v (l.map nV)
theorem SqN.mono {K : PySem.W.Frag} {H H' : Hp} {v : V} {l : List Nat} (h : SqN K H v l) (e : Ex H H') : SqN K H' v l := Sq.mono h e
def Mat (K : PySem.W.Frag) (H : Hp) (v : V) (m : List (List Nat)) : Prop := ∃ rs, Sq K H v rs ∧ Paired (SqN K H) rs m
theorem paired_mono {α β : Type} {F G : α → β → Prop} (f : ∀ a b, F a b → G a b) : ∀ {l : List α} {r : List β}, Paired F l r → Paired G l r
  | _, _, .nil => .nil
  | _, _, .cons h t => .cons (f _ _ h) (paired_mono f t)
theorem paired_get {α β : Type} {F : α → β → Prop} : ∀ {l : List α} {r : List β}, Paired F l r → ∀ {i : Nat} {b : β}, r[i]? = some b → ∃ a, l[i]? = some a ∧ F a b
  | _, _, .nil, i, b, e => by simp at e
  | _, _, .cons h t, 0, b, e => by simp at e; subst e; exact ⟨_, rfl, h⟩
  | _, _, .cons h t, i + 1, b, e => by
    obtain ⟨a, h1, h2⟩ := paired_get t (i := i) (b := b) (by simpa using e)
    exact ⟨a, by simpa using h1, h2⟩
theorem paired_length {α β : Type} {F : α → β → Prop} : ∀ {l : List α} {r : List β}, Paired F l r → l.length = r.length
  | _, _, .nil => rfl
  | _, _, .cons h t => by simp [paired_length t]
theorem paired_of {α β : Type} {F : α → β → Prop} : ∀ {l : List α} {r : List β}, l.length = r.length → (∀ (i : Nat) (a : α) (b : β), l[i]? = some a → r[i]? = some b → F a b) → Paired F l r
  | [], [], _, _ => .nil
  | a :: l, b :: r, h, f => .cons (f 0 a b rfl rfl) (paired_of (by simpa using h) fun i x y h1 h2 => f (i + 1) x y (by simpa using h1) (by simpa using h2))
  | [], b :: r, h, _ => by simp at h
  | a :: l, [], h, _ => by simp at h
theorem Mat.mono {K : PySem.W.Frag} {H H' : Hp} {v : V} {m : List (List Nat)} (h : Mat K H v m) (e : Ex H H') : Mat K H' v m := by
  obtain ⟨rs, h1, h2⟩ := h
  exact ⟨rs, h1.mono e, paired_mono (fun _ _ q => SqN.mono q e) h2⟩
theorem nV_get {l : List Nat} {i x : Nat} (h : l[i]? = some x) : (l.map nV)[i]? = some (nV x) := by rw [List.getElem?_map, h]; rfl
theorem rv_seq {K : PySem.W.Frag} {H : Hp} {v : V} {xs : List V} {i : Nat} {z : V} (h : Sq K H v xs) (e : xs[i]? = some z) : RV (rIx K) v (nV i) H z := by
  obtain ⟨a, rfl, h⟩ := h
  rcases h with h | h
  · exact fun H1 e1 Q q => .inl (rv_ixL h (atI_nat e) H1 e1 Q q)
  · exact fun H1 e1 Q q => .inr (.inl (rv_ixT h (atI_nat e) H1 e1 Q q))
section
variable {K : PySem.W.Frag} {σ : L2.St} {H H' : Hp} {ta tb tc te : TE} {v x y z : V}
theorem ev_ix {xs : List V} {i : Nat} (ha : Ev ta σ H v) (hb : Ev tb σ H (nV i)) (h : Sq K H v xs) (e : xs[i]? = some z) : Ev (tOp (rIx K) ta tb) σ H z := ev_op ha hb (rv_seq h e)
theorem ev_cell {m : List (List Nat)} {n i j : Nat} (ha : Ev ta σ H v) (hb : Ev tb σ H (nV i)) (hc : Ev tc σ H (nV j)) (h : Mat K H v m) (q : Square n m) (hi : i < n) (hj : j < n) :
    Ev (tOp (rIx K) (tOp (rIx K) ta tb) tc) σ H (nV (cell m i j)) := by
  obtain ⟨rs, h1, h2⟩ := h
  obtain ⟨r, e, _, er⟩ := q.get hi
  obtain ⟨u, eu, hu⟩ := paired_get h2 e
  exact ev_ix (ev_ix ha hb h1 eu) hc hu (nV_get (er j hj))
/-- what comes has P -/
def EvP (te : TE) (σ : L2.St) (H : Hp) (P : V → Hp → Prop) : Prop := ∀ H1, Ex H H1 → ∀ Q : VK, (∀ v H2, Ex H1 H2 → P v H2 → Q v H2) → te σ H1 Q
theorem EvP.mono {P : V → Hp → Prop} (e : Ex H H') (h : EvP te σ H P) : EvP te σ H' P := fun H1 a Q q => h H1 (e.trans a) Q q
theorem EvP.imp {P P' : V → Hp → Prop} (h : EvP te σ H P) (f : ∀ v H', Ex H H' → P v H' → P' v H') : EvP te σ H P' := fun H1 a Q q => h H1 a Q fun v H2 e2 p => q v H2 e2 (f v H2 (a.trans e2) p)
theorem ep_ev (h : Ev te σ H v) : EvP te σ H (fun x _ => x = v) := fun H1 a Q q => h H1 a Q fun H2 e2 => q v H2 e2 rfl
theorem ep_el {xs : List V} (h : EvL te σ H xs) : EvP te σ H (fun x H' => ∃ p, x = .ref p ∧ H p = none ∧ H' p = some (.lst xs)) := fun H1 a Q q => h H1 a Q fun p H2 hp e2 hl => q _ H2 e2 ⟨p, rfl, fresh_back a hp, hl⟩
theorem ep_eu {xs : List V} (h : EvU te σ H xs) : EvP te σ H (fun x H' => ∃ p, x = .ref p ∧ H p = none ∧ H' p = some (.tup xs)) := fun H1 a Q q => h H1 a Q fun p H2 hp e2 hl => q _ H2 e2 ⟨p, rfl, fresh_back a hp, hl⟩
variable {D : Ends} {tz : TS}
theorem s_asgP {i : Nat} {P : V → Hp → Prop} (h : EvP te σ H P) (k : ∀ v H1, Ex H H1 → P v H1 → D.nx (σ.set i (some v)) H1) : tAsg te (gName i) D σ H := h H (Ex.refl H) _ fun v H1 e p => k v H1 e p
theorem q_asgP {i : Nat} {P : V → Hp → Prop} (h : EvP te σ H P) (k : ∀ v H1, Ex H H1 → P v H1 → tz D (σ.set i (some v)) H1) : tSeq (tAsg te (gName i)) tz D σ H := s_asgP (D := { D with nx := tz D }) h k
theorem s_retP {P : V → Hp → Prop} (h : EvP te σ H P) (k : ∀ v H1, Ex H H1 → P v H1 → D.rt v H1) : tRet te D σ H := h H (Ex.refl H) _ fun v H1 e p => k v H1 e p
/-- what a def hands back has R, all that stood stands -/
def Rets (H : Hp) (Q : VK) (R : V → Hp → Prop) : Prop := ∀ v H', Ex H H' → R v H' → Q v H'
def SpP (sp : Sp) (vs : List V) (H : Hp) (R : V → Hp → Prop) : Prop := ∀ H1, Ex H H1 → ∀ Q : VK, (∀ v H2, Ex H1 H2 → R v H2 → Q v H2) → sp vs H1 Q E0
def EvAP (ta : TA) (σ : L2.St) (H : Hp) (P : List V → Hp → Prop) : Prop := ∀ H1, Ex H H1 → ∀ Q : List V → Hp → Prop, (∀ vs H2, Ex H1 H2 → P vs H2 → Q vs H2) → ta σ H1 Q
theorem eap_nil : EvAP tNil σ H (fun vs _ => vs = []) := fun H1 _ Q q => q [] H1 (Ex.refl H1) rfl
theorem eap_of {ta : TA} {vs : List V} (h : EvA ta σ H vs) : EvAP ta σ H (fun ws _ => ws = vs) := fun H1 a Q q => h H1 a Q fun H2 e2 => q vs H2 e2 rfl
theorem eap_cons {tr : TA} {P : V → Hp → Prop} {P2 : List V → Hp → Prop} (h : EvP te σ H P) (hr : ∀ v H1, Ex H H1 → P v H1 → EvAP tr σ H1 (fun vs H2 => P2 (v :: vs) H2)) : EvAP (tCons te tr) σ H P2 := fun H1 e Q q =>
  h H1 e _ fun v H2 e2 p => hr v H2 (e.trans e2) p H2 (Ex.refl H2) _ fun vs H3 e3 p3 => q _ H3 (e2.trans e3) p3
theorem eap_consE {tr : TA} {P2 : List V → Hp → Prop} (h : Ev te σ H v) (hr : EvAP tr σ H (fun vs H2 => P2 (v :: vs) H2)) : EvAP (tCons te tr) σ H P2 := fun H1 e Q q =>
  h H1 e _ fun H2 e2 => hr H2 (e.trans e2) _ fun vs H3 e3 p3 => q _ H3 (e2.trans e3) p3
theorem ep_call {sp : Sp} {vs : List V} {ta : TA} {R : V → Hp → Prop} (h : EvA ta σ H vs) (hs : SpP sp (vs ++ []) H R) : EvP (tCall sp [] E0 ta) σ H R := fun H1 e Q q =>
  h H1 e _ fun H2 e2 => hs H2 (e.trans e2) Q fun v H3 e3 p => q v H3 (e2.trans e3) p
theorem ep_callP {sp : Sp} {ta : TA} {P : List V → Hp → Prop} {R : V → Hp → Prop} (h : EvAP ta σ H P) (hs : ∀ vs H1, Ex H H1 → P vs H1 → SpP sp (vs ++ []) H1 R) : EvP (tCall sp [] E0 ta) σ H R := fun H1 e Q q =>
  h H1 e _ fun vs H2 e2 p2 => hs vs H2 (e.trans e2) p2 H2 (Ex.refl H2) Q fun v H3 e3 p => q v H3 (e2.trans e3) p
end
end K46
set_option Elab.async false
set_option linter.all false
set_option autoImplicit false
set_option maxRecDepth 100000
/-! K46Ev2: what is walked; comprehensions. -/
namespace K46
open PySem PySem.Spec PyProof.Rows L2 Evl
set_option maxHeartbeats 1000000

/-! ### a list or a tuple is walked -/
def iSeq (K : PySem.W.Frag) (tl : TE) : TI := fun σ H R => tl σ H fun x H1 => ∃ a xs, x = .ref a ∧ ((SqL K H1 a xs ∧ R (Itl K a) H1) ∨ (SqT K H1 a xs ∧ R (Itt K a) H1))
theorem pi_seq {X : Cx} {tg l : Expr} {tl : TE} (hl : PE X l tl) : PI X tg l (iSeq X.K tl) := by
  constructor
  intro pins s σ H R I h
  refine thn (hl.run pins s σ H _ I h) ?_
  rintro v s1 ⟨x, H1, I1, r1, a, xs, rfl, q1⟩
  cases r1
  have new : ∀ b ∈ [s1.heap.objs.size], FpOk X pins H1 b := fun b hb => by
    rw [List.mem_singleton.mp hb]
    exact I1.fpOk (Nat.le_refl _) (I1.hok.fresh (Nat.le_refl _))
  have kp : ∀ (o : Obj), Inv X pins σ H1 { s1 with heap := s1.heap.push o, toks := s1.toks } := fun o => I1.kept fun b u e => Heap.get?_push_of_some _ e
  rcases q1 with ⟨hq, q⟩ | ⟨hq, q⟩
  · obtain ⟨its, _, p, _⟩ := I1.list hq
    exact wpAny_pyIter_list p.isList ⟨_, [s1.heap.objs.size], _, _, H1, rfl, kp _, turn_list a _, ⟨_, Heap.get?_push_size _ rfl, rfl, rfl⟩, new, q⟩
  · obtain ⟨its, _, p, _⟩ := I1.tuple hq
    exact wpAny_pyIter_tuple (show s1.heap.IsTuple a its.toArray from p) ⟨_, [s1.heap.objs.size], _, _, H1, rfl, kp _, turn_tuple a _, ⟨_, Heap.get?_push_size _ rfl, rfl, rfl⟩, new, q⟩

/-- wi walks n turns, of which Y tells, as long as the base stands | and the new objects F that it walks -/
def Over0 (wi : TI) (σ : L2.St) (H : Hp) (n : Nat) (Y : Nat → Hp → V → Hp → Prop) : Prop :=
  ∀ H1, Ex H H1 → ∀ R : It → Hp → Prop, (∀ J H2 G, Ex H1 H2 → Walk J n G Y → (∀ H3, Ex H H3 → G H3) → R J H2) → wi σ H1 R
def Over (wi : TI) (σ : L2.St) (H : Hp) (n : Nat) (Y : Nat → Hp → V → Hp → Prop) : Prop :=
  ∀ H1, Ex H H1 → ∀ R : It → Hp → Prop, (∀ J H2 G (F : List Addr), Ex H1 H2 → (∀ p ∈ F, H1 p = none ∧ ∃ o, H2 p = some o) → Walk J n G Y → (∀ H3, Ex H H3 → (∀ p ∈ F, H3 p = H2 p) → G H3) → R J H2) → wi σ H1 R
theorem Over0.over {wi : TI} {σ : L2.St} {H : Hp} {n : Nat} {Y : Nat → Hp → V → Hp → Prop} (h : Over0 wi σ H n Y) : Over wi σ H n Y := fun H1 e R k =>
  h H1 e R fun J H2 G e2 w g => k J H2 G [] e2 (fun p hp => by cases hp) w fun H3 e3 _ => g H3 e3
theorem Over0.mono {wi : TI} {σ : L2.St} {H H' : Hp} {n : Nat} {Y : Nat → Hp → V → Hp → Prop} (h : Over0 wi σ H n Y) (e : Ex H H') : Over0 wi σ H' n Y := fun H1 e1 R k =>
  h H1 (e.trans e1) R fun J H2 G e2 w g => k J H2 G e2 w fun H3 e3 => g H3 (e.trans e3)
section
variable {K : PySem.W.Frag} {σ : L2.St} {H H' : Hp} {ta tb tc te : TE} {v x y z : V}
theorem over_seq {xs : List V} {tl : TE} (h : Ev tl σ H v) (hx : Sq K H v xs) : Over0 (iSeq K tl) σ H xs.length (YAt xs) := fun H1 e R k => by
  obtain ⟨a, rfl, hx⟩ := hx
  refine h H1 e _ fun H2 e2 => ⟨a, xs, rfl, ?_⟩
  rcases hx with hx | hx
  · exact .inl ⟨ex_l (e.trans e2) hx, k _ _ _ e2 walk_list fun H3 e3 => ex_l e3 hx⟩
  · exact .inr ⟨ex_t (e.trans e2) hx, k _ _ _ e2 walk_tup fun H3 e3 => ex_t e3 hx⟩
theorem over_list {xs : List V} {tl : TE} {a : Addr} (h : Ev tl σ H (.ref a)) (hx : SqL K H a xs) : Over0 (iList K tl) σ H xs.length (YAt xs) := fun H1 e R k =>
  h H1 e _ fun H2 e2 => ⟨a, rfl, ⟨xs, ex_l (e.trans e2) hx⟩, k _ _ _ e2 walk_list fun H3 e3 => ex_l e3 hx⟩
theorem over_listN {xs : List V} {tl : TE} (h : EvL tl σ H xs) : Over (iList K tl) σ H xs.length (YAt xs) := fun H1 e R k =>
  h H1 e _ fun a H2 ha e2 h2 => ⟨a, rfl, ⟨xs, sq_of h2⟩, k _ _ _ [a] e2 (fun p hp => by rw [List.mem_singleton.mp hp]; exact ⟨ha, _, h2⟩) walk_list fun H3 e3 hf => sq_of ((hf a (List.mem_singleton.mpr rfl)).trans h2)⟩
theorem over_tup {xs : List V} {tl : TE} {a : Addr} (h : Ev tl σ H (.ref a)) (hx : SqT K H a xs) : Over0 (iTup K tl) σ H xs.length (YAt xs) := fun H1 e R k =>
  h H1 e _ fun H2 e2 => ⟨a, rfl, ⟨xs, ex_t (e.trans e2) hx⟩, k _ _ _ e2 walk_tup fun H3 e3 => ex_t e3 hx⟩
theorem over_tupN {xs : List V} {tl : TE} (h : EvU tl σ H xs) : Over (iTup K tl) σ H xs.length (YAt xs) := fun H1 e R k =>
  h H1 e _ fun a H2 ha e2 h2 => ⟨a, rfl, ⟨xs, SqT.of h2⟩, k _ _ _ [a] e2 (fun p hp => by rw [List.mem_singleton.mp hp]; exact ⟨ha, _, h2⟩) walk_tup fun H3 e3 hf => SqT.of ((hf a (List.mem_singleton.mpr rfl)).trans h2)⟩
theorem over_enum {xs : List V} {a : Addr} {tl : TA} (h : EvA tl σ H [.ref a]) (hx : SqL K H a xs) : Over0 (iEnum K tl) σ H xs.length (YPair (fun i => some (.int (i : Nat))) (fun i => xs[i]?)) := fun H1 e R k =>
  h H1 e _ fun H2 e2 => ⟨a, xs, rfl, ex_l (e.trans e2) hx, k _ _ _ e2 walk_enum fun H3 e3 => ex_l e3 hx⟩
theorem over_rng {tl : TA} {n : Nat} (h : EvA tl σ H [nV n]) (hn : n ≤ 100000) : Over0 (iRng1 tl) σ H n (YFn fun i => .int (0 + (i : Int))) := fun H1 e R k =>
  h H1 e _ fun H2 e2 => ⟨n, rfl, by omega, by omega, k _ _ _ e2 (by simpa using walk_range (lo := 0) (n := n)) fun _ _ => trivial⟩
/-- the keys of a dict that is walked -/
theorem over_keys {d : Addr} {o : Obj} {kvs : List (Key × V)} {td : TE} (h : Ev td σ H (.ref d)) (hd : H d = some (.frz o (.dK kvs))) : Over0 (iKeys td) σ H kvs.length (YAt (kvs.map fun kv => kV kv.1)) := fun H1 e R k =>
  h H1 e _ fun H2 e2 => ⟨d, o, rfl, .inl ⟨kvs, (e.trans e2) d _ hd, k _ _ _ e2 (walk_keys.mono (fun _ z => z) fun i H3 x H4 _ _ q => by
    obtain ⟨q1, k', v, q2, rfl⟩ := q
    exact ⟨q1, by rw [List.getElem?_map, q2]; rfl⟩) fun H3 e3 => e3 d _ hd⟩⟩

/-- a new object -/
def EvO (te : TE) (σ : L2.St) (H : Hp) (o : HO) : Prop := ∀ H1, Ex H H1 → ∀ Q : VK, (∀ p H2, H1 p = none → Ex H1 H2 → H2 p = some o → Q (.ref p) H2) → te σ H1 Q
theorem EvO.mono {o : HO} (e : Ex H H') (h : EvO te σ H o) : EvO te σ H' o := fun H1 a Q q => h H1 (e.trans a) Q q
theorem eo_L {xs : List V} (h : EvL te σ H xs) : EvO te σ H (.lst xs) := h
theorem eo_U {xs : List V} (h : EvU te σ H xs) : EvO te σ H (.tup xs) := h
/-- tuple(..) of a new list -/
theorem eu_tupleN {r : List V → Hp → VK → Prop} {xs : List V} (h : EvL te σ H xs)
    (hr : ∀ p H1, H1 p = some (.lst xs) → ∀ Q : VK, (∀ l, H1 l = none → Q (.ref l) (upd H1 l (.tup xs))) → r [.ref p] H1 Q) : EvU (tCB r (tCons te tNil)) σ H xs := fun H1 e Q q =>
  h H1 e _ fun p H2 hp e2 h2 => hr p H2 h2 _ fun l hl => q l _ (fresh_back e2 hl) (e2.trans (Ex.new hl)) upd_same
abbrev rTup (K : PySem.W.Frag) : List V → Hp → VK → Prop := fun xs H Q => ∃ p ys, xs = [.ref p] ∧ ((SqL K H p ys ∧ ∀ l, H l = none → Q (.ref l) (upd H l (.tup ys))) ∨ (SqT K H p ys ∧ Q (.ref p) H))
theorem eu_tupL {xs : List V} (h : EvL te σ H xs) : EvU (tCB (rTup K) (tCons te tNil)) σ H xs := eu_tupleN h fun p H1 h1 Q q => ⟨p, xs, rfl, .inl ⟨sq_of h1, q⟩⟩
abbrev rLen (K : PySem.W.Frag) : List V → Hp → VK → Prop := fun xs H Q => ∃ p ys, xs = [.ref p] ∧ (SqL K H p ys ∨ SqT K H p ys) ∧ Q (.int ys.length) H
theorem ev_lenS {xs : List V} (ha : Ev ta σ H v) (h : Sq K H v xs) : Ev (tCB (rLen K) (tCons ta tNil)) σ H (nV xs.length) := fun H1 e Q q => by
  obtain ⟨a, rfl, h⟩ := h
  exact ha H1 e _ fun H2 e2 => ⟨a, xs, rfl, h.imp (ex_l (e.trans e2)) (ex_t (e.trans e2)), q H2 e2⟩

/-! ### list comprehensions -/
/-- one target name, a pair of target names: how the target takes what comes -/
theorem g_name {i : Nat} {Qs : L2.St → Hp → Prop} (h : Qs (σ.set i (some x)) H) : gName i x σ H Qs := h
theorem g_two {i j : Nat} {p : Addr} {a b : V} {Qs : L2.St → Hp → Prop} (hp : H p = some (.tup [a, b])) (h : Qs ((σ.set i (some a)).set j (some b)) H) : gTup K 2 (gCons (gName i) (gCons (gName j) gNil)) (.ref p) σ H Qs :=
  ⟨p, [a, b], rfl, SqT.of hp, rfl, a, [b], rfl, b, [], rfl, rfl, h⟩
/-- every turn gives a new object -/
theorem elo_lc {wi : TI} {g : TG} {n : Nat} {Y : Nat → Hp → V → Hp → Prop} {vs : List Nat} {o : Nat → HO} (hO : Over wi σ H n Y) (hn : n ≤ 40000) (hY : ∀ i H x H', Y i H x H' → Ex H H')
    (he : ∀ i x H1 H2, i < n → Ex H H1 → Y i H1 x H2 → ∃ σ2, wipe σ2 vs = wipe σ vs ∧ (∀ Qs : L2.St → Hp → Prop, Qs σ2 H2 → g x (wipe σ vs) H2 Qs) ∧ EvO te σ2 H2 (o i)) :
    ∀ H1, Ex H H1 → ∀ Q : VK, (∀ D H2 (ps : List Addr), H1 D = none → Ex H1 H2 → H2 D = some (.lst (ps.map V.ref)) → ps.length = n → (∀ i p, ps[i]? = some p → H1 p = none ∧ H2 p = some (o i)) → Q (.ref D) H2) → tLc wi g tYes te vs σ H1 Q := by
  intro H1 e1 Q q
  refine hO H1 e1 _ fun J H2 G F e2 hF w hG' D hD => ?_
  have hG : ∀ H3, Ex H2 H3 → G H3 := fun H3 e3 => hG' H3 ((e1.trans e2).trans e3) fun p hp => by
    obtain ⟨_, o, ho⟩ := hF p hp
    rw [ho]; exact e3 _ _ ho
  refine lc_it w (fun i H' => i ≤ n ∧ Ex H2 H' ∧ ∃ ps : List Addr, H' D = some (.lst (ps.map V.ref)) ∧ ps.length = i ∧ ∀ k p, ps[k]? = some p → p ≠ D ∧ H2 p = none ∧ H' p = some (o k)) ?_ (fun i H' _ p => hG _ p.2.1) ?_ ?_
  · exact ⟨Nat.zero_le _, Ex.new hD, [], upd_same, rfl, fun k p h => by simp at h⟩
  · intro i x H' H'' hi ⟨_, e', ps, hps, hl, hk⟩ y
    have ey := hY _ _ _ _ y
    obtain ⟨σ2, hw, hg, hev⟩ := he i x H' H'' hi ((e1.trans e2).trans e') y
    refine hg _ ⟨hw, ?_⟩
    show te σ2 H'' _
    refine hev H'' (Ex.refl _) _ fun p H4 hp e4 h4 => ?_
    have hD4 : H4 D = some (.lst (ps.map V.ref)) := e4 _ _ (ey _ _ hps)
    have npD : p ≠ D := by
      rintro rfl
      rw [hD4] at h4
      rw [ey _ _ hps] at hp
      cases hp
    refine ⟨ps.map V.ref, hD4, sz_lt (by rw [List.length_map]; omega), hi, fun a u ha => ?_, ps ++ [p], by rw [upd_same, List.map_append]; rfl, by rw [List.length_append, hl]; rfl, fun k p' hk' => ?_⟩
    · rw [upd_ne (ne_of_none ha hD)]
      exact e4 _ _ (ey _ _ (e' _ _ ha))
    · by_cases hki : k < ps.length
      · rw [List.getElem?_append_left hki] at hk'
        obtain ⟨z1, z2, z3⟩ := hk k p' hk'
        exact ⟨z1, z2, by rw [upd_ne z1]; exact e4 _ _ (ey _ _ z3)⟩
      · have hlt := (List.getElem?_eq_some_iff.mp hk').1
        rw [List.length_append, List.length_singleton] at hlt
        have ek : k = ps.length := by omega
        subst ek
        rw [List.getElem?_append_right (Nat.le_refl _), Nat.sub_self] at hk'
        cases hk'
        refine ⟨npD, ?_, by rw [upd_ne npD, hl]; exact h4⟩
        cases z : H2 p with
        | none => rfl
        | some u =>
          rw [ey _ _ (e' _ _ z)] at hp
          cases hp
  · rintro H' ⟨_, e', ps, hps, hl, hk⟩
    refine q D H' ps (fresh_back e2 hD) (e2.trans e') hps hl fun i p hp => ?_
    obtain ⟨_, z2, z3⟩ := hk i p hp
    exact ⟨fresh_back e2 z2, z3⟩
/-- every turn gives a value that needs no heap, or is left out -/
theorem elv_lc {wi : TI} {g : TG} {tt : TT} {n : Nat} {Y : Nat → Hp → V → Hp → Prop} {vs : List Nat} (f : Nat → Bool) (val : Nat → V) (hO : Over wi σ H n Y) (hn : n ≤ 40000) (hY : ∀ i H x H', Y i H x H' → Ex H H')
    (he : ∀ i x H1 H2, i < n → Ex H H1 → Y i H1 x H2 → ∃ σ2, wipe σ2 vs = wipe σ vs ∧ (∀ Qs : L2.St → Hp → Prop, Qs σ2 H2 → g x (wipe σ vs) H2 Qs) ∧ EvT tt σ2 H2 (f i) ∧ (f i = true → Ev te σ2 H2 (val i))) :
    EvL (tLc wi g tt te vs) σ H (given n f val) := by
  intro H1 e1 Q q
  refine hO H1 e1 _ fun J H2 G F e2 hF w hG' D hD => ?_
  have hG : ∀ H3, Ex H2 H3 → G H3 := fun H3 e3 => hG' H3 ((e1.trans e2).trans e3) fun p hp => by
    obtain ⟨_, o, ho⟩ := hF p hp
    rw [ho]; exact e3 _ _ ho
  refine lc_it w (fun i H' => i ≤ n ∧ Ex H2 H' ∧ H' D = some (.lst (given i f val))) ?_ (fun i H' _ p => hG _ p.2.1) ?_ ?_
  · exact ⟨Nat.zero_le _, Ex.new hD, upd_same⟩
  · intro i x H' H'' hi ⟨_, e', hps⟩ y
    have ey := hY _ _ _ _ y
    obtain ⟨σ2, hw, hg, ht, hev⟩ := he i x H' H'' hi ((e1.trans e2).trans e') y
    refine hg _ ⟨hw, ?_⟩
    refine ht H'' (Ex.refl _) _ fun H3 e3 => ?_
    cases hf : f i with
    | true =>
      rw [if_pos rfl]
      refine hev hf H3 e3 _ fun H4 e4 => ⟨given i f val, e4 _ _ (e3 _ _ (ey _ _ hps)), sz_lt (by have := given_len i f val; omega), hi, fun a u ha => ?_, by rw [upd_same, given_yes hf]⟩
      rw [upd_ne (ne_of_none ha hD)]
      exact e4 _ _ (e3 _ _ (ey _ _ (e' _ _ ha)))
    | false =>
      rw [if_neg Bool.false_ne_true]
      exact ⟨hi, (e'.trans ey).trans e3, by rw [given_no hf]; exact e3 _ _ (ey _ _ hps)⟩
  · rintro H' ⟨_, e', hps⟩
    exact q D H' (fresh_back e2 hD) (e2.trans e') hps
theorem given_all (n : Nat) (val : Nat → V) : given n (fun _ => true) val = (List.range n).map val := by
  unfold given
  congr 1
  exact List.filter_eq_self.mpr (fun _ _ => rfl)
theorem map_range_get {α β : Type} {xs : List α} (f : α → β) (g : Nat → β) (h : ∀ (i : Nat) (x : α), xs[i]? = some x → g i = f x) : (List.range xs.length).map g = xs.map f := by
  refine List.ext_getElem? fun i => ?_
  rw [List.getElem?_map, List.getElem?_map]
  by_cases hi : i < xs.length
  · rw [List.getElem?_range hi, List.getElem?_eq_getElem hi, Option.map_some, Option.map_some, h i _ (List.getElem?_eq_getElem hi)]
  · rw [List.getElem?_eq_none (by simp; omega), List.getElem?_eq_none (by omega)]
    rfl
theorem yAt_ex {xs : List V} : ∀ i H x H', YAt xs i H x H' → Ex H H' := fun i H x H' h => by rw [h.1]; exact Ex.refl _
theorem yFn_ex {f : Nat → V} : ∀ i H x H', YFn f i H x H' → Ex H H' := fun i H x H' h => by rw [h.1]; exact Ex.refl _
theorem yPair_ex {f g : Nat → Option V} : ∀ i H x H', YPair f g i H x H' → Ex H H' := fun i H x H' h => by
  obtain ⟨T, a, b, rfl, hT, rfl, _⟩ := h
  exact Ex.new hT
/-! ### for -/
variable {D : Ends} {tu tz : TS} {g : TG}
/-- over what stands in the base H -/
theorem s_for0 {wi : TI} {n : Nat} {Y : Nat → Hp → V → Hp → Prop} {H0 : Hp} (hO : Over0 wi σ H n Y) (e0 : Ex H H0) (hY : ∀ i H x H', Y i H x H' → Ex H H') (Pv : Nat → L2.St → Hp → Prop) (h0 : ∀ H1, Ex H0 H1 → Pv 0 σ H1)
    (hG : ∀ i σ' H', Pv i σ' H' → Ex H H') (hs : ∀ i x σ' H' H'', i < n → Pv i σ' H' → Y i H' x H'' → Ex H' H'' → g x σ' H'' fun σ2 H2 => tu { D with nx := Pv (i + 1), ct := Pv (i + 1), bk := D.nx } σ2 H2)
    (hd : ∀ σ' H', Pv n σ' H' → D.nx σ' H') : tFor wi g tu D σ H0 :=
  hO H0 e0 _ fun J H2 G e2 w hw => for_it w Pv (h0 H2 e2) (fun i σ' H' _ p => hw _ (hG i σ' H' p)) (fun i x σ' H' H'' hi p y => hs i x σ' H' H'' hi p y (hY _ _ _ _ y)) hd
theorem q_for0 {wi : TI} {n : Nat} {Y : Nat → Hp → V → Hp → Prop} {H0 : Hp} (hO : Over0 wi σ H n Y) (e0 : Ex H H0) (hY : ∀ i H x H', Y i H x H' → Ex H H') (Pv : Nat → L2.St → Hp → Prop) (h0 : ∀ H1, Ex H0 H1 → Pv 0 σ H1)
    (hG : ∀ i σ' H', Pv i σ' H' → Ex H H') (hs : ∀ i x σ' H' H'', i < n → Pv i σ' H' → Y i H' x H'' → Ex H' H'' → g x σ' H'' fun σ2 H2 => tu { D with nx := Pv (i + 1), ct := Pv (i + 1), bk := tz D } σ2 H2)
    (hd : ∀ σ' H', Pv n σ' H' → tz D σ' H') : tSeq (tFor wi g tu) tz D σ H0 := s_for0 (D := { D with nx := tz D }) hO e0 hY Pv h0 hG hs hd
/-- over new objects F, which the body leaves as they are -/
theorem s_forF {wi : TI} {n : Nat} {Y : Nat → Hp → V → Hp → Prop} {H0 : Hp} (hO : Over wi σ H n Y) (e0 : Ex H H0) (hY : ∀ i H x H', Y i H x H' → Ex H H') (Pv : List Addr → Hp → Nat → L2.St → Hp → Prop)
    (h0 : ∀ F H1, Ex H0 H1 → (∀ p ∈ F, H0 p = none ∧ ∃ o, H1 p = some o) → Pv F H1 0 σ H1) (hG : ∀ F H1 i σ' H', Pv F H1 i σ' H' → Ex H H' ∧ ∀ p ∈ F, H' p = H1 p)
    (hs : ∀ F H1, Ex H0 H1 → (∀ p ∈ F, H0 p = none ∧ ∃ o, H1 p = some o) → ∀ i x σ' H' H'', i < n → Pv F H1 i σ' H' → Y i H' x H'' → Ex H' H'' → g x σ' H'' fun σ2 H2 => tu { D with nx := Pv F H1 (i + 1), ct := Pv F H1 (i + 1), bk := D.nx } σ2 H2)
    (hd : ∀ F H1 σ' H', Pv F H1 n σ' H' → D.nx σ' H') : tFor wi g tu D σ H0 :=
  hO H0 e0 _ fun J H2 G F e2 hF w hw => for_it w (Pv F H2) (h0 F H2 e2 hF) (fun i σ' H' _ p => hw _ (hG F H2 i σ' H' p).1 (hG F H2 i σ' H' p).2)
    (fun i x σ' H' H'' hi p y => hs F H2 e2 hF i x σ' H' H'' hi p y (hY _ _ _ _ y)) (hd F H2)
theorem q_forF {wi : TI} {n : Nat} {Y : Nat → Hp → V → Hp → Prop} {H0 : Hp} (hO : Over wi σ H n Y) (e0 : Ex H H0) (hY : ∀ i H x H', Y i H x H' → Ex H H') (Pv : List Addr → Hp → Nat → L2.St → Hp → Prop)
    (h0 : ∀ F H1, Ex H0 H1 → (∀ p ∈ F, H0 p = none ∧ ∃ o, H1 p = some o) → Pv F H1 0 σ H1) (hG : ∀ F H1 i σ' H', Pv F H1 i σ' H' → Ex H H' ∧ ∀ p ∈ F, H' p = H1 p)
    (hs : ∀ F H1, Ex H0 H1 → (∀ p ∈ F, H0 p = none ∧ ∃ o, H1 p = some o) → ∀ i x σ' H' H'', i < n → Pv F H1 i σ' H' → Y i H' x H'' → Ex H' H'' → g x σ' H'' fun σ2 H2 => tu { D with nx := Pv F H1 (i + 1), ct := Pv F H1 (i + 1), bk := tz D } σ2 H2)
    (hd : ∀ F H1 σ' H', Pv F H1 n σ' H' → tz D σ' H') : tSeq (tFor wi g tu) tz D σ H0 := s_forF (D := { D with nx := tz D }) hO e0 hY Pv h0 hG hs hd
end
end K46
set_option Elab.async false
set_option linter.all false
set_option autoImplicit false
set_option maxRecDepth 100000
namespace K46
open PySem PySem.Spec PyProof.Rows L2 Evl
set_option maxHeartbeats 4000000
section
variable {P : Program} {w : World} {K : PySem.W.Frag} {mg : Str → Option Value} {base : Heap}
/-! ### results_of -/
abbrev sRes : Stmt := top 27
def spRes (K : PySem.W.Frag) : Sp := fun vs H Q _ => ∃ (r s : V) (n : Nat) (m m' : List (List Nat)) (i j : Nat), vs = [r, s, nV i, nV j] ∧ Mat K H r m ∧ Mat K H s m' ∧ Square n m ∧ Square n m' ∧ i < n ∧ j < n ∧
  ∀ p H', H p = none → Ex H H' → H' p = some (.tup [nV (cell m i j), nV (cell m j i), nV (cell m' i j), nV (cell m' j i)]) → Q (.ref p) H'
theorem scRes : FnScope ["rows", "sides", "one", "other"] ["rows", "sides", "one", "other"] (defScope sRes) := ⟨rfl, rfl, rfl, by decide +kernel, rfl, by decide +kernel, by decide +kernel⟩
theorem ok_res (F : FnG K "results_of" sRes) (hm : mg "results_of" = some (.ref (He.ga K "results_of"))) : Pr P w K mg base 1 "results_of" ["rows", "sides", "one", "other"] (spRes K) := by
  refine pr_mk F hm scRes (fun _ _ _ _ _ _ us hl => match us, hl with | [_, _, _, _], _ => rfl) (fun vs H Q E h => ?_) (fun f cdv A outer s H vs Q E hr h => ?_)
  · obtain ⟨r, s, n, m, m', i, j, rfl, _⟩ := h
    rfl
  · obtain ⟨r, t, n, m, m', i, j, rfl, h1, h2, q1, q2, hi, hj, k⟩ := h
    refine ⟨_, pss_one (ps_ret (pe_tup (pa_cons (pe_ix ix_seq (pe_ix ix_seq (pv 0) (pv 2) (fun _ _ => rfl)) (pv 3) (fun _ _ => rfl)) (pa_cons (pe_ix ix_seq (pe_ix ix_seq (pv 0) (pv 3) (fun _ _ => rfl)) (pv 2) (fun _ _ => rfl))
      (pa_cons (pe_ix ix_seq (pe_ix ix_seq (pv 1) (pv 2) (fun _ _ => rfl)) (pv 3) (fun _ _ => rfl)) (pa_cons (pe_ix ix_seq (pe_ix ix_seq (pv 1) (pv 3) (fun _ _ => rfl)) (pv 2) (fun _ _ => rfl)) pa_nil)))))), ?_⟩
    refine s_retU (eu_tup (ea_cons (ev_cell (ev_var rfl) (ev_var rfl) (ev_var rfl) h1 q1 hi hj) (ea_cons (ev_cell (ev_var rfl) (ev_var rfl) (ev_var rfl) h1 q1 hj hi)
      (ea_cons (ev_cell (ev_var rfl) (ev_var rfl) (ev_var rfl) h2 q2 hi hj) (ea_cons (ev_cell (ev_var rfl) (ev_var rfl) (ev_var rfl) h2 q2 hj hi) ea_nil)))) (by simp)) fun p H1 hp e h1 => k p H1 hp e h1
end
end K46
set_option Elab.async false
set_option linter.all false
set_option autoImplicit false
set_option maxRecDepth 100000
namespace K46
open PySem PySem.Spec PyProof.Rows L2 Evl
set_option maxHeartbeats 4000000
/-! ### small evaluations -/
section
variable {K : PySem.W.Frag} {σ : L2.St} {H H' : Hp} {ta tb tc te : TE} {v x y z : V}
theorem ev_chain {r r' : R2} {b : Bool} (ha : Ev ta σ H x) (hb : Ev tb σ H y) (hr : RV r x y H (.bl true)) (hc : Ev tc σ H z) (hr' : RV r' y z H (.bl b)) : Ev (tChain r r' ta tb tc) σ H (.bl b) := fun H1 e Q q =>
  ha H1 e _ fun H2 e2 => hb H2 (e.trans e2) _ fun H3 e3 => hr H3 ((e.trans e2).trans e3) _ fun H4 e4 => ⟨true, rfl, by
    rw [if_pos rfl]
    exact hc H4 (((e.trans e2).trans e3).trans e4) _ fun H5 e5 => hr' H5 ((((e.trans e2).trans e3).trans e4).trans e5) Q fun H6 e6 => q H6 ((((e2.trans e3).trans e4).trans e5).trans e6)⟩
theorem ev_isi {t T : String} {b : Bool} (hv : Ev ta σ H x) (hx : ∀ H1, Ex H H1 → TyX K H1 x (.type t)) (hk : kitB t T = some b) : Ev (tCB (rIsi K) (tCons ta (tCons (tC (.ty T)) tNil))) σ H (.bl b) := fun H1 e Q q =>
  hv H1 e _ fun H2 e2 => ⟨x, .ty T, .type t, .type T, b, rfl, .ty T, hx H2 (e.trans e2), kit_ty hk, q H2 e2⟩
def TupV (H : Hp) (v : V) (xs : List V) : Prop := ∃ a, v = .ref a ∧ H a = some (.tup xs)
theorem TupV.mono {xs : List V} (h : TupV H v xs) (e : Ex H H') : TupV H' v xs := by
  obtain ⟨a, rfl, h⟩ := h
  exact ⟨a, rfl, e _ _ h⟩
theorem TupV.sq {xs : List V} (h : TupV H v xs) : Sq K H v xs := by
  obtain ⟨a, rfl, h⟩ := h
  exact Sq.t h
theorem TupV.ty {xs : List V} (h : TupV H v xs) : ∀ H1, Ex H H1 → TyX K H1 v (.type "tuple") := by
  obtain ⟨a, rfl, h⟩ := h
  exact fun H1 e => .base (.tup (e _ _ h))
abbrev TupN (H : Hp) (v : V) (l : List Nat) : Prop := TupV H v (l.map nV)
def MatT (H : Hp) (v : V) (m : List (List Nat)) : Prop := ∃ rs, TupV H v rs ∧ Paired (TupN H) rs m
theorem MatT.mono {m : List (List Nat)} (h : MatT H v m) (e : Ex H H') : MatT H' v m := by
  obtain ⟨rs, h1, h2⟩ := h
  exact ⟨rs, h1.mono e, paired_mono (fun _ _ q => TupV.mono q e) h2⟩
theorem MatT.mat {m : List (List Nat)} (h : MatT H v m) : Mat K H v m := by
  obtain ⟨rs, h1, h2⟩ := h
  exact ⟨rs, h1.sq, paired_mono (fun _ _ q => TupV.sq q) h2⟩
/-- all of a new list of truths -/
theorem ev_allN {bs : List Bool} (h : EvL ta σ H (bs.map V.bl)) : Ev (tCB (rAll K) (tCons ta tNil)) σ H (.bl (bs.all id)) := fun H1 e Q q =>
  h H1 e _ fun p H2 _ e2 h2 => ⟨p, bs, rfl, sq_of h2, q H2 e2⟩
theorem given_true (n : Nat) : given n (fun _ => true) (fun _ => .bl true) = (List.replicate n true).map V.bl := by
  rw [given_all, List.map_replicate]
  refine List.ext_getElem? fun i => ?_
  rw [List.getElem?_map, List.getElem?_replicate]
  by_cases hi : i < n
  · rw [List.getElem?_range hi, if_pos hi]; rfl
  · rw [List.getElem?_eq_none (by simp; omega), if_neg hi]; rfl
theorem all_repl (n : Nat) : (List.replicate n true).all id = true := by simp
theorem ev_all1 {n : Nat} (h : EvL ta σ H (given n (fun _ => true) (fun _ => .bl true))) : Ev (tCB (rAll K) (tCons ta tNil)) σ H (.bl true) := by
  rw [given_true] at h
  exact ev_is (ev_allN h) (by rw [all_repl])
end
theorem sIx_one {n : Nat} : HT.sIx n 0 (some 1) = min 1 n := by
  unfold HT.sIx
  cases n with
  | zero => rfl
  | succ n => simp
theorem sIx_none {n d : Nat} : HT.sIx n d none = d := rfl
/-- a tuple's items from the second on -/
theorem cut_tail (xs : List V) : cutV xs (some 1) none = xs.drop 1 := by
  unfold cutV
  rw [sIx_one, sIx_none]
  cases xs with
  | nil => rfl
  | cons a l =>
    have e : min 1 (a :: l).length = 1 := by simp
    rw [e]
    simp
section
variable {P : Program} {w : World} {K : PySem.W.Frag} {mg : Str → Option Value} {base : Heap}
/-! ### is_whole, is_integer, is_state -/
abbrev sWhole : Stmt := top 9
def spWhole : Sp := fun vs H Q _ => ∃ i : Int, vs = [.int i] ∧ ∀ H', Ex H H' → Q (.bl true) H'
theorem scWhole : FnScope ["value"] ["value"] (defScope sWhole) := ⟨rfl, rfl, rfl, by decide +kernel, rfl, by decide +kernel, by decide +kernel⟩
theorem ok_whole (B : Free mg) (F : FnG K "is_whole" sWhole) (hm : mg "is_whole" = some (.ref (He.ga K "is_whole"))) : Pr P w K mg base 1 "is_whole" ["value"] spWhole := by
  refine pr_mk F hm scWhole (fun _ _ _ _ _ _ us hl => match us, hl with | [_], _ => rfl) (fun vs H Q E h => ?_) (fun f cdv A outer s H vs Q E hr h => ?_)
  · obtain ⟨i, rfl, _⟩ := h
    rfl
  · obtain ⟨i, rfl, k⟩ := h
    refine ⟨_, pss_one (ps_ret (pe_and (pe_callB call_isi (by rfl) B.isinstance b_isi (pa_cons (pv 0) (pa_cons (pe_ty B.int b_int) pa_nil)))
      (pe_one (pe_not (pe_callB call_isi (by rfl) B.isinstance b_isi (pa_cons (pv 0) (pa_cons (pe_ty B.bool b_bool) pa_nil))))))), ?_⟩
    exact s_ret (ev_andV (a := true) (b := true) (ev_isi (b := true) (ev_var rfl) (fun _ _ => .base (.int i)) (by decide +kernel)) fun _ =>
      ev_notV (a := false) (ev_isi (b := false) (ev_var rfl) (fun _ _ => .base (.int i)) (by decide +kernel))) k
abbrev sInteger : Stmt := top 10
def spInteger : Sp := fun vs H Q _ => ∃ i : Int, vs = [.int i] ∧ -10 ^ 60 < i ∧ i < 10 ^ 60 ∧ ∀ H', Ex H H' → Q (.bl true) H'
theorem scInteger : FnScope ["value"] ["value"] (defScope sInteger) := ⟨rfl, rfl, rfl, by decide +kernel, rfl, by decide +kernel, by decide +kernel⟩
theorem ok_integer (C : Consts mg) (F : FnG K "is_integer" sInteger) (hm : mg "is_integer" = some (.ref (He.ga K "is_integer"))) (Fw : Pr P w K mg base 1 "is_whole" ["value"] spWhole) : Pr P w K mg base 2 "is_integer" ["value"] spInteger := by
  refine pr_mk F hm scInteger (fun _ _ _ _ _ _ us hl => match us, hl with | [_], _ => rfl) (fun vs H Q E h => ?_) (fun f cdv A outer s H vs Q E hr h => ?_)
  · obtain ⟨i, rfl, _⟩ := h
    rfl
  · obtain ⟨i, rfl, h1, h2, k⟩ := h
    refine ⟨_, pss_one (ps_ret (pe_and (pe_g Fw hr (pa_cons (pv 0) pa_nil)) (pe_one (pe_chain op_lt op_lt (pe_un un_neg (pe_gi C.great)) (pv 0) (pe_gi C.great))))), ?_⟩
    have e1 : decide (-(10 ^ 60 : Int) < i) = true := decide_eq_true h1
    have e2 : decide (i < (10 ^ 60 : Int)) = true := decide_eq_true h2
    refine s_ret (ev_andV (a := true) (b := true) (ev_call (ea_cons (ev_var rfl) ea_nil) fun H1 _ Q q _ => ⟨i, rfl, q⟩) fun _ =>
      ev_chain (ev_un ev_c ru_neg) (ev_var rfl) ?_ ev_c ?_) k
    · rw [← e1]; exact rv_I0
    · rw [← e2]; exact rv_I0
abbrev sState : Stmt := top 43
def spState : Sp := fun vs H Q _ => ∃ n x : Nat, vs = [nV n, nV x] ∧ n ≤ 400 ∧ x < n ∧ ∀ H', Ex H H' → Q (.bl true) H'
theorem scState : FnScope ["many", "value"] ["many", "value"] (defScope sState) := ⟨rfl, rfl, rfl, by decide +kernel, rfl, by decide +kernel, by decide +kernel⟩
theorem ok_state (F : FnG K "is_state" sState) (hm : mg "is_state" = some (.ref (He.ga K "is_state"))) (Fi : Pr P w K mg base 2 "is_integer" ["value"] spInteger) : Pr P w K mg base 3 "is_state" ["many", "value"] spState := by
  refine pr_mk F hm scState (fun _ _ _ _ _ _ us hl => match us, hl with | [_, _], _ => rfl) (fun vs H Q E h => ?_) (fun f cdv A outer s H vs Q E hr h => ?_)
  · obtain ⟨i, j, rfl, _⟩ := h
    rfl
  · obtain ⟨n, x, rfl, h1, h2, k⟩ := h
    refine ⟨_, pss_one (ps_ret (pe_and (pe_g Fi hr (pa_cons (pv 1) pa_nil)) (pe_one (pe_chain op_le op_lt pe_int (pv 1) (pv 0))))), ?_⟩
    have e1 : decide ((0 : Int) ≤ (x : Int)) = true := decide_eq_true (by omega)
    have e2 : decide ((x : Int) < (n : Int)) = true := decide_eq_true (by omega)
    have b1 : (400 : Int) < 10 ^ 60 := by decide +kernel
    have b2 : -(10 : Int) ^ 60 < 0 := by decide +kernel
    refine s_ret (ev_andV (a := true) (b := true) (ev_call (ea_cons (ev_var rfl) ea_nil) fun H1 _ Q q _ => ⟨x, rfl, by omega, by omega, q⟩) fun _ =>
      ev_chain ev_c (ev_var rfl) ?_ (ev_var rfl) ?_) k
    · rw [← e1]; exact rv_I0
    · rw [← e2]; exact rv_I0
end
end K46
set_option Elab.async false
set_option linter.all false
set_option autoImplicit false
set_option maxRecDepth 100000
namespace K46
open PySem PySem.Spec PyProof.Rows L2 Evl
set_option maxHeartbeats 4000000
section
variable {K : PySem.W.Frag} {σ : L2.St} {H H' : Hp} {ta tb tc te : TE} {v x y z : V}
theorem walk_zipT {a b : Addr} {xs ys : List V} {n : Nat} (hn : n = min xs.length ys.length) : Walk (RZ.ItzT K a b) n (fun H => SqT K H a xs ∧ SqT K H b ys) (YPair (fun i => xs[i]?) (fun i => ys[i]?)) := by
  subst hn
  constructor
  · intro i H hi q
    have h1 : i < xs.length := by omega
    have h2 : i < ys.length := by omega
    exact ⟨xs, ys, xs[i], ys[i], q.1, q.2, List.getElem?_eq_getElem h1, List.getElem?_eq_getElem h2⟩
  · exact fun H q => ⟨xs, ys, q.1, q.2, by omega⟩
  · rintro i H w H' hi q ⟨T, x, z, e1, e2, e3, e4, e5⟩
    exact ⟨T, x, z, e1, e2, e3, e4 xs q.1, e5 ys q.2⟩
/-- zip(t, t[1:]) -/
theorem over_zipTail {xs : List V} (hv : Ev ta σ H v) (hx : TupV H v xs) : Over (RZ.iZipA K (tCons ta (tCons (tSl (rSlA K) ta (tPart (tC (.int 1))) tNoPart) tNil))) σ H (xs.length - 1) (YPair (fun i => xs[i]?) (fun i => (xs.drop 1)[i]?)) := fun H1 e R k => by
  obtain ⟨a, rfl, hx⟩ := hx
  refine hv H1 e _ fun H2 e2 => hv H2 (e.trans e2) _ fun H3 e3 => ?_
  have en : xs.length - 1 = min xs.length (xs.drop 1).length := by rw [List.length_drop]; omega
  refine ⟨1, rfl, a, xs, rfl, SqT.of (((e.trans e2).trans e3) _ _ hx), ?_, ?_⟩
  · rw [sIx_one, sIx_none]
    rintro ⟨h1, _⟩
    have hl : xs = [] := by cases xs with | nil => rfl | cons x l => simp at h1
    subst hl
    exact ⟨a, a, [], [], rfl, .inr ⟨SqT.of (((e.trans e2).trans e3) _ _ hx), SqT.of (((e.trans e2).trans e3) _ _ hx), k _ _ _ [] (e2.trans e3) (fun p hp => by cases hp) (walk_zipT rfl) fun H4 e4 _ => ⟨SqT.of (e4 _ _ hx), SqT.of (e4 _ _ hx)⟩⟩⟩
  · intro _ p hp
    rw [cut_tail]
    have ea : (upd H3 p (.tup (xs.drop 1))) a = some (.tup xs) := by rw [upd_ne (ne_of_none (((e.trans e2).trans e3) _ _ hx) hp)]; exact ((e.trans e2).trans e3) _ _ hx
    refine ⟨a, p, xs, xs.drop 1, rfl, .inr ⟨SqT.of ea, SqT.of upd_same, k _ _ _ [p] ((e2.trans e3).trans (Ex.new hp)) (fun q hq => ?_) (walk_zipT en) fun H4 e4 hf => ⟨SqT.of (e4 _ _ hx), SqT.of ((hf p (List.mem_singleton.mpr rfl)).trans upd_same)⟩⟩⟩
    rw [List.mem_singleton.mp hq]
    exact ⟨fresh_back (e2.trans e3) hp, _, upd_same⟩
end
section
variable {P : Program} {w : World} {K : PySem.W.Frag} {mg : Str → Option Value} {base : Heap}
abbrev sStates : Stmt := top 44
def spStates : Sp := fun vs H Q _ => ∃ (n : Nat) (v : V) (l : List Nat), vs = [nV n, v] ∧ n ≤ 400 ∧ TupN H v l ∧ (∀ x ∈ l, x < n) ∧ l.Pairwise (· < ·) ∧ l.length ≤ 400 ∧ ∀ H', Ex H H' → Q (.bl true) H'
theorem scStates : FnScope ["many", "value", "state", "one", "other"] ["many", "value"] (defScope sStates) := ⟨rfl, rfl, rfl, by decide +kernel, rfl, by decide +kernel, by decide +kernel⟩
theorem ok_states (B : Free mg) (F : FnG K "are_states" sStates) (hm : mg "are_states" = some (.ref (He.ga K "are_states"))) (Fs : Pr P w K mg base 3 "is_state" ["many", "value"] spState) : Pr P w K mg base 4 "are_states" ["many", "value"] spStates := by
  refine pr_mk F hm scStates (fun _ _ _ _ _ _ us hl => match us, hl with | [_, _], _ => rfl) (fun vs H Q E h => ?_) (fun f cdv A outer s H vs Q E hr h => ?_)
  · obtain ⟨i, j, l, rfl, _⟩ := h
    rfl
  · obtain ⟨n, v, l, rfl, hn, hv, hl, hp, hz, k⟩ := h
    refine ⟨_, pss_cons (ps_if (PW.pt (pw_or (pt_not (pt_val (pe_callB call_isi (by rfl) B.isinstance b_isi (pa_cons (pv 1) (pa_cons (pe_ty B.tuple b_tuple) pa_nil)))))
        (pw_or1 (pt_not (pt_val (pe_callB (cr_all rfl) (by rfl) B.all b_all (pa_cons
          (pe_lc (own := [("state", 2)]) (g := gName 2) (tt := tYes) rfl scStates.nd (pi_seq (pv 1)) (blkOk_by (by kernel_rfl)) (fun _ _ _ _ _ => pg_name (i := 2) scStates.nd rfl (Or.inl rfl)) (fun _ _ _ _ _ => pts_nil)
            (fun _ _ _ _ _ => pe_g Fs hr (pa_cons (pv 0) (pa_cons (pv 2) pa_nil)))) pa_nil)))))))
      (pss_one (ps_ret pe_bl)) pss_nil)
      (pss_one (ps_ret (pe_callB (cr_all rfl) (by rfl) B.all b_all (pa_cons
          (pe_lc (own := [("one", 3), ("other", 4)]) (g := gTup K 2 (gCons (gName 3) (gCons (gName 4) gNil))) (tt := tYes) rfl scStates.nd (RZ.pi_zipA (by rfl) B.zip (pa_cons (pv 1) (pa_cons (pe_slice sl_tupA (pv 1) (po_some pe_int) po_none) pa_nil))) (blkOk_by (by kernel_rfl))
            (fun _ _ _ _ _ => pg_tup rfl (pgs_cons (pg_name (i := 3) scStates.nd rfl (Or.inl rfl)) (pgs_cons (pg_name (i := 4) scStates.nd rfl (Or.inl rfl)) pgs_nil))) (fun _ _ _ _ _ => pts_nil)
            (fun _ _ _ _ _ => pe_cmpR op_lt (pv 3) (pv 4) (nomark _))) pa_nil)))), ?_⟩
    refine q_when (b := false) (et_or (a := false) (b := false) (et_not (a := true) (et_B (ev_isi (ev_var rfl) (TupV.ty hv) (by decide +kernel)))) fun _ => et_not (a := true) (et_B
      (ev_all1 (elv_lc (fun _ => true) (fun _ => V.bl true) (over_seq (ev_var rfl) (TupV.sq hv)).over (by rw [List.length_map]; omega) yAt_ex (fun i x H1 H2 hi e1 hy => ?_))))) (fun z => by cases z) (fun _ H1 e1 => ?_)
    · obtain ⟨rfl, hx⟩ := hy
      rw [List.getElem?_map] at hx
      obtain ⟨m, hm', rfl⟩ := Option.map_eq_some_iff.mp hx
      refine ⟨[some (nV n), some v, some (nV m), none, none], rfl, fun Qs h => h, fun H3 _ Q q => q H3 (Ex.refl _), fun _ => ?_⟩
      exact ev_call (ea_cons (ev_var rfl) (ea_cons (ev_var rfl) ea_nil)) fun H3 _ Q q _ => ⟨n, m, rfl, hn, hl _ (List.mem_of_getElem? hm'), q⟩
    refine s_ret (ev_all1 (elv_lc (fun _ => true) (fun _ => V.bl true) (over_zipTail (ev_var rfl) (hv.mono e1)) (by rw [List.length_map]; omega) yPair_ex (fun i x H2 H3 hi e2 hy => ?_))) fun H2 e2 => k H2 (e1.trans e2)
    obtain ⟨T, a, b, rfl, hT, rfl, ha, hb⟩ := hy
    rw [List.length_map] at hi
    have hlt : i + 1 < l.length := by omega
    dsimp only at ha hb
    rw [List.getElem?_map, List.getElem?_eq_getElem (by omega), Option.map_some] at ha
    rw [List.getElem?_drop, List.getElem?_map, Nat.add_comm, List.getElem?_eq_getElem hlt, Option.map_some] at hb
    cases ha
    cases hb
    refine ⟨[some (nV n), some v, none, some (nV l[i]), some (nV l[i + 1])], rfl, fun Qs h => g_two upd_same h, fun H4 _ Q q => q H4 (Ex.refl _), fun _ => ?_⟩
    have e5 : decide ((l[i] : Int) < (l[i + 1] : Int)) = true := decide_eq_true (by have := List.pairwise_iff_getElem.mp hp i (i + 1) (by omega) hlt (by omega); omega)
    refine ev_op (ev_var rfl) (ev_var rfl) ?_
    rw [← e5]; exact rv_I0
abbrev sSquare : Stmt := top 45
def spSquare : Sp := fun vs H Q _ => ∃ (n : Nat) (v : V) (m : List (List Nat)), vs = [nV n, v] ∧ n ≤ 400 ∧ MatT H v m ∧ Square n m ∧ ∀ H', Ex H H' → Q (.bl true) H'
theorem scSquare : FnScope ["many", "value", "line", "state"] ["many", "value"] (defScope sSquare) := ⟨rfl, rfl, rfl, by decide +kernel, rfl, by decide +kernel, by decide +kernel⟩
theorem ok_square (B : Free mg) (F : FnG K "is_square" sSquare) (hm : mg "is_square" = some (.ref (He.ga K "is_square"))) (Fs : Pr P w K mg base 3 "is_state" ["many", "value"] spState) : Pr P w K mg base 4 "is_square" ["many", "value"] spSquare := by
  refine pr_mk F hm scSquare (fun _ _ _ _ _ _ us hl => match us, hl with | [_, _], _ => rfl) (fun vs H Q E h => ?_) (fun f cdv A outer s H vs Q E hr h => ?_)
  · obtain ⟨n, v, m, rfl, _⟩ := h
    rfl
  · obtain ⟨n, v, m, rfl, hn, ⟨rs, hv, hp⟩, sq, k⟩ := h
    have hl : rs.length = n := (paired_length hp).trans sq.len
    refine ⟨_, pss_cons (ps_if (PW.pt (pw_or (pt_not (pt_val (pe_callB call_isi (by rfl) B.isinstance b_isi (pa_cons (pv 1) (pa_cons (pe_ty B.tuple b_tuple) pa_nil)))))
        (pw_or1 (pt_cmpR op_ne (pe_callB call_len_seq (by rfl) B.len b_len (pa_cons (pv 1) pa_nil)) (pv 0) (nomark _))))) (pss_one (ps_ret pe_bl)) pss_nil)
      (pss_cons (ps_for PassesOwn.never rfl (pi_seq (pv 1)) (pg_name (i := 2) scSquare.nd rfl (Or.inl rfl))
        (pss_one (ps_if (PW.pt (pw_or (pt_not (pt_val (pe_callB call_isi (by rfl) B.isinstance b_isi (pa_cons (pv 2) (pa_cons (pe_ty B.tuple b_tuple) pa_nil)))))
          (pw_or (pt_cmpR op_ne (pe_callB call_len_seq (by rfl) B.len b_len (pa_cons (pv 2) pa_nil)) (pv 0) (nomark _))
          (pw_or1 (pt_not (pt_val (pe_callB (cr_all rfl) (by rfl) B.all b_all (pa_cons
            (pe_lc (own := [("state", 3)]) (g := gName 3) (tt := tYes) rfl scSquare.nd (pi_seq (pv 2)) (blkOk_by (by kernel_rfl)) (fun _ _ _ _ _ => pg_name (i := 3) scSquare.nd rfl (Or.inl rfl)) (fun _ _ _ _ _ => pts_nil)
              (fun _ _ _ _ _ => pe_g Fs hr (pa_cons (pv 0) (pa_cons (pv 3) pa_nil)))) pa_nil))))))))
          (pss_one (ps_ret pe_bl)) pss_nil)))
      (pss_one (ps_ret pe_bl))), ?_⟩
    have ne0 : ∀ i : Nat, (!decide (nV i = nV i)) = false := fun i => by rw [decide_eq_true rfl]; rfl
    refine q_when (b := false) (et_or (a := false) (b := false) (et_not (a := true) (et_B (ev_isi (ev_var rfl) (TupV.ty hv) (by decide +kernel)))) fun _ => et_test (ev_op (ev_lenS (ev_var rfl) hv.sq) (ev_var rfl) ?_)) (fun z => by cases z) (fun _ H1 e1 => ?_)
    · rw [hl, ← ne0 n]
      exact rv_ne rfl
    refine q_for0 (over_seq (ev_var rfl) (TupV.sq (hv.mono e1))) (Ex.refl _) yAt_ex (fun i σ H' => Ex H1 H' ∧ ∃ x, σ = [some (nV n), some v, x, none]) (fun H2 e2 => ⟨e2, none, rfl⟩) (fun i σ H' p => p.1) (fun i x σ H' H'' hi ⟨e3, z, hσ⟩ hy ey => ?_) (fun σ H' ⟨e3, z, hσ⟩ => s_ret ev_c fun H2 e2 => k H2 ((e1.trans e3).trans e2))
    subst hσ
    obtain ⟨rfl, hx⟩ := hy
    obtain ⟨l, el⟩ : ∃ l, m[i]? = some l := ⟨_, List.getElem?_eq_getElem (by rw [← paired_length hp]; exact hi)⟩
    obtain ⟨u, eu, hu⟩ := paired_get hp el
    rw [hx] at eu
    cases eu
    have hu3 : TupN H'' x l := TupV.mono hu (e1.trans e3)
    have hll : (l.map nV).length = n := by rw [List.length_map]; exact sq.row _ (List.mem_of_getElem? el)
    refine s_when (b := false) (et_or (a := false) (b := false) (et_not (a := true) (et_B (ev_isi (ev_var rfl) (TupV.ty hu3) (by decide +kernel)))) fun _ => et_or (a := false) (b := false) (et_test (ev_op (ev_lenS (ev_var rfl) (TupV.sq hu3)) (ev_var rfl) ?_))
      fun _ => et_not (a := true) (et_B (ev_all1 (elv_lc (fun _ => true) (fun _ => V.bl true) (over_seq (ev_var rfl) (TupV.sq hu3)).over (by rw [hll]; omega) yAt_ex (fun j y H4 H5 hj e4 hy => ?_))))) (fun z => by cases z) (fun _ H2 e2 => ⟨e3.trans e2, some x, rfl⟩)
    · rw [hll, ← ne0 n]
      exact rv_ne rfl
    · obtain ⟨rfl, hyy⟩ := hy
      rw [List.getElem?_map] at hyy
      obtain ⟨q, hq, rfl⟩ := Option.map_eq_some_iff.mp hyy
      refine ⟨[some (nV n), some v, some x, some (nV q)], rfl, fun Qs h => h, fun H6 _ Q q => q H6 (Ex.refl _), fun _ => ?_⟩
      exact ev_call (ea_cons (ev_var rfl) (ea_cons (ev_var rfl) ea_nil)) fun H6 _ Q qq _ => ⟨n, q, rfl, hn, sq.lt _ (List.mem_of_getElem? el) _ (List.mem_of_getElem? hq), qq⟩
end
end K46
set_option Elab.async false
set_option linter.all false
set_option autoImplicit false
set_option maxRecDepth 100000
/-! K46Cls: the classes Building and Table, their instances, rules that they want. -/
namespace K46
open PySem PySem.Spec PyProof.Rows L2 Evl
set_option maxHeartbeats 2000000
/-- what of the text the class at C has: slots, no more -/
structure SlC (K : PySem.W.Frag) (C : Addr) : Prop where
  cls : SlX.SCls K C
  isi : SlX.SIsi K C
  mkr : Mk K C (He.ma K C "__init__")
structure TblC (K : PySem.W.Frag) (mg : Str → Option Value) : Prop where
  glo : mg "Table" = some (.ref (He.ga K "Table"))
  sl : SlC K (He.ga K "Table")
  tie : SlX.Slot1 K (He.ga K "Table") "own_tie" (He.ma K (He.ga K "Table") "own_tie") 4
  gap : SlX.Slot1 K (He.ga K "Table") "own_gap" (He.ma K (He.ga K "Table") "own_gap") 1
  rows : SlX.Slot1 K (He.ga K "Table") "own_rows" (He.ma K (He.ga K "Table") "own_rows") 2
  sides : SlX.Slot1 K (He.ga K "Table") "own_sides" (He.ma K (He.ga K "Table") "own_sides") 3
  acc : SlX.Slot1 K (He.ga K "Table") "own_accepted" (He.ma K (He.ga K "Table") "own_accepted") 0
structure BldC (K : PySem.W.Frag) (mg : Str → Option Value) : Prop where
  glo : mg "Building" = some (.ref (He.ga K "Building"))
  sl : SlC K (He.ga K "Building")
  word : SlX.Slot1 K (He.ga K "Building") "word" (He.ma K (He.ga K "Building") "word") 5
  parts : SlX.Slot1 K (He.ga K "Building") "own_parts" (He.ma K (He.ga K "Building") "own_parts") 2
  text : SlX.Slot1 K (He.ga K "Building") "own_text" (He.ma K (He.ga K "Building") "own_text") 4
  leaves : SlX.Slot1 K (He.ga K "Building") "own_leaves" (He.ma K (He.ga K "Building") "own_leaves") 0
  size : SlX.Slot1 K (He.ga K "Building") "own_size" (He.ma K (He.ga K "Building") "own_size") 3
  many : SlX.Slot1 K (He.ga K "Building") "own_many" (He.ma K (He.ga K "Building") "own_many") 1
/-- a method of the class x, its statement st -/
def MtG (K : PySem.W.Frag) (x m : Str) (st : Stmt) : Prop := ∃ fd, FunD K m (x ++ "." ++ m) (defArgs st) (defBody st) (defScope st) [] [] (He.ma K (He.ga K x) m) fd
/-- a def at f keeps the promise sp -/
def PrM (P : Program) (w : World) (K : PySem.W.Frag) (mg : Str → Option Value) (base : Heap) (k : Nat) (f : Addr) (ps : List Str) (sp : Sp) : Prop :=
  ∃ fd, FnOk P w K mg base CX0 k f fd ps sp ∧ Binds K fd ps []
section
variable {P : Program} {w : World} {K : PySem.W.Frag} {mg : Str → Option Value} {base : Heap}
theorem PrM.raw {k : Nat} {f : Addr} {ps : List Str} {sp : Sp} (F : PrM P w K mg base k f ps sp) : FnR P w K mg base CX0 k f sp := by
  obtain ⟨fd, F1, F2⟩ := F
  exact (F1.raw F2 .nil).imp fun vs H Q E h => by rw [List.append_nil]; exact h
theorem PrM.mono {j k : Nat} {f : Addr} {ps : List Str} {sp : Sp} (F : PrM P w K mg base j f ps sp) (h : j ≤ k) : PrM P w K mg base k f ps sp := by
  obtain ⟨fd, F1, F2⟩ := F
  exact ⟨fd, F1.mono h, F2⟩
/-- a def of any place -/
theorem pm_mk {x qual : Str} {st : Stmt} {f : Addr} {N ps : List Str} {k : Nat} {sp : Sp} (F : ∃ fd, FunD K x qual (defArgs st) (defBody st) (defScope st) [] [] f fd) (S : FnScope N ps (defScope st))
    (hb : ∀ (kV doc pm : Value) (an : Option Addr) (cdv ct : Value) (us : List Value), us.length = ps.length → bindArgs (PySem.W.fnOf x qual (defArgs st) (defBody st) (defScope st) .none kV doc pm an cdv ct) ⟨us, []⟩ = pure (ps.zip us))
    (len : ∀ vs H Q E, sp vs H Q E → vs.length = ps.length)
    (body : ∀ (cdv : Value) (A : Around) (outer : List Env) (s : Shared) (H : Hp) (vs : List V) (Q : VK) (E : XK), Room k (A.deeper (envOfC qual (defScope st) s.heap.objs.size f cdv)) → sp vs H Q E →
      ∃ t, PSs (cxOf CX0 P w K mg base N qual (defScope st) f cdv A outer s H E).nox (defBody st) t ∧ t { nx := fun _ H' => Q .non H', rt := Q } (L2.start N vs) H) : PrM P w K mg base (k + 1) f ps sp := by
  obtain ⟨fd, F⟩ := F
  refine ⟨fd, F.ok S len fun cdv A outer s H vs Q E hr h => ?_, F.bindsN hb⟩
  obtain ⟨t, h1, h2⟩ := body cdv A outer s H vs Q E hr h
  exact ⟨t, h1.nox, h2⟩
end
section
variable {X : Cx}
/-- C(e, ..): a new instance, __init__ by its promise -/
theorem pe_mk {x : Str} {C f : Addr} {k : Nat} {ps : List Str} {sp : Sp} {e : Expr} {es : List Expr} {t : TA} {p pos : Pos} (M : Mk X.K C f) (F : PrM X.prog X.w X.K X.mg X.base k f ps sp) (hr : Room (k + 1) X.A) (hm : X.mg x = some (.ref C))
    (ha : PA X (e :: es) t) (hg : Gl X x := by rfl) (hdb : (x == ("__debug__" : Str)) = false := by decide) (he : starEach (e :: es) X.env = (false, eval e X.env) :: starEach es X.env := by rfl) (hpl : (backTo pos (starEach es X.env)).any (·.1) = false := by rfl) :
    PE X (.Call (.Name x p) (e :: es) [] pos) (tMake C sp [] E0 t) := by
  obtain ⟨fd, F1, F2⟩ := F
  exact pe_make M F1 hr hg hm F2 .nil pass0 ha hdb he hpl
/-- cls(e, ..), cls a name of the def that holds the class -/
def tMakeV (C : Addr) (sp : Sp) (tn : TE) (t : TA) : TE := fun σ H Q => tn σ H fun c H0 => c = .ref C ∧ t σ H0 fun vs H1 => ∀ x dx, H1 x = none → H1 dx = none → dx ≠ x →
  sp (.ref x :: vs) (upd (upd H1 dx (.own x)) x (.ins C dx [])) (fun v H2 => v = .non ∧ Q (.ref x) H2) E0
theorem pe_mkV {x : Str} {C f : Addr} {k : Nat} {ps : List Str} {sp : Sp} {e : Expr} {es : List Expr} {tn : TE} {t : TA} {p pos : Pos} (M : Mk X.K C f) (F : PrM X.prog X.w X.K X.mg X.base k f ps sp) (hr : Room (k + 1) X.A) (hn : PE X (.Name x p) tn)
    (ha : PA X (e :: es) t) (he : starEach (e :: es) X.env = (false, eval e X.env) :: starEach es X.env := by rfl) (hpl : (backTo pos (starEach es X.env)).any (·.1) = false := by rfl) :
    PE X (.Call (.Name x p) (e :: es) [] pos) (tMakeV C sp tn t) := by
  constructor
  intro pins s σ H Q I h
  obtain ⟨fd, F1, F2⟩ := F
  refine wpAny_Call_Name_kw (thn (hn.run pins s σ H _ I h) ?_)
  rintro u s0 ⟨c, H0, I0, rc, rfl, q0⟩
  obtain rfl : u = Value.ref C := rc
  refine PySem.W.callWith_K (h₀ := X.base) I0.ok.mod.kin M.kp (thn (ha.run pos pins s0 σ H0 _ I0 q0) fun us s1 z => ?_) he hpl
  obtain ⟨vs, H1, I1, r, q⟩ := z
  exact ⟨I1.kIn, run_make M F1 hr F2 .nil pass0 I1 r fun y dx h1 h2 h3 => by rw [List.append_nil]; exact q y dx h1 h2 h3⟩
/-- C.m(), m a classmethod -/
theorem pe_cmeth0 {k : Nat} {C p g : Addr} {mc : Value} {sp : Sp} {o : Expr} {m : Str} {pos apos : Pos} {ta : TE} {pl : Sem Bool} (he : PE X o ta) (r : ClX.CRead X.K C mc) (c : ClX.CMet X.K C mc m p g) (F : FnR X.prog X.w X.K X.mg X.base CX0 k g sp) (hr : Room k X.A)
    (ht : eval (.Call (.Attribute o m apos) [] [] pos) X.env = (do
      let ov ← eval o X.env
      standAt apos.atName
      let (f, first) ← holding [ov] (getMethod ov m pl)
      callWith pos f first (backTo pos (starEach [] X.env)) (backToKw pos (keywordEach [] X.env))) := by rfl) :
    PE X (.Call (.Attribute o m apos) [] [] pos) (ClX.tCMeth C sp E0 ta tNil) := by
  constructor
  intro pins s σ H Q I h
  refine PySem.W.methodCall_KW (pl := pl) (thn (he.run pins s σ H _ I h) ?_) ht
  rintro u s1 ⟨x, H1, I1, rx, rfl, q⟩
  obtain rfl : u = Value.ref C := rx
  refine ClX.getmethcm_ok I1 r c fun s2 I2 => ?_
  exact PySem.W.callWith_M0 (first := []) ⟨ClX.pin_at I2, I2.kIn⟩ c.fi (ClX.run_cm (us := []) (vs := []) F hr pass0 I2 .nil q)
end
end K46
set_option Elab.async false
set_option linter.all false
set_option autoImplicit false
set_option maxRecDepth 100000
namespace K46
open PySem PySem.Spec PyProof.Rows L2 Evl
set_option maxHeartbeats 4000000
/-- the five parts of a table stand as tuples -/
structure FiveT (H : Hp) (r s a : V) (T : Tb) : Prop where
  rows : MatT H r T.rows
  sides : MatT H s T.sides
  acc : TupN H a T.acc
theorem FiveT.mono {H H' : Hp} {r s a : V} {T : Tb} (h : FiveT H r s a T) (e : Ex H H') : FiveT H' r s a T := ⟨h.rows.mono e, h.sides.mono e, TupV.mono h.acc e⟩
/-- v is a Table that holds T -/
def TabAt (K : PySem.W.Frag) (H : Hp) (v : V) (T : Tb) : Prop := ∃ x dx r s a, v = .ref x ∧ H x = some (SlX.SlO x (He.ga K "Table") dx [some a, some (nV T.gap), some r, some s, some (nV T.tie)]) ∧ H dx = some (.xd []) ∧ FiveT H r s a T
theorem TabAt.mono {K : PySem.W.Frag} {H H' : Hp} {v : V} {T : Tb} (h : TabAt K H v T) (e : Ex H H') : TabAt K H' v T := by
  obtain ⟨x, dx, r, s, a, rfl, h1, h2, h3⟩ := h
  exact ⟨x, dx, r, s, a, rfl, e _ _ h1, e _ _ h2, h3.mono e⟩
section
variable {K : PySem.W.Frag} {σ : L2.St} {H H' : Hp} {ta tb tc te : TE} {v x y z : V}
/-- a slot of a table -/
theorem ev_sl {f : Str} {p a C dx : Addr} {i : Nat} {vs : List (Option V)} (ha : Ev ta σ H (.ref a)) (h1 : H a = some (SlX.SlO a C dx vs)) (h2 : H dx = some (.xd [])) (c : SlX.SCls K C) (k : SlX.Slot1 K C f p i) (l : vs[i]? = some (some v)) :
    Ev (SlX.tSl K ta f) σ H v := fun H1 e Q q =>
  ha H1 e _ fun H2 e2 => ⟨a, C, dx, p, vs, i, v, rfl, .inr ⟨(e.trans e2) _ _ h1, (e.trans e2) _ _ h2⟩, c, k, l, q H2 e2⟩
end
section
variable {P : Program} {w : World} {K : PySem.W.Frag} {mg : Str → Option Value} {base : Heap}
abbrev sRight : Stmt := top 46
def spRight : Sp := fun vs H Q _ => ∃ (T : Tb) (r s a : V), vs = [nV T.tie, nV T.gap, r, s, a] ∧ FiveT H r s a T ∧ T.Ok ∧ T.n ≤ 400 ∧ ∀ H', Ex H H' → Q (.bl true) H'
theorem scRight : FnScope ["tie", "gap", "rows", "sides", "accepted", "many"] ["tie", "gap", "rows", "sides", "accepted"] (defScope sRight) := ⟨rfl, rfl, rfl, by decide +kernel, rfl, by decide +kernel, by decide +kernel⟩
theorem ok_right (B : Free mg) (Cn : Consts mg) (F : FnG K "are_right" sRight) (hm : mg "are_right" = some (.ref (He.ga K "are_right"))) (Fs : Pr P w K mg base 3 "is_state" ["many", "value"] spState)
    (Fq : Pr P w K mg base 4 "is_square" ["many", "value"] spSquare) (Fa : Pr P w K mg base 4 "are_states" ["many", "value"] spStates) : Pr P w K mg base 5 "are_right" ["tie", "gap", "rows", "sides", "accepted"] spRight := by
  refine pr_mk F hm scRight (fun _ _ _ _ _ _ us hl => match us, hl with | [_, _, _, _, _], _ => rfl) (fun vs H Q E h => ?_) (fun f cdv A outer s H vs Q E hr h => ?_)
  · obtain ⟨T, r, s, a, rfl, _⟩ := h
    rfl
  · obtain ⟨T, r, t, a, rfl, h5, ok, hn, k⟩ := h
    obtain ⟨⟨rs, hr1, hp⟩, h2, h3⟩ := id h5
    have hl : rs.length = T.n := (paired_length hp).trans ok.rows.len
    have hr3 := hr.mono (show 3 ≤ 4 by decide)
    refine ⟨_, pss_cons (ps_if (PW.pt (pw_or (pt_not (pt_val (pe_callB call_isi (by rfl) B.isinstance b_isi (pa_cons (pv 2) (pa_cons (pe_ty B.tuple b_tuple) pa_nil)))))
        (pw_or1 (pt_not (pt_chain op_le op_le pe_int (pe_callB call_len_seq (by rfl) B.len b_len (pa_cons (pv 2) pa_nil)) (pe_gi Cn.states)))))) (pss_one (ps_ret pe_bl)) pss_nil)
      (pss_cons (ps_set (i := 5) scRight.nd rfl (Or.inl rfl) (pe_callB call_len_seq (by rfl) B.len b_len (pa_cons (pv 2) pa_nil)))
      (pss_cons (ps_if (PW.pt (pw_or (pt_not (pt_val (pe_g Fs hr3 (pa_cons (pv 5) (pa_cons (pv 0) pa_nil))))) (pw_or1 (pt_not (pt_val (pe_g Fs hr3 (pa_cons (pv 5) (pa_cons (pv 1) pa_nil)))))))) (pss_one (ps_ret pe_bl)) pss_nil)
      (pss_one (ps_ret (pe_and (pe_g Fq hr (pa_cons (pv 5) (pa_cons (pv 2) pa_nil))) (pe_and (pe_g Fq hr (pa_cons (pv 5) (pa_cons (pv 3) pa_nil))) (pe_one (pe_g Fa hr (pa_cons (pv 5) (pa_cons (pv 4) pa_nil)))))))))), ?_⟩
    have e1 : decide ((1 : Int) ≤ (rs.length : Int)) = true := decide_eq_true (by have := ok.tie; omega)
    have e2 : decide ((rs.length : Int) ≤ (400 : Int)) = true := decide_eq_true (by omega)
    refine q_when (b := false) (et_or (a := false) (b := false) (et_not (a := true) (et_B (ev_isi (ev_var rfl) (TupV.ty hr1) (by decide +kernel)))) fun _ => et_not (a := true) (et_test (ev_chain ev_c (ev_lenS (ev_var rfl) hr1.sq) ?_ ev_c ?_))) (fun z => by cases z) (fun _ H1 E1 => ?_)
    · rw [← e1]; exact rv_I0
    · rw [← e2]; exact rv_I0
    refine q_asg (ev_lenS (ev_var rfl) (TupV.sq (hr1.mono E1))) fun H2 E2 => ?_
    rw [hl]
    have E12 := E1.trans E2
    refine q_when (b := false) (et_or (a := false) (b := false) (et_not (a := true) (et_B (ev_call (ea_cons (ev_var rfl) (ea_cons (ev_var rfl) ea_nil)) fun H3 _ Q q _ => ⟨T.n, T.tie, rfl, hn, ok.tie, q⟩)))
      fun _ => et_not (a := true) (et_B (ev_call (ea_cons (ev_var rfl) (ea_cons (ev_var rfl) ea_nil)) fun H3 _ Q q _ => ⟨T.n, T.gap, rfl, hn, ok.gap, q⟩))) (fun z => by cases z) (fun _ H3 E3 => ?_)
    have E13 := E12.trans E3
    refine s_ret (ev_andV (a := true) (b := true) (ev_call (ea_cons (ev_var rfl) (ea_cons (ev_var rfl) ea_nil)) fun H4 e4 Q q _ => ⟨T.n, r, T.rows, rfl, hn, h5.rows.mono (E13.trans e4), ok.rows, q⟩)
      fun _ => ev_andV (a := true) (b := true) (ev_call (ea_cons (ev_var rfl) (ea_cons (ev_var rfl) ea_nil)) fun H4 e4 Q q _ => ⟨T.n, t, T.sides, rfl, hn, h5.sides.mono (E13.trans e4), ok.sides, q⟩)
      fun _ => ev_call (ea_cons (ev_var rfl) (ea_cons (ev_var rfl) ea_nil)) fun H4 e4 Q q _ => ⟨T.n, a, T.acc, rfl, hn, TupV.mono h5.acc (E13.trans e4), ok.acc, ok.asc, ?_, q⟩) fun H4 e4 => k H4 (E13.trans e4)
    have := nodup_le T.n T.acc (ok.asc.imp fun h => Nat.ne_of_lt h) ok.acc
    omega
/-! ### Table.__init__ -/
abbrev sTInit : Stmt := inClass (top 47) 1
def spTInit (K : PySem.W.Frag) : Sp := fun vs H Q _ => ∃ (Hb : Hp) (x dx : Addr) (T : Tb) (r s a : V), vs = [.ref x, nV T.tie, nV T.gap, r, s, a] ∧ Hb x = none ∧ Hb dx = none ∧ dx ≠ x ∧ Ex Hb H ∧ H x = some (.ins (He.ga K "Table") dx []) ∧
  FiveT Hb r s a T ∧ T.Ok ∧ T.n ≤ 400 ∧ ∀ H', Ex Hb H' → H' x = some (SlX.SlO x (He.ga K "Table") dx [some a, some (nV T.gap), some r, some s, some (nV T.tie)]) → H' dx = some (.xd []) → Q .non H'
theorem scTInit : FnScope ["self", "tie", "gap", "rows", "sides", "accepted"] ["self", "tie", "gap", "rows", "sides", "accepted"] (defScope sTInit) := ⟨rfl, rfl, rfl, by decide +kernel, rfl, by decide +kernel, by decide +kernel⟩
theorem slH_ex {Hb H : Hp} {x C dx : Addr} {vs : List (Option V)} (h1 : Hb x = none) (h2 : Hb dx = none) (e : Ex Hb H) : Ex Hb (SlX.slH H x C dx vs) := fun a o h => by
  rw [SlX.slH_ne (ne_of_none h h1) (ne_of_none h h2)]
  exact e _ _ h
theorem ok_tinit (TC : TblC K mg) (F : MtG K "Table" "__init__" sTInit) (Fr : Pr P w K mg base 5 "are_right" ["tie", "gap", "rows", "sides", "accepted"] spRight) :
    PrM P w K mg base 6 (He.ma K (He.ga K "Table") "__init__") ["self", "tie", "gap", "rows", "sides", "accepted"] (spTInit K) := by
  refine pm_mk F scTInit (fun _ _ _ _ _ _ us hl => match us, hl with | [_, _, _, _, _, _], _ => rfl) (fun vs H Q E h => ?_) (fun cdv A outer s H vs Q E hr h => ?_)
  · obtain ⟨_, x, dx, T, r, s, a, rfl, _⟩ := h
    rfl
  · obtain ⟨Hb, x, dx, T, r, t, a, rfl, nx, nd, ne, eb, hx, h5, ok, hn, k⟩ := h
    refine ⟨_, pss_cons (ps_if (pt_not (pt_val (pe_g Fr hr (pa_cons (pv 1) (pa_cons (pv 2) (pa_cons (pv 3) (pa_cons (pv 4) (pa_cons (pv 5) pa_nil)))))))) (pss_one ps_never) pss_nil)
      (pss_cons (SlX.ps_sl (pv 0) (pv 1)) (pss_cons (SlX.ps_sl (pv 0) (pv 2)) (pss_cons (SlX.ps_sl (pv 0) (pv 3)) (pss_cons (SlX.ps_sl (pv 0) (pv 4)) (pss_one (SlX.ps_sl (pv 0) (pv 5))))))), ?_⟩
    refine q_when (b := false) (et_not (a := true) (et_B (ev_call (ea_cons (ev_var rfl) (ea_cons (ev_var rfl) (ea_cons (ev_var rfl) (ea_cons (ev_var rfl) (ea_cons (ev_var rfl) ea_nil))))) fun H3 e3 Q q _ => ⟨T, r, t, a, rfl, h5.mono (eb.trans e3), ok, hn, q⟩))) (fun z => by cases z) (fun _ H1 e1 => ?_)
    refine ⟨_, rfl, _, rfl, x, _, dx, _, _, _, rfl, .inl ⟨e1 _ _ hx, rfl⟩, TC.sl.cls, TC.tie, ?_⟩
    refine ⟨_, rfl, _, rfl, x, _, dx, _, _, _, rfl, SlX.slH_slt ne, TC.sl.cls, TC.gap, ?_⟩
    rw [SlX.slH_twice ne]
    refine ⟨_, rfl, _, rfl, x, _, dx, _, _, _, rfl, SlX.slH_slt ne, TC.sl.cls, TC.rows, ?_⟩
    rw [SlX.slH_twice ne]
    refine ⟨_, rfl, _, rfl, x, _, dx, _, _, _, rfl, SlX.slH_slt ne, TC.sl.cls, TC.sides, ?_⟩
    rw [SlX.slH_twice ne]
    refine ⟨_, rfl, _, rfl, x, _, dx, _, _, _, rfl, SlX.slH_slt ne, TC.sl.cls, TC.acc, ?_⟩
    rw [SlX.slH_twice ne]
    exact k _ (slH_ex nx nd (eb.trans e1)) upd_same (by unfold SlX.slH; rw [upd_ne ne, upd_same])
end
end K46
set_option Elab.async false
set_option linter.all false
set_option autoImplicit false
set_option maxRecDepth 100000
namespace K46
open PySem PySem.Spec PyProof.Rows L2 Evl
set_option maxHeartbeats 4000000
/-- the five parts stand in a tuple, the tables as lists or tuples | as tuples -/
def PartsAt (K : PySem.W.Frag) (H : Hp) (v : V) (T : Tb) : Prop := ∃ r s a, TupV H v [nV T.tie, nV T.gap, r, s, a] ∧ Mat K H r T.rows ∧ Mat K H s T.sides ∧ SqN K H a T.acc
def PartsT (H : Hp) (v : V) (T : Tb) : Prop := ∃ r s a, TupV H v [nV T.tie, nV T.gap, r, s, a] ∧ FiveT H r s a T
theorem PartsAt.mono {K : PySem.W.Frag} {H H' : Hp} {v : V} {T : Tb} (h : PartsAt K H v T) (e : Ex H H') : PartsAt K H' v T := by
  obtain ⟨r, s, a, h1, h2, h3, h4⟩ := h
  exact ⟨r, s, a, h1.mono e, h2.mono e, h3.mono e, SqN.mono h4 e⟩
theorem PartsT.mono {H H' : Hp} {v : V} {T : Tb} (h : PartsT H v T) (e : Ex H H') : PartsT H' v T := by
  obtain ⟨r, s, a, h1, h2⟩ := h
  exact ⟨r, s, a, h1.mono e, h2.mono e⟩
theorem PartsT.at_ {K : PySem.W.Frag} {H : Hp} {v : V} {T : Tb} (h : PartsT H v T) : PartsAt K H v T := by
  obtain ⟨r, s, a, h1, h2⟩ := h
  exact ⟨r, s, a, h1, h2.rows.mat, h2.sides.mat, TupV.sq h2.acc⟩
/-! ### what is walked from the heap at hand, while all but the objects M stands -/
def ExB (M : List Addr) (H H' : Hp) : Prop := ∀ a o, a ∉ M → H a = some o → H' a = some o
theorem ExB.refl {M : List Addr} (H : Hp) : ExB M H H := fun _ _ _ h => h
theorem ExB.of {M : List Addr} {H H' : Hp} (e : Ex H H') : ExB M H H' := fun a o _ h => e a o h
theorem ExB.trans {M : List Addr} {H H1 H2 : Hp} (a : ExB M H H1) (b : ExB M H1 H2) : ExB M H H2 := fun x o n h => b x o n (a x o n h)
theorem ExB.upd {M : List Addr} {H H' : Hp} {p : Addr} {o : HO} (a : ExB M H H') (h : p ∈ M) : ExB M H (upd H' p o) := fun x u n e => by
  rw [upd_ne (fun q => n (by rw [q]; exact h))]
  exact a x u n e
/-- the base stands, where M lies outside of it -/
theorem ExB.ex {M : List Addr} {Hb H H' : Hp} (e : Ex Hb H) (a : ExB M H H') (n : ∀ m ∈ M, Hb m = none) : Ex Hb H' := fun x o h => a x o (fun q => by rw [n x q] at h; cases h) (e x o h)
def OverM (wi : TI) (σ : L2.St) (H : Hp) (M : List Addr) (n : Nat) (Y : Nat → Hp → V → Hp → Prop) : Prop :=
  ∀ R : It → Hp → Prop, (∀ J H2 G, Ex H H2 → Walk J n G Y → (∀ H3, ExB M H2 H3 → G H3) → R J H2) → wi σ H R
section
variable {K : PySem.W.Frag} {σ : L2.St} {H H' Hb : Hp} {M : List Addr} {ta tb tc te : TE} {v x y z : V}
theorem overM_listN {xs : List V} {tl : TE} (h : EvL tl σ H xs) (hm : ∀ m ∈ M, ∃ o, H m = some o) : OverM (iList K tl) σ H M xs.length (YAt xs) := fun R k =>
  h H (Ex.refl _) _ fun a H2 ha e2 h2 => ⟨a, rfl, ⟨xs, sq_of h2⟩, k _ _ _ e2 walk_list fun H3 e3 => sq_of (e3 a _ (fun q => by obtain ⟨o, ho⟩ := hm a q; rw [ha] at ho; cases ho) h2)⟩
theorem overM_tupN {xs : List V} {tl : TE} (h : EvU tl σ H xs) (hm : ∀ m ∈ M, ∃ o, H m = some o) : OverM (iTup K tl) σ H M xs.length (YAt xs) := fun R k =>
  h H (Ex.refl _) _ fun a H2 ha e2 h2 => ⟨a, rfl, ⟨xs, SqT.of h2⟩, k _ _ _ e2 walk_tup fun H3 e3 => SqT.of (e3 a _ (fun q => by obtain ⟨o, ho⟩ := hm a q; rw [ha] at ho; cases ho) h2)⟩
theorem Over0.toM {wi : TI} {n : Nat} {Y : Nat → Hp → V → Hp → Prop} (h : Over0 wi σ Hb n Y) (e : Ex Hb H) (hm : ∀ m ∈ M, Hb m = none) : OverM wi σ H M n Y := fun R k =>
  h H e R fun J H2 G e2 w g => k J H2 G e2 w fun H3 e3 => g H3 (e3.ex (e.trans e2) hm)
variable {D : Ends} {tu tz : TS} {g : TG}
theorem s_forM {wi : TI} {n : Nat} {Y : Nat → Hp → V → Hp → Prop} (hO : OverM wi σ H M n Y) (hY : ∀ i H x H', Y i H x H' → Ex H H') (Pv : Hp → Nat → L2.St → Hp → Prop) (h0 : ∀ H1, Ex H H1 → Pv H1 0 σ H1)
    (hM : ∀ H1 i σ' H', Pv H1 i σ' H' → ExB M H1 H')
    (hs : ∀ H1, Ex H H1 → ∀ i x σ' H' H'', i < n → Pv H1 i σ' H' → Y i H' x H'' → Ex H' H'' → g x σ' H'' fun σ2 H2 => tu { D with nx := Pv H1 (i + 1), ct := Pv H1 (i + 1), bk := D.nx } σ2 H2)
    (hd : ∀ H1, Ex H H1 → ∀ σ' H', Pv H1 n σ' H' → D.nx σ' H') : tFor wi g tu D σ H :=
  hO _ fun J H2 G e2 w hw => for_it w (Pv H2) (h0 H2 e2) (fun i σ' H' _ p => hw _ (hM H2 i σ' H' p)) (fun i x σ' H' H'' hi p y => hs H2 e2 i x σ' H' H'' hi p y (hY _ _ _ _ y)) (hd H2 e2)
theorem q_forM {wi : TI} {n : Nat} {Y : Nat → Hp → V → Hp → Prop} (hO : OverM wi σ H M n Y) (hY : ∀ i H x H', Y i H x H' → Ex H H') (Pv : Hp → Nat → L2.St → Hp → Prop) (h0 : ∀ H1, Ex H H1 → Pv H1 0 σ H1)
    (hM : ∀ H1 i σ' H', Pv H1 i σ' H' → ExB M H1 H')
    (hs : ∀ H1, Ex H H1 → ∀ i x σ' H' H'', i < n → Pv H1 i σ' H' → Y i H' x H'' → Ex H' H'' → g x σ' H'' fun σ2 H2 => tu { D with nx := Pv H1 (i + 1), ct := Pv H1 (i + 1), bk := tz D } σ2 H2)
    (hd : ∀ H1, Ex H H1 → ∀ σ' H', Pv H1 n σ' H' → tz D σ' H') : tSeq (tFor wi g tu) tz D σ H := s_forM (D := { D with nx := tz D }) hO hY Pv h0 hM hs hd
end
theorem cut_take (xs : List V) (k : Nat) : cutV xs none (some ((k : Int) + 1)) = xs.take (k + 1) := by
  unfold cutV
  have e : (k : Int) + 1 = ((k + 1 : Nat) : Int) := by omega
  rw [e, HT.sIx_nat, HT.sIx_none, List.drop_zero, Nat.sub_zero]
  by_cases h : k + 1 ≤ xs.length
  · rw [Nat.min_eq_left h]
  · rw [Nat.min_eq_right (by omega), List.take_of_length_le (Nat.le_refl _), List.take_of_length_le (by omega)]
/-- the dict of what is known -/
def kd (o : List Nat) : List (Key × V) := o.map fun (x : Nat) => ((Sum.inl (x : Int) : Key), V.bl true)
theorem kd_val (o : List Nat) (x : Nat) : valV (kd o) (Sum.inl (x : Int)) = if x ∈ o then some (.bl true) else none := by
  induction o with
  | nil => simp [kd, valV]
  | cons y o ih =>
    unfold kd at ih ⊢
    rw [List.map_cons]
    by_cases h : y = x
    · rw [valV_pos (by rw [h]), if_pos (by rw [h]; exact List.mem_cons_self)]
    · rw [valV_neg (fun q => h (by have := Sum.inl.inj q; omega)), ih]
      by_cases h2 : x ∈ o
      · rw [if_pos h2, if_pos (List.mem_cons_of_mem _ h2)]
      · rw [if_neg h2, if_neg (fun q => by rcases List.mem_cons.mp q with q | q; exact h q.symm; exact h2 q)]
theorem kd_put {o : List Nat} {x : Nat} (h : x ∉ o) : putK (kd o) (Sum.inl (x : Int)) (.bl true) = kd (o ++ [x]) := by
  rw [putK_new _ (by rw [kd_val, if_neg h])]
  unfold kd
  rw [List.map_append]; rfl
theorem kd_isSome (o : List Nat) (x : Nat) : (valV (kd o) (Sum.inl (x : Int))).isSome = decide (x ∈ o) := by
  rw [kd_val]; split <;> simp_all
theorem push_id (o : List Nat) (x : Nat) : push id o x = if x ∈ o then o else o ++ [x] := by unfold push; rw [List.map_id]; rfl
section
variable {K : PySem.W.Frag} {σ : L2.St} {H H' Hb : Hp} {ta tb tc te : TE} {v x y z : V}
/-- k in d, k not in d, d[k] -/
theorem et_dnot {d : Addr} {o : Option V} {c : Bool} (hk : Ev ta σ H y) (hd : Ev tb σ H (.ref d)) (hg : ∀ H1, Ex H H1 → DGet H1 d y o) (ho : (!o.isSome) = c) : EvT (tB (tDNotIn ta tb)) σ H c := fun H1 e Q q =>
  hk H1 e _ fun H2 e2 => hd H2 (e.trans e2) _ fun H3 e3 => ⟨d, o, rfl, hg H3 ((e.trans e2).trans e3), c, by rw [ho], q H3 (e2.trans e3)⟩
theorem et_din {d : Addr} {o : Option V} {c : Bool} (hk : Ev ta σ H y) (hd : Ev tb σ H (.ref d)) (hg : ∀ H1, Ex H H1 → DGet H1 d y o) (ho : o.isSome = c) : EvT (tB (tDIn ta tb)) σ H c := fun H1 e Q q =>
  hk H1 e _ fun H2 e2 => hd H2 (e.trans e2) _ fun H3 e3 => ⟨d, o, rfl, hg H3 ((e.trans e2).trans e3), c, by rw [ho], q H3 (e2.trans e3)⟩
theorem ev_dget {d : Addr} (hd : Ev ta σ H (.ref d)) (hk : Ev tb σ H y) (hg : ∀ H1, Ex H H1 → DGet H1 d y (some v)) : Ev (tDGet ta tb) σ H v := fun H1 e Q q =>
  hd H1 e _ fun H2 e2 => hk H2 (e.trans e2) _ fun H3 e3 => ⟨d, v, rfl, hg H3 ((e.trans e2).trans e3), q H3 (e2.trans e3)⟩
theorem dget_k {d : Addr} {kvs : List (Key × V)} {i : Int} (h : H d = some (.dK kvs)) : ∀ H1, Ex H H1 → DGet H1 d (.int i) (valV kvs (Sum.inl i)) := fun H1 e => DGet.k (k := Sum.inl i) (e _ _ h)
end
section
variable {P : Program} {w : World} {K : PySem.W.Frag} {mg : Str → Option Value} {base : Heap}
/-! ### five_of, table_by -/
abbrev sFive : Stmt := top 50
def spFive (K : PySem.W.Frag) : Sp := fun vs H Q _ => ∃ (v : V) (T : Tb), vs = [v] ∧ TabAt K H v T ∧ ∀ u H', Ex H H' → PartsT H' u T → Q u H'
theorem scFive : FnScope ["table"] ["table"] (defScope sFive) := ⟨rfl, rfl, rfl, by decide +kernel, rfl, by decide +kernel, by decide +kernel⟩
theorem ok_five (TC : TblC K mg) (F : FnG K "five_of" sFive) (hm : mg "five_of" = some (.ref (He.ga K "five_of"))) : Pr P w K mg base 1 "five_of" ["table"] (spFive K) := by
  refine pr_mk F hm scFive (fun _ _ _ _ _ _ us hl => match us, hl with | [_], _ => rfl) (fun vs H Q E h => ?_) (fun f cdv A outer s H vs Q E hr h => ?_)
  · obtain ⟨v, T, rfl, _⟩ := h
    rfl
  · obtain ⟨v, T, rfl, ⟨x, dx, r, t, a, rfl, h1, h2, h3⟩, k⟩ := h
    refine ⟨_, pss_one (ps_ret (pe_tup (pa_cons (SlX.pe_sl (pv 0)) (pa_cons (SlX.pe_sl (pv 0)) (pa_cons (SlX.pe_sl (pv 0)) (pa_cons (SlX.pe_sl (pv 0)) (pa_cons (SlX.pe_sl (pv 0)) pa_nil))))))), ?_⟩
    refine s_retU (eu_tup (ea_cons (ev_sl (ev_var rfl) h1 h2 TC.sl.cls TC.tie rfl) (ea_cons (ev_sl (ev_var rfl) h1 h2 TC.sl.cls TC.gap rfl) (ea_cons (ev_sl (ev_var rfl) h1 h2 TC.sl.cls TC.rows rfl)
      (ea_cons (ev_sl (ev_var rfl) h1 h2 TC.sl.cls TC.sides rfl) (ea_cons (ev_sl (ev_var rfl) h1 h2 TC.sl.cls TC.acc rfl) ea_nil))))) (by simp)) fun p H1 hp e h4 => k _ H1 e ⟨r, t, a, ⟨p, rfl, h4⟩, h3.mono e⟩
/-- Table(..) of parts that are known -/
theorem ep_tmake {K : PySem.W.Frag} {σ : L2.St} {H : Hp} {t : TA} {T : Tb} {P : List V → Hp → Prop} (h : EvAP t σ H P) (hP : ∀ vs H1, Ex H H1 → P vs H1 → ∃ r s a, vs = [nV T.tie, nV T.gap, r, s, a] ∧ FiveT H1 r s a T) (ok : T.Ok) (hn : T.n ≤ 400) :
    EvP (tMake (He.ga K "Table") (spTInit K) [] E0 t) σ H (fun v H' => TabAt K H' v T) := fun H1 e Q q => by
  refine h H1 e _ fun vs H2 e2 p2 x dx nx nd ne => ?_
  obtain ⟨r, s, a, rfl, h5⟩ := hP vs H2 (e.trans e2) p2
  refine ⟨H2, x, dx, T, r, s, a, rfl, nx, nd, ne, fun b o e => ?_, upd_same, h5, ok, hn, fun H' e' hx hd => ⟨rfl, q _ _ (e2.trans e') ⟨x, dx, r, s, a, rfl, hx, hd, h5.mono e'⟩⟩⟩
  rw [upd_ne (ne_of_none e nx), upd_ne (ne_of_none e nd)]
  exact e
theorem g_tup {n : Nat} {g : TGs} {σ : L2.St} {H : Hp} {v : V} {xs : List V} {Qs : L2.St → Hp → Prop} (h : TupV H v xs) (hl : xs.length = n) (hg : g xs σ H Qs) : gTup K n g v σ H Qs := by
  obtain ⟨a, rfl, h⟩ := h
  exact ⟨a, xs, rfl, SqT.of h, hl, hg⟩
abbrev sBy : Stmt := top 51
def spBy (K : PySem.W.Frag) : Sp := fun vs H Q _ => ∃ (v : V) (T : Tb), vs = [v] ∧ PartsT H v T ∧ T.Ok ∧ T.n ≤ 400 ∧ ∀ u H', Ex H H' → TabAt K H' u T → Q u H'
theorem scBy : FnScope ["parts", "tie", "gap", "rows", "sides", "accepted"] ["parts"] (defScope sBy) := ⟨rfl, rfl, rfl, by decide +kernel, rfl, by decide +kernel, by decide +kernel⟩
theorem ok_by (TC : TblC K mg) (F : FnG K "table_by" sBy) (hm : mg "table_by" = some (.ref (He.ga K "table_by"))) (Fi : PrM P w K mg base 6 (He.ma K (He.ga K "Table") "__init__") ["self", "tie", "gap", "rows", "sides", "accepted"] (spTInit K)) : Pr P w K mg base 8 "table_by" ["parts"] (spBy K) := by
  refine pr_mk F hm scBy (fun _ _ _ _ _ _ us hl => match us, hl with | [_], _ => rfl) (fun vs H Q E h => ?_) (fun f cdv A outer s H vs Q E hr h => ?_)
  · obtain ⟨v, T, rfl, _⟩ := h
    rfl
  · obtain ⟨v, T, rfl, ⟨r, t, a, hv, h5⟩, ok, hn, k⟩ := h
    refine ⟨_, pss_cons (ps_asg (pv 0) (pg_tup rfl (pgs_cons (pg_name (i := 1) scBy.nd rfl (Or.inl rfl)) (pgs_cons (pg_name (i := 2) scBy.nd rfl (Or.inl rfl)) (pgs_cons (pg_name (i := 3) scBy.nd rfl (Or.inl rfl))
      (pgs_cons (pg_name (i := 4) scBy.nd rfl (Or.inl rfl)) (pgs_cons (pg_name (i := 5) scBy.nd rfl (Or.inl rfl)) pgs_nil)))))))
      (pss_one (ps_ret (pe_mk TC.sl.mkr Fi hr TC.glo (pa_cons (pv 1) (pa_cons (pv 2) (pa_cons (pv 3) (pa_cons (pv 4) (pa_cons (pv 5) pa_nil)))))))), ?_⟩
    refine ⟨_, rfl, g_tup hv rfl ⟨_, _, rfl, _, _, rfl, _, _, rfl, _, _, rfl, _, _, rfl, rfl, ?_⟩⟩
    exact s_retP (ep_tmake (eap_of (ea_cons (ev_var rfl) (ea_cons (ev_var rfl) (ea_cons (ev_var rfl) (ea_cons (ev_var rfl) (ea_cons (ev_var rfl) ea_nil)))))) (fun vs H1 e1 q => ⟨r, t, a, q, h5.mono e1⟩) ok hn) fun u H1 e1 p => k u H1 e1 p
end
end K46
set_option Elab.async false
set_option linter.all false
set_option autoImplicit false
set_option maxRecDepth 100000
namespace K46
open PySem PySem.Spec PyProof.Rows L2 Evl
set_option maxHeartbeats 4000000
/-- the order at L, the known ones at D, behind the base H0 -/
structure Met (H0 H : Hp) (L D : Addr) (o : List Nat) : Prop where
  ex : Ex H0 H
  nL : H0 L = none
  nD : H0 D = none
  hL : H L = some (.lst (o.map nV))
  hD : H D = some (.dK (kd o))
theorem Met.mono {H0 H H' : Hp} {L D : Addr} {o : List Nat} (m : Met H0 H L D o) (e : Ex H H') : Met H0 H' L D o := ⟨m.ex.trans e, m.nL, m.nD, e _ _ m.hL, e _ _ m.hD⟩
theorem Met.ne {H0 H : Hp} {L D : Addr} {o : List Nat} (m : Met H0 H L D o) : L ≠ D := ne_of m.hL m.hD (by intro q; cases q)
theorem Met.there {H0 H : Hp} {L D : Addr} {o : List Nat} (m : Met H0 H L D o) : ∀ a ∈ [L, D], ∃ u, H a = some u := fun a ha => by
  rcases List.mem_cons.mp ha with rfl | ha
  · exact ⟨_, m.hL⟩
  · rw [List.mem_singleton.mp ha]; exact ⟨_, m.hD⟩
theorem Met.out {H0 H : Hp} {L D : Addr} {o : List Nat} (m : Met H0 H L D o) : ∀ a ∈ [L, D], H0 a = none := fun a ha => by
  rcases List.mem_cons.mp ha with rfl | ha
  · exact m.nL
  · rw [List.mem_singleton.mp ha]; exact m.nD
/-- known[x] = True; order.append(x) -/
theorem Met.push {H0 H : Hp} {L D : Addr} {o : List Nat} (m : Met H0 H L D o) {x : Nat} (n : x ∉ o) : Met H0 (upd (upd H D (.dK (kd (o ++ [x])))) L (.lst ((o ++ [x]).map nV))) L D (o ++ [x]) := by
  refine ⟨fun a u h => ?_, m.nL, m.nD, upd_same, by rw [upd_ne m.ne.symm, upd_same]⟩
  rw [upd_ne (ne_of_none h m.nL), upd_ne (ne_of_none h m.nD)]
  exact m.ex _ _ h
section
variable {K : PySem.W.Frag} {σ : L2.St} {H H' Hb : Hp} {ta tb tc te tk tv : TE} {v x y z : V} {D : Ends} {tz : TS}
theorem s_asgO {i : Nat} {o : HO} (h : EvO te σ H o) (k : ∀ p H1, H p = none → Ex H H1 → H1 p = some o → D.nx (σ.set i (some (.ref p))) H1) : tAsg te (gName i) D σ H := h H (Ex.refl H) _ k
theorem q_asgO {i : Nat} {o : HO} (h : EvO te σ H o) (k : ∀ p H1, H p = none → Ex H H1 → H1 p = some o → tz D (σ.set i (some (.ref p))) H1) : tSeq (tAsg te (gName i)) tz D σ H := s_asgO (D := { D with nx := tz D }) h k
/-- {k: v} -/
theorem eo_disp1 {k : Key} (hk : Ev tk σ H (kV k)) (hv : Ev tv σ H v) : EvO (tDisp [(tk, tv)]) σ H (.dK [(k, v)]) := fun H1 e Q q => by
  intro p hp
  have e1 : Ex H1 (upd H1 p (.dK [])) := Ex.new hp
  refine hk _ (e.trans e1) _ fun H2 e2 => hv H2 ((e.trans e1).trans e2) _ fun H3 e3 => ⟨e3 _ _ (e2 _ _ upd_same), [(k, v)], rfl, by show 1 ≤ 15; decide, ?_⟩
  have he : Ex H1 (upd H3 p (.dK (mergeK [] [(k, v)]))) := fun a u h => by
    rw [upd_ne (ne_of_none h hp)]
    exact e3 _ _ (e2 _ _ (e1 _ _ h))
  exact q p _ hp he upd_same
theorem rv_neN {i j : Nat} (h : i = j) : RV rNe (nV i) (nV j) H (.bl false) := by
  subst h
  have e : (!decide (nV i = nV i)) = false := by rw [decide_eq_true rfl]; rfl
  rw [← e]
  exact rv_ne rfl
theorem rv_neN' {i j : Nat} (h : ¬ i = j) : RV rNe (nV i) (nV j) H (.bl true) := by
  have e : (!decide (nV i = nV j)) = true := by rw [decide_eq_false (fun q => h (by injection q with q; omega))]; rfl
  rw [← e]
  exact rv_ne rfl
/-- d[k] = v -/
theorem s_dput {d : Addr} {kvs : List (Key × V)} {k : Key} (hv : Ev tv σ H v) (hd : Ev ta σ H (.ref d)) (hk : Ev tk σ H (kV k)) (h : H d = some (.dK kvs)) (hl : kvs.length < sizeLine) (q : ∀ H1, Ex H H1 → D.nx σ (upd H1 d (.dK (putK kvs k v)))) :
    sDPut ta tk tv D σ H := hv H (Ex.refl _) _ fun H1 e1 => hd H1 e1 _ fun H2 e2 => hk H2 (e1.trans e2) _ fun H3 e3 => ⟨d, _, rfl, DPut.k (((e1.trans e2).trans e3) _ _ h) hl, q H3 ((e1.trans e2).trans e3)⟩
theorem q_dput {d : Addr} {kvs : List (Key × V)} {k : Key} (hv : Ev tv σ H v) (hd : Ev ta σ H (.ref d)) (hk : Ev tk σ H (kV k)) (h : H d = some (.dK kvs)) (hl : kvs.length < sizeLine) (q : ∀ H1, Ex H H1 → tz D σ (upd H1 d (.dK (putK kvs k v)))) :
    tSeq (sDPut ta tk tv) tz D σ H := s_dput (D := { D with nx := tz D }) hv hd hk h hl q
end
section
variable {P : Program} {w : World} {K : PySem.W.Frag} {mg : Str → Option Value} {base : Heap}
abbrev sMet : Stmt := top 28
def spMet (K : PySem.W.Frag) : Sp := fun vs H Q _ => ∃ (v : V) (T : Tb), vs = [v] ∧ PartsAt K H v T ∧ T.Ok ∧ T.n ≤ 400 ∧ ∀ p H', H p = none → Ex H H' → H' p = some (.lst ((ordOf id T).map nV)) → Q (.ref p) H'
abbrev nMet : List Str := ["parts", "tie", "gap", "rows", "sides", "accepted", "order", "known", "at", "one", "state"]
theorem scMet : FnScope nMet ["parts"] (defScope sMet) := ⟨rfl, rfl, rfl, by decide +kernel, rfl, by decide +kernel, by decide +kernel⟩
theorem four_get (T : Tb) (i j : Nat) : [nV (cell T.rows i j), nV (cell T.rows j i), nV (cell T.sides i j), nV (cell T.sides j i)] = (four T i j).map nV := rfl
theorem getD_take {α : Type} [Inhabited α] {o : List α} {k : Nat} {x : α} (h : o[k]? = some x) : o.getD k default = x := by rw [List.getD_eq_getElem?_getD, h]; rfl
theorem ok_met (B : Free mg) (F : FnG K "met_states" sMet) (hm : mg "met_states" = some (.ref (He.ga K "met_states"))) (Fr : Pr P w K mg base 1 "results_of" ["rows", "sides", "one", "other"] (spRes K)) :
    Pr P w K mg base 2 "met_states" ["parts"] (spMet K) := by
  refine pr_mk F hm scMet (fun _ _ _ _ _ _ us hl => match us, hl with | [_], _ => rfl) (fun vs H Q E h => ?_) (fun f cdv A outer s H vs Q E hr h => ?_)
  · obtain ⟨v, T, rfl, _⟩ := h
    rfl
  · obtain ⟨v, T, rfl, ⟨r, t, a, hv, h1, h2, h3⟩, ok, hn, k⟩ := h
    have hu := hu_of hr
    refine ⟨_, pss_cons (ps_asg (pv 0) (pg_tup rfl (pgs_cons (pg_name (i := 1) scMet.nd rfl (Or.inl rfl)) (pgs_cons (pg_name (i := 2) scMet.nd rfl (Or.inl rfl)) (pgs_cons (pg_name (i := 3) scMet.nd rfl (Or.inl rfl))
      (pgs_cons (pg_name (i := 4) scMet.nd rfl (Or.inl rfl)) (pgs_cons (pg_name (i := 5) scMet.nd rfl (Or.inl rfl)) pgs_nil)))))))
      (pss_cons (ps_set (i := 6) scMet.nd rfl (Or.inl rfl) (pe_lst (pa_cons (pv 2) pa_nil)))
      (pss_cons (ps_set (i := 7) scMet.nd rfl (Or.inl rfl) (pe_disp (pps_cons (pv 2) pe_bl pps_nil) (by rfl) (by rfl) (fun z => by cases z) (by decide)))
      (pss_cut (ps_if (pt_cmpR op_ne (pv 1) (pv 2) (nomark _)) (pss_cons (ps_expr (pe_bm PySem.F.plainAttrs_list PySem.F.slot_list_append PySem.F.type_list_append mt_append (pv 6) (pa_cons (pv 1) pa_nil)))
        (pss_one (ps_dput hu (pv 7) (pv 1) pe_bl rfl))) pss_nil)
      (pss_cons (ps_set (i := 8) scMet.nd rfl (Or.inl rfl) pe_int)
      (pss_cons (ps_while PassesOwn.never (pt_cmpR op_lt (pv 8) (pe_callB call_len_seq (by rfl) B.len b_len (pa_cons (pv 6) pa_nil)) (nomark _))
        (pss_cons (ps_for PassesOwn.never rfl (pi_list (pe_slice sl_list (pv 6) po_none (po_some (pe_op op_add (pv 8) pe_int)))) (pg_name (i := 9) scMet.nd rfl (Or.inl rfl))
          (pss_one (ps_for PassesOwn.never rfl (pi_tup (pe_g Fr hr (pa_cons (pv 3) (pa_cons (pv 4) (pa_cons (pv 9) (pa_cons (pe_ix ix_list (pv 6) (pv 8) (fun _ _ => rfl)) pa_nil)))))) (pg_name (i := 10) scMet.nd rfl (Or.inl rfl))
            (pss_one (ps_if (pt_cmp (pc_dnotin hu (pv 10) (pv 7))) (pss_cons (ps_dput hu (pv 7) (pv 10) pe_bl rfl)
              (pss_one (ps_expr (pe_bm PySem.F.plainAttrs_list PySem.F.slot_list_append PySem.F.type_list_append mt_append (pv 6) (pa_cons (pv 10) pa_nil))))) pss_nil)))))
        (pss_one (ps_aug (i := 8) scMet.nd rfl (.inl rfl) pe_int ip_add))))
      (pss_one (ps_ret (pv 6)))))))), ?_⟩
    refine ⟨_, rfl, g_tup hv rfl ⟨_, _, rfl, _, _, rfl, _, _, rfl, _, _, rfl, _, _, rfl, rfl, ?_⟩⟩
    refine q_asgO (eo_L (el_lst (ea_cons (ev_var rfl) ea_nil) (by simp))) fun L H1 hL e1 h1L => ?_
    refine q_asgO (eo_disp1 (k := Sum.inl (T.gap : Int)) (ev_var rfl) ev_c) fun D H2 hD e2 h2D => ?_
    have m2 : Met H H2 L D [T.gap] := ⟨e1.trans e2, hL, fresh_back e1 hD, e2 _ _ h1L, h2D⟩
    refine q_cut (M := fun σ' H' => σ' = [some v, some (nV T.tie), some (nV T.gap), some r, some t, some a, some (.ref L), some (.ref D), none, none, none] ∧ Met H H' L D (start id T)) ?_ ?_
    · by_cases hq : T.tie = T.gap
      · refine s_when (b := false) (et_test (ev_op (ev_var rfl) (ev_var rfl) (rv_neN hq))) (fun z => by cases z) fun _ H3 e3 => ⟨rfl, ?_⟩
        have es : start id T = [T.gap] := by unfold start; rw [push_id, hq, if_pos (List.mem_singleton.mpr rfl)]
        rw [es]
        exact m2.mono e3
      · refine s_when (b := true) (et_test (ev_op (ev_var rfl) (ev_var rfl) (rv_neN' hq))) (fun _ H3 e3 => ?_) (fun z => by cases z)
        have m3 := m2.mono e3
        have nm : T.tie ∉ [T.gap] := fun z => hq (List.mem_singleton.mp z)
        have es : start id T = [T.gap] ++ [T.tie] := by unfold start; rw [push_id, if_neg nm]
        refine q_app m3.hL (ev_var rfl) (ev_var rfl) (by simp) fun H4 e4 => ?_
        have m4 := m3.mono e4
        refine s_dput (kvs := kd [T.gap]) (k := Sum.inl (T.tie : Int)) (v := .bl true) ev_c (ev_var rfl) (ev_var rfl) (by rw [upd_ne m4.ne.symm]; exact m4.hD) (by show 1 < sizeLine; decide) fun H5 e5 => ⟨rfl, ?_⟩
        rw [es, kd_put nm]
        have m5 := m4.push nm
        refine ⟨fun b u hb => ?_, m4.nL, m4.nD, ?_, upd_same⟩
        · rw [upd_ne (ne_of_none hb m4.nD)]
          refine e5 _ _ ?_
          rw [upd_ne (ne_of_none hb m4.nL)]
          exact m4.ex _ _ hb
        · rw [upd_ne m4.ne]
          exact e5 _ _ (by rw [upd_same, List.map_append]; rfl)
    rintro σ' H3 ⟨rfl, m3⟩
    refine q_asg ev_c fun H4 e4 => ?_
    have m4 := m3.mono e4
    clear m2 m3
    -- the loop
    refine q_while (fun m σ' H' => ∃ (o : List Nat) (kk f : Nat) (y z : Option V), m = T.n + 1 - kk ∧ σ' = [some v, some (nV T.tie), some (nV T.gap), some r, some t, some a, some (.ref L), some (.ref D), some (nV kk), y, z] ∧ Met H H' L D o ∧
      Dist id o ∧ (∀ x ∈ o, Rch T x) ∧ kk ≤ o.length ∧ T.n ≤ f + kk ∧ bfs id (four T) f o kk = ordOf id T) (T.n + 1) ⟨start id T, 0, T.n, none, none, rfl, rfl, m4, start_dist, start_rch, Nat.zero_le _, by omega, rfl⟩ ?_
    rintro m σ' H5 ⟨o, kk, fu, y, z, rfl, rfl, m5, dist, hrch, hk, hf, hb⟩
    have hle := rch_bound ok id o dist hrch
    have hlt0 : (o.map nV).length = o.length := List.length_map _
    refine ⟨decide ((kk : Int) < ((o.map nV).length : Int)), et_test (ev_op (ev_var rfl) (ev_lenS (ev_var rfl) (Sq.l m5.hL)) rv_I0), fun hc H6 e6 => ?_, fun hc H6 e6 => ?_⟩
    · have hlt : kk < o.length := by have := of_decide_eq_true hc; omega
      have m6 := m5.mono e6
      refine ⟨fun σ2 H2 => ∃ (o2 : List Nat) (y z : Option V), σ2 = [some v, some (nV T.tie), some (nV T.gap), some r, some t, some a, some (.ref L), some (.ref D), some (nV (kk + 1)), y, z] ∧ Met H H2 L D o2 ∧ o2 = turn id (four T) o kk, ?_, ?_⟩
      · rintro σ2 H2' ⟨o2, y2, z2, rfl, mm, rfl⟩
        cases fu with
        | zero => omega
        | succ fu =>
          have hb2 : bfs id (four T) fu (turn id (four T) o kk) (kk + 1) = ordOf id T := by rw [← hb]; show _ = (if kk < o.length then _ else o); rw [if_pos hlt]
          refine ⟨T.n + 1 - (kk + 1), by omega, _, kk + 1, fu, y2, z2, rfl, rfl, mm, turn_dist dist _, turn_all hlt hrch (fun a b ha hb => four_rch ha hb), ?_, by omega, hb2⟩
          exact Nat.le_trans hlt (turn_prefix (κ := id) (F := four T) o kk).length_le
      · -- for one in order[:at + 1]
        have hzz : o[kk]? = some (o.getD kk default) := by rw [List.getD_eq_getElem?_getD, List.getElem?_eq_getElem hlt]; rfl
        generalize hzd : o.getD kk default = zz at hzz
        have ev1 : EvL (tSl (rSlL K) (tVar 6) tNoPart (tPart (tOp (rI0 fun i j => .int (i + j)) (tVar 8) (tC (.int 1))))) [some v, some (nV T.tie), some (nV T.gap), some r, some t, some a, some (.ref L), some (.ref D), some (nV kk), y, z] H6 ((o.take (kk + 1)).map nV) := by
          rw [List.map_take, ← cut_take]
          exact el_sl (ev_var rfl) eo_none (eo_some (ev_op (ev_var rfl) ev_c rv_I0)) (SqL.of m6.hL)
        refine q_forM (M := [L, D]) (overM_listN ev1 m6.there) yAt_ex (fun H1 i σ' H' => ExB [L, D] H1 H' ∧ ∃ (o2 : List Nat) (y z : Option V), σ' = [some v, some (nV T.tie), some (nV T.gap), some r, some t, some a, some (.ref L), some (.ref D), some (nV kk), y, z] ∧ Met H H' L D o2 ∧
          o2 = ((o.take (kk + 1)).take i).foldl (fun o' i => (four T i zz).foldl (push id) o') o) (fun H7 e7 => ⟨ExB.refl _, o, y, z, rfl, m6.mono e7, rfl⟩) (fun H1 i σ' H' p => p.1) ?_ ?_
        · rintro H7 e7 i x σ' H8 H9 hi ⟨x8, o2, y2, z2, rfl, m8, ho2⟩ hy e9
          obtain ⟨rfl, hx⟩ := hy
          rw [List.getElem?_map] at hx
          obtain ⟨q, hq, rfl⟩ := Option.map_eq_some_iff.mp hx
          have qo : q ∈ o := List.mem_of_mem_take (List.mem_of_getElem? hq)
          have pre : o <+: o2 := by rw [ho2]; exact folds_prefix _ _ o
          have ev2 : EvU (tCall (spRes K) [] E0 (tCons (tVar 3) (tCons (tVar 4) (tCons (tVar 9) (tCons (tOp (rIxL K) (tVar 6) (tVar 8)) tNil))))) [some v, some (nV T.tie), some (nV T.gap), some r, some t, some a, some (.ref L), some (.ref D), some (nV kk), some (nV q), z2] H9 ((four T q zz).map nV) := by
            intro H10 e10 Q' k'
            refine ea_cons (ev_var rfl) (ea_cons (ev_var rfl) (ea_cons (ev_var rfl) (ea_cons (ev_op (ev_var rfl) (ev_var rfl) (rv_ixL (SqL.of m8.hL) (atI_nat (nV_get (prefix_get' pre hzz))))) ea_nil))) H10 e10 _ fun H11 e11 => ?_
            refine ⟨r, t, T.n, T.rows, T.sides, q, zz, rfl, h1.mono ((m8.ex.trans e10).trans e11), h2.mono ((m8.ex.trans e10).trans e11), ok.rows, ok.sides, (hrch q qo).lt ok, (hrch zz (List.mem_of_getElem? hzz)).lt ok, fun p H12 hp e12 h12 => ?_⟩
            exact k' p H12 (fresh_back e11 hp) (e11.trans e12) h12
          refine s_forM (M := [L, D]) (overM_tupN ev2 m8.there) yAt_ex (fun H1 i σ' H' => ExB [L, D] H1 H' ∧ ∃ (o3 : List Nat) (z : Option V), σ' = [some v, some (nV T.tie), some (nV T.gap), some r, some t, some a, some (.ref L), some (.ref D), some (nV kk), some (nV q), z] ∧ Met H H' L D o3 ∧
            o3 = ((four T q zz).take i).foldl (push id) o2) (fun H10 e10 => ⟨ExB.refl _, o2, z2, rfl, m8.mono e10, rfl⟩) (fun H1 i σ' H' p => p.1) ?_ ?_
          · rintro H10 e10 j x σ' H11 H12 hj ⟨x11, o3, z3, rfl, m11, ho3⟩ hy e12
            obtain ⟨rfl, hx⟩ := hy
            rw [List.getElem?_map] at hx
            obtain ⟨w, hw, rfl⟩ := Option.map_eq_some_iff.mp hx
            have step : ((four T q zz).take (j + 1)).foldl (push id) o2 = push id o3 w := by
              rw [List.take_add_one, hw, List.foldl_append, ← ho3]; rfl
            have l3 : o3.length ≤ T.n := by
              refine rch_bound ok id o3 ?_ ?_
              · rw [ho3, ho2]; exact pushes_dist _ (folds_dist _ _ dist)
              · rw [ho3, ho2]
                refine pushes_all _ (folds_all _ _ hrch fun a ha => four_rch (hrch a ?_) (hrch zz (List.mem_of_getElem? hzz))) (fun a ha => four_rch (hrch q qo) (hrch zz (List.mem_of_getElem? hzz)) a (List.mem_of_mem_take ha))
                exact List.mem_of_mem_take (List.mem_of_mem_take ha)
            refine s_when (b := decide (w ∉ o3)) (et_dnot (o := valV (kd o3) (Sum.inl (w : Int))) (ev_var rfl) (ev_var rfl) (dget_k m11.hD) (by rw [kd_isSome]; simp)) (fun hc H13 e13 => ?_) (fun hc H13 e13 => ?_)
            · have nm : w ∉ o3 := of_decide_eq_true hc
              have m13 := m11.mono e13
              refine q_dput (kvs := kd o3) (k := Sum.inl (w : Int)) (v := .bl true) ev_c (ev_var rfl) (ev_var rfl) m13.hD (by unfold kd; rw [List.length_map]; exact Nat.lt_of_le_of_lt (Nat.le_trans l3 hn) (by decide)) fun H14 e14 => ?_
              rw [kd_put nm]
              have hL14 : (upd H14 D (.dK (kd (o3 ++ [w])))) L = some (.lst (o3.map nV)) := by rw [upd_ne m13.ne]; exact e14 _ _ m13.hL
              refine s_app hL14 (ev_var rfl) (ev_var rfl) (by rw [List.length_map]; omega) fun H15 e15 => ⟨?_, o3 ++ [w], some (nV w), rfl, ?_, by rw [step, push_id, if_neg nm]⟩
              · refine ExB.upd ?_ List.mem_cons_self
                refine (ExB.trans (x11.trans (ExB.of e13)) ?_).trans (ExB.of e15)
                exact (ExB.of e14).upd (List.mem_cons_of_mem _ List.mem_cons_self)
              · refine ⟨fun b u hb => ?_, m13.nL, m13.nD, by rw [upd_same, List.map_append]; rfl, by rw [upd_ne m13.ne.symm]; exact e15 _ _ upd_same⟩
                rw [upd_ne (ne_of_none hb m13.nL)]
                refine e15 _ _ ?_
                rw [upd_ne (ne_of_none hb m13.nD)]
                exact e14 _ _ (m13.ex _ _ hb)
            · have im : w ∈ o3 := by have := of_decide_eq_false hc; exact Decidable.of_not_not this
              exact ⟨x11.trans (ExB.of e13), o3, some (nV w), rfl, m11.mono e13, by rw [step, push_id, if_pos im]⟩
          · rintro H10 e10 σ' H11 ⟨x11, o3, z3, rfl, m11, ho3⟩
            refine ⟨(x8.trans (ExB.of e10)).trans x11, o3, some (nV q), z3, rfl, m11, ?_⟩
            rw [List.length_map, List.take_length] at ho3
            rw [ho3, ho2]
            have : (o.take (kk + 1)).take (i + 1) = (o.take (kk + 1)).take i ++ [q] := by rw [List.take_add_one, hq]; rfl
            rw [this, List.foldl_append]; rfl
        · rintro H7 e7 σ' H8 ⟨x8, o2, y2, z2, rfl, m8, ho2⟩
          refine s_aug rfl ev_c fun H9 e9 => ⟨o2, y2, z2, ?_, m8.mono e9, ?_⟩
          · have : ((kk : Int) + 1) = ((kk + 1 : Nat) : Int) := by omega
            show ([some v, some (nV T.tie), some (nV T.gap), some r, some t, some a, some (.ref L), some (.ref D), some (V.int ((kk : Int) + 1)), y2, z2] : L2.St) = _
            rw [this]
          · rw [List.length_map] at ho2
            rw [ho2, List.take_length]
            unfold turn
            rw [hzd]
    · have hge : ¬ kk < o.length := by have := of_decide_eq_false hc; omega
      have m6 := m5.mono e6
      have eo : o = ordOf id T := by
        rw [← hb]
        cases fu with
        | zero => rfl
        | succ fu => show o = if kk < o.length then _ else o; rw [if_neg hge]
      exact s_ret (ev_var rfl) fun H7 e7 => k L H7 m6.nL (m6.ex.trans e7) (by rw [← eo]; exact e7 _ _ m6.hL)
end
end K46
set_option Elab.async false
set_option linter.all false
set_option autoImplicit false
set_option maxRecDepth 100000
namespace K46
open PySem PySem.Spec PyProof.Rows L2 Evl
set_option maxHeartbeats 4000000
section
variable {K : PySem.W.Frag} {σ : L2.St} {H H' Hb : Hp} {ta tb tc te tk tv : TE} {v x y z : V} {D : Ends} {tz : TS}
/-- {k: v for ..}, the keys different: a new dict of them -/
theorem eo_dc {κ : Nat → Key} {val : Nat → V} {wi : TI} {g : TG} {n : Nat} {Y : Nat → Hp → V → Hp → Prop} {vs : List Nat} (hO : Over wi σ H n Y) (hn : n ≤ 40000) (hκ : ∀ i j, i < n → j < n → κ i = κ j → i = j) (hY : ∀ i H x H', Y i H x H' → Ex H H')
    (he : ∀ i x H1 H2, i < n → Ex H H1 → Y i H1 x H2 → ∃ σ2, wipe σ2 vs = wipe σ vs ∧ (∀ Qs : L2.St → Hp → Prop, Qs σ2 H2 → g x (wipe σ vs) H2 Qs) ∧ Ev tk σ2 H2 (kV (κ i)) ∧ Ev tv σ2 H2 (val i)) :
    EvO (tDc wi g tYes tk tv vs) σ H (.dK ((List.range n).map fun i => (κ i, val i))) := by
  intro H1 e1 Q q
  refine hO H1 e1 _ fun J H2 G F e2 hF w hG' D hD => ?_
  have hG : ∀ H3, Ex H2 H3 → G H3 := fun H3 e3 => hG' H3 ((e1.trans e2).trans e3) fun p hp => by
    obtain ⟨_, o, ho⟩ := hF p hp
    rw [ho]; exact e3 _ _ ho
  have new : ∀ i, i < n → valV ((List.range i).map fun j => (κ j, val j)) (κ i) = none := fun i hi => by
    unfold valV
    rw [List.find?_eq_none.mpr]
    · rfl
    · intro p hp
      obtain ⟨j, hj, rfl⟩ := List.mem_map.mp hp
      have := List.mem_range.mp hj
      intro q
      have := hκ j i (by omega) hi (of_decide_eq_true q)
      omega
  refine ⟨fun i m H' => m = n - i ∧ i ≤ n ∧ Ex H2 H' ∧ H' D = some (.dK ((List.range i).map fun j => (κ j, val j))), ⟨n, by simp, Nat.zero_le _, Ex.new hD, upd_same⟩, ?_⟩
  rintro i m H' ⟨rfl, hi, e', hd⟩
  have g' := hG H' e'
  by_cases hlt : i < n
  · refine .inr ⟨w.goes i H' hlt g', fun H'' => i + 1 ≤ n ∧ Ex H2 H'' ∧ H'' D = some (.dK ((List.range (i + 1)).map fun j => (κ j, val j))), fun H'' p => ⟨n - (i + 1), by omega, rfl, p⟩, fun x H'' y => ?_⟩
    have y' := w.yields i H' x H'' hlt g' y
    have ey := hY _ _ _ _ y'
    obtain ⟨σ2, hw, hg, h1, h2⟩ := he i x H' H'' hlt ((e1.trans e2).trans e') y'
    refine hg _ ⟨hw, ?_⟩
    show tk σ2 H'' _
    refine h1 H'' (Ex.refl _) _ fun H4 e4 => h2 H4 e4 _ fun H5 e5 => ⟨_, κ i, rfl, e5 _ _ (e4 _ _ (ey _ _ hd)), by rw [List.length_map, List.length_range]; exact sz_lt (by omega), hlt, fun a u ha => ?_, ?_⟩
    · rw [upd_ne (ne_of_none ha hD)]
      exact e5 _ _ (e4 _ _ (ey _ _ (e' _ _ ha)))
    · rw [upd_same, putK_new _ (new i hlt), List.range_succ, List.map_append]; rfl
  · have ei : i = n := by omega
    subst ei
    exact .inl ⟨w.stops H' g', q D H' (fresh_back e2 hD) (e2.trans e') hd⟩
theorem valV_range {κ : Nat → Key} {val : Nat → V} {n j : Nat} (hκ : ∀ i j, i < n → j < n → κ i = κ j → i = j) (hj : j < n) : valV ((List.range n).map fun i => (κ i, val i)) (κ j) = some (val j) := by
  unfold valV
  have e : ((List.range n).map fun i => (κ i, val i)).find? (fun kv => decide (kv.1 = κ j)) = some (κ j, val j) := by
    rw [List.find?_map]
    have : (List.range n).find? ((fun kv : Key × V => decide (kv.1 = κ j)) ∘ fun i => (κ i, val i)) = some j := by
      rw [List.find?_eq_some_iff_getElem]
      refine ⟨by simp, j, by simpa using hj, by simp, fun k hk => ?_⟩
      simp only [List.getElem_range, Function.comp, Bool.not_eq_true', decide_eq_false_iff_not]
      intro q
      have := hκ k j (by omega) hj q
      omega
    rw [this]; rfl
  rw [e]; rfl
theorem valV_rangeN {κ : Nat → Key} {val : Nat → V} {n : Nat} {k : Key} (h : ∀ i, i < n → κ i ≠ k) : valV ((List.range n).map fun i => (κ i, val i)) k = none := by
  unfold valV
  rw [List.find?_eq_none.mpr]
  · rfl
  · intro p hp
    obtain ⟨j, hj, rfl⟩ := List.mem_map.mp hp
    intro q
    exact h j (List.mem_range.mp hj) (of_decide_eq_true q)
/-- which turns give, over a list -/
theorem given_xs {α : Type} {xs : List α} {f : Nat → Bool} {val : Nat → V} (p : α → Bool) (w : α → V) (hf : ∀ (i : Nat) (x : α), xs[i]? = some x → f i = p x) (hv : ∀ (i : Nat) (x : α), xs[i]? = some x → val i = w x) :
    given xs.length f val = (xs.filter p).map w := by
  have key : ∀ n, n ≤ xs.length → given n f val = ((xs.take n).filter p).map w := by
    intro n
    induction n with
    | zero => intro _; rfl
    | succ n ih =>
      intro hn
      have hx : xs[n]? = some xs[n] := List.getElem?_eq_getElem (by omega)
      have et : xs.take (n + 1) = xs.take n ++ [xs[n]] := by rw [List.take_add_one, hx]; rfl
      rw [et, List.filter_append, List.map_append, ← ih (by omega)]
      cases hp : p xs[n] with
      | true => rw [given_yes ((hf n _ hx).trans hp), hv n _ hx, List.filter_cons_of_pos hp]; rfl
      | false => rw [given_no ((hf n _ hx).trans hp), List.filter_cons_of_neg (by rw [hp]; decide)]; simp
  rw [key _ (Nat.le_refl _), List.take_length]
/-- sorted(xs) of a new list of numbers -/
theorem el_sortedN {xs : List Nat} {ys : List Nat} (h : EvL te σ H (xs.map nV)) (hp : ys.Perm xs) (hs : ys.Pairwise (· ≤ ·)) : EvL (tCB (rSortedI K) (tCons te tNil)) σ H (ys.map nV) := fun H1 e Q q =>
  h H1 e _ fun p H2 hp2 e2 h2 => ⟨p, xs.map fun (n : Nat) => (n : Int), rfl, sq_of (by rw [h2, List.map_map]; rfl), fun ns' l hpm hpw hl => by
    have e3 : ns' = ys.map fun (n : Nat) => (n : Int) := PySem.W.ksm_same (hpm.trans (hp.map _).symm) hpw (List.pairwise_map.mpr (hs.imp fun h => by omega))
    subst e3
    rw [List.map_map]
    exact q l _ (fresh_back e2 hl) (e2.trans (Ex.new hl)) upd_same⟩
/-- tuple([.. new tuples ..]) -/
theorem ep_tupRows {m : Nat → List Nat} {n : Nat} (h : ∀ H1, Ex H H1 → ∀ Q : VK, (∀ D H2 (ps : List Addr), H1 D = none → Ex H1 H2 → H2 D = some (.lst (ps.map V.ref)) → ps.length = n → (∀ i p, ps[i]? = some p → H1 p = none ∧ H2 p = some (.tup ((m i).map nV))) → Q (.ref D) H2) → te σ H1 Q) :
    EvP (tCB (rTup K) (tCons te tNil)) σ H (fun v H' => MatT H' v ((List.range n).map m)) := fun H1 e Q q =>
  h H1 e _ fun D H2 ps hD e2 hDl hl hps => ⟨D, _, rfl, .inl ⟨sq_of hDl, fun l hl2 => q _ _ (e2.trans (Ex.new hl2)) ⟨ps.map V.ref, ⟨l, rfl, upd_same⟩, paired_of (by rw [List.length_map, List.length_map, List.length_range, hl]) fun i a b h1 h2 => by
    rw [List.getElem?_map] at h1 h2
    obtain ⟨p, hp, rfl⟩ := Option.map_eq_some_iff.mp h1
    obtain ⟨j, hj, rfl⟩ := Option.map_eq_some_iff.mp h2
    have hi : i < n := by rw [← hl]; exact (List.getElem?_eq_some_iff.mp hp).1
    rw [List.getElem?_range hi] at hj
    cases hj
    exact ⟨p, rfl, by rw [upd_ne (ne_of_none (hps i p hp).2 hl2)]; exact (hps i p hp).2⟩⟩⟩⟩
theorem ev_lenL {a : Addr} {xs : List V} (ha : Ev ta σ H (.ref a)) (h : H a = some (.lst xs)) : Ev (tCB (rLen K) (tCons ta tNil)) σ H (nV xs.length) := ev_lenS ha (Sq.l h)
end
theorem nodup_idx {o : List Nat} (h : o.Nodup) {i x : Nat} (e : o[i]? = some x) : o.idxOf x = i := by
  have d : Dist id o := by unfold Dist; rw [List.map_id]; exact h
  have := idx_of d e rfl (x := x)
  unfold idx at this
  rwa [List.map_id] at this
theorem idx_id (o : List Nat) (x : Nat) : idx id o x = o.idxOf x := by unfold idx; rw [List.map_id]; rfl
/-- the accepted ones, by their new numbers -/
theorem acc_perm {T : Tb} {o : List Nat} (hacc : T.acc.Nodup) (ho : o.Nodup) : ((List.range o.length).filter fun i => decide (o.getD i 0 ∈ T.acc)).Perm ((T.acc.filter fun x => decide (x ∈ o)).map fun x => o.idxOf x) := by
  refine (List.perm_ext_iff_of_nodup (List.Pairwise.filter _ List.nodup_range) ?_).mpr fun i => ?_
  · refine List.pairwise_map.mpr ((List.Pairwise.filter _ hacc).imp_of_mem fun {a b} ha hb hne e => hne ?_)
    have ha' : a ∈ o := of_decide_eq_true (List.mem_filter.mp ha).2
    have hb' : b ∈ o := of_decide_eq_true (List.mem_filter.mp hb).2
    have h1 := List.getElem_idxOf (List.idxOf_lt_length_of_mem ha')
    have h2 := List.getElem_idxOf (List.idxOf_lt_length_of_mem hb')
    rw [← h1, ← h2]
    congr 1
  · rw [List.mem_filter, List.mem_range, List.mem_map]
    constructor
    · rintro ⟨hi, hd⟩
      have e : o.getD i 0 = o[i] := by rw [List.getD_eq_getElem?_getD, List.getElem?_eq_getElem hi]; rfl
      have hd' := of_decide_eq_true hd
      rw [e] at hd'
      exact ⟨o[i], List.mem_filter.mpr ⟨hd', decide_eq_true (List.getElem_mem hi)⟩, nodup_idx ho (List.getElem?_eq_getElem hi)⟩
    · rintro ⟨x, hx, rfl⟩
      have hx' := List.mem_filter.mp hx
      have hm : x ∈ o := of_decide_eq_true hx'.2
      have hl := List.idxOf_lt_length_of_mem hm
      refine ⟨hl, decide_eq_true ?_⟩
      rw [List.getD_eq_getElem?_getD, List.getElem?_eq_getElem hl, List.getElem_idxOf hl]
      exact hx'.1
end K46
set_option Elab.async false
set_option linter.all false
set_option autoImplicit false
set_option maxRecDepth 100000
namespace K46
open PySem PySem.Spec PyProof.Rows L2 Evl
set_option maxHeartbeats 4000000
/-- the new numbers of the states of o -/
def nums (o : List Nat) : List (Key × V) := (List.range o.length).map fun i => ((Sum.inl ((o.getD i 0 : Nat) : Int) : Key), nV i)
theorem nums_inj {o : List Nat} (h : o.Nodup) : ∀ i j, i < o.length → j < o.length → (Sum.inl ((o.getD i 0 : Nat) : Int) : Key) = Sum.inl ((o.getD j 0 : Nat) : Int) → i = j := fun i j hi hj e => by
  have e' : o.getD i 0 = o.getD j 0 := by have := Sum.inl.inj e; omega
  rw [List.getD_eq_getElem?_getD, List.getD_eq_getElem?_getD, List.getElem?_eq_getElem hi, List.getElem?_eq_getElem hj, Option.getD_some, Option.getD_some] at e'
  rw [← nodup_idx h (List.getElem?_eq_getElem hi), ← nodup_idx h (List.getElem?_eq_getElem hj), e']
theorem nums_val {o : List Nat} (h : o.Nodup) {x : Nat} (m : x ∈ o) : valV (nums o) (Sum.inl (x : Int)) = some (nV (o.idxOf x)) := by
  have hl := List.idxOf_lt_length_of_mem m
  have e : o.getD (o.idxOf x) 0 = x := by rw [List.getD_eq_getElem?_getD, List.getElem?_eq_getElem hl, Option.getD_some, List.getElem_idxOf hl]
  have := valV_range (κ := fun i => (Sum.inl ((o.getD i 0 : Nat) : Int) : Key)) (val := fun i => nV i) (nums_inj h) hl
  rw [e] at this
  exact this
theorem nums_none {o : List Nat} {x : Nat} (m : x ∉ o) : valV (nums o) (Sum.inl (x : Int)) = none := by
  refine valV_rangeN fun i hi e => m ?_
  have e' : o.getD i 0 = x := by have := Sum.inl.inj e; omega
  rw [List.getD_eq_getElem?_getD, List.getElem?_eq_getElem hi, Option.getD_some] at e'
  rw [← e']; exact List.getElem_mem hi
theorem nums_some {o : List Nat} (h : o.Nodup) (x : Nat) : (valV (nums o) (Sum.inl (x : Int))).isSome = decide (x ∈ o) := by
  by_cases m : x ∈ o
  · rw [nums_val h m, decide_eq_true m]; rfl
  · rw [nums_none m, decide_eq_false m]; rfl
section
variable {P : Program} {w : World} {K : PySem.W.Frag} {mg : Str → Option Value} {base : Heap}
abbrev sRen : Stmt := top 29
def spRen (K : PySem.W.Frag) : Sp := fun vs H Q _ => ∃ (v : V) (L : Addr) (T : Tb), vs = [v, .ref L] ∧ PartsAt K H v T ∧ T.Ok ∧ T.n ≤ 400 ∧ H L = some (.lst ((ordOf id T).map nV)) ∧ ∀ u H', Ex H H' → PartsT H' u (least id T) → Q u H'
abbrev nRen : List Str := ["parts", "order", "tie", "gap", "rows", "sides", "accepted", "numbers", "new_rows", "new_sides", "kept", "number", "state", "one", "other"]
theorem scRen : FnScope nRen ["parts", "order"] (defScope sRen) := ⟨rfl, rfl, rfl, by decide +kernel, rfl, by decide +kernel, by decide +kernel⟩
abbrev tRenC (K : PySem.W.Frag) (j : Nat) : TE := tDGet (tVar 7) (tOp (rIx K) (tOp (rIx K) (tVar j) (tVar 13)) (tVar 14))
abbrev tRenR (K : PySem.W.Frag) (j : Nat) : TE := tCB (rTup K) (tCons (tLc (iSeq K (tVar 1)) (gName 14) tYes (tRenC K j) [14]) tNil)
/-- tuple([tuple([numbers[m[one][other]] for other in order]) for one in order]) -/
theorem ep_renum {H : Hp} {L D : Addr} {T : Tb} {m : List (List Nat)} {v x0 x2 x3 x4 x5 x6 : V} {x8 x9 x10 : Option V} {j : Nat} (hL : H L = some (.lst ((ordOf id T).map nV))) (hD : H D = some (.dK (nums (ordOf id T)))) (hm : Mat K H v m) (sq : Square T.n m) (ok : T.Ok) (hn : T.n ≤ 400) (r : Bool) (em : cell m = op T r)
    (hj : ∀ y z : Option V, ([some x0, some (.ref L), some x2, some x3, some x4, some x5, some x6, some (.ref D), x8, x9, x10, none, none, y, z] : L2.St)[j]? = some (some v)) :
    EvP (tCB (rTup K) (tCons (tLc (iSeq K (tVar 1)) (gName 13) tYes (tCB (rTup K) (tCons (tLc (iSeq K (tVar 1)) (gName 14) tYes (tDGet (tVar 7) (tOp (rIx K) (tOp (rIx K) (tVar j) (tVar 13)) (tVar 14))) [14]) tNil)) [13]) tNil))
      [some x0, some (.ref L), some x2, some x3, some x4, some x5, some x6, some (.ref D), x8, x9, x10, none, none, none, none] H (fun u H' => MatT H' u ((ordOf id T).map fun a => (ordOf id T).map fun b => idx id (ordOf id T) (op T r a b))) := by
  have nd := dist_nodup (ord_dist (T := T) id)
  have key : (ordOf id T).map (fun a => (ordOf id T).map fun b => idx id (ordOf id T) (op T r a b)) = (List.range (ordOf id T).length).map fun i => (ordOf id T).map fun b => idx id (ordOf id T) (op T r ((ordOf id T).getD i 0) b) :=
    (map_range_get _ _ fun i x hx => by rw [List.getD_eq_getElem?_getD, hx]; rfl).symm
  rw [key]
  have hle := ord_le ok id
  refine ep_tupRows (n := (ordOf id T).length) fun H1 e1 Q q => ?_
  refine elo_lc (o := fun i => .tup (((ordOf id T).map fun b => idx id (ordOf id T) (op T r ((ordOf id T).getD i 0) b)).map nV)) (over_seq (ev_var rfl) (Sq.l hL)).over (by rw [List.length_map]; omega) yAt_ex (fun i x H2 H3 hi e2 hy => ?_) H1 e1 Q (fun D' H4 ps h1 h2 h3 h4 h5 => q D' H4 ps h1 h2 h3 (by rw [h4, List.length_map]) h5)
  obtain ⟨rfl, hx⟩ := hy
  rw [List.getElem?_map] at hx
  obtain ⟨a, ha, rfl⟩ := Option.map_eq_some_iff.mp hx
  have ea : (ordOf id T).getD i 0 = a := by rw [List.getD_eq_getElem?_getD, ha]; rfl
  have ma := List.mem_of_getElem? ha
  refine ⟨[some x0, some (.ref L), some x2, some x3, some x4, some x5, some x6, some (.ref D), x8, x9, x10, none, none, some (nV a), none], rfl, fun Qs h => h, ?_⟩
  refine eo_U (eu_tupL ?_)
  rw [ea, ← map_range_get (xs := (ordOf id T)) (fun b => idx id (ordOf id T) (op T r a b)) (fun i => idx id (ordOf id T) (op T r a ((ordOf id T).getD i 0))) (fun i x hx => by rw [List.getD_eq_getElem?_getD, hx]; rfl), List.map_map]
  have e := elv_lc (te := tDGet (tVar 7) (tOp (rIx K) (tOp (rIx K) (tVar j) (tVar 13)) (tVar 14))) (vs := [14]) (g := gName 14) (tt := tYes) (fun _ => true) (fun i => nV (idx id (ordOf id T) (op T r a ((ordOf id T).getD i 0))))
    (over_seq (K := K) (tl := tVar 1) (σ := [some x0, some (.ref L), some x2, some x3, some x4, some x5, some x6, some (.ref D), x8, x9, x10, none, none, some (nV a), none]) (ev_var rfl) (Sq.l (e2 _ _ hL))).over (by rw [List.length_map]; omega) yAt_ex (fun k y H4 H5 hk e4 hy => ?_)
  · rw [given_all, List.length_map] at e
    exact e
  obtain ⟨rfl, hy⟩ := hy
  rw [List.getElem?_map] at hy
  obtain ⟨b, hb, rfl⟩ := Option.map_eq_some_iff.mp hy
  have eb : (ordOf id T).getD k 0 = b := by rw [List.getD_eq_getElem?_getD, hb]; rfl
  have mb := List.mem_of_getElem? hb
  refine ⟨[some x0, some (.ref L), some x2, some x3, some x4, some x5, some x6, some (.ref D), x8, x9, x10, none, none, some (nV a), some (nV b)], rfl, fun Qs h => h, fun H6 _ Q q => q H6 (Ex.refl _), fun _ => ?_⟩
  have e24 := e2.trans e4
  refine ev_dget (ev_var rfl) (ev_cell (ev_var (hj _ _)) (ev_var rfl) (ev_var rfl) (hm.mono e24) sq ((ord_rch id _ ma).lt ok) ((ord_rch id _ mb).lt ok)) ?_
  rw [em, eb]
  have mop : op T r a b ∈ ordOf id T := by have := ord_op ok id r ma mb; rwa [List.map_id] at this
  have := dget_k (kvs := nums (ordOf id T)) (i := (op T r a b : Nat)) (e24 _ _ hD)
  rw [nums_val nd mop, ← idx_id] at this
  exact this
theorem ok_ren (B : Free mg) (F : FnG K "renumbered_parts" sRen) (hm : mg "renumbered_parts" = some (.ref (He.ga K "renumbered_parts"))) : Pr P w K mg base 1 "renumbered_parts" ["parts", "order"] (spRen K) := by
  refine pr_mk F hm scRen (fun _ _ _ _ _ _ us hl => match us, hl with | [_, _], _ => rfl) (fun vs H Q E h => ?_) (fun f cdv A outer s H vs Q E hr h => ?_)
  · obtain ⟨v, L, T, rfl, _⟩ := h
    rfl
  · obtain ⟨v, L, T, rfl, ⟨r, t, a, hv, h1, h2, h3⟩, ok, hn, hL, k⟩ := h
    have hu := hu_of hr
    refine ⟨_, pss_cons (ps_asg (pv 0) (pg_tup rfl (pgs_cons (pg_name (i := 2) scRen.nd rfl (Or.inl rfl)) (pgs_cons (pg_name (i := 3) scRen.nd rfl (Or.inl rfl)) (pgs_cons (pg_name (i := 4) scRen.nd rfl (Or.inr rfl))
      (pgs_cons (pg_name (i := 5) scRen.nd rfl (Or.inr rfl)) (pgs_cons (pg_name (i := 6) scRen.nd rfl (Or.inl rfl)) pgs_nil)))))))
      (pss_cons (ps_set (i := 7) scRen.nd rfl (Or.inr rfl) (pe_dc (own := [("number", 11), ("state", 12)]) (g := gTup K 2 (gCons (gName 11) (gCons (gName 12) gNil))) (tt := tYes) rfl scRen.nd (pi_enum (by rfl) B.enumerate (pa_cons (pv 1) pa_nil)) (blkOk_by (by kernel_rfl))
          (fun _ _ _ _ _ => pg_tup rfl (pgs_cons (pg_name (i := 11) scRen.nd rfl (Or.inl rfl)) (pgs_cons (pg_name (i := 12) scRen.nd rfl (Or.inl rfl)) pgs_nil))) (fun _ _ _ _ _ => pts_nil) (fun _ _ _ _ _ => pv 12) (fun _ _ _ _ _ => pv 11)))
      (pss_cons (ps_set (i := 8) scRen.nd rfl (Or.inl rfl) (pe_callTy call_tuple_of (by rfl) B.tuple b_tuple (pa_cons
        (pe_lc (own := [("one", 13)]) (g := gName 13) (tt := tYes) (te := tRenR K 4) rfl scRen.nd (pi_seq (pv 1)) (blkOk_by (by kernel_rfl)) (fun _ _ _ _ _ => pg_name (i := 13) scRen.nd rfl (Or.inr rfl)) (fun _ _ _ _ _ => pts_nil) (fun _ _ _ _ _ => pe_callTy call_tuple_of (by rfl) B.tuple b_tuple (pa_cons (pe_lc (own := [("other", 14)]) (g := gName 14) (tt := tYes) (te := tRenC K 4) rfl scRen.nd (pi_seq (pv 1)) (blkOk_by (by kernel_rfl)) (fun _ _ _ _ _ => pg_name (i := 14) scRen.nd rfl (Or.inl rfl)) (fun _ _ _ _ _ => pts_nil) (fun _ _ _ _ _ => pe_dget hu (pv 7) (pe_ix ix_seq (pe_ix ix_seq (pv 4) (pv 13) (fun _ _ => rfl)) (pv 14) (fun _ _ => rfl)) (fun _ _ => rfl))) pa_nil))) pa_nil)))
      (pss_cons (ps_set (i := 9) scRen.nd rfl (Or.inl rfl) (pe_callTy call_tuple_of (by rfl) B.tuple b_tuple (pa_cons
        (pe_lc (own := [("one", 13)]) (g := gName 13) (tt := tYes) (te := tRenR K 5) rfl scRen.nd (pi_seq (pv 1)) (blkOk_by (by kernel_rfl)) (fun _ _ _ _ _ => pg_name (i := 13) scRen.nd rfl (Or.inr rfl)) (fun _ _ _ _ _ => pts_nil) (fun _ _ _ _ _ => pe_callTy call_tuple_of (by rfl) B.tuple b_tuple (pa_cons (pe_lc (own := [("other", 14)]) (g := gName 14) (tt := tYes) (te := tRenC K 5) rfl scRen.nd (pi_seq (pv 1)) (blkOk_by (by kernel_rfl)) (fun _ _ _ _ _ => pg_name (i := 14) scRen.nd rfl (Or.inl rfl)) (fun _ _ _ _ _ => pts_nil) (fun _ _ _ _ _ => pe_dget hu (pv 7) (pe_ix ix_seq (pe_ix ix_seq (pv 5) (pv 13) (fun _ _ => rfl)) (pv 14) (fun _ _ => rfl)) (fun _ _ => rfl))) pa_nil))) pa_nil)))
      (pss_cons (ps_set (i := 10) scRen.nd rfl (Or.inl rfl) (pe_callTy call_tuple_of (by rfl) B.tuple b_tuple (pa_cons (pe_callB cr_sortedI (by rfl) B.sorted b_sorted (pa_cons
        (pe_lc (own := [("state", 12)]) (g := gName 12) rfl scRen.nd (pi_seq (pv 6)) (blkOk_by (by kernel_rfl)) (fun _ _ _ _ _ => pg_name (i := 12) scRen.nd rfl (Or.inl rfl)) (fun _ _ _ _ _ => pts_one (pt_cmp (pc_din hu (pv 12) (pv 7))))
          (fun _ _ _ _ _ => pe_dget hu (pv 7) (pv 12) (fun _ _ => rfl))) pa_nil)) pa_nil)))
      (pss_one (ps_ret (pe_tup (pa_cons (pe_dget hu (pv 7) (pv 2) (fun _ _ => rfl)) (pa_cons (pe_dget hu (pv 7) (pv 3) (fun _ _ => rfl)) (pa_cons (pv 8) (pa_cons (pv 9) (pa_cons (pv 10) pa_nil)))))))))))), ?_⟩
    have nd := dist_nodup (ord_dist (T := T) id)
    have hle := ord_le ok id
    have mt : T.tie ∈ ordOf id T := by have := ord_tie (T := T) id; rwa [List.map_id] at this
    have mg' : T.gap ∈ ordOf id T := List.mem_of_getElem? (ord_gap id)
    refine ⟨_, rfl, g_tup hv rfl ⟨_, _, rfl, _, _, rfl, _, _, rfl, _, _, rfl, _, _, rfl, rfl, ?_⟩⟩
    refine q_asgO (eo_dc (κ := fun i => Sum.inl (((ordOf id T).getD i 0 : Nat) : Int)) (val := fun i => nV i) (over_enum (ea_cons (ev_var rfl) ea_nil) (SqL.of hL)).over (by rw [List.length_map]; omega) (by rw [List.length_map]; exact nums_inj nd) yPair_ex (fun i x H1 H2 hi e1 hy => ?_)) fun D H1 hD e1 h1D => ?_
    · obtain ⟨T', a', b', rfl, hT', rfl, ha', hb'⟩ := hy
      dsimp only at ha' hb'
      cases ha'
      rw [List.getElem?_map] at hb'
      obtain ⟨b, hb, rfl⟩ := Option.map_eq_some_iff.mp hb'
      have eb : (ordOf id T).getD i 0 = b := by rw [List.getD_eq_getElem?_getD, hb]; rfl
      rw [eb]
      exact ⟨[some v, some (.ref L), some (nV T.tie), some (nV T.gap), some r, some t, some a, none, none, none, none, some (nV i), some (nV b), none, none], rfl, fun Qs h => g_two upd_same h, ev_var rfl, ev_var rfl⟩
    rw [List.length_map] at h1D
    have hN : H1 D = some (.dK (nums (ordOf id T))) := h1D
    refine q_asgP (ep_renum (j := 4) (e1 _ _ hL) hN (h1.mono e1) ok.rows ok hn true rfl (fun _ _ => rfl)) fun u1 H2 e2 hu1 => ?_
    have e12 := e1.trans e2
    refine q_asgP (ep_renum (j := 5) (e12 _ _ hL) (e2 _ _ hN) (h2.mono e12) ok.sides ok hn false rfl (fun _ _ => rfl)) fun u2 H3 e3 hu2 => ?_
    have e13 := e12.trans e3
    refine q_asgP (ep_eu (eu_tupL (el_sortedN (xs := (T.acc.filter fun x => decide (x ∈ ordOf id T)).map fun x => (ordOf id T).idxOf x) (ys := (least id T).acc) ?_ (acc_perm (ok.asc.imp fun h => Nat.ne_of_lt h) nd) ((least_ok ok id).asc.imp fun h => Nat.le_of_lt h)))) fun u3 H4 e4 hu3 => ?_
    · have e := elv_lc (te := tDGet (tVar 7) (tVar 12)) (vs := [12]) (g := gName 12) (tt := tB (tDIn (tVar 12) (tVar 7))) (σ := [some v, some (.ref L), some (nV T.tie), some (nV T.gap), some r, some t, some a, some (.ref D), some u1, some u2, none, none, none, none, none]) (H := H3)
        (fun i => decide (T.acc.getD i 0 ∈ ordOf id T)) (fun i => nV ((ordOf id T).idxOf (T.acc.getD i 0))) (over_seq (K := K) (tl := tVar 6) (ev_var rfl) (SqN.mono h3 e13)).over (by rw [List.length_map]; have := nodup_le _ _ (ok.asc.imp fun h => Nat.ne_of_lt h) ok.acc; omega) yAt_ex (fun i x H5 H6 hi e5 hy => ?_)
      · rw [List.length_map, given_xs (fun x => decide (x ∈ ordOf id T)) (fun x => nV ((ordOf id T).idxOf x)) (fun i x hx => by rw [List.getD_eq_getElem?_getD, hx]; rfl) (fun i x hx => by rw [List.getD_eq_getElem?_getD, hx]; rfl)] at e
        rw [List.map_map]
        exact e
      obtain ⟨rfl, hx⟩ := hy
      rw [List.getElem?_map] at hx
      obtain ⟨b, hb, rfl⟩ := Option.map_eq_some_iff.mp hx
      have eb : T.acc.getD i 0 = b := by rw [List.getD_eq_getElem?_getD, hb]; rfl
      rw [eb]
      have e35 := e2.trans (e3.trans e5)
      refine ⟨[some v, some (.ref L), some (nV T.tie), some (nV T.gap), some r, some t, some a, some (.ref D), some u1, some u2, none, none, some (nV b), none, none], rfl, fun Qs h => h, ?_, fun hb2 => ?_⟩
      · exact et_din (ev_var rfl) (ev_var rfl) (dget_k (e35 _ _ hN)) (nums_some nd b)
      · have mb := of_decide_eq_true hb2
        refine ev_dget (ev_var rfl) (ev_var rfl) ?_
        have := dget_k (i := (b : Nat)) (e35 _ _ hN)
        rwa [nums_val nd mb] at this
    have e24 := e2.trans (e3.trans e4)
    have e34 := e3.trans e4
    have gt : ∀ x, x ∈ ordOf id T → ∀ H5, Ex H4 H5 → DGet H5 D (nV x) (some (nV (idx id (ordOf id T) x))) := fun x mx => by
      have := dget_k (i := (x : Nat)) (e24 _ _ hN)
      rwa [nums_val nd mx, ← idx_id] at this
    refine s_retU (eu_tup (ea_cons (ev_dget (ev_var rfl) (ev_var rfl) (gt _ mt)) (ea_cons (ev_dget (ev_var rfl) (ev_var rfl) (gt _ mg')) (ea_cons (ev_var rfl) (ea_cons (ev_var rfl) (ea_cons (ev_var rfl) ea_nil))))) (by simp)) fun p H5 hp e5 h5 => ?_
    obtain ⟨p3, rfl, _, hp3⟩ := hu3
    exact k _ H5 (e13.trans (e4.trans e5)) ⟨u1, u2, .ref p3, ⟨p, rfl, h5⟩, hu1.mono (e34.trans e5), hu2.mono (e4.trans e5), ⟨p3, rfl, e5 _ _ hp3⟩⟩
end
end K46
set_option Elab.async false
set_option linter.all false
set_option autoImplicit false
set_option maxRecDepth 100000
/-! K46R1: rules of one's own: list(d.values()), a dict comprehension for a local name, len(set(..)). -/
namespace K46
open PySem PySem.Spec PyProof.Rows L2 Evl
set_option maxHeartbeats 4000000
section
variable {X : Cx}
/-- list(d.values()) -/
def tListVals (td : TE) : TE := fun σ H Q => td σ H fun x H1 => ∃ (a : Addr) (kvs : List (Key × V)), x = V.ref a ∧ Rd H1 a (.dK kvs) ∧ ∀ l, H1 l = none → Q (.ref l) (upd H1 l (.lst (kvs.map (·.2))))
theorem pe_listVals {o : Expr} {p pos apos mpos : Pos} {td : TE} (hc : X.calm = true) (hg : Gl X "list") (hm : X.mg "list" = none) (hd : PE X o td) (hbase : attributeBase o "values" X.env (eval o X.env) = eval o X.env := by rfl) (hline : (apos.endLine == mpos.line) = true := by rfl)
    (na : starEach [Expr.Call (.Attribute o "values" apos) [] [] mpos] X.env = (false, eval (Expr.Call (.Attribute o "values" apos) [] [] mpos) X.env) :: starEach [] X.env := by rfl) :
    PE X (.Call (.Name "list" p) [.Call (.Attribute o "values" apos) [] [] mpos] [] pos) (tListVals td) := by
  refine ⟨fun pins s σ H Q I h => ?_⟩
  refine Call_ (ld_blt I hg hm PyProof.Rows.boot_list ?_)
  refine PyProof.Rows.callWith_type1 (PyProof.Rows.args_cons (wpAny_Call_method0_late hbase hline (thn (hd.run pins s σ H _ I h) fun v s1 ⟨x, H1, I1, r1, a, kvs, ex, ha, q⟩ => ?_)) na) na rfl
  subst ex
  obtain rfl : v = Value.ref a := r1
  obtain ⟨hsz, hsys, vs, rel, dof⟩ : ObjOk X.prog X.w H1 s1.heap a (.dK kvs) := by
    rcases ha with ha | ⟨o, ha⟩
    · exact I1.hok a _ ha
    · exact (show _ ∧ _ from I1.hok a _ ha).2
  obtain ⟨ep, dat⟩ := dof.dictAt
  have dat' := dat
  obtain ⟨ob, es, ho, ex, hdat, hko, hpr, hnd⟩ := dat'
  refine ⟨"dict", "dict.values", F.plainAttrs_dict, F.slot_dict_values, F.type_dict_values, ⟨ob, ho, ex.1⟩, fun b e => ?_, Calls.callWith_builtin rfl (PySem.evalArgs_none ?_)⟩
  · cases e
    exact ⟨ob, ho, ex.2.1⟩
  refine call_meetsIn F.slot_dict_values ⟨ob, ho, ex.1⟩ F.entry_dict_values (F.args_dict_values_1 _) (meets_dict_values (mixKind X.prog X.w) a hsys) ⟨⟨vs, dof⟩, ?_⟩
  obtain ⟨es2, ep2, hr, hs, hget⟩ := dof.raw
  have hlt : a < s1.heap.objs.size := Heap.lt_size ho
  have k1 : ∀ b u, s1.heap.get? b = some u → (s1.heap.push { cls := .type "dict_values", data := .fields #[.ref a] }).get? b = some u := fun b u e => Heap.get?_push_of_some _ e
  have I2 : Inv X pins σ H1 { s1 with heap := s1.heap.push { cls := .type "dict_values", data := .fields #[.ref a] }, toks := s1.toks } := I1.kept k1
  refine PyProof.Rows.args_nil ?_
  refine W.kdl_call (KdlSrc.rawValues (es := es2) (ep := ep2) (r := s1.heap.objs.size) (d := a)) (I1.ok.hd hc) ⟨⟨_, Heap.get?_push_size _ rfl, rfl, rfl⟩, hr.push _⟩ (by rw [hs, ← KV.length rel]; exact hsz) fun h' tk acc' c' hk hl hacc => ?_
  have hlen : (kvs.map (·.2)).length = acc'.toList.length := by
    rw [List.length_map]
    exact (KV.length rel).trans (hs.symm.trans (hacc.1.symm.trans Array.length_toList.symm))
  have hv : Vals (kvs.map (·.2)) acc'.toList := paired_of hlen fun i x v h1 h2 => by
    rw [List.getElem?_map] at h1
    obtain ⟨kv, hkv, rfl⟩ := Option.map_eq_some_iff.mp h1
    obtain ⟨hi, hv⟩ := hacc.2 i v (by rw [← Array.getElem?_toList]; exact h2)
    have hi2 : i < vs.length := by rw [← hs]; exact hi
    obtain ⟨y, hy, ry⟩ := KV.at' rel (List.getElem?_eq_getElem hi2)
    rw [hkv] at hy
    cases hy
    rw [hv, (hget i hi _ _ (List.getElem?_eq_getElem hi2)).2]
    exact ry
  have I3 : Inv X pins σ (upd H1 (s1.heap.push { cls := .type "dict_values", data := .fields #[.ref a] }).objs.size (.lst (kvs.map (·.2)))) { s1 with heap := h', toks := tk } :=
    I2.laid (h' := h') (t' := tk) hk (Nat.le_refl _) ⟨by rw [List.length_map]; exact hsz, acc'.toList, c', hv, by rw [hl]⟩
  exact ⟨V.ref _, _, I3, rfl, q _ (I2.hok.fresh (Nat.le_refl _))⟩
/-- name = {..: .. for ..}, the name a local -/
theorem ps_setDc {i : Nat} {y : Str} {py : Pos} {kx vx tg iter : Expr} {ifs : List Expr} {scope : Scope} {own : List (Str × Nat)} {pos spos : Pos} {wi : TI} {g : TG} {tt : TT} {tk tv : TE} (hc : X.calm = true) (hN : X.N.Nodup) (hy : X.N[i]? = some y) (hyl : X.env.scope.names.lookup y = some .local)
    (hsw : swapsWith (.DictComp kx vx [⟨tg, iter, ifs, 0⟩] scope pos) (some (.Name y py)) spos.line X.env = pure true) (hi : PI X tg iter wi) (ok : BlkOk X.N X.env.scope scope own)
    (hg : ∀ (s : Shared) (H : Hp) (C : Addr) (cl : List (Str × Addr)) (fp : List Addr), PG (X.blk s H scope (compEnvC scope cl C X.env) fp) tg g) (ht : ∀ (s : Shared) (H : Hp) (C : Addr) (cl : List (Str × Addr)) (fp : List Addr), PTs (X.blk s H scope (compEnvC scope cl C X.env) fp) ifs tt)
    (hk : ∀ (s : Shared) (H : Hp) (C : Addr) (cl : List (Str × Addr)) (fp : List Addr), PE (X.blk s H scope (compEnvC scope cl C X.env) fp) kx tk)
    (he : ∀ (s : Shared) (H : Hp) (C : Addr) (cl : List (Str × Addr)) (fp : List Addr), PE (X.blk s H scope (compEnvC scope cl C X.env) fp) vx tv) (hs : ∀ x, foldedSetIterable iter X.env x = pure x := by intro _; rfl) :
    PS X (.Assign [.Name y py] (.DictComp kx vx [⟨tg, iter, ifs, 0⟩] scope pos) spos) (tAsg (tDc wi g tt tk tv (own.map (·.2))) (gName i)) := by
  refine ⟨fun pins s σ H D I h => ?_⟩
  rw [exec_Assign_Name_used _ _ _ _ hsw]
  refine wpAny_bind (wpAny_standAt (wpAny_bind ?_))
  show wpAny _ X.A (do let _ ← comprehension (.DictComp kx vx [⟨tg, iter, ifs, 0⟩] scope pos) scope X.env (firstIterPos [⟨tg, iter, ifs, 0⟩] pos) newDict false (eval iter X.env) (some (assign (.Name y py) X.env))) _ _ s
  have h : tDc wi g tt tk tv (own.map (·.2)) σ H (fun x H1 => gName i x σ H1 D.nx) := h
  refine wpAny_bind (thn (dc_core (Qf := fun _ s' => SP X pins D .next s') hc hN I hi ok hg ht hk he hs h fun L C s' m H' I' q hn f => ?_) fun _ s' hq => wpAny_pure (wpAny_pure hq))
  show wpAny _ _ (assign (.Name y py) X.env (.ref L)) _ _ _
  refine wpAny_assign_Name (store_ok2 (v := V.ref L) I' hN hy (.inl hyl) rfl (fun s2 I2 ⟨a, sb, ha⟩ => ?_) (.inr hyl))
  obtain ⟨f0, f1, f2, f3, f4, f5⟩ := f
  have haC : C ≠ a := by
    rcases ha with z | z
    · rw [z]; exact f1
    · exact fun e => f4 y a z e.symm
  refine ⟨m, hn.sameBut sb haC, fun h3 sb3 => ?_⟩
  exact ⟨_, H', I2.turned (t' := s2.toks) (fun b o hb e => (sb3.2 b hb).trans e) f0 f1 f3 f4 f5, q⟩
theorem swd_true {kx vx : Expr} {gs : List Comprehension} {scope : Scope} {pos py : Pos} {y : Str} {l : Nat} {env : Env} (hk : env.scope.kind = .function) (hy : env.scope.names.lookup y = some .local) (hl : (py.line == pos.line) = true)
    (ha : (scope.names.any fun (n, k) => n == y && (k == .local || k == .cell)) = false) : swapsWith (.DictComp kx vx gs scope pos) (some (.Name y py)) l env = pure true := by
  have ky : env.kindOf y = some .local := hy
  have hb : env.blockKind = .function := by unfold Env.blockKind; rw [hk]; rfl
  unfold swapsWith
  simp only [hb, ky, ha, Expr.pos, hl]
  rfl
/-- len(set(xs)), xs a list of ints -/
def tLenSetD (K : PySem.W.Frag) (ta : TE) : TE := fun σ H Q => ta σ H fun x H1 => ∃ (l : Addr) (ns : List Int), x = V.ref l ∧ SqL K H1 l (ns.map V.int) ∧ ns.length < 4000 ∧ Q (.int (ns.foldl (push id) []).length) H1
theorem firstMet_push (ns : List Int) : ∀ i, i ≤ ns.length → firstMet (fun i => ns.getD i 0) i = (ns.take i).foldl (push id) []
  | 0, _ => rfl
  | i + 1, hi => by
    have hlt : i < ns.length := hi
    have e : ns.getD i 0 = ns[i] := by rw [List.getD_eq_getElem?_getD, List.getElem?_eq_getElem hlt] <;> rfl
    rw [PyProof.Rows.firstMet_succ, firstMet_push ns i (Nat.le_of_lt hlt), List.take_succ, List.getElem?_eq_getElem hlt, List.foldl_append, e]
    unfold PyProof.Rows.step_dedup
    show _ = push id (List.foldl (push id) ([] : List Int) (ns.take i)) ns[i]
    generalize List.foldl (push id) ([] : List Int) (ns.take i) = o
    unfold push
    rw [List.map_id]
    by_cases h : ns[i] ∈ o
    · exact (if_pos (show (o.any fun x => x == ns[i]) = true from List.any_eq_true.mpr ⟨_, h, beq_self_eq_true _⟩)).trans (if_pos h).symm
    · exact (if_neg (show ¬ (o.any fun x => x == ns[i]) = true from fun z => by obtain ⟨x, hx, e2⟩ := List.any_eq_true.mp z; rw [beq_iff_eq.mp e2] at hx; exact h hx)).trans (if_neg h).symm
theorem pe_lenSetD {a : Expr} {ta : TE} {p p2 q pos : Pos} (hc : X.calm = true) (hg : Gl X "len") (hm : X.mg "len" = none) (hg2 : Gl X "set") (hm2 : X.mg "set" = none) (ha : PE X a ta)
    (na : starEach [a] X.env = (false, eval a X.env) :: starEach [] X.env := by rfl) : PE X (.Call (.Name "len" p) [.Call (.Name "set" p2) [a] [] q] [] pos) (tLenSetD X.K ta) := by
  refine ⟨fun pins s σ H Q I h => ?_⟩
  refine Call_ (ld_blt I hg hm PySem.boot_len ?_)
  refine PyProof.Rows.callWith_builtin1 (PyProof.Rows.args_cons ?_ rfl) rfl rfl
  refine Call_ (ld_blt I hg2 hm2 PyProof.Rows.boot_set ?_)
  refine PyProof.Rows.callWith_type1 (PyProof.Rows.args_cons (thn (ha.run pins s σ H _ I h) fun v s1 ⟨x, H1, I1, r1, q1⟩ => PyProof.Rows.args_nil ?_) na) na rfl
  obtain ⟨l, ns, rfl, hq, h1, q1⟩ := q1
  cases r1
  obtain ⟨its, r, pl, hz⟩ := I1.list hq
  have hl : its.toArray.size = ns.length := by rw [List.size_toArray, ← r.length, List.length_map]
  refine call_set_list (I1.ok.hd hc) pl.isList (ns := ns) (by simpa using r.ints) (by unfold scanBound; omega) fun h' tk hS hk => ?_
  rw [hl, firstMet_push ns ns.length (Nat.le_refl _), List.take_length] at hS
  refine PyProof.Rows.args_nil ?_
  obtain ⟨o, es, ep, t, ho, hex, hd, _, _, _, hf, hn⟩ := hS
  have I2 : Inv X pins σ H1 { s1 with heap := h', toks := tk } := I1.kept fun b o e => hk b o (Heap.lt_size e) e
  have hle : (ns.foldl (push id) ([] : List Int)).length ≤ ns.length := by
    have key : ∀ (l o : List Int), (l.foldl (push id) o).length ≤ o.length + l.length := by
      intro l
      induction l with
      | nil => intro o; exact Nat.le_refl _
      | cons x l ih =>
        intro o
        refine Nat.le_trans (ih _) ?_
        have : (push id o x).length ≤ o.length + 1 := by unfold push; split <;> simp
        rw [List.length_cons]; omega
    simpa using key ns []
  refine call_len_set ho hex hd hf (by rw [hn] <;> omega) ⟨.int (ns.foldl (push id) []).length, H1, I2.tok _, ⟨_, by rw [hn]⟩, q1⟩
end
end K46
set_option Elab.async false
set_option linter.all false
set_option autoImplicit false
set_option maxRecDepth 100000
/-! K46R2: a dict whose keys are the signs of a state. -/
namespace K46
open PySem PySem.Spec PyProof.Rows L2 Evl
set_option maxHeartbeats 4000000
abbrev Sg := Nat × List (List Nat)
def nk (k : Sg) : NestedKey := .tup (.num k.1 :: k.2.map fun l => .tup (l.map fun (x : Nat) => .num (x : Int)))
theorem nums_nk_inj : ∀ {l l' : List Nat}, (l.map fun (x : Nat) => NestedKey.num (x : Int)) = l'.map (fun (x : Nat) => NestedKey.num (x : Int)) → l = l'
  | [], [], _ => rfl
  | x :: l, y :: l', h => by
    rw [List.map_cons, List.map_cons] at h
    injection h with h1 h2
    injection h1 with h1
    rw [nums_nk_inj h2, show x = y by omega]
  | [], _ :: _, h => by cases h
  | _ :: _, [], h => by cases h
theorem tups_nk_inj : ∀ {l l' : List (List Nat)}, (l.map fun l => NestedKey.tup (l.map fun (x : Nat) => .num (x : Int))) = l'.map (fun l => NestedKey.tup (l.map fun (x : Nat) => .num (x : Int))) → l = l'
  | [], [], _ => rfl
  | x :: l, y :: l', h => by
    rw [List.map_cons, List.map_cons] at h
    injection h with h1 h2
    injection h1 with h1
    rw [tups_nk_inj h2, nums_nk_inj h1]
  | [], _ :: _, h => by cases h
  | _ :: _, [], h => by cases h
theorem nk_inj {k k' : Sg} (h : nk k = nk k') : k = k' := by
  obtain ⟨m, ls⟩ := k
  obtain ⟨m', ls'⟩ := k'
  unfold nk at h
  injection h with h
  injection h with h1 h2
  injection h1 with h1
  have e : m = m' := by have : (m : Int) = m' := h1; omega
  have e2 : ls = ls' := tups_nk_inj h2
  rw [e, e2]
theorem depthAll_le {n : Nat} : ∀ {ks : List NestedKey}, (∀ k ∈ ks, k.depth ≤ n) → NestedKey.depthAll ks ≤ n
  | [], _ => Nat.zero_le _
  | k :: ks, h => by
    unfold NestedKey.depthAll
    exact Nat.max_le.mpr ⟨h k List.mem_cons_self, depthAll_le fun x hx => h x (List.mem_cons_of_mem _ hx)⟩
theorem nk_depth (k : Sg) : (nk k).depth ≤ 8 := by
  have h : ∀ l : List Nat, NestedKey.depthAll (l.map fun (x : Nat) => NestedKey.num (x : Int)) ≤ 0 := fun l => depthAll_le fun k hk => by
    obtain ⟨x, _, rfl⟩ := List.mem_map.mp hk
    exact Nat.le_refl _
  unfold nk NestedKey.depth
  have : NestedKey.depthAll (NestedKey.num k.1 :: k.2.map fun l => NestedKey.tup (l.map fun (x : Nat) => .num (x : Int))) ≤ 1 := depthAll_le fun q hq => by
    rcases List.mem_cons.mp hq with rfl | hq
    · exact Nat.zero_le _
    · obtain ⟨l, _, rfl⟩ := List.mem_map.mp hq
      unfold NestedKey.depth
      have := h l
      omega
  omega
/-- at p stand the signs k -/
def SigAt (H : Hp) (p : Addr) (k : Sg) : Prop := ∃ ps : List Addr, H p = some (.tup (nV k.1 :: ps.map V.ref)) ∧ Paired (fun q l => H q = some (.tup (l.map nV))) ps k.2
theorem SigAt.mono {H H' : Hp} {p : Addr} {k : Sg} (h : SigAt H p k) (e : Ex H H') : SigAt H' p k := by
  obtain ⟨ps, h1, h2⟩ := h
  exact ⟨ps, e _ _ h1, paired_mono (fun _ _ q => e _ _ q) h2⟩
theorem nested_nums {h : Heap} : ∀ {l : List Nat} {vs : List Value}, Vals (l.map nV) vs → NestedAll h (l.map fun (x : Nat) => .num (x : Int)) vs
  | [], [], _ => .nil
  | x :: l, v :: vs, .cons r t => by
    obtain ⟨tk, rfl⟩ := (show ∃ t, v = Value.int (x : Int) t from r)
    exact .cons (.int _ _) (nested_nums t)
theorem nested_tup {P : Program} {w : World} {H : Hp} {h : Heap} (ok : HOk P w H h) {q : Addr} {l : List Nat} (e : H q = some (.tup (l.map nV))) : NestedIs h (.tup (l.map fun (x : Nat) => .num (x : Int))) (.ref q) := by
  obtain ⟨_, its, r, o, h1, h2, n, h3⟩ := (show ObjOk P w H h q (.tup (l.map nV)) from ok q _ e)
  exact .tup h1 h2 h3 (by simpa using nested_nums r)
theorem nested_refs {P : Program} {w : World} {H : Hp} {h : Heap} (ok : HOk P w H h) : ∀ {ps : List Addr} {ls : List (List Nat)} {vs : List Value}, Paired (fun q l => H q = some (.tup (l.map nV))) ps ls → Vals (ps.map V.ref) vs → NestedAll h (ls.map fun l => .tup (l.map fun (x : Nat) => .num (x : Int))) vs
  | [], [], [], .nil, _ => .nil
  | p :: ps, l :: ls, v :: vs, .cons e t, .cons r u => by
    obtain rfl : v = Value.ref p := r
    exact .cons (nested_tup ok e) (nested_refs ok t u)
theorem SigAt.is {P : Program} {w : World} {H : Hp} {h : Heap} (ok : HOk P w H h) {p : Addr} {k : Sg} (e : SigAt H p k) : (nestedKind P w).is h (nk k) p := by
  obtain ⟨ps, e1, e2⟩ := e
  obtain ⟨_, its, r, o, h1, h2, n, h3⟩ := (show ObjOk P w H h p (.tup (nV k.1 :: ps.map V.ref)) from ok p _ e1)
  refine ⟨.tup h1 h2 h3 ?_, nk_depth k⟩
  cases r with
  | cons r t =>
    rename_i v vs
    obtain ⟨tk, rfl⟩ := (show ∃ t, v = Value.int (k.1 : Int) t from r)
    exact .cons (.int _ _) (nested_refs ok e2 t)

/-- the entries: the signs, where they stand, the number -/
abbrev Ent := Sg × Addr × Nat
def EntR (x : Ent) (y : NestedKey × Addr × Value) : Prop := y.1 = nk x.1 ∧ y.2.1 = x.2.1 ∧ RelV (nV x.2.2) y.2.2
def Dn (P : Program) (w : World) (d : Addr) (L : List Ent) : HO := .ext fun h => L.length ≤ sizeLine ∧ (d == sysModules) = false ∧ ∃ xs, Paired EntR L xs ∧
  ∃ o es ep, h.get? d = some o ∧ o.ExactDict ∧ o.data = .dict es ep ∧ es.toList = xs.map (entryOfKey (nestedKind P w)) ∧ (xs.map (·.1)).Nodup
def DnOk (H : Hp) (L : List Ent) : Prop := ∀ x ∈ L, SigAt H x.2.1 x.1
theorem DnOk.mono {H H' : Hp} {L : List Ent} (h : DnOk H L) (e : Ex H H') : DnOk H' L := fun x hx => (h x hx).mono e
def lookN (L : List Ent) (k : Sg) : Option Nat := (L.find? fun x => decide (x.1 = k)).map (·.2.2)
theorem entR_mem : ∀ {L : List Ent} {xs : List (NestedKey × Addr × Value)}, Paired EntR L xs → ∀ y ∈ xs, ∃ x ∈ L, EntR x y
  | _, _, .nil, y, h => nomatch h
  | _, _, .cons r t, y, h => by
    rcases List.mem_cons.mp h with rfl | h
    · exact ⟨_, List.mem_cons_self, r⟩
    · obtain ⟨x, hx, q⟩ := entR_mem t y h
      exact ⟨x, List.mem_cons_of_mem _ hx, q⟩
theorem lookN_rel (k : Sg) : ∀ {L : List Ent} {xs : List (NestedKey × Addr × Value)}, Paired EntR L xs → (lookN L k = none ∧ atKey xs (nk k) = none) ∨ ∃ n p, lookN L k = some n ∧ atKey xs (nk k) = some p ∧ RelV (nV n) p.2
  | _, _, .nil => .inl ⟨rfl, rfl⟩
  | x :: L, y :: xs, .cons r t => by
    by_cases h : x.1 = k
    · refine .inr ⟨x.2.2, y.2, ?_, ?_, r.2.2⟩
      · unfold lookN
        rw [List.find?_cons_of_pos (by exact decide_eq_true h)]; rfl
      · unfold atKey
        rw [List.find?_cons_of_pos (by exact decide_eq_true (by rw [r.1, h]))]; rfl
    · have h2 : ¬ y.1 = nk k := fun z => h (nk_inj (r.1.symm.trans z))
      have e1 : lookN (x :: L) k = lookN L k := by unfold lookN; rw [List.find?_cons_of_neg (by simpa using h)]
      have e2 : atKey (y :: xs) (nk k) = atKey xs (nk k) := by unfold atKey; rw [List.find?_cons_of_neg (by simpa using h2)]
      rw [e1, e2]
      exact lookN_rel k t
theorem dn_of {P : Program} {w : World} {H : Hp} {h : Heap} (ok : HOk P w H h) {d : Addr} {L : List Ent} (e : H d = some (Dn P w d L)) (hk : DnOk H L) : L.length ≤ sizeLine ∧ (d == sysModules) = false ∧ ∃ xs, Paired EntR L xs ∧ h.DictOfH (nestedKind P w) d xs := by
  obtain ⟨⟨h1, h2, xs, r, o, es, ep, h3, h4, h5, h6, h7⟩, _⟩ := (show ObjOk P w H h d (Dn P w d L) from ok d _ e)
  refine ⟨h1, h2, xs, r, o, es, ep, h3, h4, h5, h6, fun y hy => ?_, h7⟩
  obtain ⟨x, hx, q⟩ := entR_mem r y hy
  rw [q.1, q.2.1]
  exact (hk x hx).is ok
theorem dn_new {P : Program} {w : World} {H : Hp} {h : Heap} {d : Addr} {L : List Ent} {xs : List (NestedKey × Addr × Value)} (h1 : L.length ≤ sizeLine) (h2 : (d == sysModules) = false) (r : Paired EntR L xs) (hd : h.DictOfH (nestedKind P w) d xs) : ObjOk P w H h d (Dn P w d L) := by
  obtain ⟨o, es, ep, h3, h4, h5, h6, _, h7⟩ := hd
  refine ⟨⟨h1, h2, xs, r, o, es, ep, h3, h4, h5, h6, h7⟩, ⟨o, h3⟩, ?_⟩
  rintro a b ⟨z1, z2, ys, s, o', es', ep', z3, z4⟩ k
  exact ⟨z1, z2, ys, s, o', es', ep', k _ z3, z4⟩
section
variable {X : Cx} {o i e value : Expr} {pos pos' tpos : Pos} {td ty tv : TE}
/-- d, new and empty, is to hold signs -/
def tToDn (P : Program) (w : World) (t : TS) : TS := fun D σ H => ∃ d, H d = some (.dK []) ∧ t D σ (upd H d (Dn P w d []))
theorem ps_toDn {st : Stmt} {t : TS} (h : PS X st t) : PS X st (tToDn X.prog X.w t) := by
  refine ⟨fun pins s σ H D I hw => ?_⟩
  obtain ⟨d, hd, hw⟩ := hw
  obtain ⟨hz, hsys, vs, rel, dof⟩ := dk_of I.hok hd
  cases rel
  obtain ⟨ep, dat⟩ := dof.dictAt
  obtain ⟨ob, es, ho, ex, hdat, hko, hpr, hnd⟩ := dat
  have he : es.toList = [] := by
    have hp := hpr.length
    rw [List.length_nil] at hp
    exact List.length_eq_zero_iff.mp hp
  exact h.run pins s σ _ D (d_write (t' := s.toks) I (by rw [hd]; exact True.intro) (Heap.SameBut.refl _ _) ⟨ob, ho⟩ (dn_new (xs := []) (Nat.zero_le _) hsys .nil ⟨ob, es, ep, ho, ex, hdat, by rw [he]; rfl, fun x hx => absurd hx List.not_mem_nil, List.nodup_nil⟩)) hw
def tDnNot (P : Program) (w : World) (ty td : TE) : TE := fun σ H Q => ty σ H fun y H1 => td σ H1 fun x H2 => ∃ d p L k, x = .ref d ∧ y = .ref p ∧ H2 d = some (Dn P w d L) ∧ DnOk H2 L ∧ SigAt H2 p k ∧ Q (.bl (!(lookN L k).isSome)) H2
theorem pc_dnNot (hu : X.A.units + 64 < cLine) (hi : PE X i ty) (ho : PE X o td) : PC X .NotIn i o (tDnNot X.prog X.w ty td) := by
  refine ⟨fun pins s σ H Q I h => ?_⟩
  refine thn (hi.run pins s σ H _ I h) fun iv s1 ⟨y, H1, I1, ry, q1⟩ => thn (ho.run pins s1 σ H1 _ I1 q1) fun u s2 ⟨x, H2, I2, rx, d, p, L, k, ex, ey, hd, hk, hp, q2⟩ => ?_
  subst ex ey
  obtain rfl : u = Value.ref d := rx
  obtain rfl : iv = Value.ref p := ry
  obtain ⟨z, hsys, xs, r, dd⟩ := dn_of I2.hok hd hk
  refine wpAny_notIn_heap (knd := nestedKind X.prog X.w) (by show X.A.units + 1 + 8 < cLine; omega) (hp.is I2.hok) hsys dd ?_
  have e : (atKey xs (nk k)).isSome = (lookN L k).isSome := by
    rcases lookN_rel k r with ⟨h1, h2⟩ | ⟨n, p, h1, h2, _⟩ <;> rw [h1, h2] <;> rfl
  rw [e]
  exact ⟨.bl _, H2, I2.tok _, rfl, q2⟩
def tDnGet (P : Program) (w : World) (td ty : TE) : TE := fun σ H Q => td σ H fun x H1 => ty σ H1 fun y H2 => ∃ d p L k n, x = .ref d ∧ y = .ref p ∧ H2 d = some (Dn P w d L) ∧ DnOk H2 L ∧ SigAt H2 p k ∧ lookN L k = some n ∧ Q (nV n) H2
theorem pe_dnGet (hu : X.A.units + 64 < cLine) (ho : PE X o td) (hi : PE X i ty) (hs : NoSl i) : PE X (.Subscript o i pos) (tDnGet X.prog X.w td ty) := by
  refine ⟨fun pins s σ H Q I h => ?_⟩
  refine subD_of PySem.F.slot_dict_getitem.lookup hs (thn (ho.run pins s σ H _ I h) fun u s1 ⟨x, H1, I1, rx, q1⟩ => thn (hi.run pins s1 σ H1 _ I1 q1) fun iv s2 ⟨y, H2, I2, ry, d, p, L, k, n, ex, ey, hd, hk, hp, hl, q2⟩ => ?_)
  subst ex ey
  obtain rfl : u = Value.ref d := rx
  obtain rfl : iv = Value.ref p := ry
  obtain ⟨z, hsys, xs, r, dd⟩ := dn_of I2.hok hd hk
  refine ⟨dd.typeIs, ?_⟩
  rcases lookN_rel k r with ⟨h1, h2⟩ | ⟨n', p', h1, h2, rv⟩
  · rw [h1] at hl; cases hl
  · rw [h1] at hl
    cases hl
    exact wpAny_getItem_heap (knd := nestedKind X.prog X.w) (by show X.A.units + 1 + 8 < cLine; omega) (hp.is I2.hok) dd h2 ⟨nV n, H2, I2.tok _, rv, q2⟩
def sDnPut (P : Program) (w : World) (td ty tv : TE) : TS := fun D σ H => tv σ H fun v H1 => td σ H1 fun x H2 => ty σ H2 fun y H3 => ∃ d p L k n, x = .ref d ∧ y = .ref p ∧ v = nV n ∧ H3 d = some (Dn P w d L) ∧ DnOk H3 L ∧ SigAt H3 p k ∧ lookN L k = none ∧
  L.length < sizeLine ∧ D.nx σ (upd H3 d (Dn P w d (L ++ [(k, p, n)])))
theorem paired_snoc {α β : Type} {F : α → β → Prop} {a : α} {b : β} : ∀ {l : List α} {r : List β}, Paired F l r → F a b → Paired F (l ++ [a]) (r ++ [b])
  | _, _, .nil, h => .cons h .nil
  | _, _, .cons r t, h => .cons r (paired_snoc t h)
theorem ps_dnPut (hu : X.A.units + 64 < cLine) (ho : PE X o td) (hi : PE X i ty) (hv : PE X value tv) (hs : swapsWith value (some (.Subscript o i pos')) pos.line X.env = pure false) :
    PS X (.Assign [.Subscript o i pos'] value pos) (sDnPut X.prog X.w td ty tv) := by
  refine ⟨fun pins s σ H D I h => ?_⟩
  refine wpAny_Assign_Subscript (thn (hv.run pins s σ H _ I h) fun r s1 ⟨v, H1, I1, rv, q1⟩ => thn (ho.run pins s1 σ H1 _ I1 q1) fun u s2 ⟨x, H2, I2, rx, q2⟩ => thn (hi.run pins s2 σ H2 _ I2 q2) fun iv s3 ⟨y, H3, I3, ry, d, p, L, k, n, ex, ey, ev, hd, hk, hp, hl, hlt, q3⟩ => ?_) hs
  subst ex ey ev
  obtain rfl : u = Value.ref d := rx
  obtain rfl : iv = Value.ref p := ry
  obtain ⟨z, hsys, xs, rr, dd⟩ := dn_of I3.hok hd hk
  rcases lookN_rel k rr with ⟨h1, h2⟩ | ⟨n', p', h1, h2, _⟩
  · refine wpAny_setItem_heap (knd := nestedKind X.prog X.w) (hsz := by rw [← paired_length rr]; exact z) (by show X.A.units + 1 + 8 < cLine; omega) (hp.is I3.hok) dd fun h' dd' hs' => ?_
    rw [storedH_new h2] at dd'
    obtain ⟨o2, _, _, ho2, _⟩ := id dd'
    refine ⟨σ, _, d_write I3 (by rw [hd]; exact True.intro) hs' ⟨o2, ho2⟩ (dn_new (L := L ++ [(k, p, n)]) (by rw [List.length_append]; exact hlt) hsys (paired_snoc rr ⟨rfl, rfl, rv⟩) dd'), q3⟩
  · rw [h1] at hl; cases hl
abbrev rLenDn (P : Program) (w : World) : List V → Hp → VK → Prop := fun xs H Q => ∃ d L, xs = [V.ref d] ∧ H d = some (Dn P w d L) ∧ DnOk H L ∧ Q (nV L.length) H
theorem call_lenDn : CallR X (.builtin "len") (rLenDn X.prog X.w) := by
  intro pins s σ H xs us Q I r h
  obtain ⟨d, L, rfl, hd, hk, q⟩ := h
  obtain ⟨u, rfl, ru⟩ := vals1 r
  cases ru
  obtain ⟨z, hsys, ys, rr, dd⟩ := dn_of I.hok hd hk
  have hl := paired_length rr
  have hn := line63
  refine call_len_dictH hsys dd (by rw [← hl]; omega) ?_
  rw [← hl]
  exact ⟨nV L.length, H, I.tok _, ⟨_, rfl⟩, q⟩
end
end K46
set_option linter.all false
set_option autoImplicit false
/-! K46Math3: marks that are made finer until they tell states apart as surroundings do. -/
namespace K46
section
variable {β γ : Type} [DecidableEq β] [DecidableEq γ]
/-- the first states of each mark -/
def reps (κ : Nat → β) (o : List Nat) : List Nat := o.foldl (push κ) []
def ren (κ : Nat → β) (o : List Nat) (x : Nat) : Nat := ((reps κ o).map κ).idxOf (κ x)
def cnt (κ : Nat → β) (o : List Nat) : Nat := (reps κ o).length
variable {κ : Nat → β} {κ' : Nat → γ} {o : List Nat}
theorem reps_dist (κ : Nat → β) (o : List Nat) : Dist κ (reps κ o) := pushes_dist _ (by unfold Dist; exact List.nodup_nil)
theorem reps_sub : ∀ x ∈ reps κ o, x ∈ o := pushes_all (P := (· ∈ o)) o (fun _ h => nomatch h) fun _ h => h
theorem reps_has {x : Nat} (h : x ∈ o) : κ x ∈ (reps κ o).map κ := pushes_has o [] x h
theorem reps_rep {x : Nat} (h : x ∈ o) : ∃ y ∈ reps κ o, κ y = κ x := List.mem_map.mp (reps_has h)
theorem ren_lt {x : Nat} (h : x ∈ o) : ren κ o x < (reps κ o).length := by
  have := List.idxOf_lt_length_of_mem (reps_has (κ := κ) h)
  rw [List.length_map] at this; exact this
theorem ren_get {x : Nat} (h : x ∈ o) : ((reps κ o).map κ)[ren κ o x]? = some (κ x) := by
  have hl := List.idxOf_lt_length_of_mem (reps_has (κ := κ) h)
  unfold ren
  rw [List.getElem?_eq_getElem hl, List.getElem_idxOf hl]
theorem ren_eq {x y : Nat} (hx : x ∈ o) (hy : y ∈ o) : ren κ o x = ren κ o y ↔ κ x = κ y := by
  refine ⟨fun e => ?_, fun e => by unfold ren; rw [e]⟩
  have h1 := ren_get (κ := κ) hx
  rw [e, ren_get hy] at h1
  exact (Option.some.inj h1).symm
theorem ren_reps {i x : Nat} (h : (reps κ o)[i]? = some x) : ren κ o x = i := by
  have hx : x ∈ o := reps_sub x (List.mem_of_getElem? h)
  have h1 := ren_get (κ := κ) hx
  rw [List.getElem?_map] at h1
  obtain ⟨y, hy, e⟩ := Option.map_eq_some_iff.mp h1
  exact dist_inj (reps_dist κ o) hy h e
theorem pushes_congr (h : ∀ x y, x ∈ o → y ∈ o → (κ x = κ y ↔ κ' x = κ' y)) : ∀ l a : List Nat, (∀ x ∈ l, x ∈ o) → (∀ x ∈ a, x ∈ o) → l.foldl (push κ) a = l.foldl (push κ') a := by
  intro l
  induction l with
  | nil => intro a _ _; rfl
  | cons x l ih =>
    intro a hl ha
    have hx := hl x List.mem_cons_self
    have e : push κ a x = push κ' a x := by
      have : κ x ∈ a.map κ ↔ κ' x ∈ a.map κ' := by
        rw [List.mem_map, List.mem_map]
        exact ⟨fun ⟨y, hy, e⟩ => ⟨y, hy, (h y x (ha y hy) hx).mp e⟩, fun ⟨y, hy, e⟩ => ⟨y, hy, (h y x (ha y hy) hx).mpr e⟩⟩
      unfold push
      by_cases m : κ x ∈ a.map κ
      · rw [if_pos m, if_pos (this.mp m)]
      · rw [if_neg m, if_neg (fun z => m (this.mpr z))]
    rw [List.foldl_cons, List.foldl_cons, ← e]
    refine ih _ (fun y hy => hl y (List.mem_cons_of_mem _ hy)) (push_all ha hx)
theorem reps_congr (h : ∀ x y, x ∈ o → y ∈ o → (κ x = κ y ↔ κ' x = κ' y)) : reps κ o = reps κ' o := pushes_congr h o [] (fun _ h => h) fun _ h => nomatch h
theorem reps_ren (κ : Nat → β) (o : List Nat) : reps (ren κ o) o = reps κ o := reps_congr fun _ _ hx hy => ren_eq hx hy
theorem pushes_map (f : Nat → β) : ∀ l a : List Nat, (l.map f).foldl (push id) (a.map f) = (l.foldl (push f) a).map f := by
  intro l
  induction l with
  | nil => intro a; rfl
  | cons x l ih =>
    intro a
    rw [List.map_cons, List.foldl_cons, List.foldl_cons, ← ih]
    congr 1
    unfold push
    rw [List.map_id]
    by_cases m : f x ∈ a.map f
    · rw [if_pos m]; exact if_pos m
    · rw [if_neg m]
      refine (if_neg m).trans ?_
      rw [List.map_append]; rfl
theorem cnt_set (f : Nat → β) (o : List Nat) : ((o.map f).foldl (push id) []).length = cnt f o := by
  have := pushes_map f o []
  rw [List.map_nil] at this
  rw [this, List.length_map]; rfl
theorem cnt_congr (h : ∀ x y, x ∈ o → y ∈ o → (κ x = κ y ↔ κ' x = κ' y)) : cnt κ o = cnt κ' o := by unfold cnt; rw [reps_congr h]
theorem cnt_len (κ : Nat → β) (o : List Nat) : cnt κ o ≤ o.length := by
  have key : ∀ (l a : List Nat), (l.foldl (push κ) a).length ≤ a.length + l.length := by
    intro l
    induction l with
    | nil => intro a; exact Nat.le_refl _
    | cons x l ih =>
      intro a
      refine Nat.le_trans (ih _) ?_
      have : (push κ a x).length ≤ a.length + 1 := by unfold push; split <;> simp
      rw [List.length_cons]; omega
  have := key o []
  rw [List.length_nil, Nat.zero_add] at this
  exact this
theorem cnt_pos {x : Nat} (h : x ∈ o) : 0 < cnt κ o := by
  obtain ⟨y, hy, _⟩ := reps_rep (κ := κ) h
  exact List.length_pos_of_mem hy
theorem nodup_of_sub : ∀ (m l : List β), l.Nodup → l ⊆ m → m.length ≤ l.length → m.Nodup
  | [], _, _, _, _ => List.nodup_nil
  | x :: m, l, hl, hs, hc => by
    by_cases h : x ∈ m
    · have : l ⊆ m := fun y hy => by
        rcases List.mem_cons.mp (hs hy) with rfl | z
        · exact h
        · exact z
      have := hl.length_le_of_subset this
      rw [List.length_cons] at hc
      omega
    · refine List.nodup_cons.mpr ⟨h, nodup_of_sub m (l.erase x) (hl.erase x) (fun y hy => ?_) ?_⟩
      · have h1 := (hl.mem_erase_iff).mp hy
        rcases List.mem_cons.mp (hs h1.2) with rfl | z
        · exact absurd rfl h1.1
        · exact z
      · rw [List.length_erase]
        rw [List.length_cons] at hc
        split <;> omega
theorem map_sub (h : ∀ x y, x ∈ o → y ∈ o → κ' x = κ' y → κ x = κ y) : (reps κ o).map κ ⊆ (reps κ' o).map κ := fun z hz => by
  obtain ⟨x, hx, rfl⟩ := List.mem_map.mp hz
  have hxo := reps_sub x hx
  obtain ⟨y, hy, e⟩ := reps_rep (κ := κ') hxo
  exact List.mem_map.mpr ⟨y, hy, h y x (reps_sub y hy) hxo e⟩
theorem cnt_le (h : ∀ x y, x ∈ o → y ∈ o → κ' x = κ' y → κ x = κ y) : cnt κ o ≤ cnt κ' o := by
  have := List.Nodup.length_le_of_subset (reps_dist κ o) (map_sub h)
  rw [List.length_map, List.length_map] at this; exact this
/-- as many marks: told apart no more -/
theorem cnt_stable (h : ∀ x y, x ∈ o → y ∈ o → κ' x = κ' y → κ x = κ y) (hc : cnt κ' o ≤ cnt κ o) : ∀ x y, x ∈ o → y ∈ o → κ x = κ y → κ' x = κ' y := by
  intro x y hx hy e
  have nd : ((reps κ' o).map κ).Nodup := nodup_of_sub _ _ (reps_dist κ o) (map_sub h) (by rw [List.length_map, List.length_map]; exact hc)
  obtain ⟨x', hx', ex⟩ := reps_rep (κ := κ') hx
  obtain ⟨y', hy', ey⟩ := reps_rep (κ := κ') hy
  have e1 : κ x' = κ y' := ((h x' x (reps_sub _ hx') hx ex).trans e).trans (h y' y (reps_sub _ hy') hy ey).symm
  obtain ⟨i, hi⟩ := List.mem_iff_getElem?.mp hx'
  obtain ⟨j, hj⟩ := List.mem_iff_getElem?.mp hy'
  have nd' : Dist κ (reps κ' o) := nd
  have := dist_inj nd' hi hj e1
  subst this
  rw [hi] at hj
  cases hj
  exact ex.symm.trans ey
end

/-! ### signs -/
abbrev Sg' := Nat × List (List Nat)
def sg (T : Tb) (μ : Nat → Nat) (o : List Nat) (x : Nat) : Nat × List (List Nat) := (μ x, [o.map fun z => μ (T.R x z), o.map fun z => μ (T.R z x), o.map fun z => μ (T.S x z), o.map fun z => μ (T.S z x)])
theorem map_eq_on {β : Type} {f g : Nat → β} {o : List Nat} : (o.map f = o.map g) ↔ ∀ z ∈ o, f z = g z := List.map_inj_left
theorem sg_eq {T : Tb} {μ : Nat → Nat} {o : List Nat} {x y : Nat} : sg T μ o x = sg T μ o y ↔ μ x = μ y ∧ ∀ (r : Bool), ∀ z ∈ o, μ (op T r x z) = μ (op T r y z) ∧ μ (op T r z x) = μ (op T r z y) := by
  unfold sg
  rw [Prod.mk.injEq, List.cons.injEq, List.cons.injEq, List.cons.injEq, List.cons.injEq, map_eq_on, map_eq_on, map_eq_on, map_eq_on]
  constructor
  · rintro ⟨h, h1, h2, h3, h4, _⟩
    exact ⟨h, fun r z hz => by cases r; exact ⟨h3 z hz, h4 z hz⟩; exact ⟨h1 z hz, h2 z hz⟩⟩
  · rintro ⟨h, k⟩
    exact ⟨h, fun z hz => (k true z hz).1, fun z hz => (k true z hz).2, fun z hz => (k false z hz).1, fun z hz => (k false z hz).2, rfl⟩
/-- marks that no surrounding contradicts, that tell accepted from not -/
structure Good (T : Tb) (o : List Nat) (μ : Nat → Nat) : Prop where
  coarse : ∀ x y, x ∈ o → y ∈ o → beh T x = beh T y → μ x = μ y
  fine : ∀ x y, x ∈ o → y ∈ o → μ x = μ y → (x ∈ T.acc ↔ y ∈ T.acc)
theorem good0 (T : Tb) (o : List Nat) : Good T o fun x => if x ∈ T.acc then 1 else 0 := by
  refine ⟨fun x y _ _ e => ?_, fun x y _ _ e => ?_⟩
  · have := acc_beh e
    simp only [this]
  · by_cases h1 : x ∈ T.acc <;> by_cases h2 : y ∈ T.acc <;> simp_all
theorem beh_opS {T : Tb} (r : Bool) {x y z w : Nat} (hx : Rch T x) (hy : Rch T y) (hz : Rch T z) (hw : Rch T w) (e1 : beh T x = beh T y) (e2 : beh T z = beh T w) : beh T (op T r x z) = beh T (op T r y w) := by
  obtain ⟨a, rfl⟩ := hx
  obtain ⟨b, rfl⟩ := hy
  obtain ⟨c, rfl⟩ := hz
  obtain ⟨d, rfl⟩ := hw
  exact beh_op (Same.refl T) r e1 e2
section
variable {T : Tb} {o : List Nat} (hr : ∀ x ∈ o, Rch T x) (ha : ∀ b, st T b ∈ o)
include hr ha
theorem good_next {μ μ' : Nat → Nat} (g : Good T o μ) (h : ∀ x y, x ∈ o → y ∈ o → (μ' x = μ' y ↔ sg T μ o x = sg T μ o y)) : Good T o μ' := by
  have cl : ∀ (r : Bool) x z, x ∈ o → z ∈ o → op T r x z ∈ o := fun r x z hx hz => by
    obtain ⟨b, hb⟩ := (hr x hx).op r (hr z hz)
    rw [← hb]; exact ha b
  refine ⟨fun x y hx hy e => (h x y hx hy).mpr (sg_eq.mpr ⟨g.coarse x y hx hy e, fun r z hz => ⟨?_, ?_⟩⟩), fun x y hx hy e => g.fine x y hx hy (sg_eq.mp ((h x y hx hy).mp e)).1⟩
  · exact g.coarse _ _ (cl r x z hx hz) (cl r y z hy hz) (beh_opS r (hr x hx) (hr y hy) (hr z hz) (hr z hz) e rfl)
  · exact g.coarse _ _ (cl r z x hz hx) (cl r z y hz hy) (beh_opS r (hr z hz) (hr z hz) (hr x hx) (hr y hy) rfl e)
/-- marks that stay as they are tell apart as surroundings do -/
theorem good_disc {μ : Nat → Nat} (g : Good T o μ) (h : ∀ x y, x ∈ o → y ∈ o → μ x = μ y → sg T μ o x = sg T μ o y) : Disc μ T := by
  have mem : ∀ x, Rch T x → x ∈ o := fun x ⟨b, hb⟩ => hb ▸ ha b
  have key : ∀ (c : List Step) x y, x ∈ o → y ∈ o → μ x = μ y → (plug T c x ∈ T.acc ↔ plug T c y ∈ T.acc) := by
    intro c
    induction c with
    | nil => exact fun x y hx hy e => g.fine x y hx hy e
    | cons s c ih =>
      intro x y hx hy e
      have q := (sg_eq.mp (h x y hx hy e)).2 s.row (st T s.o) (ha s.o)
      have m : ∀ z, z ∈ o → stp T s z ∈ o := fun z hz => by
        unfold stp
        split
        · exact mem _ ((hr z hz).op s.row ⟨s.o, rfl⟩)
        · exact mem _ (Rch.op s.row ⟨s.o, rfl⟩ (hr z hz))
      refine ih _ _ (m x hx) (m y hy) ?_
      unfold stp
      split
      · exact q.1
      · exact q.2
  intro x y hx hy
  refine ⟨fun e => funext fun c => decide_eq_decide.mpr (key c x y (mem x hx) (mem y hy) e), g.coarse x y (mem x hx) (mem y hy)⟩
/-- one more turn that tells no more apart: done -/
theorem good_done {μ μ' : Nat → Nat} (g : Good T o μ) (h : ∀ x y, x ∈ o → y ∈ o → (μ' x = μ' y ↔ sg T μ o x = sg T μ o y)) (hc : cnt μ' o ≤ cnt μ o) : Disc μ' T := by
  have h1 : ∀ x y, x ∈ o → y ∈ o → μ' x = μ' y → μ x = μ y := fun x y hx hy e => (sg_eq.mp ((h x y hx hy).mp e)).1
  have h2 := cnt_stable h1 hc
  have d := good_disc hr ha g fun x y hx hy e => (h x y hx hy).mp (h2 x y hx hy e)
  have mem : ∀ x, Rch T x → x ∈ o := fun x ⟨b, hb⟩ => hb ▸ ha b
  exact fun x y hx hy => ⟨fun e => (d x y hx hy).mp (h1 x y (mem x hx) (mem y hy) e), fun e => h2 x y (mem x hx) (mem y hy) ((d x y hx hy).mpr e)⟩
end

/-! ### the table read off the first states -/
def foundT (μ : Nat → Nat) (T : Tb) (ds : List Nat) : Tb where
  tie := μ T.tie
  gap := μ T.gap
  rows := ds.map fun a => ds.map fun b => μ (T.R a b)
  sides := ds.map fun a => ds.map fun b => μ (T.S a b)
  acc := (List.range ds.length).filter fun i => decide (ds.getD i 0 ∈ T.acc)
theorem found_cell {μ : Nat → Nat} {T : Tb} {ds : List Nat} (r : Bool) {i j a b : Nat} (ea : ds[i]? = some a) (eb : ds[j]? = some b) : op (foundT μ T ds) r i j = μ (op T r a b) := by
  have key : ∀ f : Nat → Nat → Nat, cell (ds.map fun a => ds.map fun b => f a b) i j = f a b := by
    intro f
    unfold cell
    rw [List.getD_eq_getElem?_getD, List.getD_eq_getElem?_getD, List.getElem?_map, ea, Option.map_some, Option.getD_some, List.getElem?_map, eb, Option.map_some, Option.getD_some]
  cases r
  · exact key _
  · exact key _
theorem found_n (μ : Nat → Nat) (T : Tb) (ds : List Nat) : (foundT μ T ds).n = ds.length := by unfold Tb.n foundT; rw [List.length_map]
section
variable {T : Tb} (ok : T.Ok) {μ : Nat → Nat} (d : Disc μ T) {κ : Nat → Nat × List (List Nat)} (hμ : μ = ren κ (ordOf id T))
include ok hμ
theorem found_ok : (foundT μ T (reps μ (ordOf id T))).Ok := by
  have e1 : reps μ (ordOf id T) = reps κ (ordOf id T) := by rw [hμ, reps_ren]
  have lt : ∀ x ∈ ordOf id T, μ x < (reps μ (ordOf id T)).length := fun x hx => by rw [e1, hμ]; exact ren_lt hx
  have sq : ∀ r : Bool, Square (foundT μ T (reps μ (ordOf id T))).n ((reps μ (ordOf id T)).map fun a => (reps μ (ordOf id T)).map fun b => μ (op T r a b)) := by
    intro r
    rw [found_n]
    refine ⟨by rw [List.length_map], fun l hl => ?_, fun l hl x hx => ?_⟩
    · obtain ⟨a, _, rfl⟩ := List.mem_map.mp hl; rw [List.length_map]
    · obtain ⟨a, ha, rfl⟩ := List.mem_map.mp hl
      obtain ⟨b, hb, rfl⟩ := List.mem_map.mp hx
      refine lt _ ?_
      have := ord_op ok id r (reps_sub a ha) (reps_sub b hb)
      rwa [List.map_id] at this
  refine ⟨sq true, sq false, ?_, ?_, ?_, List.Pairwise.filter _ List.pairwise_lt_range⟩
  · rw [found_n]; exact lt _ (met_all ok .tie)
  · rw [found_n]; exact lt _ (met_all ok .gap)
  · intro x hx
    rw [found_n]
    exact List.mem_range.mp (List.mem_filter.mp hx).1
theorem found_le : (foundT μ T (reps μ (ordOf id T))).n ≤ T.n := by
  rw [found_n]
  exact Nat.le_trans (cnt_len μ _) (ord_le ok id)
theorem found_rep {x : Nat} (hx : x ∈ ordOf id T) : ∃ y, (reps μ (ordOf id T))[μ x]? = some y ∧ μ y = μ x := by
  have e1 : reps μ (ordOf id T) = reps κ (ordOf id T) := by rw [hμ, reps_ren]
  have hl : μ x < (reps μ (ordOf id T)).length := by rw [e1, hμ]; exact ren_lt hx
  refine ⟨_, List.getElem?_eq_getElem hl, ?_⟩
  have h2 : (reps κ (ordOf id T))[μ x]? = some ((reps μ (ordOf id T))[μ x]) := by rw [← e1]; exact List.getElem?_eq_getElem hl
  have := ren_reps h2
  rw [← hμ] at this
  exact this
include d
theorem found_st (b : Bld) : st (foundT μ T (reps μ (ordOf id T))) b = μ (st T b) := by
  have key : ∀ (r : Bool) (a b : Bld), st (foundT μ T (reps μ (ordOf id T))) a = μ (st T a) → st (foundT μ T (reps μ (ordOf id T))) b = μ (st T b) → st (foundT μ T (reps μ (ordOf id T))) (jn r a b) = μ (st T (jn r a b)) := by
    intro r a b ha hb
    obtain ⟨x, ex, kx⟩ := found_rep ok hμ (met_all ok a)
    obtain ⟨y, ey, ky⟩ := found_rep ok hμ (met_all ok b)
    rw [st_jn, st_jn, ha, hb, found_cell r ex ey]
    exact disc_op d r _ _ _ _ (ord_rch id _ (reps_sub _ (List.mem_of_getElem? ex))) (ord_rch id _ (reps_sub _ (List.mem_of_getElem? ey))) ⟨a, rfl⟩ ⟨b, rfl⟩ kx ky
  induction b with
  | tie => rfl
  | gap => rfl
  | row a b iha ihb => exact key true a b iha ihb
  | side a b iha ihb => exact key false a b iha ihb
theorem found_same : Same T (foundT μ T (reps μ (ordOf id T))) := fun b => by
  obtain ⟨x, ex, kx⟩ := found_rep ok hμ (met_all ok b)
  rw [found_st ok d hμ b]
  show _ ↔ μ (st T b) ∈ List.filter _ _
  rw [List.mem_filter, List.mem_range, List.getD_eq_getElem?_getD, ex, Option.getD_some, decide_eq_true_iff]
  have e := acc_beh ((d x (st T b) (ord_rch id _ (reps_sub _ (List.mem_of_getElem? ex))) ⟨b, rfl⟩).mp kx)
  exact ⟨fun h => ⟨(List.getElem?_eq_some_iff.mp ex).1, e.mpr h⟩, fun h => e.mp h.2⟩
theorem found_disc : Disc id (foundT μ T (reps μ (ordOf id T))) := by
  rintro i j ⟨a, rfl⟩ ⟨b, rfl⟩
  have s := found_same ok d hμ
  rw [← s.beh a, ← s.beh b, ← d _ _ ⟨a, rfl⟩ ⟨b, rfl⟩, found_st ok d hμ a, found_st ok d hμ b]
  rfl
/-- the table found, numbered anew, is the least one -/
theorem found_least : Least T (least id (foundT μ T (reps μ (ordOf id T)))) :=
  ⟨μ, d, (least_eq ok (found_ok ok hμ) d (found_disc ok d hμ) (found_same ok d hμ)).symm⟩
end
end K46
set_option Elab.async false
set_option linter.all false
set_option autoImplicit false
set_option maxRecDepth 100000
namespace K46
open PySem PySem.Spec PyProof.Rows L2 Evl
set_option maxHeartbeats 4000000
/-- the dict of marks -/
def md (μ : Nat → Nat) (o : List Nat) : List (Key × V) := o.map fun (x : Nat) => ((Sum.inl (x : Int) : Key), nV (μ x))
theorem md_val {μ : Nat → Nat} : ∀ {o : List Nat} {x : Nat}, x ∈ o → valV (md μ o) (Sum.inl (x : Int)) = some (nV (μ x))
  | y :: o, x, h => by
    unfold md
    rw [List.map_cons]
    by_cases e : y = x
    · subst e
      exact valV_pos rfl
    · rw [valV_neg (fun q => e (by have := Sum.inl.inj q; omega))]
      refine md_val ?_
      rcases List.mem_cons.mp h with q | q
      · exact absurd q.symm e
      · exact q
theorem md_none {μ : Nat → Nat} : ∀ {o : List Nat} {x : Nat}, x ∉ o → valV (md μ o) (Sum.inl (x : Int)) = none
  | [], _, _ => rfl
  | y :: o, x, h => by
    unfold md
    rw [List.map_cons, valV_neg (fun q => h (by have := Sum.inl.inj q; rw [show y = x by omega]; exact List.mem_cons_self))]
    exact md_none fun q => h (List.mem_cons_of_mem _ q)
theorem md_put {μ : Nat → Nat} {o : List Nat} {x : Nat} (h : x ∉ o) : putK (md μ o) (Sum.inl (x : Int)) (nV (μ x)) = md μ (o ++ [x]) := by
  rw [putK_new _ (md_none h)]
  unfold md
  rw [List.map_append]; rfl
theorem md_keys (μ : Nat → Nat) (o : List Nat) : (md μ o).map (fun kv => kV kv.1) = o.map nV := by unfold md; rw [List.map_map]; rfl
theorem md_vals (μ : Nat → Nat) (o : List Nat) : (md μ o).map (·.2) = o.map fun x => nV (μ x) := by unfold md; rw [List.map_map]; rfl
theorem md_len (μ : Nat → Nat) (o : List Nat) : (md μ o).length = o.length := List.length_map _
theorem dget_md {H : Hp} {d : Addr} {μ : Nat → Nat} {o : List Nat} {x : Nat} (h : Rd H d (.dK (md μ o))) (hx : x ∈ o) : ∀ H1, Ex H H1 → DGet H1 d (nV x) (some (nV (μ x))) := fun H1 e => .inl ⟨md μ o, Sum.inl (x : Int), ex_rd e h, rfl, (md_val hx).symm⟩
section
variable {P : Program} {w : World} {K : PySem.W.Frag} {mg : Str → Option Value} {base : Heap}
abbrev sSigns : Stmt := top 30
def spSigns (K : PySem.W.Frag) : Sp := fun vs H Q _ => ∃ (v : V) (d : Addr) (od : Obj) (T : Tb) (μ : Nat → Nat) (x : Nat), vs = [v, .ref d, nV x] ∧ PartsAt K H v T ∧ T.Ok ∧ T.n ≤ 400 ∧ H d = some (.frz od (.dK (md μ (ordOf id T)))) ∧ x ∈ ordOf id T ∧
  ∀ p H', H p = none → Ex H H' → SigAt H' p (sg T μ (ordOf id T) x) → Q (.ref p) H'
abbrev nSigns : List Str := ["parts", "marks", "state", "rows", "sides", "first", "second", "third", "other"]
theorem scSigns : FnScope nSigns ["parts", "marks", "state"] (defScope sSigns) := ⟨rfl, rfl, rfl, by decide +kernel, rfl, by decide +kernel, by decide +kernel⟩
abbrev tSgC (K : PySem.W.Frag) (j a b : Nat) : TE := tDGet (tVar 1) (tOp (rIx K) (tOp (rIx K) (tVar j) (tVar a)) (tVar b))
/-- tuple([marks[m[..][..]] for other in marks]) -/
theorem eu_signs {H : Hp} {d : Addr} {od : Obj} {μ : Nat → Nat} {o : List Nat} {x0 x2 x3 x4 x5 x6 x7 : Option V} {te : TE} {f : Nat → Nat} (hd : H d = some (.frz od (.dK (md μ o)))) (hl : o.length ≤ 400)
    (he : ∀ z ∈ o, Ev te [x0, some (.ref d), x2, x3, x4, x5, x6, x7, some (nV z)] H (nV (f z))) :
    EvU (tCB (rTup K) (tCons (tLc (iKeys (tVar 1)) (gName 8) tYes te [8]) tNil)) [x0, some (.ref d), x2, x3, x4, x5, x6, x7, none] H ((o.map f).map nV) := by
  refine eu_tupL ?_
  have e := elv_lc (te := te) (vs := [8]) (g := gName 8) (tt := tYes) (fun _ => true) (fun i => nV (f (o.getD i 0))) (over_keys (σ := [x0, some (.ref d), x2, x3, x4, x5, x6, x7, none]) (td := tVar 1) (ev_var rfl) hd).over (by rw [md_len]; omega) yAt_ex (fun i x H1 H2 hi e1 hy => ?_)
  · rw [given_all, md_len, map_range_get (xs := o) (fun x => nV (f x)) (fun i => nV (f (o.getD i 0))) (fun i x hx => by rw [List.getD_eq_getElem?_getD, hx]; rfl)] at e
    rw [List.map_map]
    exact e
  obtain ⟨rfl, hx⟩ := hy
  rw [md_keys, List.getElem?_map] at hx
  obtain ⟨z, hz, rfl⟩ := Option.map_eq_some_iff.mp hx
  have ez : o.getD i 0 = z := by rw [List.getD_eq_getElem?_getD, hz]; rfl
  rw [ez]
  exact ⟨[x0, some (.ref d), x2, x3, x4, x5, x6, x7, some (nV z)], rfl, fun Qs h => h, fun H3 _ Q q => q H3 (Ex.refl _), fun _ => (he z (List.mem_of_getElem? hz)).mono e1⟩
theorem g_two' {i j : Nat} {p : Addr} {a b : V} {σ : L2.St} {H : Hp} {Qs : L2.St → Hp → Prop} (hp : H p = some (.tup [a, b])) (h : Qs ((σ.set i (some a)).set j (some b)) H) : gTup K 2 (gCons (gName i) (gCons (gName j) gNil)) (.ref p) σ H Qs := g_two hp h
theorem q_asgG {te : TE} {g : TG} {tz : TS} {D : Ends} {σ : L2.St} {H : Hp} {o : HO} (h : EvO te σ H o) (k : ∀ p H1, H p = none → Ex H H1 → H1 p = some o → g (.ref p) σ H1 fun σ2 H2 => tz D σ2 H2) : tSeq (tAsg te g) tz D σ H := h H (Ex.refl H) _ k
theorem ok_signs (B : Free mg) (F : FnG K "signs_of" sSigns) (hm : mg "signs_of" = some (.ref (He.ga K "signs_of"))) : Pr P w K mg base 1 "signs_of" ["parts", "marks", "state"] (spSigns K) := by
  refine pr_mk F hm scSigns (fun _ _ _ _ _ _ us hl => match us, hl with | [_, _, _], _ => rfl) (fun vs H Q E h => ?_) (fun f cdv A outer s H vs Q E hr h => ?_)
  · obtain ⟨v, d, od, T, μ, x, rfl, _⟩ := h
    rfl
  · obtain ⟨v, d, od, T, μ, x, rfl, ⟨r, t, a, hv, h1, h2, h3⟩, ok, hn, hd, hx, k⟩ := h
    have hu := hu_of hr
    refine ⟨_, pss_cons (ps_asg (pe_tup (pa_cons (pe_ix ix_seq (pv 0) pe_int (fun _ _ => rfl)) (pa_cons (pe_ix ix_seq (pv 0) pe_int (fun _ _ => rfl)) pa_nil))) (pg_tup rfl (pgs_cons (pg_name (i := 3) scSigns.nd rfl (Or.inr rfl)) (pgs_cons (pg_name (i := 4) scSigns.nd rfl (Or.inr rfl)) pgs_nil))))
      (pss_cons (ps_set (i := 5) scSigns.nd rfl (Or.inl rfl) (pe_callTy call_tuple_of (by rfl) B.tuple b_tuple (pa_cons
        (pe_lc (own := [("other", 8)]) (g := gName 8) (tt := tYes) (te := tSgC K 3 2 8) rfl scSigns.nd (pi_keys (pv 1)) (blkOk_by (by kernel_rfl)) (fun _ _ _ _ _ => pg_name (i := 8) scSigns.nd rfl (Or.inl rfl)) (fun _ _ _ _ _ => pts_nil)
          (fun _ _ _ _ _ => pe_dget hu (pv 1) (pe_ix ix_seq (pe_ix ix_seq (pv 3) (pv 2) (fun _ _ => rfl)) (pv 8) (fun _ _ => rfl)) (fun _ _ => rfl))) pa_nil)))
      (pss_cons (ps_set (i := 6) scSigns.nd rfl (Or.inl rfl) (pe_callTy call_tuple_of (by rfl) B.tuple b_tuple (pa_cons
        (pe_lc (own := [("other", 8)]) (g := gName 8) (tt := tYes) (te := tSgC K 3 8 2) rfl scSigns.nd (pi_keys (pv 1)) (blkOk_by (by kernel_rfl)) (fun _ _ _ _ _ => pg_name (i := 8) scSigns.nd rfl (Or.inl rfl)) (fun _ _ _ _ _ => pts_nil)
          (fun _ _ _ _ _ => pe_dget hu (pv 1) (pe_ix ix_seq (pe_ix ix_seq (pv 3) (pv 8) (fun _ _ => rfl)) (pv 2) (fun _ _ => rfl)) (fun _ _ => rfl))) pa_nil)))
      (pss_cons (ps_set (i := 7) scSigns.nd rfl (Or.inl rfl) (pe_callTy call_tuple_of (by rfl) B.tuple b_tuple (pa_cons
        (pe_lc (own := [("other", 8)]) (g := gName 8) (tt := tYes) (te := tSgC K 4 2 8) rfl scSigns.nd (pi_keys (pv 1)) (blkOk_by (by kernel_rfl)) (fun _ _ _ _ _ => pg_name (i := 8) scSigns.nd rfl (Or.inl rfl)) (fun _ _ _ _ _ => pts_nil)
          (fun _ _ _ _ _ => pe_dget hu (pv 1) (pe_ix ix_seq (pe_ix ix_seq (pv 4) (pv 2) (fun _ _ => rfl)) (pv 8) (fun _ _ => rfl)) (fun _ _ => rfl))) pa_nil)))
      (pss_one (ps_ret (pe_tup (pa_cons (pe_dget hu (pv 1) (pv 2) (fun _ _ => rfl)) (pa_cons (pv 5) (pa_cons (pv 6) (pa_cons (pv 7) (pa_cons (pe_callTy call_tuple_of (by rfl) B.tuple b_tuple (pa_cons
        (pe_lc (own := [("other", 8)]) (g := gName 8) (tt := tYes) (te := tSgC K 4 8 2) rfl scSigns.nd (pi_keys (pv 1)) (blkOk_by (by kernel_rfl)) (fun _ _ _ _ _ => pg_name (i := 8) scSigns.nd rfl (Or.inl rfl)) (fun _ _ _ _ _ => pts_nil)
          (fun _ _ _ _ _ => pe_dget hu (pv 1) (pe_ix ix_seq (pe_ix ix_seq (pv 4) (pv 8) (fun _ _ => rfl)) (pv 2) (fun _ _ => rfl)) (fun _ _ => rfl))) pa_nil)) pa_nil))))))))))), ?_⟩
    have hle : (ordOf id T).length ≤ 400 := Nat.le_trans (ord_le ok id) hn
    have lt : ∀ z ∈ ordOf id T, z < T.n := fun z hz => (ord_rch id z hz).lt ok
    have cl : ∀ (r : Bool) y z, y ∈ ordOf id T → z ∈ ordOf id T → op T r y z ∈ ordOf id T := fun r y z hy hz => by
      have := ord_op ok id r hy hz
      rwa [List.map_id] at this
    have rd : ∀ {H' : Hp}, Ex H H' → Rd H' d (.dK (md μ (ordOf id T))) := fun e => .inr ⟨od, e _ _ hd⟩
    refine q_asgG (eo_U (eu_tup (ea_cons (ev_ix (i := 2) (ev_var rfl) ev_c (TupV.sq hv) rfl) (ea_cons (ev_ix (i := 3) (ev_var rfl) ev_c (TupV.sq hv) rfl) ea_nil)) (by simp))) fun p0 H1 hp0 e1 h01 => g_two h01 ?_
    have cellEv : ∀ {σ : L2.St} {H' : Hp} {j a b y z : Nat} {u : V} {m : List (List Nat)} (r : Bool), Ex H H' → σ[1]? = some (some (.ref d)) → σ[j]? = some (some u) → Mat K H u m → Square T.n m → cell m = op T r → σ[a]? = some (some (nV y)) → σ[b]? = some (some (nV z)) → y ∈ ordOf id T → z ∈ ordOf id T →
        Ev (tSgC K j a b) σ H' (nV (μ (op T r y z))) := fun {σ H' j a b y z u m} r e s1 sj hm' sq em sa sb hy hz => by
      refine ev_dget (ev_var s1) (ev_cell (ev_var sj) (ev_var sa) (ev_var sb) (hm'.mono e) sq (lt y hy) (lt z hz)) ?_
      rw [em]
      exact dget_md (rd e) (cl r y z hy hz)
    refine q_asgO (eo_U (eu_signs (f := fun z => μ (op T true x z)) (e1 _ _ hd) hle fun z hz => cellEv true e1 rfl rfl h1 ok.rows rfl rfl rfl hx hz)) fun p1 H2 hp1 e2 h12 => ?_
    have e12 := e1.trans e2
    refine q_asgO (eo_U (eu_signs (f := fun z => μ (op T true z x)) (e12 _ _ hd) hle fun z hz => cellEv true e12 rfl rfl h1 ok.rows rfl rfl rfl hz hx)) fun p2 H3 hp2 e3 h23 => ?_
    have e13 := e12.trans e3
    refine q_asgO (eo_U (eu_signs (f := fun z => μ (op T false x z)) (e13 _ _ hd) hle fun z hz => cellEv false e13 rfl rfl h2 ok.sides rfl rfl rfl hx hz)) fun p3 H4 hp3 e4 h34 => ?_
    have e14 := e13.trans e4
    refine s_retP (P := fun u H' => ∃ p, u = .ref p ∧ H4 p = none ∧ SigAt H' p (sg T μ (ordOf id T) x)) ?_ fun u H5 e5 ⟨p, hp, hf, hs⟩ => ?_
    · intro H5 e5 Q' q'
      refine ev_dget (v := nV (μ x)) (ev_var rfl) (ev_var rfl) (dget_md (rd e14) hx) H5 e5 _ fun H6 e6 => ?_
      refine ⟨_, rfl, ⟨_, rfl, ⟨_, rfl, ?_⟩⟩⟩
      refine eu_signs (f := fun z => μ (op T false z x)) (e14 _ _ hd) hle (fun z hz => cellEv false e14 rfl rfl h2 ok.sides rfl rfl rfl hz hx) H6 (e5.trans e6) _ fun p4 H7 hp4 e7 h7 => ?_
      refine ⟨by show 5 ≤ sizeLine; decide, fun p hp => q' _ _ ((e6.trans e7).trans (Ex.new hp)) ⟨p, rfl, fresh_back ((e5.trans e6).trans e7) hp, [p1, p2, p3, p4], upd_same, ?_⟩⟩
      have e67 := (e5.trans e6).trans e7
      have up : ∀ {q : Addr} {l : List Nat}, H7 q = some (.tup (l.map nV)) → (upd H7 p (.tup [nV (μ x), .ref p1, .ref p2, .ref p3, .ref p4])) q = some (.tup (l.map nV)) := fun h => by rw [upd_ne (ne_of_none h hp)]; exact h
      exact .cons (up (e67 _ _ (e4 _ _ (e3 _ _ h12)))) (.cons (up (e67 _ _ (e4 _ _ h23))) (.cons (up (e67 _ _ h34)) (.cons (up h7) .nil)))
    · subst hp
      exact k p H5 (fresh_back e14 hf) (e14.trans e5) hs
end
end K46
set_option Elab.async false
set_option linter.all false
set_option autoImplicit false
set_option maxRecDepth 100000
namespace K46
open PySem PySem.Spec PyProof.Rows L2 Evl
set_option maxHeartbeats 4000000
/-! ### one dict is locked, changed: what else stands -/
theorem ExB.rd {d : Addr} {H H' : Hp} {z u : HO} {a : Addr} (e : ExB [d] H H') (hd : H d = some z) (hz : z ≠ u) (hz2 : ∀ o, z ≠ .frz o u) (h : Rd H a u) : Rd H' a u := by
  have ne : ∀ {y : HO}, H a = some y → z ≠ y → a ∉ [d] := fun h1 h2 m => by
    rw [List.mem_singleton.mp m, hd] at h1
    exact h2 (Option.some.inj h1)
  rcases h with h | ⟨o, h⟩
  · exact .inl (e a _ (ne h hz) h)
  · exact .inr ⟨o, e a _ (ne h (hz2 o)) h⟩
theorem Sq.monoB {K : PySem.W.Frag} {d : Addr} {H H' : Hp} {kvs : List (Key × V)} {v : V} {xs : List V} (h : Sq K H v xs) (e : ExB [d] H H') (hd : H d = some (.dK kvs)) : Sq K H' v xs := by
  obtain ⟨a, rfl, h⟩ := h
  refine ⟨a, rfl, h.imp (fun h => ?_) fun h => ?_⟩
  · exact h.imp (e.rd hd (by intro z; cases z) (fun o z => by cases z)) id
  · exact h.imp (e.rd hd (by intro z; cases z) (fun o z => by cases z)) id
theorem TupV.monoB {d : Addr} {H H' : Hp} {kvs : List (Key × V)} {v : V} {xs : List V} (h : TupV H v xs) (e : ExB [d] H H') (hd : H d = some (.dK kvs)) : TupV H' v xs := by
  obtain ⟨a, rfl, h⟩ := h
  refine ⟨a, rfl, e a _ (fun m => ?_) h⟩
  rw [List.mem_singleton.mp m, hd] at h
  cases h
theorem PartsAt.monoB {K : PySem.W.Frag} {d : Addr} {H H' : Hp} {kvs : List (Key × V)} {v : V} {T : Tb} (h : PartsAt K H v T) (e : ExB [d] H H') (hd : H d = some (.dK kvs)) : PartsAt K H' v T := by
  obtain ⟨r, s, a, h1, ⟨rs, h2, h2'⟩, ⟨ss, h3, h3'⟩, h4⟩ := h
  exact ⟨r, s, a, h1.monoB e hd, ⟨rs, h2.monoB e hd, paired_mono (fun _ _ q => Sq.monoB q e hd) h2'⟩, ⟨ss, h3.monoB e hd, paired_mono (fun _ _ q => Sq.monoB q e hd) h3'⟩, Sq.monoB h4 e hd⟩
theorem lock_ex {H H' : Hp} {d : Addr} {u : HO} {od : Obj} (hd : H d = some u) (e : Ex (upd H d (.frz od u)) H') : Ex H (upd H' d u) := fun a o h => by
  by_cases q : a = d
  · subst q
    rw [hd] at h
    cases h
    exact upd_same
  · rw [upd_ne q]
    exact e a o (by rw [upd_ne q]; exact h)
theorem ExB.upd1 {H : Hp} {d : Addr} {z : HO} : ExB [d] H (L2.upd H d z) := ExB.upd (ExB.refl H) List.mem_cons_self
theorem SigAt.updN {H : Hp} {N p : Addr} {k : Sg} {z y : HO} (h : SigAt H p k) (hN : H N = some y) (hy : ∀ xs, y ≠ .tup xs) : SigAt (upd H N z) p k := by
  obtain ⟨ps, h1, h2⟩ := h
  have ne : ∀ {a : Addr} {xs : List V}, H a = some (.tup xs) → a ≠ N := fun h q => by
    rw [q, hN] at h
    exact hy _ (Option.some.inj h)
  exact ⟨ps, by rw [upd_ne (ne h1)]; exact h1, paired_mono (fun a b q => by rw [upd_ne (ne q)]; exact q) h2⟩
/-! ### the numbers of the signs -/
def ixOf {β : Type} [DecidableEq β] (l : List β) (k : β) : Nat := l.idxOf k
theorem ixOf_self {β : Type} [DecidableEq β] (k : β) (l : List β) : ixOf (k :: l) k = 0 := List.idxOf_cons_self
theorem ixOf_ne {β : Type} [DecidableEq β] {k x : β} (l : List β) (h : x ≠ k) : ixOf (x :: l) k = ixOf l k + 1 := by
  unfold ixOf
  rw [List.idxOf_cons, show (x == k) = false from beq_eq_false_iff_ne.mpr h]; rfl
theorem ixOf_app {β : Type} [DecidableEq β] {k : β} {l m : List β} (h : k ∈ l) : ixOf (l ++ m) k = ixOf l k := by
  unfold ixOf
  rw [List.idxOf_append, if_pos h]
theorem lookN_from : ∀ (L : List Ent) (s : Nat) (k : Sg), L.map (·.2.2) = List.range' s L.length → lookN L k = if k ∈ L.map (·.1) then some (s + ixOf (L.map (·.1)) k) else none
  | [], _, _, _ => rfl
  | x :: L, s, k, h => by
    rw [List.map_cons, List.length_cons, List.range'_succ] at h
    injection h with h1 h2
    rw [List.map_cons]
    by_cases e : x.1 = k
    · rw [if_pos (by rw [e]; exact List.mem_cons_self)]
      unfold lookN
      rw [List.find?_cons_of_pos (by exact decide_eq_true e), Option.map_some, h1, e, ixOf_self]; rfl
    · have e1 : lookN (x :: L) k = lookN L k := by unfold lookN; rw [List.find?_cons_of_neg (by simpa using e)]
      rw [e1, lookN_from L (s + 1) k h2]
      by_cases m : k ∈ L.map (·.1)
      · rw [if_pos m, if_pos (List.mem_cons_of_mem _ m), ixOf_ne _ e]
        congr 1; omega
      · rw [if_neg m, if_neg (fun z => by rcases List.mem_cons.mp z with q | q; exact e q.symm; exact m q)]
/-- the entries hold the first signs of o, numbered -/
structure Numd (κ : Nat → Sg) (o : List Nat) (L : List Ent) : Prop where
  keys : L.map (·.1) = (reps κ o).map κ
  vals : L.map (·.2.2) = List.range L.length
theorem Numd.len {κ : Nat → Sg} {o : List Nat} {L : List Ent} (h : Numd κ o L) : L.length = (reps κ o).length := by
  have := congrArg List.length h.keys
  rwa [List.length_map, List.length_map] at this
theorem Numd.look {κ : Nat → Sg} {o : List Nat} {L : List Ent} (h : Numd κ o L) (k : Sg) : lookN L k = if k ∈ (reps κ o).map κ then some (ixOf ((reps κ o).map κ) k) else none := by
  have := lookN_from L 0 k (by rw [h.vals, List.range_eq_range'])
  rw [this, h.keys, Nat.zero_add]
theorem reps_snoc (κ : Nat → Sg) (o : List Nat) (x : Nat) : reps κ (o ++ [x]) = push κ (reps κ o) x := by unfold reps; rw [List.foldl_append]; rfl
theorem Numd.old {κ : Nat → Sg} {o : List Nat} {L : List Ent} (h : Numd κ o L) {x : Nat} (m : κ x ∈ (reps κ o).map κ) : Numd κ (o ++ [x]) L := by
  have e : reps κ (o ++ [x]) = reps κ o := by rw [reps_snoc]; unfold push; rw [if_pos m]
  exact ⟨by rw [e]; exact h.keys, h.vals⟩
theorem Numd.new {κ : Nat → Sg} {o : List Nat} {L : List Ent} (h : Numd κ o L) {x : Nat} {p : Addr} (m : κ x ∉ (reps κ o).map κ) : Numd κ (o ++ [x]) (L ++ [(κ x, p, L.length)]) := by
  have e : reps κ (o ++ [x]) = reps κ o ++ [x] := by rw [reps_snoc]; unfold push; rw [if_neg m]
  refine ⟨by rw [e, List.map_append, List.map_append, h.keys]; rfl, ?_⟩
  rw [List.map_append, List.length_append, h.vals, List.length_singleton, List.range_succ]; rfl
/-- the number that it gets -/
theorem Numd.at {κ : Nat → Sg} {o o' : List Nat} {x : Nat} {L : List Ent} (h : Numd κ (o' ++ [x]) L) (hp : o' ++ [x] <+: o) : lookN L (κ x) = some (ren κ o x) := by
  have hx : κ x ∈ (reps κ (o' ++ [x])).map κ := reps_has (by simp)
  rw [h.look, if_pos hx]
  obtain ⟨t, rfl⟩ := hp
  have pre : reps κ (o' ++ [x]) <+: reps κ (o' ++ [x] ++ t) := by
    have : reps κ (o' ++ [x] ++ t) = t.foldl (push κ) (reps κ (o' ++ [x])) := by unfold reps; rw [List.foldl_append]
    rw [this]
    exact pushes_prefix _ _
  obtain ⟨s, hs⟩ := pre
  show some (ixOf _ _) = some (ixOf ((reps κ (o' ++ [x] ++ t)).map κ) (κ x))
  rw [← hs, List.map_append, ixOf_app hx]
section
variable {P : Program} {w : World} {K : PySem.W.Frag} {σ : L2.St} {H H' : Hp} {ta tb td ty te tk tv : TE} {v x y z : V} {D : Ends} {tz : TS} {d p : Addr} {L : List Ent} {k : Sg}
theorem eo_dnew : EvO tDNewK σ H (.dK []) := fun H1 e Q q p hp => q p _ hp (Ex.new hp) upd_same
theorem et_dnNot {c : Bool} (hk : Ev ty σ H (.ref p)) (hd : Ev td σ H (.ref d)) (h : H d = some (Dn P w d L)) (ok : DnOk H L) (hs : SigAt H p k) (ho : (!(lookN L k).isSome) = c) : EvT (tB (tDnNot P w ty td)) σ H c := fun H1 e Q q =>
  hk H1 e _ fun H2 e2 => hd H2 (e.trans e2) _ fun H3 e3 => ⟨d, p, L, k, rfl, rfl, ((e.trans e2).trans e3) _ _ h, ok.mono ((e.trans e2).trans e3), hs.mono ((e.trans e2).trans e3), c, by rw [ho], q H3 (e2.trans e3)⟩
theorem ev_dnGet {n : Nat} (hd : Ev td σ H (.ref d)) (hk : Ev ty σ H (.ref p)) (h : H d = some (Dn P w d L)) (ok : DnOk H L) (hs : SigAt H p k) (hl : lookN L k = some n) : Ev (tDnGet P w td ty) σ H (nV n) := fun H1 e Q q =>
  hd H1 e _ fun H2 e2 => hk H2 (e.trans e2) _ fun H3 e3 => ⟨d, p, L, k, n, rfl, rfl, ((e.trans e2).trans e3) _ _ h, ok.mono ((e.trans e2).trans e3), hs.mono ((e.trans e2).trans e3), hl, q H3 (e2.trans e3)⟩
theorem s_dnPut {n : Nat} (hv : Ev tv σ H (nV n)) (hd : Ev td σ H (.ref d)) (hk : Ev ty σ H (.ref p)) (h : H d = some (Dn P w d L)) (ok : DnOk H L) (hs : SigAt H p k) (hl : lookN L k = none) (hz : L.length < sizeLine)
    (q : ∀ H1, Ex H H1 → D.nx σ (upd H1 d (Dn P w d (L ++ [(k, p, n)])))) : sDnPut P w td ty tv D σ H :=
  hv H (Ex.refl _) _ fun H1 e1 => hd H1 e1 _ fun H2 e2 => hk H2 (e1.trans e2) _ fun H3 e3 => ⟨d, p, L, k, n, rfl, rfl, rfl, ((e1.trans e2).trans e3) _ _ h, ok.mono ((e1.trans e2).trans e3), hs.mono ((e1.trans e2).trans e3), hl, hz, q H3 ((e1.trans e2).trans e3)⟩
theorem ev_lenDn (ha : Ev ta σ H (.ref d)) (h : H d = some (Dn P w d L)) (ok : DnOk H L) : Ev (tCB (rLenDn P w) (tCons ta tNil)) σ H (nV L.length) := fun H1 e Q q =>
  ha H1 e _ fun H2 e2 => ⟨d, L, rfl, (e.trans e2) _ _ h, ok.mono (e.trans e2), q H2 e2⟩
end
section
variable {P : Program} {w : World} {K : PySem.W.Frag} {mg : Str → Option Value} {base : Heap}
abbrev sAnew : Stmt := top 31
def spAnew (K : PySem.W.Frag) : Sp := fun vs H Q _ => ∃ (v : V) (d : Addr) (T : Tb) (μ : Nat → Nat), vs = [v, .ref d] ∧ PartsAt K H v T ∧ T.Ok ∧ T.n ≤ 400 ∧ H d = some (.dK (md μ (ordOf id T))) ∧
  ∀ p H', H p = none → Ex H H' → H' p = some (.dK (md (ren (sg T μ (ordOf id T)) (ordOf id T)) (ordOf id T))) → Q (.ref p) H'
abbrev nAnew : List Str := ["parts", "marks", "numbers", "found", "state", "signs"]
theorem scAnew : FnScope nAnew ["parts", "marks"] (defScope sAnew) := ⟨rfl, rfl, rfl, by decide +kernel, rfl, by decide +kernel, by decide +kernel⟩
theorem ok_anew (B : Free mg) (F : FnG K "marked_anew" sAnew) (hm : mg "marked_anew" = some (.ref (He.ga K "marked_anew"))) (Fs : Pr P w K mg base 1 "signs_of" ["parts", "marks", "state"] (spSigns K)) : Pr P w K mg base 2 "marked_anew" ["parts", "marks"] (spAnew K) := by
  refine pr_mk F hm scAnew (fun _ _ _ _ _ _ us hl => match us, hl with | [_, _], _ => rfl) (fun vs H Q E h => ?_) (fun f cdv A outer s H vs Q E hr h => ?_)
  · obtain ⟨v, d, T, μ, rfl, _⟩ := h
    rfl
  · obtain ⟨v, d, T, μ, rfl, hP, ok, hn, hd, k⟩ := h
    have hu := hu_of hr
    have h64 := hr.units
    refine ⟨_, pss_cons (ps_set (i := 2) scAnew.nd rfl (Or.inl rfl) pe_dnewK)
      (pss_cons (ps_set (i := 3) scAnew.nd rfl (Or.inl rfl) pe_dnewK)
      (pss_cons (ps_toDn (ps_lock (ps_for PassesOwn.never rfl (pi_keys (pv 1)) (pg_name (i := 4) scAnew.nd rfl (Or.inl rfl))
        (pss_cons (ps_set (i := 5) scAnew.nd rfl (Or.inl rfl) (pe_g Fs hr (pa_cons (pv 0) (pa_cons (pv 1) (pa_cons (pv 4) pa_nil)))))
        (pss_cut (ps_if (pt_cmp (pc_dnNot h64 (pv 5) (pv 2))) (pss_one (ps_dnPut h64 (pv 2) (pv 5) (pe_callB call_lenDn (by rfl) B.len b_len (pa_cons (pv 2) pa_nil)) rfl)) pss_nil)
        (pss_one (ps_dput hu (pv 3) (pv 4) (pe_dnGet h64 (pv 2) (pv 5) (fun _ _ => rfl)) rfl)))))))
      (pss_one (ps_ret (pv 3))))), ?_⟩
    generalize ho : ordOf id T = o at hd k
    have nd : o.Nodup := by rw [← ho]; exact dist_nodup (ord_dist (T := T) id)
    have hle : o.length ≤ 400 := by rw [← ho]; exact Nat.le_trans (ord_le ok id) hn
    generalize hκ : sg T μ o = κ at k
    refine q_asgO eo_dnew fun N H1 hN e1 hN1 => ?_
    refine q_asgO eo_dnew fun Fd H2 hF e2 hF2 => ?_
    have e12 := e1.trans e2
    have hN2 := e2 _ _ hN1
    have dN : d ≠ N := ne_of_none hd hN
    have dF : d ≠ Fd := ne_of_none (e1 _ _ hd) hF
    have NF : N ≠ Fd := ne_of_none hN1 hF
    have hF0 : H Fd = none := fresh_back e1 hF
    refine ⟨N, hN2, d, .dK (md μ o), by rw [upd_ne dN]; exact e12 _ _ hd, True.intro, fun od => ?_⟩
    have hPb : PartsAt K (upd H d (.frz od (.dK (md μ o)))) v T := hP.monoB ExB.upd1 hd
    generalize hb : upd H d (.frz od (.dK (md μ o))) = Hb at hPb
    have hdb : Hb d = some (.frz od (.dK (md μ o))) := by rw [← hb, upd_same]
    have eb : Ex Hb (upd (upd H2 N (Dn P w N [])) d (.frz od (.dK (md μ o)))) := fun a u h => by
      by_cases q : a = d
      · subst q
        rw [upd_same, ← hdb]; exact h
      · rw [← hb, upd_ne q] at h
        rw [upd_ne q, upd_ne (ne_of_none h hN)]
        exact e12 _ _ h
    have bN : Hb N = none := by rw [← hb, upd_ne dN.symm]; exact hN
    have bF : Hb Fd = none := by rw [← hb, upd_ne dF.symm]; exact hF0
    refine s_for0 (over_keys (σ := [some v, some (.ref d), some (.ref N), some (.ref Fd), none, none]) (td := tVar 1) (ev_var rfl) hdb) eb yAt_ex
      (fun i σ' H' => Ex Hb H' ∧ ∃ (y1 y2 : Option V) (L : List Ent), σ' = [some v, some (.ref d), some (.ref N), some (.ref Fd), y1, y2] ∧ H' N = some (Dn P w N L) ∧ DnOk H' L ∧ Numd κ (o.take i) L ∧ H' Fd = some (.dK (md (ren κ o) (o.take i))))
      (fun H3 e3 => ⟨eb.trans e3, none, none, [], rfl, e3 _ _ (by rw [upd_ne dN.symm]; exact upd_same), fun x hx => (List.not_mem_nil hx).elim, ⟨rfl, rfl⟩, e3 _ _ (by rw [upd_ne dF.symm, upd_ne NF.symm]; exact hF2)⟩) (fun i σ' H' p => p.1) ?_ ?_
    · rintro i x σ' H3 H4 hi ⟨x3, y1, y2, L, rfl, h3N, h3L, num, h3F⟩ hy e4
      obtain ⟨rfl, hx⟩ := hy
      rw [md_keys, List.getElem?_map] at hx
      obtain ⟨q, hq, rfl⟩ := Option.map_eq_some_iff.mp hx
      have qo : q ∈ o := List.mem_of_getElem? hq
      have et : o.take (i + 1) = o.take i ++ [q] := by rw [List.take_add_one, hq]; rfl
      have qn : q ∉ o.take i := fun m => by
        have := List.nodup_append.mp (et ▸ (List.take_sublist (i + 1) o).nodup nd)
        exact this.2.2 q m q (List.mem_singleton.mpr rfl) rfl
      refine q_asgP (P := fun u H' => ∃ p, u = .ref p ∧ H4 p = none ∧ SigAt H' p (κ q)) (ep_call (ea_cons (ev_var rfl) (ea_cons (ev_var rfl) (ea_cons (ev_var rfl) ea_nil))) fun H5 e5 Q' q' => ⟨v, d, od, T, μ, q, rfl, hPb.mono (x3.trans e5), ok, hn, by rw [ho]; exact e5 _ _ (x3 _ _ hdb), by rw [ho]; exact qo,
        fun p H6 hp e6 hs => q' _ H6 e6 ⟨p, rfl, fresh_back e5 hp, by rw [ho, hκ] at hs; exact hs⟩⟩) fun u H5 e5 ⟨p, hu', hp, hs⟩ => ?_
      subst hu'
      have x5 := x3.trans e5
      refine q_cut (M := fun σ' H' => σ' = [some v, some (.ref d), some (.ref N), some (.ref Fd), some (nV q), some (.ref p)] ∧ Ex Hb H' ∧ SigAt H' p (κ q) ∧ ∃ L', H' N = some (Dn P w N L') ∧ DnOk H' L' ∧ Numd κ (o.take (i + 1)) L' ∧ H' Fd = some (.dK (md (ren κ o) (o.take i)))) ?_ ?_
      · refine s_when (b := decide (κ q ∉ (reps κ (o.take i)).map κ)) (et_dnNot (ev_var rfl) (ev_var rfl) (e5 _ _ h3N) (h3L.mono e5) hs ?_) (fun hc H6 e6 => ?_) (fun hc H6 e6 => ?_)
        · rw [num.look]
          by_cases m : κ q ∈ (reps κ (o.take i)).map κ
          · rw [if_pos m, decide_eq_false (fun z => z m)]; rfl
          · rw [if_neg m, decide_eq_true m]; rfl
        · have m := of_decide_eq_true hc
          have hN6 := e6 _ _ (e5 _ _ h3N)
          refine s_dnPut (n := L.length) (ev_lenDn (ev_var rfl) hN6 (h3L.mono (e5.trans e6))) (ev_var rfl) (ev_var rfl) hN6 (h3L.mono (e5.trans e6)) (hs.mono e6) (by rw [num.look, if_neg m]) ?_ fun H7 e7 => ?_
          · have := num.len
            have h2 : (reps κ (o.take i)).length ≤ (o.take i).length := cnt_len κ _
            have h3 : (o.take i).length ≤ o.length := (List.take_sublist i o).length_le
            exact sz_lt (by omega)
          · have hN7 := e7 _ _ hN6
            have sN : ∀ {p' : Addr} {k' : Sg}, SigAt H7 p' k' → SigAt (upd H7 N (Dn P w N (L ++ [(κ q, p, L.length)]))) p' k' := fun h => h.updN hN7 (fun xs z => by cases z)
            refine ⟨rfl, (x5.trans (e6.trans e7)).mut bN, sN (hs.mono (e6.trans e7)), L ++ [(κ q, p, L.length)], upd_same, fun x hx => ?_, by rw [et]; exact num.new m, by rw [upd_ne NF.symm]; exact e7 _ _ (e6 _ _ (e5 _ _ h3F))⟩
            rcases List.mem_append.mp hx with hx | hx
            · exact sN ((h3L x hx).mono (e5.trans (e6.trans e7)))
            · rw [List.mem_singleton.mp hx]
              exact sN (hs.mono (e6.trans e7))
        · have m : κ q ∈ (reps κ (o.take i)).map κ := Decidable.of_not_not (of_decide_eq_false hc)
          exact ⟨rfl, x5.trans e6, hs.mono e6, L, e6 _ _ (e5 _ _ h3N), h3L.mono (e5.trans e6), by rw [et]; exact num.old m, e6 _ _ (e5 _ _ h3F)⟩
      · rintro σ' H6 ⟨rfl, x6, hs6, L', h6N, h6L, num', h6F⟩
        have hl : lookN L' (κ q) = some (ren κ o q) := by
          rw [et] at num'
          exact num'.at (et ▸ List.take_prefix _ _)
        refine s_dput (v := nV (ren κ o q)) (kvs := md (ren κ o) (o.take i)) (k := Sum.inl (q : Int)) (ev_dnGet (ev_var rfl) (ev_var rfl) h6N h6L hs6 hl) (ev_var rfl) (ev_var rfl) h6F ?_ fun H7 e7 => ?_
        · rw [md_len]
          have h3 : (o.take i).length ≤ o.length := (List.take_sublist i o).length_le
          exact sz_lt (by omega)
        · refine ⟨(x6.trans e7).mut bF, some (nV q), some (.ref p), L', rfl, by rw [upd_ne NF]; exact e7 _ _ h6N, fun x hx => ((h6L x hx).mono e7).updN (e7 _ _ h6F) (fun xs z => by cases z), num', ?_⟩
          rw [upd_same, md_put qn, ← et]
    · rintro σ' H3 ⟨x3, y1, y2, L, rfl, h3N, h3L, num, h3F⟩
      rw [md_len, List.take_length] at h3F
      refine ⟨x3 _ _ hdb, ?_⟩
      have e3 : Ex H (upd H3 d (.dK (md μ o))) := lock_ex (od := od) hd (by rw [hb]; exact x3)
      exact s_ret (ev_var rfl) fun H4 e4 => k Fd H4 hF0 (e3.trans e4) (e4 _ _ (by rw [upd_ne dF.symm]; exact h3F))
end
end K46
set_option Elab.async false
set_option linter.all false
set_option autoImplicit false
set_option maxRecDepth 100000
namespace K46
open PySem PySem.Spec PyProof.Rows L2 Evl
set_option maxHeartbeats 4000000
theorem inV_nat (l : List Nat) (x : Nat) : inV (nV x) (l.map nV) = decide (x ∈ l) := by
  induction l with
  | nil => simp [inV]
  | cons y l ih =>
    have e : inV (nV x) (nV y :: l.map nV) = (eqV (nV y) (nV x) || inV (nV x) (l.map nV)) := rfl
    have e2 : eqV (nV y) (nV x) = decide (x = y) := by
      have : eqV (nV y) (nV x) = decide ((y : Int) = (x : Int)) := rfl
      rw [this]
      exact decide_eq_decide.mpr ⟨fun h => by omega, fun h => by omega⟩
    rw [List.map_cons, e, e2, ih, ← Bool.decide_or]
    exact decide_eq_decide.mpr List.mem_cons.symm
section
variable {P : Program} {w : World} {K : PySem.W.Frag} {σ : L2.St} {H H' : Hp} {ta tb td ty te tk tv : TE} {v x y z : V} {D : Ends} {tz : TS} {d p : Addr}
theorem flat_nats (l : List Nat) : (l.map nV).all flatV = true := by
  rw [List.all_map]
  exact List.all_eq_true.mpr fun _ _ => rfl
theorem rv_inN {l : List Nat} {n : Nat} (h : SqN K H v l) : RV (rIn K false) (nV n) v H (.bl (decide (n ∈ l))) := by
  obtain ⟨a, rfl, h⟩ := h
  rw [← inV_nat]
  rcases h with h | h
  · exact rv_isL h rfl (flat_nats l)
  · exact rv_isT h rfl (flat_nats l)
theorem el_listVals {a : Addr} {kvs : List (Key × V)} (h : Ev td σ H (.ref a)) (hd : Rd H a (.dK kvs)) : EvL (tListVals td) σ H (kvs.map (·.2)) := fun H1 e Q q =>
  h H1 e _ fun H2 e2 => ⟨a, kvs, rfl, ex_rd (e.trans e2) hd, fun l hl => q l _ (fresh_back e2 hl) (e2.trans (Ex.new hl)) upd_same⟩
theorem ev_lenSetD {ns : List Int} (h : EvL te σ H (ns.map V.int)) (hl : ns.length < 4000) : Ev (tLenSetD K te) σ H (.int (ns.foldl (push id) []).length) := fun H1 e Q q =>
  h H1 e _ fun p H2 hp e2 h2 => ⟨p, ns, rfl, sq_of h2, hl, q H2 e2⟩
/-- how many marks there are -/
theorem ev_cnt {a : Addr} {μ : Nat → Nat} {o : List Nat} (h : Ev td σ H (.ref a)) (hd : Rd H a (.dK (md μ o))) (hl : o.length < 4000) : Ev (tLenSetD K (tListVals td)) σ H (nV (cnt μ o)) := by
  have e : ((md μ o).map (·.2)) = (o.map fun x => ((μ x : Nat) : Int)).map V.int := by rw [md_vals, List.map_map]; rfl
  have h1 := el_listVals h hd
  rw [e] at h1
  have := ev_lenSetD (K := K) h1 (by rw [List.length_map]; exact hl)
  rw [cnt_set (fun x => ((μ x : Nat) : Int)) o, cnt_congr (κ' := μ) (fun x y _ _ => ⟨fun e => by omega, fun e => by omega⟩)] at this
  exact this
abbrev rInt1 : List V → Hp → VK → Prop := fun xs H Q => (∃ i, xs = [.int i] ∧ Q (.int i) H) ∨ ∃ k, xs = [.bl k] ∧ Q (.int (if k then 1 else 0)) H
theorem ev_intB {b : Bool} (h : Ev ta σ H (.bl b)) : Ev (tCB rInt1 (tCons ta tNil)) σ H (nV (if b then 1 else 0)) := fun H1 e Q q =>
  h H1 e _ fun H2 e2 => .inr ⟨b, rfl, by have := q H2 e2; cases b <;> exact this⟩
end
section
variable {P : Program} {w : World} {K : PySem.W.Frag} {mg : Str → Option Value} {base : Heap}
abbrev sCls : Stmt := top 32
def spCls (K : PySem.W.Frag) : Sp := fun vs H Q _ => ∃ (v : V) (L : Addr) (T : Tb), vs = [v, .ref L] ∧ PartsAt K H v T ∧ T.Ok ∧ T.n ≤ 400 ∧ H L = some (.lst ((ordOf id T).map nV)) ∧
  ∀ (p : Addr) (H' : Hp) (μ : Nat → Nat) (κ : Nat → Nat × List (List Nat)), H p = none → Ex H H' → Disc μ T → μ = ren κ (ordOf id T) → H' p = some (.dK (md μ (ordOf id T))) → Q (.ref p) H'
abbrev nCls : List Str := ["parts", "order", "marks", "many", "state"]
theorem scCls : FnScope nCls ["parts", "order"] (defScope sCls) := ⟨rfl, rfl, rfl, by decide +kernel, rfl, by decide +kernel, by decide +kernel⟩
theorem ok_cls (B : Free mg) (F : FnG K "state_classes" sCls) (hm : mg "state_classes" = some (.ref (He.ga K "state_classes"))) (Fa : Pr P w K mg base 2 "marked_anew" ["parts", "marks"] (spAnew K)) : Pr P w K mg base 3 "state_classes" ["parts", "order"] (spCls K) := by
  refine pr_mk F hm scCls (fun _ _ _ _ _ _ us hl => match us, hl with | [_, _], _ => rfl) (fun vs H Q E h => ?_) (fun f cdv A outer s H vs Q E hr h => ?_)
  · obtain ⟨v, L, T, rfl, _⟩ := h
    rfl
  · obtain ⟨v, L, T, rfl, hP, ok, hn, hL, k⟩ := h
    refine ⟨_, pss_cons (ps_setDc (own := [("state", 4)]) (g := gName 4) (tt := tYes) (tv := tCB rInt1 (tCons (tOp (rIn K false) (tVar 4) (tOp (rIx K) (tVar 0) (tC (.int 4)))) tNil)) rfl scCls.nd (i := 2) rfl rfl (swd_true rfl rfl rfl (by decide +kernel)) (pi_list (pv 1)) (blkOk_by (by kernel_rfl)) (fun _ _ _ _ _ => pg_name (i := 4) scCls.nd rfl (Or.inl rfl)) (fun _ _ _ _ _ => pts_nil)
        (fun _ _ _ _ _ => pv 4) (fun _ _ _ _ _ => pe_callTy call_int1 (by rfl) B.int b_int (pa_cons (pe_cmpR op_in_seq (pv 4) (pe_ix ix_seq (pv 0) pe_int (fun _ _ => rfl)) (by rfl)) pa_nil)))
      (pss_cons (ps_set (i := 3) scCls.nd rfl (Or.inl rfl) pe_int)
      (pss_cons (ps_while PassesOwn.never (pt_cmpR op_gt (pe_lenSetD rfl (by rfl) B.len (by rfl) B.set (pe_listVals rfl (by rfl) B.list (pv 2))) (pv 3) (nomark _))
        (pss_cons (ps_set (i := 3) scCls.nd rfl (Or.inl rfl) (pe_lenSetD rfl (by rfl) B.len (by rfl) B.set (pe_listVals rfl (by rfl) B.list (pv 2))))
        (pss_one (ps_set (i := 2) scCls.nd rfl (Or.inl rfl) (pe_g Fa hr (pa_cons (pv 0) (pa_cons (pv 2) pa_nil)))))))
      (pss_one (ps_ret (pv 2))))), ?_⟩
    generalize ho : ordOf id T = o at hL k
    have nd : o.Nodup := by rw [← ho]; exact dist_nodup (ord_dist (T := T) id)
    have hle : o.length ≤ 400 := by rw [← ho]; exact Nat.le_trans (ord_le ok id) hn
    have hrch : ∀ x ∈ o, Rch T x := by rw [← ho]; exact ord_rch id
    have hall : ∀ b, st T b ∈ o := by rw [← ho]; exact met_all ok
    have hpos : 0 < o.length := by rw [← ho]; exact ord_pos id
    obtain ⟨r, t, a, hv, h1, h2, h3⟩ := id hP
    have kin : ∀ i j, i < o.length → j < o.length → (Sum.inl ((o.getD i 0 : Nat) : Int) : Key) = Sum.inl ((o.getD j 0 : Nat) : Int) → i = j := nums_inj nd
    refine q_asgO (eo_dc (κ := fun i => Sum.inl ((o.getD i 0 : Nat) : Int)) (val := fun i => nV (if o.getD i 0 ∈ T.acc then 1 else 0)) (over_list (ev_var rfl) (SqL.of hL)).over (by rw [List.length_map]; omega) (by rw [List.length_map]; exact kin) yAt_ex (fun i x H1 H2 hi e1 hy => ?_)) fun D H1 hD e1 h1D => ?_
    · obtain ⟨rfl, hx⟩ := hy
      rw [List.getElem?_map] at hx
      obtain ⟨q, hq, rfl⟩ := Option.map_eq_some_iff.mp hx
      have eq : o.getD i 0 = q := by rw [List.getD_eq_getElem?_getD, hq]; rfl
      rw [eq]
      refine ⟨[some v, some (.ref L), none, none, some (nV q)], rfl, fun Qs h => h, ev_var rfl, ?_⟩
      have := ev_intB (b := decide (q ∈ T.acc)) (ev_op (ev_var (i := 4) (σ := [some v, some (.ref L), none, none, some (nV q)]) rfl) (ev_ix (K := K) (i := 4) (ev_var (i := 0) rfl) ev_c (TupV.sq (hv.mono e1)) rfl) (rv_inN (SqN.mono h3 e1)))
      by_cases m : q ∈ T.acc
      · rw [decide_eq_true m] at this
        rw [if_pos m]
        exact this
      · rw [decide_eq_false m] at this
        rw [if_neg m]
        exact this
    have hD1 : H1 D = some (.dK (md (fun x => if x ∈ T.acc then 1 else 0) o)) := by
      rw [h1D, List.length_map]
      unfold md
      rw [map_range_get (xs := o) (fun x => ((Sum.inl (x : Int) : Key), nV (if x ∈ T.acc then 1 else 0))) (fun i => (Sum.inl ((o.getD i 0 : Nat) : Int), nV (if o.getD i 0 ∈ T.acc then 1 else 0))) (fun i x hx => by
        have : o.getD i 0 = x := by rw [List.getD_eq_getElem?_getD, hx]; rfl
        rw [this])]
    refine q_asg ev_c fun H2 e2 => ?_
    have e12 := e1.trans e2
    refine q_while (fun m σ' H' => ∃ (D : Addr) (many : Nat) (μ : Nat → Nat), m = o.length + 1 - many ∧ σ' = [some v, some (.ref L), some (.ref D), some (nV many), none] ∧ Ex H H' ∧ H D = none ∧ H' D = some (.dK (md μ o)) ∧ Good T o μ ∧ many ≤ o.length ∧
      (many = 0 ∨ ∃ μp, Good T o μp ∧ many = cnt μp o ∧ μ = ren (sg T μp o) o)) (o.length + 1) ⟨D, 0, _, rfl, rfl, e12, hD, e2 _ _ hD1, good0 T o, Nat.zero_le _, .inl rfl⟩ ?_
    rintro m σ' H3 ⟨D', many, μ, rfl, rfl, e3, hD', h3D, good, hmany, hprev⟩
    refine ⟨decide ((many : Int) < (cnt μ o : Int)), et_test (ev_op (ev_cnt (ev_var rfl) (.inl h3D) (by omega)) (ev_var rfl) rv_I0), fun hc H4 e4 => ?_, fun hc H4 e4 => ?_⟩
    · have hlt : many < cnt μ o := by have := of_decide_eq_true hc; omega
      have e14 := e3.trans e4
      refine ⟨fun σ2 H2 => ∃ D2, σ2 = [some v, some (.ref L), some (.ref D2), some (nV (cnt μ o)), none] ∧ Ex H H2 ∧ H D2 = none ∧ H2 D2 = some (.dK (md (ren (sg T μ o) o) o)), ?_, ?_⟩
      · rintro σ2 H5 ⟨D2, rfl, e5, n2, h5⟩
        have hc' := cnt_len μ o
        refine ⟨o.length + 1 - cnt μ o, by omega, D2, cnt μ o, _, rfl, rfl, e5, n2, h5, good_next hrch hall good (fun x y hx hy => ren_eq hx hy), hc', .inr ⟨μ, good, rfl, rfl⟩⟩
      · refine q_asg (ev_cnt (ev_var rfl) (.inl (e4 _ _ h3D)) (by omega)) fun H5 e5 => ?_
        have e15 := e14.trans e5
        refine s_asgP (P := fun u H' => ∃ p, u = .ref p ∧ H p = none ∧ H' p = some (.dK (md (ren (sg T μ o) o) o))) (ep_call (ea_cons (ev_var rfl) (ea_cons (ev_var rfl) ea_nil)) fun H6 e6 Q' q' => ⟨v, D', T, μ, rfl, hP.mono (e15.trans e6), ok, hn, by rw [ho]; exact e6 _ _ (e5 _ _ (e4 _ _ h3D)),
          fun p H7 hp e7 h7 => q' _ H7 e7 ⟨p, rfl, fresh_back (e15.trans e6) hp, by rw [ho] at h7; exact h7⟩⟩) fun u H6 e6 ⟨p, hu', hp, h6⟩ => ?_
        subst hu'
        exact ⟨p, rfl, e15.trans e6, hp, h6⟩
    · have hge : cnt μ o ≤ many := by have := of_decide_eq_false hc; omega
      rcases hprev with rfl | ⟨μp, gp, rfl, rfl⟩
      · have : 0 < cnt μ o := cnt_pos (List.getElem_mem hpos)
        omega
      · have disc := good_done hrch hall gp (fun x y hx hy => ren_eq hx hy) hge
        exact s_ret (ev_var rfl) fun H5 e5 => k D' H5 _ _ hD' ((e3.trans e4).trans e5) disc rfl (e5 _ _ (e4 _ _ h3D))
end
end K46
set_option Elab.async false
set_option linter.all false
set_option autoImplicit false
set_option maxRecDepth 100000
namespace K46
open PySem PySem.Spec PyProof.Rows L2 Evl
set_option maxHeartbeats 4000000
/-- the first state of each mark -/
def ld (μ : Nat → Nat) (ds : List Nat) : List (Key × V) := ds.map fun (x : Nat) => ((Sum.inl ((μ x : Nat) : Int) : Key), nV x)
theorem ld_some {μ : Nat → Nat} : ∀ {ds : List Nat} (m : Nat), (valV (ld μ ds) (Sum.inl (m : Int))).isSome = decide (m ∈ ds.map μ)
  | [], m => rfl
  | y :: ds, m => by
    unfold ld
    rw [List.map_cons, List.map_cons]
    by_cases e : μ y = m
    · subst e
      rw [valV_pos rfl, decide_eq_true List.mem_cons_self]; rfl
    · rw [valV_neg (fun q => e (by have := Sum.inl.inj q; omega))]
      refine (ld_some m).trans (decide_eq_decide.mpr ⟨fun h => List.mem_cons_of_mem _ h, fun h => ?_⟩)
      rcases List.mem_cons.mp h with q | q
      · exact absurd q.symm e
      · exact q
theorem ld_put {μ : Nat → Nat} {ds : List Nat} {x : Nat} (h : μ x ∉ ds.map μ) : putK (ld μ ds) (Sum.inl ((μ x : Nat) : Int)) (nV x) = ld μ (ds ++ [x]) := by
  have : valV (ld μ ds) (Sum.inl ((μ x : Nat) : Int)) = none := by
    have := ld_some (μ := μ) (ds := ds) (μ x)
    rw [decide_eq_false h] at this
    cases e : valV (ld μ ds) (Sum.inl ((μ x : Nat) : Int)) with
    | none => rfl
    | some v => rw [e] at this; cases this
  rw [putK_new _ this]
  unfold ld
  rw [List.map_append]; rfl
/-- where the marks of the first states are 0, 1, .. -/
theorem ld_val {μ : Nat → Nat} : ∀ {ds : List Nat} (s : Nat), ds.map μ = List.range' s ds.length → ∀ {i x : Nat}, ds[i]? = some x → valV (ld μ ds) (Sum.inl ((s + i : Nat) : Int)) = some (nV x)
  | [], _, _, i, x, h => by simp at h
  | y :: ds, s, e, i, x, h => by
    rw [List.map_cons, List.length_cons, List.range'_succ] at e
    injection e with e1 e2
    unfold ld
    rw [List.map_cons]
    cases i with
    | zero =>
      simp at h
      subst h
      rw [valV_pos (by rw [e1]; rfl)]
    | succ i =>
      rw [valV_neg (fun q => by have := Sum.inl.inj q; omega)]
      have := ld_val (s + 1) e2 (i := i) (x := x) (by simpa using h)
      rw [show s + (i + 1) = s + 1 + i by omega]
      exact this
theorem first_marks {μ : Nat → Nat} {κ : Nat → Nat × List (List Nat)} {o : List Nat} (hμ : μ = ren κ o) : (reps μ o).map μ = List.range (reps μ o).length := by
  have e1 : reps μ o = reps κ o := by rw [hμ, reps_ren]
  refine List.ext_getElem? fun i => ?_
  rw [List.getElem?_map]
  by_cases hi : i < (reps μ o).length
  · rw [List.getElem?_range hi, List.getElem?_eq_getElem hi]
    have : (reps κ o)[i]? = some (reps μ o)[i] := by rw [← e1]; exact List.getElem?_eq_getElem hi
    have := ren_reps this
    rw [← hμ] at this
    rw [Option.map_some, this]
  · rw [List.getElem?_eq_none (by omega), List.getElem?_eq_none (by simp; omega)]; rfl
theorem repsN_snoc (μ : Nat → Nat) (o : List Nat) (x : Nat) : reps μ (o ++ [x]) = push μ (reps μ o) x := by unfold reps; rw [List.foldl_append]; rfl
section
variable {P : Program} {w : World} {K : PySem.W.Frag} {σ : L2.St} {H H' : Hp} {ta tb td ty te tk tv : TE} {v x y z : V} {D : Ends} {tz : TS} {d p : Addr}
abbrev rSortD : List V → Hp → VK → Prop := fun xs H Q => ∃ (a : Addr) (kvs : List (Key × V)) (ks : List Int), xs = [.ref a] ∧ Rd H a (.dK kvs) ∧ kvs.map (·.1) = ks.map Sum.inl ∧ ks.length < 64 ∧
  ∀ (ks' : List Int) (p : Addr), ks'.Perm ks → ks'.Pairwise (· ≤ ·) → H p = none → Q (.ref p) (upd H p (.lst (ks'.map V.int)))
/-- sorted(d), the keys known -/
theorem el_sortD {a : Addr} {kvs : List (Key × V)} {ks ys : List Nat} (h : Ev td σ H (.ref a)) (hd : Rd H a (.dK kvs)) (hk : kvs.map (·.1) = ks.map fun (n : Nat) => (Sum.inl (n : Int) : Key)) (hl : ks.length < 64) (hp : ys.Perm ks) (hs : ys.Pairwise (· ≤ ·)) :
    EvL (tCB rSortD (tCons td tNil)) σ H (ys.map nV) := fun H1 e Q q =>
  h H1 e _ fun H2 e2 => ⟨a, kvs, ks.map fun (n : Nat) => (n : Int), rfl, ex_rd (e.trans e2) hd, by rw [hk, List.map_map]; rfl, by rw [List.length_map]; exact hl, fun ks' p hpm hpw hp0 => by
    have e3 : ks' = ys.map fun (n : Nat) => (n : Int) := PySem.W.ksm_same (hpm.trans (hp.map _).symm) hpw (List.pairwise_map.mpr (hs.imp fun h => by omega))
    subst e3
    rw [List.map_map]
    exact q p _ (fresh_back e2 hp0) (e2.trans (Ex.new hp0)) upd_same⟩
/-- [.. new lists of numbers ..] -/
theorem ep_rowsL {m : Nat → List Nat} {n : Nat} (h : ∀ H1, Ex H H1 → ∀ Q : VK, (∀ D H2 (ps : List Addr), H1 D = none → Ex H1 H2 → H2 D = some (.lst (ps.map V.ref)) → ps.length = n → (∀ i p, ps[i]? = some p → H1 p = none ∧ H2 p = some (.lst ((m i).map nV))) → Q (.ref D) H2) → te σ H1 Q) :
    EvP te σ H (fun v H' => ∃ p, v = .ref p ∧ H p = none ∧ Mat K H' v ((List.range n).map m)) := fun H1 e Q q =>
  h H1 e _ fun D H2 ps hD e2 hDl hl hps => q _ H2 e2 ⟨D, rfl, fresh_back e hD, ps.map V.ref, Sq.l hDl, paired_of (by rw [List.length_map, List.length_map, List.length_range, hl]) fun i a b h1 h2 => by
    rw [List.getElem?_map] at h1 h2
    obtain ⟨p, hp, rfl⟩ := Option.map_eq_some_iff.mp h1
    obtain ⟨j, hj, rfl⟩ := Option.map_eq_some_iff.mp h2
    have hi : i < n := by rw [← hl]; exact (List.getElem?_eq_some_iff.mp hp).1
    rw [List.getElem?_range hi] at hj
    cases hj
    exact Sq.l (hps i p hp).2⟩
end
theorem eo_call {σ : L2.St} {H : Hp} {ta : TA} {sp : Sp} {vs : List V} {o : HO} (h : EvA ta σ H vs) (hs : ∀ H1, Ex H H1 → ∀ Q : VK, (∀ p H2, H1 p = none → Ex H1 H2 → H2 p = some o → Q (.ref p) H2) → sp (vs ++ []) H1 Q E0) : EvO (tCall sp [] E0 ta) σ H o := fun H1 e Q q =>
  h H1 e _ fun H2 e2 => hs H2 (e.trans e2) Q fun p H3 hp e3 h3 => q p H3 (fresh_back e2 hp) (e2.trans e3) h3
section
variable {P : Program} {w : World} {K : PySem.W.Frag} {mg : Str → Option Value} {base : Heap}
/-- [[marks[m[one][other]] for other in firsts] for one in firsts] -/
theorem ep_lsRows {H : Hp} {x0 x1 x2 x3 x4 x5 x6 x8 x9 x11 x12 x13 x14 : Option V} {d L : Addr} {T : Tb} {μ : Nat → Nat} {ds : List Nat} {m : List (List Nat)} {v : V} {j : Nat} (hL : H L = some (.lst (ds.map nV))) (hd : H d = some (.dK (md μ (ordOf id T)))) (hm : Mat K H v m) (sq : Square T.n m) (ok : T.Ok) (hl : ds.length ≤ 400)
    (hds : ∀ x ∈ ds, x ∈ ordOf id T) (r : Bool) (em : cell m = op T r)
    (hj : ∀ y z : Option V, ([x0, x1, x2, x3, x4, x5, x6, some (.ref d), x8, x9, some (.ref L), x11, x12, x13, x14, none, y, z] : L2.St)[j]? = some (some v)) :
    EvP (tLc (iList K (tVar 10)) (gName 16) tYes (tLc (iList K (tVar 10)) (gName 17) tYes (tDGet (tVar 7) (tOp (rIx K) (tOp (rIx K) (tVar j) (tVar 16)) (tVar 17))) [17]) [16])
      [x0, x1, x2, x3, x4, x5, x6, some (.ref d), x8, x9, some (.ref L), x11, x12, x13, x14, none, none, none] H (fun u H' => ∃ p, u = .ref p ∧ H p = none ∧ Mat K H' u (ds.map fun a => ds.map fun b => μ (op T r a b))) := by
  have key : ds.map (fun a => ds.map fun b => μ (op T r a b)) = (List.range ds.length).map fun i => ds.map fun b => μ (op T r (ds.getD i 0) b) :=
    (map_range_get _ _ fun i x hx => by rw [List.getD_eq_getElem?_getD, hx]; rfl).symm
  rw [key]
  refine ep_rowsL (n := ds.length) fun H1 e1 Q q => ?_
  refine elo_lc (o := fun i => .lst ((ds.map fun b => μ (op T r (ds.getD i 0) b)).map nV)) (over_list (ev_var rfl) (SqL.of hL)).over (by rw [List.length_map]; omega) yAt_ex (fun i x H2 H3 hi e2 hy => ?_) H1 e1 Q (fun D' H4 ps h1 h2 h3 h4 h5 => q D' H4 ps h1 h2 h3 (by rw [h4, List.length_map]) h5)
  obtain ⟨rfl, hx⟩ := hy
  rw [List.getElem?_map] at hx
  obtain ⟨a, ha, rfl⟩ := Option.map_eq_some_iff.mp hx
  have ea : ds.getD i 0 = a := by rw [List.getD_eq_getElem?_getD, ha]; rfl
  have ma := hds a (List.mem_of_getElem? ha)
  refine ⟨[x0, x1, x2, x3, x4, x5, x6, some (.ref d), x8, x9, some (.ref L), x11, x12, x13, x14, none, some (nV a), none], rfl, fun Qs h => h, eo_L ?_⟩
  rw [ea, ← map_range_get (xs := ds) (fun b => μ (op T r a b)) (fun i => μ (op T r a (ds.getD i 0))) (fun i x hx => by rw [List.getD_eq_getElem?_getD, hx]; rfl), List.map_map]
  have e := elv_lc (te := tDGet (tVar 7) (tOp (rIx K) (tOp (rIx K) (tVar j) (tVar 16)) (tVar 17))) (vs := [17]) (g := gName 17) (tt := tYes) (fun _ => true) (fun i => nV (μ (op T r a (ds.getD i 0))))
    (over_list (K := K) (tl := tVar 10) (σ := [x0, x1, x2, x3, x4, x5, x6, some (.ref d), x8, x9, some (.ref L), x11, x12, x13, x14, none, some (nV a), none]) (ev_var rfl) (SqL.of (e2 _ _ hL))).over (by rw [List.length_map]; omega) yAt_ex (fun k y H4 H5 hk e4 hy => ?_)
  · rw [given_all, List.length_map] at e
    exact e
  obtain ⟨rfl, hy⟩ := hy
  rw [List.getElem?_map] at hy
  obtain ⟨b, hb, rfl⟩ := Option.map_eq_some_iff.mp hy
  have eb : ds.getD k 0 = b := by rw [List.getD_eq_getElem?_getD, hb]; rfl
  have mb := hds b (List.mem_of_getElem? hb)
  refine ⟨[x0, x1, x2, x3, x4, x5, x6, some (.ref d), x8, x9, some (.ref L), x11, x12, x13, x14, none, some (nV a), some (nV b)], rfl, fun Qs h => h, fun H6 _ Q q => q H6 (Ex.refl _), fun _ => ?_⟩
  have e24 := e2.trans e4
  refine ev_dget (ev_var rfl) (ev_cell (ev_var (hj _ _)) (ev_var rfl) (ev_var rfl) (hm.mono e24) sq ((ord_rch id _ ma).lt ok) ((ord_rch id _ mb).lt ok)) ?_
  rw [em, eb]
  have mop : op T r a b ∈ ordOf id T := by have := ord_op ok id r ma mb; rwa [List.map_id] at this
  exact dget_md (.inl (e24 _ _ hd)) mop
abbrev sLeast : Stmt := top 33
def spLeast (K : PySem.W.Frag) : Sp := fun vs H Q _ => ∃ (v : V) (T : Tb), vs = [v] ∧ PartsAt K H v T ∧ T.Ok ∧ T.n ≤ 60 ∧ ∀ u H' T', Ex H H' → Least T T' → PartsT H' u T' → Q u H'
abbrev nLeast : List Str := ["parts", "tie", "gap", "rows", "sides", "accepted", "order", "marks", "leaders", "state", "firsts", "new_rows", "new_sides", "kept", "found", "number", "one", "other"]
theorem scLeast : FnScope nLeast ["parts"] (defScope sLeast) := ⟨rfl, rfl, rfl, by decide +kernel, rfl, by decide +kernel, by decide +kernel⟩
abbrev tLsC (K : PySem.W.Frag) (j : Nat) : TE := tDGet (tVar 7) (tOp (rIx K) (tOp (rIx K) (tVar j) (tVar 16)) (tVar 17))
abbrev tLsR (K : PySem.W.Frag) (j : Nat) : TE := tLc (iList K (tVar 10)) (gName 17) tYes (tLsC K j) [17]
theorem ok_least (B : Free mg) (F : FnG K "least_parts" sLeast) (hm : mg "least_parts" = some (.ref (He.ga K "least_parts"))) (Fm : Pr P w K mg base 2 "met_states" ["parts"] (spMet K)) (Fc : Pr P w K mg base 3 "state_classes" ["parts", "order"] (spCls K))
    (Fr : Pr P w K mg base 1 "renumbered_parts" ["parts", "order"] (spRen K)) : Pr P w K mg base 4 "least_parts" ["parts"] (spLeast K) := by
  refine pr_mk F hm scLeast (fun _ _ _ _ _ _ us hl => match us, hl with | [_], _ => rfl) (fun vs H Q E h => ?_) (fun f cdv A outer s H vs Q E hr h => ?_)
  · obtain ⟨v, T, rfl, _⟩ := h
    rfl
  · obtain ⟨v, T, rfl, hP, ok, hn, k⟩ := h
    have hu := hu_of hr
    have hr2 := hr.mono (show 2 ≤ 3 by decide)
    have hr1 := hr.mono (show 1 ≤ 3 by decide)
    refine ⟨_, pss_cons (ps_asg (pv 0) (pg_tup rfl (pgs_cons (pg_name (i := 1) scLeast.nd rfl (Or.inl rfl)) (pgs_cons (pg_name (i := 2) scLeast.nd rfl (Or.inl rfl)) (pgs_cons (pg_name (i := 3) scLeast.nd rfl (Or.inr rfl))
      (pgs_cons (pg_name (i := 4) scLeast.nd rfl (Or.inr rfl)) (pgs_cons (pg_name (i := 5) scLeast.nd rfl (Or.inr rfl)) pgs_nil)))))))
      (pss_cons (ps_set (i := 6) scLeast.nd rfl (Or.inl rfl) (pe_g Fm hr2 (pa_cons (pv 0) pa_nil)))
      (pss_cons (ps_set (i := 7) scLeast.nd rfl (Or.inr rfl) (pe_g Fc hr (pa_cons (pv 0) (pa_cons (pv 6) pa_nil))))
      (pss_cons (ps_set (i := 8) scLeast.nd rfl (Or.inr rfl) pe_dnewK)
      (pss_cons (ps_for PassesOwn.never rfl (pi_list (pv 6)) (pg_name (i := 9) scLeast.nd rfl (Or.inl rfl))
        (pss_one (ps_if (pt_cmp (pc_dnotin hu (pe_dget hu (pv 7) (pv 9) (fun _ _ => rfl)) (pv 8))) (pss_one (ps_dput hu (pv 8) (pe_dget hu (pv 7) (pv 9) (fun _ _ => rfl)) (pv 9) rfl)) pss_nil)))
      (pss_cons (ps_set (i := 10) scLeast.nd rfl (Or.inr rfl) (pe_lc (own := [("number", 15)]) (g := gName 15) (tt := tYes) (te := tDGet (tVar 8) (tVar 15)) rfl scLeast.nd (pi_list (pe_callB (call_sortedDI rfl) (by rfl) B.sorted b_sorted (pa_cons (pv 8) pa_nil))) (blkOk_by (by kernel_rfl))
          (fun _ _ _ _ _ => pg_name (i := 15) scLeast.nd rfl (Or.inl rfl)) (fun _ _ _ _ _ => pts_nil) (fun _ _ _ _ _ => pe_dget hu (pv 8) (pv 15) (fun _ _ => rfl))))
      (pss_cons (ps_setLc (i := 11) (own := [("one", 16)]) (g := gName 16) (tt := tYes) (te := tLsR K 3) rfl scLeast.nd rfl rfl (sw_true rfl rfl rfl (by decide +kernel)) (pi_list (pv 10)) (blkOk_by (by kernel_rfl)) (fun _ _ _ _ _ => pg_name (i := 16) scLeast.nd rfl (Or.inr rfl)) (fun _ _ _ _ _ => pts_nil)
          (fun _ _ _ _ _ => pe_lc (own := [("other", 17)]) (g := gName 17) (tt := tYes) (te := tLsC K 3) rfl scLeast.nd (pi_list (pv 10)) (blkOk_by (by kernel_rfl)) (fun _ _ _ _ _ => pg_name (i := 17) scLeast.nd rfl (Or.inl rfl)) (fun _ _ _ _ _ => pts_nil)
            (fun _ _ _ _ _ => pe_dget hu (pv 7) (pe_ix ix_seq (pe_ix ix_seq (pv 3) (pv 16) (fun _ _ => rfl)) (pv 17) (fun _ _ => rfl)) (fun _ _ => rfl))))
      (pss_cons (ps_setLc (i := 12) (own := [("one", 16)]) (g := gName 16) (tt := tYes) (te := tLsR K 4) rfl scLeast.nd rfl rfl (sw_true rfl rfl rfl (by decide +kernel)) (pi_list (pv 10)) (blkOk_by (by kernel_rfl)) (fun _ _ _ _ _ => pg_name (i := 16) scLeast.nd rfl (Or.inr rfl)) (fun _ _ _ _ _ => pts_nil)
          (fun _ _ _ _ _ => pe_lc (own := [("other", 17)]) (g := gName 17) (tt := tYes) (te := tLsC K 4) rfl scLeast.nd (pi_list (pv 10)) (blkOk_by (by kernel_rfl)) (fun _ _ _ _ _ => pg_name (i := 17) scLeast.nd rfl (Or.inl rfl)) (fun _ _ _ _ _ => pts_nil)
            (fun _ _ _ _ _ => pe_dget hu (pv 7) (pe_ix ix_seq (pe_ix ix_seq (pv 4) (pv 16) (fun _ _ => rfl)) (pv 17) (fun _ _ => rfl)) (fun _ _ => rfl))))
      (pss_cons (ps_setLc (i := 13) (own := [("number", 15), ("state", 9)]) (g := gTup K 2 (gCons (gName 15) (gCons (gName 9) gNil))) (tt := tTest (tOp (rIn K false) (tVar 9) (tVar 5))) (te := tVar 15) rfl scLeast.nd rfl rfl (sw_true rfl rfl rfl (by decide +kernel)) (pi_enum (by rfl) B.enumerate (pa_cons (pv 10) pa_nil)) (blkOk_by (by kernel_rfl))
          (fun _ _ _ _ _ => pg_tup rfl (pgs_cons (pg_name (i := 15) scLeast.nd rfl (Or.inl rfl)) (pgs_cons (pg_name (i := 9) scLeast.nd rfl (Or.inl rfl)) pgs_nil))) (fun _ _ _ _ _ => pts_one (pt_cmpR op_in_seq (pv 9) (pv 5) (by rfl))) (fun _ _ _ _ _ => pv 15))
      (pss_cons (ps_set (i := 14) scLeast.nd rfl (Or.inl rfl) (pe_tup (pa_cons (pe_dget hu (pv 7) (pv 1) (fun _ _ => rfl)) (pa_cons (pe_dget hu (pv 7) (pv 2) (fun _ _ => rfl)) (pa_cons (pv 11) (pa_cons (pv 12) (pa_cons (pv 13) pa_nil)))))))
      (pss_one (ps_ret (pe_g Fr hr1 (pa_cons (pv 14) (pa_cons (pe_g Fm hr2 (pa_cons (pv 14) pa_nil)) pa_nil)))))))))))))), ?_⟩
    obtain ⟨r, t, a, hv, h1, h2, h3⟩ := id hP
    have hle := ord_le ok id
    refine ⟨_, rfl, g_tup hv rfl ⟨_, _, rfl, _, _, rfl, _, _, rfl, _, _, rfl, _, _, rfl, rfl, ?_⟩⟩
    refine q_asgO (o := .lst ((ordOf id T).map nV)) (eo_call (ea_cons (ev_var rfl) ea_nil) fun H1 e1 Q' q' => ⟨v, T, rfl, hP.mono e1, ok, by omega, q'⟩) fun L H1 hL e1 h1L => ?_
    refine q_asgP (P := fun u H' => ∃ (p : Addr) (μ : Nat → Nat) (κ : Nat → Nat × List (List Nat)), u = .ref p ∧ H1 p = none ∧ Disc μ T ∧ μ = ren κ (ordOf id T) ∧ H' p = some (.dK (md μ (ordOf id T)))) (ep_call (ea_cons (ev_var rfl) (ea_cons (ev_var rfl) ea_nil)) fun H2 e2 Q' q' =>
      ⟨v, L, T, rfl, hP.mono (e1.trans e2), ok, by omega, e2 _ _ h1L, fun p H3 μ κ hp e3 d hμ h3' => q' _ H3 e3 ⟨p, μ, κ, rfl, fresh_back e2 hp, d, hμ, h3'⟩⟩) fun u H2 e2 ⟨d, μ, κ, hu', hd0, disc, hμ, h2d⟩ => ?_
    subst hu'
    have e12 := e1.trans e2
    have fm := first_marks hμ
    have fok := found_ok ok hμ
    have fle := found_le ok hμ
    have fleast := found_least ok disc hμ
    generalize hds : reps μ (ordOf id T) = ds at fm fok fle fleast
    have hsub : ∀ x ∈ ds, x ∈ ordOf id T := by rw [← hds]; exact reps_sub
    have hdl : ds.length ≤ 60 := by rw [← found_n μ T ds]; omega
    refine q_asgO eo_dnew fun Ld H3 hLd e3 h3L => ?_
    have rdm : ∀ {H' : Hp} {x : Nat}, Ex H2 H' → x ∈ ordOf id T → ∀ H1, Ex H' H1 → DGet H1 d (nV x) (some (nV (μ x))) := fun e hx => dget_md (.inl (e _ _ h2d)) hx
    refine q_for0 (over_list (σ := [some v, some (nV T.tie), some (nV T.gap), some r, some t, some a, some (.ref L), some (.ref d), some (.ref Ld), none, none, none, none, none, none, none, none, none]) (tl := tVar 6) (ev_var rfl) (SqL.of (e2 _ _ h1L))) e3 yAt_ex
      (fun i σ' H' => Ex H2 H' ∧ ∃ y, σ' = [some v, some (nV T.tie), some (nV T.gap), some r, some t, some a, some (.ref L), some (.ref d), some (.ref Ld), y, none, none, none, none, none, none, none, none] ∧ H' Ld = some (.dK (ld μ (reps μ ((ordOf id T).take i)))))
      (fun H4 e4 => ⟨e3.trans e4, none, rfl, e4 _ _ h3L⟩) (fun i σ' H' p => p.1) ?_ ?_
    · rintro i x σ' H4 H5 hi ⟨x4, y, rfl, h4L⟩ hy e5
      obtain ⟨rfl, hx⟩ := hy
      rw [List.getElem?_map] at hx
      obtain ⟨q, hq, rfl⟩ := Option.map_eq_some_iff.mp hx
      have qo : q ∈ ordOf id T := List.mem_of_getElem? hq
      have et : (ordOf id T).take (i + 1) = (ordOf id T).take i ++ [q] := by rw [List.take_add_one, hq]; rfl
      refine s_when (b := decide (μ q ∉ (reps μ ((ordOf id T).take i)).map μ)) (et_dnot (o := valV (ld μ (reps μ ((ordOf id T).take i))) (Sum.inl ((μ q : Nat) : Int))) (ev_dget (ev_var rfl) (ev_var rfl) (rdm x4 qo)) (ev_var rfl) (dget_k h4L) (by rw [ld_some]; exact decide_not.symm)) (fun hc H6 e6 => ?_) (fun hc H6 e6 => ?_)
      · have m := of_decide_eq_true hc
        refine s_dput (v := nV q) (kvs := ld μ (reps μ ((ordOf id T).take i))) (k := Sum.inl ((μ q : Nat) : Int)) (ev_var rfl) (ev_var rfl) (ev_dget (ev_var rfl) (ev_var rfl) (rdm (x4.trans e6) qo)) (e6 _ _ h4L) ?_ fun H7 e7 => ?_
        · have h2' : (ld μ (reps μ ((ordOf id T).take i))).length = cnt μ ((ordOf id T).take i) := List.length_map _
          have h3' := cnt_len μ ((ordOf id T).take i)
          have h4' : ((ordOf id T).take i).length ≤ (ordOf id T).length := (List.take_sublist i _).length_le
          rw [h2']
          exact sz_lt (by omega)
        · refine ⟨(x4.trans (e6.trans e7)).mut hLd, some (nV q), rfl, ?_⟩
          rw [upd_same, ld_put m, et, repsN_snoc]
          unfold push
          rw [if_neg m]
      · have m : μ q ∈ (reps μ ((ordOf id T).take i)).map μ := Decidable.of_not_not (of_decide_eq_false hc)
        refine ⟨x4.trans e6, some (nV q), rfl, ?_⟩
        rw [et, repsN_snoc]
        unfold push
        rw [if_pos m]
        exact e6 _ _ h4L
    · rintro σ' H4 ⟨x4, y, rfl, h4L⟩
      rw [List.length_map, List.take_length, hds] at h4L
      have kk : (ld μ ds).map (·.1) = (List.range ds.length).map fun (n : Nat) => (Sum.inl (n : Int) : Key) := by
        rw [← fm]
        unfold ld
        rw [List.map_map, List.map_map]; rfl
      refine q_asgO (o := .lst (ds.map nV)) (eo_L ?_) fun Lf H5 hLf e5 h5L => ?_
      · have e := elv_lc (te := tDGet (tVar 8) (tVar 15)) (vs := [15]) (g := gName 15) (tt := tYes) (σ := [some v, some (nV T.tie), some (nV T.gap), some r, some t, some a, some (.ref L), some (.ref d), some (.ref Ld), y, none, none, none, none, none, none, none, none]) (H := H4)
          (fun _ => true) (fun i => nV (ds.getD i 0)) (over_listN (K := K) (el_sortD (td := tVar 8) (ev_var rfl) (.inl h4L) kk (by rw [List.length_range]; omega) (List.Perm.refl _) (List.pairwise_lt_range.imp Nat.le_of_lt))) (by rw [List.length_map, List.length_range]; omega) yAt_ex (fun i x H5 H6 hi e5 hy => ?_)
        · rw [given_all, List.length_map, List.length_range, map_range_get (xs := ds) nV (fun i => nV (ds.getD i 0)) (fun i x hx => by rw [List.getD_eq_getElem?_getD, hx]; rfl)] at e
          exact e
        obtain ⟨rfl, hx⟩ := hy
        rw [List.length_map, List.length_range] at hi
        rw [List.getElem?_map, List.getElem?_range hi] at hx
        cases hx
        refine ⟨[some v, some (nV T.tie), some (nV T.gap), some r, some t, some a, some (.ref L), some (.ref d), some (.ref Ld), y, none, none, none, none, none, some (nV i), none, none], rfl, fun Qs h => h, fun H7 _ Q q => q H7 (Ex.refl _), fun _ => ?_⟩
        refine ev_dget (ev_var rfl) (ev_var rfl) ?_
        have hxx : ds[i]? = some (ds.getD i 0) := by rw [List.getD_eq_getElem?_getD, List.getElem?_eq_getElem hi]; rfl
        have := ld_val 0 (by rw [fm, List.range_eq_range']) hxx
        rw [Nat.zero_add] at this
        have g := dget_k (i := (i : Int)) (e5 _ _ h4L)
        rwa [this] at g
      have e15 := e12.trans (x4.trans e5)
      refine q_asgP (ep_lsRows (j := 3) (T := T) (μ := μ) h5L (e5 _ _ (x4 _ _ h2d)) (h1.mono e15) ok.rows ok (by omega) hsub true rfl (fun _ _ => rfl)) fun u1 H6 e6 ⟨p1, hu1, _, hm1⟩ => ?_
      have e16 := e15.trans e6
      refine q_asgP (ep_lsRows (j := 4) (T := T) (μ := μ) (e6 _ _ h5L) (e6 _ _ (e5 _ _ (x4 _ _ h2d))) (h2.mono e16) ok.sides ok (by omega) hsub false rfl (fun _ _ => rfl)) fun u2 H7 e7 ⟨p2, hu2, _, hm2⟩ => ?_
      have e17 := e16.trans e7
      refine q_asgO (o := .lst ((foundT μ T ds).acc.map nV)) (eo_L ?_) fun Lk H8 hLk e8 h8L => ?_
      · have e := elv_lc (te := tVar 15) (vs := [15, 9]) (g := gTup K 2 (gCons (gName 15) (gCons (gName 9) gNil))) (tt := tTest (tOp (rIn K false) (tVar 9) (tVar 5))) (σ := [some v, some (nV T.tie), some (nV T.gap), some r, some t, some a, some (.ref L), some (.ref d), some (.ref Ld), y, some (.ref Lf), some u1, some u2, none, none, none, none, none]) (H := H7)
          (fun i => decide (ds.getD i 0 ∈ T.acc)) (fun i => nV i) (over_enum (K := K) (tl := tCons (tVar 10) tNil) (ea_cons (ev_var rfl) ea_nil) (SqL.of (e7 _ _ (e6 _ _ h5L)))).over (by rw [List.length_map]; omega) yPair_ex (fun i x H8 H9 hi e8 hy => ?_)
        · rw [List.length_map] at e
          exact e
        obtain ⟨T', a', b', rfl, hT', rfl, ha', hb'⟩ := hy
        dsimp only at ha' hb'
        cases ha'
        rw [List.getElem?_map] at hb'
        obtain ⟨b, hb, rfl⟩ := Option.map_eq_some_iff.mp hb'
        have eb : ds.getD i 0 = b := by rw [List.getD_eq_getElem?_getD, hb]; rfl
        rw [eb]
        exact ⟨[some v, some (nV T.tie), some (nV T.gap), some r, some t, some a, some (.ref L), some (.ref d), some (.ref Ld), some (nV b), some (.ref Lf), some u1, some u2, none, none, some (nV i), none, none], rfl, fun Qs h => g_two upd_same h,
          et_test (ev_op (ev_var rfl) (ev_var rfl) (rv_inN (SqN.mono h3 (e17.trans (e8.trans (Ex.new hT')))))), fun _ => ev_var rfl⟩
      have e18 := e17.trans e8
      have e28 : Ex H2 H8 := x4.trans (e5.trans (e6.trans (e7.trans e8)))
      refine q_asgO (eo_U (eu_tup (ea_cons (ev_dget (ev_var rfl) (ev_var rfl) (rdm e28 (met_all ok .tie))) (ea_cons (ev_dget (ev_var rfl) (ev_var rfl) (rdm e28 (met_all ok .gap))) (ea_cons (ev_var rfl) (ea_cons (ev_var rfl) (ea_cons (ev_var rfl) ea_nil))))) (by simp))) fun pf H9 hpf e9 h9 => ?_
      have hPF : PartsAt K H9 (.ref pf) (foundT μ T ds) := ⟨u1, u2, .ref Lk, ⟨pf, rfl, h9⟩, hm1.mono (e7.trans (e8.trans e9)), hm2.mono (e8.trans e9), Sq.l (e9 _ _ h8L)⟩
      refine s_retP (P := fun u H' => PartsT H' u (least id (foundT μ T ds))) (ep_callP (P := fun vs H' => ∃ Lm, vs = [.ref pf, .ref Lm] ∧ H' Lm = some (.lst ((ordOf id (foundT μ T ds)).map nV))) (eap_consE (ev_var rfl) (eap_cons
        (P := fun u H' => ∃ Lm, u = .ref Lm ∧ H' Lm = some (.lst ((ordOf id (foundT μ T ds)).map nV))) (ep_call (ea_cons (ev_var rfl) ea_nil) fun H10 e10 Q' q' => ⟨.ref pf, _, rfl, hPF.mono e10, fok, by omega, fun p H11 hp e11 h11 => q' _ H11 e11 ⟨p, rfl, h11⟩⟩)
        fun u H10 e10 ⟨Lm, hu', hLm⟩ => fun H11 e11 Q' q' => q' [] H11 (Ex.refl _) ⟨Lm, by rw [hu'], e11 _ _ hLm⟩)) fun vs H10 e10 ⟨Lm, hvs, hLm⟩ => fun H11 e11 Q' q' => ?_) fun u H10 e10 hu' => k u H10 _ (e18.trans (e9.trans e10)) fleast hu'
      subst hvs
      exact ⟨.ref pf, Lm, _, rfl, hPF.mono (e10.trans e11), fok, by omega, e11 _ _ hLm, fun u H12 e12 hu' => q' u H12 e12 hu'⟩
end
end K46
set_option Elab.async false
set_option linter.all false
set_option autoImplicit false
set_option maxRecDepth 100000
/-! K46R3: for x in zip(t, u), two tuples, the pairs kept. -/
namespace K46
open PySem PySem.Spec PyProof.Rows L2 Evl
set_option maxHeartbeats 4000000
section
variable {prog : Program} {w : World} {A : Around} {E : Value → Shared → Prop} {s : Shared} {z TI TO T i1 i2 l1 l2 : Addr} {f : Bool} {oT : Obj} {k1 k2 : Nat} {xs ys : Array Value} {x y : Value}
/-- the next pair, while the one before is still there -/
theorem zipK_item {Q : Value → Shared → Prop} (D : ZipApart z TI TO i1 i2 l1 l2) (gz : IsZipHeld s.heap z TI TO T f) (gT : s.heap.get? T = some oT) (gI : IsPair s.heap TI (.ref i1) (.ref i2))
    (g1 : s.heap.IsTupleIter i1 l1 k1) (g2 : s.heap.IsTupleIter i2 l2 k2) (u1 : s.heap.IsTuple l1 xs) (u2 : s.heap.IsTuple l2 ys) (hx : xs[k1]? = some x) (hy : ys[k2]? = some y)
    (k : ∀ h', IsZipHeld h' z TI TO T true → h'.IsTupleIter i1 l1 (k1 + 1) → h'.IsTupleIter i2 l2 (k2 + 1) → IsPair h' s.heap.objs.size x y → (∀ c o, c ≠ z → c ≠ i1 → c ≠ i2 → s.heap.get? c = some o → h'.get? c = some o) → Q (.ref s.heap.objs.size) { s with heap := h' }) :
    wpAny (model prog w) A (Builtin.«zip.__next__» ⟨[.ref z], []⟩) (fun fin s' => ∃ v, fin = .done (.ret v) ∧ Q v s') E s := by
  show wpAny _ _ (field (.ref z) 2 >>= _) _ _ _; refine wpAny_bind (wpAny_field gz rfl (x := .bool false) rfl ?_)
  show wpAny _ _ (field (.ref z) 3 >>= _) _ _ _; refine wpAny_bind (wpAny_field gz rfl (x := .ref TI) rfl (wpAny_bind (wpAny_seqItems gI rfl ?_)))
  show wpAny _ _ (Builtin.SmallTypes.ownedTupleIsFree (.ref z) >>= _) _ _ _; refine wpAny_bind (wpAny_tupleHeld_zip gz gT fun a ga sa => ?_)
  simp only [Bool.false_eq_true, if_false]; refine wpAny_bind ?_
  rw [← Array.forIn_toList]; simp only [List.forIn_cons, List.forIn_nil]; refine wpAny_bind (wpAny_bind (wpAny_holding ?_))
  show wpAny _ _ (Builtin.SmallTypes.nextOf (.ref i1) >>= _) _ _ _; refine wpAny_bind (RZ.nextOf_tuple_item (s := { s with heap := a }) (g1.extBut sa.extBut D.i1z) (u1.extBut sa.extBut D.l1z) hx fun b gb sb => wpAny_pure (wpAny_pure ?_))
  refine wpAny_bind (wpAny_bind (wpAny_holding ?_)); show wpAny _ _ (Builtin.SmallTypes.nextOf (.ref i2) >>= _) _ _ _
  refine wpAny_bind (RZ.nextOf_tuple_item (s := { s with heap := b }) ((g2.extBut sa.extBut D.i2z).extBut sb.extBut D.i12.symm) ((u2.extBut sa.extBut D.l2z).extBut sb.extBut D.l2i1) hy fun c gc sc => wpAny_pure (wpAny_pure (wpAny_pure ?_)))
  show wpAny _ _ (newTuple [x, y] >>= _) _ _ _; refine wpAny_bind (wpAny_newTuple (wpAny_pure ⟨_, rfl, ?_⟩))
  have ez : c.objs.size = s.heap.objs.size := by rw [sc.1, sb.1, sa.1]
  have zc : IsZipHeld c z TI TO T true := sc.extBut _ _ D.i2z.symm (sb.extBut _ _ D.i1z.symm ga)
  have kc : ∀ d o, d ≠ z → d ≠ i1 → d ≠ i2 → s.heap.get? d = some o → c.get? d = some o := fun d o d1 d2 d3 e => sc.extBut _ _ d3 (sb.extBut _ _ d2 (sa.extBut _ _ d1 e))
  show Q (.ref c.objs.size) _
  have pc : IsPair (c.push { cls := .type "tuple", data := .seq #[x, y] }) c.objs.size x y := Heap.get?_push_size _ rfl
  rw [ez] at pc ⊢
  exact k _ (Heap.get?_push_of_some _ zc) ((gb.extBut sc.extBut D.i12).at fun o e => Heap.get?_push_of_some _ e) (gc.at fun o e => Heap.get?_push_of_some _ e) pc fun d o d1 d2 d3 e => Heap.get?_push_of_some _ (kc d o d1 d2 d3 e)
theorem zipK_end {Q : Fin → Shared → Prop} (hh : A.handled = none) (D : ZipApart z TI TO i1 i2 l1 l2) (gz : IsZipHeld s.heap z TI TO T f) (gT : s.heap.get? T = some oT) (gI : IsPair s.heap TI (.ref i1) (.ref i2))
    (g1 : s.heap.IsTupleIter i1 l1 k1) (u1 : s.heap.IsTuple l1 xs) (hx : xs[k1]? = none)
    (k : ∀ h' e, (∀ c o, c ≠ z → c ≠ i1 → c ≠ i2 → s.heap.get? c = some o → h'.get? c = some o) → (∃ o, h'.get? e = some o ∧ o.cls = .type "StopIteration") → E (.ref e) { s with heap := h' }) :
    wpAny (model prog w) A (Builtin.«zip.__next__» ⟨[.ref z], []⟩) Q E s := by
  show wpAny _ _ (field (.ref z) 2 >>= _) _ _ _; refine wpAny_bind (wpAny_field gz rfl (x := .bool false) rfl ?_)
  show wpAny _ _ (field (.ref z) 3 >>= _) _ _ _; refine wpAny_bind (wpAny_field gz rfl (x := .ref TI) rfl (wpAny_bind (wpAny_seqItems gI rfl ?_)))
  show wpAny _ _ (Builtin.SmallTypes.ownedTupleIsFree (.ref z) >>= _) _ _ _; refine wpAny_bind (wpAny_tupleHeld_zip gz gT fun a ga sa => ?_)
  simp only [Bool.false_eq_true, if_false]; refine wpAny_bind ?_
  rw [← Array.forIn_toList]; simp only [List.forIn_cons, List.forIn_nil]; refine wpAny_bind (wpAny_bind (wpAny_holding ?_))
  show wpAny _ _ (Builtin.SmallTypes.nextOf (.ref i1) >>= _) _ _ _; refine wpAny_bind (RZ.nextOf_tuple_end (s := { s with heap := a }) hh (g1.extBut sa.extBut D.i1z) (u1.extBut sa.extBut D.l1z) hx fun b e sb he => ?_)
  exact k b e (fun c o c1 c2 _ q => sb _ _ c2 (sa.extBut _ _ c1 q)) he
theorem zipK_next {Q : Option Value → Shared → Prop} (D : ZipApart z TI TO i1 i2 l1 l2) (gz : IsZipHeld s.heap z TI TO T f) (gT : s.heap.get? T = some oT) (gI : IsPair s.heap TI (.ref i1) (.ref i2))
    (g1 : s.heap.IsTupleIter i1 l1 k1) (g2 : s.heap.IsTupleIter i2 l2 k2) (u1 : s.heap.IsTuple l1 xs) (u2 : s.heap.IsTuple l2 ys) (hx : xs[k1]? = some x) (hy : ys[k2]? = some y)
    (k : ∀ h', IsZipHeld h' z TI TO T true → h'.IsTupleIter i1 l1 (k1 + 1) → h'.IsTupleIter i2 l2 (k2 + 1) → IsPair h' s.heap.objs.size x y → (∀ c o, c ≠ z → c ≠ i1 → c ≠ i2 → s.heap.get? c = some o → h'.get? c = some o) → Q (some (.ref s.heap.objs.size)) { s with heap := h' }) :
    wpAny (model prog w) A (pyNext (.ref z)) Q E s := by
  have ty : s.TypeIs (.ref z) "zip" := ⟨_, gz, rfl⟩
  unfold pyNext
  refine wpAny_bind (wpAny_attempt (wpAny_callSpecial?_slot (name := Str.ofString "__next__") ty F.slot_zip_next (wpAny_call_entry F.slot_zip_next ty F.entry_zip_next ?_ (F.args_zip_next_1 _))))
  exact zipK_item D gz gT gI g1 g2 u1 u2 hx hy fun h' a1 a2 a3 a4 a5 => wpAny_pure (k h' a1 a2 a3 a4 a5)
theorem zipK_stop {Q : Option Value → Shared → Prop} (hh : A.handled = none) (D : ZipApart z TI TO i1 i2 l1 l2) (gz : IsZipHeld s.heap z TI TO T f) (gT : s.heap.get? T = some oT) (gI : IsPair s.heap TI (.ref i1) (.ref i2))
    (g1 : s.heap.IsTupleIter i1 l1 k1) (u1 : s.heap.IsTuple l1 xs) (hx : xs[k1]? = none)
    (k : ∀ h', (∀ c o, c ≠ z → c ≠ i1 → c ≠ i2 → s.heap.get? c = some o → h'.get? c = some o) → Q none { s with heap := h' }) : wpAny (model prog w) A (pyNext (.ref z)) Q E s := by
  have ty : s.TypeIs (.ref z) "zip" := ⟨_, gz, rfl⟩
  unfold pyNext
  refine wpAny_bind (wpAny_attempt (wpAny_callSpecial?_slot (name := Str.ofString "__next__") ty F.slot_zip_next (wpAny_call_entry F.slot_zip_next ty F.entry_zip_next ?_ (F.args_zip_next_1 _))))
  refine zipK_end hh D gz gT gI g1 u1 hx fun h' e hk he => ?_
  obtain ⟨o, ho, hc⟩ := he
  exact wpAny_bind (wpAny_isInstance (T := "StopIteration") (b := true) ⟨o, ho, hc⟩ isSubtype_stop (wpAny_pure (k _ hk)))
end
section
variable {X : Cx}
/-- for x in zip(..): o says which pair came first -/
def tForZ (K : PySem.W.Frag) (ta : TA) (g : TG) (tb : TS) : TS := fun D σ H => ta σ H fun vs H1 => ∃ a b xs ys, vs = [V.ref a, V.ref b] ∧ SqT K H1 a xs ∧ SqT K H1 b ys ∧ xs.length = ys.length ∧ ∃ W : Nat → Option Addr → L2.St → Hp → Prop, W 0 none σ H1 ∧
  (∀ i o σ H, W i o σ H → SqT K H a xs ∧ SqT K H b ys ∧ ∀ T, o = some T → ∃ u, H T = some (.tup u)) ∧ (∀ o σ H, W xs.length o σ H → D.nx σ H) ∧
  ∀ i x y o σ H T, xs[i]? = some x → ys[i]? = some y → W i o σ H → H T = none → g (.ref T) σ (upd H T (.tup [x, y])) fun σ2 H2 => tb { D with nx := W (i + 1) (some (o.getD T)), ct := W (i + 1) (some (o.getD T)), bk := D.nx } σ2 H2
/-- what the zip's own objects are at turn i -/
def ZSt (z TI TO i1 i2 a b : Addr) (i : Nat) (o : Option Addr) (h : Heap) : Prop :=
  (match o with | none => IsZip h z TI TO .none | some T => ∃ f, IsZipHeld h z TI TO T f) ∧ IsPair h TI (.ref i1) (.ref i2) ∧ (∃ x y, IsPair h TO x y) ∧ h.IsTupleIter i1 a i ∧ h.IsTupleIter i2 b i
theorem ZSt.obj {z TI TO i1 i2 a b : Addr} {i : Nat} {o : Option Addr} {h : Heap} (st : ZSt z TI TO i1 i2 a b i o h) : ∀ c ∈ [z, TI, TO, i1, i2], ∃ ob, h.get? c = some ob ∧ ∀ v, ob.data ≠ .cell v := by
  obtain ⟨hz, hI, ⟨x, y, hO⟩, ⟨o1, e1, _, d1⟩, ⟨o2, e2, _, d2⟩⟩ := st
  intro c hc
  simp only [List.mem_cons, List.not_mem_nil, or_false] at hc
  rcases hc with rfl | rfl | rfl | rfl | rfl
  · cases o with
    | none => exact ⟨_, hz, fun v q => nomatch q⟩
    | some T => obtain ⟨f, hz⟩ := hz; exact ⟨_, hz, fun v q => nomatch q⟩
  · exact ⟨_, hI, fun v q => nomatch q⟩
  · exact ⟨_, hO, fun v q => nomatch q⟩
  · exact ⟨o1, e1, fun v q => by rw [d1] at q; cases q⟩
  · exact ⟨o2, e2, fun v q => by rw [d2] at q; cases q⟩
theorem ZSt.keep {z TI TO i1 i2 a b : Addr} {i : Nat} {o : Option Addr} {h h' : Heap} (st : ZSt z TI TO i1 i2 a b i o h) (k : ∀ c ∈ [z, TI, TO, i1, i2], ∀ ob, h.get? c = some ob → h'.get? c = some ob) : ZSt z TI TO i1 i2 a b i o h' := by
  obtain ⟨hz, hI, ⟨x, y, hO⟩, h1, h2⟩ := st
  refine ⟨?_, k TI (by simp) _ hI, ⟨x, y, k TO (by simp) _ hO⟩, h1.at fun u q => k i1 (by simp) u q, h2.at fun u q => k i2 (by simp) u q⟩
  cases o with
  | none => exact k z (by simp) _ hz
  | some T => obtain ⟨f, hz⟩ := hz; exact ⟨f, k z (by simp) _ hz⟩
theorem ps_forZ {y : Str} {py p pos fpos : Pos} {e e2 : Expr} {body : List Stmt} {ta : TA} {g : TG} {tb : TS} (hp : PassesOwn (model X.prog X.w) X.A X.env X.xe) (hc : X.calm = true) (hg' : Gl X "zip") (hm : X.mg "zip" = none) (ha : PA X [e, e2] ta) (hg : PG X (.Name y py) g) (hb : PSs X body tb)
    (hs : starEach [e, e2] X.env = (false, eval e X.env) :: starEach [e2] X.env := by rfl) (hpl : (backTo pos (starEach [e2] X.env)).any (·.1) = false := by rfl) (hf : ∀ x, foldedSetIterable (.Call (.Name "zip" p) [e, e2] [] pos) X.env x = pure x := by intro _; rfl) :
    PS X (.For (.Name y py) (.Call (.Name "zip" p) [e, e2] [] pos) body [] fpos) (tForZ X.K ta g tb) := by
  refine ⟨fun pins s σ H D I h => ?_⟩
  refine wpAny_For (Call_ (ld_blt I hg' hm PyProof.Rows.boot_zip (PyProof.Rows.callWith_type1 (thn (ha.run pos pins s σ H _ I h) fun us s1 ⟨vs, H1, I1, r1, q1⟩ => ?_) hs hpl))) hf
  obtain ⟨a, b, xs, ys, ex, qa, qb, hl, W, w0, wq, wd, ws⟩ := q1
  subst ex
  obtain ⟨u1, u2, rfl, r, r'⟩ : ∃ u1 u2, us = [u1, u2] ∧ RelV (.ref a) u1 ∧ RelV (.ref b) u2 := by
    cases r1 with
    | cons r rr =>
      cases rr with
      | cons r' rr => cases rr; exact ⟨_, _, rfl, r, r'⟩
  cases r
  cases r'
  obtain ⟨its, rv, p1, _⟩ := I1.tuple qa
  obtain ⟨its2, rv2, p2, _⟩ := I1.tuple qb
  obtain ⟨o1, ho1, _⟩ := id p1
  obtain ⟨o2, ho2, _⟩ := id p2
  refine RZ.call_zipT (show s1.heap.IsTuple a its.toArray from p1) (show s1.heap.IsTuple b its2.toArray from p2) fun h' hz hTI hTO h1 h2 hsz hk => wpAny_pyIter_zip hz ?_
  have I2 : Inv X pins σ H1 { s1 with heap := h' } := I1.kept (t' := s1.toks) hk
  have AP := PySem.W.ktu_apart s1.heap.objs.size a b (Heap.lt_size ho1) (Heap.lt_size ho2)
  have fp5 : ∀ c ∈ [s1.heap.objs.size + 4, s1.heap.objs.size + 2, s1.heap.objs.size + 3, s1.heap.objs.size, s1.heap.objs.size + 1], FpOk X pins H1 c := fun c hcm => by
    have hle : s1.heap.objs.size ≤ c := by
      simp only [List.mem_cons, List.not_mem_nil, or_false] at hcm
      omega
    exact I1.fpOk hle (I1.hok.fresh hle)
  have st0 : ZSt (s1.heap.objs.size + 4) (s1.heap.objs.size + 2) (s1.heap.objs.size + 3) s1.heap.objs.size (s1.heap.objs.size + 1) a b 0 none h' := ⟨hz, hTI, ⟨_, _, hTO⟩, h1, h2⟩
  generalize s1.heap.objs.size + 4 = z at *
  generalize s1.heap.objs.size + 2 = TI at *
  generalize s1.heap.objs.size + 3 = TO at *
  generalize s1.heap.objs.size + 1 = i2 at *
  generalize s1.heap.objs.size = i1 at *
  have stat : ∀ {H' : Hp}, (∀ c ∈ [z, TI, TO, i1, i2], H' c = none) → ∀ c ∈ [z, TI, TO, i1, i2], FpOk X pins H' c := fun hn c hcm => ⟨hn c hcm, (fp5 c hcm).2⟩
  refine codeAny_forLoop_any (fun n s' => ∃ i o σ' H', n = xs.length - i ∧ i ≤ xs.length ∧ Inv X pins σ' H' s' ∧ ZSt z TI TO i1 i2 a b i o s'.heap ∧ (∀ c ∈ [z, TI, TO, i1, i2], H' c = none) ∧ W i o σ' H') ?_ xs.length ⟨0, none, σ, H1, rfl, Nat.zero_le _, I2, st0, fun c hcm => (fp5 c hcm).1, w0⟩
  rintro n s3 ⟨i, o, σ3, H3, rfl, hi, I3, st3, fr3, w3⟩
  obtain ⟨qa3, qb3, ho3⟩ := wq i o σ3 H3 w3
  obtain ⟨jts, rj, pj, _⟩ := I3.tuple qa3
  obtain ⟨jts2, rj2, pj2, _⟩ := I3.tuple qb3
  have lj := rj.length
  have lj2 := rj2.length
  have st3' := st3
  obtain ⟨gz, gI, ⟨x0, y0, gO⟩, g1, g2⟩ := st3'
  by_cases hlt : i < xs.length
  · have hx : xs[i]? = some xs[i] := List.getElem?_eq_getElem hlt
    have hy : ys[i]? = some (ys[i]'(by omega)) := List.getElem?_eq_getElem (by omega)
    obtain ⟨v1, hv1, rv1⟩ := rj.get hx
    obtain ⟨v2, hv2, rv2'⟩ := rj2.get hy
    have nx : ∀ (Q : Option Value → Shared → Prop), (∀ h4 : Heap, ZSt z TI TO i1 i2 a b (i + 1) (some (o.getD s3.heap.objs.size)) h4 → IsPair h4 s3.heap.objs.size v1 v2 → (∀ c ob, c ≠ z → c ≠ TI → c ≠ TO → c ≠ i1 → c ≠ i2 → s3.heap.get? c = some ob → h4.get? c = some ob) → Q (some (.ref s3.heap.objs.size)) { s3 with heap := h4 }) →
        wpAny (model X.prog X.w) X.A (pyNext (.ref z)) Q X.xe s3 := fun Q q => by
      cases o with
      | none =>
        refine RZ.pyNext_zipT_item AP gz gI gO g1 g2 (show s3.heap.IsTuple a jts.toArray from pj) (show s3.heap.IsTuple b jts2.toArray from pj2) (x := v1) (y := v2) (by simpa using hv1) (by simpa using hv2) fun h4 z4 O4 a4 b4 T4 _ k4 => q h4 ⟨⟨false, z4⟩, k4 _ _ AP.TIz AP.TITO AP.TIi1 AP.TIi2 gI, ⟨_, _, O4⟩, a4, b4⟩ T4 fun c ob c1 _ c3 c4 c5 e => k4 c ob c1 c3 c4 c5 e
      | some T =>
        obtain ⟨f, gz⟩ := gz
        obtain ⟨zs, hT⟩ := ho3 T rfl
        obtain ⟨_, _, _, oT, gT, _⟩ := (show ObjOk X.prog X.w H3 s3.heap T (.tup zs) from I3.hok T _ hT)
        refine zipK_next AP gz gT gI g1 g2 (show s3.heap.IsTuple a jts.toArray from pj) (show s3.heap.IsTuple b jts2.toArray from pj2) (x := v1) (y := v2) (by simpa using hv1) (by simpa using hv2) fun h4 z4 a4 b4 T4 k4 => ?_
        exact q h4 ⟨⟨true, z4⟩, k4 _ _ AP.TIz AP.TIi1 AP.TIi2 gI, ⟨x0, y0, k4 _ _ AP.TOz AP.TOi1 AP.TOi2 gO⟩, a4, b4⟩ T4 fun c ob c1 _ c3 c4 c5 e => k4 c ob c1 c4 c5 e
    refine wpAny_passesOwn hp (nx _ fun h4 st4 hT hk4 => ?_)
    have hzl : ∀ c ∈ [z, TI, TO, i1, i2], c < s3.heap.objs.size := fun c hcm => by
      obtain ⟨ob, e, _⟩ := st3.obj c hcm
      exact Heap.lt_size e
    have new : ObjOk X.prog X.w (upd H3 s3.heap.objs.size (.tup [xs[i], ys[i]'(by omega)])) h4 s3.heap.objs.size (.tup [xs[i], ys[i]'(by omega)]) :=
      ⟨by show 2 ≤ sizeLine; decide, [v1, v2], .cons rv1 (.cons rv2' .nil), ⟨_, hT, rfl, _, rfl⟩⟩
    have fr : H3 s3.heap.objs.size = none := I3.hok.fresh (Nat.le_refl _)
    have I4 : Inv X pins σ3 (upd H3 s3.heap.objs.size (.tup [xs[i], ys[i]'(by omega)])) { s3 with heap := h4 } :=
      I3.turnedNew (t' := s3.toks) (ch := [z, TI, TO, i1, i2]) (fun c ob hb q => hk4 c ob (fun q' => hb (by simp [q'])) (fun q' => hb (by simp [q'])) (fun q' => hb (by simp [q'])) (fun q' => hb (by simp [q'])) (fun q' => hb (by simp [q'])) q) (stat fr3) (Nat.le_refl _) new
    have fr4 : ∀ c ∈ [z, TI, TO, i1, i2], (upd H3 s3.heap.objs.size (.tup [xs[i], ys[i]'(by omega)])) c = none := fun c hcm => by
      rw [upd_ne (Nat.ne_of_lt (hzl c hcm))]
      exact fr3 c hcm
    refine wpAny_passesOwn hp (show wpAny _ _ (letOwnedTupleGo (.Name y py) _ _) _ _ _ from wpAny_pure ?_)
    have I5 := I4.pinned (stat fr4) st4.obj
    refine wpAny_passesOwn hp (thn (hg.run _ _ σ3 _ (V.ref s3.heap.objs.size) _ _ I5 rfl (ws i _ _ o σ3 H3 s3.heap.objs.size hx hy w3 fr)) fun _ s6 ⟨σ6, H6, I6, q6⟩ => ?_)
    refine wpAny_passesOwn hp (thn (hb.run _ s6 σ6 H6 _ I6 q6) fun fl s7 q7 => ?_)
    have again : ∀ {σ7 : L2.St} {H7 : Hp}, Inv X (pins ++ pinsAt [z, TI, TO, i1, i2] h4) σ7 H7 s7 → W (i + 1) (some (o.getD s3.heap.objs.size)) σ7 H7 →
        ∃ m, m < xs.length - i ∧ ∃ i o σ' H', m = xs.length - i ∧ i ≤ xs.length ∧ Inv X pins σ' H' s7 ∧ ZSt z TI TO i1 i2 a b i o s7.heap ∧ (∀ c ∈ [z, TI, TO, i1, i2], H' c = none) ∧ W i o σ' H' := fun {σ7 H7} I7 w7 => by
      have pin' : ∀ c ∈ [z, TI, TO, i1, i2], ∀ ob, h4.get? c = some ob → s7.heap.get? c = some ob ∧ H7 c = none := fun c hcm ob e =>
        let q := I7.pin (c, ob) (List.mem_append_right _ (List.mem_append_right _ (mem_pinsAt hcm e)))
        ⟨q.1, q.2.1⟩
      refine ⟨xs.length - (i + 1), by omega, i + 1, _, σ7, H7, rfl, hlt, I7.unpinned, st4.keep fun c hcm ob e => (pin' c hcm ob e).1, fun c hcm => ?_, w7⟩
      obtain ⟨ob, e, _⟩ := st4.obj c hcm
      exact (pin' c hcm ob e).2
    cases fl with
    | next => obtain ⟨σ7, H7, I7, n7⟩ := q7; exact again I7 n7
    | cont => obtain ⟨σ7, H7, I7, n7⟩ := q7; exact again I7 n7
    | brk => obtain ⟨σ7, H7, I7, q7⟩ := q7; exact ⟨σ7, H7, I7.unpinned, q7⟩
    | ret v => obtain ⟨x7, σ7, H7, I7, r7, q7⟩ := q7; exact ⟨x7, σ7, H7, I7.unpinned, r7, q7⟩
  · have ei : i = xs.length := by omega
    subst ei
    have ex : jts.toArray[xs.length]? = none := by simp; omega
    have nx : ∀ (Q : Option Value → Shared → Prop), (∀ h4 : Heap, (∀ c ob, c ≠ z → c ≠ TI → c ≠ TO → c ≠ i1 → c ≠ i2 → s3.heap.get? c = some ob → h4.get? c = some ob) → Q none { s3 with heap := h4 }) → wpAny (model X.prog X.w) X.A (pyNext (.ref z)) Q X.xe s3 := fun Q q => by
      cases o with
      | none => exact RZ.pyNext_zipT_end (I.ok.hd hc) AP gz gI gO g1 g2 (show s3.heap.IsTuple a jts.toArray from pj) (show s3.heap.IsTuple b jts2.toArray from pj2) (.inl ex) fun h4 k4 => q h4 fun c ob c1 _ c3 c4 c5 e => k4 c ob c1 c3 c4 c5 e
      | some T =>
        obtain ⟨f, gz⟩ := gz
        obtain ⟨zs, hT⟩ := ho3 T rfl
        obtain ⟨_, _, _, oT, gT, _⟩ := (show ObjOk X.prog X.w H3 s3.heap T (.tup zs) from I3.hok T _ hT)
        exact zipK_stop (I.ok.hd hc) AP gz gT gI g1 (show s3.heap.IsTuple a jts.toArray from pj) ex fun h4 k4 => q h4 fun c ob c1 _ _ c4 c5 e => k4 c ob c1 c4 c5 e
    refine wpAny_passesOwn hp (nx _ fun h4 hk4 => ?_)
    have I4 : Inv X pins σ3 H3 { s3 with heap := h4 } := I3.turnedL (t' := s3.toks) (ch := [z, TI, TO, i1, i2]) (fun c ob hb q => hk4 c ob (fun q' => hb (by simp [q'])) (fun q' => hb (by simp [q'])) (fun q' => hb (by simp [q'])) (fun q' => hb (by simp [q'])) (fun q' => hb (by simp [q'])) q) (stat fr3)
    exact wpAny_execs_nil ⟨σ3, H3, I4, wd o σ3 H3 w3⟩
end
end K46
set_option linter.all false
set_option autoImplicit false
/-! K46Math4: the pairs of states met. -/
namespace K46
abbrev Pr2 := Nat × Nat
def fourP (T U : Tb) (p q : Pr2) : List Pr2 := [(T.R p.1 q.1, U.R p.2 q.2), (T.R q.1 p.1, U.R q.2 p.2), (T.S p.1 q.1, U.S p.2 q.2), (T.S q.1 p.1, U.S q.2 p.2)]
def startP (T U : Tb) : List Pr2 := push id [(T.gap, U.gap)] (T.tie, U.tie)
def ordP (T U : Tb) : List Pr2 := bfs id (fourP T U) (T.n * U.n) (startP T U) 0
def RchP (T U : Tb) (p : Pr2) : Prop := ∃ b, p = (st T b, st U b)
theorem RchP.op {T U : Tb} {p q : Pr2} (r : Bool) (h : RchP T U p) (k : RchP T U q) : RchP T U (K46.op T r p.1 q.1, K46.op U r p.2 q.2) := by
  obtain ⟨a, rfl⟩ := h
  obtain ⟨b, rfl⟩ := k
  exact ⟨jn r a b, by rw [st_jn, st_jn]⟩
theorem fourP_rch {T U : Tb} {p q : Pr2} (h : RchP T U p) (k : RchP T U q) : ∀ y ∈ fourP T U p q, RchP T U y := by
  intro y hy
  unfold fourP at hy
  rw [List.mem_cons, List.mem_cons, List.mem_cons, List.mem_singleton] at hy
  rcases hy with rfl | rfl | rfl | rfl
  · exact RchP.op true h k
  · exact RchP.op true k h
  · exact RchP.op false h k
  · exact RchP.op false k h
theorem startP_rch {T U : Tb} : ∀ y ∈ startP T U, RchP T U y := push_all (fun y hy => by rw [List.mem_singleton] at hy; subst hy; exact ⟨.gap, rfl⟩) ⟨.tie, rfl⟩
theorem startP_dist {T U : Tb} : Dist id (startP T U) := push_dist (by unfold Dist; simp) _
theorem RchP.lt {T U : Tb} (hT : T.Ok) (hU : U.Ok) {p : Pr2} (h : RchP T U p) : p.1 < T.n ∧ p.2 < U.n := by
  obtain ⟨b, rfl⟩ := h
  exact ⟨Rch.lt hT ⟨b, rfl⟩, Rch.lt hU ⟨b, rfl⟩⟩
theorem RchP.acc {T U : Tb} (h : Same T U) {p : Pr2} (k : RchP T U p) : p.1 ∈ T.acc ↔ p.2 ∈ U.acc := by
  obtain ⟨b, rfl⟩ := k
  exact h b
theorem pair_le (n m : Nat) (l : List Pr2) (h : l.Nodup) (hl : ∀ p ∈ l, p.1 < n ∧ p.2 < m) : l.length ≤ n * m := by
  have h1 : (l.map fun p => p.1 * m + p.2).Nodup := by
    refine List.pairwise_map.mpr (h.imp_of_mem fun {p q} hp hq ne e => ne ?_)
    have h2 := hl p hp
    have h3 := hl q hq
    have e2 : p.2 = q.2 := by
      have := congrArg (· % m) e
      simpa [Nat.mul_add_mod_self_right, Nat.mod_eq_of_lt h2.2, Nat.mod_eq_of_lt h3.2, Nat.add_comm, Nat.add_mul_mod_self_right] using this
    have e1 : p.1 = q.1 := by
      rw [e2] at e
      exact Nat.eq_of_mul_eq_mul_right (by omega) (Nat.add_right_cancel e)
    exact Prod.ext e1 e2
  have := nodup_le (n * m) _ h1 fun x hx => by
    obtain ⟨p, hp, rfl⟩ := List.mem_map.mp hx
    have h2 := hl p hp
    calc p.1 * m + p.2 < p.1 * m + m := by omega
      _ = (p.1 + 1) * m := by rw [Nat.succ_mul]
      _ ≤ n * m := Nat.mul_le_mul_right _ h2.1
  rwa [List.length_map] at this
theorem rchP_bound {T U : Tb} (hT : T.Ok) (hU : U.Ok) : ∀ o : List Pr2, Dist id o → (∀ y ∈ o, RchP T U y) → o.length ≤ T.n * U.n := fun o d h =>
  pair_le _ _ o (dist_nodup d) fun p hp => (h p hp).lt hT hU
theorem ordP_rch {T U : Tb} : ∀ y ∈ ordP T U, RchP T U y := bfs_all (fun a b ha hb => fourP_rch ha hb) _ _ startP_rch
theorem ordP_dist {T U : Tb} : Dist id (ordP T U) := bfs_dist _ _ startP_dist
theorem ordP_nodup {T U : Tb} : (ordP T U).Nodup := dist_nodup ordP_dist
theorem ordP_le {T U : Tb} (hT : T.Ok) (hU : U.Ok) : (ordP T U).length ≤ T.n * U.n := rchP_bound hT hU _ ordP_dist ordP_rch
theorem ordP_shut {T U : Tb} (hT : T.Ok) (hU : U.Ok) : Shut id (fourP T U) (ordP T U) (ordP T U).length :=
  bfs_shut (P := RchP T U) (fun a b ha hb => fourP_rch ha hb) (rchP_bound hT hU) _ _ (by omega) (Nat.zero_le _) startP_dist startP_rch (fun i j a b _ hj => absurd hj (Nat.not_lt_zero _))
theorem ordP_op {T U : Tb} (hT : T.Ok) (hU : U.Ok) (r : Bool) {p q : Pr2} (hp : p ∈ ordP T U) (hq : q ∈ ordP T U) : (op T r p.1 q.1, op U r p.2 q.2) ∈ ordP T U := by
  obtain ⟨i, ei⟩ := List.mem_iff_getElem?.mp hp
  obtain ⟨j, ej⟩ := List.mem_iff_getElem?.mp hq
  have li := (List.getElem?_eq_some_iff.mp ei).1
  have lj := (List.getElem?_eq_some_iff.mp ej).1
  have key : id (op T r p.1 q.1, op U r p.2 q.2) ∈ (ordP T U).map id := by
    by_cases h : i ≤ j
    · refine ordP_shut hT hU i j p q h lj ei ej _ ?_
      cases r <;> simp [fourP, op]
    · refine ordP_shut hT hU j i q p (by omega) li ej ei _ ?_
      cases r <;> simp [fourP, op]
  rwa [List.map_id] at key
theorem ordP_gap {T U : Tb} : (T.gap, U.gap) ∈ ordP T U := by
  have h := prefix_get' (bfs_prefix (κ := id) (F := fourP T U) (T.n * U.n) (startP T U) 0) (prefix_get' (push_prefix (κ := id) [(T.gap, U.gap)] (T.tie, U.tie)) (i := 0) rfl)
  exact List.mem_of_getElem? h
theorem ordP_tie {T U : Tb} : (T.tie, U.tie) ∈ ordP T U := by
  have h := has_prefix (κ := id) (bfs_prefix (κ := id) (F := fourP T U) (T.n * U.n) (startP T U) 0) (push_has [(T.gap, U.gap)] (T.tie, U.tie))
  rwa [List.map_id] at h
end K46
set_option Elab.async false
set_option linter.all false
set_option autoImplicit false
set_option maxRecDepth 100000
/-! K46R4: {(a, b): v}; pairs in lists and dicts. -/
namespace K46
open PySem PySem.Spec PyProof.Rows L2 Evl
set_option maxHeartbeats 4000000
section
variable {X : Cx}
def tDispT1 (tk tv : TE) : TE := fun σ H Q => ∀ p, H p = none → tk σ (upd H p (.dT [])) fun y H1 => tv σ H1 fun z H2 => ∃ (b : Addr) (k : List Key), y = .ref b ∧ H2 b = some (.tup (k.map kV)) ∧ H2 p = some (.dT []) ∧ Q (.ref p) (upd H2 p (.dT [(k, z)]))
theorem pe_dispT1 {k v : Expr} {pos : Pos} {tk tv : TE} (hu : X.A.units + 1 < cLine) (hk : PE X k tk) (hv : PE X v tv) : PE X (.Dict [some k] [v] pos) (tDispT1 tk tv) := by
  refine ⟨fun pins s σ H Q I q => ?_⟩
  have hn := I.hok.fresh (Nat.le_refl s.heap.objs.size)
  have I1 := I.laid (a := s.heap.objs.size) (o := .dT []) (h' := s.heap.push { cls := .type "dict", data := .dict #[] }) (t' := s.toks) (fun _ _ q => Heap.get?_push_of_some _ q) (Nat.le_refl _) (dt_empty s.heap I.big)
  have sh := zip_pairTrees [some k] [v] X.env pos rfl rfl
  have hl := pairTrees_length [some k] [v] X.env pos rfl rfl
  rw [arm_eval_Dict, sh, dictDisplay_pairs (pairTrees [some k] [v] X.env pos) (fun e => by rw [e] at hl; cases hl) (by rw [hl]; show 1 < 17; decide)]
  refine wpAny_bind (wpAny_standAt (wpAny_bind (wpAny_subDictH (knd := tupleKind (mixKind X.prog X.w)) (Q := fun d s' => wpAny (model X.prog X.w) X.A (pure (Value.ref d)) (EP X pins σ Q) X.xe s') (by show X.A.units < cLine; omega) (by rw [hl]; show 1 ≤ 15; decide) ?_)))
  refine pairTrees_cons_walk (thn (hk.run pins _ σ _ _ I1 (q _ hn)) fun u s2 ⟨y, H2, I2, ry, q2⟩ => thn (hv.run pins s2 σ H2 _ I2 q2) fun w2 s3 ⟨zz, H3, I3, rz, b, ks, ey, eb, ep, q3⟩ => pairTrees_nil_walk ?_)
  subst ey
  obtain rfl : u = Value.ref b := ry
  obtain ⟨zl, hd, xs, rel, dd⟩ := dt_of I3.hok ep
  cases rel
  refine ⟨[(ks, b, w2)], ⟨rfl, rfl, key_of I3.hok eb, trivial⟩, dd, fun h' tk dd' hs => wpAny_pure ⟨V.ref s.heap.objs.size, _, ?_, rfl, q3⟩⟩
  have e1 : storedAllH ([] : List (List Key × Addr × Value)) [(ks, b, w2)] = [(ks, b, w2)] := rfl
  rw [e1] at dd'
  obtain ⟨o, es, ep', ho, h2, h3, h4, _, h5⟩ := dd'
  refine d_write I3 (by rw [ep]; exact True.intro) hs ⟨o, ho⟩ ⟨by show 1 ≤ sizeLine; decide, hd, [(ks, b, w2)], .cons ⟨rfl, ?_, rz⟩ .nil, o, es, ep', ho, h2, h3, h4, h5⟩
  rw [upd_ne (ne_of eb ep (fun z => nomatch z))]
  exact eb
end
/-- pairs of numbers at ps -/
def PsAt (H : Hp) (ps : List Addr) (o : List Pr2) : Prop := Paired (fun p (q : Pr2) => H p = some (.tup [nV q.1, nV q.2])) ps o
theorem PsAt.mono {H H' : Hp} {ps : List Addr} {o : List Pr2} (h : PsAt H ps o) (e : Ex H H') : PsAt H' ps o := paired_mono (fun _ _ q => e _ _ q) h
theorem PsAt.len {H : Hp} {ps : List Addr} {o : List Pr2} (h : PsAt H ps o) : ps.length = o.length := paired_length h
theorem PsAt.snoc {H : Hp} {ps : List Addr} {o : List Pr2} {p : Addr} {q : Pr2} (h : PsAt H ps o) (e : H p = some (.tup [nV q.1, nV q.2])) : PsAt H (ps ++ [p]) (o ++ [q]) := paired_snoc h e
theorem PsAt.get {H : Hp} {ps : List Addr} {o : List Pr2} (h : PsAt H ps o) {i : Nat} {p : Addr} (e : ps[i]? = some p) : ∃ q, o[i]? = some q ∧ H p = some (.tup [nV q.1, nV q.2]) := by
  have hl : i < o.length := by rw [← h.len]; exact (List.getElem?_eq_some_iff.mp e).1
  obtain ⟨p', e', q⟩ := paired_get h (List.getElem?_eq_getElem hl)
  rw [e] at e'
  cases e'
  exact ⟨_, List.getElem?_eq_getElem hl, q⟩
theorem PsAt.upd {H : Hp} {ps : List Addr} {o : List Pr2} {D : Addr} {z y : HO} (h : PsAt H ps o) (hD : H D = some y) (hy : ∀ xs, y ≠ .tup xs) : PsAt (L2.upd H D z) ps o :=
  paired_mono (fun a b q => by
    rw [upd_ne (fun e => by rw [e, hD] at q; exact hy _ (Option.some.inj q))]
    exact q) h
def kk2 (q : Pr2) : List Key := [Sum.inl (q.1 : Int), Sum.inl (q.2 : Int)]
theorem kk2_inj {p q : Pr2} (h : kk2 p = kk2 q) : p = q := by
  unfold kk2 at h
  injection h with h1 h2
  injection h2 with h2 _
  have e1 := Sum.inl.inj h1
  have e2 := Sum.inl.inj h2
  exact Prod.ext (by omega) (by omega)
theorem kk2_map (q : Pr2) : (kk2 q).map kV = [nV q.1, nV q.2] := rfl
/-- pairs as keys -/
def pd (f : Pr2 → V) (o : List Pr2) : List (List Key × V) := o.map fun q => (kk2 q, f q)
theorem pd_val {f : Pr2 → V} : ∀ {o : List Pr2} {q : Pr2}, q ∈ o → valV (pd f o) (kk2 q) = some (f q)
  | y :: o, q, h => by
    unfold pd
    rw [List.map_cons]
    by_cases e : y = q
    · subst e; exact valV_pos rfl
    · rw [valV_neg (fun z => e (kk2_inj z))]
      refine pd_val ?_
      rcases List.mem_cons.mp h with z | z
      · exact absurd z.symm e
      · exact z
theorem pd_none {f : Pr2 → V} : ∀ {o : List Pr2} {q : Pr2}, q ∉ o → valV (pd f o) (kk2 q) = none
  | [], _, _ => rfl
  | y :: o, q, h => by
    unfold pd
    rw [List.map_cons, valV_neg (fun z => h (by rw [← kk2_inj z]; exact List.mem_cons_self))]
    exact pd_none fun z => h (List.mem_cons_of_mem _ z)
theorem pd_some (f : Pr2 → V) (o : List Pr2) (q : Pr2) : (valV (pd f o) (kk2 q)).isSome = decide (q ∈ o) := by
  by_cases h : q ∈ o
  · rw [pd_val h, decide_eq_true h]; rfl
  · rw [pd_none h, decide_eq_false h]; rfl
theorem pd_put {f : Pr2 → V} {o : List Pr2} {q : Pr2} (h : q ∉ o) : putK (pd f o) (kk2 q) (f q) = pd f (o ++ [q]) := by
  rw [putK_new _ (pd_none h)]
  unfold pd
  rw [List.map_append]; rfl
theorem pd_len (f : Pr2 → V) (o : List Pr2) : (pd f o).length = o.length := List.length_map _
theorem pushP_id (o : List Pr2) (x : Pr2) : push id o x = if x ∈ o then o else o ++ [x] := by
  unfold push
  rw [List.map_id]
  by_cases h : x ∈ o
  · rw [if_pos h]; exact if_pos h
  · rw [if_neg h]; exact if_neg h
section
variable {K : PySem.W.Frag} {σ : L2.St} {H H' : Hp} {ta tb td ty te tk tv : TE} {v x y z : V} {D : Ends} {tz : TS} {d p : Addr} {kvs : List (List Key × V)}
theorem dget_t {k : List Key} (h : Rd H d (.dT kvs)) (hp : H p = some (.tup (k.map kV))) : ∀ H1, Ex H H1 → DGet H1 d (.ref p) (valV kvs k) := fun H1 e => .inr ⟨kvs, k, p, ex_rd e h, rfl, e _ _ hp, rfl⟩
/-- a dict whose keys are pairs: the key a new pair -/
theorem ev_dgetU {k : List Key} {tk : TE} (hd : Ev td σ H (.ref d)) (hk : EvU tk σ H (k.map kV)) (h : Rd H d (.dT kvs)) (hv : valV kvs k = some v) : Ev (tDGet td tk) σ H v := fun H1 e Q q =>
  hd H1 e _ fun H2 e2 => hk H2 (e.trans e2) _ fun p H3 hp e3 h3 => ⟨d, v, rfl, .inr ⟨kvs, k, p, ex_rd ((e.trans e2).trans e3) h, rfl, h3, hv.symm⟩, q H3 (e2.trans e3)⟩
theorem et_dnotU {k : List Key} {tk : TE} {c : Bool} (hk : EvU tk σ H (k.map kV)) (hd : Ev td σ H (.ref d)) (h : Rd H d (.dT kvs)) (ho : (!(valV kvs k).isSome) = c) : EvT (tB (tDNotIn tk td)) σ H c := fun H1 e Q q =>
  hk H1 e _ fun p H2 hp e2 h2 => hd H2 (e.trans e2) _ fun H3 e3 => ⟨d, valV kvs k, rfl, .inr ⟨kvs, k, p, ex_rd ((e.trans e2).trans e3) h, rfl, e3 _ _ h2, rfl⟩, c, by rw [ho], q H3 (e2.trans e3)⟩
theorem eo_dispT1 {k : List Key} (hk : EvU tk σ H (k.map kV)) (hv : Ev tv σ H v) : EvO (tDispT1 tk tv) σ H (.dT [(k, v)]) := fun H1 e Q q p hp => by
  have e1 : Ex H1 (upd H1 p (.dT [])) := Ex.new hp
  refine hk _ (e.trans e1) _ fun b H2 hb e2 h2 => hv H2 ((e.trans e1).trans e2) _ fun H3 e3 => ⟨b, k, rfl, e3 _ _ h2, e3 _ _ (e2 _ _ upd_same), ?_⟩
  refine q p _ hp (fun a u h => ?_) upd_same
  rw [upd_ne (ne_of_none h hp)]
  exact e3 _ _ (e2 _ _ (e1 _ _ h))
/-- d[p] = v, p a pair that stands | a new pair -/
theorem s_dputT {k : List Key} (hv : Ev tv σ H v) (hd : Ev ta σ H (.ref d)) (hk : Ev tk σ H (.ref p)) (h : H d = some (.dT kvs)) (hp : H p = some (.tup (k.map kV))) (hl : kvs.length < sizeLine) (q : ∀ H1, Ex H H1 → D.nx σ (upd H1 d (.dT (putK kvs k v)))) :
    sDPut ta tk tv D σ H := hv H (Ex.refl _) _ fun H1 e1 => hd H1 e1 _ fun H2 e2 => hk H2 (e1.trans e2) _ fun H3 e3 => ⟨d, _, rfl, DPut.t (((e1.trans e2).trans e3) _ _ h) (((e1.trans e2).trans e3) _ _ hp) hl, q H3 ((e1.trans e2).trans e3)⟩
theorem s_dputU {k : List Key} (hv : Ev tv σ H v) (hd : Ev ta σ H (.ref d)) (hk : EvU tk σ H (k.map kV)) (h : H d = some (.dT kvs)) (hl : kvs.length < sizeLine) (q : ∀ H1, Ex H H1 → D.nx σ (upd H1 d (.dT (putK kvs k v)))) :
    sDPut ta tk tv D σ H := hv H (Ex.refl _) _ fun H1 e1 => hd H1 e1 _ fun H2 e2 => hk H2 (e1.trans e2) _ fun p H3 hp e3 h3 => ⟨d, _, rfl, DPut.t (((e1.trans e2).trans e3) _ _ h) h3 hl, q H3 ((e1.trans e2).trans e3)⟩
theorem q_dputT {k : List Key} (hv : Ev tv σ H v) (hd : Ev ta σ H (.ref d)) (hk : Ev tk σ H (.ref p)) (h : H d = some (.dT kvs)) (hp : H p = some (.tup (k.map kV))) (hl : kvs.length < sizeLine) (q : ∀ H1, Ex H H1 → tz D σ (upd H1 d (.dT (putK kvs k v)))) :
    tSeq (sDPut ta tk tv) tz D σ H := s_dputT (D := { D with nx := tz D }) hv hd hk h hp hl q
end
end K46
set_option Elab.async false
set_option linter.all false
set_option autoImplicit false
set_option maxRecDepth 100000
namespace K46
open PySem PySem.Spec PyProof.Rows L2 Evl
set_option maxHeartbeats 4000000
abbrev kdP (o : List Pr2) : List (List Key × V) := pd (fun _ => V.bl true) o
structure MetP (H0 H : Hp) (L D : Addr) (ps : List Addr) (o : List Pr2) : Prop where
  ex : Ex H0 H
  nL : H0 L = none
  nD : H0 D = none
  hL : H L = some (.lst (ps.map V.ref))
  hp : PsAt H ps o
  hD : H D = some (.dT (kdP o))
theorem MetP.mono {H0 H H' : Hp} {L D : Addr} {ps : List Addr} {o : List Pr2} (m : MetP H0 H L D ps o) (e : Ex H H') : MetP H0 H' L D ps o := ⟨m.ex.trans e, m.nL, m.nD, e _ _ m.hL, m.hp.mono e, e _ _ m.hD⟩
theorem MetP.ne {H0 H : Hp} {L D : Addr} {ps : List Addr} {o : List Pr2} (m : MetP H0 H L D ps o) : L ≠ D := ne_of m.hL m.hD (by intro q; cases q)
theorem MetP.there {H0 H : Hp} {L D : Addr} {ps : List Addr} {o : List Pr2} (m : MetP H0 H L D ps o) : ∀ a ∈ [L, D], ∃ u, H a = some u := fun a ha => by
  rcases List.mem_cons.mp ha with rfl | ha
  · exact ⟨_, m.hL⟩
  · rw [List.mem_singleton.mp ha]; exact ⟨_, m.hD⟩
/-- the dict first, then the list | the list first, then the dict -/
theorem MetP.push {H0 H H2 : Hp} {L D p : Addr} {ps : List Addr} {o : List Pr2} (m : MetP H0 H L D ps o) {q : Pr2} (hq : H p = some (.tup [nV q.1, nV q.2])) (e : Ex (upd H D (.dT (kdP (o ++ [q])))) H2) :
    MetP H0 (upd H2 L (.lst ((ps ++ [p]).map V.ref))) L D (ps ++ [p]) (o ++ [q]) := by
  have hL2 : H2 L = some (.lst (ps.map V.ref)) := e _ _ (by rw [upd_ne m.ne]; exact m.hL)
  have h1 : PsAt (upd H D (.dT (kdP (o ++ [q])))) (ps ++ [p]) (o ++ [q]) := (m.hp.snoc hq).upd m.hD (fun xs z => by cases z)
  refine ⟨fun a u h => ?_, m.nL, m.nD, upd_same, (h1.mono e).upd hL2 (fun xs z => by cases z), ?_⟩
  · rw [upd_ne (ne_of_none h m.nL)]
    refine e _ _ ?_
    rw [upd_ne (ne_of_none h m.nD)]
    exact m.ex _ _ h
  · rw [upd_ne m.ne.symm]
    exact e _ _ upd_same
theorem MetP.push' {H0 H H2 : Hp} {L D p : Addr} {ps : List Addr} {o : List Pr2} (m : MetP H0 H L D ps o) {q : Pr2} (hq : H p = some (.tup [nV q.1, nV q.2])) (e : Ex (upd H L (.lst ((ps ++ [p]).map V.ref))) H2) :
    MetP H0 (upd H2 D (.dT (kdP (o ++ [q])))) L D (ps ++ [p]) (o ++ [q]) := by
  have hD2 : H2 D = some (.dT (kdP o)) := e _ _ (by rw [upd_ne m.ne.symm]; exact m.hD)
  have h1 : PsAt (upd H L (.lst ((ps ++ [p]).map V.ref))) (ps ++ [p]) (o ++ [q]) := (m.hp.snoc hq).upd m.hL (fun xs z => by cases z)
  refine ⟨fun a u h => ?_, m.nL, m.nD, ?_, (h1.mono e).upd hD2 (fun xs z => by cases z), upd_same⟩
  · rw [upd_ne (ne_of_none h m.nD)]
    refine e _ _ ?_
    rw [upd_ne (ne_of_none h m.nL)]
    exact m.ex _ _ h
  · rw [upd_ne m.ne]
    exact e _ _ upd_same
theorem exb_two {H H2 H3 : Hp} {L D : Addr} {z y : HO} (e2 : Ex (upd H D z) H2) (e3 : H3 = upd H2 L y) : ExB [L, D] H H3 := fun a u n h => by
  have n1 : a ≠ L := fun q => n (by rw [q]; exact List.mem_cons_self)
  have n2 : a ≠ D := fun q => n (by rw [q]; exact List.mem_cons_of_mem _ List.mem_cons_self)
  rw [e3, upd_ne n1]
  exact e2 _ _ (by rw [upd_ne n2]; exact h)
theorem q_asgV {te : TE} {g : TG} {tz : TS} {D : Ends} {σ : L2.St} {H : Hp} {v : V} (h : Ev te σ H v) (k : ∀ H1, Ex H H1 → g v σ H1 fun σ2 H2 => tz D σ2 H2) : tSeq (tAsg te g) tz D σ H := h H (Ex.refl H) _ k
section
variable {P : Program} {w : World} {K : PySem.W.Frag} {mg : Str → Option Value} {base : Heap}
abbrev sMP : Stmt := top 34
def spMP (K : PySem.W.Frag) : Sp := fun vs H Q _ => ∃ (u v : V) (T U : Tb), vs = [u, v] ∧ PartsAt K H u T ∧ PartsAt K H v U ∧ T.Ok ∧ U.Ok ∧ T.n ≤ 60 ∧ U.n ≤ 60 ∧
  ∀ (L : Addr) (H' : Hp) (ps : List Addr), H L = none → Ex H H' → H' L = some (.lst (ps.map V.ref)) → PsAt H' ps (ordP T U) → Q (.ref L) H'
abbrev nMP : List Str := ["one", "other", "order", "known", "at", "first", "second", "a", "b", "pair"]
theorem scMP : FnScope nMP ["one", "other"] (defScope sMP) := ⟨rfl, rfl, rfl, by decide +kernel, rfl, by decide +kernel, by decide +kernel⟩
theorem ok_mp (B : Free mg) (F : FnG K "met_pairs" sMP) (hm : mg "met_pairs" = some (.ref (He.ga K "met_pairs"))) (Fr : Pr P w K mg base 1 "results_of" ["rows", "sides", "one", "other"] (spRes K)) :
    Pr P w K mg base 2 "met_pairs" ["one", "other"] (spMP K) := by
  refine pr_mk F hm scMP (fun _ _ _ _ _ _ us hl => match us, hl with | [_, _], _ => rfl) (fun vs H Q E h => ?_) (fun f cdv A outer s H vs Q E hr h => ?_)
  · obtain ⟨u, v, T, U, rfl, _⟩ := h
    rfl
  · obtain ⟨u, v, T, U, rfl, ⟨r, t, a, hu1, h1, h2, h3⟩, ⟨r', t', a', hv1, h1', h2', h3'⟩, ok, ok', hn, hn', k⟩ := h
    have hu := hu_of hr
    refine ⟨_, pss_cons (ps_set (i := 2) scMP.nd rfl (Or.inl rfl) (pe_lst (pa_cons (pe_tup (pa_cons (pe_ix ix_seq (pv 0) pe_int (fun _ _ => rfl)) (pa_cons (pe_ix ix_seq (pv 1) pe_int (fun _ _ => rfl)) pa_nil))) pa_nil)))
      (pss_cons (ps_set (i := 3) scMP.nd rfl (Or.inl rfl) (pe_dispT1 hu (pe_tup (pa_cons (pe_ix ix_seq (pv 0) pe_int (fun _ _ => rfl)) (pa_cons (pe_ix ix_seq (pv 1) pe_int (fun _ _ => rfl)) pa_nil))) pe_bl))
      (pss_cut (ps_if (pt_cmp (pc_dnotin hu (pe_tup (pa_cons (pe_ix ix_seq (pv 0) pe_int (fun _ _ => rfl)) (pa_cons (pe_ix ix_seq (pv 1) pe_int (fun _ _ => rfl)) pa_nil))) (pv 3)))
          (pss_cons (ps_expr (pe_bm PySem.F.plainAttrs_list PySem.F.slot_list_append PySem.F.type_list_append mt_append (pv 2) (pa_cons (pe_tup (pa_cons (pe_ix ix_seq (pv 0) pe_int (fun _ _ => rfl)) (pa_cons (pe_ix ix_seq (pv 1) pe_int (fun _ _ => rfl)) pa_nil))) pa_nil)))
          (pss_one (ps_dput hu (pv 3) (pe_tup (pa_cons (pe_ix ix_seq (pv 0) pe_int (fun _ _ => rfl)) (pa_cons (pe_ix ix_seq (pv 1) pe_int (fun _ _ => rfl)) pa_nil))) pe_bl rfl))) pss_nil)
      (pss_cons (ps_set (i := 4) scMP.nd rfl (Or.inl rfl) pe_int)
      (pss_cons (ps_while PassesOwn.never (pt_cmpR op_lt (pv 4) (pe_callB call_len_seq (by rfl) B.len b_len (pa_cons (pv 2) pa_nil)) (nomark _))
        (pss_cons (ps_asg (pe_ix ix_list (pv 2) (pv 4) (fun _ _ => rfl)) (pg_tup rfl (pgs_cons (pg_name (i := 5) scMP.nd rfl (Or.inl rfl)) (pgs_cons (pg_name (i := 6) scMP.nd rfl (Or.inl rfl)) pgs_nil))))
        (pss_cons (ps_for PassesOwn.never rfl (pi_list (pe_slice sl_list (pv 2) po_none (po_some (pe_op op_add (pv 4) pe_int)))) (pg_tup rfl (pgs_cons (pg_name (i := 7) scMP.nd rfl (Or.inl rfl)) (pgs_cons (pg_name (i := 8) scMP.nd rfl (Or.inl rfl)) pgs_nil)))
          (pss_one (ps_forZ PassesOwn.never rfl (by rfl) B.zip (pa_cons
              (pe_g Fr hr (pa_cons (pe_ix ix_seq (pv 0) pe_int (fun _ _ => rfl)) (pa_cons (pe_ix ix_seq (pv 0) pe_int (fun _ _ => rfl)) (pa_cons (pv 7) (pa_cons (pv 5) pa_nil))))) (pa_cons
              (pe_g Fr hr (pa_cons (pe_ix ix_seq (pv 1) pe_int (fun _ _ => rfl)) (pa_cons (pe_ix ix_seq (pv 1) pe_int (fun _ _ => rfl)) (pa_cons (pv 8) (pa_cons (pv 6) pa_nil))))) pa_nil)) (pg_name (i := 9) scMP.nd rfl (Or.inl rfl))
            (pss_one (ps_if (pt_cmp (pc_dnotin hu (pv 9) (pv 3))) (pss_cons (ps_dput hu (pv 3) (pv 9) pe_bl rfl)
              (pss_one (ps_expr (pe_bm PySem.F.plainAttrs_list PySem.F.slot_list_append PySem.F.type_list_append mt_append (pv 2) (pa_cons (pv 9) pa_nil))))) pss_nil)))))
        (pss_one (ps_aug (i := 4) scMP.nd rfl (.inl rfl) pe_int ip_add)))))
      (pss_one (ps_ret (pv 2))))))), ?_⟩
    have hmul : T.n * U.n ≤ 3600 := Nat.le_trans (Nat.mul_le_mul hn hn') (by decide)
    have st0 : ∀ (σ' : L2.St) (H' : Hp) (i : Nat) (x y : Nat), Ex H H' → σ'[0]? = some (some u) → σ'[1]? = some (some v) → [nV T.tie, nV T.gap, r, t, a][i]? = some (nV x) → [nV U.tie, nV U.gap, r', t', a'][i]? = some (nV y) →
        EvU (tTup (tCons (tOp (rIx K) (tVar 0) (tC (.int (i : Int)))) (tCons (tOp (rIx K) (tVar 1) (tC (.int (i : Int)))) tNil))) σ' H' ((kk2 (x, y)).map kV) := fun σ' H' i x y e s0 s1 g0 g1 =>
      eu_tup (ea_cons (ev_ix (ev_var s0) ev_c (TupV.sq (hu1.mono e)) g0) (ea_cons (ev_ix (ev_var s1) ev_c (TupV.sq (hv1.mono e)) g1) ea_nil)) (by show 2 ≤ 100000; decide)
    -- order = [(gap, gap)]
    refine q_asgP (P := fun x H' => ∃ L p, x = .ref L ∧ H L = none ∧ H' L = some (.lst [.ref p]) ∧ H' p = some (.tup [nV T.gap, nV U.gap])) ?_ fun x H1 e1 ⟨L, p0, hx, hL, h1L, h1p⟩ => ?_
    · intro H1 e1 Q' q'
      exact st0 [some u, some v, none, none, none, none, none, none, none, none] H 1 T.gap U.gap (Ex.refl _) rfl rfl rfl rfl H1 e1 (fun x H2 => [x].length ≤ sizeLine ∧ ∀ p, H2 p = none → Q' (.ref p) (upd H2 p (.lst [x]))) fun p H2 hp e2 h2p => ⟨by show 1 ≤ sizeLine; decide, fun L hL => q' _ _ (e2.trans (Ex.new hL)) ⟨L, p, rfl, fresh_back (e1.trans e2) hL, upd_same, by rw [upd_ne (ne_of_none h2p hL)]; exact h2p⟩⟩
    subst hx
    refine q_asgO (eo_dispT1 (k := kk2 (T.gap, U.gap)) (v := .bl true) (st0 _ H1 1 T.gap U.gap e1 rfl rfl rfl rfl) ev_c) fun D H2 hD e2 h2D => ?_
    have m2 : MetP H H2 L D [p0] [(T.gap, U.gap)] := ⟨e1.trans e2, hL, fresh_back e1 hD, e2 _ _ h1L, .cons (e2 _ _ h1p) .nil, h2D⟩
    refine q_cut (M := fun σ' H' => σ' = [some u, some v, some (.ref L), some (.ref D), none, none, none, none, none, none] ∧ ∃ ps, MetP H H' L D ps (startP T U)) ?_ ?_
    · refine s_when (b := decide ((T.tie, U.tie) ∉ [(T.gap, U.gap)])) (et_dnotU (k := kk2 (T.tie, U.tie)) (st0 _ H2 0 T.tie U.tie m2.ex rfl rfl rfl rfl) (ev_var rfl) (.inl m2.hD) (by rw [pd_some]; exact decide_not.symm)) (fun hc H3 e3 => ?_) (fun hc H3 e3 => ?_)
      · have nm := of_decide_eq_true hc
        have es : startP T U = [(T.gap, U.gap)] ++ [(T.tie, U.tie)] := by unfold startP; rw [pushP_id, if_neg nm]
        have m3 := m2.mono e3
        refine q_appU (ys := (kk2 (T.tie, U.tie)).map kV) m3.hL (ev_var rfl) (st0 _ H3 0 T.tie U.tie m3.ex rfl rfl rfl rfl) (by show 1 < 100000; decide) fun p H4 hp e4 h4 => ?_
        have m4 := m3.mono e4
        refine s_dputU (k := kk2 (T.tie, U.tie)) (v := .bl true) (kvs := kdP [(T.gap, U.gap)]) ev_c (ev_var rfl) (st0 _ _ 0 T.tie U.tie (m4.ex.mut m4.nL) rfl rfl rfl rfl) (by rw [upd_ne m4.ne.symm]; exact m4.hD) (by show 1 < sizeLine; decide) fun H5 e5 => ⟨rfl, [p0, p], ?_⟩
        rw [es, pd_put nm]
        exact m4.push' (p := p) (q := (T.tie, U.tie)) h4 e5
      · have im : (T.tie, U.tie) ∈ [(T.gap, U.gap)] := Decidable.of_not_not (of_decide_eq_false hc)
        have es : startP T U = [(T.gap, U.gap)] := by unfold startP; rw [pushP_id, if_pos im]
        exact ⟨rfl, [p0], by rw [es]; exact m2.mono e3⟩
    rintro σ' H3 ⟨rfl, ps0, m3⟩
    refine q_asg ev_c fun H4 e4 => ?_
    have m4 := m3.mono e4
    clear m2 m3
    refine q_while (fun m σ' H' => ∃ (ps : List Addr) (o : List Pr2) (kk f : Nat) (y5 y6 y7 y8 y9 : Option V), m = T.n * U.n + 1 - kk ∧ σ' = [some u, some v, some (.ref L), some (.ref D), some (nV kk), y5, y6, y7, y8, y9] ∧ MetP H H' L D ps o ∧
      Dist id o ∧ (∀ x ∈ o, RchP T U x) ∧ kk ≤ o.length ∧ T.n * U.n ≤ f + kk ∧ bfs id (fourP T U) f o kk = ordP T U) (T.n * U.n + 1) ⟨ps0, startP T U, 0, T.n * U.n, none, none, none, none, none, rfl, rfl, m4, startP_dist, startP_rch, Nat.zero_le _, by omega, rfl⟩ ?_
    rintro m σ' H5 ⟨ps, o, kk, fu, y5, y6, y7, y8, y9, rfl, rfl, m5, dist, hrch, hk, hf, hb⟩
    have hle := rchP_bound ok ok' o dist hrch
    have hlp := m5.hp.len
    have hll : (ps.map V.ref).length = o.length := by rw [List.length_map]; exact hlp
    refine ⟨decide ((kk : Int) < ((ps.map V.ref).length : Int)), et_test (ev_op (ev_var rfl) (ev_lenS (ev_var rfl) (Sq.l m5.hL)) rv_I0), fun hc H6 e6 => ?_, fun hc H6 e6 => ?_⟩
    · have hlt : kk < o.length := by have := of_decide_eq_true hc; omega
      have m6 := m5.mono e6
      refine ⟨fun σ2 H2 => ∃ (ps2 : List Addr) (o2 : List Pr2) (y5 y6 y7 y8 y9 : Option V), σ2 = [some u, some v, some (.ref L), some (.ref D), some (nV (kk + 1)), y5, y6, y7, y8, y9] ∧ MetP H H2 L D ps2 o2 ∧ o2 = turn id (fourP T U) o kk, ?_, ?_⟩
      · rintro σ2 H2' ⟨ps2, o2, z5, z6, z7, z8, z9, rfl, mm, rfl⟩
        cases fu with
        | zero => omega
        | succ fu =>
          have hb2 : bfs id (fourP T U) fu (turn id (fourP T U) o kk) (kk + 1) = ordP T U := by rw [← hb]; show _ = (if kk < o.length then _ else o); rw [if_pos hlt]
          refine ⟨T.n * U.n + 1 - (kk + 1), by omega, ps2, _, kk + 1, fu, z5, z6, z7, z8, z9, rfl, rfl, mm, turn_dist dist _, turn_all hlt hrch (fun a b ha hb => fourP_rch ha hb), ?_, by omega, hb2⟩
          exact Nat.le_trans hlt (turn_prefix (κ := id) (F := fourP T U) o kk).length_le
      · have hzz : o[kk]? = some (o.getD kk default) := by rw [List.getD_eq_getElem?_getD, List.getElem?_eq_getElem hlt]; rfl
        generalize hzd : o.getD kk default = zz at hzz
        obtain ⟨pz, epz, hpz⟩ := paired_get m6.hp hzz
        -- first, second = order[at]
        refine q_asgV (v := .ref pz) (ev_op (ev_var rfl) (ev_var rfl) (rv_ixL (SqL.of m6.hL) (atI_nat (by rw [List.getElem?_map, epz]; rfl)))) fun H7 e7 => g_two (e7 _ _ hpz) ?_
        have m7 := m6.mono e7
        have ev1 : EvL (tSl (rSlL K) (tVar 2) tNoPart (tPart (tOp (rI0 fun i j => .int (i + j)) (tVar 4) (tC (.int 1))))) [some u, some v, some (.ref L), some (.ref D), some (nV kk), some (nV zz.1), some (nV zz.2), y7, y8, y9] H7 ((ps.take (kk + 1)).map V.ref) := by
          rw [List.map_take, ← cut_take]
          exact el_sl (ev_var rfl) eo_none (eo_some (ev_op (ev_var rfl) ev_c rv_I0)) (SqL.of m7.hL)
        refine q_forM (M := [L, D]) (overM_listN ev1 m7.there) yAt_ex (fun H1 i σ' H' => ExB [L, D] H1 H' ∧ ∃ (ps2 : List Addr) (o2 : List Pr2) (y7 y8 y9 : Option V), σ' = [some u, some v, some (.ref L), some (.ref D), some (nV kk), some (nV zz.1), some (nV zz.2), y7, y8, y9] ∧ MetP H H' L D ps2 o2 ∧
          (∀ (j : Nat) (p : Addr), ps[j]? = some p → ps2[j]? = some p) ∧ o2 = ((o.take (kk + 1)).take i).foldl (fun o' i => (fourP T U i zz).foldl (push id) o') o) (fun H8 e8 => ⟨ExB.refl _, ps, o, y7, y8, y9, rfl, m7.mono e8, fun _ _ h => h, rfl⟩) (fun H1 i σ' H' p => p.1) ?_ ?_
        · rintro H8 e8 i x σ' H9 H10 hi ⟨x9, ps2, o2, z7, z8, z9, rfl, m9, hpre, ho2⟩ hy e10
          obtain ⟨rfl, hx⟩ := hy
          rw [List.getElem?_map] at hx
          obtain ⟨q0, hq0, rfl⟩ := Option.map_eq_some_iff.mp hx
          rw [List.getElem?_take] at hq0
          have hik : i < kk + 1 := by
            by_cases h : i < kk + 1
            · exact h
            · rw [if_neg h] at hq0; cases hq0
          rw [if_pos hik] at hq0
          obtain ⟨q, hq, hq2⟩ := m6.hp.get hq0
          have hq' : (o.take (kk + 1))[i]? = some q := by rw [List.getElem?_take, if_pos hik]; exact hq
          obtain ⟨q2, hq2o, hq2t⟩ := m9.hp.get (hpre i q0 hq0)
          have e2q : q2 = q := by
            have pre : o <+: o2 := by rw [ho2]; exact folds_prefix _ _ o
            have := prefix_get' pre hq
            rw [hq2o] at this
            exact Option.some.inj this
          rw [e2q] at hq2t
          refine g_two hq2t ?_
          have qR : RchP T U q := hrch q (List.mem_of_getElem? hq)
          have zR : RchP T U zz := hrch zz (List.mem_of_getElem? hzz)
          have e10' := m9.ex
          have c1 : EvU (tCall (spRes K) [] E0 (tCons (tOp (rIx K) (tVar 0) (tC (.int 2))) (tCons (tOp (rIx K) (tVar 0) (tC (.int 3))) (tCons (tVar 7) (tCons (tVar 5) tNil))))) [some u, some v, some (.ref L), some (.ref D), some (nV kk), some (nV zz.1), some (nV zz.2), some (nV q.1), some (nV q.2), z9] H10 ((four T q.1 zz.1).map nV) := by
            intro H11 e11 Q' k'
            refine ea_cons (ev_ix (i := 2) (ev_var rfl) ev_c (TupV.sq (hu1.mono e10')) rfl) (ea_cons (ev_ix (i := 3) (ev_var rfl) ev_c (TupV.sq (hu1.mono e10')) rfl) (ea_cons (ev_var rfl) (ea_cons (ev_var rfl) ea_nil))) H11 e11 _ fun H12 e12 => ?_
            exact ⟨r, t, T.n, T.rows, T.sides, q.1, zz.1, rfl, h1.mono (e10'.trans (e11.trans e12)), h2.mono (e10'.trans (e11.trans e12)), ok.rows, ok.sides, (qR.lt ok ok').1, (zR.lt ok ok').1, fun p H13 hp e13 h13 => k' p H13 (fresh_back e12 hp) (e12.trans e13) h13⟩
          have c2 : EvU (tCall (spRes K) [] E0 (tCons (tOp (rIx K) (tVar 1) (tC (.int 2))) (tCons (tOp (rIx K) (tVar 1) (tC (.int 3))) (tCons (tVar 8) (tCons (tVar 6) tNil))))) [some u, some v, some (.ref L), some (.ref D), some (nV kk), some (nV zz.1), some (nV zz.2), some (nV q.1), some (nV q.2), z9] H10 ((four U q.2 zz.2).map nV) := by
            intro H11 e11 Q' k'
            refine ea_cons (ev_ix (i := 2) (ev_var rfl) ev_c (TupV.sq (hv1.mono e10')) rfl) (ea_cons (ev_ix (i := 3) (ev_var rfl) ev_c (TupV.sq (hv1.mono e10')) rfl) (ea_cons (ev_var rfl) (ea_cons (ev_var rfl) ea_nil))) H11 e11 _ fun H12 e12 => ?_
            exact ⟨r', t', U.n, U.rows, U.sides, q.2, zz.2, rfl, h1'.mono (e10'.trans (e11.trans e12)), h2'.mono (e10'.trans (e11.trans e12)), ok'.rows, ok'.sides, (qR.lt ok ok').2, (zR.lt ok ok').2, fun p H13 hp e13 h13 => k' p H13 (fresh_back e12 hp) (e12.trans e13) h13⟩
          refine c1 H10 (Ex.refl _) _ fun t1 H11 ht1 e11 h11 => c2 H11 e11 _ fun t2 H12 ht2 e12 h12 => ?_
          have x12 : ExB [L, D] H8 H12 := x9.trans (ExB.of (e11.trans e12))
          have nt : ∀ {X : Addr} {zs : List V} {Hq : Hp} {ps3 : List Addr} {o3 : List Pr2}, MetP H Hq L D ps3 o3 → Hq X = some (.tup zs) → X ∉ [L, D] := fun {X zs Hq ps3 o3} m h n => by
            rcases List.mem_cons.mp n with rfl | n
            · rw [m.hL] at h; cases h
            · rw [List.mem_singleton.mp n, m.hD] at h; cases h
          have m12 := m9.mono (e11.trans e12)
          have h11' := e12 _ _ h11
          refine ⟨t1, t2, (four T q.1 zz.1).map nV, (four U q.2 zz.2).map nV, rfl, SqT.of h11', SqT.of h12, rfl, fun j oo σ' H' => ExB [L, D] H12 H' ∧ (∀ T', oo = some T' → ∃ zs, H' T' = some (.tup zs)) ∧ ∃ (ps3 : List Addr) (o3 : List Pr2) (z : Option V), σ' = [some u, some v, some (.ref L), some (.ref D), some (nV kk), some (nV zz.1), some (nV zz.2), some (nV q.1), some (nV q.2), z] ∧ MetP H H' L D ps3 o3 ∧
            (∀ (j : Nat) (p : Addr), ps[j]? = some p → ps3[j]? = some p) ∧ o3 = ((fourP T U q zz).take j).foldl (push id) o2, ⟨ExB.refl _, (fun T' h => absurd h (by simp)), ps2, o2, z9, rfl, m12, hpre, rfl⟩, ?_, ?_, ?_⟩
          · rintro j oo σ' H' ⟨xb, ho, _⟩
            exact ⟨SqT.of (xb _ _ (nt m12 h11') h11'), SqT.of (xb _ _ (nt m12 h12) h12), ho⟩
          · rintro oo σ' H' ⟨xb, ho, ps3, o3, z, rfl, m, hpre3, ho3⟩
            refine ⟨x12.trans xb, ps3, o3, _, _, _, rfl, m, hpre3, ?_⟩
            have el : ((four T q.1 zz.1).map nV).length = (fourP T U q zz).length := rfl
            rw [el, List.take_length] at ho3
            rw [ho3, ho2]
            have : (o.take (kk + 1)).take (i + 1) = (o.take (kk + 1)).take i ++ [q] := by rw [List.take_add_one, hq']; rfl
            rw [this, List.foldl_append]; rfl
          · rintro j x y oo σ' H' T0 hx hy ⟨xb, ho, ps3, o3, z, rfl, m, hpre3, ho3⟩ hT0
            have hj : j < (fourP T U q zz).length := by
              have := (List.getElem?_eq_some_iff.mp hx).1
              exact this
            obtain ⟨w, hw⟩ : ∃ w, (fourP T U q zz)[j]? = some w := ⟨_, List.getElem?_eq_getElem hj⟩
            have ef : (four T q.1 zz.1).map nV = (fourP T U q zz).map fun w => nV w.1 := rfl
            have es : (four U q.2 zz.2).map nV = (fourP T U q zz).map fun w => nV w.2 := rfl
            rw [ef, List.getElem?_map, hw] at hx
            rw [es, List.getElem?_map, hw] at hy
            cases hx
            cases hy
            have step : ((fourP T U q zz).take (j + 1)).foldl (push id) o2 = push id o3 w := by rw [List.take_add_one, hw, List.foldl_append, ← ho3]; rfl
            have l3 : o3.length ≤ T.n * U.n := by
              refine rchP_bound ok ok' o3 ?_ ?_
              · rw [ho3, ho2]; exact pushes_dist _ (folds_dist _ _ dist)
              · rw [ho3, ho2]
                refine pushes_all _ (folds_all _ _ hrch fun a ha => fourP_rch (hrch a ?_) zR) (fun a ha => fourP_rch qR zR a (List.mem_of_mem_take ha))
                exact List.mem_of_mem_take (List.mem_of_mem_take ha)
            have m1 := m.mono (Ex.new (o := .tup [nV w.1, nV w.2]) hT0)
            have hT1 : (upd H' T0 (.tup [nV w.1, nV w.2])) T0 = some (.tup ((kk2 w).map kV)) := upd_same
            -- what any later heap keeps
            have fin : ∀ (Hf : Hp) (ps4 : List Addr) (o4 : List Pr2), ExB [L, D] (upd H' T0 (.tup [nV w.1, nV w.2])) Hf → MetP H Hf L D ps4 o4 → (∀ (j : Nat) (p : Addr), ps3[j]? = some p → ps4[j]? = some p) → o4 = push id o3 w →
                ExB [L, D] H12 Hf ∧ (∀ T', some (oo.getD T0) = some T' → ∃ zs, Hf T' = some (.tup zs)) ∧ ∃ (ps3 : List Addr) (o3 : List Pr2) (z : Option V), [some u, some v, some (.ref L), some (.ref D), some (nV kk), some (nV zz.1), some (nV zz.2), some (nV q.1), some (nV q.2), some (.ref T0)] = [some u, some v, some (.ref L), some (.ref D), some (nV kk), some (nV zz.1), some (nV zz.2), some (nV q.1), some (nV q.2), z] ∧ MetP H Hf L D ps3 o3 ∧
                  (∀ (j : Nat) (p : Addr), ps[j]? = some p → ps3[j]? = some p) ∧ o3 = ((fourP T U q zz).take (j + 1)).foldl (push id) o2 := fun Hf ps4 o4 xf mf pf ef => by
              refine ⟨(xb.trans (ExB.of (Ex.new hT0))).trans xf, fun T' hT' => ?_, ps4, o4, _, rfl, mf, fun j p h => pf j p (hpre3 j p h), by rw [ef, step]⟩
              cases oo with
              | none =>
                cases hT'
                exact ⟨_, xf _ _ (nt m1 upd_same) upd_same⟩
              | some T2 =>
                cases hT'
                obtain ⟨zs, hzs⟩ := ho T2 rfl
                have h2 : (upd H' T0 (.tup [nV w.1, nV w.2])) T2 = some (.tup zs) := by rw [upd_ne (ne_of_none hzs hT0)]; exact hzs
                exact ⟨zs, xf _ _ (nt m1 h2) h2⟩
            refine s_when (b := decide (w ∉ o3)) (et_dnot (o := valV (kdP o3) (kk2 w)) (ev_var rfl) (ev_var rfl) (dget_t (.inl m1.hD) hT1) (by rw [pd_some]; exact decide_not.symm)) (fun hc H13 e13 => ?_) (fun hc H13 e13 => ?_)
            · have nm : w ∉ o3 := of_decide_eq_true hc
              have m13 := m1.mono e13
              refine q_dputT (k := kk2 w) (v := .bl true) (kvs := kdP o3) ev_c (ev_var rfl) (ev_var rfl) m13.hD (e13 _ _ hT1) (by rw [pd_len]; exact sz_lt (by omega)) fun H14 e14 => ?_
              have m14 := m13.mono e14
              rw [pd_put nm]
              refine s_app (xs := ps3.map V.ref) (by rw [upd_ne m14.ne]; exact m14.hL) (ev_var rfl) (ev_var rfl) (by rw [List.length_map, m14.hp.len]; omega) fun H15 e15 => ?_
              have mf := m14.push (p := T0) (q := w) (e14 _ _ (e13 _ _ hT1)) e15
              rw [List.map_append] at mf
              refine fin _ (ps3 ++ [T0]) (o3 ++ [w]) ((ExB.of (e13.trans e14)).trans (exb_two e15 rfl)) mf (fun j p h => ?_) (by rw [pushP_id, if_neg nm])
              rw [List.getElem?_append_left (List.getElem?_eq_some_iff.mp h).1]
              exact h
            · have im : w ∈ o3 := Decidable.of_not_not (of_decide_eq_false hc)
              exact fin H13 ps3 o3 (ExB.of e13) (m1.mono e13) (fun _ _ h => h) (by rw [pushP_id, if_pos im])
        · rintro H8 e8 σ' H9 ⟨x9, ps2, o2, z7, z8, z9, rfl, m9, hpre, ho2⟩
          refine s_aug rfl ev_c fun H10 e10 => ⟨ps2, o2, some (nV zz.1), some (nV zz.2), z7, z8, z9, ?_, m9.mono e10, ?_⟩
          · have : ((kk : Int) + 1) = ((kk + 1 : Nat) : Int) := by omega
            show ([some u, some v, some (.ref L), some (.ref D), some (V.int ((kk : Int) + 1)), some (nV zz.1), some (nV zz.2), z7, z8, z9] : L2.St) = _
            rw [this]
          · rw [List.length_map, List.length_take] at ho2
            rw [ho2, List.take_of_length_le (by rw [List.length_take]; omega)]
            unfold turn
            rw [hzd]
    · have hge : ¬ kk < o.length := by have := of_decide_eq_false hc; omega
      have m6 := m5.mono e6
      have eo : o = ordP T U := by
        rw [← hb]
        cases fu with
        | zero => rfl
        | succ fu => show o = if kk < o.length then _ else o; rw [if_neg hge]
      exact s_ret (ev_var rfl) fun H7 e7 => k L H7 ps m6.nL (m6.ex.trans e7) (e7 _ _ m6.hL) (by rw [← eo]; exact m6.hp.mono e7)
end
end K46
set_option Elab.async false
set_option linter.all false
set_option autoImplicit false
set_option maxRecDepth 100000
/-! K46R5: {k: v for ..}, the keys pairs. -/
namespace K46
open PySem PySem.Spec PyProof.Rows L2 Evl
set_option maxHeartbeats 4000000
section
variable {X : Cx}
theorem set_pair {pins : List (Addr × Obj)} {σ : L2.St} {H : Hp} {s : Shared} {E : Value → Shared → Prop} {D b : Addr} {kvs : List (List Key × V)} {k : List Key} {v : V} {u r : Value} {Q : Unit → Shared → Prop} (hu : X.A.units + 1 < cLine) (I : Inv X pins σ H s) (hD : H D = some (.dT kvs))
    (hz : kvs.length < sizeLine) (hb : H b = some (.tup (k.map kV))) (ry : RelV (.ref b) u) (rv : RelV v r) (h : ∀ s', Inv X pins σ (upd H D (.dT (putK kvs k v))) s' → Q () s') : wpAny (model X.prog X.w) X.A (dictSet D u r) Q E s := by
  cases (show u = Value.ref b from ry)
  obtain ⟨z, hd, xs, rel, dd⟩ := dt_of I.hok hD
  have hx : xs.length ≤ sizeLine := by rw [← Paired.length rel]; exact z
  refine wpAny_dictSet_heap (hsz := hx) (knd := tupleKind (mixKind X.prog X.w)) (by show X.A.units < cLine; omega) (key_of I.hok hb) dd fun h' dd' hs => h _ ?_
  obtain ⟨ob, es, ep, ho, h2, h3, h4, _, h5⟩ := dd'
  refine d_write I (by rw [hD]; exact True.intro) hs ⟨ob, ho⟩ ⟨by have := length_putK kvs k v; omega, hd, _, (rel.put k hb rv).keeps fun c ys ec => ?_, ob, es, ep, ho, h2, h3, h4, h5⟩
  rw [upd_ne (ne_of ec hD (fun z => nomatch z))]; exact ec
/-- D the new dict, its keys tuples -/
def tDcT (wi : TI) (g : TG) (tk tv : TE) (vs : List Nat) : TE := fun σ H Q => wi σ H fun J H1 => ∀ D, H1 D = none → ∃ W : Nat → Nat → Hp → Prop, (∃ m, W 0 m (upd H1 D (.dT []))) ∧ ∀ i m H, W i m H →
  (J.stop i H ∧ Q (.ref D) H) ∨ (J.go i H ∧ ∃ Nx : Hp → Prop, (∀ H', Nx H' → ∃ m', m' < m ∧ W (i + 1) m' H') ∧ ∀ x H', J.yld i H x H' → g x (wipe σ vs) H' fun σ2 H2 => wipe σ2 vs = wipe σ vs ∧
    tk σ2 H2 fun y H4 => tv σ2 H4 fun z H5 => ∃ kvs k b, y = .ref b ∧ H5 b = some (.tup (k.map kV)) ∧ H5 D = some (.dT kvs) ∧ kvs.length < sizeLine ∧ Nx (upd H5 D (.dT (putK kvs k z))))
theorem pe_dcT {kx vx tg iter : Expr} {scope : Scope} {own : List (Str × Nat)} {pos : Pos} {wi : TI} {g : TG} {tk tv : TE} (hu : X.A.units + 1 < cLine) (hc : X.calm = true) (hN : X.N.Nodup) (hi : PI X tg iter wi) (ok : BlkOk X.N X.env.scope scope own)
    (hg : ∀ (s : Shared) (H : Hp) (C : Addr) (cl : List (Str × Addr)) (fp : List Addr), PG (X.blk s H scope (compEnvC scope cl C X.env) fp) tg g) (hk : ∀ (s : Shared) (H : Hp) (C : Addr) (cl : List (Str × Addr)) (fp : List Addr), PE (X.blk s H scope (compEnvC scope cl C X.env) fp) kx tk)
    (he : ∀ (s : Shared) (H : Hp) (C : Addr) (cl : List (Str × Addr)) (fp : List Addr), PE (X.blk s H scope (compEnvC scope cl C X.env) fp) vx tv) (hs : ∀ x, foldedSetIterable iter X.env x = pure x := by intro _; rfl) :
    PE X (.DictComp kx vx [⟨tg, iter, [], 0⟩] scope pos) (tDcT wi g tk tv (own.map (·.2))) := by
  refine ⟨fun pins s σ H Q I h => ?_⟩
  rw [arm_eval_DictComp]
  have cells : ∀ y ∈ scope.names, y.2 = .free → ∃ c, X.env.cells.lookup y.1 = some c := fun y hy e => (ok.free y hy e).elim (fun q => I.ok.has _ (.inl q)) fun q => I.ok.has _ (.inr q)
  refine wpAny_comprehension_free (use := none) rfl hs (closure_ok cells) ok.kind (fun y hy e => by rw [ok.uniq y hy, e]) (thn (hi.run pins s σ H _ I h) fun a s1 h1 => thn h1 fun c s2 h2 => ?_)
  obtain ⟨it, fp, tn, J, H2, rfl, I2, T, st2, f2, q⟩ := h2
  refine wpAny_newObj_type (newEnv_comp ?_)
  have fresh : H2 s2.heap.objs.size = none := I2.hok.fresh (Nat.le_refl _)
  obtain ⟨W, ⟨m0, w0⟩, turn⟩ := q _ fresh
  have I3 : Inv X pins σ (upd H2 s2.heap.objs.size (.dT [])) { s2 with heap := s2.heap.push { cls := .type "dict", data := .dict #[] } } := I2.laid (t' := s2.toks) (fun b o e => Heap.get?_push_of_some _ e) (Nat.le_refl _) (dt_empty s2.heap I2.big)
  have low : ∀ b ∈ fp, b < s2.heap.objs.size := fun b hb => (T.obj _ _ st2 b hb).elim fun o e => Heap.lt_size e.1
  generalize hD : s2.heap.objs.size = D at *
  generalize hs3 : ({ s2 with heap := s2.heap.push { cls := .type "dict", data := .dict #[] } } : Shared) = s3 at I3 ⊢
  have h3 : s3.heap = s2.heap.push { cls := .type "dict", data := .dict #[] } := by rw [← hs3]
  have f3 : ∀ b ∈ fp, FpOk X pins (upd H2 D (.dT [])) b ∧ b < s3.heap.objs.size := fun b hb => ⟨⟨(upd_ne (Nat.ne_of_lt (low b hb))).trans (f2 b hb).1, (f2 b hb).2⟩, by rw [h3, Heap.size_push, hD]; exact Nat.lt_succ_of_lt (low b hb)⟩
  have st3 : tn 0 s3.heap := T.keep _ _ _ st2 fun b _ o e => by rw [h3]; exact Heap.get?_push_of_some _ e
  have I4 := block_start I3 ok hN f3
  have pg := hg s3 (upd H2 D (.dT [])) s3.heap.objs.size (cellsFrom (s3.heap.objs.size + 1) scope.names (cloFrom X.env.cells scope.names [])) fp
  have pk := hk s3 (upd H2 D (.dT [])) s3.heap.objs.size (cellsFrom (s3.heap.objs.size + 1) scope.names (cloFrom X.env.cells scope.names [])) fp
  have pe := he s3 (upd H2 D (.dT [])) s3.heap.objs.size (cellsFrom (s3.heap.objs.size + 1) scope.names (cloFrom X.env.cells scope.names [])) fp
  have nfp : ∀ b ∈ fp, (upd H2 D (.dT [])) b = none := fun b hb => (f3 b hb).1.1
  show codeAny _ _ (.compStart (.DictComp kx vx [⟨tg, iter, [], 0⟩] scope pos) 0 (.ref it) (.ref D) (compEnvC scope (cellsFrom (s3.heap.objs.size + 1) scope.names (cloFrom X.env.cells scope.names [])) s3.heap.objs.size X.env)) (compPost (model X.prog X.w) X.A X.xe none (EP X pins σ Q) (.ref D) s3.heap.objs.size) { s3 with heap := pushCells (s3.heap.push { cls := .type "dict", data := .dict #[] }) scope.names }
  generalize hce : compEnvC scope (cellsFrom (s3.heap.objs.size + 1) scope.names (cloFrom X.env.cells scope.names [])) s3.heap.objs.size X.env = ce at I4 pg pk pe ⊢
  have cL : ce.locals = s3.heap.objs.size := by subst hce; rfl
  generalize hH3 : upd H2 D (.dT []) = H3 at I3 I4 pg pk pe w0 nfp f3
  generalize hs4 : ({ s3 with heap := pushCells (s3.heap.push { cls := .type "dict", data := .dict #[] }) scope.names } : Shared) = s4 at I4 ⊢
  have st4 : tn 0 s4.heap := T.keep _ _ _ st3 fun b _ o e => by rw [← hs4]; exact pushCells_keeps _ _ _ _ (Heap.get?_push_of_some _ e)
  have fps : ∀ {σ' : L2.St} {H' : Hp} {s' : Shared}, Inv (X.blk s3 H3 scope ce fp) [] σ' H' s' → (∀ b ∈ fp, H' b = none) → ∀ b ∈ fp, FpOk (X.blk s3 H3 scope ce fp) [] H' b := fun {σ' H' s'} J' hn b hb =>
    ⟨hn b hb, (J'.ok.exf b hb).1, J'.ok.exfs b hb, .inl hb, fun x c e => (J'.ok.exf b hb).2 x c e, fun p hp => (List.not_mem_nil (show p ∈ ([] : List (Addr × Obj)) from by simpa using hp)).elim⟩
  have loop : codeAny (model X.prog X.w) X.A (.compLoop (.DictComp kx vx [⟨tg, iter, [], 0⟩] scope pos) 0 (.ref it) (.ref D) ce) (compPost (model X.prog X.w) X.A X.xe none (EP X pins σ Q) (.ref D) s3.heap.objs.size) s4 := by
    refine compLoop_anyD (fun n s' => ∃ i H', Inv (X.blk s3 H3 scope ce fp) [] (wipe σ (own.map (·.2))) H' s' ∧ tn i s'.heap ∧ (∀ b ∈ fp, H' b = none) ∧ W i n H') ?_ m0 ⟨0, H3, I4, st4, nfp, w0⟩
    rintro n s5 ⟨i, H5, I5, st5, n5, w5⟩
    rcases turn i n H5 w5 with ⟨stop, qq⟩ | ⟨go, Nx, hNx, step⟩
    · refine thnF (T.done (X.blk s3 H3 scope ce fp) rfl rfl rfl hc i [] s5 _ H5 (fun _ _ => False) I5 (fps I5 n5) st5 stop) fun r s6 ⟨hr, I6⟩ => ?_
      subst hr
      have I7 : Inv X pins σ H5 s6 := I3.call' (ch := fp) I6.os I6.base I6.hok I6.bare fun b hb => let z := (f3 b hb).1.2; ⟨z.2.2.1, z.1, z.2.2.2.1, z.2.2.2.2⟩
      have nC : H5 s3.heap.objs.size = none := by
        have q : H5 ce.locals = none := I6.free
        rwa [cL] at q
      obtain ⟨m, hn, _⟩ := I6.loc
      have hn : s6.heap.Ns ce.locals m := hn
      rw [cL] at hn
      obtain ⟨f0, f1, f2, f3, f4, f5⟩ := I3.fpOk (Nat.le_refl _) nC
      exact ⟨m, hn, fun h'' sb => ⟨.ref D, H5, I7.turned (t' := s6.toks) (fun b o hb e => (sb.2 b hb).trans e) f0 f1 f3 f4 f5, rfl, qq⟩⟩
    · refine thnF (T.item (X.blk s3 H3 scope ce fp) rfl rfl rfl hc i [] s5 _ H5 (fun _ _ => False) I5 (fps I5 n5) st5 go) fun r s6 ⟨u, hr, h6⟩ => ?_
      subst hr
      refine thnF h6 fun _ s7 ⟨x, H7, I7, r7, y7, st7, n7⟩ => ?_
      refine thnF (pg.run _ s7 _ H7 x u _ (I7.pinned (fps I7 n7) (T.obj _ _ st7)) r7 (step x H7 y7)) fun _ s8 ⟨σ8, H8, I8, hw8, q8⟩ => ?_
      refine thnF ((pts_nil (X := X.blk s3 H3 scope ce fp)).run _ s8 σ8 H8 (fun b H3 => b = true ∧ H3 = H8) I8 ⟨rfl, rfl⟩) fun b s9 ⟨H9, I9, hb9, hH9⟩ => ?_
      subst hb9
      subst hH9
      simp only [if_true]
      refine thnF (pk.run _ s9 σ8 H9 _ I9 q8) fun a s10 ⟨yk, H10, I10, r10, q10⟩ => thnF (pe.run _ s10 σ8 H10 _ I10 q10) fun a2 s11 ⟨yv, H11, I11, r11, kvs, k, b, eb, hb11, hD11, hz11, nx⟩ => ?_
      subst eb
      refine set_pair (X := X.blk s3 H3 scope ce fp) hu I11 hD11 hz11 hb11 r10 r11 fun s12 I12 => ?_
      obtain ⟨m', hm, w'⟩ := hNx _ nx
      have pin' : ∀ c ∈ fp, ∀ o, s7.heap.get? c = some o → s12.heap.get? c = some o ∧ (upd H11 D (.dT (putK kvs k yv))) c = none := fun c hc o e => let z := I12.pin (c, o) (List.mem_append_right _ (List.mem_append_right _ (mem_pinsAt hc e))); ⟨z.1, z.2.1⟩
      refine ⟨m', hm, i + 1, _, (I12.unpinned (pins := [])).weak (by rw [← hw8, wipe_length]) (fun j v e => ?_), T.keep _ _ _ st7 fun c hc o e => (pin' c hc o e).1, fun c hc => ?_, w'⟩
      · rw [← hw8] at e
        exact (wipe_some e).1
      · obtain ⟨o, e, _⟩ := T.obj _ _ st7 c hc
        exact (pin' c hc o e).2
  exact codeAny_compStart_dict loop (T.self X.A 0 _ _ _ st4 loop)
end
end K46
set_option Elab.async false
set_option linter.all false
set_option autoImplicit false
set_option maxRecDepth 100000
namespace K46
open PySem PySem.Spec PyProof.Rows L2 Evl
set_option maxHeartbeats 4000000
theorem ixOf_nodup {β : Type} [DecidableEq β] : ∀ {l : List β} {i : Nat} {x : β}, l.Nodup → l[i]? = some x → ixOf l x = i
  | [], _, _, _, h => by simp at h
  | y :: l, 0, x, _, h => by
    have e : y = x := by simpa using h
    rw [e, ixOf_self]
  | y :: l, i + 1, x, nd, h => by
    have h' : l[i]? = some x := by simpa using h
    have nd' := List.nodup_cons.mp nd
    rw [ixOf_ne _ (fun e => nd'.1 (by rw [e]; exact List.mem_of_getElem? h')), ixOf_nodup nd'.2 h']
section
variable {K : PySem.W.Frag} {σ : L2.St} {H H' : Hp} {ta tb td ty te tk tv : TE} {v x y z : V} {D : Ends} {tz : TS} {d p : Addr} {kvs : List (List Key × V)}
theorem eo_dcT {κ : Nat → List Key} {val : Nat → V} {wi : TI} {g : TG} {n : Nat} {Y : Nat → Hp → V → Hp → Prop} {vs : List Nat} (hO : Over wi σ H n Y) (hn : n ≤ 40000) (hκ : ∀ i j, i < n → j < n → κ i = κ j → i = j) (hY : ∀ i H x H', Y i H x H' → Ex H H')
    (he : ∀ i x H1 H2, i < n → Ex H H1 → Y i H1 x H2 → ∃ σ2 b, wipe σ2 vs = wipe σ vs ∧ (∀ Qs : L2.St → Hp → Prop, Qs σ2 H2 → g x (wipe σ vs) H2 Qs) ∧ Ev tk σ2 H2 (.ref b) ∧ H2 b = some (.tup ((κ i).map kV)) ∧ Ev tv σ2 H2 (val i)) :
    EvO (tDcT wi g tk tv vs) σ H (.dT ((List.range n).map fun i => (κ i, val i))) := by
  intro H1 e1 Q q
  refine hO H1 e1 _ fun J H2 G F e2 hF w hG' D hD => ?_
  have hG : ∀ H3, Ex H2 H3 → G H3 := fun H3 e3 => hG' H3 ((e1.trans e2).trans e3) fun p hp => by
    obtain ⟨_, o, ho⟩ := hF p hp
    rw [ho]; exact e3 _ _ ho
  have new : ∀ i, i < n → valV ((List.range i).map fun j => (κ j, val j)) (κ i) = none := fun i hi => by
    unfold valV
    rw [List.find?_eq_none.mpr]
    · rfl
    · intro p hp
      obtain ⟨j, hj, rfl⟩ := List.mem_map.mp hp
      have := List.mem_range.mp hj
      intro q
      have := hκ j i (by omega) hi (of_decide_eq_true q)
      omega
  refine ⟨fun i m H' => m = n - i ∧ i ≤ n ∧ Ex H2 H' ∧ H' D = some (.dT ((List.range i).map fun j => (κ j, val j))), ⟨n, by simp, Nat.zero_le _, Ex.new hD, upd_same⟩, ?_⟩
  rintro i m H' ⟨rfl, hi, e', hd⟩
  have g' := hG H' e'
  by_cases hlt : i < n
  · refine .inr ⟨w.goes i H' hlt g', fun H'' => i + 1 ≤ n ∧ Ex H2 H'' ∧ H'' D = some (.dT ((List.range (i + 1)).map fun j => (κ j, val j))), fun H'' p => ⟨n - (i + 1), by omega, rfl, p⟩, fun x H'' y => ?_⟩
    have y' := w.yields i H' x H'' hlt g' y
    have ey := hY _ _ _ _ y'
    obtain ⟨σ2, b, hw, hg, h1, hb, h2⟩ := he i x H' H'' hlt ((e1.trans e2).trans e') y'
    refine hg _ ⟨hw, ?_⟩
    show tk σ2 H'' _
    refine h1 H'' (Ex.refl _) _ fun H4 e4 => h2 H4 e4 _ fun H5 e5 => ⟨_, κ i, b, rfl, e5 _ _ (e4 _ _ hb), e5 _ _ (e4 _ _ (ey _ _ hd)), by rw [List.length_map, List.length_range]; exact sz_lt (by omega), hlt, fun a u ha => ?_, ?_⟩
    · rw [upd_ne (ne_of_none ha hD)]
      exact e5 _ _ (e4 _ _ (ey _ _ (e' _ _ ha)))
    · rw [upd_same, putK_new _ (new i hlt), List.range_succ, List.map_append]; rfl
  · have ei : i = n := by omega
    subst ei
    exact .inl ⟨w.stops H' g', q D H' (fresh_back e2 hD) (e2.trans e') hd⟩
end
section
variable {P : Program} {w : World} {K : PySem.W.Frag} {mg : Str → Option Value} {base : Heap}
/-! ### is_kept: no word: one of both, not both -/
abbrev sKept : Stmt := top 35
def spKept : Sp := fun vs H Q _ => ∃ a b : Bool, vs = [.str "", .bl a, .bl b] ∧ ∀ H', Ex H H' → Q (.bl (!decide (V.bl a = V.bl b))) H'
theorem scKept : FnScope ["word", "first", "second"] ["word", "first", "second"] (defScope sKept) := ⟨rfl, rfl, rfl, by decide +kernel, rfl, by decide +kernel, by decide +kernel⟩
theorem ok_kept (C : Consts mg) (F : FnG K "is_kept" sKept) (hm : mg "is_kept" = some (.ref (He.ga K "is_kept"))) : Pr P w K mg base 1 "is_kept" ["word", "first", "second"] spKept := by
  refine pr_mk F hm scKept (fun _ _ _ _ _ _ us hl => match us, hl with | [_, _, _], _ => rfl) (fun vs H Q E h => ?_) (fun f cdv A outer s H vs Q E hr h => ?_)
  · obtain ⟨a, b, rfl, _⟩ := h
    rfl
  · obtain ⟨a, b, rfl, k⟩ := h
    refine ⟨_, pss_cons (ps_if (pt_cmpR op_eq (pv 0) (pe_gs C.both) (nomark _)) (pss_one (ps_ret (pe_and (pv 1) (pe_one (pv 2))))) pss_nil)
      (pss_one (ps_ret (pe_ifExp (pt_cmpR op_eq (pv 0) (pe_gs C.some_) (nomark _)) (pe_or (pv 1) (pe_one (pv 2))) (pe_cmpR op_ne (pv 1) (pv 2) (nomark _))))), ?_⟩
    have e1 : RV rEq (.str "") (.str "both") H (.bl false) := by
      have : decide (V.str "" = V.str "both") = false := by decide +kernel
      rw [← this]
      exact rv_eq rfl
    have e2 : ∀ {H' : Hp}, RV rEq (.str "") (.str "some") H' (.bl false) := fun {H'} => by
      have : decide (V.str "" = V.str "some") = false := by decide +kernel
      rw [← this]
      exact rv_eq rfl
    refine q_when (b := false) (et_test (ev_op (ev_var rfl) ev_c e1)) (fun z => by cases z) (fun _ H1 E1 => ?_)
    exact s_ret (ev_if (b := false) (et_test (ev_op (ev_var rfl) ev_c e2)) (fun z => by cases z) fun _ => ev_op (ev_var rfl) (ev_var rfl) (rv_ne rfl)) fun H2 E2 => k H2 (E1.trans E2)
/-! ### joined_parts: no state where the two differ -/
abbrev sJn : Stmt := top 36
def spJn (K : PySem.W.Frag) : Sp := fun vs H Q _ => ∃ (u v : V) (T U : Tb), vs = [u, v, .str ""] ∧ PartsAt K H u T ∧ PartsAt K H v U ∧ T.Ok ∧ U.Ok ∧ T.n ≤ 60 ∧ U.n ≤ 60 ∧ Same T U ∧
  ∀ (p : Addr) (H' : Hp) (x1 x2 x3 x4 : V) (kA : Addr), Ex H H' → H' p = some (.tup [x1, x2, x3, x4, .ref kA]) → H' kA = some (.lst []) → Q (.ref p) H'
abbrev nJn : List Str := ["one", "other", "word", "order", "numbers", "rows", "sides", "kept", "number", "pair", "a", "b", "c", "d"]
theorem scJn : FnScope nJn ["one", "other", "word"] (defScope sJn) := ⟨rfl, rfl, rfl, by decide +kernel, rfl, by decide +kernel, by decide +kernel⟩
abbrev tJnC (K : PySem.W.Frag) (i : Int) : TE := tDGet (tVar 4) (tTup (tCons (tOp (rIx K) (tOp (rIx K) (tOp (rIx K) (tVar 0) (tC (.int i))) (tVar 10)) (tVar 12)) (tCons (tOp (rIx K) (tOp (rIx K) (tOp (rIx K) (tVar 1) (tC (.int i))) (tVar 11)) (tVar 13)) tNil)))
theorem given_false (n : Nat) (val : Nat → V) : given n (fun _ => false) val = [] := by
  unfold given
  have : (List.range n).filter (fun _ => false) = [] := by simp
  rw [this]; rfl
abbrev σJn (u v x2 : V) (L D : Addr) (x5 x6 x7 : Option V) (a b c d : Option V) : L2.St := [some u, some v, some x2, some (.ref L), some (.ref D), x5, x6, x7, none, none, a, b, c, d]
/-- where the pairs and their numbers stand -/
structure JnSt (K : PySem.W.Frag) (H : Hp) (u v : V) (T U : Tb) (L D : Addr) (ps : List Addr) : Prop where
  u_ : PartsAt K H u T
  v_ : PartsAt K H v U
  L_ : H L = some (.lst (ps.map V.ref))
  ps_ : PsAt H ps (ordP T U)
  D_ : H D = some (.dT (pd (fun q => nV (ixOf (ordP T U) q)) (ordP T U)))
theorem JnSt.mono {K : PySem.W.Frag} {H H' : Hp} {u v : V} {T U : Tb} {L D : Addr} {ps : List Addr} (h : JnSt K H u v T U L D ps) (e : Ex H H') : JnSt K H' u v T U L D ps := ⟨h.u_.mono e, h.v_.mono e, e _ _ h.L_, h.ps_.mono e, e _ _ h.D_⟩
theorem ev_jnC {K : PySem.W.Frag} {H : Hp} {u v x2 : V} {T U : Tb} {L D : Addr} {ps : List Addr} {x5 x6 x7 : Option V} (h : JnSt K H u v T U L D ps) (ok : T.Ok) (ok' : U.Ok) (r : Bool) {p q : Pr2} (hp : p ∈ ordP T U) (hq : q ∈ ordP T U) :
    Ev (tJnC K (if r then 2 else 3)) (σJn u v x2 L D x5 x6 x7 (some (nV p.1)) (some (nV p.2)) (some (nV q.1)) (some (nV q.2))) H (nV (ixOf (ordP T U) (op T r p.1 q.1, op U r p.2 q.2))) := by
  obtain ⟨m1, m2, m3, hv, h1, h2, _⟩ := h.u_
  obtain ⟨n1, n2, n3, hv', h1', h2', _⟩ := h.v_
  have pR := (ordP_rch p hp).lt ok ok'
  have qR := (ordP_rch q hq).lt ok ok'
  refine ev_dgetU (k := kk2 (op T r p.1 q.1, op U r p.2 q.2)) (ev_var rfl) ?_ (.inl h.D_) (pd_val (ordP_op ok ok' r hp hq))
  cases r with
  | true => exact eu_tup (ea_cons (ev_cell (ev_ix (i := 2) (ev_var rfl) ev_c (TupV.sq hv) rfl) (ev_var rfl) (ev_var rfl) h1 ok.rows pR.1 qR.1) (ea_cons (ev_cell (ev_ix (i := 2) (ev_var rfl) ev_c (TupV.sq hv') rfl) (ev_var rfl) (ev_var rfl) h1' ok'.rows pR.2 qR.2) ea_nil)) (by show 2 ≤ 100000; decide)
  | false => exact eu_tup (ea_cons (ev_cell (ev_ix (i := 3) (ev_var rfl) ev_c (TupV.sq hv) rfl) (ev_var rfl) (ev_var rfl) h2 ok.sides pR.1 qR.1) (ea_cons (ev_cell (ev_ix (i := 3) (ev_var rfl) ev_c (TupV.sq hv') rfl) (ev_var rfl) (ev_var rfl) h2' ok'.sides pR.2 qR.2) ea_nil)) (by show 2 ≤ 100000; decide)
theorem ep_jnRows {K : PySem.W.Frag} {H : Hp} {u v x2 : V} {T U : Tb} {L D : Addr} {ps : List Addr} {x5 x6 x7 : Option V} (h : JnSt K H u v T U L D ps) (ok : T.Ok) (ok' : U.Ok) (hl : (ordP T U).length ≤ 40000) (r : Bool) :
    EvP (tLc (iList K (tVar 3)) (gTup K 2 (gCons (gName 10) (gCons (gName 11) gNil))) tYes (tLc (iList K (tVar 3)) (gTup K 2 (gCons (gName 12) (gCons (gName 13) gNil))) tYes (tJnC K (if r then 2 else 3)) [12, 13]) [10, 11]) (σJn u v x2 L D x5 x6 x7 none none none none) H (fun _ _ => True) := fun H1 e1 Q q => by
  have hpl := h.ps_.len
  have hll : (ps.map V.ref).length = (ordP T U).length := by rw [List.length_map, hpl]
  refine elo_lc (o := fun i => .lst ((List.range (ordP T U).length).map fun j => nV (ixOf (ordP T U) (op T r ((ordP T U).getD i default).1 ((ordP T U).getD j default).1, op U r ((ordP T U).getD i default).2 ((ordP T U).getD j default).2)))) (over_list (ev_var rfl) (SqL.of h.L_)).over (by rw [hll]; exact hl) yAt_ex (fun i x H2 H3 hi e2 hy => ?_) H1 e1 Q (fun D' H4 ps h1 h2 h3 h4 h5 => q _ H4 h2 trivial)
  obtain ⟨rfl, hx⟩ := hy
  rw [List.getElem?_map] at hx
  obtain ⟨p, hp, rfl⟩ := Option.map_eq_some_iff.mp hx
  obtain ⟨a, ha, hpa⟩ := h.ps_.get hp
  have ea : (ordP T U).getD i default = a := by rw [List.getD_eq_getElem?_getD, ha]; rfl
  rw [ea]
  refine ⟨σJn u v x2 L D x5 x6 x7 (some (nV a.1)) (some (nV a.2)) none none, rfl, fun Qs k => g_two (e2 _ _ hpa) k, eo_L ?_⟩
  have e := elv_lc (te := tJnC K (if r then 2 else 3)) (vs := [12, 13]) (g := gTup K 2 (gCons (gName 12) (gCons (gName 13) gNil))) (tt := tYes) (fun _ => true) (fun j => nV (ixOf (ordP T U) (op T r a.1 ((ordP T U).getD j default).1, op U r a.2 ((ordP T U).getD j default).2)))
    (over_list (K := K) (tl := tVar 3) (σ := σJn u v x2 L D x5 x6 x7 (some (nV a.1)) (some (nV a.2)) none none) (ev_var rfl) (SqL.of (e2 _ _ h.L_))).over (by rw [hll]; exact hl) yAt_ex (fun j y H4 H5 hk e4 hy => ?_)
  · rw [given_all, hll] at e
    exact e
  obtain ⟨rfl, hy⟩ := hy
  rw [List.getElem?_map] at hy
  obtain ⟨p2, hp2, rfl⟩ := Option.map_eq_some_iff.mp hy
  obtain ⟨b, hb, hpb⟩ := h.ps_.get hp2
  have eb : (ordP T U).getD j default = b := by rw [List.getD_eq_getElem?_getD, hb]; rfl
  rw [eb]
  exact ⟨σJn u v x2 L D x5 x6 x7 (some (nV a.1)) (some (nV a.2)) (some (nV b.1)) (some (nV b.2)), rfl, fun Qs k => g_two (e4 _ _ (e2 _ _ hpb)) k, fun H6 _ Q q => q H6 (Ex.refl _), fun _ => ev_jnC (h.mono (e2.trans e4)) ok ok' r (List.mem_of_getElem? ha) (List.mem_of_getElem? hb)⟩
theorem ok_jn (B : Free mg) (F : FnG K "joined_parts" sJn) (hm : mg "joined_parts" = some (.ref (He.ga K "joined_parts"))) (Fm : Pr P w K mg base 2 "met_pairs" ["one", "other"] (spMP K)) (Fk : Pr P w K mg base 1 "is_kept" ["word", "first", "second"] spKept) :
    Pr P w K mg base 3 "joined_parts" ["one", "other", "word"] (spJn K) := by
  refine pr_mk F hm scJn (fun _ _ _ _ _ _ us hl => match us, hl with | [_, _, _], _ => rfl) (fun vs H Q E h => ?_) (fun f cdv A outer s H vs Q E hr h => ?_)
  · obtain ⟨u, v, T, U, rfl, _⟩ := h
    rfl
  · obtain ⟨u, v, T, U, rfl, hP, hP', ok, ok', hn, hn', same, k⟩ := h
    have hu := hu_of hr
    have hr1 := hr.mono (show 1 ≤ 2 by decide)
    refine ⟨_, pss_cons (ps_set (i := 3) scJn.nd rfl (Or.inr rfl) (pe_g Fm hr (pa_cons (pv 0) (pa_cons (pv 1) pa_nil))))
      (pss_cons (ps_set (i := 4) scJn.nd rfl (Or.inr rfl) (pe_dcT (own := [("number", 8), ("pair", 9)]) (g := gTup K 2 (gCons (gName 8) (gCons (gName 9) gNil))) hu rfl scJn.nd (pi_enum (by rfl) B.enumerate (pa_cons (pv 3) pa_nil)) (blkOk_by (by kernel_rfl))
          (fun _ _ _ _ _ => pg_tup rfl (pgs_cons (pg_name (i := 8) scJn.nd rfl (Or.inl rfl)) (pgs_cons (pg_name (i := 9) scJn.nd rfl (Or.inl rfl)) pgs_nil))) (fun _ _ _ _ _ => pv 9) (fun _ _ _ _ _ => pv 8)))
      (pss_cons (ps_setLc (i := 5) (own := [("a", 10), ("b", 11)]) (g := gTup K 2 (gCons (gName 10) (gCons (gName 11) gNil))) (tt := tYes) (te := tLc (iList K (tVar 3)) (gTup K 2 (gCons (gName 12) (gCons (gName 13) gNil))) tYes (tJnC K 2) [12, 13]) rfl scJn.nd rfl rfl (sw_true rfl rfl rfl (by decide +kernel)) (pi_list (pv 3)) (blkOk_by (by kernel_rfl))
          (fun _ _ _ _ _ => pg_tup rfl (pgs_cons (pg_name (i := 10) scJn.nd rfl (Or.inr rfl)) (pgs_cons (pg_name (i := 11) scJn.nd rfl (Or.inr rfl)) pgs_nil))) (fun _ _ _ _ _ => pts_nil)
          (fun _ _ _ _ _ => pe_lc (own := [("c", 12), ("d", 13)]) (g := gTup K 2 (gCons (gName 12) (gCons (gName 13) gNil))) (tt := tYes) (te := tJnC K 2) rfl scJn.nd (pi_list (pv 3)) (blkOk_by (by kernel_rfl))
            (fun _ _ _ _ _ => pg_tup rfl (pgs_cons (pg_name (i := 12) scJn.nd rfl (Or.inl rfl)) (pgs_cons (pg_name (i := 13) scJn.nd rfl (Or.inl rfl)) pgs_nil))) (fun _ _ _ _ _ => pts_nil)
            (fun _ _ _ _ _ => pe_dget hu (pv 4) (pe_tup (pa_cons (pe_ix ix_seq (pe_ix ix_seq (pe_ix ix_seq (pv 0) pe_int (fun _ _ => rfl)) (pv 10) (fun _ _ => rfl)) (pv 12) (fun _ _ => rfl)) (pa_cons (pe_ix ix_seq (pe_ix ix_seq (pe_ix ix_seq (pv 1) pe_int (fun _ _ => rfl)) (pv 11) (fun _ _ => rfl)) (pv 13) (fun _ _ => rfl)) pa_nil))) (fun _ _ => rfl))))
      (pss_cons (ps_setLc (i := 6) (own := [("a", 10), ("b", 11)]) (g := gTup K 2 (gCons (gName 10) (gCons (gName 11) gNil))) (tt := tYes) (te := tLc (iList K (tVar 3)) (gTup K 2 (gCons (gName 12) (gCons (gName 13) gNil))) tYes (tJnC K 3) [12, 13]) rfl scJn.nd rfl rfl (sw_true rfl rfl rfl (by decide +kernel)) (pi_list (pv 3)) (blkOk_by (by kernel_rfl))
          (fun _ _ _ _ _ => pg_tup rfl (pgs_cons (pg_name (i := 10) scJn.nd rfl (Or.inr rfl)) (pgs_cons (pg_name (i := 11) scJn.nd rfl (Or.inr rfl)) pgs_nil))) (fun _ _ _ _ _ => pts_nil)
          (fun _ _ _ _ _ => pe_lc (own := [("c", 12), ("d", 13)]) (g := gTup K 2 (gCons (gName 12) (gCons (gName 13) gNil))) (tt := tYes) (te := tJnC K 3) rfl scJn.nd (pi_list (pv 3)) (blkOk_by (by kernel_rfl))
            (fun _ _ _ _ _ => pg_tup rfl (pgs_cons (pg_name (i := 12) scJn.nd rfl (Or.inl rfl)) (pgs_cons (pg_name (i := 13) scJn.nd rfl (Or.inl rfl)) pgs_nil))) (fun _ _ _ _ _ => pts_nil)
            (fun _ _ _ _ _ => pe_dget hu (pv 4) (pe_tup (pa_cons (pe_ix ix_seq (pe_ix ix_seq (pe_ix ix_seq (pv 0) pe_int (fun _ _ => rfl)) (pv 10) (fun _ _ => rfl)) (pv 12) (fun _ _ => rfl)) (pa_cons (pe_ix ix_seq (pe_ix ix_seq (pe_ix ix_seq (pv 1) pe_int (fun _ _ => rfl)) (pv 11) (fun _ _ => rfl)) (pv 13) (fun _ _ => rfl)) pa_nil))) (fun _ _ => rfl))))
      (pss_cons (ps_setLc (i := 7) (own := [("a", 10), ("b", 11)]) (g := gTup K 2 (gCons (gName 10) (gCons (gName 11) gNil)))
          (tt := tB (tCall spKept [] E0 (tCons (tVar 2) (tCons (tOp (rIn K false) (tVar 10) (tOp (rIx K) (tVar 0) (tC (.int 4)))) (tCons (tOp (rIn K false) (tVar 11) (tOp (rIx K) (tVar 1) (tC (.int 4)))) tNil))))) (te := tDGet (tVar 4) (tTup (tCons (tVar 10) (tCons (tVar 11) tNil)))) rfl scJn.nd rfl rfl (sw_true rfl rfl rfl (by decide +kernel)) (pi_list (pv 3)) (blkOk_by (by kernel_rfl))
          (fun _ _ _ _ _ => pg_tup rfl (pgs_cons (pg_name (i := 10) scJn.nd rfl (Or.inl rfl)) (pgs_cons (pg_name (i := 11) scJn.nd rfl (Or.inl rfl)) pgs_nil)))
          (fun _ _ _ _ _ => pts_one (pt_val (pe_g Fk hr1 (pa_cons (pv 2) (pa_cons (pe_cmpR op_in_seq (pv 10) (pe_ix ix_seq (pv 0) pe_int (fun _ _ => rfl)) (by rfl)) (pa_cons (pe_cmpR op_in_seq (pv 11) (pe_ix ix_seq (pv 1) pe_int (fun _ _ => rfl)) (by rfl)) pa_nil))))))
          (fun _ _ _ _ _ => pe_dget hu (pv 4) (pe_tup (pa_cons (pv 10) (pa_cons (pv 11) pa_nil))) (fun _ _ => rfl)))
      (pss_one (ps_ret (pe_tup (pa_cons (pe_dget hu (pv 4) (pe_tup (pa_cons (pe_ix ix_seq (pv 0) pe_int (fun _ _ => rfl)) (pa_cons (pe_ix ix_seq (pv 1) pe_int (fun _ _ => rfl)) pa_nil))) (fun _ _ => rfl)) (pa_cons (pe_dget hu (pv 4) (pe_tup (pa_cons (pe_ix ix_seq (pv 0) pe_int (fun _ _ => rfl)) (pa_cons (pe_ix ix_seq (pv 1) pe_int (fun _ _ => rfl)) pa_nil))) (fun _ _ => rfl))
        (pa_cons (pv 5) (pa_cons (pv 6) (pa_cons (pv 7) pa_nil)))))))))))), ?_⟩
    have hmul : T.n * U.n ≤ 3600 := Nat.le_trans (Nat.mul_le_mul hn hn') (by decide)
    have hol := ordP_le ok ok'
    refine q_asgP (P := fun x H' => ∃ L ps, x = .ref L ∧ H' L = some (.lst (ps.map V.ref)) ∧ PsAt H' ps (ordP T U)) (ep_call (ea_cons (ev_var rfl) (ea_cons (ev_var rfl) ea_nil)) fun H1 e1 Q' q' => ⟨u, v, T, U, rfl, hP.mono e1, hP'.mono e1, ok, ok', hn, hn', fun L H' ps _ e' h1 h2 => q' _ H' e' ⟨L, ps, rfl, h1, h2⟩⟩) fun x H1 e1 ⟨L, ps, hx, hL, hps⟩ => ?_
    subst hx
    have hpl := hps.len
    have hll : (ps.map V.ref).length = (ordP T U).length := by rw [List.length_map, hpl]
    refine q_asgO (eo_dcT (κ := fun i => kk2 ((ordP T U).getD i default)) (val := fun i => nV i) (over_enum (tl := tCons (tVar 3) tNil) (ea_cons (ev_var rfl) ea_nil) (SqL.of hL)).over (by rw [hll]; omega) (fun i j hi hj e => ?_) yPair_ex (fun i x H2 H3 hi e2 hy => ?_)) fun D H2 hD e2 h2D => ?_
    · rw [hll] at hi hj
      have e' := kk2_inj e
      rw [List.getD_eq_getElem?_getD, List.getD_eq_getElem?_getD, List.getElem?_eq_getElem hi, List.getElem?_eq_getElem hj, Option.getD_some, Option.getD_some] at e'
      rw [← ixOf_nodup ordP_nodup (List.getElem?_eq_getElem hi), ← ixOf_nodup ordP_nodup (List.getElem?_eq_getElem hj), e']
    · obtain ⟨T', a', b', rfl, hT', rfl, ha', hb'⟩ := hy
      dsimp only at ha' hb'
      cases ha'
      rw [List.getElem?_map] at hb'
      obtain ⟨p, hp, rfl⟩ := Option.map_eq_some_iff.mp hb'
      obtain ⟨a, ha, hpa⟩ := hps.get hp
      have ea : (ordP T U).getD i default = a := by rw [List.getD_eq_getElem?_getD, ha]; rfl
      rw [ea]
      exact ⟨[some u, some v, some (.str ""), some (.ref L), none, none, none, none, some (nV i), some (.ref p), none, none, none, none], p, rfl, fun Qs k => g_two upd_same k, ev_var rfl, (Ex.new hT') _ _ (e2 _ _ hpa), ev_var rfl⟩
    have hD2 : H2 D = some (.dT (pd (fun q => nV (ixOf (ordP T U) q)) (ordP T U))) := by
      rw [h2D, hll]
      unfold pd
      rw [map_range_get (xs := ordP T U) (fun q => (kk2 q, nV (ixOf (ordP T U) q))) (fun i => (kk2 ((ordP T U).getD i default), nV i)) (fun i x hx => by
        have : (ordP T U).getD i default = x := by rw [List.getD_eq_getElem?_getD, hx]; rfl
        rw [this, ixOf_nodup ordP_nodup hx])]
    have e12 := e1.trans e2
    have J2 : JnSt K H2 u v T U L D ps := ⟨hP.mono e12, hP'.mono e12, e2 _ _ hL, hps.mono e2, hD2⟩
    refine q_asgP (ep_jnRows (x5 := none) (x6 := none) (x7 := none) (x2 := .str "") J2 ok ok' (by omega) true) fun x5 H3 e3 _ => ?_
    have J3 := J2.mono e3
    refine q_asgP (ep_jnRows (x5 := some x5) (x6 := none) (x7 := none) (x2 := .str "") J3 ok ok' (by omega) false) fun x6 H4 e4 _ => ?_
    have J4 := J3.mono e4
    obtain ⟨m1, m2, m3, hv, h1, h2, h3⟩ := J4.u_
    obtain ⟨n1, n2, n3, hv', h1', h2', h3'⟩ := J4.v_
    refine q_asgO (o := .lst []) (eo_L ?_) fun kA H5 hkA e5 h5 => ?_
    · have e := elv_lc (te := tDGet (tVar 4) (tTup (tCons (tVar 10) (tCons (tVar 11) tNil)))) (vs := [10, 11]) (g := gTup K 2 (gCons (gName 10) (gCons (gName 11) gNil)))
        (tt := tB (tCall spKept [] E0 (tCons (tVar 2) (tCons (tOp (rIn K false) (tVar 10) (tOp (rIx K) (tVar 0) (tC (.int 4)))) (tCons (tOp (rIn K false) (tVar 11) (tOp (rIx K) (tVar 1) (tC (.int 4)))) tNil))))) (fun _ => false) (fun _ => V.non)
        (over_list (K := K) (tl := tVar 3) (σ := σJn u v (.str "") L D (some x5) (some x6) none none none none none) (ev_var rfl) (SqL.of J4.L_)).over (by rw [hll]; omega) yAt_ex (fun i y H5 H6 hi e5 hy => ?_)
      · rw [given_false] at e
        exact e
      obtain ⟨rfl, hy⟩ := hy
      rw [List.getElem?_map] at hy
      obtain ⟨p, hp, rfl⟩ := Option.map_eq_some_iff.mp hy
      obtain ⟨a, ha, hpa⟩ := J4.ps_.get hp
      refine ⟨σJn u v (.str "") L D (some x5) (some x6) none (some (nV a.1)) (some (nV a.2)) none none, rfl, fun Qs k => g_two (e5 _ _ hpa) k, et_B (ev_call (ea_cons (ev_var rfl) (ea_cons (ev_op (ev_var rfl) (ev_ix (i := 4) (ev_var rfl) ev_c (TupV.sq (hv.mono e5)) rfl) (rv_inN (SqN.mono h3 e5))) (ea_cons (ev_op (ev_var rfl) (ev_ix (i := 4) (ev_var rfl) ev_c (TupV.sq (hv'.mono e5)) rfl) (rv_inN (SqN.mono h3' e5))) ea_nil))) fun H7 e7 Q' q' _ => ⟨_, _, rfl, ?_⟩), fun z => by cases z⟩
      have same' : decide (a.1 ∈ T.acc) = decide (a.2 ∈ U.acc) := decide_eq_decide.mpr ((ordP_rch a (List.mem_of_getElem? ha)).acc same)
      rw [same', decide_eq_true rfl]
      exact q'
    have J5 := J4.mono e5
    have e15 := e12.trans (e3.trans (e4.trans e5))
    refine s_retU (eu_tup (ea_cons (ev_dgetU (k := kk2 (T.tie, U.tie)) (v := nV (ixOf (ordP T U) (T.tie, U.tie))) (ev_var rfl) (eu_tup (ea_cons (ev_ix (i := 0) (ev_var rfl) ev_c (TupV.sq (hv.mono e5)) rfl) (ea_cons (ev_ix (i := 0) (ev_var rfl) ev_c (TupV.sq (hv'.mono e5)) rfl) ea_nil)) (by show 2 ≤ 100000; decide)) (.inl J5.D_) (pd_val ordP_tie))
      (ea_cons (ev_dgetU (k := kk2 (T.gap, U.gap)) (v := nV (ixOf (ordP T U) (T.gap, U.gap))) (ev_var rfl) (eu_tup (ea_cons (ev_ix (i := 1) (ev_var rfl) ev_c (TupV.sq (hv.mono e5)) rfl) (ea_cons (ev_ix (i := 1) (ev_var rfl) ev_c (TupV.sq (hv'.mono e5)) rfl) ea_nil)) (by show 2 ≤ 100000; decide)) (.inl J5.D_) (pd_val ordP_gap))
      (ea_cons (ev_var rfl) (ea_cons (ev_var rfl) (ea_cons (ev_var rfl) ea_nil))))) (by show 5 ≤ 100000; decide)) fun p H6 hp e6 h6 => k p H6 _ _ _ _ kA (e15.trans e6) h6 (e6 _ _ h5)
end
end K46
set_option Elab.async false
set_option linter.all false
set_option autoImplicit false
set_option maxRecDepth 100000
namespace K46
open PySem PySem.Spec PyProof.Rows L2 Evl
set_option maxHeartbeats 4000000
/-! ### tables as data -/
def dN (n : Nat) : PyData := .int (n : Int)
def dL (l : List Nat) : PyData := .tuple (l.map dN)
def dM (m : List (List Nat)) : PyData := .tuple (m.map dL)
def dTb (T : Tb) : PyData := .tuple [dN T.tie, dN T.gap, dM T.rows, dM T.sides, dL T.acc]
theorem eqv_N (a b : Nat) : PyData.eqv (dN a) (dN b) = decide (a = b) := by
  show ((a : Int) == (b : Int)) = _
  by_cases h : a = b
  · subst h; rw [decide_eq_true rfl]; exact beq_self_eq_true _
  · rw [decide_eq_false h]; exact beq_eq_false_iff_ne.mpr (fun e => h (by omega))
theorem eqvAll_map {α : Type} [DecidableEq α] (f : α → PyData) (hf : ∀ a b, PyData.eqv (f a) (f b) = decide (a = b)) : ∀ l l' : List α, PyData.eqvAll (l.map f) (l'.map f) = decide (l = l')
  | [], [] => rfl
  | x :: l, y :: l' => by
    have e : PyData.eqvAll ((x :: l).map f) ((y :: l').map f) = (PyData.eqv (f x) (f y) && PyData.eqvAll (l.map f) (l'.map f)) := rfl
    rw [e, hf, eqvAll_map f hf l l', ← Bool.decide_and]
    exact decide_eq_decide.mpr ⟨fun h => by rw [h.1, h.2], fun h => by injection h with h1 h2; exact ⟨h1, h2⟩⟩
  | [], _ :: _ => rfl
  | _ :: _, [] => rfl
theorem eqv_L (l l' : List Nat) : PyData.eqv (dL l) (dL l') = decide (l = l') := eqvAll_map dN eqv_N l l'
theorem eqv_M (l l' : List (List Nat)) : PyData.eqv (dM l) (dM l') = decide (l = l') := eqvAll_map dL eqv_L l l'
theorem eqv_Tb (T U : Tb) : PyData.eqv (dTb T) (dTb U) = decide (T = U) := by
  have e : PyData.eqv (dTb T) (dTb U) = (PyData.eqv (dN T.tie) (dN U.tie) && (PyData.eqv (dN T.gap) (dN U.gap) && (PyData.eqv (dM T.rows) (dM U.rows) && (PyData.eqv (dM T.sides) (dM U.sides) && (PyData.eqv (dL T.acc) (dL U.acc) && true))))) := rfl
  rw [e, eqv_N, eqv_N, eqv_M, eqv_M, eqv_L, Bool.and_true, ← Bool.decide_and, ← Bool.decide_and, ← Bool.decide_and, ← Bool.decide_and]
  refine decide_eq_decide.mpr ⟨fun h => ?_, fun h => by rw [h]; exact ⟨rfl, rfl, rfl, rfl, rfl⟩⟩
  cases T
  cases U
  obtain ⟨h1, h2, h3, h4, h5⟩ := h
  simp only at h1 h2 h3 h4 h5
  rw [h1, h2, h3, h4, h5]
section
variable {K : PySem.W.Frag} {H : Hp} {v : V}
theorem dpAll_N : ∀ l : List Nat, DpAll K H (l.map nV) (l.map dN)
  | [] => .nil
  | x :: l => .cons (.int _) (dpAll_N l)
theorem dp_L {l : List Nat} (h : TupN H v l) : Dp K H v (dL l) := by
  obtain ⟨a, rfl, h⟩ := h
  exact .tup (SqT.of h) (dpAll_N l)
theorem dpAll_L : ∀ {rs : List V} {m : List (List Nat)}, Paired (TupN H) rs m → DpAll K H rs (m.map dL)
  | _, _, .nil => .nil
  | _, _, .cons h t => .cons (dp_L h) (dpAll_L t)
theorem dp_M {m : List (List Nat)} (h : MatT H v m) : Dp K H v (dM m) := by
  obtain ⟨rs, ⟨a, rfl, h⟩, hp⟩ := h
  exact .tup (SqT.of h) (dpAll_L hp)
theorem dp_Tb {T : Tb} (h : PartsT H v T) : Dp K H v (dTb T) := by
  obtain ⟨r, s, a, ⟨p, rfl, h⟩, h5⟩ := h
  exact .tup (SqT.of h) (.cons (.int _) (.cons (.int _) (.cons (dp_M h5.rows) (.cons (dp_M h5.sides) (.cons (dp_L h5.acc) .nil)))))
end
theorem canAll {α : Type} (f : α → PyData) (hf : ∀ a, (f a).canLay0 = true) : ∀ l : List α, PyData.canLayAll0 (l.map f) = true
  | [] => rfl
  | x :: l => by
    have e : PyData.canLayAll0 ((x :: l).map f) = ((f x).canLay0 && PyData.canLayAll0 (l.map f)) := rfl
    rw [e, hf, canAll f hf l]; rfl
theorem can_L (l : List Nat) : (dL l).canLay0 = true := canAll dN (fun _ => rfl) l
theorem can_M (m : List (List Nat)) : (dM m).canLay0 = true := canAll dL can_L m
theorem depAll {α : Type} (f : α → PyData) (n : Nat) (hf : ∀ a, (f a).depth ≤ n) : ∀ l : List α, PyData.depthAll (l.map f) ≤ n
  | [] => Nat.zero_le _
  | x :: l => Nat.max_le.mpr ⟨hf x, depAll f n hf l⟩
theorem dep_L (l : List Nat) : (dL l).depth ≤ 1 := Nat.succ_le_succ (depAll dN 0 (fun _ => Nat.le_refl _) l)
theorem dep_M (m : List (List Nat)) : (dM m).depth ≤ 2 := Nat.succ_le_succ (depAll dL 1 dep_L m)
theorem shp {d : PyData} (h1 : d.canLay0 = true) (h2 : d.depth ≤ 3) : SeqAt.shaped d = true := Bool.and_eq_true_iff.mpr ⟨h1, decide_eq_true (by omega)⟩
theorem shp_L (l : List Nat) : SeqAt.shaped (dL l) = true := shp (can_L l) (Nat.le_trans (dep_L l) (by decide))
theorem shp_M (m : List (List Nat)) : SeqAt.shaped (dM m) = true := shp (can_M m) (Nat.le_trans (dep_M m) (by decide))
theorem shp_Tb (T : Tb) : SeqAt.shaped (dTb T) = true := by
  refine shp ?_ ?_
  · have e : (dTb T).canLay0 = (true && (true && ((dM T.rows).canLay0 && ((dM T.sides).canLay0 && ((dL T.acc).canLay0 && true))))) := rfl
    rw [e, can_M, can_M, can_L]; rfl
  · have e : (dTb T).depth = max 0 (max 0 (max (dM T.rows).depth (max (dM T.sides).depth (max (dL T.acc).depth 0)))) + 1 := rfl
    have h1 := dep_M T.rows
    have h2 := dep_M T.sides
    have h3 := dep_L T.acc
    rw [e]; omega
section
variable {K : PySem.W.Frag} {σ : L2.St} {H H' : Hp} {ta tb td ty te tk tv : TE} {v x y z : V} {D : Ends} {tz : TS} {a b : Addr}
theorem rv_eqD {d e : PyData} (h1 : ∀ H1, Ex H H1 → Dp K H1 x d) (h2 : ∀ H1, Ex H H1 → Dp K H1 y e) (s1 : SeqAt.shaped d = true) (s2 : SeqAt.shaped e = true) : RV (rEqD K) x y H (.bl (PyData.eqv d e)) := fun H1 e1 Q q => ⟨d, e, h1 H1 e1, h2 H1 e1, s1, s2, q H1 (Ex.refl _)⟩
theorem rv_neD {d e : PyData} (h1 : ∀ H1, Ex H H1 → Dp K H1 x d) (h2 : ∀ H1, Ex H H1 → Dp K H1 y e) (s1 : SeqAt.shaped d = true) (s2 : SeqAt.shaped e = true) : RV (rNeD K) x y H (.bl (!PyData.eqv d e)) := fun H1 e1 Q q => ⟨d, e, h1 H1 e1, h2 H1 e1, s1, s2, q H1 (Ex.refl _)⟩
theorem kit_same {C : Addr} : PySem.W.kitOne K (.ref C) (.ref C) = some true := if_pos (beq_self_eq_true _)
/-- isinstance(x, C), x an instance of C with slots -/
theorem ev_isiS {C dx : Addr} {vs : List (Option V)} (S : SlC K C) (ha : Ev ta σ H (.ref a)) (h1 : H a = some (SlX.SlO a C dx vs)) (h2 : H dx = some (.xd [])) : Ev (tCB (SlX.rIsiSl K (.ref C)) (tCons ta (tCons (tC (.ref C)) tNil))) σ H (.bl true) := fun H1 e Q q =>
  ha H1 e _ fun H2 e2 => ⟨a, C, dx, vs, .ref C, true, rfl, rfl, fun w h => h, .inr ⟨(e.trans e2) _ _ h1, (e.trans e2) _ _ h2⟩, S.cls, S.isi, kit_same, q H2 e2⟩
theorem q_drop {P : V → Hp → Prop} (h : EvP te σ H P) (k : ∀ v H1, Ex H H1 → P v H1 → tz D σ H1) : tSeq (tDrop te) tz D σ H := h H (Ex.refl _) _ fun v H1 e p => k v H1 e p
end
section
variable {P : Program} {w : World} {K : PySem.W.Frag} {mg : Str → Option Value} {base : Heap}
abbrev sReqT : Stmt := top 48
def spReqT (K : PySem.W.Frag) : Sp := fun vs H Q _ => ∃ (v : V) (T : Tb), vs = [v] ∧ TabAt K H v T ∧ ∀ H', Ex H H' → Q .non H'
theorem scReqT : FnScope ["value"] ["value"] (defScope sReqT) := ⟨rfl, rfl, rfl, by decide +kernel, rfl, by decide +kernel, by decide +kernel⟩
theorem ok_reqT (B : Free mg) (TC : TblC K mg) (F : FnG K "require_table" sReqT) (hm : mg "require_table" = some (.ref (He.ga K "require_table"))) : Pr P w K mg base 1 "require_table" ["value"] (spReqT K) := by
  refine pr_mk F hm scReqT (fun _ _ _ _ _ _ us hl => match us, hl with | [_], _ => rfl) (fun vs H Q E h => ?_) (fun f cdv A outer s H vs Q E hr h => ?_)
  · obtain ⟨v, T, rfl, _⟩ := h
    rfl
  · obtain ⟨v, T, rfl, ⟨x, dx, r, t, a, rfl, h1, h2, h3⟩, k⟩ := h
    refine ⟨_, pss_one (ps_if (pt_not (pt_val (pe_callB (SlX.call_isiSl (.ref (He.ga K "Table"))) (by rfl) B.isinstance b_isi (pa_cons (pv 0) (pa_cons (pe_glob (v := .ref (He.ga K "Table")) (by rfl) TC.glo rfl) pa_nil))))) pss_never pss_nil), ?_⟩
    refine s_when (b := false) (et_not (a := true) (et_B (ev_isiS TC.sl (ev_var rfl) h1 h2))) (fun z => by cases z) (fun _ H1 e1 => k H1 e1)
abbrev sMis : Stmt := top 54
def spMis (K : PySem.W.Frag) : Sp := fun vs H Q _ => ∃ (u v : V) (T U : Tb), vs = [u, v] ∧ TabAt K H u T ∧ TabAt K H v U ∧ T.Ok ∧ U.Ok ∧ T.n ≤ 60 ∧ U.n ≤ 60 ∧ Same T U ∧ ∀ H', Ex H H' → Q .non H'
theorem scMis : FnScope ["one", "other", "parts", "state", "building"] ["one", "other"] (defScope sMis) := ⟨rfl, rfl, rfl, by decide +kernel, rfl, by decide +kernel, by decide +kernel⟩
theorem ok_mis (F : FnG K "misread" sMis) (hm : mg "misread" = some (.ref (He.ga K "misread"))) (Fq : Pr P w K mg base 1 "require_table" ["value"] (spReqT K)) (F5 : Pr P w K mg base 1 "five_of" ["table"] (spFive K)) (Fj : Pr P w K mg base 3 "joined_parts" ["one", "other", "word"] (spJn K)) :
    Pr P w K mg base 4 "misread" ["one", "other"] (spMis K) := by
  refine pr_mk F hm scMis (fun _ _ _ _ _ _ us hl => match us, hl with | [_, _], _ => rfl) (fun vs H Q E h => ?_) (fun f cdv A outer s H vs Q E hr h => ?_)
  · obtain ⟨u, v, T, U, rfl, _⟩ := h
    rfl
  · obtain ⟨u, v, T, U, rfl, hu1, hv1, ok, ok', hn, hn', same, k⟩ := h
    have h64 := hr.units
    have hr1 := hr.mono (show 1 ≤ 3 by decide)
    refine ⟨_, pss_cons (ps_expr (pe_g Fq hr1 (pa_cons (pv 0) pa_nil))) (pss_cons (ps_expr (pe_g Fq hr1 (pa_cons (pv 1) pa_nil)))
      (pss_cons (ps_set (i := 2) scMis.nd rfl (Or.inl rfl) (pe_g Fj hr (pa_cons (pe_g F5 hr1 (pa_cons (pv 0) pa_nil)) (pa_cons (pe_g F5 hr1 (pa_cons (pv 1) pa_nil)) (pa_cons pe_str pa_nil)))))
      (pss_cons (ps_if (pt_cmpR (op_eqD h64) (pe_ix ix_seq (pv 2) pe_int (fun _ _ => rfl)) (pe_lst pa_nil) (nomark _)) (pss_one (ps_ret pe_non)) pss_nil) pss_never))), ?_⟩
    refine q_drop (P := fun _ _ => True) (ep_call (ea_cons (ev_var rfl) ea_nil) fun H1 e1 Q' q' => ⟨u, T, rfl, hu1.mono e1, fun H2 e2 => q' _ H2 e2 trivial⟩) fun _ H1 e1 _ => ?_
    refine q_drop (P := fun _ _ => True) (ep_call (ea_cons (ev_var rfl) ea_nil) fun H2 e2 Q' q' => ⟨v, U, rfl, hv1.mono (e1.trans e2), fun H3 e3 => q' _ H3 e3 trivial⟩) fun _ H2 e2 _ => ?_
    have e12 := e1.trans e2
    have c5 : ∀ {x : V} {S : Tb} {i : Nat} {σ : L2.St}, TabAt K H x S → σ[i]? = some (some x) → ∀ {H1 : Hp}, Ex H H1 → EvP (tCall (spFive K) [] E0 (tCons (tVar i) tNil)) σ H1 (fun p H' => PartsT H' p S) := fun {x S i σ} ht hi {H1} e => ep_call (ea_cons (ev_var hi) ea_nil) fun H3 e3 Q' q' => ⟨x, S, rfl, ht.mono (e.trans e3), fun p H4 e4 hp => q' p H4 e4 hp⟩
    refine q_asgP (P := fun x H' => ∃ (p kA : Addr) (x1 x2 x3 x4 : V), x = .ref p ∧ H' p = some (.tup [x1, x2, x3, x4, .ref kA]) ∧ H' kA = some (.lst [])) (ep_callP (P := fun vs H' => ∃ p q, vs = [p, q, .str ""] ∧ PartsT H' p T ∧ PartsT H' q U)
      (eap_cons (c5 hu1 rfl e12) fun p H3 e3 hp => eap_cons (c5 hv1 rfl (e12.trans e3)) fun q H4 e4 hq => eap_consE ev_c fun H5 e5 Q' q' => q' [] H5 (Ex.refl _) ⟨p, q, rfl, hp.mono (e4.trans e5), hq.mono e5⟩)
      fun vs H3 e3 ⟨p, q, hvs, hp, hq⟩ => fun H4 e4 Q' q' => by
        subst hvs
        exact ⟨p, q, T, U, rfl, (hp.mono e4).at_, (hq.mono e4).at_, ok, ok', hn, hn', same, fun p' H5 x1 x2 x3 x4 kA e5 h5 h6 => q' _ H5 e5 ⟨p', kA, x1, x2, x3, x4, rfl, h5, h6⟩⟩) fun x H3 e3 ⟨p, kA, x1, x2, x3, x4, hx, hp, hk⟩ => ?_
    subst hx
    refine q_when (b := true) (et_test (ev_opL (ev_ix (i := 4) (ev_var rfl) ev_c (Sq.t hp) rfl) (el_lst ea_nil (by simp)) fun q H4 h4 e4 => ?_)) (fun _ H4 e4 => s_ret ev_c fun H5 e5 => k H5 ((e12.trans e3).trans (e4.trans e5))) (fun z => by cases z)
    have : (true : Bool) = PyData.eqv (.list []) (.list []) := rfl
    rw [this]
    exact rv_eqD (fun H5 e5 => .lst (SqL.of (e5 _ _ (e4 _ _ hk))) .nil) (fun H5 e5 => .lst (SqL.of (e5 _ _ h4)) .nil) (by decide) (by decide)
end
end K46
set_option Elab.async false
set_option linter.all false
set_option autoImplicit false
set_option maxRecDepth 100000
/-! K46R6: x != y by an own __eq__, len(x) by an own __len__, of slotted instances. -/
namespace K46
open PySem PySem.Spec PyProof.Rows L2 Evl
set_option maxHeartbeats 4000000
theorem slot_ne : Slot "object" "__ne__" "object.__ne__" := .of (owner := "object") (n := "__ne__") (by rw [typeLookup_type, builtinLookup_eq_fast]; kernel_rfl) (by decide +kernel) (by decide +kernel) (by decide +kernel)
  (.inl (by decide +kernel)) (by rw [isSubtype_type]; kernel_rfl)
section
variable {prog : Program} {w : World} {A : Around} {E : Value → Shared → Prop} {s : Shared} {K : PySem.W.Frag} {x C f : Addr} {ox : Obj} {od : Option Obj} {b tb : Value}
open PySem.W
theorem ifBound_ne {args : List Value} {Q : Option Value → Shared → Prop} (X : K.In s.heap) (I : InstAt s.heap x ox C od) (hs : findIn K (.ref C) "__ne__" = some (some (.builtin "object.__ne__")))
    (h : wpAny (model prog w) A (call (.builtin "object.__ne__") (.ref x :: args)) (fun v => Q (some v)) E s) : wpAny (model prog w) A (callSpecialIfBound? (.ref x) "__ne__" args) Q E s := by
  simp only [callSpecialIfBound?, bindSpecialIfBound?]
  refine wpAny_holding (wpAny_bind (wpAny_bind (wpAny_bind (I.type.here ((looks_findIn X hs).here ?_)))))
  refine wpAny_bind (wpAny_askSetting (wpAny_ite ?_))
  have last : wpAny (model prog w) A (call (.builtin "object.__ne__") ([.ref x] ++ args) >>= fun v => pure (some v)) Q E s := wpAny_bind (wpAny_mono h (fun v s' h' => wpAny_pure h') fun _ _ z => z)
  rw [slot_ne.bind]
  split
  · exact wpAny_bind (wpAny_pure (wpAny_pure (by exact last)))
  · exact wpAny_tryCatch (wpAny_bind (wpAny_pure (wpAny_pure (by exact last))))
theorem cmp_ne {Q : Value → Shared → Prop} (hu : A.units + 1 < cLine) (X : K.In s.heap) (I : InstAt s.heap x ox C od) (hb : Looks (model prog w) s.heap (typeOf b) tb) (hn : notFirst K C tb = true) (hne : findIn K (.ref C) "__ne__" = some (some (.builtin "object.__ne__")))
    (hm : mroIn K C (.type "object") = some true) (hs : findIn K (.ref C) "__eq__" = some (some (.ref f))) (hf : isFn K (.ref f) = true)
    (h : wpAny (model prog w) A.in1 (call (.ref f) [.ref x, b]) (fun v s' => ∃ c, v = .bool c ∧ Q (.bool (!c)) s') E s) : wpAny (model prog w) A (richCompare .NotEq (.ref x) b) Q E s := by
  have inst : Looks (model prog w) s.heap (isInstance (.ref x) (.type "object")) true := I.type.andThen (looks_mroIn X hm)
  have one : wpAny (model prog w) A (tryCompare (.ref x) "__ne__" b) (fun r s' => ∃ v, r = some v ∧ Q v s') E s := by
    unfold tryCompare
    refine wpAny_bind (ifBound_ne X I hne (wpAny_call (codeAny_call_builtin slot_ne.plain F.cmpEntry_ne (check_slot F.cmpKind_ne F.cmpSplit_ne inst (F.cmpArgs_ne _ _) ?_))))
    unfold Builtin.«object.__ne__»
    refine wpAny_bind (wpAny_pure ?_)
    refine wpAny_bind (wpAny_cRoomFor (show A.in1.units < cLine from hu) ?_)
    refine wpAny_bind (ifBound_K X I hs hf (wpAny_mono h (fun v s' hv => ?_) fun _ _ e => e))
    obtain ⟨c, rfl, hq⟩ := hv
    refine wpAny_bind (wpAny_truthy_bool ?_)
    exact wpAny_pure (wpAny_pure ⟨_, rfl, hq⟩)
  unfold richCompare
  simp only [oneThing_ref]
  refine wpAny_holding (wpAny_bind (wpAny_cRoomFor (Nat.lt_of_succ_lt hu) ?_))
  refine wpAny_bind (I.type.here (wpAny_bind (hb.here ?_)))
  split
  · rename_i q
    have e : subIn K tb (.ref C) = some false := by
      rcases Bool.or_eq_true_iff.mp hn with e | e
      · rw [beq_iff_eq.mp e] at q; simp at q
      · exact beq_iff_eq.mp e
    refine wpAny_bind ((looks_subIn X e).here ?_)
    simp only [Bool.false_eq_true, if_false]
    refine wpAny_bind (wpAny_mono one (fun r s' z => ?_) fun _ _ e => e)
    obtain ⟨v, rfl, hq⟩ := z
    exact wpAny_pure hq
  · refine wpAny_bind (wpAny_pure ?_)
    simp only [Bool.false_eq_true, if_false]
    refine wpAny_bind (wpAny_mono one (fun r s' z => ?_) fun _ _ e => e)
    obtain ⟨v, rfl, hq⟩ := z
    exact wpAny_pure hq
end
section
open SlX
variable {X : Cx} {CX : CXT} {C g : Addr} {n : Nat} {sp : Sp} {E : XK}
/-- x != y, instances of one class with an own __eq__, none for != -/
def rNeOwn (C : Addr) (sp : Sp) (E : XK) : R2 := fun x y H Q => ∃ a dx vs b dy ws, x = .ref a ∧ y = .ref b ∧ Slt H a C dx vs ∧ Slt H b C dy ws ∧ sp [x, y] H (fun z H' => ∃ c, z = .bl c ∧ Q (.bl (!c)) H') E
theorem op_neOwn (hne : PySem.W.findIn X.K (.ref C) "__ne__" = some (some (.builtin "object.__ne__"))) (hm : PySem.W.mroIn X.K C (.type "object") = some true) (hs : PySem.W.findIn X.K (.ref C) "__eq__" = some (some (.ref g))) (hf : PySem.W.isFn X.K (.ref g) = true)
    (F : FnR X.prog X.w X.K X.mg X.base CX n g sp) (hr : Room (n + 1) X.A) (hx : Passes CX X E) : OpR X (compareOp .NotEq) (rNeOwn C sp E) := by
  intro pins s σ H x y v u Q I rx ry h
  obtain ⟨a, dx, vs, b, dy, ws, rfl, rfl, ha, hb, q⟩ := h
  cases (show v = Value.ref a from rx)
  cases (show u = Value.ref b from ry)
  obtain ⟨sl, od, _, J, _⟩ := slt_inst I ha
  obtain ⟨sl', od', _, J', _⟩ := slt_inst I hb
  have nf : PySem.W.notFirst X.K C (.ref C) = true := by unfold PySem.W.notFirst; rw [beq_self_eq_true]; rfl
  show wpAny _ _ (richCompare .NotEq (.ref a) (.ref b)) _ _ _
  refine cmp_ne (hu_of hr) I.kIn J J'.type nf hne hm hs hf (wpAny_mono (wpAny_call (run_at (us := [.ref a, .ref b]) (ws := [.ref a, .ref b]) F hr.in1 I.env0.in1 hx I (.cons rfl (.cons rfl .nil)) q)) (fun w' s' z => ?_) fun _ _ x => x)
  obtain ⟨z', H', I', rz, c, ez, qz⟩ := z
  subst ez
  cases (show w' = Value.bool c from rz)
  exact ⟨c, rfl, .bl (!c), H', I', rfl, qz⟩
/-- x op y, instances of one class with an own def for op -/
def rBinOwn (C : Addr) (sp : Sp) (E : XK) : R2 := fun x y H Q => ∃ a dx vs b dy ws, x = .ref a ∧ y = .ref b ∧ Slt H a C dx vs ∧ Slt H b C dy ws ∧ sp [x, y] H Q E
theorem op_binOwn {op : Operator} (hc : PySem.W.selfFirst X.K C = true) (hs : PySem.W.findIn X.K (.ref C) (PySem.dunder op.info.2) = some (some (.ref g))) (hf : PySem.W.isFn X.K (.ref g) = true) (F : FnR X.prog X.w X.K X.mg X.base CX n g sp) (hr : Room n X.A) (hx : Passes CX X E) :
    OpR X (binaryOp op) (rBinOwn C sp E) := by
  intro pins s σ H x y v u Q I rx ry h
  obtain ⟨a, dx, vs, b, dy, ws, rfl, rfl, ha, hb, q⟩ := h
  cases (show v = Value.ref a from rx)
  cases (show u = Value.ref b from ry)
  obtain ⟨sl, od, _, J, _⟩ := slt_inst I ha
  obtain ⟨sl', od', _, J', _⟩ := slt_inst I hb
  obtain ⟨m, hF⟩ := I.fr
  refine PySem.W.binop_K (op := op) hF I.ok.mod.kin J J'.type hc hs hf (wpAny_mono (wpAny_call (run_fnR (us := [.ref a, .ref b]) (vs := [.ref a, .ref b]) F hr hx I (.cons rfl (.cons rfl .nil)) q)) (fun w' s' z => ?_) fun _ _ x => x)
  obtain ⟨z', H', I', rz, qz⟩ := z
  exact cmpback rz ⟨z', H', I', rz, qz⟩
/-- len(x), x an instance with an own __len__ -/
def rLenOwn (C : Addr) (sp : Sp) (E : XK) : List V → Hp → VK → Prop := fun xs H Q => ∃ a dx vs, xs = [V.ref a] ∧ Slt H a C dx vs ∧ sp [.ref a] H (fun z H' => ∃ k : Nat, k < 2 ^ 60 ∧ z = nV k ∧ Q (nV k) H') E
theorem call_lenOwn (hs : PySem.W.findIn X.K (.ref C) "__len__" = some (some (.ref g))) (hf : PySem.W.isFn X.K (.ref g) = true) (F : FnR X.prog X.w X.K X.mg X.base CX n g sp) (hr : Room (n + 1) X.A) (hx : Passes CX X E) : CallR X (.builtin "len") (rLenOwn C sp E) := by
  intro pins s σ H xs us Q I r h
  obtain ⟨a, dx, vs, rfl, hsl, q⟩ := h
  obtain ⟨u, rfl, ru⟩ := r.one
  cases (show u = Value.ref a from ru)
  obtain ⟨sl, od, _, J, _⟩ := slt_inst I hsl
  obtain ⟨m, hF⟩ := I.fr
  refine PySem.W.len_K hF I.ok.mod.kin J hs hf (wpAny_mono (wpAny_call (run_at (us := [.ref a]) (ws := [.ref a]) F hr.in1 I.env0.in1 hx I (.cons rfl .nil) q)) (fun w' s' z => ?_) fun _ _ x => x)
  obtain ⟨z', H', I', rz, k, hk, ez, qz⟩ := z
  subst ez
  obtain ⟨t, e⟩ := (show ∃ t, w' = Value.int (k : Int) t from rz)
  cases e
  refine ⟨⟨by omega, ?_⟩, nV k, H', I'.tok _, ⟨_, rfl⟩, qz⟩
  have : (k : Int) < 2 ^ 60 := by exact_mod_cast hk
  omega
end
/-- a def of the class that stands for a special name -/
structure OwnD (K : PySem.W.Frag) (C : Addr) (m : Str) (g : Addr) : Prop where
  at_ : PySem.W.findIn K (.ref C) m = some (some (.ref g))
  fn : PySem.W.isFn K (.ref g) = true
/-- a property of the class: its getter at g -/
structure PropG (K : PySem.W.Frag) (C : Addr) (f : Str) (p g : Addr) : Prop where
  at_ : PySem.W.findIn K (.ref C) f = some (some (.ref p))
  get : PySem.W.specialIn K (.ref p) "__get__" = some (some (.builtin "property.__get__"))
  tk : PySem.W.takesIn K (.ref p) = some true
  rc : ∃ rest, PySem.W.recIn K p "property" = some (.ref g :: rest)
section
variable {X : Cx} {C p g : Addr} {f : Str} {k : Nat} {sp : Sp} {e o : Expr} {es : List Expr} {m : Str} {pos apos : Pos} {ta : TE} {t : TA}
theorem pe_prop (he : PE X e ta) (S : SlC X.K C) (G : PropG X.K C f p g) (F : FnR X.prog X.w X.K X.mg X.base CX0 k g sp) (hr : Room (k + 1) X.A) (hb : attributeBase e f X.env (eval e X.env) = eval e X.env := by rfl) : PE X (.Attribute e f pos) (SlX.tPropSl C sp E0 ta) :=
  SlX.pe_propSl he S.cls G.at_ G.get G.tk G.rc F hr (fun _ _ _ _ h => h.elim) hb
end
end K46
set_option Elab.async false
set_option linter.all false
set_option autoImplicit false
set_option maxRecDepth 100000
namespace K46
open PySem PySem.Spec PyProof.Rows L2 Evl
set_option maxHeartbeats 4000000
theorem ep_op {σ : L2.St} {H : Hp} {ta tb : TE} {r : R2} {P1 R : V → Hp → Prop} {P2 : V → V → Hp → Prop} (h1 : EvP ta σ H P1) (h2 : ∀ x H1, Ex H H1 → P1 x H1 → EvP tb σ H1 (P2 x)) (hr : ∀ x y H2, Ex H H2 → P2 x y H2 → ∃ z, RV r x y H2 z ∧ ∀ H3, Ex H2 H3 → R z H3) : EvP (tOp r ta tb) σ H R :=
  fun H1 e1 Q q => h1 H1 e1 _ fun x H2 e2 p1 => h2 x H2 (e1.trans e2) p1 H2 (Ex.refl _) _ fun y H3 e3 p2 => by
    obtain ⟨z, hz, hR⟩ := hr x y H3 ((e1.trans e2).trans e3) p2
    exact hz H3 (Ex.refl _) Q fun H4 e4 => q z H4 ((e2.trans e3).trans e4) (hR H4 e4)
/-! ### the members of Table -/
def TM (i : Nat) : Stmt := inClass (top 47) i
section
variable {P : Program} {w : World} {K : PySem.W.Frag} {mg : Str → Option Value} {base : Heap} {g : Addr}
theorem scSelf (i : Nat) (h1 : FnScope ["self"] ["self"] (defScope (TM i))) : FnScope ["self"] ["self"] (defScope (TM i)) := h1
def spTieP (K : PySem.W.Frag) : Sp := fun vs H Q _ => ∃ (v : V) (T : Tb), vs = [v] ∧ TabAt K H v T ∧ ∀ x H', Ex H H' → x = nV T.tie → Q x H'
theorem scTieP : FnScope ["self"] ["self"] (defScope (TM 2)) := ⟨rfl, rfl, rfl, by decide +kernel, rfl, by decide +kernel, by decide +kernel⟩
theorem ok_tieP (TC : TblC K mg) (F : ∃ fd, FunD K "tie_state" "Table.tie_state" (defArgs (TM 2)) (defBody (TM 2)) (defScope (TM 2)) [] [] g fd) : PrM P w K mg base 1 g ["self"] (spTieP K) := by
  refine pm_mk F scTieP (fun _ _ _ _ _ _ us hl => match us, hl with | [_], _ => rfl) (fun vs H Q E h => ?_) (fun cdv A outer s H vs Q E hr h => ?_)
  · obtain ⟨v, T, rfl, _⟩ := h
    rfl
  · obtain ⟨v, T, rfl, ⟨x, dx, r, t, a, rfl, h1, h2, h3⟩, k⟩ := h
    exact ⟨_, pss_one (ps_ret (SlX.pe_sl (pv 0))), s_ret (ev_sl (ev_var rfl) h1 h2 TC.sl.cls TC.tie rfl) fun H1 e1 => k _ H1 e1 rfl⟩
def spGapP (K : PySem.W.Frag) : Sp := fun vs H Q _ => ∃ (v : V) (T : Tb), vs = [v] ∧ TabAt K H v T ∧ ∀ x H', Ex H H' → x = nV T.gap → Q x H'
theorem scGapP : FnScope ["self"] ["self"] (defScope (TM 3)) := ⟨rfl, rfl, rfl, by decide +kernel, rfl, by decide +kernel, by decide +kernel⟩
theorem ok_gapP (TC : TblC K mg) (F : ∃ fd, FunD K "gap_state" "Table.gap_state" (defArgs (TM 3)) (defBody (TM 3)) (defScope (TM 3)) [] [] g fd) : PrM P w K mg base 1 g ["self"] (spGapP K) := by
  refine pm_mk F scGapP (fun _ _ _ _ _ _ us hl => match us, hl with | [_], _ => rfl) (fun vs H Q E h => ?_) (fun cdv A outer s H vs Q E hr h => ?_)
  · obtain ⟨v, T, rfl, _⟩ := h
    rfl
  · obtain ⟨v, T, rfl, ⟨x, dx, r, t, a, rfl, h1, h2, h3⟩, k⟩ := h
    exact ⟨_, pss_one (ps_ret (SlX.pe_sl (pv 0))), s_ret (ev_sl (ev_var rfl) h1 h2 TC.sl.cls TC.gap rfl) fun H1 e1 => k _ H1 e1 rfl⟩
def spRowsP (K : PySem.W.Frag) : Sp := fun vs H Q _ => ∃ (v : V) (T : Tb), vs = [v] ∧ TabAt K H v T ∧ ∀ x H', Ex H H' → MatT H' x T.rows → Q x H'
theorem scRowsP : FnScope ["self"] ["self"] (defScope (TM 4)) := ⟨rfl, rfl, rfl, by decide +kernel, rfl, by decide +kernel, by decide +kernel⟩
theorem ok_rowsP (TC : TblC K mg) (F : ∃ fd, FunD K "rows" "Table.rows" (defArgs (TM 4)) (defBody (TM 4)) (defScope (TM 4)) [] [] g fd) : PrM P w K mg base 1 g ["self"] (spRowsP K) := by
  refine pm_mk F scRowsP (fun _ _ _ _ _ _ us hl => match us, hl with | [_], _ => rfl) (fun vs H Q E h => ?_) (fun cdv A outer s H vs Q E hr h => ?_)
  · obtain ⟨v, T, rfl, _⟩ := h
    rfl
  · obtain ⟨v, T, rfl, ⟨x, dx, r, t, a, rfl, h1, h2, h3⟩, k⟩ := h
    exact ⟨_, pss_one (ps_ret (SlX.pe_sl (pv 0))), s_ret (ev_sl (ev_var rfl) h1 h2 TC.sl.cls TC.rows rfl) fun H1 e1 => k _ H1 e1 (h3.mono e1).rows⟩
def spSidesP (K : PySem.W.Frag) : Sp := fun vs H Q _ => ∃ (v : V) (T : Tb), vs = [v] ∧ TabAt K H v T ∧ ∀ x H', Ex H H' → MatT H' x T.sides → Q x H'
theorem scSidesP : FnScope ["self"] ["self"] (defScope (TM 5)) := ⟨rfl, rfl, rfl, by decide +kernel, rfl, by decide +kernel, by decide +kernel⟩
theorem ok_sidesP (TC : TblC K mg) (F : ∃ fd, FunD K "sides" "Table.sides" (defArgs (TM 5)) (defBody (TM 5)) (defScope (TM 5)) [] [] g fd) : PrM P w K mg base 1 g ["self"] (spSidesP K) := by
  refine pm_mk F scSidesP (fun _ _ _ _ _ _ us hl => match us, hl with | [_], _ => rfl) (fun vs H Q E h => ?_) (fun cdv A outer s H vs Q E hr h => ?_)
  · obtain ⟨v, T, rfl, _⟩ := h
    rfl
  · obtain ⟨v, T, rfl, ⟨x, dx, r, t, a, rfl, h1, h2, h3⟩, k⟩ := h
    exact ⟨_, pss_one (ps_ret (SlX.pe_sl (pv 0))), s_ret (ev_sl (ev_var rfl) h1 h2 TC.sl.cls TC.sides rfl) fun H1 e1 => k _ H1 e1 (h3.mono e1).sides⟩
def spAccP (K : PySem.W.Frag) : Sp := fun vs H Q _ => ∃ (v : V) (T : Tb), vs = [v] ∧ TabAt K H v T ∧ ∀ x H', Ex H H' → TupN H' x T.acc → Q x H'
theorem scAccP : FnScope ["self"] ["self"] (defScope (TM 6)) := ⟨rfl, rfl, rfl, by decide +kernel, rfl, by decide +kernel, by decide +kernel⟩
theorem ok_accP (TC : TblC K mg) (F : ∃ fd, FunD K "accepted" "Table.accepted" (defArgs (TM 6)) (defBody (TM 6)) (defScope (TM 6)) [] [] g fd) : PrM P w K mg base 1 g ["self"] (spAccP K) := by
  refine pm_mk F scAccP (fun _ _ _ _ _ _ us hl => match us, hl with | [_], _ => rfl) (fun vs H Q E h => ?_) (fun cdv A outer s H vs Q E hr h => ?_)
  · obtain ⟨v, T, rfl, _⟩ := h
    rfl
  · obtain ⟨v, T, rfl, ⟨x, dx, r, t, a, rfl, h1, h2, h3⟩, k⟩ := h
    exact ⟨_, pss_one (ps_ret (SlX.pe_sl (pv 0))), s_ret (ev_sl (ev_var rfl) h1 h2 TC.sl.cls TC.acc rfl) fun H1 e1 => k _ H1 e1 (h3.mono e1).acc⟩
/-! ### reached, least, is_least -/
def spReachP (K : PySem.W.Frag) : Sp := fun vs H Q _ => ∃ (v : V) (T : Tb), vs = [v] ∧ TabAt K H v T ∧ T.Ok ∧ T.n ≤ 60 ∧ ∀ x H' (ys : List Nat), Ex H H' → ys.Perm (ordOf id T) → ys.Pairwise (· ≤ ·) → TupN H' x ys → Q x H'
theorem scReachP : FnScope ["self"] ["self"] (defScope (TM 7)) := ⟨rfl, rfl, rfl, by decide +kernel, rfl, by decide +kernel, by decide +kernel⟩
theorem sorted_ex (l : List Nat) : ∃ ys : List Nat, ys.Perm l ∧ ys.Pairwise (· ≤ ·) := by
  refine ⟨l.mergeSort (fun a b => decide (a ≤ b)), List.mergeSort_perm _ _, ?_⟩
  have := List.pairwise_mergeSort (le := fun a b : Nat => decide (a ≤ b)) (fun a b c h1 h2 => by simp only [decide_eq_true_eq] at *; omega) (fun a b => by simp only [Bool.or_eq_true, decide_eq_true_eq]; omega) l
  exact this.imp fun h => of_decide_eq_true h
theorem ok_reachP (B : Free mg) (TC : TblC K mg) (F : ∃ fd, FunD K "reached" "Table.reached" (defArgs (TM 7)) (defBody (TM 7)) (defScope (TM 7)) [] [] g fd) (F5 : Pr P w K mg base 1 "five_of" ["table"] (spFive K)) (Fm : Pr P w K mg base 2 "met_states" ["parts"] (spMet K)) :
    PrM P w K mg base 3 g ["self"] (spReachP K) := by
  refine pm_mk F scReachP (fun _ _ _ _ _ _ us hl => match us, hl with | [_], _ => rfl) (fun vs H Q E h => ?_) (fun cdv A outer s H vs Q E hr h => ?_)
  · obtain ⟨v, T, rfl, _⟩ := h
    rfl
  · obtain ⟨v, T, rfl, hv, ok, hn, k⟩ := h
    have hr1 := hr.mono (show 1 ≤ 2 by decide)
    refine ⟨_, pss_one (ps_ret (pe_callTy call_tuple_of (by rfl) B.tuple b_tuple (pa_cons (pe_callB cr_sortedI (by rfl) B.sorted b_sorted (pa_cons (pe_g Fm hr (pa_cons (pe_g F5 hr1 (pa_cons (pv 0) pa_nil)) pa_nil)) pa_nil)) pa_nil))), ?_⟩
    obtain ⟨ys, hp, hs⟩ := sorted_ex (ordOf id T)
    refine s_retU (eu_tupL (el_sortedN (ys := ys) (xs := ordOf id T) ?_ hp hs)) fun p H1 hp1 e1 h1 => k _ H1 ys e1 hp hs ⟨p, rfl, h1⟩
    intro H1 e1 Q' q'
    refine ep_callP (P := fun vs H' => ∃ u, vs = [u] ∧ PartsT H' u T) (R := fun u H' => ∃ p, u = .ref p ∧ H1 p = none ∧ H' p = some (.lst ((ordOf id T).map nV))) (eap_cons (P := fun u H' => PartsT H' u T) (ep_call (ea_cons (ev_var rfl) ea_nil) fun H2 e2 Q2 q2 => ⟨v, T, rfl, (hv.mono e1).mono e2, fun u H3 e3 hu => q2 u H3 e3 hu⟩)
      fun u H2 e2 hu => fun H3 e3 Q3 q3 => q3 [] H3 (Ex.refl _) ⟨u, rfl, hu.mono e3⟩) (fun vs H2 e2 ⟨u, hvs, hu⟩ => fun H3 e3 Q3 q3 => by
        subst hvs
        exact ⟨u, T, rfl, (hu.mono e3).at_, ok, by omega, fun p H4 hp4 e4 h4 => q3 _ H4 e4 ⟨p, rfl, fresh_back (e2.trans e3) hp4, h4⟩⟩) H1 (Ex.refl _) _ fun u H2 e2 ⟨p, hu, hp2, h2⟩ => ?_
    subst hu
    exact q' p H2 hp2 e2 h2
def spLeastP (K : PySem.W.Frag) : Sp := fun vs H Q _ => ∃ (v : V) (T : Tb), vs = [v] ∧ TabAt K H v T ∧ T.Ok ∧ T.n ≤ 60 ∧ ∀ x H' T', Ex H H' → Least T T' → TabAt K H' x T' → Q x H'
theorem scLeastP : FnScope ["self"] ["self"] (defScope (TM 9)) := ⟨rfl, rfl, rfl, by decide +kernel, rfl, by decide +kernel, by decide +kernel⟩
theorem ok_leastP (TC : TblC K mg) (F : ∃ fd, FunD K "least" "Table.least" (defArgs (TM 9)) (defBody (TM 9)) (defScope (TM 9)) [] [] g fd) (F5 : Pr P w K mg base 1 "five_of" ["table"] (spFive K)) (Fl : Pr P w K mg base 4 "least_parts" ["parts"] (spLeast K)) (Fb : Pr P w K mg base 8 "table_by" ["parts"] (spBy K)) :
    PrM P w K mg base 9 g ["self"] (spLeastP K) := by
  refine pm_mk F scLeastP (fun _ _ _ _ _ _ us hl => match us, hl with | [_], _ => rfl) (fun vs H Q E h => ?_) (fun cdv A outer s H vs Q E hr h => ?_)
  · obtain ⟨v, T, rfl, _⟩ := h
    rfl
  · obtain ⟨v, T, rfl, hv, ok, hn, k⟩ := h
    refine ⟨_, pss_one (ps_ret (pe_g Fb hr (pa_cons (pe_g Fl (hr.mono (show 4 ≤ 8 by decide)) (pa_cons (pe_g F5 (hr.mono (show 1 ≤ 8 by decide)) (pa_cons (pv 0) pa_nil)) pa_nil)) pa_nil))), ?_⟩
    refine s_retP (P := fun x H' => ∃ T', Least T T' ∧ TabAt K H' x T') (ep_callP (P := fun vs H' => ∃ u T', vs = [u] ∧ Least T T' ∧ PartsT H' u T') (eap_cons (P := fun u H' => ∃ T', Least T T' ∧ PartsT H' u T')
      (ep_callP (P := fun vs H' => ∃ u, vs = [u] ∧ PartsT H' u T) (eap_cons (P := fun u H' => PartsT H' u T) (ep_call (ea_cons (ev_var rfl) ea_nil) fun H2 e2 Q2 q2 => ⟨v, T, rfl, hv.mono e2, fun u H3 e3 hu => q2 u H3 e3 hu⟩) fun u H2 e2 hu => fun H3 e3 Q3 q3 => q3 [] H3 (Ex.refl _) ⟨u, rfl, hu.mono e3⟩)
        (fun vs H2 e2 ⟨u, hvs, hu⟩ => fun H3 e3 Q3 q3 => by
          subst hvs
          exact ⟨u, T, rfl, (hu.mono e3).at_, ok, hn, fun u' H4 T' e4 hl hu' => q3 _ H4 e4 ⟨T', hl, hu'⟩⟩))
      fun u H2 e2 ⟨T', hl, hu⟩ => fun H3 e3 Q3 q3 => q3 [] H3 (Ex.refl _) ⟨u, T', rfl, hl, hu.mono e3⟩) (fun vs H2 e2 ⟨u, T', hvs, hl, hu⟩ => fun H3 e3 Q3 q3 => by
        subst hvs
        have := hl.n_le ok
        exact ⟨u, T', rfl, hu.mono e3, hl.ok ok, by omega, fun u' H4 e4 hu' => q3 _ H4 e4 ⟨T', hl, hu'⟩⟩)) fun x H1 e1 ⟨T', hl, hx⟩ => k x H1 T' e1 hl hx
def spIsLeastP (K : PySem.W.Frag) : Sp := fun vs H Q _ => ∃ (v : V) (T : Tb), vs = [v] ∧ TabAt K H v T ∧ T.Ok ∧ T.n ≤ 60 ∧ ∀ H' T', Ex H H' → Least T T' → Q (.bl (decide (T = T'))) H'
theorem scIsLeastP : FnScope ["self"] ["self"] (defScope (TM 10)) := ⟨rfl, rfl, rfl, by decide +kernel, rfl, by decide +kernel, by decide +kernel⟩
theorem ok_isLeastP (F : ∃ fd, FunD K "is_least" "Table.is_least" (defArgs (TM 10)) (defBody (TM 10)) (defScope (TM 10)) [] [] g fd) (F5 : Pr P w K mg base 1 "five_of" ["table"] (spFive K)) (Fl : Pr P w K mg base 4 "least_parts" ["parts"] (spLeast K)) :
    PrM P w K mg base 5 g ["self"] (spIsLeastP K) := by
  refine pm_mk F scIsLeastP (fun _ _ _ _ _ _ us hl => match us, hl with | [_], _ => rfl) (fun vs H Q E h => ?_) (fun cdv A outer s H vs Q E hr h => ?_)
  · obtain ⟨v, T, rfl, _⟩ := h
    rfl
  · obtain ⟨v, T, rfl, hv, ok, hn, k⟩ := h
    have hr1 := hr.mono (show 1 ≤ 4 by decide)
    refine ⟨_, pss_one (ps_ret (pe_cmpR (op_eqD hr.units) (pe_g F5 hr1 (pa_cons (pv 0) pa_nil)) (pe_g Fl hr (pa_cons (pe_g F5 hr1 (pa_cons (pv 0) pa_nil)) pa_nil)) (nomark _))), ?_⟩
    have c5 : ∀ {H1 : Hp}, Ex H H1 → EvP (tCall (spFive K) [] E0 (tCons (tVar 0) tNil)) [some v] H1 (fun p H' => PartsT H' p T) := fun {H1} e => ep_call (ea_cons (ev_var rfl) ea_nil) fun H3 e3 Q' q' => ⟨v, T, rfl, hv.mono (e.trans e3), fun p H4 e4 hp => q' p H4 e4 hp⟩
    refine s_retP (P := fun x H' => ∃ T', Least T T' ∧ x = .bl (decide (T = T'))) (ep_op (P1 := fun p H' => PartsT H' p T) (P2 := fun p q H' => PartsT H' p T ∧ ∃ T', Least T T' ∧ PartsT H' q T') (c5 (Ex.refl _)) (fun p H1 e1 hp =>
      ep_callP (P := fun vs H' => ∃ u, vs = [u] ∧ PartsT H' u T) (eap_cons (P := fun u H' => PartsT H' u T) (c5 e1) fun u H2 e2 hu => fun H3 e3 Q3 q3 => q3 [] H3 (Ex.refl _) ⟨u, rfl, hu.mono e3⟩)
        (fun vs H2 e2 ⟨u, hvs, hu⟩ => fun H3 e3 Q3 q3 => by
          subst hvs
          exact ⟨u, T, rfl, (hu.mono e3).at_, ok, hn, fun u' H4 T' e4 hl hu' => q3 _ H4 e4 ⟨hp.mono (e2.trans (e3.trans e4)), T', hl, hu'⟩⟩))
      fun p q H2 e2 ⟨hp, T', hl, hq⟩ => ⟨_, rv_eqD (fun H3 e3 => dp_Tb (hp.mono e3)) (fun H3 e3 => dp_Tb (hq.mono e3)) (shp_Tb _) (shp_Tb _), fun H3 e3 => ⟨T', hl, by rw [eqv_Tb]⟩⟩) fun x H1 e1 ⟨T', hl, hx⟩ => ?_
    subst hx
    exact k H1 T' e1 hl
/-! ### len, == -/
def spLenT (K : PySem.W.Frag) : Sp := fun vs H Q _ => ∃ (v : V) (T : Tb), vs = [v] ∧ TabAt K H v T ∧ ∀ H', Ex H H' → Q (nV T.n) H'
theorem scLenT : FnScope ["self"] ["self"] (defScope (TM 18)) := ⟨rfl, rfl, rfl, by decide +kernel, rfl, by decide +kernel, by decide +kernel⟩
theorem ok_lenT (B : Free mg) (TC : TblC K mg) (F : MtG K "Table" "__len__" (TM 18)) : PrM P w K mg base 1 (He.ma K (He.ga K "Table") "__len__") ["self"] (spLenT K) := by
  refine pm_mk F scLenT (fun _ _ _ _ _ _ us hl => match us, hl with | [_], _ => rfl) (fun vs H Q E h => ?_) (fun cdv A outer s H vs Q E hr h => ?_)
  · obtain ⟨v, T, rfl, _⟩ := h
    rfl
  · obtain ⟨v, T, rfl, ⟨x, dx, r, t, a, rfl, h1, h2, h3⟩, k⟩ := h
    refine ⟨_, pss_one (ps_ret (pe_callB call_len_seq (by rfl) B.len b_len (pa_cons (SlX.pe_sl (pv 0)) pa_nil))), ?_⟩
    obtain ⟨rs, hr1, hp⟩ := h3.rows
    have := ev_lenS (K := K) (ev_sl (f := "own_rows") (ev_var (i := 0) (σ := [some (.ref x)]) rfl) h1 h2 TC.sl.cls TC.rows rfl) hr1.sq
    rw [paired_length hp] at this
    exact s_ret this k
def spEqT (K : PySem.W.Frag) : Sp := fun vs H Q _ => ∃ (u v : V) (T U : Tb), vs = [u, v] ∧ TabAt K H u T ∧ TabAt K H v U ∧ ∀ H', Ex H H' → Q (.bl (decide (T = U))) H'
theorem scEqT : FnScope ["self", "other"] ["self", "other"] (defScope (TM 19)) := ⟨rfl, rfl, rfl, by decide +kernel, rfl, by decide +kernel, by decide +kernel⟩
theorem tb_eq (T U : Tb) : T = U ↔ T.tie = U.tie ∧ T.gap = U.gap ∧ T.rows = U.rows ∧ T.sides = U.sides ∧ T.acc = U.acc := by
  refine ⟨fun h => by rw [h]; exact ⟨rfl, rfl, rfl, rfl, rfl⟩, fun h => ?_⟩
  cases T
  cases U
  obtain ⟨h1, h2, h3, h4, h5⟩ := h
  simp only at h1 h2 h3 h4 h5
  rw [h1, h2, h3, h4, h5]
theorem rv_neI {i j : Nat} {H : Hp} : RV rNe (nV i) (nV j) H (.bl (!decide (i = j))) := by
  by_cases h : i = j
  · rw [decide_eq_true h]; exact rv_neN h
  · rw [decide_eq_false h]; exact rv_neN' h
theorem ok_eqT (B : Free mg) (TC : TblC K mg) (F : MtG K "Table" "__eq__" (TM 19)) : PrM P w K mg base 1 (He.ma K (He.ga K "Table") "__eq__") ["self", "other"] (spEqT K) := by
  refine pm_mk F scEqT (fun _ _ _ _ _ _ us hl => match us, hl with | [_, _], _ => rfl) (fun vs H Q E h => ?_) (fun cdv A outer s H vs Q E hr h => ?_)
  · obtain ⟨u, v, T, U, rfl, _⟩ := h
    rfl
  · obtain ⟨u, v, T, U, rfl, ⟨x, dx, r, t, a, rfl, h1, h2, h3⟩, ⟨x', dx', r', t', a', rfl, h1', h2', h3'⟩, k⟩ := h
    have h64 := hr.units
    refine ⟨_, pss_cons (ps_if (PW.pt (pw_or (pt_not (pt_val (pe_callB (SlX.call_isiSl (.ref (He.ga K "Table"))) (by rfl) B.isinstance b_isi (pa_cons (pv 1) (pa_cons (pe_glob (v := .ref (He.ga K "Table")) (by rfl) TC.glo rfl) pa_nil)))))
        (pw_or (pt_cmpR op_ne (SlX.pe_sl (pv 0)) (SlX.pe_sl (pv 1)) (nomark _)) (pw_or1 (pt_cmpR op_ne (SlX.pe_sl (pv 0)) (SlX.pe_sl (pv 1)) (nomark _)))))) (pss_one (ps_ret pe_bl)) pss_nil)
      (pss_cons (ps_if (PW.pt (pw_or (pt_cmpR (op_neD h64) (SlX.pe_sl (pv 0)) (SlX.pe_sl (pv 1)) (nomark _)) (pw_or1 (pt_cmpR (op_neD h64) (SlX.pe_sl (pv 0)) (SlX.pe_sl (pv 1)) (nomark _))))) (pss_one (ps_ret pe_bl)) pss_nil)
      (pss_one (ps_ret (pe_cmpR (op_eqD h64) (SlX.pe_sl (pv 0)) (SlX.pe_sl (pv 1)) (nomark _))))), ?_⟩
    have sl0 : ∀ {H1 : Hp} {f : Str} {p : Addr} {i : Nat} {w : V}, Ex H H1 → SlX.Slot1 K (He.ga K "Table") f p i → ([some a, some (nV T.gap), some r, some t, some (nV T.tie)] : List (Option V))[i]? = some (some w) → Ev (SlX.tSl K (tVar 0) f) [some (.ref x), some (.ref x')] H1 w := fun e sl hw => (ev_sl (ev_var rfl) (e _ _ h1) (e _ _ h2) TC.sl.cls sl hw)
    have sl1 : ∀ {H1 : Hp} {f : Str} {p : Addr} {i : Nat} {w : V}, Ex H H1 → SlX.Slot1 K (He.ga K "Table") f p i → ([some a', some (nV U.gap), some r', some t', some (nV U.tie)] : List (Option V))[i]? = some (some w) → Ev (SlX.tSl K (tVar 1) f) [some (.ref x), some (.ref x')] H1 w := fun e sl hw => (ev_sl (ev_var rfl) (e _ _ h1') (e _ _ h2') TC.sl.cls sl hw)
    refine q_when (b := false || (!decide (T.tie = U.tie) || !decide (T.gap = U.gap))) (et_or (a := false) (et_not (a := true) (et_B (ev_isiS TC.sl (ev_var rfl) h1' h2'))) fun _ => et_or (et_test (ev_op (sl0 (Ex.refl _) TC.tie rfl) (sl1 (Ex.refl _) TC.tie rfl) rv_neI)) fun _ => et_test (ev_op (sl0 (Ex.refl _) TC.gap rfl) (sl1 (Ex.refl _) TC.gap rfl) rv_neI)) (fun hc H1 e1 => ?_) (fun hc H1 e1 => ?_)
    · refine s_ret ev_c fun H2 e2 => ?_
      have : decide (T = U) = false := decide_eq_false fun h => by subst h; simp at hc
      rw [← this]
      exact k H2 (e1.trans e2)
    · rw [Bool.false_or, Bool.or_eq_false_iff, Bool.not_eq_false', Bool.not_eq_false', decide_eq_true_iff, decide_eq_true_iff] at hc
      refine q_when (b := !decide (T.rows = U.rows) || !decide (T.sides = U.sides)) (et_or (et_test (ev_op (sl0 e1 TC.rows rfl) (sl1 e1 TC.rows rfl) ?_)) fun _ => et_test (ev_op (sl0 e1 TC.sides rfl) (sl1 e1 TC.sides rfl) ?_)) (fun hd H2 e2 => ?_) (fun hd H2 e2 => ?_)
      · rw [← eqv_M]
        exact rv_neD (fun H2 e2 => dp_M (h3.mono (e1.trans e2)).rows) (fun H2 e2 => dp_M (h3'.mono (e1.trans e2)).rows) (shp_M _) (shp_M _)
      · rw [← eqv_M]
        exact rv_neD (fun H2 e2 => dp_M (h3.mono (e1.trans e2)).sides) (fun H2 e2 => dp_M (h3'.mono (e1.trans e2)).sides) (shp_M _) (shp_M _)
      · refine s_ret ev_c fun H3 e3 => ?_
        have : decide (T = U) = false := decide_eq_false fun h => by subst h; simp at hd
        rw [← this]
        exact k H3 (e1.trans (e2.trans e3))
      · rw [Bool.or_eq_false_iff, Bool.not_eq_false', Bool.not_eq_false', decide_eq_true_iff, decide_eq_true_iff] at hd
        have e12 := e1.trans e2
        have ev := ev_op (r := rEqD K) (sl0 e12 TC.acc rfl) (sl1 e12 TC.acc rfl) (rv_eqD (fun H3 e3 => dp_L (h3.mono (e12.trans e3)).acc) (fun H3 e3 => dp_L (h3'.mono (e12.trans e3)).acc) (shp_L _) (shp_L _))
        rw [eqv_L] at ev
        have : decide (T.acc = U.acc) = decide (T = U) := decide_eq_decide.mpr ⟨fun h => (tb_eq T U).mpr ⟨hc.1, hc.2, hd.1, hd.2, h⟩, fun h => by rw [h]⟩
        rw [this] at ev
        exact s_ret ev fun H3 e3 => k H3 (e12.trans e3)
end
end K46
set_option Elab.async false
set_option linter.all false
set_option autoImplicit false
set_option maxRecDepth 100000
/-! K46R7: a slot as a target, t == () for any tuple t; buildings in the heap. -/
namespace K46
open PySem PySem.Spec PyProof.Rows L2 Evl
set_option maxHeartbeats 4000000
section
open SlX
variable {X : Cx} {o : Expr} {f : Str} {pos : Pos} {ta : TE}
/-- o.f as a target -/
def gSlT (K : PySem.W.Frag) (ta : TE) (f : Str) : TG := fun y σ H Q => ta σ H fun x H2 => ∃ a C dx p vs i, x = .ref a ∧ Slt H2 a C dx vs ∧ SCls K C ∧ Slot1 K C f p i ∧ Q σ (slH H2 a C dx (putS i y vs))
theorem pg_sl (ha : PE X o ta) : PG X (.Attribute o f pos) (gSlT X.K ta f) := by
  refine ⟨fun pins s σ H y u Q I r h => ?_⟩
  have key : wpAny (model X.prog X.w) X.A (eval o X.env) (fun ov s₂ => wpAny (model X.prog X.w) X.A (setAttr ov f u) (fun _ s' => ∃ σ' H', Inv X pins σ' H' s' ∧ Q σ' H') X.xe s₂) X.xe s := by
    refine thn (ha.run pins s σ H _ I h) fun ov s2 ⟨x, H2, I2, rx, a, C, dx, p, vs, i, ex, hsl, c, t, q2⟩ => ?_
    subst ex
    obtain rfl : ov = Value.ref a := rx
    exact setslot_ok I2 hsl c t r fun s3 I3 => ⟨σ, _, I3, q2⟩
  intro Γ p hΓ
  simp only [assign_Attribute, Sem.wp_bind', Sem.wp_holding, Sem.wp_cmd_standAt, Sem.wp_release, Sem.wp_pure']
  exact Sem.wp_mono _ Γ _ (fun ov _ s₂ h₂ => h₂ Γ _ hΓ) (fun _ _ _ h' => h') _ _ (key Γ _ hΓ)
/-- t == () -/
def rEqNil (K : PySem.W.Frag) : R2 := fun x y H Q => ∃ a b xs, x = .ref a ∧ y = .ref b ∧ SqT K H a xs ∧ SqT K H b [] ∧ Q (.bl xs.isEmpty) H
theorem op_eqNil (hu : X.A.units < cLine) : OpR X (compareOp .Eq) (rEqNil X.K) := by
  intro pins s σ H x y v u Q I rx ry h
  obtain ⟨a, b, xs, rfl, rfl, ha, hb, q⟩ := h
  cases (show v = Value.ref a from rx)
  cases (show u = Value.ref b from ry)
  obtain ⟨us, r1, p1, _⟩ := I.tuple ha
  obtain ⟨ws, r2, p2, _⟩ := I.tuple hb
  cases r2
  refine SeqAt.eq_tupleAt (e := fun _ => true) (show s.heap.IsTuple a us.toArray from p1) (show s.heap.IsTuple b ([] : List Value).toArray from p2) hu (fun j h1 h2 => absurd h2 (by simp)) ⟨.bl xs.isEmpty, H, I, ?_, q⟩
  have hl := r1.length
  show Value.bool _ = Value.bool _
  cases xs with
  | nil =>
    cases us with
    | nil => rfl
    | cons _ _ => simp at hl
  | cons x xs =>
    cases us with
    | nil => simp at hl
    | cons y us => simp
end
/-! ### buildings -/
def Bld.leaves : Bld → Nat
  | .tie => 1
  | .gap => 1
  | .row a b => a.leaves + b.leaves
  | .side a b => a.leaves + b.leaves
theorem Bld.pos : ∀ b : Bld, 1 ≤ b.leaves
  | .tie => Nat.le_refl _
  | .gap => Nat.le_refl _
  | .row a b => by have := a.pos; show 1 ≤ a.leaves + b.leaves; omega
  | .side a b => by have := a.pos; show 1 ≤ a.leaves + b.leaves; omega
/-- an instance of Building -/
def BObj (K : PySem.W.Frag) (H : Hp) (v : V) (word : Str) (p : V) (n : Nat) : Prop := ∃ (x dx : Addr) (lv : V) (mn : Int) (tx : Str) (ls : List V), v = .ref x ∧
  H x = some (SlX.SlO x (He.ga K "Building") dx [some lv, some (.int mn), some p, some (nV n), some (.str tx), some (.str word)]) ∧ H dx = some (.xd []) ∧ tx.length + 5 ≤ 8 * n ∧ TupV H lv ls ∧ ls.length = n
theorem BObj.mono {K : PySem.W.Frag} {H H' : Hp} {v : V} {word : Str} {p : V} {n : Nat} (h : BObj K H v word p n) (e : Ex H H') : BObj K H' v word p n := by
  obtain ⟨x, dx, lv, mn, tx, ls, rfl, h1, h2, h3, h4, h5⟩ := h
  exact ⟨x, dx, lv, mn, tx, ls, rfl, e _ _ h1, e _ _ h2, h3, h4.mono e, h5⟩
def BldAt (K : PySem.W.Frag) (H : Hp) : Bld → V → Prop
  | .tie, v => ∃ p, BObj K H v "tie" p 1 ∧ TupV H p []
  | .gap, v => ∃ p, BObj K H v "gap" p 1 ∧ TupV H p []
  | .row a b, v => ∃ p va vb, BObj K H v "row" p (a.leaves + b.leaves) ∧ TupV H p [va, vb] ∧ BldAt K H a va ∧ BldAt K H b vb
  | .side a b, v => ∃ p va vb, BObj K H v "side" p (a.leaves + b.leaves) ∧ TupV H p [va, vb] ∧ BldAt K H a va ∧ BldAt K H b vb
theorem BldAt.mono {K : PySem.W.Frag} {H H' : Hp} (e : Ex H H') : ∀ {b : Bld} {v : V}, BldAt K H b v → BldAt K H' b v
  | .tie, _, ⟨p, h1, h2⟩ => ⟨p, h1.mono e, h2.mono e⟩
  | .gap, _, ⟨p, h1, h2⟩ => ⟨p, h1.mono e, h2.mono e⟩
  | .row _ _, _, ⟨p, va, vb, h1, h2, h3, h4⟩ => ⟨p, va, vb, h1.mono e, h2.mono e, BldAt.mono e h3, BldAt.mono e h4⟩
  | .side _ _, _, ⟨p, va, vb, h1, h2, h3, h4⟩ => ⟨p, va, vb, h1.mono e, h2.mono e, BldAt.mono e h3, BldAt.mono e h4⟩
def Bld.word : Bld → Str
  | .tie => "tie"
  | .gap => "gap"
  | .row _ _ => "row"
  | .side _ _ => "side"
theorem BldAt.obj {K : PySem.W.Frag} {H : Hp} : ∀ {b : Bld} {v : V}, BldAt K H b v → ∃ p, BObj K H v b.word p b.leaves
  | .tie, _, ⟨p, h1, _⟩ => ⟨p, h1⟩
  | .gap, _, ⟨p, h1, _⟩ => ⟨p, h1⟩
  | .row _ _, _, ⟨p, _, _, h1, _⟩ => ⟨p, h1⟩
  | .side _ _, _, ⟨p, _, _, h1, _⟩ => ⟨p, h1⟩
/-- what the parts of a building to be made are -/
def PreB (K : PySem.W.Frag) (H : Hp) (p : V) : Bld → Prop
  | .tie => TupV H p []
  | .gap => TupV H p []
  | .row a b => ∃ va vb, TupV H p [va, vb] ∧ BldAt K H a va ∧ BldAt K H b vb
  | .side a b => ∃ va vb, TupV H p [va, vb] ∧ BldAt K H a va ∧ BldAt K H b vb
theorem PreB.mono {K : PySem.W.Frag} {H H' : Hp} {p : V} (e : Ex H H') : ∀ {b : Bld}, PreB K H p b → PreB K H' p b
  | .tie, h => TupV.mono h e
  | .gap, h => TupV.mono h e
  | .row _ _, ⟨va, vb, h1, h2, h3⟩ => ⟨va, vb, h1.mono e, h2.mono e, h3.mono e⟩
  | .side _ _, ⟨va, vb, h1, h2, h3⟩ => ⟨va, vb, h1.mono e, h2.mono e, h3.mono e⟩
theorem BldAt.mk {K : PySem.W.Frag} {H : Hp} {v p : V} : ∀ {b : Bld}, BObj K H v b.word p b.leaves → PreB K H p b → BldAt K H b v
  | .tie, h, k => ⟨p, h, k⟩
  | .gap, h, k => ⟨p, h, k⟩
  | .row _ _, h, ⟨va, vb, h1, h2, h3⟩ => ⟨p, va, vb, h, h1, h2, h3⟩
  | .side _ _, h, ⟨va, vb, h1, h2, h3⟩ => ⟨p, va, vb, h, h1, h2, h3⟩
theorem BldAt.pre {K : PySem.W.Frag} {H : Hp} {v : V} : ∀ {b : Bld}, BldAt K H b v → ∃ p, BObj K H v b.word p b.leaves ∧ PreB K H p b
  | .tie, ⟨p, h1, h2⟩ => ⟨p, h1, h2⟩
  | .gap, ⟨p, h1, h2⟩ => ⟨p, h1, h2⟩
  | .row _ _, ⟨p, va, vb, h1, h2, h3, h4⟩ => ⟨p, h1, va, vb, h2, h3, h4⟩
  | .side _ _, ⟨p, va, vb, h1, h2, h3, h4⟩ => ⟨p, h1, va, vb, h2, h3, h4⟩
/-- the module's written dicts -/
structure SgnC (K : PySem.W.Frag) (w : World) (mg : Str → Option Value) : Prop where
  signs : ∃ a, mg "SIGNS" = some (.ref a) ∧ KDct K w a "row" (.str " + ") ∧ KDct K w a "side" (.str " | ")
  lost : ∃ a, mg "LOST" = some (.ref a) ∧ KDct K w a "row" (.int 1) ∧ KDct K w a "side" (.int 2)
end K46
set_option Elab.async false
set_option linter.all false
set_option autoImplicit false
set_option maxRecDepth 100000
namespace K46
open PySem PySem.Spec PyProof.Rows L2 Evl
set_option maxHeartbeats 4000000
/-! ### Building.__init__ -/
def BM (i : Nat) : Stmt := inClass (top 20) i
/-- a new instance while its slots are filled -/
structure NewB (K : PySem.W.Frag) (Hb H : Hp) (C x dx : Addr) (vs : List (Option V)) : Prop where
  ex : Ex Hb H
  nx : Hb x = none
  nd : Hb dx = none
  ne : dx ≠ x
  sl : SlX.Slt H x C dx vs
  hx : ∃ o, H x = some o
  hd : ∃ o, H dx = some o
theorem slt_mono {H H' : Hp} {x C dx : Addr} {vs : List (Option V)} (h : SlX.Slt H x C dx vs) (e : Ex H H') : SlX.Slt H' x C dx vs := by
  rcases h with ⟨h1, h2⟩ | ⟨h1, h2⟩
  · exact .inl ⟨e _ _ h1, h2⟩
  · exact .inr ⟨e _ _ h1, e _ _ h2⟩
theorem NewB.step {K : PySem.W.Frag} {Hb H H1 : Hp} {C x dx : Addr} {vs vs' : List (Option V)} (h : NewB K Hb H C x dx vs) (e : Ex H H1) : NewB K Hb (SlX.slH H1 x C dx vs') C x dx vs' :=
  ⟨slH_ex h.nx h.nd (h.ex.trans e), h.nx, h.nd, h.ne, SlX.slH_slt h.ne, ⟨_, upd_same⟩, ⟨.xd [], by unfold SlX.slH; rw [upd_ne h.ne, upd_same]⟩⟩
section
variable {K : PySem.W.Frag} {σ : L2.St} {H Hb : Hp} {C x dx p : Addr} {i : Nat} {f : Str} {vs : List (Option V)} {D : Ends} {tz : TS} {ta tv : TE} {P : V → Hp → Prop}
theorem s_slP (N : NewB K Hb H C x dx vs) (hv : EvP tv σ H P) (hs : ∀ H1, Ex H H1 → Ev ta σ H1 (.ref x)) (c : SlX.SCls K C) (t : SlX.Slot1 K C f p i) (q : ∀ y H1 H2, Ex H H1 → P y H1 → Ex H1 H2 → D.nx σ (SlX.slH H2 x C dx (SlX.putS i y vs))) : SlX.sSl K ta tv f D σ H :=
  hv H (Ex.refl _) _ fun y H1 e1 py => hs H1 e1 H1 (Ex.refl _) _ fun H2 e2 => ⟨x, C, dx, p, vs, i, rfl, slt_mono N.sl (e1.trans e2), c, t, q y H1 H2 e1 py e2⟩
theorem q_slP (N : NewB K Hb H C x dx vs) (hv : EvP tv σ H P) (hs : ∀ H1, Ex H H1 → Ev ta σ H1 (.ref x)) (c : SlX.SCls K C) (t : SlX.Slot1 K C f p i) (q : ∀ y H1 H2, Ex H H1 → P y H1 → Ex H1 H2 → tz D σ (SlX.slH H2 x C dx (SlX.putS i y vs))) : tSeq (SlX.sSl K ta tv f) tz D σ H :=
  s_slP (D := { D with nx := tz D }) N hv hs c t q
/-- a tuple that stands is not the new instance -/
theorem NewB.tup {H2 : Hp} {v : V} {xs : List V} {vs' : List (Option V)} (N : NewB K Hb H C x dx vs) (h : ∃ q, v = .ref q ∧ H q = none ∧ H2 q = some (.tup xs)) : TupV (SlX.slH H2 x C dx vs') v xs := by
  obtain ⟨q, rfl, h1, h2⟩ := h
  obtain ⟨o, ho⟩ := N.hx
  obtain ⟨o', ho'⟩ := N.hd
  refine ⟨q, rfl, ?_⟩
  rw [SlX.slH_ne (fun e => by rw [e, ho] at h1; cases h1) (fun e => by rw [e, ho'] at h1; cases h1)]
  exact h2
end
theorem ep_tup {σ : L2.St} {H : Hp} {ta : TA} {P : List V → Hp → Prop} {n : Nat} (h : EvAP ta σ H P) (hl : ∀ vs H1, P vs H1 → vs.length = n) (hn : n ≤ 100000) : EvP (tTup ta) σ H (fun v H' => ∃ q vs H1, v = .ref q ∧ Ex H H1 ∧ P vs H1 ∧ H1 q = none ∧ Ex H1 H' ∧ H' q = some (.tup vs)) := fun H1 e Q q =>
  h H1 e _ fun vs H2 e2 p => ⟨sz_of (by rw [hl vs H2 p]; exact hn), fun a ha => q _ _ (e2.trans (Ex.new ha)) ⟨a, vs, H2, rfl, e.trans e2, p, ha, Ex.new ha, upd_same⟩⟩
theorem g_slT {K : PySem.W.Frag} {σ : L2.St} {H : Hp} {C x dx p : Addr} {i : Nat} {f : Str} {vs : List (Option V)} {ta : TE} {y : V} {Qs : L2.St → Hp → Prop} (hs : Ev ta σ H (.ref x)) (h : SlX.Slt H x C dx vs) (c : SlX.SCls K C) (t : SlX.Slot1 K C f p i) (q : ∀ H1, Ex H H1 → Qs σ (SlX.slH H1 x C dx (SlX.putS i y vs))) : gSlT K ta f y σ H Qs :=
  hs H (Ex.refl _) _ fun H1 e1 => ⟨x, C, dx, p, vs, i, rfl, slt_mono h e1, c, t, q H1 e1⟩
theorem g_cons {σ : L2.St} {H : Hp} {g : TG} {gs : TGs} {v : V} {rest : List V} {Qs : L2.St → Hp → Prop} (h : g v σ H fun σ2 H2 => gs rest σ2 H2 Qs) : gCons g gs (v :: rest) σ H Qs := ⟨v, rest, rfl, h⟩
theorem g_nil {σ : L2.St} {H : Hp} {Qs : L2.St → Hp → Prop} (h : Qs σ H) : gNil [] σ H Qs := ⟨rfl, h⟩
/-- a tuple apart from the new instance -/
def Tp (x dx : Addr) (H : Hp) (v : V) (xs : List V) : Prop := ∃ q, v = .ref q ∧ q ≠ x ∧ q ≠ dx ∧ H q = some (.tup xs)
theorem Tp.ex {x dx : Addr} {H H1 : Hp} {v : V} {xs : List V} (h : Tp x dx H v xs) (e : Ex H H1) : Tp x dx H1 v xs := by
  obtain ⟨q, h1, h2, h3, h4⟩ := h
  exact ⟨q, h1, h2, h3, e _ _ h4⟩
theorem Tp.slH {x dx C : Addr} {H : Hp} {v : V} {xs : List V} {vs : List (Option V)} (h : Tp x dx H v xs) : Tp x dx (SlX.slH H x C dx vs) v xs := by
  obtain ⟨q, h1, h2, h3, h4⟩ := h
  exact ⟨q, h1, h2, h3, by rw [SlX.slH_ne h2 h3]; exact h4⟩
theorem Tp.tup {x dx : Addr} {H : Hp} {v : V} {xs : List V} (h : Tp x dx H v xs) : TupV H v xs := by
  obtain ⟨q, h1, _, _, h4⟩ := h
  exact ⟨q, h1, h4⟩
theorem NewB.tp {K : PySem.W.Frag} {Hb H H2 : Hp} {C x dx q : Addr} {vs : List (Option V)} {xs : List V} (N : NewB K Hb H C x dx vs) (hn : H q = none) (h : H2 q = some (.tup xs)) : Tp x dx H2 (.ref q) xs := by
  obtain ⟨o, ho⟩ := N.hx
  obtain ⟨o', ho'⟩ := N.hd
  refine ⟨q, rfl, ?_, ?_, h⟩
  · intro e
    rw [e, ho] at hn
    cases hn
  · intro e
    rw [e, ho'] at hn
    cases hn
theorem slH_ext {K : PySem.W.Frag} {Hb H H1 : Hp} {C x dx : Addr} {vs vs' : List (Option V)} (N : NewB K Hb H C x dx vs) (e : Ex H H1) : NewB K Hb (SlX.slH H1 x C dx vs') C x dx vs' := N.step e
theorem js_fmt {σ : L2.St} {H : Hp} {te : TE} {ts : List TE} {acc tx : Str} {Q : Str → Hp → Prop} (h : Ev te σ H (.str tx)) (hl : tx.length ≤ sizeLine) (hz : (acc ++ tx).length ≤ sizeLine) (k : ∀ H1, Ex H H1 → tJs ts (acc ++ tx) σ H1 Q) : tJs (tFmt te :: ts) acc σ H Q :=
  h H (Ex.refl _) (fun x H1 => (∃ y : Str, x = .str y ∧ y.length ≤ sizeLine ∧ ∃ z : Str, V.str y = .str z ∧ (acc ++ z).length ≤ sizeLine ∧ tJs ts (acc ++ z) σ H1 Q) ∨ ∃ i : Int, x = .int i ∧ i.natAbs.log2 < 1920 ∧ ∃ z : Str, V.str (toString i) = .str z ∧ (acc ++ z).length ≤ sizeLine ∧ tJs ts (acc ++ z) σ H1 Q) fun H1 e1 => .inl ⟨tx, rfl, hl, tx, rfl, hz, k H1 e1⟩
theorem sta_cons {K : PySem.W.Frag} {σ : L2.St} {H : Hp} {te : TE} {t : TA} {v : V} {xs : List V} {Q : List V → Hp → Prop} (h : Ev te σ H v) (hv : TupV H v xs) (k : ∀ H1, Ex H H1 → t σ H1 fun ys H2 => Q (xs ++ ys) H2) : StX.tStar K te t σ H Q := by
  obtain ⟨q, rfl, hq⟩ := hv
  exact h H (Ex.refl _) _ fun H1 e1 => ⟨q, xs, rfl, .inl (SqT.of (e1 _ _ hq)), k H1 e1⟩
theorem t_tup {σ : L2.St} {H : Hp} {ta : TA} {Q : VK} (h : ta σ H fun vs H1 => vs.length ≤ sizeLine ∧ ∀ p, H1 p = none → Q (.ref p) (upd H1 p (.tup vs))) : tTup ta σ H Q := h
section
variable (w y t l s m : V)
theorem put5 : SlX.putS 5 w [] = [none, none, none, none, none, some w] := rfl
theorem put2 : SlX.putS 2 y [none, none, none, none, none, some w] = [none, none, some y, none, none, some w] := rfl
theorem put4 : SlX.putS 4 t [none, none, some y, none, none, some w] = [none, none, some y, none, some t, some w] := rfl
theorem put0 : SlX.putS 0 l [none, none, some y, none, some t, some w] = [some l, none, some y, none, some t, some w] := rfl
theorem put3 : SlX.putS 3 s [some l, none, some y, none, some t, some w] = [some l, none, some y, some s, some t, some w] := rfl
theorem put1 : SlX.putS 1 m [some l, none, some y, some s, some t, some w] = [some l, some m, some y, some s, some t, some w] := rfl
end
section
variable {P : Program} {w : World} {K : PySem.W.Frag} {mg : Str → Option Value} {base : Heap} {g : Addr}
def spBInit (K : PySem.W.Frag) : Sp := fun vs H Q _ => ∃ (Hb : Hp) (x dx : Addr) (b : Bld) (p : V), vs = [.ref x, .str b.word, p] ∧ NewB K Hb H (He.ga K "Building") x dx [] ∧ PreB K Hb p b ∧ b.leaves ≤ 60 ∧ ∀ H', Ex Hb H' → BldAt K H' b (.ref x) → Q .non H'
theorem scBInit : FnScope ["self", "word", "parts", "one", "other"] ["self", "word", "parts"] (defScope (BM 1)) := ⟨rfl, rfl, rfl, by decide +kernel, rfl, by decide +kernel, by decide +kernel⟩
theorem ok_binit (BC : BldC K mg) (SG : SgnC K w mg) (F : MtG K "Building" "__init__" (BM 1)) : PrM P w K mg base 1 (He.ma K (He.ga K "Building") "__init__") ["self", "word", "parts"] (spBInit K) := by
  refine pm_mk F scBInit (fun _ _ _ _ _ _ us hl => match us, hl with | [_, _, _], _ => rfl) (fun vs H Q E h => ?_) (fun cdv A outer s H vs Q E hr h => ?_)
  · obtain ⟨Hb, x, dx, b, p, rfl, _⟩ := h
    rfl
  · obtain ⟨Hb, x, dx, b, p, rfl, N, pre, hb, k⟩ := h
    obtain ⟨aS, hS, hS1, hS2⟩ := SG.signs
    obtain ⟨aL, hL, hL1, hL2⟩ := SG.lost
    have h64 := hr.units
    refine ⟨_, pss_cons (SlX.ps_sl (pv 0) (pv 1)) (pss_cons (SlX.ps_sl (pv 0) (pv 2)) (pss_one (ps_if (pt_cmpR (op_eqNil (Nat.lt_of_le_of_lt (Nat.le_add_right _ 64) h64)) (pv 2) (pe_tup pa_nil) (nomark _))
      (pss_one (ps_asg (pe_tup (pa_cons (pv 1) (pa_cons (pe_tup (pa_cons (pv 1) pa_nil)) (pa_cons pe_int (pa_cons pe_int pa_nil))))) (pg_tup rfl (pgs_cons (pg_sl (pv 0)) (pgs_cons (pg_sl (pv 0)) (pgs_cons (pg_sl (pv 0)) (pgs_cons (pg_sl (pv 0)) pgs_nil)))))))
      (pss_cons (ps_asg (pv 2) (pg_tup rfl (pgs_cons (pg_name (i := 3) scBInit.nd rfl (Or.inl rfl)) (pgs_cons (pg_name (i := 4) scBInit.nd rfl (Or.inl rfl)) pgs_nil))))
      (pss_cons (SlX.ps_sl (pv 0) (pe_joined (PJ.cons pe_str (PJ.cons (pe_fmt (SlX.pe_sl (pv 3))) (PJ.cons (pe_fmt (pe_ix ix_kdict (pe_glob (v := .ref aS) (by rfl) hS rfl) (pv 1) (fun _ _ => rfl))) (PJ.cons (pe_fmt (SlX.pe_sl (pv 4))) (PJ.cons pe_str PJ.nil)))))))
      (pss_cons (SlX.ps_sl (pv 0) (pe_tup (StX.pa_star (SlX.pe_sl (pv 3)) (StX.pa_star (SlX.pe_sl (pv 4)) pa_nil))))
      (pss_cons (SlX.ps_sl (pv 0) (pe_op op_add (SlX.pe_sl (pv 3)) (SlX.pe_sl (pv 4))))
      (pss_one (SlX.ps_sl (pv 0) (pe_op op_sub (pe_op op_add (SlX.pe_sl (pv 3)) (SlX.pe_sl (pv 4))) (pe_ix ix_kdict (pe_glob (v := .ref aL) (by rfl) hL rfl) (pv 1) (fun _ _ => rfl)))))))))))), ?_⟩
    refine q_slP (P := fun v _ => v = .str b.word) N (ep_ev (ev_var rfl)) (fun H1 e => ev_var rfl) BC.sl.cls BC.word fun y H1 H2 e1 hy e2 => ?_
    subst hy
    rw [put5]
    have N1 := N.step (vs' := [none, none, none, none, none, some (.str b.word)]) (e1.trans e2)
    refine q_slP (P := fun v _ => v = p) N1 (ep_ev (ev_var rfl)) (fun H1 e => ev_var rfl) BC.sl.cls BC.parts fun y H3 H4 e3 hy e4 => ?_
    subst hy
    rw [put2]
    have N2 := N1.step (vs' := [none, none, some y, none, none, some (.str b.word)]) (e3.trans e4)
    generalize hH4 : SlX.slH H4 x (He.ga K "Building") dx [none, none, some y, none, none, some (.str b.word)] = H5 at N2
    have fin : ∀ (H' : Hp) (lv : V) (mn : Int) (tx : Str) (ls : List V), Ex Hb H' → H' x = some (SlX.SlO x (He.ga K "Building") dx [some lv, some (.int mn), some y, some (nV b.leaves), some (.str tx), some (.str b.word)]) → H' dx = some (.xd []) → tx.length + 5 ≤ 8 * b.leaves → TupV H' lv ls → ls.length = b.leaves → Q .non H' :=
      fun H' lv mn tx ls e h1 h2 h3 h4 h5 => k H' e (.mk ⟨x, dx, lv, mn, tx, ls, rfl, h1, h2, h3, h4, h5⟩ (pre.mono e))
    have tst : ∀ {xs : List V}, TupV Hb y xs → EvT (tTest (tOp (rEqNil K) (tVar 2) (tTup tNil))) [some (.ref x), some (.str b.word), some y, none, none] H5 xs.isEmpty := fun {xs} h => by
      obtain ⟨q, rfl, hq⟩ := h
      exact et_test (ev_opU (ev_var rfl) (eu_tup ea_nil (by show 0 ≤ 100000; decide)) fun q2 H6 h6 e6 => fun H7 e7 Q7 q7 => ⟨q, q2, xs, rfl, rfl, SqT.of (e7 _ _ (e6 _ _ (N2.ex _ _ hq))), SqT.of (e7 _ _ h6), q7 H7 (Ex.refl _)⟩)
    -- a leaf
    have leaf : TupV Hb y [] → b.leaves = 1 → b.word.length = 3 → ∀ H6, Ex H5 H6 → tAsg (tTup (tCons (tVar 1) (tCons (tTup (tCons (tVar 1) tNil)) (tCons (tC (.int 1)) (tCons (tC (.int 2)) tNil))))) (gTup K 4 (gCons (gSlT K (tVar 0) "own_text") (gCons (gSlT K (tVar 0) "own_leaves") (gCons (gSlT K (tVar 0) "own_size") (gCons (gSlT K (tVar 0) "own_many") gNil)))))
        { nx := fun _ H' => Q .non H', rt := Q } [some (.ref x), some (.str b.word), some y, none, none] H6 := fun hy h1 h3 H6 e6 => by
      have val := ep_tup (n := 4) (P := fun vs H' => ∃ l, vs = [.str b.word, .ref l, .int 1, .int 2] ∧ H6 l = none ∧ H' l = some (.tup [.str b.word])) (ta := tCons (tVar 1) (tCons (tTup (tCons (tVar 1) tNil)) (tCons (tC (.int 1)) (tCons (tC (.int 2)) tNil)))) (σ := [some (.ref x), some (.str b.word), some y, none, none]) (H := H6)
        (eap_consE (ev_var rfl) (eap_cons (ep_eu (eu_tup (ea_cons (ev_var rfl) ea_nil) (by show 1 ≤ 100000; decide))) fun v H7 e7 ⟨l, hv, hl, h7⟩ => eap_consE ev_c (eap_consE ev_c fun H8 e8 Q8 q8 => q8 [] H8 (Ex.refl _) ⟨l, by rw [hv], hl, e8 _ _ h7⟩))) (fun vs H1 ⟨l, hv, _⟩ => by rw [hv]; rfl) (by decide)
      refine val H6 (Ex.refl _) _ fun v H7 e7 ⟨q, vs, H8, hv, e8, ⟨l, hvs, hl, h8⟩, hq, e87, h7⟩ => ?_
      subst hv
      subst hvs
      have e57 := e6.trans e7
      refine ⟨q, _, rfl, SqT.of h7, rfl, ?_⟩
      refine g_cons (g_slT (ev_var rfl) (slt_mono N2.sl e57) BC.sl.cls BC.text fun H9 e9 => ?_)
      rw [put4]
      have N3 := N2.step (vs' := [none, none, some y, none, some (.str b.word), some (.str b.word)]) (e57.trans e9)
      refine g_cons (g_slT (ev_var rfl) N3.sl BC.sl.cls BC.leaves fun H10 e10 => ?_)
      rw [put0]
      have N4 := N3.step (vs' := [some (.ref l), none, some y, none, some (.str b.word), some (.str b.word)]) e10
      refine g_cons (g_slT (ev_var rfl) N4.sl BC.sl.cls BC.size fun H11 e11 => ?_)
      rw [put3]
      have N5 := N4.step (vs' := [some (.ref l), none, some y, some (.int 1), some (.str b.word), some (.str b.word)]) e11
      refine g_cons (g_slT (ev_var rfl) N5.sl BC.sl.cls BC.many fun H12 e12 => g_nil ?_)
      rw [put1]
      have tp := (((((((N2.tp (fresh_back e6 hl) (e87 _ _ h8)).ex e9).slH (C := He.ga K "Building") (vs := [none, none, some y, none, some (.str b.word), some (.str b.word)])).ex e10).slH (C := He.ga K "Building") (vs := [some (.ref l), none, some y, none, some (.str b.word), some (.str b.word)])).ex e11).slH (C := He.ga K "Building") (vs := [some (.ref l), none, some y, some (.int 1), some (.str b.word), some (.str b.word)])).ex e12
      have n1 : (V.int 1) = nV b.leaves := by rw [h1]; rfl
      rw [n1]
      exact fin _ (.ref l) 2 b.word [.str b.word] (slH_ex N5.nx N5.nd (N5.ex.trans e12)) upd_same (by unfold SlX.slH; rw [upd_ne N2.ne, upd_same]) (by omega) tp.slH.tup (by rw [h1]; rfl)
    -- a join
    have join : ∀ (c d : Bld) (va vb : V) (sg : Str) (ls : Int), TupV Hb y [va, vb] → BldAt K Hb c va → BldAt K Hb d vb → b.leaves = c.leaves + d.leaves → KDct K w aS b.word (.str sg) → sg.length = 3 → KDct K w aL b.word (.int ls) → ∀ H6, Ex H5 H6 → ∀ D : Ends, D.nx = (fun _ H' => Q .non H') →
        tSeq (tAsg (tVar 2) (gTup K 2 (gCons (gName 3) (gCons (gName 4) gNil)))) (tSeq (SlX.sSl K (tVar 0) (fun σ H Q => tJs [tC (.str "("), tFmt (SlX.tSl K (tVar 3) "own_text"), tFmt (tOp (rIxD K w) (tC (.ref aS)) (tVar 1)), tFmt (SlX.tSl K (tVar 4) "own_text"), tC (.str ")")] Str.empty σ H fun out H1 => Q (.str out) H1) "own_text")
          (tSeq (SlX.sSl K (tVar 0) (tTup (StX.tStar K (SlX.tSl K (tVar 3) "own_leaves") (StX.tStar K (SlX.tSl K (tVar 4) "own_leaves") tNil))) "own_leaves")
          (tSeq (SlX.sSl K (tVar 0) (tOp (rI0 fun i j => .int (i + j)) (SlX.tSl K (tVar 3) "own_size") (SlX.tSl K (tVar 4) "own_size")) "own_size")
            (SlX.sSl K (tVar 0) (tOp (rI0 fun i j => .int (i - j)) (tOp (rI0 fun i j => .int (i + j)) (SlX.tSl K (tVar 3) "own_many") (SlX.tSl K (tVar 4) "own_many")) (tOp (rIxD K w) (tC (.ref aL)) (tVar 1))) "own_many"))))
          D [some (.ref x), some (.str b.word), some y, none, none] H6 := fun c d va vb sg ls hy hc hd hbl hsg hsl hls H6 e6 D hD => by
      obtain ⟨pc, xc, dc, lc, mc, tc, lsc, rfl, c1, c2, c3, c4, c5⟩ := hc.obj
      obtain ⟨pd', xd, dd, l_d, md', td, lsd, rfl, d1, d2, d3, d4, d5⟩ := hd.obj
      have cpos := c.pos
      have dpos := d.pos
      have ebx : Ex Hb H6 := N2.ex.trans e6
      have slc : ∀ {H' : Hp} {f : Str} {q : Addr} {i : Nat} {u : V}, Ex Hb H' → SlX.Slot1 K (He.ga K "Building") f q i → ([some lc, some (.int mc), some pc, some (nV c.leaves), some (.str tc), some (.str c.word)] : List (Option V))[i]? = some (some u) → Ev (SlX.tSl K (tVar 3) f) [some (.ref x), some (.str b.word), some y, some (.ref xc), some (.ref xd)] H' u := fun e sl hu => ev_sl (ev_var rfl) (e _ _ c1) (e _ _ c2) BC.sl.cls sl hu
      have sld : ∀ {H' : Hp} {f : Str} {q : Addr} {i : Nat} {u : V}, Ex Hb H' → SlX.Slot1 K (He.ga K "Building") f q i → ([some l_d, some (.int md'), some pd', some (nV d.leaves), some (.str td), some (.str d.word)] : List (Option V))[i]? = some (some u) → Ev (SlX.tSl K (tVar 4) f) [some (.ref x), some (.str b.word), some y, some (.ref xc), some (.ref xd)] H' u := fun e sl hu => ev_sl (ev_var rfl) (e _ _ d1) (e _ _ d2) BC.sl.cls sl hu
      have kd1 : ∀ {H' : Hp} {aa : Addr} {u : V}, KDct K w aa b.word u → Ev (tOp (rIxD K w) (tC (.ref aa)) (tVar 1)) [some (.ref x), some (.str b.word), some y, some (.ref xc), some (.ref xd)] H' u := fun h => ev_op ev_c (ev_var rfl) fun H7 e7 Q7 q7 => ⟨_, _, _, rfl, rfl, h, q7 H7 (Ex.refl _)⟩
      refine q_asgV (ev_var rfl) fun H7 e7 => g_tup (hy.mono (ebx.trans e7)) rfl (g_cons (g_cons (g_nil ?_)))
      have e57 := e6.trans e7
      have N2' : NewB K Hb H7 (He.ga K "Building") x dx [none, none, some y, none, none, some (.str b.word)] := ⟨N2.ex.trans e57, N2.nx, N2.nd, N2.ne, slt_mono N2.sl e57, N2.hx.imp fun o ho => e57 _ _ ho, N2.hd.imp fun o ho => e57 _ _ ho⟩
      have lbig : ∀ n : Nat, n ≤ 100000 → n ≤ sizeLine := fun n hn => sz_of hn
      -- the text
      refine q_slP (P := fun v _ => ∃ out : Str, v = .str out ∧ out.length = tc.length + td.length + 5) N2' (fun H8 e8 Q8 q8 => ?_) (fun H1 e => ev_var rfl) BC.sl.cls BC.text fun v H8 H9 e8 hv e9 => ?_
      · have eb8 := N2'.ex.trans e8
        have lE : Str.empty.length = 0 := rfl
        have lo : (Str.ofString "(").length = 1 := by decide +kernel
        have lc' : (Str.ofString ")").length = 1 := by decide +kernel
        refine ⟨"(", rfl, lbig _ (by rw [Str.length_append, lE, lo]; decide), ?_⟩
        refine js_fmt (slc eb8 BC.text rfl) (lbig _ (by omega)) (lbig _ (by rw [Str.length_append, Str.length_append, lE, lo]; omega)) fun H9 e9 => ?_
        refine js_fmt (kd1 hsg) (lbig _ (by omega)) (lbig _ (by rw [Str.length_append, Str.length_append, Str.length_append, lE, lo]; omega)) fun H10 e10 => ?_
        refine js_fmt (sld (eb8.trans (e9.trans e10)) BC.text rfl) (lbig _ (by omega)) (lbig _ (by rw [Str.length_append, Str.length_append, Str.length_append, Str.length_append, lE, lo]; omega)) fun H11 e11 => ?_
        refine ⟨")", rfl, lbig _ (by rw [Str.length_append, Str.length_append, Str.length_append, Str.length_append, Str.length_append, lE, lo, lc']; omega), ?_⟩
        exact q8 _ H11 (e9.trans (e10.trans e11)) ⟨_, rfl, by rw [Str.length_append, Str.length_append, Str.length_append, Str.length_append, Str.length_append, lE, lo, lc']; omega⟩
      obtain ⟨out, rfl, hout⟩ := hv
      rw [put4]
      have N3 := N2'.step (vs' := [none, none, some y, none, some (.str out), some (.str b.word)]) (e8.trans e9)
      -- the leaves
      refine q_slP (P := fun v H' => ∃ q, v = .ref q ∧ (SlX.slH H9 x (He.ga K "Building") dx [none, none, some y, none, some (.str out), some (.str b.word)]) q = none ∧ H' q = some (.tup (lsc ++ (lsd ++ [])))) N3 (fun H10 e10 Q10 q10 => ?_) (fun H1 e => ev_var rfl) BC.sl.cls BC.leaves fun v H10 H11 e10 hv e11 => ?_
      · have eb10 := N3.ex.trans e10
        refine t_tup (sta_cons (slc eb10 BC.leaves rfl) (c4.mono eb10) fun H11 e11 => sta_cons (sld (eb10.trans e11) BC.leaves rfl) (d4.mono (eb10.trans e11)) fun H12 e12 => ⟨lbig _ (by rw [List.length_append, List.length_append, List.length_nil]; omega), fun q hq => ?_⟩)
        exact q10 _ _ ((e11.trans e12).trans (Ex.new hq)) ⟨q, rfl, fresh_back (e10.trans (e11.trans e12)) hq, upd_same⟩
      obtain ⟨ql, rfl, hql, h10⟩ := hv
      rw [put0]
      have tp := (N3.tp (H2 := H11) hql (e11 _ _ h10)).slH (C := He.ga K "Building") (vs := [some (.ref ql), none, some y, none, some (.str out), some (.str b.word)])
      have N4 := N3.step (vs' := [some (.ref ql), none, some y, none, some (.str out), some (.str b.word)]) (e10.trans e11)
      refine q_slP (P := fun v _ => v = nV b.leaves) N4 (ep_ev ?_) (fun H1 e => ev_var rfl) BC.sl.cls BC.size fun v H12 H13 e12 hv e13 => ?_
      · have := ev_op (slc N4.ex BC.size rfl) (sld N4.ex BC.size rfl) (rv_I0 (g := fun i j => .int (i + j)))
        have ee : ((c.leaves : Int) + (d.leaves : Int)) = ((b.leaves : Nat) : Int) := by omega
        rw [ee] at this
        exact this
      subst hv
      rw [put3]
      have tp2 := (tp.ex (e12.trans e13)).slH (C := He.ga K "Building") (vs := [some (.ref ql), none, some y, some (nV b.leaves), some (.str out), some (.str b.word)])
      have N5 := N4.step (vs' := [some (.ref ql), none, some y, some (nV b.leaves), some (.str out), some (.str b.word)]) (e12.trans e13)
      refine s_slP (P := fun v _ => v = .int (mc + md' - ls)) N5 (ep_ev (ev_op (ev_op (slc N5.ex BC.many rfl) (sld N5.ex BC.many rfl) (rv_I0 (g := fun i j => .int (i + j)))) (kd1 hls) (rv_I0 (g := fun i j => .int (i - j))))) (fun H1 e => ev_var rfl) BC.sl.cls BC.many fun v H14 H15 e14 hv e15 => ?_
      subst hv
      rw [put1, hD]
      have tp3 := tp2.ex (e14.trans e15)
      exact fin _ (.ref ql) (mc + md' - ls) out (lsc ++ (lsd ++ [])) (slH_ex N5.nx N5.nd (N5.ex.trans (e14.trans e15))) upd_same (by unfold SlX.slH; rw [upd_ne N2.ne, upd_same]) (by omega) tp3.slH.tup (by rw [List.length_append, List.length_append, List.length_nil]; omega)
    have s3 : (Str.ofString " + ").length = 3 := by decide +kernel
    have s3' : (Str.ofString " | ").length = 3 := by decide +kernel
    have t3 : (Str.ofString "tie").length = 3 := by decide +kernel
    have g3 : (Str.ofString "gap").length = 3 := by decide +kernel
    cases b with
    | tie => exact s_if (b := true) (tst pre) (fun _ H6 e6 => leaf pre rfl t3 H6 e6) (fun z => by cases z)
    | gap => exact s_if (b := true) (tst pre) (fun _ H6 e6 => leaf pre rfl g3 H6 e6) (fun z => by cases z)
    | row c d =>
      obtain ⟨va, vb, h1, h2, h3⟩ := pre
      exact s_if (b := false) (tst h1) (fun z => by cases z) (fun _ H6 e6 => join c d va vb " + " 1 h1 h2 h3 rfl hS1 s3 hL1 H6 e6 _ rfl)
    | side c d =>
      obtain ⟨va, vb, h1, h2, h3⟩ := pre
      exact s_if (b := false) (tst h1) (fun z => by cases z) (fun _ H6 e6 => join c d va vb " | " 2 h1 h2 h3 rfl hS2 s3' hL2 H6 e6 _ rfl)
end
end K46
set_option Elab.async false
set_option linter.all false
set_option autoImplicit false
set_option maxRecDepth 100000
namespace K46
open PySem PySem.Spec PyProof.Rows L2 Evl
set_option maxHeartbeats 4000000
section
variable {P : Program} {w : World} {K : PySem.W.Frag} {mg : Str → Option Value} {base : Heap} {g : Addr}
theorem newB_mk {H1 : Hp} {C x dx : Addr} (nx : H1 x = none) (nd : H1 dx = none) (ne : dx ≠ x) : NewB K H1 (upd (upd H1 dx (.own x)) x (.ins C dx [])) C x dx [] :=
  ⟨fun a o h => by rw [upd_ne (ne_of_none h nx), upd_ne (ne_of_none h nd)]; exact h, nx, nd, ne, .inl ⟨upd_same, rfl⟩, ⟨_, upd_same⟩, ⟨.own x, by rw [upd_ne ne, upd_same]⟩⟩
/-- Building(word, parts) -/
theorem ep_bmake {σ : L2.St} {H : Hp} {t : TA} {b : Bld} {P : List V → Hp → Prop} (h : EvAP t σ H P) (hP : ∀ vs H1, Ex H H1 → P vs H1 → ∃ p, vs = [.str b.word, p] ∧ PreB K H1 p b) (hl : b.leaves ≤ 60) :
    EvP (tMake (He.ga K "Building") (spBInit K) [] E0 t) σ H (fun v H' => BldAt K H' b v) := fun H1 e Q q => by
  refine h H1 e _ fun vs H2 e2 p2 x dx nx nd ne => ?_
  obtain ⟨p, rfl, pre⟩ := hP vs H2 (e.trans e2) p2
  exact ⟨H2, x, dx, b, p, rfl, newB_mk nx nd ne, pre, hl, fun H' e' hb => ⟨rfl, q _ _ (e2.trans e') hb⟩⟩
theorem ep_bmakeV {σ : L2.St} {H : Hp} {t : TA} {tn : TE} {b : Bld} {P : List V → Hp → Prop} (hn : Ev tn σ H (.ref (He.ga K "Building"))) (h : EvAP t σ H P) (hP : ∀ vs H1, Ex H H1 → P vs H1 → ∃ p, vs = [.str b.word, p] ∧ PreB K H1 p b) (hl : b.leaves ≤ 60) :
    EvP (tMakeV (He.ga K "Building") (spBInit K) tn t) σ H (fun v H' => BldAt K H' b v) := fun H1 e Q q => by
  refine hn H1 e _ fun H0 e0 => ⟨rfl, h H0 (e.trans e0) _ fun vs H2 e2 p2 x dx nx nd ne => ?_⟩
  obtain ⟨p, rfl, pre⟩ := hP vs H2 ((e.trans e0).trans e2) p2
  exact ⟨H2, x, dx, b, p, rfl, newB_mk nx nd ne, pre, hl, fun H' e' hb => ⟨rfl, q _ _ ((e0.trans e2).trans e') hb⟩⟩
def spLeafC (K : PySem.W.Frag) (b : Bld) : Sp := fun vs H Q _ => vs = [.ref (He.ga K "Building")] ∧ ∀ u H', Ex H H' → BldAt K H' b u → Q u H'
theorem scTieC : FnScope ["cls"] ["cls"] (defScope (BM 2)) := ⟨rfl, rfl, rfl, by decide +kernel, rfl, by decide +kernel, by decide +kernel⟩
theorem ok_tieC (BC : BldC K mg) (Cn : Consts mg) (F : ∃ fd, FunD K "tie" "Building.tie" (defArgs (BM 2)) (defBody (BM 2)) (defScope (BM 2)) [] [] g fd) (Fi : PrM P w K mg base 1 (He.ma K (He.ga K "Building") "__init__") ["self", "word", "parts"] (spBInit K)) :
    PrM P w K mg base 3 g ["cls"] (spLeafC K .tie) := by
  refine pm_mk F scTieC (fun _ _ _ _ _ _ us hl => match us, hl with | [_], _ => rfl) (fun vs H Q E h => ?_) (fun cdv A outer s H vs Q E hr h => ?_)
  · obtain ⟨rfl, _⟩ := h
    rfl
  · obtain ⟨rfl, k⟩ := h
    refine ⟨_, pss_one (ps_ret (pe_mkV BC.sl.mkr Fi hr (pv 0) (pa_cons (pe_gs Cn.tie) (pa_cons (pe_tup pa_nil) pa_nil)))), ?_⟩
    refine s_retP (ep_bmakeV (b := .tie) (P := fun vs H' => ∃ p, vs = [.str "tie", p] ∧ TupV H' p []) (ev_var rfl) (eap_consE ev_c (eap_cons (ep_eu (eu_tup ea_nil (by show 0 ≤ 100000; decide))) fun v H1 e1 ⟨p, hv, _, hp⟩ => fun H2 e2 Q2 q2 => q2 [] H2 (Ex.refl _) ⟨v, rfl, p, hv, e2 _ _ hp⟩)) (fun vs H1 e1 h => h) (by show 1 ≤ 60; decide)) fun v H1 e1 h => k v H1 e1 h
theorem scGapC : FnScope ["cls"] ["cls"] (defScope (BM 3)) := ⟨rfl, rfl, rfl, by decide +kernel, rfl, by decide +kernel, by decide +kernel⟩
theorem ok_gapC (BC : BldC K mg) (Cn : Consts mg) (F : ∃ fd, FunD K "gap" "Building.gap" (defArgs (BM 3)) (defBody (BM 3)) (defScope (BM 3)) [] [] g fd) (Fi : PrM P w K mg base 1 (He.ma K (He.ga K "Building") "__init__") ["self", "word", "parts"] (spBInit K)) :
    PrM P w K mg base 3 g ["cls"] (spLeafC K .gap) := by
  refine pm_mk F scGapC (fun _ _ _ _ _ _ us hl => match us, hl with | [_], _ => rfl) (fun vs H Q E h => ?_) (fun cdv A outer s H vs Q E hr h => ?_)
  · obtain ⟨rfl, _⟩ := h
    rfl
  · obtain ⟨rfl, k⟩ := h
    refine ⟨_, pss_one (ps_ret (pe_mkV BC.sl.mkr Fi hr (pv 0) (pa_cons (pe_gs Cn.gap) (pa_cons (pe_tup pa_nil) pa_nil)))), ?_⟩
    refine s_retP (ep_bmakeV (b := .gap) (P := fun vs H' => ∃ p, vs = [.str "gap", p] ∧ TupV H' p []) (ev_var rfl) (eap_consE ev_c (eap_cons (ep_eu (eu_tup ea_nil (by show 0 ≤ 100000; decide))) fun v H1 e1 ⟨p, hv, _, hp⟩ => fun H2 e2 Q2 q2 => q2 [] H2 (Ex.refl _) ⟨v, rfl, p, hv, e2 _ _ hp⟩)) (fun vs H1 e1 h => h) (by show 1 ≤ 60; decide)) fun v H1 e1 h => k v H1 e1 h
/-! ### parts -/
def spPartsP (K : PySem.W.Frag) : Sp := fun vs H Q _ => ∃ (v : V) (b : Bld), vs = [v] ∧ BldAt K H b v ∧ ∀ p H', Ex H H' → PreB K H' p b → Q p H'
theorem scPartsP : FnScope ["self"] ["self"] (defScope (BM 5)) := ⟨rfl, rfl, rfl, by decide +kernel, rfl, by decide +kernel, by decide +kernel⟩
theorem ok_partsP (BC : BldC K mg) (F : ∃ fd, FunD K "parts" "Building.parts" (defArgs (BM 5)) (defBody (BM 5)) (defScope (BM 5)) [] [] g fd) : PrM P w K mg base 1 g ["self"] (spPartsP K) := by
  refine pm_mk F scPartsP (fun _ _ _ _ _ _ us hl => match us, hl with | [_], _ => rfl) (fun vs H Q E h => ?_) (fun cdv A outer s H vs Q E hr h => ?_)
  · obtain ⟨v, b, rfl, _⟩ := h
    rfl
  · obtain ⟨v, b, rfl, hb, k⟩ := h
    obtain ⟨p, ⟨x, dx, lv, mn, tx, ls, rfl, h1, h2, _⟩, pre⟩ := hb.pre
    exact ⟨_, pss_one (ps_ret (SlX.pe_sl (pv 0))), s_ret (ev_sl (ev_var rfl) h1 h2 BC.sl.cls BC.parts rfl) fun H1 e1 => k p H1 e1 (pre.mono e1)⟩
/-! ### require_leaves, require_building, joined_building -/
abbrev sReqL : Stmt := top 19
def spReqL : Sp := fun vs H Q _ => ∃ n : Nat, vs = [nV n] ∧ n ≤ 60 ∧ ∀ H', Ex H H' → Q .non H'
theorem scReqL : FnScope ["many"] ["many"] (defScope sReqL) := ⟨rfl, rfl, rfl, by decide +kernel, rfl, by decide +kernel, by decide +kernel⟩
theorem ok_reqL (Cn : Consts mg) (F : FnG K "require_leaves" sReqL) (hm : mg "require_leaves" = some (.ref (He.ga K "require_leaves"))) : Pr P w K mg base 1 "require_leaves" ["many"] spReqL := by
  refine pr_mk F hm scReqL (fun _ _ _ _ _ _ us hl => match us, hl with | [_], _ => rfl) (fun vs H Q E h => ?_) (fun f cdv A outer s H vs Q E hr h => ?_)
  · obtain ⟨n, rfl, _⟩ := h
    rfl
  · obtain ⟨n, rfl, hn, k⟩ := h
    refine ⟨_, pss_one (ps_if (pt_cmpR op_gt (pv 0) (pe_gi Cn.leaves) (nomark _)) pss_never pss_nil), ?_⟩
    have e1 : decide ((60 : Int) < (n : Int)) = false := decide_eq_false (by omega)
    refine s_when (b := false) (et_test (ev_op (ev_var rfl) ev_c ?_)) (fun z => by cases z) (fun _ H1 e1 => k H1 e1)
    rw [← e1]
    exact rv_I0
abbrev sReqB : Stmt := top 21
def spReqB (K : PySem.W.Frag) : Sp := fun vs H Q _ => ∃ (v : V) (b : Bld), vs = [v] ∧ BldAt K H b v ∧ ∀ H', Ex H H' → Q .non H'
theorem scReqB : FnScope ["value"] ["value"] (defScope sReqB) := ⟨rfl, rfl, rfl, by decide +kernel, rfl, by decide +kernel, by decide +kernel⟩
theorem ev_isB {σ : L2.St} {H : Hp} {ta : TE} {v : V} {b : Bld} (BC : BldC K mg) (ha : Ev ta σ H v) (hb : BldAt K H b v) : Ev (tCB (SlX.rIsiSl K (.ref (He.ga K "Building"))) (tCons ta (tCons (tC (.ref (He.ga K "Building"))) tNil))) σ H (.bl true) := by
  obtain ⟨p, x, dx, lv, mn, tx, ls, rfl, h1, h2, _⟩ := hb.obj
  exact ev_isiS BC.sl ha h1 h2
theorem ok_reqB (B : Free mg) (BC : BldC K mg) (F : FnG K "require_building" sReqB) (hm : mg "require_building" = some (.ref (He.ga K "require_building"))) : Pr P w K mg base 1 "require_building" ["value"] (spReqB K) := by
  refine pr_mk F hm scReqB (fun _ _ _ _ _ _ us hl => match us, hl with | [_], _ => rfl) (fun vs H Q E h => ?_) (fun f cdv A outer s H vs Q E hr h => ?_)
  · obtain ⟨v, b, rfl, _⟩ := h
    rfl
  · obtain ⟨v, b, rfl, hb, k⟩ := h
    refine ⟨_, pss_one (ps_if (pt_not (pt_val (pe_callB (SlX.call_isiSl (.ref (He.ga K "Building"))) (by rfl) B.isinstance b_isi (pa_cons (pv 0) (pa_cons (pe_glob (v := .ref (He.ga K "Building")) (by rfl) BC.glo rfl) pa_nil))))) pss_never pss_nil), ?_⟩
    exact s_when (b := false) (et_not (a := true) (et_B (ev_isB BC (ev_var rfl) hb))) (fun z => by cases z) (fun _ H1 e1 => k H1 e1)
abbrev sJoin : Stmt := top 22
def spJoin (K : PySem.W.Frag) : Sp := fun vs H Q _ => ∃ (u v : V) (r : Bool) (a b : Bld), vs = [.str (jn r a b).word, u, v] ∧ BldAt K H a u ∧ BldAt K H b v ∧ a.leaves + b.leaves ≤ 60 ∧ ∀ x H', Ex H H' → BldAt K H' (jn r a b) x → Q x H'
theorem scJoin : FnScope ["word", "one", "other"] ["word", "one", "other"] (defScope sJoin) := ⟨rfl, rfl, rfl, by decide +kernel, rfl, by decide +kernel, by decide +kernel⟩
theorem jn_leaves (r : Bool) (a b : Bld) : (jn r a b).leaves = a.leaves + b.leaves := by cases r <;> rfl
theorem jn_pre {H : Hp} {p : V} (r : Bool) (a b : Bld) (h : ∃ va vb, TupV H p [va, vb] ∧ BldAt K H a va ∧ BldAt K H b vb) : PreB K H p (jn r a b) := by cases r <;> exact h
theorem ok_join (B : Free mg) (BC : BldC K mg) (F : FnG K "joined_building" sJoin) (hm : mg "joined_building" = some (.ref (He.ga K "joined_building"))) (Fl : Pr P w K mg base 1 "require_leaves" ["many"] spReqL)
    (Fi : PrM P w K mg base 1 (He.ma K (He.ga K "Building") "__init__") ["self", "word", "parts"] (spBInit K)) : Pr P w K mg base 3 "joined_building" ["word", "one", "other"] (spJoin K) := by
  refine pr_mk F hm scJoin (fun _ _ _ _ _ _ us hl => match us, hl with | [_, _, _], _ => rfl) (fun vs H Q E h => ?_) (fun f cdv A outer s H vs Q E hr h => ?_)
  · obtain ⟨u, v, r, a, b, rfl, _⟩ := h
    rfl
  · obtain ⟨u, v, r, a, b, rfl, ha, hb, hl, k⟩ := h
    refine ⟨_, pss_cons (ps_if (pt_not (pt_val (pe_callB (SlX.call_isiSl (.ref (He.ga K "Building"))) (by rfl) B.isinstance b_isi (pa_cons (pv 2) (pa_cons (pe_glob (v := .ref (He.ga K "Building")) (by rfl) BC.glo rfl) pa_nil))))) pss_never pss_nil)
      (pss_cons (ps_expr (pe_g Fl (hr.mono (show 1 ≤ 2 by decide)) (pa_cons (pe_op op_add (SlX.pe_sl (pv 1)) (SlX.pe_sl (pv 2))) pa_nil)))
      (pss_one (ps_ret (pe_mk BC.sl.mkr Fi hr BC.glo (pa_cons (pv 0) (pa_cons (pe_tup (pa_cons (pv 1) (pa_cons (pv 2) pa_nil))) pa_nil)))))), ?_⟩
    refine q_when (b := false) (et_not (a := true) (et_B (ev_isB BC (ev_var rfl) hb))) (fun z => by cases z) (fun _ H1 e1 => ?_)
    obtain ⟨p, x, dx, lv, mn, tx, ls, rfl, a1, a2, _⟩ := ha.obj
    obtain ⟨p', x', dx', lv', mn', tx', ls', rfl, b1, b2, _⟩ := hb.obj
    have sz := ev_op (ev_sl (f := "own_size") (ev_var (i := 1) (σ := [some (.str (jn r a b).word), some (.ref x), some (.ref x')]) rfl) (e1 _ _ a1) (e1 _ _ a2) BC.sl.cls BC.size rfl) (ev_sl (f := "own_size") (ev_var (i := 2) rfl) (e1 _ _ b1) (e1 _ _ b2) BC.sl.cls BC.size rfl) (rv_I0 (g := fun i j => .int (i + j)))
    have ee : ((a.leaves : Int) + (b.leaves : Int)) = ((a.leaves + b.leaves : Nat) : Int) := by omega
    rw [ee] at sz
    refine q_drop (P := fun _ _ => True) (ep_call (ea_cons sz ea_nil) fun H2 e2 Q' q' => ⟨a.leaves + b.leaves, rfl, hl, fun H3 e3 => q' _ H3 e3 trivial⟩) fun _ H2 e2 _ => ?_
    have e12 := e1.trans e2
    refine s_retP (ep_bmake (b := jn r a b) (P := fun vs H' => ∃ p, vs = [.str (jn r a b).word, p] ∧ PreB K H' p (jn r a b)) (eap_consE (ev_var rfl) (eap_cons (ep_eu (eu_tup (ea_cons (ev_var rfl) (ea_cons (ev_var rfl) ea_nil)) (by show 2 ≤ 100000; decide))) fun v H3 e3 ⟨p, hv, _, hp⟩ => fun H4 e4 Q4 q4 => q4 [] H4 (Ex.refl _) ⟨v, rfl, jn_pre r a b ⟨_, _, ⟨p, hv, e4 _ _ hp⟩, ha.mono ((e12.trans e3).trans e4), hb.mono ((e12.trans e3).trans e4)⟩⟩))
      (fun vs H3 e3 h => h) (by rw [jn_leaves]; exact hl)) fun v H3 e3 h => k v H3 (e12.trans e3) h
/-! ### +, | -/
def spBin (K : PySem.W.Frag) (r : Bool) : Sp := fun vs H Q _ => ∃ (u v : V) (a b : Bld), vs = [u, v] ∧ BldAt K H a u ∧ BldAt K H b v ∧ a.leaves + b.leaves ≤ 60 ∧ ∀ x H', Ex H H' → BldAt K H' (jn r a b) x → Q x H'
theorem scAdd : FnScope ["self", "other"] ["self", "other"] (defScope (BM 14)) := ⟨rfl, rfl, rfl, by decide +kernel, rfl, by decide +kernel, by decide +kernel⟩
theorem ok_add (Cn : Consts mg) (F : MtG K "Building" "__add__" (BM 14)) (Fj : Pr P w K mg base 3 "joined_building" ["word", "one", "other"] (spJoin K)) : PrM P w K mg base 4 (He.ma K (He.ga K "Building") "__add__") ["self", "other"] (spBin K true) := by
  refine pm_mk F scAdd (fun _ _ _ _ _ _ us hl => match us, hl with | [_, _], _ => rfl) (fun vs H Q E h => ?_) (fun cdv A outer s H vs Q E hr h => ?_)
  · obtain ⟨u, v, a, b, rfl, _⟩ := h
    rfl
  · obtain ⟨u, v, a, b, rfl, ha, hb, hl, k⟩ := h
    refine ⟨_, pss_one (ps_ret (pe_g Fj hr (pa_cons (pe_gs Cn.row) (pa_cons (pv 0) (pa_cons (pv 1) pa_nil))))), ?_⟩
    exact s_retP (P := fun x H' => BldAt K H' (.row a b) x) (ep_call (ea_cons ev_c (ea_cons (ev_var rfl) (ea_cons (ev_var rfl) ea_nil))) fun H1 e1 Q' q' => ⟨u, v, true, a, b, rfl, ha.mono e1, hb.mono e1, hl, fun x H2 e2 hx => q' x H2 e2 hx⟩) fun x H1 e1 hx => k x H1 e1 hx
theorem scOr : FnScope ["self", "other"] ["self", "other"] (defScope (BM 15)) := ⟨rfl, rfl, rfl, by decide +kernel, rfl, by decide +kernel, by decide +kernel⟩
theorem ok_or (Cn : Consts mg) (F : MtG K "Building" "__or__" (BM 15)) (Fj : Pr P w K mg base 3 "joined_building" ["word", "one", "other"] (spJoin K)) : PrM P w K mg base 4 (He.ma K (He.ga K "Building") "__or__") ["self", "other"] (spBin K false) := by
  refine pm_mk F scOr (fun _ _ _ _ _ _ us hl => match us, hl with | [_, _], _ => rfl) (fun vs H Q E h => ?_) (fun cdv A outer s H vs Q E hr h => ?_)
  · obtain ⟨u, v, a, b, rfl, _⟩ := h
    rfl
  · obtain ⟨u, v, a, b, rfl, ha, hb, hl, k⟩ := h
    refine ⟨_, pss_one (ps_ret (pe_g Fj hr (pa_cons (pe_gs Cn.side) (pa_cons (pv 0) (pa_cons (pv 1) pa_nil))))), ?_⟩
    exact s_retP (P := fun x H' => BldAt K H' (.side a b) x) (ep_call (ea_cons ev_c (ea_cons (ev_var rfl) (ea_cons (ev_var rfl) ea_nil))) fun H1 e1 Q' q' => ⟨u, v, false, a, b, rfl, ha.mono e1, hb.mono e1, hl, fun x H2 e2 hx => q' x H2 e2 hx⟩) fun x H1 e1 hx => k x H1 e1 hx
end
end K46
set_option Elab.async false
set_option linter.all false
set_option autoImplicit false
set_option maxRecDepth 100000
namespace K46
open PySem PySem.Spec PyProof.Rows L2 Evl
set_option maxHeartbeats 4000000
section
variable {K : PySem.W.Frag} {σ : L2.St} {H : Hp} {ta tb : TE} {x C dx : Addr} {vs : List (Option V)} {sp : Sp} {R : V → Hp → Prop}
theorem ep_prop (ha : Ev ta σ H (.ref x)) (hS : SlX.Slt H x C dx vs) (hs : SpP sp [.ref x] H R) : EvP (SlX.tPropSl C sp E0 ta) σ H R := fun H1 e Q q =>
  ha H1 e _ fun H2 e2 => ⟨x, dx, vs, rfl, slt_mono hS (e.trans e2), hs H2 (e.trans e2) Q fun v H3 e3 p => q v H3 (e2.trans e3) p⟩
def Bld.isLeaf : Bld → Bool
  | .tie => true
  | .gap => true
  | _ => false
theorem PreB.seq {p : V} : ∀ {b : Bld}, PreB K H p b → ∃ xs, TupV H p xs ∧ xs.isEmpty = b.isLeaf
  | .tie, h => ⟨[], h, rfl⟩
  | .gap, h => ⟨[], h, rfl⟩
  | .row _ _, ⟨va, vb, h, _⟩ => ⟨[va, vb], h, rfl⟩
  | .side _ _, ⟨va, vb, h, _⟩ => ⟨[va, vb], h, rfl⟩
theorem et_nil {b : Bld} (h : EvP ta σ H (fun p H' => PreB K H' p b)) : EvT (tTest (tOp (rEqNil K) ta (tTup tNil))) σ H b.isLeaf := fun H1 e Q q =>
  h H1 e _ fun p H2 e2 hp => by
    obtain ⟨xs, ⟨a, rfl, ha⟩, hxs⟩ := hp.seq
    refine ⟨Nat.zero_le _, fun p2 hp2 => ⟨a, p2, xs, rfl, rfl, SqT.of (by rw [upd_ne (ne_of_none ha hp2)]; exact ha), SqT.of upd_same, b.isLeaf, by rw [hxs], q _ (e2.trans (Ex.new hp2))⟩⟩
end
section
variable {P : Program} {w : World} {K : PySem.W.Frag} {mg : Str → Option Value} {base : Heap} {gp pp : Addr}
abbrev sSt : Stmt := top 53
def spSt (K : PySem.W.Frag) (n : Nat) : Sp := fun vs H Q _ => ∃ (u v : V) (T : Tb) (b : Bld), vs = [u, v] ∧ TabAt K H u T ∧ T.Ok ∧ BldAt K H b v ∧ b.leaves ≤ n ∧ ∀ H', Ex H H' → Q (nV (st T b)) H'
theorem scSt : FnScope ["table", "building", "one", "other", "lines"] ["table", "building"] (defScope sSt) := ⟨rfl, rfl, rfl, by decide +kernel, rfl, by decide +kernel, by decide +kernel⟩
theorem rv_eqS {a b : Str} {H : Hp} : RV rEq (.str a) (.str b) H (.bl (decide (V.str a = V.str b))) := rv_eq rfl
theorem st_lt {T : Tb} (ok : T.Ok) (b : Bld) : st T b < T.n := Rch.lt ok ⟨b, rfl⟩
theorem ok_st (BC : BldC K mg) (TC : TblC K mg) (Cn : Consts mg) (GP : PropG K (He.ga K "Building") "parts" pp gp) (Fp : PrM P w K mg base 1 gp ["self"] (spPartsP K)) (F : FnG K "state_in" sSt) (hm : mg "state_in" = some (.ref (He.ga K "state_in"))) :
    ∀ n, Pr P w K mg base (3 + n) "state_in" ["table", "building"] (spSt K n)
  | 0 => by
    refine pr_mk (k := 2) F hm scSt (fun _ _ _ _ _ _ us hl => match us, hl with | [_, _], _ => rfl) (fun vs H Q E h => ?_) (fun f cdv A outer s H vs Q E hr h => ?_)
    · obtain ⟨u, v, T, b, rfl, _⟩ := h
      rfl
    · obtain ⟨u, v, T, b, rfl, _, _, _, h0, _⟩ := h
      have := b.pos
      omega
  | n + 1 => by
    have Fs := ok_st BC TC Cn GP Fp F hm n
    refine pr_mk (k := 3 + n) F hm scSt (fun _ _ _ _ _ _ us hl => match us, hl with | [_, _], _ => rfl) (fun vs H Q E h => ?_) (fun f cdv A outer s H vs Q E hr h => ?_)
    · obtain ⟨u, v, T, b, rfl, _⟩ := h
      rfl
    · obtain ⟨u, v, T, b, rfl, ht, ok, hb, hn, k⟩ := h
      have h64 := hr.units
      have hr2 := hr.mono (show 2 ≤ 3 + n by omega)
      refine ⟨_, pss_cons (ps_if (pt_cmpR (op_eqNil (Nat.lt_of_le_of_lt (Nat.le_add_right _ 64) h64)) (pe_prop (pv 1) BC.sl GP Fp.raw hr2) (pe_tup pa_nil) (nomark _))
          (pss_one (ps_ret (pe_ifExp (pt_cmpR op_eq (SlX.pe_sl (pv 1)) (pe_gs Cn.tie) (nomark _)) (SlX.pe_sl (pv 0)) (SlX.pe_sl (pv 0))))) pss_nil)
        (pss_cons (ps_asg (pe_prop (pv 1) BC.sl GP Fp.raw hr2) (pg_tup rfl (pgs_cons (pg_name (i := 2) scSt.nd rfl (Or.inl rfl)) (pgs_cons (pg_name (i := 3) scSt.nd rfl (Or.inl rfl)) pgs_nil))))
        (pss_cons (ps_set (i := 4) scSt.nd rfl (Or.inl rfl) (pe_ifExp (pt_cmpR op_eq (SlX.pe_sl (pv 1)) (pe_gs Cn.row) (nomark _)) (SlX.pe_sl (pv 0)) (SlX.pe_sl (pv 0))))
        (pss_one (ps_ret (pe_ix ix_seq (pe_ix ix_seq (pv 4) (pe_g Fs hr (pa_cons (pv 0) (pa_cons (pv 2) pa_nil))) (fun _ _ => rfl)) (pe_g Fs hr (pa_cons (pv 0) (pa_cons (pv 3) pa_nil))) (fun _ _ => rfl)))))), ?_⟩
      obtain ⟨p0, x, dx, lv, mn, tx, ls, rfl, b1, b2, _⟩ := hb.obj
      obtain ⟨tx', tdx, r, t, a, rfl, t1, t2, t3⟩ := ht
      have hTab : TabAt K H (.ref tx') T := ⟨tx', tdx, r, t, a, rfl, t1, t2, t3⟩
      have pr : ∀ {σ : L2.St} {H1 : Hp}, σ[1]? = some (some (.ref x)) → Ex H H1 → EvP (SlX.tPropSl (He.ga K "Building") (spPartsP K) E0 (tVar 1)) σ H1 (fun p H' => PreB K H' p b) := fun {σ H1} s1 e => ep_prop (ev_var s1) (.inr ⟨e _ _ b1, e _ _ b2⟩) fun H2 e2 Q' q' => ⟨.ref x, b, rfl, hb.mono (e.trans e2), q'⟩
      have wd : ∀ {σ : L2.St} {H1 : Hp}, σ[1]? = some (some (.ref x)) → Ex H H1 → Ev (SlX.tSl K (tVar 1) "word") σ H1 (.str b.word) := fun s1 e => ev_sl (ev_var s1) (e _ _ b1) (e _ _ b2) BC.sl.cls BC.word rfl
      have tsl : ∀ {σ : L2.St} {H1 : Hp} {f : Str} {q : Addr} {i : Nat} {z : V}, σ[0]? = some (some (.ref tx')) → Ex H H1 → SlX.Slot1 K (He.ga K "Table") f q i → ([some a, some (nV T.gap), some r, some t, some (nV T.tie)] : List (Option V))[i]? = some (some z) → Ev (SlX.tSl K (tVar 0) f) σ H1 z := fun s0 e sl hz => ev_sl (ev_var s0) (e _ _ t1) (e _ _ t2) TC.sl.cls sl hz
      have weq : ∀ {σ : L2.St} {H1 : Hp} {c : Str} {d : Bool}, σ[1]? = some (some (.ref x)) → Ex H H1 → decide (V.str b.word = V.str c) = d → EvT (tTest (tOp rEq (SlX.tSl K (tVar 1) "word") (tC (.str c)))) σ H1 d := fun s1 e hd => et_test (by rw [← hd]; exact ev_op (wd s1 e) ev_c rv_eqS)
      -- a join
      have join : ∀ (c d : Bld) (r0 : Bool), b = jn r0 c d → b.isLeaf = false → decide (V.str b.word = V.str "row") = r0 → ∀ (D : Ends), D.rt = Q → ∀ H1, Ex H H1 → tSeq (tAsg (SlX.tPropSl (He.ga K "Building") (spPartsP K) E0 (tVar 1)) (gTup K 2 (gCons (gName 2) (gCons (gName 3) gNil))))
          (tSeq (tAsg (tIf (tTest (tOp rEq (SlX.tSl K (tVar 1) "word") (tC (.str "row")))) (SlX.tSl K (tVar 0) "own_rows") (SlX.tSl K (tVar 0) "own_sides")) (gName 4))
            (tRet (tOp (rIx K) (tOp (rIx K) (tVar 4) (tCall (spSt K n) [] E0 (tCons (tVar 0) (tCons (tVar 2) tNil)))) (tCall (spSt K n) [] E0 (tCons (tVar 0) (tCons (tVar 3) tNil)))))) D [some (.ref tx'), some (.ref x), none, none, none] H1 := fun c d r0 hbj hlf hr0 D hD H1 e1 => by
        refine pr rfl e1 H1 (Ex.refl _) _ fun p H2 e2 hp => ?_
        have e12 := e1.trans e2
        rw [hbj] at hp
        obtain ⟨va, vb, hpt, hc, hd⟩ : ∃ va vb, TupV H2 p [va, vb] ∧ BldAt K H2 c va ∧ BldAt K H2 d vb := by cases r0 <;> exact hp
        refine g_tup hpt rfl (g_cons (g_cons (g_nil ?_)))
        have hl : c.leaves + d.leaves ≤ n + 1 := by rw [hbj, jn_leaves] at hn; exact hn
        have cp := c.pos
        have dp := d.pos
        have call : ∀ {σ : L2.St} {H3 : Hp} {i : Nat} {z : V} {f : Bld}, σ[0]? = some (some (.ref tx')) → σ[i]? = some (some z) → Ex H2 H3 → BldAt K H3 f z → f.leaves ≤ n → Ev (tCall (spSt K n) [] E0 (tCons (tVar 0) (tCons (tVar i) tNil))) σ H3 (nV (st T f)) := fun {σ H3 i z f} s0 si e hf hfl => ev_call (ea_cons (ev_var s0) (ea_cons (ev_var si) ea_nil)) fun H4 e4 Q' q' _ => ⟨.ref tx', z, T, f, rfl, hTab.mono (e12.trans (e.trans e4)), ok, hf.mono e4, hfl, q'⟩
        have res : st T b = op T r0 (st T c) (st T d) := by rw [hbj, st_jn]
        cases r0 with
        | true =>
          refine q_asg (v := r) (ev_if (b := true) (weq rfl e12 hr0) (fun _ => tsl rfl e12 TC.rows rfl) (fun z => by cases z)) fun H3 e3 => ?_
          have ev := ev_cell (K := K) (H := H3) (ev_var (i := 4) rfl) (call (i := 2) (σ := [some (.ref tx'), some (.ref x), some va, some vb, some r]) rfl rfl e3 (hc.mono e3) (by omega)) (call (i := 3) rfl rfl e3 (hd.mono e3) (by omega)) ((t3.mono (e12.trans e3)).rows.mat) ok.rows (st_lt ok c) (st_lt ok d)
          exact s_ret ev fun H4 e4 => by rw [hD]; have := k H4 (e12.trans (e3.trans e4)); rw [res] at this; exact this
        | false =>
          refine q_asg (v := t) (ev_if (b := false) (weq rfl e12 hr0) (fun z => by cases z) (fun _ => tsl rfl e12 TC.sides rfl)) fun H3 e3 => ?_
          have ev := ev_cell (K := K) (H := H3) (ev_var (i := 4) rfl) (call (i := 2) (σ := [some (.ref tx'), some (.ref x), some va, some vb, some t]) rfl rfl e3 (hc.mono e3) (by omega)) (call (i := 3) rfl rfl e3 (hd.mono e3) (by omega)) ((t3.mono (e12.trans e3)).sides.mat) ok.sides (st_lt ok c) (st_lt ok d)
          exact s_ret ev fun H4 e4 => by rw [hD]; have := k H4 (e12.trans (e3.trans e4)); rw [res] at this; exact this
      cases b with
      | tie => exact q_when (b := true) (et_nil (pr rfl (Ex.refl _))) (fun _ H1 e1 => s_ret (v := nV T.tie) (ev_if (b := true) (weq rfl e1 (by decide +kernel)) (fun _ => tsl rfl e1 TC.tie rfl) (fun z => by cases z)) fun H2 e2 => k H2 (e1.trans e2)) (fun z => by cases z)
      | gap => exact q_when (b := true) (et_nil (pr rfl (Ex.refl _))) (fun _ H1 e1 => s_ret (v := nV T.gap) (ev_if (b := false) (weq rfl e1 (by decide +kernel)) (fun z => by cases z) (fun _ => tsl rfl e1 TC.gap rfl)) fun H2 e2 => k H2 (e1.trans e2)) (fun z => by cases z)
      | row c d => exact q_when (b := false) (et_nil (pr rfl (Ex.refl _))) (fun z => by cases z) (fun _ H1 e1 => join c d true rfl rfl (show decide (V.str "row" = V.str "row") = true by decide +kernel) _ rfl H1 e1)
      | side c d => exact q_when (b := false) (et_nil (pr rfl (Ex.refl _))) (fun z => by cases z) (fun _ H1 e1 => join c d false rfl rfl (show decide (V.str "side" = V.str "row") = false by decide +kernel) _ rfl H1 e1)
/-! ### accepts -/
def spAccepts (K : PySem.W.Frag) : Sp := fun vs H Q _ => ∃ (u v : V) (T : Tb) (b : Bld), vs = [u, v] ∧ TabAt K H u T ∧ T.Ok ∧ BldAt K H b v ∧ b.leaves ≤ 20 ∧ ∀ H', Ex H H' → Q (.bl (decide (st T b ∈ T.acc))) H'
theorem scAccepts : FnScope ["self", "building"] ["self", "building"] (defScope (TM 12)) := ⟨rfl, rfl, rfl, by decide +kernel, rfl, by decide +kernel, by decide +kernel⟩
theorem ok_accepts (TC : TblC K mg) (F : MtG K "Table" "accepts" (TM 12)) (Fb : Pr P w K mg base 1 "require_building" ["value"] (spReqB K)) (Fs : Pr P w K mg base 23 "state_in" ["table", "building"] (spSt K 20)) :
    PrM P w K mg base 24 (He.ma K (He.ga K "Table") "accepts") ["self", "building"] (spAccepts K) := by
  refine pm_mk F scAccepts (fun _ _ _ _ _ _ us hl => match us, hl with | [_, _], _ => rfl) (fun vs H Q E h => ?_) (fun cdv A outer s H vs Q E hr h => ?_)
  · obtain ⟨u, v, T, b, rfl, _⟩ := h
    rfl
  · obtain ⟨u, v, T, b, rfl, ht, ok, hb, hl, k⟩ := h
    refine ⟨_, pss_cons (ps_expr (pe_g Fb (hr.mono (show 1 ≤ 23 by decide)) (pa_cons (pv 1) pa_nil))) (pss_one (ps_ret (pe_cmpR op_in_seq (pe_g Fs hr (pa_cons (pv 0) (pa_cons (pv 1) pa_nil))) (SlX.pe_sl (pv 0)) (by rfl)))), ?_⟩
    refine q_drop (P := fun _ _ => True) (ep_call (ea_cons (ev_var rfl) ea_nil) fun H1 e1 Q' q' => ⟨v, b, rfl, hb.mono e1, fun H2 e2 => q' _ H2 e2 trivial⟩) fun _ H1 e1 _ => ?_
    have hTab := ht
    obtain ⟨x, dx, r, t, a, rfl, h1, h2, h3⟩ := ht
    exact s_ret (ev_op (ev_call (ea_cons (ev_var rfl) (ea_cons (ev_var rfl) ea_nil)) fun H2 e2 Q' q' _ => ⟨.ref x, v, T, b, rfl, hTab.mono (e1.trans e2), ok, hb.mono (e1.trans e2), hl, q'⟩) (ev_sl (ev_var rfl) (e1 _ _ h1) (e1 _ _ h2) TC.sl.cls TC.acc rfl) (rv_inN (TupV.sq (h3.mono e1).acc))) fun H2 e2 => k H2 (e1.trans e2)
end
end K46
set_option Elab.async false
set_option linter.all false
set_option autoImplicit false
set_option maxRecDepth 100000
namespace K46
open PySem PySem.Spec PyProof.Rows L2 Evl
set_option maxHeartbeats 4000000
/-! ### the law's plain tables -/
abbrev kx (s : Str) : Key := Sum.inr s
def plKV (T : Tb) (r s a : V) : List (Key × V) := [(kx "tie", nV T.tie), (kx "gap", nV T.gap), (kx "rows", r), (kx "sides", s), (kx "accepted", a)]
theorem pl_tie (T : Tb) (r s a : V) : valV (plKV T r s a) (kx "tie") = some (nV T.tie) := by kernel_rfl
theorem pl_gap (T : Tb) (r s a : V) : valV (plKV T r s a) (kx "gap") = some (nV T.gap) := by kernel_rfl
theorem pl_rows (T : Tb) (r s a : V) : valV (plKV T r s a) (kx "rows") = some r := by kernel_rfl
theorem pl_sides (T : Tb) (r s a : V) : valV (plKV T r s a) (kx "sides") = some s := by kernel_rfl
theorem pl_acc (T : Tb) (r s a : V) : valV (plKV T r s a) (kx "accepted") = some a := by kernel_rfl
/-- a list of tuples of numbers -/
def LstM (H : Hp) (v : V) (m : List (List Nat)) : Prop := ∃ p rs, v = .ref p ∧ H p = some (.lst rs) ∧ Paired (TupN H) rs m
theorem LstM.mono {H H' : Hp} {v : V} {m : List (List Nat)} (h : LstM H v m) (e : Ex H H') : LstM H' v m := by
  obtain ⟨p, rs, rfl, h1, h2⟩ := h
  exact ⟨p, rs, rfl, e _ _ h1, paired_mono (fun _ _ q => TupV.mono q e) h2⟩
theorem LstM.mat {K : PySem.W.Frag} {H : Hp} {v : V} {m : List (List Nat)} (h : LstM H v m) : Mat K H v m := by
  obtain ⟨p, rs, rfl, h1, h2⟩ := h
  exact ⟨rs, Sq.l h1, paired_mono (fun _ _ q => TupV.sq q) h2⟩
/-- a table of the law, plain -/
structure PlainAt (H : Hp) (v : V) (T : Tb) (r s a : V) (d : Addr) : Prop where
  v_ : v = .ref d
  d_ : H d = some (.dK (plKV T r s a))
  rows : LstM H r T.rows
  sides : LstM H s T.sides
  acc : TupN H a T.acc
theorem PlainAt.mono {H H' : Hp} {v : V} {T : Tb} {r s a : V} {d : Addr} (h : PlainAt H v T r s a d) (e : Ex H H') : PlainAt H' v T r s a d := ⟨h.v_, e _ _ h.d_, h.rows.mono e, h.sides.mono e, TupV.mono h.acc e⟩
def Plain (H : Hp) (v : V) (T : Tb) : Prop := ∃ r s a d, PlainAt H v T r s a d
theorem Plain.mono {H H' : Hp} {v : V} {T : Tb} (h : Plain H v T) (e : Ex H H') : Plain H' v T := by
  obtain ⟨r, s, a, d, h⟩ := h
  exact ⟨r, s, a, d, h.mono e⟩
section
variable {K : PySem.W.Frag} {σ : L2.St} {H : Hp} {ta tb tc : TE} {v r s a : V} {T : Tb} {d : Addr}
/-- plain['..'] -/
theorem ev_pl {k : Str} {x : V} (ht : Ev ta σ H v) (h : PlainAt H v T r s a d) (hk : valV (plKV T r s a) (kx k) = some x) : Ev (tDGet ta (tC (.str k))) σ H x := by
  refine ev_dget (d := d) (by rw [← h.v_]; exact ht) ev_c fun H1 e => ?_
  have := DGet.k (k := kx k) (e _ _ h.d_)
  rw [hk] at this
  exact this
/-- tuple(list of tuples) -/
theorem ep_tupM {m : List (List Nat)} (h : ∀ H1, Ex H H1 → ∃ x, Ev ta σ H1 x ∧ LstM H1 x m) : EvP (tCB (rTup K) (tCons ta tNil)) σ H (fun u H' => MatT H' u m) := fun H1 e Q q => by
  obtain ⟨x, hx, p, rs, rfl, h1, h2⟩ := h H1 e
  refine hx H1 (Ex.refl _) _ fun H2 e2 => ⟨p, rs, rfl, .inl ⟨sq_of (e2 _ _ h1), fun l hl => q _ _ (e2.trans (Ex.new hl)) ⟨rs, ⟨l, rfl, upd_same⟩, paired_mono (fun _ _ q => TupV.mono q (e2.trans (Ex.new hl))) h2⟩⟩⟩
end
section
variable {P : Program} {w : World} {K : PySem.W.Frag} {mg : Str → Option Value} {base : Heap}
abbrev sMade : Stmt := top 65
def spMade (K : PySem.W.Frag) : Sp := fun vs H Q _ => ∃ (v : V) (T : Tb), vs = [v] ∧ Plain H v T ∧ T.Ok ∧ T.n ≤ 400 ∧ ∀ u H', Ex H H' → TabAt K H' u T → Q u H'
theorem scMade : FnScope ["_law_plain"] ["_law_plain"] (defScope sMade) := ⟨rfl, rfl, rfl, by decide +kernel, rfl, by decide +kernel, by decide +kernel⟩
theorem ok_made (B : Free mg) (TC : TblC K mg) (F : FnG K "_law_table_made" sMade) (hm : mg "_law_table_made" = some (.ref (He.ga K "_law_table_made"))) (Fi : PrM P w K mg base 6 (He.ma K (He.ga K "Table") "__init__") ["self", "tie", "gap", "rows", "sides", "accepted"] (spTInit K)) :
    Pr P w K mg base 8 "_law_table_made" ["_law_plain"] (spMade K) := by
  refine pr_mk F hm scMade (fun _ _ _ _ _ _ us hl => match us, hl with | [_], _ => rfl) (fun vs H Q E h => ?_) (fun f cdv A outer s H vs Q E hr h => ?_)
  · obtain ⟨v, T, rfl, _⟩ := h
    rfl
  · obtain ⟨v, T, rfl, ⟨r, t, a, d, hp⟩, ok, hn, k⟩ := h
    have hu := hu_of hr
    refine ⟨_, pss_one (ps_ret (pe_mk TC.sl.mkr Fi hr TC.glo (pa_cons (pe_dget hu (pv 0) pe_str (fun _ _ => rfl)) (pa_cons (pe_dget hu (pv 0) pe_str (fun _ _ => rfl)) (pa_cons (pe_callTy call_tuple_of (by rfl) B.tuple b_tuple (pa_cons (pe_dget hu (pv 0) pe_str (fun _ _ => rfl)) pa_nil))
      (pa_cons (pe_callTy call_tuple_of (by rfl) B.tuple b_tuple (pa_cons (pe_dget hu (pv 0) pe_str (fun _ _ => rfl)) pa_nil)) (pa_cons (pe_dget hu (pv 0) pe_str (fun _ _ => rfl)) pa_nil))))))), ?_⟩
    have g : ∀ {H1 : Hp} {k : Str} {x : V}, Ex H H1 → valV (plKV T r t a) (kx k) = some x → Ev (tDGet (tVar 0) (tC (.str k))) [some v] H1 x := fun e hk => ev_pl (ev_var rfl) (hp.mono e) hk
    refine s_retP (ep_tmake (P := fun vs H' => ∃ r s a, vs = [nV T.tie, nV T.gap, r, s, a] ∧ FiveT H' r s a T) (eap_consE (g (Ex.refl _) (pl_tie T r t a)) (eap_consE (g (Ex.refl _) (pl_gap T r t a))
      (eap_cons (P := fun u H' => MatT H' u T.rows) (ep_tupM fun H1 e1 => ⟨r, g e1 (pl_rows T r t a), hp.rows.mono e1⟩) fun u1 H1 e1 h1 => eap_cons (P := fun u H' => MatT H' u T.sides) (ep_tupM fun H2 e2 => ⟨t, g (e1.trans e2) (pl_sides T r t a), hp.sides.mono (e1.trans e2)⟩) fun u2 H2 e2 h2 =>
        eap_consE (g (e1.trans e2) (pl_acc T r t a)) fun H3 e3 Q3 q3 => q3 [] H3 (Ex.refl _) ⟨u1, u2, a, rfl, h1.mono (e2.trans e3), h2.mono e3, TupV.mono hp.acc (e1.trans (e2.trans e3))⟩)))
      (fun vs H1 e1 h => h) ok hn) fun u H1 e1 hu' => k u H1 e1 hu'
end
end K46
set_option linter.all false
set_option autoImplicit false
/-! K46Math5: a state doubled, the states moved about: the same buildings are accepted. -/
namespace K46
/-- f folds U onto T -/
structure Fold (T U : Tb) (f : Nat → Nat) : Prop where
  tie : f U.tie = T.tie
  gap : f U.gap = T.gap
  op : ∀ (r : Bool) i j, i < U.n → j < U.n → f (K46.op U r i j) = K46.op T r (f i) (f j)
  acc : ∀ i, i < U.n → (i ∈ U.acc ↔ f i ∈ T.acc)
theorem Fold.st {T U : Tb} {f : Nat → Nat} (h : Fold T U f) (ok : U.Ok) : ∀ b, f (K46.st U b) = K46.st T b
  | .tie => h.tie
  | .gap => h.gap
  | .row a b => by
    have e := h.op true (K46.st U a) (K46.st U b) (Rch.lt ok ⟨a, rfl⟩) (Rch.lt ok ⟨b, rfl⟩)
    rw [h.st ok a, h.st ok b] at e
    exact e
  | .side a b => by
    have e := h.op false (K46.st U a) (K46.st U b) (Rch.lt ok ⟨a, rfl⟩) (Rch.lt ok ⟨b, rfl⟩)
    rw [h.st ok a, h.st ok b] at e
    exact e
theorem Fold.same {T U : Tb} {f : Nat → Nat} (h : Fold T U f) (ok : U.Ok) : Same T U := fun b => by
  rw [h.acc _ (Rch.lt ok ⟨b, rfl⟩), h.st ok b]
/-! ### doubled -/
def ext1 (s : Nat) (m : List (List Nat)) : List (List Nat) := m.map fun r => r ++ [r.getD s 0]
def dblT (T : Tb) (s : Nat) : Tb where
  tie := T.tie
  gap := if T.gap = s then T.n else T.gap
  rows := ext1 s T.rows ++ [(ext1 s T.rows).getD s []]
  sides := ext1 s T.sides ++ [((ext1 s T.sides).getD s []).map fun x => if x = s then T.n else x]
  acc := T.acc ++ if s ∈ T.acc then [T.n] else []
def unf (n s : Nat) (i : Nat) : Nat := if i = n then s else i
theorem getD_at {α : Type} (l : List α) (d : α) {i : Nat} (h : i < l.length) : l.getD i d = l[i] := by rw [List.getD_eq_getElem?_getD, List.getElem?_eq_getElem h]; rfl
theorem ext1_row {n s : Nat} {m : List (List Nat)} (q : Square n m) {i : Nat} (hi : i < n) : (ext1 s m).getD i [] = m.getD i [] ++ [(m.getD i []).getD s 0] := by
  have h1 : i < m.length := by rw [q.len]; exact hi
  unfold ext1
  rw [List.getD_eq_getElem?_getD, List.getElem?_map, List.getElem?_eq_getElem h1, Option.map_some, Option.getD_some, getD_at _ _ h1]
theorem ext1_cell {n s : Nat} {m : List (List Nat)} (q : Square n m) {i j : Nat} (hi : i < n) (hj : j < n + 1) : cell (ext1 s m) i j = cell m i (unf n s j) := by
  unfold cell
  rw [ext1_row q hi]
  have hl : (m.getD i []).length = n := by
    have h1 : i < m.length := by rw [q.len]; exact hi
    rw [getD_at _ _ h1]
    exact q.row _ (List.getElem_mem h1)
  unfold unf
  by_cases e : j = n
  · subst e
    rw [if_pos rfl, List.getD_eq_getElem?_getD, List.getElem?_append_right (by omega), hl, Nat.sub_self]; rfl
  · rw [if_neg e, List.getD_eq_getElem?_getD, List.getElem?_append_left (by omega), ← List.getD_eq_getElem?_getD]
theorem snoc_cell_l {m : List (List Nat)} {r : List Nat} {i : Nat} (hi : i < m.length) (j : Nat) : cell (m ++ [r]) i j = cell m i j := by
  unfold cell
  rw [List.getD_eq_getElem?_getD (l := m ++ [r]), List.getElem?_append_left hi, ← List.getD_eq_getElem?_getD]
theorem snoc_cell_r {m : List (List Nat)} {r : List Nat} {i : Nat} (hi : i = m.length) (j : Nat) : cell (m ++ [r]) i j = r.getD j 0 := by
  unfold cell
  rw [List.getD_eq_getElem?_getD (l := m ++ [r]), List.getElem?_append_right (by omega), hi, Nat.sub_self]; rfl
section
variable {T : Tb} (ok : T.Ok) {s : Nat} (hs : s < T.n)
theorem ext1_len (s : Nat) (m : List (List Nat)) : (ext1 s m).length = m.length := List.length_map _
theorem dbl_n : (dblT T s).n = T.n + 1 := by unfold Tb.n dblT; rw [List.length_append, ext1_len]; rfl
theorem unf_lt (hs : s < T.n) {i : Nat} (hi : i < T.n + 1) : unf T.n s i < T.n := by unfold unf; split <;> omega
include ok hs
theorem dbl_R {i j : Nat} (hi : i < T.n + 1) (hj : j < T.n + 1) : (dblT T s).R i j = T.R (unf T.n s i) (unf T.n s j) := by
  show cell (ext1 s T.rows ++ _) i j = cell T.rows _ _
  by_cases e : i = T.n
  · rw [snoc_cell_r (by rw [ext1_len, ok.rows.len]; exact e)]
    have : ((ext1 s T.rows).getD s []).getD j 0 = cell (ext1 s T.rows) s j := rfl
    rw [this, ext1_cell ok.rows hs hj, e]
    unfold unf
    rw [if_pos rfl]
  · rw [snoc_cell_l (by rw [ext1_len, ok.rows.len]; omega), ext1_cell ok.rows (by omega) hj]
    have : unf T.n s i = i := by unfold unf; rw [if_neg e]
    rw [this]
theorem dbl_S {i j : Nat} (hi : i < T.n + 1) (hj : j < T.n + 1) : unf T.n s ((dblT T s).S i j) = T.S (unf T.n s i) (unf T.n s j) ∧ (dblT T s).S i j < T.n + 1 := by
  have hx := ok.S (unf_lt hs hi) (unf_lt hs hj)
  by_cases e : i = T.n
  · have e0 : (dblT T s).S i j = if T.S s (unf T.n s j) = s then T.n else T.S s (unf T.n s j) := by
      show cell (ext1 s T.sides ++ _) i j = _
      rw [snoc_cell_r (by rw [ext1_len, ok.sides.len]; exact e)]
      have hl : j < ((ext1 s T.sides).getD s []).length := by
        rw [ext1_row ok.sides hs, List.length_append, List.length_singleton]
        have h1 : s < T.sides.length := by rw [ok.sides.len]; exact hs
        rw [getD_at _ _ h1, ok.sides.row _ (List.getElem_mem h1)]
        exact hj
      rw [List.getD_eq_getElem?_getD, List.getElem?_map, List.getElem?_eq_getElem hl, Option.map_some, Option.getD_some]
      have : ((ext1 s T.sides).getD s [])[j] = cell (ext1 s T.sides) s j := by unfold cell; rw [getD_at _ _ hl]
      rw [this, ext1_cell ok.sides hs hj]; rfl
    have eu : unf T.n s i = s := by unfold unf; rw [if_pos e]
    rw [eu] at hx ⊢
    rw [e0]
    by_cases h : T.S s (unf T.n s j) = s
    · rw [if_pos h, h]
      exact ⟨by unfold unf; rw [if_pos rfl], by omega⟩
    · rw [if_neg h]
      exact ⟨show (if T.S s (unf T.n s j) = T.n then s else T.S s (unf T.n s j)) = _ from if_neg (by omega), by omega⟩
  · have e0 : (dblT T s).S i j = T.S i (unf T.n s j) := by
      show cell (ext1 s T.sides ++ _) i j = _
      rw [snoc_cell_l (by rw [ext1_len, ok.sides.len]; omega), ext1_cell ok.sides (by omega) hj]; rfl
    have eu : unf T.n s i = i := by unfold unf; rw [if_neg e]
    rw [eu] at hx ⊢
    rw [e0]
    exact ⟨show (if T.S i (unf T.n s j) = T.n then s else T.S i (unf T.n s j)) = _ from if_neg (by omega), by omega⟩
theorem ext1_mem {m : List (List Nat)} (q : Square T.n m) : ∀ r ∈ ext1 s m, r.length = T.n + 1 ∧ ∀ x ∈ r, x < T.n := by
  intro r hr
  obtain ⟨r', hr', rfl⟩ := List.mem_map.mp hr
  refine ⟨by rw [List.length_append, q.row _ hr']; rfl, fun x hx => ?_⟩
  rcases List.mem_append.mp hx with h | h
  · exact q.lt _ hr' _ h
  · rw [List.mem_singleton.mp h, getD_at _ _ (by rw [q.row _ hr']; exact hs)]
    exact q.lt _ hr' _ (List.getElem_mem _)
theorem dbl_ok : (dblT T s).Ok := by
  have g : ∀ {m : List (List Nat)}, Square T.n m → (ext1 s m).getD s [] ∈ ext1 s m := fun {m} q => by
    have h : s < (ext1 s m).length := by rw [ext1_len, q.len]; exact hs
    rw [getD_at _ _ h]; exact List.getElem_mem h
  refine ⟨?_, ?_, ?_, ?_, ?_, ?_⟩
  · rw [dbl_n]
    refine ⟨by show (ext1 s T.rows ++ _).length = _; rw [List.length_append, ext1_len, ok.rows.len]; rfl, fun r hr => ?_, fun r hr x hx => ?_⟩
    · rcases List.mem_append.mp hr with h | h
      · exact (ext1_mem ok hs ok.rows r h).1
      · rw [List.mem_singleton.mp h]; exact (ext1_mem ok hs ok.rows _ (g ok.rows)).1
    · rcases List.mem_append.mp hr with h | h
      · exact Nat.lt_succ_of_lt ((ext1_mem ok hs ok.rows r h).2 x hx)
      · rw [List.mem_singleton.mp h] at hx; exact Nat.lt_succ_of_lt ((ext1_mem ok hs ok.rows _ (g ok.rows)).2 x hx)
  · rw [dbl_n]
    refine ⟨by show (ext1 s T.sides ++ _).length = _; rw [List.length_append, ext1_len, ok.sides.len]; rfl, fun r hr => ?_, fun r hr x hx => ?_⟩
    · rcases List.mem_append.mp hr with h | h
      · exact (ext1_mem ok hs ok.sides r h).1
      · rw [List.mem_singleton.mp h, List.length_map]; exact (ext1_mem ok hs ok.sides _ (g ok.sides)).1
    · rcases List.mem_append.mp hr with h | h
      · exact Nat.lt_succ_of_lt ((ext1_mem ok hs ok.sides r h).2 x hx)
      · rw [List.mem_singleton.mp h] at hx
        obtain ⟨z, hz, rfl⟩ := List.mem_map.mp hx
        have := (ext1_mem ok hs ok.sides _ (g ok.sides)).2 z hz
        split <;> omega
  · rw [dbl_n]; exact Nat.lt_succ_of_lt ok.tie
  · rw [dbl_n]
    have := ok.gap
    show (if T.gap = s then T.n else T.gap) < _
    split <;> omega
  · intro x hx
    rw [dbl_n]
    rcases List.mem_append.mp hx with h | h
    · exact Nat.lt_succ_of_lt (ok.acc x h)
    · split at h
      · rw [List.mem_singleton.mp h]; omega
      · cases h
  · refine List.pairwise_append.mpr ⟨ok.asc, ?_, fun a ha b hb => ?_⟩
    · split
      · exact List.pairwise_singleton _ _
      · exact List.Pairwise.nil
    · split at hb
      · rw [List.mem_singleton.mp hb]; exact ok.acc a ha
      · cases hb
theorem dbl_fold : Fold T (dblT T s) (unf T.n s) := by
  refine ⟨?_, ?_, fun r i j hi hj => ?_, fun i hi => ?_⟩
  · have := ok.tie
    show unf T.n s T.tie = _
    unfold unf
    rw [if_neg (by omega)]
  · have := ok.gap
    show unf T.n s (if T.gap = s then T.n else T.gap) = _
    by_cases h : T.gap = s
    · rw [if_pos h]; unfold unf; rw [if_pos rfl, h]
    · rw [if_neg h]; unfold unf; rw [if_neg (by omega)]
  · rw [dbl_n] at hi hj
    cases r with
    | true =>
      show unf T.n s ((dblT T s).R i j) = _
      rw [dbl_R ok hs hi hj]
      have := ok.R (unf_lt hs hi) (unf_lt hs hj)
      show unf T.n s (T.R (unf T.n s i) (unf T.n s j)) = T.R _ _
      unfold unf at this ⊢
      rw [if_neg (by omega)]
    | false => exact (dbl_S ok hs hi hj).1
  · rw [dbl_n] at hi
    show i ∈ T.acc ++ _ ↔ _
    rw [List.mem_append]
    by_cases e : i = T.n
    · have eu : unf T.n s i = s := by unfold unf; rw [if_pos e]
      rw [eu]
      constructor
      · rintro (h | h)
        · have := ok.acc _ h; omega
        · split at h
          · assumption
          · cases h
      · intro h
        rw [if_pos h]
        exact .inr (List.mem_singleton.mpr e)
    · have eu : unf T.n s i = i := by unfold unf; rw [if_neg e]
      rw [eu]
      constructor
      · rintro (h | h)
        · exact h
        · split at h
          · exact absurd (List.mem_singleton.mp h) e
          · cases h
      · exact .inl
end
/-! ### moved -/
def movT (T : Tb) (o : List Nat) : Tb where
  tie := o.idxOf T.tie
  gap := o.idxOf T.gap
  rows := o.map fun a => o.map fun b => o.idxOf (T.R a b)
  sides := o.map fun a => o.map fun b => o.idxOf (T.S a b)
  acc := (List.range o.length).filter fun i => decide (o.getD i 0 ∈ T.acc)
section
variable {T : Tb} (ok : T.Ok) {o : List Nat} (hp : o.Perm (List.range T.n))
theorem mov_n : (movT T o).n = o.length := List.length_map _
include hp
theorem mov_mem {x : Nat} : x ∈ o ↔ x < T.n := by rw [hp.mem_iff, List.mem_range]
theorem mov_nd : o.Nodup := hp.nodup_iff.mpr List.nodup_range
theorem mov_len : o.length = T.n := by rw [hp.length_eq, List.length_range]
theorem mov_at {x : Nat} (h : x < T.n) : o.idxOf x < o.length ∧ o.getD (o.idxOf x) 0 = x := by
  have hl := List.idxOf_lt_length_of_mem ((mov_mem hp).mpr h)
  exact ⟨hl, by rw [getD_at _ _ hl, List.getElem_idxOf hl]⟩
include ok
theorem mov_cell (r : Bool) {i j : Nat} (hi : i < o.length) (hj : j < o.length) : op (movT T o) r i j = o.idxOf (op T r (o.getD i 0) (o.getD j 0)) := by
  have key : ∀ f : Nat → Nat → Nat, cell (o.map fun a => o.map fun b => f a b) i j = f (o.getD i 0) (o.getD j 0) := by
    intro f
    unfold cell
    rw [List.getD_eq_getElem?_getD, List.getD_eq_getElem?_getD, List.getElem?_map, List.getElem?_eq_getElem hi, Option.map_some, Option.getD_some, List.getElem?_map, List.getElem?_eq_getElem hj, Option.map_some, Option.getD_some, getD_at _ _ hi, getD_at _ _ hj]
  cases r
  · exact key _
  · exact key _
theorem mov_ok : (movT T o).Ok := by
  have lt : ∀ x ∈ o, x < T.n := fun x hx => (mov_mem hp).mp hx
  have oplt : ∀ (r : Bool) a b, a < T.n → b < T.n → op T r a b < T.n := fun r a b ha hb => by
    cases r
    · exact ok.S ha hb
    · exact ok.R ha hb
  have sq : ∀ r : Bool, Square (movT T o).n (o.map fun a => o.map fun b => o.idxOf (op T r a b)) := by
    intro r
    rw [mov_n]
    refine ⟨by rw [List.length_map], fun l hl => ?_, fun l hl x hx => ?_⟩
    · obtain ⟨a, _, rfl⟩ := List.mem_map.mp hl; rw [List.length_map]
    · obtain ⟨a, ha, rfl⟩ := List.mem_map.mp hl
      obtain ⟨b, hb, rfl⟩ := List.mem_map.mp hx
      exact (mov_at hp (oplt r a b (lt a ha) (lt b hb))).1
  refine ⟨sq true, sq false, ?_, ?_, ?_, List.Pairwise.filter _ List.pairwise_lt_range⟩
  · rw [mov_n]; exact (mov_at hp ok.tie).1
  · rw [mov_n]; exact (mov_at hp ok.gap).1
  · intro x hx
    rw [mov_n]
    exact List.mem_range.mp (List.mem_filter.mp hx).1
theorem mov_fold : Fold T (movT T o) (fun i => o.getD i 0) := by
  have gl : ∀ i, i < o.length → o.getD i 0 < T.n := fun i hi => by rw [getD_at _ _ hi]; exact (mov_mem hp).mp (List.getElem_mem hi)
  refine ⟨(mov_at hp ok.tie).2, (mov_at hp ok.gap).2, fun r i j hi hj => ?_, fun i hi => ?_⟩
  · rw [mov_n] at hi hj
    rw [mov_cell ok hp r hi hj]
    have : op T r (o.getD i 0) (o.getD j 0) < T.n := by
      cases r
      · exact ok.S (gl i hi) (gl j hj)
      · exact ok.R (gl i hi) (gl j hj)
    exact (mov_at hp this).2
  · rw [mov_n] at hi
    show i ∈ List.filter _ _ ↔ _
    rw [List.mem_filter, List.mem_range, decide_eq_true_iff]
    exact ⟨fun h => h.2, fun h => ⟨hi, h⟩⟩
end
end K46
set_option Elab.async false
set_option linter.all false
set_option autoImplicit false
set_option maxRecDepth 100000
namespace K46
open PySem PySem.Spec PyProof.Rows L2 Evl
set_option maxHeartbeats 4000000
section
variable {K : PySem.W.Frag} {σ : L2.St} {H : Hp} {ta tb tc te tk tv : TE} {v r s a x y : V} {T : Tb} {d : Addr}
def EvPs (trs : List (TE × TE)) (σ : L2.St) (H : Hp) (ps : List (V × V)) : Prop := ∀ H1, Ex H H1 → ∀ Q : List (V × V) → Hp → Prop, (∀ H2, Ex H1 H2 → Q ps H2) → tPairs trs σ H1 Q
theorem eps_nil : EvPs [] σ H [] := fun H1 _ Q q => q H1 (Ex.refl _)
theorem eps_cons {trs : List (TE × TE)} {ps : List (V × V)} (hk : Ev tk σ H x) (hv : Ev tv σ H y) (h : EvPs trs σ H ps) : EvPs ((tk, tv) :: trs) σ H ((x, y) :: ps) := fun H1 e Q q =>
  hk H1 e _ fun H2 e2 => hv H2 (e.trans e2) _ fun H3 e3 => h H3 ((e.trans e2).trans e3) _ fun H4 e4 => q H4 ((e2.trans e3).trans e4)
theorem eo_disp {trs : List (TE × TE)} {kvs : List (Key × V)} (h : EvPs trs σ H (kvs.map fun kv => (kV kv.1, kv.2))) (hl : kvs.length ≤ 15) : EvO (tDisp trs) σ H (.dK (mergeK [] kvs)) := fun H1 e Q q p hp => by
  have e1 : Ex H1 (upd H1 p (.dK [])) := Ex.new hp
  refine h _ (e.trans e1) _ fun H2 e2 => ⟨e2 _ _ upd_same, kvs, rfl, hl, q p _ hp (fun b u hb => ?_) upd_same⟩
  rw [upd_ne (ne_of_none hb hp)]
  exact e2 _ _ (e1 _ _ hb)
theorem mergeK_app : ∀ (l acc : List (Key × V)), (∀ p ∈ l, valV acc p.1 = none) → (l.map (·.1)).Nodup → mergeK acc l = acc ++ l
  | [], acc, _, _ => by unfold mergeK; simp
  | p :: l, acc, h, nd => by
    rw [List.map_cons, List.nodup_cons] at nd
    have e : mergeK acc (p :: l) = mergeK (putK acc p.1 p.2) l := rfl
    rw [e, putK_new _ (h p List.mem_cons_self), mergeK_app l _ (fun q hq => ?_) nd.2, List.append_assoc]
    · rfl
    · have h1 := h q (List.mem_cons_of_mem _ hq)
      have ne : p.1 ≠ q.1 := fun e => nd.1 (by rw [e]; exact List.mem_map_of_mem hq)
      unfold valV at h1 ⊢
      rw [List.find?_append]
      cases hf : acc.find? (fun kv => decide (kv.1 = q.1)) with
      | some z => rw [hf] at h1; cases h1
      | none => rw [Option.none_or, List.find?_cons_of_neg (by simpa using ne)]; rfl
theorem mergeK_nodup {l : List (Key × V)} (nd : (l.map (·.1)).Nodup) : mergeK [] l = l := by
  rw [mergeK_app l [] (fun _ _ => rfl) nd, List.nil_append]
/-- [.. new tuples of numbers ..] -/
theorem ep_rowsT {m : Nat → List Nat} {n : Nat} (h : ∀ H1, Ex H H1 → ∀ Q : VK, (∀ D H2 (ps : List Addr), H1 D = none → Ex H1 H2 → H2 D = some (.lst (ps.map V.ref)) → ps.length = n → (∀ i p, ps[i]? = some p → H1 p = none ∧ H2 p = some (.tup ((m i).map nV))) → Q (.ref D) H2) → te σ H1 Q) :
    EvP te σ H (fun v H' => LstM H' v ((List.range n).map m)) := fun H1 e Q q =>
  h H1 e _ fun D H2 ps hD e2 hDl hl hps => q _ H2 e2 ⟨D, ps.map V.ref, rfl, hDl, paired_of (by rw [List.length_map, List.length_map, List.length_range, hl]) fun i a b h1 h2 => by
    rw [List.getElem?_map] at h1 h2
    obtain ⟨p, hp, rfl⟩ := Option.map_eq_some_iff.mp h1
    obtain ⟨j, hj, rfl⟩ := Option.map_eq_some_iff.mp h2
    have hi : i < n := by rw [← hl]; exact (List.getElem?_eq_some_iff.mp hp).1
    rw [List.getElem?_range hi] at hj
    cases hj
    exact ⟨p, rfl, (hps i p hp).2⟩⟩
/-- dict([.. new pairs ..]) -/
abbrev rDictP (K : PySem.W.Frag) : List V → Hp → VK → Prop := fun xs H Q => ∃ (a : Addr) (ps : List Addr) (kvs : List (Key × V)), xs = [.ref a] ∧ SqL K H a (ps.map V.ref) ∧ Paired (fun p kv => SqT K H p [kV kv.1, kv.2]) ps kvs ∧
    ∀ p, H p = none → Q (.ref p) (upd H p (.dK (mergeK [] kvs)))
theorem eo_dictP {κ : Nat → Key} {val : Nat → V} {n : Nat} (hκ : ∀ i j, i < n → j < n → κ i = κ j → i = j)
    (h : ∀ H1, Ex H H1 → ∀ Q : VK, (∀ D H2 (ps : List Addr), H1 D = none → Ex H1 H2 → H2 D = some (.lst (ps.map V.ref)) → ps.length = n → (∀ i p, ps[i]? = some p → H1 p = none ∧ H2 p = some (.tup [kV (κ i), val i])) → Q (.ref D) H2) → te σ H1 Q) :
    EvO (tCB (rDictP K) (tCons te tNil)) σ H (.dK ((List.range n).map fun i => (κ i, val i))) := fun H1 e Q q =>
  h H1 e _ fun D H2 ps hD e2 hDl hl hps => ⟨D, ps, (List.range n).map fun i => (κ i, val i), rfl, sq_of hDl, paired_of (by rw [List.length_map, List.length_range, hl]) (fun i a b h1 h2 => by
    rw [List.getElem?_map] at h2
    obtain ⟨j, hj, rfl⟩ := Option.map_eq_some_iff.mp h2
    have hi : i < n := by rw [← hl]; exact (List.getElem?_eq_some_iff.mp h1).1
    rw [List.getElem?_range hi] at hj
    cases hj
    exact SqT.of (hps i a h1).2), fun p hp => by
      rw [mergeK_nodup (by
        rw [List.map_map]
        refine List.pairwise_map.mpr (List.pairwise_lt_range.imp_of_mem fun {i j} hi hj hlt e => ?_)
        have := hκ i j (List.mem_range.mp hi) (List.mem_range.mp hj) e
        omega)]
      exact q p _ (fresh_back e2 hp) (e2.trans (Ex.new hp)) upd_same⟩
end
section
variable {P : Program} {w : World} {K : PySem.W.Frag} {mg : Str → Option Value} {base : Heap}
/-! ### _law_both_sides -/
abbrev sBoth : Stmt := top 69
def spBoth (K : PySem.W.Frag) : Sp := fun vs H Q _ => ∃ (v : V) (T : Tb) (i j : Nat), vs = [v, nV i, nV j] ∧ Plain H v T ∧ T.Ok ∧ i < T.n ∧ j < T.n ∧ ∀ p H', H p = none → Ex H H' → H' p = some (.lst [nV (T.S i j), nV (T.S j i)]) → Q (.ref p) H'
theorem scBoth : FnScope ["_law_table", "_law_one", "_law_other"] ["_law_table", "_law_one", "_law_other"] (defScope sBoth) := ⟨rfl, rfl, rfl, by decide +kernel, rfl, by decide +kernel, by decide +kernel⟩
theorem ok_both (F : FnG K "_law_both_sides" sBoth) (hm : mg "_law_both_sides" = some (.ref (He.ga K "_law_both_sides"))) : Pr P w K mg base 1 "_law_both_sides" ["_law_table", "_law_one", "_law_other"] (spBoth K) := by
  refine pr_mk F hm scBoth (fun _ _ _ _ _ _ us hl => match us, hl with | [_, _, _], _ => rfl) (fun vs H Q E h => ?_) (fun f cdv A outer s H vs Q E hr h => ?_)
  · obtain ⟨v, T, i, j, rfl, _⟩ := h
    rfl
  · obtain ⟨v, T, i, j, rfl, ⟨r, t, a, d, hp⟩, ok, hi, hj, k⟩ := h
    have hu := hu_of hr
    refine ⟨_, pss_one (ps_ret (pe_lst (pa_cons (pe_ix ix_seq (pe_ix ix_seq (pe_dget hu (pv 0) pe_str (fun _ _ => rfl)) (pv 1) (fun _ _ => rfl)) (pv 2) (fun _ _ => rfl)) (pa_cons (pe_ix ix_seq (pe_ix ix_seq (pe_dget hu (pv 0) pe_str (fun _ _ => rfl)) (pv 2) (fun _ _ => rfl)) (pv 1) (fun _ _ => rfl)) pa_nil)))), ?_⟩
    have g : Ev (tDGet (tVar 0) (tC (.str "sides"))) [some v, some (nV i), some (nV j)] H t := ev_pl (ev_var rfl) hp (pl_sides T r t a)
    exact s_retL (el_lst (ea_cons (ev_cell g (ev_var rfl) (ev_var rfl) hp.sides.mat ok.sides hi hj) (ea_cons (ev_cell g (ev_var rfl) (ev_var rfl) hp.sides.mat ok.sides hj hi) ea_nil)) (by show 2 ≤ 100000; decide)) fun p H1 hp1 e1 h1 => k p H1 hp1 e1 h1
end
end K46
set_option Elab.async false
set_option linter.all false
set_option autoImplicit false
set_option maxRecDepth 100000
namespace K46
open PySem PySem.Spec PyProof.Rows L2 Evl
set_option maxHeartbeats 4000000
section
variable {K : PySem.W.Frag} {σ : L2.St} {H : Hp} {ta tk tv : TE} {D : Ends} {tz : TS} {d : Addr} {kvs : List (Key × V)} {k : Key} {P : V → Hp → Prop}
theorem q_dputP (hv : EvP tv σ H P) (hd : ∀ H1, Ex H H1 → Ev ta σ H1 (.ref d)) (hk : ∀ H1, Ex H H1 → Ev tk σ H1 (kV k)) (h : H d = some (.dK kvs)) (hl : kvs.length < sizeLine) (q : ∀ v H1 H2, Ex H H1 → P v H1 → Ex H1 H2 → tz D σ (upd H2 d (.dK (putK kvs k v)))) :
    tSeq (sDPut ta tk tv) tz D σ H := hv H (Ex.refl _) _ fun v H1 e1 p => hd H1 e1 H1 (Ex.refl _) _ fun H2 e2 => hk H2 (e1.trans e2) H2 (Ex.refl _) _ fun H3 e3 => ⟨d, _, rfl, DPut.k ((e1.trans (e2.trans e3)) _ _ h) hl, q v H1 H3 e1 p (e2.trans e3)⟩
theorem TupV.updD {v : V} {xs : List V} {y z : HO} (h : TupV H v xs) (hd : H d = some y) (hy : ∀ xs, y ≠ .tup xs) : TupV (upd H d z) v xs := by
  obtain ⟨a, rfl, h⟩ := h
  exact ⟨a, rfl, by rw [upd_ne (fun e => by rw [e, hd] at h; exact hy _ (Option.some.inj h))]; exact h⟩
end
section
variable {P : Program} {w : World} {K : PySem.W.Frag} {mg : Str → Option Value} {base : Heap}
/-! ### _law_moved -/
abbrev sMoved : Stmt := top 72
def spMoved (K : PySem.W.Frag) : Sp := fun vs H Q _ => ∃ (v : V) (L : Addr) (T : Tb) (o : List Nat), vs = [v, .ref L] ∧ Plain H v T ∧ T.Ok ∧ T.n ≤ 60 ∧ H L = some (.lst (o.map nV)) ∧ o.Perm (List.range T.n) ∧ ∀ u H', Ex H H' → Plain H' u (movT T o) → Q u H'
abbrev nMoved : List Str := ["_law_plain", "_law_order", "_law_place", "_law_rows", "_law_sides", "_law_found", "_law_at", "_law_one", "_law_other", "_law_state"]
theorem scMoved : FnScope nMoved ["_law_plain", "_law_order"] (defScope sMoved) := ⟨rfl, rfl, rfl, by decide +kernel, rfl, by decide +kernel, by decide +kernel⟩
abbrev tMvC (K : PySem.W.Frag) (k : Str) : TE := tDGet (tVar 2) (tOp (rIx K) (tOp (rIx K) (tDGet (tVar 0) (tC (.str k))) (tVar 7)) (tVar 8))
abbrev tMvR (K : PySem.W.Frag) (k : Str) : TE := tCB (rTup K) (tCons (tLc (iList K (tVar 1)) (gName 8) tYes (tMvC K k) [8]) tNil)
/-- the new rows -/
theorem ep_mvRows {H : Hp} {v r t a x : V} {d L D : Addr} {T : Tb} {o : List Nat} {m : List (List Nat)} {x3 x4 x5 : Option V} {k : Str} (hp : PlainAt H v T r t a d) (hL : H L = some (.lst (o.map nV))) (hD : H D = some (.dK (nums o))) (ok : T.Ok) (hn : T.n ≤ 60) (ho : o.Perm (List.range T.n)) (c : Bool)
    (hk : valV (plKV T r t a) (kx k) = some x) (hm : Mat K H x m) (sq : Square T.n m) (em : cell m = op T c) :
    EvP (tLc (iList K (tVar 1)) (gName 7) tYes (tMvR K k) [7]) [some v, some (.ref L), some (.ref D), x3, x4, x5, none, none, none, none] H (fun u H' => LstM H' u (o.map fun a => o.map fun b => o.idxOf (op T c a b))) := by
  have nd := mov_nd ho
  have hl := mov_len ho
  have key : o.map (fun a => o.map fun b => o.idxOf (op T c a b)) = (List.range o.length).map fun i => o.map fun b => o.idxOf (op T c (o.getD i 0) b) := (map_range_get _ _ fun i x hx => by rw [List.getD_eq_getElem?_getD, hx]; rfl).symm
  rw [key]
  refine ep_rowsT (n := o.length) fun H1 e1 Q q => ?_
  refine elo_lc (o := fun i => .tup ((o.map fun b => o.idxOf (op T c (o.getD i 0) b)).map nV)) (over_list (ev_var rfl) (SqL.of hL)).over (by rw [List.length_map]; omega) yAt_ex (fun i y H2 H3 hi e2 hy => ?_) H1 e1 Q (fun D' H4 ps h1 h2 h3 h4 h5 => q D' H4 ps h1 h2 h3 (by rw [h4, List.length_map]) h5)
  obtain ⟨rfl, hx⟩ := hy
  rw [List.getElem?_map] at hx
  obtain ⟨b, hb, rfl⟩ := Option.map_eq_some_iff.mp hx
  have eb : o.getD i 0 = b := by rw [List.getD_eq_getElem?_getD, hb]; rfl
  have lb := (mov_mem ho).mp (List.mem_of_getElem? hb)
  refine ⟨[some v, some (.ref L), some (.ref D), x3, x4, x5, none, some (nV b), none, none], rfl, fun Qs h => h, eo_U (eu_tupL ?_)⟩
  rw [eb, ← map_range_get (xs := o) (fun z => o.idxOf (op T c b z)) (fun i => o.idxOf (op T c b (o.getD i 0))) (fun i x hx => by rw [List.getD_eq_getElem?_getD, hx]; rfl), List.map_map]
  have e := elv_lc (te := tMvC K k) (vs := [8]) (g := gName 8) (tt := tYes) (fun _ => true) (fun i => nV (o.idxOf (op T c b (o.getD i 0))))
    (over_list (K := K) (tl := tVar 1) (σ := [some v, some (.ref L), some (.ref D), x3, x4, x5, none, some (nV b), none, none]) (ev_var rfl) (SqL.of (e2 _ _ hL))).over (by rw [List.length_map]; omega) yAt_ex (fun j y H4 H5 hj e4 hy => ?_)
  · rw [given_all, List.length_map] at e
    exact e
  obtain ⟨rfl, hy⟩ := hy
  rw [List.getElem?_map] at hy
  obtain ⟨z, hz, rfl⟩ := Option.map_eq_some_iff.mp hy
  have ez : o.getD j 0 = z := by rw [List.getD_eq_getElem?_getD, hz]; rfl
  have lz := (mov_mem ho).mp (List.mem_of_getElem? hz)
  refine ⟨[some v, some (.ref L), some (.ref D), x3, x4, x5, none, some (nV b), some (nV z), none], rfl, fun Qs h => h, fun H6 _ Q q => q H6 (Ex.refl _), fun _ => ?_⟩
  have e24 := e2.trans e4
  refine ev_dget (ev_var rfl) (ev_cell (ev_pl (ev_var rfl) (hp.mono e24) hk) (ev_var rfl) (ev_var rfl) (hm.mono e24) sq lb lz) ?_
  rw [em, ez]
  have lop : op T c b z < T.n := by
    cases c
    · exact ok.S lb lz
    · exact ok.R lb lz
  have := dget_k (kvs := nums o) (i := (op T c b z : Nat)) (e24 _ _ hD)
  rw [nums_val nd ((mov_mem ho).mpr lop)] at this
  exact this
theorem kx_nodup (a b c d : V) : ([(kx "tie", a), (kx "gap", b), (kx "rows", c), (kx "sides", d)].map (·.1)).Nodup := by
  show [kx "tie", kx "gap", kx "rows", kx "sides"].Nodup
  decide +kernel
theorem kx_acc (a b c d : V) : valV [(kx "tie", a), (kx "gap", b), (kx "rows", c), (kx "sides", d)] (kx "accepted") = none := by kernel_rfl
/-- found = {..}; found['accepted'] = .. -/
theorem plKV_put (T : Tb) (r s a : V) : putK [(kx "tie", nV T.tie), (kx "gap", nV T.gap), (kx "rows", r), (kx "sides", s)] (kx "accepted") a = plKV T r s a := by rw [putK_new _ (kx_acc _ _ _ _)]; rfl
theorem ok_moved (B : Free mg) (F : FnG K "_law_moved" sMoved) (hm : mg "_law_moved" = some (.ref (He.ga K "_law_moved"))) : Pr P w K mg base 1 "_law_moved" ["_law_plain", "_law_order"] (spMoved K) := by
  refine pr_mk F hm scMoved (fun _ _ _ _ _ _ us hl => match us, hl with | [_, _], _ => rfl) (fun vs H Q E h => ?_) (fun f cdv A outer s H vs Q E hr h => ?_)
  · obtain ⟨v, L, T, o, rfl, _⟩ := h
    rfl
  · obtain ⟨v, L, T, o, rfl, ⟨r, t, a, d, hp⟩, ok, hn, hL, ho, k⟩ := h
    have hu := hu_of hr
    refine ⟨_, pss_cons (ps_set (i := 2) scMoved.nd rfl (Or.inr rfl) (pe_callTy (call_dictP rfl) (by rfl) B.dict b_dict (pa_cons
        (pe_lc (own := [("_law_at", 6)]) (g := gName 6) (tt := tYes) (te := tTup (tCons (tOp (rIxL K) (tVar 1) (tVar 6)) (tCons (tVar 6) tNil))) rfl scMoved.nd (pi_range1 (by rfl) B.range (pa_cons (pe_callB call_len_seq (by rfl) B.len b_len (pa_cons (pv 1) pa_nil)) pa_nil)) (blkOk_by (by kernel_rfl))
          (fun _ _ _ _ _ => pg_name (i := 6) scMoved.nd rfl (Or.inl rfl)) (fun _ _ _ _ _ => pts_nil) (fun _ _ _ _ _ => pe_tup (pa_cons (pe_ix ix_list (pv 1) (pv 6) (fun _ _ => rfl)) (pa_cons (pv 6) pa_nil)))) pa_nil)))
      (pss_cons (ps_setLc (i := 3) (own := [("_law_one", 7)]) (g := gName 7) (tt := tYes) (te := tMvR K "rows") rfl scMoved.nd rfl rfl (sw_true rfl rfl rfl (by decide +kernel)) (pi_list (pv 1)) (blkOk_by (by kernel_rfl)) (fun _ _ _ _ _ => pg_name (i := 7) scMoved.nd rfl (Or.inr rfl)) (fun _ _ _ _ _ => pts_nil)
          (fun _ _ _ _ _ => pe_callTy call_tuple_of (by rfl) B.tuple b_tuple (pa_cons (pe_lc (own := [("_law_other", 8)]) (g := gName 8) (tt := tYes) (te := tMvC K "rows") rfl scMoved.nd (pi_list (pv 1)) (blkOk_by (by kernel_rfl)) (fun _ _ _ _ _ => pg_name (i := 8) scMoved.nd rfl (Or.inl rfl)) (fun _ _ _ _ _ => pts_nil)
            (fun _ _ _ _ _ => pe_dget hu (pv 2) (pe_ix ix_seq (pe_ix ix_seq (pe_dget hu (pv 0) pe_str (fun _ _ => rfl)) (pv 7) (fun _ _ => rfl)) (pv 8) (fun _ _ => rfl)) (fun _ _ => rfl))) pa_nil)))
      (pss_cons (ps_setLc (i := 4) (own := [("_law_one", 7)]) (g := gName 7) (tt := tYes) (te := tMvR K "sides") rfl scMoved.nd rfl rfl (sw_true rfl rfl rfl (by decide +kernel)) (pi_list (pv 1)) (blkOk_by (by kernel_rfl)) (fun _ _ _ _ _ => pg_name (i := 7) scMoved.nd rfl (Or.inr rfl)) (fun _ _ _ _ _ => pts_nil)
          (fun _ _ _ _ _ => pe_callTy call_tuple_of (by rfl) B.tuple b_tuple (pa_cons (pe_lc (own := [("_law_other", 8)]) (g := gName 8) (tt := tYes) (te := tMvC K "sides") rfl scMoved.nd (pi_list (pv 1)) (blkOk_by (by kernel_rfl)) (fun _ _ _ _ _ => pg_name (i := 8) scMoved.nd rfl (Or.inl rfl)) (fun _ _ _ _ _ => pts_nil)
            (fun _ _ _ _ _ => pe_dget hu (pv 2) (pe_ix ix_seq (pe_ix ix_seq (pe_dget hu (pv 0) pe_str (fun _ _ => rfl)) (pv 7) (fun _ _ => rfl)) (pv 8) (fun _ _ => rfl)) (fun _ _ => rfl))) pa_nil)))
      (pss_cons (ps_set (i := 5) scMoved.nd rfl (Or.inl rfl) (pe_disp (pps_cons pe_str (pe_dget hu (pv 2) (pe_dget hu (pv 0) pe_str (fun _ _ => rfl)) (fun _ _ => rfl)) (pps_cons pe_str (pe_dget hu (pv 2) (pe_dget hu (pv 0) pe_str (fun _ _ => rfl)) (fun _ _ => rfl)) (pps_cons pe_str (pv 3) (pps_cons pe_str (pv 4) pps_nil)))) (by rfl) (by rfl) (fun z => by cases z) (by decide)))
      (pss_cons (ps_dput hu (pv 5) pe_str (pe_callTy call_tuple_of (by rfl) B.tuple b_tuple (pa_cons (pe_callB cr_sortedI (by rfl) B.sorted b_sorted (pa_cons
          (pe_lc (own := [("_law_state", 9)]) (g := gName 9) (tt := tYes) (te := tDGet (tVar 2) (tVar 9)) rfl scMoved.nd (pi_seq (pe_dget hu (pv 0) pe_str (fun _ _ => rfl))) (blkOk_by (by kernel_rfl)) (fun _ _ _ _ _ => pg_name (i := 9) scMoved.nd rfl (Or.inl rfl)) (fun _ _ _ _ _ => pts_nil) (fun _ _ _ _ _ => pe_dget hu (pv 2) (pv 9) (fun _ _ => rfl))) pa_nil)) pa_nil)) rfl)
      (pss_one (ps_ret (pv 5))))))), ?_⟩
    have nd := mov_nd ho
    have hl := mov_len ho
    have pos : [some v, some (V.ref L), none, none, none, none, none, none, none, none] = L2.start nMoved [v, .ref L] := rfl
    refine q_asgO (eo_dictP (κ := fun i => Sum.inl ((o.getD i 0 : Nat) : Int)) (val := fun i => nV i) (n := o.length) (nums_inj nd) fun H1 e1 Q' q' =>
      elo_lc (o := fun i => .tup [nV (o.getD i 0), nV i]) (over_rng (n := o.length) (tl := tCons (tCB (rLen K) (tCons (tVar 1) tNil)) tNil) (ea_cons (by have := ev_lenS (K := K) (ev_var (i := 1) (σ := L2.start nMoved [v, .ref L]) rfl) (Sq.l (K := K) hL); rw [List.length_map] at this; exact this) ea_nil) (by omega)).over (by omega) yFn_ex (fun i x H2 H3 hi e2 hy => ?_) H1 e1 Q' (fun D' H4 ps h1 h2 h3 h4 h5 => q' D' H4 ps h1 h2 h3 h4 h5)) fun D H1 hD e1 h1D => ?_
    · obtain ⟨rfl, rfl⟩ := hy
      have z0 : ((fun i : Nat => V.int (0 + (i : Int))) i) = nV i := by show V.int (0 + (i : Int)) = _; rw [Int.zero_add]
      rw [z0]
      have ex : (o.map nV)[i]? = some (nV (o.getD i 0)) := by rw [List.getElem?_map, List.getElem?_eq_getElem hi, getD_at _ _ hi]; rfl
      exact ⟨[some v, some (.ref L), none, none, none, none, some (nV i), none, none, none], rfl, fun Qs h => h, eo_U (eu_tup (ea_cons (ev_op (ev_var rfl) (ev_var rfl) (rv_ixL (SqL.of (e2 _ _ hL)) (atI_nat ex))) (ea_cons (ev_var rfl) ea_nil)) (by show 2 ≤ 100000; decide))⟩
    have hN : H1 D = some (.dK (nums o)) := h1D
    refine q_asgP (ep_mvRows (x3 := none) (x4 := none) (x5 := none) (hp.mono e1) (e1 _ _ hL) hN ok hn ho true (pl_rows T r t a) (hp.rows.mono e1).mat ok.rows rfl) fun u1 H2 e2 hu1 => ?_
    have e12 := e1.trans e2
    refine q_asgP (ep_mvRows (x3 := some u1) (x4 := none) (x5 := none) (hp.mono e12) (e12 _ _ hL) (e2 _ _ hN) ok hn ho false (pl_sides T r t a) (hp.sides.mono e12).mat ok.sides rfl) fun u2 H3 e3 hu2 => ?_
    have e13 := e12.trans e3
    have pl : ∀ {σ : L2.St} {H' : Hp} {x : Nat} {tx : TE}, σ[2]? = some (some (.ref D)) → Ex H3 H' → Ev tx σ H' (nV x) → x < T.n → Ev (tDGet (tVar 2) tx) σ H' (nV (o.idxOf x)) := fun {σ H' x tx} s2 e hx lx => by
      refine ev_dget (ev_var s2) hx ?_
      have := dget_k (kvs := nums o) (i := (x : Nat)) (e _ _ (e3 _ _ (e2 _ _ hN)))
      rwa [nums_val nd ((mov_mem ho).mpr lx)] at this
    have g : ∀ {H' : Hp} {k : Str} {x : V} {σ : L2.St}, σ[0]? = some (some v) → Ex H H' → valV (plKV T r t a) (kx k) = some x → Ev (tDGet (tVar 0) (tC (.str k))) σ H' x := fun s0 e hk => ev_pl (ev_var s0) (hp.mono e) hk
    refine q_asgO (eo_disp (kvs := [(kx "tie", nV (o.idxOf T.tie)), (kx "gap", nV (o.idxOf T.gap)), (kx "rows", u1), (kx "sides", u2)]) (eps_cons ev_c (pl rfl (Ex.refl _) (g rfl e13 (pl_tie T r t a)) ok.tie) (eps_cons ev_c (pl rfl (Ex.refl _) (g rfl e13 (pl_gap T r t a)) ok.gap) (eps_cons ev_c (ev_var rfl) (eps_cons ev_c (ev_var rfl) eps_nil)))) (by show 4 ≤ 15; decide)) fun Df H4 hDf e4 h4 => ?_
    rw [mergeK_nodup (kx_nodup _ _ _ _)] at h4
    have e14 := e13.trans e4
    refine q_dputP (k := kx "accepted") (P := fun u H' => TupN H' u (movT T o).acc) (fun H5 e5 Q' q' => ?_) (fun H5 _ => ev_var rfl) (fun H5 _ => ev_c) h4 (by show 4 < sizeLine; decide) fun u H5 H6 e5 hu e6 => ?_
    · have e15 := e14.trans e5
      have pm := acc_perm (o := o) (ok.asc.imp fun h => Nat.ne_of_lt h) nd
      have fl : (T.acc.filter fun x => decide (x ∈ o)) = T.acc := List.filter_eq_self.mpr fun x hx => decide_eq_true ((mov_mem ho).mpr (ok.acc x hx))
      rw [fl] at pm
      refine eu_tupL (el_sortedN (xs := T.acc.map fun x => o.idxOf x) (ys := (movT T o).acc) ?_ pm ((mov_ok ok ho).asc.imp fun h => Nat.le_of_lt h)) H5 (Ex.refl _) _ fun p H6 hp6 e6 h6 => q' _ H6 e6 ⟨p, rfl, h6⟩
      have e := elv_lc (te := tDGet (tVar 2) (tVar 9)) (vs := [9]) (g := gName 9) (tt := tYes) (σ := [some v, some (.ref L), some (.ref D), some u1, some u2, some (.ref Df), none, none, none, none]) (H := H5) (fun _ => true) (fun i => nV (o.idxOf (T.acc.getD i 0)))
        (over_seq (K := K) (tl := tDGet (tVar 0) (tC (.str "accepted"))) (g rfl e15 (pl_acc T r t a)) (TupV.sq (TupV.mono hp.acc e15))).over (by rw [List.length_map]; have := nodup_le _ _ (ok.asc.imp fun h => Nat.ne_of_lt h) ok.acc; omega) yAt_ex (fun i x H6 H7 hi e6 hy => ?_)
      · rw [given_all, List.length_map, map_range_get (xs := T.acc) (fun x => nV (o.idxOf x)) (fun i => nV (o.idxOf (T.acc.getD i 0))) (fun i x hx => by rw [List.getD_eq_getElem?_getD, hx]; rfl)] at e
        rw [List.map_map]
        exact e
      obtain ⟨rfl, hx⟩ := hy
      rw [List.getElem?_map] at hx
      obtain ⟨b, hb, rfl⟩ := Option.map_eq_some_iff.mp hx
      have eb : T.acc.getD i 0 = b := by rw [List.getD_eq_getElem?_getD, hb]; rfl
      rw [eb]
      exact ⟨[some v, some (.ref L), some (.ref D), some u1, some u2, some (.ref Df), none, none, none, some (nV b)], rfl, fun Qs h => h, fun H8 _ Q q => q H8 (Ex.refl _), fun _ => pl rfl (e4.trans (e5.trans e6)) (ev_var rfl) (ok.acc b (List.mem_of_getElem? hb))⟩
    · rw [show ([(kx "tie", nV (o.idxOf T.tie)), (kx "gap", nV (o.idxOf T.gap)), (kx "rows", u1), (kx "sides", u2)] : List (Key × V)) = [(kx "tie", nV (movT T o).tie), (kx "gap", nV (movT T o).gap), (kx "rows", u1), (kx "sides", u2)] from rfl, plKV_put]
      have e36 := e4.trans (e5.trans e6)
      have h6D : H6 Df = some (.dK _) := e6 _ _ (e5 _ _ h4)
      have em : Ex H3 (upd H6 Df (.dK (plKV (movT T o) u1 u2 u))) := e36.mut hDf
      exact s_ret (ev_var rfl) fun H7 e7 => k _ H7 ((e13.trans em).trans e7) ⟨u1, u2, u, Df, rfl, e7 _ _ upd_same, hu1.mono (e3.trans (em.trans e7)), hu2.mono (em.trans e7), TupV.mono (TupV.updD (TupV.mono hu e6) h6D (fun xs z => by cases z)) e7⟩
end
end K46
set_option Elab.async false
set_option linter.all false
set_option autoImplicit false
set_option maxRecDepth 100000
/-! K46R8: (x,) * 0, (x,) * 1. -/
namespace K46
open PySem PySem.Spec PyProof.Rows L2 Evl
set_option maxHeartbeats 4000000
theorem tuple_mul1 (l : Addr) (x : Value) (n : Nat) (dd : Option Addr) (sl : Array (Option Value)) (u : Tok) :
    Meets (Builtin.«tuple.__mul__» ⟨[.ref l, .int 1 u], []⟩) (fun _ R s => s.heap.get? l = some { cls := .type "tuple", dict := dd, data := .seq #[x] n, slots := sl } ∧ R (.ok (.ret (.ref l))) s) :=
  .of_wp fun prog w A R s h => by
    obtain ⟨hp, g, d, tk, os⟩ := s
    obtain ⟨hl, h⟩ := h
    have f1 := AutoSeq1.idx_int
    wp_walk using wpAny_loadPart' hl
    exact ⟨_, rfl, h⟩
theorem tuple_mul0 (l : Addr) (x : Value) (n : Nat) (dd : Option Addr) (sl : Array (Option Value)) (u : Tok) :
    Meets (Builtin.«tuple.__mul__» ⟨[.ref l, .int 0 u], []⟩) (fun _ R s => s.heap.get? l = some { cls := .type "tuple", dict := dd, data := .seq #[x] n, slots := sl } ∧
      R (.ok (.ret (.ref s.heap.objs.size))) { s with heap := s.heap.push { cls := .type "tuple", data := .seq #[] } }) :=
  .of_wp fun prog w A R s h => by
    obtain ⟨hp, g, d, tk, os⟩ := s
    obtain ⟨hl, h⟩ := h
    have f1 := AutoSeq1.idx_int
    wp_walk using wpAny_loadPart' hl
    exact ⟨_, rfl, h⟩
def rRep01 (K : PySem.W.Frag) : R2 := fun x y H Q => ∃ (l : Addr) (z : V) (b : Bool), x = .ref l ∧ y = .int (if b then 1 else 0) ∧ SqT K H l [z] ∧ (b = true → Q (.ref l) H) ∧ (b = false → ∀ p, H p = none → Q (.ref p) (upd H p (.tup [])))
theorem op_rep01 {X : Cx} : OpR X (binaryOp .Mult) (rRep01 X.K) := by
  intro pins s σ H x y v u Q I rx ry h
  obtain ⟨l, z, b, rfl, rfl, hT, q1, q0⟩ := h
  cases rx
  obtain ⟨t, rfl⟩ := ry
  obtain ⟨its, r, ⟨⟨cls, dd, data, sl⟩, ho, hc, n, hd⟩, hs⟩ := I.tuple hT
  simp only at hc hd
  subst hc hd
  obtain ⟨x0, rfl⟩ : ∃ x0, its = [x0] := by
    cases r with
    | cons r rr => cases rr; exact ⟨_, rfl⟩
  cases b with
  | true =>
    refine wpAny_binaryOp_repeat_ref (T := "tuple") (U := "int") (by decide) ⟨_, ho, rfl⟩ (fun s' => typeIs_int s' 1 t) noFill_tuple_mul F.fills_int_mul F.slot_int_rmul repeat_tuple F.slot_int_index.lookup
      (call_meets F.slot_int_rmul (typeIs_int s 1 t) F.entry_int_rmul (F.args_int_rmul_2 _ _) (int_rmul_tuple 1 t l _ n dd sl)
        ⟨ho, rfl, ⟨_, ho, rfl⟩, call_meets F.slot_tuple_mul ⟨_, ho, rfl⟩ F.entry_tuple_mul (F.args_tuple_mul_2 _ _) (tuple_mul1 l x0 n dd sl t) ⟨ho, ?_⟩⟩)
    exact ⟨.ref l, H, I, rfl, q1 rfl⟩
  | false =>
    refine wpAny_binaryOp_repeat_ref (T := "tuple") (U := "int") (by decide) ⟨_, ho, rfl⟩ (fun s' => typeIs_int s' 0 t) noFill_tuple_mul F.fills_int_mul F.slot_int_rmul repeat_tuple F.slot_int_index.lookup
      (call_meets F.slot_int_rmul (typeIs_int s 0 t) F.entry_int_rmul (F.args_int_rmul_2 _ _) (int_rmul_tuple 0 t l _ n dd sl)
        ⟨ho, rfl, ⟨_, ho, rfl⟩, call_meets F.slot_tuple_mul ⟨_, ho, rfl⟩ F.entry_tuple_mul (F.args_tuple_mul_2 _ _) (tuple_mul0 l x0 n dd sl t) ⟨ho, ?_⟩⟩)
    exact ⟨.ref s.heap.objs.size, _, I.laid (t' := s.toks) (o := .tup []) (fun b ob q => Heap.get?_push_of_some _ q) (Nat.le_refl _) ⟨Nat.zero_le _, [], .nil, IsTup.new _ _⟩, rfl, q0 rfl _ (I.hok.fresh (Nat.le_refl _))⟩
section
variable {K : PySem.W.Frag} {σ : L2.St} {H : Hp} {ta tb tc te : TE} {v x y z : V} {a b : Addr} {xs ys : List V}
/-- tuples behind each other -/
theorem eu_catA (h1 : Ev ta σ H v) (hv : TupV H v xs) (h2 : EvU tb σ H ys) (nx : xs ≠ []) (ny : ys ≠ []) (hz : xs.length + ys.length ≤ 100000) : EvU (tOp (rCatA K) ta tb) σ H (xs ++ ys) := fun H1 e Q q => by
  obtain ⟨p, rfl, hp⟩ := hv
  exact h1 H1 e _ fun H2 e2 => h2 H2 (e.trans e2) _ fun p2 H3 hp2 e3 h3 => ⟨p, p2, xs, ys, rfl, rfl, SqT.of ((e.trans (e2.trans e3)) _ _ hp), SqT.of h3, sz_of hz, fun z => absurd z nx, fun _ z => absurd z ny, fun _ _ l hl => q l _ (fresh_back (e2.trans e3) hl) ((e2.trans e3).trans (Ex.new hl)) upd_same⟩
theorem ep_catA (h1 : Ev ta σ H v) (hv : TupV H v xs) (h2 : EvP tb σ H (fun u H' => TupV H' u ys)) (hz : xs.length + ys.length ≤ 100000) : EvP (tOp (rCatA K) ta tb) σ H (fun u H' => TupV H' u (xs ++ ys)) := fun H1 e Q q => by
  obtain ⟨p, rfl, hp⟩ := hv
  refine h1 H1 e _ fun H2 e2 => h2 H2 (e.trans e2) _ fun u H3 e3 ⟨p2, hu, h3⟩ => ?_
  subst hu
  have hp3 := (e.trans (e2.trans e3)) _ _ hp
  refine ⟨p, p2, xs, ys, rfl, rfl, SqT.of hp3, SqT.of h3, sz_of hz, fun z => ?_, fun _ z => ?_, fun _ _ l hl => q _ _ ((e2.trans e3).trans (Ex.new hl)) ⟨l, rfl, upd_same⟩⟩
  · subst z
    exact q _ H3 (e2.trans e3) ⟨p2, rfl, h3⟩
  · subst z
    exact q _ H3 (e2.trans e3) ⟨p, rfl, by rw [List.append_nil]; exact hp3⟩
/-- (x,) * 0, (x,) * 1 -/
theorem ep_rep01 {c : Bool} (h1 : EvU ta σ H [z]) (h2 : Ev tb σ H (nV (if c then 1 else 0))) : EvP (tOp (rRep01 K) ta tb) σ H (fun u H' => TupV H' u (if c then [z] else [])) := fun H1 e Q q =>
  h1 H1 e _ fun p H2 hp e2 hp2 => h2 H2 (e.trans e2) _ fun H3 e3 => ⟨p, z, c, rfl, by cases c <;> rfl, SqT.of (e3 _ _ hp2), fun hc => by
    subst hc
    exact q _ H3 (e2.trans e3) ⟨p, rfl, e3 _ _ hp2⟩, fun hc l hl => by
    subst hc
    exact q _ _ ((e2.trans e3).trans (Ex.new hl)) ⟨l, rfl, upd_same⟩⟩
/-- lists behind each other: the second new -/
theorem ep_cat (h1 : Ev ta σ H (.ref a)) (ha : H a = some (.lst xs)) (h2 : EvL tb σ H ys) (hz : xs.length + ys.length ≤ 100000) : EvL (tOp rCat ta tb) σ H (xs ++ ys) := fun H1 e Q q =>
  h1 H1 e _ fun H2 e2 => h2 H2 (e.trans e2) _ fun p H3 hp e3 h3 => ⟨a, p, xs, ys, rfl, rfl, (e.trans (e2.trans e3)) _ _ ha, h3, sz_of hz, fun l hl => q l _ (fresh_back (e2.trans e3) hl) ((e2.trans e3).trans (Ex.new hl)) upd_same⟩
end
end K46
set_option Elab.async false
set_option linter.all false
set_option autoImplicit false
set_option maxRecDepth 100000
namespace K46
open PySem PySem.Spec PyProof.Rows L2 Evl
set_option maxHeartbeats 4000000
section
variable {P : Program} {w : World} {K : PySem.W.Frag} {mg : Str → Option Value} {base : Heap}
/-! ### _law_doubled -/
abbrev sDbl : Stmt := top 71
def spDbl (K : PySem.W.Frag) : Sp := fun vs H Q _ => ∃ (v : V) (T : Tb) (s : Nat), vs = [v, nV s] ∧ Plain H v T ∧ T.Ok ∧ T.n ≤ 60 ∧ s < T.n ∧ ∀ u H', Ex H H' → Plain H' u (dblT T s) → Q u H'
abbrev nDbl : List Str := ["_law_plain", "_law_state", "_law_many", "_law_rows", "_law_sides", "_law_good", "_law_gap", "_law_found", "_law_one"]
theorem scDbl : FnScope nDbl ["_law_plain", "_law_state"] (defScope sDbl) := ⟨rfl, rfl, rfl, by decide +kernel, rfl, by decide +kernel, by decide +kernel⟩
abbrev tDbC (K : PySem.W.Frag) (k : Str) : TE := tOp (rCatA K) (tOp (rIx K) (tDGet (tVar 0) (tC (.str k))) (tVar 8)) (tTup (tCons (tOp (rIx K) (tOp (rIx K) (tDGet (tVar 0) (tC (.str k))) (tVar 8)) (tVar 1)) tNil))
theorem ep_dbRows {H : Hp} {v r t a x : V} {d : Addr} {T : Tb} {s : Nat} {m : List (List Nat)} {x3 x4 x5 x6 x7 : Option V} {k : Str} (hp : PlainAt H v T r t a d) (hn : T.n ≤ 60) (hs : s < T.n) (hk : valV (plKV T r t a) (kx k) = some x) (hm : LstM H x m) (sq : Square T.n m) :
    EvP (tLc (iRng1 (tCons (tVar 2) tNil)) (gName 8) tYes (tDbC K k) [8]) [some v, some (nV s), some (nV T.n), x3, x4, x5, x6, x7, none] H (fun u H' => LstM H' u (ext1 s m)) := by
  have key : ext1 s m = (List.range T.n).map fun i => m.getD i [] ++ [cell m i s] := by
    unfold ext1
    rw [← map_range_get (xs := m) (fun r => r ++ [r.getD s 0]) (fun i => m.getD i [] ++ [cell m i s]) (fun i x hx => by unfold cell; rw [List.getD_eq_getElem?_getD, hx]; rfl), sq.len]
  rw [key]
  refine ep_rowsT (n := T.n) fun H1 e1 Q q => ?_
  refine elo_lc (o := fun i => .tup ((m.getD i [] ++ [cell m i s]).map nV)) (over_rng (n := T.n) (ea_cons (ev_var rfl) ea_nil) (by omega)).over (by omega) yFn_ex (fun i y H2 H3 hi e2 hy => ?_) H1 e1 Q q
  obtain ⟨rfl, rfl⟩ := hy
  have z0 : ((fun i : Nat => V.int (0 + (i : Int))) i) = nV i := by show V.int (0 + (i : Int)) = _; rw [Int.zero_add]
  rw [z0]
  refine ⟨[some v, some (nV s), some (nV T.n), x3, x4, x5, x6, x7, some (nV i)], rfl, fun Qs h => h, eo_U ?_⟩
  obtain ⟨p, rs, rfl, h1, h2⟩ := hm
  have hil : i < m.length := by rw [sq.len]; exact hi
  have em : m[i]? = some (m.getD i []) := by rw [getD_at _ _ hil]; exact List.getElem?_eq_getElem hil
  obtain ⟨u, eu, hu⟩ := paired_get h2 em
  have hu2 := TupV.mono hu e2
  have g := ev_pl (ta := tVar 0) (k := k) (σ := [some v, some (nV s), some (nV T.n), x3, x4, x5, x6, x7, some (nV i)]) (ev_var rfl) (hp.mono e2) hk
  have row := ev_ix (K := K) (i := i) g (ev_var (i := 8) rfl) (Sq.l (e2 _ _ h1)) eu
  have hrl : (m.getD i []).length = T.n := sq.row _ (List.mem_of_getElem? em)
  have hcell : ((m.getD i []).map nV)[s]? = some (nV (cell m i s)) := by
    unfold cell
    rw [List.getElem?_map, List.getElem?_eq_getElem (by omega), getD_at _ 0 (by omega : s < (m.getD i []).length)]; rfl
  rw [List.map_append]
  refine eu_catA row hu2 (eu_tup (ea_cons (ev_ix (i := s) row (ev_var rfl) (TupV.sq hu2) hcell) ea_nil) (by show 1 ≤ 100000; decide)) (fun z => ?_) (fun z => by cases z) (by rw [List.length_map, hrl]; show T.n + 1 ≤ 100000; omega)
  have := congrArg List.length z
  rw [List.length_map, hrl] at this
  have h0 : T.n = 0 := this
  omega
theorem ev_eqN {σ : L2.St} {H : Hp} {ta tb : TE} {a b : Nat} {c : Bool} (h1 : Ev ta σ H (nV a)) (h2 : Ev tb σ H (nV b)) (hc : decide (a = b) = c) : Ev (tOp rEq ta tb) σ H (.bl c) := by
  have h := ev_op h1 h2 (rv_eq (x := nV a) (y := nV b) rfl)
  have e : decide (nV a = nV b) = c := by
    rw [← hc]
    exact decide_eq_decide.mpr ⟨fun z => Int.ofNat.inj (V.int.inj z), fun z => by rw [z]⟩
  rwa [e] at h
theorem ep_catT {σ : L2.St} {H : Hp} {ta tb : TE} {a : Addr} {xs ys : List V} (h1 : Ev ta σ H (.ref a)) (ha : H a = some (.lst xs)) (h2 : EvU tb σ H ys) (hz : xs.length + 1 ≤ 100000) : EvP (tOp rCat ta (tLst (tCons tb tNil))) σ H (fun u H' => ∃ p y, u = .ref p ∧ H' p = some (.lst (xs ++ [y])) ∧ TupV H' y ys) := fun H1 e Q q =>
  h1 H1 e _ fun H2 e2 => h2 H2 (e.trans e2) _ fun p1 H3 hp1 e3 h3 => ⟨sz_of (by show 1 ≤ 100000; decide), fun p hp => ⟨a, p, xs, [.ref p1], rfl, rfl, ((e.trans (e2.trans e3)).trans (Ex.new hp)) _ _ ha, upd_same, sz_of hz, fun l hl =>
    q _ _ (((e2.trans e3).trans (Ex.new hp)).trans (Ex.new hl)) ⟨l, .ref p1, rfl, upd_same, p1, rfl, ((Ex.new hp).trans (Ex.new hl)) _ _ h3⟩⟩⟩
theorem ok_dbl (B : Free mg) (F : FnG K "_law_doubled" sDbl) (hm : mg "_law_doubled" = some (.ref (He.ga K "_law_doubled"))) : Pr P w K mg base 1 "_law_doubled" ["_law_plain", "_law_state"] (spDbl K) := by
  refine pr_mk F hm scDbl (fun _ _ _ _ _ _ us hl => match us, hl with | [_, _], _ => rfl) (fun vs H Q E h => ?_) (fun f cdv A outer s H vs Q E hr h => ?_)
  · obtain ⟨v, T, s, rfl, _⟩ := h
    rfl
  · obtain ⟨v, T, s, rfl, ⟨r, t, a, d, hp⟩, ok, hn, hs, k⟩ := h
    have hu := hu_of hr
    refine ⟨_, pss_cons (ps_set (i := 2) scDbl.nd rfl (Or.inr rfl) (pe_callB call_len_seq (by rfl) B.len b_len (pa_cons (pe_dget hu (pv 0) pe_str (fun _ _ => rfl)) pa_nil)))
      (pss_cons (ps_setLc (i := 3) (own := [("_law_one", 8)]) (g := gName 8) (tt := tYes) (te := tDbC K "rows") rfl scDbl.nd rfl rfl (sw_true rfl rfl rfl (by decide +kernel)) (pi_range1 (by rfl) B.range (pa_cons (pv 2) pa_nil)) (blkOk_by (by kernel_rfl)) (fun _ _ _ _ _ => pg_name (i := 8) scDbl.nd rfl (Or.inl rfl)) (fun _ _ _ _ _ => pts_nil)
          (fun _ _ _ _ _ => pe_op op_catA (pe_ix ix_seq (pe_dget hu (pv 0) pe_str (fun _ _ => rfl)) (pv 8) (fun _ _ => rfl)) (pe_tup (pa_cons (pe_ix ix_seq (pe_ix ix_seq (pe_dget hu (pv 0) pe_str (fun _ _ => rfl)) (pv 8) (fun _ _ => rfl)) (pv 1) (fun _ _ => rfl)) pa_nil))))
      (pss_cons (ps_setLc (i := 4) (own := [("_law_one", 8)]) (g := gName 8) (tt := tYes) (te := tDbC K "sides") rfl scDbl.nd rfl rfl (sw_true rfl rfl rfl (by decide +kernel)) (pi_range1 (by rfl) B.range (pa_cons (pv 2) pa_nil)) (blkOk_by (by kernel_rfl)) (fun _ _ _ _ _ => pg_name (i := 8) scDbl.nd rfl (Or.inl rfl)) (fun _ _ _ _ _ => pts_nil)
          (fun _ _ _ _ _ => pe_op op_catA (pe_ix ix_seq (pe_dget hu (pv 0) pe_str (fun _ _ => rfl)) (pv 8) (fun _ _ => rfl)) (pe_tup (pa_cons (pe_ix ix_seq (pe_ix ix_seq (pe_dget hu (pv 0) pe_str (fun _ _ => rfl)) (pv 8) (fun _ _ => rfl)) (pv 1) (fun _ _ => rfl)) pa_nil))))
      (pss_cons (ps_set (i := 3) scDbl.nd rfl (Or.inl rfl) (pe_op op_cat (pv 3) (pe_lst (pa_cons (pe_ix ix_seq (pv 3) (pv 1) (fun _ _ => rfl)) pa_nil))))
      (pss_cons (ps_set (i := 4) scDbl.nd rfl (Or.inl rfl) (pe_op op_cat (pv 4) (pe_lst (pa_cons (pe_callTy call_tuple_of (by rfl) B.tuple b_tuple (pa_cons
          (pe_lc (own := [("_law_one", 8)]) (g := gName 8) (tt := tYes) (te := tIf (tTest (tOp rEq (tVar 8) (tVar 1))) (tVar 2) (tVar 8)) rfl scDbl.nd (pi_seq (pe_ix ix_seq (pv 4) (pv 1) (fun _ _ => rfl))) (blkOk_by (by kernel_rfl)) (fun _ _ _ _ _ => pg_name (i := 8) scDbl.nd rfl (Or.inl rfl)) (fun _ _ _ _ _ => pts_nil)
            (fun _ _ _ _ _ => pe_ifExp (pt_cmpR op_eq (pv 8) (pv 1) (nomark _)) (pv 2) (pv 8))) pa_nil)) pa_nil))))
      (pss_cons (ps_set (i := 5) scDbl.nd rfl (Or.inl rfl) (pe_op op_catA (pe_dget hu (pv 0) pe_str (fun _ _ => rfl)) (pe_op op_rep01 (pe_tup (pa_cons (pv 2) pa_nil)) (pe_callTy call_int1 (by rfl) B.int b_int (pa_cons (pe_cmpR op_in_seq (pv 1) (pe_dget hu (pv 0) pe_str (fun _ _ => rfl)) (by rfl)) pa_nil)))))
      (pss_cons (ps_set (i := 6) scDbl.nd rfl (Or.inl rfl) (pe_ifExp (pt_cmpR op_eq (pe_dget hu (pv 0) pe_str (fun _ _ => rfl)) (pv 1) (nomark _)) (pv 2) (pe_dget hu (pv 0) pe_str (fun _ _ => rfl))))
      (pss_cons (ps_set (i := 7) scDbl.nd rfl (Or.inl rfl) (pe_disp (pps_cons pe_str (pe_dget hu (pv 0) pe_str (fun _ _ => rfl)) (pps_cons pe_str (pv 6) (pps_cons pe_str (pv 3) (pps_cons pe_str (pv 4) pps_nil)))) (by rfl) (by rfl) (fun z => by cases z) (by decide)))
      (pss_cons (ps_dput hu (pv 7) pe_str (pv 5) rfl)
      (pss_one (ps_ret (pv 7))))))))))), ?_⟩
    have g : ∀ {H' : Hp} {k : Str} {x : V} {σ : L2.St}, σ[0]? = some (some v) → Ex H H' → valV (plKV T r t a) (kx k) = some x → Ev (tDGet (tVar 0) (tC (.str k))) σ H' x := fun s0 e hk => ev_pl (ev_var s0) (hp.mono e) hk
    obtain ⟨pr, rr, hpr, hr1, hr2⟩ := id hp.rows
    have lr : rr.length = T.n := paired_length hr2
    refine q_asg (v := nV T.n) (by have := ev_lenS (K := K) (g (σ := L2.start nDbl [v, nV s]) rfl (Ex.refl _) (pl_rows T r t a)) (by rw [hpr]; exact Sq.l hr1); rw [lr] at this; exact this) fun H1 e1 => ?_
    refine q_asgP (ep_dbRows (x3 := none) (x4 := none) (x5 := none) (x6 := none) (x7 := none) (hp.mono e1) hn hs (pl_rows T r t a) (hp.rows.mono e1) ok.rows) fun u1 H2 e2 hu1 => ?_
    have e12 := e1.trans e2
    refine q_asgP (ep_dbRows (x3 := some u1) (x4 := none) (x5 := none) (x6 := none) (x7 := none) (hp.mono e12) hn hs (pl_sides T r t a) (hp.sides.mono e12) ok.sides) fun u2 H3 e3 hu2 => ?_
    have e13 := e12.trans e3
    have hu13 := hu1.mono e3
    obtain ⟨p1, r1, rfl, h1, h1p⟩ := id hu13
    obtain ⟨p2, r2, rfl, h2, h2p⟩ := id hu2
    have sl : s < (ext1 s T.rows).length := by rw [ext1_len, ok.rows.len]; exact hs
    have sl2 : s < (ext1 s T.sides).length := by rw [ext1_len, ok.sides.len]; exact hs
    have m1 : (ext1 s T.rows)[s]? = some ((ext1 s T.rows).getD s []) := by rw [getD_at _ _ sl]; exact List.getElem?_eq_getElem sl
    have m2 : (ext1 s T.sides)[s]? = some ((ext1 s T.sides).getD s []) := by rw [getD_at _ _ sl2]; exact List.getElem?_eq_getElem sl2
    obtain ⟨w1, hw1, hw1t⟩ := paired_get h1p m1
    obtain ⟨w2, hw2, hw2t⟩ := paired_get h2p m2
    have l1 : r1.length = T.n := by rw [paired_length h1p, ext1_len, ok.rows.len]
    have l2 : r2.length = T.n := by rw [paired_length h2p, ext1_len, ok.sides.len]
    refine q_asgO (o := .lst (r1 ++ [w1])) (eo_L (ep_cat (ev_var rfl) h1 (el_lst (ea_cons (ev_ix (K := K) (i := s) (ev_var rfl) (ev_var rfl) (Sq.l h1) hw1) ea_nil) (by show 1 ≤ 100000; decide)) (by rw [l1]; show T.n + 1 ≤ 100000; omega))) fun q1 H4 hq1 e4 h4 => ?_
    have R1 : LstM H4 (.ref q1) (dblT T s).rows := ⟨q1, _, rfl, h4, paired_snoc (paired_mono (fun _ _ q => TupV.mono q e4) h1p) (TupV.mono hw1t e4)⟩
    have e14 := e13.trans e4
    refine q_asgP (ep_catT (ys := ((((ext1 s T.sides).getD s []).map fun x => if x = s then T.n else x)).map nV) (ev_var rfl) (e4 _ _ h2) (eu_tupL ?_) (by rw [l2]; omega)) fun u4 H5 e5 hu4 => ?_
    · have hrl : ((ext1 s T.sides).getD s []).length = T.n + 1 := (ext1_mem ok hs ok.sides _ (List.mem_of_getElem? m2)).1
      have e := elv_lc (te := tIf (tTest (tOp rEq (tVar 8) (tVar 1))) (tVar 2) (tVar 8)) (vs := [8]) (g := gName 8) (tt := tYes) (σ := [some v, some (nV s), some (nV T.n), some (.ref q1), some (.ref p2), none, none, none, none]) (H := H4) (fun _ => true) (fun i => nV (if ((ext1 s T.sides).getD s []).getD i 0 = s then T.n else ((ext1 s T.sides).getD s []).getD i 0))
        (over_seq (K := K) (tl := tOp (rIx K) (tVar 4) (tVar 1)) (ev_ix (i := s) (ev_var rfl) (ev_var rfl) (Sq.l (e4 _ _ h2)) hw2) (TupV.sq (TupV.mono hw2t e4))).over (by rw [List.length_map, hrl]; omega) yAt_ex (fun i x H6 H7 hi e6 hy => ?_)
      · rw [given_all, List.length_map, map_range_get (xs := (ext1 s T.sides).getD s []) (fun x => nV (if x = s then T.n else x)) (fun i => nV (if ((ext1 s T.sides).getD s []).getD i 0 = s then T.n else ((ext1 s T.sides).getD s []).getD i 0)) (fun i x hx => by rw [List.getD_eq_getElem?_getD (l := (ext1 s T.sides).getD s []), hx]; rfl)] at e
        rw [List.map_map]
        exact e
      obtain ⟨rfl, hx⟩ := hy
      rw [List.getElem?_map] at hx
      obtain ⟨b, hb, rfl⟩ := Option.map_eq_some_iff.mp hx
      have eb : ((ext1 s T.sides).getD s []).getD i 0 = b := by rw [List.getD_eq_getElem?_getD (l := (ext1 s T.sides).getD s []), hb]; rfl
      rw [eb]
      refine ⟨[some v, some (nV s), some (nV T.n), some (.ref q1), some (.ref p2), none, none, none, some (nV b)], rfl, fun Qs h => h, fun H8 _ Q q => q H8 (Ex.refl _), fun _ => ?_⟩
      by_cases z : b = s
      · rw [if_pos z]
        exact ev_if (b := true) (et_test (ev_eqN (ev_var rfl) (ev_var rfl) (decide_eq_true z))) (fun _ => ev_var rfl) (fun z => by cases z)
      · rw [if_neg z]
        exact ev_if (b := false) (et_test (ev_eqN (ev_var rfl) (ev_var rfl) (decide_eq_false z))) (fun z => by cases z) (fun _ => ev_var rfl)
    obtain ⟨q2, y2, rfl, h5, hy2⟩ := hu4
    have R2 : LstM H5 (.ref q2) (dblT T s).sides := ⟨q2, _, rfl, h5, paired_snoc (paired_mono (fun _ _ q => TupV.mono q (e4.trans e5)) h2p) hy2⟩
    have e15 := e14.trans e5
    have la : T.acc.length ≤ T.n := nodup_le _ _ (ok.asc.imp fun h => Nat.ne_of_lt h) ok.acc
    refine q_asgP (ep_catA (xs := T.acc.map nV) (ys := if decide (s ∈ T.acc) then [nV T.n] else []) (g rfl e15 (pl_acc T r t a)) (TupV.mono hp.acc e15)
      (ep_rep01 (eu_tup (ea_cons (ev_var rfl) ea_nil) (by show 1 ≤ 100000; decide)) (ev_intB (ev_op (ev_var rfl) (g rfl e15 (pl_acc T r t a)) (rv_inN (TupV.sq (TupV.mono hp.acc e15)))))) (by rw [List.length_map]; split <;> simp only [List.length_cons, List.length_nil] <;> omega)) fun u5 H6 e6 hu5 => ?_
    have e16 := e15.trans e6
    have A1 : TupN H6 u5 (dblT T s).acc := by
      have em : T.acc.map nV ++ (if decide (s ∈ T.acc) then [nV T.n] else []) = (dblT T s).acc.map nV := by
        show _ = (T.acc ++ if s ∈ T.acc then [T.n] else []).map nV
        rw [List.map_append]
        by_cases z : s ∈ T.acc
        · rw [if_pos z, if_pos (decide_eq_true z)]; rfl
        · rw [if_neg z, if_neg (by rw [decide_eq_false z]; decide)]; rfl
      show TupV H6 u5 ((dblT T s).acc.map nV)
      rw [← em]
      exact hu5
    refine q_asg (v := nV (dblT T s).gap) (ev_if (b := decide (T.gap = s)) (et_test (ev_eqN (g rfl e16 (pl_gap T r t a)) (ev_var rfl) rfl)) (fun z => ?_) (fun z => ?_)) fun H7 e7 => ?_
    · have : (dblT T s).gap = T.n := if_pos (of_decide_eq_true z)
      rw [this]
      exact ev_var rfl
    · have : (dblT T s).gap = T.gap := if_neg (of_decide_eq_false z)
      rw [this]
      exact g rfl e16 (pl_gap T r t a)
    have e17 := e16.trans e7
    refine q_asgO (eo_disp (kvs := [(kx "tie", nV T.tie), (kx "gap", nV (dblT T s).gap), (kx "rows", .ref q1), (kx "sides", .ref q2)]) (eps_cons ev_c (g rfl e17 (pl_tie T r t a)) (eps_cons ev_c (ev_var rfl) (eps_cons ev_c (ev_var rfl) (eps_cons ev_c (ev_var rfl) eps_nil)))) (by show 4 ≤ 15; decide)) fun Df H8 hDf e8 h8 => ?_
    rw [mergeK_nodup (kx_nodup _ _ _ _)] at h8
    refine q_dput (k := kx "accepted") (v := u5) (ev_var rfl) (ev_var rfl) ev_c h8 (by show 4 < sizeLine; decide) fun H9 e9 => ?_
    rw [show ([(kx "tie", nV T.tie), (kx "gap", nV (dblT T s).gap), (kx "rows", .ref q1), (kx "sides", .ref q2)] : List (Key × V)) = [(kx "tie", nV (dblT T s).tie), (kx "gap", nV (dblT T s).gap), (kx "rows", .ref q1), (kx "sides", .ref q2)] from rfl, plKV_put]
    have em : Ex H7 (upd H9 Df (.dK (plKV (dblT T s) (.ref q1) (.ref q2) u5))) := (e8.trans e9).mut hDf
    exact s_ret (ev_var rfl) fun H10 e10 => k _ H10 ((e17.trans em).trans e10) ⟨.ref q1, .ref q2, u5, Df, rfl, e10 _ _ upd_same, R1.mono (e5.trans (e6.trans (e7.trans (em.trans e10)))), R2.mono (e6.trans (e7.trans (em.trans e10))), TupV.mono A1 (e7.trans (em.trans e10))⟩
end
end K46
set_option Elab.async false
set_option linter.all false
set_option autoImplicit false
set_option maxRecDepth 100000
/-! K46R9: set(xs) and sorted(set(xs)), xs a list of ints with repetitions. -/
namespace K46
open PySem PySem.Spec PyProof.Rows L2 Evl
set_option maxHeartbeats 4000000
/-- the empty set that set.__new__ lays -/
abbrev noSet (w : World) : Obj := { cls := .type "set", dict := none, data := .set #[] 0 (.fresh 0 0 (!w.params.followText "set-order")) }
section
variable {P : Program} {w : World} {A : Around} {E : Value → Shared → Prop} {s : Shared}
/-- set.__init__(the new set, a list of ints) -/
theorem set_init_list {l : Addr} {items : Array Value} (ns : List Int) (hh : A.handled = none) (hl : s.heap.IsList l items) (hit : IntsAre items.toList ns) (hb : ns.length + 1 < scanBound) :
    codeAny (model P w) A (.call (.builtin "set.__init__") ⟨[.ref s.heap.objs.size, .ref l], []⟩) (wants
      (fun r s₂ => r = .none ∧ ∃ h' tk c, s₂ = { s with heap := h', toks := tk } ∧ SetR w h' s.heap.objs.size (fun j => decide (j ∈ ns)) c ∧ (∀ b o, s.heap.get? b = some o → h'.get? b = some o)) E)
      { s with heap := s.heap.push (noSet w) } := by
  have hsz : items.size = ns.length := by rw [← Array.length_toList]; exact IntsAre.length hit
  obtain ⟨⟨_, odict, _, oslots⟩, hol, hcl, nl, hdl⟩ := hl
  simp only at hcl hdl
  subst hcl; subst hdl
  have hlS : l < s.heap.objs.size := Heap.lt_size hol
  have ol2 := Heap.get?_push_of_some (noSet w) hol
  have hl1 : (s.heap.push (noSet w)).IsList l items := ⟨_, ol2, rfl, nl, rfl⟩
  have hS : (s.heap.push (noSet w)).get? s.heap.objs.size = some (noSet w) := Heap.get?_push_size _ rfl
  have hz1 : (s.heap.push (noSet w)).objs.size = s.heap.objs.size + 1 := Heap.size_push ..
  have hT : Shared.TypeIs { s with heap := s.heap.push (noSet w) } (.ref s.heap.objs.size) "set" := ⟨_, hS, rfl⟩
  have n1 : l ≠ (s.heap.push (noSet w)).objs.size := Nat.ne_of_lt (Nat.lt_of_lt_of_eq (Nat.lt_succ_of_lt hlS) hz1.symm)
  have n2 : s.heap.objs.size ∉ [(s.heap.push (noSet w)).objs.size, l] := by
    rw [hz1]
    simp only [List.mem_cons, List.not_mem_nil, or_false, not_or]
    exact ⟨Nat.ne_of_lt (Nat.lt_succ_self _), Nat.ne_of_gt hlS⟩
  refine codeAny_call_builtin F.called_set.init.plain F.entry_set_init (check_set_init_1 hT ?_)
  have a1 := F.sub_list_set
  have a2 := F.sub_list_frozenset
  have a3 : (Value.type "list" == Value.type "dict") = false := by decide
  unfold Builtin.«set.__init__» noKeywords Builtin.Frozenset.updateFrom
  generalize hPI : pyIter = PI
  wp_walk
  subst hPI
  refine wpAny_pyIter_list hl1 (wpAny_bind (wpAny_runValue ?_))
  refine set_update_ints ((Walks.list (by simp [hh]) _ l n1 items).toS) s.heap.objs.size n2 ns hsz hb (fun i v hv => ?_) (items.size - 0) 0 _ (by omega) (Nat.zero_le _)
    ⟨⟨_, Heap.get?_push_size _ rfl, rfl, rfl⟩, hl1.push _⟩ ⟨0, Nat.le_refl 0, setR_new_at (Heap.get?_push_of_some _ hS)⟩ fun s' c' hm hc' hS' => ?_
  · have hi : i < ns.length := by rw [← hsz]; exact (Array.getElem?_eq_some_iff.mp hv).1
    obtain ⟨t, e⟩ := PyProof.Rows.IntsAre.int_at hit i v (by rw [Array.getElem?_toList]; exact hv)
    exact ⟨ns[i], t, List.getElem?_eq_getElem hi, by rw [e, List.getD_eq_getElem?_getD, List.getElem?_eq_getElem hi] <;> rfl⟩
  · obtain ⟨h', g2, d2, tk', os2⟩ := s'
    obtain rfl : g2 = s.gens := hm.gens
    obtain rfl : d2 = s.drawn := hm.drawn
    obtain rfl : os2 = s.os := hm.os
    refine wpAny_pure (wpAny_pure ⟨rfl, h', tk', c', rfl, hS', fun b o e => ?_⟩)
    have hb0 : b < s.heap.objs.size := Heap.lt_size e
    exact hm.heap b o (by simp only [List.mem_cons, List.not_mem_nil, or_false, not_or]; exact ⟨Nat.ne_of_lt hb0, Nat.ne_of_lt (Nat.lt_of_lt_of_eq (Nat.lt_succ_of_lt hb0) hz1.symm)⟩) (Heap.get?_push_of_some _ (Heap.get?_push_of_some _ e))
/-- set(a list of ints) -/
theorem call_set_ints {l : Addr} {items : Array Value} (ns : List Int) {Q : Value → Shared → Prop} (hh : A.handled = none) (hl : s.heap.IsList l items) (hit : IntsAre items.toList ns) (hb : ns.length + 1 < scanBound)
    (h : ∀ (h' : Heap) (tk c : Nat), SetR w h' s.heap.objs.size (fun j => decide (j ∈ ns)) c → (∀ b o, s.heap.get? b = some o → h'.get? b = some o) → Q (.ref s.heap.objs.size) { s with heap := h', toks := tk }) :
    wpAny (model P w) A (call (.type "set") [.ref l]) Q E s := by
  obtain ⟨c, tl, hmro⟩ := F.called_set.mro
  have hmade := F.called_set.made
  have hsub := F.called_set.sub
  refine wpAny_call (codeAny_of_tree ?_)
  show wpAny _ _ (callAny (.type "set") _) _ _ _
  refine wpAny_pure ⟨Code.quiet_builtin _ (by decide +kernel), codeAny_builtin F.entry_type_call ?_⟩
  rw [Around.under_plain (weight_type_call_type "set" [.ref l] []) rfl]
  have h1 := F.called_set.notType
  have h2 := F.called_set.canCreate
  have hct := F.typeCall_set_1 (.ref l)
  repeat (any_goals (first | assumption | wp_step))
  refine codeAny_mono (code_set_led1 (.ref l) (E := E) (Q₁ := fun obj s₁ => obj = .ref s.heap.objs.size ∧ s₁ = { s with heap := s.heap.push (noSet w) }) ⟨rfl, rfl⟩) fun r s₁ hr => ?_
  cases r with
  | error e => exact hr
  | ok fl =>
    cases fl with
    | ret obj =>
      obtain ⟨rfl, rfl⟩ := hr
      have hT : Shared.TypeIs { s with heap := s.heap.push (noSet w) } (.ref s.heap.objs.size) "set" := ⟨_, Heap.get?_push_size _ rfl, rfl⟩
      have hli := F.called_set.init.lookup
      have hbi := F.called_set.init.bind (.ref s.heap.objs.size)
      repeat (any_goals (first | assumption | wp_step))
      refine codeAny_mono (set_init_list (E := E) ns (by simp [hh]) hl hit hb) fun r₂ s₂ hr₂ => ?_
      cases r₂ with
      | error e => exact hr₂
      | ok fl₂ =>
        cases fl₂ with
        | ret r =>
          obtain ⟨rfl, h', tk, c', rfl, hS', hk'⟩ := hr₂
          repeat (any_goals (first | assumption | wp_step))
          exact h _ _ _ hS' hk'
        | _ => exact hr₂.elim
    | _ => exact hr.elim
end
section
variable {X : Cx}
def rSetI (K : PySem.W.Frag) (w : World) : List V → Hp → VK → Prop := fun xs H Q => ∃ (l : Addr) (ns : List Int), xs = [V.ref l] ∧ SqL K H l (ns.map V.int) ∧ ns.length < 4000 ∧
  ∀ (a : Addr) (ks : List Int), H a = none → ks.Nodup → (∀ k, k ∈ ks ↔ k ∈ ns) → Q (.ref a) (upd H a (SetO w a (fun j => decide (j ∈ ns)) ks.length))
theorem cr_setI (hc : X.calm = true) : CallR X (.type "set") (rSetI X.K X.w) := by
  intro pins s σ H xs us Q I r h
  obtain ⟨l, ns, rfl, hl, hz, q⟩ := h
  rw [Vals.ref1 r]
  obtain ⟨its, rv, pl, hz2⟩ := I.list hl
  refine call_set_ints ns (I.ok.hd hc) pl.isList (by simpa using rv.ints) (by unfold scanBound; omega) fun h' tk c R k => ?_
  obtain ⟨o, es, ep, t, ho, hex, hd, g, nd, hm, hb, hf, hn, hr, hl2⟩ := id R
  refine ⟨.ref s.heap.objs.size, upd H s.heap.objs.size (SetO X.w s.heap.objs.size (fun j => decide (j ∈ ns)) c), I.laid (t' := tk) k (Nat.le_refl _) (setO_new R), rfl, ?_⟩
  have := q s.heap.objs.size (es.toList.map keyOf) (I.hok.fresh (Nat.le_refl _)) nd fun k => by rw [← hm k, decide_eq_true_eq]
  rw [List.length_map, Array.length_toList, hn] at this
  exact this
end
theorem asc_ext : ∀ (l m : List Int), l.Pairwise (· < ·) → m.Pairwise (· < ·) → (∀ k, k ∈ l ↔ k ∈ m) → l = m
  | [], [], _, _, _ => rfl
  | [], b :: m, _, _, h => absurd ((h b).mpr List.mem_cons_self) (by simp)
  | a :: l, [], _, _, h => absurd ((h a).mp List.mem_cons_self) (by simp)
  | a :: l, b :: m, h1, h2, h => by
    obtain ⟨a1, a2⟩ := List.pairwise_cons.mp h1
    obtain ⟨b1, b2⟩ := List.pairwise_cons.mp h2
    have e : a = b := by
      rcases List.mem_cons.mp ((h a).mp List.mem_cons_self) with z | z
      · exact z
      · rcases List.mem_cons.mp ((h b).mpr List.mem_cons_self) with y | y
        · exact y.symm
        · have := b1 _ z; have := a1 _ y; omega
    subst e
    rw [asc_ext l m a2 b2 fun k => ⟨fun hk => ?_, fun hk => ?_⟩]
    · rcases List.mem_cons.mp ((h k).mp (List.mem_cons_of_mem _ hk)) with z | z
      · have := a1 _ hk; omega
      · exact z
    · rcases List.mem_cons.mp ((h k).mpr (List.mem_cons_of_mem _ hk)) with z | z
      · have := b1 _ hk; omega
      · exact z
section
variable {K : PySem.W.Frag} {w : World} {σ : L2.St} {H : Hp} {ta : TE} {a : Addr}
/-- sorted(set(xs)) -/
theorem el_sortedSetP {xs ys : List Nat} (h : EvP ta σ H (fun u H' => ∃ p, u = .ref p ∧ H' p = some (.lst (xs.map nV)))) (hx : xs.length < 4000) (hn : ∀ x ∈ xs, x < 60) (hy : ys.Pairwise (· < ·)) (hm : ∀ k, k ∈ ys ↔ k ∈ xs) : EvL (tCB (rSortedSet w) (tCons (tCB (rSetI K w) (tCons ta tNil)) tNil)) σ H (ys.map nV) := fun H1 e Q q => by
  refine h H1 e _ fun u H2 e2 ⟨p, hu, h2⟩ => ?_
  subst hu
  have e0 : xs.map nV = (xs.map fun n : Nat => (n : Int)).map V.int := by rw [List.map_map]; rfl
  refine ⟨p, xs.map fun n : Nat => (n : Int), rfl, by rw [← e0]; exact SqL.of h2, by rw [List.length_map]; exact hx, fun a ks ha nd hk => ?_⟩
  refine ⟨a, _, ks.length, rfl, upd_same, ?_, fun ns l hs hS hl hf => ?_⟩
  · have hb : ∀ k ∈ ks, ∃ n : Nat, k = n ∧ n < 60 := fun k hk2 => by
      obtain ⟨n, h1, rfl⟩ := List.mem_map.mp ((hk k).mp hk2)
      exact ⟨n, rfl, hn n h1⟩
    have hle := nodup_le 60 (ks.map Int.toNat) (List.pairwise_map.mpr (nd.imp_of_mem fun ha hb2 ne z => by
      obtain ⟨n, rfl, _⟩ := hb _ ha
      obtain ⟨m, rfl, _⟩ := hb _ hb2
      exact ne (by rw [Int.toNat_natCast, Int.toNat_natCast] at z; rw [z]))) fun x hx => by
      obtain ⟨k, h1, rfl⟩ := List.mem_map.mp hx
      obtain ⟨n, rfl, hlt⟩ := hb _ h1
      exact hlt
    rw [List.length_map] at hle
    omega
  · have en : ns = ys.map fun n : Nat => (n : Int) := asc_ext _ _ hs (List.pairwise_map.mpr (hy.imp fun h => Int.ofNat_lt.mpr h)) fun k => by
      rw [hS k, decide_eq_true_eq, List.mem_map, List.mem_map]
      exact ⟨fun ⟨n, h1, h2⟩ => ⟨n, (hm n).mpr h1, h2⟩, fun ⟨n, h1, h2⟩ => ⟨n, (hm n).mp h1, h2⟩⟩
    subst en
    have := q l _ (fresh_back (e2.trans (Ex.new ha)) hf) ((e2.trans (Ex.new ha)).trans (Ex.new hf)) upd_same
    rw [show ys.map nV = (ys.map fun n : Nat => (n : Int)).map V.int by rw [List.map_map]; rfl] at this
    exact this
theorem el_sortedSet {xs ys : List Nat} (h : EvL ta σ H (xs.map nV)) (hx : xs.length < 4000) (hn : ∀ x ∈ xs, x < 60) (hy : ys.Pairwise (· < ·)) (hm : ∀ k, k ∈ ys ↔ k ∈ xs) : EvL (tCB (rSortedSet w) (tCons (tCB (rSetI K w) (tCons ta tNil)) tNil)) σ H (ys.map nV) :=
  el_sortedSetP (fun H1 e Q q => h H1 e Q fun p H2 _ e2 h2 => q _ H2 e2 ⟨p, rfl, h2⟩) hx hn hy hm
end
end K46
set_option linter.all false
set_option autoImplicit false
/-! K46Math6: the reached states, found by turns until nothing is new. -/
namespace K46
def moreT (T : Tb) (l : List Nat) : List Nat := l ++ l.flatMap fun i => l.map (T.R i) ++ l.map (T.S i)
def among (n : Nat) (xs : List Nat) : List Nat := (List.range n).filter fun k => decide (k ∈ xs)
theorem among_asc (n : Nat) (xs : List Nat) : (among n xs).Pairwise (· < ·) := List.Pairwise.filter _ List.pairwise_lt_range
theorem among_mem {n : Nat} {xs : List Nat} {k : Nat} : k ∈ among n xs ↔ k < n ∧ k ∈ xs := by
  unfold among
  rw [List.mem_filter, List.mem_range, decide_eq_true_eq]
theorem among_mem' {n : Nat} {xs : List Nat} (h : ∀ x ∈ xs, x < n) {k : Nat} : k ∈ among n xs ↔ k ∈ xs := among_mem.trans ⟨fun z => z.2, fun z => ⟨h k z, z⟩⟩
theorem mem_moreT {T : Tb} {l : List Nat} {k : Nat} : k ∈ moreT T l ↔ k ∈ l ∨ ∃ i ∈ l, ∃ j ∈ l, k = T.R i j ∨ k = T.S i j := by
  unfold moreT
  rw [List.mem_append, List.mem_flatMap]
  refine or_congr Iff.rfl ⟨fun ⟨i, hi, h⟩ => ?_, fun ⟨i, hi, j, hj, h⟩ => ⟨i, hi, ?_⟩⟩
  · rcases List.mem_append.mp h with h | h
    · obtain ⟨j, hj, rfl⟩ := List.mem_map.mp h
      exact ⟨i, hi, j, hj, .inl rfl⟩
    · obtain ⟨j, hj, rfl⟩ := List.mem_map.mp h
      exact ⟨i, hi, j, hj, .inr rfl⟩
  · rcases h with rfl | rfl
    · exact List.mem_append_left _ (List.mem_map_of_mem hj)
    · exact List.mem_append_right _ (List.mem_map_of_mem hj)
structure RI (T : Tb) (i : Nat) (l : List Nat) : Prop where
  asc : l.Pairwise (· < ·)
  rch : ∀ x ∈ l, Rch T x
  tie : T.tie ∈ l
  gap : T.gap ∈ l
  len : i < l.length
theorem RI.lt {T : Tb} {i : Nat} {l : List Nat} (h : RI T i l) (ok : T.Ok) : ∀ x ∈ l, x < T.n := fun x hx => (h.rch x hx).lt ok
theorem RI.moreRch {T : Tb} {i : Nat} {l : List Nat} (h : RI T i l) : ∀ x ∈ moreT T l, Rch T x := fun x hx => by
  rcases mem_moreT.mp hx with hx | ⟨a, ha, b, hb, rfl | rfl⟩
  · exact h.rch x hx
  · exact Rch.op true (h.rch a ha) (h.rch b hb)
  · exact Rch.op false (h.rch a ha) (h.rch b hb)
theorem RI.zero {T : Tb} (ok : T.Ok) : RI T 0 (among T.n [T.tie, T.gap]) := by
  have m : ∀ k, k ∈ among T.n [T.tie, T.gap] ↔ k ∈ [T.tie, T.gap] := fun k => among_mem' fun x hx => by
    rcases List.mem_cons.mp hx with rfl | hx
    · exact ok.tie
    · rw [List.mem_singleton.mp hx]; exact ok.gap
  refine ⟨among_asc _ _, fun x hx => ?_, (m _).mpr List.mem_cons_self, (m _).mpr (List.mem_cons_of_mem _ List.mem_cons_self), List.length_pos_of_mem ((m _).mpr List.mem_cons_self)⟩
  rcases List.mem_cons.mp ((m x).mp hx) with rfl | hx
  · exact Rch.tie T
  · rw [List.mem_singleton.mp hx]; exact Rch.gap T
/-- one ascending list within another -/
theorem asc_len : ∀ (l m : List Nat), l.Pairwise (· < ·) → m.Pairwise (· < ·) → (∀ k ∈ l, k ∈ m) → l = m ∨ l.length < m.length
  | [], [], _, _, _ => .inl rfl
  | [], b :: m, _, _, _ => .inr (Nat.succ_pos _)
  | a :: l, [], _, _, h => absurd (h a List.mem_cons_self) (by simp)
  | a :: l, b :: m, h1, h2, h => by
    obtain ⟨a1, a2⟩ := List.pairwise_cons.mp h1
    obtain ⟨b1, b2⟩ := List.pairwise_cons.mp h2
    by_cases e : a = b
    · subst e
      rcases asc_len l m a2 b2 (fun k hk => by
        rcases List.mem_cons.mp (h k (List.mem_cons_of_mem _ hk)) with z | z
        · have := a1 _ hk; omega
        · exact z) with z | z
      · exact .inl (by rw [z])
      · exact .inr (Nat.succ_lt_succ z)
    · have am : a ∈ m := (List.mem_cons.mp (h a List.mem_cons_self)).resolve_left e
      have hb := b1 _ am
      rcases asc_len (a :: l) m h1 b2 (fun k hk => by
        rcases List.mem_cons.mp (h k hk) with z | z
        · rcases List.mem_cons.mp hk with y | y
          · omega
          · have := a1 _ y; omega
        · exact z) with z | z
      · exact .inr (by rw [z]; exact Nat.lt_succ_self _)
      · exact .inr (Nat.lt_succ_of_lt z)
theorem RI.mem {T : Tb} {i : Nat} {l : List Nat} (h : RI T i l) (ok : T.Ok) {k : Nat} : k ∈ among T.n (moreT T l) ↔ k ∈ moreT T l := among_mem' fun x hx => (h.moreRch x hx).lt ok
theorem RI.step {T : Tb} {i : Nat} {l : List Nat} (h : RI T i l) (ok : T.Ok) (ne : among T.n (moreT T l) ≠ l) : RI T (i + 1) (among T.n (moreT T l)) := by
  have up : ∀ k ∈ l, k ∈ among T.n (moreT T l) := fun k hk => (h.mem ok).mpr (mem_moreT.mpr (.inl hk))
  refine ⟨among_asc _ _, fun x hx => h.moreRch x ((h.mem ok).mp hx), up _ h.tie, up _ h.gap, ?_⟩
  rcases asc_len _ _ h.asc (among_asc T.n (moreT T l)) up with z | z
  · exact absurd z.symm ne
  · have := h.len; omega
theorem RI.done {T : Tb} {i : Nat} {l : List Nat} (h : RI T i l) (ok : T.Ok) (e : among T.n (moreT T l) = l) : ∀ x, x ∈ l ↔ Rch T x := fun x => by
  refine ⟨h.rch x, fun ⟨b, hb⟩ => ?_⟩
  subst hb
  have cl : ∀ (r : Bool) i j, i ∈ l → j ∈ l → K46.op T r i j ∈ l := fun r i j hi hj => by
    rw [← e]
    refine (h.mem ok).mpr (mem_moreT.mpr (.inr ⟨i, hi, j, hj, ?_⟩))
    cases r
    · exact .inr rfl
    · exact .inl rfl
  induction b with
  | tie => exact h.tie
  | gap => exact h.gap
  | row a b iha ihb => exact cl true _ _ (iha ⟨a, rfl⟩) (ihb ⟨b, rfl⟩)
  | side a b iha ihb => exact cl false _ _ (iha ⟨a, rfl⟩) (ihb ⟨b, rfl⟩)
theorem RI.over {T : Tb} {i : Nat} {l : List Nat} (h : RI T i l) (ok : T.Ok) : i < T.n := Nat.lt_of_lt_of_le h.len (nodup_le _ _ (h.asc.imp fun z => Nat.ne_of_lt z) (h.lt ok))
end K46
set_option Elab.async false
set_option linter.all false
set_option autoImplicit false
set_option maxRecDepth 100000
namespace K46
open PySem PySem.Spec PyProof.Rows L2 Evl
set_option maxHeartbeats 4000000
/-! ### lists of ints as data -/
def dLl (l : List Nat) : PyData := .list (l.map dN)
theorem eqv_Ll (l l' : List Nat) : PyData.eqv (dLl l) (dLl l') = decide (l = l') := eqvAll_map dN eqv_N l l'
theorem dp_Ll {K : PySem.W.Frag} {H : Hp} {a : Addr} {l : List Nat} (h : H a = some (.lst (l.map nV))) : Dp K H (.ref a) (dLl l) := .lst (SqL.of h) (dpAll_N l)
theorem shp_Ll (l : List Nat) : SeqAt.shaped (dLl l) = true := shp (canAll dN (fun _ => rfl) l) (Nat.le_trans (Nat.succ_le_succ (depAll dN 0 (fun _ => Nat.le_refl _) l)) (by decide))
/-- an equality of a new list of ints with one that stands -/
theorem ev_eqLl {K : PySem.W.Frag} {σ : L2.St} {H : Hp} {ta tb : TE} {b : Addr} {l l' : List Nat} (h1 : EvL ta σ H (l.map nV)) (h2 : Ev tb σ H (.ref b)) (hb : H b = some (.lst (l'.map nV))) : Ev (tOp (rEqD K) ta tb) σ H (.bl (decide (l = l'))) := fun H1 e Q q => by
  refine h1 H1 e _ fun p H2 hp e2 h2' => h2 H2 (e.trans e2) _ fun H3 e3 => ?_
  refine ⟨dLl l, dLl l', dp_Ll (e3 _ _ h2'), dp_Ll ((e.trans (e2.trans e3)) _ _ hb), shp_Ll _, shp_Ll _, ?_⟩
  rw [eqv_Ll]
  exact q H3 (e2.trans e3)
section
variable {P : Program} {w : World} {K : PySem.W.Frag} {mg : Str → Option Value} {base : Heap}
/-! ### _law_reached -/
abbrev sReach : Stmt := top 66
def spReach (K : PySem.W.Frag) : Sp := fun vs H Q _ => ∃ (v : V) (T : Tb), vs = [v] ∧ Plain H v T ∧ T.Ok ∧ T.n ≤ 30 ∧ ∀ (p : Addr) (l : List Nat) H', H p = none → Ex H H' → H' p = some (.lst (l.map nV)) → l.Pairwise (· < ·) → (∀ x, x ∈ l ↔ Rch T x) → Q (.ref p) H'
abbrev nReach : List Str := ["_law_table", "_law_found", "_law_turn", "_law_more", "_law_one", "_law_other"]
theorem scReach : FnScope nReach ["_law_table"] (defScope sReach) := ⟨rfl, rfl, rfl, by decide +kernel, rfl, by decide +kernel, by decide +kernel⟩
abbrev tRc (K : PySem.W.Frag) (k : Str) : TE := tOp (rIx K) (tOp (rIx K) (tDGet (tVar 0) (tC (.str k))) (tVar 4)) (tVar 5)
section
variable {σ : L2.St} {H : Hp} {ta te : TE} {D : Ends} {tz : TS}
/-- xs.extend(ys), ys a new list -/
theorem s_ext {l : Addr} {xs ys : List V} (hl : H l = some (.lst xs)) (ha : Ev ta σ H (.ref l)) (h : EvL te σ H ys) (hz : xs.length + ys.length ≤ 100000) (k : ∀ H1, Ex H H1 → D.nx σ (upd H1 l (.lst (xs ++ ys)))) :
    tDrop (tBM K "list" rExtend ta (tCons te tNil)) D σ H := ha H (Ex.refl H) _ fun H1 e1 =>
  ⟨Or.inl ⟨rfl, xs, sq_of (e1 l _ hl)⟩, h H1 e1 _ fun p H2 hp e2 h2 => ⟨l, p, xs, ys, rfl, rfl, e2 l _ (e1 l _ hl), h2, sz_of hz, k H2 (e1.trans e2)⟩⟩
theorem q_ext {l : Addr} {xs ys : List V} (hl : H l = some (.lst xs)) (ha : Ev ta σ H (.ref l)) (h : EvL te σ H ys) (hz : xs.length + ys.length ≤ 100000) (k : ∀ H1, Ex H H1 → tz D σ (upd H1 l (.lst (xs ++ ys)))) :
    tSeq (tDrop (tBM K "list" rExtend ta (tCons te tNil))) tz D σ H := s_ext (D := { D with nx := tz D }) hl ha h hz k
end
/-- list(xs) -/
theorem el_listOf {K : PySem.W.Frag} {σ : L2.St} {H : Hp} {ta : TE} {p : Addr} {ys : List V} (h : Ev ta σ H (.ref p)) (hp : H p = some (.lst ys)) :
    EvL (tCB (fun xs H Q => ∃ p ys, xs = [V.ref p] ∧ (SqL K H p ys ∨ SqT K H p ys) ∧ ∀ l, H l = none → Q (.ref l) (upd H l (.lst ys))) (tCons ta tNil)) σ H ys := fun H1 e Q q =>
  h H1 e _ fun H2 e2 => ⟨p, ys, rfl, .inl (SqL.of ((e.trans e2) _ _ hp)), fun l hl => q l _ (fresh_back e2 hl) (e2.trans (Ex.new hl)) upd_same⟩
/-- [table[k][one][other] for other in found] -/
theorem el_rcRow {H : Hp} {v r t a x : V} {d p : Addr} {T : Tb} {m : List (List Nat)} {l : List Nat} {i : Nat} {x2 x3 x5 : Option V} {k : Str} (hp : PlainAt H v T r t a d) (hk : valV (plKV T r t a) (kx k) = some x) (hm : Mat K H x m) (sq : Square T.n m) (hl : H p = some (.lst (l.map nV))) (hn : l.length ≤ 1000) (hi : i < T.n) (lt : ∀ x ∈ l, x < T.n) :
    EvL (tLc (iList K (tVar 1)) (gName 5) tYes (tRc K k) [5]) [some v, some (.ref p), x2, x3, some (nV i), x5] H ((l.map (cell m i)).map nV) := by
  have e := elv_lc (te := tRc K k) (vs := [5]) (g := gName 5) (tt := tYes) (σ := [some v, some (.ref p), x2, x3, some (nV i), x5]) (H := H) (fun _ => true) (fun j => nV (cell m i (l.getD j 0)))
    (over_list (K := K) (tl := tVar 1) (ev_var rfl) (SqL.of hl)).over (by rw [List.length_map]; omega) yAt_ex (fun j y H4 H5 hj e4 hy => ?_)
  · rw [given_all, List.length_map, map_range_get (xs := l) (fun z => nV (cell m i z)) (fun j => nV (cell m i (l.getD j 0))) (fun i x hx => by rw [List.getD_eq_getElem?_getD, hx]; rfl)] at e
    rw [List.map_map]
    exact e
  obtain ⟨rfl, hy⟩ := hy
  rw [List.getElem?_map] at hy
  obtain ⟨z, hz, rfl⟩ := Option.map_eq_some_iff.mp hy
  have ez : l.getD j 0 = z := by rw [List.getD_eq_getElem?_getD, hz]; rfl
  rw [ez]
  exact ⟨[some v, some (.ref p), x2, x3, some (nV i), some (nV z)], rfl, fun Qs h => h, fun H6 _ Q q => q H6 (Ex.refl _), fun _ => ev_cell (ev_pl (ev_var rfl) (hp.mono e4) hk) (ev_var rfl) (ev_var rfl) (hm.mono e4) sq hi (lt z (List.mem_of_getElem? hz))⟩
theorem ok_reach (B : Free mg) (F : FnG K "_law_reached" sReach) (hm : mg "_law_reached" = some (.ref (He.ga K "_law_reached"))) : Pr P w K mg base 1 "_law_reached" ["_law_table"] (spReach K) := by
  refine pr_mk F hm scReach (fun _ _ _ _ _ _ us hl => match us, hl with | [_], _ => rfl) (fun vs H Q E h => ?_) (fun f cdv A outer s H vs Q E hr h => ?_)
  · obtain ⟨v, T, rfl, _⟩ := h
    rfl
  · obtain ⟨v, T, rfl, ⟨r, t, a, d, hp⟩, ok, hn, k⟩ := h
    have hu := hu_of hr
    refine ⟨_, pss_cons (ps_set (i := 1) scReach.nd rfl (Or.inl rfl) (pe_callB (cr_sortedSet rfl) (by rfl) B.sorted b_sorted (pa_cons (pe_callTy (cr_setI rfl) (by rfl) B.set b_set (pa_cons (pe_lst (pa_cons (pe_dget hu (pv 0) pe_str (fun _ _ => rfl)) (pa_cons (pe_dget hu (pv 0) pe_str (fun _ _ => rfl)) pa_nil))) pa_nil)) pa_nil)))
      (pss_cons (ps_for PassesOwn.never rfl (pi_range1 (by rfl) B.range (pa_cons (pe_callB call_len_seq (by rfl) B.len b_len (pa_cons (pe_dget hu (pv 0) pe_str (fun _ _ => rfl)) pa_nil)) pa_nil)) (pg_name (i := 2) scReach.nd rfl (Or.inl rfl))
        (pss_cons (ps_set (i := 3) scReach.nd rfl (Or.inl rfl) (pe_callTy call_list_of (by rfl) B.list b_list (pa_cons (pv 1) pa_nil)))
        (pss_cons (ps_for PassesOwn.never rfl (pi_list (pv 1)) (pg_name (i := 4) scReach.nd rfl (Or.inr rfl))
          (pss_cons (ps_expr (pe_bm PySem.F.plainAttrs_list PySem.F.slot_list_extend PySem.F.type_list_extend mt_extend (pv 3) (pa_cons
              (pe_lc (own := [("_law_other", 5)]) (g := gName 5) (tt := tYes) (te := tRc K "rows") rfl scReach.nd (pi_list (pv 1)) (blkOk_by (by kernel_rfl)) (fun _ _ _ _ _ => pg_name (i := 5) scReach.nd rfl (Or.inl rfl)) (fun _ _ _ _ _ => pts_nil)
                (fun _ _ _ _ _ => pe_ix ix_seq (pe_ix ix_seq (pe_dget hu (pv 0) pe_str (fun _ _ => rfl)) (pv 4) (fun _ _ => rfl)) (pv 5) (fun _ _ => rfl))) pa_nil)))
          (pss_one (ps_expr (pe_bm PySem.F.plainAttrs_list PySem.F.slot_list_extend PySem.F.type_list_extend mt_extend (pv 3) (pa_cons
              (pe_lc (own := [("_law_other", 5)]) (g := gName 5) (tt := tYes) (te := tRc K "sides") rfl scReach.nd (pi_list (pv 1)) (blkOk_by (by kernel_rfl)) (fun _ _ _ _ _ => pg_name (i := 5) scReach.nd rfl (Or.inl rfl)) (fun _ _ _ _ _ => pts_nil)
                (fun _ _ _ _ _ => pe_ix ix_seq (pe_ix ix_seq (pe_dget hu (pv 0) pe_str (fun _ _ => rfl)) (pv 4) (fun _ _ => rfl)) (pv 5) (fun _ _ => rfl))) pa_nil))))))
        (pss_cons (ps_if (pt_cmpR (op_eqD hr.units) (pe_callB (cr_sortedSet rfl) (by rfl) B.sorted b_sorted (pa_cons (pe_callTy (cr_setI rfl) (by rfl) B.set b_set (pa_cons (pv 3) pa_nil)) pa_nil)) (pv 1) (nomark _)) (pss_one ps_break) pss_nil)
        (pss_one (ps_set (i := 1) scReach.nd rfl (Or.inl rfl) (pe_callB (cr_sortedSet rfl) (by rfl) B.sorted b_sorted (pa_cons (pe_callTy (cr_setI rfl) (by rfl) B.set b_set (pa_cons (pv 3) pa_nil)) pa_nil))))))))
      (pss_one (ps_ret (pv 1)))), ?_⟩
    obtain ⟨pr, rr, hpr, hr1, hr2⟩ := id hp.rows
    have lr : rr.length = T.n := by rw [paired_length hr2]; rfl
    have g : ∀ {H' : Hp} {k : Str} {x : V} {σ : L2.St}, σ[0]? = some (some v) → Ex H H' → valV (plKV T r t a) (kx k) = some x → Ev (tDGet (tVar 0) (tC (.str k))) σ H' x := fun s0 e hk => ev_pl (ev_var s0) (hp.mono e) hk
    have mt : ∀ x ∈ [T.tie, T.gap], x < T.n := fun x hx => by
      rcases List.mem_cons.mp hx with rfl | hx
      · exact ok.tie
      · rw [List.mem_singleton.mp hx]; exact ok.gap
    refine q_asgO (eo_L (el_sortedSet (xs := [T.tie, T.gap]) (ys := among T.n [T.tie, T.gap]) (el_lst (ea_cons (g rfl (Ex.refl _) (pl_tie T r t a)) (ea_cons (g rfl (Ex.refl _) (pl_gap T r t a)) ea_nil)) (by show 2 ≤ 100000; decide)) (by show 2 < 4000; decide) (fun x hx => by have := mt x hx; omega) (among_asc _ _) (fun k => among_mem' mt))) fun p0 H1 hp0 e1 h1 => ?_
    refine q_for0 (n := T.n) (over_rng (n := T.n) (ea_cons (by have := ev_lenS (K := K) (g (σ := [some v, some (.ref p0), none, none, none, none]) rfl e1 (pl_rows T r t a)) (by rw [hpr]; exact Sq.l (e1 _ _ hr1)); rw [lr] at this; exact this) ea_nil) (by omega)) (Ex.refl H1) yFn_ex
      (fun i σ' H' => ∃ (l : List Nat) (p : Addr) (y z o : Option V), σ' = [some v, some (.ref p), y, z, o, none] ∧ Ex H1 H' ∧ H p = none ∧ H' p = some (.lst (l.map nV)) ∧ RI T i l)
      (fun H2 e2 => ⟨_, p0, none, none, none, rfl, e2, hp0, e2 _ _ h1, RI.zero ok⟩) (fun i σ' H' ⟨l, p, y, z, o, _, e, _⟩ => e) (fun i x σ' H2 H3 hi pv hy ey => ?_) fun σ' H2 ⟨l, p, y, z, o, e, ex, hpn, hl, ri⟩ => absurd (ri.over ok) (Nat.lt_irrefl _)
    obtain ⟨l, p, y, z, o, rfl, ex, hpn, hl, ri⟩ := pv
    obtain ⟨rfl, rfl⟩ := hy
    show tSeq _ _ _ [some v, some (.ref p), some (.int (0 + (i : Int))), z, o, none] _
    have lt := ri.lt ok
    have ll : l.length ≤ T.n := nodup_le _ _ (ri.asc.imp fun z => Nat.ne_of_lt z) lt
    refine q_asgO (eo_L (el_listOf (ev_var rfl) hl)) fun L H4 hL e4 h4 => ?_
    show tSeq _ _ _ [some v, some (.ref p), some (.int (0 + (i : Int))), some (.ref L), o, none] _
    refine q_forM (M := [L]) (n := l.length) ((by have := over_list (K := K) (tl := tVar 1) (σ := [some v, some (.ref p), some (.int (0 + (i : Int))), some (.ref L), o, none]) (ev_var rfl) (SqL.of hl); rw [List.length_map] at this; exact this : Over0 _ _ _ _ _).toM e4 (fun m hm => by rw [List.mem_singleton.mp hm]; exact hL)) yAt_ex
      (fun H5 j σ' H' => ExB [L] H5 H' ∧ ∃ o, σ' = [some v, some (.ref p), some (.int (0 + (i : Int))), some (.ref L), o, none] ∧ H' L = some (.lst ((l ++ (l.take j).flatMap fun i => l.map (T.R i) ++ l.map (T.S i)).map nV)))
      (fun H5 e5 => ⟨ExB.refl _, o, rfl, by rw [List.take_zero, List.flatMap_nil, List.append_nil]; exact e5 _ _ h4⟩) (fun H5 j σ' H' q => q.1) ?_ ?_
    · rintro H5 e5 j x σ' H6 H7 hj ⟨x6, o2, rfl, h6⟩ hy e7
      obtain ⟨rfl, hx⟩ := hy
      rw [List.getElem?_map] at hx
      obtain ⟨q, hq, rfl⟩ := Option.map_eq_some_iff.mp hx
      show tSeq _ _ _ [some v, some (.ref p), some (.int (0 + (i : Int))), some (.ref L), some (nV q), none] _
      have exb : Ex _ H7 := ExB.ex (e4.trans e5) x6 (fun m hm => by rw [List.mem_singleton.mp hm]; exact hL)
      have lq := lt q (List.mem_of_getElem? hq)
      have fl : ∀ m : List Nat, (m.flatMap fun i => l.map (T.R i) ++ l.map (T.S i)).length = m.length * (l.length + l.length) := fun m => by
        induction m with
        | nil => simp
        | cons a m ih => rw [List.flatMap_cons, List.length_append, ih, List.length_append, List.length_map, List.length_map, List.length_cons, Nat.succ_mul]; omega
      have bd : (l.take j).length * (l.length + l.length) ≤ 30 * 60 := Nat.mul_le_mul (by rw [List.length_take]; omega) (by omega)
      refine q_ext h6 (ev_var rfl) (el_rcRow (hp.mono (e1.trans (ex.trans exb))) (pl_rows T r t a) (hp.rows.mono (e1.trans (ex.trans exb))).mat ok.rows (exb _ _ hl) (by omega) lq lt) (by rw [List.length_map, List.length_map, List.length_map, List.length_append, fl]; omega) fun H8 e8 => ?_
      have exc : Ex _ (upd H8 L (.lst ((l ++ (l.take j).flatMap fun i => l.map (T.R i) ++ l.map (T.S i)).map nV ++ (l.map (cell T.rows q)).map nV))) := (exb.trans e8).mut hL
      refine s_ext upd_same (ev_var rfl) (el_rcRow (hp.mono (e1.trans (ex.trans exc))) (pl_sides T r t a) (hp.sides.mono (e1.trans (ex.trans exc))).mat ok.sides (exc _ _ hl) (by omega) lq lt) (by rw [List.length_append, List.length_map, List.length_map, List.length_map, List.length_map, List.length_map, List.length_append, fl]; omega) fun H9 e9 => ?_
      refine ⟨((((x6.trans (ExB.of e8)).upd List.mem_cons_self).trans (ExB.of e9)).upd List.mem_cons_self), some (nV q), rfl, ?_⟩
      rw [upd_same, List.take_add_one, hq, ← List.map_append, ← List.map_append]
      simp only [Option.toList_some, List.flatMap_append, List.flatMap_cons, List.flatMap_nil, List.append_nil, List.append_assoc]
      rfl
    · rintro H5 e5 σ' H6 ⟨x6, o2, rfl, h6⟩
      rw [List.take_length] at h6
      have exb : Ex _ H6 := ExB.ex (e4.trans e5) x6 (fun m hm => by rw [List.mem_singleton.mp hm]; exact hL)
      have fl : ∀ m : List Nat, (m.flatMap fun i => l.map (T.R i) ++ l.map (T.S i)).length = m.length * (l.length + l.length) := fun m => by
        induction m with
        | nil => simp
        | cons a m ih => rw [List.flatMap_cons, List.length_append, ih, List.length_append, List.length_map, List.length_map, List.length_cons, Nat.succ_mul]; omega
      have bd : l.length * (l.length + l.length) ≤ 30 * 60 := Nat.mul_le_mul (by omega) (by omega)
      have so : ∀ {σ : L2.St} {H' : Hp}, σ[3]? = some (some (.ref L)) → Ex H6 H' → EvL (tCB (rSortedSet w) (tCons (tCB (rSetI K w) (tCons (tVar 3) tNil)) tNil)) σ H' ((among T.n (moreT T l)).map nV) := fun s3 e =>
        el_sortedSetP (xs := moreT T l) (fun H1 e1 Q q => ev_var s3 H1 e1 Q fun H2 e2 => q _ H2 e2 ⟨L, rfl, (e.trans (e1.trans e2)) _ _ h6⟩) (by unfold moreT; rw [List.length_append, fl]; omega) (fun x hx => by have := (ri.moreRch x hx).lt ok; omega) (among_asc _ _) (fun k => ri.mem ok)
      refine q_when (b := decide (among T.n (moreT T l) = l)) (et_test (ev_eqLl (so rfl (Ex.refl _)) (ev_var rfl) (exb _ _ hl))) (fun hb H7 e7 => ?_) (fun hb H7 e7 => ?_)
      · exact s_ret (ev_var rfl) fun H8 e8 => k p l H8 hpn (e1.trans (ex.trans (exb.trans (e7.trans e8)))) ((exb.trans (e7.trans e8)) _ _ hl) ri.asc (ri.done ok (of_decide_eq_true hb))
      · exact s_asgO (eo_L (so rfl e7)) fun p2 H8 hp2 e8 h8 => ⟨_, p2, _, _, _, rfl, ex.trans (exb.trans (e7.trans e8)), fresh_back (e1.trans (ex.trans (exb.trans e7))) hp2, h8, ri.step ok (of_decide_eq_false hb)⟩
end
end K46
set_option linter.all false
set_option autoImplicit false
/-! K46Math7: marks made finer by the law's own rows. -/
namespace K46
/-- one state's row -/
def tup4 (T : Tb) (μ : Nat → Nat) (l : List Nat) (x : Nat) : List Nat := μ x :: l.flatMap fun z => [μ (T.R x z), μ (T.R z x), μ (T.S x z), μ (T.S z x)]
theorem flat4_eq {a b c d a' b' c' d' : Nat → Nat} : ∀ l : List Nat, (l.flatMap fun z => [a z, b z, c z, d z]) = (l.flatMap fun z => [a' z, b' z, c' z, d' z]) ↔ ∀ z ∈ l, a z = a' z ∧ b z = b' z ∧ c z = c' z ∧ d z = d' z
  | [] => Iff.intro (fun _ _ h => nomatch h) (fun _ => rfl)
  | x :: l => by
    rw [List.flatMap_cons, List.flatMap_cons, List.forall_mem_cons, ← flat4_eq l]
    simp only [List.cons_append, List.nil_append, List.cons.injEq]
    exact ⟨fun ⟨h1, h2, h3, h4, h5⟩ => ⟨⟨h1, h2, h3, h4⟩, h5⟩, fun ⟨⟨h1, h2, h3, h4⟩, h5⟩ => ⟨h1, h2, h3, h4, h5⟩⟩
theorem tup4_eq {T : Tb} {μ : Nat → Nat} {l : List Nat} {x y : Nat} : tup4 T μ l x = tup4 T μ l y ↔ sg T μ l x = sg T μ l y := by
  rw [sg_eq]
  unfold tup4
  rw [List.cons.injEq, flat4_eq l]
  exact and_congr Iff.rfl ⟨fun h r z hz => by obtain ⟨h1, h2, h3, h4⟩ := h z hz; cases r; exact ⟨h3, h4⟩; exact ⟨h1, h2⟩, fun h z hz => ⟨(h true z hz).1, (h true z hz).2, (h false z hz).1, (h false z hz).2⟩⟩
theorem tup4_len (T : Tb) (μ : Nat → Nat) (l : List Nat) (x : Nat) : (tup4 T μ l x).length = 1 + 4 * l.length := by
  unfold tup4
  have : ∀ m : List Nat, (m.flatMap fun z => [μ (T.R x z), μ (T.R z x), μ (T.S x z), μ (T.S z x)]).length = 4 * m.length := fun m => by
    induction m with
    | nil => rfl
    | cons a m ih => rw [List.flatMap_cons, List.length_append, ih, List.length_cons (as := m)]; show 4 + 4 * m.length = _; omega
  rw [List.length_cons, this]; omega
end K46
set_option Elab.async false
set_option linter.all false
set_option autoImplicit false
set_option maxRecDepth 100000
/-! K46R10: sorted(set(xs)), xs a list of tuples of ints. -/
namespace K46
open PySem PySem.Spec PyProof.Rows L2 Evl
set_option maxHeartbeats 4000000
section
variable {K : PySem.W.Frag} {P : Program} {w : World} {σ : L2.St} {H : Hp} {ta : TE} {a : Addr}
/-- a list of tuples of natural numbers -/
def TupL (H : Hp) (ks : List (Addr × List Nat)) : Prop := ∀ p ∈ ks, H p.1 = some (.tup (p.2.map nV))
theorem ep_sortedTup {n d B : Nat} {f : Nat → List Nat} (h : EvP ta σ H (fun u H' => ∃ (l : Addr) (bs : List Addr), u = .ref l ∧ bs.length = n ∧ H' l = some (.lst (bs.map V.ref)) ∧ ∀ i p, bs[i]? = some p → H' p = some (.tup ((f i).map nV)))) (hn : n < 64) (hd : 1 ≤ d) (hf : ∀ i, i < n → (f i).length = d ∧ ∀ x ∈ f i, x < B) :
    EvP (tCB (rSortedT K P w) (tCons (tCB (rSetOfT K P w) (tCons ta tNil)) tNil)) σ H (fun u H' => ∃ (l : Addr) (L : List (Addr × List Nat)), u = .ref l ∧ H' l = some (.lst (L.map fun q => V.ref q.1)) ∧ TupL H' L ∧ (L.map (·.2)).Nodup ∧ (∀ q ∈ L, ∃ i, i < n ∧ q.2 = f i) ∧ ∀ i, i < n → f i ∈ L.map (·.2)) := fun H1 e Q q => by
  refine h H1 e _ fun u H2 e2 ⟨l, bs, hu, hb, hl, ht⟩ => ?_
  subst hu
  have mem : ∀ p ∈ (List.range n).map (fun i => (bs.getD i 0, (f i).map fun k : Nat => (k : Int))), ∃ i, i < n ∧ bs[i]? = some p.1 ∧ p.2 = (f i).map fun k : Nat => (k : Int) := fun p hp => by
    obtain ⟨i, hi, rfl⟩ := List.mem_map.mp hp
    have hi := List.mem_range.mp hi
    exact ⟨i, hi, by rw [List.getD_eq_getElem?_getD, List.getElem?_eq_getElem (by omega)]; rfl, rfl⟩
  have nv : ∀ xs : List Nat, xs.map nV = (xs.map fun k : Nat => (k : Int)).map V.int := fun xs => by rw [List.map_map]; rfl
  have tn : ∀ xs : List Nat, (xs.map fun k : Nat => (k : Int)).map Int.toNat = xs := fun xs => by rw [List.map_map]; exact (List.map_congr_left fun x _ => Int.toNat_natCast x).trans (List.map_id _)
  have tup : ∀ p ∈ (List.range n).map (fun i => (bs.getD i 0, (f i).map fun k : Nat => (k : Int))), H2 p.1 = some (.tup (p.2.map V.int)) := fun p hp => by
    obtain ⟨i, hi, h1, h2⟩ := mem p hp
    rw [h2, ← nv]
    exact ht i p.1 h1
  refine ⟨l, (List.range n).map (fun i => (bs.getD i 0, (f i).map fun k : Nat => (k : Int))), rfl, SqL.of (by
    rw [List.map_map]
    have : (List.range n).map ((fun p : Addr × List Int => V.ref p.1) ∘ fun i => (bs.getD i 0, (f i).map fun k : Nat => (k : Int))) = bs.map V.ref := by
      rw [← hb]
      exact map_range_get V.ref _ fun i x hx => by show V.ref (bs.getD i 0) = _; rw [List.getD_eq_getElem?_getD, hx]; rfl
    rw [this]
    exact hl), fun p hp => SqT.of (tup p hp), by rw [List.length_map, List.length_range]; exact hn, fun a L hna hsub hall => ?_⟩
  refine ⟨a, L, d, (B : Int), rfl, upd_same, fun p hp => SqT.of ((Ex.new hna) _ _ (tup p (hsub p hp))), hd, fun p hp => ?_, fun L' p pm nd hlt hpw hnp => ?_⟩
  · obtain ⟨i, hi, _, h2⟩ := mem p (hsub p hp)
    rw [h2, List.length_map]
    refine ⟨(hf i hi).1, fun m hm => ?_⟩
    obtain ⟨k, hk, rfl⟩ := List.mem_map.mp hm
    have := (hf i hi).2 k hk
    exact ⟨by omega, by omega⟩
  · have ex : Ex H2 (upd (upd H2 a (SetTO P w a L)) p (.lst (L'.map fun q => V.ref q.1))) := (Ex.new hna).trans (Ex.new hnp)
    have ml : ∀ q ∈ L', q ∈ (List.range n).map (fun i => (bs.getD i 0, (f i).map fun k : Nat => (k : Int))) := fun q hq => hsub q (pm.mem_iff.mp hq)
    have m2 : (L'.map fun q => (q.1, q.2.map Int.toNat)).map (·.2) = (L'.map (·.2)).map (List.map Int.toNat) := by rw [List.map_map, List.map_map]; rfl
    refine q _ _ (e2.trans ex) ⟨p, L'.map fun q => (q.1, q.2.map Int.toNat), rfl, by rw [upd_same, List.map_map]; rfl, fun q hq => ?_, ?_, fun q hq => ?_, fun i hi => ?_⟩
    · obtain ⟨q', hq', rfl⟩ := List.mem_map.mp hq
      obtain ⟨i, hi, h1, h2⟩ := mem q' (ml q' hq')
      show _ = some (HO.tup ((q'.2.map Int.toNat).map nV))
      rw [h2, tn]
      exact ex _ _ (ht i _ h1)
    · rw [m2]
      refine List.pairwise_map.mpr (nd.imp_of_mem fun {x y} hx hy ne z => ne ?_)
      obtain ⟨q1, hq1, rfl⟩ := List.mem_map.mp hx
      obtain ⟨q2, hq2, rfl⟩ := List.mem_map.mp hy
      obtain ⟨i, _, _, h2⟩ := mem q1 (ml q1 hq1)
      obtain ⟨j, _, _, h4⟩ := mem q2 (ml q2 hq2)
      rw [h2, h4] at z ⊢
      rw [tn, tn] at z
      rw [z]
    · obtain ⟨q', hq', rfl⟩ := List.mem_map.mp hq
      obtain ⟨i, hi, _, h2⟩ := mem q' (ml q' hq')
      exact ⟨i, hi, by show q'.2.map Int.toNat = _; rw [h2, tn]⟩
    · rw [m2]
      have h1 := hall (bs.getD i 0, (f i).map fun k : Nat => (k : Int)) (List.mem_map.mpr ⟨i, List.mem_range.mpr hi, rfl⟩)
      have h2 : (f i).map (fun k : Nat => (k : Int)) ∈ L'.map (·.2) := ((pm.map (·.2)).mem_iff).mpr h1
      have h3 := List.mem_map_of_mem (f := List.map Int.toNat) h2
      rwa [tn] at h3
end
end K46
set_option linter.all false
set_option autoImplicit false
/-! K46Math8: a mark is the place of a state's row among the rows. -/
namespace K46
def nextM (L : List (List Nat)) (T : Tb) (μ : Nat → Nat) (l : List Nat) (x : Nat) : Nat := L.idxOf (tup4 T μ l x)
section
variable {L : List (List Nat)} {T : Tb} {μ : Nat → Nat} {l : List Nat}
theorem idxOf_inj {L : List (List Nat)} {a b : List Nat} (ha : a ∈ L) (hb : b ∈ L) : L.idxOf a = L.idxOf b ↔ a = b := by
  refine ⟨fun e => ?_, fun e => by rw [e]⟩
  have h1 := List.getElem_idxOf (List.idxOf_lt_length_of_mem ha)
  have h2 := List.getElem_idxOf (List.idxOf_lt_length_of_mem hb)
  rw [← h1, ← h2]
  congr 1
theorem next_tup (hall : ∀ x ∈ l, tup4 T μ l x ∈ L) : ∀ x y, x ∈ l → y ∈ l → (nextM L T μ l x = nextM L T μ l y ↔ tup4 T μ l x = tup4 T μ l y) := fun x y hx hy => idxOf_inj (hall x hx) (hall y hy)
theorem next_eq (hall : ∀ x ∈ l, tup4 T μ l x ∈ L) : ∀ x y, x ∈ l → y ∈ l → (nextM L T μ l x = nextM L T μ l y ↔ sg T μ l x = sg T μ l y) := fun x y hx hy => (next_tup hall x y hx hy).trans tup4_eq
theorem next_cnt (nd : L.Nodup) (hsub : ∀ q ∈ L, ∃ x ∈ l, q = tup4 T μ l x) (hall : ∀ x ∈ l, tup4 T μ l x ∈ L) : cnt (nextM L T μ l) l = L.length := by
  rw [cnt_congr (κ' := tup4 T μ l) (next_tup hall)]
  unfold cnt
  rw [← List.length_map (f := tup4 T μ l)]
  have d : ((reps (tup4 T μ l) l).map (tup4 T μ l)).Nodup := reps_dist _ _
  refine Nat.le_antisymm (d.length_le_of_subset fun q hq => ?_) (nd.length_le_of_subset fun q hq => ?_)
  · obtain ⟨x, hx, rfl⟩ := List.mem_map.mp hq
    exact hall x (reps_sub x hx)
  · obtain ⟨x, hx, rfl⟩ := hsub q hq
    exact reps_has hx
theorem bound_ex (μ : Nat → Nat) : ∀ l : List Nat, ∃ B, ∀ x ∈ l, μ x < B
  | [] => ⟨0, fun _ h => nomatch h⟩
  | a :: l => by
    obtain ⟨B, h⟩ := bound_ex μ l
    exact ⟨μ a + 1 + B, fun x hx => by
      rcases List.mem_cons.mp hx with rfl | hx
      · omega
      · have := h x hx; omega⟩
theorem tup4_bd {B : Nat} (hB : ∀ x ∈ l, μ x < B) (cl : ∀ (r : Bool) x z, x ∈ l → z ∈ l → op T r x z ∈ l) {x : Nat} (hx : x ∈ l) : ∀ y ∈ tup4 T μ l x, y < B := by
  intro y hy
  unfold tup4 at hy
  rcases List.mem_cons.mp hy with rfl | hy
  · exact hB x hx
  · obtain ⟨z, hz, hy⟩ := List.mem_flatMap.mp hy
    simp only [List.mem_cons, List.not_mem_nil, or_false] at hy
    rcases hy with rfl | rfl | rfl | rfl
    · exact hB _ (cl true x z hx hz)
    · exact hB _ (cl true z x hz hx)
    · exact hB _ (cl false x z hx hz)
    · exact hB _ (cl false z x hz hx)
theorem next_grow (hall : ∀ x ∈ l, tup4 T μ l x ∈ L) : cnt μ l ≤ cnt (nextM L T μ l) l := cnt_le fun x y hx hy e => (sg_eq.mp ((next_eq hall x y hx hy).mp e)).1
end
end K46
set_option Elab.async false
set_option linter.all false
set_option autoImplicit false
set_option maxRecDepth 100000
namespace K46
open PySem PySem.Spec PyProof.Rows L2 Evl
set_option maxHeartbeats 4000000
section
variable {P : Program} {w : World} {K : PySem.W.Frag} {mg : Str → Option Value} {base : Heap}
/-! ### _law_marks_of -/
abbrev sMarks : Stmt := top 67
abbrev snds (L : List (Addr × List Nat)) : List (List Nat) := L.map (·.2)
/-- the dict of rows: states, places of tuples -/
def rd (ps : List (Nat × Addr)) : List (Key × V) := ps.map fun q => ((Sum.inl (q.1 : Int) : Key), V.ref q.2)
theorem rd_none : ∀ {ps : List (Nat × Addr)} {x : Nat}, x ∉ ps.map (·.1) → valV (rd ps) (Sum.inl (x : Int)) = none
  | [], _, _ => rfl
  | y :: o, x, h => by
    unfold rd
    rw [List.map_cons, valV_neg (fun q => h (by have := Sum.inl.inj q; rw [show x = y.1 by omega]; exact List.mem_cons_self))]
    exact rd_none fun q => h (List.mem_cons_of_mem _ q)
theorem rd_val : ∀ {ps : List (Nat × Addr)} {i : Nat} {x : Nat} {p : Addr}, (ps.map (·.1)).Nodup → ps[i]? = some (x, p) → valV (rd ps) (Sum.inl (x : Int)) = some (.ref p)
  | [], _, _, _, _, h => by simp at h
  | y :: o, i, x, p, nd, h => by
    unfold rd
    rw [List.map_cons] at nd ⊢
    cases i with
    | zero =>
      cases h
      exact valV_pos rfl
    | succ i =>
      have hm : x ∈ o.map (·.1) := List.mem_map.mpr ⟨(x, p), List.mem_of_getElem? (by simpa using h), rfl⟩
      rw [valV_neg (fun q => (List.nodup_cons.mp nd).1 (by have := Sum.inl.inj q; rw [show y.1 = x by omega]; exact hm))]
      exact rd_val (List.nodup_cons.mp nd).2 (by simpa using h)
theorem rd_put {ps : List (Nat × Addr)} {x : Nat} {p : Addr} (h : x ∉ ps.map (·.1)) : putK (rd ps) (Sum.inl (x : Int)) (.ref p) = rd (ps ++ [(x, p)]) := by
  rw [putK_new _ (rd_none h)]
  unfold rd
  rw [List.map_append]; rfl
theorem rd_vals (ps : List (Nat × Addr)) : (rd ps).map (·.2) = (ps.map (·.2)).map V.ref := by unfold rd; rw [List.map_map, List.map_map]; rfl
theorem rd_len (ps : List (Nat × Addr)) : (rd ps).length = ps.length := List.length_map _
section
variable {σ : L2.St} {H : Hp} {ta tb tk tv : TE} {D : Ends} {d : Addr} {kvs : List (Key × V)} {k : Key} {Pp : V → Hp → Prop}
theorem s_dputP (hv : EvP tv σ H Pp) (hd : ∀ H1, Ex H H1 → Ev ta σ H1 (.ref d)) (hk : ∀ H1, Ex H H1 → Ev tk σ H1 (kV k)) (h : H d = some (.dK kvs)) (hl : kvs.length < sizeLine) (q : ∀ v H1 H2, Ex H H1 → Pp v H1 → Ex H1 H2 → D.nx σ (upd H2 d (.dK (putK kvs k v)))) :
    sDPut ta tk tv D σ H := hv H (Ex.refl _) _ fun v H1 e1 p => hd H1 e1 H1 (Ex.refl _) _ fun H2 e2 => hk H2 (e1.trans e2) H2 (Ex.refl _) _ fun H3 e3 => ⟨d, _, rfl, DPut.k ((e1.trans (e2.trans e3)) _ _ h) hl, q v H1 H3 e1 p (e2.trans e3)⟩
theorem tupL_paired : ∀ {L : List (Addr × List Nat)}, TupL H L → Paired (TupN H) (L.map fun q => V.ref q.1) (L.map (·.2))
  | [], _ => .nil
  | x :: L, h => .cons ⟨x.1, rfl, h x List.mem_cons_self⟩ (tupL_paired fun q hq => h q (List.mem_cons_of_mem _ hq))
/-- known.index(row) -/
theorem ev_indexT {a p : Addr} {L : List (Addr × List Nat)} {xs : List Nat} (h1 : Ev ta σ H (.ref a)) (ha : H a = some (.lst (L.map fun q => V.ref q.1))) (ht : TupL H L) (nd : (L.map (·.2)).Nodup) (h2 : Ev tb σ H (.ref p)) (hp : H p = some (.tup (xs.map nV))) (hm : xs ∈ L.map (·.2)) :
    Ev (tBM K "list" (rIndexD K) ta (tCons tb tNil)) σ H (nV ((L.map (·.2)).idxOf xs)) := fun H1 e Q q => by
  refine h1 H1 e _ fun H2 e2 => ⟨Or.inl ⟨rfl, _, SqL.of ((e.trans e2) _ _ ha)⟩, h2 H2 (e.trans e2) _ fun H3 e3 => ?_⟩
  have e13 := e.trans (e2.trans e3)
  have hi := List.idxOf_lt_length_of_mem hm
  have hg : ((L.map (·.2)).map dL)[(L.map (·.2)).idxOf xs]? = some (dL xs) := by
    rw [List.getElem?_map, List.getElem?_eq_getElem hi, List.getElem_idxOf hi]; rfl
  refine ⟨a, .ref p, dL xs, (L.map (·.2)).map dL, (L.map (·.2)).idxOf xs, dL xs, rfl, rfl, .lst (SqL.of (e13 _ _ ha)) (dpAll_L (paired_mono (fun _ _ z => TupV.mono z e13) (tupL_paired ht))), dp_L ⟨p, rfl, e13 _ _ hp⟩,
    shp (canAll dL can_L _) (Nat.le_trans (Nat.succ_le_succ (depAll dL 1 dep_L _)) (by decide)), shp_L xs, hg, by rw [eqv_L]; exact decide_eq_true rfl, fun m z' hm' hz => ?_, q H3 (e2.trans e3)⟩
  rw [List.getElem?_map] at hz
  obtain ⟨ys, hy, rfl⟩ := Option.map_eq_some_iff.mp hz
  rw [eqv_L]
  refine decide_eq_false fun z => ?_
  subst z
  obtain ⟨hm2, hy2⟩ := List.getElem?_eq_some_iff.mp hy
  have := nd.idxOf_getElem m hm2
  rw [hy2] at this
  omega
end
def spMarks (K : PySem.W.Frag) : Sp := fun vs H Q _ => ∃ (v : V) (L : Addr) (T : Tb) (l : List Nat), vs = [v, .ref L] ∧ Plain H v T ∧ T.Ok ∧ T.n ≤ 30 ∧ H L = some (.lst (l.map nV)) ∧ l.Pairwise (· < ·) ∧ (∀ x, x ∈ l ↔ Rch T x) ∧
  ∀ p μ H', H p = none → Ex H H' → H' p = some (.dK (md μ l)) → Disc μ T → Q (.ref p) H'
abbrev nMarks : List Str := ["_law_table", "_law_states", "_law_marks", "_law_turn", "_law_rows", "_law_state", "_law_row", "_law_other", "_law_known", "_law_later"]
theorem scMarks : FnScope nMarks ["_law_table", "_law_states"] (defScope sMarks) := ⟨rfl, rfl, rfl, by decide +kernel, rfl, by decide +kernel, by decide +kernel⟩
abbrev tLt (K : PySem.W.Frag) : TE := tTup (tCons (tVar 5) (tCons (tOp (rIxL K) (tVar 8) (tDGet (tVar 4) (tVar 5))) tNil))
theorem ok_marks (B : Free mg) (F : FnG K "_law_marks_of" sMarks) (hm : mg "_law_marks_of" = some (.ref (He.ga K "_law_marks_of"))) : Pr P w K mg base 1 "_law_marks_of" ["_law_table", "_law_states"] (spMarks K) := by
  refine pr_mk F hm scMarks (fun _ _ _ _ _ _ us hl => match us, hl with | [_, _], _ => rfl) (fun vs H Q E h => ?_) (fun f cdv A outer s H vs Q E hr h => ?_)
  · obtain ⟨v, L, T, l, rfl, _⟩ := h
    rfl
  · obtain ⟨v, L, T, l, rfl, ⟨r, t, a, d, hp⟩, ok, hn, hL, asc, hl, k⟩ := h
    have hu := hu_of hr
    have h65 : (A.deeper (envOfC "_law_marks_of" (defScope sMarks) s.heap.objs.size f cdv)).units + 65 < cLine := by have := hr.un; omega
    refine ⟨_, pss_cons (ps_set (i := 2) scMarks.nd rfl (Or.inl rfl) (pe_callTy (call_dictP rfl) (by rfl) B.dict b_dict (pa_cons
        (pe_lc (own := [("_law_state", 5)]) (g := gName 5) (tt := tYes) (te := tTup (tCons (tVar 5) (tCons (tCB rInt1 (tCons (tOp (rIn K false) (tVar 5) (tDGet (tVar 0) (tC (.str "accepted")))) tNil)) tNil))) rfl scMarks.nd (pi_list (pv 1)) (blkOk_by (by kernel_rfl))
          (fun _ _ _ _ _ => pg_name (i := 5) scMarks.nd rfl (Or.inl rfl)) (fun _ _ _ _ _ => pts_nil) (fun _ _ _ _ _ => pe_tup (pa_cons (pv 5) (pa_cons (pe_callTy call_int1 (by rfl) B.int b_int (pa_cons (pe_cmpR op_in_seq (pv 5) (pe_dget hu (pv 0) pe_str (fun _ _ => rfl)) (by rfl)) pa_nil)) pa_nil)))) pa_nil)))
      (pss_cons (ps_for PassesOwn.never rfl (pi_range1 (by rfl) B.range (pa_cons (pe_callB call_len_seq (by rfl) B.len b_len (pa_cons (pv 1) pa_nil)) pa_nil)) (pg_name (i := 3) scMarks.nd rfl (Or.inl rfl))
        (pss_cons (ps_set (i := 4) scMarks.nd rfl (Or.inr rfl) pe_dnewK)
        (pss_cons (ps_for PassesOwn.never rfl (pi_list (pv 1)) (pg_name (i := 5) scMarks.nd rfl (Or.inl rfl))
          (pss_cons (ps_set (i := 6) scMarks.nd rfl (Or.inl rfl) (pe_lst (pa_cons (pe_dget hu (pv 2) (pv 5) (fun _ _ => rfl)) pa_nil)))
          (pss_cons (ps_for PassesOwn.never rfl (pi_list (pv 1)) (pg_name (i := 7) scMarks.nd rfl (Or.inl rfl))
            (pss_cons (ps_set (i := 6) scMarks.nd rfl (Or.inl rfl) (pe_op op_cat (pv 6) (pe_lst (pa_cons (pe_dget hu (pv 2) (pe_ix ix_seq (pe_ix ix_seq (pe_dget hu (pv 0) pe_str (fun _ _ => rfl)) (pv 5) (fun _ _ => rfl)) (pv 7) (fun _ _ => rfl)) (fun _ _ => rfl)) (pa_cons (pe_dget hu (pv 2) (pe_ix ix_seq (pe_ix ix_seq (pe_dget hu (pv 0) pe_str (fun _ _ => rfl)) (pv 7) (fun _ _ => rfl)) (pv 5) (fun _ _ => rfl)) (fun _ _ => rfl)) pa_nil)))))
            (pss_one (ps_set (i := 6) scMarks.nd rfl (Or.inl rfl) (pe_op op_cat (pv 6) (pe_lst (pa_cons (pe_dget hu (pv 2) (pe_ix ix_seq (pe_ix ix_seq (pe_dget hu (pv 0) pe_str (fun _ _ => rfl)) (pv 5) (fun _ _ => rfl)) (pv 7) (fun _ _ => rfl)) (fun _ _ => rfl)) (pa_cons (pe_dget hu (pv 2) (pe_ix ix_seq (pe_ix ix_seq (pe_dget hu (pv 0) pe_str (fun _ _ => rfl)) (pv 7) (fun _ _ => rfl)) (pv 5) (fun _ _ => rfl)) (fun _ _ => rfl)) pa_nil))))))))
          (pss_one (ps_dput hu (pv 4) (pv 5) (pe_callTy call_tuple_of (by rfl) B.tuple b_tuple (pa_cons (pv 6) pa_nil)) rfl)))))
        (pss_cons (ps_set (i := 8) scMarks.nd rfl (Or.inr rfl) (pe_callB (cr_sortedT rfl) (by rfl) B.sorted b_sorted (pa_cons (pe_callTy (cr_setOfT rfl hr.units) (by rfl) B.set b_set (pa_cons (pe_listVals rfl (by rfl) B.list (pv 4)) pa_nil)) pa_nil)))
        (pss_cons (ps_set (i := 9) scMarks.nd rfl (Or.inl rfl) (pe_callTy (call_dictP rfl) (by rfl) B.dict b_dict (pa_cons
            (pe_lc (own := [("_law_state", 5)]) (g := gName 5) (tt := tYes) (te := tTup (tCons (tVar 5) (tCons (tBM K "list" (rIndexD K) (tVar 8) (tCons (tDGet (tVar 4) (tVar 5)) tNil)) tNil))) rfl scMarks.nd (pi_list (pv 1)) (blkOk_by (by kernel_rfl))
              (fun _ _ _ _ _ => pg_name (i := 5) scMarks.nd rfl (Or.inl rfl)) (fun _ _ _ _ _ => pts_nil) (fun _ _ _ _ _ => pe_tup (pa_cons (pv 5) (pa_cons (pe_bm PySem.F.plainAttrs_list PySem.F.slot_list_index PySem.F.type_list_index (mt_indexD h65) (pv 8) (pa_cons (pe_dget hu (pv 4) (pv 5) (fun _ _ => rfl)) pa_nil)) pa_nil)))) pa_nil)))
        (pss_cons (ps_if (pt_cmpR op_eq (pe_callB call_len_seq (by rfl) B.len b_len (pa_cons (pv 8) pa_nil)) (pe_lenSetD rfl (by rfl) B.len (by rfl) B.set (pe_listVals rfl (by rfl) B.list (pv 2))) (nomark _)) (pss_one (ps_ret (pv 9))) pss_nil)
        (pss_one (ps_set (i := 2) scMarks.nd rfl (Or.inl rfl) (pv 9)))))))))
      (pss_one (ps_ret (pv 2)))), ?_⟩
    have lt : ∀ x ∈ l, x < T.n := fun x hx => ((hl x).mp hx).lt ok
    have hr : ∀ x ∈ l, Rch T x := fun x hx => (hl x).mp hx
    have ha : ∀ b, st T b ∈ l := fun b => (hl _).mpr ⟨b, rfl⟩
    have cl : ∀ (r : Bool) x z, x ∈ l → z ∈ l → op T r x z ∈ l := fun r x z hx hz => (hl _).mpr ((hr x hx).op r (hr z hz))
    have nd : l.Nodup := asc.imp fun z => Nat.ne_of_lt z
    have ll : l.length ≤ 30 := Nat.le_trans (nodup_le _ _ nd lt) hn
    have gp : T.gap ∈ l := ha .gap
    have ki : ∀ i j, i < l.length → j < l.length → (Sum.inl ((l.getD i 0 : Nat) : Int) : Key) = Sum.inl ((l.getD j 0 : Nat) : Int) → i = j := nums_inj nd
    have mdr : ∀ f : Nat → Nat, ((List.range l.length).map fun i => ((Sum.inl ((l.getD i 0 : Nat) : Int) : Key), nV (f (l.getD i 0)))) = md f l := fun f => map_range_get (xs := l) (fun x => ((Sum.inl ((x : Nat) : Int) : Key), nV (f x))) _ fun i x hx => by rw [List.getD_eq_getElem?_getD, hx]; rfl
    have g : ∀ {H' : Hp} {k : Str} {x : V} {σ : L2.St}, σ[0]? = some (some v) → Ex H H' → valV (plKV T r t a) (kx k) = some x → Ev (tDGet (tVar 0) (tC (.str k))) σ H' x := fun s0 e hk => ev_pl (ev_var s0) (hp.mono e) hk
    refine q_asgO (o := .dK (md (fun x => if x ∈ T.acc then 1 else 0) l)) (by
      rw [← mdr]
      exact eo_dictP (κ := fun i => Sum.inl ((l.getD i 0 : Nat) : Int)) (val := fun i => nV (if l.getD i 0 ∈ T.acc then 1 else 0)) (n := l.length) ki fun H1 e1 Q' q' =>
        elo_lc (o := fun i => .tup [nV (l.getD i 0), nV (if l.getD i 0 ∈ T.acc then 1 else 0)]) (by have := (over_list (K := K) (tl := tVar 1) (σ := L2.start nMarks [v, .ref L]) (ev_var rfl) (SqL.of hL)).over; rw [List.length_map] at this; exact this) (by omega) yAt_ex (fun i x H2 H3 hi e2 hy => by
          obtain ⟨rfl, hx⟩ := hy
          rw [List.getElem?_map] at hx
          obtain ⟨q, hq, rfl⟩ := Option.map_eq_some_iff.mp hx
          have eq' : l.getD i 0 = q := by rw [List.getD_eq_getElem?_getD, hq]; rfl
          rw [eq']
          refine ⟨[some v, some (.ref L), none, none, none, some (nV q), none, none, none, none], rfl, fun Qs h => h, eo_U (eu_tup (ea_cons (ev_var rfl) (ea_cons ?_ ea_nil)) (by show 2 ≤ 100000; decide))⟩
          have := ev_intB (ev_op (σ := [some v, some (.ref L), none, none, none, some (nV q), none, none, none, none]) (ta := tVar 5) (ev_var rfl) (g rfl e2 (pl_acc T r t a)) (rv_inN (K := K) (TupV.sq (TupV.mono hp.acc e2))))
          simp only [decide_eq_true_eq] at this
          exact this) H1 e1 Q' (fun D' H4 ps h1 h2 h3 h4 h5 => q' D' H4 ps h1 h2 h3 h4 h5)) fun D0 H1 hD0 e1 h1D => ?_
    refine q_for0 (n := l.length) (over_rng (n := l.length) (ea_cons (by have := ev_lenS (K := K) (ev_var (i := 1) (σ := [some v, some (.ref L), some (.ref D0), none, none, none, none, none, none, none]) rfl) (Sq.l (K := K) (e1 _ _ hL)); rw [List.length_map] at this; exact this) ea_nil) (by omega)) (Ex.refl H1) yFn_ex
      (fun i σ' H' => ∃ (μ : Nat → Nat) (Dm : Addr) (y3 y4 y5 y6 y7 y8 y9 : Option V), σ' = [some v, some (.ref L), some (.ref Dm), y3, y4, y5, y6, y7, y8, y9] ∧ Ex H1 H' ∧ H Dm = none ∧ H' Dm = some (.dK (md μ l)) ∧ Good T l μ ∧ i < cnt μ l)
      (fun H2 e2 => ⟨_, D0, none, none, none, none, none, none, none, rfl, e2, hD0, e2 _ _ h1D, good0 T l, cnt_pos gp⟩) (fun i σ' H' ⟨_, _, _, _, _, _, _, _, _, _, e, _⟩ => e) (fun i x σ' H3 H2 hi pv hy ey => ?_) fun σ' H2 ⟨μ, Dm, y3, y4, y5, y6, y7, y8, y9, e, ex, hDm, hl', gd, hc⟩ => absurd (Nat.lt_of_lt_of_le hc (cnt_len μ l)) (Nat.lt_irrefl _)
    obtain ⟨μ, Dm, y3, y4, y5, y6, y7, y8, y9, rfl, ex, hDm, hM2, gd, hc⟩ := pv
    obtain ⟨rfl, rfl⟩ := hy
    have e2 : Ex H H2 := e1.trans ex
    show tSeq _ _ _ [some v, some (.ref L), some (.ref Dm), some (.int (0 + (i : Int))), y4, y5, y6, y7, y8, y9] _
    generalize hI : V.int (0 + (i : Int)) = vi
    have rdm : ∀ {H' : Hp} {x : Nat}, Ex H2 H' → x ∈ l → ∀ H1, Ex H' H1 → DGet H1 Dm (nV x) (some (nV (μ x))) := fun e hx => dget_md (.inl (e _ _ hM2)) hx
    refine q_asgO eo_dnew fun Rd H3 hRd e3 h3R => ?_
    show tSeq _ _ _ [some v, some (.ref L), some (.ref Dm), some vi, some (.ref Rd), y5, y6, y7, y8, y9] _
    refine q_forM (M := [Rd]) (n := l.length) ((by have := over_list (K := K) (tl := tVar 1) (σ := [some v, some (.ref L), some (.ref Dm), some vi, some (.ref Rd), y5, y6, y7, y8, y9]) (ev_var rfl) (SqL.of (e2 _ _ hL)); rw [List.length_map] at this; exact this : Over0 _ _ _ _ _).toM e3 (fun m hm => by rw [List.mem_singleton.mp hm]; exact hRd)) yAt_ex
      (fun H5 j σ' H' => ExB [Rd] H5 H' ∧ ∃ (ps : List (Nat × Addr)) (z5 z6 z7 : Option V), σ' = [some v, some (.ref L), some (.ref Dm), some vi, some (.ref Rd), z5, z6, z7, y8, y9] ∧ ps.map (·.1) = l.take j ∧ H' Rd = some (.dK (rd ps)) ∧ ∀ q ∈ ps, H' q.2 = some (.tup ((tup4 T μ l q.1).map nV)))
      (fun H5 e5 => ⟨ExB.refl _, [], y5, y6, y7, rfl, rfl, e5 _ _ h3R, fun q hq => nomatch hq⟩) (fun H5 j σ' H' q => q.1) ?_ ?_
    · rintro H5 e5 j x σ' H6 H7 hj ⟨x6, ps, z5, z6, z7, rfl, hps, h6R, h6t⟩ hy e7
      obtain ⟨rfl, hx⟩ := hy
      rw [List.getElem?_map] at hx
      obtain ⟨q, hq, rfl⟩ := Option.map_eq_some_iff.mp hx
      have qm : q ∈ l := List.mem_of_getElem? hq
      show tSeq _ _ _ [some v, some (.ref L), some (.ref Dm), some vi, some (.ref Rd), some (nV q), z6, z7, y8, y9] _
      have exb : Ex H2 H7 := ExB.ex (e3.trans e5) x6 (fun m hm => by rw [List.mem_singleton.mp hm]; exact hRd)
      refine q_asgO (eo_L (el_lst (ea_cons (ev_dget (ev_var rfl) (ev_var rfl) (rdm exb qm)) ea_nil) (by show 1 ≤ 100000; decide))) fun pr H8 hpr e8 h8 => ?_
      show tSeq _ _ _ [some v, some (.ref L), some (.ref Dm), some vi, some (.ref Rd), some (nV q), some (.ref pr), z7, y8, y9] _
      refine q_for0 (n := l.length) (by have := over_list (K := K) (tl := tVar 1) (σ := [some v, some (.ref L), some (.ref Dm), some vi, some (.ref Rd), some (nV q), some (.ref pr), z7, y8, y9]) (ev_var rfl) (SqL.of ((exb.trans e8) _ _ (e2 _ _ hL))); rw [List.length_map] at this; exact this) (Ex.refl H8) yAt_ex
        (fun m σ' H' => Ex H8 H' ∧ ∃ (pr : Addr) (z7 : Option V), σ' = [some v, some (.ref L), some (.ref Dm), some vi, some (.ref Rd), some (nV q), some (.ref pr), z7, y8, y9] ∧ H' pr = some (.lst ((tup4 T μ (l.take m) q).map nV)))
        (fun H9 e9 => ⟨e9, pr, z7, rfl, e9 _ _ h8⟩) (fun m σ' H' p => p.1) ?_ ?_
      · rintro m x σ' H9 H10 hm' ⟨x9, pr, z7, rfl, h9⟩ hy e10
        obtain ⟨rfl, hx⟩ := hy
        rw [List.getElem?_map] at hx
        obtain ⟨z, hz, rfl⟩ := Option.map_eq_some_iff.mp hx
        have zm : z ∈ l := List.mem_of_getElem? hz
        show tSeq _ _ _ [some v, some (.ref L), some (.ref Dm), some vi, some (.ref Rd), some (nV q), some (.ref pr), some (nV z), y8, y9] _
        have e910 : Ex H2 _ := exb.trans (e8.trans x9)
        have cr : ∀ {σ : L2.St} {H' : Hp} {a b x y : Nat}, Ex H2 H' → σ[0]? = some (some v) → σ[2]? = some (some (.ref Dm)) → σ[a]? = some (some (nV x)) → σ[b]? = some (some (nV y)) → x ∈ l → y ∈ l → Ev (tDGet (tVar 2) (tOp (rIx K) (tOp (rIx K) (tDGet (tVar 0) (tC (.str "rows"))) (tVar a)) (tVar b))) σ H' (nV (μ (T.R x y))) := fun e s0 s2 sa sb hx hy =>
          ev_dget (ev_var s2) (ev_cell (g s0 (e2.trans e) (pl_rows T r t a)) (ev_var sa) (ev_var sb) (hp.rows.mono (e2.trans e)).mat ok.rows (lt _ hx) (lt _ hy)) (rdm e (cl true _ _ hx hy))
        have cs : ∀ {σ : L2.St} {H' : Hp} {a b x y : Nat}, Ex H2 H' → σ[0]? = some (some v) → σ[2]? = some (some (.ref Dm)) → σ[a]? = some (some (nV x)) → σ[b]? = some (some (nV y)) → x ∈ l → y ∈ l → Ev (tDGet (tVar 2) (tOp (rIx K) (tOp (rIx K) (tDGet (tVar 0) (tC (.str "sides"))) (tVar a)) (tVar b))) σ H' (nV (μ (T.S x y))) := fun e s0 s2 sa sb hx hy =>
          ev_dget (ev_var s2) (ev_cell (g s0 (e2.trans e) (pl_sides T r t a)) (ev_var sa) (ev_var sb) (hp.sides.mono (e2.trans e)).mat ok.sides (lt _ hx) (lt _ hy)) (rdm e (cl false _ _ hx hy))
        have tl : (tup4 T μ (l.take m) q).length = 1 + 4 * (l.take m).length := tup4_len ..
        have tl2 : (l.take m).length ≤ 30 := by rw [List.length_take]; omega
        refine q_asgO (eo_L (ep_cat (ev_var rfl) h9 (el_lst (ea_cons (cr e910 rfl rfl rfl rfl qm zm) (ea_cons (cr e910 rfl rfl rfl rfl zm qm) ea_nil)) (by show 2 ≤ 100000; decide)) (by rw [List.length_map, tl]; show _ + 2 ≤ _; omega))) fun pr2 H11 hpr2 e11 h11 => ?_
        refine s_asgO (eo_L (ep_cat (ev_var rfl) h11 (el_lst (ea_cons (cs (e910.trans e11) rfl rfl rfl rfl qm zm) (ea_cons (cs (e910.trans e11) rfl rfl rfl rfl zm qm) ea_nil)) (by show 2 ≤ 100000; decide)) (by rw [List.length_append, List.length_map, tl]; show _ + 2 + 2 ≤ _; omega))) fun pr3 H12 hpr3 e12 h12 => ?_
        refine ⟨x9.trans (e11.trans e12), pr3, some (nV z), rfl, ?_⟩
        rw [h12, List.take_add_one, hz]
        unfold tup4
        simp only [Option.toList_some, List.flatMap_append, List.flatMap_cons, List.flatMap_nil, List.append_nil, List.append_assoc, List.map_append, List.map_cons, List.map_nil, List.cons_append, List.nil_append]
      · rintro σ' H9 ⟨x9, pr, z7, rfl, h9⟩
        rw [List.take_length] at h9
        have e9R : H9 Rd = some (.dK (rd ps)) := x9 _ _ (e8 _ _ h6R)
        have nq : q ∉ ps.map (·.1) := by
          rw [hps]
          intro hq'
          obtain ⟨i', hi', e'⟩ := List.mem_iff_getElem.mp hq'
          rw [List.length_take] at hi'
          rw [List.getElem_take] at e'
          obtain ⟨hj2, hq2⟩ := List.getElem?_eq_some_iff.mp hq
          have := (List.getElem_inj nd (h₀ := by omega) (h₁ := hj2)).mp (e'.trans hq2.symm)
          omega
        refine s_dputP (k := Sum.inl (q : Int)) (Pp := fun u H' => ∃ p, u = .ref p ∧ H' p = some (.tup ((tup4 T μ l q).map nV))) (fun H10 e10 Q' q' => ?_) (fun H10 _ => ev_var rfl) (fun H10 _ => ev_var rfl) e9R (by
          have : ps.length = (l.take j).length := by rw [← hps, List.length_map]
          rw [rd_len, this, List.length_take]; exact sz_lt (by omega)) fun u H10 H11 e10 ⟨p, hu', hp10⟩ e11 => ?_
        · exact ev_var (i := 6) (v := .ref pr) rfl H10 e10 _ fun H11 e11 => ⟨pr, _, rfl, .inl ⟨SqL.of ((e10.trans e11) _ _ h9), fun p hp => q' _ _ (e11.trans (Ex.new hp)) ⟨p, rfl, upd_same⟩⟩⟩
        · subst hu'
          rw [rd_put nq]
          have eR : Ex H7 H11 := e8.trans (x9.trans (e10.trans e11))
          have ne : ∀ {p : Addr} {xs : List V}, H11 p = some (.tup xs) → p ≠ Rd := fun h z => by rw [z, (e10.trans e11) _ _ e9R] at h; cases h
          refine ⟨(x6.trans (ExB.of eR)).upd List.mem_cons_self, ps ++ [(q, p)], _, _, _, rfl, ?_, upd_same, fun z hz => ?_⟩
          · rw [List.map_append, hps, List.take_add_one, hq]; rfl
          · rcases List.mem_append.mp hz with hz | hz
            · have := eR _ _ (h6t z hz)
              rw [upd_ne (ne this)]; exact this
            · rw [List.mem_singleton] at hz
              subst hz
              have := e11 _ _ hp10
              rw [upd_ne (ne this)]; exact this
    · rintro H5 e5 σ' H6 ⟨x6, ps, z5, z6, z7, rfl, hps, h6R, h6t⟩
      rw [List.take_length] at hps
      have exb : Ex H2 H6 := ExB.ex (e3.trans e5) x6 (fun m hm => by rw [List.mem_singleton.mp hm]; exact hRd)
      have pl : ps.length = l.length := by rw [← hps, List.length_map]
      have pget : ∀ i q, ps[i]? = some q → l.getD i 0 = q.1 := fun i q h => by
        rw [← hps, List.getD_eq_getElem?_getD, List.getElem?_map, h]; rfl
      obtain ⟨Bd, hBd⟩ := bound_ex μ l
      refine q_asgP (ep_sortedTup (n := l.length) (d := 1 + 4 * l.length) (B := Bd) (f := fun i => tup4 T μ l (l.getD i 0)) (fun H7 e7 Q' q' => el_listVals (ev_var rfl) (.inl h6R) H7 e7 _ fun Lp H8 hLp e8 h8 => q' _ H8 e8 ⟨Lp, ps.map (·.2), rfl, by rw [List.length_map, pl], by rw [h8, rd_vals], fun i p hp => ?_⟩) (by omega) (by omega) fun i hi => ⟨tup4_len .., tup4_bd hBd cl (by rw [getD_at _ _ hi]; exact List.getElem_mem hi)⟩) fun u H7 e7 ⟨La, Lk, hu', h7L, h7t, ndk, hsub, hall⟩ => ?_
      · rw [List.getElem?_map] at hp
        obtain ⟨q, hq, rfl⟩ := Option.map_eq_some_iff.mp hp
        rw [pget i q hq]
        exact (e7.trans e8) _ _ (h6t q (List.mem_of_getElem? hq))
      subst hu'
      have hall' : ∀ x ∈ l, tup4 T μ l x ∈ Lk.map (·.2) := fun x hx => by
        obtain ⟨i, hi⟩ := List.mem_iff_getElem?.mp hx
        have := hall i (List.getElem?_eq_some_iff.mp hi).1
        rwa [List.getD_eq_getElem?_getD, hi] at this
      have hsub' : ∀ q ∈ Lk.map (·.2), ∃ x ∈ l, q = tup4 T μ l x := fun q hq => by
        obtain ⟨z, hz, rfl⟩ := List.mem_map.mp hq
        obtain ⟨i, hi, e⟩ := hsub z hz
        exact ⟨_, by rw [getD_at _ _ hi]; exact List.getElem_mem hi, e⟩
      have h7R : H7 Rd = some (.dK (rd ps)) := e7 _ _ h6R
      have h7tt : ∀ q ∈ ps, H7 q.2 = some (.tup ((tup4 T μ l q.1).map nV)) := fun q hq => e7 _ _ (h6t q hq)
      show tSeq _ _ _ [some v, some (.ref L), some (.ref Dm), some vi, some (.ref Rd), z5, z6, z7, some (.ref La), y9] _
      refine q_asgO (o := .dK (md (nextM (snds Lk) T μ l) l)) (by
        rw [← mdr]
        exact eo_dictP (κ := fun i => Sum.inl ((l.getD i 0 : Nat) : Int)) (val := fun i => nV (nextM (snds Lk) T μ l (l.getD i 0))) (n := l.length) ki fun H8 e8 Q' q' =>
          elo_lc (o := fun i => .tup [nV (l.getD i 0), nV (nextM (snds Lk) T μ l (l.getD i 0))]) (by have := (over_list (K := K) (tl := tVar 1) (σ := [some v, some (.ref L), some (.ref Dm), some vi, some (.ref Rd), z5, z6, z7, some (.ref La), y9]) (ev_var rfl) (SqL.of ((exb.trans e7) _ _ (e2 _ _ hL)))).over; rw [List.length_map] at this; exact this) (by omega) yAt_ex (fun i x H9 H10 hi e9 hy => by
            obtain ⟨rfl, hx⟩ := hy
            rw [List.getElem?_map] at hx
            obtain ⟨q, hq, rfl⟩ := Option.map_eq_some_iff.mp hx
            have eq' : l.getD i 0 = q := by rw [List.getD_eq_getElem?_getD, hq]; rfl
            rw [eq']
            have hi2 : i < ps.length := by rw [pl]; exact hi
            have hpi := List.getElem?_eq_getElem hi2
            have hq1 : (ps[i]).1 = q := by rw [← eq', pget i _ hpi]
            have hv := rd_val (x := q) (p := (ps[i]).2) (by rw [hps]; exact nd) (by rw [hpi, ← hq1])
            have gt : ∀ H1, Ex H10 H1 → DGet H1 Rd (nV q) (some (.ref (ps[i]).2)) := fun H1 e => by
              have := dget_k (kvs := rd ps) (i := ((q : Nat) : Int)) (e9 _ _ h7R) H1 e
              rwa [hv] at this
            have htp := h7tt _ (List.getElem_mem hi2)
            rw [hq1] at htp
            refine ⟨[some v, some (.ref L), some (.ref Dm), some vi, some (.ref Rd), some (nV q), z6, z7, some (.ref La), y9], rfl, fun Qs h => h, eo_U (eu_tup (ea_cons (ev_var rfl) (ea_cons ?_ ea_nil)) (by show 2 ≤ 100000; decide))⟩
            exact ev_indexT (K := K) (ta := tVar 8) (tb := tDGet (tVar 4) (tVar 5)) (ev_var rfl) (e9 _ _ h7L) (fun z hz => e9 _ _ (h7t z hz)) ndk (ev_dget (ev_var rfl) (ev_var rfl) gt) (e9 _ _ htp) (hall' q (List.mem_of_getElem? hq))) H8 e8 Q' (fun D' H4 ps h1 h2 h3 h4 h5 => q' D' H4 ps h1 h2 h3 h4 h5)) fun Dn H8 hDn e8 h8D => ?_
      show tSeq _ _ _ [some v, some (.ref L), some (.ref Dm), some vi, some (.ref Rd), z5, z6, z7, some (.ref La), some (.ref Dn)] _
      have e28 : Ex H2 H8 := exb.trans (e7.trans e8)
      have lk : (Lk.map fun q => V.ref q.1).length = (Lk.map (·.2)).length := by rw [List.length_map, List.length_map]
      have fDn : H Dn = none := fresh_back (e2.trans (exb.trans e7)) hDn
      refine q_when (b := decide ((Lk.map (·.2)).length = cnt μ l)) (et_test (ev_eqN (by have := ev_lenS (K := K) (ev_var (i := 8) (σ := [some v, some (.ref L), some (.ref Dm), some vi, some (.ref Rd), z5, z6, z7, some (.ref La), some (.ref Dn)]) rfl) (Sq.l (K := K) (e8 _ _ h7L)); rw [lk] at this; exact this) (ev_cnt (ev_var rfl) (.inl (e28 _ _ hM2)) (by omega)) rfl)) (fun hb H9 e9 => ?_) (fun hb H9 e9 => ?_)
      · exact s_ret (ev_var rfl) fun H10 e10 => k Dn _ H10 fDn (e2.trans (e28.trans (e9.trans e10))) ((e9.trans e10) _ _ h8D) (good_done hr ha gd (next_eq hall') (by rw [next_cnt ndk hsub' hall']; exact Nat.le_of_eq (of_decide_eq_true hb)))
      · refine s_asg (ev_var rfl) fun H10 e10 => ⟨_, Dn, _, _, _, _, _, _, _, rfl, ex.trans (e28.trans (e9.trans e10)), fDn, (e9.trans e10) _ _ h8D, good_next hr ha gd (next_eq hall'), ?_⟩
        have h1 : cnt (nextM (snds Lk) T μ l) l = (snds Lk).length := next_cnt ndk hsub' hall'
        have h2 : cnt μ l ≤ cnt (nextM (snds Lk) T μ l) l := next_grow hall'
        have h3 : ¬ (snds Lk).length = cnt μ l := of_decide_eq_false hb
        show i + 1 < cnt (nextM (snds Lk) T μ l) l
        omega
end
end K46
set_option linter.all false
set_option autoImplicit false
/-! K46Math9: the order that the law finds. -/
namespace K46
/-- as many turns as there are reached states -/
theorem ord_turns {T : Tb} (ok : T.Ok) {μ : Nat → Nat} {l : List Nat} (nd : l.Nodup) (hl : ∀ x, x ∈ l ↔ Rch T x) : bfs μ (four T) l.length (start μ T) 0 = ordOf μ T := by
  have hN : ∀ o : List Nat, Dist μ o → (∀ y ∈ o, Rch T y) → o.length ≤ l.length := fun o d h => (dist_nodup d).length_le_of_subset fun x hx => (hl x).mpr (h x hx)
  have hn : l.length ≤ T.n := nodup_le _ _ nd fun x hx => ((hl x).mp hx).lt ok
  exact bfs_fuel (P := Rch T) (fun a b ha hb => four_rch ha hb) hN _ _ _ (by omega) (by omega) (Nat.zero_le _) start_dist start_rch
theorem bfs_stop {T : Tb} {μ : Nat → Nat} {o : List Nat} {k : Nat} (h : ¬ k < o.length) : ∀ f : Nat, bfs μ (four T) f o k = o
  | 0 => rfl
  | f + 1 => by show (if k < o.length then _ else o) = o; rw [if_neg h]
theorem bfs_go {T : Tb} {μ : Nat → Nat} {o : List Nat} {k f : Nat} (h : k < o.length) : bfs μ (four T) (f + 1) o k = bfs μ (four T) f (turn μ (four T) o k) (k + 1) := by
  show (if k < o.length then _ else o) = _; rw [if_pos h]
end K46
set_option Elab.async false
set_option linter.all false
set_option autoImplicit false
set_option maxRecDepth 100000
namespace K46
open PySem PySem.Spec PyProof.Rows L2 Evl
set_option maxHeartbeats 4000000
/-- the order at L, behind the base H0 -/
structure On (H0 H : Hp) (L : Addr) (o : List Nat) : Prop where
  ex : Ex H0 H
  nL : H0 L = none
  hL : H L = some (.lst (o.map nV))
theorem On.mono {H0 H H' : Hp} {L : Addr} {o : List Nat} (m : On H0 H L o) (e : Ex H H') : On H0 H' L o := ⟨m.ex.trans e, m.nL, e _ _ m.hL⟩
theorem On.push {H0 H : Hp} {L : Addr} {o : List Nat} (m : On H0 H L o) (x : Nat) : On H0 (upd H L (.lst (o.map nV ++ [nV x]))) L (o ++ [x]) :=
  ⟨m.ex.mut m.nL, m.nL, by rw [upd_same, List.map_append]; rfl⟩
theorem On.there {H0 H : Hp} {L : Addr} {o : List Nat} (m : On H0 H L o) : ∀ a ∈ [L], ∃ u, H a = some u := fun a ha => by rw [List.mem_singleton.mp ha]; exact ⟨_, m.hL⟩
theorem On.out {H0 H : Hp} {L : Addr} {o : List Nat} (m : On H0 H L o) : ∀ a ∈ [L], H0 a = none := fun a ha => by rw [List.mem_singleton.mp ha]; exact m.nL
/-- the places of the marks -/
def plc (μ : Nat → Nat) (o : List Nat) : List (Key × V) := (List.range o.length).map fun i => ((Sum.inl ((μ (o.getD i 0) : Nat) : Int) : Key), nV i)
theorem plc_nums (μ : Nat → Nat) (o : List Nat) : plc μ o = nums (o.map μ) := by
  unfold plc nums
  rw [List.length_map]
  refine List.map_congr_left fun i hi => ?_
  have hi := List.mem_range.mp hi
  rw [List.getD_eq_getElem?_getD, List.getD_eq_getElem?_getD, List.getElem?_map, List.getElem?_eq_getElem hi]; rfl
theorem plc_val {μ : Nat → Nat} {o : List Nat} (d : Dist μ o) {x : Nat} (h : μ x ∈ o.map μ) : valV (plc μ o) (Sum.inl ((μ x : Nat) : Int)) = some (nV (idx μ o x)) := by
  rw [plc_nums, nums_val d h]; rfl
section
variable {K : PySem.W.Frag} {σ : L2.St} {H : Hp} {ta tb te : TE} {D : Ends} {tz : TS} {P : V → Hp → Prop}
theorem q_asgGP {g : TG} (h : EvP te σ H P) (k : ∀ v H1, Ex H H1 → P v H1 → g v σ H1 fun σ2 H2 => tz D σ2 H2) : tSeq (tAsg te g) tz D σ H := h H (Ex.refl H) _ fun v H1 e p => k v H1 e p
theorem ep_tupLN {xs : List V} {y : V} (h1 : EvL ta σ H xs) (h2 : ∀ H1, Ex H H1 → Ev tb σ H1 y) : EvP (tTup (tCons ta (tCons tb tNil))) σ H (fun u H' => ∃ p q, u = .ref p ∧ H' p = some (.tup [.ref q, y]) ∧ H q = none ∧ H' q = some (.lst xs)) := fun H1 e Q q =>
  h1 H1 e _ fun a H2 ha e2 h => h2 H2 (e.trans e2) H2 (Ex.refl _) _ fun H3 e3 => ⟨sz_of (by show 2 ≤ 100000; decide), fun p hp => q _ _ ((e2.trans e3).trans (Ex.new hp)) ⟨p, a, rfl, upd_same, fresh_back e ha, (Ex.new hp) _ _ (e3 _ _ h)⟩⟩
theorem el_listN {xs : List V} (h : EvL ta σ H xs) :
    EvL (tCB (fun xs H Q => ∃ p ys, xs = [V.ref p] ∧ (SqL K H p ys ∨ SqT K H p ys) ∧ ∀ l, H l = none → Q (.ref l) (upd H l (.lst ys))) (tCons ta tNil)) σ H xs := fun H1 e Q q =>
  h H1 e _ fun p H2 hp e2 h2 => ⟨p, xs, rfl, .inl (SqL.of h2), fun l hl => q l _ (fresh_back e2 hl) (e2.trans (Ex.new hl)) upd_same⟩
theorem ep_catN {xs ys : List V} (h1 : EvL ta σ H xs) (h2 : EvL tb σ H ys) (hz : xs.length + ys.length ≤ 100000) : EvL (tOp rCat ta tb) σ H (xs ++ ys) := fun H1 e Q q =>
  h1 H1 e _ fun a H2 ha e2 hxa => h2 H2 (e.trans e2) _ fun p H3 hp e3 h3 => ⟨a, p, xs, ys, rfl, rfl, e3 _ _ hxa, h3, sz_of hz, fun l hl => q l _ (fresh_back (e2.trans e3) hl) ((e2.trans e3).trans (Ex.new hl)) upd_same⟩
end
section
variable {P : Program} {w : World} {K : PySem.W.Frag} {mg : Str → Option Value} {base : Heap}
/-! ### _law_least_plain -/
abbrev sLp : Stmt := top 68
def spLp (K : PySem.W.Frag) : Sp := fun vs H Q _ => ∃ (v : V) (T : Tb), vs = [v] ∧ Plain H v T ∧ T.Ok ∧ T.n ≤ 30 ∧ ∀ u H' T', Ex H H' → Least T T' → Plain H' u T' → Q u H'
abbrev nLp : List Str := ["_law_table", "_law_states", "_law_marks", "_law_order", "_law_at", "_law_turn", "_law_one", "_law_other", "_law_state", "_law_place", "_law_rows", "_law_sides", "_law_good", "_law_found", "_law_number", "_law_known"]
theorem scLp : FnScope nLp ["_law_table"] (defScope sLp) := ⟨rfl, rfl, rfl, by decide +kernel, rfl, by decide +kernel, by decide +kernel⟩
abbrev tLpC (K : PySem.W.Frag) (k : Str) : TE := tDGet (tVar 9) (tDGet (tVar 2) (tOp (rIx K) (tOp (rIx K) (tDGet (tVar 0) (tC (.str k))) (tVar 6)) (tVar 7)))
abbrev tLpR (K : PySem.W.Frag) (k : Str) : TE := tCB (rTup K) (tCons (tLc (iList K (tVar 3)) (gName 7) tYes (tLpC K k) [7]) tNil)
abbrev tLpM : TE := tDGet (tVar 2) (tVar 15)
abbrev tLpP (K : PySem.W.Frag) : TE := tTup (tCons (tDGet (tVar 2) (tOp (rIxL K) (tVar 3) (tVar 14))) (tCons (tVar 14) tNil))
/-- the new rows -/
theorem ep_lpRows {H : Hp} {v r t a x : V} {d Dm Lo Dp : Addr} {T : Tb} {μ : Nat → Nat} {l o : List Nat} {m : List (List Nat)} {x1 x4 x5 x6 x7 x8 x10 x11 x12 x13 : Option V} {k : Str} (hp : PlainAt H v T r t a d) (hL : H Lo = some (.lst (o.map nV))) (hM : H Dm = some (.dK (md μ l))) (hD : H Dp = some (.dK (plc μ o))) (ok : T.Ok) (hn : o.length ≤ 60) (dist : Dist μ o) (c : Bool)
    (hl : ∀ x, x ∈ l ↔ Rch T x) (hr : ∀ x ∈ o, Rch T x) (hop : ∀ a b, a ∈ o → b ∈ o → μ (op T c a b) ∈ o.map μ) (hk : valV (plKV T r t a) (kx k) = some x) (hm : Mat K H x m) (sq : Square T.n m) (em : cell m = op T c) :
    EvP (tLc (iList K (tVar 3)) (gName 6) tYes (tLpR K k) [6]) [some v, x1, some (.ref Dm), some (.ref Lo), x4, x5, x6, x7, x8, some (.ref Dp), x10, x11, x12, x13, none, none] H (fun u H' => LstM H' u (o.map fun a => o.map fun b => idx μ o (op T c a b))) := by
  have key : o.map (fun a => o.map fun b => idx μ o (op T c a b)) = (List.range o.length).map fun i => o.map fun b => idx μ o (op T c (o.getD i 0) b) := (map_range_get _ _ fun i x hx => by rw [List.getD_eq_getElem?_getD, hx]; rfl).symm
  rw [key]
  refine ep_rowsT (n := o.length) fun H1 e1 Q q => ?_
  refine elo_lc (o := fun i => .tup ((o.map fun b => idx μ o (op T c (o.getD i 0) b)).map nV)) (over_list (ev_var rfl) (SqL.of hL)).over (by rw [List.length_map]; omega) yAt_ex (fun i y H2 H3 hi e2 hy => ?_) H1 e1 Q (fun D' H4 ps h1 h2 h3 h4 h5 => q D' H4 ps h1 h2 h3 (by rw [h4, List.length_map]) h5)
  obtain ⟨rfl, hx⟩ := hy
  rw [List.getElem?_map] at hx
  obtain ⟨b, hb, rfl⟩ := Option.map_eq_some_iff.mp hx
  have eb : o.getD i 0 = b := by rw [List.getD_eq_getElem?_getD, hb]; rfl
  have bo := List.mem_of_getElem? hb
  refine ⟨[some v, x1, some (.ref Dm), some (.ref Lo), x4, x5, some (nV b), x7, x8, some (.ref Dp), x10, x11, x12, x13, none, none], rfl, fun Qs h => h, eo_U (eu_tupL ?_)⟩
  rw [eb, ← map_range_get (xs := o) (fun z => idx μ o (op T c b z)) (fun i => idx μ o (op T c b (o.getD i 0))) (fun i x hx => by rw [List.getD_eq_getElem?_getD, hx]; rfl), List.map_map]
  have e := elv_lc (te := tLpC K k) (vs := [7]) (g := gName 7) (tt := tYes) (fun _ => true) (fun i => nV (idx μ o (op T c b (o.getD i 0))))
    (over_list (K := K) (tl := tVar 3) (σ := [some v, x1, some (.ref Dm), some (.ref Lo), x4, x5, some (nV b), x7, x8, some (.ref Dp), x10, x11, x12, x13, none, none]) (ev_var rfl) (SqL.of (e2 _ _ hL))).over (by rw [List.length_map]; omega) yAt_ex (fun j y H4 H5 hj e4 hy => ?_)
  · rw [given_all, List.length_map] at e
    exact e
  obtain ⟨rfl, hy⟩ := hy
  rw [List.getElem?_map] at hy
  obtain ⟨z, hz, rfl⟩ := Option.map_eq_some_iff.mp hy
  have ez : o.getD j 0 = z := by rw [List.getD_eq_getElem?_getD, hz]; rfl
  have zo := List.mem_of_getElem? hz
  refine ⟨[some v, x1, some (.ref Dm), some (.ref Lo), x4, x5, some (nV b), some (nV z), x8, some (.ref Dp), x10, x11, x12, x13, none, none], rfl, fun Qs h => h, fun H6 _ Q q => q H6 (Ex.refl _), fun _ => ?_⟩
  have e24 := e2.trans e4
  rw [ez]
  refine ev_dget (y := nV (μ (op T c b z))) (ev_var rfl) (ev_dget (ev_var rfl) (ev_cell (ev_pl (ev_var rfl) (hp.mono e24) hk) (ev_var rfl) (ev_var rfl) (hm.mono e24) sq ((hr b bo).lt ok) ((hr z zo).lt ok)) ?_) ?_
  · rw [em]
    exact dget_md (.inl (e24 _ _ hM)) ((hl _).mpr ((hr b bo).op c (hr z zo)))
  · have := dget_k (kvs := plc μ o) (i := (μ (op T c b z) : Nat)) (e24 _ _ hD)
    rw [plc_val dist (hop b z bo zo)] at this
    exact this
theorem ok_lp (B : Free mg) (F : FnG K "_law_least_plain" sLp) (hm : mg "_law_least_plain" = some (.ref (He.ga K "_law_least_plain"))) (Fr : Pr P w K mg base 1 "_law_reached" ["_law_table"] (spReach K)) (Fm : Pr P w K mg base 1 "_law_marks_of" ["_law_table", "_law_states"] (spMarks K))
    (Fb : Pr P w K mg base 1 "_law_both_sides" ["_law_table", "_law_one", "_law_other"] (spBoth K)) : Pr P w K mg base 2 "_law_least_plain" ["_law_table"] (spLp K) := by
  refine pr_mk F hm scLp (fun _ _ _ _ _ _ us hl => match us, hl with | [_], _ => rfl) (fun vs H Q E h => ?_) (fun f cdv A outer s H vs Q E hr h => ?_)
  · obtain ⟨v, T, rfl, _⟩ := h
    rfl
  · obtain ⟨v, T, rfl, ⟨r, t, a, d, hp⟩, ok, hn, k⟩ := h
    have hu := hu_of hr
    refine ⟨_, pss_cons (ps_set (i := 1) scLp.nd rfl (Or.inl rfl) (pe_g Fr hr (pa_cons (pv 0) pa_nil)))
      (pss_cons (ps_set (i := 2) scLp.nd rfl (Or.inr rfl) (pe_g Fm hr (pa_cons (pv 0) (pa_cons (pv 1) pa_nil))))
      (pss_cons (ps_asg (pe_tup (pa_cons (pe_lst (pa_cons (pe_dget hu (pv 0) pe_str (fun _ _ => rfl)) pa_nil)) (pa_cons pe_int pa_nil))) (pg_tup rfl (pgs_cons (pg_name (i := 3) scLp.nd rfl (Or.inr rfl)) (pgs_cons (pg_name (i := 4) scLp.nd rfl (Or.inl rfl)) pgs_nil))))
      (pss_cut (ps_if (pt_cmpR op_ne (pe_dget hu (pv 2) (pe_dget hu (pv 0) pe_str (fun _ _ => rfl)) (fun _ _ => rfl)) (pe_dget hu (pv 2) (pe_dget hu (pv 0) pe_str (fun _ _ => rfl)) (fun _ _ => rfl)) (nomark _))
        (pss_one (ps_expr (pe_bm PySem.F.plainAttrs_list PySem.F.slot_list_append PySem.F.type_list_append mt_append (pv 3) (pa_cons (pe_dget hu (pv 0) pe_str (fun _ _ => rfl)) pa_nil)))) pss_nil)
      (pss_cons (ps_for PassesOwn.never rfl (pi_range1 (by rfl) B.range (pa_cons (pe_callB call_len_seq (by rfl) B.len b_len (pa_cons (pv 1) pa_nil)) pa_nil)) (pg_name (i := 5) scLp.nd rfl (Or.inl rfl))
        (pss_one (ps_if (pt_cmpR op_lt (pv 4) (pe_callB call_len_seq (by rfl) B.len b_len (pa_cons (pv 3) pa_nil)) (nomark _))
          (pss_cons (ps_for PassesOwn.never rfl (pi_list (pe_callTy call_list_of (by rfl) B.list b_list (pa_cons (pe_slice sl_list (pv 3) po_none (po_some (pe_op op_add (pv 4) pe_int))) pa_nil))) (pg_name (i := 6) scLp.nd rfl (Or.inl rfl))
            (pss_cons (ps_set (i := 7) scLp.nd rfl (Or.inl rfl) (pe_ix ix_list (pv 3) (pv 4) (fun _ _ => rfl)))
            (pss_one (ps_for PassesOwn.never rfl (pi_list (pe_op op_cat (pe_lst (pa_cons (pe_ix ix_seq (pe_ix ix_seq (pe_dget hu (pv 0) pe_str (fun _ _ => rfl)) (pv 6) (fun _ _ => rfl)) (pv 7) (fun _ _ => rfl)) (pa_cons (pe_ix ix_seq (pe_ix ix_seq (pe_dget hu (pv 0) pe_str (fun _ _ => rfl)) (pv 7) (fun _ _ => rfl)) (pv 6) (fun _ _ => rfl)) pa_nil)))
                (pe_g Fb hr (pa_cons (pv 0) (pa_cons (pv 6) (pa_cons (pv 7) pa_nil)))))) (pg_name (i := 8) scLp.nd rfl (Or.inl rfl))
              (pss_one (ps_if (pt_cmpR op_notIn_seq (pe_dget hu (pv 2) (pv 8) (fun _ _ => rfl))
                  (pe_lc (own := [("_law_known", 15)]) (g := gName 15) (tt := tYes) (te := tLpM) rfl scLp.nd (pi_list (pv 3)) (blkOk_by (by kernel_rfl)) (fun _ _ _ _ _ => pg_name (i := 15) scLp.nd rfl (Or.inl rfl)) (fun _ _ _ _ _ => pts_nil) (fun _ _ _ _ _ => pe_dget hu (pv 2) (pv 15) (fun _ _ => rfl))) (by rfl))
                (pss_one (ps_expr (pe_bm PySem.F.plainAttrs_list PySem.F.slot_list_append PySem.F.type_list_append mt_append (pv 3) (pa_cons (pv 8) pa_nil)))) pss_nil))))))
          (pss_one (ps_set (i := 4) scLp.nd rfl (Or.inl rfl) (pe_op op_add (pv 4) pe_int)))) pss_nil)))
      (pss_cons (ps_set (i := 9) scLp.nd rfl (Or.inr rfl) (pe_callTy (call_dictP rfl) (by rfl) B.dict b_dict (pa_cons
          (pe_lc (own := [("_law_number", 14)]) (g := gName 14) (tt := tYes) (te := tLpP K) rfl scLp.nd (pi_range1 (by rfl) B.range (pa_cons (pe_callB call_len_seq (by rfl) B.len b_len (pa_cons (pv 3) pa_nil)) pa_nil)) (blkOk_by (by kernel_rfl))
            (fun _ _ _ _ _ => pg_name (i := 14) scLp.nd rfl (Or.inl rfl)) (fun _ _ _ _ _ => pts_nil) (fun _ _ _ _ _ => pe_tup (pa_cons (pe_dget hu (pv 2) (pe_ix ix_list (pv 3) (pv 14) (fun _ _ => rfl)) (fun _ _ => rfl)) (pa_cons (pv 14) pa_nil)))) pa_nil)))
      (pss_cons (ps_setLc (i := 10) (own := [("_law_one", 6)]) (g := gName 6) (tt := tYes) (te := tLpR K "rows") rfl scLp.nd rfl rfl (sw_true rfl rfl rfl (by decide +kernel)) (pi_list (pv 3)) (blkOk_by (by kernel_rfl)) (fun _ _ _ _ _ => pg_name (i := 6) scLp.nd rfl (Or.inr rfl)) (fun _ _ _ _ _ => pts_nil)
          (fun _ _ _ _ _ => pe_callTy call_tuple_of (by rfl) B.tuple b_tuple (pa_cons (pe_lc (own := [("_law_other", 7)]) (g := gName 7) (tt := tYes) (te := tLpC K "rows") rfl scLp.nd (pi_list (pv 3)) (blkOk_by (by kernel_rfl)) (fun _ _ _ _ _ => pg_name (i := 7) scLp.nd rfl (Or.inl rfl)) (fun _ _ _ _ _ => pts_nil)
            (fun _ _ _ _ _ => pe_dget hu (pv 9) (pe_dget hu (pv 2) (pe_ix ix_seq (pe_ix ix_seq (pe_dget hu (pv 0) pe_str (fun _ _ => rfl)) (pv 6) (fun _ _ => rfl)) (pv 7) (fun _ _ => rfl)) (fun _ _ => rfl)) (fun _ _ => rfl))) pa_nil)))
      (pss_cons (ps_setLc (i := 11) (own := [("_law_one", 6)]) (g := gName 6) (tt := tYes) (te := tLpR K "sides") rfl scLp.nd rfl rfl (sw_true rfl rfl rfl (by decide +kernel)) (pi_list (pv 3)) (blkOk_by (by kernel_rfl)) (fun _ _ _ _ _ => pg_name (i := 6) scLp.nd rfl (Or.inr rfl)) (fun _ _ _ _ _ => pts_nil)
          (fun _ _ _ _ _ => pe_callTy call_tuple_of (by rfl) B.tuple b_tuple (pa_cons (pe_lc (own := [("_law_other", 7)]) (g := gName 7) (tt := tYes) (te := tLpC K "sides") rfl scLp.nd (pi_list (pv 3)) (blkOk_by (by kernel_rfl)) (fun _ _ _ _ _ => pg_name (i := 7) scLp.nd rfl (Or.inl rfl)) (fun _ _ _ _ _ => pts_nil)
            (fun _ _ _ _ _ => pe_dget hu (pv 9) (pe_dget hu (pv 2) (pe_ix ix_seq (pe_ix ix_seq (pe_dget hu (pv 0) pe_str (fun _ _ => rfl)) (pv 6) (fun _ _ => rfl)) (pv 7) (fun _ _ => rfl)) (fun _ _ => rfl)) (fun _ _ => rfl))) pa_nil)))
      (pss_cons (ps_set (i := 12) scLp.nd rfl (Or.inl rfl) (pe_callTy call_tuple_of (by rfl) B.tuple b_tuple (pa_cons
          (pe_lc (own := [("_law_number", 14)]) (g := gName 14) (tt := tTest (tOp (rIn K false) (tOp (rIxL K) (tVar 3) (tVar 14)) (tDGet (tVar 0) (tC (.str "accepted"))))) (te := tVar 14) rfl scLp.nd (pi_range1 (by rfl) B.range (pa_cons (pe_callB call_len_seq (by rfl) B.len b_len (pa_cons (pv 3) pa_nil)) pa_nil)) (blkOk_by (by kernel_rfl))
            (fun _ _ _ _ _ => pg_name (i := 14) scLp.nd rfl (Or.inl rfl)) (fun _ _ _ _ _ => pts_one (pt_cmpR op_in_seq (pe_ix ix_list (pv 3) (pv 14) (fun _ _ => rfl)) (pe_dget hu (pv 0) pe_str (fun _ _ => rfl)) (by rfl))) (fun _ _ _ _ _ => pv 14)) pa_nil)))
      (pss_cons (ps_set (i := 13) scLp.nd rfl (Or.inl rfl) (pe_disp (pps_cons pe_str (pe_dget hu (pv 9) (pe_dget hu (pv 2) (pe_dget hu (pv 0) pe_str (fun _ _ => rfl)) (fun _ _ => rfl)) (fun _ _ => rfl)) (pps_cons pe_str pe_int (pps_cons pe_str (pv 10) (pps_cons pe_str (pv 11) pps_nil)))) (by rfl) (by rfl) (fun z => by cases z) (by decide)))
      (pss_cons (ps_dput hu (pv 13) pe_str (pv 12) rfl)
      (pss_one (ps_ret (pv 13))))))))))))), ?_⟩
    have g : ∀ {H' : Hp} {k : Str} {x : V} {σ : L2.St}, σ[0]? = some (some v) → Ex H H' → valV (plKV T r t a) (kx k) = some x → Ev (tDGet (tVar 0) (tC (.str k))) σ H' x := fun s0 e hk => ev_pl (ev_var s0) (hp.mono e) hk
    refine q_asgP (P := fun u H' => ∃ p l, u = .ref p ∧ H' p = some (.lst (l.map nV)) ∧ l.Pairwise (· < ·) ∧ ∀ x, x ∈ l ↔ Rch T x) (ep_call (ea_cons (ev_var rfl) ea_nil) fun H1 e1 Q' q' =>
      ⟨v, T, rfl, (Plain.mono ⟨r, t, a, d, hp⟩ e1), ok, hn, fun p l H2 hp e2 h2 asc hl => q' _ H2 e2 ⟨p, l, rfl, h2, asc, hl⟩⟩) fun u H1 e1 ⟨Ls, l, hu', h1L, asc, hl⟩ => ?_
    subst hu'
    have nd : l.Nodup := asc.imp fun z => Nat.ne_of_lt z
    have ll : l.length ≤ 30 := Nat.le_trans (nodup_le _ _ nd fun x hx => ((hl x).mp hx).lt ok) hn
    refine q_asgP (P := fun u H' => ∃ (p : Addr) (μ : Nat → Nat), u = .ref p ∧ H' p = some (.dK (md μ l)) ∧ Disc μ T) (ep_call (ea_cons (ev_var rfl) (ea_cons (ev_var rfl) ea_nil)) fun H2 e2 Q' q' =>
      ⟨v, Ls, T, l, rfl, (Plain.mono ⟨r, t, a, d, hp⟩ (e1.trans e2)), ok, hn, e2 _ _ h1L, asc, hl, fun p μ H3 hp e3 h3 ds => q' _ H3 e3 ⟨p, μ, rfl, h3, ds⟩⟩) fun u H2 e2 ⟨Dm, μ, hu', h2M, disc⟩ => ?_
    subst hu'
    have e12 := e1.trans e2
    have mm : ∀ {σ : L2.St} {H' : Hp} {x : Nat} {tx : TE}, σ[2]? = some (some (.ref Dm)) → Ex H2 H' → Ev tx σ H' (nV x) → Rch T x → Ev (tDGet (tVar 2) tx) σ H' (nV (μ x)) := fun s2 e hx lx => ev_dget (ev_var s2) hx (dget_md (.inl (e _ _ h2M)) ((hl _).mpr lx))
    refine q_asgGP (P := fun u H' => ∃ p q, u = .ref p ∧ H' p = some (.tup [.ref q, nV 0]) ∧ On H2 H' q [T.gap]) (fun H3 e3 Q' q' => ?_) fun u H3 e3 ⟨p3, Lo, hu', h3, m3⟩ => ?_
    · exact ep_tupLN (el_lst (σ := [some v, some (.ref Ls), some (.ref Dm), none, none, none, none, none, none, none, none, none, none, none, none, none]) (ea_cons (g rfl (e12.trans e3) (pl_gap T r t a)) ea_nil) (by show 1 ≤ 100000; decide)) (fun _ _ => ev_c) H3 (Ex.refl _) Q' fun u H4 e4 ⟨p, q, h1, h2, h3, h4⟩ => q' u H4 e4 ⟨p, q, h1, h2, e3.trans e4, fresh_back e3 h3, h4⟩
    subst hu'
    refine g_two h3 ?_
    refine q_cut (M := fun σ' H' => σ' = [some v, some (.ref Ls), some (.ref Dm), some (.ref Lo), some (nV 0), none, none, none, none, none, none, none, none, none, none, none] ∧ On H2 H' Lo (start μ T)) ?_ ?_
    · by_cases hq : μ T.tie = μ T.gap
      · refine s_when (b := false) (et_test (ev_op (mm rfl m3.ex (g rfl (e12.trans m3.ex) (pl_tie T r t a)) (Rch.tie T)) (mm rfl m3.ex (g rfl (e12.trans m3.ex) (pl_gap T r t a)) (Rch.gap T)) (rv_neN hq))) (fun z => by cases z) fun _ H4 e4 => ⟨rfl, ?_⟩
        have es : start μ T = [T.gap] := by unfold start push; rw [List.map_singleton, hq, if_pos (List.mem_singleton.mpr rfl)]
        rw [es]
        exact m3.mono e4
      · refine s_when (b := true) (et_test (ev_op (mm rfl m3.ex (g rfl (e12.trans m3.ex) (pl_tie T r t a)) (Rch.tie T)) (mm rfl m3.ex (g rfl (e12.trans m3.ex) (pl_gap T r t a)) (Rch.gap T)) (rv_neN' hq))) (fun _ H4 e4 => ?_) (fun z => by cases z)
        have m4 := m3.mono e4
        have es : start μ T = [T.gap] ++ [T.tie] := by unfold start push; rw [List.map_singleton, if_neg (fun z => hq (List.mem_singleton.mp z))]
        exact s_app m4.hL (ev_var rfl) (g rfl (e12.trans m4.ex) (pl_tie T r t a)) (by simp) fun H5 e5 => ⟨rfl, by rw [es]; exact (m4.mono e5).push _⟩
    rintro σ' H4 ⟨rfl, m4⟩
    clear m3
    refine q_for0 (n := l.length) (over_rng (n := l.length) (tl := tCons (tCB (rLen K) (tCons (tVar 1) tNil)) tNil) (ea_cons (by have := ev_lenS (K := K) (ev_var (i := 1) (σ := [some v, some (.ref Ls), some (.ref Dm), some (.ref Lo), some (nV 0), none, none, none, none, none, none, none, none, none, none, none]) rfl) (Sq.l (K := K) (e2 _ _ h1L)); rw [List.length_map] at this; exact this) ea_nil) (by omega)) m4.ex yFn_ex
      (fun i σ' H' => ∃ (o : List Nat) (kk : Nat) (y5 y6 y7 y8 : Option V), σ' = [some v, some (.ref Ls), some (.ref Dm), some (.ref Lo), some (nV kk), y5, y6, y7, y8, none, none, none, none, none, none, none] ∧ On H2 H' Lo o ∧ Dist μ o ∧ (∀ x ∈ o, Rch T x) ∧ bfs μ (four T) (l.length - i) o kk = ordOf μ T)
      (fun H5 e5 => ⟨start μ T, 0, none, none, none, none, rfl, m4.mono e5, start_dist, start_rch, ord_turns ok nd hl⟩) (fun i σ' H' ⟨_, _, _, _, _, _, _, m, _⟩ => m.ex) (fun i x σ' H5 H6 hi pv hy ey => ?_) fun σ' H5 ⟨o, kk, y5, y6, y7, y8, e, m5, dist, hrch, hb⟩ => ?_
    · obtain ⟨o, kk, y5, y6, y7, y8, rfl, m5, dist, hrch, hb⟩ := pv
      obtain ⟨rfl, rfl⟩ := hy
      have hle := rch_bound ok μ o dist hrch
      have hlt0 : (o.map nV).length = o.length := List.length_map _
      show tIfS _ _ _ _ [some v, some (.ref Ls), some (.ref Dm), some (.ref Lo), some (nV kk), some (.int (0 + (i : Int))), y6, y7, y8, none, none, none, none, none, none, none] _
      generalize hI : V.int (0 + (i : Int)) = vi
      refine s_when (b := decide ((kk : Int) < ((o.map nV).length : Int))) (et_test (ev_op (ev_var rfl) (ev_lenS (ev_var rfl) (Sq.l m5.hL)) rv_I0)) (fun hc H6 e6 => ?_) (fun hc H6 e6 => ?_)
      · have hlt : kk < o.length := by have := of_decide_eq_true hc; omega
        have m6 := m5.mono e6
        have hzz : o[kk]? = some (o.getD kk default) := by rw [List.getD_eq_getElem?_getD, List.getElem?_eq_getElem hlt]; rfl
        generalize hzd : o.getD kk default = zz at hzz
        have zo : zz ∈ o := List.mem_of_getElem? hzz
        have ev1 : EvL (tCB (fun xs H Q => ∃ p ys, xs = [V.ref p] ∧ (SqL K H p ys ∨ SqT K H p ys) ∧ ∀ l, H l = none → Q (.ref l) (upd H l (.lst ys))) (tCons (tSl (rSlL K) (tVar 3) tNoPart (tPart (tOp (rI0 fun i j => .int (i + j)) (tVar 4) (tC (.int 1))))) tNil)) [some v, some (.ref Ls), some (.ref Dm), some (.ref Lo), some (nV kk), some vi, y6, y7, y8, none, none, none, none, none, none, none] H6 ((o.take (kk + 1)).map nV) := by
          rw [List.map_take, ← cut_take]
          exact el_listN (el_sl (ev_var rfl) eo_none (eo_some (ev_op (ev_var rfl) ev_c rv_I0)) (SqL.of m6.hL))
        refine q_forM (M := [Lo]) (overM_listN ev1 m6.there) yAt_ex (fun H1 j σ' H' => ExB [Lo] H1 H' ∧ ∃ (o2 : List Nat) (y6 y7 y8 : Option V), σ' = [some v, some (.ref Ls), some (.ref Dm), some (.ref Lo), some (nV kk), some vi, y6, y7, y8, none, none, none, none, none, none, none] ∧ On H2 H' Lo o2 ∧
          o2 = ((o.take (kk + 1)).take j).foldl (fun o' i => (four T i zz).foldl (push μ) o') o) (fun H7 e7 => ⟨ExB.refl _, o, y6, y7, y8, rfl, m6.mono e7, rfl⟩) (fun H1 i σ' H' p => p.1) ?_ ?_
        · rintro H7 e7 j x σ' H8 H9 hj ⟨x8, o2, z6, z7, z8, rfl, m8, ho2⟩ hy e9
          obtain ⟨rfl, hx⟩ := hy
          rw [List.getElem?_map] at hx
          obtain ⟨q, hq, rfl⟩ := Option.map_eq_some_iff.mp hx
          have qo : q ∈ o := List.mem_of_mem_take (List.mem_of_getElem? hq)
          have pre : o <+: o2 := by rw [ho2]; exact folds_prefix _ _ o
          show tSeq _ _ _ [some v, some (.ref Ls), some (.ref Dm), some (.ref Lo), some (nV kk), some vi, some (nV q), z7, z8, none, none, none, none, none, none, none] _
          refine q_asg (ev_op (ev_var rfl) (ev_var rfl) (rv_ixL (SqL.of m8.hL) (atI_nat (nV_get (prefix_get' pre hzz))))) fun H10 e10 => ?_
          show tFor _ _ _ _ [some v, some (.ref Ls), some (.ref Dm), some (.ref Lo), some (nV kk), some vi, some (nV q), some (nV zz), z8, none, none, none, none, none, none, none] _
          have m10 := m8.mono e10
          have lq := (hrch q qo).lt ok
          have lz := (hrch zz zo).lt ok
          have e10x : Ex H H10 := e12.trans m10.ex
          have ev2 : EvL (tOp rCat (tLst (tCons (tOp (rIx K) (tOp (rIx K) (tDGet (tVar 0) (tC (.str "rows"))) (tVar 6)) (tVar 7)) (tCons (tOp (rIx K) (tOp (rIx K) (tDGet (tVar 0) (tC (.str "rows"))) (tVar 7)) (tVar 6)) tNil))) (tCall (spBoth K) [] E0 (tCons (tVar 0) (tCons (tVar 6) (tCons (tVar 7) tNil)))))
              [some v, some (.ref Ls), some (.ref Dm), some (.ref Lo), some (nV kk), some vi, some (nV q), some (nV zz), z8, none, none, none, none, none, none, none] H10 ((four T q zz).map nV) := by
            refine ep_catN (xs := [nV (T.R q zz), nV (T.R zz q)]) (ys := [nV (T.S q zz), nV (T.S zz q)]) (el_lst (ea_cons (ev_cell (g rfl e10x (pl_rows T r t a)) (ev_var rfl) (ev_var rfl) (hp.rows.mono e10x).mat ok.rows lq lz) (ea_cons (ev_cell (g rfl e10x (pl_rows T r t a)) (ev_var rfl) (ev_var rfl) (hp.rows.mono e10x).mat ok.rows lz lq) ea_nil)) (by show 2 ≤ 100000; decide)) (eo_call (ea_cons (ev_var rfl) (ea_cons (ev_var rfl) (ea_cons (ev_var rfl) ea_nil))) fun H11 e11 Q' q' => ?_) (by show 4 ≤ 100000; decide)
            exact ⟨v, T, q, zz, rfl, (Plain.mono ⟨r, t, a, d, hp⟩ (e10x.trans e11)), ok, lq, lz, q'⟩
          refine s_forM (M := [Lo]) (overM_listN ev2 m10.there) yAt_ex (fun H1 i σ' H' => ExB [Lo] H1 H' ∧ ∃ (o3 : List Nat) (z8 : Option V), σ' = [some v, some (.ref Ls), some (.ref Dm), some (.ref Lo), some (nV kk), some vi, some (nV q), some (nV zz), z8, none, none, none, none, none, none, none] ∧ On H2 H' Lo o3 ∧
            o3 = ((four T q zz).take i).foldl (push μ) o2) (fun H10 e10 => ⟨ExB.refl _, o2, z8, rfl, m10.mono e10, rfl⟩) (fun H1 i σ' H' p => p.1) ?_ ?_
          · rintro H11 e11 j2 x σ' H12 H13 hj2 ⟨x12, o3, y3, rfl, m12, ho3⟩ hy e13
            obtain ⟨rfl, hx⟩ := hy
            rw [List.getElem?_map] at hx
            obtain ⟨w, hw, rfl⟩ := Option.map_eq_some_iff.mp hx
            have step : ((four T q zz).take (j2 + 1)).foldl (push μ) o2 = push μ o3 w := by
              rw [List.take_add_one, hw, List.foldl_append, ← ho3]; rfl
            have wr : Rch T w := four_rch (hrch q qo) (hrch zz zo) w (List.mem_of_getElem? hw)
            have d3 : Dist μ o3 := by rw [ho3, ho2]; exact pushes_dist _ (folds_dist _ _ dist)
            have r3 : ∀ x ∈ o3, Rch T x := by
              rw [ho3, ho2]
              refine pushes_all _ (folds_all _ _ hrch fun a ha => four_rch (hrch a ?_) (hrch zz zo)) (fun a ha => four_rch (hrch q qo) (hrch zz zo) a (List.mem_of_mem_take ha))
              exact List.mem_of_mem_take (List.mem_of_mem_take ha)
            have l3 : o3.length ≤ T.n := rch_bound ok μ o3 d3 r3
            show tIfS _ _ _ _ [some v, some (.ref Ls), some (.ref Dm), some (.ref Lo), some (nV kk), some vi, some (nV q), some (nV zz), some (nV w), none, none, none, none, none, none, none] _
            have evm : EvL (tLc (iList K (tVar 3)) (gName 15) tYes tLpM [15]) [some v, some (.ref Ls), some (.ref Dm), some (.ref Lo), some (nV kk), some vi, some (nV q), some (nV zz), some (nV w), none, none, none, none, none, none, none] H13 ((o3.map μ).map nV) := by
              have e := elv_lc (te := tLpM) (vs := [15]) (g := gName 15) (tt := tYes) (fun _ => true) (fun i => nV (μ (o3.getD i 0)))
                (over_list (K := K) (tl := tVar 3) (σ := [some v, some (.ref Ls), some (.ref Dm), some (.ref Lo), some (nV kk), some vi, some (nV q), some (nV zz), some (nV w), none, none, none, none, none, none, none]) (ev_var rfl) (SqL.of m12.hL)).over (by rw [List.length_map]; omega) yAt_ex (fun j y H4 H5 hj e4 hy => ?_)
              · rw [given_all, List.length_map, map_range_get (xs := o3) (fun z => nV (μ z)) (fun i => nV (μ (o3.getD i 0))) (fun i x hx => by rw [List.getD_eq_getElem?_getD, hx]; rfl)] at e
                rw [List.map_map]
                exact e
              obtain ⟨rfl, hy⟩ := hy
              rw [List.getElem?_map] at hy
              obtain ⟨z, hz, rfl⟩ := Option.map_eq_some_iff.mp hy
              have ez : o3.getD j 0 = z := by rw [List.getD_eq_getElem?_getD, hz]; rfl
              rw [ez]
              exact ⟨[some v, some (.ref Ls), some (.ref Dm), some (.ref Lo), some (nV kk), some vi, some (nV q), some (nV zz), some (nV w), none, none, none, none, none, none, some (nV z)], rfl, fun Qs h => h, fun H6 _ Q q => q H6 (Ex.refl _), fun _ => mm rfl (m12.ex.trans e4) (ev_var rfl) (r3 z (List.mem_of_getElem? hz))⟩
            refine s_when (b := decide (μ w ∉ o3.map μ)) (et_test (by
              have := ev_opL (r := rIn K true) (mm (σ := [some v, some (.ref Ls), some (.ref Dm), some (.ref Lo), some (nV kk), some vi, some (nV q), some (nV zz), some (nV w), none, none, none, none, none, none, none]) (tx := tVar 8) rfl m12.ex (ev_var rfl) wr) evm fun p H1 hp _ => rv_niL (SqL.of hp) rfl (flat_nats _)
              rw [inV_nat, ← decide_not] at this
              exact this)) (fun hc H14 e14 => ?_) (fun hc H14 e14 => ?_)
            · have nm : μ w ∉ o3.map μ := of_decide_eq_true hc
              have m14 := m12.mono e14
              refine s_app m14.hL (ev_var rfl) (ev_var rfl) (by rw [List.length_map]; omega) fun H15 e15 => ⟨(x12.trans (ExB.of (e14.trans e15))).upd List.mem_cons_self, o3 ++ [w], some (nV w), rfl, (m14.mono e15).push w, ?_⟩
              rw [step]; unfold push; rw [if_neg nm]
            · have im : μ w ∈ o3.map μ := by have := of_decide_eq_false hc; exact Decidable.of_not_not this
              exact ⟨x12.trans (ExB.of e14), o3, some (nV w), rfl, m12.mono e14, by rw [step]; unfold push; rw [if_pos im]⟩
          · rintro H11 e11 σ' H12 ⟨x12, o3, z3, rfl, m12, ho3⟩
            refine ⟨(x8.trans (ExB.of (e10.trans e11))).trans x12, o3, some (nV q), some (nV zz), z3, rfl, m12, ?_⟩
            rw [List.length_map, List.take_length] at ho3
            rw [ho3, ho2]
            have : (o.take (kk + 1)).take (j + 1) = (o.take (kk + 1)).take j ++ [q] := by rw [List.take_add_one, hq]; rfl
            rw [this, List.foldl_append]; rfl
        · rintro H7 e7 σ' H8 ⟨x8, o2, z6, z7, z8, rfl, m8, ho2⟩
          rw [List.length_map, List.take_length] at ho2
          have et : o2 = turn μ (four T) o kk := by rw [ho2]; unfold turn; rw [hzd]
          have en : l.length - i = (l.length - (i + 1)) + 1 := by omega
          have ek : ((kk : Int) + 1) = ((kk + 1 : Nat) : Int) := by omega
          refine s_asg (v := nV (kk + 1)) (by have := ev_op (σ := [some v, some (.ref Ls), some (.ref Dm), some (.ref Lo), some (nV kk), some vi, z6, z7, z8, none, none, none, none, none, none, none]) (H := H8) (ta := tVar 4) (tb := tC (.int 1)) (r := rI0 fun i j => .int (i + j)) (ev_var rfl) ev_c rv_I0; rw [ek] at this; exact this) fun H9 e9 => ⟨o2, kk + 1, some vi, z6, z7, z8, rfl, m8.mono e9, ?_, ?_, ?_⟩
          · rw [et]; exact turn_dist dist _
          · rw [et]; exact turn_all hlt hrch fun a b ha hb => four_rch ha hb
          · rw [et, ← bfs_go hlt, ← en]; exact hb
      · have hge : ¬ kk < o.length := by have := of_decide_eq_false hc; omega
        exact ⟨o, kk, some vi, y6, y7, y8, rfl, m5.mono e6, dist, hrch, by rw [bfs_stop hge] at hb ⊢; exact hb⟩
    -- the order stands
    rw [Nat.sub_self] at hb
    have eo : o = ordOf μ T := hb
    subst e
    clear hb m4
    have hle : o.length ≤ T.n := rch_bound ok μ o dist hrch
    have e5 : Ex H H5 := e12.trans m5.ex
    have kio : ∀ i j, i < o.length → j < o.length → (Sum.inl ((μ (o.getD i 0) : Nat) : Int) : Key) = Sum.inl ((μ (o.getD j 0) : Nat) : Int) → i = j := fun i j hi hj e => by
      have hi' : o[i]? = some (o.getD i 0) := by rw [List.getD_eq_getElem?_getD, List.getElem?_eq_getElem hi]; rfl
      have hj' : o[j]? = some (o.getD j 0) := by rw [List.getD_eq_getElem?_getD, List.getElem?_eq_getElem hj]; rfl
      exact dist_inj dist hi' hj' (by have := Sum.inl.inj e; omega)
    have rng : ∀ {y9 y10 y11 y12 : Option V} {H' : Hp}, Ex H5 H' → Over0 (iRng1 (tCons (tCB (rLen K) (tCons (tVar 3) tNil)) tNil)) [some v, some (.ref Ls), some (.ref Dm), some (.ref Lo), some (nV kk), y5, y6, y7, y8, y9, y10, y11, y12, none, none, none] H' o.length (YFn fun i => .int (0 + (i : Int))) := fun {y9 y10 y11 y12 H'} e =>
      over_rng (ea_cons (by have := ev_lenS (K := K) (ev_var (i := 3) (σ := [some v, some (.ref Ls), some (.ref Dm), some (.ref Lo), some (nV kk), y5, y6, y7, y8, y9, y10, y11, y12, none, none, none]) rfl) (Sq.l (K := K) (e _ _ m5.hL)); rw [List.length_map] at this; exact this) ea_nil) (by omega)
    refine q_asgO (o := .dK (plc μ o)) (eo_dictP (κ := fun i => Sum.inl ((μ (o.getD i 0) : Nat) : Int)) (val := fun i => nV i) (n := o.length) kio fun H6 e6 Q' q' =>
      elo_lc (o := fun i => .tup [nV (μ (o.getD i 0)), nV i]) (rng (Ex.refl _)).over (by omega) yFn_ex (fun i x H7 H8 hi e7 hy => by
        obtain ⟨rfl, rfl⟩ := hy
        have z0 : ((fun i : Nat => V.int (0 + (i : Int))) i) = nV i := by show V.int (0 + (i : Int)) = _; rw [Int.zero_add]
        rw [z0]
        have hi' : o[i]? = some (o.getD i 0) := by rw [List.getD_eq_getElem?_getD, List.getElem?_eq_getElem hi]; rfl
        refine ⟨[some v, some (.ref Ls), some (.ref Dm), some (.ref Lo), some (nV kk), y5, y6, y7, y8, none, none, none, none, none, some (nV i), none], rfl, fun Qs h => h, eo_U (eu_tup (ea_cons ?_ (ea_cons (ev_var rfl) ea_nil)) (by show 2 ≤ 100000; decide))⟩
        exact mm rfl (m5.ex.trans e7) (ev_op (ev_var rfl) (ev_var rfl) (rv_ixL (SqL.of (e7 _ _ m5.hL)) (atI_nat (nV_get hi')))) (hrch _ (List.mem_of_getElem? hi'))) H6 e6 Q' (fun D' H4 ps h1 h2 h3 h4 h5 => q' D' H4 ps h1 h2 h3 h4 h5)) fun Dp H6 hDp e6 h6D => ?_
    have hop : ∀ (c : Bool) a b, a ∈ o → b ∈ o → μ (op T c a b) ∈ o.map μ := fun c a b ha hb => by rw [eo] at ha hb ⊢; exact ord_op ok μ c ha hb
    have e06 := e5.trans e6
    show tSeq _ _ _ [some v, some (.ref Ls), some (.ref Dm), some (.ref Lo), some (nV kk), y5, y6, y7, y8, some (.ref Dp), none, none, none, none, none, none] _
    refine q_asgP (ep_lpRows (hp.mono e06) (e6 _ _ m5.hL) (e6 _ _ (m5.ex _ _ h2M)) h6D ok (by omega) dist true hl hrch (hop true) (pl_rows T r t a) (hp.rows.mono e06).mat ok.rows rfl) fun u1 H7 e7 hu1 => ?_
    have e07 := e06.trans e7
    have e57 := e6.trans e7
    refine q_asgP (ep_lpRows (hp.mono e07) (e57 _ _ m5.hL) (e57 _ _ (m5.ex _ _ h2M)) (e7 _ _ h6D) ok (by omega) dist false hl hrch (hop false) (pl_sides T r t a) (hp.sides.mono e07).mat ok.sides rfl) fun u2 H8 e8 hu2 => ?_
    have e08 := e07.trans e8
    have e58 := e57.trans e8
    show tSeq _ _ _ [some v, some (.ref Ls), some (.ref Dm), some (.ref Lo), some (nV kk), y5, y6, y7, y8, some (.ref Dp), some u1, some u2, none, none, none, none] _
    refine q_asgO (o := .tup ((least μ T).acc.map nV)) (eo_U (eu_tupL ?_)) fun pg H9 hpg e9 h9 => ?_
    · have e := elv_lc (te := tVar 14) (vs := [14]) (g := gName 14) (tt := tTest (tOp (rIn K false) (tOp (rIxL K) (tVar 3) (tVar 14)) (tDGet (tVar 0) (tC (.str "accepted"))))) (fun i => decide (o.getD i 0 ∈ T.acc)) (fun i => nV i) (rng (y9 := some (.ref Dp)) (y10 := some u1) (y11 := some u2) (y12 := none) e58).over (by omega) yFn_ex (fun i x H9 H10 hi e9 hy => ?_)
      · have : (least μ T).acc.map nV = given o.length (fun i => decide (o.getD i 0 ∈ T.acc)) (fun i => nV i) := by rw [eo]; rfl
        rw [this]
        exact e
      obtain ⟨rfl, rfl⟩ := hy
      have z0 : ((fun i : Nat => V.int (0 + (i : Int))) i) = nV i := by show V.int (0 + (i : Int)) = _; rw [Int.zero_add]
      rw [z0]
      have hi' : o[i]? = some (o.getD i 0) := by rw [List.getD_eq_getElem?_getD, List.getElem?_eq_getElem hi]; rfl
      refine ⟨[some v, some (.ref Ls), some (.ref Dm), some (.ref Lo), some (nV kk), y5, y6, y7, y8, some (.ref Dp), some u1, some u2, none, none, some (nV i), none], rfl, fun Qs h => h, et_test (ev_op (ev_op (ev_var rfl) (ev_var rfl) (rv_ixL (SqL.of (e9 _ _ (e58 _ _ m5.hL))) (atI_nat (nV_get hi')))) (g rfl (e08.trans e9) (pl_acc T r t a)) (rv_inN (TupV.sq (TupV.mono hp.acc (e08.trans e9))))), fun _ => ev_var rfl⟩
    have e09 := e08.trans e9
    have e59 := e58.trans e9
    have tie : ∀ {σ : L2.St}, σ[0]? = some (some v) → σ[2]? = some (some (.ref Dm)) → σ[9]? = some (some (.ref Dp)) → Ev (tDGet (tVar 9) (tDGet (tVar 2) (tDGet (tVar 0) (tC (.str "tie"))))) σ H9 (nV (least μ T).tie) := fun s0 s2 s9 => by
      refine ev_dget (y := nV (μ T.tie)) (ev_var s9) (mm s2 (m5.ex.trans e59) (g s0 e09 (pl_tie T r t a)) (Rch.tie T)) ?_
      have := dget_k (kvs := plc μ o) (i := (μ T.tie : Nat)) ((e7.trans (e8.trans e9)) _ _ h6D)
      rw [plc_val dist (by rw [eo]; exact ord_tie μ)] at this
      have e : idx μ o T.tie = (least μ T).tie := by rw [eo]; rfl
      rw [e] at this
      exact this
    refine q_asgO (eo_disp (kvs := [(kx "tie", nV (least μ T).tie), (kx "gap", nV (least μ T).gap), (kx "rows", u1), (kx "sides", u2)]) (eps_cons ev_c (tie rfl rfl rfl) (eps_cons ev_c (by rw [least_gap]; exact ev_c) (eps_cons ev_c (ev_var rfl) (eps_cons ev_c (ev_var rfl) eps_nil)))) (by show 4 ≤ 15; decide)) fun Df H10 hDf e10 h10 => ?_
    rw [mergeK_nodup (kx_nodup _ _ _ _)] at h10
    refine q_dput (k := kx "accepted") (v := .ref pg) (ev_var rfl) (ev_var rfl) ev_c h10 (by show 4 < sizeLine; decide) fun H11 e11 => ?_
    rw [plKV_put]
    have em : Ex H9 (upd H11 Df (.dK (plKV (least μ T) u1 u2 (.ref pg)))) := (e10.trans e11).mut hDf
    have kr : (o.map fun a => o.map fun b => idx μ o (op T true a b)) = (least μ T).rows := by rw [eo]; rfl
    have ks : (o.map fun a => o.map fun b => idx μ o (op T false a b)) = (least μ T).sides := by rw [eo]; rfl
    rw [kr] at hu1
    rw [ks] at hu2
    exact s_ret (ev_var rfl) fun H12 e12' => k (.ref Df) H12 (least μ T) (e09.trans (em.trans e12')) ⟨μ, disc, rfl⟩ ⟨u1, u2, .ref pg, Df, rfl, e12' _ _ upd_same, hu1.mono (e8.trans (e9.trans (em.trans e12'))), hu2.mono (e9.trans (em.trans e12')), TupV.mono ⟨pg, rfl, em _ _ h9⟩ e12'⟩
end
end K46
set_option Elab.async false
set_option linter.all false
set_option autoImplicit false
set_option maxRecDepth 100000
/-! K46R11: repr of nested data and of a dict of nested data; defs that are called where no repr is under way. -/
namespace K46
open PySem PySem.Spec PyProof.Rows L2 Evl
set_option maxHeartbeats 4000000
section
variable {X : Cx}
/-- repr of a list, a tuple of data -/
def rReprD (K : PySem.W.Frag) : List V → Hp → VK → Prop := fun xs H Q => ∃ (a : Addr) (d : PyData), xs = [V.ref a] ∧ Dp K H (.ref a) d ∧ d.hasDict = false ∧ d.showable = true ∧ d.depth ≤ 8 ∧ d.shown.length ≤ sizeLine ∧ Q (.str d.shown) H
theorem call_reprD (hg : X.A.guards = some []) (hu : X.A.units + 64 < cLine) : CallR X (.builtin "repr") (rReprD X.K) := by
  intro pins s σ H xs us Q I r h
  obtain ⟨a, d, rfl, hd, nd, sh, dp, sz, q⟩ := h
  obtain ⟨u, rfl, ru⟩ := vals1 r
  cases ru
  obtain ⟨as, r1⟩ := Dp.reads I d _ _ hd rfl
  exact repr_of_reads' r1 sh (PyData.noDict_hsm nd) hg (by omega) (fun _ _ e => e) (fun h' u tk hk => ⟨.str d.shown, H, I.kept hk, ⟨u, rfl⟩, q⟩) sz
/-- repr of a truth value -/
def rReprB : List V → Hp → VK → Prop := fun xs H Q => ∃ b : Bool, xs = [V.bl b] ∧ Q (.str (if b then "True" else "False")) H
theorem call_reprB : CallR X (.builtin "repr") rReprB := by
  intro pins s σ H xs us Q I r h
  obtain ⟨b, rfl, q⟩ := h
  obtain ⟨u, rfl, ru⟩ := vals1 r
  cases ru
  exact PySem.P.repr_of_bool ⟨.str _, H, I.tok _, ⟨_, rfl⟩, q⟩
def keyD : Key → PyData
  | .inl i => .int i
  | .inr x => .str x
theorem keys_read {P : Program} {w : World} {hh : Heap} {es : List DictEntry} {vs : List (Key × Value)} (p : PySem.Pairs (mixKind P w) es vs) : ReadsAll hh (es.map (·.key)) (vs.map fun kv => keyD kv.1) [] := by
  induction p with
  | nil => exact .nil
  | cons h1 _ _ ih =>
    rw [List.map_cons, List.map_cons]
    rcases keyIs_shape h1 with ⟨i, t, h2, h3⟩ | ⟨x, t, h2, h3⟩
    · rw [h2, h3]; exact .cons (as := []) (.int i t) ih
    · rw [h2, h3]; exact .cons (as := []) (.str x t) ih
theorem vals_read {P : Program} {w : World} {es : List DictEntry} {vs : List (Key × Value)} (p : PySem.Pairs (mixKind P w) es vs) : ∀ {kvs : List (Key × V)}, KV kvs vs → Vals (kvs.map (·.2)) (es.map (·.val)) ∧ (vs.map fun kv => keyD kv.1) = kvs.map fun kv => keyD kv.1 := by
  induction p with
  | nil => intro kvs r; cases r; exact ⟨.nil, rfl⟩
  | cons h1 e _ ih =>
    intro kvs r
    cases r with
    | cons r rs =>
      obtain ⟨h1, h2⟩ := ih rs
      refine ⟨.cons ?_ h1, ?_⟩
      · show RelV _ (DictEntry.val _)
        rw [e]; exact r.2
      · rw [List.map_cons, List.map_cons, h2, r.1]
def dkText (kvs : List (Key × V)) (ds : List PyData) : Str := dictText (PyData.shownKv ((kvs.map fun kv => keyD kv.1).zip ds))
/-- repr of a dict of data -/
def rReprK (K : PySem.W.Frag) : List V → Hp → VK → Prop := fun xs H Q => ∃ (a : Addr) (kvs : List (Key × V)) (ds : List PyData), xs = [V.ref a] ∧ Rd H a (.dK kvs) ∧ DpAll K H (kvs.map (·.2)) ds ∧ kvs.length = ds.length ∧ PyData.hasDictAll ds = false ∧ PyData.showableAll ds = true ∧
  PyData.depthAll ds ≤ 8 ∧ (∀ kv ∈ kvs, ∃ x, kv.1 = Sum.inr x) ∧ (dkText kvs ds).length ≤ sizeLine ∧ Q (.str (dkText kvs ds)) H
theorem keys_nodict : ∀ kvs : List (Key × V), PyData.hasDictAll (kvs.map fun kv => keyD kv.1) = false
  | [] => rfl
  | (.inl i, v) :: l => by rw [List.map_cons]; show (false || _) = false; rw [Bool.false_or]; exact keys_nodict l
  | (.inr i, v) :: l => by rw [List.map_cons]; show (false || _) = false; rw [Bool.false_or]; exact keys_nodict l
theorem showKeys : ∀ kvs : List (Key × V), (∀ kv ∈ kvs, ∃ x, kv.1 = Sum.inr x) → PyData.showableAll (kvs.map fun kv => keyD kv.1) = true
  | [], _ => rfl
  | (k, v) :: l, h => by
    obtain ⟨x, hx⟩ := h (k, v) List.mem_cons_self
    have hx : k = Sum.inr x := hx
    subst hx
    rw [List.map_cons]
    show (true && _) = true
    rw [Bool.true_and]
    exact showKeys l fun kv hk => h kv (List.mem_cons_of_mem _ hk)
theorem depKeys : ∀ kvs : List (Key × V), PyData.depthAll (kvs.map fun kv => keyD kv.1) = 0
  | [] => rfl
  | (.inl i, v) :: l => by rw [List.map_cons]; show max 0 (PyData.depthAll _) = 0; rw [depKeys l]; rfl
  | (.inr i, v) :: l => by rw [List.map_cons]; show max 0 (PyData.depthAll _) = 0; rw [depKeys l]; rfl
theorem depKv : ∀ (ks ds : List PyData), PyData.depthKv (ks.zip ds) ≤ max (PyData.depthAll ks) (PyData.depthAll ds)
  | [], _ => Nat.zero_le _
  | _ :: _, [] => Nat.zero_le _
  | k :: ks, d :: ds => by
    have := depKv ks ds
    show max (max k.depth d.depth) (PyData.depthKv (ks.zip ds)) ≤ max (max k.depth (PyData.depthAll ks)) (max d.depth (PyData.depthAll ds))
    omega
theorem call_reprK (hg : X.A.guards = some []) (hu : X.A.units + 64 < cLine) : CallR X (.builtin "repr") (rReprK X.K) := by
  intro pins s σ H xs us Q I r h
  obtain ⟨a, kvs, ds, rfl, hrd, hds, hlen, nd, sh, dp, hks, sz, q⟩ := h
  obtain ⟨u, rfl, ru⟩ := vals1 r
  cases ru
  obtain ⟨hz, hsys, vs, kv, o, es, ep, ho, hx, hde, _, prs, _⟩ := dk_rd I.hok hrd
  obtain ⟨vr, kr⟩ := vals_read prs kv
  obtain ⟨bs, h5⟩ := Dp.readsAll I ds _ _ hds vr
  have h4 : ReadsAll s.heap (es.toList.map (·.key)) (kvs.map fun kv => keyD kv.1) [] := by rw [← kr]; exact keys_read prs
  have hl : (kvs.map fun kv => keyD kv.1).length = ds.length := by rw [List.length_map, hlen]
  have f1 : ((kvs.map fun kv => keyD kv.1).zip ds).map (·.1) = kvs.map fun kv => keyD kv.1 := List.map_fst_zip (Nat.le_of_eq hl)
  have f2 : ((kvs.map fun kv => keyD kv.1).zip ds).map (·.2) = ds := List.map_snd_zip (Nat.le_of_eq hl.symm)
  generalize hK : (kvs.map fun kv => keyD kv.1).zip ds = kd at f1 f2
  have sz' : (dictText (PyData.shownKv kd)).length ≤ sizeLine := by rw [← hK]; exact sz
  have dk : PyData.depthKv kd ≤ 8 := by
    have := depKv (kvs.map fun kv => keyD kv.1) ds
    rw [hK, depKeys] at this
    omega
  rw [← f1] at h4
  rw [← f2] at h5
  have s1 : PyData.showableAll (kd.map (·.1)) = true := by rw [f1]; exact showKeys kvs hks
  have s2 : PyData.showableAll (kd.map (·.2)) = true := by rw [f2]; exact sh
  have n2 : PyData.hasDictAll (kd.map (·.2)) = false := by rw [f2]; exact nd
  have n1 : PyData.hasDictAll (kd.map (·.1)) = false := by rw [f1]; exact keys_nodict kvs
  obtain ⟨b1, hb1, k1⟩ := ReprAllK.of_readsAll (prog := X.prog) (w := X.w) h4 s1 (fun z => by rw [n1] at z; cases z) (fun t ht => by obtain ⟨p, hp, hl⟩ := PyData.shownKv_key_le kd t ht; exact Nat.le_trans hl (Nat.le_trans (dictText_mem_le hp) sz'))
  obtain ⟨b2, hb2, k2⟩ := ReprAllK.of_readsAll (prog := X.prog) (w := X.w) h5 s2 (fun z => by rw [n2] at z; cases z) (fun t ht => by obtain ⟨p, hp, hl⟩ := PyData.shownKv_val_le kd t ht; exact Nat.le_trans hl (Nat.le_trans (dictText_mem_le hp) sz'))
  have rr : Reads s.heap (.ref a) (.dict kd) _ := .dict ho hx.1 hde h4 h5
  have hb : ReadAtMost s.heap (PyData.depthKv kd) (b1 ++ b2) := (hb1.mono (PyData.depthAll_keys_le kd)).append (hb2.mono (PyData.depthAll_vals_le kd))
  have hna : a ∉ b1 ++ b2 := not_mem_of_deeper rr (by show PyData.depthKv kd < PyData.depth (.dict kd); simp only [PyData.depth]; omega) hb
  refine PySem.call_repr_slot (by omega) ⟨o, ho, hx.1⟩ F.slot_dict_repr (call_dict_reprK (d := PyData.depthKv kd) (g := []) ho hx.1 hde hsys hna (ReprEntriesK.of_two es.toList _ _ (k1.more_le (fun b z => List.mem_append_left _ z) (PyData.depthAll_keys_le kd)) (k2.more_le (fun b z => List.mem_append_right _ z) (PyData.depthAll_vals_le kd)))
    hg (fun b _ => Clear.nil b) (by show X.A.units + 1 + (PyData.depthKv kd + 1) < cLine; omega) (fun _ _ e => e) (fun h' tk' tk hk => ⟨_, _, rfl, .str (dkText kvs ds), H, I.kept hk, ?_, q⟩) (by rw [← PyData.shownKv_eq]; exact sz'))
  exact ⟨tk', by unfold dkText; rw [hK, PyData.shownKv_eq]⟩
end
end K46
set_option Elab.async false
set_option linter.all false
set_option autoImplicit false
set_option maxRecDepth 100000
/-! K46R12: defs that are called where no repr is under way. -/
namespace K46
open PySem PySem.Spec PyProof.Rows L2 Evl
set_option maxHeartbeats 4000000
/-- a promise that is kept where no repr is under way -/
structure FnOkG (P : Program) (w : World) (K : PySem.W.Frag) (mg : Str → Option Value) (base : Heap) (k : Nat) (g : Addr) (fd : FuncData) (ps : List Str) (sp : Sp) : Prop where
  many : ∀ vs H Q E, sp vs H Q E → vs.length = ps.length
  go : ∀ (A : Around) (st : List Env) (s : Shared) (H : Hp) (ar : Args) (us : List Value) (vs : List V) (Q : VK) (E : XK), A.guards = some [] → Room k A → Env0 P w K mg base A st s H → BindsTo s fd ar (ps.zip us) → Vals vs us → sp vs H Q E →
    codeAny (model P w) A (.call (.ref g) ar) (CR CX0 st P w H s Q E) s
def PrG (P : Program) (w : World) (K : PySem.W.Frag) (mg : Str → Option Value) (base : Heap) (k : Nat) (x : Str) (ps : List Str) (sp : Sp) : Prop :=
  ∃ fd, FnOkG P w K mg base k (He.ga K x) fd ps sp ∧ Binds K fd ps [] ∧ PySem.W.keepIn K (.ref (He.ga K x)) = true ∧ mg x = some (.ref (He.ga K x))
section
variable {X : Cx}
theorem pe_gG {x : Str} {k : Nat} {ps : List Str} {sp : Sp} {e : Expr} {es : List Expr} {t : TA} {p pos : Pos} (F : PrG X.prog X.w X.K X.mg X.base k x ps sp) (hr : Room k X.A) (hgd : X.A.guards = some []) (ha : PA X (e :: es) t) (hg : Gl X x := by rfl)
    (hdb : (x == ("__debug__" : Str)) = false := by decide) (he : starEach (e :: es) X.env = (false, eval e X.env) :: starEach es X.env := by rfl) (hpl : (backTo pos (starEach es X.env)).any (·.1) = false := by rfl) :
    PE X (.Call (.Name x p) (e :: es) [] pos) (tCall sp [] E0 t) := by
  obtain ⟨fd, F1, F2, F3, F4⟩ := F
  constructor
  intro pins s σ H Q I h
  refine wpAny_Call_Name_kw (ld_glob I hg F4 ?_ hdb)
  refine PySem.W.callWith_K (h₀ := X.base) I.mod.kin F3 (thn (ha.run pos pins s σ H _ I h) ?_) he hpl
  rintro us s1 ⟨vs, H1, I1, rel, prom⟩
  refine ⟨I1.kIn, ?_⟩
  have prom' : sp vs H1 Q E0 := by rw [List.append_nil] at prom; exact prom
  have many : (us ++ []).length = ps.length := by rw [List.append_nil, ← rel.length]; exact F1.many _ _ _ _ prom'
  have bnd := F2 s1 us I1.kIn many
  rw [List.append_nil] at bnd
  refine wpAny_call (codeAny_mono (F1.go X.A X.stack s1 H1 ⟨us, []⟩ us vs Q E0 hgd hr I1.env0 bnd rel prom') ?_)
  intro r s2 end_
  cases r with
  | error e => exact (show False from end_).elim
  | ok fl =>
    cases fl with
    | ret u => exact I1.after end_
    | next => exact (show False from end_).elim
    | brk => exact (show False from end_).elim
    | cont => exact (show False from end_).elim
end
section
variable {P : Program} {w : World} {K : PySem.W.Frag} {mg : Str → Option Value} {base : Heap}
theorem fnG_of {x : Str} {st : Stmt} {fd : FuncData} {N ps : List Str} {k : Nat} {sp : Sp} (F : FunD K x x (defArgs st) (defBody st) (defScope st) [] [] (He.ga K x) fd) (S : FnScope N ps (defScope st)) (many : ∀ vs H Q E, sp vs H Q E → vs.length = ps.length)
    (body : ∀ (cdv : Value) (A : Around) (outer : List Env) (s : Shared) (H : Hp) (vs : List V) (Q : VK) (E : XK), (A.deeper (envOfC x (defScope st) s.heap.objs.size (He.ga K x) cdv)).guards = some [] → Room k (A.deeper (envOfC x (defScope st) s.heap.objs.size (He.ga K x) cdv)) → sp vs H Q E →
      ∃ t, PSs (cxOf CX0 P w K mg base N x (defScope st) (He.ga K x) cdv A outer s H E) (defBody st) t ∧ t { nx := fun _ H' => Q .non H', rt := Q } (L2.start N vs) H) : FnOkG P w K mg base (k + 1) (He.ga K x) fd ps sp := by
  obtain ⟨oc, od, dV, kV, doc, pm, an, cdv, ct, osl, rfl, atK, codeK, _⟩ := F.ex
  refine ⟨many, fun A st' s H ar us vs Q E gd room env bnd rel prom => ?_⟩
  have lv : vs.length = ps.length := many _ _ _ _ prom
  have inK : K.In s.heap := env.mod.kin.keeps fun b o z => (env.bs b o z).1
  have noLim : s.heap.NoLimit := env.mod.nolimit.keeps fun b o z => (env.bs b o z).1
  have kinds : ∀ y ∈ ps.zip us, (defScope st).names.lookup y.1 = some .local ∨ ((defScope st).names.lookup y.1 = some .cell ∧ ((cellsFrom (s.heap.objs.size + 1) (defScope st).names []).lookup y.1).isSome = true) := by
    rintro ⟨n, v⟩ hy
    rcases S.par n (List.of_mem_zip hy).1 with z | z
    · exact Or.inl z
    · exact Or.inr ⟨z, PySem.W.cellsFrom_some _ _ _ (.inl z)⟩
  refine codeAny_call_function room.depth (inK _ _ atK) rfl S.co S.gen rfl (PySem.W.codeRec_of inK codeK) (bnd _ _ _ _ (wpAny_newFunctionEnv_cells S.kind kinds ?_))
  rintro env' rfl s1 x1
  refine ⟨noLim.keeps x1.toInCall.keep, codeAny_func ?_⟩
  obtain ⟨t, reads, holds⟩ := body cdv A st' s H vs Q E gd (room.deeper _) prom
  have I : Inv (cxOf CX0 P w K mg base N x (defScope st) (He.ga K x) cdv A st' s H E) [] (L2.start N vs) H s1 := inv_start S room.hd env lv rel x1
  refine wpAny_mono (reads.run [] s1 (L2.start N vs) H _ I holds) (fun fl s' ends => ?_) (fun e s' z => z)
  cases fl with
  | ret u =>
    obtain ⟨v, σ', H', J, rv, q⟩ := ends
    exact ⟨v, H', J.os, J.bare, J.base, J.hok, rv, q⟩
  | next =>
    obtain ⟨σ', H', J, q⟩ := ends
    exact ⟨V.non, H', J.os, J.bare, J.base, J.hok, rfl, q⟩
  | brk => obtain ⟨_, _, _, q⟩ := ends; exact q.elim
  | cont => obtain ⟨_, _, _, q⟩ := ends; exact q.elim
theorem prg_mk {x : Str} {st : Stmt} {N ps : List Str} {k : Nat} {sp : Sp} (F : FnG K x st) (hm : mg x = some (.ref (He.ga K x))) (S : FnScope N ps (defScope st))
    (hb : ∀ (kV doc pm : Value) (an : Option Addr) (cdv ct : Value) (us : List Value), us.length = ps.length → bindArgs (PySem.W.fnOf x x (defArgs st) (defBody st) (defScope st) .none kV doc pm an cdv ct) ⟨us, []⟩ = pure (ps.zip us))
    (many : ∀ vs H Q E, sp vs H Q E → vs.length = ps.length)
    (body : ∀ (f : Addr) (cdv : Value) (A : Around) (outer : List Env) (s : Shared) (H : Hp) (vs : List V) (Q : VK) (E : XK), (A.deeper (envOfC x (defScope st) s.heap.objs.size f cdv)).guards = some [] → Room k (A.deeper (envOfC x (defScope st) s.heap.objs.size f cdv)) → sp vs H Q E →
      ∃ t, PSs (cxOf CX0 P w K mg base N x (defScope st) f cdv A outer s H E).nox (defBody st) t ∧ t { nx := fun _ H' => Q .non H', rt := Q } (L2.start N vs) H) : PrG P w K mg base (k + 1) x ps sp := by
  obtain ⟨fd, F⟩ := F
  refine ⟨fd, fnG_of F S many fun cdv A outer s H vs Q E gd room prom => ?_, F.bindsN hb, F.kp, hm⟩
  obtain ⟨t, z1, z2⟩ := body _ cdv A outer s H vs Q E gd room prom
  exact ⟨t, z1.nox, z2⟩
end
/-! ### the law's own call -/
section
variable {P : Program} {w : World} {K : PySem.W.Frag} {mg mb : Str → Option Value} {k : Nat} {fa a : Addr} {fd : FuncData} {x : Str} {sp : Sp} {s1 : Shared} {vs : List Value} {ns : List Int}
/-- from an abstract heap that tracks the script at most -/
theorem law_core (inK : K.In s1.heap) (glob : s1.heap.Ns mainGlobals mg) (blt : s1.heap.Ns builtinsNs mb) (blt0 : ∀ y : Str, y ≠ "__name__" → mb y = bootBuiltins y) (lim : s1.heap.NoLimit) (gens : s1.gens = #[])
    (ha : s1.heap.get? a = some { cls := .type "list", data := .seq vs.toArray }) (room : Room k callerA) (F : ∀ base : Heap, K.In base → base.Ns mainGlobals mg → FnOkG P w K mg base k fa fd [x] sp) (bnd : ∀ (s : Shared) (u : Value), BindsTo s fd ⟨[u], []⟩ [(x, u)])
    (H : Hp) (only : Only H) (prom : sp [.ref a] H (fun v _ => v = .bl true) fun _ _ _ => False) (hok : HOk P w H s1.heap) (at_a : ∀ b, H b ≠ none → b = a) (outK : H a ≠ none → K.lookup a = none) :
    codeAny (model P w) callerA (.call (.ref fa) ⟨[.ref a], []⟩) (fun r s' => r = .ok (.ret (.bool true)) ∧ OldK s1.heap s'.heap ∧ s'.os = s1.os ∧ AllBare s'.gens) s1 := by
  have notA : ∀ {b : Addr} {o : Obj}, s1.heap.get? b = some o → (b = a → False) → H b = none := fun {b o} _ n => by
    by_cases z : H b = none
    · exact z
    · exact (n (at_a b z)).elim
  have under : ∀ {b : Addr} {m : Str → Option Value}, s1.heap.Ns b m → (hidT s1.heap H).Ns b m := fun {b m} ⟨o, es, ep, z1, z2, z3⟩ => ⟨o, es, ep, hidT_get z1 (notA z1 fun q => by subst q; rw [ha] at z1; cases z1; exact nomatch z2), z2, z3⟩
  have inB : K.In (hidT s1.heap H) := fun b o z => hidT_get (inK b o z) (by
    by_cases q : H b = none
    · exact q
    · have := at_a b q
      subst this
      rw [outK q] at z; cases z)
  have limB : (hidT s1.heap H).NoLimit := by
    obtain ⟨mc, z1, z2⟩ := lim
    exact ⟨mc, under z1, z2⟩
  have env : Env0 P w K mg (hidT s1.heap H) callerA [] s1 H := { frames := rfl, mod := ⟨inB, under glob, ⟨mb, under blt, blt0⟩, limB⟩, bs := fun b o z => of_hidT z, bsz := Nat.le_of_eq (hidT_size _ _), funs := trivial, frf := (fun b hb => absurd (show b ∈ ([] : List Addr) from hb) (by simp)), hok := hok, bare := .of_eq gens }
  refine codeAny_mono ((F _ inB (under glob)).go callerA [] s1 H ⟨[.ref a], []⟩ [.ref a] [.ref a] _ _ rfl room env (bnd s1 (.ref a)) (.cons rfl .nil) prom) ?_
  intro r s' end_
  cases r with
  | error e => exact (show False from end_).elim
  | ok fl =>
    cases fl with
    | next => exact (show False from end_).elim
    | brk => exact (show False from end_).elim
    | cont => exact (show False from end_).elim
    | ret u =>
      obtain ⟨v, H', os, bare, un, hok', rv, q⟩ := end_
      have q : v = .bl true := q
      subst q
      have rv : u = Value.bool true := rv
      subst rv
      refine ⟨rfl, OldK.of_keep fun b o z => ?_, os, bare⟩
      rcases only b with n | ⟨ob, xs, z1⟩
      · exact un.keep b o z n (fun q => absurd (show b ∈ ([] : List Addr) from q) (by simp)) (by simp)
      · obtain ⟨y1, _⟩ := hok b _ z1
        obtain ⟨y2, _⟩ := hok' b _ (un.frzs b ob _ z1)
        rw [z] at y1; cases y1
        exact y2
theorem law_callG (inK : K.In s1.heap) (glob : s1.heap.Ns mainGlobals mg) (blt : s1.heap.Ns builtinsNs mb) (blt0 : ∀ y : Str, y ≠ "__name__" → mb y = bootBuiltins y) (lim : s1.heap.NoLimit) (gens : s1.gens = #[])
    (ha : s1.heap.get? a = some { cls := .type "list", data := .seq vs.toArray }) (isI : IntsAre vs ns) (short : ns.length ≤ sizeLine) (room : Room k callerA)
    (F : ∀ base : Heap, K.In base → base.Ns mainGlobals mg → FnOkG P w K mg base k fa fd [x] sp) (bnd : ∀ (s : Shared) (u : Value), BindsTo s fd ⟨[u], []⟩ [(x, u)])
    (prom : ∀ H : Hp, Only H → SqL K H a (ns.map V.int) → sp [.ref a] H (fun v _ => v = .bl true) fun _ _ _ => False) :
    codeAny (model P w) callerA (.call (.ref fa) ⟨[.ref a], []⟩) (fun r s' => r = .ok (.ret (.bool true)) ∧ OldK s1.heap s'.heap ∧ s'.os = s1.os ∧ AllBare s'.gens) s1 := by
  have rel : Vals (ns.map V.int) vs := L2.vals_ints isI
  have lenV : vs.length = ns.length := isI.length
  by_cases hk : K.lookup a = none
  · let H : Hp := fun b => if b = a then some (.frz { cls := .type "list", data := .seq vs.toArray } (.lst (ns.map V.int))) else none
    have Ha : H a = some (.frz { cls := .type "list", data := .seq vs.toArray } (.lst (ns.map V.int))) := if_pos rfl
    have Hn : ∀ b, b ≠ a → H b = none := fun b n => if_neg n
    have only : Only H := fun b => by
      by_cases q : b = a
      · subst q; exact .inr ⟨_, _, Ha⟩
      · exact .inl (Hn b q)
    refine law_core inK glob blt blt0 lim gens ha room F bnd H only (prom H only (.inl (.inr ⟨_, Ha⟩))) (fun b u z => ?_) (fun b z => ?_) fun _ => hk
    · by_cases q : b = a
      · subst q
        rw [Ha] at z
        cases z
        exact ⟨ha, by rw [List.length_map]; exact short, vs, _, rel, ha⟩
      · rw [Hn b q] at z; cases z
    · by_cases q : b = a
      · exact q
      · exact absurd (Hn b q) z
  · obtain ⟨o, ho⟩ := Option.ne_none_iff_exists'.mp hk
    have z := inK a o ho
    rw [ha] at z
    cases z
    have only : Only (fun _ => none) := fun _ => .inl rfl
    exact law_core inK glob blt blt0 lim gens ha room F bnd (fun _ => none) only (prom _ only (.inr ⟨_, vs.toArray, _, ho, rfl, rfl, rfl, by rw [List.size_toArray, lenV]; exact short, by simpa using rel⟩)) (fun b u z => nomatch (show (none : Option HO) = some u from z)) (fun b z => absurd rfl z) (fun z => absurd rfl z)
end
theorem walk_ofG {l : PySem.W.OpenLaw} {n k : Nat} {q : Program} {loose : List Str} {XP : (Str → Option Value) → Heap → Prop} {YP : World → Heap → Prop} {d : DefRec} {x : Str}
    (most : l.most = some n) (short : n ≤ sizeLine) (nodef : d.params.defaults = []) (room : Room k callerA)
    (F : ∀ (w : World) (mg : Str → Option Value) (fa : Addr) (h : Heap), YP w h → h.Ns mainGlobals mg → mg d.name = some (.ref fa) →
      ∃ (K : PySem.W.Frag) (fd : FuncData) (sp : Sp), K.In h ∧ (∀ (s : Shared) (u : Value), BindsTo s fd ⟨[u], []⟩ [(x, u)]) ∧
        (∀ (H : Hp) (a : Addr) (ns : List Int), ns.length ≤ n → Only H → SqL K H a (ns.map V.int) → sp [.ref a] H (fun v _ => v = .bl true) fun _ _ _ => False) ∧
        ∀ base : Heap, K.In base → base.Ns mainGlobals mg → FnOkG l.prog w K mg base k fa fd [x] sp) :
    PySem.W.WalkO q loose XP YP l.row.toRowW d [] (fun f vs => PySem.call f vs) := by
  refine Att.attach_call most nodef ?_
  intro w s0 s1 mg mb fa o pm cd doc a vs ns G Y _ _ _ hmg obj isI len gens
  obtain ⟨K, fd, sp, inK, bnd, prom, ok⟩ := F w mg fa _ Y G.T.g hmg
  exact law_callG inK G.T.g G.T.b G.T.builtins G.T.nolimit gens obj isI (Nat.le_trans len short) room ok bnd fun H only sq => prom H a ns len only sq
end K46
set_option linter.all false
set_option autoImplicit false
set_option maxRecDepth 100000
/-! K46Math10: what the texts of small tables tell. -/
namespace K46
open PySem
def cps (s : Str) : List Nat := s.cps.toList
theorem cps_app (a b : Str) : cps (a ++ b) = cps a ++ cps b := by
  show (a.cps ++ b.cps).toList = _
  rw [Array.toList_append]; rfl
theorem len_cps (s : Str) : s.length = (cps s).length := by unfold cps Str.length; rw [Array.length_toList]
def digs (s : Str) : List Nat := (cps s).filter fun c => decide (48 ≤ c) && decide (c ≤ 57)
def pars (s : Str) : Nat := ((cps s).filter fun c => decide (c = 40)).length
theorem digs_app (a b : Str) : digs (a ++ b) = digs a ++ digs b := by unfold digs; rw [cps_app, List.filter_append]
theorem pars_app (a b : Str) : pars (a ++ b) = pars a + pars b := by unfold pars; rw [cps_app, List.filter_append, List.length_append]
theorem len_app (a b : Str) : (a ++ b).length = a.length + b.length := by rw [len_cps, len_cps, len_cps, cps_app, List.length_append]
def sumL (l : List Nat) : Nat := l.foldr (· + ·) 0
theorem join_digs : ∀ ts : List Str, digs (Str.join ", " ts) = ts.flatMap digs
  | [] => by decide +kernel
  | [t] => by rw [List.flatMap_cons, List.flatMap_nil, List.append_nil]; rfl
  | t :: u :: ts => by
    show digs (t ++ (", " : Str) ++ Str.join ", " (u :: ts)) = _
    rw [digs_app, digs_app, join_digs (u :: ts), show digs (", " : Str) = [] by decide +kernel, List.append_nil]; rfl
theorem join_pars : ∀ ts : List Str, pars (Str.join ", " ts) = sumL (ts.map pars)
  | [] => by decide +kernel
  | [t] => by show pars t = pars t + 0; omega
  | t :: u :: ts => by
    show pars (t ++ (", " : Str) ++ Str.join ", " (u :: ts)) = _
    rw [pars_app, pars_app, join_pars (u :: ts), show pars (", " : Str) = 0 by decide +kernel]; rfl
theorem join_len : ∀ ts : List Str, (Str.join ", " ts).length ≤ sumL (ts.map fun t => t.length + 2)
  | [] => by decide +kernel
  | [t] => by show t.length ≤ t.length + 2 + 0; omega
  | t :: u :: ts => by
    show (t ++ (", " : Str) ++ Str.join ", " (u :: ts)).length ≤ _
    have := join_len (u :: ts)
    rw [len_app, len_app, show (", " : Str).length = 2 by decide +kernel]
    show t.length + 2 + _ ≤ (t.length + 2) + sumL ((u :: ts).map fun t => t.length + 2)
    omega
theorem sep_digs (k : Nat) : digs (Str.ofString (if k > 0 then ", " else "" : String)) = [] := by split <;> decide +kernel
theorem sep_pars (k : Nat) : pars (Str.ofString (if k > 0 then ", " else "" : String)) = 0 := by split <;> decide +kernel
theorem sep_len (k : Nat) : (Str.ofString (if k > 0 then ", " else "" : String)).length ≤ 2 := by split <;> decide +kernel
theorem from_digs : ∀ (ts : List Str) (k : Nat) (acc : Str), digs (textFrom k acc ts) = digs acc ++ ts.flatMap digs
  | [], k, acc => by rw [List.flatMap_nil, List.append_nil]; rfl
  | t :: ts, k, acc => by
    show digs (textFrom (k + 1) (acc ++ Str.ofString (if k > 0 then ", " else "" : String) ++ t) ts) = _
    rw [from_digs ts, digs_app, digs_app, sep_digs, List.append_nil, List.flatMap_cons, List.append_assoc]
theorem from_pars : ∀ (ts : List Str) (k : Nat) (acc : Str), pars (textFrom k acc ts) = pars acc + sumL (ts.map pars)
  | [], k, acc => rfl
  | t :: ts, k, acc => by
    show pars (textFrom (k + 1) (acc ++ Str.ofString (if k > 0 then ", " else "" : String) ++ t) ts) = _
    rw [from_pars ts, pars_app, pars_app, sep_pars]
    show _ = pars acc + (pars t + sumL (ts.map pars))
    omega
theorem from_len : ∀ (ts : List Str) (k : Nat) (acc : Str), (textFrom k acc ts).length ≤ acc.length + sumL (ts.map fun t => t.length + 2)
  | [], k, acc => Nat.le_refl _
  | t :: ts, k, acc => by
    show (textFrom (k + 1) (acc ++ Str.ofString (if k > 0 then ", " else "" : String) ++ t) ts).length ≤ _
    have h1 := from_len ts (k + 1) (acc ++ Str.ofString (if k > 0 then ", " else "" : String) ++ t)
    have h2 := sep_len k
    rw [len_app, len_app] at h1
    show _ ≤ acc.length + (t.length + 2 + sumL (ts.map fun t => t.length + 2))
    omega
theorem list_digs (ts : List Str) : digs (listText ts) = ts.flatMap digs := by
  unfold listText
  rw [digs_app, from_digs, show digs ("[" : Str) = [] by decide +kernel, show digs ("]" : Str) = [] by decide +kernel, List.nil_append, List.append_nil]
theorem list_pars (ts : List Str) : pars (listText ts) = sumL (ts.map pars) := by
  unfold listText
  rw [pars_app, from_pars, show pars ("[" : Str) = 0 by decide +kernel, show pars ("]" : Str) = 0 by decide +kernel]; omega
theorem list_len (ts : List Str) : (listText ts).length ≤ 2 + sumL (ts.map fun t => t.length + 2) := by
  unfold listText
  have := from_len ts 0 "["
  rw [show ("[" : Str).length = 1 by decide +kernel] at this
  rw [len_app, show ("]" : Str).length = 1 by decide +kernel]; omega
theorem tup_digs (ts : List Str) : digs (tupleText ts) = ts.flatMap digs := by
  unfold tupleText
  rw [digs_app, digs_app, join_digs, show digs ("(" : Str) = [] by decide +kernel, List.nil_append]
  have : digs (Str.ofString (if (ts.length == 1) = true then ",)" else ")" : String)) = [] := by split <;> decide +kernel
  rw [this, List.append_nil]
theorem tup_pars (ts : List Str) : pars (tupleText ts) = 1 + sumL (ts.map pars) := by
  unfold tupleText
  rw [pars_app, pars_app, join_pars, show pars ("(" : Str) = 1 by decide +kernel]
  have : pars (Str.ofString (if (ts.length == 1) = true then ",)" else ")" : String)) = 0 := by split <;> decide +kernel
  rw [this, Nat.add_zero]
theorem tup_len (ts : List Str) : (tupleText ts).length ≤ 3 + sumL (ts.map fun t => t.length + 2) := by
  unfold tupleText
  have h1 := join_len ts
  have h2 : (Str.ofString (if (ts.length == 1) = true then ",)" else ")" : String)).length ≤ 2 := by split <;> decide +kernel
  rw [len_app, len_app, show ("(" : Str).length = 1 by decide +kernel]; omega
theorem dict_digs (ts : List Str) : digs (dictText ts) = ts.flatMap digs := by
  unfold dictText
  rw [digs_app, digs_app, join_digs, show digs ("{" : Str) = [] by decide +kernel, show digs ("}" : Str) = [] by decide +kernel, List.nil_append, List.append_nil]
theorem dict_pars (ts : List Str) : pars (dictText ts) = sumL (ts.map pars) := by
  unfold dictText
  rw [pars_app, pars_app, join_pars, show pars ("{" : Str) = 0 by decide +kernel, show pars ("}" : Str) = 0 by decide +kernel]; omega
theorem dict_len (ts : List Str) : (dictText ts).length ≤ 2 + sumL (ts.map fun t => t.length + 2) := by
  unfold dictText
  have h1 := join_len ts
  rw [len_app, len_app, show ("{" : Str).length = 1 by decide +kernel, show ("}" : Str).length = 1 by decide +kernel]; omega
/-! ### small numbers -/
theorem num_cps : ∀ x : Nat, x < 10 → cps (Str.ofString (toString (x : Int))) = [48 + x] := by decide +kernel
theorem shown_N (x : Nat) : (dN x).shown = Str.ofString (toString (x : Int)) := by unfold dN; rw [PyData.shown]
theorem num_digs {x : Nat} (h : x < 10) : digs (dN x).shown = [48 + x] := by
  rw [shown_N]
  unfold digs
  rw [num_cps x h, List.filter_cons, if_pos (by rw [Bool.and_eq_true]; exact ⟨decide_eq_true (by omega), decide_eq_true (by omega)⟩)]; rfl
theorem num_pars {x : Nat} (h : x < 10) : pars (dN x).shown = 0 := by
  rw [shown_N]
  unfold pars
  rw [num_cps x h, List.filter_cons, if_neg (by intro z; have := of_decide_eq_true z; omega)]; rfl
theorem num_len {x : Nat} (h : x < 10) : (dN x).shown.length = 1 := by rw [shown_N, len_cps, num_cps x h]; rfl
theorem shownAll_map {α : Type} (f : α → PyData) : ∀ l : List α, PyData.shownAll (l.map f) = l.map fun a => (f a).shown
  | [] => by rw [List.map_nil, PyData.shownAll]; rfl
  | a :: l => by rw [List.map_cons, PyData.shownAll, shownAll_map f l]; rfl
theorem shown_L (l : List Nat) : (dL l).shown = tupleText (l.map fun x => (dN x).shown) := by unfold dL; rw [PyData.shown, shownAll_map]
theorem L_digs {l : List Nat} (h : ∀ x ∈ l, x < 10) : digs (dL l).shown = l.map (48 + ·) := by
  rw [shown_L, tup_digs]
  induction l with
  | nil => rfl
  | cons x l ih => rw [List.map_cons, List.flatMap_cons, num_digs (h x List.mem_cons_self), ih fun y hy => h y (List.mem_cons_of_mem _ hy)]; rfl
theorem L_pars {l : List Nat} (h : ∀ x ∈ l, x < 10) : pars (dL l).shown = 1 := by
  rw [shown_L, tup_pars]
  induction l with
  | nil => rfl
  | cons x l ih =>
    have := ih fun y hy => h y (List.mem_cons_of_mem _ hy)
    show 1 + (pars (dN x).shown + sumL _) = 1
    rw [num_pars (h x List.mem_cons_self), Nat.zero_add]; exact this
theorem L_len {l : List Nat} (h : ∀ x ∈ l, x < 10) : (dL l).shown.length ≤ 3 + 3 * l.length := by
  rw [shown_L]
  refine Nat.le_trans (tup_len _) ?_
  induction l with
  | nil => decide
  | cons x l ih =>
    have := ih fun y hy => h y (List.mem_cons_of_mem _ hy)
    show 3 + ((dN x).shown.length + 2 + sumL _) ≤ 3 + 3 * (l.length + 1)
    rw [num_len (h x List.mem_cons_self)]; omega
/-! ### rows -/
def Small (m : List (List Nat)) : Prop := ∀ l ∈ m, ∀ x ∈ l, x < 10
def flatM (m : List (List Nat)) : List Nat := m.flatMap fun l => l.map (48 + ·)
theorem rows_digs {m : List (List Nat)} (h : Small m) : (m.map fun l => (dL l).shown).flatMap digs = flatM m := by
  unfold flatM
  induction m with
  | nil => rfl
  | cons l m ih => rw [List.map_cons, List.flatMap_cons, List.flatMap_cons, L_digs (h l List.mem_cons_self), ih fun y hy => h y (List.mem_cons_of_mem _ hy)]
theorem rows_pars {m : List (List Nat)} (h : Small m) : sumL ((m.map fun l => (dL l).shown).map pars) = m.length := by
  induction m with
  | nil => rfl
  | cons l m ih =>
    have := ih fun y hy => h y (List.mem_cons_of_mem _ hy)
    show pars (dL l).shown + sumL _ = m.length + 1
    rw [L_pars (h l List.mem_cons_self), this]; omega
theorem rows_len {m : List (List Nat)} {n : Nat} (h : Small m) (hn : ∀ l ∈ m, l.length = n) : sumL ((m.map fun l => (dL l).shown).map fun t => t.length + 2) ≤ m.length * (3 * n + 5) := by
  induction m with
  | nil => exact Nat.zero_le _
  | cons l m ih =>
    have h1 := ih (fun y hy => h y (List.mem_cons_of_mem _ hy)) fun y hy => hn y (List.mem_cons_of_mem _ hy)
    have h2 := L_len (h l List.mem_cons_self)
    rw [hn l List.mem_cons_self] at h2
    show (dL l).shown.length + 2 + sumL _ ≤ (m.length + 1) * (3 * n + 5)
    rw [Nat.succ_mul]; omega
theorem flatM_len {n : Nat} : ∀ {m : List (List Nat)}, (∀ l ∈ m, l.length = n) → (flatM m).length = m.length * n
  | [], _ => by rw [List.length_nil, Nat.zero_mul]; rfl
  | l :: m, h => by
    have := flatM_len (m := m) fun y hy => h y (List.mem_cons_of_mem _ hy)
    show (l.map (48 + ·) ++ flatM m).length = _
    rw [List.length_append, List.length_map, this, h l List.mem_cons_self, List.length_cons, Nat.succ_mul]; omega
theorem map48 {l r : List Nat} (h : l.map (48 + ·) = r.map (48 + ·)) : l = r := by
  induction l generalizing r with
  | nil => cases r with
    | nil => rfl
    | cons _ _ => cases h
  | cons x l ih => cases r with
    | nil => cases h
    | cons y r =>
      rw [List.map_cons, List.map_cons, List.cons.injEq] at h
      rw [ih h.2, show x = y by omega]
theorem flatM_inj {n : Nat} : ∀ {m m' : List (List Nat)}, (∀ l ∈ m, l.length = n) → (∀ l ∈ m', l.length = n) → m.length = m'.length → flatM m = flatM m' → m = m'
  | [], [], _, _, _, _ => rfl
  | [], _ :: _, _, _, h, _ => by cases h
  | _ :: _, [], _, _, h, _ => by cases h
  | l :: m, r :: m', h1, h2, hl, e => by
    have e : l.map (48 + ·) ++ flatM m = r.map (48 + ·) ++ flatM m' := e
    have := List.append_inj e (by rw [List.length_map, List.length_map, h1 l List.mem_cons_self, h2 r List.mem_cons_self])
    rw [map48 this.1, flatM_inj (fun y hy => h1 y (List.mem_cons_of_mem _ hy)) (fun y hy => h2 y (List.mem_cons_of_mem _ hy)) (by simpa using hl) this.2]
/-! ### the text of a plain table -/
def dMl (m : List (List Nat)) : PyData := .list (m.map dL)
def plDs (T : Tb) : List PyData := [dN T.tie, dN T.gap, dMl T.rows, dMl T.sides, dL T.acc]
def plText (T : Tb) : Str := dictText (PyData.shownKv (((["tie", "gap", "rows", "sides", "accepted"] : List Str).map fun s => PyData.str s).zip (plDs T)))
theorem shown_Ml (m : List (List Nat)) : (dMl m).shown = listText (m.map fun l => (dL l).shown) := by unfold dMl; rw [PyData.shown, shownAll_map]
def entry (k : Str) (d : PyData) : Str := (PyData.str k).shown ++ (": " : Str) ++ d.shown
theorem plText_eq (T : Tb) : plText T = dictText [entry "tie" (dN T.tie), entry "gap" (dN T.gap), entry "rows" (dMl T.rows), entry "sides" (dMl T.sides), entry "accepted" (dL T.acc)] := by
  unfold plText plDs
  simp only [List.map_cons, List.map_nil, List.zip_cons_cons, List.zip_nil_right, PyData.shownKv]
  rfl
theorem entry_digs (k : Str) (d : PyData) (h : digs (reprText k) = []) : digs (entry k d) = digs d.shown := by
  unfold entry
  rw [digs_app, digs_app, PyData.shown, h, show digs (": " : Str) = [] by decide +kernel]; rfl
theorem entry_pars (k : Str) (d : PyData) (h : pars (reprText k) = 0) : pars (entry k d) = pars d.shown := by
  unfold entry
  rw [pars_app, pars_app, PyData.shown, h, show pars (": " : Str) = 0 by decide +kernel]; omega
theorem entry_len (k : Str) (d : PyData) (h : (reprText k).length ≤ 10) : (entry k d).length ≤ 12 + d.shown.length := by
  unfold entry
  rw [len_app, len_app, PyData.shown, show (": " : Str).length = 2 by decide +kernel]; omega
structure Tb.Few (T : Tb) : Prop where
  ok : T.Ok
  few : T.n ≤ 9
section
variable {T U : Tb}
theorem Tb.Few.rows (h : T.Few) : Small T.rows := fun l hl x hx => by have := h.ok.rows.lt l hl x hx; have := h.few; omega
theorem Tb.Few.sides (h : T.Few) : Small T.sides := fun l hl x hx => by have := h.ok.sides.lt l hl x hx; have := h.few; omega
theorem Tb.Few.acc (h : T.Few) : ∀ x ∈ T.acc, x < 10 := fun x hx => by have := h.ok.acc x hx; have := h.few; omega
theorem pl_digs (h : T.Few) : digs (plText T) = (48 + T.tie) :: (48 + T.gap) :: (flatM T.rows ++ (flatM T.sides ++ T.acc.map (48 + ·))) := by
  have t := h.ok.tie
  have g := h.ok.gap
  have n := h.few
  rw [plText_eq, dict_digs]
  simp only [List.flatMap_cons, List.flatMap_nil]
  rw [entry_digs "tie" _ (by decide +kernel), entry_digs "gap" _ (by decide +kernel), entry_digs "rows" _ (by decide +kernel), entry_digs "sides" _ (by decide +kernel), entry_digs "accepted" _ (by decide +kernel),
    num_digs (by omega), num_digs (by omega), shown_Ml, list_digs, rows_digs h.rows, shown_Ml, list_digs, rows_digs h.sides, L_digs h.acc]
  simp
theorem pl_pars (h : T.Few) : pars (plText T) = T.rows.length + T.sides.length + 1 := by
  have t := h.ok.tie
  have g := h.ok.gap
  have n := h.few
  rw [plText_eq, dict_pars]
  simp only [List.map_cons, List.map_nil]
  rw [entry_pars "tie" _ (by decide +kernel), entry_pars "gap" _ (by decide +kernel), entry_pars "rows" _ (by decide +kernel), entry_pars "sides" _ (by decide +kernel), entry_pars "accepted" _ (by decide +kernel),
    num_pars (by omega), num_pars (by omega), shown_Ml, list_pars, rows_pars h.rows, shown_Ml, list_pars, rows_pars h.sides, L_pars h.acc]
  show 0 + (0 + (T.rows.length + (T.sides.length + (1 + 0)))) = _
  omega
theorem acc_len (h : T.Ok) : T.acc.length ≤ T.n := nodup_le _ _ (h.asc.imp fun z => Nat.ne_of_lt z) h.acc
theorem rows_len9 {m : List (List Nat)} {n : Nat} (h : Small m) (q : Square n m) (hn : n ≤ 9) : sumL ((m.map fun l => (dL l).shown).map fun t => t.length + 2) ≤ 288 := by
  have h1 := rows_len h q.row
  rw [q.len] at h1
  have : n * (3 * n + 5) ≤ 9 * 32 := Nat.mul_le_mul hn (by omega)
  omega
theorem pl_len (h : T.Few) : (plText T).length ≤ 1000 := by
  have t := h.ok.tie
  have g := h.ok.gap
  have n := h.few
  rw [plText_eq]
  refine Nat.le_trans (dict_len _) ?_
  show 2 + ((entry "tie" _).length + 2 + ((entry "gap" _).length + 2 + ((entry "rows" _).length + 2 + ((entry "sides" _).length + 2 + ((entry "accepted" _).length + 2 + 0))))) ≤ 1000
  have h1 := entry_len "tie" (dN T.tie) (by decide +kernel)
  have h2 := entry_len "gap" (dN T.gap) (by decide +kernel)
  have h3 := entry_len "rows" (dMl T.rows) (by decide +kernel)
  have h4 := entry_len "sides" (dMl T.sides) (by decide +kernel)
  have h5 := entry_len "accepted" (dL T.acc) (by decide +kernel)
  have h6 := L_len h.acc
  have h7 := acc_len h.ok
  have h8 : (dMl T.rows).shown.length ≤ 290 := by rw [shown_Ml]; have := list_len (T.rows.map fun l => (dL l).shown); have := rows_len9 h.rows h.ok.rows n; omega
  have h9 : (dMl T.sides).shown.length ≤ 290 := by rw [shown_Ml]; have := list_len (T.sides.map fun l => (dL l).shown); have := rows_len9 h.sides h.ok.sides n; omega
  rw [num_len (by omega)] at h1 h2
  omega
/-- equal texts, equal tables -/
theorem pl_inj (hT : T.Few) (hU : U.Few) : plText T = plText U ↔ T = U := by
  refine ⟨fun e => ?_, fun e => by rw [e]⟩
  have hp : pars (plText T) = pars (plText U) := by rw [e]
  have hd : digs (plText T) = digs (plText U) := by rw [e]
  rw [pl_pars hT, pl_pars hU, hT.ok.rows.len, hU.ok.rows.len, hT.ok.sides.len, hU.ok.sides.len] at hp
  have hn : T.n = U.n := by omega
  rw [pl_digs hT, pl_digs hU, List.cons.injEq, List.cons.injEq] at hd
  obtain ⟨h1, h2, h3⟩ := hd
  have sR : ∀ l ∈ U.rows, l.length = T.n := fun l hl => by rw [hU.ok.rows.row l hl, hn]
  have sS : ∀ l ∈ U.sides, l.length = T.n := fun l hl => by rw [hU.ok.sides.row l hl, hn]
  have lR : T.rows.length = U.rows.length := by rw [hT.ok.rows.len, hU.ok.rows.len, hn]
  have lS : T.sides.length = U.sides.length := by rw [hT.ok.sides.len, hU.ok.sides.len, hn]
  obtain ⟨h4, h5⟩ := List.append_inj h3 (by rw [flatM_len hT.ok.rows.row, flatM_len sR, lR])
  obtain ⟨h6, h7⟩ := List.append_inj h5 (by rw [flatM_len hT.ok.sides.row, flatM_len sS, lS])
  have e1 := flatM_inj hT.ok.rows.row sR lR h4
  have e2 := flatM_inj hT.ok.sides.row sS lS h6
  have e3 := map48 h7
  obtain ⟨t, g, r, s, a⟩ := T
  obtain ⟨t', g', r', s', a'⟩ := U
  simp only at h1 h2 e1 e2 e3
  rw [e1, e2, e3, show t = t' by omega, show g = g' by omega]
/-! ### the list that is told of a table -/
def fvD (T : Tb) : PyData := .list [dN T.tie, dN T.gap, dM T.rows, dM T.sides, dL T.acc]
theorem shown_M (m : List (List Nat)) : (dM m).shown = tupleText (m.map fun l => (dL l).shown) := by unfold dM; rw [PyData.shown, shownAll_map]
theorem fv_len (h : T.Few) : (fvD T).shown.length ≤ 1000 := by
  have t := h.ok.tie
  have g := h.ok.gap
  have n := h.few
  unfold fvD
  rw [PyData.shown]
  simp only [PyData.shownAll]
  refine Nat.le_trans (list_len _) ?_
  show 2 + ((dN T.tie).shown.length + 2 + ((dN T.gap).shown.length + 2 + ((dM T.rows).shown.length + 2 + ((dM T.sides).shown.length + 2 + ((dL T.acc).shown.length + 2 + 0))))) ≤ 1000
  have h6 := L_len h.acc
  have h7 := acc_len h.ok
  have h8 : (dM T.rows).shown.length ≤ 291 := by rw [shown_M]; have := tup_len (T.rows.map fun l => (dL l).shown); have := rows_len9 h.rows h.ok.rows n; omega
  have h9 : (dM T.sides).shown.length ≤ 291 := by rw [shown_M]; have := tup_len (T.sides.map fun l => (dL l).shown); have := rows_len9 h.sides h.ok.sides n; omega
  rw [num_len (by omega), num_len (by omega)]
  omega
end
end K46
set_option Elab.async false
set_option linter.all false
set_option autoImplicit false
set_option maxRecDepth 100000
namespace K46
open PySem PySem.Spec PyProof.Rows L2 Evl
set_option maxHeartbeats 4000000
/-- the properties of Table -/
structure TabP (P : Program) (w : World) (K : PySem.W.Frag) (mg : Str → Option Value) (base : Heap) : Prop where
  tie : ∃ p g, PropG K (He.ga K "Table") "tie_state" p g ∧ PrM P w K mg base 1 g ["self"] (spTieP K)
  gap : ∃ p g, PropG K (He.ga K "Table") "gap_state" p g ∧ PrM P w K mg base 1 g ["self"] (spGapP K)
  rows : ∃ p g, PropG K (He.ga K "Table") "rows" p g ∧ PrM P w K mg base 1 g ["self"] (spRowsP K)
  sides : ∃ p g, PropG K (He.ga K "Table") "sides" p g ∧ PrM P w K mg base 1 g ["self"] (spSidesP K)
  acc : ∃ p g, PropG K (He.ga K "Table") "accepted" p g ∧ PrM P w K mg base 1 g ["self"] (spAccP K)
  reached : ∃ p g, PropG K (He.ga K "Table") "reached" p g ∧ PrM P w K mg base 3 g ["self"] (spReachP K)
  least : ∃ p g, PropG K (He.ga K "Table") "least" p g ∧ PrM P w K mg base 9 g ["self"] (spLeastP K)
  isLeast : ∃ p g, PropG K (He.ga K "Table") "is_least" p g ∧ PrM P w K mg base 5 g ["self"] (spIsLeastP K)
section
variable {K : PySem.W.Frag} {σ : L2.St} {H : Hp} {te ta tb : TE} {C x : Addr}
/-- a property of a table -/
theorem ep_tprop {sp : Sp} {v : V} {T : Tb} {R : V → Hp → Prop} (ht : TabAt K H v T) (ha : Ev ta σ H v) (hs : SpP sp [v] H R) : EvP (SlX.tPropSl (He.ga K "Table") sp E0 ta) σ H R := by
  obtain ⟨x, dx, r, s, a, rfl, h1, h2, h3⟩ := ht
  exact ep_prop ha (.inr ⟨h1, h2⟩) hs
/-- lists of what is made on the way -/
def EvLP (ta : TA) (σ : L2.St) (H : Hp) (P : List V → Hp → Prop) : Prop := EvAP ta σ H P
theorem ep_lstP {ta : TA} {P : List V → Hp → Prop} (h : EvAP ta σ H P) (hl : ∀ vs H', P vs H' → vs.length ≤ 100000) : EvP (tLst ta) σ H (fun u H' => ∃ p vs H1, u = .ref p ∧ P vs H1 ∧ Ex H1 H' ∧ H' p = some (.lst vs)) := fun H1 e Q q =>
  h H1 e _ fun vs H2 e2 p2 => ⟨sz_of (hl vs H2 p2), fun p hp => q _ _ (e2.trans (Ex.new hp)) ⟨p, vs, H2, rfl, p2, Ex.new hp, upd_same⟩⟩
/-- repr of new data -/
theorem ev_reprD {d : PyData} (h : EvP te σ H (fun u H' => ∃ a, u = .ref a ∧ Dp K H' (.ref a) d)) (h1 : d.hasDict = false) (h2 : d.showable = true) (h3 : d.depth ≤ 8) (h4 : d.shown.length ≤ 100000) : Ev (tCB (rReprD K) (tCons te tNil)) σ H (.str d.shown) := fun H1 e Q q =>
  h H1 e _ fun u H2 e2 ⟨a, hu, hd⟩ => ⟨a, d, by rw [hu], hd, h1, h2, h3, sz_of h4, q H2 e2⟩
end
theorem noDict_L (l : List Nat) : (dL l).hasDict = false := PyData.hasDict_of_canLay _ (can_L l)
theorem showable_N {x : Nat} (h : x < 10) : (dN x).showable = true := by
  unfold dN
  rw [PyData.showable]
  refine decide_eq_true ?_
  have : ∀ x : Nat, x < 10 → (x : Int).natAbs.log2 < 1920 := by decide
  exact this x h
theorem showableAll_map {α : Type} (f : α → PyData) : ∀ l : List α, (∀ a ∈ l, (f a).showable = true) → PyData.showableAll (l.map f) = true
  | [], _ => rfl
  | a :: l, h => by rw [List.map_cons, PyData.showableAll, h a List.mem_cons_self, showableAll_map f l fun b hb => h b (List.mem_cons_of_mem _ hb)]; rfl
theorem showable_L {l : List Nat} (h : ∀ x ∈ l, x < 10) : (dL l).showable = true := by unfold dL; rw [PyData.showable]; exact showableAll_map _ _ fun x hx => showable_N (h x hx)
theorem showable_M {m : List (List Nat)} (h : Small m) : (dM m).showable = true := by unfold dM; rw [PyData.showable]; exact showableAll_map _ _ fun x hx => showable_L (h x hx)
theorem showable_Ml {m : List (List Nat)} (h : Small m) : (dMl m).showable = true := by unfold dMl; rw [PyData.showable]; exact showableAll_map _ _ fun x hx => showable_L (h x hx)
theorem showable_fv {T : Tb} (h : T.Few) : (fvD T).showable = true := by
  have t := h.ok.tie
  have g := h.ok.gap
  have n := h.few
  unfold fvD
  simp only [PyData.showable, PyData.showableAll, showable_N (show T.tie < 10 by omega), showable_N (show T.gap < 10 by omega), showable_M h.rows, showable_M h.sides, showable_L h.acc]; rfl
theorem can_fv (T : Tb) : (fvD T).canLay0 = true := by
  show PyData.canLayAll0 [dN T.tie, dN T.gap, dM T.rows, dM T.sides, dL T.acc] = true
  simp only [PyData.canLayAll0, can_L, can_M]
  rfl
theorem dep_fv (T : Tb) : (fvD T).depth ≤ 3 := by
  have h1 := dep_M T.rows
  have h2 := dep_M T.sides
  have h3 := dep_L T.acc
  unfold fvD
  simp only [PyData.depth, PyData.depthAll]
  have a1 : (dN T.tie).depth = 0 := rfl
  have a2 : (dN T.gap).depth = 0 := rfl
  omega
section
variable {P : Program} {w : World} {K : PySem.W.Frag} {mg : Str → Option Value} {base : Heap}
/-! ### _law_is_table -/
abbrev sIsT : Stmt := top 70
def spIsT (K : PySem.W.Frag) : Sp := fun vs H Q _ => ∃ (u v : V) (T : Tb), vs = [u, v] ∧ TabAt K H u T ∧ Plain H v T ∧ T.Few ∧ ∀ H', Ex H H' → Q (.bl true) H'
abbrev nIsT : List Str := ["_law_told", "_law_plain", "_law_due"]
theorem scIsT : FnScope nIsT ["_law_told", "_law_plain"] (defScope sIsT) := ⟨rfl, rfl, rfl, by decide +kernel, rfl, by decide +kernel, by decide +kernel⟩
theorem dp_fv {H : Hp} {p : Addr} {r s a : V} {T : Tb} (h : H p = some (.lst [nV T.tie, nV T.gap, r, s, a])) (hr : MatT H r T.rows) (hs : MatT H s T.sides) (ha : TupN H a T.acc) : Dp K H (.ref p) (fvD T) :=
  .lst (SqL.of h) (.cons (.int _) (.cons (.int _) (.cons (dp_M hr) (.cons (dp_M hs) (.cons (dp_L ha) .nil)))))
theorem ok_isT (B : Free mg) (TC : TblC K mg) (TP : TabP P w K mg base) (F : FnG K "_law_is_table" sIsT) (hm : mg "_law_is_table" = some (.ref (He.ga K "_law_is_table"))) : PrG P w K mg base 3 "_law_is_table" ["_law_told", "_law_plain"] (spIsT K) := by
  obtain ⟨p1, g1, G1, F1⟩ := TP.tie
  obtain ⟨p2, g2, G2, F2⟩ := TP.gap
  obtain ⟨p3, g3, G3, F3⟩ := TP.rows
  obtain ⟨p4, g4, G4, F4⟩ := TP.sides
  obtain ⟨p5, g5, G5, F5⟩ := TP.acc
  refine prg_mk F hm scIsT (fun _ _ _ _ _ _ us hl => match us, hl with | [_, _], _ => rfl) (fun vs H Q E h => ?_) (fun f cdv A outer s H vs Q E gd hr h => ?_)
  · obtain ⟨u, v, T, rfl, _⟩ := h
    rfl
  · obtain ⟨u, v, T, rfl, ht, ⟨r, t, a, d, hp⟩, few, k⟩ := h
    have hu := hu_of hr
    have h64 : (A.deeper (envOfC "_law_is_table" (defScope sIsT) s.heap.objs.size f cdv)).units + 64 < cLine := hr.units
    refine ⟨_, pss_cons (ps_if (pt_not (pt_val (pe_callB (SlX.call_isiSl (.ref (He.ga K "Table"))) (by rfl) B.isinstance b_isi (pa_cons (pv 0) (pa_cons (pe_glob (v := .ref (He.ga K "Table")) (by rfl) TC.glo rfl) pa_nil))))) (pss_one (ps_ret pe_bl)) pss_nil)
      (pss_cons (ps_set (i := 2) scIsT.nd rfl (Or.inl rfl) (pe_lst (pa_cons (pe_dget hu (pv 1) pe_str (fun _ _ => rfl)) (pa_cons (pe_dget hu (pv 1) pe_str (fun _ _ => rfl)) (pa_cons (pe_callTy call_tuple_of (by rfl) B.tuple b_tuple (pa_cons (pe_dget hu (pv 1) pe_str (fun _ _ => rfl)) pa_nil))
          (pa_cons (pe_callTy call_tuple_of (by rfl) B.tuple b_tuple (pa_cons (pe_dget hu (pv 1) pe_str (fun _ _ => rfl)) pa_nil)) (pa_cons (pe_dget hu (pv 1) pe_str (fun _ _ => rfl)) pa_nil)))))))
      (pss_one (ps_ret (pe_cmpR op_eq (pe_callB (call_reprD gd h64) (by rfl) B.repr b_repr (pa_cons (pe_lst (pa_cons (pe_prop (pv 0) TC.sl G1 F1.raw hr) (pa_cons (pe_prop (pv 0) TC.sl G2 F2.raw hr) (pa_cons (pe_prop (pv 0) TC.sl G3 F3.raw hr) (pa_cons (pe_prop (pv 0) TC.sl G4 F4.raw hr)
          (pa_cons (pe_prop (pv 0) TC.sl G5 F5.raw hr) pa_nil)))))) pa_nil)) (pe_callB (call_reprD gd h64) (by rfl) B.repr b_repr (pa_cons (pv 2) pa_nil)) (by rfl))))), ?_⟩
    have g : ∀ {H1 : Hp} {k : Str} {x : V} {σ : L2.St}, σ[1]? = some (some v) → Ex H H1 → valV (plKV T r t a) (kx k) = some x → Ev (tDGet (tVar 1) (tC (.str k))) σ H1 x := fun s1 e hk => ev_pl (ev_var s1) (hp.mono e) hk
    obtain ⟨x, dx, r', s', a', hux, t1, t2, t3⟩ := id ht
    subst hux
    refine q_when (b := false) (et_not (a := true) (et_B (ev_isiS TC.sl (ev_var rfl) t1 t2))) (fun z => by cases z) (fun _ H1 e1 => ?_)
    refine q_asgP (P := fun u H' => ∃ p, u = .ref p ∧ Dp K H' (.ref p) (fvD T) ∧ ∀ H2, Ex H' H2 → Dp K H2 (.ref p) (fvD T)) ((ep_lstP (P := fun vs H' => ∃ r s a, vs = [nV T.tie, nV T.gap, r, s, a] ∧ MatT H' r T.rows ∧ MatT H' s T.sides ∧ TupN H' a T.acc) (eap_consE (g rfl e1 (pl_tie T r t a)) (eap_consE (g rfl e1 (pl_gap T r t a))
      (eap_cons (P := fun u H' => MatT H' u T.rows) (ep_tupM fun H2 e2 => ⟨r, g rfl (e1.trans e2) (pl_rows T r t a), hp.rows.mono (e1.trans e2)⟩) fun u1 H2 e2 h1 => eap_cons (P := fun u H' => MatT H' u T.sides) (ep_tupM fun H3 e3 => ⟨t, g rfl (e1.trans (e2.trans e3)) (pl_sides T r t a), hp.sides.mono (e1.trans (e2.trans e3))⟩) fun u2 H3 e3 h2 =>
        eap_consE (g rfl (e1.trans (e2.trans e3)) (pl_acc T r t a)) fun H4 e4 Q4 q4 => q4 [] H4 (Ex.refl _) ⟨u1, u2, a, rfl, h1.mono (e3.trans e4), h2.mono e4, TupV.mono hp.acc (e1.trans (e2.trans (e3.trans e4)))⟩)))
      (fun vs H' ⟨_, _, _, h, _⟩ => by rw [h]; show 5 ≤ 100000; decide)).imp fun u H' e' ⟨p, vs, H2, hu', ⟨r2, s2, a2, hvs, m1, m2, m3⟩, e2, h2⟩ => ?_) fun u H2 e2 ⟨p, hu', _, hd⟩ => ?_
    · subst hvs
      exact ⟨p, hu', dp_fv h2 (m1.mono e2) (m2.mono e2) (TupV.mono m3 e2), fun H3 e3 => dp_fv (e3 _ _ h2) (m1.mono (e2.trans e3)) (m2.mono (e2.trans e3)) (TupV.mono m3 (e2.trans e3))⟩
    subst hu'
    have e12 := e1.trans e2
    have lim : (fvD T).shown.length ≤ 100000 := Nat.le_trans (fv_len few) (by decide)
    have nd : (fvD T).hasDict = false := PyData.hasDict_of_canLay _ (can_fv T)
    have dp8 : (fvD T).depth ≤ 8 := Nat.le_trans (dep_fv T) (by decide)
    refine s_ret (v := .bl true) ?_ fun H3 e3 => k H3 (e12.trans e3)
    have := ev_op (r := rEq) (ev_reprD (K := K) (σ := [some (.ref x), some v, some (.ref p)]) (H := H2) (d := fvD T) (te := tLst (tCons (SlX.tPropSl (He.ga K "Table") (spTieP K) E0 (tVar 0)) (tCons (SlX.tPropSl (He.ga K "Table") (spGapP K) E0 (tVar 0)) (tCons (SlX.tPropSl (He.ga K "Table") (spRowsP K) E0 (tVar 0)) (tCons (SlX.tPropSl (He.ga K "Table") (spSidesP K) E0 (tVar 0)) (tCons (SlX.tPropSl (He.ga K "Table") (spAccP K) E0 (tVar 0)) tNil)))))) ?_ nd (showable_fv few) dp8 lim)
      (ev_reprD (K := K) (d := fvD T) (te := tVar 2) (fun H3 e3 Q q => ev_var (v := .ref p) rfl H3 e3 _ fun H4 e4 => q _ H4 e4 ⟨p, rfl, hd H4 (e3.trans e4)⟩) nd (showable_fv few) dp8 lim) (rv_eq rfl)
    · rw [decide_eq_true rfl] at this
      exact this
    have tb : ∀ {H3 : Hp}, Ex H2 H3 → TabAt K H3 (.ref x) T := fun e => ht.mono (e12.trans e)
    refine (ep_lstP (P := fun vs H' => ∃ r s a, vs = [nV T.tie, nV T.gap, r, s, a] ∧ MatT H' r T.rows ∧ MatT H' s T.sides ∧ TupN H' a T.acc)
      (eap_cons (P := fun u _ => u = nV T.tie) (ep_tprop (tb (Ex.refl _)) (ev_var rfl) fun H3 e3 Q q => ⟨_, T, rfl, tb e3, fun x H4 e4 hx => q x H4 e4 hx⟩) fun u1 H3 e3 h1 =>
      eap_cons (P := fun u _ => u = nV T.gap) (ep_tprop (tb e3) (ev_var rfl) fun H4 e4 Q q => ⟨_, T, rfl, tb (e3.trans e4), fun x H4 e4 hx => q x H4 e4 hx⟩) fun u2 H4 e4 h2 =>
      eap_cons (P := fun u H' => MatT H' u T.rows) (ep_tprop (tb (e3.trans e4)) (ev_var rfl) fun H5 e5 Q q => ⟨_, T, rfl, tb (e3.trans (e4.trans e5)), fun x H4 e4 hx => q x H4 e4 hx⟩) fun u3 H5 e5 h3 =>
      eap_cons (P := fun u H' => MatT H' u T.sides) (ep_tprop (tb (e3.trans (e4.trans e5))) (ev_var rfl) fun H6 e6 Q q => ⟨_, T, rfl, tb (e3.trans (e4.trans (e5.trans e6))), fun x H4 e4 hx => q x H4 e4 hx⟩) fun u4 H6 e6 h4 =>
      eap_cons (P := fun u H' => TupN H' u T.acc) (ep_tprop (tb (e3.trans (e4.trans (e5.trans e6)))) (ev_var rfl) fun H7 e7 Q q => ⟨_, T, rfl, tb (e3.trans (e4.trans (e5.trans (e6.trans e7)))), fun x H4 e4 hx => q x H4 e4 hx⟩) fun u5 H7 e7 h5 => fun H8 e8 Q8 q8 => q8 [] H8 (Ex.refl _) ⟨u3, u4, u5, by rw [h1, h2], h3.mono (e6.trans (e7.trans e8)), h4.mono (e7.trans e8), TupV.mono h5 e8⟩)
      (fun vs H' ⟨_, _, _, h, _⟩ => by rw [h]; show 5 ≤ 100000; decide)).imp fun u H' e' ⟨p, vs, H3, hu', ⟨r2, s2, a2, hvs, m1, m2, m3⟩, e3, h3⟩ => ?_
    subst hvs
    exact ⟨p, hu', dp_fv h3 (m1.mono e3) (m2.mono e3) (TupV.mono m3 e3)⟩
end
end K46
set_option Elab.async false
set_option linter.all false
set_option autoImplicit false
set_option maxRecDepth 100000
namespace K46
open PySem PySem.Spec PyProof.Rows L2 Evl
set_option maxHeartbeats 4000000
/-! ### the law's plain buildings -/
def BldP (H : Hp) : Bld → V → Prop
  | .tie, v => v = .str "tie"
  | .gap, v => v = .str "gap"
  | .row a b, v => ∃ x y, TupV H v [.str "row", x, y] ∧ BldP H a x ∧ BldP H b y
  | .side a b, v => ∃ x y, TupV H v [.str "side", x, y] ∧ BldP H a x ∧ BldP H b y
theorem BldP.mono {H H' : Hp} (e : Ex H H') : ∀ {b : Bld} {v : V}, BldP H b v → BldP H' b v
  | .tie, _, h => h
  | .gap, _, h => h
  | .row _ _, _, ⟨x, y, h1, h2, h3⟩ => ⟨x, y, TupV.mono h1 e, BldP.mono e h2, BldP.mono e h3⟩
  | .side _ _, _, ⟨x, y, h1, h2, h3⟩ => ⟨x, y, TupV.mono h1 e, BldP.mono e h2, BldP.mono e h3⟩
theorem jn_row (c d : Bld) : ∀ r : Bool, decide (V.str (jn r c d).word = V.str "row") = r
  | true => decide_eq_true rfl
  | false => show decide (V.str "side" = V.str "row") = false by decide +kernel
def sepOf (r : Bool) : Str := if r then " + " else " | "
def txt : Bld → Str
  | .tie => "tie"
  | .gap => "gap"
  | .row a b => ("(" : Str) ++ txt a ++ (" + " : Str) ++ txt b ++ (")" : Str)
  | .side a b => ("(" : Str) ++ txt a ++ (" | " : Str) ++ txt b ++ (")" : Str)
theorem txt_len : ∀ b : Bld, (txt b).length + 5 ≤ 8 * b.leaves
  | .tie => by decide +kernel
  | .gap => by decide +kernel
  | .row a b => by
    have h1 := txt_len a
    have h2 := txt_len b
    show (("(" : Str) ++ txt a ++ (" + " : Str) ++ txt b ++ (")" : Str)).length + 5 ≤ 8 * (a.leaves + b.leaves)
    rw [len_app, len_app, len_app, len_app, show ("(" : Str).length = 1 by decide +kernel, show (" + " : Str).length = 3 by decide +kernel, show (")" : Str).length = 1 by decide +kernel]; omega
  | .side a b => by
    have h1 := txt_len a
    have h2 := txt_len b
    show (("(" : Str) ++ txt a ++ (" | " : Str) ++ txt b ++ (")" : Str)).length + 5 ≤ 8 * (a.leaves + b.leaves)
    rw [len_app, len_app, len_app, len_app, show ("(" : Str).length = 1 by decide +kernel, show (" | " : Str).length = 3 by decide +kernel, show (")" : Str).length = 1 by decide +kernel]; omega
theorem BldP.join {H : Hp} {b c : Bld} {r : Bool} {v x y : V} (h : TupV H v [.str (jn r b c).word, x, y]) (h1 : BldP H b x) (h2 : BldP H c y) : BldP H (jn r b c) v := by
  cases r
  · exact ⟨x, y, h, h1, h2⟩
  · exact ⟨x, y, h, h1, h2⟩
section
variable {K : PySem.W.Frag} {σ : L2.St} {H : Hp} {ta tb te : TE} {t : TT} {P : V → Hp → Prop}
def rAddS : R2 := fun x y H Q => ∃ i j, x = .str i ∧ y = .str j ∧ i.length + j.length ≤ sizeLine ∧ Q (.str (i ++ j)) H
theorem ev_addS {a b : Str} (h1 : Ev ta σ H (.str a)) (h2 : Ev tb σ H (.str b)) (hl : a.length + b.length ≤ 100000) : Ev (tOp rAddS ta tb) σ H (.str (a ++ b)) := ev_op h1 h2 fun H1 _ Q q => ⟨a, b, rfl, rfl, sz_of hl, q H1 (Ex.refl _)⟩
theorem op_addS {X : Cx} : OpR X (binaryOp .Add) rAddS := op_add_str
theorem ep_if {c : Bool} (h : EvT t σ H c) (h1 : c = true → EvP ta σ H P) (h2 : c = false → EvP tb σ H P) : EvP (tIf t ta tb) σ H P := fun H1 e Q q => h H1 e _ fun H2 e2 => by
  cases c with
  | true => exact h1 rfl H2 (e.trans e2) Q fun v H3 e3 => q v H3 (e2.trans e3)
  | false => exact h2 rfl H2 (e.trans e2) Q fun v H3 e3 => q v H3 (e2.trans e3)
theorem q_parP {i j : Nat} {tA : TA} {tz : TS} {D : Ends} {PP : List V → Hp → Prop} (h : EvAP tA σ H PP) (k : ∀ vs H1, Ex H H1 → PP vs H1 → ∃ a b, vs = [a, b] ∧ tz D ((σ.set i (some a)).set j (some b)) H1) : tSeq (tPar i j tA) tz D σ H := h H (Ex.refl _) _ fun vs H1 e p => k vs H1 e p
/-- isinstance(x, str) -/
theorem ev_isStr {x : Str} (h : Ev ta σ H (.str x)) : Ev (tCB (rIsi K) (tCons ta (tCons (tC (.ty "str")) tNil))) σ H (.bl true) := ev_isi (t := "str") h (fun H1 _ => .base (.str x)) (by decide +kernel)
theorem ev_isStrT {v : V} {xs : List V} (h : Ev ta σ H v) (hv : TupV H v xs) : Ev (tCB (rIsi K) (tCons ta (tCons (tC (.ty "str")) tNil))) σ H (.bl false) := ev_isi (t := "tuple") h hv.ty (by decide +kernel)
end
section
variable {P : Program} {w : World} {K : PySem.W.Frag} {mg : Str → Option Value} {base : Heap}
/-! ### _law_text -/
abbrev sText : Stmt := top 61
def spText (n : Nat) : Sp := fun vs H Q _ => ∃ (v : V) (b : Bld), vs = [v] ∧ BldP H b v ∧ b.leaves ≤ n ∧ b.leaves ≤ 100 ∧ ∀ H', Ex H H' → Q (.str (txt b)) H'
theorem scText : FnScope ["_law_plain"] ["_law_plain"] (defScope sText) := ⟨rfl, rfl, rfl, by decide +kernel, rfl, by decide +kernel, by decide +kernel⟩
theorem ok_text (B : Free mg) (F : FnG K "_law_text" sText) (hm : mg "_law_text" = some (.ref (He.ga K "_law_text"))) : ∀ n, Pr P w K mg base (1 + n) "_law_text" ["_law_plain"] (spText n)
  | 0 => by
    refine pr_mk (k := 0) F hm scText (fun _ _ _ _ _ _ us hl => match us, hl with | [_], _ => rfl) (fun vs H Q E h => ?_) (fun f cdv A outer s H vs Q E hr h => ?_)
    · obtain ⟨v, b, rfl, _⟩ := h
      rfl
    · obtain ⟨v, b, rfl, _, h0, _⟩ := h
      have := b.pos
      omega
  | n + 1 => by
    have Fs := ok_text B F hm n
    refine pr_mk (k := 1 + n) F hm scText (fun _ _ _ _ _ _ us hl => match us, hl with | [_], _ => rfl) (fun vs H Q E h => ?_) (fun f cdv A outer s H vs Q E hr h => ?_)
    · obtain ⟨v, b, rfl, _⟩ := h
      rfl
    · obtain ⟨v, b, rfl, hb, hn, h100, k⟩ := h
      refine ⟨_, pss_cons (ps_if (pt_val (pe_callB call_isi (by rfl) B.isinstance b_isi (pa_cons (pv 0) (pa_cons (pe_ty B.str b_str) pa_nil)))) (pss_one (ps_ret (pv 0))) pss_nil)
        (pss_one (ps_ret (pe_op op_addS (pe_op op_addS (pe_op op_addS (pe_op op_addS pe_str (pe_g Fs hr (pa_cons (pe_ix ix_seq (pv 0) pe_int (fun _ _ => rfl)) pa_nil)))
          (pe_ifExp (pt_cmpR op_eq (pe_ix ix_seq (pv 0) pe_int (fun _ _ => rfl)) pe_str (nomark _)) pe_str pe_str)) (pe_g Fs hr (pa_cons (pe_ix ix_seq (pv 0) pe_int (fun _ _ => rfl)) pa_nil))) pe_str))), ?_⟩
      have join : ∀ (c d : Bld) (r : Bool) (x y : V), b = jn r c d → TupV H v [.str (jn r c d).word, x, y] → BldP H c x → BldP H d y → ∀ (D : Ends), D.rt = Q → ∀ H1, Ex H H1 →
          tRet (tOp rAddS (tOp rAddS (tOp rAddS (tOp rAddS (tC (.str "(")) (tCall (spText n) [] E0 (tCons (tOp (rIx K) (tVar 0) (tC (.int 1))) tNil)))
            (tIf (tTest (tOp rEq (tOp (rIx K) (tVar 0) (tC (.int 0))) (tC (.str "row")))) (tC (.str " + ")) (tC (.str " | ")))) (tCall (spText n) [] E0 (tCons (tOp (rIx K) (tVar 0) (tC (.int 2))) tNil))) (tC (.str ")"))) D [some v] H1 := fun c d r x y hbj hv hc hd D hD H1 e1 => by
        have hv1 := TupV.mono hv e1
        have hl : c.leaves + d.leaves ≤ n + 1 := by rw [hbj, jn_leaves] at hn; exact hn
        have hl2 : c.leaves + d.leaves ≤ 100 := by rw [hbj, jn_leaves] at h100; exact h100
        have cp := c.pos
        have dp := d.pos
        have tc := txt_len c
        have td := txt_len d
        have call : ∀ {H1 : Hp} {f : Bld} {z : V} {i : Nat}, Ex H H1 → [V.str (jn r c d).word, x, y][i]? = some z → BldP H f z → f.leaves ≤ n → f.leaves ≤ 100 → Ev (tCall (spText n) [] E0 (tCons (tOp (rIx K) (tVar 0) (tC (.int (i : Int)))) tNil)) [some v] H1 (.str (txt f)) := fun {H1 f z i} e hz hf hfl hf2 =>
          ev_call (ea_cons (ev_ix (ev_var rfl) ev_c (TupV.mono hv e).sq hz) ea_nil) fun H4 e4 Q' q' _ => ⟨z, f, rfl, hf.mono (e.trans e4), hfl, hf2, q'⟩
        have sep : Ev (tIf (tTest (tOp rEq (tOp (rIx K) (tVar 0) (tC (.int 0))) (tC (.str "row")))) (tC (.str " + ")) (tC (.str " | "))) [some v] H1 (.str (sepOf r)) := by
          refine ev_if (b := r) (et_test ?_) (fun z => ?_) (fun z => ?_)
          · have := ev_op (r := rEq) (ev_ix (K := K) (i := 0) (σ := [some v]) (ta := tVar 0) (tb := tC (.int ((0 : Nat) : Int))) (ev_var rfl) ev_c hv1.sq rfl) (ev_c (v := .str "row")) rv_eqS
            have e2 : decide (V.str (jn r c d).word = V.str "row") = r := jn_row c d r
            rw [e2] at this
            exact this
          · rw [z]; exact ev_c
          · rw [z]; exact ev_c
        have sl : (sepOf r).length = 3 := by cases r <;> decide +kernel
        have l1 : ("(" : Str).length = 1 := by decide +kernel
        have l2 : (")" : Str).length = 1 := by decide +kernel
        have e1' := ev_addS (ev_addS (ev_addS (ev_addS (ev_c (v := .str "(")) (call (i := 1) e1 rfl hc (by omega) (by omega)) (by omega)) sep (by rw [len_app]; omega)) (call (i := 2) e1 rfl hd (by omega) (by omega)) (by rw [len_app, len_app]; omega)) (ev_c (v := .str ")")) (by rw [len_app, len_app, len_app]; omega)
        have et : ("(" : Str) ++ txt c ++ sepOf r ++ txt d ++ (")" : Str) = txt b := by rw [hbj]; cases r <;> rfl
        rw [et] at e1'
        exact s_ret e1' fun H2 e2 => by rw [hD]; exact k H2 (e1.trans e2)
      cases b with
      | tie =>
        have hb : v = .str "tie" := hb
        subst hb
        exact q_when (b := true) (et_B (ev_isStr (ev_var rfl))) (fun _ H1 e1 => s_ret (ev_var rfl) fun H2 e2 => k H2 (e1.trans e2)) (fun z => by cases z)
      | gap =>
        have hb : v = .str "gap" := hb
        subst hb
        exact q_when (b := true) (et_B (ev_isStr (ev_var rfl))) (fun _ H1 e1 => s_ret (ev_var rfl) fun H2 e2 => k H2 (e1.trans e2)) (fun z => by cases z)
      | row c d =>
        obtain ⟨x, y, h1, h2, h3⟩ := hb
        exact q_when (b := false) (et_B (ev_isStrT (ev_var rfl) h1)) (fun z => by cases z) (fun _ H1 e1 => join c d true x y rfl h1 h2 h3 _ rfl H1 e1)
      | side c d =>
        obtain ⟨x, y, h1, h2, h3⟩ := hb
        exact q_when (b := false) (et_B (ev_isStrT (ev_var rfl) h1)) (fun z => by cases z) (fun _ H1 e1 => join c d false x y rfl h1 h2 h3 _ rfl H1 e1)
/-! ### _law_built -/
/-- the members of Building -/
structure BldM (P : Program) (w : World) (K : PySem.W.Frag) (mg : Str → Option Value) (base : Heap) : Prop where
  cm : ∃ mc, ClX.CRead K (He.ga K "Building") mc ∧ (∃ p g, ClX.CMet K (He.ga K "Building") mc "tie" p g ∧ PrM P w K mg base 3 g ["cls"] (spLeafC K .tie)) ∧ (∃ p g, ClX.CMet K (He.ga K "Building") mc "gap" p g ∧ PrM P w K mg base 3 g ["cls"] (spLeafC K .gap))
  first : PySem.W.selfFirst K (He.ga K "Building") = true
  addS : PySem.W.findIn K (.ref (He.ga K "Building")) "__add__" = some (some (.ref (He.ma K (He.ga K "Building") "__add__")))
  addF : PySem.W.isFn K (.ref (He.ma K (He.ga K "Building") "__add__")) = true
  orS : PySem.W.findIn K (.ref (He.ga K "Building")) "__or__" = some (some (.ref (He.ma K (He.ga K "Building") "__or__")))
  orF : PySem.W.isFn K (.ref (He.ma K (He.ga K "Building") "__or__")) = true
abbrev sBuilt : Stmt := top 62
def spBuilt (K : PySem.W.Frag) (n : Nat) : Sp := fun vs H Q _ => ∃ (v : V) (b : Bld), vs = [v] ∧ BldP H b v ∧ b.leaves ≤ n ∧ b.leaves ≤ 60 ∧ ∀ u H', Ex H H' → BldAt K H' b u → Q u H'
theorem scBuilt : FnScope ["_law_plain", "_law_one", "_law_other"] ["_law_plain"] (defScope sBuilt) := ⟨rfl, rfl, rfl, by decide +kernel, rfl, by decide +kernel, by decide +kernel⟩
theorem ok_built (B : Free mg) (BC : BldC K mg) (BM : BldM P w K mg base) (Fa : PrM P w K mg base 4 (He.ma K (He.ga K "Building") "__add__") ["self", "other"] (spBin K true)) (Fo : PrM P w K mg base 4 (He.ma K (He.ga K "Building") "__or__") ["self", "other"] (spBin K false))
    (F : FnG K "_law_built" sBuilt) (hm : mg "_law_built" = some (.ref (He.ga K "_law_built"))) : ∀ n, Pr P w K mg base (4 + n) "_law_built" ["_law_plain"] (spBuilt K n)
  | 0 => by
    refine pr_mk (k := 3) F hm scBuilt (fun _ _ _ _ _ _ us hl => match us, hl with | [_], _ => rfl) (fun vs H Q E h => ?_) (fun f cdv A outer s H vs Q E hr h => ?_)
    · obtain ⟨v, b, rfl, _⟩ := h
      rfl
    · obtain ⟨v, b, rfl, _, h0, _⟩ := h
      have := b.pos
      omega
  | n + 1 => by
    have Fs := ok_built B BC BM Fa Fo F hm n
    obtain ⟨mc, rd, ⟨p1, g1, C1, F1⟩, ⟨p2, g2, C2, F2⟩⟩ := BM.cm
    refine pr_mk (k := 4 + n) F hm scBuilt (fun _ _ _ _ _ _ us hl => match us, hl with | [_], _ => rfl) (fun vs H Q E h => ?_) (fun f cdv A outer s H vs Q E hr h => ?_)
    · obtain ⟨v, b, rfl, _⟩ := h
      rfl
    · obtain ⟨v, b, rfl, hb, hn, h60, k⟩ := h
      have hr3 := hr.mono (show 3 ≤ 4 + n by omega)
      have hr4 := hr.mono (show 4 ≤ 4 + n by omega)
      refine ⟨_, pss_cons (ps_if (pt_val (pe_callB call_isi (by rfl) B.isinstance b_isi (pa_cons (pv 0) (pa_cons (pe_ty B.str b_str) pa_nil)))) (pss_one (ps_ret (pe_ifExp (pt_cmpR op_eq (pv 0) pe_str (nomark _))
            (pe_cmeth0 (pe_glob (v := .ref (He.ga K "Building")) (by rfl) BC.glo rfl) rd C1 F1.raw hr3) (pe_cmeth0 (pe_glob (v := .ref (He.ga K "Building")) (by rfl) BC.glo rfl) rd C2 F2.raw hr3)))) pss_nil)
        (pss_cons (ps_par (i := 1) (j := 2) rfl scBuilt.nd rfl rfl (by decide) rfl rfl (pa_cons (pe_g Fs hr (pa_cons (pe_ix ix_seq (pv 0) pe_int (fun _ _ => rfl)) pa_nil)) (pa_cons (pe_g Fs hr (pa_cons (pe_ix ix_seq (pv 0) pe_int (fun _ _ => rfl)) pa_nil)) pa_nil)) rfl)
        (pss_one (ps_ret (pe_ifExp (pt_cmpR op_eq (pe_ix ix_seq (pv 0) pe_int (fun _ _ => rfl)) pe_str (nomark _)) (pe_op (op_binOwn BM.first BM.addS BM.addF Fa.raw hr4 pass0) (pv 1) (pv 2)) (pe_op (op_binOwn BM.first BM.orS BM.orF Fo.raw hr4 pass0) (pv 1) (pv 2)))))), ?_⟩
      have join : ∀ (c d : Bld) (r : Bool) (x y : V), b = jn r c d → TupV H v [.str (jn r c d).word, x, y] → BldP H c x → BldP H d y → ∀ (D : Ends), D.rt = Q → ∀ H1, Ex H H1 →
          tSeq (tPar 1 2 (tCons (tCall (spBuilt K n) [] E0 (tCons (tOp (rIx K) (tVar 0) (tC (.int 1))) tNil)) (tCons (tCall (spBuilt K n) [] E0 (tCons (tOp (rIx K) (tVar 0) (tC (.int 2))) tNil)) tNil)))
            (tRet (tIf (tTest (tOp rEq (tOp (rIx K) (tVar 0) (tC (.int 0))) (tC (.str "row")))) (tOp (rBinOwn (He.ga K "Building") (spBin K true) E0) (tVar 1) (tVar 2)) (tOp (rBinOwn (He.ga K "Building") (spBin K false) E0) (tVar 1) (tVar 2)))) D [some v, none, none] H1 := fun c d r x y hbj hv hc hd D hD H1 e1 => by
        have hl : c.leaves + d.leaves ≤ n + 1 := by rw [hbj, jn_leaves] at hn; exact hn
        have hl2 : c.leaves + d.leaves ≤ 60 := by rw [hbj, jn_leaves] at h60; exact h60
        have cp := c.pos
        have dp := d.pos
        have call : ∀ {H1 : Hp} {f : Bld} {z : V} {i : Nat}, Ex H H1 → [V.str (jn r c d).word, x, y][i]? = some z → BldP H f z → f.leaves ≤ n → f.leaves ≤ 60 → EvP (tCall (spBuilt K n) [] E0 (tCons (tOp (rIx K) (tVar 0) (tC (.int (i : Int)))) tNil)) [some v, none, none] H1 (fun u H' => BldAt K H' f u) := fun {H1 f z i} e hz hf hfl hf2 =>
          ep_call (ea_cons (ev_ix (ta := tVar 0) (ev_var rfl) ev_c (TupV.mono hv e).sq hz) ea_nil) fun H4 e4 Q' q' => ⟨z, f, rfl, hf.mono (e.trans e4), hfl, hf2, fun u H5 e5 hu => q' u H5 e5 hu⟩
        refine q_parP (PP := fun vs H' => ∃ a b, vs = [a, b] ∧ BldAt K H' c a ∧ BldAt K H' d b) (eap_cons (call (i := 1) e1 rfl hc (by omega) (by omega)) fun u1 H2 e2 h1 => eap_cons (call (i := 2) (e1.trans e2) rfl hd (by omega) (by omega)) fun u2 H3 e3 h2 => fun H4 e4 Q4 q4 => q4 [] H4 (Ex.refl _) ⟨u1, u2, rfl, h1.mono (e3.trans e4), h2.mono e4⟩) fun vs H2 e2 ⟨ua, ub, hvs, ha, hb'⟩ => ⟨ua, ub, hvs, ?_⟩
        show tRet _ _ [some v, some ua, some ub] _
        have e12 := e1.trans e2
        have op2 : ∀ {H3 : Hp}, Ex H2 H3 → ∀ r0 : Bool, r0 = r → EvP (tOp (rBinOwn (He.ga K "Building") (spBin K r0) E0) (tVar 1) (tVar 2)) [some v, some ua, some ub] H3 (fun u H' => BldAt K H' b u) := fun {H3} e r0 hr0 => by
          subst hr0
          obtain ⟨pa, xa, dxa, lva, mna, txa, lsa, rfl, a1, a2, _⟩ := ha.obj
          obtain ⟨pb, xb, dxb, lvb, mnb, txb, lsb, rfl, b1, b2, _⟩ := hb'.obj
          intro H4 e4 Q4 q4
          refine ev_var (v := .ref xa) rfl H4 e4 _ fun H5 e5 => ev_var (v := .ref xb) rfl H5 (e4.trans e5) _ fun H6 e6 => ?_
          have e26 : Ex H2 H6 := e.trans (e4.trans (e5.trans e6))
          exact ⟨xa, dxa, _, xb, dxb, _, rfl, rfl, .inr ⟨e26 _ _ a1, e26 _ _ a2⟩, .inr ⟨e26 _ _ b1, e26 _ _ b2⟩, .ref xa, .ref xb, c, d, rfl, ha.mono e26, hb'.mono e26, hl2, fun u H7 e7 hu => q4 u H7 (e5.trans (e6.trans e7)) (by rw [hbj]; exact hu)⟩
        refine s_retP (P := fun u H' => BldAt K H' b u) (ep_if (c := r) (et_test ?_) (fun z => op2 (Ex.refl _) true z.symm) (fun z => op2 (Ex.refl _) false z.symm)) fun u H3 e3 hu => by rw [hD]; exact k u H3 (e12.trans e3) hu
        have := ev_op (r := rEq) (ev_ix (K := K) (i := 0) (σ := [some v, some ua, some ub]) (ta := tVar 0) (tb := tC (.int ((0 : Nat) : Int))) (ev_var rfl) ev_c (TupV.mono hv e12).sq rfl) (ev_c (v := .str "row")) rv_eqS
        have e2' : decide (V.str (jn r c d).word = V.str "row") = r := jn_row c d r
        rw [e2'] at this
        exact this
      have leaf : ∀ {H1 : Hp} {c : Bld} {sp : Sp}, Ex H H1 → sp = spLeafC K c → EvP (ClX.tCMeth (He.ga K "Building") sp E0 (tC (.ref (He.ga K "Building"))) tNil) [some v, none, none] H1 (fun u H' => BldAt K H' c u) := fun {H1 c sp} e hs => by
        subst hs
        exact fun H2 e2 Q2 q2 => ⟨rfl, rfl, fun u H3 e3 hu => q2 u H3 e3 hu⟩
      cases b with
      | tie =>
        have hb : v = .str "tie" := hb
        subst hb
        exact q_when (b := true) (et_B (ev_isStr (ev_var rfl))) (fun _ H1 e1 => s_retP (P := fun u H' => BldAt K H' .tie u) (ep_if (c := true) (et_test (by have := ev_op (r := rEq) (ev_var (i := 0) (σ := [some (.str "tie"), none, none]) (H := H1) rfl) (ev_c (v := .str "tie")) rv_eqS; rwa [decide_eq_true rfl] at this)) (fun _ => leaf e1 rfl) (fun z => by cases z)) fun u H2 e2 hu => k u H2 (e1.trans e2) hu) (fun z => by cases z)
      | gap =>
        have hb : v = .str "gap" := hb
        subst hb
        exact q_when (b := true) (et_B (ev_isStr (ev_var rfl))) (fun _ H1 e1 => s_retP (P := fun u H' => BldAt K H' .gap u) (ep_if (c := false) (et_test (by have := ev_op (r := rEq) (ev_var (i := 0) (σ := [some (.str "gap"), none, none]) (H := H1) rfl) (ev_c (v := .str "tie")) rv_eqS; rwa [show decide (V.str "gap" = V.str "tie") = false by decide +kernel] at this)) (fun z => by cases z) (fun _ => leaf e1 rfl)) fun u H2 e2 hu => k u H2 (e1.trans e2) hu) (fun z => by cases z)
      | row c d =>
        obtain ⟨x, y, h1, h2, h3⟩ := hb
        exact q_when (b := false) (et_B (ev_isStrT (ev_var rfl) h1)) (fun z => by cases z) (fun _ H1 e1 => join c d true x y rfl h1 h2 h3 _ rfl H1 e1)
      | side c d =>
        obtain ⟨x, y, h1, h2, h3⟩ := hb
        exact q_when (b := false) (et_B (ev_isStrT (ev_var rfl) h1)) (fun z => by cases z) (fun _ H1 e1 => join c d false x y rfl h1 h2 h3 _ rfl H1 e1)
end
end K46
set_option Elab.async false
set_option linter.all false
set_option autoImplicit false
set_option maxRecDepth 100000
/-! K46R13: sorted(xs, key=f), f a def of the program that answers texts. -/
namespace K46
open PySem PySem.Spec PyProof.Rows L2 Evl
set_option maxHeartbeats 4000000
section
variable {X : Cx}
theorem perm_vals : ∀ {us vs : List Value}, us.Perm vs → ∀ {xs : List V}, Vals xs vs → ∃ ys : List V, ys.Perm xs ∧ Vals ys us := fun {us vs} p => by
  induction p with
  | nil => intro xs r; exact ⟨xs, List.Perm.refl _, r⟩
  | cons a _ ih =>
    intro xs r
    cases r with
    | cons r rs =>
      obtain ⟨ys, p, q⟩ := ih rs
      exact ⟨_ :: ys, p.cons _, .cons r q⟩
  | swap a b l =>
    intro xs r
    cases r with
    | cons r rs =>
      cases rs with
      | cons r2 rs => exact ⟨_ :: _ :: _, List.Perm.swap _ _ _, .cons r2 (.cons r rs)⟩
  | trans _ _ ih1 ih2 =>
    intro xs r
    obtain ⟨ys, p1, q1⟩ := ih2 r
    obtain ⟨zs, p2, q2⟩ := ih1 q1
    exact ⟨zs, p2.trans p1, q2⟩
theorem sorted_perm {κ : PyProof.Rows.KeyKind} {ks vs : List Value} (h : ks.length = vs.length) : (PySem.W.sortVals κ false ks vs).Perm vs := by
  unfold PySem.W.sortVals
  refine ((List.mergeSort_perm _ _).map Prod.snd).trans ?_
  rw [List.map_snd_zip (Nat.le_of_eq h.symm)]
/-- sorted(xs, key=g) -/
def rSortedBy (K : PySem.W.Frag) (g : Addr) (sp : Sp) : List V → List V → Hp → VK → Prop := fun vs zs H Q => ∃ (a : Addr) (xs : List V) (T : V → Str), vs = [V.ref a] ∧ zs = [V.ref g] ∧ SqL K H a xs ∧
  (∀ x ∈ xs, ∀ H1, Ex H H1 → ∀ Q1 : VK, (∀ H2, Ex H1 H2 → Q1 (.str (T x)) H2) → sp [x] H1 Q1 E0) ∧ ∀ H' p ys, Ex H H' → H p = none → ys.Perm xs → H' p = some (.lst ys) → Q (.ref p) H'
/-- one call of the key -/
theorem key_turn {x : Str} {k : Nat} {p1 : Str} {sp : Sp} {pins : List (Addr × Obj)} {s : Shared} {σ : L2.St} {H : Hp} {z : V} {u : Value} {t : Str} (F : Pr X.prog X.w X.K X.mg X.base k x [p1] sp) (hr : Room k X.A.in1.in1) (I : Inv X pins σ H s) (ru : RelV z u)
    (hs : ∀ Q1 : VK, (∀ H2, Ex H H2 → Q1 (.str t) H2) → sp [z] H Q1 E0) :
    wpAny (model X.prog X.w) X.A.in1.in1 (call (.ref (He.ga X.K x)) [u]) (fun r s' => ∃ tk H', r = .str t tk ∧ Ex H H' ∧ Inv X pins σ H' s') (fun _ _ => False) s := by
  obtain ⟨fd, F1, F2, F3, F4⟩ := F
  have prom := hs (fun r H2 => r = .str t ∧ Ex H H2) fun H2 e2 => ⟨rfl, e2⟩
  have bnd := F2 s [u] I.kIn rfl
  rw [List.append_nil] at bnd
  refine wpAny_call (codeAny_mono (F1.run X.A.in1.in1 X.stack s H ⟨[u], []⟩ [u] [z] _ E0 hr I.env0.in1.in1 bnd (.cons ru .nil) prom) ?_)
  intro r s' end_
  cases r with
  | error e => exact (show False from end_).elim
  | ok fl =>
    cases fl with
    | ret w =>
      obtain ⟨v, H', I', rv, ev, ex⟩ := I.after end_
      subst ev
      obtain ⟨tk, hw⟩ := (show ∃ tk, w = Value.str t tk from rv)
      exact ⟨tk, H', hw, ex, I'⟩
    | next => exact (show False from end_).elim
    | brk => exact (show False from end_).elim
    | cont => exact (show False from end_).elim
/-- the keys so far -/
def KeyS (X : Cx) (pins : List (Addr × Obj)) (σ : L2.St) (H : Hp) (S kS : Addr) (e1 : Nat) (ts : List Str) (s' : Shared) : Prop :=
  ∃ (H' : Hp) (kA : Array Value) (e : Nat), Inv X pins σ H' s' ∧ Ex H H' ∧ FpOk X pins H' S ∧ FpOk X pins H' kS ∧ s'.heap.get? kS = some (seqObj "list" kA e) ∧ s'.heap.get? S = some (seqObj "list" #[] e1) ∧ PySem.W.EachIs (fun v (t : Str) => ∃ tk, v = Value.str t tk) kA.toList ts
theorem fp_again {pins : List (Addr × Obj)} {H H' : Hp} {b : Addr} (f : FpOk X pins H b) (hn : H' b = none) : FpOk X pins H' b := ⟨hn, f.2⟩
theorem not_cell {xs : Array Value} {n : Nat} : ∀ v, (seqObj "list" xs n).data ≠ .cell v := fun v z => nomatch z
theorem each_end {α β : Type} {R : α → β → Prop} {a : α} {b : β} (h : R a b) : ∀ {as : List α} {bs : List β}, PySem.W.EachIs R as bs → PySem.W.EachIs R (as ++ [a]) (bs ++ [b])
  | _, _, .nil => .cons h .nil
  | _, _, .cons h1 r => .cons h1 (each_end h r)
theorem alike_strs (l : List Str) : PySem.W.AllAlike (l.map PyData.str) := fun d hd d' hd' => by
  obtain ⟨a, _, rfl⟩ := List.mem_map.mp hd
  obtain ⟨b, _, rfl⟩ := List.mem_map.mp hd'
  unfold PySem.W.alike
  rfl
theorem sortable_strs (l : List Str) : PySem.W.Sortable (l.map PyData.str) := .inr fun d hd => by
  obtain ⟨a, _, rfl⟩ := List.mem_map.mp hd
  exact ⟨(fun z => nomatch z), (fun xs z => nomatch z)⟩
theorem each_strs {h : Heap} : ∀ {vs : List Value} {l : List Str}, PySem.W.EachIs (fun v (t : Str) => ∃ tk, v = Value.str t tk) vs l → PySem.W.EachIs (fun v d => ∃ as, Reads h v d as) vs (l.map PyData.str)
  | _, _, .nil => .nil
  | _, _, .cons ⟨tk, e⟩ r => by
    rw [List.map_cons]
    exact .cons ⟨[], by rw [e]; exact .str _ _⟩ (each_strs r)
theorem SortsAtS {A : Around} {s : Shared} {vs : List Value} {l : List Str} (e : PySem.W.EachIs (fun v (t : Str) => ∃ tk, v = Value.str t tk) vs l) (hu : A.units < cLine) : PySem.W.SortsAt X.prog X.w A s (PySem.W.dataKind s.heap (l.map PyData.str)) vs :=
  PySem.W.SortsAt.data (each_strs e) (alike_strs l) (sortable_strs l) fun d hd => by
    obtain ⟨a, _, rfl⟩ := List.mem_map.mp hd
    show A.units + 0 < cLine
    omega
theorem cr_sortedBy {x : Str} {k : Nat} {p1 : Str} {sp : Sp} (F : Pr X.prog X.w X.K X.mg X.base k x [p1] sp) (hr : Room (k + 2) X.A) : CallRK X (.builtin "sorted") [Str.ofString "key"] (rSortedBy X.K (He.ga X.K x) sp) := by
  intro pins s σ H vs zs us ws Q I r rz h
  obtain ⟨a, xs, T, rfl, rfl, hs, hT, q⟩ := h
  obtain rfl := Vals.ref1 r
  obtain rfl := Vals.ref1 rz
  obtain ⟨its, rv, plain, hz⟩ := I.list hs
  have lenV : its.length = xs.length := rv.length.symm
  have room : Room k X.A.in1.in1 := hr.in1.in1
  have units : X.A.units + 200 < cLine := by have := hr.un; omega
  refine PySem.W.sorted_of_sort plain.isList (by rw [lenV]; exact hz) (PyProof.Rows.ksk_s1 _ _) (fun _ => PyProof.Rows.ksk_l1 _ _) fun E' => ?_
  have tree : Builtin.«list.sort» ⟨[.ref (s.heap.objs.size + 1)], [(Str.ofString "key", Value.ref (He.ga X.K x))]⟩ = PyProof.Rows.ksk_tree (s.heap.objs.size + 1) (.ref (He.ga X.K x)) false := rfl
  show wpAny _ _ (Builtin.«list.sort» ⟨[.ref (s.heap.objs.size + 1)], [(Str.ofString "key", Value.ref (He.ga X.K x))]⟩) _ _ _
  rw [tree]
  generalize hS : s.heap.objs.size + 1 = S
  have ho : (PySem.W.copyHeap s.heap its).get? S = some (seqObj "list" its.toArray 0) := by rw [← hS]; exact PySem.W.copyHeap_at _ _
  have old0 : ∀ b o, s.heap.get? b = some o → (PySem.W.copyHeap s.heap its).get? b = some o := fun b o z => PySem.W.copyHeap_old z
  have ltS : ∀ b o, s.heap.get? b = some o → b ≠ S := fun b o z => by rw [← hS]; exact Nat.ne_of_lt (Nat.lt_succ_of_lt (Heap.lt_size z))
  have hSn : H S = none := I.hok.fresh (by rw [← hS]; exact Nat.le_succ _)
  have fpS : FpOk X pins H S := I.fpOk (by rw [← hS]; exact Nat.le_succ _) hSn
  generalize PySem.W.copyHeap s.heap its = h0 at ho old0
  obtain ⟨e1, ho1⟩ : ∃ e1, (h0.update S (Obj.mapSeq fun _ => (#[] : Array Value))).get? S = some (seqObj "list" #[] e1) := ⟨_, get?_update_seq ho fun _ => #[]⟩
  have old1 : ∀ b o, s.heap.get? b = some o → (h0.update S (Obj.mapSeq fun _ => (#[] : Array Value))).get? b = some o := fun b o z => ((Heap.SameBut.update h0 S _).2 b (ltS b o z)).trans (old0 b o z)
  unfold PyProof.Rows.ksk_tree
  refine wpAny_bind (listItems_at ho rfl (wpAny_bind (listUpdate_at ho rfl ?_ (by rw [List.size_toArray, lenV]; exact hz) (Nat.zero_le _))))
  show wpAny _ _ _ _ _ { s with heap := h0.update S (Obj.mapSeq fun _ => (#[] : Array Value)) }
  generalize h0.update S (Obj.mapSeq fun _ => (#[] : Array Value)) = h1 at ho1 old1
  refine wpAny_bind (seqEpoch_at ho1 rfl (wpAny_bind (wpAny_newTuple (wpAny_bind (wpAny_newList (wpAny_holding ?_) (Nat.zero_le _))) (by show its.length ≤ _; rw [lenV]; exact hz))))
  show wpAny _ _ (PyProof.Rows.ksk_rest S (.ref (He.ga X.K x)) false its.toArray e1 (.ref (h1.push (seqObj "tuple" its.toArray 0)).objs.size)) _ _ { s with heap := (h1.push (seqObj "tuple" its.toArray 0)).push (seqObj "list" #[] 0) }
  have sz2 : (h1.push (seqObj "tuple" its.toArray 0)).objs.size = h1.objs.size + 1 := size_push' _ _
  generalize hk : (h1.push (seqObj "tuple" its.toArray 0)).objs.size = kS
  have kSnone : h1.get? kS = none := Heap.get?_none_of_le (by omega)
  have kSk : ((h1.push (seqObj "tuple" its.toArray 0)).push (seqObj "list" #[] 0)).get? kS = some (seqObj "list" #[] 0) := by rw [← hk]; exact Heap.get?_push_size _ rfl
  have kSS : ((h1.push (seqObj "tuple" its.toArray 0)).push (seqObj "list" #[] 0)).get? S = some (seqObj "list" #[] e1) := Heap.get?_push_of_some _ (Heap.get?_push_of_some _ ho1)
  have old2 : ∀ b o, s.heap.get? b = some o → ((h1.push (seqObj "tuple" its.toArray 0)).push (seqObj "list" #[] 0)).get? b = some o := fun b o z => Heap.get?_push_of_some _ (Heap.get?_push_of_some _ (old1 b o z))
  have lt1 : S < h1.objs.size := Heap.lt_size ho1
  have hSk : S ≠ kS := by omega
  have ge : s.heap.objs.size ≤ kS := by omega
  have hkn : H kS = none := I.hok.fresh ge
  have fpK : FpOk X pins H kS := I.fpOk ge hkn
  generalize (h1.push (seqObj "tuple" its.toArray 0)).push (seqObj "list" #[] 0) = h2 at kSk kSS old2
  unfold PyProof.Rows.ksk_rest
  refine wpAny_bind (wpAny_rule ?_)
  rw [← Array.forIn_toList]
  simp only [List.toList_toArray]
  refine wpAny_bind (PyProof.Rows.ksk_fold (fun i s' => KeyS X pins σ H S kS e1 ((xs.map T).take i) s') its 0 { s with heap := h2 } ⟨H, #[], 0, I.kept old2, Ex.refl _, fpS, fpK, kSk, kSS, by rw [List.take_zero]; exact .nil⟩ ?_ ?_)
  · rintro j v s' hv ⟨H', kA, e, I', ex, f1, f2, g1, g2, each⟩
    rw [Nat.zero_add] at each ⊢
    have hj : j < xs.length := by rw [← lenV]; exact (List.getElem?_eq_some_iff.mp hv).1
    have hx : xs[j]? = some xs[j] := List.getElem?_eq_getElem hj
    obtain ⟨u, hu, ru⟩ := rv.get hx
    rw [hv] at hu
    cases hu
    have lk : kA.size ≤ xs.length := by
      have := each.length
      rw [Array.length_toList, List.length_take, List.length_map] at this
      omega
    have Ip : Inv X ((kS, seqObj "list" kA e) :: (S, seqObj "list" #[] e1) :: pins) σ H' s' := I'.pins_of fun p hp => by
      rcases List.mem_cons.mp hp with rfl | hp
      · exact ⟨g1, f2.1, f2.2.1, f2.2.2.1, not_cell⟩
      · rcases List.mem_cons.mp hp with rfl | hp
        · exact ⟨g2, f1.1, f1.2.1, f1.2.2.1, not_cell⟩
        · exact I'.pin p (List.mem_append_right _ hp)
    refine wpAny_bind (wpAny_attempt (wpAny_mono (key_turn (t := T xs[j]) F room Ip ru (hT _ (List.getElem_mem hj) H' ex)) ?_ fun _ _ z => z.elim))
    rintro r s2 ⟨tk, H2, rfl, ex2, I2⟩
    have y1 : s2.heap.get? kS = some (seqObj "list" kA e) := (I2.pin (kS, seqObj "list" kA e) (List.mem_append_right _ List.mem_cons_self)).1
    have y2 : s2.heap.get? S = some (seqObj "list" #[] e1) := (I2.pin (S, seqObj "list" #[] e1) (List.mem_append_right _ (List.mem_cons_of_mem _ List.mem_cons_self))).1
    have z1 : H2 kS = none := (I2.pin (kS, seqObj "list" kA e) (List.mem_append_right _ List.mem_cons_self)).2.1
    have z2 : H2 S = none := (I2.pin (S, seqObj "list" #[] e1) (List.mem_append_right _ (List.mem_cons_of_mem _ List.mem_cons_self))).2.1
    have I3 : Inv X pins σ H2 s2 := I2.pins_of fun p hp => I2.pin p (List.mem_append_right _ (List.mem_cons_of_mem _ (List.mem_cons_of_mem _ hp)))
    have same := Heap.SameBut.update s2.heap kS (Obj.mapSeq (·.push (Value.str (T xs[j]) tk)))
    have f2' : FpOk X pins H2 kS := fp_again f2 z1
    refine wpAny_bind (listUpdate_at y1 rfl (wpAny_pure ⟨rfl, H2, kA.push (Value.str (T xs[j]) tk), _, I3.turnedL (t' := s2.toks) (ch := [kS]) (fun b o hb z => (same.2 b fun q => hb (by rw [q]; exact List.mem_cons_self)).trans z) (fun b hb => by rw [List.mem_singleton.mp hb]; exact f2'),
      ex.trans ex2, fp_again f1 z2, f2', get?_update_seq y1 (·.push (Value.str (T xs[j]) tk)), (same.2 S hSk).trans y2, ?_⟩) (Nat.le_trans lk hz) (Nat.le_trans (Nat.le_of_eq (Array.size_push ..)) (Nat.succ_le_succ (Nat.le_trans lk hz))))
    have ea : (kA.push (Value.str (T xs[j]) tk)).toList = kA.toList ++ [Value.str (T xs[j]) tk] := by simp
    have et : (xs.map T).take (j + 1) = (xs.map T).take j ++ [T xs[j]] := by rw [List.take_add_one, List.getElem?_map, hx]; rfl
    rw [ea, et]
    exact each_end ⟨tk, rfl⟩ each
  · rintro s' ⟨H', kA, e, I', ex, f1, f2, g1, g2, each⟩
    rw [Nat.zero_add, List.take_of_length_le (by rw [List.length_map, lenV]; exact Nat.le_refl _)] at each
    have lk : kA.size = xs.length := by
      have := each.length
      rw [Array.length_toList, List.length_map] at this
      exact this
    have hide : (hidT s'.heap fun b => if b = kS then some (.lst []) else none).get? kS = none := by
      cases z : (hidT s'.heap fun b => if b = kS then some (HO.lst []) else none).get? kS with
      | none => rfl
      | some o =>
        have z1 := (of_hidT z).2
        rw [if_pos rfl] at z1
        cases z1
    have at_ := SortsAtS (X := X) (A := X.A.in1.in1) (s := s') each (by show X.A.units + 1 + 1 < cLine; omega)
    refine wpAny_bind (listItems_at g1 rfl (PySem.W.keyH_end (h₁ := hidT s'.heap fun b => if b = kS then some (.lst []) else none) (fun b o hb z => (of_hidT z).1) hide g1 g2 (Ne.symm hSk) at_ (by rw [lk, lenV]) (by rw [lenV]; exact hz) ?_))
    intro h' tk c kp hS'
    refine ⟨rfl, ?_⟩
    obtain ⟨ys, py, vy⟩ := perm_vals (sorted_perm (κ := PySem.W.dataKind s'.heap ((xs.map T).map PyData.str)) (ks := kA.toList) (vs := its) (by rw [Array.length_toList, lk, lenV])) rv
    have I4 : Inv X pins σ H' { s' with heap := h', toks := tk } := I'.turnedL (ch := [S, kS]) (fun b o hb z => kp b o (fun q => hb (by rw [q]; exact List.mem_cons_self)) (hidT_get z (if_neg fun q => hb (by rw [q]; exact List.mem_cons_of_mem _ List.mem_cons_self)))) fun b hb => by
      rcases List.mem_cons.mp hb with rfl | hb
      · exact f1
      · rw [List.mem_singleton.mp hb]; exact f2
    have I5 : Inv X pins σ (upd H' S (.lst ys)) { s' with heap := h', toks := tk } := I4.take (h' := h') (t' := tk) (it := S) (o := .lst ys) (fun _ _ _ z => z) f1 ⟨by rw [py.length_eq]; exact hz, _, c, vy, hS'⟩
    exact ⟨.ref S, upd H' S (.lst ys), I5, rfl, q _ S ys (ex.mut hSn) hSn py upd_same⟩
end
end K46
set_option Elab.async false
set_option linter.all false
set_option autoImplicit false
set_option maxRecDepth 100000
namespace K46
open PySem PySem.Spec PyProof.Rows L2 Evl
set_option maxHeartbeats 4000000
section
variable {K : PySem.W.Frag} {σ : L2.St} {H : Hp} {ta tb te tl : TE} {D : Ends} {tu tz : TS} {g : TG} {M : List Addr}
/-- a list that stands, walked while M changes -/
theorem overM_at {xs : List V} {a : Addr} (ha : H a = some (.lst xs)) (hm : a ∉ M) : OverM (iList K (tC (.ref a))) σ H M xs.length (YAt xs) := fun R k =>
  ⟨a, rfl, ⟨xs, sq_of ha⟩, k _ _ _ (Ex.refl _) walk_list fun H3 e3 => sq_of (e3 a _ hm ha)⟩
/-- for x in f(..) -/
theorem s_forLP {P : Addr → List V → Hp → Prop} (h : EvP tl σ H (fun u H' => ∃ a xs, u = .ref a ∧ H' a = some (.lst xs) ∧ P a xs H')) (k : ∀ a xs H1, Ex H H1 → H1 a = some (.lst xs) → P a xs H1 → tFor (iList K (tC (.ref a))) g tu D σ H1) : tFor (iList K tl) g tu D σ H :=
  h H (Ex.refl _) _ fun u H1 e1 ⟨a, xs, hu, ha, hp⟩ => by subst hu; exact k a xs H1 e1 ha hp
theorem overM_rng2 {tA : TA} {lo hi : Int} {n : Nat} (h : EvA tA σ H [.int lo, .int hi]) (hn : (hi - lo).toNat = n) (h1 : -1000000 ≤ lo ∧ lo ≤ 1000000) (h2 : -1000000 ≤ hi ∧ hi ≤ 1000000) : OverM (iRng2 tA) σ H M n (YFn fun i => .int (lo + (i : Int))) := fun R k =>
  h H (Ex.refl _) _ fun H2 e2 => ⟨lo, hi, rfl, ⟨by omega, by omega, by omega, by omega⟩, by rw [hn]; exact k _ H2 (fun _ => True) e2 walk_range fun _ _ => trivial⟩
/-- xs.extend(ys), ys a new list of what is made on the way -/
theorem s_extP {l : Addr} {xs : List V} {P : List V → Hp → Prop} (hl : H l = some (.lst xs)) (ha : Ev ta σ H (.ref l)) (h : EvP te σ H (fun u H' => ∃ p ys, u = .ref p ∧ H' p = some (.lst ys) ∧ P ys H')) (hz : ∀ ys H1, P ys H1 → xs.length + ys.length ≤ 100000) (k : ∀ ys H1, Ex H H1 → P ys H1 → D.nx σ (upd H1 l (.lst (xs ++ ys)))) :
    tDrop (tBM K "list" rExtend ta (tCons te tNil)) D σ H := ha H (Ex.refl H) _ fun H1 e1 =>
  ⟨Or.inl ⟨rfl, xs, sq_of (e1 l _ hl)⟩, h H1 e1 _ fun u H2 e2 ⟨p, ys, hu, h2, hp⟩ => ⟨l, p, xs, ys, rfl, by rw [hu], e2 l _ (e1 l _ hl), h2, sz_of (hz ys H2 hp), k ys H2 (e1.trans e2) hp⟩⟩
end
theorem TupV.updL {H : Hp} {d : Addr} {v : V} {xs : List V} {y z : HO} (h : TupV H v xs) (hd : H d = some y) (hy : ∀ xs, y ≠ .tup xs) : TupV (upd H d z) v xs := TupV.updD h hd hy
theorem BldP.updL {H : Hp} {d : Addr} {y z : HO} (hd : H d = some y) (hy : ∀ xs, y ≠ .tup xs) : ∀ {b : Bld} {v : V}, BldP H b v → BldP (upd H d z) b v
  | .tie, _, h => h
  | .gap, _, h => h
  | .row _ _, _, ⟨x, y, h1, h2, h3⟩ => ⟨x, y, TupV.updL h1 hd hy, BldP.updL hd hy h2, BldP.updL hd hy h3⟩
  | .side _ _, _, ⟨x, y, h1, h2, h3⟩ => ⟨x, y, TupV.updL h1 hd hy, BldP.updL hd hy h2, BldP.updL hd hy h3⟩
def Blds (H : Hp) (m : Nat) (ys : List V) : Prop := ∀ y ∈ ys, ∃ b, BldP H b y ∧ b.leaves = m
theorem Blds.mono {H H' : Hp} {m : Nat} {ys : List V} (h : Blds H m ys) (e : Ex H H') : Blds H' m ys := fun y hy => by
  obtain ⟨b, h1, h2⟩ := h y hy
  exact ⟨b, h1.mono e, h2⟩
theorem Blds.updL {H : Hp} {m : Nat} {ys : List V} {d : Addr} {y z : HO} (h : Blds H m ys) (hd : H d = some y) (hy : ∀ xs, y ≠ .tup xs) : Blds (upd H d z) m ys := fun x hx => by
  obtain ⟨b, h1, h2⟩ := h x hx
  exact ⟨b, BldP.updL hd hy h1, h2⟩
theorem Blds.app {H : Hp} {m : Nat} {xs ys : List V} (h : Blds H m xs) (k : Blds H m ys) : Blds H m (xs ++ ys) := fun x hx => by
  rcases List.mem_append.mp hx with hx | hx
  · exact h x hx
  · exact k x hx
/-- how many there are at most -/
def capB : Nat → Nat
  | 1 => 2
  | 2 => 8
  | _ => 256
def capT : Nat → Nat
  | 2 => 8
  | _ => 128
theorem cap_ok : ∀ m c, c < m → 1 ≤ c → m ≤ 3 → capB c * (2 * capB (m - c)) ≤ capT m ∧ (m - 1) * capT m ≤ capB m := by
  intro m c h1 h2 h3
  have : ∀ m : Fin 4, ∀ c : Fin 4, c.val < m.val → 1 ≤ c.val → capB c.val * (2 * capB (m.val - c.val)) ≤ capT m.val ∧ (m.val - 1) * capT m.val ≤ capB m.val := by decide
  exact this ⟨m, by omega⟩ ⟨c, by omega⟩ h1 h2
theorem cap_le : ∀ m, capB m ≤ 256
  | 0 => by decide
  | 1 => by decide
  | 2 => by decide
  | n + 3 => Nat.le_refl _
section
variable {P : Program} {w : World} {K : PySem.W.Frag} {mg : Str → Option Value} {base : Heap}
abbrev sAll : Stmt := top 63
def spAll (n : Nat) : Sp := fun vs H Q _ => ∃ m : Nat, vs = [nV m] ∧ 1 ≤ m ∧ m ≤ n ∧ m ≤ 3 ∧ ∀ p H' ys, Ex H H' → H p = none → H' p = some (.lst ys) → ys.length ≤ capB m → Blds H' m ys → Q (.ref p) H'
abbrev nAll : List Str := ["_law_leaves", "_law_found", "_law_cut", "_law_one", "_law_other"]
theorem scAll : FnScope nAll ["_law_leaves"] (defScope sAll) := ⟨rfl, rfl, rfl, by decide +kernel, rfl, by decide +kernel, by decide +kernel⟩
theorem ok_all (B : Free mg) (Ft : Pr P w K mg base 4 "_law_text" ["_law_plain"] (spText 3)) (F : FnG K "_law_all_buildings" sAll) (hm : mg "_law_all_buildings" = some (.ref (He.ga K "_law_all_buildings"))) : ∀ n, Pr P w K mg base (6 + n) "_law_all_buildings" ["_law_leaves"] (spAll n)
  | 0 => by
    refine pr_mk (k := 5) F hm scAll (fun _ _ _ _ _ _ us hl => match us, hl with | [_], _ => rfl) (fun vs H Q E h => ?_) (fun f cdv A outer s H vs Q E hr h => ?_)
    · obtain ⟨m, rfl, _⟩ := h
      rfl
    · obtain ⟨m, rfl, h1, h2, _⟩ := h
      omega
  | n + 1 => by
    have Fs := ok_all B Ft F hm n
    refine pr_mk (k := 6 + n) F hm scAll (fun _ _ _ _ _ _ us hl => match us, hl with | [_], _ => rfl) (fun vs H Q E h => ?_) (fun f cdv A outer s H vs Q E hr h => ?_)
    · obtain ⟨m, rfl, _⟩ := h
      rfl
    · obtain ⟨m, rfl, hm1, hmn, hm3, k⟩ := h
      have hr6 := hr.mono (show 4 + 2 ≤ 6 + n by omega)
      obtain ⟨fdT, FT1, FT2, FT3, FT4⟩ := id Ft
      refine ⟨_, pss_cons (ps_if (pt_cmpR op_eq (pv 0) pe_int (nomark _)) (pss_one (ps_ret (pe_lst (pa_cons pe_str (pa_cons pe_str pa_nil))))) pss_nil)
        (pss_cons (ps_set (i := 1) scAll.nd rfl (Or.inl rfl) (pe_lst pa_nil))
        (pss_cons (ps_for PassesOwn.never rfl (pi_range2 (by rfl) B.range (pa_cons pe_int (pa_cons (pv 0) pa_nil))) (pg_name (i := 2) scAll.nd rfl (Or.inl rfl))
          (pss_one (ps_for PassesOwn.never rfl (pi_list (pe_g Fs hr (pa_cons (pv 2) pa_nil))) (pg_name (i := 3) scAll.nd rfl (Or.inl rfl))
            (pss_one (ps_for PassesOwn.never rfl (pi_list (pe_g Fs hr (pa_cons (pe_op op_sub (pv 0) (pv 2)) pa_nil))) (pg_name (i := 4) scAll.nd rfl (Or.inl rfl))
              (pss_one (ps_expr (pe_bm PySem.F.plainAttrs_list PySem.F.slot_list_extend PySem.F.type_list_extend mt_extend (pv 1) (pa_cons (pe_lst (pa_cons (pe_tup (pa_cons pe_str (pa_cons (pv 3) (pa_cons (pv 4) pa_nil)))) (pa_cons (pe_tup (pa_cons pe_str (pa_cons (pv 3) (pa_cons (pv 4) pa_nil)))) pa_nil))) pa_nil))))))))
        )
        (pss_one (ps_ret (pe_callBK (cr_sortedBy Ft hr6) (by rfl) B.sorted b_sorted (pa_cons (pv 1) pa_nil) (pk_cons (pe_glob (v := .ref (He.ga K "_law_text")) (by rfl) FT4 rfl) pk_nil)))))), ?_⟩
      refine q_when (b := decide (m = 1)) (et_test (ev_eqN (ev_var rfl) (ev_c (v := nV 1)) rfl)) (fun hc H1 e1 => ?_) (fun hc H1 e1 => ?_)
      · have h1 := of_decide_eq_true hc
        subst h1
        refine s_retL (el_lst (vs := [.str "gap", .str "tie"]) (ea_cons ev_c (ea_cons ev_c ea_nil)) (by show 2 ≤ 100000; decide)) fun p H2 hp e2 h2 => k p H2 _ (e1.trans e2) (fresh_back e1 hp) h2 (by show 2 ≤ 2; decide) fun y hy => ?_
        rcases List.mem_cons.mp hy with rfl | hy
        · exact ⟨.gap, rfl, rfl⟩
        · rw [List.mem_singleton.mp hy]; exact ⟨.tie, rfl, rfl⟩
      · have h1 := of_decide_eq_false hc
        have m2 : 2 ≤ m := by omega
        refine q_asgO (eo_L (el_lst (vs := []) ea_nil (by show 0 ≤ 100000; decide))) fun Lf H2 hL e2 h2 => ?_
        have hLn : H Lf = none := fresh_back e1 hL
        refine q_forM (M := [Lf]) (n := m - 1) (overM_rng2 (n := m - 1) (lo := 1) (hi := (m : Int)) (tA := tCons (tC (.int 1)) (tCons (tVar 0) tNil)) (σ := [some (nV m), some (.ref Lf), none, none, none]) (H := H2) (ea_cons ev_c (ea_cons (ev_var rfl) ea_nil)) (by omega) (by omega) (by omega)) yFn_ex
          (fun H5 i σ' H' => ExB [Lf] H5 H' ∧ ∃ (ys : List V) (y2 y3 y4 : Option V), σ' = [some (nV m), some (.ref Lf), y2, y3, y4] ∧ H' Lf = some (.lst ys) ∧ ys.length ≤ i * capT m ∧ Blds H' m ys)
          (fun H5 e5 => ⟨ExB.refl _, [], none, none, none, rfl, e5 _ _ h2, Nat.zero_le _, fun y hy => nomatch hy⟩) (fun H5 i σ' H' q => q.1) ?_ ?_
        · rintro H5 e5 i x σ' H6 H7 hi ⟨x6, ys, y2, y3, y4, rfl, h6, l6, b6⟩ hy e7
          obtain ⟨rfl, rfl⟩ := hy
          have z1 : V.int (1 + (i : Int)) = nV (1 + i) := by show V.int _ = V.int _; congr 1
          show tFor _ _ _ _ [some (nV m), some (.ref Lf), some (V.int (1 + (i : Int))), y3, y4] _
          rw [z1]
          obtain ⟨cap1, cap2⟩ := cap_ok m (1 + i) (by omega) (by omega) hm3
          refine s_forLP (P := fun a xs H' => a ≠ Lf ∧ xs.length ≤ capB (1 + i) ∧ Blds H' (1 + i) xs) (ep_call (ea_cons (ev_var rfl) ea_nil) fun H8 e8 Q' q' => ⟨1 + i, rfl, by omega, by omega, by omega, fun p H9 zs e9 hp h9 l9 b9 => q' _ H9 e9 ⟨p, zs, rfl, h9, ?_, l9, b9⟩⟩) fun a xs H8 e8 ha ⟨na, la, ba⟩ => ?_
          · rintro rfl
            rw [(e8) _ _ h6] at hp; cases hp
          refine s_forM (M := [Lf]) (overM_at ha (by rw [List.mem_singleton]; exact na)) yAt_ex
            (fun H1 j σ' H' => ExB [Lf] H1 H' ∧ ∃ (ys : List V) (y3 y4 : Option V), σ' = [some (nV m), some (.ref Lf), some (nV (1 + i)), y3, y4] ∧ H' Lf = some (.lst ys) ∧ ys.length ≤ i * capT m + j * (2 * capB (m - (1 + i))) ∧ Blds H' m ys ∧ Blds H' (1 + i) xs)
            (fun H9 e9 => ⟨ExB.refl _, ys, y3, y4, rfl, e9 _ _ (e8 _ _ h6), by omega, (b6.mono (e8.trans e9)), ba.mono e9⟩) (fun H1 j σ' H' q => q.1) ?_ ?_
          · rintro H9 e9 j x σ' H10 H11 hj ⟨x10, ys2, z3, z4, rfl, h10, l10, b10, bx⟩ hy e11
            obtain ⟨rfl, hx⟩ := hy
            obtain ⟨bo, hbo, lbo⟩ := bx x (List.mem_of_getElem? hx)
            show tFor _ _ _ _ [some (nV m), some (.ref Lf), some (nV (1 + i)), some x, z4] _
            refine s_forLP (P := fun a xs H' => a ≠ Lf ∧ xs.length ≤ capB (m - (1 + i)) ∧ Blds H' (m - (1 + i)) xs) (ep_call (ea_cons (x := nV (m - (1 + i))) (by
                have := ev_op (r := rI0 fun i j => .int (i - j)) (ta := tVar 0) (tb := tVar 2) (σ := [some (nV m), some (.ref Lf), some (nV (1 + i)), some x, z4]) (H := H11) (ev_var rfl) (ev_var rfl) rv_I0
                rw [show ((m : Int) - ((1 + i : Nat) : Int)) = ((m - (1 + i) : Nat) : Int) by omega] at this
                exact this) ea_nil) fun H12 e12 Q' q' => ⟨m - (1 + i), rfl, by omega, by omega, by omega, fun p H13 zs e13 hp h13 l13 b13 => q' _ H13 e13 ⟨p, zs, rfl, h13, ?_, l13, b13⟩⟩) fun a2 xs2 H12 e12 ha2 ⟨na2, la2, ba2⟩ => ?_
            · rintro rfl
              rw [e12 _ _ h10] at hp; cases hp
            refine s_forM (M := [Lf]) (overM_at ha2 (by rw [List.mem_singleton]; exact na2)) yAt_ex
              (fun H1 j2 σ' H' => ExB [Lf] H1 H' ∧ ∃ (ys : List V) (y4 : Option V), σ' = [some (nV m), some (.ref Lf), some (nV (1 + i)), some x, y4] ∧ H' Lf = some (.lst ys) ∧ ys.length ≤ i * capT m + j * (2 * capB (m - (1 + i))) + 2 * j2 ∧ Blds H' m ys ∧ Blds H' (1 + i) xs ∧ Blds H' (m - (1 + i)) xs2 ∧ BldP H' bo x)
              (fun H13 e13 => ⟨ExB.refl _, ys2, z4, rfl, e13 _ _ (e12 _ _ h10), by omega, b10.mono (e12.trans e13), bx.mono (e12.trans e13), ba2.mono e13, hbo.mono (e12.trans e13)⟩) (fun H1 j σ' H' q => q.1) ?_ ?_
            · rintro H13 e13 j2 x2 σ' H14 H15 hj2 ⟨x14, ys3, w4, rfl, h14, l14, b14, bx1, bx2, bo14⟩ hy e15
              obtain ⟨rfl, hx2⟩ := hy
              obtain ⟨bo2, hbo2, lbo2⟩ := bx2 x2 (List.mem_of_getElem? hx2)
              have dif : ∀ {y : HO}, (∃ l, y = .lst l) → ∀ xs, y ≠ .tup xs := fun ⟨l, h⟩ xs z => by rw [h] at z; cases z
              have lim : i * capT m ≤ 256 ∧ j * (2 * capB (m - (1 + i))) ≤ 256 * 512 := ⟨by
                have : i * capT m ≤ (m - 1) * capT m := Nat.mul_le_mul_right _ (by omega)
                have := cap_le m
                omega, Nat.mul_le_mul (Nat.le_trans (Nat.le_of_lt hj) (Nat.le_trans la (cap_le _))) (Nat.mul_le_mul_left 2 (cap_le _))⟩
              have lim2 : i * capT m + j * (2 * capB (m - (1 + i))) ≤ 256 + 128 := by
                have h1 : j * (2 * capB (m - (1 + i))) ≤ capB (1 + i) * (2 * capB (m - (1 + i))) := Nat.mul_le_mul_right _ (Nat.le_trans (Nat.le_of_lt hj) la)
                have h2 : capT m ≤ 128 := by
                  unfold capT; split <;> omega
                omega
              have lx2 : xs2.length ≤ 256 := Nat.le_trans la2 (cap_le _)
              show tDrop _ _ [some (nV m), some (.ref Lf), some (nV (1 + i)), some x, some x2] _
              refine s_extP (P := fun zs H' => zs.length = 2 ∧ Blds H' m zs) h14 (ev_var rfl) ((ep_lstP (P := fun vs H' => vs.length = 2 ∧ Blds H' m vs) (eap_cons (P := fun u H' => TupV H' u [.str "row", x, x2]) ((ep_eu (eu_tup (ea_cons ev_c (ea_cons (ev_var rfl) (ea_cons (ev_var rfl) ea_nil))) (by show 3 ≤ 100000; decide))).imp fun u H' _ ⟨p, hu, _, hp⟩ => ⟨p, hu, hp⟩)
                fun u1 H16 e16 hu1 => eap_cons (P := fun u H' => TupV H' u [.str "side", x, x2]) ((ep_eu (eu_tup (ea_cons ev_c (ea_cons (ev_var rfl) (ea_cons (ev_var rfl) ea_nil))) (by show 3 ≤ 100000; decide))).imp fun u H' _ ⟨p, hu, _, hp⟩ => ⟨p, hu, hp⟩)
                fun u2 H17 e17 hu2 => fun H18 e18 Q8 q8 => q8 [] H18 (Ex.refl _) ⟨rfl, fun y hy => ?_⟩) (fun vs H' h => by rw [h.1]; decide)).imp fun u H' _ ⟨p, vs, H1, hu, hv, e', hp⟩ => ⟨p, vs, hu, hp, hv.1, hv.2.mono e'⟩) (fun zs H' h => by rw [h.1]; omega) fun zs H16 e16 ⟨lz, bz⟩ => ?_
              · have up : ∀ {f : Bld} {z : V}, BldP _ f z → BldP H18 f z := fun h => h.mono (e16.trans (e17.trans e18))
                have lj : bo.leaves + bo2.leaves = m := by rw [lbo, lbo2]; omega
                rcases List.mem_cons.mp hy with rfl | hy
                · exact ⟨jn true bo bo2, BldP.join (TupV.mono hu1 (e17.trans e18)) (up bo14) (up hbo2), by rw [jn_leaves]; exact lj⟩
                · rw [List.mem_singleton.mp hy]
                  exact ⟨jn false bo bo2, BldP.join (TupV.mono hu2 e18) (up bo14) (up hbo2), by rw [jn_leaves]; exact lj⟩
              · have h16 : H16 Lf = some (.lst ys3) := e16 _ _ h14
                refine ⟨(x14.trans (ExB.of e16)).upd List.mem_cons_self, ys3 ++ zs, some x2, rfl, upd_same, by rw [List.length_append, lz]; omega, ((b14.mono e16).app bz).updL h16 (dif ⟨_, rfl⟩), (bx1.mono e16).updL h16 (dif ⟨_, rfl⟩), (bx2.mono e16).updL h16 (dif ⟨_, rfl⟩), BldP.updL h16 (dif ⟨_, rfl⟩) (bo14.mono e16)⟩
            · rintro H13 e13 σ' H14 ⟨x14, ys3, w4, rfl, h14, l14, b14, bx1, bx2, bo14⟩
              refine ⟨(x10.trans (ExB.of (e12.trans e13))).trans x14, ys3, some x, w4, rfl, h14, ?_, b14, bx1⟩
              rw [Nat.succ_mul]
              omega
          · rintro H9 e9 σ' H10 ⟨x10, ys2, z3, z4, rfl, h10, l10, b10, bx⟩
            refine ⟨(x6.trans (ExB.of (e8.trans e9))).trans x10, ys2, some (nV (1 + i)), z3, z4, rfl, h10, ?_, b10⟩
            have h1 : xs.length * (2 * capB (m - (1 + i))) ≤ capB (1 + i) * (2 * capB (m - (1 + i))) := Nat.mul_le_mul_right _ la
            rw [Nat.succ_mul]
            omega
        · rintro H5 e5 σ' H6 ⟨x6, ys, y2, y3, y4, rfl, h6, l6, b6⟩
          obtain ⟨_, cap2⟩ := cap_ok m 1 (by omega) (by omega) hm3
          have e06 : Ex H H6 := ExB.ex ((e1.trans e2).trans e5) x6 fun m hm => by rw [List.mem_singleton.mp hm]; exact hLn
          refine s_retP (P := fun u H' => ∃ p zs, u = .ref p ∧ H6 p = none ∧ zs.Perm ys ∧ H' p = some (.lst zs)) (fun H7 e7 Q' q' => ?_) fun u H7 e7 ⟨p, zs, hu, hp, pz, hz⟩ => ?_
          · refine ev_var (v := .ref Lf) rfl H7 e7 _ fun H8 e8 => ?_
            have e68 := e7.trans e8
            have bch : ∀ y : V, ∃ b : Bld, y ∈ ys → BldP H8 b y ∧ b.leaves = m := fun y => by
              by_cases hy : y ∈ ys
              · obtain ⟨b, h1, h2⟩ := (b6.mono e68) y hy
                exact ⟨b, fun _ => ⟨h1, h2⟩⟩
              · exact ⟨.tie, fun z => absurd z hy⟩
            have bc := fun y => (bch y).choose_spec
            exact ⟨Lf, ys, fun y => txt (bch y).choose, rfl, rfl, SqL.of (e68 _ _ h6), fun y hy H9 e9 Q9 q9 => ⟨y, (bch y).choose, rfl, ((bc y hy).1).mono e9, by rw [(bc y hy).2]; exact hm3, by rw [(bc y hy).2]; omega, q9⟩,
              fun H9 p zs e9 hp pz hz => q' _ H9 (e8.trans e9) ⟨p, zs, rfl, fresh_back e68 hp, pz, hz⟩⟩
          · subst hu
            refine k p H7 zs (e06.trans e7) (fresh_back e06 hp) hz (by rw [pz.length_eq]; omega) fun y hy => ?_
            exact (b6.mono e7) y (pz.mem_iff.mp hy)
end
end K46
set_option Elab.async false
set_option linter.all false
set_option autoImplicit false
set_option maxRecDepth 100000
namespace K46
open PySem PySem.Spec PyProof.Rows L2 Evl
set_option maxHeartbeats 4000000
/-! ### the dice -/
def DiceAt (H : Hp) (d : Addr) : Prop := ∃ a s c : Nat, H d = some (.lst [nV a, nV s, nV c])
theorem DiceAt.mono {H H' : Hp} {d : Addr} (h : DiceAt H d) (e : Ex H H') : DiceAt H' d := by
  obtain ⟨a, s, c, h⟩ := h
  exact ⟨a, s, c, e _ _ h⟩
theorem DiceAt.out {H H' : Hp} {d : Addr} {M : List Addr} (h : DiceAt H d) (e : ExB M H H') (n : d ∉ M) : DiceAt H' d := by
  obtain ⟨a, s, c, h⟩ := h
  exact ⟨a, s, c, e _ _ n h⟩
/-- what else stands, stands behind a roll -/
theorem DiceAt.ne {H : Hp} {d p : Addr} {o : HO} (h : DiceAt H d) (hp : H p = some o) (ho : ∀ a s c : Nat, o ≠ .lst [nV a, nV s, nV c]) : p ≠ d := fun z => by
  obtain ⟨a, s, c, h⟩ := h
  rw [z, h] at hp
  exact ho a s c (Option.some.inj hp).symm
section
variable {K : PySem.W.Frag} {H H' : Hp} {d : Addr}
theorem keepD {p : Addr} {o : HO} (e : ExB [d] H H') (hd : DiceAt H d) (hp : H p = some o) (ho : ∀ a s c : Nat, o ≠ .lst [nV a, nV s, nV c]) : H' p = some o := e p o (by rw [List.mem_singleton]; exact hd.ne hp ho) hp
theorem TupV.monoD {v : V} {xs : List V} (h : TupV H v xs) (e : ExB [d] H H') (hd : DiceAt H d) : TupV H' v xs := by
  obtain ⟨p, rfl, h⟩ := h
  exact ⟨p, rfl, keepD e hd h (fun _ _ _ z => nomatch z)⟩
theorem MatT.monoD {v : V} {m : List (List Nat)} (h : MatT H v m) (e : ExB [d] H H') (hd : DiceAt H d) : MatT H' v m := by
  obtain ⟨rs, h1, h2⟩ := h
  exact ⟨rs, TupV.monoD h1 e hd, paired_mono (fun _ _ q => TupV.monoD q e hd) h2⟩
theorem LstM.monoD {v : V} {m : List (List Nat)} (h : LstM H v m) (hm : m ≠ []) (e : ExB [d] H H') (hd : DiceAt H d) : LstM H' v m := by
  obtain ⟨p, rs, rfl, h1, h2⟩ := h
  refine ⟨p, rs, rfl, keepD e hd h1 (fun a s c z => ?_), paired_mono (fun _ _ q => TupV.monoD q e hd) h2⟩
  cases h2 with
  | nil => exact hm rfl
  | cons q _ =>
    obtain ⟨q1, hq, _⟩ := q
    injection z with z
    injection z with z _
    rw [hq] at z
    cases z
theorem ok_rows {T : Tb} (ok : T.Ok) : T.rows ≠ [] := fun z => by
  have := ok.gap
  unfold Tb.n at this
  rw [z] at this
  exact absurd this (Nat.not_lt_zero _)
theorem ok_sides {T : Tb} (ok : T.Ok) : T.sides ≠ [] := fun z => by
  have := ok.sides.len
  have h2 := ok.gap
  rw [z, List.length_nil] at this
  omega
theorem Plain.monoD {v : V} {T : Tb} (h : Plain H v T) (ok : T.Ok) (e : ExB [d] H H') (hd : DiceAt H d) : Plain H' v T := by
  obtain ⟨r, s, a, p, hp⟩ := h
  exact ⟨r, s, a, p, hp.v_, keepD e hd hp.d_ (fun _ _ _ z => nomatch z), hp.rows.monoD (ok_rows ok) e hd, hp.sides.monoD (ok_sides ok) e hd, TupV.monoD hp.acc e hd⟩
theorem TabAt.monoD {v : V} {T : Tb} (h : TabAt K H v T) (e : ExB [d] H H') (hd : DiceAt H d) : TabAt K H' v T := by
  obtain ⟨x, dx, r, s, a, rfl, h1, h2, h3⟩ := h
  exact ⟨x, dx, r, s, a, rfl, keepD e hd h1 (fun _ _ _ z => nomatch z), keepD e hd h2 (fun _ _ _ z => nomatch z), ⟨MatT.monoD h3.rows e hd, MatT.monoD h3.sides e hd, TupV.monoD h3.acc e hd⟩⟩
theorem BldP.monoD (e : ExB [d] H H') (hd : DiceAt H d) : ∀ {b : Bld} {v : V}, BldP H b v → BldP H' b v
  | .tie, _, h => h
  | .gap, _, h => h
  | .row _ _, _, ⟨x, y, h1, h2, h3⟩ => ⟨x, y, TupV.monoD h1 e hd, BldP.monoD e hd h2, BldP.monoD e hd h3⟩
  | .side _ _, _, ⟨x, y, h1, h2, h3⟩ => ⟨x, y, TupV.monoD h1 e hd, BldP.monoD e hd h2, BldP.monoD e hd h3⟩
end
section
variable {K : PySem.W.Frag} {σ : L2.St} {H : Hp} {ta tb : TE} {i j : Int}
abbrev rMod : R2 := rI (fun _ j => 0 < j) fun i j => .int (i % j)
theorem ev_mod (h1 : Ev ta σ H (.int i)) (h2 : Ev tb σ H (.int j)) (hj : 0 < j) : Ev (tOp rMod ta tb) σ H (.int (i % j)) := ev_op h1 h2 (rv_I hj)
abbrev rDiv : R2 := rI CDiv fun i j => .int (i / j)
theorem ev_div (h1 : Ev ta σ H (.int i)) (h2 : Ev tb σ H (.int j)) (hj : 0 < j) (hj2 : j < 1073741824) : Ev (tOp rDiv ta tb) σ H (.int (i / j)) := ev_op h1 h2 (rv_I ⟨hj, hj2⟩)
abbrev rMul : R2 := rI CMul fun i j => .int (i * j)
theorem ev_mul (h1 : Ev ta σ H (.int i)) (h2 : Ev tb σ H (.int j)) (hj : CMul i j) : Ev (tOp rMul ta tb) σ H (.int (i * j)) := ev_op h1 h2 (rv_I hj)
theorem ev_add (h1 : Ev ta σ H (.int i)) (h2 : Ev tb σ H (.int j)) : Ev (tOp (rI0 fun i j => .int (i + j)) ta tb) σ H (.int (i + j)) := ev_op h1 h2 rv_I0
theorem ev_sub (h1 : Ev ta σ H (.int i)) (h2 : Ev tb σ H (.int j)) : Ev (tOp (rI0 fun i j => .int (i - j)) ta tb) σ H (.int (i - j)) := ev_op h1 h2 rv_I0
theorem ev_int (h : Ev ta σ H (.int i)) : Ev (tCB rInt1 (tCons ta tNil)) σ H (.int i) := fun H1 e Q q => h H1 e _ fun H2 e2 => .inl ⟨i, rfl, q H2 e2⟩
/-- d[i], d a list -/
theorem ev_ixl {l : Addr} {xs : List V} {k : Nat} {v : V} (h1 : Ev ta σ H (.ref l)) (hl : H l = some (.lst xs)) (hk : xs[k]? = some v) : Ev (tOp (rIxL K) ta (tC (.int (k : Int)))) σ H v := ev_op h1 ev_c (rv_ixL (SqL.of hl) (atI_nat hk))
end
section
variable {P : Program} {w : World} {K : PySem.W.Frag} {mg : Str → Option Value} {base : Heap}
/-! ### _law_roll -/
abbrev sRoll : Stmt := top 57
def spRoll (K : PySem.W.Frag) : Sp := fun vs H Q _ => ∃ (d : Addr) (t : Nat), vs = [.ref d, nV t] ∧ 1 ≤ t ∧ t ≤ 1000 ∧ DiceAt H d ∧ ∀ (r : Nat) H', r < t → ExB [d] H H' → DiceAt H' d → Q (nV r) H'
theorem scRoll : FnScope ["_law_dice_here", "_law_total", "_law_found", "_law_one", "_law_two"] ["_law_dice_here", "_law_total"] (defScope sRoll) := ⟨rfl, rfl, rfl, by decide +kernel, rfl, by decide +kernel, by decide +kernel⟩
theorem nat_of {i : Int} {t : Nat} (h0 : 0 ≤ i) (h1 : i < t) : ∃ r : Nat, r < t ∧ V.int i = nV r := ⟨i.toNat, by omega, by show V.int i = V.int _; congr 1; omega⟩
theorem ok_roll (B : Free mg) (F : FnG K "_law_roll" sRoll) (hm : mg "_law_roll" = some (.ref (He.ga K "_law_roll"))) : Pr P w K mg base 1 "_law_roll" ["_law_dice_here", "_law_total"] (spRoll K) := by
  refine pr_mk F hm scRoll (fun _ _ _ _ _ _ us hl => match us, hl with | [_, _], _ => rfl) (fun vs H Q E h => ?_) (fun f cdv A outer s H vs Q E hr h => ?_)
  · obtain ⟨d, t, rfl, _⟩ := h
    rfl
  · obtain ⟨d, t, rfl, t1, t2, ⟨a, sd, c, hd⟩, k⟩ := h
    refine ⟨_, pss_cons (ps_if (pt_cmpR op_gt (pe_ix ix_list (pv 0) pe_int (fun _ _ => rfl)) pe_int (nomark _))
        (pss_cons (ps_set (i := 2) scRoll.nd rfl (Or.inl rfl) (pe_op op_mod (pe_callTy call_int1 (by rfl) B.int b_int (pa_cons (pe_ix ix_list (pv 0) pe_int (fun _ _ => rfl)) pa_nil)) (pv 1)))
        (pss_cons (ps_asg (pe_op op_fdiv (pe_ix ix_list (pv 0) pe_int (fun _ _ => rfl)) (pv 1)) (pg_sub (pv 0) pe_int set_list))
        (pss_one (ps_ret (pv 2))))) pss_nil)
      (pss_cons (ps_asg (pe_op op_add (pe_ix ix_list (pv 0) pe_int (fun _ _ => rfl)) pe_int) (pg_sub (pv 0) pe_int set_list))
      (pss_cons (ps_set (i := 3) scRoll.nd rfl (Or.inl rfl) (pe_op op_mod (pe_callTy call_int1 (by rfl) B.int b_int (pa_cons (pe_op op_add (pe_ix ix_list (pv 0) pe_int (fun _ _ => rfl)) (pe_op op_mul pe_int (pe_ix ix_list (pv 0) pe_int (fun _ _ => rfl)))) pa_nil)) pe_int))
      (pss_cons (ps_set (i := 4) scRoll.nd rfl (Or.inl rfl) (pe_op op_add (pe_op op_mul (pe_op op_mod (pe_callTy call_int1 (by rfl) B.int b_int (pa_cons (pe_op op_add (pe_op op_mul (pv 3) (pv 3)) (pe_op op_mul pe_int (pe_ix ix_list (pv 0) pe_int (fun _ _ => rfl)))) pa_nil)) pe_int) pe_int) (pv 3)))
      (pss_one (ps_ret (pe_op op_mod (pe_callTy call_int1 (by rfl) B.int b_int (pa_cons (pe_op op_fdiv (pv 4) pe_int) pa_nil)) (pv 1))))))), ?_⟩
    have ix : ∀ {σ : L2.St} {H' : Hp} {xs : List V} {i : Nat} {v : V}, σ[0]? = some (some (.ref d)) → H' d = some (.lst xs) → xs[i]? = some v → Ev (tOp (rIxL K) (tVar 0) (tC (.int (i : Int)))) σ H' v := fun s0 h hi => ev_ixl (ev_var s0) h hi
    have tp : (0 : Int) < (t : Int) := by omega
    refine q_when (b := decide ((0 : Int) < (a : Int))) (et_test (ev_op (ix (i := 0) rfl hd rfl) ev_c rv_I0)) (fun hc H1 e1 => ?_) (fun hc H1 e1 => ?_)
    · refine q_asg (ev_mod (ev_int (ix (i := 0) rfl (e1 _ _ hd) rfl)) (ev_var rfl) tp) fun H2 e2 => ?_
      have e12 := e1.trans e2
      obtain ⟨r, hr', er⟩ := nat_of (t := t) (Int.emod_nonneg (a : Int) (by omega)) (Int.emod_lt_of_pos (a : Int) tp)
      rw [er]
      refine q_setL (j := 0) (e12 _ _ hd) (ev_div (ix (i := 0) rfl (e12 _ _ hd) rfl) (ev_var rfl) tp (by omega)) (ev_var rfl) ev_c (by show 0 < 3; decide) fun H3 e3 => ?_
      refine s_ret (ev_var rfl) fun H4 e4 => k r H4 hr' (((ExB.of (e12.trans e3)).upd List.mem_cons_self).trans (ExB.of e4)) ⟨a / t, sd, c, ?_⟩
      rw [e4 _ _ upd_same]
      rfl
    · refine q_setL (j := 2) (e1 _ _ hd) (ev_add (ix (i := 2) rfl (e1 _ _ hd) rfl) ev_c) (ev_var rfl) ev_c (by show 2 < 3; decide) fun H2 e2 => ?_
      generalize hX : upd H2 d (.lst (([nV a, nV sd, nV c] : List V).set 2 (V.int ((c : Int) + 1)))) = H2'
      have h2 : H2' d = some (.lst [nV a, nV sd, .int ((c : Int) + 1)]) := by rw [← hX, upd_same]; rfl
      have x2 : ExB [d] H H2' := by rw [← hX]; exact (ExB.of (e1.trans e2)).upd List.mem_cons_self
      refine q_asg (ev_mod (ev_int (ev_add (ix (i := 1) rfl h2 rfl) (ev_mul ev_c (ix (i := 2) rfl h2 rfl) (.inl (by omega))))) ev_c (by omega)) fun H3 e3 => ?_
      have o0 := Int.emod_nonneg ((sd : Int) + 49979687 * ((c : Int) + 1)) (show (2305843009213693669 : Int) ≠ 0 by omega)
      have o1 := Int.emod_lt_of_pos ((sd : Int) + 49979687 * ((c : Int) + 1)) (show (0 : Int) < 2305843009213693669 by omega)
      generalize ((sd : Int) + 49979687 * ((c : Int) + 1)) % 2305843009213693669 = o at o0 o1
      refine q_asg (ev_add (ev_mul (ev_mod (ev_int (ev_add (ev_mul (ev_var rfl) (ev_var rfl) (.inl (by omega))) (ev_mul ev_c (ix (i := 2) rfl (e3 _ _ h2) rfl) (.inl (by omega))))) ev_c (by omega)) ev_c (.inr (by omega))) (ev_var rfl)) fun H4 e4 => ?_
      refine s_ret (ev_mod (ev_int (ev_div (ev_var rfl) ev_c (by omega) (by omega))) (ev_var rfl) tp) fun H5 e5 => ?_
      generalize (o * o + 89 * ((c : Int) + 1)) % 2305843009213693907 * 7368791 + o = z
      obtain ⟨r, hr', er⟩ := nat_of (t := t) (Int.emod_nonneg (z / 65536) (by omega)) (Int.emod_lt_of_pos (z / 65536) tp)
      rw [er]
      exact k r H5 hr' (x2.trans (ExB.of (e3.trans (e4.trans e5)))) ⟨a, sd, c + 1, (e3.trans (e4.trans e5)) _ _ h2⟩
/-! ### _law_dice -/
abbrev sDice : Stmt := top 56
def spDice (K : PySem.W.Frag) : Sp := fun vs H Q _ => ∃ (p : Addr) (spot : Nat) (ns : List Int), vs = [.ref p, nV spot] ∧ spot ≤ 1 ∧ SqL K H p (ns.map V.int) ∧ ∀ d H', Ex H H' → H d = none → DiceAt H' d → Q (.ref d) H'
theorem scDice : FnScope ["_law_script", "_law_spot", "_law_cell", "_law_left"] ["_law_script", "_law_spot"] (defScope sDice) := ⟨rfl, rfl, rfl, by decide +kernel, rfl, by decide +kernel, by decide +kernel⟩
theorem ok_dice (B : Free mg) (F : FnG K "_law_dice" sDice) (hm : mg "_law_dice" = some (.ref (He.ga K "_law_dice"))) : Pr P w K mg base 1 "_law_dice" ["_law_script", "_law_spot"] (spDice K) := by
  refine pr_mk F hm scDice (fun _ _ _ _ _ _ us hl => match us, hl with | [_, _], _ => rfl) (fun vs H Q E h => ?_) (fun f cdv A outer s H vs Q E hr h => ?_)
  · obtain ⟨d, t, ns, rfl, _⟩ := h
    rfl
  · obtain ⟨p, spot, ns, rfl, hs, hp, k⟩ := h
    refine ⟨_, pss_cons (ps_set (i := 2) scDice.nd rfl (Or.inl rfl) (pe_ifExp (pt_cmpR op_lt (pv 1) (pe_callB call_len_seq (by rfl) B.len b_len (pa_cons (pv 0) pa_nil)) (nomark _))
          (pe_callTy call_int1 (by rfl) B.int b_int (pa_cons (pe_ix ix_list (pv 0) (pv 1) (fun _ _ => rfl)) pa_nil)) (pe_op op_add (pe_op op_mul pe_int (pv 1)) pe_int)))
      (pss_cons (ps_set (i := 3) scDice.nd rfl (Or.inl rfl) (pe_op op_mod (pe_callB (call_max2 rfl) (by rfl) B.max b_max (pa_cons pe_int (pa_cons (pe_op op_sub (pe_callB call_abs (by rfl) B.abs b_abs (pa_cons (pv 2) pa_nil)) (pe_op op_pow pe_int pe_int)) pa_nil)))
          (pe_op op_mulW (pe_op op_pow pe_int pe_int) (pe_op op_pow pe_int pe_int))))
      (pss_one (ps_ret (pe_lst (pa_cons (pv 3) (pa_cons (pe_op op_add (pe_op op_add (pe_op op_add (pe_op op_mul (pe_op op_mod (pe_callB call_abs (by rfl) B.abs b_abs (pa_cons (pv 2) pa_nil)) pe_int) pe_int) (pe_op op_mul pe_int (pv 1)))
          (pe_op op_mul pe_int (pe_callTy call_int1 (by rfl) B.int b_int (pa_cons (pe_cmpR op_lt (pv 2) pe_int (nomark _)) pa_nil)))) pe_int) (pa_cons pe_int pa_nil))))))), ?_⟩
    have cellE : ∃ cell : Int, Ev (tIf (tTest (tOp (rI0 fun i j => .bl (decide (i < j))) (tVar 1) (tCB (rLen K) (tCons (tVar 0) tNil)))) (tCB rInt1 (tCons (tOp (rIxL K) (tVar 0) (tVar 1)) tNil)) (tOp (rI0 fun i j => .int (i + j)) (tOp rMul (tC (.int 61)) (tVar 1)) (tC (.int 17)))) [some (.ref p), some (nV spot), none, none] H (.int cell) := by
      by_cases hl : spot < ns.length
      · refine ⟨ns[spot], ev_if (b := true) (et_test ?_) (fun _ => ev_int (ev_op (ev_var rfl) (ev_var rfl) (rv_ixL hp (atI_nat (by rw [List.getElem?_map, List.getElem?_eq_getElem hl]; rfl))))) (fun z => by cases z)⟩
        have := ev_op (r := rI0 fun i j => V.bl (decide (i < j))) (ta := tVar 1) (σ := [some (V.ref p), some (nV spot), none, none]) (H := H) (ev_var rfl) (ev_lenS (K := K) (ta := tVar 0) (ev_var rfl) ⟨p, rfl, .inl hp⟩) rv_I0
        rw [List.length_map, decide_eq_true (by omega)] at this
        exact this
      · refine ⟨61 * (spot : Int) + 17, ev_if (b := false) (et_test ?_) (fun z => by cases z) (fun _ => ev_add (ev_mul ev_c (ev_var rfl) (.inl (by omega))) ev_c)⟩
        have := ev_op (r := rI0 fun i j => V.bl (decide (i < j))) (ta := tVar 1) (σ := [some (V.ref p), some (nV spot), none, none]) (H := H) (ev_var rfl) (ev_lenS (K := K) (ta := tVar 0) (ev_var rfl) ⟨p, rfl, .inl hp⟩) rv_I0
        rw [List.length_map, decide_eq_false (by omega)] at this
        exact this
    obtain ⟨cell, hc⟩ := cellE
    refine q_asg hc fun H1 e1 => ?_
    refine q_asg (ev_mod (ev_cb (z := .int (if (if cell < 0 then -cell else cell) - (10 : Int) ^ (16 : Int).toNat > 0 then (if cell < 0 then -cell else cell) - (10 : Int) ^ (16 : Int).toNat else 0)) (ea_cons ev_c (ea_cons (ev_sub (ev_cb (z := .int (if cell < 0 then -cell else cell)) (ea_cons (ev_var rfl) ea_nil) fun H1 _ Q q => ⟨cell, rfl, q H1 (Ex.refl _)⟩) (ev_op (z := .int ((10 : Int) ^ (16 : Int).toNat)) ev_c ev_c (rv_I ⟨by decide, by decide, by decide⟩))) ea_nil)) fun H1 _ Q q => ⟨_, _, rfl, q H1 (Ex.refl _)⟩)
      (ev_op (z := .int ((10 : Int) ^ (60 : Int).toNat * (10 : Int) ^ (60 : Int).toNat)) (ev_op (z := .int ((10 : Int) ^ (60 : Int).toNat)) ev_c ev_c (rv_I ⟨by decide, by decide, by decide⟩)) (ev_op (z := .int ((10 : Int) ^ (60 : Int).toNat)) ev_c ev_c (rv_I ⟨by decide, by decide, by decide⟩)) (rv_I (by unfold CMulW; decide +kernel))) (by decide +kernel)) fun H2 e2 => ?_
    have l0 := Int.emod_nonneg (if (if cell < 0 then -cell else cell) - (10 : Int) ^ (16 : Int).toNat > 0 then (if cell < 0 then -cell else cell) - (10 : Int) ^ (16 : Int).toNat else 0) (show (10 : Int) ^ (60 : Int).toNat * (10 : Int) ^ (60 : Int).toNat ≠ 0 by decide +kernel)
    generalize (if (if cell < 0 then -cell else cell) - (10 : Int) ^ (16 : Int).toNat > 0 then (if cell < 0 then -cell else cell) - (10 : Int) ^ (16 : Int).toNat else 0) % ((10 : Int) ^ (60 : Int).toNat * (10 : Int) ^ (60 : Int).toNat) = left at l0
    have a0 := Int.emod_nonneg (if cell < 0 then -cell else cell) (show (1152921504606846869 : Int) ≠ 0 by omega)
    have a1 := Int.emod_lt_of_pos (if cell < 0 then -cell else cell) (show (0 : Int) < 1152921504606846869 by omega)
    have lt : Ev (tCB rInt1 (tCons (tOp (rI0 fun i j => .bl (decide (i < j))) (tVar 2) (tC (.int 0))) tNil)) [some (.ref p), some (nV spot), some (.int cell), some (.int left)] H2 (nV (if decide (cell < 0) = true then 1 else 0)) := ev_intB (ev_op (ev_var rfl) ev_c rv_I0)
    have seed := ev_add (ev_add (ev_add (ev_mul (ev_mod (ev_cb (r := fun xs H Q => ∃ i, xs = [V.int i] ∧ Q (.int (if i < 0 then -i else i)) H) (z := .int (if cell < 0 then -cell else cell)) (σ := [some (.ref p), some (nV spot), some (.int cell), some (.int left)]) (H := H2) (ta := tCons (tVar 2) tNil) (ea_cons (ev_var rfl) ea_nil) fun H1 _ Q q => ⟨cell, rfl, q H1 (Ex.refl _)⟩) (ev_c (v := .int 1152921504606846869)) (by omega)) (ev_c (v := .int 43)) (.inr (by omega))) (ev_mul (ev_c (v := .int 811)) (ev_var (i := 1) rfl) (.inl (by omega)))) (ev_mul (ev_c (v := .int 29)) lt (.inl (by omega)))) (ev_c (v := .int 5))
    refine s_retL (el_lst (ea_cons (ev_var rfl) (ea_cons seed (ea_cons ev_c ea_nil))) (by show 3 ≤ 100000; decide)) fun d H3 hd e3 h3 => k d H3 (e1.trans (e2.trans e3)) (fresh_back (e1.trans e2) hd) ?_
    have nn : ∀ i : Int, 0 ≤ i → V.int i = nV i.toNat := fun i h => by show V.int i = V.int _; congr 1; omega
    rw [nn left l0, nn _ (by split <;> omega)] at h3
    exact ⟨_, _, 0, h3⟩
end
end K46
set_option Elab.async false
set_option linter.all false
set_option autoImplicit false
set_option maxRecDepth 100000
namespace K46
open PySem PySem.Spec PyProof.Rows L2 Evl
set_option maxHeartbeats 4000000
theorem erase_perm {α : Type} : ∀ {xs : List α} {k : Nat} {y : α}, xs[k]? = some y → (xs.eraseIdx k ++ [y]).Perm xs
  | [], _, _, h => by simp at h
  | x :: xs, 0, y, h => by
    simp at h
    subst h
    show (xs ++ [x]).Perm (x :: xs)
    exact List.perm_append_comm
  | x :: xs, k + 1, y, h => by
    show (x :: (xs.eraseIdx k ++ [y])).Perm (x :: xs)
    exact (erase_perm (by simpa using h)).cons x
section
variable {K : PySem.W.Frag} {σ : L2.St} {H : Hp} {ta : TE} {d : Addr}
theorem overM_rng1 {tA : TA} {M : List Addr} {n : Nat} (h : EvA tA σ H [nV n]) (hn : n ≤ 100000) : OverM (iRng1 tA) σ H M n (YFn fun i => .int (0 + (i : Int))) := fun R k =>
  h H (Ex.refl _) _ fun H2 e2 => ⟨n, rfl, by omega, by omega, by rw [show ((n : Int)).toNat = n by omega]; exact k _ H2 (fun _ => True) e2 walk_range fun _ _ => trivial⟩
theorem ExB.shrink {H0 H' : Hp} {M : List Addr} (e : Ex H H0) (x : ExB M H0 H') (hM : ∀ m ∈ M, m ≠ d → H m = none) : ExB [d] H H' := fun a o na ha => x a o (fun m => by
  have := hM a m (fun z => na (by rw [z]; exact List.mem_cons_self))
  rw [this] at ha; cases ha) (e _ _ ha)
/-- list(range(n)) -/
theorem el_listRg {n : Nat} (h : Ev ta σ H (nV n)) (hn : n ≤ 100000) : EvL (tLstRg (tRg1 ta)) σ H ((List.range n).map nV) := fun H1 e Q q => h H1 e _ fun H2 e2 => ⟨n, rfl, RgOk.of_le (by omega) (by omega) (by omega) (by omega), fun p hp => by
  have er : rgV 0 (n : Int) = (List.range n).map nV := by
    unfold rgV
    rw [show ((n : Int) - 0).toNat = n by omega]
    exact List.map_congr_left fun i _ => by show V.int _ = V.int _; congr 1; omega
  rw [er]
  exact q p _ (fresh_back e2 hp) (e2.trans (Ex.new hp)) upd_same⟩
/-- a comprehension whose turns roll the dice -/
theorem ep_lcD {wi : TI} {g : TG} {tt : TT} {te : TE} {n : Nat} {Y : Nat → Hp → V → Hp → Prop} {vs : List Nat} (hO : OverM wi σ H [d] n Y) (hn : n ≤ 40000) (hY : ∀ i H x H', Y i H x H' → Ex H H') (hd : DiceAt H d) (R : List Nat → Nat → Prop) (r0 : R [] 0)
    (he : ∀ i x H1 H2, i < n → ExB [d] H H1 → DiceAt H1 d → Y i H1 x H2 → ∃ σ2, wipe σ2 vs = wipe σ vs ∧ (∀ Qs : L2.St → Hp → Prop, Qs σ2 H2 → g x (wipe σ vs) H2 Qs) ∧
      (∀ Q2 : Bool → Hp → Prop, (∀ b H3, ExB [d] H2 H3 → DiceAt H3 d → (b = true → ∀ Q3 : VK, (∀ (k : Nat) H4, ExB [d] H3 H4 → DiceAt H4 d → (∀ ks, R ks i → R (ks ++ [k]) (i + 1)) → Q3 (nV k) H4) → te σ2 H3 Q3) → (b = false → ∀ ks, R ks i → R ks (i + 1)) → Q2 b H3) → tt σ2 H2 Q2)) :
    ∀ Q : VK, (∀ D H' ks, H D = none → ExB [d] H H' → DiceAt H' d → H' D = some (.lst (ks.map nV)) → R ks n → ks.length ≤ n → Q (.ref D) H') → tLc wi g tt te vs σ H Q := by
  intro Q q
  refine hO _ fun J H2 G e2 w hG D hD => ?_
  have hDn : H D = none := fresh_back e2 (by exact hD)
  have nD : D ≠ d := fun z => by
    obtain ⟨a, s, c, h⟩ := hd
    rw [z, h] at hDn; cases hDn
  have x0 : ExB [d] H2 (upd H2 D (.lst [])) := ExB.of (Ex.new hD)
  refine lc_it w (fun i H' => i ≤ n ∧ ExB [d] H2 H' ∧ DiceAt H' d ∧ ∃ ks, H' D = some (.lst (ks.map nV)) ∧ R ks i ∧ ks.length ≤ i) ⟨Nat.zero_le _, x0, (hd.mono e2).mono (Ex.new hD), [], upd_same, r0, Nat.le_refl _⟩ (fun i H' _ p => hG _ p.2.1) ?_ ?_
  · intro i x H' H'' hi ⟨_, x', d', ks, hk, hr, hl⟩ y
    have ey := hY _ _ _ _ y
    obtain ⟨σ2, hw, hg, ht⟩ := he i x H' H'' hi ((ExB.of e2).trans x') d' y
    refine hg _ ⟨hw, ht _ fun b H3 x3 d3 h1 h2 => ?_⟩
    have k3 : H3 D = some (.lst (ks.map nV)) := x3 _ _ (by rw [List.mem_singleton]; exact nD) (ey _ _ hk)
    cases b with
    | true =>
      rw [if_pos rfl]
      refine h1 rfl _ fun k H4 x4 d4 r4 => ?_
      have k4 : H4 D = some (.lst (ks.map nV)) := x4 _ _ (by rw [List.mem_singleton]; exact nD) k3
      refine ⟨ks.map nV, k4, sz_lt (by rw [List.length_map]; omega), hi, fun a u na ha => ?_, ?_, ks ++ [k], by rw [upd_same, List.map_append]; rfl, r4 ks hr, by rw [List.length_append]; show _ + 1 ≤ _; omega⟩
      · rw [upd_ne (ne_of_none ha hD)]
        exact x4 _ _ na (x3 _ _ na (ey _ _ (x' _ _ na ha)))
      · obtain ⟨a, s, c, h⟩ := d4
        exact ⟨a, s, c, by rw [upd_ne (Ne.symm nD)]; exact h⟩
    | false =>
      rw [if_neg Bool.false_ne_true]
      exact ⟨hi, (x'.trans (ExB.of ey)).trans x3, d3, ks, k3, h2 rfl ks hr, by omega⟩
  · rintro H' ⟨_, x', d', ks, hk, hr, hl⟩
    exact q D H' ks hDn ((ExB.of e2).trans x') d' hk hr hl
end
/-! ### what rolls the dice -/
def RD (d : Addr) (H H' : Hp) : Prop := ExB [d] H H' ∧ DiceAt H' d
theorem RD.ex {d : Addr} {H H' H'' : Hp} (h : RD d H H') (e : Ex H' H'') : RD d H H'' := ⟨h.1.trans (ExB.of e), h.2.mono e⟩
theorem RD.pre {d : Addr} {H H' H'' : Hp} (e : Ex H H') (h : RD d H' H'') : RD d H H'' := ⟨(ExB.of e).trans h.1, h.2⟩
theorem RD.trans {d : Addr} {H H' H'' : Hp} (h : RD d H H') (k : RD d H' H'') : RD d H H'' := ⟨h.1.trans k.1, k.2⟩
theorem RD.at_ {d p : Addr} {H H' : Hp} {o : HO} (h : RD d H H') (hp : H p = some o) (n : p ≠ d) : H' p = some o := h.1 _ _ (by rw [List.mem_singleton]; exact n) hp
def EvD (te : TE) (σ : L2.St) (H : Hp) (P : Hp → V → Hp → Prop) : Prop := ∀ H1, Ex H H1 → ∀ Q : VK, (∀ v H2, P H1 v H2 → Q v H2) → te σ H1 Q
section
variable {K : PySem.W.Frag} {σ : L2.St} {H : Hp} {ta tb te : TE} {d : Addr} {x y z : V} {P P1 P2 : Hp → V → Hp → Prop} {D : Ends} {tz : TS} {r : R2}
theorem ed_roll {t : Nat} (h1 : Ev ta σ H (.ref d)) (h2 : Ev tb σ H (nV t)) (hd : DiceAt H d) (t1 : 1 ≤ t) (t2 : t ≤ 1000) : EvD (tCall (spRoll K) [] E0 (tCons ta (tCons tb tNil))) σ H (fun H1 v H2 => ∃ r : Nat, r < t ∧ v = nV r ∧ RD d H1 H2) := fun H1 e Q q =>
  h1 H1 e _ fun H2 e2 => h2 H2 (e.trans e2) _ fun H3 e3 => ⟨d, t, rfl, t1, t2, hd.mono (e.trans (e2.trans e3)), fun r H4 hr x4 d4 => q _ H4 ⟨r, hr, rfl, RD.pre (e2.trans e3) ⟨x4, d4⟩⟩⟩
/-- the dice first, then what needs no dice -/
theorem ed_op (h1 : EvD ta σ H P1) (h2 : ∀ H1 x H2, Ex H H1 → P1 H1 x H2 → ∃ y z, Ev tb σ H2 y ∧ RV r x y H2 z ∧ ∀ H3, Ex H2 H3 → P2 H1 z H3) : EvD (tOp r ta tb) σ H P2 := fun H1 e Q q =>
  h1 H1 e _ fun x H2 p1 => by
    obtain ⟨y, z, hy, hz, p2⟩ := h2 H1 x H2 e p1
    exact hy H2 (Ex.refl _) _ fun H3 e3 => hz H3 e3 Q fun H4 e4 => q z H4 (p2 H4 (e3.trans e4))
theorem ed_op' (h1 : Ev ta σ H x) (h2 : EvD tb σ H P1) (h3 : ∀ H0 H1 y H2, Ex H H0 → Ex H0 H1 → P1 H1 y H2 → ∃ z, RV r x y H2 z ∧ ∀ H3, Ex H2 H3 → P2 H0 z H3) : EvD (tOp r ta tb) σ H P2 := fun H1 e Q q =>
  h1 H1 e _ fun H2 e2 => h2 H2 (e.trans e2) _ fun y H3 p1 => by
    obtain ⟨z, hz, p2⟩ := h3 H1 H2 y H3 e e2 p1
    exact hz H3 (Ex.refl _) Q fun H4 e4 => q z H4 (p2 H4 e4)
/-- a written value or another, by the dice -/
theorem ed_if2 (h : EvD te σ H (fun H1 v H2 => (∃ b : Bool, v = .bl b) ∧ RD d H1 H2)) : EvD (tIf (tTest te) (tC x) (tC y)) σ H (fun H1 v H2 => (v = x ∨ v = y) ∧ RD d H1 H2) := fun H1 e Q q =>
  h H1 e _ fun v H2 ⟨⟨b, hb⟩, rd⟩ => ⟨b, hb, by
    cases b with
    | true => exact q x H2 ⟨.inl rfl, rd⟩
    | false => exact q y H2 ⟨.inr rfl, rd⟩⟩
theorem q_asgD {i : Nat} (h : EvD te σ H P) (k : ∀ v H1, P H v H1 → tz D (σ.set i (some v)) H1) : tSeq (tAsg te (gName i)) tz D σ H := h H (Ex.refl _) _ fun v H1 p => k v H1 p
theorem s_retD (h : EvD te σ H P) (k : ∀ v H1, P H v H1 → D.rt v H1) : tRet te D σ H := h H (Ex.refl _) _ fun v H1 p => k v H1 p
theorem ed_tup3 {t1 t2 t3 : TE} {R2' : V → Hp → V → Hp → Prop} (h1 : Ev t1 σ H x) (h2 : EvD t2 σ H P1) (h3 : ∀ H1 y H2, Ex H H1 → P1 H1 y H2 → EvD t3 σ H2 (R2' y)) :
    EvD (tTup (tCons t1 (tCons t2 (tCons t3 tNil)))) σ H (fun H1 v H' => ∃ p y z H0 H2 H3, v = .ref p ∧ Ex H1 H0 ∧ P1 H0 y H2 ∧ R2' y H2 z H3 ∧ H3 p = none ∧ H' = upd H3 p (.tup [x, y, z])) := fun H1 e Q q =>
  h1 H1 e _ fun H0 e0 => h2 H0 (e.trans e0) _ fun y H2 p1 => h3 H0 y H2 (e.trans e0) p1 H2 (Ex.refl _) _ fun z H3 p2 => ⟨sz_of (by show 3 ≤ 100000; decide), fun p hp => q _ _ ⟨p, y, z, H0, H2, H3, rfl, e0, p1, p2, hp, rfl⟩⟩
/-- xs.append(..) -/
theorem s_appD {l : Addr} {xs : List V} (hl : H l = some (.lst xs)) (ha : Ev ta σ H (.ref l)) (h : EvD te σ H P) (hz : xs.length < 100000) (k : ∀ H1 v H2, Ex H H1 → P H1 v H2 → H2 l = some (.lst xs) ∧ D.nx σ (upd H2 l (.lst (xs ++ [v])))) :
    tDrop (tBM K "list" rAppend ta (tCons te tNil)) D σ H := ha H (Ex.refl H) _ fun H1 e1 =>
  ⟨Or.inl ⟨rfl, xs, sq_of (e1 l _ hl)⟩, h H1 e1 _ fun v H2 p => ⟨l, xs, v, rfl, rfl, (k H1 v H2 e1 p).1, sz_lt hz, (k H1 v H2 e1 p).2⟩⟩
theorem q_appD {l : Addr} {xs : List V} (hl : H l = some (.lst xs)) (ha : Ev ta σ H (.ref l)) (h : EvD te σ H P) (hz : xs.length < 100000) (k : ∀ H1 v H2, Ex H H1 → P H1 v H2 → H2 l = some (.lst xs) ∧ tz D σ (upd H2 l (.lst (xs ++ [v])))) :
    tSeq (tDrop (tBM K "list" rAppend ta (tCons te tNil))) tz D σ H := s_appD (D := { D with nx := tz D }) hl ha h hz k
/-- xs.pop(i), i by the dice -/
theorem ed_pop {l : Addr} {xs : List V} (hl : H l = some (.lst xs)) (nd : l ≠ d) (ha : Ev ta σ H (.ref l)) (h : EvD te σ H (fun H1 v H2 => ∃ r : Nat, r < xs.length ∧ v = nV r ∧ RD d H1 H2)) (hx : xs.length ≤ 100000) :
    EvD (tBM K "list" rPopAt ta (tCons te tNil)) σ H (fun H1 v H2 => ∃ (r : Nat) (H' : Hp), r < xs.length ∧ xs[r]? = some v ∧ RD d H1 H' ∧ H' l = some (.lst xs) ∧ H2 = upd H' l (.lst (xs.eraseIdx r))) := fun H1 e Q q =>
  ha H1 e _ fun H2 e2 => ⟨Or.inl ⟨rfl, xs, sq_of ((e.trans e2) l _ hl)⟩, h H2 (e.trans e2) _ fun v H3 ⟨r, hr, hv, rd⟩ => by
    have h3 : H3 l = some (.lst xs) := rd.at_ ((e.trans e2) _ _ hl) nd
    have hy : xs[r]? = some xs[r] := List.getElem?_eq_getElem hr
    exact ⟨l, xs, r, r, xs[r], rfl, by rw [hv], h3, by omega, by omega, (ixN_seq (ixN_nat hr)).1, hy, q _ _ ⟨r, H3, hr, hy, RD.pre e2 rd, h3, rfl⟩⟩⟩
end
section
variable {P : Program} {w : World} {K : PySem.W.Frag} {mg : Str → Option Value} {base : Heap}
/-! ### _law_mixed -/
abbrev sMix : Stmt := top 58
def spMix (K : PySem.W.Frag) : Sp := fun vs H Q _ => ∃ (d Li : Addr) (xs : List V), vs = [.ref d, .ref Li] ∧ DiceAt H d ∧ H Li = some (.lst xs) ∧ xs.length ≤ 1000 ∧ Li ≠ d ∧ ∀ p H' ys, ExB [d] H H' → DiceAt H' d → H p = none → H' p = some (.lst ys) → ys.Perm xs → Q (.ref p) H'
abbrev nMix : List Str := ["_law_dice_here", "_law_items", "_law_left", "_law_found", "_law_turn"]
theorem scMix : FnScope nMix ["_law_dice_here", "_law_items"] (defScope sMix) := ⟨rfl, rfl, rfl, by decide +kernel, rfl, by decide +kernel, by decide +kernel⟩
theorem ok_mix (B : Free mg) (Fr : Pr P w K mg base 1 "_law_roll" ["_law_dice_here", "_law_total"] (spRoll K)) (F : FnG K "_law_mixed" sMix) (hm : mg "_law_mixed" = some (.ref (He.ga K "_law_mixed"))) : Pr P w K mg base 2 "_law_mixed" ["_law_dice_here", "_law_items"] (spMix K) := by
  refine pr_mk F hm scMix (fun _ _ _ _ _ _ us hl => match us, hl with | [_, _], _ => rfl) (fun vs H Q E h => ?_) (fun f cdv A outer s H vs Q E hr h => ?_)
  · obtain ⟨d, Li, xs, rfl, _⟩ := h
    rfl
  · obtain ⟨d, Li, xs, rfl, hd, hLi, hx, hne, k⟩ := h
    refine ⟨_, pss_cons (ps_par (i := 2) (j := 3) rfl scMix.nd rfl rfl (by decide) rfl rfl (pa_cons (pe_callTy call_list_of (by rfl) B.list b_list (pa_cons (pv 1) pa_nil)) (pa_cons (pe_lst pa_nil) pa_nil)) rfl)
      (pss_cons (ps_for PassesOwn.never rfl (pi_range1 (by rfl) B.range (pa_cons (pe_callB call_len_seq (by rfl) B.len b_len (pa_cons (pv 1) pa_nil)) pa_nil)) (pg_name (i := 4) scMix.nd rfl (Or.inl rfl))
        (pss_one (ps_expr (pe_bm PySem.F.plainAttrs_list PySem.F.slot_list_append PySem.F.type_list_append mt_append (pv 3) (pa_cons
          (pe_bm PySem.F.plainAttrs_list PySem.F.slot_list_pop PySem.F.type_list_pop mt_popAt (pv 2) (pa_cons (pe_g Fr hr (pa_cons (pv 0) (pa_cons (pe_callB call_len_seq (by rfl) B.len b_len (pa_cons (pv 2) pa_nil)) pa_nil))) pa_nil)) pa_nil)))))
      (pss_one (ps_ret (pv 3)))), ?_⟩
    have hd0 : ∃ o, H d = some o := by obtain ⟨a, s, c, h⟩ := hd; exact ⟨_, h⟩
    have nfd : ∀ {p : Addr}, H p = none → p ≠ d := fun hp z => by obtain ⟨o, h⟩ := hd0; rw [z, h] at hp; cases hp
    refine q_parP (PP := fun vs H' => ∃ a b, vs = [.ref a, .ref b] ∧ H a = none ∧ H b = none ∧ a ≠ b ∧ H' a = some (.lst xs) ∧ H' b = some (.lst [])) (eap_cons (ep_el (el_listOf (ev_var rfl) hLi)) fun u1 H1 e1 ⟨a, hu, ha, h1⟩ => eap_cons (ep_el (el_lst ea_nil (by show 0 ≤ 100000; decide))) fun u2 H2 e2 ⟨b, hu2, hb, h2⟩ => fun H3 e3 Q3 q3 => q3 [] H3 (Ex.refl _)
      ⟨a, b, by rw [hu, hu2], ha, fresh_back e1 hb, (fun z => by rw [z] at h1; rw [h1] at hb; cases hb), e3 _ _ (e2 _ _ h1), e3 _ _ h2⟩) fun vs H1 e1 ⟨Ll, Lf, hvs, nl, nf, nlf, h1l, h1f⟩ => ⟨.ref Ll, .ref Lf, hvs, ?_⟩
    have dl := nfd nl
    have df := nfd nf
    refine q_forM (M := [d, Ll, Lf]) (n := xs.length) (overM_rng1 (σ := [some (.ref d), some (.ref Li), some (.ref Ll), some (.ref Lf), none]) (tA := tCons (tCB (rLen K) (tCons (tVar 1) tNil)) tNil) (ea_cons (ev_lenS (ev_var rfl) (Sq.l (K := K) (e1 _ _ hLi))) ea_nil) (by omega)) yFn_ex
      (fun H5 i σ' H' => ExB [d, Ll, Lf] H5 H' ∧ DiceAt H' d ∧ ∃ (ls fs : List V) (y4 : Option V), σ' = [some (.ref d), some (.ref Li), some (.ref Ll), some (.ref Lf), y4] ∧ H' Ll = some (.lst ls) ∧ H' Lf = some (.lst fs) ∧ (ls ++ fs).Perm xs ∧ ls.length + i = xs.length)
      (fun H5 e5 => ⟨ExB.refl _, hd.mono (e1.trans e5), xs, [], none, rfl, e5 _ _ h1l, e5 _ _ h1f, by rw [List.append_nil], rfl⟩) (fun H5 i σ' H' q => q.1) ?_ ?_
    · rintro H5 e5 i x σ' H6 H7 hi ⟨x6, d6, ls, fs, y4, rfl, h6l, h6f, pm, hl⟩ hy e7
      obtain ⟨rfl, rfl⟩ := hy
      show tDrop _ _ [some (.ref d), some (.ref Li), some (.ref Ll), some (.ref Lf), some (V.int (0 + (i : Int)))] _
      refine s_appD h6f (ev_var rfl) (ed_pop h6l dl (ev_var rfl) (ed_roll (ev_var rfl) (ev_lenS (K := K) (ev_var rfl) (Sq.l h6l)) d6 (by omega) (by omega)) (by omega)) (by have := pm.length_eq; rw [List.length_append] at this; omega) fun H8 v H9 e8 ⟨r, H10, hr', hy, rd, h10, hH⟩ => ?_
      subst hH
      have h10f : H10 Lf = some (.lst fs) := rd.at_ (e8 _ _ h6f) df
      have pe := erase_perm hy
      refine ⟨by rw [upd_ne (Ne.symm nlf)]; exact h10f, ?_, ?_, ls.eraseIdx r, fs ++ [v], some (V.int (0 + (i : Int))), rfl, by rw [upd_ne nlf, upd_same], upd_same, ?_, by rw [List.length_eraseIdx, if_pos hr']; omega⟩
      · refine ExB.upd (ExB.upd ((x6.trans (ExB.of e8)).trans fun a o na ha => rd.1 a o (fun m => na (by rw [List.mem_singleton.mp m]; exact List.mem_cons_self)) ha) (List.mem_cons_of_mem _ List.mem_cons_self)) (List.mem_cons_of_mem _ (List.mem_cons_of_mem _ List.mem_cons_self))
      · obtain ⟨a, s, c, h⟩ := rd.2
        exact ⟨a, s, c, by rw [upd_ne (Ne.symm df), upd_ne (Ne.symm dl)]; exact h⟩
      · refine List.Perm.trans ?_ pm
        have h1 : (ls.eraseIdx r ++ (fs ++ [v])).Perm ((ls.eraseIdx r ++ [v]) ++ fs) := by
          rw [List.append_assoc]
          exact (List.perm_append_comm).append_left _
        exact h1.trans (pe.append_right fs)
    · rintro H5 e5 σ' H6 ⟨x6, d6, ls, fs, y4, rfl, h6l, h6f, pm, hl⟩
      have l0 : ls = [] := List.eq_nil_of_length_eq_zero (by omega)
      subst l0
      have xx : ExB [d] H H6 := ExB.shrink (e1.trans e5) x6 fun m hm' hne' => by
        rcases List.mem_cons.mp hm' with rfl | hm'
        · exact absurd rfl hne'
        · rcases List.mem_cons.mp hm' with rfl | hm'
          · exact nl
          · rw [List.mem_singleton.mp hm']; exact nf
      exact s_ret (ev_var rfl) fun H7 e7 => k Lf H7 fs (xx.trans (ExB.of e7)) (d6.mono e7) nf (e7 _ _ h6f) pm
/-! ### _law_some -/
abbrev sSome : Stmt := top 59
def spSome (K : PySem.W.Frag) : Sp := fun vs H Q _ => ∃ (d Li : Addr) (xs : List Nat), vs = [.ref d, .ref Li] ∧ DiceAt H d ∧ H Li = some (.lst (xs.map nV)) ∧ xs.length ≤ 1000 ∧ Li ≠ d ∧ ∀ (p : Addr) (H' : Hp) (ys : List Nat), ExB [d] H H' → DiceAt H' d → H p = none → H' p = some (.lst (ys.map nV)) → ys.Sublist xs → Q (.ref p) H'
abbrev nSome : List Str := ["_law_dice_here", "_law_items", "_law_item"]
theorem scSome : FnScope nSome ["_law_dice_here", "_law_items"] (defScope sSome) := ⟨rfl, rfl, rfl, by decide +kernel, rfl, by decide +kernel, by decide +kernel⟩
theorem ok_some (B : Free mg) (Fr : Pr P w K mg base 1 "_law_roll" ["_law_dice_here", "_law_total"] (spRoll K)) (F : FnG K "_law_some" sSome) (hm : mg "_law_some" = some (.ref (He.ga K "_law_some"))) : Pr P w K mg base 2 "_law_some" ["_law_dice_here", "_law_items"] (spSome K) := by
  refine pr_mk F hm scSome (fun _ _ _ _ _ _ us hl => match us, hl with | [_, _], _ => rfl) (fun vs H Q E h => ?_) (fun f cdv A outer s H vs Q E hr h => ?_)
  · obtain ⟨d, Li, xs, rfl, _⟩ := h
    rfl
  · obtain ⟨d, Li, xs, rfl, hd, hLi, hx, hne, k⟩ := h
    refine ⟨_, pss_one (ps_ret (pe_lc (own := [("_law_item", 2)]) (g := gName 2) (tt := tTest (tOp rEq (tCall (spRoll K) [] E0 (tCons (tVar 0) (tCons (tC (.int 2)) tNil))) (tC (.int 0)))) (te := tVar 2) rfl scSome.nd (pi_list (pv 1)) (blkOk_by (by kernel_rfl))
      (fun _ _ _ _ _ => pg_name (i := 2) scSome.nd rfl (Or.inl rfl)) (fun _ _ _ _ _ => pts_one (pt_cmpR op_eq (pe_g Fr hr (pa_cons (pv 0) (pa_cons pe_int pa_nil))) pe_int (nomark _))) (fun _ _ _ _ _ => pv 2))), ?_⟩
    show tLc _ _ _ _ _ _ _ _
    have ov : OverM (iList K (tVar 1)) [some (.ref d), some (.ref Li), none] H [d] (xs.map nV).length (YAt (xs.map nV)) := fun R kk => ev_var (v := .ref Li) rfl H (Ex.refl _) _ fun H1 e1 => overM_at (K := K) (σ := []) (M := [d]) (e1 _ _ hLi) (by rw [List.mem_singleton]; exact hne) R fun J H2 G e2 w g => kk J H2 G (e1.trans e2) w g
    refine ep_lcD ov (by rw [List.length_map]; omega) yAt_ex hd (fun ks i => ks.Sublist (xs.take i)) (List.Sublist.refl _) (fun i x H1 H2 hi x1 d1 hy => ?_) _ fun D H' ks hD x' d' hk hr' _ => k D H' ks x' d' hD hk (by rw [List.length_map, List.take_length] at hr'; exact hr')
    obtain ⟨rfl, hx⟩ := hy
    rw [List.getElem?_map] at hx
    obtain ⟨q, hq, rfl⟩ := Option.map_eq_some_iff.mp hx
    have et : xs.take (i + 1) = xs.take i ++ [q] := by rw [List.take_add_one, hq]; rfl
    refine ⟨[some (.ref d), some (.ref Li), some (nV q)], rfl, fun Qs h => h, fun Q2 q2 => ?_⟩
    refine ed_roll (t := 2) (ev_var rfl) (ev_c (v := .int 2)) d1 (by omega) (by omega) H2 (Ex.refl _) _ fun v H3 ⟨r, hr3, hv, x3, d3⟩ => ?_
    subst hv
    refine ⟨rfl, decide (V.int (r : Int) = V.int 0), rfl, q2 _ H3 x3 d3 (fun _ Q3 q3 => ⟨_, rfl, q3 q H3 (ExB.refl _) d3 fun ks hks => ?_⟩) fun _ ks hks => ?_⟩
    · rw [et]; exact hks.append (List.Sublist.refl _)
    · rw [et]; exact hks.trans (List.sublist_append_left _ _)
/-! ### _law_building -/
abbrev sBing : Stmt := top 60
def spBing (n : Nat) : Sp := fun vs H Q _ => ∃ (d : Addr) (m : Nat), vs = [.ref d, nV m] ∧ 1 ≤ m ∧ m ≤ n ∧ m ≤ 100 ∧ DiceAt H d ∧ ∀ v b H', ExB [d] H H' → DiceAt H' d → BldP H' b v → b.leaves = m → Q v H'
theorem ed_bing {n j : Nat} {σ : L2.St} {H : Hp} {ta tb : TE} {d : Addr} (h1 : Ev ta σ H (.ref d)) (h2 : Ev tb σ H (nV j)) (hd : DiceAt H d) (j1 : 1 ≤ j) (j2 : j ≤ n) (j3 : j ≤ 100) : EvD (tCall (spBing n) [] E0 (tCons ta (tCons tb tNil))) σ H (fun H2 v H3 => ∃ b : Bld, BldP H3 b v ∧ b.leaves = j ∧ RD d H2 H3) := fun H2 e2 Q2 q2 =>
  h1 H2 e2 _ fun H3 e3 => h2 H3 (e2.trans e3) _ fun H4 e4 => ⟨d, j, rfl, j1, j2, j3, hd.mono (e2.trans (e3.trans e4)), fun v b H5 x5 d5 hb5 lb => q2 v H5 ⟨b, hb5, lb, RD.pre (e3.trans e4) ⟨x5, d5⟩⟩⟩
abbrev nBing : List Str := ["_law_dice_here", "_law_leaves", "_law_cut", "_law_word"]
theorem scBing : FnScope nBing ["_law_dice_here", "_law_leaves"] (defScope sBing) := ⟨rfl, rfl, rfl, by decide +kernel, rfl, by decide +kernel, by decide +kernel⟩
theorem ok_bing (B : Free mg) (Fr : Pr P w K mg base 1 "_law_roll" ["_law_dice_here", "_law_total"] (spRoll K)) (F : FnG K "_law_building" sBing) (hm : mg "_law_building" = some (.ref (He.ga K "_law_building"))) : ∀ n, Pr P w K mg base (2 + n) "_law_building" ["_law_dice_here", "_law_leaves"] (spBing n)
  | 0 => by
    refine pr_mk (k := 1) F hm scBing (fun _ _ _ _ _ _ us hl => match us, hl with | [_, _], _ => rfl) (fun vs H Q E h => ?_) (fun f cdv A outer s H vs Q E hr h => ?_)
    · obtain ⟨d, m, rfl, _⟩ := h
      rfl
    · obtain ⟨d, m, rfl, h1, h2, _⟩ := h
      omega
  | n + 1 => by
    have Fs := ok_bing B Fr F hm n
    refine pr_mk (k := 2 + n) F hm scBing (fun _ _ _ _ _ _ us hl => match us, hl with | [_, _], _ => rfl) (fun vs H Q E h => ?_) (fun f cdv A outer s H vs Q E hr h => ?_)
    · obtain ⟨d, m, rfl, _⟩ := h
      rfl
    · obtain ⟨d, m, rfl, h1, h2, h3, hd, k⟩ := h
      have hr1 := hr.mono (show 1 ≤ 2 + n by omega)
      refine ⟨_, pss_cons (ps_if (pt_cmpR op_eq (pv 1) pe_int (nomark _)) (pss_one (ps_ret (pe_ifExp (pt_cmpR op_eq (pe_g Fr hr1 (pa_cons (pv 0) (pa_cons pe_int pa_nil))) pe_int (nomark _)) pe_str pe_str))) pss_nil)
        (pss_cons (ps_set (i := 2) scBing.nd rfl (Or.inl rfl) (pe_op op_add pe_int (pe_g Fr hr1 (pa_cons (pv 0) (pa_cons (pe_op op_sub (pv 1) pe_int) pa_nil)))))
        (pss_cons (ps_set (i := 3) scBing.nd rfl (Or.inl rfl) (pe_ifExp (pt_cmpR op_lt (pe_g Fr hr1 (pa_cons (pv 0) (pa_cons pe_int pa_nil))) pe_int (nomark _)) pe_str pe_str))
        (pss_one (ps_ret (pe_tup (pa_cons (pv 3) (pa_cons (pe_g Fs hr (pa_cons (pv 0) (pa_cons (pv 2) pa_nil))) (pa_cons (pe_g Fs hr (pa_cons (pv 0) (pa_cons (pe_op op_sub (pv 1) (pv 2)) pa_nil))) pa_nil)))))))), ?_⟩
      refine q_when (b := decide (m = 1)) (et_test (ev_eqN (ev_var rfl) (ev_c (v := nV 1)) rfl)) (fun hc H1 e1 => ?_) (fun hc H1 e1 => ?_)
      · have hc := of_decide_eq_true hc
        subst hc
        refine s_retD (ed_if2 (ed_op (P2 := fun H1 v H2 => (∃ b : Bool, v = .bl b) ∧ RD d H1 H2) (ed_roll (t := 4) (ev_var rfl) (ev_c (v := .int 4)) (hd.mono e1) (by omega) (by omega)) fun H2 v H3 e2 ⟨r, hr', hv, rd⟩ => ⟨.int 0, .bl (decide (v = V.int 0)), ev_c, rv_eq (by rw [hv]; rfl), fun H4 e4 => ⟨⟨_, rfl⟩, rd.ex e4⟩⟩)) fun v H2 ⟨hv, rd⟩ => ?_
        have rd' := RD.pre e1 rd
        rcases hv with rfl | rfl
        · exact k _ .gap H2 rd'.1 rd'.2 rfl rfl
        · exact k _ .tie H2 rd'.1 rd'.2 rfl rfl
      · have hc := of_decide_eq_false hc
        refine q_asgD (ed_op' (P2 := fun H1 v H2 => ∃ c : Nat, 1 ≤ c ∧ c ≤ m - 1 ∧ v = nV c ∧ RD d H1 H2) ev_c (ed_roll (t := m - 1) (ev_var rfl) (by
            have := ev_sub (ta := tVar 1) (σ := [some (.ref d), some (nV m), none, none]) (H := H1) (ev_var rfl) (ev_c (v := .int 1))
            rw [show ((m : Int) - 1) = ((m - 1 : Nat) : Int) by omega] at this
            exact this) (hd.mono e1) (by omega) (by omega)) fun H2 H3 v H4 e2 e3 ⟨r, hr', hv, rd⟩ => ⟨.int (1 + (r : Int)), by rw [hv]; exact rv_I0, fun H5 e5 => ⟨1 + r, by omega, by omega, by show V.int (1 + (r : Int)) = V.int ((1 + r : Nat) : Int); rw [show ((1 + r : Nat) : Int) = 1 + (r : Int) by omega], RD.pre e3 (rd.ex e5)⟩⟩) fun v H2 ⟨c, c1, c2, hv, rd2⟩ => ?_
        subst hv
        refine q_asgD (ed_if2 (ed_op (P2 := fun H1 v H2 => (∃ b : Bool, v = .bl b) ∧ RD d H1 H2) (ed_roll (t := 5) (ev_var rfl) (ev_c (v := .int 5)) rd2.2 (by omega) (by omega)) fun H3 v H4 e3 ⟨r, hr', hv, rd⟩ => ⟨.int 2, .bl (decide ((r : Int) < 2)), ev_c, by rw [hv]; exact rv_I0, fun H5 e5 => ⟨⟨_, rfl⟩, rd.ex e5⟩⟩)) fun v H3 ⟨hv, rd3⟩ => ?_
        have wd : ∃ r0 : Bool, ∀ a b : Bld, v = .str (jn r0 a b).word := by
          rcases hv with rfl | rfl
          · exact ⟨false, fun _ _ => rfl⟩
          · exact ⟨true, fun _ _ => rfl⟩
        obtain ⟨r0, hw⟩ := wd
        show tRet _ _ [some (.ref d), some (nV m), some (nV c), some v] _
        have rdA := (RD.pre e1 rd2).trans rd3
        refine s_retD (ed_tup3 (x := v) (ev_var rfl) (ed_bing (n := n) (j := c) (ev_var rfl) (ev_var rfl) rd3.2 c1 (by omega) (by omega)) (R2' := fun _ H5 z H6 => ∃ b : Bld, BldP H6 b z ∧ b.leaves = m - c ∧ RD d H5 H6) fun H4 x H5 e4 ⟨a, ha, la, rd5⟩ => ed_bing (n := n) (j := m - c) (ev_var rfl) (by
            have := ev_sub (ta := tVar 1) (tb := tVar 2) (σ := [some (.ref d), some (nV m), some (nV c), some v]) (H := H5) (ev_var rfl) (ev_var rfl)
            rw [show ((m : Int) - (c : Int)) = ((m - c : Nat) : Int) by omega] at this
            exact this) rd5.2 (by omega) (by omega) (by omega)) fun u H7 ⟨p, x, y, H4, H5, H6, hu, e4, ⟨a, ha, la, rd5⟩, ⟨b, hb, lb, rd6⟩, hp, hH⟩ => ?_
        subst hu hH
        have rdB := ((RD.ex rdA e4).trans rd5).trans rd6
        have rdC := rdB.ex (Ex.new (o := .tup [v, x, y]) hp)
        refine k (.ref p) (jn r0 a b) _ rdC.1 rdC.2 (BldP.join ⟨p, rfl, by rw [← hw a b]; exact upd_same⟩ ((BldP.monoD rd6.1 rd5.2 ha).mono (Ex.new hp)) (hb.mono (Ex.new hp))) (by rw [jn_leaves]; omega)
end
end K46
set_option Elab.async false
set_option linter.all false
set_option autoImplicit false
set_option maxRecDepth 100000
namespace K46
open PySem PySem.Spec PyProof.Rows L2 Evl
set_option maxHeartbeats 4000000
section
variable {K : PySem.W.Frag} {σ : L2.St} {H : Hp} {ta tb te t1 t2 t3 t4 : TE} {d : Addr} {x3 x4 : V} {P P1 P2 : Hp → V → Hp → Prop} {D : Ends} {tz : TS}
/-- tuple(..) of a new list of numbers, the dice rolled on the way -/
theorem ed_tupL {P : Hp → List Nat → Hp → Prop} (h : EvD te σ H (fun H1 v H2 => ∃ (p : Addr) (l : List Nat), v = .ref p ∧ H2 p = some (.lst (l.map nV)) ∧ RD d H1 H2 ∧ P H1 l H2)) : EvD (tCB (rTup K) (tCons te tNil)) σ H (fun H1 v H2 => ∃ (l : List Nat) (H' : Hp), TupN H2 v l ∧ RD d H1 H2 ∧ P H1 l H') := fun H1 e Q q =>
  h H1 e _ fun v H2 ⟨p, l, hv, hp, rd, pl⟩ => ⟨p, l.map nV, by rw [hv], .inl ⟨sq_of hp, fun a ha => q _ _ ⟨l, H2, ⟨a, rfl, upd_same⟩, rd.ex (Ex.new ha), pl⟩⟩⟩
/-- one drawn row -/
theorem ed_row {n : Nat} (s0 : σ[0]? = some (some (.ref d))) (s2 : σ[2]? = some (some (nV n))) (hw0 : (wipe σ [8])[0]? = some (some (.ref d))) (hl : 8 < σ.length) (hd : DiceAt H d) (n1 : 1 ≤ n) (n2 : n ≤ 1000) :
    EvD (tCB (rTup K) (tCons (tLc (iRng1 (tCons (tVar 2) tNil)) (gName 8) tYes (tCall (spRoll K) [] E0 (tCons (tVar 0) (tCons (tVar 2) tNil))) [8]) tNil)) σ H (fun H1 v H2 => ∃ l : List Nat, l.length = n ∧ (∀ x ∈ l, x < n) ∧ TupN H2 v l ∧ RD d H1 H2) := by
  have key : EvD (tLc (iRng1 (tCons (tVar 2) tNil)) (gName 8) tYes (tCall (spRoll K) [] E0 (tCons (tVar 0) (tCons (tVar 2) tNil))) [8]) σ H (fun H1 v H2 => ∃ (p : Addr) (l : List Nat), v = .ref p ∧ H2 p = some (.lst (l.map nV)) ∧ RD d H1 H2 ∧ (l.length = n ∧ ∀ x ∈ l, x < n)) := fun H1 e1 Q q =>
    ep_lcD (overM_rng1 (ea_cons (ev_var s2) ea_nil) (by omega)) (by omega) yFn_ex (hd.mono e1) (fun ks i => ks.length = i ∧ ∀ x ∈ ks, x < n) ⟨rfl, fun x hx => nomatch hx⟩ (fun i x H2 H3 hi x2 d2 hy => by
      obtain ⟨rfl, rfl⟩ := hy
      refine ⟨(wipe σ [8]).set 8 (some (.int (0 + (i : Int)))), ?_, fun Qs h => h, fun Q2 q2 => q2 true _ (ExB.refl _) d2 (fun _ Q3 q3 => ?_) (fun z => by cases z)⟩
      · show ((σ.set 8 none).set 8 (some (V.int (0 + (i : Int))))).set 8 none = σ.set 8 none
        rw [List.set_set, List.set_set]
      · have s0' : ((wipe σ [8]).set 8 (some (V.int (0 + (i : Int)))))[0]? = some (some (.ref d)) := by
          rw [List.getElem?_set_ne (by decide)]; exact hw0
        have s2' : ((wipe σ [8]).set 8 (some (V.int (0 + (i : Int)))))[2]? = some (some (nV n)) := by
          rw [List.getElem?_set_ne (by decide)]
          show (σ.set 8 none)[2]? = _
          rw [List.getElem?_set_ne (by decide)]; exact s2
        refine ed_roll (ev_var s0') (ev_var s2') d2 n1 n2 _ (Ex.refl _) _ fun v H4 ⟨r, hr, hv, rd⟩ => ?_
        subst hv
        exact q3 r H4 rd.1 rd.2 fun ks ⟨k1, k2⟩ => ⟨by rw [List.length_append, k1]; rfl, fun x hx => by
          rcases List.mem_append.mp hx with hx | hx
          · exact k2 x hx
          · rw [List.mem_singleton.mp hx]; exact hr⟩) Q fun Dd H' ks hDd x' d' hk hr _ => q _ H' ⟨Dd, ks, rfl, hk, ⟨x', d'⟩, hr⟩
  exact fun H1 e1 Q q => ed_tupL (d := d) (P := fun _ l _ => l.length = n ∧ ∀ x ∈ l, x < n) key H1 e1 Q fun v H2 ⟨l, H', ht, rd, h1, h2⟩ => q v H2 ⟨l, h1, h2, ht, rd⟩
/-- some of the first n numbers -/
theorem ed_some {n : Nat} (h1 : Ev ta σ H (.ref d)) (h2 : EvL tb σ H ((List.range n).map nV)) (hd : DiceAt H d) (hn : n ≤ 1000) : EvD (tCall (spSome K) [] E0 (tCons ta (tCons tb tNil))) σ H (fun H1 v H2 => ∃ (p : Addr) (l : List Nat), v = .ref p ∧ H2 p = some (.lst (l.map nV)) ∧ RD d H1 H2 ∧ l.Sublist (List.range n)) := fun H1 e Q q =>
  h1 H1 e _ fun H2 e2 => h2 H2 (e.trans e2) _ fun p H3 hp e3 h3 => ⟨d, p, List.range n, rfl, hd.mono (e.trans (e2.trans e3)), h3, by rw [List.length_range]; exact hn, (fun z => by
    obtain ⟨a, s, c, h⟩ := hd.mono (e.trans e2)
    rw [z, h] at hp; cases hp), fun p' H4 ys x4 d4 hp' h4 sub => q _ H4 ⟨p', ys, rfl, h4, RD.pre (e2.trans e3) ⟨x4, d4⟩, sub⟩⟩
/-- {..: two rolls, two that stand} -/
theorem ed_disp4 {k1 k2 k3 k4 : Str} (hd : DiceAt H d) (h1 : EvD t1 σ H (fun H1 v H2 => P1 H1 v H2 ∧ RD d H1 H2)) (h2 : ∀ H1 v H2, Ex H H1 → P1 H1 v H2 ∧ RD d H1 H2 → EvD t2 σ H2 (fun H2' w H3 => P2 H2' w H3 ∧ RD d H2' H3)) (s3 : ∀ H1, Ev t3 σ H1 x3) (s4 : ∀ H1, Ev t4 σ H1 x4)
    (nd : ([(kx k1, x3), (kx k2, x3), (kx k3, x3), (kx k4, x4)].map (·.1)).Nodup) :
    EvD (tDisp [(tC (.str k1), t1), (tC (.str k2), t2), (tC (.str k3), t3), (tC (.str k4), t4)]) σ H (fun H1 v H' => ∃ (p : Addr) (v1 v2 : V) (Ha Hb Hc Hd : Hp), v = .ref p ∧ H1 p = none ∧ P1 Ha v1 Hb ∧ P2 Hb v2 Hc ∧ RD d H1 Hd ∧ Hd p = some (.dK []) ∧ H' = upd Hd p (.dK [(kx k1, v1), (kx k2, v2), (kx k3, x3), (kx k4, x4)])) := fun H1 e Q q p hp => by
  have ep : Ex H1 (upd H1 p (.dK [])) := Ex.new hp
  have npd : p ≠ d := fun z => by
    obtain ⟨a, s, c, h⟩ := hd.mono e
    rw [z, h] at hp; cases hp
  refine h1 _ (e.trans ep) _ fun v1 Hb p1 => h2 _ v1 Hb (e.trans ep) p1 Hb (Ex.refl _) _ fun v2 Hc p2 => s3 Hc Hc (Ex.refl _) _ fun H3 e3 => s4 H3 H3 (Ex.refl _) _ fun H4 e4 => ?_
  have rd : RD d H1 H4 := ((RD.pre ep p1.2).trans p2.2).ex (e3.trans e4)
  have hp4 : H4 p = some (.dK []) := (e3.trans e4) _ _ (p2.2.at_ (p1.2.at_ upd_same npd) npd)
  refine ⟨hp4, [(kx k1, v1), (kx k2, v2), (kx k3, x3), (kx k4, x4)], rfl, by show 4 ≤ 15; decide, q _ _ ⟨p, v1, v2, _, Hb, Hc, H4, rfl, hp, p1.1, p2.1, rd, hp4, by rw [mergeK_nodup (by exact nd)]⟩⟩
end
theorem sub_asc {n : Nat} {l : List Nat} (h : l.Sublist (List.range n)) : l.Pairwise (· < ·) ∧ ∀ x ∈ l, x < n := ⟨List.Pairwise.sublist h List.pairwise_lt_range, fun x hx => List.mem_range.mp (h.subset hx)⟩
section
variable {P : Program} {w : World} {K : PySem.W.Frag} {mg : Str → Option Value} {base : Heap}
/-! ### _law_plain_table -/
abbrev sPt : Stmt := top 64
def spPt (K : PySem.W.Frag) : Sp := fun vs H Q _ => ∃ (d : Addr) (most : Nat), vs = [.ref d, nV most] ∧ 1 ≤ most ∧ most ≤ 6 ∧ DiceAt H d ∧ ∀ v T H', RD d H H' → Plain H' v T → T.Ok → T.n ≤ most → Q v H'
abbrev nPt : List Str := ["_law_dice_here", "_law_most", "_law_many", "_law_rows", "_law_sides", "_law_one", "_law_accepted", "_law_found", "_law_other"]
theorem scPt : FnScope nPt ["_law_dice_here", "_law_most"] (defScope sPt) := ⟨rfl, rfl, rfl, by decide +kernel, rfl, by decide +kernel, by decide +kernel⟩
abbrev tRow (K : PySem.W.Frag) : TE := tCB (rTup K) (tCons (tLc (iRng1 (tCons (tVar 2) tNil)) (gName 8) tYes (tCall (spRoll K) [] E0 (tCons (tVar 0) (tCons (tVar 2) tNil))) [8]) tNil)
theorem ok_pt (B : Free mg) (Fr : Pr P w K mg base 1 "_law_roll" ["_law_dice_here", "_law_total"] (spRoll K)) (Fs : Pr P w K mg base 2 "_law_some" ["_law_dice_here", "_law_items"] (spSome K)) (F : FnG K "_law_plain_table" sPt) (hm : mg "_law_plain_table" = some (.ref (He.ga K "_law_plain_table"))) :
    Pr P w K mg base 3 "_law_plain_table" ["_law_dice_here", "_law_most"] (spPt K) := by
  refine pr_mk F hm scPt (fun _ _ _ _ _ _ us hl => match us, hl with | [_, _], _ => rfl) (fun vs H Q E h => ?_) (fun f cdv A outer s H vs Q E hr h => ?_)
  · obtain ⟨d, m, rfl, _⟩ := h
    rfl
  · obtain ⟨d, most, rfl, m1, m2, hd, k⟩ := h
    have hu := hu_of hr
    have hr1 := hr.mono (show 1 ≤ 2 by decide)
    refine ⟨_, pss_cons (ps_set (i := 2) scPt.nd rfl (Or.inr rfl) (pe_op op_add pe_int (pe_g Fr hr1 (pa_cons (pv 0) (pa_cons (pv 1) pa_nil)))))
      (pss_cons (ps_par (i := 3) (j := 4) rfl scPt.nd rfl rfl (by decide) rfl rfl (pa_cons (pe_lst pa_nil) (pa_cons (pe_lst pa_nil) pa_nil)) rfl)
      (pss_cons (ps_for PassesOwn.never rfl (pi_range1 (by rfl) B.range (pa_cons (pv 2) pa_nil)) (pg_name (i := 5) scPt.nd rfl (Or.inl rfl))
        (pss_cons (ps_expr (pe_bm PySem.F.plainAttrs_list PySem.F.slot_list_append PySem.F.type_list_append mt_append (pv 3) (pa_cons (pe_callTy call_tuple_of (by rfl) B.tuple b_tuple (pa_cons
            (pe_lc (own := [("_law_other", 8)]) (g := gName 8) (tt := tYes) (te := tCall (spRoll K) [] E0 (tCons (tVar 0) (tCons (tVar 2) tNil))) rfl scPt.nd (pi_range1 (by rfl) B.range (pa_cons (pv 2) pa_nil)) (blkOk_by (by kernel_rfl))
              (fun _ _ _ _ _ => pg_name (i := 8) scPt.nd rfl (Or.inl rfl)) (fun _ _ _ _ _ => pts_nil) (fun _ _ _ _ _ => pe_g Fr hr1 (pa_cons (pv 0) (pa_cons (pv 2) pa_nil)))) pa_nil)) pa_nil)))
        (pss_one (ps_expr (pe_bm PySem.F.plainAttrs_list PySem.F.slot_list_append PySem.F.type_list_append mt_append (pv 4) (pa_cons (pe_callTy call_tuple_of (by rfl) B.tuple b_tuple (pa_cons
            (pe_lc (own := [("_law_other", 8)]) (g := gName 8) (tt := tYes) (te := tCall (spRoll K) [] E0 (tCons (tVar 0) (tCons (tVar 2) tNil))) rfl scPt.nd (pi_range1 (by rfl) B.range (pa_cons (pv 2) pa_nil)) (blkOk_by (by kernel_rfl))
              (fun _ _ _ _ _ => pg_name (i := 8) scPt.nd rfl (Or.inl rfl)) (fun _ _ _ _ _ => pts_nil) (fun _ _ _ _ _ => pe_g Fr hr1 (pa_cons (pv 0) (pa_cons (pv 2) pa_nil)))) pa_nil)) pa_nil))))))
      (pss_cons (ps_set (i := 6) scPt.nd rfl (Or.inl rfl) (pe_callTy call_tuple_of (by rfl) B.tuple b_tuple (pa_cons (pe_g Fs hr (pa_cons (pv 0) (pa_cons (pe_listRg rfl (by rfl) B.list (prg_1 (by rfl) B.range (pv 2))) pa_nil))) pa_nil)))
      (pss_cons (ps_set (i := 7) scPt.nd rfl (Or.inl rfl) (pe_disp (pps_cons pe_str (pe_g Fr hr1 (pa_cons (pv 0) (pa_cons (pv 2) pa_nil))) (pps_cons pe_str (pe_g Fr hr1 (pa_cons (pv 0) (pa_cons (pv 2) pa_nil))) (pps_cons pe_str (pv 3) (pps_cons pe_str (pv 4) pps_nil)))) (by rfl) (by rfl) (fun z => by cases z) (by decide)))
      (pss_cons (ps_dput hu (pv 7) pe_str (pv 6) rfl)
      (pss_one (ps_ret (pv 7)))))))), ?_⟩
    have hd0 : ∃ o, H d = some o := by obtain ⟨a, s, c, h⟩ := hd; exact ⟨_, h⟩
    refine q_asgD (ed_op' (P2 := fun H1 v H2 => ∃ n : Nat, 1 ≤ n ∧ n ≤ most ∧ v = nV n ∧ RD d H1 H2) ev_c (ed_roll (t := most) (ev_var rfl) (ev_var rfl) hd m1 (by omega)) fun H2 H3 v H4 e2 e3 ⟨r, hr', hv, rd⟩ => ⟨.int (1 + (r : Int)), by rw [hv]; exact rv_I0, fun H5 e5 => ⟨1 + r, by omega, by omega, by show V.int (1 + (r : Int)) = V.int ((1 + r : Nat) : Int); rw [show ((1 + r : Nat) : Int) = 1 + (r : Int) by omega], RD.pre e3 (rd.ex e5)⟩⟩) fun v H1 ⟨n, n1, n2, hv, rd1⟩ => ?_
    subst hv
    have nfd : ∀ {p : Addr}, H1 p = none → p ≠ d := fun hp z => by obtain ⟨a, s, c, h⟩ := rd1.2; rw [z, h] at hp; cases hp
    refine q_parP (PP := fun vs H' => ∃ a b, vs = [.ref a, .ref b] ∧ H1 a = none ∧ H1 b = none ∧ a ≠ b ∧ H' a = some (.lst []) ∧ H' b = some (.lst [])) (eap_cons (ep_el (el_lst ea_nil (by show 0 ≤ 100000; decide))) fun u1 H2 e2 ⟨a, hu, ha, h1⟩ => eap_cons (ep_el (el_lst ea_nil (by show 0 ≤ 100000; decide))) fun u2 H3 e3 ⟨b, hu2, hb, h2⟩ => fun H4 e4 Q3 q3 => q3 [] H4 (Ex.refl _)
      ⟨a, b, by rw [hu, hu2], ha, fresh_back e2 hb, (fun z => by rw [z] at h1; rw [h1] at hb; cases hb), e4 _ _ (e3 _ _ h1), e4 _ _ h2⟩) fun vs H2 e2 ⟨Lr, Ls, hvs, nr, nsF, nrs, h2r, h2s⟩ => ⟨.ref Lr, .ref Ls, hvs, ?_⟩
    have rd2 := rd1.ex e2
    have dr := nfd nr
    have ds := nfd nsF
    refine q_forM (M := [d, Lr, Ls]) (n := n) (overM_rng1 (σ := [some (.ref d), some (nV most), some (nV n), some (.ref Lr), some (.ref Ls), none, none, none, none]) (tA := tCons (tVar 2) tNil) (ea_cons (ev_var rfl) ea_nil) (by omega)) yFn_ex
      (fun H5 i σ' H' => ExB [d, Lr, Ls] H5 H' ∧ DiceAt H' d ∧ ∃ (rs ss : List V) (ms ns : List (List Nat)) (y5 : Option V), σ' = [some (.ref d), some (nV most), some (nV n), some (.ref Lr), some (.ref Ls), y5, none, none, none] ∧ H' Lr = some (.lst rs) ∧ H' Ls = some (.lst ss) ∧ Paired (TupN H') rs ms ∧ Paired (TupN H') ss ns ∧
        ms.length = i ∧ ns.length = i ∧ (∀ l ∈ ms, l.length = n ∧ ∀ x ∈ l, x < n) ∧ ∀ l ∈ ns, l.length = n ∧ ∀ x ∈ l, x < n)
      (fun H5 e5 => ⟨ExB.refl _, rd2.2.mono e5, [], [], [], [], none, rfl, e5 _ _ h2r, e5 _ _ h2s, .nil, .nil, rfl, rfl, (fun l hl => nomatch hl), fun l hl => nomatch hl⟩) (fun H5 i σ' H' q => q.1) ?_ ?_
    · rintro H5 e5 i x σ' H6 H7 hi ⟨x6, d6, rs, ss, ms, ns, y5, rfl, h6r, h6s, pr, ps, lm, ln, am, an⟩ hy e7
      obtain ⟨rfl, rfl⟩ := hy
      have lrs : rs.length = i := by rw [paired_length pr, lm]
      have lss : ss.length = i := by rw [paired_length ps, ln]
      show tSeq _ _ _ [some (.ref d), some (nV most), some (nV n), some (.ref Lr), some (.ref Ls), some (V.int (0 + (i : Int))), none, none, none] _
      refine q_appD h6r (ev_var rfl) (ed_row (n := n) rfl rfl rfl (by show 8 < 9; decide) d6 n1 (by omega)) (by omega) fun H8 v H9 e8 ⟨l, ll, al, ht, rd9⟩ => ⟨rd9.at_ (e8 _ _ h6r) dr, ?_⟩
      have rd79 := RD.pre e8 rd9
      have h9s : (upd H9 Lr (.lst (rs ++ [v]))) Ls = some (.lst ss) := by rw [upd_ne (Ne.symm nrs)]; exact rd79.at_ h6s ds
      have dif : ∀ xs, HO.lst rs ≠ .tup xs := fun xs z => nomatch z
      have up1 : ∀ {u : V} {l : List Nat}, TupN H7 u l → TupN (upd H9 Lr (.lst (rs ++ [v]))) u l := fun h => TupV.updD (TupV.monoD h rd79.1 d6) (rd79.at_ h6r dr) dif
      have d10 : DiceAt (upd H9 Lr (.lst (rs ++ [v]))) d := by
        obtain ⟨a, s, c, h⟩ := rd79.2
        exact ⟨a, s, c, by rw [upd_ne (Ne.symm dr)]; exact h⟩
      have ht' : TupN (upd H9 Lr (.lst (rs ++ [v]))) v l := TupV.updD ht (rd79.at_ h6r dr) dif
      refine s_appD h9s (ev_var rfl) (ed_row (n := n) rfl rfl rfl (by show 8 < 9; decide) d10 n1 (by omega)) (by omega) fun H11 v2 H12 e11 ⟨l2, ll2, al2, ht2, rd12⟩ => ⟨rd12.at_ (e11 _ _ h9s) ds, ?_⟩
      have rdB := RD.pre e11 rd12
      have dif2 : ∀ xs, HO.lst ss ≠ .tup xs := fun xs z => nomatch z
      have up2 : ∀ {u : V} {l : List Nat}, TupN (upd H9 Lr (.lst (rs ++ [v]))) u l → TupN (upd H12 Ls (.lst (ss ++ [v2]))) u l := fun h => TupV.updD (TupV.monoD h rdB.1 d10) (rdB.at_ h9s ds) dif2
      refine ⟨?_, ?_, rs ++ [v], ss ++ [v2], ms ++ [l], ns ++ [l2], _, rfl, ?_, upd_same, paired_snoc (paired_mono (fun _ _ h => up2 (up1 h)) pr) (up2 ht'), paired_snoc (paired_mono (fun _ _ h => up2 (up1 h)) ps) (TupV.updD ht2 (rdB.at_ h9s ds) dif2), by rw [List.length_append, lm]; rfl, by rw [List.length_append, ln]; rfl, ?_, ?_⟩
      · have inM : ∀ {a : Addr}, a ∉ [d, Lr, Ls] → a ∉ [d] := fun na m => na (by rw [List.mem_singleton.mp m]; exact List.mem_cons_self)
        exact ExB.upd ((ExB.upd (x6.trans fun a o na ha => rd79.1 a o (inM na) ha) (List.mem_cons_of_mem _ List.mem_cons_self)).trans fun a o na ha => rdB.1 a o (inM na) ha) (List.mem_cons_of_mem _ (List.mem_cons_of_mem _ List.mem_cons_self))
      · obtain ⟨a, s, c, h⟩ := rdB.2
        exact ⟨a, s, c, by rw [upd_ne (Ne.symm ds)]; exact h⟩
      · rw [upd_ne nrs]
        exact rdB.at_ upd_same dr
      · intro q hq
        rcases List.mem_append.mp hq with hq | hq
        · exact am q hq
        · rw [List.mem_singleton.mp hq]; exact ⟨ll, al⟩
      · intro q hq
        rcases List.mem_append.mp hq with hq | hq
        · exact an q hq
        · rw [List.mem_singleton.mp hq]; exact ⟨ll2, al2⟩
    · rintro H5 e5 σ' H6 ⟨x6, d6, rs, ss, ms, ns, y5, rfl, h6r, h6s, pr, ps, lm, ln, am, an⟩
      have x26 : ExB [d] H1 H6 := ExB.shrink (e2.trans e5) x6 fun m hm' hne' => by
        rcases List.mem_cons.mp hm' with rfl | hm'
        · exact absurd rfl hne'
        · rcases List.mem_cons.mp hm' with rfl | hm'
          · exact nr
          · rw [List.mem_singleton.mp hm']; exact nsF
      have rd6 : RD d H H6 := rd1.trans ⟨x26, d6⟩
      refine q_asgD (ed_tupL (K := K) (d := d) (P := fun _ l _ => l.Sublist (List.range n)) (ed_some (ev_var rfl) (el_listRg (ev_var rfl) (by omega)) d6 (by omega))) fun v H7 ⟨acc, _, hacc, rd7, sub⟩ => ?_
      show tSeq _ _ _ [some (.ref d), some (nV most), some (nV n), some (.ref Lr), some (.ref Ls), y5, some v, none, none] _
      refine q_asgD (ed_disp4 (d := d) (x3 := .ref Lr) (x4 := .ref Ls) (P1 := fun _ v _ => ∃ r : Nat, r < n ∧ v = nV r) (P2 := fun _ v _ => ∃ r : Nat, r < n ∧ v = nV r) rd7.2
        (fun H8 e8 Q8 q8 => ed_roll (t := n) (ev_var rfl) (ev_var rfl) rd7.2 n1 (by omega) H8 e8 Q8 fun v H9 ⟨r, h1, h2, h3⟩ => q8 v H9 ⟨⟨r, h1, h2⟩, h3⟩)
        (fun H8 v H9 e8 p9 => fun H10 e10 Q8 q8 => ed_roll (t := n) (ev_var rfl) (ev_var rfl) p9.2.2 n1 (by omega) H10 e10 Q8 fun v H9 ⟨r, h1, h2, h3⟩ => q8 v H9 ⟨⟨r, h1, h2⟩, h3⟩) (fun _ => ev_var rfl) (fun _ => ev_var rfl) (kx_nodup _ _ _ _)) fun u H8 ⟨Df, v1, v2, Ha, Hb, Hc, Hd, hu', hDf, ⟨tie, ht, ev1⟩, ⟨gap, hg, ev2⟩, rd8, hDe, hH⟩ => ?_
      subst hu' ev1 ev2
      have h8 : H8 Df = some (.dK [(kx "tie", nV tie), (kx "gap", nV gap), (kx "rows", .ref Lr), (kx "sides", .ref Ls)]) := by rw [hH]; exact upd_same
      have x8 : RD d H7 H8 := by
        rw [hH]
        refine ⟨fun a o na ha => by rw [upd_ne (fun z => by rw [z, hDf] at ha; cases ha)]; exact rd8.1 a o na ha, ?_⟩
        obtain ⟨a, s, c, h⟩ := rd8.2
        exact ⟨a, s, c, by
          rw [upd_ne (fun z => ?_)]
          · exact h
          obtain ⟨a', s', c', h'⟩ := rd7.2
          rw [z, hDf] at h'; cases h'⟩
      have x68 := rd7.trans x8
      let T : Tb := ⟨tie, gap, ms, ns, acc⟩
      have sq1 : Square n ms := ⟨lm, fun l hl => (am l hl).1, fun l hl => (am l hl).2⟩
      have sq2 : Square n ns := ⟨ln, fun l hl => (an l hl).1, fun l hl => (an l hl).2⟩
      have Tn : T.n = n := lm
      have ok : T.Ok := ⟨by rw [Tn]; exact sq1, by rw [Tn]; exact sq2, by rw [Tn]; exact ht, by rw [Tn]; exact hg, by rw [Tn]; exact (sub_asc sub).2, (sub_asc sub).1⟩
      have h8r : H8 Lr = some (.lst rs) := x68.at_ h6r dr
      have h8s : H8 Ls = some (.lst ss) := x68.at_ h6s ds
      show tSeq _ _ _ [some (.ref d), some (nV most), some (nV n), some (.ref Lr), some (.ref Ls), y5, some v, some (.ref Df), none] _
      refine q_dput (k := kx "accepted") (v := v) (ev_var rfl) (ev_var rfl) ev_c h8 (by show 4 < sizeLine; decide) fun H9 e9 => ?_
      have epl := plKV_put T (.ref Lr) (.ref Ls) v
      rw [show putK [(kx "tie", nV tie), (kx "gap", nV gap), (kx "rows", V.ref Lr), (kx "sides", V.ref Ls)] (kx "accepted") v = plKV T (.ref Lr) (.ref Ls) v from epl]
      have h9 : H9 Df = some (.dK [(kx "tie", nV tie), (kx "gap", nV gap), (kx "rows", .ref Lr), (kx "sides", .ref Ls)]) := e9 _ _ h8
      have dif : ∀ xs, HO.dK [(kx "tie", nV tie), (kx "gap", nV gap), (kx "rows", V.ref Lr), (kx "sides", V.ref Ls)] ≠ .tup xs := fun xs z => nomatch z
      have up : ∀ {u : V} {l : List Nat}, TupN H6 u l → TupN (upd H9 Df (.dK (plKV T (.ref Lr) (.ref Ls) v))) u l := fun h => TupV.updD ((TupV.monoD h x68.1 d6).mono e9) h9 dif
      have nDr : Lr ≠ Df := fun z => by rw [← z, e9 _ _ h8r] at h9; cases h9
      have nDs : Ls ≠ Df := fun z => by rw [← z, e9 _ _ h8s] at h9; cases h9
      have nDd : Df ≠ d := fun z => by
        obtain ⟨a, s, c, h⟩ := x8.2.mono e9
        rw [← z, h9] at h; cases h
      refine s_ret (ev_var rfl) fun H10 e10 => k (.ref Df) T H10 ?_ ⟨.ref Lr, .ref Ls, v, Df, rfl, e10 _ _ upd_same, ⟨Lr, rs, rfl, e10 _ _ (by rw [upd_ne nDr]; exact e9 _ _ h8r), paired_mono (fun _ _ h => (up h).mono e10) pr⟩, ⟨Ls, ss, rfl, e10 _ _ (by rw [upd_ne nDs]; exact e9 _ _ h8s), paired_mono (fun _ _ h => (up h).mono e10) ps⟩,
        (TupV.updD ((TupV.monoD hacc x8.1 rd7.2).mono e9) h9 dif).mono e10⟩ ok (by rw [Tn]; exact n2)
      refine RD.ex ?_ e10
      refine ⟨fun a o na ha => ?_, ?_⟩
      · by_cases q : a = Df
        · subst q
          exact absurd ha (by
            intro ha
            have h67 := ((rd6.trans rd7).1 a o na ha)
            rw [hDf] at h67; cases h67)
        · rw [upd_ne q]
          exact e9 _ _ ((rd6.trans x68).1 a o na ha)
      · obtain ⟨a, s, c, h⟩ := x8.2.mono e9
        exact ⟨a, s, c, by rw [upd_ne (Ne.symm nDd)]; exact h⟩
end
end K46
set_option Elab.async false
set_option linter.all false
set_option autoImplicit false
set_option maxRecDepth 100000
/-! K46R14: what _law_right leans on. -/
namespace K46
open PySem PySem.Spec PyProof.Rows L2 Evl
set_option maxHeartbeats 4000000
/-- what the text has of Table -/
structure TabM (P : Program) (w : World) (K : PySem.W.Frag) (mg : Str → Option Value) (base : Heap) : Prop where
  p : TabP P w K mg base
  ne : PySem.W.findIn K (.ref (He.ga K "Table")) "__ne__" = some (some (.builtin "object.__ne__"))
  mro : PySem.W.mroIn K (He.ga K "Table") (.type "object") = some true
  eqS : PySem.W.findIn K (.ref (He.ga K "Table")) "__eq__" = some (some (.ref (He.ma K (He.ga K "Table") "__eq__")))
  eqF : PySem.W.isFn K (.ref (He.ma K (He.ga K "Table") "__eq__")) = true
  eqP : PrM P w K mg base 1 (He.ma K (He.ga K "Table") "__eq__") ["self", "other"] (spEqT K)
  lenS : PySem.W.findIn K (.ref (He.ga K "Table")) "__len__" = some (some (.ref (He.ma K (He.ga K "Table") "__len__")))
  lenF : PySem.W.isFn K (.ref (He.ma K (He.ga K "Table") "__len__")) = true
  lenP : PrM P w K mg base 1 (He.ma K (He.ga K "Table") "__len__") ["self"] (spLenT K)
  accM : Meth K (He.ga K "Table") "accepts" (He.ma K (He.ga K "Table") "accepts")
  accP : PrM P w K mg base 24 (He.ma K (He.ga K "Table") "accepts") ["self", "building"] (spAccepts K)
theorem perm_map {α β : Type} {f : α → β} : ∀ {us vs : List β}, us.Perm vs → ∀ {xs : List α}, vs = xs.map f → ∃ ys : List α, ys.Perm xs ∧ us = ys.map f := fun {us vs} p => by
  induction p with
  | nil => intro xs e; exact ⟨xs, List.Perm.refl _, e⟩
  | cons a _ ih =>
    intro xs e
    cases xs with
    | nil => cases e
    | cons x xs =>
      injection e with e1 e2
      obtain ⟨ys, p, q⟩ := ih e2
      exact ⟨x :: ys, p.cons _, by rw [List.map_cons, ← q, e1]⟩
  | swap a b l =>
    intro xs e
    cases xs with
    | nil => cases e
    | cons x xs =>
      cases xs with
      | nil => cases e
      | cons y xs =>
        injection e with e1 e2
        injection e2 with e2 e3
        exact ⟨y :: x :: xs, List.Perm.swap _ _ _, by rw [List.map_cons, List.map_cons, ← e3, e1, e2]⟩
  | trans _ _ ih1 ih2 =>
    intro xs e
    obtain ⟨ys, p1, q1⟩ := ih2 e
    obtain ⟨zs, p2, q2⟩ := ih1 q1
    exact ⟨zs, p2.trans p1, q2⟩
theorem asc_nat : ∀ (l m : List Nat), l.Pairwise (· < ·) → m.Pairwise (· < ·) → (∀ k, k ∈ l ↔ k ∈ m) → l = m
  | [], [], _, _, _ => rfl
  | [], y :: m, _, _, h => absurd ((h y).mpr List.mem_cons_self) (by simp)
  | x :: l, [], _, _, h => absurd ((h x).mp List.mem_cons_self) (by simp)
  | x :: l, y :: m, hl, hm, h => by
    have h1 := List.pairwise_cons.mp hl
    have h2 := List.pairwise_cons.mp hm
    have xy : x = y := by
      rcases List.mem_cons.mp ((h x).mp List.mem_cons_self) with e | e
      · exact e
      · rcases List.mem_cons.mp ((h y).mpr List.mem_cons_self) with e' | e'
        · exact e'.symm
        · have a1 := h2.1 x e
          have a2 := h1.1 y e'
          omega
    subst xy
    rw [asc_nat l m h1.2 h2.2 fun k => ⟨fun hk => by
      rcases List.mem_cons.mp ((h k).mp (List.mem_cons_of_mem _ hk)) with e | e
      · have := h1.1 k hk; omega
      · exact e, fun hk => by
      rcases List.mem_cons.mp ((h k).mpr (List.mem_cons_of_mem _ hk)) with e | e
      · have := h2.1 k hk; omega
      · exact e⟩]
theorem perm_range {n : Nat} {ys : List Nat} (p : ys.Perm (List.range n)) (h : ys.Pairwise (· ≤ ·)) : ys = List.range n := by
  have nd : ys.Nodup := p.nodup_iff.mpr List.nodup_range
  refine asc_nat _ _ ?_ List.pairwise_lt_range fun k => p.mem_iff
  exact (h.and nd).imp fun ⟨h1, h2⟩ => Nat.lt_of_le_of_ne h1 h2
section
variable {K : PySem.W.Frag} {σ : L2.St} {H : Hp} {ta tb te : TE} {v x y u : V} {P : V → Hp → Prop} {T U : Tb}
theorem ev_of (h : EvP te σ H (fun u _ => u = v)) : Ev te σ H v := fun H1 e Q q => h H1 e Q fun u H2 e2 hu => by subst hu; exact q H2 e2
theorem ev_reprB {b : Bool} (h : Ev te σ H (.bl b)) : Ev (tCB rReprB (tCons te tNil)) σ H (.str (if b then "True" else "False")) := fun H1 e Q q => h H1 e _ fun H2 e2 => ⟨b, rfl, q H2 e2⟩
/-- a property of a table that is made on the way -/
theorem ep_tpropP {sp : Sp} {R : V → Hp → Prop} (h : EvP ta σ H (fun u H' => TabAt K H' u T)) (hs : ∀ u H1, Ex H H1 → TabAt K H1 u T → SpP sp [u] H1 R) : EvP (SlX.tPropSl (He.ga K "Table") sp E0 ta) σ H R := fun H1 e Q q =>
  h H1 e _ fun u H2 e2 ht => by
    have hs' := hs u H2 (e.trans e2) ht
    obtain ⟨x, dx, r, s, a, rfl, h1, h2, h3⟩ := ht
    exact ⟨x, dx, _, rfl, .inr ⟨h1, h2⟩, hs' H2 (Ex.refl _) Q fun w H3 e3 r => q w H3 (e2.trans e3) r⟩
/-- the least table -/
theorem sp_least {T' : Tb} (ht : TabAt K H u T) (ok : T.Ok) (hn : T.n ≤ 60) (hl : ∀ T'', Least T T'' → T'' = T') : SpP (spLeastP K) [u] H (fun w H' => TabAt K H' w T') := fun H1 e Q q => ⟨u, T, rfl, ht.mono e, ok, hn, fun w H2 T'' e2 h1 h2 => by
  rw [hl T'' h1] at h2
  exact q w H2 e2 h2⟩
theorem ev_isLeast {T' : Tb} (ht : TabAt K H u T) (ok : T.Ok) (hn : T.n ≤ 60) (hl : ∀ T'', Least T T'' → T'' = T') (ha : Ev ta σ H u) : Ev (SlX.tPropSl (He.ga K "Table") (spIsLeastP K) E0 ta) σ H (.bl (decide (T = T'))) := ev_of (ep_tprop ht ha fun H1 e Q q => ⟨u, T, rfl, ht.mono e, ok, hn, fun H2 T'' e2 h1 => by
  rw [hl T'' h1]
  exact q _ H2 e2 rfl⟩)
/-- x != y, x == y of tables -/
theorem ev_neT (h1 : EvP ta σ H (fun u H' => TabAt K H' u T)) (h2 : Ev tb σ H y) (hy : TabAt K H y U) : Ev (tOp (rNeOwn (He.ga K "Table") (spEqT K) E0) ta tb) σ H (.bl (!decide (T = U))) := fun H1 e Q q =>
  h1 H1 e _ fun x H2 e2 hx => h2 H2 (e.trans e2) _ fun H3 e3 => by
    have hx3 := hx.mono e3
    have hy3 := hy.mono (e.trans (e2.trans e3))
    obtain ⟨a, da, r, s, t, rfl, a1, a2, _⟩ := id hx3
    obtain ⟨b, db, r', s', t', rfl, b1, b2, _⟩ := id hy3
    exact ⟨a, da, _, b, db, _, rfl, rfl, .inr ⟨a1, a2⟩, .inr ⟨b1, b2⟩, .ref a, .ref b, T, U, rfl, hx3, hy3, fun H4 e4 => ⟨_, rfl, q H4 (e2.trans (e3.trans e4))⟩⟩
theorem not_first {C : Addr} : PySem.W.notFirst K C (.ref C) = true := by unfold PySem.W.notFirst; rw [beq_self_eq_true]; rfl
theorem ev_eqT (h1 : EvP ta σ H (fun u H' => TabAt K H' u T)) (h2 : Ev tb σ H y) (hy : TabAt K H y U) : Ev (tOp (SlX.rOwn K (He.ga K "Table") (spEqT K) E0) ta tb) σ H (.bl (decide (T = U))) := fun H1 e Q q =>
  h1 H1 e _ fun x H2 e2 hx => h2 H2 (e.trans e2) _ fun H3 e3 => by
    have hx3 := hx.mono e3
    have hy3 := hy.mono (e.trans (e2.trans e3))
    obtain ⟨a, da, r, s, t, rfl, a1, a2, _⟩ := id hx3
    obtain ⟨b, db, r', s', t', rfl, b1, b2, _⟩ := id hy3
    exact ⟨a, da, _, b, _, db, _, rfl, rfl, .inr ⟨a1, a2⟩, .inr ⟨b1, b2⟩, not_first, .ref a, .ref b, T, U, rfl, hx3, hy3, fun H4 e4 => q H4 (e2.trans (e3.trans e4))⟩
theorem op_eqOwn {X : Cx} {C g : Addr} {n : Nat} {sp : Sp} (hs : PySem.W.findIn X.K (.ref C) "__eq__" = some (some (.ref g))) (hf : PySem.W.isFn X.K (.ref g) = true) (F : FnR X.prog X.w X.K X.mg X.base CX0 n g sp) (hr : Room n X.A) : OpR X (compareOp .Eq) (SlX.rOwn X.K C sp E0) :=
  SlX.op_own (fun _ _ => rfl) hs hf F hr pass0
/-- len(x) of a table -/
theorem ev_lenT (ha : Ev ta σ H u) (ht : TabAt K H u T) (hn : T.n ≤ 1000) : Ev (tCB (rLenOwn (He.ga K "Table") (spLenT K) E0) (tCons ta tNil)) σ H (nV T.n) := fun H1 e Q q => ha H1 e _ fun H2 e2 => by
  have ht2 := ht.mono (e.trans e2)
  obtain ⟨x, dx, r, s, a, rfl, h1, h2, h3⟩ := id ht2
  exact ⟨x, dx, _, rfl, .inr ⟨h1, h2⟩, .ref x, T, rfl, ht2, fun H3 e3 => ⟨T.n, by omega, rfl, q H3 (e2.trans e3)⟩⟩
/-- t.accepts(b) -/
theorem ev_acc {b : Bld} (ha : Ev ta σ H u) (hb : Ev tb σ H v) (ht : TabAt K H u T) (ok : T.Ok) (hv : BldAt K H b v) (hl : b.leaves ≤ 20) : Ev (SlX.tMethSl (He.ga K "Table") (spAccepts K) E0 ta (tCons tb tNil)) σ H (.bl (decide (st T b ∈ T.acc))) := fun H1 e Q q => ha H1 e _ fun H2 e2 => by
  have ht2 := ht.mono (e.trans e2)
  obtain ⟨x, dx, r, s, a, rfl, h1, h2, h3⟩ := id ht2
  exact ⟨x, dx, _, rfl, .inr ⟨h1, h2⟩, hb H2 (e.trans e2) _ fun H3 e3 => ⟨.ref x, v, T, b, rfl, ht2.mono e3, ok, hv.mono (e.trans (e2.trans e3)), hl, fun H4 e4 => q H4 (e2.trans (e3.trans e4))⟩⟩
/-- repr of a plain table -/
theorem dp_Ml {H : Hp} {v : V} {m : List (List Nat)} (h : LstM H v m) : Dp K H v (dMl m) := by
  obtain ⟨p, rs, rfl, h1, h2⟩ := h
  exact .lst (SqL.of h1) (dpAll_L h2)
theorem noDictAll_L : ∀ m : List (List Nat), PyData.hasDictAll (m.map dL) = false
  | [] => rfl
  | l :: m => by rw [List.map_cons, PyData.hasDictAll, noDict_L, noDictAll_L m]; rfl
theorem ev_reprK (ha : Ev ta σ H v) (hp : Plain H v T) (few : T.Few) : Ev (tCB (rReprK K) (tCons ta tNil)) σ H (.str (plText T)) := fun H1 e Q q => ha H1 e _ fun H2 e2 => by
  obtain ⟨r, s, a, d, hp⟩ := hp.mono (e.trans e2)
  have t := few.ok.tie
  have g := few.ok.gap
  have n := few.few
  refine ⟨d, plKV T r s a, plDs T, by rw [hp.v_], .inl hp.d_, ?_, rfl, ?_, ?_, ?_, ?_, sz_of (Nat.le_trans (pl_len few) (by decide)), q H2 e2⟩
  · exact .cons (.int _) (.cons (.int _) (.cons (dp_Ml hp.rows) (.cons (dp_Ml hp.sides) (.cons (dp_L hp.acc) .nil))))
  · unfold plDs dMl
    simp only [PyData.hasDictAll, PyData.hasDict, noDictAll_L, noDict_L]
    rfl
  · unfold plDs
    simp only [PyData.showableAll, showable_N (show T.tie < 10 by omega), showable_N (show T.gap < 10 by omega), showable_Ml few.rows, showable_Ml few.sides, showable_L few.acc]
    rfl
  · have h1 : (dMl T.rows).depth ≤ 2 := Nat.succ_le_succ (depAll dL 1 dep_L _)
    have h2 : (dMl T.sides).depth ≤ 2 := Nat.succ_le_succ (depAll dL 1 dep_L _)
    have h3 := dep_L T.acc
    unfold plDs
    simp only [PyData.depthAll]
    have a1 : (dN T.tie).depth = 0 := rfl
    have a2 : (dN T.gap).depth = 0 := rfl
    omega
  · intro kv hkv
    unfold plKV at hkv
    simp only [List.mem_cons, List.not_mem_nil, or_false] at hkv
    rcases hkv with rfl | rfl | rfl | rfl | rfl <;> exact ⟨_, rfl⟩
end
theorem Tb.Few.least {T T' : Tb} (h : T.Few) (hl : Least T T') : T'.Few := ⟨hl.ok h.ok, Nat.le_trans (hl.n_le h.ok) h.few⟩
section
variable {K : PySem.W.Frag} {σ : L2.St} {H : Hp} {ta tb te : TE} {d : Addr} {v : V}
/-- made buildings, drawn ones -/
theorem ed_built (h : EvD te σ H (fun H1 v H2 => ∃ b : Bld, BldP H2 b v ∧ b.leaves ≤ 9 ∧ RD d H1 H2)) : EvD (tCall (spBuilt K 9) [] E0 (tCons te tNil)) σ H (fun H1 v H2 => ∃ b : Bld, BldAt K H2 b v ∧ b.leaves ≤ 9 ∧ RD d H1 H2) := fun H1 e Q q =>
  h H1 e _ fun u H2 ⟨b, hb, lb, rd⟩ => ⟨u, b, rfl, hb, lb, by omega, fun w H3 e3 hw => q w H3 ⟨b, hw, lb, rd.ex e3⟩⟩
theorem ed_bing9 (h1 : Ev ta σ H (.ref d)) (h2 : EvD tb σ H (fun H1 v H2 => ∃ j : Nat, 1 ≤ j ∧ j ≤ 9 ∧ v = nV j ∧ RD d H1 H2)) : EvD (tCall (spBing 9) [] E0 (tCons ta (tCons tb tNil))) σ H (fun H2 v H3 => ∃ b : Bld, BldP H3 b v ∧ b.leaves ≤ 9 ∧ RD d H2 H3) := fun H2 e2 Q2 q2 =>
  h1 H2 e2 _ fun H3 e3 => h2 H3 (e2.trans e3) _ fun u H4 ⟨j, j1, j9, hu, rd⟩ => ⟨d, j, by rw [hu]; rfl, j1, j9, by omega, rd.2, fun v b H5 x5 d5 hb5 lb => q2 v H5 ⟨b, hb5, by omega, RD.pre e3 (rd.trans ⟨x5, d5⟩)⟩⟩
/-- plain['rows'] of a doubled table and the like -/
theorem ed_dbl {T : Tb} (h1 : Ev ta σ H v) (hp : Plain H v T) (ok : T.Ok) (hn : T.n ≤ 60) (hd : DiceAt H d) (h2 : EvD tb σ H (fun H1 u H2 => ∃ s : Nat, s < T.n ∧ u = nV s ∧ RD d H1 H2)) : EvD (tCall (spDbl K) [] E0 (tCons ta (tCons tb tNil))) σ H (fun H1 u H2 => ∃ s : Nat, s < T.n ∧ Plain H2 u (dblT T s) ∧ RD d H1 H2) := fun H1 e Q q =>
  h1 H1 e _ fun H2 e2 => h2 H2 (e.trans e2) _ fun u H3 ⟨s, hs, hu, rd⟩ => ⟨v, T, s, by rw [hu]; rfl, (hp.mono (e.trans e2)).monoD ok rd.1 (hd.mono (e.trans e2)), ok, hn, hs, fun w H4 e4 hw => q w H4 ⟨s, hs, hw, RD.pre e2 (rd.ex e4)⟩⟩
theorem ed_mix {n : Nat} (h1 : Ev ta σ H (.ref d)) (h2 : EvL tb σ H ((List.range n).map nV)) (hd : DiceAt H d) (hn : n ≤ 1000) : EvD (tCall (spMix K) [] E0 (tCons ta (tCons tb tNil))) σ H (fun H1 v H2 => ∃ (p : Addr) (o : List Nat), v = .ref p ∧ H2 p = some (.lst (o.map nV)) ∧ o.Perm (List.range n) ∧ RD d H1 H2) := fun H1 e Q q =>
  h1 H1 e _ fun H2 e2 => h2 H2 (e.trans e2) _ fun p H3 hp e3 h3 => ⟨d, p, (List.range n).map nV, rfl, hd.mono (e.trans (e2.trans e3)), h3, by rw [List.length_map, List.length_range]; exact hn, (fun z => by
    obtain ⟨a, s, c, h⟩ := hd.mono (e.trans e2)
    rw [z, h] at hp; cases hp), fun p' H4 ys x4 d4 hp' h4 pm => by
      obtain ⟨o, po, eo⟩ := perm_map pm rfl
      exact q _ H4 ⟨p', o, rfl, by rw [← eo]; exact h4, po, RD.pre (e2.trans e3) ⟨x4, d4⟩⟩⟩
theorem ed_mov {T : Tb} (h1 : Ev ta σ H v) (hp : Plain H v T) (ok : T.Ok) (hn : T.n ≤ 60) (hd : DiceAt H d) (h2 : EvD tb σ H (fun H1 u H2 => ∃ (p : Addr) (o : List Nat), u = .ref p ∧ H2 p = some (.lst (o.map nV)) ∧ o.Perm (List.range T.n) ∧ RD d H1 H2)) : EvD (tCall (spMoved K) [] E0 (tCons ta (tCons tb tNil))) σ H (fun H1 u H2 => ∃ o : List Nat, o.Perm (List.range T.n) ∧ Plain H2 u (movT T o) ∧ RD d H1 H2) := fun H1 e Q q =>
  h1 H1 e _ fun H2 e2 => h2 H2 (e.trans e2) _ fun u H3 ⟨p, o, hu, hp3, po, rd⟩ => ⟨v, p, T, o, by rw [hu]; rfl, (hp.mono (e.trans e2)).monoD ok rd.1 (hd.mono (e.trans e2)), ok, hn, hp3, po, fun w H4 e4 hw => q w H4 ⟨o, po, hw, RD.pre e2 (rd.ex e4)⟩⟩
end
end K46
set_option Elab.async false
set_option linter.all false
set_option autoImplicit false
set_option maxRecDepth 100000
namespace K46
open PySem PySem.Spec PyProof.Rows L2 Evl
set_option maxHeartbeats 4000000
section
variable {P : Program} {w : World} {K : PySem.W.Frag} {mg : Str → Option Value} {base : Heap}
/-! ### _law_right -/
abbrev sRt : Stmt := top 73
def spRt (K : PySem.W.Frag) : Sp := fun vs H Q _ => ∃ (d : Addr) (v : V) (T : Tb), vs = [.ref d, v] ∧ DiceAt H d ∧ Plain H v T ∧ T.Ok ∧ T.n ≤ 6 ∧ ∀ H', RD d H H' → Q (.bl true) H'
abbrev nRt : List Str := ["_law_dice_here", "_law_plain", "_law_table", "_law_due", "_law_least", "_law_turn", "_law_some_here", "_law_wide", "_law_moved_here"]
theorem scRt : FnScope nRt ["_law_dice_here", "_law_plain"] (defScope sRt) := ⟨rfl, rfl, rfl, by decide +kernel, rfl, by decide +kernel, by decide +kernel⟩
/-- what the law's own defs promise -/
structure LawF (P : Program) (w : World) (K : PySem.W.Frag) (mg : Str → Option Value) (base : Heap) : Prop where
  roll : Pr P w K mg base 1 "_law_roll" ["_law_dice_here", "_law_total"] (spRoll K)
  mix : Pr P w K mg base 2 "_law_mixed" ["_law_dice_here", "_law_items"] (spMix K)
  bing : Pr P w K mg base 11 "_law_building" ["_law_dice_here", "_law_leaves"] (spBing 9)
  built : Pr P w K mg base 13 "_law_built" ["_law_plain"] (spBuilt K 9)
  made : Pr P w K mg base 8 "_law_table_made" ["_law_plain"] (spMade K)
  lp : Pr P w K mg base 2 "_law_least_plain" ["_law_table"] (spLp K)
  isT : PrG P w K mg base 3 "_law_is_table" ["_law_told", "_law_plain"] (spIsT K)
  mis : Pr P w K mg base 4 "misread" ["one", "other"] (spMis K)
  dbl : Pr P w K mg base 1 "_law_doubled" ["_law_plain", "_law_state"] (spDbl K)
  mov : Pr P w K mg base 1 "_law_moved" ["_law_plain", "_law_order"] (spMoved K)
theorem ok_rt (B : Free mg) (TC : TblC K mg) (TM : TabM P w K mg base) (L : LawF P w K mg base) (F : FnG K "_law_right" sRt) (hm : mg "_law_right" = some (.ref (He.ga K "_law_right"))) : PrG P w K mg base 25 "_law_right" ["_law_dice_here", "_law_plain"] (spRt K) := by
  obtain ⟨p1, g1, G1, F1⟩ := TM.p.least
  obtain ⟨p2, g2, G2, F2⟩ := TM.p.isLeast
  obtain ⟨p3, g3, G3, F3⟩ := TM.p.reached
  refine prg_mk F hm scRt (fun _ _ _ _ _ _ us hl => match us, hl with | [_, _], _ => rfl) (fun vs H Q E h => ?_) (fun f cdv A outer s H vs Q E gd hr h => ?_)
  · obtain ⟨d, v, T, rfl, _⟩ := h
    rfl
  · obtain ⟨d, v, T, rfl, hd, hp, ok, n6, k⟩ := h
    have hu := hu_of hr
    have h64 : (A.deeper (envOfC "_law_right" (defScope sRt) s.heap.objs.size f cdv)).units + 64 < cLine := hr.units
    have r1 := hr.mono (show 1 ≤ 24 by decide)
    have r2 := hr.mono (show 2 ≤ 24 by decide)
    have r3 := hr.mono (show 3 ≤ 24 by decide)
    have r4 := hr.mono (show 4 ≤ 24 by decide)
    have r6 := hr.mono (show 6 ≤ 24 by decide)
    have r8 := hr.mono (show 8 ≤ 24 by decide)
    have r10 := hr.mono (show 10 ≤ 24 by decide)
    have r11 := hr.mono (show 11 ≤ 24 by decide)
    have r13 := hr.mono (show 13 ≤ 24 by decide)
    refine ⟨_, pss_cons (ps_par (i := 2) (j := 3) rfl scRt.nd rfl rfl (by decide) rfl rfl (pa_cons (pe_g L.made r8 (pa_cons (pv 1) pa_nil)) (pa_cons (pe_g L.lp r2 (pa_cons (pv 1) pa_nil)) pa_nil)) rfl)
      (pss_cons (ps_set (i := 4) scRt.nd rfl (Or.inl rfl) (pe_prop (pv 2) TC.sl G1 F1.raw r10))
      (pss_cons (ps_if (PW.pt (pw_or (pt_not (pt_val (pe_gG L.isT r3 gd (pa_cons (pv 4) (pa_cons (pv 3) pa_nil))))) (pw_or1 (pt_cmpR op_ne (pe_callB call_reprB (by rfl) B.repr b_repr (pa_cons (pe_prop (pv 2) TC.sl G2 F2.raw r6) pa_nil))
          (pe_callB call_reprB (by rfl) B.repr b_repr (pa_cons (pe_cmpR op_eq (pe_callB (call_reprK gd h64) (by rfl) B.repr b_repr (pa_cons (pv 3) pa_nil)) (pe_callB (call_reprK gd h64) (by rfl) B.repr b_repr (pa_cons (pv 1) pa_nil)) (nomark _)) pa_nil)) (nomark _))))) (pss_one (ps_ret pe_bl)) pss_nil)
      (pss_cons (ps_if (PW.pt (pw_or (pt_cmpR (op_neOwn TM.ne TM.mro TM.eqS TM.eqF TM.eqP.raw r2 pass0) (pe_prop (pv 4) TC.sl G1 F1.raw r10) (pv 4) (nomark _)) (pw_or (pt_cmpR op_isnot_bl (pe_prop (pv 4) TC.sl G2 F2.raw r6) pe_bl (nomark _))
          (pw_or1 (pt_cmpR op_notN (pe_g L.mis r4 (pa_cons (pv 2) (pa_cons (pv 4) pa_nil))) pe_non (nomark _)))))) (pss_one (ps_ret pe_bl)) pss_nil)
      (pss_cons (ps_if (pt_cmpR (op_neD h64) (pe_callTy call_list_of (by rfl) B.list b_list (pa_cons (pe_prop (pv 4) TC.sl G3 F3.raw r4) pa_nil)) (pe_listRg rfl (by rfl) B.list (prg_1 (by rfl) B.range (pe_callB (call_lenOwn TM.lenS TM.lenF TM.lenP.raw r2 pass0) (by rfl) B.len b_len (pa_cons (pv 4) pa_nil)))) (nomark _)) (pss_one (ps_ret pe_bl)) pss_nil)
      (pss_cons (ps_for PassesOwn.never rfl (pi_range1 (by rfl) B.range (pa_cons pe_int pa_nil)) (pg_name (i := 5) scRt.nd rfl (Or.inl rfl))
        (pss_cons (ps_set (i := 6) scRt.nd rfl (Or.inl rfl) (pe_g L.built r13 (pa_cons (pe_g L.bing r11 (pa_cons (pv 0) (pa_cons (pe_op op_add pe_int (pe_g L.roll r1 (pa_cons (pv 0) (pa_cons pe_int pa_nil)))) pa_nil))) pa_nil)))
        (pss_one (ps_if (pt_cmpR op_ne (pe_callB call_reprB (by rfl) B.repr b_repr (pa_cons (SlX.pe_methSl (pv 2) TC.sl.cls TM.accM TM.accP.raw hr pass0 (pa_cons (pv 6) pa_nil)) pa_nil)) (pe_callB call_reprB (by rfl) B.repr b_repr (pa_cons (SlX.pe_methSl (pv 4) TC.sl.cls TM.accM TM.accP.raw hr pass0 (pa_cons (pv 6) pa_nil)) pa_nil)) (nomark _)) (pss_one (ps_ret pe_bl)) pss_nil))))
      (pss_cons (ps_set (i := 7) scRt.nd rfl (Or.inl rfl) (pe_g L.dbl r1 (pa_cons (pv 1) (pa_cons (pe_g L.roll r1 (pa_cons (pv 0) (pa_cons (pe_callB call_len_seq (by rfl) B.len b_len (pa_cons (pe_dget hu (pv 1) pe_str (fun _ _ => rfl)) pa_nil)) pa_nil))) pa_nil))))
      (pss_cons (ps_set (i := 8) scRt.nd rfl (Or.inl rfl) (pe_g L.mov r1 (pa_cons (pv 7) (pa_cons (pe_g L.mix r2 (pa_cons (pv 0) (pa_cons (pe_listRg rfl (by rfl) B.list (prg_1 (by rfl) B.range (pe_callB call_len_seq (by rfl) B.len b_len (pa_cons (pe_dget hu (pv 7) pe_str (fun _ _ => rfl)) pa_nil)))) pa_nil))) pa_nil))))
      (pss_one (ps_ret (pe_and (pe_cmpR (op_eqOwn TM.eqS TM.eqF TM.eqP.raw r1) (pe_prop (pe_g L.made r8 (pa_cons (pv 7) pa_nil)) TC.sl G1 F1.raw r10) (pv 4) (nomark _)) (pe_one (pe_cmpR (op_eqOwn TM.eqS TM.eqF TM.eqP.raw r1) (pe_prop (pe_g L.made r8 (pa_cons (pv 8) pa_nil)) TC.sl G1 F1.raw r10) (pv 4) (nomark _))))))))))))), ?_⟩
    have few : T.Few := ⟨ok, by omega⟩
    have hv : v = v := rfl
    refine q_parP (PP := fun vs H' => ∃ (a b : V) (T' : Tb), vs = [a, b] ∧ TabAt K H' a T ∧ Plain H' b T' ∧ Least T T') (eap_cons (P := fun u H' => TabAt K H' u T) (ep_call (ea_cons (ev_var rfl) ea_nil) fun H1 e1 Q' q' => ⟨v, T, rfl, hp.mono e1, ok, by omega, fun u H2 e2 hu => q' u H2 e2 hu⟩)
      fun u1 H1 e1 hu1 => eap_cons (P := fun u H' => ∃ T', Plain H' u T' ∧ Least T T') (ep_call (ea_cons (ev_var rfl) ea_nil) fun H2 e2 Q' q' => ⟨v, T, rfl, hp.mono (e1.trans e2), ok, by omega, fun u H3 T' e3 hl hu => q' u H3 e3 ⟨T', hu, hl⟩⟩)
      fun u2 H2 e2 ⟨T', hu2, hl⟩ => fun H3 e3 Q3 q3 => q3 [] H3 (Ex.refl _) ⟨u1, u2, T', rfl, hu1.mono (e2.trans e3), hu2.mono e3, hl⟩) fun vs H1 e1 ⟨tb, du, T', hvs, ht, hdu, hl⟩ => ⟨tb, du, hvs, ?_⟩
    show tSeq _ _ _ [some (.ref d), some v, some tb, some du, none, none, none, none, none] _
    have ok' := hl.ok ok
    have n' := hl.n_le ok
    have few' := few.least hl
    have l1 : ∀ T'', Least T T'' → T'' = T' := fun T'' h => Least.eq ok ok h hl (Same.refl T)
    have l2 : ∀ T'', Least T' T'' → T'' = T' := fun T'' h => hl.self ok h
    refine q_asgP (ep_tprop ht (ev_var rfl) (sp_least ht ok (by omega) l1)) fun ls H2 e2 hls => ?_
    show tSeq _ _ _ [some (.ref d), some v, some tb, some du, some ls, none, none, none, none] _
    have e12 := e1.trans e2
    have tx : (if decide (T = T') = true then Str.ofString "True" else Str.ofString "False") = if decide (V.str (plText T') = V.str (plText T)) = true then Str.ofString "True" else Str.ofString "False" := by
      have : decide (T = T') = decide (V.str (plText T') = V.str (plText T)) := decide_eq_decide.mpr ⟨fun h => by rw [h], fun h => ((pl_inj few' few).mp (V.str.inj h)).symm⟩
      rw [this]
    refine q_when (b := false) (et_or (a := false) (b := false) (et_not (a := true) (et_B (ev_call (ea_cons (ev_var rfl) (ea_cons (ev_var rfl) ea_nil)) fun H3 e3 Q' q' _ => ⟨ls, du, T', rfl, hls.mono e3, hdu.mono (e2.trans e3), few', q'⟩))) fun _ => et_test ?_) (fun z => by cases z) (fun _ H3 e3 => ?_)
    · have h1 := ev_reprB (ev_isLeast (K := K) (ta := tVar 2) (σ := [some (.ref d), some v, some tb, some du, some ls, none, none, none, none]) (ht.mono e2) ok (by omega) l1 (ev_var rfl))
      have h2 := ev_reprB (ev_op (r := rEq) (ev_reprK (K := K) (ta := tVar 3) (σ := [some (.ref d), some v, some tb, some du, some ls, none, none, none, none]) (H := H2) (ev_var rfl) (hdu.mono e2) few') (ev_reprK (K := K) (ta := tVar 1) (ev_var rfl) (hp.mono e12) few) (rv_eq rfl))
      have := ev_op (r := rNe) h1 h2 (rv_ne rfl)
      rw [tx] at this
      rw [decide_eq_true rfl] at this
      exact this
    have e13 := e12.trans e3
    have e123 := e2.trans e3
    refine q_when (b := false) (et_or (a := false) (b := false) (et_test ?_) fun _ => et_or (a := false) (b := false) (et_test ?_) fun _ => et_test ?_) (fun z => by cases z) (fun _ H4 e4 => ?_)
    · have := ev_neT (K := K) (ta := SlX.tPropSl (He.ga K "Table") (spLeastP K) E0 (tVar 4)) (tb := tVar 4) (σ := [some (.ref d), some v, some tb, some du, some ls, none, none, none, none]) (H := H3) (T := T') (U := T') (ep_tprop (hls.mono e3) (ev_var rfl) (sp_least (hls.mono e3) ok' (by omega) l2)) (ev_var rfl) (hls.mono e3)
      rw [decide_eq_true rfl] at this
      exact this
    · have := ev_op (r := fun x y H Q => ∃ a b, x = V.bl a ∧ y = V.bl b ∧ Q (.bl (!decide (a = b))) H) (ev_isLeast (K := K) (ta := tVar 4) (σ := [some (.ref d), some v, some tb, some du, some ls, none, none, none, none]) (H := H3) (hls.mono e3) ok' (by omega) l2 (ev_var rfl)) (ev_c (v := .bl true)) (z := .bl false) fun H4 _ Q q => ⟨_, _, rfl, rfl, by rw [decide_eq_true rfl]; exact q H4 (Ex.refl _)⟩
      exact this
    · exact ev_op (r := fun x y H Q => y = V.non ∧ Q (.bl (!decide (x = V.non))) H) (x := .non) (ev_call (ea_cons (ev_var rfl) (ea_cons (ev_var rfl) ea_nil)) fun H4 e4 Q' q' _ => ⟨tb, ls, T, T', rfl, ht.mono (e123.trans e4), hls.mono (e3.trans e4), ok, ok', by omega, by omega, hl.same ok, q'⟩) (ev_c (v := .non)) fun H4 _ Q q => ⟨rfl, q H4 (Ex.refl _)⟩
    have e14 := e13.trans e4
    have e124 := e123.trans e4
    refine q_when (b := false) (et_test ?_) (fun z => by cases z) (fun _ H5 e5 => ?_)
    · have rc : EvL (tCB (fun xs H Q => ∃ p ys, xs = [V.ref p] ∧ (SqL K H p ys ∨ SqT K H p ys) ∧ ∀ l, H l = none → Q (.ref l) (upd H l (.lst ys))) (tCons (SlX.tPropSl (He.ga K "Table") (spReachP K) E0 (tVar 4)) tNil)) [some (.ref d), some v, some tb, some du, some ls, none, none, none, none] H4 ((List.range T'.n).map nV) := fun H5 e5 Q5 q5 =>
        ep_tprop (R := fun u H' => TupN H' u (List.range T'.n)) (hls.mono (e3.trans e4)) (ev_var rfl) (fun H6 e6 Q6 q6 => ⟨ls, T', rfl, hls.mono ((e3.trans e4).trans e6), ok', by omega, fun x H7 ys e7 pm asc hy => q6 x H7 e7 (by
          rw [hl.met ok] at pm
          rw [← perm_range pm asc]; exact hy)⟩) H5 e5 _ fun u H6 e6 ⟨p, hu, hp6⟩ => ⟨p, _, by rw [hu], .inr (SqT.of hp6), fun l hl6 => q5 l _ (fresh_back e6 hl6) (e6.trans (Ex.new hl6)) upd_same⟩
      have rg := el_listRg (ta := tCB (rLenOwn (He.ga K "Table") (spLenT K) E0) (tCons (tVar 4) tNil)) (σ := [some (.ref d), some v, some tb, some du, some ls, none, none, none, none]) (H := H4) (ev_lenT (K := K) (ev_var rfl) (hls.mono (e3.trans e4)) (by omega)) (by omega)
      refine ev_opLL rc rg fun p q H5 hp5 hq5 _ => ?_
      have := rv_neD (K := K) (x := .ref p) (y := .ref q) (H := H5) (d := dLl (List.range T'.n)) (e := dLl (List.range T'.n)) (fun H6 e6 => dp_Ll (e6 _ _ hp5)) (fun H6 e6 => dp_Ll (e6 _ _ hq5)) (shp_Ll _) (shp_Ll _)
      rw [eqv_Ll, decide_eq_true rfl] at this
      exact this
    have e15 := e14.trans e5
    have e125 := e124.trans e5
    have ht5 := ht.mono e125
    have hls5 := hls.mono ((e3.trans e4).trans e5)
    have hp5 := hp.mono e15
    have hd5 := hd.mono e15
    refine q_forM (M := [d]) (n := 4) (overM_rng1 (σ := [some (.ref d), some v, some tb, some du, some ls, none, none, none, none]) (tA := tCons (tC (.int 4)) tNil) (n := 4) (ea_cons (ev_c (v := .int 4)) ea_nil) (by omega)) yFn_ex
      (fun H6 i σ' H' => ExB [d] H6 H' ∧ DiceAt H' d ∧ ∃ y5 y6 : Option V, σ' = [some (.ref d), some v, some tb, some du, some ls, y5, y6, none, none])
      (fun H6 e6 => ⟨ExB.refl _, hd5.mono e6, none, none, rfl⟩) (fun H6 i σ' H' q => q.1) ?_ ?_
    · rintro H6 e6 i x σ' H7 H8 hi ⟨x7, d7, y5, y6, rfl⟩ hy e8
      obtain ⟨rfl, rfl⟩ := hy
      show tSeq _ _ _ [some (.ref d), some v, some tb, some du, some ls, some (.int (0 + (i : Int))), y6, none, none] _
      refine q_asgD (ed_built (ed_bing9 (d := d) (ev_var rfl) (ed_op' (P1 := fun H1 v H2 => ∃ r : Nat, r < 9 ∧ v = nV r ∧ RD d H1 H2) ev_c (ed_roll (t := 9) (ev_var rfl) (ev_c (v := .int 9)) d7 (by omega) (by omega)) fun H2 H3 v H4 e2 e3 ⟨r, hr', hv, rd⟩ => ⟨.int (1 + (r : Int)), by rw [hv]; exact rv_I0, fun H5 e5 => ⟨1 + r, by omega, by omega, by show V.int (1 + (r : Int)) = V.int ((1 + r : Nat) : Int); rw [show ((1 + r : Nat) : Int) = 1 + (r : Int) by omega], RD.pre e3 (rd.ex e5)⟩⟩))) fun bu H9 ⟨b, hb, lb, rd⟩ => ?_
      show tIfS _ _ _ _ [some (.ref d), some v, some tb, some du, some ls, some (.int (0 + (i : Int))), some bu, none, none] _
      have d6 : DiceAt H6 d := hd5.mono e6
      have x69 := x7.trans rd.1
      have ht9 := (ht5.mono e6).monoD x69 d6
      have hl9 := (hls5.mono e6).monoD x69 d6
      refine s_when (b := false) (et_test ?_) (fun z => by cases z) (fun _ H10 e10 => ⟨x69.trans (ExB.of e10), rd.2.mono e10, _, _, rfl⟩)
      have h1 := ev_reprB (ev_acc (K := K) (ta := tVar 2) (tb := tVar 6) (σ := [some (.ref d), some v, some tb, some du, some ls, some (.int (0 + (i : Int))), some bu, none, none]) (ev_var rfl) (ev_var rfl) ht9 ok hb (by omega))
      have h2 := ev_reprB (ev_acc (K := K) (ta := tVar 4) (tb := tVar 6) (σ := [some (.ref d), some v, some tb, some du, some ls, some (.int (0 + (i : Int))), some bu, none, none]) (ev_var rfl) (ev_var rfl) hl9 ok' hb (by omega))
      have := ev_op (r := rNe) h1 h2 (rv_ne rfl)
      rw [decide_eq_decide.mpr (hl.same ok b), decide_eq_true rfl] at this
      exact this
    · rintro H6 e6 σ' H7 ⟨x7, d7, y5, y6, rfl⟩
      have d6 : DiceAt H6 d := hd5.mono e6
      have hl7 := (hls5.mono e6).monoD x7 d6
      have hp7 := (hp5.mono e6).monoD ok x7 d6
      obtain ⟨r, t, a, dd, hpa⟩ := id hp7
      obtain ⟨pr, rr, hpr, hr1, hr2⟩ := id hpa.rows
      have lr : rr.length = T.n := by rw [paired_length hr2]; rfl
      have npos : 1 ≤ T.n := by have := ok.gap; omega
      refine q_asgD (ed_dbl (d := d) (ev_var rfl) hp7 ok (by omega) d7 (ed_roll (t := T.n) (ev_var rfl) (by
        have := ev_lenS (K := K) (ev_pl (ta := tVar 1) (k := "rows") (σ := [some (.ref d), some v, some tb, some du, some ls, y5, y6, none, none]) (ev_var rfl) hpa (pl_rows T r t a)) (by rw [hpr]; exact Sq.l hr1)
        rw [lr] at this
        exact this) d7 npos (by omega))) fun wi H8 ⟨s0, hs0, hw, rd8⟩ => ?_
      show tSeq _ _ _ [some (.ref d), some v, some tb, some du, some ls, y5, y6, some wi, none] _
      have okw : (dblT T s0).Ok := dbl_ok ok hs0
      have nw : (dblT T s0).n = T.n + 1 := dbl_n
      have samew : Same T (dblT T s0) := (dbl_fold ok hs0).same okw
      obtain ⟨r', t', a', dd', hpw⟩ := id hw
      obtain ⟨pr', rr', hpr', hr1', hr2'⟩ := id hpw.rows
      have lr' : rr'.length = (dblT T s0).n := by rw [paired_length hr2']; rfl
      refine q_asgD (ed_mov (d := d) (ev_var rfl) hw okw (by omega) rd8.2 (ed_mix (n := (dblT T s0).n) (ev_var rfl) (el_listRg (by
        have := ev_lenS (K := K) (ev_pl (ta := tVar 7) (k := "rows") (σ := [some (.ref d), some v, some tb, some du, some ls, y5, y6, some wi, none]) (ev_var rfl) hpw (pl_rows (dblT T s0) r' t' a')) (by rw [hpr']; exact Sq.l hr1')
        rw [lr'] at this
        exact this) (by omega)) rd8.2 (by omega))) fun mo H9 ⟨o, po, hmo, rd9⟩ => ?_
      show tRet _ _ [some (.ref d), some v, some tb, some du, some ls, y5, y6, some wi, some mo] _
      have okm : (movT (dblT T s0) o).Ok := mov_ok okw po
      have nm : (movT (dblT T s0) o).n = T.n + 1 := by rw [mov_n, mov_len po, nw]
      have samem : Same T (movT (dblT T s0) o) := samew.trans ((mov_fold okw po).same okm)
      have hw9 := hw.monoD okw rd9.1 rd8.2
      have hl9 := (hl7.monoD rd8.1 d7).monoD rd9.1 rd8.2
      have fin : ∀ {i : Nat} {u : V} {U : Tb}, [some (V.ref d), some v, some tb, some du, some ls, y5, y6, some wi, some mo][i]? = some (some u) → Plain H9 u U → U.Ok → U.n ≤ 7 → Same T U →
          Ev (tOp (SlX.rOwn K (He.ga K "Table") (spEqT K) E0) (SlX.tPropSl (He.ga K "Table") (spLeastP K) E0 (tCall (spMade K) [] E0 (tCons (tVar i) tNil))) (tVar 4)) [some (.ref d), some v, some tb, some du, some ls, y5, y6, some wi, some mo] H9 (.bl true) := fun {i u U} hi hu okU nU same => by
        have := ev_eqT (K := K) (T := T') (U := T') (ep_tpropP (T := U) (R := fun u H' => TabAt K H' u T') (ta := tCall (spMade K) [] E0 (tCons (tVar i) tNil)) (ep_call (ea_cons (ev_var hi) ea_nil) fun H10 e10 Q' q' => ⟨u, U, rfl, hu.mono e10, okU, by omega, fun x H11 e11 hx => q' x H11 e11 hx⟩)
          fun x H10 e10 hx => sp_least hx okU (by omega) fun T'' h => h.eq okU ok hl same.symm) (tb := tVar 4) (ev_var (v := ls) rfl) hl9
        rw [decide_eq_true rfl] at this
        exact this
      refine s_ret (v := .bl true) ?_ fun H10 e10 => k H10 ?_
      · exact ev_andV (a := true) (b := true) (fin rfl hw9 okw (by omega) samew) fun _ => fin rfl hmo okm (by omega) samem
      · have : ExB [d] H H7 := (ExB.of (e15.trans e6)).trans x7
        exact ((RD.trans (⟨this, d7⟩ : RD d H H7) rd8).trans rd9).ex e10
end
end K46
set_option Elab.async false
set_option linter.all false
set_option autoImplicit false
set_option maxRecDepth 100000
namespace K46
open PySem PySem.Spec PyProof.Rows L2 Evl
set_option maxHeartbeats 4000000
/-! ### the two written tables -/
def wideT : Tb := ⟨2, 0, [[0, 0, 0], [0, 1, 1], [0, 1, 2]], [[0, 1, 2], [1, 1, 2], [2, 2, 2]], [1, 2]⟩
def ledT : Tb := ⟨1, 0, [[0, 0], [0, 1]], [[0, 1], [1, 1]], [1]⟩
theorem wide_ok : wideT.Ok := ⟨⟨rfl, by decide, by decide⟩, ⟨rfl, by decide, by decide⟩, by decide, by decide, by decide, by decide⟩
theorem led_ok : ledT.Ok := ⟨⟨rfl, by decide, by decide⟩, ⟨rfl, by decide, by decide⟩, by decide, by decide, by decide, by decide⟩
theorem wide_rch : ∀ b : Bld, st wideT b = 0 ∨ st wideT b = 2
  | .tie => .inr rfl
  | .gap => .inl rfl
  | .row a b => by
    show wideT.R _ _ = 0 ∨ wideT.R _ _ = 2
    rcases wide_rch a with h | h <;> rcases wide_rch b with k | k <;> rw [h, k] <;> decide
  | .side a b => by
    show wideT.S _ _ = 0 ∨ wideT.S _ _ = 2
    rcases wide_rch a with h | h <;> rcases wide_rch b with k | k <;> rw [h, k] <;> decide
theorem wide_disc : Disc id wideT := fun x y ⟨a, ha⟩ ⟨b, hb⟩ => ⟨fun h => by rw [show x = y from h], fun h => by
  have h0 := acc_beh h
  have hx := wide_rch a
  have hy := wide_rch b
  rw [ha] at hx
  rw [hb] at hy
  show x = y
  rcases hx with rfl | rfl <;> rcases hy with rfl | rfl
  · rfl
  · exact absurd h0 (by decide)
  · exact absurd h0 (by decide)
  · rfl⟩
theorem wide_least : Least wideT ledT := ⟨id, wide_disc, by decide +kernel⟩
theorem wide_ord : ordOf id wideT = [0, 2] := by decide +kernel
section
variable {K : PySem.W.Frag} {σ : L2.St} {H : Hp} {ta tb te tl : TE} {d : Addr} {v u : V} {T : Tb} {D : Ends} {tu tz : TS} {P : V → Hp → Prop}
theorem over_rng2 {tA : TA} {lo hi : Int} {n : Nat} (h : EvA tA σ H [.int lo, .int hi]) (hn : (hi - lo).toNat = n) (h1 : -1000000 ≤ lo ∧ lo ≤ 1000000) (h2 : -1000000 ≤ hi ∧ hi ≤ 1000000) : Over0 (iRng2 tA) σ H n (YFn fun i => .int (lo + (i : Int))) := fun H1 e R k =>
  h H1 e _ fun H2 e2 => ⟨lo, hi, rfl, ⟨by omega, by omega, by omega, by omega⟩, by rw [hn]; exact k _ _ (fun _ => True) e2 walk_range fun _ _ => trivial⟩
theorem ed_pt {most : Nat} (h1 : Ev ta σ H (.ref d)) (h2 : Ev tb σ H (nV most)) (m1 : 1 ≤ most) (m6 : most ≤ 6) (hd : DiceAt H d) : EvD (tCall (spPt K) [] E0 (tCons ta (tCons tb tNil))) σ H (fun H1 v H2 => ∃ T : Tb, Plain H2 v T ∧ T.Ok ∧ T.n ≤ most ∧ RD d H1 H2) := fun H1 e Q q =>
  h1 H1 e _ fun H2 e2 => h2 H2 (e.trans e2) _ fun H3 e3 => ⟨d, most, rfl, m1, m6, hd.mono (e.trans (e2.trans e3)), fun v T H4 rd hp ok hn => q v H4 ⟨T, hp, ok, hn, RD.pre (e2.trans e3) rd⟩⟩
theorem ed_rt (h1 : Ev ta σ H (.ref d)) (h2 : EvD tb σ H (fun H1 v H2 => ∃ T : Tb, Plain H2 v T ∧ T.Ok ∧ T.n ≤ 6 ∧ RD d H1 H2)) : EvD (tCall (spRt K) [] E0 (tCons ta (tCons tb tNil))) σ H (fun H1 v H2 => v = .bl true ∧ RD d H1 H2) := fun H1 e Q q =>
  h1 H1 e _ fun H2 e2 => h2 H2 (e.trans e2) _ fun u H3 ⟨T, hp, ok, hn, rd⟩ => ⟨d, u, T, rfl, rd.2, hp, ok, hn, fun H4 rd4 => q _ H4 ⟨rfl, RD.pre e2 (rd.trans rd4)⟩⟩
/-- if not f(..): .. where f answers True -/
theorem s_ifnotD (h : EvD te σ H (fun H1 v H2 => v = .bl true ∧ RD d H1 H2)) (k : ∀ H1, RD d H H1 → D.nx σ H1) : tIfS (tNot (tB te)) tu tNext D σ H := h H (Ex.refl _) _ fun v H1 ⟨hv, rd⟩ => ⟨true, hv, by
  show (if (!true) = true then _ else _)
  rw [if_neg (by decide)]
  exact k H1 rd⟩
/-- a new dice -/
theorem ed_dice {p : Addr} {ns : List Int} {spot : Nat} (h1 : Ev ta σ H (.ref p)) (h2 : Ev tb σ H (nV spot)) (hs : SqL K H p (ns.map V.int)) (hp : spot ≤ 1) : EvD (tCall (spDice K) [] E0 (tCons ta (tCons tb tNil))) σ H (fun H1 v H2 => ∃ d, v = .ref d ∧ H1 d = none ∧ Ex H1 H2 ∧ DiceAt H2 d) := fun H1 e Q q =>
  h1 H1 e _ fun H2 e2 => h2 H2 (e.trans e2) _ fun H3 e3 => ⟨p, spot, ns, rfl, hp, ex_l (e.trans (e2.trans e3)) hs, fun d H4 e4 hd h4 => q _ H4 ⟨d, rfl, fresh_back (e2.trans e3) hd, (e2.trans e3).trans e4, h4⟩⟩
/-- a table drawn by a new dice -/
theorem ep_ptN {most : Nat} (h : EvD ta σ H (fun H1 v H2 => ∃ d, v = .ref d ∧ H1 d = none ∧ Ex H1 H2 ∧ DiceAt H2 d)) (h2 : ∀ H1, Ev tb σ H1 (nV most)) (m1 : 1 ≤ most) (m6 : most ≤ 6) : EvP (tCall (spPt K) [] E0 (tCons ta (tCons tb tNil))) σ H (fun v H' => ∃ T : Tb, Plain H' v T ∧ T.Ok ∧ T.n ≤ most) := fun H1 e Q q =>
  h H1 e _ fun u H2 ⟨d, hu, hd, e2, hdd⟩ => h2 H2 H2 (Ex.refl _) _ fun H3 e3 => ⟨d, most, by rw [hu]; rfl, m1, m6, hdd.mono e3, fun v T H4 rd hp ok hn => q v H4 (fun a o ha => rd.1 a o (fun z => by
    rw [List.mem_singleton.mp z, hd] at ha; cases ha) (e3 _ _ (e2 _ _ ha))) ⟨T, hp, ok, hn⟩⟩
/-- t.accepts(..), the building made on the way -/
theorem ev_accP {b : Bld} (ha : Ev ta σ H u) (hb : EvP tb σ H (fun v H' => BldAt K H' b v)) (ht : TabAt K H u T) (ok : T.Ok) (hl : b.leaves ≤ 20) : Ev (SlX.tMethSl (He.ga K "Table") (spAccepts K) E0 ta (tCons tb tNil)) σ H (.bl (decide (st T b ∈ T.acc))) := fun H1 e Q q => ha H1 e _ fun H2 e2 => by
  have ht2 := ht.mono (e.trans e2)
  obtain ⟨x, dx, r, s, a, rfl, h1, h2, h3⟩ := id ht2
  exact ⟨x, dx, _, rfl, .inr ⟨h1, h2⟩, hb H2 (e.trans e2) _ fun v H3 e3 hv => ⟨.ref x, v, T, b, rfl, ht2.mono e3, ok, hv, hl, fun H4 e4 => q H4 (e2.trans (e3.trans e4))⟩⟩
/-- a written row, three written rows, two -/
theorem ep_row3 {a b c : Nat} : EvP (tTup (tCons (tC (.int a)) (tCons (tC (.int b)) (tCons (tC (.int c)) tNil)))) σ H (fun v H' => TupN H' v [a, b, c]) := (ep_eu (eu_tup (ea_cons ev_c (ea_cons ev_c (ea_cons ev_c ea_nil))) (by show 3 ≤ 100000; decide))).imp fun v H' _ ⟨p, hv, _, hp⟩ => ⟨p, hv, hp⟩
theorem ep_row2 {a b : Nat} : EvP (tTup (tCons (tC (.int a)) (tCons (tC (.int b)) tNil))) σ H (fun v H' => TupN H' v [a, b]) := (ep_eu (eu_tup (ea_cons ev_c (ea_cons ev_c ea_nil)) (by show 2 ≤ 100000; decide))).imp fun v H' _ ⟨p, hv, _, hp⟩ => ⟨p, hv, hp⟩
theorem ep_row1 {a : Nat} : EvP (tTup (tCons (tC (.int a)) tNil)) σ H (fun v H' => TupN H' v [a]) := (ep_eu (eu_tup (ea_cons ev_c ea_nil) (by show 1 ≤ 100000; decide))).imp fun v H' _ ⟨p, hv, _, hp⟩ => ⟨p, hv, hp⟩
theorem ep_tupA {tA : TA} {PP : List V → Hp → Prop} (h : EvAP tA σ H PP) (hl : ∀ vs H', PP vs H' → vs.length ≤ 100000) : EvP (tTup tA) σ H (fun u H' => ∃ p vs H1, u = .ref p ∧ PP vs H1 ∧ Ex H1 H' ∧ H' p = some (.tup vs)) := fun H1 e Q q =>
  h H1 e _ fun vs H2 e2 p2 => ⟨sz_of (hl vs H2 p2), fun p hp => q _ _ (e2.trans (Ex.new hp)) ⟨p, vs, H2, rfl, p2, Ex.new hp, upd_same⟩⟩
theorem ep_mat3 {t1 t2 t3 : TE} {l1 l2 l3 : List Nat} (h1 : ∀ H1, EvP t1 σ H1 (fun v H' => TupN H' v l1)) (h2 : ∀ H1, EvP t2 σ H1 (fun v H' => TupN H' v l2)) (h3 : ∀ H1, EvP t3 σ H1 (fun v H' => TupN H' v l3)) : EvP (tTup (tCons t1 (tCons t2 (tCons t3 tNil)))) σ H (fun v H' => MatT H' v [l1, l2, l3]) :=
  (ep_tupA (PP := fun vs H' => ∃ a b c, vs = [a, b, c] ∧ TupN H' a l1 ∧ TupN H' b l2 ∧ TupN H' c l3) (eap_cons (h1 H) fun a H1 e1 ha => eap_cons (h2 H1) fun b H2 e2 hb => eap_cons (h3 H2) fun c H3 e3 hc => fun H4 e4 Q q => q [] H4 (Ex.refl _) ⟨a, b, c, rfl, TupV.mono ha (e2.trans (e3.trans e4)), TupV.mono hb (e3.trans e4), TupV.mono hc e4⟩)
    (fun vs H' ⟨_, _, _, h, _⟩ => by rw [h]; show 3 ≤ 100000; decide)).imp fun u H' _ ⟨p, vs, H1, hu, ⟨a, b, c, hvs, ha, hb, hc⟩, e1, hp⟩ => ⟨[a, b, c], ⟨p, hu, by rw [← hvs]; exact hp⟩, .cons (TupV.mono ha e1) (.cons (TupV.mono hb e1) (.cons (TupV.mono hc e1) .nil))⟩
theorem ep_mat2 {t1 t2 : TE} {l1 l2 : List Nat} (h1 : ∀ H1, EvP t1 σ H1 (fun v H' => TupN H' v l1)) (h2 : ∀ H1, EvP t2 σ H1 (fun v H' => TupN H' v l2)) : EvP (tTup (tCons t1 (tCons t2 tNil))) σ H (fun v H' => MatT H' v [l1, l2]) :=
  (ep_tupA (PP := fun vs H' => ∃ a b, vs = [a, b] ∧ TupN H' a l1 ∧ TupN H' b l2) (eap_cons (h1 H) fun a H1 e1 ha => eap_cons (h2 H1) fun b H2 e2 hb => fun H4 e4 Q q => q [] H4 (Ex.refl _) ⟨a, b, rfl, TupV.mono ha (e2.trans e4), TupV.mono hb e4⟩)
    (fun vs H' ⟨_, _, h, _⟩ => by rw [h]; show 2 ≤ 100000; decide)).imp fun u H' _ ⟨p, vs, H1, hu, ⟨a, b, hvs, ha, hb⟩, e1, hp⟩ => ⟨[a, b], ⟨p, hu, by rw [← hvs]; exact hp⟩, .cons (TupV.mono ha e1) (.cons (TupV.mono hb e1) .nil)⟩
/-- a written table -/
theorem ep_five {t1 t2 t3 : TE} (h1 : ∀ H1, EvP t1 σ H1 (fun v H' => MatT H' v T.rows)) (h2 : ∀ H1, EvP t2 σ H1 (fun v H' => MatT H' v T.sides)) (h3 : ∀ H1, EvP t3 σ H1 (fun v H' => TupN H' v T.acc)) (ok : T.Ok) (hn : T.n ≤ 400) :
    EvP (tMake (He.ga K "Table") (spTInit K) [] E0 (tCons (tC (nV T.tie)) (tCons (tC (nV T.gap)) (tCons t1 (tCons t2 (tCons t3 tNil)))))) σ H (fun v H' => TabAt K H' v T) :=
  ep_tmake (P := fun vs H' => ∃ r s a, vs = [nV T.tie, nV T.gap, r, s, a] ∧ FiveT H' r s a T) (eap_consE ev_c (eap_consE ev_c (eap_cons (h1 H) fun r H1 e1 hr => eap_cons (h2 H1) fun s H2 e2 hs => eap_cons (h3 H2) fun a H3 e3 ha => fun H4 e4 Q q => q [] H4 (Ex.refl _) ⟨r, s, a, rfl, hr.mono (e2.trans (e3.trans e4)), hs.mono (e3.trans e4), TupV.mono ha e4⟩)))
    (fun vs H1 _ h => h) ok hn
end
section
variable {P : Program} {w : World} {K : PySem.W.Frag} {mg : Str → Option Value} {base : Heap}
/-! ### law -/
abbrev sLaw : Stmt := top 74
def spLaw (K : PySem.W.Frag) : Sp := fun vs H Q _ => ∃ (p : Addr) (ns : List Int), vs = [.ref p] ∧ SqL K H p (ns.map V.int) ∧ ns.length ≤ 63 ∧ ∀ H', Q (.bl true) H'
abbrev nLaw : List Str := ["_law_script", "_law_spot", "_law_dice_here", "_law_turn", "_law_some_here", "_law_table", "_law_least", "_law_size", "_law_one", "_law_wide", "_law_led"]
theorem scLaw : FnScope nLaw ["_law_script"] (defScope sLaw) := ⟨rfl, rfl, rfl, by decide +kernel, rfl, by decide +kernel, by decide +kernel⟩
theorem ok_law (B : Free mg) (TC : TblC K mg) (TM : TabM P w K mg base) (Fi : PrM P w K mg base 6 (He.ma K (He.ga K "Table") "__init__") ["self", "tie", "gap", "rows", "sides", "accepted"] (spTInit K)) (Fd : Pr P w K mg base 1 "_law_dice" ["_law_script", "_law_spot"] (spDice K))
    (Fp : Pr P w K mg base 3 "_law_plain_table" ["_law_dice_here", "_law_most"] (spPt K)) (Fr : PrG P w K mg base 25 "_law_right" ["_law_dice_here", "_law_plain"] (spRt K)) (Fm : Pr P w K mg base 8 "_law_table_made" ["_law_plain"] (spMade K)) (Fa : Pr P w K mg base 9 "_law_all_buildings" ["_law_leaves"] (spAll 3))
    (Fb : Pr P w K mg base 13 "_law_built" ["_law_plain"] (spBuilt K 9)) (F : FnG K "law" sLaw) (hm : mg "law" = some (.ref (He.ga K "law"))) : PrG P w K mg base 26 "law" ["_law_script"] (spLaw K) := by
  obtain ⟨p1, g1, G1, F1⟩ := TM.p.least
  obtain ⟨p2, g2, G2, F2⟩ := TM.p.isLeast
  obtain ⟨p3, g3, G3, F3⟩ := TM.p.reached
  refine prg_mk F hm scLaw (fun _ _ _ _ _ _ us hl => match us, hl with | [_], _ => rfl) (fun vs H Q E h => ?_) (fun f cdv A outer s H vs Q E gd hr h => ?_)
  · obtain ⟨p, ns, rfl, _⟩ := h
    rfl
  · obtain ⟨p, ns, rfl, hs, h63, k⟩ := h
    have h64 : (A.deeper (envOfC "law" (defScope sLaw) s.heap.objs.size f cdv)).units + 64 < cLine := hr.units
    have r1 := hr.mono (show 1 ≤ 25 by decide)
    have r3 := hr.mono (show 3 ≤ 25 by decide)
    have r4 := hr.mono (show 4 ≤ 25 by decide)
    have r6 := hr.mono (show 6 ≤ 25 by decide)
    have r7 := hr.mono (show 7 ≤ 25 by decide)
    have r8 := hr.mono (show 8 ≤ 25 by decide)
    have r9 := hr.mono (show 9 ≤ 25 by decide)
    have r10 := hr.mono (show 10 ≤ 25 by decide)
    have r13 := hr.mono (show 13 ≤ 25 by decide)
    have r24 := hr.mono (show 24 ≤ 25 by decide)
    refine ⟨_, pss_cons (ps_for PassesOwn.never rfl (pi_range1 (by rfl) B.range (pa_cons (pe_callB (call_max2 rfl) (by rfl) B.max b_max (pa_cons pe_int (pa_cons (pe_callB (call_min2 rfl) (by rfl) B.min b_min (pa_cons pe_int (pa_cons (pe_callB call_len_seq (by rfl) B.len b_len (pa_cons (pv 0) pa_nil)) pa_nil))) pa_nil))) pa_nil)) (pg_name (i := 1) scLaw.nd rfl (Or.inl rfl))
        (pss_cons (ps_set (i := 2) scLaw.nd rfl (Or.inl rfl) (pe_g Fd r1 (pa_cons (pv 0) (pa_cons (pv 1) pa_nil))))
        (pss_one (ps_for PassesOwn.never rfl (pi_range1 (by rfl) B.range (pa_cons pe_int pa_nil)) (pg_name (i := 3) scLaw.nd rfl (Or.inl rfl))
          (pss_one (ps_if (pt_not (pt_val (pe_gG Fr hr gd (pa_cons (pv 2) (pa_cons (pe_g Fp r3 (pa_cons (pv 2) (pa_cons pe_int pa_nil))) pa_nil))))) (pss_one (ps_ret pe_bl)) pss_nil))))))
      (pss_cons (ps_set (i := 4) scLaw.nd rfl (Or.inl rfl) (pe_g Fp r3 (pa_cons (pe_g Fd r1 (pa_cons (pv 0) (pa_cons pe_int pa_nil))) (pa_cons pe_int pa_nil))))
      (pss_cons (ps_par (i := 5) (j := 6) rfl scLaw.nd rfl rfl (by decide) rfl rfl (pa_cons (pe_g Fm r8 (pa_cons (pv 4) pa_nil)) (pa_cons (pe_prop (pe_g Fm r8 (pa_cons (pv 4) pa_nil)) TC.sl G1 F1.raw r10) pa_nil)) rfl)
      (pss_cons (ps_for PassesOwn.never rfl (pi_range2 (by rfl) B.range (pa_cons pe_int (pa_cons pe_int pa_nil))) (pg_name (i := 7) scLaw.nd rfl (Or.inl rfl))
        (pss_one (ps_for PassesOwn.never rfl (pi_list (pe_g Fa r9 (pa_cons (pv 7) pa_nil))) (pg_name (i := 8) scLaw.nd rfl (Or.inl rfl))
          (pss_one (ps_if (pt_cmpR op_ne (pe_callB call_reprB (by rfl) B.repr b_repr (pa_cons (SlX.pe_methSl (pv 5) TC.sl.cls TM.accM TM.accP.raw r24 pass0 (pa_cons (pe_g Fb r13 (pa_cons (pv 8) pa_nil)) pa_nil)) pa_nil))
            (pe_callB call_reprB (by rfl) B.repr b_repr (pa_cons (SlX.pe_methSl (pv 6) TC.sl.cls TM.accM TM.accP.raw r24 pass0 (pa_cons (pe_g Fb r13 (pa_cons (pv 8) pa_nil)) pa_nil)) pa_nil)) (nomark _)) (pss_one (ps_ret pe_bl)) pss_nil)))))
      (pss_cons (ps_set (i := 9) scLaw.nd rfl (Or.inl rfl) (pe_mk TC.sl.mkr Fi r7 TC.glo (pa_cons pe_int (pa_cons pe_int (pa_cons (pe_tup (pa_cons (pe_tup (pa_cons pe_int (pa_cons pe_int (pa_cons pe_int pa_nil)))) (pa_cons (pe_tup (pa_cons pe_int (pa_cons pe_int (pa_cons pe_int pa_nil)))) (pa_cons (pe_tup (pa_cons pe_int (pa_cons pe_int (pa_cons pe_int pa_nil)))) pa_nil))))
          (pa_cons (pe_tup (pa_cons (pe_tup (pa_cons pe_int (pa_cons pe_int (pa_cons pe_int pa_nil)))) (pa_cons (pe_tup (pa_cons pe_int (pa_cons pe_int (pa_cons pe_int pa_nil)))) (pa_cons (pe_tup (pa_cons pe_int (pa_cons pe_int (pa_cons pe_int pa_nil)))) pa_nil)))) (pa_cons (pe_tup (pa_cons pe_int (pa_cons pe_int pa_nil))) pa_nil)))))))
      (pss_cons (ps_set (i := 10) scLaw.nd rfl (Or.inl rfl) (pe_mk TC.sl.mkr Fi r7 TC.glo (pa_cons pe_int (pa_cons pe_int (pa_cons (pe_tup (pa_cons (pe_tup (pa_cons pe_int (pa_cons pe_int pa_nil))) (pa_cons (pe_tup (pa_cons pe_int (pa_cons pe_int pa_nil))) pa_nil)))
          (pa_cons (pe_tup (pa_cons (pe_tup (pa_cons pe_int (pa_cons pe_int pa_nil))) (pa_cons (pe_tup (pa_cons pe_int (pa_cons pe_int pa_nil))) pa_nil))) (pa_cons (pe_tup (pa_cons pe_int pa_nil)) pa_nil)))))))
      (pss_one (ps_ret (pe_and (pe_cmpR (op_eqOwn TM.eqS TM.eqF TM.eqP.raw r1) (pe_prop (pv 9) TC.sl G1 F1.raw r10) (pv 10) (nomark _)) (pe_one (pe_cmpR (op_eqD h64) (pe_lst (pa_cons (pe_prop (pv 9) TC.sl G2 F2.raw r6) (pa_cons (pe_prop (pv 10) TC.sl G2 F2.raw r6) (pa_cons (pe_prop (pv 9) TC.sl G3 F3.raw r4) pa_nil))))
          (pe_lst (pa_cons pe_bl (pa_cons pe_bl (pa_cons (pe_tup (pa_cons pe_int (pa_cons pe_int pa_nil))) pa_nil)))) (nomark _))))))))))), ?_⟩
    have nN : ∃ N : Nat, N ≤ 2 ∧ Ev (tCB (fun xs H Q => ∃ i j, xs = [V.int i, V.int j] ∧ Q (.int (if j > i then j else i)) H) (tCons (tC (.int 1)) (tCons (tCB (fun xs H Q => ∃ i j, xs = [V.int i, V.int j] ∧ Q (.int (if j < i then j else i)) H) (tCons (tC (.int 2)) (tCons (tCB (rLen K) (tCons (tVar 0) tNil)) tNil))) tNil))) [some (.ref p), none, none, none, none, none, none, none, none, none, none] H (nV N) := by
      have h1 := ev_cb (r := fun xs H Q => ∃ i j, xs = [V.int i, V.int j] ∧ Q (.int (if j < i then j else i)) H) (z := .int (if (ns.length : Int) < 2 then (ns.length : Int) else 2)) (ea_cons (ev_c (v := .int 2)) (ea_cons (by have := ev_lenS (K := K) (ta := tVar 0) (σ := [some (V.ref p), none, none, none, none, none, none, none, none, none, none]) (H := H) (ev_var rfl) ⟨p, rfl, .inl hs⟩; rw [List.length_map] at this; exact this) ea_nil)) fun H1 _ Q q => ⟨_, _, rfl, q H1 (Ex.refl _)⟩
      have h2 := ev_cb (r := fun xs H Q => ∃ i j, xs = [V.int i, V.int j] ∧ Q (.int (if j > i then j else i)) H) (z := .int (if (if (ns.length : Int) < 2 then (ns.length : Int) else 2) > 1 then (if (ns.length : Int) < 2 then (ns.length : Int) else 2) else 1)) (ea_cons (ev_c (v := .int 1)) (ea_cons h1 ea_nil)) fun H1 _ Q q => ⟨_, _, rfl, q H1 (Ex.refl _)⟩
      have e : ∃ N : Nat, N ≤ 2 ∧ (if (if (ns.length : Int) < 2 then (ns.length : Int) else 2) > 1 then (if (ns.length : Int) < 2 then (ns.length : Int) else 2) else 1) = (N : Int) := by
        by_cases q : (ns.length : Int) < 2
        · rw [if_pos q, if_neg (by omega)]; exact ⟨1, by omega, rfl⟩
        · rw [if_neg q, if_pos (by omega)]; exact ⟨2, by omega, rfl⟩
      obtain ⟨N, hN, eN⟩ := e
      rw [eN] at h2
      exact ⟨N, hN, h2⟩
    obtain ⟨N, hN, evN⟩ := nN
    refine q_for0 (n := N) (over_rng (ea_cons evN ea_nil) (by omega)) (Ex.refl H) yFn_ex
      (fun i σ' H' => Ex H H' ∧ ∃ y1 y2 y3 : Option V, σ' = [some (.ref p), y1, y2, y3, none, none, none, none, none, none, none]) (fun H1 e1 => ⟨e1, none, none, none, rfl⟩) (fun i σ' H' q => q.1) ?_ ?_
    · rintro i x σ' H1 H2 hi ⟨e1, y1, y2, y3, rfl⟩ hy ey
      obtain ⟨rfl, rfl⟩ := hy
      have z0 : V.int (0 + (i : Int)) = nV i := by show V.int _ = V.int _; rw [Int.zero_add]
      show tSeq _ _ _ [some (.ref p), some (V.int (0 + (i : Int))), y2, y3, none, none, none, none, none, none, none] _
      rw [z0]
      refine q_asgD (ed_dice (ev_var rfl) (ev_var rfl) (ex_l e1 hs) (by omega)) fun v H3 ⟨d, hv, hd, e3, hdd⟩ => ?_
      subst hv
      show tFor _ _ _ _ [some (.ref p), some (nV i), some (.ref d), y3, none, none, none, none, none, none, none] _
      refine s_forM (M := [d]) (n := 3) (overM_rng1 (n := 3) (tA := tCons (tC (.int 3)) tNil) (ea_cons (ev_c (v := .int 3)) ea_nil) (by omega)) yFn_ex
        (fun H5 j σ' H' => ExB [d] H5 H' ∧ DiceAt H' d ∧ ∃ y3 : Option V, σ' = [some (.ref p), some (nV i), some (.ref d), y3, none, none, none, none, none, none, none]) (fun H5 e5 => ⟨ExB.refl _, hdd.mono e5, y3, rfl⟩) (fun H5 j σ' H' q => q.1) ?_ ?_
      · rintro H5 e5 j x σ' H6 H7 hj ⟨x6, d6, y3, rfl⟩ hy e7
        obtain ⟨rfl, rfl⟩ := hy
        show tIfS _ _ _ _ [some (.ref p), some (nV i), some (.ref d), some (V.int (0 + (j : Int))), none, none, none, none, none, none, none] _
        exact s_ifnotD (d := d) (ed_rt (ev_var rfl) (ed_pt (most := 6) (ev_var rfl) (ev_c (v := .int 6)) (by omega) (by omega) d6)) fun H8 rd => ⟨x6.trans rd.1, rd.2, _, rfl⟩
      · rintro H5 e5 σ' H6 ⟨x6, d6, y3, rfl⟩
        exact ⟨e1.trans (ExB.ex (e3.trans e5) x6 fun m hm' => by rw [List.mem_singleton.mp hm']; exact hd), _, _, _, rfl⟩
    rintro σ' H1 ⟨e1, y1, y2, y3, rfl⟩
    refine q_asgP (ep_ptN (most := 4) (ed_dice (spot := 0) (ev_var rfl) (ev_c (v := .int 0)) (ex_l e1 hs) (by omega)) (fun _ => ev_c (v := .int 4)) (by omega) (by omega)) fun sv H2 e2 ⟨T, hp, ok, nT⟩ => ?_
    show tSeq _ _ _ [some (.ref p), y1, y2, y3, some sv, none, none, none, none, none, none] _
    have mk : ∀ {H3 : Hp}, Ex H2 H3 → EvP (tCall (spMade K) [] E0 (tCons (tVar 4) tNil)) [some (.ref p), y1, y2, y3, some sv, none, none, none, none, none, none] H3 (fun u H' => TabAt K H' u T) := fun e => ep_call (ea_cons (ev_var rfl) ea_nil) fun H4 e4 Q' q' => ⟨sv, T, rfl, hp.mono (e.trans e4), ok, by omega, fun u H5 e5 hu => q' u H5 e5 hu⟩
    refine q_parP (PP := fun vs H' => ∃ (a b : V) (T' : Tb), vs = [a, b] ∧ TabAt K H' a T ∧ TabAt K H' b T' ∧ Least T T') (eap_cons (mk (Ex.refl _)) fun u1 H3 e3 hu1 => eap_cons (P := fun u H' => ∃ T', TabAt K H' u T' ∧ Least T T') (ep_tpropP (mk e3) fun u H4 e4 hu => fun H5 e5 Q' q' => ⟨u, T, rfl, hu.mono e5, ok, by omega, fun x H6 T'' e6 hl hx => q' x H6 e6 ⟨T'', hx, hl⟩⟩)
      fun u2 H4 e4 ⟨T', hu2, hl⟩ => fun H5 e5 Q' q' => q' [] H5 (Ex.refl _) ⟨u1, u2, T', rfl, hu1.mono (e4.trans e5), hu2.mono e5, hl⟩) fun vs H3 e3 ⟨tb, ls, T', hvs, ht, hls, hl⟩ => ⟨tb, ls, hvs, ?_⟩
    have ok' := hl.ok ok
    refine q_for0 (n := 3) (over_rng2 (lo := 1) (hi := 4) (σ := [some (.ref p), y1, y2, y3, some sv, some tb, some ls, none, none, none, none]) (ea_cons ev_c (ea_cons ev_c ea_nil)) (by omega) (by omega) (by omega)) (Ex.refl H3) yFn_ex
      (fun i σ' H' => Ex H3 H' ∧ ∃ y7 y8 : Option V, σ' = [some (.ref p), y1, y2, y3, some sv, some tb, some ls, y7, y8, none, none]) (fun H4 e4 => ⟨e4, none, none, rfl⟩) (fun i σ' H' q => q.1) ?_ ?_
    · rintro i x σ' H4 H5 hi ⟨e4, y7, y8, rfl⟩ hy ey
      obtain ⟨rfl, rfl⟩ := hy
      have z1 : V.int (1 + (i : Int)) = nV (1 + i) := by show V.int _ = V.int _; congr 1
      show tFor _ _ _ _ [some (.ref p), y1, y2, y3, some sv, some tb, some ls, some (V.int (1 + (i : Int))), y8, none, none] _
      rw [z1]
      refine s_forLP (P := fun a xs H' => xs.length ≤ 256 ∧ Blds H' (1 + i) xs) (ep_call (ea_cons (ev_var rfl) ea_nil) fun H6 e6 Q' q' => ⟨1 + i, rfl, by omega, by omega, by omega, fun p H7 ys e7 hp h7 l7 b7 => q' _ H7 e7 ⟨p, ys, rfl, h7, Nat.le_trans l7 (cap_le _), b7⟩⟩) fun a xs H6 e6 ha ⟨la, hB⟩ => ?_
      refine s_for0 (over_list (K := K) (tl := tC (.ref a)) (σ := [some (.ref p), y1, y2, y3, some sv, some tb, some ls, some (nV (1 + i)), y8, none, none]) ev_c (SqL.of ha)) (Ex.refl H6) yAt_ex
        (fun j σ' H' => Ex H6 H' ∧ ∃ y8 : Option V, σ' = [some (.ref p), y1, y2, y3, some sv, some tb, some ls, some (nV (1 + i)), y8, none, none]) (fun H7 e7 => ⟨e7, y8, rfl⟩) (fun i σ' H' q => q.1) ?_ ?_
      · rintro j x σ' H7 H8 hj ⟨e7, y8, rfl⟩ hy ey
        obtain ⟨rfl, hx⟩ := hy
        obtain ⟨b, hb, lb⟩ := hB x (List.mem_of_getElem? hx)
        show tIfS _ _ _ _ [some (.ref p), y1, y2, y3, some sv, some tb, some ls, some (nV (1 + i)), some x, none, none] _
        have e38 : Ex H3 H8 := e4.trans (e6.trans e7)
        have bu : EvP (tCall (spBuilt K 9) [] E0 (tCons (tVar 8) tNil)) [some (.ref p), y1, y2, y3, some sv, some tb, some ls, some (nV (1 + i)), some x, none, none] H8 (fun u H' => BldAt K H' b u) := ep_call (ea_cons (ev_var rfl) ea_nil) fun H9 e9 Q' q' => ⟨x, b, rfl, hb.mono (e7.trans e9), by omega, by omega, fun u H10 e10 hu => q' u H10 e10 hu⟩
        refine s_when (b := false) (et_test ?_) (fun z => by cases z) (fun _ H9 e9 => ⟨e7.trans e9, _, rfl⟩)
        have h1 := ev_reprB (ev_accP (K := K) (ta := tVar 5) (ev_var rfl) bu (ht.mono e38) ok (by omega))
        have h2 := ev_reprB (ev_accP (K := K) (ta := tVar 6) (ev_var rfl) bu (hls.mono e38) ok' (by omega))
        have := ev_op (r := rNe) h1 h2 (rv_ne rfl)
        rw [decide_eq_decide.mpr (hl.same ok b), decide_eq_true rfl] at this
        exact this
      · rintro σ' H7 ⟨e7, y8, rfl⟩
        exact ⟨e4.trans (e6.trans e7), _, _, rfl⟩
    rintro σ' H4 ⟨e4, y7, y8, rfl⟩
    refine q_asgP (ep_five (T := wideT) (fun _ => ep_mat3 (fun _ => ep_row3 (a := 0) (b := 0) (c := 0)) (fun _ => ep_row3 (a := 0) (b := 1) (c := 1)) (fun _ => ep_row3 (a := 0) (b := 1) (c := 2))) (fun _ => ep_mat3 (fun _ => ep_row3 (a := 0) (b := 1) (c := 2)) (fun _ => ep_row3 (a := 1) (b := 1) (c := 2)) (fun _ => ep_row3 (a := 2) (b := 2) (c := 2))) (fun _ => ep_row2 (a := 1) (b := 2)) wide_ok (by decide)) fun wv H5 e5 hw => ?_
    refine q_asgP (ep_five (T := ledT) (fun _ => ep_mat2 (fun _ => ep_row2 (a := 0) (b := 0)) (fun _ => ep_row2 (a := 0) (b := 1))) (fun _ => ep_mat2 (fun _ => ep_row2 (a := 0) (b := 1)) (fun _ => ep_row2 (a := 1) (b := 1))) (fun _ => ep_row1 (a := 1)) led_ok (by decide)) fun lv H6 e6 hle => ?_
    show tRet _ _ [some (.ref p), y1, y2, y3, some sv, some tb, some ls, y7, y8, some wv, some lv] _
    have hw6 := hw.mono e6
    have u1 : ∀ T'', Least wideT T'' → T'' = ledT := fun T'' h => Least.eq wide_ok wide_ok h wide_least (Same.refl _)
    have u2 : ∀ T'', Least ledT T'' → T'' = ledT := fun T'' h => wide_least.self wide_ok h
    refine s_ret (v := .bl true) (ev_andV (a := true) (b := true) ?_ fun _ => ?_) fun H7 e7 => k H7
    · have := ev_eqT (K := K) (ta := SlX.tPropSl (He.ga K "Table") (spLeastP K) E0 (tVar 9)) (tb := tVar 10) (σ := [some (.ref p), y1, y2, y3, some sv, some tb, some ls, y7, y8, some wv, some lv]) (H := H6) (T := ledT) (U := ledT) (ep_tprop hw6 (ev_var rfl) (sp_least hw6 wide_ok (by decide) u1)) (ev_var rfl) hle
      rw [decide_eq_true rfl] at this
      exact this
    · have d1 : decide (wideT = ledT) = false := by decide
      have d2 : decide (ledT = ledT) = true := decide_eq_true rfl
      have i1 := ev_isLeast (K := K) (ta := tVar 9) (σ := [some (.ref p), y1, y2, y3, some sv, some tb, some ls, y7, y8, some wv, some lv]) hw6 wide_ok (by decide) u1 (ev_var rfl)
      have i2 := ev_isLeast (K := K) (ta := tVar 10) (σ := [some (.ref p), y1, y2, y3, some sv, some tb, some ls, y7, y8, some wv, some lv]) hle led_ok (by decide) u2 (ev_var rfl)
      rw [d1] at i1
      rw [d2] at i2
      have l1 : EvP (tLst (tCons (SlX.tPropSl (He.ga K "Table") (spIsLeastP K) E0 (tVar 9)) (tCons (SlX.tPropSl (He.ga K "Table") (spIsLeastP K) E0 (tVar 10)) (tCons (SlX.tPropSl (He.ga K "Table") (spReachP K) E0 (tVar 9)) tNil)))) [some (.ref p), y1, y2, y3, some sv, some tb, some ls, y7, y8, some wv, some lv] H6
          (fun u H' => ∃ p vs H1, u = .ref p ∧ (∃ r, vs = [.bl false, .bl true, r] ∧ TupN H1 r [0, 2]) ∧ Ex H1 H' ∧ H' p = some (.lst vs)) := ep_lstP (P := fun vs H' => ∃ r, vs = [.bl false, .bl true, r] ∧ TupN H' r [0, 2]) (eap_consE i1 (eap_consE i2 (eap_cons (P := fun u H' => TupN H' u [0, 2]) (ep_tprop hw6 (ev_var rfl) fun H7 e7 Q' q' => ⟨wv, wideT, rfl, hw6.mono e7, wide_ok, by decide, fun x H8 ys e8 pm asc hy => q' x H8 e8 (by
            rw [wide_ord] at pm
            have : ys = [0, 2] := asc_nat _ _ ((asc.and (pm.nodup_iff.mpr (by decide))).imp fun ⟨h1, h2⟩ => Nat.lt_of_le_of_ne h1 h2) (by decide) fun k => pm.mem_iff
            rw [← this]; exact hy)⟩) fun r H7 e7 hr7 => fun H8 e8 Q8 q8 => q8 [] H8 (Ex.refl _) ⟨r, rfl, TupV.mono hr7 e8⟩))) (fun vs H' ⟨_, h, _⟩ => by rw [h]; show 3 ≤ 100000; decide)
      have l2 : ∀ H7, EvP (tLst (tCons (tC (.bl false)) (tCons (tC (.bl true)) (tCons (tTup (tCons (tC (.int 0)) (tCons (tC (.int 2)) tNil))) tNil)))) [some (.ref p), y1, y2, y3, some sv, some tb, some ls, y7, y8, some wv, some lv] H7
          (fun u H' => ∃ p vs H1, u = .ref p ∧ (∃ r, vs = [.bl false, .bl true, r] ∧ TupN H1 r [0, 2]) ∧ Ex H1 H' ∧ H' p = some (.lst vs)) := fun H7 => ep_lstP (P := fun vs H' => ∃ r, vs = [.bl false, .bl true, r] ∧ TupN H' r [0, 2]) (eap_consE ev_c (eap_consE ev_c (eap_cons (P := fun u H' => TupN H' u [0, 2]) (ep_row2 (a := 0) (b := 2)) fun r H7 e7 hr7 => fun H8 e8 Q8 q8 => q8 [] H8 (Ex.refl _) ⟨r, rfl, TupV.mono hr7 e8⟩))) (fun vs H' ⟨_, h, _⟩ => by rw [h]; show 3 ≤ 100000; decide)
      refine fun H7 e7 Q' q' => l1 H7 e7 _ fun u H8 e8 ⟨a, vs, Ha, hu, ⟨r, hvs, hr8⟩, ea, ha⟩ => l2 H8 H8 (Ex.refl _) _ fun x H9 e9 ⟨b, ws, Hb, hx, ⟨r', hws, hr9⟩, eb, hb⟩ => ?_
      subst hu hvs hx hws
      exact ⟨.list [.bool false, .bool true, dL [0, 2]], .list [.bool false, .bool true, dL [0, 2]], .lst (SqL.of (e9 _ _ ha)) (.cons (.bl _) (.cons (.bl _) (.cons (dp_L (TupV.mono hr8 (ea.trans e9))) .nil))), .lst (SqL.of hb) (.cons (.bl _) (.cons (.bl _) (.cons (dp_L (TupV.mono hr9 eb)) .nil))), by decide +kernel, by decide +kernel, by
        have : PyData.eqv (.list [.bool false, .bool true, dL [0, 2]]) (.list [.bool false, .bool true, dL [0, 2]]) = true := by decide +kernel
        rw [this]
        exact q' H9 (e8.trans e9)⟩
end
end K46
set_option Elab.async false
set_option linter.all false
set_option autoImplicit false
set_option maxRecDepth 100000
/-! K46H1: the head's facts: defs at any address, tables, further Bools. -/
namespace K46
open PySem PySem.Spec PyProof.Rows L2
set_option maxHeartbeats 4000000
/-- what an object names, as far as the facts go: a dict's values, a class's table, a def's code, a property's defs -/
def refsL (o : Obj) : List Addr := match o.data with
  | .func fd => He.refV fd.code
  | .dict es _ => es.toList.flatMap fun e => He.refV e.val
  | .cls cd => [cd.ns]
  | .fields vs => (match o.cls with
    | .type c => (match c == "property" || c == "classmethod" with
      | true => vs.toList.flatMap He.refV
      | false => [])
    | _ => [])
  | _ => []
def asL (g : Addr → Option Obj) : Nat → List Addr → List Addr
  | 0, f => f
  | n + 1, f => f ++ asL g n (f.flatMap fun a => match g a with
    | some o => refsL o
    | none => [])
def asK (g : Addr → Option Obj) (n : Nat) : List Addr := asL g n [mainGlobals] ++ [cStatics]
abbrev AlK : Type := (He.AlD × List (Option (List (Option (Str × Int))))) × Bool
abbrev TabK : Type := (PySem.W.Frag → Addr) × List Str
def obsK (fa : List He.Fa) (fn : List He5.DefA) (ts : List TabK) (ex : List (PySem.W.Frag → Bool)) (K : PySem.W.Frag) : AlK := ((He5.obsA fa fn K, ts.map fun t => He.dicW K (t.1 K)), ex.all fun b => b K)
def valK (fn : List He5.DefA) (ts : List TabK) (w : World) : AlK := ((He5.valA fn, ts.map fun t => some (He.keysIn w.params t.2)), true)
structure SaysK (fa : List He.Fa) (fn : List He5.DefA) (ts : List TabK) (ex : List (PySem.W.Frag → Bool)) (w : World) (K : PySem.W.Frag) : Prop where
  all : obsK fa fn ts ex K = valK fn ts w
def obsKG (n : Nat) (fa : List He.Fa) (fn : List He5.DefA) (ts : List TabK) (ex : List (PySem.W.Frag → Bool)) (g : Addr → Option Obj) : AlK := obsK fa fn ts ex (He.frT g (asK g n))
def hookK (n : Nat) (fa : List He.Fa) (fn : List He5.DefA) (ts : List TabK) (ex : List (PySem.W.Frag → Bool)) : PySem.W.Hook where
  α := AlK
  obs := fun s => obsKG n fa fn ts ex s.heap.get?
  val := fun w => valK fn ts w
  says := fun w h => ∃ K : PySem.W.Frag, K.In h ∧ SaysK fa fn ts ex w K
  of := fun _ _ e => ⟨_, He.frT_in, ⟨e⟩⟩
  keeps := fun _ _ _ ⟨K, hK, c⟩ k => ⟨K, PySem.W.Frag.In.keeps hK k, c⟩
theorem obsKG_eq {n : Nat} {fa : List He.Fa} {fn : List He5.DefA} {ts : List TabK} {ex : List (PySem.W.Frag → Bool)} {g : Addr → Option Obj} {s : Shared} (h : ∀ a, g a = s.heap.get? a) : obsKG n fa fn ts ex g = (hookK n fa fn ts ex).obs s := by
  have e : g = s.heap.get? := funext h
  rw [e] <;> rfl
section
variable {fa : List He.Fa} {fn : List He5.DefA} {ts : List TabK} {ex : List (PySem.W.Frag → Bool)} {w : World} {K : PySem.W.Frag}
theorem SaysK.a (c : SaysK fa fn ts ex w K) : He5.SaysA fa fn K := congrArg (fun z : AlK => z.1.1) c.all
theorem SaysK.tab (c : SaysK fa fn ts ex w K) (i : Nat) {t : TabK} (h : ts[i]? = some t := by rfl) : ∃ es n, KDict K w (t.1 K) es n := by
  have e : ts.map (fun t => He.dicW K (t.1 K)) = ts.map fun t => some (He.keysIn w.params t.2) := congrArg (fun z : AlK => z.1.2) c.all
  have e2 : (ts.map fun t => He.dicW K (t.1 K))[i]? = (ts.map fun t => some (He.keysIn w.params t.2))[i]? := by rw [e]
  rw [List.getElem?_map, List.getElem?_map, h] at e2
  exact He.dicW_ok (Option.some.inj e2)
theorem SaysK.bool (c : SaysK fa fn ts ex w K) (i : Nat) {b : PySem.W.Frag → Bool} (h : ex[i]? = some b := by rfl) : b K = true := by
  have e : (ex.all fun b => b K) = true := congrArg (fun z : AlK => z.2) c.all
  exact List.all_eq_true.mp e b (List.mem_of_getElem? h)
end
/-! ### Bools of K -/
def clsB (x : Str) (K : PySem.W.Frag) : Bool := PySem.W.plainGet K (He.ga K x) Str.empty && (PySem.W.isClsIn K (He.ga K x) && (PySem.W.plainOver K (He.ga K x) && He.eqO (PySem.W.findIn K (.ref (He.ga K x)) "__setattr__") (some (some (.builtin "object.__setattr__")))))
def isiB (x : Str) (K : PySem.W.Frag) : Bool := He.eqO (PySem.W.findIn K (.ref (He.ga K x)) "__class__") (some (some (.builtin "object.__class__"))) && (He.eqO (PySem.W.specialIn K (.builtin "object.__class__") "__get__") (some (some (.builtin "getset_descriptor.__get__"))) &&
  (decide (PySem.W.takesIn K (.builtin "object.__class__") = some true) && decide (PySem.W.mroIn K (He.ga K x) (.type "object") = some true)))
def slB (x f : Str) (i : Nat) (K : PySem.W.Frag) : Bool := He.eqO (PySem.W.findIn K (.ref (He.ga K x)) f) (some (some (.ref (He.ma K (He.ga K x) f)))) && (He.eqO (PySem.W.specialIn K (.ref (He.ma K (He.ga K x) f)) "__get__") (some (some (.builtin "member_descriptor.__get__"))) &&
  (decide (PySem.W.takesIn K (.ref (He.ma K (He.ga K x) f)) = some true) && (decide (PySem.W.typeIn K (.ref (He.ma K (He.ga K x) f)) = some (.type "member_descriptor")) && decide (PySem.W.slotIn K (He.ma K (He.ga K x) f) (He.ga K x) = some i))))
def propB (x f : Str) (K : PySem.W.Frag) : Bool := He.eqO (PySem.W.findIn K (.ref (He.ga K x)) f) (some (some (.ref (He.ma K (He.ga K x) f)))) && (He.eqO (PySem.W.specialIn K (.ref (He.ma K (He.ga K x) f)) "__get__") (some (some (.builtin "property.__get__"))) &&
  (decide (PySem.W.takesIn K (.ref (He.ma K (He.ga K x) f)) = some true) && (match PySem.W.recIn K (He.ma K (He.ga K x) f) "property" with
    | some (.ref _ :: _) => true
    | _ => false)))
def ownB (x m : Str) (K : PySem.W.Frag) : Bool := He.eqO (PySem.W.findIn K (.ref (He.ga K x)) m) (some (some (.ref (He.ma K (He.ga K x) m)))) && PySem.W.isFn K (.ref (He.ma K (He.ga K x) m))
def bltB (x m : Str) (b : String) (K : PySem.W.Frag) : Bool := He.eqO (PySem.W.findIn K (.ref (He.ga K x)) m) (some (some (.builtin b)))
def firstB (x : Str) (K : PySem.W.Frag) : Bool := PySem.W.selfFirst K (He.ga K x)
def readB (x : Str) (K : PySem.W.Frag) : Bool := PySem.W.readsIn K (He.ga K x) (.type "type") && He.eqO (PySem.W.specialIn K (.ref (He.ga K x)) "__getattribute__") (some (some (.builtin "type.__getattribute__")))
def cmB (x m : Str) (K : PySem.W.Frag) : Bool := He5.wrapB K (He.ga K x) "classmethod" "classmethod.__get__" m && PySem.W.fnIn K (He5.wf K (He.ga K x) "classmethod" m)
def valsB (x : Str) (kvs : List (Str × He.Dv)) (K : PySem.W.Frag) : Bool := He.valsB K (He.ga K x) kvs
section
variable {K : PySem.W.Frag} {x m f : Str}
theorem clsB_ok (h : clsB x K = true) : SlX.SCls K (He.ga K x) := by
  obtain ⟨h1, h⟩ := He.ba h
  obtain ⟨h2, h⟩ := He.ba h
  obtain ⟨h3, h4⟩ := He.ba h
  exact ⟨h1, h2, h3, He.eqO_ok h4⟩
theorem isiB_ok (h : isiB x K = true) : SlX.SIsi K (He.ga K x) := by
  obtain ⟨h1, h⟩ := He.ba h
  obtain ⟨h2, h⟩ := He.ba h
  obtain ⟨h3, h4⟩ := He.ba h
  exact ⟨He.eqO_ok h1, He.eqO_ok h2, of_decide_eq_true h3, of_decide_eq_true h4⟩
theorem slB_ok {i : Nat} (h : slB x f i K = true) (hi : i < 1000 := by decide) : SlX.Slot1 K (He.ga K x) f (He.ma K (He.ga K x) f) i := by
  obtain ⟨h1, h⟩ := He.ba h
  obtain ⟨h2, h⟩ := He.ba h
  obtain ⟨h3, h⟩ := He.ba h
  obtain ⟨h4, h5⟩ := He.ba h
  exact ⟨He.eqO_ok h1, He.eqO_ok h2, of_decide_eq_true h3, of_decide_eq_true h4, of_decide_eq_true h5, hi⟩
theorem propB_ok (h : propB x f K = true) : PropG K (He.ga K x) f (He.ma K (He.ga K x) f) (He5.wf K (He.ga K x) "property" f) := by
  obtain ⟨h1, h⟩ := He.ba h
  obtain ⟨h2, h⟩ := He.ba h
  obtain ⟨h3, h4⟩ := He.ba h
  refine ⟨He.eqO_ok h1, He.eqO_ok h2, of_decide_eq_true h3, ?_⟩
  unfold He5.wf
  split at h4
  · rename_i g r e
    exact ⟨r, by rw [e]⟩
  · cases h4
theorem ownB_ok (h : ownB x m K = true) : PySem.W.findIn K (.ref (He.ga K x)) m = some (some (.ref (He.ma K (He.ga K x) m))) ∧ PySem.W.isFn K (.ref (He.ma K (He.ga K x) m)) = true := by
  obtain ⟨h1, h2⟩ := He.ba h
  exact ⟨He.eqO_ok h1, h2⟩
theorem bltB_ok {b : String} (h : bltB x m b K = true) : PySem.W.findIn K (.ref (He.ga K x)) m = some (some (.builtin b)) := He.eqO_ok h
theorem readB_ok (h : readB x K = true) : ClX.CRead K (He.ga K x) (.type "type") := by
  obtain ⟨h1, h2⟩ := He.ba h
  exact ⟨h1, He.eqO_ok h2⟩
theorem cmB_ok (h : cmB x m K = true) : ClX.CMet K (He.ga K x) (.type "type") m (He.ma K (He.ga K x) m) (He5.wf K (He.ga K x) "classmethod" m) := by
  obtain ⟨h1, h2⟩ := He.ba h
  exact He5.cmet_of h1 h2
theorem kdct_ok {w : World} {es : Array DictEntry} {n : Nat} {kvs : List (Str × He.Dv)} (D : KDict K w (He.ga K x) es n) (h : valsB x kvs K = true) {q : Str × He.Dv} (hq : q ∈ kvs) : KDct K w (He.ga K x) q.1 (q.2.v K) := by
  obtain ⟨u, h1, h2⟩ := He.valsB_ok h hq
  exact ⟨es, n, u, D.at_, D.lit, h1, h2⟩
end
end K46
set_option Elab.async false
set_option linter.all false
set_option autoImplicit false
set_option maxRecDepth 100000
/-! K46H2: the lists of the head's facts. -/
namespace K46
open PySem PySem.Spec PyProof.Rows L2
set_option maxHeartbeats 4000000
def hdG (x : Str) (i : Nat) : He5.DefA := ⟨fun K => He.ga K x, x, x, defArgs (top i), defBody (top i), defScope (top i), [], []⟩
def hdM (x m : Str) (st : Stmt) : He5.DefA := ⟨fun K => He.ma K (He.ga K x) m, m, x ++ "." ++ m, defArgs st, defBody st, defScope st, [], []⟩
def hdW (x : Str) (T : String) (m q : Str) (st : Stmt) : He5.DefA := ⟨fun K => He5.wf K (He.ga K x) T m, m, q, defArgs st, defBody st, defScope st, [], []⟩
def hFa : List He.Fa := [
  .glo "is_whole", .glo "is_integer", .glo "require_leaves", .glo "require_building", .glo "joined_building", .glo "results_of",
  .glo "met_states", .glo "renumbered_parts", .glo "signs_of", .glo "marked_anew", .glo "state_classes", .glo "least_parts",
  .glo "met_pairs", .glo "is_kept", .glo "joined_parts", .glo "is_state", .glo "are_states", .glo "is_square",
  .glo "are_right", .glo "require_table", .glo "five_of", .glo "table_by", .glo "state_in", .glo "misread",
  .glo "_law_dice", .glo "_law_roll", .glo "_law_mixed", .glo "_law_some", .glo "_law_building", .glo "_law_text",
  .glo "_law_built", .glo "_law_all_buildings", .glo "_law_plain_table", .glo "_law_table_made", .glo "_law_reached", .glo "_law_marks_of",
  .glo "_law_least_plain", .glo "_law_both_sides", .glo "_law_is_table", .glo "_law_doubled", .glo "_law_moved", .glo "_law_right",
  .glo "law", .glo "Table", .glo "Building", .glo "SIGNS", .glo "LOST", .free "len",
  .free "range", .free "tuple", .free "list", .free "dict", .free "set", .free "sorted",
  .free "zip", .free "enumerate", .free "isinstance", .free "int", .free "bool", .free "str",
  .free "abs", .free "max", .free "min", .free "repr", .free "all", .int "GREAT" (10 ^ 60),
  .int "MAX_LEAVES" 60, .int "MAX_STATES" 400, .str "TIE" "tie", .str "GAP" "gap", .str "ROW" "row", .str "SIDE" "side",
  .str "BOTH" "both", .str "SOME" "some", .mkr "Table", .mkr "Building", .meth "Table" "accepts"]
def hFn : List He5.DefA := [
  hdG "is_whole" 9, hdG "is_integer" 10, hdG "require_leaves" 19, hdG "require_building" 21, hdG "joined_building" 22, hdG "results_of" 27,
  hdG "met_states" 28, hdG "renumbered_parts" 29, hdG "signs_of" 30, hdG "marked_anew" 31, hdG "state_classes" 32, hdG "least_parts" 33,
  hdG "met_pairs" 34, hdG "is_kept" 35, hdG "joined_parts" 36, hdG "is_state" 43, hdG "are_states" 44, hdG "is_square" 45,
  hdG "are_right" 46, hdG "require_table" 48, hdG "five_of" 50, hdG "table_by" 51, hdG "state_in" 53, hdG "misread" 54,
  hdG "_law_dice" 56, hdG "_law_roll" 57, hdG "_law_mixed" 58, hdG "_law_some" 59, hdG "_law_building" 60, hdG "_law_text" 61,
  hdG "_law_built" 62, hdG "_law_all_buildings" 63, hdG "_law_plain_table" 64, hdG "_law_table_made" 65, hdG "_law_reached" 66, hdG "_law_marks_of" 67,
  hdG "_law_least_plain" 68, hdG "_law_both_sides" 69, hdG "_law_is_table" 70, hdG "_law_doubled" 71, hdG "_law_moved" 72, hdG "_law_right" 73,
  hdG "law" 74, hdM "Table" "__init__" (TM 1), hdM "Table" "accepts" (TM 12), hdM "Table" "__len__" (TM 18), hdM "Table" "__eq__" (TM 19), hdM "Building" "__init__" (BM 1),
  hdM "Building" "__add__" (BM 14), hdM "Building" "__or__" (BM 15), hdW "Table" "property" "tie_state" "Table.tie_state" (TM 2), hdW "Table" "property" "gap_state" "Table.gap_state" (TM 3), hdW "Table" "property" "rows" "Table.rows" (TM 4), hdW "Table" "property" "sides" "Table.sides" (TM 5),
  hdW "Table" "property" "accepted" "Table.accepted" (TM 6), hdW "Table" "property" "reached" "Table.reached" (TM 7), hdW "Table" "property" "least" "Table.least" (TM 9), hdW "Table" "property" "is_least" "Table.is_least" (TM 10), hdW "Building" "property" "parts" "Building.parts" (BM 5), hdW "Building" "classmethod" "tie" "Building.tie" (BM 2),
  hdW "Building" "classmethod" "gap" "Building.gap" (BM 3)]
def hTs : List TabK := [(fun K => He.ga K "SIGNS", ["row", "side"]), (fun K => He.ga K "LOST", ["row", "side"])]
def hEx : List (PySem.W.Frag → Bool) := [
  clsB "Table", isiB "Table", clsB "Building", isiB "Building", slB "Table" "own_tie" 4, slB "Table" "own_gap" 1,
  slB "Table" "own_rows" 2, slB "Table" "own_sides" 3, slB "Table" "own_accepted" 0, slB "Building" "word" 5, slB "Building" "own_parts" 2, slB "Building" "own_text" 4,
  slB "Building" "own_leaves" 0, slB "Building" "own_size" 3, slB "Building" "own_many" 1, propB "Table" "tie_state", propB "Table" "gap_state", propB "Table" "rows",
  propB "Table" "sides", propB "Table" "accepted", propB "Table" "reached", propB "Table" "least", propB "Table" "is_least", propB "Building" "parts",
  bltB "Table" "__ne__" "object.__ne__", ownB "Table" "__eq__", ownB "Table" "__len__", firstB "Building", ownB "Building" "__add__", ownB "Building" "__or__",
  readB "Building", cmB "Building" "tie", cmB "Building" "gap", valsB "SIGNS" [("row", .str " + "), ("side", .str " | ")], valsB "LOST" [("row", .int 1), ("side", .int 2)]]
end K46
set_option Elab.async false
set_option linter.all false
set_option autoImplicit false
set_option maxRecDepth 100000
/-! K46J1: the facts by their names, the walks joined. Printed by gen_j1.py. -/
namespace K46
open PySem PySem.Spec PyProof.Rows L2
set_option maxHeartbeats 4000000
section
variable {P : Program} {w : World} {K : PySem.W.Frag} {h base : Heap} {mg : Str → Option Value}
abbrev Says (w : World) (K : PySem.W.Frag) : Prop := SaysK hFa hFn hTs hEx w K
theorem s_free (X : K.In h) (G : h.Ns mainGlobals mg) (c : Says w K) : Free mg := ⟨He.free_ok X G (c.a.fact 47 (f := .free "len") rfl), He.free_ok X G (c.a.fact 48 (f := .free "range") rfl), He.free_ok X G (c.a.fact 49 (f := .free "tuple") rfl), He.free_ok X G (c.a.fact 50 (f := .free "list") rfl), He.free_ok X G (c.a.fact 51 (f := .free "dict") rfl), He.free_ok X G (c.a.fact 52 (f := .free "set") rfl), He.free_ok X G (c.a.fact 53 (f := .free "sorted") rfl), He.free_ok X G (c.a.fact 54 (f := .free "zip") rfl), He.free_ok X G (c.a.fact 55 (f := .free "enumerate") rfl), He.free_ok X G (c.a.fact 56 (f := .free "isinstance") rfl), He.free_ok X G (c.a.fact 57 (f := .free "int") rfl), He.free_ok X G (c.a.fact 58 (f := .free "bool") rfl), He.free_ok X G (c.a.fact 59 (f := .free "str") rfl), He.free_ok X G (c.a.fact 60 (f := .free "abs") rfl), He.free_ok X G (c.a.fact 61 (f := .free "max") rfl), He.free_ok X G (c.a.fact 62 (f := .free "min") rfl), He.free_ok X G (c.a.fact 63 (f := .free "repr") rfl), He.free_ok X G (c.a.fact 64 (f := .free "all") rfl)⟩
theorem s_consts (X : K.In h) (G : h.Ns mainGlobals mg) (c : Says w K) : Consts mg := ⟨He.int_ok X G (c.a.fact 65 (f := .int "GREAT" (10 ^ 60)) rfl), He.int_ok X G (c.a.fact 66 (f := .int "MAX_LEAVES" 60) rfl), He.int_ok X G (c.a.fact 67 (f := .int "MAX_STATES" 400) rfl), He.str_ok X G (c.a.fact 68 (f := .str "TIE" "tie") rfl), He.str_ok X G (c.a.fact 69 (f := .str "GAP" "gap") rfl), He.str_ok X G (c.a.fact 70 (f := .str "ROW" "row") rfl), He.str_ok X G (c.a.fact 71 (f := .str "SIDE" "side") rfl), He.str_ok X G (c.a.fact 72 (f := .str "BOTH" "both") rfl), He.str_ok X G (c.a.fact 73 (f := .str "SOME" "some") rfl)⟩
theorem s_slTable (c : Says w K) : SlC K (He.ga K "Table") := ⟨clsB_ok (c.bool 0 (b := clsB "Table") rfl), isiB_ok (c.bool 1 (b := isiB "Table") rfl), He.mkr_ok (c.a.fact 74 (f := .mkr "Table") rfl)⟩
theorem s_slBuilding (c : Says w K) : SlC K (He.ga K "Building") := ⟨clsB_ok (c.bool 2 (b := clsB "Building") rfl), isiB_ok (c.bool 3 (b := isiB "Building") rfl), He.mkr_ok (c.a.fact 75 (f := .mkr "Building") rfl)⟩
theorem s_tblC (X : K.In h) (G : h.Ns mainGlobals mg) (c : Says w K) : TblC K mg := ⟨He.glo_ok X G (c.a.fact 43 (f := .glo "Table") rfl), s_slTable c, slB_ok (c.bool 4 (b := slB "Table" "own_tie" 4) rfl), slB_ok (c.bool 5 (b := slB "Table" "own_gap" 1) rfl), slB_ok (c.bool 6 (b := slB "Table" "own_rows" 2) rfl), slB_ok (c.bool 7 (b := slB "Table" "own_sides" 3) rfl), slB_ok (c.bool 8 (b := slB "Table" "own_accepted" 0) rfl)⟩
theorem s_bldC (X : K.In h) (G : h.Ns mainGlobals mg) (c : Says w K) : BldC K mg := ⟨He.glo_ok X G (c.a.fact 44 (f := .glo "Building") rfl), s_slBuilding c, slB_ok (c.bool 9 (b := slB "Building" "word" 5) rfl), slB_ok (c.bool 10 (b := slB "Building" "own_parts" 2) rfl), slB_ok (c.bool 11 (b := slB "Building" "own_text" 4) rfl), slB_ok (c.bool 12 (b := slB "Building" "own_leaves" 0) rfl), slB_ok (c.bool 13 (b := slB "Building" "own_size" 3) rfl), slB_ok (c.bool 14 (b := slB "Building" "own_many" 1) rfl)⟩
theorem s_sgnC (X : K.In h) (G : h.Ns mainGlobals mg) (c : Says w K) : SgnC K w mg := by
  obtain ⟨e1, n1, D1⟩ := c.tab 0 (t := (fun K => He.ga K "SIGNS", ["row", "side"])) rfl
  obtain ⟨e2, n2, D2⟩ := c.tab 1 (t := (fun K => He.ga K "LOST", ["row", "side"])) rfl
  have v1 := (c.bool 33 (b := valsB "SIGNS" [("row", .str " + "), ("side", .str " | ")]) rfl)
  have v2 := (c.bool 34 (b := valsB "LOST" [("row", .int 1), ("side", .int 2)]) rfl)
  exact ⟨⟨_, (He.glo_ok X G (c.a.fact 45 (f := .glo "SIGNS") rfl)), kdct_ok D1 v1 (q := ("row", .str " + ")) (.head _), kdct_ok D1 v1 (q := ("side", .str " | ")) (.tail _ (.head _))⟩, ⟨_, (He.glo_ok X G (c.a.fact 46 (f := .glo "LOST") rfl)), kdct_ok D2 v2 (q := ("row", .int 1)) (.head _), kdct_ok D2 v2 (q := ("side", .int 2)) (.tail _ (.head _))⟩⟩
theorem s_law (X : K.In h) (G : h.Ns mainGlobals mg) (c : Says w K) : PrG P w K mg base 26 "law" ["_law_script"] (spLaw K) := by
  have B := s_free X G c
  have Cn := s_consts X G c
  have TC := s_tblC X G c
  have BC := s_bldC X G c
  have SG := s_sgnC X G c
  have whole := ok_whole (P := P) (w := w) (base := base) B (show FnG K "is_whole" (top 9) from c.a.def_ 0 (d := hdG "is_whole" 9) rfl) (He.glo_ok X G (c.a.fact 0 (f := .glo "is_whole") rfl))
  have integer := ok_integer Cn (show FnG K "is_integer" (top 10) from c.a.def_ 1 (d := hdG "is_integer" 10) rfl) (He.glo_ok X G (c.a.fact 1 (f := .glo "is_integer") rfl)) whole
  have state := ok_state (show FnG K "is_state" (top 43) from c.a.def_ 15 (d := hdG "is_state" 43) rfl) (He.glo_ok X G (c.a.fact 15 (f := .glo "is_state") rfl)) integer
  have states := ok_states B (show FnG K "are_states" (top 44) from c.a.def_ 16 (d := hdG "are_states" 44) rfl) (He.glo_ok X G (c.a.fact 16 (f := .glo "are_states") rfl)) state
  have square := ok_square B (show FnG K "is_square" (top 45) from c.a.def_ 17 (d := hdG "is_square" 45) rfl) (He.glo_ok X G (c.a.fact 17 (f := .glo "is_square") rfl)) state
  have right := ok_right B Cn (show FnG K "are_right" (top 46) from c.a.def_ 18 (d := hdG "are_right" 46) rfl) (He.glo_ok X G (c.a.fact 18 (f := .glo "are_right") rfl)) state square states
  have tinit := ok_tinit TC (show MtG K "Table" "__init__" (TM 1) from c.a.def_ 43 (d := hdM "Table" "__init__" (TM 1)) rfl) right
  have five := ok_five (P := P) (w := w) (base := base) TC (show FnG K "five_of" (top 50) from c.a.def_ 20 (d := hdG "five_of" 50) rfl) (He.glo_ok X G (c.a.fact 20 (f := .glo "five_of") rfl))
  have by_ := ok_by TC (show FnG K "table_by" (top 51) from c.a.def_ 21 (d := hdG "table_by" 51) rfl) (He.glo_ok X G (c.a.fact 21 (f := .glo "table_by") rfl)) tinit
  have res := ok_res (P := P) (w := w) (base := base) (show FnG K "results_of" (top 27) from c.a.def_ 5 (d := hdG "results_of" 27) rfl) (He.glo_ok X G (c.a.fact 5 (f := .glo "results_of") rfl))
  have met := ok_met B (show FnG K "met_states" (top 28) from c.a.def_ 6 (d := hdG "met_states" 28) rfl) (He.glo_ok X G (c.a.fact 6 (f := .glo "met_states") rfl)) res
  have ren := ok_ren (P := P) (w := w) (base := base) B (show FnG K "renumbered_parts" (top 29) from c.a.def_ 7 (d := hdG "renumbered_parts" 29) rfl) (He.glo_ok X G (c.a.fact 7 (f := .glo "renumbered_parts") rfl))
  have signs := ok_signs (P := P) (w := w) (base := base) B (show FnG K "signs_of" (top 30) from c.a.def_ 8 (d := hdG "signs_of" 30) rfl) (He.glo_ok X G (c.a.fact 8 (f := .glo "signs_of") rfl))
  have anew := ok_anew B (show FnG K "marked_anew" (top 31) from c.a.def_ 9 (d := hdG "marked_anew" 31) rfl) (He.glo_ok X G (c.a.fact 9 (f := .glo "marked_anew") rfl)) signs
  have cls := ok_cls B (show FnG K "state_classes" (top 32) from c.a.def_ 10 (d := hdG "state_classes" 32) rfl) (He.glo_ok X G (c.a.fact 10 (f := .glo "state_classes") rfl)) anew
  have least := ok_least B (show FnG K "least_parts" (top 33) from c.a.def_ 11 (d := hdG "least_parts" 33) rfl) (He.glo_ok X G (c.a.fact 11 (f := .glo "least_parts") rfl)) met cls ren
  have mp := ok_mp B (show FnG K "met_pairs" (top 34) from c.a.def_ 12 (d := hdG "met_pairs" 34) rfl) (He.glo_ok X G (c.a.fact 12 (f := .glo "met_pairs") rfl)) res
  have kept := ok_kept (P := P) (w := w) (base := base) Cn (show FnG K "is_kept" (top 35) from c.a.def_ 13 (d := hdG "is_kept" 35) rfl) (He.glo_ok X G (c.a.fact 13 (f := .glo "is_kept") rfl))
  have jn := ok_jn B (show FnG K "joined_parts" (top 36) from c.a.def_ 14 (d := hdG "joined_parts" 36) rfl) (He.glo_ok X G (c.a.fact 14 (f := .glo "joined_parts") rfl)) mp kept
  have reqT := ok_reqT (P := P) (w := w) (base := base) B TC (show FnG K "require_table" (top 48) from c.a.def_ 19 (d := hdG "require_table" 48) rfl) (He.glo_ok X G (c.a.fact 19 (f := .glo "require_table") rfl))
  have mis := ok_mis (show FnG K "misread" (top 54) from c.a.def_ 23 (d := hdG "misread" 54) rfl) (He.glo_ok X G (c.a.fact 23 (f := .glo "misread") rfl)) reqT five jn
  have tieP := ok_tieP (P := P) (w := w) (base := base) TC (c.a.def_ 50 (d := hdW "Table" "property" "tie_state" "Table.tie_state" (TM 2)) rfl)
  have gapP := ok_gapP (P := P) (w := w) (base := base) TC (c.a.def_ 51 (d := hdW "Table" "property" "gap_state" "Table.gap_state" (TM 3)) rfl)
  have rowsP := ok_rowsP (P := P) (w := w) (base := base) TC (c.a.def_ 52 (d := hdW "Table" "property" "rows" "Table.rows" (TM 4)) rfl)
  have sidesP := ok_sidesP (P := P) (w := w) (base := base) TC (c.a.def_ 53 (d := hdW "Table" "property" "sides" "Table.sides" (TM 5)) rfl)
  have accP := ok_accP (P := P) (w := w) (base := base) TC (c.a.def_ 54 (d := hdW "Table" "property" "accepted" "Table.accepted" (TM 6)) rfl)
  have reachP := ok_reachP B TC (c.a.def_ 55 (d := hdW "Table" "property" "reached" "Table.reached" (TM 7)) rfl) five met
  have leastP := ok_leastP TC (c.a.def_ 56 (d := hdW "Table" "property" "least" "Table.least" (TM 9)) rfl) five least by_
  have isLeastP := ok_isLeastP (c.a.def_ 57 (d := hdW "Table" "property" "is_least" "Table.is_least" (TM 10)) rfl) five least
  have lenT := ok_lenT (P := P) (w := w) (base := base) B TC (show MtG K "Table" "__len__" (TM 18) from c.a.def_ 45 (d := hdM "Table" "__len__" (TM 18)) rfl)
  have eqT := ok_eqT (P := P) (w := w) (base := base) B TC (show MtG K "Table" "__eq__" (TM 19) from c.a.def_ 46 (d := hdM "Table" "__eq__" (TM 19)) rfl)
  have binit := ok_binit (P := P) (w := w) (base := base) BC SG (show MtG K "Building" "__init__" (BM 1) from c.a.def_ 47 (d := hdM "Building" "__init__" (BM 1)) rfl)
  have tieC := ok_tieC BC Cn (c.a.def_ 59 (d := hdW "Building" "classmethod" "tie" "Building.tie" (BM 2)) rfl) binit
  have gapC := ok_gapC BC Cn (c.a.def_ 60 (d := hdW "Building" "classmethod" "gap" "Building.gap" (BM 3)) rfl) binit
  have partsP := ok_partsP (P := P) (w := w) (base := base) BC (c.a.def_ 58 (d := hdW "Building" "property" "parts" "Building.parts" (BM 5)) rfl)
  have reqL := ok_reqL (P := P) (w := w) (base := base) Cn (show FnG K "require_leaves" (top 19) from c.a.def_ 2 (d := hdG "require_leaves" 19) rfl) (He.glo_ok X G (c.a.fact 2 (f := .glo "require_leaves") rfl))
  have reqB := ok_reqB (P := P) (w := w) (base := base) B BC (show FnG K "require_building" (top 21) from c.a.def_ 3 (d := hdG "require_building" 21) rfl) (He.glo_ok X G (c.a.fact 3 (f := .glo "require_building") rfl))
  have join := ok_join B BC (show FnG K "joined_building" (top 22) from c.a.def_ 4 (d := hdG "joined_building" 22) rfl) (He.glo_ok X G (c.a.fact 4 (f := .glo "joined_building") rfl)) reqL binit
  have add := ok_add Cn (show MtG K "Building" "__add__" (BM 14) from c.a.def_ 48 (d := hdM "Building" "__add__" (BM 14)) rfl) join
  have or_ := ok_or Cn (show MtG K "Building" "__or__" (BM 15) from c.a.def_ 49 (d := hdM "Building" "__or__" (BM 15)) rfl) join
  have stIn := ok_st BC TC Cn (propB_ok (c.bool 23 (b := propB "Building" "parts") rfl)) partsP (show FnG K "state_in" (top 53) from c.a.def_ 22 (d := hdG "state_in" 53) rfl) (He.glo_ok X G (c.a.fact 22 (f := .glo "state_in") rfl)) 20
  have accepts := ok_accepts TC (show MtG K "Table" "accepts" (TM 12) from c.a.def_ 44 (d := hdM "Table" "accepts" (TM 12)) rfl) reqB stIn
  have TP : TabP P w K mg base := ⟨⟨_, _, (propB_ok (c.bool 15 (b := propB "Table" "tie_state") rfl)), tieP⟩, ⟨_, _, (propB_ok (c.bool 16 (b := propB "Table" "gap_state") rfl)), gapP⟩, ⟨_, _, (propB_ok (c.bool 17 (b := propB "Table" "rows") rfl)), rowsP⟩, ⟨_, _, (propB_ok (c.bool 18 (b := propB "Table" "sides") rfl)), sidesP⟩, ⟨_, _, (propB_ok (c.bool 19 (b := propB "Table" "accepted") rfl)), accP⟩, ⟨_, _, (propB_ok (c.bool 20 (b := propB "Table" "reached") rfl)), reachP⟩, ⟨_, _, (propB_ok (c.bool 21 (b := propB "Table" "least") rfl)), leastP⟩, ⟨_, _, (propB_ok (c.bool 22 (b := propB "Table" "is_least") rfl)), isLeastP⟩⟩
  have TM : TabM P w K mg base := ⟨TP, bltB_ok (c.bool 24 (b := bltB "Table" "__ne__" "object.__ne__") rfl), (s_slTable c).isi.cm, (ownB_ok (c.bool 25 (b := ownB "Table" "__eq__") rfl)).1, (ownB_ok (c.bool 25 (b := ownB "Table" "__eq__") rfl)).2, eqT, (ownB_ok (c.bool 26 (b := ownB "Table" "__len__") rfl)).1, (ownB_ok (c.bool 26 (b := ownB "Table" "__len__") rfl)).2, lenT, He.meth_ok (c.a.fact 76 (f := .meth "Table" "accepts") rfl), accepts⟩
  have BM : BldM P w K mg base := ⟨⟨_, readB_ok (c.bool 30 (b := readB "Building") rfl), ⟨_, _, (cmB_ok (c.bool 31 (b := cmB "Building" "tie") rfl)), tieC⟩, ⟨_, _, (cmB_ok (c.bool 32 (b := cmB "Building" "gap") rfl)), gapC⟩⟩, (c.bool 27 (b := firstB "Building") rfl), (ownB_ok (c.bool 28 (b := ownB "Building" "__add__") rfl)).1, (ownB_ok (c.bool 28 (b := ownB "Building" "__add__") rfl)).2, (ownB_ok (c.bool 29 (b := ownB "Building" "__or__") rfl)).1, (ownB_ok (c.bool 29 (b := ownB "Building" "__or__") rfl)).2⟩
  have made := ok_made B TC (show FnG K "_law_table_made" (top 65) from c.a.def_ 33 (d := hdG "_law_table_made" 65) rfl) (He.glo_ok X G (c.a.fact 33 (f := .glo "_law_table_made") rfl)) tinit
  have both := ok_both (P := P) (w := w) (base := base) (show FnG K "_law_both_sides" (top 69) from c.a.def_ 37 (d := hdG "_law_both_sides" 69) rfl) (He.glo_ok X G (c.a.fact 37 (f := .glo "_law_both_sides") rfl))
  have moved := ok_moved (P := P) (w := w) (base := base) B (show FnG K "_law_moved" (top 72) from c.a.def_ 40 (d := hdG "_law_moved" 72) rfl) (He.glo_ok X G (c.a.fact 40 (f := .glo "_law_moved") rfl))
  have dbl := ok_dbl (P := P) (w := w) (base := base) B (show FnG K "_law_doubled" (top 71) from c.a.def_ 39 (d := hdG "_law_doubled" 71) rfl) (He.glo_ok X G (c.a.fact 39 (f := .glo "_law_doubled") rfl))
  have reach := ok_reach (P := P) (w := w) (base := base) B (show FnG K "_law_reached" (top 66) from c.a.def_ 34 (d := hdG "_law_reached" 66) rfl) (He.glo_ok X G (c.a.fact 34 (f := .glo "_law_reached") rfl))
  have marks := ok_marks (P := P) (w := w) (base := base) B (show FnG K "_law_marks_of" (top 67) from c.a.def_ 35 (d := hdG "_law_marks_of" 67) rfl) (He.glo_ok X G (c.a.fact 35 (f := .glo "_law_marks_of") rfl))
  have lp := ok_lp B (show FnG K "_law_least_plain" (top 68) from c.a.def_ 36 (d := hdG "_law_least_plain" 68) rfl) (He.glo_ok X G (c.a.fact 36 (f := .glo "_law_least_plain") rfl)) reach marks both
  have isT := ok_isT B TC TP (show FnG K "_law_is_table" (top 70) from c.a.def_ 38 (d := hdG "_law_is_table" 70) rfl) (He.glo_ok X G (c.a.fact 38 (f := .glo "_law_is_table") rfl))
  have text := ok_text (P := P) (w := w) (base := base) B (show FnG K "_law_text" (top 61) from c.a.def_ 29 (d := hdG "_law_text" 61) rfl) (He.glo_ok X G (c.a.fact 29 (f := .glo "_law_text") rfl)) 3
  have built := ok_built B BC BM add or_ (show FnG K "_law_built" (top 62) from c.a.def_ 30 (d := hdG "_law_built" 62) rfl) (He.glo_ok X G (c.a.fact 30 (f := .glo "_law_built") rfl)) 9
  have all := ok_all B text (show FnG K "_law_all_buildings" (top 63) from c.a.def_ 31 (d := hdG "_law_all_buildings" 63) rfl) (He.glo_ok X G (c.a.fact 31 (f := .glo "_law_all_buildings") rfl)) 3
  have roll := ok_roll (P := P) (w := w) (base := base) B (show FnG K "_law_roll" (top 57) from c.a.def_ 25 (d := hdG "_law_roll" 57) rfl) (He.glo_ok X G (c.a.fact 25 (f := .glo "_law_roll") rfl))
  have dice := ok_dice (P := P) (w := w) (base := base) B (show FnG K "_law_dice" (top 56) from c.a.def_ 24 (d := hdG "_law_dice" 56) rfl) (He.glo_ok X G (c.a.fact 24 (f := .glo "_law_dice") rfl))
  have mix := ok_mix B roll (show FnG K "_law_mixed" (top 58) from c.a.def_ 26 (d := hdG "_law_mixed" 58) rfl) (He.glo_ok X G (c.a.fact 26 (f := .glo "_law_mixed") rfl))
  have some_ := ok_some B roll (show FnG K "_law_some" (top 59) from c.a.def_ 27 (d := hdG "_law_some" 59) rfl) (He.glo_ok X G (c.a.fact 27 (f := .glo "_law_some") rfl))
  have bing := ok_bing B roll (show FnG K "_law_building" (top 60) from c.a.def_ 28 (d := hdG "_law_building" 60) rfl) (He.glo_ok X G (c.a.fact 28 (f := .glo "_law_building") rfl)) 9
  have pt := ok_pt B roll some_ (show FnG K "_law_plain_table" (top 64) from c.a.def_ 32 (d := hdG "_law_plain_table" 64) rfl) (He.glo_ok X G (c.a.fact 32 (f := .glo "_law_plain_table") rfl))
  have LF : LawF P w K mg base := ⟨roll, mix, bing, built, made, lp, isT, mis, dbl, moved⟩
  have rt := ok_rt B TC TM LF (show FnG K "_law_right" (top 73) from c.a.def_ 41 (d := hdG "_law_right" 73) rfl) (He.glo_ok X G (c.a.fact 41 (f := .glo "_law_right") rfl))
  exact ok_law B TC TM tinit dice pt rt made all built (show FnG K "law" (top 74) from c.a.def_ 42 (d := hdG "law" 74) rfl) (He.glo_ok X G (c.a.fact 42 (f := .glo "law") rfl))
end
end K46
set_option Elab.async false
set_option linter.all false
set_option autoImplicit false
set_option maxRecDepth 100000
/-! K46J2: the law's own call, its def's object found at the call. -/
namespace K46
open PySem PySem.Spec PyProof.Rows L2 Evl
set_option maxHeartbeats 4000000
/-! ### the law's own call -/
section
variable {P : Program} {w : World} {K : PySem.W.Frag} {mg mb : Str → Option Value} {k : Nat} {fa a : Addr} {x : Str} {sp : Sp} {s1 : Shared} {vs : List Value} {ns : List Int}
/-- from an abstract heap that tracks the script at most -/
theorem law_coreP (inK : K.In s1.heap) (glob : s1.heap.Ns mainGlobals mg) (blt : s1.heap.Ns builtinsNs mb) (blt0 : ∀ y : Str, y ≠ "__name__" → mb y = bootBuiltins y) (lim : s1.heap.NoLimit) (gens : s1.gens = #[])
    (ha : s1.heap.get? a = some { cls := .type "list", data := .seq vs.toArray }) (room : Room k callerA) (F : ∀ base : Heap, K.In base → base.Ns mainGlobals mg → ∃ fd, FnOkG P w K mg base k fa fd [x] sp ∧ Binds K fd [x] [])
    (H : Hp) (only : Only H) (prom : sp [.ref a] H (fun v _ => v = .bl true) fun _ _ _ => False) (hok : HOk P w H s1.heap) (at_a : ∀ b, H b ≠ none → b = a) (outK : H a ≠ none → K.lookup a = none) :
    codeAny (model P w) callerA (.call (.ref fa) ⟨[.ref a], []⟩) (fun r s' => r = .ok (.ret (.bool true)) ∧ OldK s1.heap s'.heap ∧ s'.os = s1.os ∧ AllBare s'.gens) s1 := by
  have notA : ∀ {b : Addr} {o : Obj}, s1.heap.get? b = some o → (b = a → False) → H b = none := fun {b o} _ n => by
    by_cases z : H b = none
    · exact z
    · exact (n (at_a b z)).elim
  have under : ∀ {b : Addr} {m : Str → Option Value}, s1.heap.Ns b m → (hidT s1.heap H).Ns b m := fun {b m} ⟨o, es, ep, z1, z2, z3⟩ => ⟨o, es, ep, hidT_get z1 (notA z1 fun q => by subst q; rw [ha] at z1; cases z1; exact nomatch z2), z2, z3⟩
  have inB : K.In (hidT s1.heap H) := fun b o z => hidT_get (inK b o z) (by
    by_cases q : H b = none
    · exact q
    · have := at_a b q
      subst this
      rw [outK q] at z; cases z)
  have limB : (hidT s1.heap H).NoLimit := by
    obtain ⟨mc, z1, z2⟩ := lim
    exact ⟨mc, under z1, z2⟩
  have env : Env0 P w K mg (hidT s1.heap H) callerA [] s1 H := { frames := rfl, mod := ⟨inB, under glob, ⟨mb, under blt, blt0⟩, limB⟩, bs := fun b o z => of_hidT z, bsz := Nat.le_of_eq (hidT_size _ _), funs := trivial, frf := (fun b hb => absurd (show b ∈ ([] : List Addr) from hb) (by simp)), hok := hok, bare := .of_eq gens }
  obtain ⟨fd, F1, F2⟩ := F _ inB (under glob)
  refine codeAny_mono (F1.go callerA [] s1 H ⟨[.ref a], []⟩ [.ref a] [.ref a] _ _ rfl room env (F2 s1 [.ref a] inK rfl) (.cons rfl .nil) prom) ?_
  intro r s' end_
  cases r with
  | error e => exact (show False from end_).elim
  | ok fl =>
    cases fl with
    | next => exact (show False from end_).elim
    | brk => exact (show False from end_).elim
    | cont => exact (show False from end_).elim
    | ret u =>
      obtain ⟨v, H', os, bare, un, hok', rv, q⟩ := end_
      have q : v = .bl true := q
      subst q
      have rv : u = Value.bool true := rv
      subst rv
      refine ⟨rfl, OldK.of_keep fun b o z => ?_, os, bare⟩
      rcases only b with n | ⟨ob, xs, z1⟩
      · exact un.keep b o z n (fun q => absurd (show b ∈ ([] : List Addr) from q) (by simp)) (by simp)
      · obtain ⟨y1, _⟩ := hok b _ z1
        obtain ⟨y2, _⟩ := hok' b _ (un.frzs b ob _ z1)
        rw [z] at y1; cases y1
        exact y2
theorem law_callP (inK : K.In s1.heap) (glob : s1.heap.Ns mainGlobals mg) (blt : s1.heap.Ns builtinsNs mb) (blt0 : ∀ y : Str, y ≠ "__name__" → mb y = bootBuiltins y) (lim : s1.heap.NoLimit) (gens : s1.gens = #[])
    (ha : s1.heap.get? a = some { cls := .type "list", data := .seq vs.toArray }) (isI : IntsAre vs ns) (short : ns.length ≤ sizeLine) (room : Room k callerA)
    (F : ∀ base : Heap, K.In base → base.Ns mainGlobals mg → ∃ fd, FnOkG P w K mg base k fa fd [x] sp ∧ Binds K fd [x] [])
    (prom : ∀ H : Hp, Only H → SqL K H a (ns.map V.int) → sp [.ref a] H (fun v _ => v = .bl true) fun _ _ _ => False) :
    codeAny (model P w) callerA (.call (.ref fa) ⟨[.ref a], []⟩) (fun r s' => r = .ok (.ret (.bool true)) ∧ OldK s1.heap s'.heap ∧ s'.os = s1.os ∧ AllBare s'.gens) s1 := by
  have rel : Vals (ns.map V.int) vs := L2.vals_ints isI
  have lenV : vs.length = ns.length := isI.length
  by_cases hk : K.lookup a = none
  · let H : Hp := fun b => if b = a then some (.frz { cls := .type "list", data := .seq vs.toArray } (.lst (ns.map V.int))) else none
    have Ha : H a = some (.frz { cls := .type "list", data := .seq vs.toArray } (.lst (ns.map V.int))) := if_pos rfl
    have Hn : ∀ b, b ≠ a → H b = none := fun b n => if_neg n
    have only : Only H := fun b => by
      by_cases q : b = a
      · subst q; exact .inr ⟨_, _, Ha⟩
      · exact .inl (Hn b q)
    refine law_coreP inK glob blt blt0 lim gens ha room F H only (prom H only (.inl (.inr ⟨_, Ha⟩))) (fun b u z => ?_) (fun b z => ?_) fun _ => hk
    · by_cases q : b = a
      · subst q
        rw [Ha] at z
        cases z
        exact ⟨ha, by rw [List.length_map]; exact short, vs, _, rel, ha⟩
      · rw [Hn b q] at z; cases z
    · by_cases q : b = a
      · exact q
      · exact absurd (Hn b q) z
  · obtain ⟨o, ho⟩ := Option.ne_none_iff_exists'.mp hk
    have z := inK a o ho
    rw [ha] at z
    cases z
    have only : Only (fun _ => none) := fun _ => .inl rfl
    exact law_coreP inK glob blt blt0 lim gens ha room F (fun _ => none) only (prom _ only (.inr ⟨_, vs.toArray, _, ho, rfl, rfl, rfl, by rw [List.size_toArray, lenV]; exact short, by simpa using rel⟩)) (fun b u z => nomatch (show (none : Option HO) = some u from z)) (fun b z => absurd rfl z) (fun z => absurd rfl z)
end
theorem walk_ofP {l : PySem.W.OpenLaw} {n k : Nat} {q : Program} {loose : List Str} {XP : (Str → Option Value) → Heap → Prop} {YP : World → Heap → Prop} {d : DefRec} {x : Str}
    (most : l.most = some n) (short : n ≤ sizeLine) (nodef : d.params.defaults = []) (room : Room k callerA)
    (F : ∀ (w : World) (mg : Str → Option Value) (fa : Addr) (h : Heap), YP w h → h.Ns mainGlobals mg → mg d.name = some (.ref fa) →
      ∃ (K : PySem.W.Frag) (sp : Sp), K.In h ∧
        (∀ (H : Hp) (a : Addr) (ns : List Int), ns.length ≤ n → Only H → SqL K H a (ns.map V.int) → sp [.ref a] H (fun v _ => v = .bl true) fun _ _ _ => False) ∧
        ∀ base : Heap, K.In base → base.Ns mainGlobals mg → ∃ fd, FnOkG l.prog w K mg base k fa fd [x] sp ∧ Binds K fd [x] []) :
    PySem.W.WalkO q loose XP YP l.row.toRowW d [] (fun f vs => PySem.call f vs) := by
  refine Att.attach_call most nodef ?_
  intro w s0 s1 mg mb fa o pm cd doc a vs ns G Y _ _ _ hmg obj isI len gens
  obtain ⟨K, sp, inK, prom, ok⟩ := F w mg fa _ Y G.T.g hmg
  exact law_callP inK G.T.g G.T.b G.T.builtins G.T.nolimit gens obj isI (Nat.le_trans len short) room ok fun H only sq => prom H a ns len only sq
end K46
set_option Elab.async false
set_option linter.all false
set_option maxRecDepth 100000
/-! K46H3: the run of the top. -/
namespace K46Head
open PySem PySem.W PySem.Calls PyProof.Rows
set_option maxHeartbeats 0
abbrev R : OpenRow := OpenLaw.row PySem.Challenge.rw_seamsayings_k46_whole_least_tables
abbrev qv : Program := view R.prog [74]
def n1 : List PySem.Str := ["_wall", "SeamError", "InvalidBuilding", "InvalidPath", "InvalidTable", "TooMany", "GREAT", "is_whole", "is_integer", "MAX_LEAVES", "TIE", "GAP"]
def n2 : List PySem.Str := ["ROW", "SIDE", "SIGNS", "LOST", "require_leaves", "Building", "require_building", "joined_building", "part_at", "BOTH", "SOME", "results_of"]
def n3 : List PySem.Str := ["met_states", "renumbered_parts", "signs_of", "marked_anew", "state_classes", "least_parts", "met_pairs", "is_kept", "joined_parts", "is_less", "least_waiting", "joined_with"]
def n4 : List PySem.Str := ["least_found", "MAX_STATES", "is_state", "are_states", "is_square", "are_right", "Table", "require_table", "require_operand", "five_of", "table_by", "few_joined"]
def n5 : List PySem.Str := ["state_in", "misread", "_law_dice", "_law_roll", "_law_mixed", "_law_some", "_law_building", "_law_text", "_law_built", "_law_all_buildings", "_law_plain_table", "_law_table_made"]
def n6 : List PySem.Str := ["_law_reached", "_law_marks_of", "_law_least_plain", "_law_both_sides", "_law_is_table", "_law_doubled", "_law_moved", "_law_right"]
def names : List PySem.Str := n1 ++ (n2 ++ (n3 ++ (n4 ++ (n5 ++ (n6)))))
abbrev hk : PySem.W.Hook := K46.hookK 5 K46.hFa K46.hFn K46.hTs K46.hEx
def ob (s : PySem.W.SharedT) : K46.AlK := K46.obsKG 5 K46.hFa K46.hFn K46.hTs K46.hEx (HandSHeadRun.getT s)
theorem ob_eq (s : PySem.W.SharedT) : ob s = hk.obs s.abs := K46.obsKG_eq (HandSHeadRun.getT_eq s)
theorem runF (w : World) : HandSHeadRun.RunEq R qv hk ob 7000 names (w.withFollow "special-get-raises" false) := by
  intro os
  kernel_rfl
theorem runT (w : World) : HandSHeadRun.RunEq R qv hk ob 7000 names (w.withFollow "special-get-raises" true) := by
  intro os
  kernel_rfl
theorem run (w : World) : HandSHeadRun.RunEq R qv hk ob 7000 names w := byRow2 "special-get-raises" runF runT w
end K46Head
set_option Elab.async false
set_option linter.all false
set_option maxRecDepth 100000
set_option maxHeartbeats 0
open PySem PySem.W PySem.Calls PyProof.Rows
theorem PySem.Challenge.cw_seamsayings_k46_whole_least_tables_holds : PySem.Challenge.rw_seamsayings_k46_whole_least_tables.Holds := by
  w_on; o_law
  refine HandSHeadRun.head_any (r := OpenLaw.row PySem.Challenge.rw_seamsayings_k46_whole_least_tables) (q := K46Head.qv) (H := K46Head.hk) (ob := K46Head.ob) (M := 7000) (loose := K46Head.names) (kwd := []) K46Head.ob_eq (by kernel_rfl) (fun s => by kernel_rfl) K46Head.run (by rfl) (by rfl) (by rfl) (by rfl) (by first | assumption | decide +kernel) (by decide +kernel) ⟨rfl, rfl, rfl, rfl, rfl, by decide +kernel⟩ ?hw ?hc
  case hw => w_witness2
  case hc =>
    refine K46.walk_ofP (l := PySem.Challenge.rw_seamsayings_k46_whole_least_tables) (n := 63) (k := 26) (x := "_law_script") rfl (by decide) (by kernel_rfl) ⟨rfl, by decide, by decide⟩ ?F
    intro w mg fa h Y G hmg0
    obtain ⟨K, KX, c⟩ := Y
    have hmg : mg ("law" : PySem.Str) = some (.ref fa) := hmg0
    have e := hmg.symm.trans (He.glo_ok KX G (x := "law") (c.a.fact 42 (f := .glo "law") rfl))
    cases e
    refine ⟨K, K46.spLaw K, KX, fun H a ns hl _ hS => ⟨a, ns, rfl, hS, hl, fun _ => rfl⟩, fun base _ _ => ?_⟩
    obtain ⟨fd, F1, F2, _, _⟩ := K46.s_law (P := PySem.Challenge.rw_seamsayings_k46_whole_least_tables.prog) (w := w) (base := base) KX G c
    exact ⟨fd, F1, F2⟩
