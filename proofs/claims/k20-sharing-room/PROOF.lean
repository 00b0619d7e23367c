import PyProof.Rows.All
import Wide.All
import OpenK.AllK
import Wide.FinOn
import HandS.ForMost
import HandS.IsInst
import HandS.Zip
import HandS.Evl
import PySem.Challenge.RW_manypanes_k20_sharing_room
set_option Elab.async false
set_option maxRecDepth 100000
set_option linter.all false
/-! Law k20 of manypanes: the text by places, layouts as trees, rules of its own. -/
namespace K20
open PySem PySem.Spec PyProof.Rows L2

/-! ### layouts as trees -/
inductive Lay where
  | pane (n : Int)
  | node (d : Bool) (ps : List (Lay × Int))
/-- false: beside; true: below -/
def dirS (d : Bool) : Str := if d then "below" else "beside"
mutual
def Lay.panes : Lay → List Int
  | .pane n => [n]
  | .node _ ps => panesL ps
def panesL : List (Lay × Int) → List Int
  | [] => []
  | (l, _) :: r => l.panes ++ panesL r
end
/-- the greatest of a list -/
def maxL : List Int → Int
  | [] => 0
  | x :: r => if r = [] then x else max x (maxL r)
mutual
def Lay.low : Lay → Int × Int
  | .pane _ => (2, 1)
  | .node d ps =>
    if d then (maxL ((lowL ps).map (·.1)), ((lowL ps).map (·.2)).sum + (ps.length : Int) - 1)
    else (((lowL ps).map (·.1)).sum + (ps.length : Int) - 1, maxL ((lowL ps).map (·.2)))
def lowL : List (Lay × Int) → List (Int × Int)
  | [] => []
  | (l, _) :: r => l.low :: lowL r
end
/-! how the heap bears a layout -/
mutual
def LayV (H : Hp) : Lay → V → Prop
  | .pane n, v => v = .int n
  | .node d ps, v => ∃ (a t : Addr) (xs : List V), v = .ref a ∧ H a = some (.tup [.str (dirS d), .ref t]) ∧ H t = some (.tup xs) ∧ PartsV H ps xs
def PartsV (H : Hp) : List (Lay × Int) → List V → Prop
  | [], xs => xs = []
  | (l, s) :: ps, xs => ∃ (b : Addr) (v : V) (r : List V), xs = .ref b :: r ∧ H b = some (.tup [v, .int s]) ∧ LayV H l v ∧ PartsV H ps r
end
/-- depth, number of parts, sizes -/
inductive Good (B : Int) : Nat → Lay → Prop
  | pane {n : Nat} (i : Int) : Good B n (.pane i)
  | node {n : Nat} {d : Bool} {ps : List (Lay × Int)} : 2 ≤ ps.length → (∀ p ∈ ps, -B ≤ p.2 ∧ p.2 ≤ B) → (∀ p ∈ ps, Good B n p.1) → Good B (n + 1) (.node d ps)

theorem Lay.ind {P : Lay → Prop} (hp : ∀ n, P (.pane n)) (hn : ∀ d ps, (∀ p ∈ ps, P p.1) → P (.node d ps)) : ∀ l, P l
  | .pane n => hp n
  | .node d ps => hn d ps fun p hpm => Lay.ind hp hn p.1
termination_by l => sizeOf l
decreasing_by
  have h1 := List.sizeOf_lt_of_mem hpm
  have h2 : sizeOf p.1 < sizeOf p := by
    cases p
    simp
    omega
  simp
  omega

/-! ### one part -/
def PartV (H : Hp) (p : Lay × Int) (x : V) : Prop := ∃ (b : Addr) (v : V), x = .ref b ∧ H b = some (.tup [v, .int p.2]) ∧ LayV H p.1 v
theorem partsV_nil {H : Hp} : PartsV H [] [] := by unfold PartsV; rfl
theorem partsV_cons {H : Hp} {p : Lay × Int} {ps : List (Lay × Int)} {x : V} {xs : List V} (h : PartV H p x) (t : PartsV H ps xs) : PartsV H (p :: ps) (x :: xs) := by
  obtain ⟨b, v, rfl, h1, h2⟩ := h
  obtain ⟨l, s⟩ := p
  unfold PartsV
  exact ⟨b, v, xs, rfl, h1, h2, t⟩
theorem partsV_inv {H : Hp} {p : Lay × Int} {ps : List (Lay × Int)} {xs : List V} (h : PartsV H (p :: ps) xs) : ∃ x r, xs = x :: r ∧ PartV H p x ∧ PartsV H ps r := by
  obtain ⟨l, s⟩ := p
  unfold PartsV at h
  obtain ⟨b, v, r, e, h1, h2, t⟩ := h
  exact ⟨.ref b, r, e, ⟨b, v, rfl, h1, h2⟩, t⟩
theorem partsV_len {H : Hp} : ∀ {ps : List (Lay × Int)} {xs : List V}, PartsV H ps xs → xs.length = ps.length
  | [], xs, h => by unfold PartsV at h; rw [h]; rfl
  | p :: ps, xs, h => by
    obtain ⟨x, r, rfl, _, t⟩ := partsV_inv h
    rw [List.length_cons, List.length_cons, partsV_len t]
theorem partsV_get {H : Hp} : ∀ {ps : List (Lay × Int)} {xs : List V} {i : Nat} {x : V}, PartsV H ps xs → xs[i]? = some x → ∃ p, ps[i]? = some p ∧ PartV H p x
  | [], xs, i, x, h, e => by unfold PartsV at h; rw [h] at e; simp at e
  | p :: ps, xs, 0, x, h, e => by
    obtain ⟨y, r, rfl, hp, t⟩ := partsV_inv h
    have e' : y = x := Option.some.inj e
    subst e'
    exact ⟨p, rfl, hp⟩
  | p :: ps, xs, i + 1, x, h, e => by
    obtain ⟨y, r, rfl, hp, t⟩ := partsV_inv h
    exact partsV_get (i := i) t (by simpa using e)
theorem partsV_get' {H : Hp} {ps : List (Lay × Int)} {xs : List V} {i : Nat} {p : Lay × Int} (h : PartsV H ps xs) (e : ps[i]? = some p) : ∃ x, xs[i]? = some x ∧ PartV H p x := by
  have hi : i < xs.length := by
    rw [partsV_len h]
    exact (List.getElem?_eq_some_iff.mp e).1
  obtain ⟨q, e2, hq⟩ := partsV_get h (List.getElem?_eq_getElem hi)
  rw [e] at e2
  cases e2
  exact ⟨_, List.getElem?_eq_getElem hi, hq⟩
theorem partsV_append {H : Hp} : ∀ {ps qs : List (Lay × Int)} {xs ys : List V}, PartsV H ps xs → PartsV H qs ys → PartsV H (ps ++ qs) (xs ++ ys)
  | [], qs, xs, ys, h, t => by unfold PartsV at h; rw [h]; exact t
  | p :: ps, qs, xs, ys, h, t => by
    obtain ⟨y, r, rfl, hp, t'⟩ := partsV_inv h
    exact partsV_cons hp (partsV_append t' t)
theorem partsV_set {H : Hp} : ∀ {ps : List (Lay × Int)} {xs : List V} {p : Lay × Int} {x : V} (i : Nat), PartsV H ps xs → PartV H p x → PartsV H (ps.set i p) (xs.set i x)
  | [], xs, p, x, i, h, _ => by unfold PartsV at h; rw [h]; exact partsV_nil
  | q :: ps, xs, p, x, 0, h, hp => by
    obtain ⟨y, r, rfl, hq, t⟩ := partsV_inv h
    exact partsV_cons hp t
  | q :: ps, xs, p, x, i + 1, h, hp => by
    obtain ⟨y, r, rfl, hq, t⟩ := partsV_inv h
    exact partsV_cons hq (partsV_set i t hp)
theorem layV_pane {H : Hp} {n : Int} : LayV H (.pane n) (.int n) := by unfold LayV; rfl
theorem layV_pane_iff {H : Hp} {n : Int} {v : V} (h : LayV H (.pane n) v) : v = .int n := by unfold LayV at h; exact h
theorem layV_node {H : Hp} {d : Bool} {ps : List (Lay × Int)} {a t : Addr} {xs : List V} (h1 : H a = some (.tup [.str (dirS d), .ref t])) (h2 : H t = some (.tup xs)) (h3 : PartsV H ps xs) : LayV H (.node d ps) (.ref a) := by
  unfold LayV
  exact ⟨a, t, xs, rfl, h1, h2, h3⟩
theorem layV_node_inv {H : Hp} {d : Bool} {ps : List (Lay × Int)} {v : V} (h : LayV H (.node d ps) v) : ∃ (a t : Addr) (xs : List V), v = .ref a ∧ H a = some (.tup [.str (dirS d), .ref t]) ∧ H t = some (.tup xs) ∧ PartsV H ps xs := by
  unfold LayV at h
  exact h

/-! ### tuples stay -/
def Tx (H H' : Hp) : Prop := ∀ (a : Addr) (xs : List V), H a = some (.tup xs) → H' a = some (.tup xs)
theorem Tx.refl (H : Hp) : Tx H H := fun _ _ h => h
theorem Tx.trans {H H1 H2 : Hp} (a : Tx H H1) (b : Tx H1 H2) : Tx H H2 := fun c xs h => b c xs (a c xs h)
theorem Tx.of {H H' : Hp} (h : Same H H') : Tx H H' := fun a xs e => h a _ e
theorem Tx.lst {H : Hp} {p : Addr} {xs : List V} (h : H p = some (.lst xs)) (o : HO) : Tx H (upd H p o) := fun a ys e => by
  rw [upd_ne (ne_of e h (by intro z; cases z))]
  exact e
theorem same_upd {H : Hp} {p : Addr} {o : HO} (h : H p = none) : Same H (upd H p o) := fun b x e => by
  rw [upd_ne (ne_of_none e h)]
  exact e
/-- an object that H does not know changes -/
theorem Same.mut {H H' : Hp} {p : Addr} {o : HO} (e : Same H H') (h : H p = none) : Same H (upd H' p o) := fun a u ha => by
  rw [upd_ne (ne_of_none ha h)]
  exact e a u ha
theorem Tx.new {H : Hp} {p : Addr} (h : H p = none) (o : HO) : Tx H (upd H p o) := Tx.of (same_upd h)
theorem parts_of_lay {H H' : Hp} : ∀ {ps : List (Lay × Int)} {xs : List V}, (∀ p ∈ ps, ∀ v, LayV H p.1 v → LayV H' p.1 v) → Tx H H' → PartsV H ps xs → PartsV H' ps xs
  | [], xs, _, _, h => by unfold PartsV at h; rw [h]; exact partsV_nil
  | p :: ps, xs, ih, T, h => by
    obtain ⟨x, r, rfl, ⟨b, v, rfl, h1, h2⟩, t⟩ := partsV_inv h
    exact partsV_cons ⟨b, v, rfl, T _ _ h1, ih p List.mem_cons_self v h2⟩ (parts_of_lay (fun q hq => ih q (List.mem_cons_of_mem _ hq)) T t)
theorem LayV.tx {H H' : Hp} (T : Tx H H') : ∀ {l : Lay} {v : V}, LayV H l v → LayV H' l v := fun {l} => by
  refine Lay.ind (P := fun l => ∀ v, LayV H l v → LayV H' l v) (fun n v h => ?_) (fun d ps ih v h => ?_) l _
  · rw [layV_pane_iff h]; exact layV_pane
  · obtain ⟨a, t, xs, rfl, h1, h2, h3⟩ := layV_node_inv h
    exact layV_node (T _ _ h1) (T _ _ h2) (parts_of_lay ih T h3)
theorem PartV.tx {H H' : Hp} (T : Tx H H') {p : Lay × Int} {x : V} (h : PartV H p x) : PartV H' p x := by
  obtain ⟨b, v, rfl, h1, h2⟩ := h
  exact ⟨b, v, rfl, T _ _ h1, h2.tx T⟩
theorem PartsV.tx {H H' : Hp} (T : Tx H H') {ps : List (Lay × Int)} {xs : List V} (h : PartsV H ps xs) : PartsV H' ps xs := parts_of_lay (fun _ _ _ q => LayV.tx T q) T h
theorem SqT.tx {K : PySem.W.Frag} {H : Hp} {a : Addr} {xs : List V} (h : H a = some (.tup xs)) : SqT K H a xs := .inl (.inl h)

/-! ### facts of layouts -/
theorem Good.mono {B C : Int} (hB : B ≤ C) : ∀ {n m : Nat} {l : Lay}, n ≤ m → Good B n l → Good C m l
  | _, _, _, _, .pane i => .pane i
  | n + 1, m + 1, _, h, .node h1 h2 h3 => .node h1 (fun p hp => ⟨by have := (h2 p hp).1; omega, by have := (h2 p hp).2; omega⟩) fun p hp => Good.mono hB (Nat.le_of_succ_le_succ h) (h3 p hp)
theorem panesL_append : ∀ ps qs : List (Lay × Int), panesL (ps ++ qs) = panesL ps ++ panesL qs
  | [], qs => by simp [panesL]
  | (l, s) :: ps, qs => by simp [panesL, panesL_append ps qs, List.append_assoc]
theorem panesL_one (p : Lay × Int) : panesL [p] = p.1.panes := by
  obtain ⟨l, s⟩ := p
  simp [panesL]
theorem panes_node (d : Bool) (ps : List (Lay × Int)) : (Lay.node d ps).panes = panesL ps := by simp [Lay.panes]
theorem panes_pane (n : Int) : (Lay.pane n).panes = [n] := by simp [Lay.panes]
theorem lowL_map : ∀ ps : List (Lay × Int), lowL ps = ps.map fun p => p.1.low
  | [] => by simp [lowL]
  | (l, s) :: ps => by simp [lowL, lowL_map ps]
theorem panesL_len : ∀ {ps : List (Lay × Int)}, (∀ p ∈ ps, 1 ≤ p.1.panes.length) → ps.length ≤ (panesL ps).length
  | [], _ => Nat.zero_le _
  | (l, s) :: ps, h => by
    have h1 := h (l, s) List.mem_cons_self
    have h2 := panesL_len (ps := ps) fun p hp => h p (List.mem_cons_of_mem _ hp)
    simp only [panesL, List.length_append, List.length_cons] at h1 ⊢
    omega
theorem Good.panes1 {B : Int} : ∀ {n : Nat} {l : Lay}, Good B n l → 1 ≤ l.panes.length
  | _, _, .pane i => by simp [Lay.panes]
  | n + 1, _, .node (ps := ps) h1 h2 h3 => by
    rw [panes_node]
    have := panesL_len (ps := ps) fun p hp => (h3 p hp).panes1
    omega
theorem Good.parts_le {B : Int} {n : Nat} {d : Bool} {ps : List (Lay × Int)} (h : Good B n (.node d ps)) : ps.length ≤ (Lay.node d ps).panes.length := by
  cases h with
  | node h1 h2 h3 =>
    rw [panes_node]
    exact panesL_len fun p hp => (h3 p hp).panes1
theorem panes_mem_le {ps : List (Lay × Int)} {p : Lay × Int} (h : p ∈ ps) : p.1.panes.length ≤ (panesL ps).length := by
  induction ps with
  | nil => cases h
  | cons q r ih =>
    obtain ⟨l, s⟩ := q
    simp only [panesL, List.length_append]
    rcases List.mem_cons.mp h with rfl | h
    · exact Nat.le_add_right _ _
    · have := ih h
      omega

theorem maxL_cons {x : Int} {r : List Int} (h : r ≠ []) : maxL (x :: r) = max x (maxL r) := by
  show (if r = [] then x else max x (maxL r)) = _
  rw [if_neg h]
theorem maxL_mem : ∀ {ns : List Int}, ns ≠ [] → maxL ns ∈ ns
  | [], h => absurd rfl h
  | [x], _ => by simp [maxL]
  | x :: y :: r, _ => by
    rw [maxL_cons (List.cons_ne_nil y r)]
    have ih := maxL_mem (ns := y :: r) (List.cons_ne_nil y r)
    by_cases h : x ≤ maxL (y :: r)
    · rw [Int.max_eq_right h]
      exact List.mem_cons_of_mem _ ih
    · rw [Int.max_eq_left (by omega)]
      exact List.mem_cons_self
theorem maxL_ge : ∀ {ns : List Int} {y : Int}, y ∈ ns → y ≤ maxL ns
  | [], _, h => by cases h
  | [x], y, h => by
    have : y = x := by simpa using h
    subst this
    show y ≤ (if ([] : List Int) = [] then y else _)
    rw [if_pos rfl]
    exact Int.le_refl _
  | x :: z :: r, y, h => by
    rw [maxL_cons (List.cons_ne_nil z r)]
    rcases List.mem_cons.mp h with rfl | h
    · exact Int.le_max_left _ _
    · exact Int.le_trans (maxL_ge h) (Int.le_max_right _ _)
theorem maxL_is {ns : List Int} {m : Int} (h : m ∈ ns) (g : ∀ y, y ∈ ns → y ≤ m) : m = maxL ns :=
  Int.le_antisymm (maxL_ge h) (g _ (maxL_mem (List.ne_nil_of_mem h)))

/-- bounds of the least sizes -/
theorem sum_bounds : ∀ {ps : List (Lay × Int)} {f : Lay → Int}, (∀ p ∈ ps, 1 ≤ f p.1 ∧ f p.1 ≤ 3 * (p.1.panes.length : Int) - 1) →
    (ps.length : Int) ≤ (ps.map fun p => f p.1).sum ∧ (ps.map fun p => f p.1).sum + (ps.length : Int) ≤ 3 * ((panesL ps).length : Int)
  | [], _, _ => by simp [panesL]
  | (l, s) :: ps, f, h => by
    have h1 := h (l, s) List.mem_cons_self
    have h2 := sum_bounds (ps := ps) (f := f) fun p hp => h p (List.mem_cons_of_mem _ hp)
    simp only [panesL, List.length_append, List.map_cons, List.sum_cons, List.length_cons, Int.natCast_add] at h1 ⊢
    omega
theorem low_bounds {B : Int} : ∀ {n : Nat} {l : Lay}, Good B n l → (1 ≤ l.low.1 ∧ l.low.1 ≤ 3 * (l.panes.length : Int) - 1) ∧ 1 ≤ l.low.2 ∧ l.low.2 ≤ 3 * (l.panes.length : Int) - 1
  | _, _, .pane i => by simp [Lay.low, Lay.panes]
  | n + 1, _, .node (d := d) (ps := ps) h1 h2 h3 => by
    have ih : ∀ p ∈ ps, _ := fun p hp => low_bounds (h3 p hp)
    have s1 := sum_bounds (ps := ps) (f := fun l => l.low.1) fun p hp => (ih p hp).1
    have s2 := sum_bounds (ps := ps) (f := fun l => l.low.2) fun p hp => (ih p hp).2
    have m1 : 1 ≤ maxL (ps.map fun p => p.1.low.1) ∧ maxL (ps.map fun p => p.1.low.1) ≤ 3 * ((panesL ps).length : Int) - 1 := by
      have hm := maxL_mem (ns := ps.map fun p => p.1.low.1) (by intro e; rw [List.map_eq_nil_iff] at e; rw [e] at h1; simp at h1)
      obtain ⟨p, hp, e⟩ := List.mem_map.mp hm
      have a := (ih p hp).1
      have b := panes_mem_le hp
      rw [← e]
      omega
    have m2 : 1 ≤ maxL (ps.map fun p => p.1.low.2) ∧ maxL (ps.map fun p => p.1.low.2) ≤ 3 * ((panesL ps).length : Int) - 1 := by
      have hm := maxL_mem (ns := ps.map fun p => p.1.low.2) (by intro e; rw [List.map_eq_nil_iff] at e; rw [e] at h1; simp at h1)
      obtain ⟨p, hp, e⟩ := List.mem_map.mp hm
      have a := (ih p hp).2
      have b := panes_mem_le hp
      rw [← e]
      omega
    rw [panes_node]
    cases d with
    | false =>
      simp only [Lay.low, lowL_map, List.map_map, Function.comp_def, Bool.false_eq_true, if_false]
      omega
    | true =>
      simp only [Lay.low, lowL_map, List.map_map, Function.comp_def, if_true]
      omega
end K20

set_option Elab.async false
set_option maxRecDepth 100000
set_option linter.all false
/-! Law k20: the text's defs, what the top holds, rules of its own. -/
namespace K20
open PySem PySem.Spec PyProof.Rows L2
def topS (i : Nat) : Stmt := PySem.Challenge.pw_manypanes_k20_sharing_room.main.body.getD i (.Pass ⟨0, 0, 0, 0⟩)
abbrev s_panes : Stmt := topS 3
abbrev N_panes : List Str := ["layout", "result", "inner", "_"]
abbrev P_panes : List Str := ["layout"]
theorem sc_panes : FnScope N_panes P_panes (defScope s_panes) := ⟨rfl, rfl, rfl, by decide +kernel, rfl, by decide +kernel, by decide +kernel⟩
abbrev s_least : Stmt := topS 4
abbrev N_least : List Str := ["layout", "sizes", "inner", "_", "widths", "size", "heights", "borders"]
abbrev P_least : List Str := ["layout"]
theorem sc_least : FnScope N_least P_least (defScope s_least) := ⟨rfl, rfl, rfl, by decide +kernel, rfl, by decide +kernel, by decide +kernel⟩
abbrev s_share : Stmt := topS 5
abbrev N_share : List Str := ["total", "smallest", "sizes", "spare", "extras", "size", "low", "weight", "result", "extra", "rest", "index"]
abbrev P_share : List Str := ["total", "smallest", "sizes"]
theorem sc_share : FnScope N_share P_share (defScope s_share) := ⟨rfl, rfl, rfl, by decide +kernel, rfl, by decide +kernel, by decide +kernel⟩
abbrev s_lcell : Stmt := topS 7
abbrev N_lcell : List Str := ["_law_script", "_law_k"]
abbrev P_lcell : List Str := ["_law_script", "_law_k"]
theorem sc_lcell : FnScope N_lcell P_lcell (defScope s_lcell) := ⟨rfl, rfl, rfl, by decide +kernel, rfl, by decide +kernel, by decide +kernel⟩
abbrev s_lrow : Stmt := topS 8
abbrev N_lrow : List Str := ["_law_cell_here", "_law_count", "_law_bound", "_law_rest", "_law_mixed", "_law_row_here", "_law_k"]
abbrev P_lrow : List Str := ["_law_cell_here", "_law_count", "_law_bound"]
theorem sc_lrow : FnScope N_lrow P_lrow (defScope s_lrow) := ⟨rfl, rfl, rfl, by decide +kernel, rfl, by decide +kernel, by decide +kernel⟩
abbrev s_linteger : Stmt := topS 9
abbrev N_linteger : List Str := ["_law_value"]
abbrev P_linteger : List Str := ["_law_value"]
theorem sc_linteger : FnScope N_linteger P_linteger (defScope s_linteger) := ⟨rfl, rfl, rfl, by decide +kernel, rfl, by decide +kernel, by decide +kernel⟩
abbrev s_lpanes : Stmt := topS 10
abbrev N_lpanes : List Str := ["_law_layout", "_law_found", "_law_inner", "_law_size"]
abbrev P_lpanes : List Str := ["_law_layout"]
theorem sc_lpanes : FnScope N_lpanes P_lpanes (defScope s_lpanes) := ⟨rfl, rfl, rfl, by decide +kernel, rfl, by decide +kernel, by decide +kernel⟩
abbrev s_lleast : Stmt := topS 11
abbrev N_lleast : List Str := ["_law_layout", "_law_sizes", "_law_inner", "_law_size", "_law_axis", "_law_lows"]
abbrev P_lleast : List Str := ["_law_layout"]
theorem sc_lleast : FnScope N_lleast P_lleast (defScope s_lleast) := ⟨rfl, rfl, rfl, by decide +kernel, rfl, by decide +kernel, by decide +kernel⟩
abbrev s_lshare : Stmt := topS 12
abbrev N_lshare : List Str := ["_law_total", "_law_smallest", "_law_sizes", "_law_spare", "_law_extras", "_law_k", "_law_news", "_law_left"]
abbrev P_lshare : List Str := ["_law_total", "_law_smallest", "_law_sizes"]
theorem sc_lshare : FnScope N_lshare P_lshare (defScope s_lshare) := ⟨rfl, rfl, rfl, by decide +kernel, rfl, by decide +kernel, by decide +kernel⟩
abbrev s_lfit : Stmt := topS 13
abbrev N_lfit : List Str := ["_law_layout", "_law_w", "_law_h", "_law_lows", "_law_room_here", "_law_axis", "_law_low", "_law_inner", "_law_size", "_law_sizes", "_law_parts", "_law_k", "_law_inside"]
abbrev P_lfit : List Str := ["_law_layout", "_law_w", "_law_h"]
theorem sc_lfit : FnScope N_lfit P_lfit (defScope s_lfit) := ⟨rfl, rfl, rfl, by decide +kernel, rfl, by decide +kernel, by decide +kernel⟩
abbrev s_lboxes : Stmt := topS 14
abbrev N_lboxes : List Str := ["_law_layout", "_law_r", "_law_c", "_law_w", "_law_h", "_law_found", "_law_inner", "_law_size"]
abbrev P_lboxes : List Str := ["_law_layout", "_law_r", "_law_c", "_law_w", "_law_h"]
theorem sc_lboxes : FnScope N_lboxes P_lboxes (defScope s_lboxes) := ⟨rfl, rfl, rfl, by decide +kernel, rfl, by decide +kernel, by decide +kernel⟩
abbrev s_lallboxes : Stmt := topS 15
abbrev N_lallboxes : List Str := ["_law_layout", "_law_w", "_law_h", "_law_lows"]
abbrev P_lallboxes : List Str := ["_law_layout", "_law_w", "_law_h"]
theorem sc_lallboxes : FnScope N_lallboxes P_lallboxes (defScope s_lallboxes) := ⟨rfl, rfl, rfl, by decide +kernel, rfl, by decide +kernel, by decide +kernel⟩
abbrev s_lroom : Stmt := topS 16
abbrev N_lroom : List Str := ["_law_layout", "_law_w", "_law_h", "_law_pane", "_law_way_here", "_law_box"]
abbrev P_lroom : List Str := ["_law_layout", "_law_w", "_law_h", "_law_pane", "_law_way_here"]
theorem sc_lroom : FnScope N_lroom P_lroom (defScope s_lroom) := ⟨rfl, rfl, rfl, by decide +kernel, rfl, by decide +kernel, by decide +kernel⟩
abbrev s_lwithnew : Stmt := topS 17
abbrev N_lwithnew : List Str := ["_law_layout", "_law_pane", "_law_way_here", "_law_new", "_law_size", "_law_pair", "_law_parts", "_law_inner", "_law_room_here"]
abbrev P_lwithnew : List Str := ["_law_layout", "_law_pane", "_law_way_here", "_law_new", "_law_size"]
theorem sc_lwithnew : FnScope N_lwithnew P_lwithnew (defScope s_lwithnew) := ⟨rfl, rfl, rfl, by decide +kernel, rfl, by decide +kernel, by decide +kernel⟩
abbrev s_ldivided : Stmt := topS 18
abbrev N_ldivided : List Str := ["_law_layout", "_law_w", "_law_h", "_law_pane", "_law_way_here", "_law_new", "_law_size"]
abbrev P_ldivided : List Str := ["_law_layout", "_law_w", "_law_h", "_law_pane", "_law_way_here", "_law_new"]
theorem sc_ldivided : FnScope N_ldivided P_ldivided (defScope s_ldivided) := ⟨rfl, rfl, rfl, by decide +kernel, rfl, by decide +kernel, by decide +kernel⟩
abbrev s_ltaken : Stmt := topS 19
abbrev N_ltaken : List Str := ["_law_layout", "_law_pane", "_law_parts", "_law_gone", "_law_k", "_law_inner", "_law_size", "_law_rest", "_law_heir"]
abbrev P_ltaken : List Str := ["_law_layout", "_law_pane"]
theorem sc_ltaken : FnScope N_ltaken P_ltaken (defScope s_ltaken) := ⟨rfl, rfl, rfl, by decide +kernel, rfl, by decide +kernel, by decide +kernel⟩
abbrev s_lwithout : Stmt := topS 20
abbrev N_lwithout : List Str := ["_law_layout", "_law_w", "_law_h", "_law_pane"]
abbrev P_lwithout : List Str := ["_law_layout", "_law_w", "_law_h", "_law_pane"]
theorem sc_lwithout : FnScope N_lwithout P_lwithout (defScope s_lwithout) := ⟨rfl, rfl, rfl, by decide +kernel, rfl, by decide +kernel, by decide +kernel⟩
abbrev s_lshift : Stmt := topS 21
abbrev N_lshift : List Str := ["_law_layout", "_law_pane", "_law_way_here", "_law_amount", "_law_parts", "_law_done", "_law_k", "_law_inner", "_law_axis", "_law_low", "_law_high", "_law_change"]
abbrev P_lshift : List Str := ["_law_layout", "_law_pane", "_law_way_here", "_law_amount"]
theorem sc_lshift : FnScope N_lshift P_lshift (defScope s_lshift) := ⟨rfl, rfl, rfl, by decide +kernel, rfl, by decide +kernel, by decide +kernel⟩
abbrev s_lmoved : Stmt := topS 22
abbrev N_lmoved : List Str := ["_law_layout", "_law_w", "_law_h", "_law_pane", "_law_way_here", "_law_amount"]
abbrev P_lmoved : List Str := ["_law_layout", "_law_w", "_law_h", "_law_pane", "_law_way_here", "_law_amount"]
theorem sc_lmoved : FnScope N_lmoved P_lmoved (defScope s_lmoved) := ⟨rfl, rfl, rfl, by decide +kernel, rfl, by decide +kernel, by decide +kernel⟩
abbrev s_lbuilt : Stmt := topS 23
abbrev N_lbuilt : List Str := ["_law_cells", "_law_w", "_law_h", "_law_layout", "_law_opened", "_law_cell_here", "_law_known", "_law_pane", "_law_way_here", "_law_kind", "_law_news"]
abbrev P_lbuilt : List Str := ["_law_cells", "_law_w", "_law_h"]
theorem sc_lbuilt : FnScope N_lbuilt P_lbuilt (defScope s_lbuilt) := ⟨rfl, rfl, rfl, by decide +kernel, rfl, by decide +kernel, by decide +kernel⟩
abbrev s_lway : Stmt := topS 24
abbrev N_lway : List Str := ["_law_cell_here"]
abbrev P_lway : List Str := ["_law_cell_here"]
theorem sc_lway : FnScope N_lway P_lway (defScope s_lway) := ⟨rfl, rfl, rfl, by decide +kernel, rfl, by decide +kernel, by decide +kernel⟩
abbrev s_law : Stmt := topS 25
abbrev N_law : List Str := ["_law_script", "_law_first", "_law_count", "_law_smallest", "_law_x", "_law_sizes", "_law_k", "_law_total", "_law_low", "_law_old", "_law_actual", "_law_layout", "_law_told"]
abbrev P_law : List Str := ["_law_script"]
theorem sc_law : FnScope N_law P_law (defScope s_law) := ⟨rfl, rfl, rfl, by decide +kernel, rfl, by decide +kernel, by decide +kernel⟩

/-- one def of T.py, found at its name when the law begins -/
structure DefAt (K : PySem.W.Frag) (mg : Str → Option Value) (x : Str) (st : Stmt) (ps : List Str) where
  f : Addr
  fd : FuncData
  F : Fun K x x st f fd
  g : mg x = some (.ref f)
  bd : Binds K fd ps []
/-- the built-in names are still so -/
structure Blt (mg : Str → Option Value) : Prop where
  isinstance : mg "isinstance" = none
  int : mg "int" = none
  bool : mg "bool" = none
  len : mg "len" = none
  max : mg "max" = none
  min : mg "min" = none
  sum : mg "sum" = none
  zip : mg "zip" = none
  enumerate : mg "enumerate" = none
  range : mg "range" = none
  abs : mg "abs" = none
  list : mg "list" = none
  tuple : mg "tuple" = none
  all : mg "all" = none
/-- a tuple that is read: tracked, or an object of the module -/
def KTup (K : PySem.W.Frag) (a : Addr) (xs : List V) : Prop := ∃ (o : Obj) (its : Array Value) (n : Nat), K.lookup a = some o ∧ o.cls = .type "tuple" ∧ o.data = .seq its n ∧ its.size ≤ sizeLine ∧ Vals xs its.toList
def TupK (K : PySem.W.Frag) (H : Hp) (a : Addr) (xs : List V) : Prop := H a = some (.tup xs) ∨ KTup K a xs
theorem TupK.sq {K : PySem.W.Frag} {H : Hp} {a : Addr} {xs : List V} (h : TupK K H a xs) : SqT K H a xs := by
  rcases h with h | h
  · exact .inl (.inl h)
  · exact .inr h
theorem TupK.ty {K : PySem.W.Frag} {H : Hp} {a : Addr} {xs : List V} (h : TupK K H a xs) : TyX K H (.ref a) (.type "tuple") := by
  rcases h with h | ⟨o, its, n, h1, h2, _⟩
  · exact .base (.tup h)
  · exact .kTuple h1 h2
theorem TupK.mono {K : PySem.W.Frag} {H H' : Hp} {a : Addr} {xs : List V} (s : Tx H H') (h : TupK K H a xs) : TupK K H' a xs := by
  rcases h with h | h
  · exact .inl (s _ _ h)
  · exact .inr h
structure Txt (K : PySem.W.Frag) (mg : Str → Option Value) where
  b : Blt mg
  tB : Tok
  gBESIDE : mg "BESIDE" = some (.str "beside" tB)
  lp : Addr
  gLP : mg "LEAST_PANE" = some (.ref lp)
  hLP : KTup K lp [.int 2, .int 1]
  panes : DefAt K mg "panes" s_panes P_panes
  least : DefAt K mg "least" s_least P_least
  share : DefAt K mg "share" s_share P_share
  lcell : DefAt K mg "_law_cell" s_lcell P_lcell
  lrow : DefAt K mg "_law_row" s_lrow P_lrow
  linteger : DefAt K mg "_law_integer" s_linteger P_linteger
  lpanes : DefAt K mg "_law_panes" s_lpanes P_lpanes
  lleast : DefAt K mg "_law_least" s_lleast P_lleast
  lshare : DefAt K mg "_law_share" s_lshare P_lshare
  lfit : DefAt K mg "_law_fit" s_lfit P_lfit
  lboxes : DefAt K mg "_law_boxes" s_lboxes P_lboxes
  lallboxes : DefAt K mg "_law_all_boxes" s_lallboxes P_lallboxes
  lroom : DefAt K mg "_law_room" s_lroom P_lroom
  lwithnew : DefAt K mg "_law_with_new" s_lwithnew P_lwithnew
  ldivided : DefAt K mg "_law_divided" s_ldivided P_ldivided
  ltaken : DefAt K mg "_law_taken" s_ltaken P_ltaken
  lwithout : DefAt K mg "_law_without" s_lwithout P_lwithout
  lshift : DefAt K mg "_law_shift" s_lshift P_lshift
  lmoved : DefAt K mg "_law_moved" s_lmoved P_lmoved
  lbuilt : DefAt K mg "_law_built" s_lbuilt P_lbuilt
  law : DefAt K mg "law" s_law P_law

section
variable {X : Cx}
/-- what stands at a place of a list, read for a store into it -/
def rGetN (K : PySem.W.Frag) : V → V → Hp → VK → Prop := fun x y H Q => ∃ (p : Addr) (xs : List V) (j : Nat) (z : V), x = .ref p ∧ y = .int (j : Int) ∧ SqL K H p xs ∧ xs[j]? = some z ∧ Q z H
theorem get_at : PGet X (rGetN X.K) := by
  rintro pins s σ H _ _ ov iv Q I ro ri ⟨p, xs, j, z, rfl, rfl, hp, hz, q⟩
  cases ro
  obtain ⟨tk, rfl⟩ := ri
  obtain ⟨us, hv, pl, hs⟩ := I.list hp
  obtain ⟨u, hu, hr⟩ := hv.get hz
  have hj := (List.getElem?_eq_some_iff.mp hz).1
  have h63 := line63
  exact wpAny_getItem_list pl.isList (Int.natCast_nonneg j) (by omega) (by rw [Int.toNat_natCast]; simpa using hu) ⟨z, H, I, hr, q⟩
variable {K : PySem.W.Frag}
theorem ixL (hK : X.K = K) : IxR X (rIxL K) := hK ▸ ix_list
theorem ixT (hK : X.K = K) : IxR X (rIxT K) := hK ▸ ix_tup
theorem getL (hK : X.K = K) : PGet X (rGetN K) := hK ▸ get_at
def rLenQ (K : PySem.W.Frag) : List V → Hp → VK → Prop := fun xs H Q => ∃ p ys, xs = [.ref p] ∧ (SqL K H p ys ∨ SqT K H p ys) ∧ Q (.int ys.length) H
theorem lenS (hK : X.K = K) : CallR X (.builtin "len") (rLenQ K) := by subst hK; exact call_len_seq
def rListQ (K : PySem.W.Frag) : List V → Hp → VK → Prop := fun xs H Q => ∃ p ys, xs = [.ref p] ∧ (SqL K H p ys ∨ SqT K H p ys) ∧ ∀ l, H l = none → Q (.ref l) (upd H l (.lst ys))
theorem listS (hK : X.K = K) : CallR X (.type "list") (rListQ K) := by subst hK; exact call_list_of
def rTupleQ (K : PySem.W.Frag) : List V → Hp → VK → Prop := fun xs H Q => ∃ p ys, xs = [.ref p] ∧ ((SqL K H p ys ∧ ∀ l, H l = none → Q (.ref l) (upd H l (.tup ys))) ∨ (SqT K H p ys ∧ Q (.ref p) H))
theorem tupleS (hK : X.K = K) : CallR X (.type "tuple") (rTupleQ K) := by subst hK; exact call_tuple_of
theorem sumS (hK : X.K = K) (hc : X.calm = true) : CallR X (.builtin "sum") (rSum K) := by subst hK; exact cr_sum hc
theorem maxS (hK : X.K = K) (hc : X.calm = true) : CallR X (.builtin "max") (rMax K) := by subst hK; exact cr_max hc
theorem minS (hK : X.K = K) (hc : X.calm = true) : CallR X (.builtin "min") (rMin K) := by subst hK; exact cr_min hc
theorem allS (hK : X.K = K) (hc : X.calm = true) : CallR X (.builtin "all") (rAll K) := by subst hK; exact cr_all hc
theorem isiS (hK : X.K = K) : CallR X (.builtin "isinstance") (rIsi K) := by subst hK; exact call_isi
theorem inS (hK : X.K = K) : OpR X (compareOp .In) (rIn K false) := by subst hK; exact op_in_seq
theorem eqD (hK : X.K = K) (hu : X.A.units + 64 < cLine) : OpR X (compareOp .Eq) (rEqD K) := by subst hK; exact op_eqD hu
theorem neD (hK : X.K = K) (hu : X.A.units + 64 < cLine) : OpR X (compareOp .NotEq) (rNeD K) := by subst hK; exact op_neD hu
theorem pgT {es : List Expr} {k : Nat} {pos : Pos} {t : TGs} {n : Nat} (hK : X.K = K) (hc : X.calm = true) (h : PGs X es t)
    (hn : (assignEach es X.env).length = n := by rfl) (hst : (assignEach es X.env).findIdx? (·.1) = none := by rfl) : PG X (.Tuple es k pos) (gTup K n t) := by subst hK; exact pg_tup hc h hn hst
/-- a layout == an int -/
def rEqLI (K : PySem.W.Frag) : R2 := fun x y H Q => ∃ j, y = .int j ∧ ((∃ i, x = .int i ∧ Q (.bl (decide (i = j))) H) ∨ ∃ a xs, x = .ref a ∧ SqT K H a xs ∧ Q (.bl false) H)
theorem op_eqLI {K : PySem.W.Frag} (hK : X.K = K) (hu : X.A.units < cLine) : OpR X (compareOp .Eq) (rEqLI K) := by
  subst hK
  intro pins s σ H x y v u Q I rx ry h
  obtain ⟨j, rfl, ⟨i, rfl, q⟩ | ⟨a, xs, rfl, hS, q⟩⟩ := h
  · obtain ⟨t, rfl⟩ := rx
    obtain ⟨t', rfl⟩ := ry
    exact eq_int (fin_bl I q (by rw [Bool.beq_eq_decide_eq]))
  · cases rx
    obtain ⟨t', rfl⟩ := ry
    obtain ⟨its, r, pl, hz⟩ := I.tuple hS
    exact SeqAt.RcAt.tuple_int j t' pl hu X.prog X.w X.xe _ ⟨.bl false, H, I, rfl, q⟩
end
theorem isi_pane {K : PySem.W.Frag} {H : Hp} {Q : VK} {n : Int} (h : Q (.bl true) H) : rIsi K [.int n, .ty "int"] H Q :=
  ⟨_, _, _, _, true, rfl, .ty _, .base (.int _), kit_ty (by decide +kernel), h⟩
theorem isi_ref {K : PySem.W.Frag} {H : Hp} {Q : VK} {a : Addr} {xs : List V} (ha : H a = some (.tup xs)) (h : Q (.bl false) H) : rIsi K [.ref a, .ty "int"] H Q :=
  ⟨_, _, _, _, false, rfl, .ty _, .base (.tup ha), kit_ty (by decide +kernel), h⟩
theorem sizeOk {n : Nat} (h : n ≤ 1000) : n ≤ sizeLine := Nat.le_of_lt (small1000 h)
end K20

set_option Elab.async false
set_option maxRecDepth 100000
set_option maxHeartbeats 4000000
set_option linter.all false
namespace K20
open PySem PySem.Spec PyProof.Rows L2
theorem take_one {ps : List (Lay × Int)} {i : Nat} {p : Lay × Int} (h : ps[i]? = some p) : ps.take (i + 1) = ps.take i ++ [p] := by
  rw [List.take_add_one, h]
  rfl
theorem panesL_take {ps : List (Lay × Int)} {i : Nat} {p : Lay × Int} (h : ps[i]? = some p) : panesL (ps.take (i + 1)) = panesL (ps.take i) ++ p.1.panes := by
  rw [take_one h, panesL_append, panesL_one]
theorem panesL_take_le {ps : List (Lay × Int)} (i : Nat) : (panesL (ps.take i)).length ≤ (panesL ps).length := by
  have e := panesL_append (ps.take i) (ps.drop i)
  rw [List.take_append_drop] at e
  rw [e, List.length_append]
  exact Nat.le_add_right _ _
theorem mem_at {α : Type} {l : List α} {i : Nat} {x : α} (h : l[i]? = some x) : x ∈ l := List.mem_of_getElem? h
/-- panes of a layout, a new list; depth below n -/
def spPanes (n : Nat) : Sp := fun vs H Q _ => ∃ (v : V) (L : Lay) (B : Int) (m : Nat), vs = [v] ∧ LayV H L v ∧ Good B m L ∧ m < n ∧ L.panes.length ≤ 100 ∧
  ∀ (r : Addr) (H' : Hp), Same H H' → H r = none → H' r = some (.lst (L.panes.map V.int)) → Q (.ref r) H'
/-- nothing can be asked with no call left -/
theorem fn_none {P : Program} {w : World} {K : PySem.W.Frag} {mg : Str → Option Value} {base : Heap} {f : Addr} {fd : FuncData} {ps : List Str} {sp : Sp} {k : Nat} (no : ∀ vs H Q E, ¬ sp vs H Q E) : FnOk P w K mg base CX0 k f fd ps sp :=
  ⟨fun vs H Q E h => absurd h (no vs H Q E), fun A outer s H args us vs Q E _ _ _ _ h => absurd h (no vs H Q E)⟩
section
variable {P : Program} {w : World} {K : PySem.W.Frag} {mg : Str → Option Value} {base : Heap}
theorem panes_step {n : Nat} (T : Txt K mg) (G_panes : FnOk P w K mg base CX0 n T.panes.f T.panes.fd P_panes (spPanes n)) : FnOk P w K mg base CX0 (n + 1) T.panes.f T.panes.fd P_panes (spPanes (n + 1)) := by
  refine T.panes.F.ok sc_panes (fun vs H Q E h => ?_) (fun cdv A outer s H vs Q E hr h => ?_)
  · obtain ⟨v, L, B, m, rfl, _⟩ := h
    rfl
  obtain ⟨v, L, B, m, rfl, hL, hG, hm, hlen, q⟩ := h
  have hr_panes := hr
  refine ⟨_, (pss_cons (ps_if (pt_val (pe_callB (isiS (K := K) rfl) rfl T.b.isinstance (by decide +kernel) (pa_cons (pv 0) (pa_cons (pe_bltn (v := .ty "int") rfl T.b.int (by decide +kernel) rfl) pa_nil))))
      (pss_one (ps_ret (pe_lst (pa_cons (pv 0) pa_nil))))
      pss_nil)
    (pss_cons (ps_set (i := 1) sc_panes.nd rfl (Or.inl rfl) (pe_lst pa_nil))
    (pss_cons (ps_for PassesOwn.never rfl (pi_tup (pe_ix (ixT (K := K) rfl) (pv 0) pe_int (fun _ _ => rfl))) (pgT (K := K) (n := 2) rfl rfl (pgs_cons (pg_name (i := 2) sc_panes.nd rfl (Or.inl rfl)) (pgs_cons (pg_name (i := 3) sc_panes.nd rfl (Or.inl rfl)) pgs_nil)))
      (pss_one (ps_set (i := 1) sc_panes.nd rfl (Or.inl rfl) (pe_op op_cat (pv 1) (pe_call G_panes hr_panes rfl T.panes.g T.panes.F.kp T.panes.bd .nil pass0 (pa_cons (pv 2) pa_nil))))))
    (pss_one (ps_ret (pv 1)))))), ?_⟩
  cases L with
  | pane i =>
    cases layV_pane_iff hL
    refine ⟨_, rfl, _, _, _, _, true, rfl, .ty _, .base (.int _), kit_ty (by decide +kernel), true, rfl, iteT ?_⟩
    refine ⟨_, rfl, (by show 1 ≤ sizeLine; decide), fun p np => ?_⟩
    exact q p _ (same_upd np) np (by rw [upd_same, panes_pane]; rfl)
  | node d ps =>
    obtain ⟨a, t, xs, rfl, h1, h2, h3⟩ := layV_node_inv hL
    refine ⟨_, rfl, _, _, _, _, false, rfl, .ty _, .base (.tup h1), kit_ty (by decide +kernel), false, rfl, iteF ?_⟩
    refine ⟨Nat.zero_le _, fun o no => ?_⟩
    have s1 : Same H (upd H o (.lst [])) := same_upd no
    obtain ⟨hps, hG'⟩ : (∀ p ∈ ps, Good B (m - 1) p.1) ∧ 1 ≤ m := by
      cases hG with
      | node _ _ g3 => exact ⟨g3, Nat.succ_le_succ (Nat.zero_le _)⟩
    rw [panes_node] at hlen q
    refine ⟨_, rfl, a, _, 1, .ref t, rfl, rfl, SqT.tx (s1 _ _ h1), atI_nat (j := 1) rfl, t, rfl, ⟨_, SqT.tx (s1 _ _ h2)⟩, for_tup (K := K) (a := t) (xs := xs)
      (fun i σ H' => ∃ o' y2 y3, σ = [some (.ref a), some (.ref o'), y2, y3] ∧ Same H H' ∧ H o' = none ∧ H' o' = some (.lst ((panesL (ps.take i)).map V.int)))
      ⟨o, none, none, rfl, s1, no, upd_same⟩ (fun i σ H' _ ⟨_, _, _, _, sm, _⟩ => SqT.tx (sm _ _ h2)) ?_ ?_⟩
    · rintro i x σ H' hi ⟨o', y2, y3, rfl, sm, no', eo⟩
      obtain ⟨p, hp, b, v, rfl, hb, hv⟩ := partsV_get h3 hi
      refine ⟨b, [v, .int p.2], rfl, SqT.tx (sm _ _ hb), rfl, v, [.int p.2], rfl, .int p.2, [], rfl, rfl, ?_⟩
      have le := panes_mem_le (mem_at hp)
      have le2 := panesL_take_le (ps := ps) i
      refine ⟨_, rfl, _, rfl, v, p.1, B, m - 1, rfl, hv.tx (Tx.of sm), hps p (mem_at hp), by omega, by omega, fun r H2 g2 nr er => ?_⟩
      refine ⟨o', r, _, _, rfl, rfl, g2 _ _ eo, er, sizeOk (by rw [List.length_map, List.length_map]; omega), fun z hz => ?_⟩
      refine ⟨z, _, _, rfl, sm.trans (g2.trans (same_upd hz)), (sm.trans g2).free hz, ?_⟩
      rw [upd_same, panesL_take hp, List.map_append]
    · rintro σ H' ⟨o', y2, y3, rfl, sm, no', eo⟩
      refine ⟨_, rfl, q o' H' sm no' ?_⟩
      rw [eo, partsV_len h3, List.take_length]
theorem ok_panes (T : Txt K mg) : ∀ n : Nat, FnOk P w K mg base CX0 n T.panes.f T.panes.fd P_panes (spPanes n)
  | 0 => fn_none fun vs H Q E ⟨_, _, _, m, _, _, _, h, _⟩ => Nat.not_lt_zero m h
  | n + 1 => panes_step T (ok_panes T n)
theorem lpanes_step {n : Nat} (T : Txt K mg) (G_lpanes : FnOk P w K mg base CX0 n T.lpanes.f T.lpanes.fd P_lpanes (spPanes n)) : FnOk P w K mg base CX0 (n + 1) T.lpanes.f T.lpanes.fd P_lpanes (spPanes (n + 1)) := by
  refine T.lpanes.F.ok sc_lpanes (fun vs H Q E h => ?_) (fun cdv A outer s H vs Q E hr h => ?_)
  · obtain ⟨v, L, B, m, rfl, _⟩ := h
    rfl
  obtain ⟨v, L, B, m, rfl, hL, hG, hm, hlen, q⟩ := h
  have hr_lpanes := hr
  refine ⟨_, (pss_cons (ps_if (pt_val (pe_callB (isiS (K := K) rfl) rfl T.b.isinstance (by decide +kernel) (pa_cons (pv 0) (pa_cons (pe_bltn (v := .ty "int") rfl T.b.int (by decide +kernel) rfl) pa_nil))))
      (pss_one (ps_ret (pe_lst (pa_cons (pv 0) pa_nil))))
      pss_nil)
    (pss_cons (ps_set (i := 1) sc_lpanes.nd rfl (Or.inl rfl) (pe_lst pa_nil))
    (pss_cons (ps_for PassesOwn.never rfl (pi_tup (pe_ix (ixT (K := K) rfl) (pv 0) pe_int (fun _ _ => rfl))) (pgT (K := K) (n := 2) rfl rfl (pgs_cons (pg_name (i := 2) sc_lpanes.nd rfl (Or.inl rfl)) (pgs_cons (pg_name (i := 3) sc_lpanes.nd rfl (Or.inl rfl)) pgs_nil)))
      (pss_one (ps_set (i := 1) sc_lpanes.nd rfl (Or.inl rfl) (pe_op op_cat (pv 1) (pe_call G_lpanes hr_lpanes rfl T.lpanes.g T.lpanes.F.kp T.lpanes.bd .nil pass0 (pa_cons (pv 2) pa_nil))))))
    (pss_one (ps_ret (pv 1)))))), ?_⟩
  cases L with
  | pane i =>
    cases layV_pane_iff hL
    refine ⟨_, rfl, _, _, _, _, true, rfl, .ty _, .base (.int _), kit_ty (by decide +kernel), true, rfl, iteT ?_⟩
    refine ⟨_, rfl, (by show 1 ≤ sizeLine; decide), fun p np => ?_⟩
    exact q p _ (same_upd np) np (by rw [upd_same, panes_pane]; rfl)
  | node d ps =>
    obtain ⟨a, t, xs, rfl, h1, h2, h3⟩ := layV_node_inv hL
    refine ⟨_, rfl, _, _, _, _, false, rfl, .ty _, .base (.tup h1), kit_ty (by decide +kernel), false, rfl, iteF ?_⟩
    refine ⟨Nat.zero_le _, fun o no => ?_⟩
    have s1 : Same H (upd H o (.lst [])) := same_upd no
    obtain ⟨hps, hG'⟩ : (∀ p ∈ ps, Good B (m - 1) p.1) ∧ 1 ≤ m := by
      cases hG with
      | node _ _ g3 => exact ⟨g3, Nat.succ_le_succ (Nat.zero_le _)⟩
    rw [panes_node] at hlen q
    refine ⟨_, rfl, a, _, 1, .ref t, rfl, rfl, SqT.tx (s1 _ _ h1), atI_nat (j := 1) rfl, t, rfl, ⟨_, SqT.tx (s1 _ _ h2)⟩, for_tup (K := K) (a := t) (xs := xs)
      (fun i σ H' => ∃ o' y2 y3, σ = [some (.ref a), some (.ref o'), y2, y3] ∧ Same H H' ∧ H o' = none ∧ H' o' = some (.lst ((panesL (ps.take i)).map V.int)))
      ⟨o, none, none, rfl, s1, no, upd_same⟩ (fun i σ H' _ ⟨_, _, _, _, sm, _⟩ => SqT.tx (sm _ _ h2)) ?_ ?_⟩
    · rintro i x σ H' hi ⟨o', y2, y3, rfl, sm, no', eo⟩
      obtain ⟨p, hp, b, v, rfl, hb, hv⟩ := partsV_get h3 hi
      refine ⟨b, [v, .int p.2], rfl, SqT.tx (sm _ _ hb), rfl, v, [.int p.2], rfl, .int p.2, [], rfl, rfl, ?_⟩
      have le := panes_mem_le (mem_at hp)
      have le2 := panesL_take_le (ps := ps) i
      refine ⟨_, rfl, _, rfl, v, p.1, B, m - 1, rfl, hv.tx (Tx.of sm), hps p (mem_at hp), by omega, by omega, fun r H2 g2 nr er => ?_⟩
      refine ⟨o', r, _, _, rfl, rfl, g2 _ _ eo, er, sizeOk (by rw [List.length_map, List.length_map]; omega), fun z hz => ?_⟩
      refine ⟨z, _, _, rfl, sm.trans (g2.trans (same_upd hz)), (sm.trans g2).free hz, ?_⟩
      rw [upd_same, panesL_take hp, List.map_append]
    · rintro σ H' ⟨o', y2, y3, rfl, sm, no', eo⟩
      refine ⟨_, rfl, q o' H' sm no' ?_⟩
      rw [eo, partsV_len h3, List.take_length]
theorem ok_lpanes (T : Txt K mg) : ∀ n : Nat, FnOk P w K mg base CX0 n T.lpanes.f T.lpanes.fd P_lpanes (spPanes n)
  | 0 => fn_none fun vs H Q E ⟨_, _, _, m, _, _, _, h, _⟩ => Nat.not_lt_zero m h
  | n + 1 => lpanes_step T (ok_lpanes T n)
end
end K20

set_option Elab.async false
set_option maxRecDepth 100000
set_option maxHeartbeats 4000000
set_option linter.all false
/-! comprehensions in short -/
namespace K20
open PySem PySem.Spec PyProof.Rows L2
/-- H without D -/
def del (D : Addr) (H : Hp) : Hp := fun b => if b = D then none else H b
theorem del_ne {D b : Addr} {H : Hp} (h : b ≠ D) : del D H b = H b := by unfold del; rw [if_neg h]
theorem del_same (D : Addr) (H : Hp) : Same (del D H) H := fun b o e => by
  unfold del at e
  split at e
  · cases e
  · exact e
theorem del_upd (D : Addr) (H : Hp) (o : HO) : del D (upd H D o) = del D H := by
  funext b
  unfold del
  split
  · rfl
  · rename_i h
    exact upd_ne h
theorem del_mono {D : Addr} {H H' : Hp} (s : Same H H') : Same (del D H) (del D H') := fun b o e => by
  unfold del at e ⊢
  split at e
  · cases e
  · rename_i h
    rw [if_neg h]
    exact s b o e
theorem del_of {D : Addr} {H H' : Hp} (s : Same H H') (h : H D = none) : Same H (del D H') := fun b o e => by
  have hb : b ≠ D := ne_of_none e h
  rw [del_ne hb]
  exact s b o e

section
variable {K : PySem.W.Frag} {σ : L2.St} {H : Hp} {te : TE} {vs : List Nat}
/-- [e for x in xs], a list that stands; what comes is ys -/
theorem lcMapL {a : Addr} {xs : List V} {j : Nat} (ys : List V) (hl : ys.length = xs.length) (hS : SqL K H a xs) (hz : xs.length ≤ 1000) (hw : ∀ x, wipe ((wipe σ vs).set j (some x)) vs = wipe σ vs)
    (he : ∀ (i : Nat) (x y : V) (H1 : Hp) (R : V → Hp → Prop), Same H H1 → xs[i]? = some x → ys[i]? = some y → (∀ H2, Same H1 H2 → R y H2) → te ((wipe σ vs).set j (some x)) H1 R) {Qd : Addr → Hp → Prop}
    (k : ∀ D H', Same H H' → H D = none → H' D = some (.lst ys) → Qd D H') : ∀ D, H D = none → ∃ W : Nat → Nat → Hp → Prop, (∃ m, W 0 m (upd H D (.lst []))) ∧ ∀ i m H, W i m H →
      ((Itl K a).stop i H ∧ Qd D H) ∨ ((Itl K a).go i H ∧ ∃ Nx : Hp → Prop, (∀ H', Nx H' → ∃ m', m' < m ∧ W (i + 1) m' H') ∧ ∀ x H', (Itl K a).yld i H x H' → gName j x (wipe σ vs) H' fun σ2 H2 => wipe σ2 vs = wipe σ vs ∧ tYes σ2 H2 fun b H3 =>
        if b = true then te σ2 H3 fun y H4 => ∃ acc, H4 D = some (.lst acc) ∧ acc.length < sizeLine ∧ Nx (upd H4 D (.lst (acc ++ [y]))) else Nx H3) := fun D nD => by
  refine lc_list (K := K) (a := a) (xs := xs) (g := gName j) (tt := tYes) (te := te) (Qd := Qd D) (fun i H' => Same H H' ∧ H' D = some (.lst (ys.take i))) ⟨same_upd nD, upd_same⟩ (fun i H' _ ⟨sm, _⟩ => sm.seq hS) ?_ ?_
  · rintro i x H' hi ⟨sm, eD⟩
    have hil : i < ys.length := by rw [hl]; exact (List.getElem?_eq_some_iff.mp hi).1
    have hy := List.getElem?_eq_getElem hil
    refine ⟨hw x, ?_⟩
    show te _ _ _
    refine he i x _ H' _ sm hi hy fun H2 g2 => ⟨_, g2 _ _ eD, ?_, Same.mut (sm.trans g2) nD, ?_⟩
    · rw [List.length_take]
      exact Nat.lt_of_le_of_lt (Nat.min_le_right _ _) (small1000 (by omega))
    · rw [upd_same, List.take_add_one, hy]
      rfl
  · rintro H' ⟨sm, eD⟩
    exact k D H' sm nD (by rw [eD, ← hl, List.take_length])
/-- [e for k in range(n)]; what comes is ys -/
theorem lcMapR {n j : Nat} (ys : List V) (hl : ys.length = n) (hz : n ≤ 1000) (hw : ∀ x, wipe ((wipe σ vs).set j (some x)) vs = wipe σ vs)
    (he : ∀ (i : Nat) (y : V) (H1 : Hp) (R : V → Hp → Prop), Same H H1 → i < n → ys[i]? = some y → (∀ H2, Same H1 H2 → R y H2) → te ((wipe σ vs).set j (some (.int (0 + (i : Int))))) H1 R) {Qd : Addr → Hp → Prop}
    (k : ∀ D H', Same H H' → H D = none → H' D = some (.lst ys) → Qd D H') : ∀ D, H D = none → ∃ W : Nat → Nat → Hp → Prop, (∃ m, W 0 m (upd H D (.lst []))) ∧ ∀ i m H, W i m H →
      ((Itr 0 n).stop i H ∧ Qd D H) ∨ ((Itr 0 n).go i H ∧ ∃ Nx : Hp → Prop, (∀ H', Nx H' → ∃ m', m' < m ∧ W (i + 1) m' H') ∧ ∀ x H', (Itr 0 n).yld i H x H' → gName j x (wipe σ vs) H' fun σ2 H2 => wipe σ2 vs = wipe σ vs ∧ tYes σ2 H2 fun b H3 =>
        if b = true then te σ2 H3 fun y H4 => ∃ acc, H4 D = some (.lst acc) ∧ acc.length < sizeLine ∧ Nx (upd H4 D (.lst (acc ++ [y]))) else Nx H3) := fun D nD => by
  refine lc_range (lo := 0) (n := n) (g := gName j) (tt := tYes) (te := te) (Qd := Qd D) (fun i H' => i ≤ n ∧ Same H H' ∧ H' D = some (.lst (ys.take i))) ⟨Nat.zero_le _, same_upd nD, upd_same⟩ ?_ ?_
  · rintro i H' hi ⟨_, sm, eD⟩
    have hil : i < ys.length := by omega
    have hy := List.getElem?_eq_getElem hil
    refine ⟨hw _, ?_⟩
    show te _ _ _
    refine he i _ H' _ sm hi hy fun H2 g2 => ⟨_, g2 _ _ eD, ?_, hi, Same.mut (sm.trans g2) nD, ?_⟩
    · rw [List.length_take]
      exact Nat.lt_of_le_of_lt (Nat.min_le_right _ _) (small1000 (by omega))
    · rw [upd_same, List.take_add_one, hy]
      rfl
  · rintro H' ⟨_, sm, eD⟩
    exact k D H' sm nD (by rw [eD, ← hl, List.take_length])
/-- [e for inner, size in parts]: e's value is told by the part -/
theorem lcParts {t : Addr} {xs : List V} {ps : List (Lay × Int)} {j1 j2 n : Nat} (f : Lay × Int → V) (hn : n = 2) (ht : H t = some (.tup xs)) (hp : PartsV H ps xs) (hz : ps.length ≤ 1000) (hw : ∀ x y, wipe (((wipe σ vs).set j1 (some x)).set j2 (some y)) vs = wipe σ vs)
    (he : ∀ (i : Nat) (p : Lay × Int) (v : V) (H1 : Hp) (R : V → Hp → Prop), Same H H1 → ps[i]? = some p → LayV H1 p.1 v → (∀ H2, Same H1 H2 → R (f p) H2) → te (((wipe σ vs).set j1 (some v)).set j2 (some (.int p.2))) H1 R) {Qd : Addr → Hp → Prop}
    (k : ∀ D H', Same H H' → H D = none → H' D = some (.lst (ps.map f)) → Qd D H') : ∀ D, H D = none → ∃ W : Nat → Nat → Hp → Prop, (∃ m, W 0 m (upd H D (.lst []))) ∧ ∀ i m H, W i m H →
      ((Itt K t).stop i H ∧ Qd D H) ∨ ((Itt K t).go i H ∧ ∃ Nx : Hp → Prop, (∀ H', Nx H' → ∃ m', m' < m ∧ W (i + 1) m' H') ∧ ∀ x H', (Itt K t).yld i H x H' → gTup K n (gCons (gName j1) (gCons (gName j2) gNil)) x (wipe σ vs) H' fun σ2 H2 => wipe σ2 vs = wipe σ vs ∧ tYes σ2 H2 fun b H3 =>
        if b = true then te σ2 H3 fun y H4 => ∃ acc, H4 D = some (.lst acc) ∧ acc.length < sizeLine ∧ Nx (upd H4 D (.lst (acc ++ [y]))) else Nx H3) := fun D nD => by
  subst hn
  refine lc_tup (K := K) (a := t) (xs := xs) (g := gTup K 2 (gCons (gName j1) (gCons (gName j2) gNil))) (tt := tYes) (te := te) (Qd := Qd D) (fun i H' => Same H H' ∧ H' D = some (.lst ((ps.take i).map f))) ⟨same_upd nD, upd_same⟩ (fun i H' _ ⟨sm, _⟩ => SqT.tx (sm _ _ ht)) ?_ ?_
  · rintro i x H' hi ⟨sm, eD⟩
    obtain ⟨p, hpi, b, v, rfl, hb, hv⟩ := partsV_get hp hi
    refine ⟨b, [v, .int p.2], rfl, SqT.tx (sm _ _ hb), rfl, v, [.int p.2], rfl, .int p.2, [], rfl, rfl, hw _ _, ?_⟩
    show te _ _ _
    refine he i p v H' _ sm hpi (hv.tx (Tx.of sm)) fun H2 g2 => ⟨_, g2 _ _ eD, ?_, Same.mut (sm.trans g2) nD, ?_⟩
    · rw [List.length_map, List.length_take]
      exact Nat.lt_of_le_of_lt (Nat.min_le_right _ _) (small1000 hz)
    · rw [upd_same, take_one hpi, List.map_append]
      rfl
  · rintro H' ⟨sm, eD⟩
    exact k D H' sm nD (by rw [eD, partsV_len hp, List.take_length])
/-- .. the value bears a relation to the part and the heap (without the new list) -/
theorem lcPartsR {t : Addr} {xs : List V} {ps : List (Lay × Int)} {j1 j2 n : Nat} (Pr : Lay × Int → V → Hp → Prop) (mono : ∀ p y H H', Same H H' → Pr p y H → Pr p y H') (hn : n = 2) (ht : H t = some (.tup xs)) (hp : PartsV H ps xs) (hz : ps.length ≤ 1000)
    (hw : ∀ x y, wipe (((wipe σ vs).set j1 (some x)).set j2 (some y)) vs = wipe σ vs)
    (he : ∀ (i : Nat) (p : Lay × Int) (v : V) (D : Addr) (H1 : Hp) (acc : List V) (R : V → Hp → Prop), Same H H1 → H1 D = some (.lst acc) → ps[i]? = some p → LayV H1 p.1 v → (∀ y H2, Same H1 H2 → Pr p y (del D H2) → R y H2) → te (((wipe σ vs).set j1 (some v)).set j2 (some (.int p.2))) H1 R) {Qd : Addr → Hp → Prop}
    (k : ∀ D H' ys, Same H H' → H D = none → H' D = some (.lst ys) → ys.length = ps.length → (∀ (i : Nat) (y : V) (p : Lay × Int), ys[i]? = some y → ps[i]? = some p → Pr p y H') → Qd D H') : ∀ D, H D = none → ∃ W : Nat → Nat → Hp → Prop, (∃ m, W 0 m (upd H D (.lst []))) ∧ ∀ i m H, W i m H →
      ((Itt K t).stop i H ∧ Qd D H) ∨ ((Itt K t).go i H ∧ ∃ Nx : Hp → Prop, (∀ H', Nx H' → ∃ m', m' < m ∧ W (i + 1) m' H') ∧ ∀ x H', (Itt K t).yld i H x H' → gTup K n (gCons (gName j1) (gCons (gName j2) gNil)) x (wipe σ vs) H' fun σ2 H2 => wipe σ2 vs = wipe σ vs ∧ tYes σ2 H2 fun b H3 =>
        if b = true then te σ2 H3 fun y H4 => ∃ acc, H4 D = some (.lst acc) ∧ acc.length < sizeLine ∧ Nx (upd H4 D (.lst (acc ++ [y]))) else Nx H3) := fun D nD => by
  subst hn
  refine lc_tup (K := K) (a := t) (xs := xs) (g := gTup K 2 (gCons (gName j1) (gCons (gName j2) gNil))) (tt := tYes) (te := te) (Qd := Qd D)
    (fun i H' => Same H H' ∧ ∃ ys, H' D = some (.lst ys) ∧ i ≤ ps.length ∧ ys.length = i ∧ ∀ (i : Nat) (y : V) (p : Lay × Int), ys[i]? = some y → ps[i]? = some p → Pr p y (del D H'))
    ⟨same_upd nD, [], upd_same, Nat.zero_le _, rfl, fun i y p e => by simp at e⟩ (fun i H' _ ⟨sm, _⟩ => SqT.tx (sm _ _ ht)) ?_ ?_
  · rintro i x H' hi ⟨sm, ys, eD, hil, hl, hP⟩
    obtain ⟨p, hpi, b, v, rfl, hb, hv⟩ := partsV_get hp hi
    have hip := (List.getElem?_eq_some_iff.mp hpi).1
    refine ⟨b, [v, .int p.2], rfl, SqT.tx (sm _ _ hb), rfl, v, [.int p.2], rfl, .int p.2, [], rfl, rfl, hw _ _, ?_⟩
    show te _ _ _
    refine he i p v D H' ys _ sm eD hpi (hv.tx (Tx.of sm)) fun y H2 g2 hy => ⟨_, g2 _ _ eD, ?_, Same.mut (sm.trans g2) nD, ys ++ [y], upd_same, hip, ?_, fun i' y' p' e1 e2 => ?_⟩
    · exact Nat.lt_of_le_of_lt (by omega) (small1000 hz)
    · rw [List.length_append, hl]
      rfl
    · rw [del_upd]
      by_cases hi' : i' < ys.length
      · rw [List.getElem?_append_left hi'] at e1
        exact mono _ _ _ _ (del_mono g2) (hP i' y' p' e1 e2)
      · have : i' = ys.length := by
          have := (List.getElem?_eq_some_iff.mp e1).1
          rw [List.length_append, List.length_singleton] at this
          omega
        subst this
        rw [List.getElem?_append_right (Nat.le_refl _), Nat.sub_self] at e1
        have e3 : y = y' := Option.some.inj e1
        rw [← e3]
        rw [hl, hpi] at e2
        cases e2
        exact hy
  · rintro H' ⟨sm, ys, eD, hil, hl, hP⟩
    exact k D H' ys sm nD eD (by rw [hl, partsV_len hp]) fun i y p e1 e2 => mono _ _ _ _ (del_same D H') (hP i y p e1 e2)
end
end K20

set_option Elab.async false
set_option maxRecDepth 100000
set_option maxHeartbeats 4000000
set_option linter.all false
/-! least and the law's own least -/
namespace K20
open PySem PySem.Spec PyProof.Rows L2
theorem map_at {α β : Type} {f : α → β} {l : List α} {i : Nat} {y : β} (h : (l.map f)[i]? = some y) : ∃ x, l[i]? = some x ∧ y = f x := by
  rw [List.getElem?_map] at h
  cases e : l[i]? with
  | none => rw [e] at h; cases h
  | some x => rw [e] at h; exact ⟨x, rfl, (Option.some.inj h).symm⟩
theorem at_ex {α : Type} {l : List α} {i n : Nat} (hl : l.length = n) (h : i < n) : ∃ x, l[i]? = some x := ⟨_, List.getElem?_eq_getElem (by omega)⟩
theorem lt_of_at {α : Type} {l : List α} {i : Nat} {x : α} (h : l[i]? = some x) : i < l.length := (List.getElem?_eq_some_iff.mp h).1
/-- least of a layout: a tuple -/
def spLeast (K : PySem.W.Frag) (n : Nat) : Sp := fun vs H Q _ => ∃ (v : V) (L : Lay) (B : Int) (m : Nat), vs = [v] ∧ LayV H L v ∧ Good B m L ∧ m < n ∧ L.panes.length ≤ 100 ∧
  ∀ (r : Addr) (H' : Hp), Same H H' → TupK K H' r [.int L.low.1, .int L.low.2] → Q (.ref r) H'
theorem low_beside (ps : List (Lay × Int)) : (Lay.node false ps).low = ((ps.map fun p => p.1.low.1).sum + (ps.length : Int) - 1, maxL (ps.map fun p => p.1.low.2)) := by
  simp only [Lay.low, lowL_map, List.map_map, Function.comp_def, Bool.false_eq_true, if_false]
theorem low_below (ps : List (Lay × Int)) : (Lay.node true ps).low = (maxL (ps.map fun p => p.1.low.1), (ps.map fun p => p.1.low.2).sum + (ps.length : Int) - 1) := by
  simp only [Lay.low, lowL_map, List.map_map, Function.comp_def, if_true]
section
variable {P : Program} {w : World} {K : PySem.W.Frag} {mg : Str → Option Value} {base : Heap}
theorem least_step {n : Nat} (T : Txt K mg) (G_least : FnOk P w K mg base CX0 n T.least.f T.least.fd P_least (spLeast K n)) : FnOk P w K mg base CX0 (n + 1) T.least.f T.least.fd P_least (spLeast K (n + 1)) := by
  refine T.least.F.ok sc_least (fun vs H Q E h => ?_) (fun cdv A outer s H vs Q E hr h => ?_)
  · obtain ⟨v, L, B, m, rfl, _⟩ := h
    rfl
  obtain ⟨v, L, B, m, rfl, hL, hG, hm, hlen, q⟩ := h
  have hr_least := hr
  refine ⟨_, (pss_cons (ps_if (pt_val (pe_callB (isiS (K := K) rfl) rfl T.b.isinstance (by decide +kernel) (pa_cons (pv 0) (pa_cons (pe_bltn (v := .ty "int") rfl T.b.int (by decide +kernel) rfl) pa_nil))))
      (pss_one (ps_ret (pe_glob (v := .ref T.lp) rfl T.gLP rfl)))
      pss_nil)
    (pss_cons (ps_setLc (i := 1) (own := [("inner", 2), ("_", 3)]) rfl sc_least.nd rfl rfl (sw_true rfl rfl rfl (by decide +kernel)) (pi_tup (pe_ix (ixT (K := K) rfl) (pv 0) pe_int (fun _ _ => rfl))) (blkOk_by (own := [("inner", 2), ("_", 3)]) (N := N_least) (sc := defScope s_least) (by decide +kernel)) (fun _ _ _ _ _ => pgT (K := K) (n := 2) rfl rfl (pgs_cons (pg_name (i := 2) sc_least.nd rfl (Or.inl rfl)) (pgs_cons (pg_name (i := 3) sc_least.nd rfl (Or.inl rfl)) pgs_nil))) (fun _ _ _ _ _ => pts_nil) (fun _ _ _ _ _ => (pe_call G_least hr_least rfl T.least.g T.least.F.kp T.least.bd .nil pass0 (pa_cons (pv 2) pa_nil))))
    (pss_cons (ps_setLc (i := 4) (own := [("size", 5)]) rfl sc_least.nd rfl rfl (sw_true rfl rfl rfl (by decide +kernel)) (pi_list (pv 1)) (blkOk_by (own := [("size", 5)]) (N := N_least) (sc := defScope s_least) (by decide +kernel)) (fun _ _ _ _ _ => pg_name (i := 5) sc_least.nd rfl (Or.inl rfl)) (fun _ _ _ _ _ => pts_nil) (fun _ _ _ _ _ => (pe_ix (ixT (K := K) rfl) (pv 5) pe_int (fun _ _ => rfl))))
    (pss_cons (ps_setLc (i := 6) (own := [("size", 5)]) rfl sc_least.nd rfl rfl (sw_true rfl rfl rfl (by decide +kernel)) (pi_list (pv 1)) (blkOk_by (own := [("size", 5)]) (N := N_least) (sc := defScope s_least) (by decide +kernel)) (fun _ _ _ _ _ => pg_name (i := 5) sc_least.nd rfl (Or.inl rfl)) (fun _ _ _ _ _ => pts_nil) (fun _ _ _ _ _ => (pe_ix (ixT (K := K) rfl) (pv 5) pe_int (fun _ _ => rfl))))
    (pss_cons (ps_set (i := 7) sc_least.nd rfl (Or.inl rfl) (pe_op op_sub (pe_callB (lenS (K := K) rfl) rfl T.b.len (by decide +kernel) (pa_cons (pv 1) pa_nil)) pe_int))
    (pss_cons (ps_if (pt_cmpR op_eq (pe_ix (ixT (K := K) rfl) (pv 0) pe_int (fun _ _ => rfl)) (pe_glob (v := .str "beside") rfl T.gBESIDE ⟨_, rfl⟩) (nomark _))
      (pss_one (ps_ret (pe_tup (pa_cons (pe_op op_add (pe_callB (sumS (K := K) rfl rfl) rfl T.b.sum (by decide +kernel) (pa_cons (pv 4) pa_nil)) (pv 7)) (pa_cons (pe_callB (maxS (K := K) rfl rfl) rfl T.b.max (by decide +kernel) (pa_cons (pv 6) pa_nil)) pa_nil)))))
      pss_nil)
    (pss_one (ps_ret (pe_tup (pa_cons (pe_callB (maxS (K := K) rfl rfl) rfl T.b.max (by decide +kernel) (pa_cons (pv 4) pa_nil)) (pa_cons (pe_op op_add (pe_callB (sumS (K := K) rfl rfl) rfl T.b.sum (by decide +kernel) (pa_cons (pv 6) pa_nil)) (pv 7)) pa_nil))))))))))), ?_⟩
  cases L with
  | pane i =>
    cases layV_pane_iff hL
    refine ⟨_, rfl, _, _, _, _, true, rfl, .ty _, .base (.int _), kit_ty (by decide +kernel), true, rfl, iteT ?_⟩
    exact q T.lp H (Same.refl _) (.inr (by rw [show (Lay.pane i).low = (2, 1) by simp [Lay.low]]; exact T.hLP))
  | node d ps =>
    obtain ⟨a, t, xs, rfl, h1, h2, h3⟩ := layV_node_inv hL
    refine ⟨_, rfl, _, _, _, _, false, rfl, .ty _, .base (.tup h1), kit_ty (by decide +kernel), false, rfl, iteF ?_⟩
    have hple := hG.parts_le
    obtain ⟨hps, hG', h2le⟩ : (∀ p ∈ ps, Good B (m - 1) p.1) ∧ 1 ≤ m ∧ 2 ≤ ps.length := by
      cases hG with
      | node g1 _ g3 => exact ⟨g3, Nat.succ_le_succ (Nat.zero_le _), g1⟩
    rw [panes_node] at hlen hple
    -- sizes = [least(inner) for inner, _ in layout[1]]
    refine ⟨_, rfl, a, _, 1, .ref t, rfl, rfl, SqT.tx h1, atI_nat (j := 1) rfl, t, rfl, ⟨_, SqT.tx h2⟩,
      lcPartsR (Pr := fun p y H' => ∃ r, y = .ref r ∧ TupK K H' r [.int p.1.low.1, .int p.1.low.2]) (fun p y H1 H2 s ⟨r, e, tk⟩ => ⟨r, e, tk.mono (Tx.of s)⟩) rfl h2 h3 (by omega) (fun _ _ => rfl) ?_ ?_⟩
    · intro i p v D H1 acc R sm eD hp hv k
      have le := panes_mem_le (mem_at hp)
      refine ⟨_, rfl, v, p.1, B, m - 1, rfl, hv, hps p (mem_at hp), by omega, by omega, fun r H2 g2 tk => k (.ref r) H2 g2 ⟨r, rfl, ?_⟩⟩
      rcases tk with tk | tk
      · have ne : r ≠ D := ne_of tk (g2 _ _ eD) (by intro z; cases z)
        exact .inl (by rw [del_ne ne]; exact tk)
      · exact .inr tk
    intro D H1 ys s1 nD eD hl hP
    -- widths, heights
    have comp : ∀ (j : Nat) (H2 : Hp), Same H1 H2 → ∀ (i : Nat) (x : V), ys[i]? = some x → ∃ r p, x = .ref r ∧ ps[i]? = some p ∧ TupK K H2 r [.int p.1.low.1, .int p.1.low.2] := fun j H2 sm i x e => by
      obtain ⟨p, hp⟩ := at_ex (l := ps) (i := i) rfl (by rw [← hl]; exact lt_of_at e)
      obtain ⟨r, e1, tk⟩ := hP i x p e hp
      exact ⟨r, p, e1, hp, tk.mono (Tx.of sm)⟩
    refine ⟨_, rfl, D, rfl, ⟨_, SqL.of eD⟩, lcMapL (ps.map fun p => V.int p.1.low.1) (by rw [List.length_map, hl]) (SqL.of eD) (by omega) (fun _ => rfl) ?_ ?_⟩
    · intro i x y H2 R sm hx hy k
      obtain ⟨r, p, rfl, hp, tk⟩ := comp 0 H2 sm i x hx
      obtain ⟨p', hp', rfl⟩ := map_at hy
      rw [hp] at hp'; cases hp'
      exact ⟨_, rfl, r, _, 0, _, rfl, rfl, tk.sq, atI_nat (j := 0) rfl, k H2 (Same.refl _)⟩
    intro D2 H2 s2 nD2 eD2
    refine ⟨_, rfl, D, rfl, ⟨_, SqL.of (s2 _ _ eD)⟩, lcMapL (ps.map fun p => V.int p.1.low.2) (by rw [List.length_map, hl]) (SqL.of (s2 _ _ eD)) (by omega) (fun _ => rfl) ?_ ?_⟩
    · intro i x y H3 R sm hx hy k
      obtain ⟨r, p, rfl, hp, tk⟩ := comp 0 H3 (s2.trans sm) i x hx
      obtain ⟨p', hp', rfl⟩ := map_at hy
      rw [hp] at hp'; cases hp'
      exact ⟨_, rfl, r, _, 1, _, rfl, rfl, tk.sq, atI_nat (j := 1) rfl, k H3 (Same.refl _)⟩
    intro D3 H3 s3 nD3 eD3
    have sm : Same H H3 := s1.trans (s2.trans s3)
    have eD2' : SqL K H3 D2 ((ps.map fun p => p.1.low.1).map V.int) := SqL.of (by rw [s3 _ _ eD2, List.map_map]; rfl)
    have eD3' : SqL K H3 D3 ((ps.map fun p => p.1.low.2).map V.int) := SqL.of (by rw [eD3, List.map_map]; rfl)
    have pos : ∀ f : Lay × Int → Int, 0 < (ps.map f).length := fun f => by rw [List.length_map]; omega
    -- borders = len(sizes) - 1
    refine ⟨_, rfl, D, _, rfl, .inl (SqL.of (s3 _ _ (s2 _ _ eD))), _, _, rfl, rfl, ?_⟩
    -- if layout[0] == BESIDE
    refine ⟨_, rfl, a, _, 0, .str (dirS d), rfl, rfl, SqT.tx (sm _ _ h1), atI_nat (j := 0) rfl, rfl, _, rfl, ?_⟩
    cases d with
    | false =>
      refine ite2 (fun _ => ?_) (fun e => absurd (by decide +kernel) e)
      refine ⟨_, rfl, D2, _, rfl, eD2', _, rfl, _, _, rfl, rfl, _, rfl, D3, _, rfl, eD3', pos _, fun mx hmx hle => ?_⟩
      refine ⟨(by show 2 ≤ sizeLine; decide), fun p np => ?_⟩
      refine q p _ (sm.trans (same_upd np)) (.inl ?_)
      rw [upd_same, low_beside, maxL_is hmx hle, hl, Int.add_sub_assoc]
    | true =>
      refine ite2 (fun e => absurd e (by decide +kernel)) (fun _ => ?_)
      refine ⟨_, rfl, D2, _, rfl, eD2', pos _, fun mx hmx hle => ?_⟩
      refine ⟨_, rfl, D3, _, rfl, eD3', _, rfl, _, _, rfl, rfl, (by show 2 ≤ sizeLine; decide), fun p np => ?_⟩
      refine q p _ (sm.trans (same_upd np)) (.inl ?_)
      rw [upd_same, low_below, maxL_is hmx hle, hl, Int.add_sub_assoc]
theorem ok_least (T : Txt K mg) : ∀ n : Nat, FnOk P w K mg base CX0 n T.least.f T.least.fd P_least (spLeast K n)
  | 0 => fn_none fun vs H Q E ⟨_, _, _, m, _, _, _, h, _⟩ => Nat.not_lt_zero m h
  | n + 1 => least_step T (ok_least T n)
end
end K20

set_option Elab.async false
set_option maxRecDepth 100000
set_option maxHeartbeats 4000000
set_option linter.all false
/-! the law's own least -/
namespace K20
open PySem PySem.Spec PyProof.Rows L2
/-- least of a layout: a new list -/
def spLeastL (n : Nat) : Sp := fun vs H Q _ => ∃ (v : V) (L : Lay) (B : Int) (m : Nat), vs = [v] ∧ LayV H L v ∧ Good B m L ∧ m < n ∧ L.panes.length ≤ 100 ∧
  ∀ (r : Addr) (H' : Hp), Same H H' → H r = none → H' r = some (.lst [.int L.low.1, .int L.low.2]) → Q (.ref r) H'
/-- the axis of a direction -/
def ax (d : Bool) : Int := if d then 1 else 0
theorem ax_of (d : Bool) : (if decide (V.str (dirS d) = V.str "below") = true then (1 : Int) else 0) = ax d := by
  cases d
  · decide +kernel
  · decide +kernel
theorem at_ax {α : Type} (x y : α) (d : Bool) : atI [x, y] (ax d) = some (if d then y else x) := by
  cases d <;> rfl
theorem ixN_ax (d : Bool) : ixN 2 (ax d) = some (if d then 1 else 0) := by
  cases d <;> rfl
section
variable {P : Program} {w : World} {K : PySem.W.Frag} {mg : Str → Option Value} {base : Heap}
theorem lleast_step {n : Nat} (T : Txt K mg) (G_lleast : FnOk P w K mg base CX0 n T.lleast.f T.lleast.fd P_lleast (spLeastL n)) : FnOk P w K mg base CX0 (n + 1) T.lleast.f T.lleast.fd P_lleast (spLeastL (n + 1)) := by
  refine T.lleast.F.ok sc_lleast (fun vs H Q E h => ?_) (fun cdv A outer s H vs Q E hr h => ?_)
  · obtain ⟨v, L, B, m, rfl, _⟩ := h
    rfl
  obtain ⟨v, L, B, m, rfl, hL, hG, hm, hlen, q⟩ := h
  have hr_lleast := hr
  refine ⟨_, (pss_cons (ps_if (pt_val (pe_callB (isiS (K := K) rfl) rfl T.b.isinstance (by decide +kernel) (pa_cons (pv 0) (pa_cons (pe_bltn (v := .ty "int") rfl T.b.int (by decide +kernel) rfl) pa_nil))))
      (pss_one (ps_ret (pe_lst (pa_cons pe_int (pa_cons pe_int pa_nil)))))
      pss_nil)
    (pss_cons (ps_setLc (i := 1) (own := [("_law_inner", 2), ("_law_size", 3)]) rfl sc_lleast.nd rfl rfl (sw_true rfl rfl rfl (by decide +kernel)) (pi_tup (pe_ix (ixT (K := K) rfl) (pv 0) pe_int (fun _ _ => rfl))) (blkOk_by (own := [("_law_inner", 2), ("_law_size", 3)]) (N := N_lleast) (sc := defScope s_lleast) (by decide +kernel)) (fun _ _ _ _ _ => pgT (K := K) (n := 2) rfl rfl (pgs_cons (pg_name (i := 2) sc_lleast.nd rfl (Or.inl rfl)) (pgs_cons (pg_name (i := 3) sc_lleast.nd rfl (Or.inl rfl)) pgs_nil))) (fun _ _ _ _ _ => pts_nil) (fun _ _ _ _ _ => (pe_call G_lleast hr_lleast rfl T.lleast.g T.lleast.F.kp T.lleast.bd .nil pass0 (pa_cons (pv 2) pa_nil))))
    (pss_cons (ps_set (i := 4) sc_lleast.nd rfl (Or.inr rfl) (pe_callTy call_int1 rfl T.b.int (by decide +kernel) (pa_cons (pe_cmpR op_eq (pe_ix (ixT (K := K) rfl) (pv 0) pe_int (fun _ _ => rfl)) pe_str (nomark _)) pa_nil)))
    (pss_cons (ps_set (i := 5) sc_lleast.nd rfl (Or.inl rfl) (pe_lst (pa_cons (pe_callB (maxS (K := K) rfl rfl) rfl T.b.max (by decide +kernel) (pa_cons (pe_lc (own := [("_law_size", 3)]) rfl sc_lleast.nd (pi_list (pv 1)) (blkOk_by (own := [("_law_size", 3)]) (N := N_lleast) (sc := defScope s_lleast) (by decide +kernel)) (fun _ _ _ _ _ => pg_name (i := 3) sc_lleast.nd rfl (Or.inl rfl)) (fun _ _ _ _ _ => pts_nil) (fun _ _ _ _ _ => (pe_ix (ixL (K := K) rfl) (pv 3) pe_int (fun _ _ => rfl)))) pa_nil)) (pa_cons (pe_callB (maxS (K := K) rfl rfl) rfl T.b.max (by decide +kernel) (pa_cons (pe_lc (own := [("_law_size", 3)]) rfl sc_lleast.nd (pi_list (pv 1)) (blkOk_by (own := [("_law_size", 3)]) (N := N_lleast) (sc := defScope s_lleast) (by decide +kernel)) (fun _ _ _ _ _ => pg_name (i := 3) sc_lleast.nd rfl (Or.inl rfl)) (fun _ _ _ _ _ => pts_nil) (fun _ _ _ _ _ => (pe_ix (ixL (K := K) rfl) (pv 3) pe_int (fun _ _ => rfl)))) pa_nil)) pa_nil))))
    (pss_cons (ps_asg (pe_op op_sub (pe_op op_add (pe_callB (sumS (K := K) rfl rfl) rfl T.b.sum (by decide +kernel) (pa_cons (pe_lc (own := [("_law_size", 3)]) rfl sc_lleast.nd (pi_list (pv 1)) (blkOk_by (own := [("_law_size", 3)]) (N := N_lleast) (sc := defScope s_lleast) (by decide +kernel)) (fun _ _ _ _ _ => pg_name (i := 3) sc_lleast.nd rfl (Or.inl rfl)) (fun _ _ _ _ _ => pts_nil) (fun _ _ _ _ _ => (pe_ix (ixL (K := K) rfl) (pv 3) (pv 4) (fun _ _ => rfl)))) pa_nil)) (pe_callB (lenS (K := K) rfl) rfl T.b.len (by decide +kernel) (pa_cons (pv 1) pa_nil))) pe_int) (pg_sub (pv 5) (pv 4) set_list))
    (pss_one (ps_ret (pv 5)))))))), ?_⟩
  cases L with
  | pane i =>
    cases layV_pane_iff hL
    refine ⟨_, rfl, _, _, _, _, true, rfl, .ty _, .base (.int _), kit_ty (by decide +kernel), true, rfl, iteT ?_⟩
    refine ⟨(by show 2 ≤ sizeLine; decide), fun p np => ?_⟩
    exact q p _ (same_upd np) np (by rw [show (Lay.pane i).low = (2, 1) by simp [Lay.low]]; exact upd_same)
  | node d ps =>
    obtain ⟨a, t, xs, rfl, h1, h2, h3⟩ := layV_node_inv hL
    refine ⟨_, rfl, _, _, _, _, false, rfl, .ty _, .base (.tup h1), kit_ty (by decide +kernel), false, rfl, iteF ?_⟩
    have hple := hG.parts_le
    obtain ⟨hps, hG', h2le⟩ : (∀ p ∈ ps, Good B (m - 1) p.1) ∧ 1 ≤ m ∧ 2 ≤ ps.length := by
      cases hG with
      | node g1 _ g3 => exact ⟨g3, Nat.succ_le_succ (Nat.zero_le _), g1⟩
    rw [panes_node] at hlen hple
    -- sizes = [least(inner) for inner, _ in layout[1]]
    refine ⟨_, rfl, a, _, 1, .ref t, rfl, rfl, SqT.tx h1, atI_nat (j := 1) rfl, t, rfl, ⟨_, SqT.tx h2⟩,
      lcPartsR (Pr := fun p y H' => ∃ r, y = .ref r ∧ H' r = some (.lst [.int p.1.low.1, .int p.1.low.2])) (fun p y H1 H2 s ⟨r, e, tk⟩ => ⟨r, e, s _ _ tk⟩) rfl h2 h3 (by omega) (fun _ _ => rfl) ?_ ?_⟩
    · intro i p v D H1 acc R sm eD hp hv k
      have le := panes_mem_le (mem_at hp)
      refine ⟨_, rfl, v, p.1, B, m - 1, rfl, hv, hps p (mem_at hp), by omega, by omega, fun r H2 g2 nr tk => k (.ref r) H2 g2 ⟨r, rfl, ?_⟩⟩
      have ne : r ≠ D := fun e => by rw [e, eD] at nr; cases nr
      rw [del_ne ne]
      exact tk
    intro D H1 ys s1 nD eD hl hP
    have comp : ∀ (H2 : Hp), Same H1 H2 → ∀ (i : Nat) (x : V), ys[i]? = some x → ∃ r p, x = .ref r ∧ ps[i]? = some p ∧ H2 r = some (.lst [.int p.1.low.1, .int p.1.low.2]) := fun H2 sm i x e => by
      obtain ⟨p, hp⟩ := at_ex (l := ps) (i := i) rfl (by rw [← hl]; exact lt_of_at e)
      obtain ⟨r, e1, tk⟩ := hP i x p e hp
      exact ⟨r, p, e1, hp, sm _ _ tk⟩
    have pos : ∀ f : Lay × Int → Int, 0 < (ps.map f).length := fun f => by rw [List.length_map]; omega
    -- axis
    refine ⟨_, rfl, a, _, 0, .str (dirS d), rfl, rfl, SqT.tx (s1 _ _ h1), atI_nat (j := 0) rfl, rfl, .inr ⟨_, rfl, ?_⟩⟩
    rw [ax_of]
    -- lows = [max of the widths, max of the heights]
    refine ⟨_, rfl, D, rfl, ⟨_, SqL.of eD⟩, lcMapL (ps.map fun p => V.int p.1.low.1) (by rw [List.length_map, hl]) (SqL.of eD) (by omega) (fun _ => rfl) ?_ ?_⟩
    · intro i x y H2 R sm hx hy k
      obtain ⟨r, p, rfl, hp, tk⟩ := comp H2 sm i x hx
      obtain ⟨p', hp', rfl⟩ := map_at hy
      rw [hp] at hp'; cases hp'
      exact ⟨_, rfl, r, _, 0, _, rfl, rfl, SqL.of tk, atI_nat (j := 0) rfl, k H2 (Same.refl _)⟩
    intro D2 H2 s2 nD2 eD2
    refine ⟨D2, ps.map (fun p => p.1.low.1), rfl, SqL.of (by rw [eD2, List.map_map]; rfl), pos _, fun m1 hm1 hle1 => ?_⟩
    refine ⟨_, rfl, D, rfl, ⟨_, SqL.of (s2 _ _ eD)⟩, lcMapL (ps.map fun p => V.int p.1.low.2) (by rw [List.length_map, hl]) (SqL.of (s2 _ _ eD)) (by omega) (fun _ => rfl) ?_ ?_⟩
    · intro i x y H3 R sm hx hy k
      obtain ⟨r, p, rfl, hp, tk⟩ := comp H3 (s2.trans sm) i x hx
      obtain ⟨p', hp', rfl⟩ := map_at hy
      rw [hp] at hp'; cases hp'
      exact ⟨_, rfl, r, _, 1, _, rfl, rfl, SqL.of tk, atI_nat (j := 1) rfl, k H3 (Same.refl _)⟩
    intro D3 H3 s3 nD3 eD3
    refine ⟨D3, ps.map (fun p => p.1.low.2), rfl, SqL.of (by rw [eD3, List.map_map]; rfl), pos _, fun m2 hm2 hle2 => ?_⟩
    refine ⟨(by show 2 ≤ sizeLine; decide), fun l nl => ?_⟩
    have s4 : Same H3 (upd H3 l (.lst [.int m1, .int m2])) := same_upd nl
    have s14 := s2.trans (s3.trans s4)
    -- the sum along the axis
    refine ⟨_, rfl, D, rfl, ⟨_, SqL.of (s14 _ _ eD)⟩, lcMapL (ps.map fun p => V.int (if d then p.1.low.2 else p.1.low.1)) (by rw [List.length_map, hl]) (SqL.of (s14 _ _ eD)) (by omega) (fun _ => rfl) ?_ ?_⟩
    · intro i x y H5 R sm hx hy k
      obtain ⟨r, p, rfl, hp, tk⟩ := comp H5 (s14.trans sm) i x hx
      obtain ⟨p', hp', rfl⟩ := map_at hy
      rw [hp] at hp'; cases hp'
      refine ⟨_, rfl, _, rfl, r, _, ax d, _, rfl, rfl, SqL.of tk, at_ax _ _ d, ?_⟩
      have e : (if d then V.int p.1.low.2 else V.int p.1.low.1) = V.int (if d then p.1.low.2 else p.1.low.1) := by cases d <;> rfl
      rw [e]
      exact k H5 (Same.refl _)
    intro D5 H5 s5 nD5 eD5
    refine ⟨D5, ps.map (fun p => if d then p.1.low.2 else p.1.low.1), rfl, SqL.of (by rw [eD5, List.map_map]; rfl), ?_⟩
    refine ⟨_, rfl, D, _, rfl, .inl (SqL.of (s5 _ _ (s14 _ _ eD))), _, _, rfl, rfl, _, _, rfl, rfl, ?_⟩
    refine ⟨_, rfl, _, rfl, l, _, ax d, _, rfl, rfl, s5 _ _ upd_same, ixN_ax d, ?_⟩
    refine ⟨_, rfl, ?_⟩
    have nl0 : H l = none := (s1.trans (s2.trans s3)).free nl
    refine q l _ (Same.mut (s1.trans (s14.trans s5)) nl0) nl0 ?_
    rw [upd_same, maxL_is hm1 hle1, maxL_is hm2 hle2, hl]
    cases d with
    | false => rw [low_beside]; rfl
    | true => rw [low_below]; rfl
theorem ok_lleast (T : Txt K mg) : ∀ n : Nat, FnOk P w K mg base CX0 n T.lleast.f T.lleast.fd P_lleast (spLeastL n)
  | 0 => fn_none fun vs H Q E ⟨_, _, _, m, _, _, _, h, _⟩ => Nat.not_lt_zero m h
  | n + 1 => lleast_step T (ok_lleast T n)
end
end K20

set_option Elab.async false
set_option maxRecDepth 100000
set_option linter.all false
/-! point 41 as a plain function; its laws -/
namespace K20
def mx0 (x : Int) : Int := if x > 0 then x else 0
theorem mx0_nn (x : Int) : 0 ≤ mx0 x := by unfold mx0; split <;> omega
theorem mx0_le {x b : Int} (h : x ≤ b) (hb : 0 ≤ b) : mx0 x ≤ b := by unfold mx0; split <;> omega
def exRaw (ms ss : List Int) : List Int := List.zipWith (fun s m => mx0 (s - m)) ss ms
def exM (ms ss : List Int) : List Int := if (exRaw ms ss).sum = 0 then List.replicate ss.length 1 else exRaw ms ss
def spareM (total : Int) (ms : List Int) : Int := mx0 (total - ((ms.length : Int) - 1) - ms.sum)
def baseM (spare w : Int) (ms es : List Int) : List Int := List.zipWith (fun m e => m + spare * e / w) ms es
/-- what is left is given to the first parts whose extra is not 0 -/
def giveN (es : List Int) : Nat → List Int → Int → List Int × Int
  | 0, l, r => (l, r)
  | i + 1, l, r => if es.getD i 0 > 0 ∧ (giveN es i l r).2 > 0 then ((giveN es i l r).1.set i ((giveN es i l r).1.getD i 0 + 1), (giveN es i l r).2 - 1) else giveN es i l r
def shareB (total : Int) (ms ss : List Int) : List Int := baseM (spareM total ms) (exM ms ss).sum ms (exM ms ss)
def shareM (total : Int) (ms ss : List Int) : List Int := (giveN (exM ms ss) ss.length (shareB total ms ss) (spareM total ms - ((shareB total ms ss).sum - ms.sum))).1

theorem sum_nn : ∀ {l : List Int}, (∀ x ∈ l, 0 ≤ x) → 0 ≤ l.sum
  | [], _ => by simp
  | x :: r, h => by
    have h1 := h x List.mem_cons_self
    have h2 := sum_nn (l := r) fun y hy => h y (List.mem_cons_of_mem _ hy)
    rw [List.sum_cons]
    omega
theorem le_sum : ∀ {l : List Int} {y : Int}, (∀ x ∈ l, 0 ≤ x) → y ∈ l → y ≤ l.sum
  | [], _, _, h => by cases h
  | x :: r, y, h, hy => by
    have h1 := h x List.mem_cons_self
    have h2 := sum_nn (l := r) fun z hz => h z (List.mem_cons_of_mem _ hz)
    rw [List.sum_cons]
    rcases List.mem_cons.mp hy with rfl | hy
    · omega
    · have := le_sum (l := r) (fun z hz => h z (List.mem_cons_of_mem _ hz)) hy
      omega
theorem sum_le {B : Int} : ∀ {l : List Int}, (∀ x ∈ l, x ≤ B) → l.sum ≤ (l.length : Int) * B
  | [], _ => by simp
  | x :: r, h => by
    have h1 := h x List.mem_cons_self
    have h2 := sum_le (l := r) fun y hy => h y (List.mem_cons_of_mem _ hy)
    rw [List.sum_cons, List.length_cons]
    have e : (((r.length + 1 : Nat) : Int)) * B = (r.length : Int) * B + B := by
      rw [Int.natCast_add, Int.add_mul]
      simp
    omega
theorem exRaw_len {ms ss : List Int} (h : ms.length = ss.length) : (exRaw ms ss).length = ss.length := by
  unfold exRaw
  rw [List.length_zipWith, h, Nat.min_self]
theorem exRaw_nn {ms ss : List Int} : ∀ x ∈ exRaw ms ss, 0 ≤ x := fun x hx => by
  unfold exRaw at hx
  obtain ⟨i, hi, e⟩ := List.mem_iff_getElem.mp hx
  rw [← e, List.getElem_zipWith]
  exact mx0_nn _
theorem exM_len {ms ss : List Int} (h : ms.length = ss.length) : (exM ms ss).length = ss.length := by
  unfold exM
  split
  · exact List.length_replicate
  · exact exRaw_len h
theorem sum_rep (n : Nat) : (List.replicate n (1 : Int)).sum = n := by
  induction n with
  | zero => rfl
  | succ n ih =>
    rw [List.replicate_succ, List.sum_cons, ih]
    omega
theorem exM_nn {ms ss : List Int} : ∀ x ∈ exM ms ss, 0 ≤ x := fun x hx => by
  unfold exM at hx
  split at hx
  · rw [List.eq_of_mem_replicate hx]; omega
  · exact exRaw_nn x hx
theorem exM_pos {ms ss : List Int} (h : 0 < ss.length) : 0 < (exM ms ss).sum := by
  unfold exM
  split
  · rw [sum_rep]; omega
  · rename_i hne
    have := sum_nn (exRaw_nn (ms := ms) (ss := ss))
    omega
/-- how many of the first k are above 0 -/
def cnt (es : List Int) : Nat → Int
  | 0 => 0
  | i + 1 => cnt es i + if es.getD i 0 > 0 then 1 else 0
theorem cnt_cons (e : Int) (es : List Int) : ∀ k, cnt (e :: es) (k + 1) = (if e > 0 then 1 else 0) + cnt es k
  | 0 => by simp [cnt]
  | k + 1 => by
    have ih := cnt_cons e es k
    show cnt (e :: es) (k + 1) + (if (e :: es).getD (k + 1) 0 > 0 then 1 else 0) = _ + (cnt es k + if es.getD k 0 > 0 then 1 else 0)
    rw [ih, List.getD_cons_succ]
    omega
theorem give_len (es : List Int) (l : List Int) (r : Int) : ∀ k, (giveN es k l r).1.length = l.length
  | 0 => rfl
  | k + 1 => by
    have ih := give_len es l r k
    unfold giveN
    split
    · rw [List.length_set, ih]
    · exact ih
theorem give_rest (es : List Int) (l : List Int) (r : Int) (hr : 0 ≤ r) : ∀ k, 0 ≤ cnt es k ∧ 0 ≤ (giveN es k l r).2 ∧ (r ≤ cnt es k → (giveN es k l r).2 = 0) ∧ (cnt es k ≤ r → (giveN es k l r).2 = r - cnt es k)
  | 0 => ⟨Int.le_refl _, hr, fun h => by
      have h' : r ≤ 0 := h
      show r = 0
      omega, fun _ => by show r = r - 0; omega⟩
  | k + 1 => by
    obtain ⟨h0, h1, h2, h3⟩ := give_rest es l r hr k
    have e : cnt es (k + 1) = cnt es k + if es.getD k 0 > 0 then 1 else 0 := rfl
    rw [e]
    unfold giveN
    by_cases he : es.getD k 0 > 0
    · rw [if_pos he]
      by_cases hg : (giveN es k l r).2 > 0
      · rw [if_pos ⟨he, hg⟩]
        have : cnt es k < r := by
          by_cases z : r ≤ cnt es k
          · have := h2 z; omega
          · omega
        have h3' := h3 (by omega)
        show 0 ≤ cnt es k + 1 ∧ 0 ≤ (giveN es k l r).2 - 1 ∧ _
        refine ⟨by omega, by omega, fun z => ?_, fun z => ?_⟩
        · show (giveN es k l r).2 - 1 = 0
          omega
        · show (giveN es k l r).2 - 1 = _
          omega
      · rw [if_neg (fun z => hg z.2)]
        have hz : (giveN es k l r).2 = 0 := by omega
        refine ⟨by omega, h1, fun _ => hz, fun z => ?_⟩
        have := h3 (by omega)
        omega
    · rw [if_neg he, if_neg (fun z => he z.1)]
      refine ⟨by omega, h1, fun z => h2 (by omega), fun z => ?_⟩
      rw [h3 (by omega)]
      omega
theorem sum_setD : ∀ {l : List Int} {i : Nat} {y : Int}, i < l.length → (l.set i y).sum = l.sum - l.getD i 0 + y
  | [], i, y, h => by simp at h
  | a :: r, 0, y, _ => by
    rw [List.set_cons_zero, List.sum_cons, List.sum_cons, List.getD_cons_zero]
    omega
  | a :: r, i + 1, y, h => by
    have ih := sum_setD (l := r) (i := i) (y := y) (by simpa using h)
    rw [List.set_cons_succ, List.sum_cons, List.sum_cons, List.getD_cons_succ, ih]
    omega
theorem give_sum (es : List Int) (l : List Int) (r : Int) : ∀ k, k ≤ l.length → (giveN es k l r).1.sum + (giveN es k l r).2 = l.sum + r
  | 0, _ => rfl
  | k + 1, h => by
    have ih := give_sum es l r k (by omega)
    unfold giveN
    split
    · show ((giveN es k l r).1.set k _).sum + ((giveN es k l r).2 - 1) = _
      rw [sum_setD (by rw [give_len]; omega)]
      omega
    · exact ih
theorem getD_set (l : List Int) (i j : Nat) (y : Int) (h : i < l.length) : (l.set i y).getD j 0 = if j = i then y else l.getD j 0 := by
  simp only [List.getD_eq_getElem?_getD, List.getElem?_set]
  by_cases e : i = j
  · subst e
    simp [h]
  · rw [if_neg e, if_neg (Ne.symm e)]
theorem give_ge (es : List Int) (l : List Int) (r : Int) : ∀ k, k ≤ l.length → ∀ j, l.getD j 0 ≤ (giveN es k l r).1.getD j 0
  | 0, _, j => Int.le_refl _
  | k + 1, h, j => by
    have ih := give_ge es l r k (by omega) j
    unfold giveN
    split
    · show _ ≤ ((giveN es k l r).1.set k _).getD j 0
      rw [getD_set _ _ _ _ (by rw [give_len]; omega)]
      split
      · rename_i e
        subst e
        omega
      · exact ih
    · exact ih
/-- what the floors leave -/
theorem floors {sp w : Int} (hs : 0 ≤ sp) (hw : 0 < w) : ∀ {es : List Int}, (∀ x ∈ es, 0 ≤ x) →
    0 ≤ sp * es.sum - w * (es.map fun e => sp * e / w).sum ∧ sp * es.sum - w * (es.map fun e => sp * e / w).sum ≤ w * cnt es es.length
  | [], _ => by simp [cnt]
  | e :: es, h => by
    have he := h e List.mem_cons_self
    obtain ⟨i1, i2⟩ := floors hs hw (es := es) fun y hy => h y (List.mem_cons_of_mem _ hy)
    have d1 := Int.emod_nonneg (sp * e) (show w ≠ 0 by omega)
    have d2 := Int.emod_lt_of_pos (sp * e) hw
    have d3 := Int.mul_ediv_add_emod (sp * e) w
    rw [List.sum_cons, List.map_cons, List.sum_cons, List.length_cons, cnt_cons, Int.mul_add, Int.mul_add, Int.mul_add]
    by_cases z : e > 0
    · rw [if_pos z, Int.mul_one]
      omega
    · have z' : e = 0 := by omega
      subst z'
      rw [if_neg (by omega)]
      simp only [Int.mul_zero, Int.zero_ediv]
      omega
theorem base_sum {sp w : Int} : ∀ {ms es : List Int}, ms.length = es.length → (baseM sp w ms es).sum = ms.sum + (es.map fun e => sp * e / w).sum
  | [], [], _ => by simp [baseM]
  | m :: ms, e :: es, h => by
    have ih := base_sum (sp := sp) (w := w) (ms := ms) (es := es) (by simpa using h)
    unfold baseM at ih ⊢
    rw [List.zipWith_cons_cons, List.sum_cons, List.sum_cons, List.map_cons, List.sum_cons, ih]
    omega
  | [], _ :: _, h => by simp at h
  | _ :: _, [], h => by simp at h
theorem base_len {sp w : Int} {ms es : List Int} (h : ms.length = es.length) : (baseM sp w ms es).length = ms.length := by
  unfold baseM
  rw [List.length_zipWith, h, Nat.min_self]
section
variable {total : Int} {ms ss : List Int}
theorem shareB_len (h : ms.length = ss.length) : (shareB total ms ss).length = ss.length := by
  unfold shareB
  rw [base_len (by rw [exM_len h, h]), h]
theorem shareM_len (h : ms.length = ss.length) : (shareM total ms ss).length = ss.length := by
  unfold shareM
  rw [give_len, shareB_len h]
/-- what is left lies between nothing and the number of parts with an extra -/
theorem rest_bounds (h : ms.length = ss.length) (h0 : 0 < ss.length) : 0 ≤ spareM total ms - ((shareB total ms ss).sum - ms.sum) ∧ spareM total ms - ((shareB total ms ss).sum - ms.sum) ≤ cnt (exM ms ss) ss.length := by
  have hw := exM_pos (ms := ms) h0
  have hs := mx0_nn (total - ((ms.length : Int) - 1) - ms.sum)
  obtain ⟨f1, f2⟩ := floors (sp := spareM total ms) (w := (exM ms ss).sum) hs hw (es := exM ms ss) exM_nn
  unfold shareB
  rw [base_sum (by rw [exM_len h, h])]
  rw [exM_len h] at f2
  generalize ((exM ms ss).map fun e => spareM total ms * e / (exM ms ss).sum).sum = F at *
  generalize cnt (exM ms ss) ss.length = c at *
  generalize (exM ms ss).sum = W at *
  generalize spareM total ms = S at *
  have e1 : S * W - W * F = W * (S - F) := by rw [Int.mul_sub, Int.mul_comm S W]
  rw [e1] at f1 f2
  have g1 : 0 ≤ S - F := by
    by_cases z : 0 ≤ S - F
    · exact z
    · have := Int.mul_neg_of_pos_of_neg hw (show S - F < 0 by omega)
      omega
  have g2 : S - F ≤ c := Int.le_of_mul_le_mul_left f2 hw
  omega
theorem share_sum (h : ms.length = ss.length) (h0 : 0 < ss.length) : (shareM total ms ss).sum = spareM total ms + ms.sum := by
  obtain ⟨r1, r2⟩ := rest_bounds (total := total) h h0
  have g := give_sum (exM ms ss) (shareB total ms ss) (spareM total ms - ((shareB total ms ss).sum - ms.sum)) ss.length (by rw [shareB_len h]; exact Nat.le_refl _)
  have z := (give_rest (exM ms ss) (shareB total ms ss) _ r1 ss.length).2.2.1 r2
  unfold shareM
  omega
theorem share_ge (h : ms.length = ss.length) (h0 : 0 < ss.length) (j : Nat) (hj : j < ss.length) : ms.getD j 0 ≤ (shareM total ms ss).getD j 0 := by
  have g := give_ge (exM ms ss) (shareB total ms ss) (spareM total ms - ((shareB total ms ss).sum - ms.sum)) ss.length (by rw [shareB_len h]; exact Nat.le_refl _) j
  refine Int.le_trans ?_ g
  have hw := exM_pos (ms := ms) h0
  have hs := mx0_nn (total - ((ms.length : Int) - 1) - ms.sum)
  have hjm : j < ms.length := by omega
  have hje : j < (exM ms ss).length := by rw [exM_len h]; exact hj
  unfold shareB baseM
  rw [List.getD_eq_getElem?_getD, List.getD_eq_getElem?_getD, List.getElem?_eq_getElem hjm, List.getElem?_zipWith, List.getElem?_eq_getElem hjm, List.getElem?_eq_getElem hje]
  show ms[j] ≤ ms[j] + spareM total ms * (exM ms ss)[j] / (exM ms ss).sum
  have e0 := exM_nn (ms := ms) (ss := ss) _ (List.getElem_mem hje)
  have := Int.ediv_nonneg (Int.mul_nonneg (show 0 ≤ spareM total ms from hs) e0) (Int.le_of_lt hw)
  omega
/-- each is its least size or more, and none passes the whole -/
theorem share_bounds (h : ms.length = ss.length) (h0 : 0 < ss.length) (hm : ∀ x ∈ ms, 0 ≤ x) : ∀ x ∈ shareM total ms ss, 0 ≤ x ∧ x ≤ spareM total ms + ms.sum := by
  have nn : ∀ x ∈ shareM total ms ss, 0 ≤ x := fun x hx => by
    obtain ⟨j, hj, e⟩ := List.mem_iff_getElem.mp hx
    have hj' : j < ss.length := by rw [shareM_len h] at hj; exact hj
    have g := share_ge (total := total) h h0 j hj'
    have hjm : j < ms.length := by omega
    have e1 : (shareM total ms ss).getD j 0 = x := by rw [List.getD_eq_getElem?_getD, List.getElem?_eq_getElem hj, e]; rfl
    have e2 : ms.getD j 0 = ms[j] := by rw [List.getD_eq_getElem?_getD, List.getElem?_eq_getElem hjm]; rfl
    have := hm _ (List.getElem_mem hjm)
    omega
  intro x hx
  refine ⟨nn x hx, ?_⟩
  rw [← share_sum h h0]
  exact le_sum nn hx
end
end K20

set_option Elab.async false
set_option maxRecDepth 100000
set_option maxHeartbeats 4000000
set_option linter.all false
/-! the law's own share -/
namespace K20
open PySem PySem.Spec PyProof.Rows L2
def spShare (K : PySem.W.Frag) : Sp := fun vs H Q _ => ∃ (a b : Addr) (total : Int) (ms ss : List Int), vs = [.int total, .ref a, .ref b] ∧ SqL K H a (ms.map V.int) ∧ SqL K H b (ss.map V.int) ∧ ms.length = ss.length ∧ 0 < ss.length ∧ ss.length ≤ 100 ∧
  (∀ x ∈ ms, 0 ≤ x) ∧ (∀ x ∈ ss, x ≤ 100000) ∧ total ≤ 100000 ∧
  ∀ (r : Addr) (H' : Hp), Same H H' → H r = none → H' r = some (.lst ((shareM total ms ss).map V.int)) → Q (.ref r) H'
theorem spare_eq (total n s : Int) (ms : List Int) (hn : n = (ms.length : Int)) (hs : s = ms.sum) : (if total - n + 1 - s > 0 then total - n + 1 - s else 0) = spareM total ms := by
  subst hn hs
  unfold spareM mx0
  rw [show total - (ms.length : Int) + 1 - ms.sum = total - ((ms.length : Int) - 1) - ms.sum by omega]
theorem spare_le {total : Int} {ms : List Int} (ht : total ≤ 100000) (hl : 0 < ms.length) (hm : ∀ x ∈ ms, 0 ≤ x) : 0 ≤ spareM total ms ∧ spareM total ms ≤ 100000 :=
  ⟨mx0_nn _, mx0_le (by have := sum_nn hm; omega) (by omega)⟩
theorem exRaw_at {ms ss : List Int} {i : Nat} {s m : Int} (hs : ss[i]? = some s) (hm : ms[i]? = some m) : (exRaw ms ss)[i]? = some (mx0 (s - m)) := by
  unfold exRaw
  rw [List.getElem?_zipWith, hs, hm]
theorem base_at {sp w : Int} {ms es : List Int} {i : Nat} {m e : Int} (hm : ms[i]? = some m) (he : es[i]? = some e) : (baseM sp w ms es)[i]? = some (m + sp * e / w) := by
  unfold baseM
  rw [List.getElem?_zipWith, hm, he]
theorem exM_le {ms ss : List Int} (h : ms.length = ss.length) (hm : ∀ x ∈ ms, 0 ≤ x) (hs : ∀ x ∈ ss, x ≤ 100000) (hl : ss.length ≤ 100) : ∀ x ∈ exM ms ss, x ≤ 100000 := fun x hx => by
  unfold exM at hx
  split at hx
  · rw [List.eq_of_mem_replicate hx]; omega
  · obtain ⟨i, hi, e⟩ := List.mem_iff_getElem.mp hx
    rw [exRaw_len h] at hi
    have e1 := exRaw_at (ms := ms) (List.getElem?_eq_getElem hi) (List.getElem?_eq_getElem (show i < ms.length by omega))
    rw [List.getElem?_eq_getElem (by rw [exRaw_len h]; exact hi)] at e1
    have e2 := Option.some.inj e1
    rw [← e, e2]
    have := hs _ (List.getElem_mem hi)
    have := hm _ (List.getElem_mem (show i < ms.length by omega))
    exact mx0_le (by omega) (by omega)
theorem exM_sum_le {ms ss : List Int} (h : ms.length = ss.length) (hm : ∀ x ∈ ms, 0 ≤ x) (hs : ∀ x ∈ ss, x ≤ 100000) (hl : ss.length ≤ 100) : (exM ms ss).sum < 1073741824 := by
  have h1 := sum_le (exM_le h hm hs hl)
  rw [exM_len h] at h1
  omega
theorem ints_at {ns : List Int} {i : Nat} {n : Int} (h : ns[i]? = some n) : (ns.map V.int)[i]? = some (.int n) := by
  rw [List.getElem?_map, h]
  rfl
theorem getD_of {ns : List Int} {i : Nat} {n : Int} (h : ns[i]? = some n) : ns.getD i 0 = n := by
  rw [List.getD_eq_getElem?_getD, h]
  rfl
theorem max_zero {es : List Int} {m : Int} (hn : ∀ x ∈ es, 0 ≤ x) (hm : m ∈ es) (hle : ∀ y, y ∈ es → y ≤ m) : m = 0 ↔ es.sum = 0 := by
  have h1 := le_sum hn hm
  have h2 := hn m hm
  constructor
  · intro e
    have h3 := sum_le (B := 0) (l := es) fun x hx => by have := hle x hx; omega
    have h4 := sum_nn hn
    omega
  · intro e
    omega
/-- one turn of giving -/
theorem give_yes {es l : List Int} {r e x : Int} {i : Nat} (he : es[i]? = some e) (h1 : e > 0) (h2 : (giveN es i l r).2 > 0) (hx : (giveN es i l r).1[i]? = some x) : giveN es (i + 1) l r = ((giveN es i l r).1.set i (x + 1), (giveN es i l r).2 - 1) := by
  rw [giveN, if_pos ⟨by rw [getD_of he]; exact h1, h2⟩, getD_of hx]
theorem give_no {es l : List Int} {r e : Int} {i : Nat} (he : es[i]? = some e) (h : ¬ (e > 0 ∧ (giveN es i l r).2 > 0)) : giveN es (i + 1) l r = giveN es i l r := by
  rw [giveN, if_neg (fun z => h ⟨by have := z.1; rw [getD_of he] at this; exact this, z.2⟩)]
section
variable {P : Program} {w : World} {K : PySem.W.Frag} {mg : Str → Option Value} {base : Heap}
theorem ok_lshare (T : Txt K mg) : FnOk P w K mg base CX0 1 T.lshare.f T.lshare.fd P_lshare (spShare K) := by
  refine T.lshare.F.ok sc_lshare (fun vs H Q E h => ?_) (fun cdv A outer s H vs Q E hr h => ?_)
  · obtain ⟨a, b, total, ms, ss, rfl, _⟩ := h
    rfl
  obtain ⟨a, b, total, ms, ss, rfl, hA, hB, hlen, hl0, hl1, hms, hss, htot, q⟩ := h
  refine ⟨_, (pss_cons (ps_set (i := 3) sc_lshare.nd rfl (Or.inr rfl) (pe_callB (call_max2 rfl) rfl T.b.max (by decide +kernel) (pa_cons pe_int (pa_cons (pe_op op_sub (pe_op op_add (pe_op op_sub (pv 0) (pe_callB (lenS (K := K) rfl) rfl T.b.len (by decide +kernel) (pa_cons (pv 2) pa_nil))) pe_int) (pe_callB (sumS (K := K) rfl rfl) rfl T.b.sum (by decide +kernel) (pa_cons (pv 1) pa_nil))) pa_nil))))
    (pss_cons (ps_set (i := 4) sc_lshare.nd rfl (Or.inr rfl) (pe_lc (own := [("_law_k", 5)]) rfl sc_lshare.nd (pi_range1 rfl T.b.range (pa_cons (pe_callB (lenS (K := K) rfl) rfl T.b.len (by decide +kernel) (pa_cons (pv 2) pa_nil)) pa_nil)) (blkOk_by (own := [("_law_k", 5)]) (N := N_lshare) (sc := defScope s_lshare) (by decide +kernel)) (fun _ _ _ _ _ => pg_name (i := 5) sc_lshare.nd rfl (Or.inl rfl)) (fun _ _ _ _ _ => pts_nil) (fun _ _ _ _ _ => (pe_callB (call_max2 rfl) rfl T.b.max (by decide +kernel) (pa_cons pe_int (pa_cons (pe_op op_sub (pe_ix (ixL (K := K) rfl) (pv 2) (pv 5) (fun _ _ => rfl)) (pe_ix (ixL (K := K) rfl) (pv 1) (pv 5) (fun _ _ => rfl))) pa_nil))))))
    (Evl.pss_cut (ps_if (pt_cmpR op_eq (pe_callB (maxS (K := K) rfl rfl) rfl T.b.max (by decide +kernel) (pa_cons (pv 4) pa_nil)) pe_int (nomark _))
      (pss_one (ps_set (i := 4) sc_lshare.nd rfl (Or.inr rfl) (pe_lc (own := [("_law_k", 5)]) rfl sc_lshare.nd (pi_list (pv 4)) (blkOk_by (own := [("_law_k", 5)]) (N := N_lshare) (sc := defScope s_lshare) (by decide +kernel)) (fun _ _ _ _ _ => pg_name (i := 5) sc_lshare.nd rfl (Or.inl rfl)) (fun _ _ _ _ _ => pts_nil) (fun _ _ _ _ _ => pe_int))))
      pss_nil)
    (pss_cons (ps_setLc (i := 6) (own := [("_law_k", 5)]) rfl sc_lshare.nd rfl rfl (sw_true rfl rfl rfl (by decide +kernel)) (pi_range1 rfl T.b.range (pa_cons (pe_callB (lenS (K := K) rfl) rfl T.b.len (by decide +kernel) (pa_cons (pv 2) pa_nil)) pa_nil)) (blkOk_by (own := [("_law_k", 5)]) (N := N_lshare) (sc := defScope s_lshare) (by decide +kernel)) (fun _ _ _ _ _ => pg_name (i := 5) sc_lshare.nd rfl (Or.inl rfl)) (fun _ _ _ _ _ => pts_nil) (fun _ _ _ _ _ => (pe_op op_add (pe_ix (ixL (K := K) rfl) (pv 1) (pv 5) (fun _ _ => rfl)) (pe_op op_fdiv (pe_op op_mul (pv 3) (pe_ix (ixL (K := K) rfl) (pv 4) (pv 5) (fun _ _ => rfl))) (pe_callB (sumS (K := K) rfl rfl) rfl T.b.sum (by decide +kernel) (pa_cons (pv 4) pa_nil))))))
    (pss_cons (ps_set (i := 7) sc_lshare.nd rfl (Or.inl rfl) (pe_op op_sub (pe_op op_add (pv 3) (pe_callB (sumS (K := K) rfl rfl) rfl T.b.sum (by decide +kernel) (pa_cons (pv 1) pa_nil))) (pe_callB (sumS (K := K) rfl rfl) rfl T.b.sum (by decide +kernel) (pa_cons (pv 6) pa_nil))))
    (pss_cons (ps_for PassesOwn.never rfl (pi_range1 rfl T.b.range (pa_cons (pe_callB (lenS (K := K) rfl) rfl T.b.len (by decide +kernel) (pa_cons (pv 2) pa_nil)) pa_nil)) (pg_name (i := 5) sc_lshare.nd rfl (Or.inl rfl))
      (pss_one (ps_if (PW.pt (pw_and (pt_cmpR op_gt (pe_ix (ixL (K := K) rfl) (pv 4) (pv 5) (fun _ _ => rfl)) pe_int (nomark _)) (pw_and1 (pt_cmpR op_gt (pv 7) pe_int (nomark _)))))
        (pss_cons (ps_asg (pe_op op_add (pe_ix (ixL (K := K) rfl) (pv 6) (pv 5) (fun _ _ => rfl)) pe_int) (pg_sub (pv 6) (pv 5) set_list))
        (pss_one (ps_set (i := 7) sc_lshare.nd rfl (Or.inl rfl) (pe_op op_sub (pv 7) pe_int))))
        pss_nil)))
    (pss_one (ps_ret (pv 6))))))))), ?_⟩
  have ln : (ss.map V.int).length = ss.length := List.length_map _
  obtain ⟨sp0, sp1⟩ := spare_le htot (by omega) hms
  -- spare
  refine ⟨_, rfl, _, rfl, b, _, rfl, .inl hB, _, _, rfl, rfl, _, _, rfl, rfl, _, rfl, a, ms, rfl, hA, _, _, rfl, rfl, _, _, rfl, ?_⟩
  rw [spare_eq total _ _ ms (by rw [ln, hlen]) rfl]
  -- extras
  refine ⟨_, rfl, b, _, rfl, .inl hB, _, rfl, by omega, by omega, lcMapR ((exRaw ms ss).map V.int) (by rw [List.length_map, exRaw_len hlen, ln]; rfl) (by rw [ln]; omega) (fun _ => rfl) ?_ ?_⟩
  · intro i y H1 R sm hi hy k
    rw [ln] at hi
    have hi' : i < ss.length := hi
    have e1 := List.getElem?_eq_getElem hi'
    have e2 := List.getElem?_eq_getElem (show i < ms.length by omega)
    rw [ints_at (exRaw_at e1 e2)] at hy
    cases hy
    exact ⟨_, rfl, _, rfl, b, _, _, _, rfl, rfl, sm.seq hB, at_of (by omega) (ints_at e1), _, rfl, _, rfl, a, _, _, _, rfl, rfl, sm.seq hA, at_of (by omega) (ints_at e2), _, _, rfl, rfl, _, _, rfl, k H1 (Same.refl _)⟩
  intro D1 H1 s1 nD1 eD1
  -- if max(extras) == 0
  refine ⟨fun σ' H' => ∃ E, σ' = [some (.int total), some (.ref a), some (.ref b), some (.int (spareM total ms)), some (.ref E), none, none, none] ∧ Same H H' ∧ H' E = some (.lst ((exM ms ss).map V.int)), ?_, ?_⟩
  · refine ⟨_, rfl, D1, _, rfl, SqL.of eD1, (by rw [exRaw_len hlen]; exact hl0), fun mx hmx hle => ⟨rfl, _, rfl, ite2 (fun e => ?_) (fun e => ?_)⟩⟩
    · have e0 : mx = 0 := V.int.inj (of_decide_eq_true e)
      have es : (exRaw ms ss).sum = 0 := (max_zero exRaw_nn hmx hle).mp e0
      refine ⟨_, rfl, D1, rfl, ⟨_, SqL.of eD1⟩, lcMapL ((List.replicate ss.length 1).map V.int) (by rw [List.length_map, List.length_map, List.length_replicate, exRaw_len hlen]) (SqL.of eD1) (by rw [List.length_map, exRaw_len hlen]; omega) (fun _ => rfl) ?_ ?_⟩
      · intro i x y H2 R sm hx hy k
        obtain ⟨z, hz, rfl⟩ := map_at hy
        rw [List.eq_of_mem_replicate (mem_at hz)] at k
        exact k H2 (Same.refl _)
      intro D2 H2 s2 nD2 eD2
      refine ⟨D2, rfl, s1.trans s2, ?_⟩
      rw [eD2]
      unfold exM
      rw [if_pos es]
    · have e0 : ¬ mx = 0 := fun z => e (decide_eq_true (by rw [z]))
      refine ⟨D1, rfl, s1, ?_⟩
      rw [eD1]
      unfold exM
      rw [if_neg (fun z => e0 ((max_zero exRaw_nn hmx hle).mpr z))]
  rintro _ H2 ⟨E, rfl, s2, eE⟩
  have wpos := exM_pos (ms := ms) hl0
  have wlt := exM_sum_le hlen hms hss hl1
  -- news
  refine ⟨_, rfl, b, _, rfl, .inl (s2.seq hB), _, rfl, by omega, by omega, lcMapR ((shareB total ms ss).map V.int) (by rw [List.length_map, shareB_len hlen, ln]; rfl) (by rw [ln]; omega) (fun _ => rfl) ?_ ?_⟩
  · intro i y H3 R sm hi hy k
    rw [ln] at hi
    have hi' : i < ss.length := hi
    have e2 := List.getElem?_eq_getElem (show i < ms.length by omega)
    have e3 := List.getElem?_eq_getElem (show i < (exM ms ss).length by rw [exM_len hlen]; exact hi')
    rw [shareB, ints_at (base_at e2 e3)] at hy
    cases hy
    exact ⟨_, rfl, _, rfl, a, _, _, _, rfl, rfl, (s2.trans sm).seq hA, at_of (by omega) (ints_at e2), _, rfl, _, rfl, _, rfl, E, _, _, _, rfl, rfl, SqL.of (sm _ _ eE), at_of (by omega) (ints_at e3), _, _, rfl, rfl, .inl ⟨by omega, by omega⟩,
      _, rfl, E, _, rfl, SqL.of (sm _ _ eE), _, _, rfl, rfl, ⟨wpos, wlt⟩, _, _, rfl, rfl, k H3 (Same.refl _)⟩
  intro N H3 s3 nN eN
  have nN0 : H N = none := s2.free nN
  have nNE : E ≠ N := ne_of_none eE nN
  -- left
  refine ⟨_, rfl, _, rfl, a, ms, rfl, (s2.trans s3).seq hA, _, _, rfl, rfl, _, rfl, N, _, rfl, SqL.of eN, _, _, rfl, rfl, ?_⟩
  have eleft : spareM total ms + ms.sum - (shareB total ms ss).sum = spareM total ms - ((shareB total ms ss).sum - ms.sum) := by omega
  dsimp only
  rw [eleft]
  generalize hr0 : spareM total ms - ((shareB total ms ss).sum - ms.sum) = r0
  -- the loop
  refine ⟨_, rfl, b, _, rfl, .inl ((s2.trans s3).seq hB), _, rfl, by omega, by omega, for_range (lo := 0)
    (fun i σ' H' => i ≤ ss.length ∧ ∃ y5, σ' = [some (.int total), some (.ref a), some (.ref b), some (.int (spareM total ms)), some (.ref E), y5, some (.ref N), some (.int (giveN (exM ms ss) i (shareB total ms ss) r0).2)] ∧ Same H H' ∧
      H' E = some (.lst ((exM ms ss).map V.int)) ∧ H' N = some (.lst ((giveN (exM ms ss) i (shareB total ms ss) r0).1.map V.int)))
    ⟨Nat.zero_le _, none, rfl, s2.trans s3, s3 _ _ eE, eN⟩ ?_ ?_⟩
  · rintro i σ' H' hi ⟨_, y5, rfl, sm, eE', eN'⟩
    rw [ln] at hi
    have hi' : i < ss.length := hi
    have e3 := List.getElem?_eq_getElem (show i < (exM ms ss).length by rw [exM_len hlen]; exact hi')
    have hgl : (giveN (exM ms ss) i (shareB total ms ss) r0).1.length = ss.length := by rw [give_len, shareB_len hlen]
    have e4 := List.getElem?_eq_getElem (show i < (giveN (exM ms ss) i (shareB total ms ss) r0).1.length by omega)
    refine ⟨_, rfl, _, rfl, E, _, _, _, rfl, rfl, SqL.of eE', at_of (by omega) (ints_at e3), _, _, rfl, rfl, _, rfl, ite2 (fun c1 => ?_) (fun c1 => ?_)⟩
    · refine ⟨_, rfl, _, _, rfl, rfl, _, rfl, ite2 (fun c2 => ?_) (fun c2 => ?_)⟩
      · have g := give_yes e3 (of_decide_eq_true c1) (of_decide_eq_true c2) e4
        refine ⟨_, rfl, _, rfl, N, _, _, _, rfl, rfl, SqL.of eN', at_of (by omega) (ints_at e4), _, _, rfl, rfl, _, rfl, _, rfl, N, _, _, i, rfl, rfl, eN', ?_, ?_⟩
        · rw [List.length_map, hgl, Int.zero_add]
          exact Evl.ixN_nat hi'
        refine ⟨_, rfl, _, _, rfl, rfl, ?_⟩
        refine ⟨hi', some (.int (0 + (i : Int))), ?_, Same.mut sm nN0, by rw [upd_ne nNE]; exact eE', ?_⟩
        · rw [g]; rfl
        · rw [upd_same, g, List.map_set]
      · have g := give_no (l := shareB total ms ss) (r := r0) e3 (fun z => c2 (decide_eq_true z.2))
        refine ⟨hi', some (.int (0 + (i : Int))), ?_, sm, eE', ?_⟩
        · rw [g]; rfl
        · rw [g]; exact eN'
    · have g := give_no (l := shareB total ms ss) (r := r0) e3 (fun z => c1 (decide_eq_true z.1))
      refine ⟨hi', some (.int (0 + (i : Int))), ?_, sm, eE', ?_⟩
      · rw [g]; rfl
      · rw [g]; exact eN'
  · rintro σ' H' ⟨_, y5, rfl, sm, eE', eN'⟩
    refine ⟨_, rfl, q N H' sm nN0 ?_⟩
    rw [eN']
    unfold shareM
    rw [hr0, ln]
    rfl
end
end K20

set_option Elab.async false
set_option maxRecDepth 100000
set_option maxHeartbeats 4000000
set_option linter.all false
/-! zip in comprehensions, enumerate; share -/
namespace K20
open PySem PySem.Spec PyProof.Rows L2
section
variable {K : PySem.W.Frag} {σ : L2.St} {H : Hp} {te : TE} {vs : List Nat}
/-- [e for x, y in zip(xs, ys)], lists of one length; what comes is zs -/
theorem lcZip {a b : Addr} {xs ys : List V} {j1 j2 n : Nat} (zs : List V) (hn : n = 2) (hA : SqL K H a xs) (hB : SqL K H b ys) (hl : xs.length = zs.length) (hl2 : ys.length = zs.length) (hz : zs.length ≤ 1000)
    (hw : ∀ x y, wipe (((wipe σ vs).set j1 (some x)).set j2 (some y)) vs = wipe σ vs)
    (he : ∀ (i : Nat) (x y z : V) (H1 : Hp) (R : V → Hp → Prop), Same H H1 → xs[i]? = some x → ys[i]? = some y → zs[i]? = some z → (∀ H2, Same H1 H2 → R z H2) → te (((wipe σ vs).set j1 (some x)).set j2 (some y)) H1 R) {Qd : Addr → Hp → Prop}
    (k : ∀ D H', Same H H' → H D = none → H' D = some (.lst zs) → Qd D H') : ∀ D, H D = none → ∃ W : Nat → Nat → Hp → Prop, (∃ m, W 0 m (upd H D (.lst []))) ∧ ∀ i m H, W i m H →
      ((Itz K a b).stop i H ∧ Qd D H) ∨ ((Itz K a b).go i H ∧ ∃ Nx : Hp → Prop, (∀ H', Nx H' → ∃ m', m' < m ∧ W (i + 1) m' H') ∧ ∀ x H', (Itz K a b).yld i H x H' → gTup K n (gCons (gName j1) (gCons (gName j2) gNil)) x (wipe σ vs) H' fun σ2 H2 => wipe σ2 vs = wipe σ vs ∧ tYes σ2 H2 fun b H3 =>
        if b = true then te σ2 H3 fun y H4 => ∃ acc, H4 D = some (.lst acc) ∧ acc.length < sizeLine ∧ Nx (upd H4 D (.lst (acc ++ [y]))) else Nx H3) := fun D nD => by
  subst hn
  refine ⟨fun i m H' => m = zs.length - i ∧ i ≤ zs.length ∧ Same H H' ∧ H' D = some (.lst (zs.take i)), ⟨zs.length, rfl, Nat.zero_le _, same_upd nD, upd_same⟩, ?_⟩
  rintro i m H' ⟨rfl, hi, sm, eD⟩
  have hA' : SqL K H' a xs := sm.seq hA
  have hB' : SqL K H' b ys := sm.seq hB
  by_cases hlt : i < zs.length
  · have ex := List.getElem?_eq_getElem (show i < xs.length by omega)
    have ey := List.getElem?_eq_getElem (show i < ys.length by omega)
    have ez := List.getElem?_eq_getElem hlt
    refine .inr ⟨⟨xs, ys, _, _, hA', hB', ex, ey⟩, fun H' => i + 1 ≤ zs.length ∧ Same H H' ∧ H' D = some (.lst (zs.take (i + 1))), fun H2 ⟨p1, p2, p3⟩ => ⟨zs.length - (i + 1), by omega, rfl, p1, p2, p3⟩, ?_⟩
    rintro x H2 ⟨T, x1, y1, rfl, nT, rfl, f1, f2⟩
    have e1 := Option.some.inj ((f1 _ hA').symm.trans ex)
    have e2 := Option.some.inj ((f2 _ hB').symm.trans ey)
    subst e1 e2
    have sT : Same H' (upd H' T (.tup [xs[i], ys[i]])) := same_upd nT
    refine ⟨T, [_, _], rfl, SqT.tx upd_same, rfl, _, [_], rfl, _, [], rfl, rfl, hw _ _, ?_⟩
    show te _ _ _
    refine he i _ _ _ _ _ (sm.trans sT) ex ey ez fun H3 g3 => ⟨_, g3 _ _ (sT _ _ eD), ?_, hlt, Same.mut (sm.trans (sT.trans g3)) nD, ?_⟩
    · rw [List.length_take]
      exact Nat.lt_of_le_of_lt (Nat.min_le_right _ _) (small1000 hz)
    · rw [upd_same, List.take_add_one, ez]
      rfl
  · have e : i = zs.length := by omega
    subst e
    exact .inl ⟨⟨xs, ys, hA', hB', .inl (by omega)⟩, k D H' sm nD (by rw [eD, List.take_length])⟩
/-- for i, x in enumerate(xs), the list stands -/
theorem forEnum {a : Addr} {xs : List V} {g : TG} {tb : TS} {D : Ends} {H : Hp} (Pv : Nat → L2.St → Hp → Prop) (h0 : Pv 0 σ H) (hl : ∀ i σ H, i ≤ xs.length → Pv i σ H → SqL K H a xs)
    (hs : ∀ (i : Nat) (x : V) σ H T, xs[i]? = some x → Pv i σ H → H T = none → g (.ref T) σ (upd H T (.tup [.int (i : Nat), x])) fun σ2 H2 => tb { D with nx := Pv (i + 1), ct := Pv (i + 1), bk := D.nx } σ2 H2) (hd : ∀ σ H, Pv xs.length σ H → D.nx σ H) :
    ∃ W : Nat → Nat → L2.St → Hp → Prop, (∃ m, W 0 m σ H) ∧ ∀ i m σ H, W i m σ H →
      ((Ite K a).stop i H ∧ D.nx σ H) ∨ ((Ite K a).go i H ∧ ∃ N : L2.St → Hp → Prop, (∀ σ' H', N σ' H' → ∃ m', m' < m ∧ W (i + 1) m' σ' H') ∧ ∀ x H', (Ite K a).yld i H x H' → g x σ H' fun σ2 H2 => tb { D with nx := N, ct := N, bk := D.nx } σ2 H2) := by
  refine ⟨fun i m σ H => i + m = xs.length ∧ Pv i σ H, ⟨xs.length, Nat.zero_add _, h0⟩, ?_⟩
  rintro i m σ H ⟨him, p⟩
  have there := hl i σ H (by omega) p
  cases m with
  | zero =>
    have e : xs.length = i := by omega
    exact .inl ⟨⟨xs, there, Nat.le_of_eq e⟩, hd σ H (by rw [e]; exact p)⟩
  | succ m =>
    have ex := List.getElem?_eq_getElem (show i < xs.length by omega)
    refine .inr ⟨⟨xs, _, there, ex⟩, Pv (i + 1), fun σ' H' p' => ⟨m, Nat.lt_succ_self m, by omega, p'⟩, ?_⟩
    rintro v H' ⟨T, x, rfl, nT, rfl, f⟩
    exact hs i x σ H T (f _ there) p nT
end
theorem spare_eq2 (total n s : Int) (ms : List Int) (hn : n = (ms.length : Int)) (hs : s = ms.sum) : (if total - (n - 1) - s > 0 then total - (n - 1) - s else 0) = spareM total ms := by
  subst hn hs
  rfl
theorem rep_flat (n : Nat) : (List.replicate n [V.int 1]).flatten = (List.replicate n (1 : Int)).map V.int := by
  induction n with
  | zero => rfl
  | succ n ih =>
    rw [List.replicate_succ, List.replicate_succ, List.flatten_cons, ih]
    rfl
section
variable {P : Program} {w : World} {K : PySem.W.Frag} {mg : Str → Option Value} {base : Heap}
theorem ok_share (T : Txt K mg) : FnOk P w K mg base CX0 1 T.share.f T.share.fd P_share (spShare K) := by
  refine T.share.F.ok sc_share (fun vs H Q E h => ?_) (fun cdv A outer s H vs Q E hr h => ?_)
  · obtain ⟨a, b, total, ms, ss, rfl, _⟩ := h
    rfl
  obtain ⟨a, b, total, ms, ss, rfl, hA, hB, hlen, hl0, hl1, hms, hss, htot, q⟩ := h
  refine ⟨_, (pss_cons (ps_set (i := 3) sc_share.nd rfl (Or.inr rfl) (pe_callB (call_max2 rfl) rfl T.b.max (by decide +kernel) (pa_cons pe_int (pa_cons (pe_op op_sub (pe_op op_sub (pv 0) (pe_op op_sub (pe_callB (lenS (K := K) rfl) rfl T.b.len (by decide +kernel) (pa_cons (pv 2) pa_nil)) pe_int)) (pe_callB (sumS (K := K) rfl rfl) rfl T.b.sum (by decide +kernel) (pa_cons (pv 1) pa_nil))) pa_nil))))
    (pss_cons (ps_setLc (i := 4) (own := [("size", 5), ("low", 6)]) rfl sc_share.nd rfl rfl (sw_true rfl rfl rfl (by decide +kernel)) (pi_zip rfl T.b.zip (pa_cons (pv 2) (pa_cons (pv 1) pa_nil))) (blkOk_by (own := [("size", 5), ("low", 6)]) (N := N_share) (sc := defScope s_share) (by decide +kernel)) (fun _ _ _ _ _ => pgT (K := K) (n := 2) rfl rfl (pgs_cons (pg_name (i := 5) sc_share.nd rfl (Or.inl rfl)) (pgs_cons (pg_name (i := 6) sc_share.nd rfl (Or.inl rfl)) pgs_nil))) (fun _ _ _ _ _ => pts_nil) (fun _ _ _ _ _ => (pe_callB (call_max2 rfl) rfl T.b.max (by decide +kernel) (pa_cons pe_int (pa_cons (pe_op op_sub (pv 5) (pv 6)) pa_nil)))))
    (Evl.pss_cut (ps_if (pt_cmpR op_eq (pe_callB (sumS (K := K) rfl rfl) rfl T.b.sum (by decide +kernel) (pa_cons (pv 4) pa_nil)) pe_int (nomark _))
      (pss_one (ps_set (i := 4) sc_share.nd rfl (Or.inl rfl) (pe_op op_rep (pe_lst (pa_cons pe_int pa_nil)) (pe_callB (lenS (K := K) rfl) rfl T.b.len (by decide +kernel) (pa_cons (pv 2) pa_nil)))))
      pss_nil)
    (pss_cons (ps_set (i := 7) sc_share.nd rfl (Or.inr rfl) (pe_callB (sumS (K := K) rfl rfl) rfl T.b.sum (by decide +kernel) (pa_cons (pv 4) pa_nil)))
    (pss_cons (ps_setLc (i := 8) (own := [("low", 6), ("extra", 9)]) rfl sc_share.nd rfl rfl (sw_true rfl rfl rfl (by decide +kernel)) (pi_zip rfl T.b.zip (pa_cons (pv 1) (pa_cons (pv 4) pa_nil))) (blkOk_by (own := [("low", 6), ("extra", 9)]) (N := N_share) (sc := defScope s_share) (by decide +kernel)) (fun _ _ _ _ _ => pgT (K := K) (n := 2) rfl rfl (pgs_cons (pg_name (i := 6) sc_share.nd rfl (Or.inl rfl)) (pgs_cons (pg_name (i := 9) sc_share.nd rfl (Or.inl rfl)) pgs_nil))) (fun _ _ _ _ _ => pts_nil) (fun _ _ _ _ _ => (pe_op op_add (pv 6) (pe_op op_fdiv (pe_op op_mul (pv 3) (pv 9)) (pv 7)))))
    (pss_cons (ps_set (i := 10) sc_share.nd rfl (Or.inl rfl) (pe_op op_sub (pv 3) (pe_op op_sub (pe_callB (sumS (K := K) rfl rfl) rfl T.b.sum (by decide +kernel) (pa_cons (pv 8) pa_nil)) (pe_callB (sumS (K := K) rfl rfl) rfl T.b.sum (by decide +kernel) (pa_cons (pv 1) pa_nil)))))
    (pss_cons (ps_for PassesOwn.never rfl (pi_enum rfl T.b.enumerate (pa_cons (pv 4) pa_nil)) (pgT (K := K) (n := 2) rfl rfl (pgs_cons (pg_name (i := 11) sc_share.nd rfl (Or.inl rfl)) (pgs_cons (pg_name (i := 9) sc_share.nd rfl (Or.inl rfl)) pgs_nil)))
      (pss_one (ps_if (PW.pt (pw_and (pt_cmpR op_gt (pv 9) pe_int (nomark _)) (pw_and1 (pt_cmpR op_gt (pv 10) pe_int (nomark _)))))
        (pss_cons (ps_augS (pv 8) (pv 11) (getL (K := K) rfl) pe_int ip_add set_list)
        (pss_one (ps_aug (i := 10) sc_share.nd rfl (Or.inl rfl) pe_int ip_sub)))
        pss_nil)))
    (pss_one (ps_ret (pv 8)))))))))), ?_⟩
  have ln : (ss.map V.int).length = ss.length := List.length_map _
  have lm : (ms.map V.int).length = ss.length := by rw [List.length_map, hlen]
  have le : ((exM ms ss).map V.int).length = ss.length := by rw [List.length_map, exM_len hlen]
  obtain ⟨sp0, sp1⟩ := spare_le htot (by omega) hms
  -- spare
  refine ⟨_, rfl, _, rfl, b, _, rfl, .inl hB, _, _, rfl, rfl, _, _, rfl, rfl, _, rfl, a, ms, rfl, hA, _, _, rfl, rfl, _, _, rfl, ?_⟩
  rw [spare_eq2 total _ _ ms (by rw [ln, hlen]) rfl]
  -- extras
  refine ⟨_, rfl, _, rfl, b, a, _, _, rfl, hB, hA, lcZip ((exRaw ms ss).map V.int) rfl hB hA (by rw [List.length_map, List.length_map, exRaw_len hlen]) (by rw [List.length_map, List.length_map, exRaw_len hlen, hlen]) (by rw [List.length_map, exRaw_len hlen]; omega) (fun _ _ => rfl) ?_ ?_⟩
  · intro i x y z H1 R sm hx hy hz k
    obtain ⟨x', ex, rfl⟩ := map_at hx
    obtain ⟨y', ey, rfl⟩ := map_at hy
    rw [ints_at (exRaw_at ex ey)] at hz
    cases hz
    exact ⟨_, rfl, _, rfl, _, _, rfl, rfl, _, _, rfl, k H1 (Same.refl _)⟩
  intro D1 H1 s1 nD1 eD1
  -- if sum(extras) == 0
  refine ⟨fun σ' H' => ∃ E, σ' = [some (.int total), some (.ref a), some (.ref b), some (.int (spareM total ms)), some (.ref E), none, none, none, none, none, none, none] ∧ Same H H' ∧ H' E = some (.lst ((exM ms ss).map V.int)), ?_, ?_⟩
  · refine ⟨_, rfl, D1, _, rfl, SqL.of eD1, rfl, _, rfl, ite2 (fun e => ?_) (fun e => ?_)⟩
    · have es : (exRaw ms ss).sum = 0 := V.int.inj (of_decide_eq_true e)
      refine ⟨(by show 1 ≤ sizeLine; decide), fun l nl => ?_⟩
      have s2 : Same H1 (upd H1 l (.lst [.int 1])) := same_upd nl
      refine ⟨_, rfl, b, _, rfl, .inl ((s1.trans s2).seq hB), l, _, _, rfl, rfl, upd_same, by omega, by omega, ?_, fun p np => ?_⟩
      · rw [ln]
        exact sizeOk (by show 1 * ss.length ≤ 1000; omega)
      refine ⟨p, rfl, s1.trans (s2.trans (same_upd np)), ?_⟩
      rw [upd_same, ln, Int.toNat_natCast, rep_flat]
      unfold exM
      rw [if_pos es]
    · have es : ¬ (exRaw ms ss).sum = 0 := fun z => e (decide_eq_true (by rw [z]))
      refine ⟨D1, rfl, s1, ?_⟩
      rw [eD1]
      unfold exM
      rw [if_neg es]
  rintro _ H2 ⟨E, rfl, s2, eE⟩
  have wpos := exM_pos (ms := ms) hl0
  have wlt := exM_sum_le hlen hms hss hl1
  -- weight
  refine ⟨_, rfl, E, _, rfl, SqL.of eE, ?_⟩
  -- result
  refine ⟨_, rfl, _, rfl, a, E, _, _, rfl, s2.seq hA, SqL.of eE, lcZip ((shareB total ms ss).map V.int) rfl (s2.seq hA) (SqL.of eE) (by rw [lm, List.length_map, shareB_len hlen]) (by rw [le, List.length_map, shareB_len hlen]) (by rw [List.length_map, shareB_len hlen]; omega) (fun _ _ => rfl) ?_ ?_⟩
  · intro i x y z H3 R sm hx hy hz k
    obtain ⟨x', ex, rfl⟩ := map_at hx
    obtain ⟨y', ey, rfl⟩ := map_at hy
    rw [shareB, ints_at (base_at ex ey)] at hz
    cases hz
    exact ⟨_, rfl, _, rfl, _, rfl, _, _, rfl, rfl, .inl ⟨by omega, by omega⟩, _, rfl, _, _, rfl, rfl, ⟨wpos, wlt⟩, _, _, rfl, rfl, k H3 (Same.refl _)⟩
  intro N H3 s3 nN eN
  have nN0 : H N = none := s2.free nN
  have nNE : E ≠ N := ne_of_none eE nN
  -- rest
  refine ⟨_, rfl, _, rfl, N, _, rfl, SqL.of eN, _, rfl, a, ms, rfl, (s2.trans s3).seq hA, _, _, rfl, rfl, _, _, rfl, rfl, ?_⟩
  dsimp only
  generalize hr0 : spareM total ms - ((shareB total ms ss).sum - ms.sum) = r0
  -- the loop
  refine ⟨_, rfl, E, _, rfl, SqL.of (s3 _ _ eE), forEnum (K := K) (a := E) (xs := (exM ms ss).map V.int)
    (fun i σ' H' => ∃ y9 y11, σ' = [some (.int total), some (.ref a), some (.ref b), some (.int (spareM total ms)), some (.ref E), none, none, some (.int (exM ms ss).sum), some (.ref N), y9, some (.int (giveN (exM ms ss) i (shareB total ms ss) r0).2), y11] ∧ Same H H' ∧
      H' E = some (.lst ((exM ms ss).map V.int)) ∧ H' N = some (.lst ((giveN (exM ms ss) i (shareB total ms ss) r0).1.map V.int)))
    ⟨none, none, rfl, s2.trans s3, s3 _ _ eE, eN⟩ (fun i σ' H' _ ⟨_, _, _, _, eE', _⟩ => SqL.of eE') ?_ ?_⟩
  · rintro i x σ' H' t hx ⟨y9, y11, rfl, sm, eE', eN'⟩ nt
    obtain ⟨e, e3, rfl⟩ := map_at hx
    have hi' : i < ss.length := by
      have := lt_of_at e3
      rw [exM_len hlen] at this
      exact this
    have st : Same H' (upd H' t (.tup [.int (i : Nat), .int e])) := same_upd nt
    have smt := sm.trans st
    have eEt := st _ _ eE'
    have eNt := st _ _ eN'
    have hgl : (giveN (exM ms ss) i (shareB total ms ss) r0).1.length = ss.length := by rw [give_len, shareB_len hlen]
    have e4 := List.getElem?_eq_getElem (show i < (giveN (exM ms ss) i (shareB total ms ss) r0).1.length by omega)
    refine ⟨t, [.int (i : Nat), .int e], rfl, SqT.tx upd_same, rfl, .int (i : Nat), [.int e], rfl, .int e, [], rfl, rfl, ?_⟩
    refine ⟨_, rfl, _, _, rfl, rfl, _, rfl, ite2 (fun c1 => ?_) (fun c1 => ?_)⟩
    · refine ⟨_, rfl, _, _, rfl, rfl, _, rfl, ite2 (fun c2 => ?_) (fun c2 => ?_)⟩
      · have g := give_yes e3 (of_decide_eq_true c1) (of_decide_eq_true c2) e4
        refine ⟨_, rfl, _, rfl, N, _, i, _, rfl, rfl, SqL.of eNt, ints_at e4, _, _, rfl, rfl, N, _, _, i, rfl, rfl, eNt, ?_, ?_⟩
        · rw [List.length_map, hgl]
          exact Evl.ixN_nat hi'
        refine ⟨_, rfl, _, _, rfl, rfl, ?_⟩
        refine ⟨some (.int e), some (.int (i : Nat)), ?_, Same.mut smt nN0, by rw [upd_ne nNE]; exact eEt, ?_⟩
        · rw [g]; rfl
        · rw [upd_same, g, List.map_set]
      · have g := give_no (l := shareB total ms ss) (r := r0) e3 (fun z => c2 (decide_eq_true z.2))
        refine ⟨some (.int e), some (.int (i : Nat)), ?_, smt, eEt, ?_⟩
        · rw [g]; rfl
        · rw [g]; exact eNt
    · have g := give_no (l := shareB total ms ss) (r := r0) e3 (fun z => c1 (decide_eq_true z.1))
      refine ⟨some (.int e), some (.int (i : Nat)), ?_, smt, eEt, ?_⟩
      · rw [g]; rfl
      · rw [g]; exact eNt
  · rintro σ' H' ⟨y9, y11, rfl, sm, eE', eN'⟩
    refine ⟨_, rfl, q N H' sm nN0 ?_⟩
    rw [eN', le]
    unfold shareM
    rw [hr0]
end
end K20

set_option Elab.async false
set_option maxRecDepth 100000
set_option maxHeartbeats 4000000
set_option linter.all false
/-! the law's fit -/
namespace K20
open PySem PySem.Spec PyProof.Rows L2
theorem Good.inv {B : Int} {m : Nat} {d : Bool} {ps : List (Lay × Int)} (h : Good B m (.node d ps)) : ∃ m', m = m' + 1 ∧ 2 ≤ ps.length ∧ (∀ p ∈ ps, -B ≤ p.2 ∧ p.2 ≤ B) ∧ ∀ p ∈ ps, Good B m' p.1 := by
  cases h with
  | node h1 h2 h3 => exact ⟨_, rfl, h1, h2, h3⟩
/-- max of two, as Python gives it -/
def mxp (i j : Int) : Int := if j > i then j else i
theorem mxp_le {i j b : Int} (h1 : i ≤ b) (h2 : j ≤ b) : mxp i j ≤ b := by unfold mxp; split <;> assumption
theorem mxp_ge (i j : Int) : i ≤ mxp i j ∧ j ≤ mxp i j := by unfold mxp; split <;> omega
/-- the least size along an axis -/
def lowA (d : Bool) (l : Lay) : Int := if d then l.low.2 else l.low.1
theorem at_axI (x y : Int) (d : Bool) : atI [V.int x, V.int y] (ax d) = some (.int (if d then y else x)) := by
  cases d <;> rfl
theorem lowA_node (d : Bool) (ps : List (Lay × Int)) : lowA d (.node d ps) = (ps.map fun p => lowA d p.1).sum + (ps.length : Int) - 1 := by
  cases d with
  | false => unfold lowA; rw [low_beside]; rfl
  | true => unfold lowA; rw [low_below]; rfl
theorem lowA_nn {B : Int} {n : Nat} {l : Lay} (h : Good B n l) (d : Bool) : 0 ≤ lowA d l := by
  have := low_bounds h
  unfold lowA
  cases d
  · show 0 ≤ l.low.1; omega
  · show 0 ≤ l.low.2; omega
theorem low_le {B M : Int} {n : Nat} {l : Lay} (h : Good B n l) (hM : 3 * (l.panes.length : Int) ≤ M) : l.low.1 ≤ M ∧ l.low.2 ≤ M := by
  have := low_bounds h
  omega
/-- the sizes that fit gives lie within the room -/
theorem fit_sizes {d : Bool} {ps : List (Lay × Int)} {total M : Int} (h0 : 0 < ps.length) (hn : ∀ p ∈ ps, 0 ≤ lowA d p.1) (h1 : lowA d (.node d ps) ≤ total) (h2 : total ≤ M) :
    ∀ x ∈ shareM total (ps.map fun p => lowA d p.1) (ps.map (·.2)), 0 ≤ x ∧ x ≤ M := by
  have hl : (ps.map fun p => lowA d p.1).length = (ps.map (·.2)).length := by rw [List.length_map, List.length_map]
  have nn : ∀ x ∈ ps.map fun p => lowA d p.1, 0 ≤ x := fun x hx => by
    obtain ⟨p, hp, rfl⟩ := List.mem_map.mp hx
    exact hn p hp
  intro x hx
  obtain ⟨b1, b2⟩ := share_bounds (total := total) hl (by rw [List.length_map]; exact h0) nn x hx
  rw [lowA_node] at h1
  have e : spareM total (ps.map fun p => lowA d p.1) ≤ total - ((ps.length : Int) - 1) - (ps.map fun p => lowA d p.1).sum := by
    unfold spareM
    rw [List.length_map]
    exact mx0_le (Int.le_refl _) (by omega)
  omega
/-- fit: the same panes, sizes within M -/
def spFit (n : Nat) : Sp := fun vs H Q _ => ∃ (v : V) (L : Lay) (w h B M : Int) (m : Nat), vs = [v, .int w, .int h] ∧ LayV H L v ∧ Good B m L ∧ m < n ∧ B ≤ 100000 ∧ L.panes.length ≤ 100 ∧ w ≤ M ∧ h ≤ M ∧ 3 * (L.panes.length : Int) ≤ M ∧ M ≤ 100000 ∧
  ∀ (v' : V) (L' : Lay) (H' : Hp), Same H H' → LayV H' L' v' → Good M m L' → L'.panes = L.panes → Q v' H'
section
variable {P : Program} {w : World} {K : PySem.W.Frag} {mg : Str → Option Value} {base : Heap}
theorem lfit_step {n : Nat} (T : Txt K mg) (G_lfit : FnOk P w K mg base CX0 (n + 1) T.lfit.f T.lfit.fd P_lfit (spFit n)) : FnOk P w K mg base CX0 (n + 2) T.lfit.f T.lfit.fd P_lfit (spFit (n + 1)) := by
  have G_lleast := ok_lleast (P := P) (w := w) (base := base) T (n + 1)
  have G_lshare := ok_lshare (P := P) (w := w) (base := base) T
  refine T.lfit.F.ok sc_lfit (fun vs H Q E h => ?_) (fun cdv A outer s H vs Q E hr h => ?_)
  · obtain ⟨v, L, w, h, B, M, m, rfl, _⟩ := h
    rfl
  obtain ⟨v, L, w, h, B, M, m, rfl, hL, hG, hm, hB, hlen, hwM, hhM, hM3, hM, q⟩ := h
  have hr_lfit := hr
  have hr_lleast := hr
  have hr_lshare := hr.mono (j := 1) (by omega)
  refine ⟨_, (pss_cons (ps_if (pt_val (pe_callB (isiS (K := K) rfl) rfl T.b.isinstance (by decide +kernel) (pa_cons (pv 0) (pa_cons (pe_bltn (v := .ty "int") rfl T.b.int (by decide +kernel) rfl) pa_nil))))
      (pss_one (ps_ret (pv 0)))
      pss_nil)
    (pss_cons (ps_set (i := 3) sc_lfit.nd rfl (Or.inl rfl) (pe_call G_lleast hr_lleast rfl T.lleast.g T.lleast.F.kp T.lleast.bd .nil pass0 (pa_cons (pv 0) pa_nil)))
    (pss_cons (ps_set (i := 4) sc_lfit.nd rfl (Or.inl rfl) (pe_lst (pa_cons (pe_callB (call_max2 rfl) rfl T.b.max (by decide +kernel) (pa_cons (pv 1) (pa_cons (pe_ix (ixL (K := K) rfl) (pv 3) pe_int (fun _ _ => rfl)) pa_nil))) (pa_cons (pe_callB (call_max2 rfl) rfl T.b.max (by decide +kernel) (pa_cons (pv 2) (pa_cons (pe_ix (ixL (K := K) rfl) (pv 3) pe_int (fun _ _ => rfl)) pa_nil))) pa_nil))))
    (pss_cons (ps_set (i := 5) sc_lfit.nd rfl (Or.inr rfl) (pe_callTy call_int1 rfl T.b.int (by decide +kernel) (pa_cons (pe_cmpR op_eq (pe_ix (ixT (K := K) rfl) (pv 0) pe_int (fun _ _ => rfl)) pe_str (nomark _)) pa_nil)))
    (pss_cons (ps_setLc (i := 6) (own := [("_law_inner", 7), ("_law_size", 8)]) rfl sc_lfit.nd rfl rfl (sw_true rfl rfl rfl (by decide +kernel)) (pi_tup (pe_ix (ixT (K := K) rfl) (pv 0) pe_int (fun _ _ => rfl))) (blkOk_by (own := [("_law_inner", 7), ("_law_size", 8)]) (N := N_lfit) (sc := defScope s_lfit) (by decide +kernel)) (fun _ _ _ _ _ => pgT (K := K) (n := 2) rfl rfl (pgs_cons (pg_name (i := 7) sc_lfit.nd rfl (Or.inl rfl)) (pgs_cons (pg_name (i := 8) sc_lfit.nd rfl (Or.inl rfl)) pgs_nil))) (fun _ _ _ _ _ => pts_nil) (fun _ _ _ _ _ => (pe_ix (ixL (K := K) rfl) (pe_call G_lleast hr_lleast rfl T.lleast.g T.lleast.F.kp T.lleast.bd .nil pass0 (pa_cons (pv 7) pa_nil)) (pv 5) (fun _ _ => rfl))))
    (pss_cons (ps_set (i := 9) sc_lfit.nd rfl (Or.inl rfl) (pe_call G_lshare hr_lshare rfl T.lshare.g T.lshare.F.kp T.lshare.bd .nil pass0 (pa_cons (pe_ix (ixL (K := K) rfl) (pv 4) (pv 5) (fun _ _ => rfl)) (pa_cons (pv 6) (pa_cons (pe_lc (own := [("_law_inner", 7), ("_law_size", 8)]) rfl sc_lfit.nd (pi_tup (pe_ix (ixT (K := K) rfl) (pv 0) pe_int (fun _ _ => rfl))) (blkOk_by (own := [("_law_inner", 7), ("_law_size", 8)]) (N := N_lfit) (sc := defScope s_lfit) (by decide +kernel)) (fun _ _ _ _ _ => pgT (K := K) (n := 2) rfl rfl (pgs_cons (pg_name (i := 7) sc_lfit.nd rfl (Or.inl rfl)) (pgs_cons (pg_name (i := 8) sc_lfit.nd rfl (Or.inl rfl)) pgs_nil))) (fun _ _ _ _ _ => pts_nil) (fun _ _ _ _ _ => (pv 8))) pa_nil)))))
    (pss_cons (ps_set (i := 10) sc_lfit.nd rfl (Or.inl rfl) (pe_lst pa_nil))
    (pss_cons (ps_for PassesOwn.never rfl (pi_range1 rfl T.b.range (pa_cons (pe_callB (lenS (K := K) rfl) rfl T.b.len (by decide +kernel) (pa_cons (pv 9) pa_nil)) pa_nil)) (pg_name (i := 11) sc_lfit.nd rfl (Or.inl rfl))
      (pss_cons (ps_set (i := 12) sc_lfit.nd rfl (Or.inl rfl) (pe_callTy (listS (K := K) rfl) rfl T.b.list (by decide +kernel) (pa_cons (pv 4) pa_nil)))
      (pss_cons (ps_asg (pe_ix (ixL (K := K) rfl) (pv 9) (pv 11) (fun _ _ => rfl)) (pg_sub (pv 12) (pv 5) set_list))
      (pss_one (ps_expr (pe_bm PySem.F.plainAttrs_list PySem.F.slot_list_append PySem.F.type_list_append mt_append (pv 10) (pa_cons (pe_tup (pa_cons (pe_call G_lfit hr_lfit rfl T.lfit.g T.lfit.F.kp T.lfit.bd .nil pass0 (pa_cons (pe_ix (ixT (K := K) rfl) (pe_ix (ixT (K := K) rfl) (pe_ix (ixT (K := K) rfl) (pv 0) pe_int (fun _ _ => rfl)) (pv 11) (fun _ _ => rfl)) pe_int (fun _ _ => rfl)) (pa_cons (pe_ix (ixL (K := K) rfl) (pv 12) pe_int (fun _ _ => rfl)) (pa_cons (pe_ix (ixL (K := K) rfl) (pv 12) pe_int (fun _ _ => rfl)) pa_nil)))) (pa_cons (pe_ix (ixL (K := K) rfl) (pv 9) (pv 11) (fun _ _ => rfl)) pa_nil))) pa_nil)))))))
    (pss_one (ps_ret (pe_tup (pa_cons (pe_ix (ixT (K := K) rfl) (pv 0) pe_int (fun _ _ => rfl)) (pa_cons (pe_callTy (tupleS (K := K) rfl) rfl T.b.tuple (by decide +kernel) (pa_cons (pv 10) pa_nil)) pa_nil))))))))))))), ?_⟩
  cases L with
  | pane i =>
    cases layV_pane_iff hL
    refine ⟨_, rfl, _, _, _, _, true, rfl, .ty _, .base (.int _), kit_ty (by decide +kernel), true, rfl, iteT ?_⟩
    exact ⟨_, rfl, q _ (.pane i) H (Same.refl _) layV_pane (.pane i) rfl⟩
  | node d ps =>
    obtain ⟨a, t, xs, rfl, h1, h2, h3⟩ := layV_node_inv hL
    refine ⟨_, rfl, _, _, _, _, false, rfl, .ty _, .base (.tup h1), kit_ty (by decide +kernel), false, rfl, iteF ?_⟩
    have hple := hG.parts_le
    obtain ⟨lw, lh⟩ := low_le hG hM3
    obtain ⟨m', rfl, h2le, hsz, hps⟩ := hG.inv
    -- lows
    refine ⟨_, rfl, _, .node d ps, B, m' + 1, rfl, hL, hG, by omega, hlen, fun r H1 s1 nr er => ?_⟩
    rw [panes_node] at hlen hple hM3
    -- room_here
    refine ⟨_, rfl, _, rfl, r, _, 0, _, rfl, rfl, SqL.of er, atI_nat (j := 0) rfl, _, _, rfl, _, rfl, _, rfl, r, _, 1, _, rfl, rfl, SqL.of er, atI_nat (j := 1) rfl, _, _, rfl, (by show 2 ≤ sizeLine; decide), fun ro nro => ?_⟩
    have s2 : Same H1 (upd H1 ro (.lst [.int (mxp w (Lay.node d ps).low.1), .int (mxp h (Lay.node d ps).low.2)])) := same_upd nro
    have ero : (upd H1 ro (.lst [.int (mxp w (Lay.node d ps).low.1), .int (mxp h (Lay.node d ps).low.2)])) ro = some (.lst [.int (mxp w (Lay.node d ps).low.1), .int (mxp h (Lay.node d ps).low.2)]) := upd_same
    change _ at s2
    generalize hW : mxp w (Lay.node d ps).low.1 = W0 at s2 ero
    generalize hH : mxp h (Lay.node d ps).low.2 = H0 at s2 ero
    have eW : (if (Lay.node d ps).low.1 > w then (Lay.node d ps).low.1 else w) = W0 := hW
    have eH : (if (Lay.node d ps).low.2 > h then (Lay.node d ps).low.2 else h) = H0 := hH
    rw [eW, eH]
    generalize upd H1 ro (.lst [.int W0, .int H0]) = H2 at s2 ero
    have s02 := s1.trans s2
    have tot1 : lowA d (.node d ps) ≤ (if d then H0 else W0) := by
      have g1 := (mxp_ge w (Lay.node d ps).low.1).2
      have g2 := (mxp_ge h (Lay.node d ps).low.2).2
      rw [hW] at g1
      rw [hH] at g2
      cases d
      · exact g1
      · exact g2
    have W0M : W0 ≤ M := by rw [← hW]; exact mxp_le hwM lw
    have H0M : H0 ≤ M := by rw [← hH]; exact mxp_le hhM lh
    have tot2 : (if d then H0 else W0) ≤ M := by
      cases d
      · exact W0M
      · exact H0M
    -- axis
    refine ⟨_, rfl, a, _, 0, .str (dirS d), rfl, rfl, SqT.tx (s02 _ _ h1), atI_nat (j := 0) rfl, rfl, .inr ⟨_, rfl, ?_⟩⟩
    rw [ax_of]
    -- low
    refine ⟨_, rfl, a, _, 1, .ref t, rfl, rfl, SqT.tx (s02 _ _ h1), atI_nat (j := 1) rfl, t, rfl, ⟨_, SqT.tx (s02 _ _ h2)⟩,
      lcParts (fun p => V.int (lowA d p.1)) rfl (s02 _ _ h2) (h3.tx (Tx.of s02)) (by omega) (fun _ _ => rfl) ?_ ?_⟩
    · intro i p v H3 R sm hp hv k
      have le := panes_mem_le (mem_at hp)
      refine ⟨_, rfl, v, p.1, B, m', rfl, hv, hps p (mem_at hp), by omega, by omega, fun r2 H4 g2 nr2 er2 => ?_⟩
      exact ⟨_, rfl, r2, _, ax d, _, rfl, rfl, SqL.of er2, at_axI _ _ d, k H4 g2⟩
    intro lo H3 s3 nlo elo
    have s03 := s02.trans s3
    -- sizes
    refine ⟨_, rfl, _, rfl, ro, _, ax d, _, rfl, rfl, SqL.of (s3 _ _ ero), at_axI _ _ d, _, rfl, _, rfl, a, _, 1, .ref t, rfl, rfl, SqT.tx (s03 _ _ h1), atI_nat (j := 1) rfl, t, rfl, ⟨_, SqT.tx (s03 _ _ h2)⟩,
      lcParts (fun p => V.int p.2) rfl (s03 _ _ h2) (h3.tx (Tx.of s03)) (by omega) (fun _ _ => rfl) ?_ ?_⟩
    · intro i p v H4 R sm hp hv k
      exact ⟨_, rfl, k H4 (Same.refl _)⟩
    intro D4 H4 s4 nD4 eD4
    have hll : (ps.map fun p => lowA d p.1).length = (ps.map (·.2)).length := by rw [List.length_map, List.length_map]
    refine ⟨lo, D4, _, ps.map (fun p => lowA d p.1), ps.map (·.2), rfl, SqL.of (by rw [s4 _ _ elo, List.map_map]; rfl), SqL.of (by rw [eD4, List.map_map]; rfl), hll,
      by rw [List.length_map]; omega, by rw [List.length_map]; omega, ?_, ?_, by omega, fun sz H5 s5 nsz esz => ?_⟩
    · intro x hx
      obtain ⟨p, hp, rfl⟩ := List.mem_map.mp hx
      exact lowA_nn (hps p hp) d
    · intro x hx
      obtain ⟨p, hp, rfl⟩ := List.mem_map.mp hx
      have := (hsz p hp).2
      omega
    have fs := fit_sizes (d := d) (ps := ps) (M := M) (by omega) (fun p hp => lowA_nn (hps p hp) d) tot1 tot2
    have fl : (shareM (if d then H0 else W0) (ps.map fun p => lowA d p.1) (ps.map (·.2))).length = ps.length := by rw [shareM_len hll, List.length_map]
    generalize shareM (if d then H0 else W0) (ps.map fun p => lowA d p.1) (ps.map (·.2)) = sz' at esz fs fl
    have s05 := s03.trans (s4.trans s5)
    have ero5 := s5 _ _ (s4 _ _ (s3 _ _ ero))
    have h15 := s05 _ _ h1
    have h25 := s05 _ _ h2
    have h35 := h3.tx (Tx.of s05)
    have lsz : (sz'.map V.int).length = ps.length := by rw [List.length_map, fl]
    -- parts = []
    refine ⟨Nat.zero_le _, fun pl npl => ?_⟩
    -- the loop
    refine ⟨_, rfl, sz, _, rfl, .inl (SqL.of ((same_upd npl) _ _ esz)), _, rfl, by omega, by omega, for_range (lo := 0)
      (fun i σ' H' => i ≤ ps.length ∧ ∃ y11 y12 ys qs, σ' = [some (.ref a), some (.int w), some (.int h), some (.ref r), some (.ref ro), some (.int (ax d)), some (.ref lo), none, none, some (.ref sz), some (.ref pl), y11, y12] ∧ Same H5 H' ∧
        H' pl = some (.lst ys) ∧ PartsV H' qs ys ∧ qs.length = i ∧ panesL qs = panesL (ps.take i) ∧ ∀ p ∈ qs, (-M ≤ p.2 ∧ p.2 ≤ M) ∧ Good M m' p.1)
      ⟨Nat.zero_le _, none, none, [], [], rfl, same_upd npl, upd_same, partsV_nil, rfl, rfl, fun p hp => by cases hp⟩ ?_ ?_⟩
    · rintro i σ' H' hi ⟨_, y11, y12, ys, qs, rfl, sm, epl, hqs, hql, hqp, hqg⟩
      rw [lsz] at hi
      have hi' : i < ps.length := hi
      have ep := List.getElem?_eq_getElem hi'
      generalize ps[i] = p at ep
      have es := List.getElem?_eq_getElem (show i < sz'.length by omega)
      have hs := fs _ (List.getElem_mem (show i < sz'.length by omega))
      generalize sz'[i] = z at es hs
      obtain ⟨x, ex, b, v, rfl, hb, hv⟩ := partsV_get' h35 ep
      have le := panes_mem_le (mem_at ep)
      have le2 := panesL_take_le (ps := ps) i
      -- inside = list(room_here)
      refine ⟨_, rfl, ro, _, rfl, .inl (SqL.of (sm _ _ ero5)), fun il nil => ?_⟩
      have s6 : Same H' (upd H' il (.lst [.int W0, .int H0])) := same_upd nil
      -- inside[axis] = sizes[k]
      refine ⟨_, rfl, _, rfl, sz, _, _, .int z, rfl, rfl, SqL.of (s6 _ _ (sm _ _ esz)), at_of (by omega) (ints_at es), _, rfl, _, rfl, il, _, ax d, _, rfl, rfl, upd_same, ixN_ax d, ?_⟩
      have s7 : Same H' (upd (upd H' il (.lst [.int W0, .int H0])) il (.lst ([V.int W0, V.int H0].set (if d then 1 else 0) (.int z)))) := Same.mut s6 nil
      have eil : (upd (upd H' il (.lst [.int W0, .int H0])) il (.lst ([V.int W0, V.int H0].set (if d then 1 else 0) (.int z)))) il = some (.lst [.int (if d then W0 else z), .int (if d then z else H0)]) := by
        rw [upd_same]
        cases d <;> rfl
      generalize upd (upd H' il (.lst [.int W0, .int H0])) il (.lst ([V.int W0, V.int H0].set (if d then 1 else 0) (.int z))) = H7 at s7 eil
      have s57 := sm.trans s7
      -- parts.append((fit(layout[1][k][0], inside[0], inside[1]), sizes[k]))
      refine ⟨_, rfl, .inl ⟨rfl, _, SqL.of (s7 _ _ epl)⟩, ?_⟩
      refine ⟨_, rfl, a, _, 1, .ref t, rfl, rfl, SqT.tx (s57 _ _ h15), atI_nat (j := 1) rfl, _, rfl, t, _, _, .ref b, rfl, rfl, SqT.tx (s57 _ _ h25), at_of (by omega) ex, b, _, 0, v, rfl, rfl, SqT.tx (s57 _ _ hb), atI_nat (j := 0) rfl,
        _, rfl, il, _, 0, _, rfl, rfl, SqL.of eil, atI_nat (j := 0) rfl, _, rfl, il, _, 1, _, rfl, rfl, SqL.of eil, atI_nat (j := 1) rfl, ?_⟩
      refine ⟨v, p.1, _, _, B, M, m', rfl, hv.tx (Tx.of s57), hps p (mem_at ep), by omega, hB, by omega, ?_, ?_, by omega, hM, fun v' L' H8 s8 hL' hG' hp' => ?_⟩
      · cases d
        · exact hs.2
        · exact W0M
      · cases d
        · exact H0M
        · exact hs.2
      refine ⟨_, rfl, _, rfl, sz, _, _, .int z, rfl, rfl, SqL.of (s8 _ _ (s57 _ _ esz)), at_of (by omega) (ints_at es), (by show 2 ≤ sizeLine; decide), fun tp ntp => ?_⟩
      have s9 : Same H8 (upd H8 tp (.tup [v', .int z])) := same_upd ntp
      have etp : (upd H8 tp (.tup [v', .int z])) tp = some (.tup [v', .int z]) := upd_same
      generalize upd H8 tp (.tup [v', .int z]) = H9 at s9 etp
      have s79 := s8.trans s9
      have epl9 := s79 _ _ (s7 _ _ epl)
      have lys := partsV_len hqs
      refine ⟨pl, ys, .ref tp, rfl, rfl, epl9, small1000 (by omega), ?_⟩
      have T9 : Tx H9 (upd H9 pl (.lst (ys ++ [.ref tp]))) := Tx.lst epl9 _
      refine ⟨hi', some (.int (0 + (i : Int))), some (.ref il), ys ++ [.ref tp], qs ++ [(L', z)], rfl, Same.mut (s57.trans s79) npl, upd_same,
        (partsV_append (hqs.tx (Tx.of (s7.trans s79))) (partsV_cons ⟨tp, v', rfl, etp, hL'.tx (Tx.of s9)⟩ partsV_nil)).tx T9, ?_, ?_, fun p' hp'' => ?_⟩
      · rw [List.length_append, hql]; rfl
      · rw [panesL_append, panesL_one, hqp, panesL_take ep, hp']
      · rcases List.mem_append.mp hp'' with g | g
        · exact hqg p' g
        · rw [List.mem_singleton.mp g]
          exact ⟨⟨by show -M ≤ z; omega, hs.2⟩, hG'⟩
    · rintro σ' H' ⟨_, y11, y12, ys, qs, rfl, sm, epl, hqs, hql, hqp, hqg⟩
      rw [lsz] at hql hqp
      have hql' : qs.length = ps.length := hql
      have hqp' : panesL qs = panesL ps := by
        rw [hqp]
        show panesL (ps.take ps.length) = _
        rw [List.take_length]
      -- return (layout[0], tuple(parts))
      refine ⟨_, rfl, a, _, 0, .str (dirS d), rfl, rfl, SqT.tx (sm _ _ h15), atI_nat (j := 0) rfl, _, rfl, pl, ys, rfl, .inl ⟨SqL.of epl, fun tl ntl => ⟨(by show 2 ≤ sizeLine; decide), fun tp ntp => ?_⟩⟩⟩
      have s1' : Same H' (upd H' tl (.tup ys)) := same_upd ntl
      have etl : (upd H' tl (.tup ys)) tl = some (.tup ys) := upd_same
      generalize upd H' tl (.tup ys) = H1' at s1' etl ntp
      have s2' : Same H1' (upd H1' tp (.tup [.str (dirS d), .ref tl])) := same_upd ntp
      refine q (.ref tp) (.node d qs) _ (s05.trans (sm.trans (s1'.trans s2'))) (layV_node upd_same (s2' _ _ etl) (hqs.tx (Tx.of (s1'.trans s2')))) (.node (by omega) (fun p hp => (hqg p hp).1) fun p hp => (hqg p hp).2) ?_
      rw [panes_node, panes_node, hqp']
theorem ok_lfit (T : Txt K mg) : ∀ n : Nat, FnOk P w K mg base CX0 (n + 1) T.lfit.f T.lfit.fd P_lfit (spFit n)
  | 0 => fn_none fun vs H Q E ⟨_, _, _, _, _, _, m, _, _, _, h, _⟩ => Nat.not_lt_zero m h
  | n + 1 => lfit_step T (ok_lfit T n)
end
end K20

set_option Elab.async false
set_option maxRecDepth 100000
set_option maxHeartbeats 4000000
set_option linter.all false
/-! boxes, all boxes, room -/
namespace K20
open PySem PySem.Spec PyProof.Rows L2
def BoxV (B : Int) (H : Hp) (y : V) : Prop := ∃ (b : Addr) (i r c w h : Int), y = .ref b ∧ H b = some (.tup [.int i, .int r, .int c, .int w, .int h]) ∧ (-B ≤ w ∧ w ≤ B) ∧ -B ≤ h ∧ h ≤ B
theorem BoxV.mono {B : Int} {H H' : Hp} {y : V} (s : Same H H') (h : BoxV B H y) : BoxV B H' y := by
  obtain ⟨b, i, r, c, w, h, e, hb, z⟩ := h
  exact ⟨b, i, r, c, w, h, e, s _ _ hb, z⟩
def spBoxes (n : Nat) : Sp := fun vs H Q _ => ∃ (v : V) (L : Lay) (r c w h B : Int) (m : Nat), vs = [v, .int r, .int c, .int w, .int h] ∧ LayV H L v ∧ Good B m L ∧ m < n ∧ L.panes.length ≤ 100 ∧ (-B ≤ w ∧ w ≤ B) ∧ (-B ≤ h ∧ h ≤ B) ∧
  ∀ (p : Addr) (H' : Hp) (ys : List V), Same H H' → H p = none → H' p = some (.lst ys) → ys.length = L.panes.length → (∀ y ∈ ys, BoxV B H' y) → Q (.ref p) H'
def spAll (n : Nat) : Sp := fun vs H Q _ => ∃ (v : V) (L : Lay) (w h B M : Int) (m : Nat), vs = [v, .int w, .int h] ∧ LayV H L v ∧ Good B m L ∧ m < n ∧ B ≤ 100000 ∧ L.panes.length ≤ 100 ∧ w ≤ M ∧ h ≤ M ∧ 3 * (L.panes.length : Int) ≤ M ∧ M ≤ 100000 ∧
  ∀ (p : Addr) (H' : Hp) (ys : List V), Same H H' → H p = none → H' p = some (.lst ys) → ys.length = L.panes.length → (∀ y ∈ ys, BoxV M H' y) → Q (.ref p) H'
def spRoom (n : Nat) : Sp := fun vs H Q _ => ∃ (v : V) (L : Lay) (w h B M : Int) (m : Nat) (pane : Int) (d : Bool), vs = [v, .int w, .int h, .int pane, .str (dirS d)] ∧ LayV H L v ∧ Good B m L ∧ m < n ∧ B ≤ 100000 ∧ L.panes.length ≤ 100 ∧ w ≤ M ∧ h ≤ M ∧ 3 * (L.panes.length : Int) ≤ M ∧ M ≤ 100000 ∧
  ∀ (z : Int) (H' : Hp), Same H H' → -M ≤ z → z ≤ M → Q (.int z) H'
section
variable {P : Program} {w : World} {K : PySem.W.Frag} {mg : Str → Option Value} {base : Heap}
theorem lboxes_step {n : Nat} (T : Txt K mg) (G_lboxes : FnOk P w K mg base CX0 n T.lboxes.f T.lboxes.fd P_lboxes (spBoxes n)) : FnOk P w K mg base CX0 (n + 1) T.lboxes.f T.lboxes.fd P_lboxes (spBoxes (n + 1)) := by
  refine T.lboxes.F.ok sc_lboxes (fun vs H Q E h => ?_) (fun cdv A outer s H vs Q E hr h => ?_)
  · obtain ⟨v, L, r, c, w, h, B, m, rfl, _⟩ := h
    rfl
  obtain ⟨v, L, r, c, w, h, B, m, rfl, hL, hG, hm, hlen, hw, hh, q⟩ := h
  have hr_lboxes := hr
  refine ⟨_, (pss_cons (ps_if (pt_val (pe_callB (isiS (K := K) rfl) rfl T.b.isinstance (by decide +kernel) (pa_cons (pv 0) (pa_cons (pe_bltn (v := .ty "int") rfl T.b.int (by decide +kernel) rfl) pa_nil))))
      (pss_one (ps_ret (pe_lst (pa_cons (pe_tup (pa_cons (pv 0) (pa_cons (pv 1) (pa_cons (pv 2) (pa_cons (pv 3) (pa_cons (pv 4) pa_nil)))))) pa_nil))))
      pss_nil)
    (pss_cons (ps_set (i := 5) sc_lboxes.nd rfl (Or.inl rfl) (pe_lst pa_nil))
    (pss_cons (ps_for PassesOwn.never rfl (pi_tup (pe_ix (ixT (K := K) rfl) (pv 0) pe_int (fun _ _ => rfl))) (pgT (K := K) (n := 2) rfl rfl (pgs_cons (pg_name (i := 6) sc_lboxes.nd rfl (Or.inl rfl)) (pgs_cons (pg_name (i := 7) sc_lboxes.nd rfl (Or.inl rfl)) pgs_nil)))
      (pss_one (ps_if (pt_cmpR op_eq (pe_ix (ixT (K := K) rfl) (pv 0) pe_int (fun _ _ => rfl)) pe_str (nomark _))
        (pss_cons (ps_set (i := 5) sc_lboxes.nd rfl (Or.inl rfl) (pe_op op_cat (pv 5) (pe_call G_lboxes hr_lboxes rfl T.lboxes.g T.lboxes.F.kp T.lboxes.bd .nil pass0 (pa_cons (pv 6) (pa_cons (pv 1) (pa_cons (pv 2) (pa_cons (pv 7) (pa_cons (pv 4) pa_nil))))))))
        (pss_one (ps_set (i := 2) sc_lboxes.nd rfl (Or.inl rfl) (pe_op op_add (pe_op op_add (pv 2) (pv 7)) pe_int))))
        (pss_cons (ps_set (i := 5) sc_lboxes.nd rfl (Or.inl rfl) (pe_op op_cat (pv 5) (pe_call G_lboxes hr_lboxes rfl T.lboxes.g T.lboxes.F.kp T.lboxes.bd .nil pass0 (pa_cons (pv 6) (pa_cons (pv 1) (pa_cons (pv 2) (pa_cons (pv 3) (pa_cons (pv 7) pa_nil))))))))
        (pss_one (ps_set (i := 1) sc_lboxes.nd rfl (Or.inl rfl) (pe_op op_add (pe_op op_add (pv 1) (pv 7)) pe_int)))))))
    (pss_one (ps_ret (pv 5)))))), ?_⟩
  cases L with
  | pane i =>
    cases layV_pane_iff hL
    refine ⟨_, rfl, _, _, _, _, true, rfl, .ty _, .base (.int _), kit_ty (by decide +kernel), true, rfl, iteT ?_⟩
    refine ⟨_, rfl, _, rfl, _, rfl, _, rfl, _, rfl, (by show 5 ≤ sizeLine; decide), fun t nt => ⟨(by show 1 ≤ sizeLine; decide), fun p np => ?_⟩⟩
    have s1 : Same H (upd H t (.tup [.int i, .int r, .int c, .int w, .int h])) := same_upd nt
    have et : (upd H t (.tup [.int i, .int r, .int c, .int w, .int h])) t = some (.tup [.int i, .int r, .int c, .int w, .int h]) := upd_same
    generalize upd H t (.tup [.int i, .int r, .int c, .int w, .int h]) = H1 at s1 et np
    refine q p _ [.ref t] (s1.trans (same_upd np)) (s1.free np) upd_same (by rw [panes_pane]; rfl) fun y hy => ?_
    rw [List.mem_singleton.mp hy]
    exact ⟨t, i, r, c, w, h, rfl, (same_upd np) _ _ et, hw, hh⟩
  | node d ps =>
    obtain ⟨a, t, xs, rfl, h1, h2, h3⟩ := layV_node_inv hL
    refine ⟨_, rfl, _, _, _, _, false, rfl, .ty _, .base (.tup h1), kit_ty (by decide +kernel), false, rfl, iteF ?_⟩
    obtain ⟨m', rfl, h2le, hsz, hps⟩ := hG.inv
    rw [panes_node] at hlen q
    refine ⟨Nat.zero_le _, fun o no => ?_⟩
    have s1 : Same H (upd H o (.lst [])) := same_upd no
    refine ⟨_, rfl, a, _, 1, .ref t, rfl, rfl, SqT.tx (s1 _ _ h1), atI_nat (j := 1) rfl, t, rfl, ⟨_, SqT.tx (s1 _ _ h2)⟩, for_tup (K := K) (a := t) (xs := xs)
      (fun i σ H' => ∃ r' c' o' y6 y7 ys, σ = [some (.ref a), some (.int r'), some (.int c'), some (.int w), some (.int h), some (.ref o'), y6, y7] ∧ Same H H' ∧ H o' = none ∧ H' o' = some (.lst ys) ∧ ys.length = (panesL (ps.take i)).length ∧ ∀ y ∈ ys, BoxV B H' y)
      ⟨r, c, o, none, none, [], rfl, s1, no, upd_same, rfl, fun y hy => by cases hy⟩ (fun i σ H' _ ⟨_, _, _, _, _, _, _, sm, _⟩ => SqT.tx (sm _ _ h2)) ?_ ?_⟩
    · rintro i x σ H' hi ⟨r', c', o', y6, y7, ys, rfl, sm, no', eo, ly, hys⟩
      obtain ⟨p, hp, b, v, rfl, hb, hv⟩ := partsV_get h3 hi
      have hb2 := hsz p (mem_at hp)
      have le := panes_mem_le (mem_at hp)
      have le2 := panesL_take_le (ps := ps) i
      have le3 := panesL_take hp
      refine ⟨b, [v, .int p.2], rfl, SqT.tx (sm _ _ hb), rfl, v, [.int p.2], rfl, .int p.2, [], rfl, rfl, ?_⟩
      have fin : ∀ (r2 : Addr) (H2 : Hp) (zs : List V), Same H' H2 → H' r2 = none → H2 r2 = some (.lst zs) → zs.length = p.1.panes.length → (∀ y ∈ zs, BoxV B H2 y) → ∀ z, H2 z = none →
          Same H (upd H2 z (.lst (ys ++ zs))) ∧ H z = none ∧ (upd H2 z (.lst (ys ++ zs))) z = some (.lst (ys ++ zs)) ∧ (ys ++ zs).length = (panesL (ps.take (i + 1))).length ∧ ∀ y ∈ ys ++ zs, BoxV B (upd H2 z (.lst (ys ++ zs))) y := by
        intro r2 H2 zs g2 nr2 er2 lz hz z nz
        refine ⟨sm.trans (g2.trans (same_upd nz)), (sm.trans g2).free nz, upd_same, ?_, fun y hy => ?_⟩
        · rw [List.length_append, ly, lz, le3, List.length_append]
        · rcases List.mem_append.mp hy with g | g
          · exact (hys y g).mono (g2.trans (same_upd nz))
          · exact (hz y g).mono (same_upd nz)
      refine ⟨_, rfl, a, _, 0, .str (dirS d), rfl, rfl, SqT.tx (sm _ _ h1), atI_nat (j := 0) rfl, rfl, _, rfl, ?_⟩
      cases d with
      | false =>
        refine ite2 (fun _ => ?_) (fun e => absurd (by decide +kernel) e)
        refine ⟨_, rfl, _, rfl, _, rfl, _, rfl, _, rfl, _, rfl, v, p.1, r', c', p.2, h, B, m', rfl, hv.tx (Tx.of sm), hps p (mem_at hp), by omega, by omega, hb2, hh, fun r2 H2 zs g2 nr2 er2 lz hz => ?_⟩
        refine ⟨o', r2, _, _, rfl, rfl, g2 _ _ eo, er2, sizeOk (by omega), fun z nz => ?_⟩
        refine ⟨_, rfl, _, rfl, _, _, rfl, rfl, _, _, rfl, rfl, ?_⟩
        exact ⟨r', c' + p.2 + 1, z, _, _, _, rfl, fin r2 H2 zs g2 nr2 er2 lz hz z nz⟩
      | true =>
        refine ite2 (fun e => absurd e (by decide +kernel)) (fun _ => ?_)
        refine ⟨_, rfl, _, rfl, _, rfl, _, rfl, _, rfl, _, rfl, v, p.1, r', c', w, p.2, B, m', rfl, hv.tx (Tx.of sm), hps p (mem_at hp), by omega, by omega, hw, hb2, fun r2 H2 zs g2 nr2 er2 lz hz => ?_⟩
        refine ⟨o', r2, _, _, rfl, rfl, g2 _ _ eo, er2, sizeOk (by omega), fun z nz => ?_⟩
        refine ⟨_, rfl, _, rfl, _, _, rfl, rfl, _, _, rfl, rfl, ?_⟩
        exact ⟨r' + p.2 + 1, c', z, _, _, _, rfl, fin r2 H2 zs g2 nr2 er2 lz hz z nz⟩
    · rintro σ H' ⟨r', c', o', y6, y7, ys, rfl, sm, no', eo, ly, hys⟩
      refine ⟨_, rfl, q o' H' ys sm no' eo ?_ hys⟩
      rw [ly, partsV_len h3, List.take_length]
theorem ok_lboxes (T : Txt K mg) : ∀ n : Nat, FnOk P w K mg base CX0 n T.lboxes.f T.lboxes.fd P_lboxes (spBoxes n)
  | 0 => fn_none fun vs H Q E ⟨_, _, _, _, _, _, _, m, _, _, _, h, _⟩ => Nat.not_lt_zero m h
  | n + 1 => lboxes_step T (ok_lboxes T n)
theorem ok_lallboxes (T : Txt K mg) (n : Nat) : FnOk P w K mg base CX0 (n + 2) T.lallboxes.f T.lallboxes.fd P_lallboxes (spAll n) := by
  have G_lleast := ok_lleast (P := P) (w := w) (base := base) T n
  have G_lfit := ok_lfit (P := P) (w := w) (base := base) T n
  have G_lboxes := ok_lboxes (P := P) (w := w) (base := base) T n
  refine T.lallboxes.F.ok sc_lallboxes (fun vs H Q E h => ?_) (fun cdv A outer s H vs Q E hr h => ?_)
  · obtain ⟨v, L, w, h, B, M, m, rfl, _⟩ := h
    rfl
  obtain ⟨v, L, w, h, B, M, m, rfl, hL, hG, hm, hB, hlen, hwM, hhM, hM3, hM, q⟩ := h
  have hr_lfit := hr
  have hr_lleast := hr.mono (j := n) (by omega)
  have hr_lboxes := hr.mono (j := n) (by omega)
  refine ⟨_, (pss_cons (ps_set (i := 3) sc_lallboxes.nd rfl (Or.inl rfl) (pe_call G_lleast hr_lleast rfl T.lleast.g T.lleast.F.kp T.lleast.bd .nil pass0 (pa_cons (pv 0) pa_nil)))
    (pss_one (ps_ret (pe_call G_lboxes hr_lboxes rfl T.lboxes.g T.lboxes.F.kp T.lboxes.bd .nil pass0 (pa_cons (pe_call G_lfit hr_lfit rfl T.lfit.g T.lfit.F.kp T.lfit.bd .nil pass0 (pa_cons (pv 0) (pa_cons (pv 1) (pa_cons (pv 2) pa_nil)))) (pa_cons pe_int (pa_cons pe_int (pa_cons (pe_callB (call_max2 rfl) rfl T.b.max (by decide +kernel) (pa_cons (pv 1) (pa_cons (pe_ix (ixL (K := K) rfl) (pv 3) pe_int (fun _ _ => rfl)) pa_nil))) (pa_cons (pe_callB (call_max2 rfl) rfl T.b.max (by decide +kernel) (pa_cons (pv 2) (pa_cons (pe_ix (ixL (K := K) rfl) (pv 3) pe_int (fun _ _ => rfl)) pa_nil))) pa_nil))))))))), ?_⟩
  have lb := low_bounds hG
  obtain ⟨lw, lh⟩ := low_le hG hM3
  refine ⟨_, rfl, v, L, B, m, rfl, hL, hG, hm, hlen, fun r H1 s1 nr er => ?_⟩
  refine ⟨_, rfl, _, rfl, _, rfl, v, L, w, h, B, M, m, rfl, hL.tx (Tx.of s1), hG, hm, hB, hlen, hwM, hhM, hM3, hM, fun v' L' H2 s2 hL' hG' hp => ?_⟩
  refine ⟨_, rfl, _, rfl, r, _, 0, _, rfl, rfl, SqL.of (s2 _ _ er), atI_nat (j := 0) rfl, _, _, rfl, _, rfl, _, rfl, r, _, 1, _, rfl, rfl, SqL.of (s2 _ _ er), atI_nat (j := 1) rfl, _, _, rfl, ?_⟩
  have g1 := mxp_ge w L.low.1
  have g2 := mxp_ge h L.low.2
  refine ⟨v', L', 0, 0, mxp w L.low.1, mxp h L.low.2, M, m, rfl, hL', hG', hm, by rw [hp]; exact hlen, ⟨by omega, mxp_le hwM lw⟩, ⟨by omega, mxp_le hhM lh⟩, fun p H3 ys s3 np ep ly hys => ?_⟩
  exact q p H3 ys (s1.trans (s2.trans s3)) ((s1.trans s2).free np) ep (by rw [ly, hp]) hys
theorem ok_lroom (T : Txt K mg) (n : Nat) : FnOk P w K mg base CX0 (n + 3) T.lroom.f T.lroom.fd P_lroom (spRoom n) := by
  have G_lallboxes := ok_lallboxes (P := P) (w := w) (base := base) T n
  refine T.lroom.F.ok sc_lroom (fun vs H Q E h => ?_) (fun cdv A outer s H vs Q E hr h => ?_)
  · obtain ⟨v, L, w, h, B, M, m, pane, d, rfl, _⟩ := h
    rfl
  obtain ⟨v, L, w, h, B, M, m, pane, d, rfl, hL, hG, hm, hB, hlen, hwM, hhM, hM3, hM, q⟩ := h
  have hr_lallboxes := hr
  refine ⟨_, (pss_cons (ps_for PassesOwn.never rfl (pi_list (pe_call G_lallboxes hr_lallboxes rfl T.lallboxes.g T.lallboxes.F.kp T.lallboxes.bd .nil pass0 (pa_cons (pv 0) (pa_cons (pv 1) (pa_cons (pv 2) pa_nil))))) (pg_name (i := 5) sc_lroom.nd rfl (Or.inl rfl))
      (pss_one (ps_if (pt_cmpR op_eq (pe_ix (ixT (K := K) rfl) (pv 5) pe_int (fun _ _ => rfl)) (pv 3) (nomark _))
        (pss_one (ps_ret (pe_ix (ixT (K := K) rfl) (pv 5) (pe_op op_add pe_int (pe_callTy call_int1 rfl T.b.int (by decide +kernel) (pa_cons (pe_cmpR op_eq (pv 4) pe_str (nomark _)) pa_nil))) (fun _ _ => rfl))))
        pss_nil)))
    (pss_one (ps_ret pe_int))), ?_⟩
  refine ⟨_, rfl, _, rfl, _, rfl, v, L, w, h, B, M, m, rfl, hL, hG, hm, hB, hlen, hwM, hhM, hM3, hM, fun p H1 ys s1 np ep ly hys => ?_⟩
  refine ⟨p, rfl, ⟨_, SqL.of ep⟩, for_list (K := K) (a := p) (xs := ys) (fun i σ H' => ∃ y5, σ = [some v, some (.int w), some (.int h), some (.int pane), some (.str (dirS d)), y5] ∧ H' = H1) ⟨none, rfl, rfl⟩ (fun i σ H' _ ⟨_, _, e⟩ => by rw [e]; exact SqL.of ep) ?_ ?_⟩
  · rintro i x σ H' hi ⟨y5, rfl, rfl⟩
    obtain ⟨b, j, r, c, w2, h2, rfl, hb, hw2, hh2⟩ := hys x (mem_at hi)
    refine ⟨_, rfl, b, _, 0, .int j, rfl, rfl, SqT.tx hb, atI_nat (j := 0) rfl, _, rfl, rfl, _, rfl, ite2 (fun c1 => ?_) (fun c1 => ?_)⟩
    · refine ⟨_, rfl, _, rfl, rfl, .inr ⟨_, rfl, _, _, rfl, rfl, b, _, _, .int (if d then h2 else w2), rfl, rfl, SqT.tx hb, ?_, ?_⟩⟩
      · rw [ax_of]
        cases d <;> rfl
      · refine q _ _ s1 ?_ ?_
        · cases d
          · exact hw2.1
          · exact hh2.1
        · cases d
          · exact hw2.2
          · exact hh2.2
    · exact ⟨_, rfl, rfl⟩
  · rintro σ H' ⟨y5, rfl, rfl⟩
    exact q 0 _ s1 (by omega) (by omega)
end
end K20

set_option Elab.async false
set_option maxRecDepth 100000
set_option maxHeartbeats 4000000
set_option linter.all false
/-! with_new -/
namespace K20
open PySem PySem.Spec PyProof.Rows L2
theorem if_test {c : TT} {t u : TS} {D : Ends} {σ : L2.St} {H : Hp} (b : Bool) (hc : ∀ Q : Bool → Hp → Prop, Q b H → c σ H Q) (h : if b = true then t D σ H else u D σ H) : tIfS c t u D σ H := hc _ h
/-- what becomes of the panes -/
def nw (pane new : Int) (ns : List Int) : List Int := ns.flatMap fun p => if p = pane then [pane, new] else [p]
theorem nw_append (pane new : Int) (xs ys : List Int) : nw pane new (xs ++ ys) = nw pane new xs ++ nw pane new ys := List.flatMap_append
theorem nw_one (pane new i : Int) : nw pane new [i] = if i = pane then [pane, new] else [i] := by
  unfold nw
  rw [List.flatMap_cons, List.flatMap_nil, List.append_nil]
def isP (pane : Int) : Lay → Bool
  | .pane i => decide (i = pane)
  | .node _ _ => false
theorem isP_true {pane : Int} {l : Lay} (h : isP pane l = true) : l = .pane pane := by
  cases l with
  | pane i => rw [of_decide_eq_true h]
  | node d ps => cases h
theorem dirS_eq (d e : Bool) : decide (V.str (dirS d) = V.str (dirS e)) = decide (d = e) := by
  cases d <;> cases e <;> decide +kernel
def spWithNew (n : Nat) : Sp := fun vs H Q _ => ∃ (v : V) (L : Lay) (pane : Int) (d : Bool) (new size B : Int) (m : Nat), vs = [v, .int pane, .str (dirS d), .int new, .int size] ∧ LayV H L v ∧ Good B m L ∧ m < n ∧ L.panes.length ≤ 100 ∧ -B ≤ size ∧ size ≤ B ∧
  ∀ (v' : V) (L' : Lay) (H' : Hp), Same H H' → LayV H' L' v' → Good (B + 1) (m + 1) L' → L'.panes = nw pane new L.panes → Q v' H'
section
variable {P : Program} {w : World} {K : PySem.W.Frag} {mg : Str → Option Value} {base : Heap}
theorem lwithnew_step {n : Nat} (T : Txt K mg) (G_lwithnew : FnOk P w K mg base CX0 n T.lwithnew.f T.lwithnew.fd P_lwithnew (spWithNew n)) : FnOk P w K mg base CX0 (n + 1) T.lwithnew.f T.lwithnew.fd P_lwithnew (spWithNew (n + 1)) := by
  refine T.lwithnew.F.ok sc_lwithnew (fun vs H Q E h => ?_) (fun cdv A outer s H vs Q E hr h => ?_)
  · obtain ⟨v, L, pane, d, new, size, B, m, rfl, _⟩ := h
    rfl
  obtain ⟨v, L, pane, d, new, size, B, m, rfl, hL, hG, hm, hlen, hz0, hz1, q⟩ := h
  have hr_lwithnew := hr
  refine ⟨_, (pss_cons (ps_set (i := 5) sc_lwithnew.nd rfl (Or.inl rfl) (pe_tup (pa_cons (pe_tup (pa_cons (pv 1) (pa_cons (pe_op op_sub (pe_op op_sub (pv 4) pe_int) (pe_op op_fdiv (pe_op op_sub (pv 4) pe_int) pe_int)) pa_nil))) (pa_cons (pe_tup (pa_cons (pv 3) (pa_cons (pe_op op_fdiv (pe_op op_sub (pv 4) pe_int) pe_int) pa_nil))) pa_nil))))
    (pss_cons (ps_if (pt_val (pe_callB (isiS (K := K) rfl) rfl T.b.isinstance (by decide +kernel) (pa_cons (pv 0) (pa_cons (pe_bltn (v := .ty "int") rfl T.b.int (by decide +kernel) rfl) pa_nil))))
      (pss_cons (ps_if (pt_cmpR op_eq (pv 0) (pv 1) (nomark _))
        (pss_one (ps_ret (pe_tup (pa_cons (pv 2) (pa_cons (pv 5) pa_nil)))))
        pss_nil)
      (pss_one (ps_ret (pv 0))))
      pss_nil)
    (pss_cons (ps_set (i := 6) sc_lwithnew.nd rfl (Or.inl rfl) (pe_lst pa_nil))
    (pss_cons (ps_for PassesOwn.never rfl (pi_tup (pe_ix (ixT (K := K) rfl) (pv 0) pe_int (fun _ _ => rfl))) (pgT (K := K) (n := 2) rfl rfl (pgs_cons (pg_name (i := 7) sc_lwithnew.nd rfl (Or.inl rfl)) (pgs_cons (pg_name (i := 8) sc_lwithnew.nd rfl (Or.inl rfl)) pgs_nil)))
      (pss_one (ps_if (PW.pt (pw_and (pt_cmpR (op_eqLI (K := K) rfl hr.units0) (pv 7) (pv 1) (nomark _)) (pw_and1 (pt_cmpR op_eq (pe_ix (ixT (K := K) rfl) (pv 0) pe_int (fun _ _ => rfl)) (pv 2) (nomark _)))))
        (pss_one (ps_set (i := 6) sc_lwithnew.nd rfl (Or.inl rfl) (pe_op op_cat (pv 6) (pe_callTy (listS (K := K) rfl) rfl T.b.list (by decide +kernel) (pa_cons (pv 5) pa_nil)))))
        (pss_one (ps_expr (pe_bm PySem.F.plainAttrs_list PySem.F.slot_list_append PySem.F.type_list_append mt_append (pv 6) (pa_cons (pe_tup (pa_cons (pe_call G_lwithnew hr_lwithnew rfl T.lwithnew.g T.lwithnew.F.kp T.lwithnew.bd .nil pass0 (pa_cons (pv 7) (pa_cons (pv 1) (pa_cons (pv 2) (pa_cons (pv 3) (pa_cons (pv 4) pa_nil)))))) (pa_cons (pv 8) pa_nil))) pa_nil)))))))
    (pss_one (ps_ret (pe_tup (pa_cons (pe_ix (ixT (K := K) rfl) (pv 0) pe_int (fun _ _ => rfl)) (pa_cons (pe_callTy (tupleS (K := K) rfl) rfl T.b.tuple (by decide +kernel) (pa_cons (pv 6) pa_nil)) pa_nil))))))))), ?_⟩
  have two : 2 ≤ sizeLine := by decide
  -- pair
  refine ⟨_, rfl, _, rfl, _, _, rfl, rfl, _, rfl, _, _, rfl, rfl, _, _, rfl, rfl, ⟨by decide, by decide⟩, _, _, rfl, rfl, two, fun t1 n1 => ⟨_, rfl, _, rfl, _, _, rfl, rfl, _, _, rfl, rfl, ⟨by decide, by decide⟩, two, fun t2 n2 => ⟨two, fun pr npr => ?_⟩⟩⟩
  have z1 : -(B + 1) ≤ size - 1 - (size - 1) / 2 ∧ size - 1 - (size - 1) / 2 ≤ B + 1 := by omega
  have z2 : -(B + 1) ≤ (size - 1) / 2 ∧ (size - 1) / 2 ≤ B + 1 := by omega
  have s1 : Same H (upd H t1 (.tup [.int pane, .int (size - 1 - (size - 1) / 2)])) := same_upd n1
  have et1 : (upd H t1 (.tup [.int pane, .int (size - 1 - (size - 1) / 2)])) t1 = some (.tup [.int pane, .int (size - 1 - (size - 1) / 2)]) := upd_same
  dsimp only at n2 npr ⊢
  generalize size - 1 - (size - 1) / 2 = a1 at *
  generalize (size - 1) / 2 = a2 at *
  generalize upd H t1 (.tup [.int pane, .int a1]) = H1 at *
  have s2 : Same H1 (upd H1 t2 (.tup [.int new, .int a2])) := same_upd n2
  have et2 : (upd H1 t2 (.tup [.int new, .int a2])) t2 = some (.tup [.int new, .int a2]) := upd_same
  generalize upd H1 t2 (.tup [.int new, .int a2]) = H2 at *
  have s3 : Same H2 (upd H2 pr (.tup [.ref t1, .ref t2])) := same_upd npr
  have epr : (upd H2 pr (.tup [.ref t1, .ref t2])) pr = some (.tup [.ref t1, .ref t2]) := upd_same
  generalize upd H2 pr (.tup [.ref t1, .ref t2]) = H3 at *
  have s03 := s1.trans (s2.trans s3)
  have et1' := s3 _ _ (s2 _ _ et1)
  have et2' := s3 _ _ et2
  have hpair : PartsV H3 [(.pane pane, a1), (.pane new, a2)] [.ref t1, .ref t2] := partsV_cons ⟨t1, .int pane, rfl, et1', layV_pane⟩ (partsV_cons ⟨t2, .int new, rfl, et2', layV_pane⟩ partsV_nil)
  have gpair : ∀ k : Nat, ∀ p ∈ [((.pane pane, a1) : Lay × Int), (.pane new, a2)], (-(B + 1) ≤ p.2 ∧ p.2 ≤ B + 1) ∧ Good (B + 1) k p.1 := fun k p hp => by
    rcases List.mem_cons.mp hp with rfl | hp
    · exact ⟨z1, .pane _⟩
    · rw [List.mem_singleton.mp hp]
      exact ⟨z2, .pane _⟩
  have ppair : panesL [((.pane pane, a1) : Lay × Int), (.pane new, a2)] = [pane, new] := rfl
  cases L with
  | pane i =>
    cases layV_pane_iff hL
    refine ⟨_, rfl, _, _, _, _, true, rfl, .ty _, .base (.int _), kit_ty (by decide +kernel), true, rfl, iteT ?_⟩
    refine ⟨_, rfl, _, rfl, rfl, _, rfl, ite2 (fun c => ?_) (fun c => ?_)⟩
    · have e : i = pane := V.int.inj (of_decide_eq_true c)
      subst e
      refine ⟨_, rfl, _, rfl, two, fun p np => ?_⟩
      have s4 : Same H3 (upd H3 p (.tup [.str (dirS d), .ref pr])) := same_upd np
      refine q (.ref p) (.node d [(.pane i, a1), (.pane new, a2)]) _ (s03.trans s4) (layV_node upd_same (s4 _ _ epr) (hpair.tx (Tx.of s4))) (.node (Nat.le_refl _) (fun p hp => (gpair 0 p hp).1) fun p hp => (gpair m p hp).2) ?_
      rw [panes_node, ppair, panes_pane, nw_one, if_pos rfl]
    · have e : ¬ i = pane := fun z => c (decide_eq_true (by rw [z]))
      refine ⟨_, rfl, q _ (.pane i) _ s03 layV_pane (.pane i) ?_⟩
      rw [panes_pane, nw_one, if_neg e]
  | node dl ps =>
    obtain ⟨a, t, xs, rfl, h1, h2, h3⟩ := layV_node_inv hL
    refine ⟨_, rfl, _, _, _, _, false, rfl, .ty _, .base (.tup (s03 _ _ h1)), kit_ty (by decide +kernel), false, rfl, iteF ?_⟩
    obtain ⟨m', rfl, h2le, hsz, hps⟩ := hG.inv
    have hple := panesL_len fun p hp => (hps p hp).panes1
    rw [panes_node] at hlen q
    have h13 := s03 _ _ h1
    have h23 := s03 _ _ h2
    have h33 := h3.tx (Tx.of s03)
    refine ⟨Nat.zero_le _, fun o no => ?_⟩
    refine ⟨_, rfl, a, _, 1, .ref t, rfl, rfl, SqT.tx ((same_upd no) _ _ h13), atI_nat (j := 1) rfl, t, rfl, ⟨_, SqT.tx ((same_upd no) _ _ h23)⟩, for_tup (K := K) (a := t) (xs := xs)
      (fun i σ H' => i ≤ ps.length ∧ ∃ o' y7 y8 ys qs, σ = [some (.ref a), some (.int pane), some (.str (dirS d)), some (.int new), some (.int size), some (.ref pr), some (.ref o'), y7, y8] ∧ Same H3 H' ∧ H3 o' = none ∧ H' o' = some (.lst ys) ∧
        PartsV H' qs ys ∧ i ≤ qs.length ∧ qs.length ≤ 2 * i ∧ panesL qs = nw pane new (panesL (ps.take i)) ∧ ∀ p ∈ qs, (-(B + 1) ≤ p.2 ∧ p.2 ≤ B + 1) ∧ Good (B + 1) (m' + 1) p.1)
      ⟨Nat.zero_le _, o, none, none, [], [], rfl, same_upd no, no, upd_same, partsV_nil, Nat.le_refl _, Nat.le_refl _, rfl, fun p hp => by cases hp⟩ (fun i σ H' _ ⟨_, _, _, _, _, _, _, sm, _⟩ => SqT.tx (sm _ _ h23)) ?_ ?_⟩
    · rintro i x σ H' hi ⟨_, o', y7, y8, ys, qs, rfl, sm, no', eo, hqs, hq1, hq2, hqp, hqg⟩
      obtain ⟨p, hp, b, v, rfl, hb, hv⟩ := partsV_get h33 hi
      have hip := lt_of_at hp
      have hb2 := hsz p (mem_at hp)
      have le := panes_mem_le (mem_at hp)
      have lys := partsV_len hqs
      refine ⟨b, [v, .int p.2], rfl, SqT.tx (sm _ _ hb), rfl, v, [.int p.2], rfl, .int p.2, [], rfl, rfl, ?_⟩
      refine if_test (isP pane p.1 && decide (dl = d)) (fun R hR => ?_) ?_
      · have second : ∀ R : Bool → Hp → Prop, R (decide (dl = d)) H' → tTest (tOp rEq (tOp (rIxT K) (tVar 0) (tC (.int 0))) (tVar 2)) [some (.ref a), some (.int pane), some (.str (dirS d)), some (.int new), some (.int size), some (.ref pr), some (.ref o'), some v, some (.int p.2)] H' R := fun R hR => by
          refine ⟨_, rfl, a, _, 0, .str (dirS dl), rfl, rfl, SqT.tx (sm _ _ h13), atI_nat (j := 0) rfl, _, rfl, rfl, _, rfl, ?_⟩
          rw [dirS_eq]
          exact hR
        generalize hl : p.1 = l at hv hR
        cases l with
        | pane i' =>
          cases layV_pane_iff hv
          refine ⟨_, rfl, _, rfl, pane, rfl, .inl ⟨i', rfl, _, rfl, ite2 (fun c => ?_) (fun c => ?_)⟩⟩
          · refine second _ ?_
            rw [show isP pane (.pane i') = true from c, Bool.true_and] at hR
            exact hR
          · rw [show isP pane (.pane i') = false from Bool.eq_false_iff.mpr c, Bool.false_and] at hR
            exact hR
        | node d' ps' =>
          obtain ⟨a', t', xs', rfl, g1, _, _⟩ := layV_node_inv hv
          exact ⟨_, rfl, _, rfl, pane, rfl, .inr ⟨a', _, rfl, SqT.tx (sm _ _ g1), _, rfl, hR⟩⟩
      · cases hb' : (isP pane p.1 && decide (dl = d)) with
        | true =>
          obtain ⟨c1, c2⟩ := (Bool.and_eq_true_iff.mp hb')
          have e1 := isP_true c1
          -- parts = parts + list(pair)
          refine ⟨_, rfl, _, rfl, pr, _, rfl, .inr (SqT.tx (sm _ _ epr)), fun l nl => ?_⟩
          have s4 : Same H' (upd H' l (.lst [.ref t1, .ref t2])) := same_upd nl
          refine ⟨o', l, _, _, rfl, rfl, s4 _ _ eo, upd_same, sizeOk (by show ys.length + 2 ≤ 1000; omega), fun z nz => ?_⟩
          have s5 : Same (upd H' l (.lst [.ref t1, .ref t2])) (upd (upd H' l (.lst [.ref t1, .ref t2])) z (.lst (ys ++ [.ref t1, .ref t2]))) := same_upd nz
          refine ⟨hip, z, _, _, _, qs ++ [(.pane pane, a1), (.pane new, a2)], rfl, sm.trans (s4.trans s5), (sm.trans s4).free nz, upd_same, partsV_append (hqs.tx (Tx.of (s4.trans s5))) (hpair.tx (Tx.of (sm.trans (s4.trans s5)))), ?_, ?_, ?_, fun p' hp' => ?_⟩
          · rw [List.length_append]
            show i + 1 ≤ qs.length + 2
            omega
          · rw [List.length_append]
            show qs.length + 2 ≤ 2 * (i + 1)
            omega
          · rw [panesL_append, ppair, hqp, panesL_take hp, e1, nw_append, panes_pane, nw_one, if_pos rfl]
          · rcases List.mem_append.mp hp' with g | g
            · exact hqg p' g
            · exact gpair _ p' g
        | false =>
          -- parts.append((with_new(inner, ..), room_here))
          refine ⟨_, rfl, .inl ⟨rfl, _, SqL.of eo⟩, _, rfl, _, rfl, _, rfl, _, rfl, _, rfl, v, p.1, pane, d, new, size, B, m', rfl, hv.tx (Tx.of sm), hps p (mem_at hp), by omega, by omega, hz0, hz1, fun v' L' H4 s4 hL' hG' hp' => ?_⟩
          refine ⟨_, rfl, two, fun tp ntp => ?_⟩
          have s5 : Same H4 (upd H4 tp (.tup [v', .int p.2])) := same_upd ntp
          have etp : (upd H4 tp (.tup [v', .int p.2])) tp = some (.tup [v', .int p.2]) := upd_same
          generalize upd H4 tp (.tup [v', .int p.2]) = H5 at s5 etp
          have s45 := s4.trans s5
          have eo5 := s45 _ _ eo
          refine ⟨o', ys, .ref tp, rfl, rfl, eo5, small1000 (by omega), ?_⟩
          have T5 : Tx H5 (upd H5 o' (.lst (ys ++ [.ref tp]))) := Tx.lst eo5 _
          refine ⟨hip, o', _, _, ys ++ [.ref tp], qs ++ [(L', p.2)], rfl, Same.mut (sm.trans s45) no', no', upd_same, (partsV_append (hqs.tx (Tx.of s45)) (partsV_cons (p := (L', p.2)) ⟨tp, v', rfl, etp, hL'.tx (Tx.of s5)⟩ partsV_nil)).tx T5, ?_, ?_, ?_, fun p' hp'' => ?_⟩
          · rw [List.length_append]
            show i + 1 ≤ qs.length + 1
            omega
          · rw [List.length_append]
            show qs.length + 1 ≤ 2 * (i + 1)
            omega
          · rw [panesL_append, panesL_one, hqp, panesL_take hp, hp', nw_append]
          · rcases List.mem_append.mp hp'' with g | g
            · exact hqg p' g
            · rw [List.mem_singleton.mp g]
              exact ⟨⟨by show -(B + 1) ≤ p.2; omega, by show p.2 ≤ B + 1; omega⟩, hG'⟩
    · rintro σ H' ⟨_, o', y7, y8, ys, qs, rfl, sm, no', eo, hqs, hq1, hq2, hqp, hqg⟩
      rw [partsV_len h3] at hq1 hqp
      rw [List.take_length] at hqp
      refine ⟨_, rfl, a, _, 0, .str (dirS dl), rfl, rfl, SqT.tx (sm _ _ h13), atI_nat (j := 0) rfl, _, rfl, o', ys, rfl, .inl ⟨SqL.of eo, fun tl ntl => ⟨two, fun tp ntp => ?_⟩⟩⟩
      have s1' : Same H' (upd H' tl (.tup ys)) := same_upd ntl
      have etl : (upd H' tl (.tup ys)) tl = some (.tup ys) := upd_same
      generalize upd H' tl (.tup ys) = H1' at s1' etl ntp
      have s2' : Same H1' (upd H1' tp (.tup [.str (dirS dl), .ref tl])) := same_upd ntp
      refine q (.ref tp) (.node dl qs) _ (s03.trans (sm.trans (s1'.trans s2'))) (layV_node upd_same (s2' _ _ etl) (hqs.tx (Tx.of (s1'.trans s2')))) (.node (by omega) (fun p hp => (hqg p hp).1) fun p hp => (hqg p hp).2) ?_
      rw [panes_node, hqp]
theorem ok_lwithnew (T : Txt K mg) : ∀ n : Nat, FnOk P w K mg base CX0 n T.lwithnew.f T.lwithnew.fd P_lwithnew (spWithNew n)
  | 0 => fn_none fun vs H Q E ⟨_, _, _, _, _, _, _, m, _, _, _, h, _⟩ => Nat.not_lt_zero m h
  | n + 1 => lwithnew_step T (ok_lwithnew T n)
end
end K20

set_option Elab.async false
set_option maxRecDepth 100000
set_option maxHeartbeats 4000000
set_option linter.all false
/-! divided, taken -/
namespace K20
open PySem PySem.Spec PyProof.Rows L2
def spDivided (n : Nat) : Sp := fun vs H Q _ => ∃ (v : V) (L : Lay) (w h M : Int) (m : Nat) (pane : Int) (d : Bool) (new : Int), vs = [v, .int w, .int h, .int pane, .str (dirS d), .int new] ∧ LayV H L v ∧ Good M m L ∧ m + 1 < n ∧ L.panes.length ≤ 100 ∧ (nw pane new L.panes).length ≤ 100 ∧
  w ≤ M ∧ h ≤ M ∧ 3 * (L.panes.length : Int) ≤ M ∧ 3 * ((nw pane new L.panes).length : Int) ≤ M ∧ M ≤ 1000 ∧ (∀ H', Same H H' → Q .non H') ∧
  ∀ (v' : V) (L' : Lay) (H' : Hp), Same H H' → LayV H' L' v' → Good M (m + 1) L' → L'.panes = nw pane new L.panes → Q v' H'
/-- how far sizes may grow when a pane is taken out -/
def BB (B : Int) : Nat → Int
  | 0 => B + 1
  | m + 1 => BB B m + (B + 1)
theorem BB_ge {B : Int} (h : 0 ≤ B) : ∀ m, B + 1 ≤ BB B m
  | 0 => Int.le_refl _
  | m + 1 => by
    have := BB_ge h m
    show B + 1 ≤ BB B m + (B + 1)
    omega
theorem BB_le {B : Int} (h : B ≤ 1000) : ∀ m : Nat, BB B m ≤ 1001 * ((m : Int) + 1)
  | 0 => by show B + 1 ≤ _; omega
  | m + 1 => by
    have := BB_le h m
    show BB B m + (B + 1) ≤ _
    rw [Int.natCast_add]
    omega
/-- the panes but one -/
def wo (pane : Int) (ns : List Int) : List Int := ns.filter fun p => !decide (p = pane)
theorem wo_append (pane : Int) (xs ys : List Int) : wo pane (xs ++ ys) = wo pane xs ++ wo pane ys := List.filter_append xs ys
theorem wo_self (pane : Int) : wo pane [pane] = [] := by
  unfold wo
  rw [List.filter_cons, decide_eq_true rfl]
  rfl
theorem wo_other {pane i : Int} (h : i ≠ pane) : wo pane [i] = [i] := by
  unfold wo
  rw [List.filter_cons, decide_eq_false h]
  rfl
theorem panes_in_take {ps : List (Lay × Int)} {k i : Nat} {p : Lay × Int} {x : Int} (h : ps[k]? = some p) (hk : k < i) (hx : x ∈ p.1.panes) : x ∈ panesL (ps.take i) := by
  induction i with
  | zero => omega
  | succ i ih =>
    by_cases e : k = i
    · subst e
      rw [panesL_take h]
      exact List.mem_append_right _ hx
    · have := ih (by omega)
      by_cases hi : i < ps.length
      · rw [panesL_take (List.getElem?_eq_getElem hi)]
        exact List.mem_append_left _ this
      · rw [List.take_of_length_le (by omega)] at this ⊢
        exact this
theorem nodup_take {ps : List (Lay × Int)} (h : (panesL ps).Nodup) (i : Nat) : (panesL (ps.take i)).Nodup := by
  have e := panesL_append (ps.take i) (ps.drop i)
  rw [List.take_append_drop] at e
  rw [e] at h
  exact (List.nodup_append.mp h).1
theorem not_twice {ps : List (Lay × Int)} {k i : Nat} {p q : Lay × Int} {x : Int} (h : (panesL ps).Nodup) (hk : k < i) (h1 : ps[k]? = some p) (h2 : ps[i]? = some q) (x1 : x ∈ p.1.panes) (x2 : x ∈ q.1.panes) : False := by
  have n := nodup_take h (i + 1)
  rw [panesL_take h2] at n
  exact (List.nodup_append.mp n).2.2 x (panes_in_take h1 hk x1) x x2 rfl
theorem nodup_part {ps : List (Lay × Int)} {i : Nat} {p : Lay × Int} (h : (panesL ps).Nodup) (h2 : ps[i]? = some p) : p.1.panes.Nodup := by
  have n := nodup_take h (i + 1)
  rw [panesL_take h2] at n
  exact (List.nodup_append.mp n).2.1
theorem panesL_set : ∀ {qs : List (Lay × Int)} {j : Nat} {p : Lay × Int} {z : Int}, qs[j]? = some p → panesL (qs.set j (p.1, z)) = panesL qs
  | [], j, p, z, h => by simp at h
  | q :: qs, 0, p, z, h => by
    have e : q = p := Option.some.inj h
    subst e
    rfl
  | q :: qs, j + 1, p, z, h => by
    obtain ⟨l, s⟩ := q
    have ih := panesL_set (qs := qs) (j := j) (p := p) (z := z) (by simpa using h)
    rw [List.set_cons_succ]
    simp only [panesL, ih]
def sameDir (d : Bool) : Lay → Bool
  | .pane _ => false
  | .node d' _ => decide (d' = d)
def spTaken (n : Nat) : Sp := fun vs H Q _ => ∃ (v : V) (L : Lay) (pane B : Int) (m : Nat), vs = [v, .int pane] ∧ LayV H L v ∧ Good B m L ∧ m < n ∧ L.panes.length ≤ 100 ∧ 0 ≤ B ∧ L.panes.Nodup ∧ L ≠ .pane pane ∧
  ∀ (v' : V) (L' : Lay) (H' : Hp), Same H H' → LayV H' L' v' → Good (BB B m) m L' → L'.panes = wo pane L.panes → Q v' H'
section
variable {P : Program} {w : World} {K : PySem.W.Frag} {mg : Str → Option Value} {base : Heap}
theorem ok_ldivided (T : Txt K mg) (n : Nat) : FnOk P w K mg base CX0 (n + 4) T.ldivided.f T.ldivided.fd P_ldivided (spDivided n) := by
  have G_lroom := ok_lroom (P := P) (w := w) (base := base) T n
  have G_lfit := ok_lfit (P := P) (w := w) (base := base) T n
  have G_lwithnew := ok_lwithnew (P := P) (w := w) (base := base) T n
  refine T.ldivided.F.ok sc_ldivided (fun vs H Q E h => ?_) (fun cdv A outer s H vs Q E hr h => ?_)
  · obtain ⟨v, L, w, h, M, m, pane, d, new, rfl, _⟩ := h
    rfl
  obtain ⟨v, L, w, h, M, m, pane, d, new, rfl, hL, hG, hm, hlen, hlen2, hwM, hhM, hM3, hM4, hM, qn, q⟩ := h
  have hr_lroom := hr
  have hr_lfit := hr.mono (j := n + 1) (by omega)
  have hr_lwithnew := hr.mono (j := n) (by omega)
  refine ⟨_, (pss_cons (ps_set (i := 6) sc_ldivided.nd rfl (Or.inl rfl) (pe_call G_lroom hr_lroom rfl T.lroom.g T.lroom.F.kp T.lroom.bd .nil pass0 (pa_cons (pv 0) (pa_cons (pv 1) (pa_cons (pv 2) (pa_cons (pv 3) (pa_cons (pv 4) pa_nil)))))))
    (pss_cons (ps_if (pt_cmpR op_lt (pv 6) (pe_op op_sub pe_int (pe_op op_mul pe_int (pe_callTy call_int1 rfl T.b.int (by decide +kernel) (pa_cons (pe_cmpR op_eq (pv 4) pe_str (nomark _)) pa_nil)))) (nomark _))
      (pss_one (ps_ret pe_non))
      pss_nil)
    (pss_one (ps_ret (pe_call G_lfit hr_lfit rfl T.lfit.g T.lfit.F.kp T.lfit.bd .nil pass0 (pa_cons (pe_call G_lwithnew hr_lwithnew rfl T.lwithnew.g T.lwithnew.F.kp T.lwithnew.bd .nil pass0 (pa_cons (pe_call G_lfit hr_lfit rfl T.lfit.g T.lfit.F.kp T.lfit.bd .nil pass0 (pa_cons (pv 0) (pa_cons (pv 1) (pa_cons (pv 2) pa_nil)))) (pa_cons (pv 3) (pa_cons (pv 4) (pa_cons (pv 5) (pa_cons (pv 6) pa_nil)))))) (pa_cons (pv 1) (pa_cons (pv 2) pa_nil)))))))), ?_⟩
  refine ⟨_, rfl, _, rfl, _, rfl, _, rfl, _, rfl, v, L, w, h, M, M, m, pane, d, rfl, hL, hG, by omega, by omega, hlen, hwM, hhM, hM3, by omega, fun z H1 s1 z0 z1 => ?_⟩
  refine ⟨_, rfl, _, rfl, rfl, .inr ⟨_, rfl, _, _, rfl, rfl, .inl ⟨by decide, by decide⟩, _, _, rfl, rfl, _, _, rfl, rfl, _, rfl, ite2 (fun c => ?_) (fun c => ?_)⟩⟩
  · exact qn _ s1
  · refine ⟨_, rfl, _, rfl, _, rfl, v, L, w, h, M, M, m, rfl, hL.tx (Tx.of s1), hG, by omega, by omega, hlen, hwM, hhM, hM3, by omega, fun v1 L1 H2 s2 hL1 hG1 hp1 => ?_⟩
    refine ⟨_, rfl, _, rfl, _, rfl, _, rfl, v1, L1, pane, d, new, z, M, m, rfl, hL1, hG1, by omega, by rw [hp1]; exact hlen, z0, z1, fun v2 L2 H3 s3 hL2 hG2 hp2 => ?_⟩
    rw [hp1] at hp2
    refine ⟨_, rfl, _, rfl, v2, L2, w, h, M + 1, M, m + 1, rfl, hL2, hG2, hm, by omega, by rw [hp2]; exact hlen2, hwM, hhM, by rw [hp2]; exact hM4, by omega, fun v3 L3 H4 s4 hL3 hG3 hp3 => ?_⟩
    exact q v3 L3 H4 (s1.trans (s2.trans (s3.trans s4))) hL3 hG3 (by rw [hp3, hp2])
theorem ltaken_step {n : Nat} (T : Txt K mg) (G_ltaken : FnOk P w K mg base CX0 n T.ltaken.f T.ltaken.fd P_ltaken (spTaken n)) : FnOk P w K mg base CX0 (n + 1) T.ltaken.f T.ltaken.fd P_ltaken (spTaken (n + 1)) := by
  refine T.ltaken.F.ok sc_ltaken (fun vs H Q E h => ?_) (fun cdv A outer s H vs Q E hr h => ?_)
  · obtain ⟨v, L, pane, B, m, rfl, _⟩ := h
    rfl
  obtain ⟨v, L, pane, B, m, rfl, hL, hG, hm, hlen, hB0, hnd, hne, q⟩ := h
  have hr_ltaken := hr
  refine ⟨_, (pss_cons (ps_if (pt_val (pe_callB (isiS (K := K) rfl) rfl T.b.isinstance (by decide +kernel) (pa_cons (pv 0) (pa_cons (pe_bltn (v := .ty "int") rfl T.b.int (by decide +kernel) rfl) pa_nil))))
      (pss_one (ps_ret (pv 0)))
      pss_nil)
    (pss_cons (ps_set (i := 2) sc_ltaken.nd rfl (Or.inl rfl) (pe_lst pa_nil))
    (pss_cons (ps_set (i := 3) sc_ltaken.nd rfl (Or.inl rfl) (pe_un un_neg pe_int))
    (pss_cons (ps_for PassesOwn.never rfl (pi_range1 rfl T.b.range (pa_cons (pe_callB (lenS (K := K) rfl) rfl T.b.len (by decide +kernel) (pa_cons (pe_ix (ixT (K := K) rfl) (pv 0) pe_int (fun _ _ => rfl)) pa_nil)) pa_nil)) (pg_name (i := 4) sc_ltaken.nd rfl (Or.inl rfl))
      (pss_cons (ps_asg (pe_ix (ixT (K := K) rfl) (pe_ix (ixT (K := K) rfl) (pv 0) pe_int (fun _ _ => rfl)) (pv 4) (fun _ _ => rfl)) (pgT (K := K) (n := 2) rfl rfl (pgs_cons (pg_name (i := 5) sc_ltaken.nd rfl (Or.inl rfl)) (pgs_cons (pg_name (i := 6) sc_ltaken.nd rfl (Or.inl rfl)) pgs_nil))))
      (pss_one (ps_if (pt_cmpR (op_eqLI (K := K) rfl hr.units0) (pv 5) (pv 1) (nomark _))
        (pss_one (ps_set (i := 3) sc_ltaken.nd rfl (Or.inl rfl) (pv 4)))
        (pss_cons (ps_set (i := 7) sc_ltaken.nd rfl (Or.inl rfl) (pe_call G_ltaken hr_ltaken rfl T.ltaken.g T.ltaken.F.kp T.ltaken.bd .nil pass0 (pa_cons (pv 5) (pa_cons (pv 1) pa_nil))))
        (pss_one (ps_if (PW.pt (pw_and (pt_not (pt_val (pe_callB (isiS (K := K) rfl) rfl T.b.isinstance (by decide +kernel) (pa_cons (pv 7) (pa_cons (pe_bltn (v := .ty "int") rfl T.b.int (by decide +kernel) rfl) pa_nil))))) (pw_and1 (pt_cmpR op_eq (pe_ix (ixT (K := K) rfl) (pv 7) pe_int (fun _ _ => rfl)) (pe_ix (ixT (K := K) rfl) (pv 0) pe_int (fun _ _ => rfl)) (nomark _)))))
          (pss_one (ps_set (i := 2) sc_ltaken.nd rfl (Or.inl rfl) (pe_op op_cat (pv 2) (pe_callTy (listS (K := K) rfl) rfl T.b.list (by decide +kernel) (pa_cons (pe_ix (ixT (K := K) rfl) (pv 7) pe_int (fun _ _ => rfl)) pa_nil)))))
          (pss_one (ps_expr (pe_bm PySem.F.plainAttrs_list PySem.F.slot_list_append PySem.F.type_list_append mt_append (pv 2) (pa_cons (pe_tup (pa_cons (pv 7) (pa_cons (pv 6) pa_nil))) pa_nil)))))))))))
    (Evl.pss_cut (ps_if (pt_cmpR op_ge (pv 3) pe_int (nomark _))
      (pss_cons (ps_set (i := 8) sc_ltaken.nd rfl (Or.inl rfl) (pe_callB (call_max2 rfl) rfl T.b.max (by decide +kernel) (pa_cons pe_int (pa_cons (pe_op op_sub (pv 3) pe_int) pa_nil))))
      (pss_one (ps_asg (pe_tup (pa_cons (pe_ix (ixT (K := K) rfl) (pe_ix (ixL (K := K) rfl) (pv 2) (pv 8) (fun _ _ => rfl)) pe_int (fun _ _ => rfl)) (pa_cons (pe_op op_add (pe_op op_add (pe_ix (ixT (K := K) rfl) (pe_ix (ixL (K := K) rfl) (pv 2) (pv 8) (fun _ _ => rfl)) pe_int (fun _ _ => rfl)) (pe_ix (ixT (K := K) rfl) (pe_ix (ixT (K := K) rfl) (pe_ix (ixT (K := K) rfl) (pv 0) pe_int (fun _ _ => rfl)) (pv 3) (fun _ _ => rfl)) pe_int (fun _ _ => rfl))) pe_int) pa_nil))) (pg_sub (pv 2) (pv 8) set_list))))
      pss_nil)
    (pss_cons (ps_if (pt_cmpR op_eq (pe_callB (lenS (K := K) rfl) rfl T.b.len (by decide +kernel) (pa_cons (pv 2) pa_nil)) pe_int (nomark _))
      (pss_one (ps_ret (pe_ix (ixT (K := K) rfl) (pe_ix (ixL (K := K) rfl) (pv 2) pe_int (fun _ _ => rfl)) pe_int (fun _ _ => rfl))))
      pss_nil)
    (pss_one (ps_ret (pe_tup (pa_cons (pe_ix (ixT (K := K) rfl) (pv 0) pe_int (fun _ _ => rfl)) (pa_cons (pe_callTy (tupleS (K := K) rfl) rfl T.b.tuple (by decide +kernel) (pa_cons (pv 2) pa_nil)) pa_nil))))))))))), ?_⟩
  have two : 2 ≤ sizeLine := by decide
  cases L with
  | pane i =>
    cases layV_pane_iff hL
    have e : i ≠ pane := fun z => hne (by rw [z])
    refine ⟨_, rfl, _, _, _, _, true, rfl, .ty _, .base (.int _), kit_ty (by decide +kernel), true, rfl, iteT ?_⟩
    refine ⟨_, rfl, q _ (.pane i) _ (Same.refl _) layV_pane (.pane i) ?_⟩
    rw [panes_pane, wo_other e]
  | node d ps =>
    obtain ⟨a, t, xs, rfl, h1, h2, h3⟩ := layV_node_inv hL
    refine ⟨_, rfl, _, _, _, _, false, rfl, .ty _, .base (.tup h1), kit_ty (by decide +kernel), false, rfl, iteF ?_⟩
    obtain ⟨m', rfl, h2le, hsz, hps⟩ := hG.inv
    have hple := panesL_len fun p hp => (hps p hp).panes1
    rw [panes_node] at hlen q hnd
    have lxs := partsV_len h3
    have bb0 := BB_ge hB0 m'
    -- parts = [], gone = -1
    refine ⟨Nat.zero_le _, fun o no => ?_⟩
    refine ⟨_, rfl, ?_⟩
    -- the loop
    have so : Same H (upd H o (.lst [])) := same_upd no
    refine ⟨_, rfl, a, _, 1, .ref t, rfl, rfl, SqT.tx (so _ _ h1), atI_nat (j := 1) rfl, t, _, rfl, .inr (SqT.tx (so _ _ h2)), _, rfl, by omega, by omega, for_range (lo := 0)
      (fun i σ' H' => i ≤ ps.length ∧ ∃ o' g y4 y5 y6 y7 y8 ys qs, σ' = [some (.ref a), some (.int pane), some (.ref o'), some (.int g), y4, y5, y6, y7, y8] ∧ Same H H' ∧ H o' = none ∧ H' o' = some (.lst ys) ∧ PartsV H' qs ys ∧ qs.length ≤ (panesL qs).length ∧
        ((g = -1 ∧ i ≤ qs.length) ∨ ∃ (k : Nat) (p : Lay × Int), g = (k : Int) ∧ k < i ∧ ps[k]? = some p ∧ p.1 = .pane pane ∧ i ≤ qs.length + 1) ∧ panesL qs = wo pane (panesL (ps.take i)) ∧
        ∀ p ∈ qs, (-(BB B m') ≤ p.2 ∧ p.2 ≤ BB B m') ∧ Good (BB B m') m' p.1)
      ⟨Nat.zero_le _, o, -1, none, none, none, none, none, [], [], rfl, so, no, upd_same, partsV_nil, Nat.le_refl _, .inl ⟨rfl, Nat.le_refl _⟩, rfl, fun p hp => by cases hp⟩ ?_ ?_⟩
    · rintro i σ' H' hi ⟨_, o', g, y4, y5, y6, y7, y8, ys, qs, rfl, sm, no', eo, hqs, hqq, hg, hqp, hqg⟩
      rw [lxs] at hi
      have hi' : i < ps.length := hi
      have ep := List.getElem?_eq_getElem hi'
      generalize ps[i] = p at ep
      obtain ⟨x, ex, b, v, rfl, hb, hv⟩ := partsV_get' h3 ep
      have le := panes_mem_le (mem_at ep)
      have le2 := panesL_take_le (ps := ps) i
      have hb2 := hsz p (mem_at ep)
      have lys := partsV_len hqs
      have lw : (wo pane (panesL (ps.take i))).length ≤ (panesL (ps.take i)).length := List.length_filter_le _ _
      rw [← hqp] at lw
      -- inner, size = layout[1][k]
      refine ⟨_, rfl, a, _, 1, .ref t, rfl, rfl, SqT.tx (sm _ _ h1), atI_nat (j := 1) rfl, _, rfl, t, _, _, .ref b, rfl, rfl, SqT.tx (sm _ _ h2), at_of (by omega) ex, ?_⟩
      refine ⟨b, [v, .int p.2], rfl, SqT.tx (sm _ _ hb), rfl, v, [.int p.2], rfl, .int p.2, [], rfl, rfl, ?_⟩
      have hvt := hv.tx (Tx.of sm)
      try dsimp only
      refine if_test (isP pane p.1) (fun R hR => ?_) ?_
      · generalize hl : p.1 = l at hvt hR
        cases l with
        | pane i' =>
          cases layV_pane_iff hvt
          exact ⟨_, rfl, _, rfl, pane, rfl, .inl ⟨i', rfl, _, rfl, hR⟩⟩
        | node d' ps' =>
          obtain ⟨a', t', xs', rfl, g1, _, _⟩ := layV_node_inv hvt
          exact ⟨_, rfl, _, rfl, pane, rfl, .inr ⟨a', _, rfl, SqT.tx g1, _, rfl, hR⟩⟩
      cases hb' : isP pane p.1 with
      | true =>
        have e1 := isP_true hb'
        -- gone = k
        refine ⟨_, rfl, ?_⟩
        have hgm : g = -1 ∧ i ≤ qs.length := by
          rcases hg with hg | ⟨k, p', _, hk, hp', e2, _⟩
          · exact hg
          · exact (not_twice hnd hk hp' ep (x := pane) (by rw [e2, panes_pane]; exact List.mem_singleton.mpr rfl) (by rw [e1, panes_pane]; exact List.mem_singleton.mpr rfl)).elim
        refine ⟨hi', o', 0 + (i : Int), _, _, _, _, _, ys, qs, rfl, sm, no', eo, hqs, hqq, .inr ⟨i, p, by omega, Nat.lt_succ_self i, ep, e1, by omega⟩, ?_, hqg⟩
        rw [hqp, panesL_take ep, e1, panes_pane, wo_append, wo_self, List.append_nil]
      | false =>
        have hne' : p.1 ≠ .pane pane := fun z => by rw [z] at hb'; exact absurd hb' (by simp [isP])
        -- rest = taken(inner, pane)
        refine ⟨_, rfl, _, rfl, v, p.1, pane, B, m', rfl, hvt, hps p (mem_at ep), by omega, by omega, hB0, nodup_part hnd ep, hne', fun v' L' H2 s2 hL' hG' hp' => ?_⟩
        have sm2 := sm.trans s2
        have pan : ∀ rs : List (Lay × Int), panesL rs = L'.panes → panesL (qs ++ rs) = wo pane (panesL (ps.take (i + 1))) := fun rs e => by
          rw [panesL_append, e, hqp, hp', panesL_take ep, wo_append]
        have lenL : L'.panes.length ≤ p.1.panes.length := by
          rw [hp']
          exact List.length_filter_le _ _
        have gone' : ∀ k : Nat, 1 ≤ k → ((g = -1 ∧ i + 1 ≤ (qs.length + k)) ∨ ∃ (k' : Nat) (p : Lay × Int), g = (k' : Int) ∧ k' < i + 1 ∧ ps[k']? = some p ∧ p.1 = .pane pane ∧ i + 1 ≤ qs.length + k + 1) := fun k hk => by
          rcases hg with ⟨e, l⟩ | ⟨k', p', e, hk', hp', e2, l⟩
          · exact .inl ⟨e, by omega⟩
          · exact .inr ⟨k', p', e, by omega, hp', e2, by omega⟩
        try dsimp only
        refine if_test (sameDir d L') (fun R hR => ?_) ?_
        · cases L' with
          | pane i' =>
            cases layV_pane_iff hL'
            exact ⟨_, rfl, _, _, _, _, true, rfl, .ty _, .base (.int _), kit_ty (by decide +kernel), true, rfl, hR⟩
          | node d' ps' =>
            obtain ⟨a', t', xs', rfl, g1, _, _⟩ := layV_node_inv hL'
            refine ⟨_, rfl, _, _, _, _, false, rfl, .ty _, .base (.tup g1), kit_ty (by decide +kernel), false, rfl, ?_⟩
            refine ⟨_, rfl, a', _, 0, .str (dirS d'), rfl, rfl, SqT.tx g1, atI_nat (j := 0) rfl, _, rfl, a, _, 0, .str (dirS d), rfl, rfl, SqT.tx (sm2 _ _ h1), atI_nat (j := 0) rfl, rfl, _, rfl, ?_⟩
            rw [dirS_eq]
            exact hR
        cases hb2' : sameDir d L' with
        | true =>
          cases L' with
          | pane i' => cases hb2'
          | node d' rs =>
            obtain ⟨a', t', zs, rfl, g1, g2, g3⟩ := layV_node_inv hL'
            have lzs := partsV_len g3
            obtain ⟨m2, em2, r2, rsz, rgd⟩ := hG'.inv
            have lrs := hG'.parts_le
            -- parts = parts + list(rest[1])
            refine ⟨_, rfl, _, rfl, a', _, 1, .ref t', rfl, rfl, SqT.tx g1, atI_nat (j := 1) rfl, t', _, rfl, .inr (SqT.tx g2), fun l nl => ?_⟩
            have s3 : Same H2 (upd H2 l (.lst zs)) := same_upd nl
            have el : (upd H2 l (.lst zs)) l = some (.lst zs) := upd_same
            generalize upd H2 l (.lst zs) = H3 at s3 el
            refine ⟨o', l, _, _, rfl, rfl, s3 _ _ (s2 _ _ eo), el, sizeOk (by omega), fun z nz => ?_⟩
            have s4 : Same H3 (upd H3 z (.lst (ys ++ zs))) := same_upd nz
            refine ⟨hi', z, g, _, _, _, _, _, _, qs ++ rs, rfl, sm2.trans (s3.trans s4), (sm2.trans s3).free nz, upd_same, partsV_append (hqs.tx (Tx.of (s2.trans (s3.trans s4)))) (g3.tx (Tx.of (s3.trans s4))), ?_, ?_, pan rs (by rw [panes_node]), fun p' hp'' => ?_⟩
            · rw [List.length_append, panesL_append, List.length_append]
              rw [panes_node] at lrs
              omega
            · rw [List.length_append]
              exact gone' rs.length (by omega)
            · rcases List.mem_append.mp hp'' with g | g
              · exact hqg p' g
              · exact ⟨rsz p' g, (rgd p' g).mono (Int.le_refl _) (by omega)⟩
        | false =>
          -- parts.append((rest, size))
          refine ⟨_, rfl, .inl ⟨rfl, _, SqL.of (s2 _ _ eo)⟩, _, rfl, _, rfl, two, fun tp ntp => ?_⟩
          have s3 : Same H2 (upd H2 tp (.tup [v', .int p.2])) := same_upd ntp
          have etp : (upd H2 tp (.tup [v', .int p.2])) tp = some (.tup [v', .int p.2]) := upd_same
          generalize upd H2 tp (.tup [v', .int p.2]) = H3 at s3 etp
          have eo3 := s3 _ _ (s2 _ _ eo)
          refine ⟨o', ys, .ref tp, rfl, rfl, eo3, small1000 (by omega), ?_⟩
          have T3 : Tx H3 (upd H3 o' (.lst (ys ++ [.ref tp]))) := Tx.lst eo3 _
          refine ⟨hi', o', g, _, _, _, _, _, ys ++ [.ref tp], qs ++ [(L', p.2)], rfl, Same.mut (sm2.trans s3) no', no', upd_same, (partsV_append (hqs.tx (Tx.of (s2.trans s3))) (partsV_cons (p := (L', p.2)) ⟨tp, v', rfl, etp, hL'.tx (Tx.of s3)⟩ partsV_nil)).tx T3, ?_, ?_, pan [(L', p.2)] (panesL_one _), fun p' hp'' => ?_⟩
          · rw [List.length_append, panesL_append, List.length_append, panesL_one]
            have := hG'.panes1
            show qs.length + 1 ≤ (panesL qs).length + L'.panes.length
            omega
          · rw [List.length_append]
            exact gone' 1 (Nat.le_refl _)
          · rcases List.mem_append.mp hp'' with g | g
            · exact hqg p' g
            · rw [List.mem_singleton.mp g]
              exact ⟨⟨by show -(BB B m') ≤ p.2; omega, by show p.2 ≤ BB B m'; omega⟩, hG'⟩
    · rintro σ' H' ⟨_, o', g, y4, y5, y6, y7, y8, ys, qs, rfl, sm, no', eo, hqs, hqq, hg, hqp, hqg⟩
      rw [lxs] at hg hqp
      have hqp' : panesL qs = wo pane (panesL ps) := by
        rw [hqp]
        show wo pane (panesL (ps.take ps.length)) = _
        rw [List.take_length]
      have hg' : (g = -1 ∧ ps.length ≤ qs.length) ∨ ∃ (k : Nat) (p : Lay × Int), g = (k : Int) ∧ ps[k]? = some p ∧ ps.length ≤ qs.length + 1 := by
        rcases hg with ⟨e, l⟩ | ⟨k, p, e, hk, hp, e2, l⟩
        · exact .inl ⟨e, l⟩
        · exact .inr ⟨k, p, e, hp, l⟩
      have bbs : BB B (m' + 1) = BB B m' + (B + 1) := rfl
      have lys := partsV_len hqs
      have lw : (wo pane (panesL ps)).length ≤ (panesL ps).length := List.length_filter_le _ _
      rw [← hqp'] at lw
      -- if gone >= 0
      refine ⟨fun σ' H' => ∃ y3 y4 y5 y6 y7 y8 ys qs, σ' = [some (.ref a), some (.int pane), some (.ref o'), y3, y4, y5, y6, y7, y8] ∧ Same H H' ∧ H' o' = some (.lst ys) ∧ PartsV H' qs ys ∧ 1 ≤ qs.length ∧ panesL qs = wo pane (panesL ps) ∧
        ∀ p ∈ qs, (-(BB B (m' + 1)) ≤ p.2 ∧ p.2 ≤ BB B (m' + 1)) ∧ Good (BB B (m' + 1)) m' p.1, ?_, ?_⟩
      · have weak : ∀ p ∈ qs, (-(BB B (m' + 1)) ≤ p.2 ∧ p.2 ≤ BB B (m' + 1)) ∧ Good (BB B (m' + 1)) m' p.1 := fun p hp => by
          obtain ⟨⟨z1, z2⟩, z3⟩ := hqg p hp
          exact ⟨⟨by omega, by omega⟩, z3.mono (by omega) (Nat.le_refl _)⟩
        refine ⟨_, rfl, _, _, rfl, rfl, _, rfl, ite2 (fun c => ?_) (fun c => ?_)⟩
        · have c' : 0 ≤ g := of_decide_eq_true c
          obtain ⟨k, p, rfl, hp, l⟩ : ∃ (k : Nat) (p : Lay × Int), g = (k : Int) ∧ ps[k]? = some p ∧ ps.length ≤ qs.length + 1 := by
            rcases hg' with ⟨e, _⟩ | h
            · omega
            · exact h
          have hk := lt_of_at hp
          obtain ⟨x, ex, b, v, rfl, hb, hv⟩ := partsV_get' h3 hp
          have hb2 := hsz p (mem_at hp)
          -- heir = max(0, gone - 1)
          refine ⟨_, rfl, _, _, rfl, rfl, _, _, rfl, ?_⟩
          have he : (if (k : Int) - 1 > 0 then (k : Int) - 1 else 0) = ((k - 1 : Nat) : Int) := by split <;> omega
          rw [he]
          have hj : k - 1 < qs.length := by omega
          have eq := List.getElem?_eq_getElem hj
          generalize hj0 : k - 1 = j at *
          have hmem := mem_at eq
          generalize qs[j] = pj at eq hmem
          obtain ⟨xj, exj, bj, vj, rfl, hbj, hvj⟩ := partsV_get' hqs eq
          obtain ⟨⟨zj1, zj2⟩, zj3⟩ := hqg pj hmem
          -- parts[heir] = (parts[heir][0], parts[heir][1] + layout[1][gone][1] + 1)
          refine ⟨_, rfl, _, rfl, o', _, _, _, rfl, rfl, SqL.of eo, atI_nat exj, bj, _, 0, vj, rfl, rfl, SqT.tx hbj, atI_nat (j := 0) rfl,
            _, rfl, _, rfl, o', _, _, _, rfl, rfl, SqL.of eo, atI_nat exj, bj, _, 1, .int pj.2, rfl, rfl, SqT.tx hbj, atI_nat (j := 1) rfl,
            _, rfl, a, _, 1, .ref t, rfl, rfl, SqT.tx (sm _ _ h1), atI_nat (j := 1) rfl, _, rfl, t, _, _, .ref b, rfl, rfl, SqT.tx (sm _ _ h2), atI_nat ex, b, _, 1, .int p.2, rfl, rfl, SqT.tx (sm _ _ hb), atI_nat (j := 1) rfl, _, _, rfl, rfl, _, _, rfl, rfl, two, fun tp ntp => ?_⟩
          have s3 : Same H' (upd H' tp (.tup [vj, .int (pj.2 + p.2 + 1)])) := same_upd ntp
          have etp : (upd H' tp (.tup [vj, .int (pj.2 + p.2 + 1)])) tp = some (.tup [vj, .int (pj.2 + p.2 + 1)]) := upd_same
          dsimp only
          generalize upd H' tp (.tup [vj, .int (pj.2 + p.2 + 1)]) = H3 at s3 etp ⊢
          have eo3 := s3 _ _ eo
          refine ⟨_, rfl, _, rfl, o', ys, _, j, rfl, rfl, eo3, Evl.ixN_nat (by omega), ?_⟩
          have T3 : Tx H3 (upd H3 o' (.lst (ys.set j (.ref tp)))) := Tx.lst eo3 _
          refine ⟨_, _, _, _, _, _, ys.set j (.ref tp), qs.set j (pj.1, pj.2 + p.2 + 1), rfl, Same.mut (sm.trans s3) no', upd_same, (partsV_set (p := (pj.1, pj.2 + p.2 + 1)) j (hqs.tx (Tx.of s3)) ⟨tp, vj, rfl, etp, hvj.tx (Tx.of s3)⟩).tx T3, by rw [List.length_set]; omega, ?_, fun p' hp' => ?_⟩
          · rw [← hqp', panesL_set eq]
          · rcases List.mem_or_eq_of_mem_set hp' with g | rfl
            · exact weak p' g
            · exact ⟨⟨by show -(BB B (m' + 1)) ≤ pj.2 + p.2 + 1; omega, by show pj.2 + p.2 + 1 ≤ BB B (m' + 1); omega⟩, zj3.mono (by omega) (Nat.le_refl _)⟩
        · have c' : ¬ 0 ≤ g := fun z => c (decide_eq_true z)
          have l : ps.length ≤ qs.length := by
            rcases hg' with ⟨_, l⟩ | ⟨k, p, e, _⟩
            · exact l
            · omega
          exact ⟨_, _, _, _, _, _, ys, qs, rfl, sm, eo, hqs, by omega, hqp', weak⟩
      rintro _ H4 ⟨y3, y4, y5, y6, y7, y8, ys', qs', rfl, sm4, eo4, hqs4, hl4, hqp4, hqg4⟩
      have lys4 := partsV_len hqs4
      -- if len(parts) == 1
      refine ⟨_, rfl, o', _, rfl, .inl (SqL.of eo4), rfl, _, rfl, ite2 (fun c => ?_) (fun c => ?_)⟩
      · have c' : (ys'.length : Int) = 1 := V.int.inj (of_decide_eq_true c)
        match qs', hqs4, hl4, hqp4, hqg4, lys4 with
        | [p], hqs4, _, hqp4, hqg4, _ =>
          obtain ⟨x, ex, b, v, rfl, hb, hv⟩ := partsV_get' hqs4 (i := 0) (p := p) rfl
          refine ⟨_, rfl, o', _, 0, .ref b, rfl, rfl, SqL.of eo4, atI_nat (j := 0) ex, b, _, 0, v, rfl, rfl, SqT.tx hb, atI_nat (j := 0) rfl, ?_⟩
          exact q v p.1 H4 sm4 hv ((hqg4 p List.mem_cons_self).2.mono (Int.le_refl _) (Nat.le_succ _)) (by rw [← hqp4, panesL_one])
        | [], _, hl4, _, _, _ => exact absurd hl4 (by simp)
        | _ :: _ :: _, _, _, _, _, lys4 =>
          rw [List.length_cons, List.length_cons] at lys4
          omega
      · have c' : ¬ (ys'.length : Int) = 1 := fun z => c (decide_eq_true (by rw [z]))
        refine ⟨_, rfl, a, _, 0, .str (dirS d), rfl, rfl, SqT.tx (sm4 _ _ h1), atI_nat (j := 0) rfl, _, rfl, o', ys', rfl, .inl ⟨SqL.of eo4, fun tl ntl => ⟨two, fun tp ntp => ?_⟩⟩⟩
        have s1' : Same H4 (upd H4 tl (.tup ys')) := same_upd ntl
        have etl : (upd H4 tl (.tup ys')) tl = some (.tup ys') := upd_same
        generalize upd H4 tl (.tup ys') = H1' at s1' etl ntp
        have s2' : Same H1' (upd H1' tp (.tup [.str (dirS d), .ref tl])) := same_upd ntp
        refine q (.ref tp) (.node d qs') _ (sm4.trans (s1'.trans s2')) (layV_node upd_same (s2' _ _ etl) (hqs4.tx (Tx.of (s1'.trans s2')))) (.node (by omega) (fun p hp => (hqg4 p hp).1) fun p hp => (hqg4 p hp).2) ?_
        rw [panes_node, hqp4]
theorem ok_ltaken (T : Txt K mg) : ∀ n : Nat, FnOk P w K mg base CX0 n T.ltaken.f T.ltaken.fd P_ltaken (spTaken n)
  | 0 => fn_none fun vs H Q E ⟨_, _, _, _, m, _, _, _, h, _⟩ => Nat.not_lt_zero m h
  | n + 1 => ltaken_step T (ok_ltaken T n)
end
end K20

set_option Elab.async false
set_option maxRecDepth 100000
set_option maxHeartbeats 8000000
set_option linter.all false
/-! shift, moved, without -/
namespace K20
open PySem PySem.Spec PyProof.Rows L2
theorem flat_ints (ns : List Int) : (ns.map V.int).all flatV = true := by
  rw [List.all_map, List.all_eq_true]
  intro x _
  rfl
theorem panesL_setP : ∀ {qs : List (Lay × Int)} {j : Nat} {p q : Lay × Int}, qs[j]? = some p → q.1.panes = p.1.panes → panesL (qs.set j q) = panesL qs
  | [], j, p, q, h, _ => by simp at h
  | r :: qs, 0, p, q, h, e => by
    have e' : r = p := Option.some.inj h
    subst e'
    obtain ⟨l, s⟩ := r
    obtain ⟨l', s'⟩ := q
    have e2 : l'.panes = l.panes := e
    rw [List.set_cons_zero]
    simp only [panesL, e2]
  | r :: qs, j + 1, p, q, h, e => by
    obtain ⟨l, s⟩ := r
    have ih := panesL_setP (qs := qs) (j := j) (p := p) (q := q) (by simpa using h) e
    rw [List.set_cons_succ]
    simp only [panesL, ih]
def mnp (i j : Int) : Int := if j < i then j else i
theorem change_bounds {lo hi am : Int} (h1 : -1400 ≤ lo ∧ lo ≤ 1400) (h2 : -1400 ≤ hi ∧ hi ≤ 1400) (h3 : -1000 ≤ am ∧ am ≤ 1000) : -1400 ≤ mxp lo (mnp hi am) ∧ mxp lo (mnp hi am) ≤ 1400 := by
  unfold mxp mnp
  split <;> split at * <;> omega
def spShift (n : Nat) : Sp := fun vs H Q _ => ∃ (v : V) (L : Lay) (pane : Int) (d : Bool) (am B : Int) (m : Nat), vs = [v, .int pane, .str (dirS d), .int am] ∧ LayV H L v ∧ Good B m L ∧ m < n ∧ L.panes.length ≤ 100 ∧ B ≤ 1000 ∧ -1000 ≤ am ∧ am ≤ 1000 ∧
  ∀ (r : Addr) (v' : V) (L' : Lay) (k : Bool) (H' : Hp), Same H H' → H' r = some (.tup [v', .bl k]) → LayV H' L' v' → Good 5000 m L' → L'.panes = L.panes → Q (.ref r) H'
section
variable {P : Program} {w : World} {K : PySem.W.Frag} {mg : Str → Option Value} {base : Heap}
theorem lshift_step {n : Nat} (T : Txt K mg) (G_lshift : FnOk P w K mg base CX0 (n + 1) T.lshift.f T.lshift.fd P_lshift (spShift n)) : FnOk P w K mg base CX0 (n + 2) T.lshift.f T.lshift.fd P_lshift (spShift (n + 1)) := by
  have G_lpanes := ok_lpanes (P := P) (w := w) (base := base) T (n + 1)
  have G_lleast := ok_lleast (P := P) (w := w) (base := base) T (n + 1)
  refine T.lshift.F.ok sc_lshift (fun vs H Q E h => ?_) (fun cdv A outer s H vs Q E hr h => ?_)
  · obtain ⟨v, L, pane, d, am, B, m, rfl, _⟩ := h
    rfl
  obtain ⟨v, L, pane, d, am, B, m, rfl, hL, hG, hm, hlen, hB, ha0, ha1, q⟩ := h
  have hr_lshift := hr
  have hr_lpanes := hr
  have hr_lleast := hr
  refine ⟨_, (pss_cons (ps_if (pt_val (pe_callB (isiS (K := K) rfl) rfl T.b.isinstance (by decide +kernel) (pa_cons (pv 0) (pa_cons (pe_bltn (v := .ty "int") rfl T.b.int (by decide +kernel) rfl) pa_nil))))
      (pss_one (ps_ret (pe_tup (pa_cons (pv 0) (pa_cons pe_bl pa_nil)))))
      pss_nil)
    (pss_cons (ps_set (i := 4) sc_lshift.nd rfl (Or.inl rfl) (pe_callTy (listS (K := K) rfl) rfl T.b.list (by decide +kernel) (pa_cons (pe_ix (ixT (K := K) rfl) (pv 0) pe_int (fun _ _ => rfl)) pa_nil)))
    (pss_cons (ps_set (i := 5) sc_lshift.nd rfl (Or.inl rfl) pe_bl)
    (Evl.pss_cut (ps_for PassesOwn.never rfl (pi_range1 rfl T.b.range (pa_cons (pe_callB (lenS (K := K) rfl) rfl T.b.len (by decide +kernel) (pa_cons (pv 4) pa_nil)) pa_nil)) (pg_name (i := 6) sc_lshift.nd rfl (Or.inl rfl))
      (pss_one (ps_if (pt_cmpR (inS (K := K) rfl) (pv 1) (pe_call G_lpanes hr_lpanes rfl T.lpanes.g T.lpanes.F.kp T.lpanes.bd .nil pass0 (pa_cons (pe_ix (ixT (K := K) rfl) (pe_ix (ixL (K := K) rfl) (pv 4) (pv 6) (fun _ _ => rfl)) pe_int (fun _ _ => rfl)) pa_nil)) rfl)
        (pss_cons (ps_asg (pe_call G_lshift hr_lshift rfl T.lshift.g T.lshift.F.kp T.lshift.bd .nil pass0 (pa_cons (pe_ix (ixT (K := K) rfl) (pe_ix (ixL (K := K) rfl) (pv 4) (pv 6) (fun _ _ => rfl)) pe_int (fun _ _ => rfl)) (pa_cons (pv 1) (pa_cons (pv 2) (pa_cons (pv 3) pa_nil))))) (pgT (K := K) (n := 2) rfl rfl (pgs_cons (pg_name (i := 7) sc_lshift.nd rfl (Or.inl rfl)) (pgs_cons (pg_name (i := 5) sc_lshift.nd rfl (Or.inl rfl)) pgs_nil))))
        (pss_cons (ps_asg (pe_tup (pa_cons (pv 7) (pa_cons (pe_ix (ixT (K := K) rfl) (pe_ix (ixL (K := K) rfl) (pv 4) (pv 6) (fun _ _ => rfl)) pe_int (fun _ _ => rfl)) pa_nil))) (pg_sub (pv 4) (pv 6) set_list))
        (Evl.pss_cut (ps_if (PW.pt (pw_and (pt_not (pt_val (pv 5))) (pw_and (pt_cmpR op_eq (pe_ix (ixT (K := K) rfl) (pv 0) pe_int (fun _ _ => rfl)) (pv 2) (nomark _)) (pw_and1 (pt_cmpR op_lt (pe_op op_add (pv 6) pe_int) (pe_callB (lenS (K := K) rfl) rfl T.b.len (by decide +kernel) (pa_cons (pv 4) pa_nil)) (nomark _))))))
          (pss_cons (ps_set (i := 8) sc_lshift.nd rfl (Or.inl rfl) (pe_callTy call_int1 rfl T.b.int (by decide +kernel) (pa_cons (pe_cmpR op_eq (pv 2) pe_str (nomark _)) pa_nil)))
          (pss_cons (ps_set (i := 9) sc_lshift.nd rfl (Or.inl rfl) (pe_op op_sub (pe_ix (ixL (K := K) rfl) (pe_call G_lleast hr_lleast rfl T.lleast.g T.lleast.F.kp T.lleast.bd .nil pass0 (pa_cons (pe_ix (ixT (K := K) rfl) (pe_ix (ixL (K := K) rfl) (pv 4) (pv 6) (fun _ _ => rfl)) pe_int (fun _ _ => rfl)) pa_nil)) (pv 8) (fun _ _ => rfl)) (pe_ix (ixT (K := K) rfl) (pe_ix (ixL (K := K) rfl) (pv 4) (pv 6) (fun _ _ => rfl)) pe_int (fun _ _ => rfl))))
          (pss_cons (ps_set (i := 10) sc_lshift.nd rfl (Or.inl rfl) (pe_op op_sub (pe_ix (ixT (K := K) rfl) (pe_ix (ixL (K := K) rfl) (pv 4) (pe_op op_add (pv 6) pe_int) (fun _ _ => rfl)) pe_int (fun _ _ => rfl)) (pe_ix (ixL (K := K) rfl) (pe_call G_lleast hr_lleast rfl T.lleast.g T.lleast.F.kp T.lleast.bd .nil pass0 (pa_cons (pe_ix (ixT (K := K) rfl) (pe_ix (ixL (K := K) rfl) (pv 4) (pe_op op_add (pv 6) pe_int) (fun _ _ => rfl)) pe_int (fun _ _ => rfl)) pa_nil)) (pv 8) (fun _ _ => rfl))))
          (pss_cons (ps_set (i := 11) sc_lshift.nd rfl (Or.inl rfl) (pe_callB (call_max2 rfl) rfl T.b.max (by decide +kernel) (pa_cons (pv 9) (pa_cons (pe_callB (call_min2 rfl) rfl T.b.min (by decide +kernel) (pa_cons (pv 10) (pa_cons (pv 3) pa_nil))) pa_nil))))
          (pss_cons (ps_asg (pe_tup (pa_cons (pe_ix (ixT (K := K) rfl) (pe_ix (ixL (K := K) rfl) (pv 4) (pv 6) (fun _ _ => rfl)) pe_int (fun _ _ => rfl)) (pa_cons (pe_op op_add (pe_ix (ixT (K := K) rfl) (pe_ix (ixL (K := K) rfl) (pv 4) (pv 6) (fun _ _ => rfl)) pe_int (fun _ _ => rfl)) (pv 11)) pa_nil))) (pg_sub (pv 4) (pv 6) set_list))
          (pss_cons (ps_asg (pe_tup (pa_cons (pe_ix (ixT (K := K) rfl) (pe_ix (ixL (K := K) rfl) (pv 4) (pe_op op_add (pv 6) pe_int) (fun _ _ => rfl)) pe_int (fun _ _ => rfl)) (pa_cons (pe_op op_sub (pe_ix (ixT (K := K) rfl) (pe_ix (ixL (K := K) rfl) (pv 4) (pe_op op_add (pv 6) pe_int) (fun _ _ => rfl)) pe_int (fun _ _ => rfl)) (pv 11)) pa_nil))) (pg_sub (pv 4) (pe_op op_add (pv 6) pe_int) set_list))
          (pss_one (ps_set (i := 5) sc_lshift.nd rfl (Or.inl rfl) pe_bl))))))))
          pss_nil)
        (pss_one ps_break))))
        pss_nil)))
    (pss_one (ps_ret (pe_tup (pa_cons (pe_tup (pa_cons (pe_ix (ixT (K := K) rfl) (pv 0) pe_int (fun _ _ => rfl)) (pa_cons (pe_callTy (tupleS (K := K) rfl) rfl T.b.tuple (by decide +kernel) (pa_cons (pv 4) pa_nil)) pa_nil))) (pa_cons (pv 5) pa_nil))))))))), ?_⟩
  have two : 2 ≤ sizeLine := by decide
  cases L with
  | pane i =>
    cases layV_pane_iff hL
    refine ⟨_, rfl, _, _, _, _, true, rfl, .ty _, .base (.int _), kit_ty (by decide +kernel), true, rfl, iteT ?_⟩
    refine ⟨_, rfl, two, fun p np => ?_⟩
    exact q p _ (.pane i) false _ (same_upd np) upd_same layV_pane (.pane i) rfl
  | node dl ps =>
    obtain ⟨a, t, xs, rfl, h1, h2, h3⟩ := layV_node_inv hL
    refine ⟨_, rfl, _, _, _, _, false, rfl, .ty _, .base (.tup h1), kit_ty (by decide +kernel), false, rfl, iteF ?_⟩
    obtain ⟨m', rfl, h2le, hsz, hps⟩ := hG.inv
    have hple := panesL_len fun p hp => (hps p hp).panes1
    rw [panes_node] at hlen q
    have lxs := partsV_len h3
    -- parts = list(layout[1]); done = False
    refine ⟨_, rfl, a, _, 1, .ref t, rfl, rfl, SqT.tx h1, atI_nat (j := 1) rfl, t, xs, rfl, .inr (SqT.tx h2), fun pl npl => ?_⟩
    have s1 : Same H (upd H pl (.lst xs)) := same_upd npl
    have epl1 : (upd H pl (.lst xs)) pl = some (.lst xs) := upd_same
    generalize upd H pl (.lst xs) = H1 at s1 epl1
    -- the loop
    refine ⟨fun σ' H' => ∃ kk y6 y7 y8 y9 y10 y11 ys qs, σ' = [some (.ref a), some (.int pane), some (.str (dirS d)), some (.int am), some (.ref pl), some (.bl kk), y6, y7, y8, y9, y10, y11] ∧ Same H H' ∧ H' pl = some (.lst ys) ∧ PartsV H' qs ys ∧ qs.length = ps.length ∧
      panesL qs = panesL ps ∧ ∀ p ∈ qs, (-5000 ≤ p.2 ∧ p.2 ≤ 5000) ∧ Good 5000 m' p.1, ?_, ?_⟩
    · refine ⟨_, rfl, pl, _, rfl, .inl (SqL.of epl1), _, rfl, by omega, by omega, for_range (lo := 0)
        (fun i σ' H' => ∃ y6, σ' = [some (.ref a), some (.int pane), some (.str (dirS d)), some (.int am), some (.ref pl), some (.bl false), y6, none, none, none, none, none] ∧ Same H1 H')
        ⟨none, rfl, Same.refl _⟩ ?_ ?_⟩
      · rintro i σ' H2 hi ⟨y6, rfl, sm⟩
        rw [lxs] at hi
        have hi' : i < ps.length := hi
        have ep := List.getElem?_eq_getElem hi'
        generalize ps[i] = p at ep
        obtain ⟨x, ex, b, v, rfl, hb, hv⟩ := partsV_get' h3 ep
        have le := panes_mem_le (mem_at ep)
        have hb2 := hsz p (mem_at ep)
        have s02 := s1.trans sm
        have epl2 := sm _ _ epl1
        -- if pane in panes(parts[k][0])
        refine ⟨_, rfl, _, rfl, _, rfl, pl, _, _, .ref b, rfl, rfl, SqL.of epl2, at_of (by omega) ex, b, _, 0, v, rfl, rfl, SqT.tx (s02 _ _ hb), atI_nat (j := 0) rfl, v, p.1, B, m', rfl, hv.tx (Tx.of s02), hps p (mem_at ep), by omega, by omega, fun r H3 s3 nr er => ?_⟩
        refine ⟨r, _, rfl, .inl (SqL.of er), rfl, flat_ints _, _, rfl, ite2 (fun c => ?_) (fun c => ?_)⟩
        · have s03 := s02.trans s3
          have epl3 := s3 _ _ epl2
          -- inner, done = shift(parts[k][0], pane, way, amount)
          refine ⟨_, rfl, _, rfl, pl, _, _, .ref b, rfl, rfl, SqL.of epl3, at_of (by omega) ex, b, _, 0, v, rfl, rfl, SqT.tx (s03 _ _ hb), atI_nat (j := 0) rfl, _, rfl, _, rfl, _, rfl, v, p.1, pane, d, am, B, m', rfl, hv.tx (Tx.of s03), hps p (mem_at ep), by omega, by omega, hB, ha0, ha1, fun r2 v' L' kk H4 s4 er2 hL' hG' hp' => ?_⟩
          refine ⟨r2, [v', .bl kk], rfl, SqT.tx er2, rfl, v', [.bl kk], rfl, .bl kk, [], rfl, rfl, ?_⟩
          have s04 := s03.trans s4
          have epl4 := s4 _ _ epl3
          -- parts[k] = (inner, parts[k][1])
          refine ⟨_, rfl, _, rfl, _, rfl, pl, _, _, .ref b, rfl, rfl, SqL.of epl4, at_of (by omega) ex, b, _, 1, .int p.2, rfl, rfl, SqT.tx (s04 _ _ hb), atI_nat (j := 1) rfl, two, fun tp ntp => ?_⟩
          have s5 : Same H4 (upd H4 tp (.tup [v', .int p.2])) := same_upd ntp
          have etp : (upd H4 tp (.tup [v', .int p.2])) tp = some (.tup [v', .int p.2]) := upd_same
          generalize upd H4 tp (.tup [v', .int p.2]) = H5 at s5 etp
          have s05 := s04.trans s5
          have epl5 := s5 _ _ epl4
          refine ⟨_, rfl, _, rfl, pl, xs, _, i, rfl, rfl, epl5, by rw [Int.zero_add]; exact Evl.ixN_nat (by omega), ?_⟩
          have T6 : Tx H5 (upd H5 pl (.lst (xs.set i (.ref tp)))) := Tx.lst epl5 _
          have s6 : Same H (upd H5 pl (.lst (xs.set i (.ref tp)))) := Same.mut s05 npl
          have epl6 : (upd H5 pl (.lst (xs.set i (.ref tp)))) pl = some (.lst (xs.set i (.ref tp))) := upd_same
          have hq6 : PartsV (upd H5 pl (.lst (xs.set i (.ref tp)))) (ps.set i (L', p.2)) (xs.set i (.ref tp)) := (partsV_set (p := (L', p.2)) i (h3.tx (Tx.of s05)) ⟨tp, v', rfl, etp, hL'.tx (Tx.of s5)⟩).tx T6
          have eqq : (ps.set i (L', p.2))[i]? = some (L', p.2) := by rw [List.getElem?_set_self hi']
          have lq6 : (ps.set i (L', p.2)).length = ps.length := List.length_set
          have pq6 : panesL (ps.set i (L', p.2)) = panesL ps := panesL_setP ep hp'
          have gq6 : ∀ p' ∈ ps.set i (L', p.2), (-1000 ≤ p'.2 ∧ p'.2 ≤ 1000) ∧ Good 5000 m' p'.1 := fun p' hp'' => by
            rcases List.mem_or_eq_of_mem_set hp'' with g | rfl
            · have := hsz p' g
              exact ⟨⟨by omega, by omega⟩, (hps p' g).mono (by omega) (Nat.le_refl _)⟩
            · exact ⟨⟨by show -1000 ≤ p.2; omega, by show p.2 ≤ 1000; omega⟩, hG'⟩
          generalize upd H5 pl (.lst (xs.set i (.ref tp))) = H6 at s6 epl6 hq6
          generalize ps.set i (L', p.2) = q6 at hq6 eqq lq6 pq6 gq6
          generalize xs.set i (.ref tp) = x6 at hq6 epl6
          -- if not done and layout[0] == way and k + 1 < len(parts)
          refine ⟨fun σ' H' => ∃ kk y7 y8 y9 y10 y11 ys qs, σ' = [some (.ref a), some (.int pane), some (.str (dirS d)), some (.int am), some (.ref pl), some (.bl kk), some (.int (0 + (i : Int))), y7, y8, y9, y10, y11] ∧ Same H H' ∧ H' pl = some (.lst ys) ∧ PartsV H' qs ys ∧ qs.length = ps.length ∧
            panesL qs = panesL ps ∧ ∀ p ∈ qs, (-5000 ≤ p.2 ∧ p.2 ≤ 5000) ∧ Good 5000 m' p.1, ?_, ?_⟩
          · have weak : ∀ p ∈ q6, (-5000 ≤ p.2 ∧ p.2 ≤ 5000) ∧ Good 5000 m' p.1 := fun p' hp'' => by
              obtain ⟨⟨z1, z2⟩, z3⟩ := gq6 p' hp''
              exact ⟨⟨by omega, by omega⟩, z3⟩
            have lx6 := partsV_len hq6
            try dsimp only
            refine if_test (!kk && (decide (dl = d) && decide ((i : Int) + 1 < (ps.length : Int)))) (fun R hR => ?_) ?_
            · refine ⟨_, rfl, kk, rfl, ?_⟩
              cases kk with
              | true => exact hR
              | false =>
                refine ⟨_, rfl, a, _, 0, .str (dirS dl), rfl, rfl, SqT.tx (s6 _ _ h1), atI_nat (j := 0) rfl, _, rfl, rfl, _, rfl, ?_⟩
                rw [dirS_eq]
                cases hd : decide (dl = d) with
                | false =>
                  rw [hd] at hR
                  exact hR
                | true =>
                  rw [hd] at hR
                  refine ⟨_, rfl, _, _, rfl, rfl, _, rfl, pl, _, rfl, .inl (SqL.of epl6), _, _, rfl, rfl, _, rfl, ?_⟩
                  rw [lx6, lq6, Int.zero_add]
                  exact hR
            · cases hbb : (!kk && (decide (dl = d) && decide ((i : Int) + 1 < (ps.length : Int)))) with
              | false => exact ⟨kk, _, _, _, _, _, x6, q6, rfl, s6, epl6, hq6, lq6, pq6, weak⟩
              | true =>
                have hlt : (i : Int) + 1 < (ps.length : Int) := of_decide_eq_true (Bool.and_eq_true_iff.mp (Bool.and_eq_true_iff.mp hbb).2).2
                have hi1 : i + 1 < q6.length := by omega
                have eq1 := List.getElem?_eq_getElem hi1
                generalize q6[i + 1] = p1 at eq1
                obtain ⟨xa, exa, ba, va, rfl, hba, hva⟩ := partsV_get' hq6 eqq
                obtain ⟨xb, exb, bb, vb, rfl, hbb', hvb⟩ := partsV_get' hq6 eq1
                obtain ⟨⟨za1, za2⟩, ga⟩ := gq6 _ (mem_at eqq)
                obtain ⟨⟨zb1, zb2⟩, gb⟩ := gq6 _ (mem_at eq1)
                have lea := panes_mem_le (mem_at eqq)
                have leb := panes_mem_le (mem_at eq1)
                rw [pq6] at lea leb
                have lea : L'.panes.length ≤ (panesL ps).length := lea
                have lba : (1 ≤ L'.low.1 ∧ L'.low.1 ≤ 3 * (L'.panes.length : Int) - 1) ∧ 1 ≤ L'.low.2 ∧ L'.low.2 ≤ 3 * (L'.panes.length : Int) - 1 := low_bounds ga
                have lbb := low_bounds gb
                -- axis
                refine ⟨_, rfl, rfl, .inr ⟨_, rfl, ?_⟩⟩
                rw [ax_of]
                -- low
                refine ⟨_, rfl, _, rfl, pl, _, _, .ref ba, rfl, rfl, SqL.of epl6, at_of (by omega) exa, ba, _, 0, va, rfl, rfl, SqT.tx hba, atI_nat (j := 0) rfl, va, L', 5000, m', rfl, hva, ga, by omega, by omega, fun ra H7 s7 nra era => ?_⟩
                refine ⟨_, rfl, ra, _, ax d, _, rfl, rfl, SqL.of era, at_axI _ _ d, _, rfl, _, rfl, pl, _, _, .ref ba, rfl, rfl, SqL.of (s7 _ _ epl6), at_of (by omega) exa, ba, _, 1, .int p.2, rfl, rfl, SqT.tx (s7 _ _ hba), atI_nat (j := 1) rfl, _, _, rfl, rfl, ?_⟩
                dsimp only
                have blo : -1400 ≤ (if d then L'.low.2 else L'.low.1) - p.2 ∧ (if d then L'.low.2 else L'.low.1) - p.2 ≤ 1400 := by
                  cases d
                  · show -1400 ≤ L'.low.1 - p.2 ∧ L'.low.1 - p.2 ≤ 1400
                    omega
                  · show -1400 ≤ L'.low.2 - p.2 ∧ L'.low.2 - p.2 ≤ 1400
                    omega
                generalize (if d then L'.low.2 else L'.low.1) - p.2 = lo at blo
                -- high
                refine ⟨_, rfl, _, rfl, _, _, rfl, rfl, pl, _, _, .ref bb, rfl, rfl, SqL.of (s7 _ _ epl6), at_of (j := i + 1) (by omega) exb, bb, _, 1, .int p1.2, rfl, rfl, SqT.tx (s7 _ _ hbb'), atI_nat (j := 1) rfl, ?_⟩
                refine ⟨_, rfl, _, rfl, _, _, rfl, rfl, pl, _, _, .ref bb, rfl, rfl, SqL.of (s7 _ _ epl6), at_of (j := i + 1) (by omega) exb, bb, _, 0, vb, rfl, rfl, SqT.tx (s7 _ _ hbb'), atI_nat (j := 0) rfl, vb, p1.1, 5000, m', rfl, hvb.tx (Tx.of s7), gb, by omega, by omega, fun rb H8 s8 nrb erb => ?_⟩
                refine ⟨_, rfl, rb, _, ax d, _, rfl, rfl, SqL.of erb, at_axI _ _ d, _, _, rfl, rfl, ?_⟩
                dsimp only
                have bhi : -1400 ≤ p1.2 - (if d then p1.1.low.2 else p1.1.low.1) ∧ p1.2 - (if d then p1.1.low.2 else p1.1.low.1) ≤ 1400 := by
                  cases d
                  · show -1400 ≤ p1.2 - p1.1.low.1 ∧ p1.2 - p1.1.low.1 ≤ 1400
                    omega
                  · show -1400 ≤ p1.2 - p1.1.low.2 ∧ p1.2 - p1.1.low.2 ≤ 1400
                    omega
                generalize p1.2 - (if d then p1.1.low.2 else p1.1.low.1) = hi2 at bhi
                have s78 := s7.trans s8
                have epl8 := s78 _ _ epl6
                -- change
                refine ⟨_, rfl, _, rfl, _, rfl, _, _, rfl, _, _, rfl, ?_⟩
                have ech : (if (if am < hi2 then am else hi2) > lo then (if am < hi2 then am else hi2) else lo) = mxp lo (mnp hi2 am) := rfl
                rw [ech]
                obtain ⟨bc1, bc2⟩ := change_bounds blo bhi ⟨ha0, ha1⟩
                generalize mxp lo (mnp hi2 am) = ch at bc1 bc2
                -- parts[k] = (parts[k][0], parts[k][1] + change)
                refine ⟨_, rfl, _, rfl, pl, _, _, .ref ba, rfl, rfl, SqL.of epl8, at_of (by omega) exa, ba, _, 0, va, rfl, rfl, SqT.tx (s78 _ _ hba), atI_nat (j := 0) rfl,
                  _, rfl, _, rfl, pl, _, _, .ref ba, rfl, rfl, SqL.of epl8, at_of (by omega) exa, ba, _, 1, .int p.2, rfl, rfl, SqT.tx (s78 _ _ hba), atI_nat (j := 1) rfl, _, rfl, _, _, rfl, rfl, two, fun t9 n9 => ?_⟩
                have s9 : Same H8 (upd H8 t9 (.tup [va, .int (p.2 + ch)])) := same_upd n9
                have et9 : (upd H8 t9 (.tup [va, .int (p.2 + ch)])) t9 = some (.tup [va, .int (p.2 + ch)]) := upd_same
                dsimp only
                generalize upd H8 t9 (.tup [va, .int (p.2 + ch)]) = H9 at s9 et9 ⊢
                have epl9 := s9 _ _ epl8
                refine ⟨_, rfl, _, rfl, pl, x6, _, i, rfl, rfl, epl9, by rw [Int.zero_add]; exact Evl.ixN_nat (by omega), ?_⟩
                have T10 : Tx H9 (upd H9 pl (.lst (x6.set i (.ref t9)))) := Tx.lst epl9 _
                have T0 : Tx H6 (upd H9 pl (.lst (x6.set i (.ref t9)))) := (Tx.of (s78.trans s9)).trans T10
                have s10 : Same H (upd H9 pl (.lst (x6.set i (.ref t9)))) := Same.mut (s6.trans (s78.trans s9)) npl
                have epl10 : (upd H9 pl (.lst (x6.set i (.ref t9)))) pl = some (.lst (x6.set i (.ref t9))) := upd_same
                have hq10 : PartsV (upd H9 pl (.lst (x6.set i (.ref t9)))) (q6.set i (L', p.2 + ch)) (x6.set i (.ref t9)) :=
                  partsV_set (p := (L', p.2 + ch)) i (hq6.tx T0) ⟨t9, va, rfl, T10 _ _ et9, hva.tx T0⟩
                have hbb10 := T0 _ _ hbb'
                have hvb10 := hvb.tx T0
                generalize upd H9 pl (.lst (x6.set i (.ref t9))) = H10 at T0 s10 epl10 hq10 hbb10 hvb10
                have exb10 : (x6.set i (.ref t9))[i + 1]? = some (.ref bb) := by rw [List.getElem?_set_ne (by omega)]; exact exb
                have eq10 : (q6.set i (L', p.2 + ch))[i + 1]? = some p1 := by rw [List.getElem?_set_ne (by omega)]; exact eq1
                have lx10 : (x6.set i (.ref t9)).length = x6.length := List.length_set
                have pq10 : panesL (q6.set i (L', p.2 + ch)) = panesL ps := by rw [panesL_setP eqq (q := (L', p.2 + ch)) rfl, pq6]
                have lq10 : (q6.set i (L', p.2 + ch)).length = ps.length := by rw [List.length_set, lq6]
                have gq10 : ∀ p' ∈ q6.set i (L', p.2 + ch), (-5000 ≤ p'.2 ∧ p'.2 ≤ 5000) ∧ Good 5000 m' p'.1 := fun p' hp'' => by
                  rcases List.mem_or_eq_of_mem_set hp'' with g | rfl
                  · exact weak p' g
                  · exact ⟨⟨by show -5000 ≤ p.2 + ch; omega, by show p.2 + ch ≤ 5000; omega⟩, ga⟩
                generalize q6.set i (L', p.2 + ch) = q10 at hq10 eq10 pq10 lq10 gq10
                generalize x6.set i (.ref t9) = x10 at hq10 epl10 exb10 lx10
                -- parts[k + 1] = (parts[k + 1][0], parts[k + 1][1] - change)
                refine ⟨_, rfl, _, rfl, _, _, rfl, rfl, pl, _, _, .ref bb, rfl, rfl, SqL.of epl10, at_of (j := i + 1) (by omega) exb10, bb, _, 0, vb, rfl, rfl, SqT.tx hbb10, atI_nat (j := 0) rfl,
                  _, rfl, _, rfl, _, _, rfl, rfl, pl, _, _, .ref bb, rfl, rfl, SqL.of epl10, at_of (j := i + 1) (by omega) exb10, bb, _, 1, .int p1.2, rfl, rfl, SqT.tx hbb10, atI_nat (j := 1) rfl, _, rfl, _, _, rfl, rfl, two, fun t11 n11 => ?_⟩
                have s11 : Same H10 (upd H10 t11 (.tup [vb, .int (p1.2 - ch)])) := same_upd n11
                have et11 : (upd H10 t11 (.tup [vb, .int (p1.2 - ch)])) t11 = some (.tup [vb, .int (p1.2 - ch)]) := upd_same
                dsimp only
                generalize upd H10 t11 (.tup [vb, .int (p1.2 - ch)]) = H11 at s11 et11 ⊢
                have epl11 := s11 _ _ epl10
                refine ⟨_, rfl, _, rfl, _, _, rfl, rfl, pl, x10, _, i + 1, rfl, rfl, epl11, by rw [Int.zero_add]; exact Evl.ixN_nat (j := i + 1) (by omega), ?_⟩
                have T12 : Tx H11 (upd H11 pl (.lst (x10.set (i + 1) (.ref t11)))) := Tx.lst epl11 _
                have T01 := (Tx.of s11).trans T12
                refine ⟨true, _, _, _, _, _, x10.set (i + 1) (.ref t11), q10.set (i + 1) (p1.1, p1.2 - ch), rfl, Same.mut (s10.trans s11) npl, upd_same, partsV_set (p := (p1.1, p1.2 - ch)) (i + 1) (hq10.tx T01) ⟨t11, vb, rfl, T12 _ _ et11, hvb10.tx T01⟩, by rw [List.length_set, lq10], ?_, fun p' hp'' => ?_⟩
                · rw [panesL_setP eq10 (q := (p1.1, p1.2 - ch)) rfl, pq10]
                · rcases List.mem_or_eq_of_mem_set hp'' with g | rfl
                  · exact gq10 p' g
                  · exact ⟨⟨by show -5000 ≤ p1.2 - ch; omega, by show p1.2 - ch ≤ 5000; omega⟩, gb⟩
          · rintro _ H7 ⟨kk', y7, y8, y9, y10, y11, ys, qs, rfl, sm7, epl7, hq7, lq7, pq7, gq7⟩
            exact ⟨kk', _, _, _, _, _, _, ys, qs, rfl, sm7, epl7, hq7, lq7, pq7, gq7⟩
        · exact ⟨_, rfl, sm.trans s3⟩
      · rintro σ' H2 ⟨y6, rfl, sm⟩
        refine ⟨false, _, _, _, _, _, _, xs, ps, rfl, s1.trans sm, sm _ _ epl1, h3.tx (Tx.of (s1.trans sm)), rfl, rfl, fun p hp => ?_⟩
        have := hsz p hp
        exact ⟨⟨by omega, by omega⟩, (hps p hp).mono (by omega) (Nat.le_refl _)⟩
    rintro _ H2 ⟨kk, y6, y7, y8, y9, y10, y11, ys, qs, rfl, sm, epl, hqs, lqs, pqs, gqs⟩
    -- return (layout[0], tuple(parts)), done
    refine ⟨_, rfl, a, _, 0, .str (dirS dl), rfl, rfl, SqT.tx (sm _ _ h1), atI_nat (j := 0) rfl, _, rfl, pl, ys, rfl, .inl ⟨SqL.of epl, fun tl ntl => ⟨two, fun tp ntp => ?_⟩⟩⟩
    have s1' : Same H2 (upd H2 tl (.tup ys)) := same_upd ntl
    have etl : (upd H2 tl (.tup ys)) tl = some (.tup ys) := upd_same
    generalize upd H2 tl (.tup ys) = H1' at s1' etl ntp
    have s2' : Same H1' (upd H1' tp (.tup [.str (dirS dl), .ref tl])) := same_upd ntp
    have etp : (upd H1' tp (.tup [.str (dirS dl), .ref tl])) tp = some (.tup [.str (dirS dl), .ref tl]) := upd_same
    generalize upd H1' tp (.tup [.str (dirS dl), .ref tl]) = H2' at s2' etp
    refine ⟨_, rfl, two, fun tq ntq => ?_⟩
    have s3' : Same H2' (upd H2' tq (.tup [.ref tp, .bl kk])) := same_upd ntq
    have sall := s1'.trans (s2'.trans s3')
    exact q tq (.ref tp) (.node dl qs) kk _ (sm.trans sall) upd_same (layV_node (s3' _ _ etp) (s3' _ _ (s2' _ _ etl)) (hqs.tx (Tx.of sall))) (.node (by omega) (fun p hp => (gqs p hp).1) fun p hp => (gqs p hp).2) (by rw [panes_node, pqs])
theorem ok_lshift (T : Txt K mg) : ∀ n : Nat, FnOk P w K mg base CX0 (n + 1) T.lshift.f T.lshift.fd P_lshift (spShift n)
  | 0 => fn_none fun vs H Q E ⟨_, _, _, _, _, _, m, _, _, _, h, _⟩ => Nat.not_lt_zero m h
  | n + 1 => lshift_step T (ok_lshift T n)
end
end K20

set_option Elab.async false
set_option maxRecDepth 100000
set_option maxHeartbeats 4000000
set_option linter.all false
/-! without, moved, built -/
namespace K20
open PySem PySem.Spec PyProof.Rows L2
theorem wo_len (pane : Int) (ns : List Int) : (wo pane ns).length ≤ ns.length := List.length_filter_le _ _
theorem wo_mem {pane x : Int} {ns : List Int} (h : x ∈ wo pane ns) : x ∈ ns := (List.mem_filter.mp h).1
theorem wo_nodup {pane : Int} {ns : List Int} (h : ns.Nodup) : (wo pane ns).Nodup := h.filter _
theorem nw_cons (pane new x : Int) (r : List Int) : nw pane new (x :: r) = (if x = pane then [pane, new] else [x]) ++ nw pane new r := by
  unfold nw
  rw [List.flatMap_cons]
theorem nw_notin {pane new : Int} : ∀ {ns : List Int}, pane ∉ ns → nw pane new ns = ns
  | [], _ => rfl
  | x :: r, h => by
    rw [nw_cons, if_neg (fun e => h (by rw [e]; exact List.mem_cons_self)), nw_notin (fun m => h (List.mem_cons_of_mem _ m))]
    rfl
theorem nw_mem {pane new y : Int} : ∀ {ns : List Int}, y ∈ nw pane new ns → y ∈ ns ∨ y = new
  | [], h => by cases h
  | x :: r, h => by
    rw [nw_cons] at h
    rcases List.mem_append.mp h with h | h
    · by_cases e : x = pane
      · rw [if_pos e] at h
        rcases List.mem_cons.mp h with h | h
        · exact .inl (by rw [h, ← e]; exact List.mem_cons_self)
        · exact .inr (List.mem_singleton.mp h)
      · rw [if_neg e] at h
        exact .inl (by rw [List.mem_singleton.mp h]; exact List.mem_cons_self)
    · rcases nw_mem h with h | h
      · exact .inl (List.mem_cons_of_mem _ h)
      · exact .inr h
theorem nw_nodup {pane new : Int} : ∀ {ns : List Int}, ns.Nodup → new ∉ ns → (nw pane new ns).Nodup ∧ (nw pane new ns).length ≤ ns.length + 1
  | [], _, _ => ⟨List.nodup_nil, Nat.zero_le _⟩
  | x :: r, h, hn => by
    obtain ⟨h1, h2⟩ := List.nodup_cons.mp h
    have hnx : new ≠ x := fun e => hn (by rw [e]; exact List.mem_cons_self)
    have hnr : new ∉ r := fun m => hn (List.mem_cons_of_mem _ m)
    rw [nw_cons]
    by_cases e : x = pane
    · subst e
      rw [if_pos rfl, nw_notin h1]
      refine ⟨List.nodup_cons.mpr ⟨fun m => ?_, List.nodup_cons.mpr ⟨hnr, h2⟩⟩, Nat.le_refl _⟩
      rcases List.mem_cons.mp m with z | z
      · exact hnx z.symm
      · exact h1 z
    · rw [if_neg e]
      obtain ⟨i1, i2⟩ := nw_nodup (pane := pane) h2 hnr
      refine ⟨List.nodup_cons.mpr ⟨fun m => ?_, i1⟩, Nat.succ_le_succ i2⟩
      rcases nw_mem m with z | z
      · exact h1 z
      · exact hnx z.symm
theorem at_dir {z : Int} (h0 : 0 ≤ z) (h1 : z < 2) : ∃ d, atI [V.str "beside", V.str "below"] z = some (.str (dirS d)) := by
  have : z = 0 ∨ z = 1 := by omega
  rcases this with rfl | rfl
  · exact ⟨false, rfl⟩
  · exact ⟨true, rfl⟩
theorem layV_some {H : Hp} {l : Lay} {v : V} (h : LayV H l v) : v ≠ .non := by
  cases l with
  | pane i => rw [layV_pane_iff h]; intro z; cases z
  | node d ps =>
    obtain ⟨a, t, xs, rfl, _⟩ := layV_node_inv h
    intro z
    cases z
def spWithout (n : Nat) : Sp := fun vs H Q _ => ∃ (v : V) (L : Lay) (w h M : Int) (m : Nat) (pane : Int), vs = [v, .int w, .int h, .int pane] ∧ LayV H L v ∧ Good M m L ∧ m < n ∧ L.panes.length ≤ 100 ∧ w ≤ M ∧ h ≤ M ∧ 3 * (L.panes.length : Int) ≤ M ∧ M ≤ 1000 ∧ m ≤ 50 ∧ L.panes.Nodup ∧ L.panes ≠ [pane] ∧
  ∀ (v' : V) (L' : Lay) (H' : Hp), Same H H' → LayV H' L' v' → Good M m L' → L'.panes = wo pane L.panes → Q v' H'
def spMoved (n : Nat) : Sp := fun vs H Q _ => ∃ (v : V) (L : Lay) (w h M : Int) (m : Nat) (pane : Int) (d : Bool) (am : Int), vs = [v, .int w, .int h, .int pane, .str (dirS d), .int am] ∧ LayV H L v ∧ Good M m L ∧ m < n ∧ L.panes.length ≤ 100 ∧ w ≤ M ∧ h ≤ M ∧ 3 * (L.panes.length : Int) ≤ M ∧ M ≤ 1000 ∧ -1000 ≤ am ∧ am ≤ 1000 ∧
  ∀ (v' : V) (L' : Lay) (H' : Hp), Same H H' → LayV H' L' v' → Good M m L' → L'.panes = L.panes → Q v' H'
def spBuilt (K : PySem.W.Frag) : Sp := fun vs H Q _ => ∃ (a : Addr) (ns : List Int), vs = [.ref a, .int 40, .int 20] ∧ SqL K H a (ns.map V.int) ∧ ns.length ≤ 10 ∧
  ∀ (v : V) (L : Lay) (H' : Hp), Same H H' → LayV H' L v → Good 40 10 L → L.panes.length ≤ 11 → Q v H'
section
variable {P : Program} {w : World} {K : PySem.W.Frag} {mg : Str → Option Value} {base : Heap}
theorem ok_lwithout (T : Txt K mg) (n : Nat) : FnOk P w K mg base CX0 (n + 2) T.lwithout.f T.lwithout.fd P_lwithout (spWithout n) := by
  have G_lfit := ok_lfit (P := P) (w := w) (base := base) T n
  have G_ltaken := ok_ltaken (P := P) (w := w) (base := base) T n
  refine T.lwithout.F.ok sc_lwithout (fun vs H Q E h => ?_) (fun cdv A outer s H vs Q E hr h => ?_)
  · obtain ⟨v, L, w, h, M, m, pane, rfl, _⟩ := h
    rfl
  obtain ⟨v, L, w, h, M, m, pane, rfl, hL, hG, hm, hlen, hwM, hhM, hM3, hM, hm50, hnd, hne, q⟩ := h
  have hr_lfit := hr
  have hr_ltaken := hr.mono (j := n) (by omega)
  refine ⟨_, (pss_one (ps_ret (pe_call G_lfit hr_lfit rfl T.lfit.g T.lfit.F.kp T.lfit.bd .nil pass0 (pa_cons (pe_call G_ltaken hr_ltaken rfl T.ltaken.g T.ltaken.F.kp T.ltaken.bd .nil pass0 (pa_cons (pe_call G_lfit hr_lfit rfl T.lfit.g T.lfit.F.kp T.lfit.bd .nil pass0 (pa_cons (pv 0) (pa_cons (pv 1) (pa_cons (pv 2) pa_nil)))) (pa_cons (pv 3) pa_nil))) (pa_cons (pv 1) (pa_cons (pv 2) pa_nil)))))), ?_⟩
  have hp1 := hG.panes1
  refine ⟨_, rfl, _, rfl, _, rfl, v, L, w, h, M, M, m, rfl, hL, hG, hm, by omega, hlen, hwM, hhM, hM3, by omega, fun v1 L1 H1 s1 hL1 hG1 hp1 => ?_⟩
  refine ⟨_, rfl, v1, L1, pane, M, m, rfl, hL1, hG1, hm, by rw [hp1]; exact hlen, by omega, by rw [hp1]; exact hnd, fun e => hne (by rw [← hp1, e, panes_pane]), fun v2 L2 H2 s2 hL2 hG2 hp2 => ?_⟩
  rw [hp1] at hp2
  have wl := wo_len pane L.panes
  rw [← hp2] at wl
  have bb := BB_le hM m
  refine ⟨_, rfl, _, rfl, v2, L2, w, h, BB M m, M, m, rfl, hL2, hG2, hm, by omega, by omega, hwM, hhM, by omega, by omega, fun v3 L3 H3 s3 hL3 hG3 hp3 => ?_⟩
  exact q v3 L3 H3 (s1.trans (s2.trans s3)) hL3 hG3 (by rw [hp3, hp2])
theorem ok_lmoved (T : Txt K mg) (n : Nat) : FnOk P w K mg base CX0 (n + 2) T.lmoved.f T.lmoved.fd P_lmoved (spMoved n) := by
  have G_lfit := ok_lfit (P := P) (w := w) (base := base) T n
  have G_lshift := ok_lshift (P := P) (w := w) (base := base) T n
  refine T.lmoved.F.ok sc_lmoved (fun vs H Q E h => ?_) (fun cdv A outer s H vs Q E hr h => ?_)
  · obtain ⟨v, L, w, h, M, m, pane, d, am, rfl, _⟩ := h
    rfl
  obtain ⟨v, L, w, h, M, m, pane, d, am, rfl, hL, hG, hm, hlen, hwM, hhM, hM3, hM, ha0, ha1, q⟩ := h
  have hr_lfit := hr
  have hr_lshift := hr
  refine ⟨_, (pss_one (ps_ret (pe_call G_lfit hr_lfit rfl T.lfit.g T.lfit.F.kp T.lfit.bd .nil pass0 (pa_cons (pe_ix (ixT (K := K) rfl) (pe_call G_lshift hr_lshift rfl T.lshift.g T.lshift.F.kp T.lshift.bd .nil pass0 (pa_cons (pe_call G_lfit hr_lfit rfl T.lfit.g T.lfit.F.kp T.lfit.bd .nil pass0 (pa_cons (pv 0) (pa_cons (pv 1) (pa_cons (pv 2) pa_nil)))) (pa_cons (pv 3) (pa_cons (pv 4) (pa_cons (pv 5) pa_nil))))) pe_int (fun _ _ => rfl)) (pa_cons (pv 1) (pa_cons (pv 2) pa_nil)))))), ?_⟩
  refine ⟨_, rfl, _, rfl, _, rfl, v, L, w, h, M, M, m, rfl, hL, hG, hm, by omega, hlen, hwM, hhM, hM3, by omega, fun v1 L1 H1 s1 hL1 hG1 hp1 => ?_⟩
  refine ⟨_, rfl, _, rfl, _, rfl, v1, L1, pane, d, am, M, m, rfl, hL1, hG1, hm, by rw [hp1]; exact hlen, hM, ha0, ha1, fun r v2 L2 k H2 s2 er hL2 hG2 hp2 => ?_⟩
  rw [hp1] at hp2
  refine ⟨r, _, 0, v2, rfl, rfl, SqT.tx er, atI_nat (j := 0) rfl, ?_⟩
  refine ⟨_, rfl, _, rfl, v2, L2, w, h, 5000, M, m, rfl, hL2, hG2, hm, by omega, by rw [hp2]; exact hlen, hwM, hhM, by rw [hp2]; exact hM3, by omega, fun v3 L3 H3 s3 hL3 hG3 hp3 => ?_⟩
  exact q v3 L3 H3 (s1.trans (s2.trans s3)) hL3 hG3 (by rw [hp3, hp2])
theorem ok_lbuilt (T : Txt K mg) : FnOk P w K mg base CX0 17 T.lbuilt.f T.lbuilt.fd P_lbuilt (spBuilt K) := by
  have G_lpanes := ok_lpanes (P := P) (w := w) (base := base) T 12
  have G_ldivided := ok_ldivided (P := P) (w := w) (base := base) T 12
  have G_lmoved := ok_lmoved (P := P) (w := w) (base := base) T 12
  have G_lwithout := ok_lwithout (P := P) (w := w) (base := base) T 12
  refine T.lbuilt.F.ok sc_lbuilt (fun vs H Q E h => ?_) (fun cdv A outer s H vs Q E hr h => ?_)
  · obtain ⟨a, ns, rfl, _⟩ := h
    rfl
  obtain ⟨a, ns, rfl, hA, hl, q⟩ := h
  have hr_lpanes := hr.mono (j := 12) (by decide)
  have hr_ldivided := hr
  have hr_lmoved := hr.mono (j := 14) (by decide)
  have hr_lwithout := hr.mono (j := 14) (by decide)
  refine ⟨_, (pss_cons (ps_set (i := 3) sc_lbuilt.nd rfl (Or.inl rfl) pe_int)
    (pss_cons (ps_set (i := 4) sc_lbuilt.nd rfl (Or.inl rfl) pe_int)
    (pss_cons (ps_for PassesOwn.never rfl (pi_list (pv 0)) (pg_name (i := 5) sc_lbuilt.nd rfl (Or.inl rfl))
      (pss_cons (ps_set (i := 6) sc_lbuilt.nd rfl (Or.inl rfl) (pe_call G_lpanes hr_lpanes rfl T.lpanes.g T.lpanes.F.kp T.lpanes.bd .nil pass0 (pa_cons (pv 3) pa_nil)))
      (pss_cons (ps_set (i := 7) sc_lbuilt.nd rfl (Or.inl rfl) (pe_ix (ixL (K := K) rfl) (pv 6) (pe_op op_mod (pe_callTy call_int1 rfl T.b.int (by decide +kernel) (pa_cons (pv 5) pa_nil)) (pe_callB (lenS (K := K) rfl) rfl T.b.len (by decide +kernel) (pa_cons (pv 6) pa_nil))) (fun _ _ => rfl)))
      (pss_cons (ps_set (i := 8) sc_lbuilt.nd rfl (Or.inl rfl) (pe_ix (ixL (K := K) rfl) (pe_lst (pa_cons pe_str (pa_cons pe_str pa_nil))) (pe_op op_mod (pe_op op_fdiv (pe_callTy call_int1 rfl T.b.int (by decide +kernel) (pa_cons (pv 5) pa_nil)) pe_int) pe_int) (fun _ _ => rfl)))
      (pss_cons (ps_set (i := 9) sc_lbuilt.nd rfl (Or.inl rfl) (pe_op op_mod (pe_op op_fdiv (pe_callTy call_int1 rfl T.b.int (by decide +kernel) (pa_cons (pv 5) pa_nil)) pe_int) pe_int))
      (pss_one (ps_if (pt_cmpR op_lt (pv 9) pe_int (nomark _))
        (pss_cons (ps_set (i := 10) sc_lbuilt.nd rfl (Or.inl rfl) (pe_call G_ldivided hr_ldivided rfl T.ldivided.g T.ldivided.F.kp T.ldivided.bd .nil pass0 (pa_cons (pv 3) (pa_cons (pv 1) (pa_cons (pv 2) (pa_cons (pv 7) (pa_cons (pv 8) (pa_cons (pe_op op_add (pv 4) pe_int) pa_nil))))))))
        (pss_one (ps_if (pt_cmpR op_notN (pv 10) pe_non (nomark _))
          (pss_cons (ps_set (i := 3) sc_lbuilt.nd rfl (Or.inl rfl) (pv 10))
          (pss_one (ps_set (i := 4) sc_lbuilt.nd rfl (Or.inl rfl) (pe_op op_add (pv 4) pe_int))))
          pss_nil)))
        (pss_one (ps_if (pt_cmpR op_eq (pv 9) pe_int (nomark _))
          (pss_one (ps_set (i := 3) sc_lbuilt.nd rfl (Or.inl rfl) (pe_call G_lmoved hr_lmoved rfl T.lmoved.g T.lmoved.F.kp T.lmoved.bd .nil pass0 (pa_cons (pv 3) (pa_cons (pv 1) (pa_cons (pv 2) (pa_cons (pv 7) (pa_cons (pv 8) (pa_cons (pe_op op_sub (pe_op op_mod (pe_op op_fdiv (pe_callTy call_int1 rfl T.b.int (by decide +kernel) (pa_cons (pv 5) pa_nil)) pe_int) pe_int) pe_int) pa_nil)))))))))
          (pss_one (ps_if (pt_cmpR op_gt (pe_callB (lenS (K := K) rfl) rfl T.b.len (by decide +kernel) (pa_cons (pv 6) pa_nil)) pe_int (nomark _))
            (pss_one (ps_set (i := 3) sc_lbuilt.nd rfl (Or.inl rfl) (pe_call G_lwithout hr_lwithout rfl T.lwithout.g T.lwithout.F.kp T.lwithout.bd .nil pass0 (pa_cons (pv 3) (pa_cons (pv 1) (pa_cons (pv 2) (pa_cons (pv 7) pa_nil)))))))
            pss_nil)))))))))))
    (pss_one (ps_ret (pv 3)))))), ?_⟩
  have two : 2 ≤ sizeLine := by decide
  have lns : (ns.map V.int).length = ns.length := List.length_map _
  refine ⟨_, rfl, a, rfl, ⟨_, hA⟩, for_list (K := K) (a := a) (xs := ns.map V.int)
    (fun i σ H' => ∃ v L o y5 y6 y7 y8 y9 y10, σ = [some (.ref a), some (.int 40), some (.int 20), some v, some (.int o), y5, y6, y7, y8, y9, y10] ∧ Same H H' ∧ LayV H' L v ∧ Good 40 i L ∧ L.panes.Nodup ∧ (∀ x ∈ L.panes, x ≤ o) ∧ L.panes.length ≤ i + 1)
    ⟨.int 1, .pane 1, 1, none, none, none, none, none, none, rfl, Same.refl _, layV_pane, .pane 1, by rw [panes_pane]; exact List.nodup_cons.mpr ⟨List.not_mem_nil, List.nodup_nil⟩, fun x hx => by rw [panes_pane] at hx; rw [List.mem_singleton.mp hx]; exact Int.le_refl _, Nat.le_refl _⟩
    (fun i σ H' _ ⟨_, _, _, _, _, _, _, _, _, _, sm, _⟩ => sm.seq hA) ?_ ?_⟩
  · rintro i x σ H' hi ⟨v, L, o, y5, y6, y7, y8, y9, y10, rfl, sm, hL, hG, hnd, hle, hlen⟩
    have hi10 := lt_of_at hi
    rw [lns] at hi10
    obtain ⟨c, ec, rfl⟩ := map_at hi
    have hp1 := hG.panes1
    -- known
    refine ⟨_, rfl, v, L, 40, i, rfl, hL, hG, by omega, by omega, fun r H2 s2 nr er => ?_⟩
    have lr : (L.panes.map V.int).length = L.panes.length := List.length_map _
    have hpos : (0 : Int) < (((L.panes.map V.int).length : Nat) : Int) := by rw [lr]; omega
    have r0 := Int.emod_nonneg c (show (((L.panes.map V.int).length : Nat) : Int) ≠ 0 by omega)
    have r1 := Int.emod_lt_of_pos c hpos
    have hj : (c % (((L.panes.map V.int).length : Nat) : Int)).toNat < L.panes.length := by omega
    have ex := List.getElem?_eq_getElem hj
    generalize L.panes[(c % (((L.panes.map V.int).length : Nat) : Int)).toNat] = pane at ex
    -- pane
    refine ⟨_, rfl, _, rfl, .inl ⟨_, rfl, _, rfl, r, _, rfl, .inl (SqL.of er), _, _, rfl, rfl, hpos, r, _, _, _, rfl, rfl, SqL.of er, at_of (j := (c % (((L.panes.map V.int).length : Nat) : Int)).toNat) (by omega) (ints_at ex), ?_⟩⟩
    -- way_here
    obtain ⟨d, hd⟩ := at_dir (Int.emod_nonneg (c / 11) (by decide : (2 : Int) ≠ 0)) (Int.emod_lt_of_pos (c / 11) (by decide : (0 : Int) < 2))
    refine ⟨two, fun l nl => ⟨_, rfl, .inl ⟨_, rfl, _, _, rfl, rfl, ⟨by decide, by decide⟩, _, _, rfl, rfl, (by show (0 : Int) < 2; decide), l, _, _, _, rfl, rfl, SqL.of upd_same, hd, ?_⟩⟩⟩
    have s3 : Same H2 (upd H2 l (.lst [.str "beside", .str "below"])) := same_upd nl
    generalize upd H2 l (.lst [.str "beside", .str "below"]) = H3 at s3
    have s13 := s2.trans s3
    have hL3 := hL.tx (Tx.of s13)
    have er3 := s3 _ _ er
    -- kind
    refine ⟨_, rfl, .inl ⟨_, rfl, _, _, rfl, rfl, ⟨by decide, by decide⟩, _, _, rfl, rfl, (by show (0 : Int) < 6; decide), ?_⟩⟩
    refine ⟨_, rfl, _, _, rfl, rfl, _, rfl, ite2 (fun c1 => ?_) (fun c1 => ?_)⟩
    · have hnew : o + 1 ∉ L.panes := fun m => by have := hle _ m; omega
      obtain ⟨nd', nl'⟩ := nw_nodup (pane := pane) hnd hnew
      refine ⟨_, rfl, _, rfl, _, rfl, _, rfl, _, rfl, _, rfl, _, _, rfl, rfl, v, L, 40, 20, 40, i, pane, d, o + 1, rfl, hL3, hG, by omega, by omega, by omega, by decide, by decide, by omega, by omega, by decide, fun H4 s4 => ?_, fun v' L' H4 s4 hL' hG' hp' => ?_⟩
      · refine ⟨_, rfl, rfl, _, rfl, ?_⟩
        exact ⟨v, L, o, _, _, _, _, _, _, rfl, sm.trans (s13.trans s4), hL3.tx (Tx.of s4), hG.mono (Int.le_refl _) (Nat.le_succ _), hnd, hle, by omega⟩
      · refine ⟨_, rfl, rfl, _, rfl, ite2 (fun _ => ?_) (fun z => absurd ?_ z)⟩
        · refine ⟨_, rfl, _, rfl, _, _, rfl, rfl, ?_⟩
          refine ⟨v', L', o + 1, _, _, _, _, _, _, rfl, sm.trans (s13.trans s4), hL', hG', by rw [hp']; exact nd', fun x hx => ?_, by rw [hp']; omega⟩
          rw [hp'] at hx
          rcases nw_mem hx with z | z
          · have := hle x z; omega
          · omega
        · rw [decide_eq_false (layV_some hL')]
          rfl
    · refine ⟨_, rfl, rfl, _, rfl, ite2 (fun c2 => ?_) (fun c2 => ?_)⟩
      · have a0 := Int.emod_nonneg (c / 132) (by decide : (21 : Int) ≠ 0)
        have a1 := Int.emod_lt_of_pos (c / 132) (by decide : (0 : Int) < 21)
        refine ⟨_, rfl, _, rfl, _, rfl, _, rfl, _, rfl, _, rfl, .inl ⟨_, rfl, _, _, rfl, rfl, ⟨by decide, by decide⟩, _, _, rfl, rfl, (by show (0 : Int) < 21; decide), _, _, rfl, rfl, ?_⟩⟩
        refine ⟨v, L, 40, 20, 40, i, pane, d, _, rfl, hL3, hG, by omega, by omega, by decide, by decide, by omega, by decide, by omega, by omega, fun v' L' H4 s4 hL' hG' hp' => ?_⟩
        exact ⟨v', L', o, _, _, _, _, _, _, rfl, sm.trans (s13.trans s4), hL', hG'.mono (Int.le_refl _) (Nat.le_succ _), by rw [hp']; exact hnd, by rw [hp']; exact hle, by rw [hp']; omega⟩
      · refine ⟨_, rfl, r, _, rfl, .inl (SqL.of er3), _, _, rfl, rfl, _, rfl, ite2 (fun c3 => ?_) (fun c3 => ?_)⟩
        · have c3' : (1 : Int) < (((L.panes.map V.int).length : Nat) : Int) := of_decide_eq_true c3
          refine ⟨_, rfl, _, rfl, _, rfl, _, rfl, v, L, 40, 20, 40, i, pane, rfl, hL3, hG, by omega, by omega, by decide, by decide, by omega, by decide, by omega, hnd, fun e => ?_, fun v' L' H4 s4 hL' hG' hp' => ?_⟩
          · rw [lr, e] at c3'
            have z : (1 : Int) < 1 := c3'
            omega
          · have wl := wo_len pane L.panes
            exact ⟨v', L', o, _, _, _, _, _, _, rfl, sm.trans (s13.trans s4), hL', hG'.mono (Int.le_refl _) (Nat.le_succ _), by rw [hp']; exact wo_nodup hnd, fun x hx => hle x (wo_mem (by rw [← hp']; exact hx)), by rw [hp']; omega⟩
        · exact ⟨v, L, o, _, _, _, _, _, _, rfl, sm.trans s13, hL3, hG.mono (Int.le_refl _) (Nat.le_succ _), hnd, hle, by omega⟩
  · rintro σ H' ⟨v, L, o, y5, y6, y7, y8, y9, y10, rfl, sm, hL, hG, hnd, hle, hlen⟩
    rw [lns] at hG hlen
    exact ⟨_, rfl, q v L H' sm hL (hG.mono (Int.le_refl _) hl) (by omega)⟩
end
end K20

set_option Elab.async false
set_option maxRecDepth 100000
set_option maxHeartbeats 8000000
set_option linter.all false
/-! cell, row, integer, the law -/
namespace K20
open PySem PySem.Spec PyProof.Rows L2
/-! ### lists of ints as data -/
abbrev dI (ns : List Int) : PyData := .list (ns.map PyData.int)
theorem dpAll_ints {K : PySem.W.Frag} {H : Hp} : ∀ ns : List Int, DpAll K H (ns.map V.int) (ns.map PyData.int)
  | [] => .nil
  | n :: r => .cons (.int n) (dpAll_ints r)
theorem dp_ints {K : PySem.W.Frag} {H : Hp} {a : Addr} {ns : List Int} (h : SqL K H a (ns.map V.int)) : Dp K H (.ref a) (dI ns) := .lst h (dpAll_ints ns)
theorem lay_ints : ∀ ns : List Int, PyData.canLayAll0 (ns.map PyData.int) = true ∧ PyData.depthAll (ns.map PyData.int) = 0
  | [] => ⟨rfl, rfl⟩
  | n :: r => by
    obtain ⟨h1, h2⟩ := lay_ints r
    constructor
    · show (true && PyData.canLayAll0 (r.map PyData.int)) = true
      rw [h1]
      rfl
    · show max 0 (PyData.depthAll (r.map PyData.int)) = 0
      rw [h2]
      rfl
theorem shaped_ints (ns : List Int) : SeqAt.shaped (dI ns) = true := by
  obtain ⟨h1, h2⟩ := lay_ints ns
  unfold SeqAt.shaped
  have e1 : (dI ns).canLay0 = true := h1
  have e2 : (dI ns).depth = 1 := by
    show PyData.depthAll (ns.map PyData.int) + 1 = 1
    rw [h2]
  rw [e1, e2]
  rfl
theorem eqvAll_ints : ∀ ns : List Int, PyData.eqvAll (ns.map PyData.int) (ns.map PyData.int) = true
  | [] => rfl
  | n :: r => by
    show ((n == n) && PyData.eqvAll (r.map PyData.int) (r.map PyData.int)) = true
    rw [eqvAll_ints r, beq_self_eq_true]
    rfl
theorem eqv_ints (ns : List Int) : PyData.eqv (dI ns) (dI ns) = true := eqvAll_ints ns
theorem all_true (n : Nat) : (List.replicate n true).all id = true := by
  rw [List.all_eq_true]
  intro x hx
  rw [List.eq_of_mem_replicate hx]
  rfl
theorem rep_bl (n : Nat) : List.replicate n (V.bl true) = (List.replicate n true).map V.bl := by
  rw [List.map_replicate]
/-! ### promises -/
def spCell (K : PySem.W.Frag) : Sp := fun vs H Q _ => ∃ (a : Addr) (ns : List Int) (k : Nat), vs = [.ref a, .int (k : Int)] ∧ SqL K H a (ns.map V.int) ∧ ∀ z : Int, Q (.int z) H
def spRow : Sp := fun vs H Q _ => ∃ c n b : Int, vs = [.int c, .int n, .int b] ∧ 0 ≤ n ∧ n ≤ 100 ∧ 0 < b ∧ b ≤ 1000 ∧
  ∀ (r : Addr) (H' : Hp) (ns : List Int), Same H H' → H r = none → H' r = some (.lst (ns.map V.int)) → ns.length = n.toNat → (∀ x ∈ ns, 0 ≤ x ∧ x < b) → Q (.ref r) H'
def spInteger : Sp := fun vs H Q _ => ∃ n : Int, vs = [.int n] ∧ Q (.bl true) H
def spLaw (K : PySem.W.Frag) : Sp := fun vs H Q _ => ∃ (a : Addr) (ns : List Int), vs = [.ref a] ∧ SqL K H a (ns.map V.int) ∧ ns.length ≤ 63 ∧ ∀ H', Q (.bl true) H'
section
variable {P : Program} {w : World} {K : PySem.W.Frag} {mg : Str → Option Value} {base : Heap}
theorem ok_lcell (T : Txt K mg) : FnOk P w K mg base CX0 1 T.lcell.f T.lcell.fd P_lcell (spCell K) := by
  refine T.lcell.F.ok sc_lcell (fun vs H Q E h => ?_) (fun cdv A outer s H vs Q E hr h => ?_)
  · obtain ⟨a, ns, k, rfl, _⟩ := h
    rfl
  obtain ⟨a, ns, k, rfl, hA, q⟩ := h
  refine ⟨_, (pss_cons (ps_if (pt_cmpR op_lt (pv 1) (pe_callB (lenS (K := K) rfl) rfl T.b.len (by decide +kernel) (pa_cons (pv 0) pa_nil)) (nomark _))
      (pss_one (ps_ret (pe_callTy call_int1 rfl T.b.int (by decide +kernel) (pa_cons (pe_ix (ixL (K := K) rfl) (pv 0) (pv 1) (fun _ _ => rfl)) pa_nil))))
      pss_nil)
    (pss_one (ps_ret pe_int))), ?_⟩
  refine ⟨_, rfl, _, rfl, a, _, rfl, .inl hA, _, _, rfl, rfl, _, rfl, ite2 (fun c => ?_) (fun c => ?_)⟩
  · have c' : (k : Int) < (((ns.map V.int).length : Nat) : Int) := of_decide_eq_true c
    rw [List.length_map] at c'
    have e := List.getElem?_eq_getElem (show k < ns.length by omega)
    exact ⟨_, rfl, _, rfl, a, _, _, _, rfl, rfl, hA, atI_nat (ints_at e), .inl ⟨_, rfl, q _⟩⟩
  · exact q 0
theorem ok_lrow (T : Txt K mg) : FnOk P w K mg base CX0 1 T.lrow.f T.lrow.fd P_lrow spRow := by
  refine T.lrow.F.ok sc_lrow (fun vs H Q E h => ?_) (fun cdv A outer s H vs Q E hr h => ?_)
  · obtain ⟨c, n, b, rfl, _⟩ := h
    rfl
  obtain ⟨c, n, b, rfl, n0, n1, b0, b1, q⟩ := h
  refine ⟨_, (pss_cons (ps_set (i := 3) sc_lrow.nd rfl (Or.inl rfl) (pe_callB call_abs rfl T.b.abs (by decide +kernel) (pa_cons (pe_callTy call_int1 rfl T.b.int (by decide +kernel) (pa_cons (pv 0) pa_nil)) pa_nil)))
    (pss_cons (ps_set (i := 4) sc_lrow.nd rfl (Or.inl rfl) (pe_op op_add (pe_op op_mod (pe_callTy call_int1 rfl T.b.int (by decide +kernel) (pa_cons (pv 0) pa_nil)) pe_int) pe_int))
    (pss_cons (ps_set (i := 5) sc_lrow.nd rfl (Or.inl rfl) (pe_lst pa_nil))
    (pss_cons (ps_for PassesOwn.never rfl (pi_range1 rfl T.b.range (pa_cons (pv 1) pa_nil)) (pg_name (i := 6) sc_lrow.nd rfl (Or.inl rfl))
      (pss_one (ps_if (pt_cmpR op_ge (pv 3) (pv 2) (nomark _))
        (pss_cons (ps_expr (pe_bm PySem.F.plainAttrs_list PySem.F.slot_list_append PySem.F.type_list_append mt_append (pv 5) (pa_cons (pe_op op_mod (pe_callTy call_int1 rfl T.b.int (by decide +kernel) (pa_cons (pv 3) pa_nil)) (pv 2)) pa_nil)))
        (pss_one (ps_set (i := 3) sc_lrow.nd rfl (Or.inl rfl) (pe_op op_fdiv (pv 3) (pv 2)))))
        (pss_cons (ps_set (i := 4) sc_lrow.nd rfl (Or.inl rfl) (pe_op op_mod (pe_callTy call_int1 rfl T.b.int (by decide +kernel) (pa_cons (pe_op op_add (pe_op op_add (pe_op op_mul (pv 4) pe_int) (pe_op op_mul pe_int (pv 6))) pe_int) pa_nil)) pe_int))
        (pss_one (ps_expr (pe_bm PySem.F.plainAttrs_list PySem.F.slot_list_append PySem.F.type_list_append mt_append (pv 5) (pa_cons (pe_op op_mod (pe_callTy call_int1 rfl T.b.int (by decide +kernel) (pa_cons (pe_op op_fdiv (pe_op op_mul (pv 4) pe_int) pe_int) pa_nil)) (pv 2)) pa_nil))))))))
    (pss_one (ps_ret (pv 5))))))), ?_⟩
  refine ⟨_, rfl, .inl ⟨_, rfl, _, rfl, ?_⟩⟩
  refine ⟨_, rfl, .inl ⟨_, rfl, _, _, rfl, rfl, (by show (0 : Int) < 1000003; decide), _, _, rfl, rfl, ?_⟩⟩
  have m0 := Int.emod_nonneg c (show (1000003 : Int) ≠ 0 by decide)
  have m1 := Int.emod_lt_of_pos c (show (0 : Int) < 1000003 by decide)
  dsimp only
  refine ⟨Nat.zero_le _, fun l nl => ?_⟩
  refine ⟨_, rfl, _, rfl, by omega, by omega, for_range (lo := 0)
    (fun i σ H' => i ≤ n.toNat ∧ ∃ (re mi : Int) (y6 : Option V) (ns : List Int), σ = [some (.int c), some (.int n), some (.int b), some (.int re), some (.int mi), some (.ref l), y6] ∧ Same H H' ∧ H' l = some (.lst (ns.map V.int)) ∧ ns.length = i ∧ (∀ x ∈ ns, 0 ≤ x ∧ x < b) ∧ 0 ≤ mi ∧ mi < 10000000000)
    ⟨Nat.zero_le _, _, _, none, [], rfl, same_upd nl, upd_same, rfl, fun x hx => absurd hx List.not_mem_nil, by omega, by omega⟩ ?_ ?_⟩
  · rintro i σ H' hi ⟨_, re, mi, y6, ns, rfl, sm, el, hln, hns, hm0, hm1⟩
    have lns : (ns.map V.int).length = ns.length := List.length_map _
    refine ⟨_, rfl, _, rfl, _, _, rfl, rfl, _, rfl, ite2 (fun c1 => ?_) (fun c1 => ?_)⟩
    · refine ⟨_, rfl, .inl ⟨rfl, _, SqL.of el⟩, _, rfl, .inl ⟨_, rfl, _, rfl, _, _, rfl, rfl, b0, l, _, _, rfl, rfl, el, small1000 (by omega), ?_⟩⟩
      refine ⟨_, rfl, _, rfl, _, _, rfl, rfl, ⟨b0, by omega⟩, ?_⟩
      have r0 := Int.emod_nonneg re (show b ≠ 0 by omega)
      have r1 := Int.emod_lt_of_pos re b0
      refine ⟨hi, _, _, _, ns ++ [re % b], rfl, Same.mut sm nl, by rw [upd_same, List.map_append]; rfl, by rw [List.length_append, hln]; rfl, fun x hx => ?_, hm0, hm1⟩
      rcases List.mem_append.mp hx with g | g
      · exact hns x g
      · rw [List.mem_singleton.mp g]
        exact ⟨r0, r1⟩
    · refine ⟨_, rfl, _, _, rfl, rfl, .inl ⟨by omega, by omega⟩, _, rfl, _, _, rfl, rfl, .inl ⟨by decide, by decide⟩, _, _, rfl, rfl, _, _, rfl, rfl, .inl ⟨_, rfl, _, _, rfl, rfl, (by show (0 : Int) < 2147483647; decide), ?_⟩⟩
      have k0 := Int.emod_nonneg (mi * 48271 + 11 * (0 + (i : Int)) + 7) (show (2147483647 : Int) ≠ 0 by decide)
      have k1 := Int.emod_lt_of_pos (mi * 48271 + 11 * (0 + (i : Int)) + 7) (show (0 : Int) < 2147483647 by decide)
      dsimp only
      generalize (mi * 48271 + 11 * (0 + (i : Int)) + 7) % 2147483647 = m2 at k0 k1 ⊢
      refine ⟨_, rfl, .inl ⟨rfl, _, SqL.of el⟩, _, rfl, _, _, rfl, rfl, .inl ⟨by omega, by omega⟩, _, _, rfl, rfl, ⟨by decide, by decide⟩, .inl ⟨_, rfl, _, rfl, _, _, rfl, rfl, b0, l, _, _, rfl, rfl, el, small1000 (by omega), ?_⟩⟩
      have r0 := Int.emod_nonneg (m2 * 2862933555777941757 / 1024) (show b ≠ 0 by omega)
      have r1 := Int.emod_lt_of_pos (m2 * 2862933555777941757 / 1024) b0
      refine ⟨hi, _, _, _, ns ++ [m2 * 2862933555777941757 / 1024 % b], rfl, Same.mut sm nl, by rw [upd_same, List.map_append]; rfl, by rw [List.length_append, hln]; rfl, fun x hx => ?_, k0, by omega⟩
      rcases List.mem_append.mp hx with g | g
      · exact hns x g
      · rw [List.mem_singleton.mp g]
        exact ⟨r0, r1⟩
  · rintro σ H' ⟨_, re, mi, y6, ns, rfl, sm, el, hln, hns, _⟩
    exact ⟨_, rfl, q l H' ns sm nl el hln hns⟩
theorem ok_linteger (T : Txt K mg) : FnOk P w K mg base CX0 1 T.linteger.f T.linteger.fd P_linteger spInteger := by
  refine T.linteger.F.ok sc_linteger (fun vs H Q E h => ?_) (fun cdv A outer s H vs Q E hr h => ?_)
  · obtain ⟨n, rfl, _⟩ := h
    rfl
  obtain ⟨n, rfl, q⟩ := h
  refine ⟨_, (pss_one (ps_ret (pe_and (pe_callB (isiS (K := K) rfl) rfl T.b.isinstance (by decide +kernel) (pa_cons (pv 0) (pa_cons (pe_bltn (v := .ty "int") rfl T.b.int (by decide +kernel) rfl) pa_nil))) (pe_one (pe_not (pe_callB (isiS (K := K) rfl) rfl T.b.isinstance (by decide +kernel) (pa_cons (pv 0) (pa_cons (pe_bltn (v := .ty "bool") rfl T.b.bool (by decide +kernel) rfl) pa_nil)))))))), ?_⟩
  refine ⟨_, rfl, _, _, _, _, true, rfl, .ty _, .base (.int _), kit_ty (by decide +kernel), true, rfl, iteT ?_⟩
  exact ⟨_, rfl, _, _, _, _, false, rfl, .ty _, .base (.int _), kit_ty (by decide +kernel), false, rfl, q⟩
end
end K20

set_option Elab.async false
set_option maxRecDepth 100000
set_option maxHeartbeats 8000000
set_option linter.all false
/-! the law -/
namespace K20
open PySem PySem.Spec PyProof.Rows L2
theorem cut_ints (ns : List Int) : ∃ ms : List Int, cutV (ns.map V.int) (some 3) (some 13) = ms.map V.int ∧ ms.length ≤ 10 := by
  unfold cutV
  rw [show HT.sIx (ns.map V.int).length 0 (some 3) = min 3 (ns.map V.int).length from HT.sIx_nat _ 0 3, show HT.sIx (ns.map V.int).length (ns.map V.int).length (some 13) = min 13 (ns.map V.int).length from HT.sIx_nat _ _ 13]
  refine ⟨(ns.drop (min 3 (ns.map V.int).length)).take (min 13 (ns.map V.int).length - min 3 (ns.map V.int).length), by rw [List.map_take, List.map_drop], ?_⟩
  rw [List.length_take]
  omega
theorem zip_at {ss ms : List Int} {i : Nat} {s m : Int} (hs : ss[i]? = some s) (hm : ms[i]? = some m) : (List.zipWith mxp ss ms)[i]? = some (mxp s m) := by
  rw [List.getElem?_zipWith, hs, hm]
theorem zip_bounds {ss ms : List Int} (hs : ∀ x ∈ ss, x ≤ 100000) (hm : ∀ x ∈ ms, x ≤ 100000) : ∀ x ∈ List.zipWith mxp ss ms, x ≤ 100000 := fun x hx => by
  obtain ⟨i, hi, e⟩ := List.mem_iff_getElem.mp hx
  rw [List.getElem_zipWith] at e
  rw [← e]
  exact mxp_le (hs _ (List.getElem_mem _)) (hm _ (List.getElem_mem _))
/-- the sizes' sum, where the total is enough -/
theorem whole {total : Int} {ms ss : List Int} (h : ms.length = ss.length) (h0 : 0 < ss.length) (ht : ms.sum + (ms.length : Int) - 1 ≤ total) : (shareM total ms ss).sum + (ms.length : Int) - 1 = total := by
  rw [share_sum h h0]
  unfold spareM mx0
  split <;> omega
section
variable {P : Program} {w : World} {K : PySem.W.Frag} {mg : Str → Option Value} {base : Heap}
theorem ok_law (T : Txt K mg) : FnOk P w K mg base CX0 18 T.law.f T.law.fd P_law (spLaw K) := by
  have G_lcell := ok_lcell (P := P) (w := w) (base := base) T
  have G_lrow := ok_lrow (P := P) (w := w) (base := base) T
  have G_linteger := ok_linteger (P := P) (w := w) (base := base) T
  have G_share := ok_share (P := P) (w := w) (base := base) T
  have G_lshare := ok_lshare (P := P) (w := w) (base := base) T
  have G_lbuilt := ok_lbuilt (P := P) (w := w) (base := base) T
  have G_least := ok_least (P := P) (w := w) (base := base) T 11
  have G_lleast := ok_lleast (P := P) (w := w) (base := base) T 11
  have G_panes := ok_panes (P := P) (w := w) (base := base) T 11
  have G_lpanes := ok_lpanes (P := P) (w := w) (base := base) T 11
  refine T.law.F.ok sc_law (fun vs H Q E h => ?_) (fun cdv A outer s H vs Q E hr h => ?_)
  · obtain ⟨a, ns, rfl, _⟩ := h
    rfl
  obtain ⟨a, ns, rfl, hA, hl63, q⟩ := h
  have hr_lcell := hr.mono (j := 1) (by decide)
  have hr_lrow := hr.mono (j := 1) (by decide)
  have hr_linteger := hr.mono (j := 1) (by decide)
  have hr_share := hr.mono (j := 1) (by decide)
  have hr_lshare := hr.mono (j := 1) (by decide)
  have hr_lbuilt := hr
  have hr_least := hr.mono (j := 11) (by decide)
  have hr_lleast := hr.mono (j := 11) (by decide)
  have hr_panes := hr.mono (j := 11) (by decide)
  have hr_lpanes := hr.mono (j := 11) (by decide)
  refine ⟨_, (pss_cons (ps_set (i := 1) sc_law.nd rfl (Or.inl rfl) (pe_call G_lcell hr_lcell rfl T.lcell.g T.lcell.F.kp T.lcell.bd .nil pass0 (pa_cons (pv 0) (pa_cons pe_int pa_nil))))
    (pss_cons (ps_set (i := 2) sc_law.nd rfl (Or.inl rfl) (pe_op op_add pe_int (pe_op op_mod (pv 1) pe_int)))
    (pss_cons (ps_set (i := 3) sc_law.nd rfl (Or.inr rfl) (pe_lc (own := [("_law_x", 4)]) rfl sc_law.nd (pi_list (pe_call G_lrow hr_lrow rfl T.lrow.g T.lrow.F.kp T.lrow.bd .nil pass0 (pa_cons (pe_call G_lcell hr_lcell rfl T.lcell.g T.lcell.F.kp T.lcell.bd .nil pass0 (pa_cons (pv 0) (pa_cons pe_int pa_nil))) (pa_cons (pv 2) (pa_cons pe_int pa_nil))))) (blkOk_by (own := [("_law_x", 4)]) (N := N_law) (sc := defScope s_law) (by decide +kernel)) (fun _ _ _ _ _ => pg_name (i := 4) sc_law.nd rfl (Or.inl rfl)) (fun _ _ _ _ _ => pts_nil) (fun _ _ _ _ _ => (pe_op op_add pe_int (pv 4)))))
    (pss_cons (ps_set (i := 5) sc_law.nd rfl (Or.inr rfl) (pe_call G_lrow hr_lrow rfl T.lrow.g T.lrow.F.kp T.lrow.bd .nil pass0 (pa_cons (pe_call G_lcell hr_lcell rfl T.lcell.g T.lcell.F.kp T.lcell.bd .nil pass0 (pa_cons (pv 0) (pa_cons pe_int pa_nil))) (pa_cons (pv 2) (pa_cons pe_int pa_nil)))))
    (Evl.pss_cut (ps_if (pt_cmpR op_eq (pe_op op_mod (pe_op op_fdiv (pv 1) pe_int) pe_int) pe_int (nomark _))
      (pss_one (ps_set (i := 5) sc_law.nd rfl (Or.inr rfl) (pe_lc (own := [("_law_k", 6)]) rfl sc_law.nd (pi_range1 rfl T.b.range (pa_cons (pv 2) pa_nil)) (blkOk_by (own := [("_law_k", 6)]) (N := N_law) (sc := defScope s_law) (by decide +kernel)) (fun _ _ _ _ _ => pg_name (i := 6) sc_law.nd rfl (Or.inl rfl)) (fun _ _ _ _ _ => pts_nil) (fun _ _ _ _ _ => (pe_callB (call_max2 rfl) rfl T.b.max (by decide +kernel) (pa_cons (pe_ix (ixL (K := K) rfl) (pv 5) (pv 6) (fun _ _ => rfl)) (pa_cons (pe_ix (ixL (K := K) rfl) (pv 3) (pv 6) (fun _ _ => rfl)) pa_nil)))))))
      pss_nil)
    (pss_cons (ps_set (i := 7) sc_law.nd rfl (Or.inl rfl) (pe_op op_mod (pe_op op_fdiv (pv 1) pe_int) pe_int))
    (pss_cons (ps_set (i := 8) sc_law.nd rfl (Or.inl rfl) (pe_callTy (listS (K := K) rfl) rfl T.b.list (by decide +kernel) (pa_cons (pv 3) pa_nil)))
    (pss_cons (ps_set (i := 9) sc_law.nd rfl (Or.inl rfl) (pe_callTy (listS (K := K) rfl) rfl T.b.list (by decide +kernel) (pa_cons (pv 5) pa_nil)))
    (pss_cons (ps_set (i := 10) sc_law.nd rfl (Or.inr rfl) (pe_call G_share hr_share rfl T.share.g T.share.F.kp T.share.bd .nil pass0 (pa_cons (pv 7) (pa_cons (pv 8) (pa_cons (pv 9) pa_nil)))))
    (pss_cons (ps_if (PW.pt (pw_or (pt_not (pt_val (pe_callB (isiS (K := K) rfl) rfl T.b.isinstance (by decide +kernel) (pa_cons (pv 10) (pa_cons (pe_bltn (v := .ty "list") rfl T.b.list (by decide +kernel) rfl) pa_nil))))) (pw_or (pt_not (pt_val (pe_callB (allS (K := K) rfl rfl) rfl T.b.all (by decide +kernel) (pa_cons (pe_lc (own := [("_law_x", 4)]) rfl sc_law.nd (pi_list (pv 10)) (blkOk_by (own := [("_law_x", 4)]) (N := N_law) (sc := defScope s_law) (by decide +kernel)) (fun _ _ _ _ _ => pg_name (i := 4) sc_law.nd rfl (Or.inl rfl)) (fun _ _ _ _ _ => pts_nil) (fun _ _ _ _ _ => (pe_call G_linteger hr_linteger rfl T.linteger.g T.linteger.F.kp T.linteger.bd .nil pass0 (pa_cons (pv 4) pa_nil)))) pa_nil)))) (pw_or (pt_cmpR (neD (K := K) rfl hr.units) (pv 8) (pv 3) (nomark _)) (pw_or1 (pt_cmpR (neD (K := K) rfl hr.units) (pv 9) (pv 5) (nomark _)))))))
      (pss_one (ps_ret pe_bl))
      pss_nil)
    (pss_cons (ps_if (pt_cmpR (neD (K := K) rfl hr.units) (pv 10) (pe_call G_lshare hr_lshare rfl T.lshare.g T.lshare.F.kp T.lshare.bd .nil pass0 (pa_cons (pv 7) (pa_cons (pv 3) (pa_cons (pv 5) pa_nil)))) (nomark _))
      (pss_one (ps_ret pe_bl))
      pss_nil)
    (pss_cons (ps_if (PW.pt (pw_and (pt_cmpR op_ge (pv 7) (pe_op op_sub (pe_op op_add (pe_callB (sumS (K := K) rfl rfl) rfl T.b.sum (by decide +kernel) (pa_cons (pv 3) pa_nil)) (pv 2)) pe_int) (nomark _)) (pw_and1 (pt_cmpR op_ne (pe_op op_sub (pe_op op_add (pe_callB (sumS (K := K) rfl rfl) rfl T.b.sum (by decide +kernel) (pa_cons (pv 10) pa_nil)) (pv 2)) pe_int) (pv 7) (nomark _)))))
      (pss_one (ps_ret pe_bl))
      pss_nil)
    (pss_cons (ps_if (pt_not (pt_val (pe_callB (allS (K := K) rfl rfl) rfl T.b.all (by decide +kernel) (pa_cons (pe_lc (own := [("_law_k", 6)]) rfl sc_law.nd (pi_range1 rfl T.b.range (pa_cons (pv 2) pa_nil)) (blkOk_by (own := [("_law_k", 6)]) (N := N_law) (sc := defScope s_law) (by decide +kernel)) (fun _ _ _ _ _ => pg_name (i := 6) sc_law.nd rfl (Or.inl rfl)) (fun _ _ _ _ _ => pts_nil) (fun _ _ _ _ _ => (pe_cmpR op_ge (pe_ix (ixL (K := K) rfl) (pv 10) (pv 6) (fun _ _ => rfl)) (pe_ix (ixL (K := K) rfl) (pv 3) (pv 6) (fun _ _ => rfl)) (nomark _)))) pa_nil))))
      (pss_one (ps_ret pe_bl))
      pss_nil)
    (pss_cons (ps_set (i := 11) sc_law.nd rfl (Or.inl rfl) (pe_call G_lbuilt hr_lbuilt rfl T.lbuilt.g T.lbuilt.F.kp T.lbuilt.bd .nil pass0 (pa_cons (pe_slice sl_list (pv 0) (po_some pe_int) (po_some pe_int)) (pa_cons pe_int (pa_cons pe_int pa_nil)))))
    (pss_cons (ps_set (i := 12) sc_law.nd rfl (Or.inl rfl) (pe_call G_least hr_least rfl T.least.g T.least.F.kp T.least.bd .nil pass0 (pa_cons (pv 11) pa_nil)))
    (pss_cons (ps_if (PW.pt (pw_or (pt_not (pt_val (pe_callB (isiS (K := K) rfl) rfl T.b.isinstance (by decide +kernel) (pa_cons (pv 12) (pa_cons (pe_bltn (v := .ty "tuple") rfl T.b.tuple (by decide +kernel) rfl) pa_nil))))) (pw_or1 (pt_cmpR (neD (K := K) rfl hr.units) (pe_callTy (listS (K := K) rfl) rfl T.b.list (by decide +kernel) (pa_cons (pv 12) pa_nil)) (pe_call G_lleast hr_lleast rfl T.lleast.g T.lleast.F.kp T.lleast.bd .nil pass0 (pa_cons (pv 11) pa_nil)) (nomark _)))))
      (pss_one (ps_ret pe_bl))
      pss_nil)
    (pss_one (ps_ret (pe_cmpR (eqD (K := K) rfl hr.units) (pe_call G_panes hr_panes rfl T.panes.g T.panes.F.kp T.panes.bd .nil pass0 (pa_cons (pv 11) pa_nil)) (pe_call G_lpanes hr_lpanes rfl T.lpanes.g T.lpanes.F.kp T.lpanes.bd .nil pass0 (pa_cons (pv 11) pa_nil)) (nomark _)))))))))))))))))))), ?_⟩
  -- first, count
  refine ⟨_, rfl, a, ns, 0, rfl, hA, fun f => ?_⟩
  refine ⟨_, rfl, _, _, rfl, rfl, (by show (0 : Int) < 8; decide), _, _, rfl, rfl, ?_⟩
  have c0 := Int.emod_nonneg f (show (8 : Int) ≠ 0 by decide)
  have c1 := Int.emod_lt_of_pos f (show (0 : Int) < 8 by decide)
  dsimp only
  generalize hcn : 1 + f % 8 = cn
  have hc1 : 1 ≤ cn := by omega
  have hc8 : cn ≤ 8 := by omega
  -- smallest
  refine ⟨_, rfl, a, ns, 1, rfl, hA, fun z1 => ⟨_, rfl, z1, cn, 9, rfl, by omega, by omega, by decide, by decide, fun r H1 rs s1 nr er lr br => ⟨r, rfl, ⟨_, SqL.of er⟩, lcMapL ((rs.map (1 + ·)).map V.int) (by rw [List.length_map, List.length_map, List.length_map]) (SqL.of er) (by rw [List.length_map]; omega) (fun _ => rfl) ?_ ?_⟩⟩⟩
  · intro i x y H2 R sm hx hy k
    obtain ⟨z, hz, rfl⟩ := map_at hx
    obtain ⟨z', hz', rfl⟩ := map_at hy
    obtain ⟨z2, hz2, rfl⟩ := map_at hz'
    rw [hz] at hz2; cases hz2
    exact ⟨_, rfl, _, _, rfl, rfl, k H2 (Same.refl _)⟩
  intro D1 H2 s2 nD1 eD1
  have lms : (rs.map (1 + ·)).length = cn.toNat := by rw [List.length_map, lr]
  have bms : ∀ x ∈ rs.map (1 + ·), 1 ≤ x ∧ x ≤ 9 := fun x hx => by
    obtain ⟨y, hy, rfl⟩ := List.mem_map.mp hx
    have := br y hy
    omega
  generalize rs.map (1 + ·) = ms at eD1 lms bms
  have s02 := s1.trans s2
  -- sizes
  refine ⟨_, rfl, a, ns, 2, rfl, s02.seq hA, fun z2 => ⟨_, rfl, z2, cn, 41, rfl, by omega, by omega, by decide, by decide, fun r2 H3 ss0 s3 nr2 er2 lr2 br2 => ?_⟩⟩
  have s03 := s02.trans s3
  have eD13 := s3 _ _ eD1
  -- if first // 8 % 2 == 1
  refine ⟨fun σ' H' => ∃ (E : Addr) (ss : List Int), σ' = [some (.ref a), some (.int f), some (.int cn), some (.ref D1), none, some (.ref E), none, none, none, none, none, none, none] ∧ Same H3 H' ∧ H' E = some (.lst (ss.map V.int)) ∧ ss.length = cn.toNat ∧ ∀ x ∈ ss, x ≤ 100000, ?_, ?_⟩
  · refine ⟨_, rfl, _, _, rfl, rfl, ⟨by decide, by decide⟩, _, _, rfl, rfl, (by show (0 : Int) < 2; decide), rfl, _, rfl, ite2 (fun c => ?_) (fun c => ?_)⟩
    · refine ⟨_, rfl, _, rfl, by omega, by omega, lcMapR ((List.zipWith mxp ss0 ms).map V.int) (by rw [List.length_map, List.length_zipWith, lr2, lms, Nat.min_self]) (by omega) (fun _ => rfl) ?_ ?_⟩
      · intro i y H4 R sm hi hy k
        have e1 := List.getElem?_eq_getElem (show i < ss0.length by omega)
        have e2 := List.getElem?_eq_getElem (show i < ms.length by omega)
        rw [ints_at (zip_at e1 e2)] at hy
        cases hy
        exact ⟨_, rfl, _, rfl, r2, _, _, _, rfl, rfl, SqL.of (sm _ _ er2), at_of (by omega) (ints_at e1), _, rfl, _, rfl, D1, _, _, _, rfl, rfl, SqL.of (sm _ _ eD13), at_of (by omega) (ints_at e2), _, _, rfl, k H4 (Same.refl _)⟩
      intro D4 H4 s4 nD4 eD4
      exact ⟨D4, _, rfl, s4, eD4, by rw [List.length_zipWith, lr2, lms, Nat.min_self], zip_bounds (fun x hx => by have := br2 x hx; omega) fun x hx => by have := bms x hx; omega⟩
    · exact ⟨r2, ss0, rfl, Same.refl _, er2, lr2, fun x hx => by have := br2 x hx; omega⟩
  rintro _ H4 ⟨E, ss, rfl, s4, eE, lss, bss⟩
  have s04 := s03.trans s4
  have eD14 := s4 _ _ eD13
  have hlen : ms.length = ss.length := by rw [lms, lss]
  have hl0 : 0 < ss.length := by omega
  -- total
  refine ⟨_, rfl, _, _, rfl, rfl, ⟨by decide, by decide⟩, _, _, rfl, rfl, (by show (0 : Int) < 201; decide), ?_⟩
  have t0 := Int.emod_nonneg (f / 16) (show (201 : Int) ≠ 0 by decide)
  have t1 := Int.emod_lt_of_pos (f / 16) (show (0 : Int) < 201 by decide)
  dsimp only
  generalize f / 16 % 201 = total at t0 t1
  -- low, old
  refine ⟨_, rfl, D1, _, rfl, .inl (SqL.of eD14), fun lo nlo => ?_⟩
  have s5 : Same H4 (upd H4 lo (.lst (ms.map V.int))) := same_upd nlo
  have elo : (upd H4 lo (.lst (ms.map V.int))) lo = some (.lst (ms.map V.int)) := upd_same
  generalize upd H4 lo (.lst (ms.map V.int)) = H5 at s5 elo
  refine ⟨_, rfl, E, _, rfl, .inl (SqL.of (s5 _ _ eE)), fun ol nol => ?_⟩
  have s6 : Same H5 (upd H5 ol (.lst (ss.map V.int))) := same_upd nol
  have eol : (upd H5 ol (.lst (ss.map V.int))) ol = some (.lst (ss.map V.int)) := upd_same
  generalize upd H5 ol (.lst (ss.map V.int)) = H6 at s6 eol
  have s46 := s5.trans s6
  -- actual = share(total, low, old)
  refine ⟨_, rfl, _, rfl, _, rfl, lo, ol, total, ms, ss, rfl, SqL.of (s6 _ _ elo), SqL.of eol, hlen, hl0, by omega, fun x hx => by have := bms x hx; omega, bss, by omega, fun ac H7 s7 nac eac => ?_⟩
  have s47 := s46.trans s7
  have lac : (shareM total ms ss).length = ss.length := shareM_len hlen
  have wh := whole (total := total) hlen hl0
  have ge := share_ge (total := total) hlen hl0
  generalize hac : shareM total ms ss = as at eac lac wh ge
  -- the first test
  try dsimp only
  refine ⟨_, rfl, _, _, _, _, true, rfl, .ty _, .base (.lst eac), kit_ty (by decide +kernel), true, rfl, ?_⟩
  refine ⟨_, rfl, ac, rfl, ⟨_, SqL.of eac⟩, lcMapL (List.replicate as.length (V.bl true)) (by rw [List.length_replicate, List.length_map]) (SqL.of eac) (by rw [List.length_map]; omega) (fun _ => rfl) ?_ ?_⟩
  · intro i x y H8 R sm hx hy k
    obtain ⟨z, hz, rfl⟩ := map_at hx
    rw [List.eq_of_mem_replicate (mem_at hy)] at k
    exact ⟨_, rfl, z, rfl, k H8 (Same.refl _)⟩
  intro D8 H8 s8 nD8 eD8
  refine ⟨D8, List.replicate as.length true, rfl, SqL.of (by rw [eD8, rep_bl]), ?_⟩
  rw [all_true]
  have s48 := s47.trans s8
  refine ⟨true, rfl, ?_⟩
  refine ⟨_, rfl, _, rfl, dI ms, dI ms, dp_ints (SqL.of (s8 _ _ (s7 _ _ (s6 _ _ elo)))), dp_ints (SqL.of (s48 _ _ eD14)), shaped_ints _, shaped_ints _, ?_⟩
  rw [eqv_ints]
  refine ⟨false, rfl, ?_⟩
  refine ⟨_, rfl, _, rfl, dI ss, dI ss, dp_ints (SqL.of (s8 _ _ (s7 _ _ eol))), dp_ints (SqL.of (s48 _ _ eE)), shaped_ints _, shaped_ints _, ?_⟩
  rw [eqv_ints]
  refine ⟨false, rfl, ?_⟩
  -- actual != _law_share(..)
  refine ⟨_, rfl, _, rfl, _, rfl, _, rfl, D1, E, total, ms, ss, rfl, SqL.of (s48 _ _ eD14), SqL.of (s48 _ _ eE), hlen, hl0, by omega, fun x hx => by have := bms x hx; omega, bss, by omega, fun ac2 H9 s9 nac2 eac2 => ?_⟩
  rw [hac] at eac2
  have s49 := s48.trans s9
  have eac9 := s9 _ _ (s8 _ _ eac)
  refine ⟨dI as, dI as, dp_ints (SqL.of eac9), dp_ints (SqL.of eac2), shaped_ints _, shaped_ints _, ?_⟩
  rw [eqv_ints]
  refine ⟨false, rfl, ?_⟩
  -- the whole
  refine iteF ?_
  dsimp only [tNext, tSeq]
  refine if_test false (fun R hR => ?_) ?_
  · refine ⟨_, rfl, _, rfl, D1, ms, rfl, SqL.of (s49 _ _ eD14), _, rfl, _, _, rfl, rfl, _, _, rfl, rfl, _, _, rfl, rfl, _, rfl, ite2 (fun c => ?_) (fun c => ?_)⟩
    · have c' : ms.sum + cn - 1 ≤ total := of_decide_eq_true c
      have e : as.sum + cn - 1 = total := by
        have := wh (by omega)
        omega
      have dd : decide (V.int (as.sum + cn - 1) = V.int total) = true := decide_eq_true (by rw [e])
      refine ⟨_, rfl, ac, as, rfl, SqL.of eac9, _, rfl, _, _, rfl, rfl, _, _, rfl, rfl, _, rfl, rfl, !decide (V.int (as.sum + cn - 1) = V.int total), rfl, ?_⟩
      rw [dd]
      exact hR
    · exact hR
  -- each at least its least
  try dsimp only
  refine ⟨_, rfl, _, rfl, by omega, by omega, lcMapR (List.replicate cn.toNat (V.bl true)) List.length_replicate (by omega) (fun _ => rfl) ?_ ?_⟩
  · intro i y H10 R sm hi hy k
    rw [List.eq_of_mem_replicate (mem_at hy)] at k
    have e1 := List.getElem?_eq_getElem (show i < as.length by omega)
    have e2 := List.getElem?_eq_getElem (show i < ms.length by omega)
    have g := ge i (by omega)
    rw [getD_of e1, getD_of e2] at g
    refine ⟨_, rfl, _, rfl, ac, _, _, _, rfl, rfl, SqL.of (sm _ _ eac9), at_of (by omega) (ints_at e1), _, rfl, _, rfl, D1, _, _, _, rfl, rfl, SqL.of (sm _ _ (s49 _ _ eD14)), at_of (by omega) (ints_at e2), _, _, rfl, rfl, ?_⟩
    dsimp only
    rw [decide_eq_true g]
    exact k H10 (Same.refl _)
  intro D10 H10 s10 nD10 eD10
  refine ⟨D10, List.replicate cn.toNat true, rfl, SqL.of (by rw [eD10, rep_bl]), ?_⟩
  rw [all_true]
  refine ⟨true, rfl, ?_⟩
  have s010 := s04.trans (s49.trans s10)
  -- layout = built(script[3:13], 40, 20)
  obtain ⟨ls, els, lls⟩ := cut_ints ns
  refine ⟨_, rfl, 3, rfl, 13, rfl, a, _, rfl, s010.seq hA, fun c nc => ?_⟩
  refine ⟨c, ls, rfl, SqL.of (by rw [upd_same, els]), lls, fun v L H11 s11 hL hG hlp => ?_⟩
  -- told = least(layout)
  refine ⟨_, rfl, v, L, 40, 10, rfl, hL, hG, by decide, by omega, fun r H12 s12 tk => ?_⟩
  have hL12 := hL.tx (Tx.of s12)
  -- the test of told
  refine ⟨_, rfl, _, _, _, _, true, rfl, .ty _, tk.ty, kit_ty (by decide +kernel), true, rfl, ?_⟩
  refine ⟨_, rfl, r, _, rfl, .inr tk.sq, fun l nl => ?_⟩
  have s13 : Same H12 (upd H12 l (.lst [.int L.low.1, .int L.low.2])) := same_upd nl
  have el : (upd H12 l (.lst [.int L.low.1, .int L.low.2])) l = some (.lst [.int L.low.1, .int L.low.2]) := upd_same
  generalize upd H12 l (.lst [.int L.low.1, .int L.low.2]) = H13 at s13 el
  refine ⟨_, rfl, v, L, 40, 10, rfl, hL12.tx (Tx.of s13), hG, by decide, by omega, fun r2 H14 s14 nr2 er2' => ?_⟩
  refine ⟨dI [L.low.1, L.low.2], dI [L.low.1, L.low.2], dp_ints (SqL.of (s14 _ _ el)), dp_ints (SqL.of er2'), shaped_ints _, shaped_ints _, ?_⟩
  rw [eqv_ints]
  refine ⟨false, rfl, ?_⟩
  -- panes
  have hL14 := hL12.tx (Tx.of (s13.trans s14))
  refine ⟨_, rfl, v, L, 40, 10, rfl, hL14, hG, by decide, by omega, fun p1 H15 s15 np1 ep1 => ?_⟩
  refine ⟨_, rfl, v, L, 40, 10, rfl, hL14.tx (Tx.of s15), hG, by decide, by omega, fun p2 H16 s16 np2 ep2 => ?_⟩
  refine ⟨dI L.panes, dI L.panes, dp_ints (SqL.of (s16 _ _ ep1)), dp_ints (SqL.of ep2), shaped_ints _, shaped_ints _, ?_⟩
  rw [eqv_ints]
  exact q _
end
end K20

set_option Elab.async false
set_option maxRecDepth 100000
set_option maxHeartbeats 8000000
set_option linter.all false
/-! what the top holds; the row -/
namespace K20
open PySem PySem.Spec PyProof.Rows L2
/-- a def as the head finds it -/
theorem def_at {K : PySem.W.Frag} {h : Heap} {mg : Str → Option Value} {x : Str} {st : Stmt} {ps : List Str} {f : Addr} {oc : Value} {od an : Option Addr} {osl : Array (Option Value)} {kV doc pm cdv ct : Value} (X : K.In h) (G : h.Ns mainGlobals mg)
    (a : PySem.W.nsIn K mainGlobals x = some (some (.ref f))) (l : K.lookup f = some ⟨oc, od, .func (PySem.W.fnOf x x (defArgs st) (defBody st) (defScope st) .none kV doc pm an cdv ct), osl⟩) (c : PySem.W.codeIn K cdv x = true) (k : PySem.W.keepIn K (.ref f) = true)
    (b : ∀ (kV doc pm : Value) (an : Option Addr) (cdv ct : Value) (us : List Value), us.length = ps.length → bindArgs (PySem.W.fnOf x x (defArgs st) (defBody st) (defScope st) .none kV doc pm an cdv ct) ⟨us, []⟩ = pure (ps.zip us)) : Nonempty { D : DefAt K mg x st ps // D.f = f } :=
  have F := fun_mk (st := st) l c k
  ⟨⟨⟨f, _, F, PySem.W.mg_of X G a, F.binds b⟩, rfl⟩⟩
theorem all_mk {l : PySem.W.OpenLaw} {w : World} {K : PySem.W.Frag} {h : Heap} {mg : Str → Option Value} {fa : Addr} (X : K.In h) (G : h.Ns mainGlobals mg) (hfa : mg "law" = some (.ref fa))
    {tB t1 t2 : Tok} {lp : Addr} {dd : Option Addr} {nn : Nat} {sll : Array (Option Value)} (aB : PySem.W.nsIn K mainGlobals "BESIDE" = some (some (.str "beside" tB))) (aL : PySem.W.nsIn K mainGlobals "LEAST_PANE" = some (some (.ref lp))) (lL : K.lookup lp = some ⟨.type "tuple", dd, .seq #[.int 2 t1, .int 1 t2] nn, sll⟩)
    {f_panes : Addr} {od_panes an_panes : Option Addr} {sl_panes : Array (Option Value)} {oc_panes kV_panes dc_panes pm_panes cd_panes ct_panes : Value}
    (a_panes : PySem.W.nsIn K mainGlobals "panes" = some (some (.ref f_panes))) (l_panes : K.lookup f_panes = some ⟨oc_panes, od_panes, .func (PySem.W.fnOf "panes" "panes" (defArgs s_panes) (defBody s_panes) (defScope s_panes) .none kV_panes dc_panes pm_panes an_panes cd_panes ct_panes), sl_panes⟩) (c_panes : PySem.W.codeIn K cd_panes "panes" = true) (k_panes : PySem.W.keepIn K (.ref f_panes) = true)
    {f_least : Addr} {od_least an_least : Option Addr} {sl_least : Array (Option Value)} {oc_least kV_least dc_least pm_least cd_least ct_least : Value}
    (a_least : PySem.W.nsIn K mainGlobals "least" = some (some (.ref f_least))) (l_least : K.lookup f_least = some ⟨oc_least, od_least, .func (PySem.W.fnOf "least" "least" (defArgs s_least) (defBody s_least) (defScope s_least) .none kV_least dc_least pm_least an_least cd_least ct_least), sl_least⟩) (c_least : PySem.W.codeIn K cd_least "least" = true) (k_least : PySem.W.keepIn K (.ref f_least) = true)
    {f_share : Addr} {od_share an_share : Option Addr} {sl_share : Array (Option Value)} {oc_share kV_share dc_share pm_share cd_share ct_share : Value}
    (a_share : PySem.W.nsIn K mainGlobals "share" = some (some (.ref f_share))) (l_share : K.lookup f_share = some ⟨oc_share, od_share, .func (PySem.W.fnOf "share" "share" (defArgs s_share) (defBody s_share) (defScope s_share) .none kV_share dc_share pm_share an_share cd_share ct_share), sl_share⟩) (c_share : PySem.W.codeIn K cd_share "share" = true) (k_share : PySem.W.keepIn K (.ref f_share) = true)
    {f_lcell : Addr} {od_lcell an_lcell : Option Addr} {sl_lcell : Array (Option Value)} {oc_lcell kV_lcell dc_lcell pm_lcell cd_lcell ct_lcell : Value}
    (a_lcell : PySem.W.nsIn K mainGlobals "_law_cell" = some (some (.ref f_lcell))) (l_lcell : K.lookup f_lcell = some ⟨oc_lcell, od_lcell, .func (PySem.W.fnOf "_law_cell" "_law_cell" (defArgs s_lcell) (defBody s_lcell) (defScope s_lcell) .none kV_lcell dc_lcell pm_lcell an_lcell cd_lcell ct_lcell), sl_lcell⟩) (c_lcell : PySem.W.codeIn K cd_lcell "_law_cell" = true) (k_lcell : PySem.W.keepIn K (.ref f_lcell) = true)
    {f_lrow : Addr} {od_lrow an_lrow : Option Addr} {sl_lrow : Array (Option Value)} {oc_lrow kV_lrow dc_lrow pm_lrow cd_lrow ct_lrow : Value}
    (a_lrow : PySem.W.nsIn K mainGlobals "_law_row" = some (some (.ref f_lrow))) (l_lrow : K.lookup f_lrow = some ⟨oc_lrow, od_lrow, .func (PySem.W.fnOf "_law_row" "_law_row" (defArgs s_lrow) (defBody s_lrow) (defScope s_lrow) .none kV_lrow dc_lrow pm_lrow an_lrow cd_lrow ct_lrow), sl_lrow⟩) (c_lrow : PySem.W.codeIn K cd_lrow "_law_row" = true) (k_lrow : PySem.W.keepIn K (.ref f_lrow) = true)
    {f_linteger : Addr} {od_linteger an_linteger : Option Addr} {sl_linteger : Array (Option Value)} {oc_linteger kV_linteger dc_linteger pm_linteger cd_linteger ct_linteger : Value}
    (a_linteger : PySem.W.nsIn K mainGlobals "_law_integer" = some (some (.ref f_linteger))) (l_linteger : K.lookup f_linteger = some ⟨oc_linteger, od_linteger, .func (PySem.W.fnOf "_law_integer" "_law_integer" (defArgs s_linteger) (defBody s_linteger) (defScope s_linteger) .none kV_linteger dc_linteger pm_linteger an_linteger cd_linteger ct_linteger), sl_linteger⟩) (c_linteger : PySem.W.codeIn K cd_linteger "_law_integer" = true) (k_linteger : PySem.W.keepIn K (.ref f_linteger) = true)
    {f_lpanes : Addr} {od_lpanes an_lpanes : Option Addr} {sl_lpanes : Array (Option Value)} {oc_lpanes kV_lpanes dc_lpanes pm_lpanes cd_lpanes ct_lpanes : Value}
    (a_lpanes : PySem.W.nsIn K mainGlobals "_law_panes" = some (some (.ref f_lpanes))) (l_lpanes : K.lookup f_lpanes = some ⟨oc_lpanes, od_lpanes, .func (PySem.W.fnOf "_law_panes" "_law_panes" (defArgs s_lpanes) (defBody s_lpanes) (defScope s_lpanes) .none kV_lpanes dc_lpanes pm_lpanes an_lpanes cd_lpanes ct_lpanes), sl_lpanes⟩) (c_lpanes : PySem.W.codeIn K cd_lpanes "_law_panes" = true) (k_lpanes : PySem.W.keepIn K (.ref f_lpanes) = true)
    {f_lleast : Addr} {od_lleast an_lleast : Option Addr} {sl_lleast : Array (Option Value)} {oc_lleast kV_lleast dc_lleast pm_lleast cd_lleast ct_lleast : Value}
    (a_lleast : PySem.W.nsIn K mainGlobals "_law_least" = some (some (.ref f_lleast))) (l_lleast : K.lookup f_lleast = some ⟨oc_lleast, od_lleast, .func (PySem.W.fnOf "_law_least" "_law_least" (defArgs s_lleast) (defBody s_lleast) (defScope s_lleast) .none kV_lleast dc_lleast pm_lleast an_lleast cd_lleast ct_lleast), sl_lleast⟩) (c_lleast : PySem.W.codeIn K cd_lleast "_law_least" = true) (k_lleast : PySem.W.keepIn K (.ref f_lleast) = true)
    {f_lshare : Addr} {od_lshare an_lshare : Option Addr} {sl_lshare : Array (Option Value)} {oc_lshare kV_lshare dc_lshare pm_lshare cd_lshare ct_lshare : Value}
    (a_lshare : PySem.W.nsIn K mainGlobals "_law_share" = some (some (.ref f_lshare))) (l_lshare : K.lookup f_lshare = some ⟨oc_lshare, od_lshare, .func (PySem.W.fnOf "_law_share" "_law_share" (defArgs s_lshare) (defBody s_lshare) (defScope s_lshare) .none kV_lshare dc_lshare pm_lshare an_lshare cd_lshare ct_lshare), sl_lshare⟩) (c_lshare : PySem.W.codeIn K cd_lshare "_law_share" = true) (k_lshare : PySem.W.keepIn K (.ref f_lshare) = true)
    {f_lfit : Addr} {od_lfit an_lfit : Option Addr} {sl_lfit : Array (Option Value)} {oc_lfit kV_lfit dc_lfit pm_lfit cd_lfit ct_lfit : Value}
    (a_lfit : PySem.W.nsIn K mainGlobals "_law_fit" = some (some (.ref f_lfit))) (l_lfit : K.lookup f_lfit = some ⟨oc_lfit, od_lfit, .func (PySem.W.fnOf "_law_fit" "_law_fit" (defArgs s_lfit) (defBody s_lfit) (defScope s_lfit) .none kV_lfit dc_lfit pm_lfit an_lfit cd_lfit ct_lfit), sl_lfit⟩) (c_lfit : PySem.W.codeIn K cd_lfit "_law_fit" = true) (k_lfit : PySem.W.keepIn K (.ref f_lfit) = true)
    {f_lboxes : Addr} {od_lboxes an_lboxes : Option Addr} {sl_lboxes : Array (Option Value)} {oc_lboxes kV_lboxes dc_lboxes pm_lboxes cd_lboxes ct_lboxes : Value}
    (a_lboxes : PySem.W.nsIn K mainGlobals "_law_boxes" = some (some (.ref f_lboxes))) (l_lboxes : K.lookup f_lboxes = some ⟨oc_lboxes, od_lboxes, .func (PySem.W.fnOf "_law_boxes" "_law_boxes" (defArgs s_lboxes) (defBody s_lboxes) (defScope s_lboxes) .none kV_lboxes dc_lboxes pm_lboxes an_lboxes cd_lboxes ct_lboxes), sl_lboxes⟩) (c_lboxes : PySem.W.codeIn K cd_lboxes "_law_boxes" = true) (k_lboxes : PySem.W.keepIn K (.ref f_lboxes) = true)
    {f_lallboxes : Addr} {od_lallboxes an_lallboxes : Option Addr} {sl_lallboxes : Array (Option Value)} {oc_lallboxes kV_lallboxes dc_lallboxes pm_lallboxes cd_lallboxes ct_lallboxes : Value}
    (a_lallboxes : PySem.W.nsIn K mainGlobals "_law_all_boxes" = some (some (.ref f_lallboxes))) (l_lallboxes : K.lookup f_lallboxes = some ⟨oc_lallboxes, od_lallboxes, .func (PySem.W.fnOf "_law_all_boxes" "_law_all_boxes" (defArgs s_lallboxes) (defBody s_lallboxes) (defScope s_lallboxes) .none kV_lallboxes dc_lallboxes pm_lallboxes an_lallboxes cd_lallboxes ct_lallboxes), sl_lallboxes⟩) (c_lallboxes : PySem.W.codeIn K cd_lallboxes "_law_all_boxes" = true) (k_lallboxes : PySem.W.keepIn K (.ref f_lallboxes) = true)
    {f_lroom : Addr} {od_lroom an_lroom : Option Addr} {sl_lroom : Array (Option Value)} {oc_lroom kV_lroom dc_lroom pm_lroom cd_lroom ct_lroom : Value}
    (a_lroom : PySem.W.nsIn K mainGlobals "_law_room" = some (some (.ref f_lroom))) (l_lroom : K.lookup f_lroom = some ⟨oc_lroom, od_lroom, .func (PySem.W.fnOf "_law_room" "_law_room" (defArgs s_lroom) (defBody s_lroom) (defScope s_lroom) .none kV_lroom dc_lroom pm_lroom an_lroom cd_lroom ct_lroom), sl_lroom⟩) (c_lroom : PySem.W.codeIn K cd_lroom "_law_room" = true) (k_lroom : PySem.W.keepIn K (.ref f_lroom) = true)
    {f_lwithnew : Addr} {od_lwithnew an_lwithnew : Option Addr} {sl_lwithnew : Array (Option Value)} {oc_lwithnew kV_lwithnew dc_lwithnew pm_lwithnew cd_lwithnew ct_lwithnew : Value}
    (a_lwithnew : PySem.W.nsIn K mainGlobals "_law_with_new" = some (some (.ref f_lwithnew))) (l_lwithnew : K.lookup f_lwithnew = some ⟨oc_lwithnew, od_lwithnew, .func (PySem.W.fnOf "_law_with_new" "_law_with_new" (defArgs s_lwithnew) (defBody s_lwithnew) (defScope s_lwithnew) .none kV_lwithnew dc_lwithnew pm_lwithnew an_lwithnew cd_lwithnew ct_lwithnew), sl_lwithnew⟩) (c_lwithnew : PySem.W.codeIn K cd_lwithnew "_law_with_new" = true) (k_lwithnew : PySem.W.keepIn K (.ref f_lwithnew) = true)
    {f_ldivided : Addr} {od_ldivided an_ldivided : Option Addr} {sl_ldivided : Array (Option Value)} {oc_ldivided kV_ldivided dc_ldivided pm_ldivided cd_ldivided ct_ldivided : Value}
    (a_ldivided : PySem.W.nsIn K mainGlobals "_law_divided" = some (some (.ref f_ldivided))) (l_ldivided : K.lookup f_ldivided = some ⟨oc_ldivided, od_ldivided, .func (PySem.W.fnOf "_law_divided" "_law_divided" (defArgs s_ldivided) (defBody s_ldivided) (defScope s_ldivided) .none kV_ldivided dc_ldivided pm_ldivided an_ldivided cd_ldivided ct_ldivided), sl_ldivided⟩) (c_ldivided : PySem.W.codeIn K cd_ldivided "_law_divided" = true) (k_ldivided : PySem.W.keepIn K (.ref f_ldivided) = true)
    {f_ltaken : Addr} {od_ltaken an_ltaken : Option Addr} {sl_ltaken : Array (Option Value)} {oc_ltaken kV_ltaken dc_ltaken pm_ltaken cd_ltaken ct_ltaken : Value}
    (a_ltaken : PySem.W.nsIn K mainGlobals "_law_taken" = some (some (.ref f_ltaken))) (l_ltaken : K.lookup f_ltaken = some ⟨oc_ltaken, od_ltaken, .func (PySem.W.fnOf "_law_taken" "_law_taken" (defArgs s_ltaken) (defBody s_ltaken) (defScope s_ltaken) .none kV_ltaken dc_ltaken pm_ltaken an_ltaken cd_ltaken ct_ltaken), sl_ltaken⟩) (c_ltaken : PySem.W.codeIn K cd_ltaken "_law_taken" = true) (k_ltaken : PySem.W.keepIn K (.ref f_ltaken) = true)
    {f_lwithout : Addr} {od_lwithout an_lwithout : Option Addr} {sl_lwithout : Array (Option Value)} {oc_lwithout kV_lwithout dc_lwithout pm_lwithout cd_lwithout ct_lwithout : Value}
    (a_lwithout : PySem.W.nsIn K mainGlobals "_law_without" = some (some (.ref f_lwithout))) (l_lwithout : K.lookup f_lwithout = some ⟨oc_lwithout, od_lwithout, .func (PySem.W.fnOf "_law_without" "_law_without" (defArgs s_lwithout) (defBody s_lwithout) (defScope s_lwithout) .none kV_lwithout dc_lwithout pm_lwithout an_lwithout cd_lwithout ct_lwithout), sl_lwithout⟩) (c_lwithout : PySem.W.codeIn K cd_lwithout "_law_without" = true) (k_lwithout : PySem.W.keepIn K (.ref f_lwithout) = true)
    {f_lshift : Addr} {od_lshift an_lshift : Option Addr} {sl_lshift : Array (Option Value)} {oc_lshift kV_lshift dc_lshift pm_lshift cd_lshift ct_lshift : Value}
    (a_lshift : PySem.W.nsIn K mainGlobals "_law_shift" = some (some (.ref f_lshift))) (l_lshift : K.lookup f_lshift = some ⟨oc_lshift, od_lshift, .func (PySem.W.fnOf "_law_shift" "_law_shift" (defArgs s_lshift) (defBody s_lshift) (defScope s_lshift) .none kV_lshift dc_lshift pm_lshift an_lshift cd_lshift ct_lshift), sl_lshift⟩) (c_lshift : PySem.W.codeIn K cd_lshift "_law_shift" = true) (k_lshift : PySem.W.keepIn K (.ref f_lshift) = true)
    {f_lmoved : Addr} {od_lmoved an_lmoved : Option Addr} {sl_lmoved : Array (Option Value)} {oc_lmoved kV_lmoved dc_lmoved pm_lmoved cd_lmoved ct_lmoved : Value}
    (a_lmoved : PySem.W.nsIn K mainGlobals "_law_moved" = some (some (.ref f_lmoved))) (l_lmoved : K.lookup f_lmoved = some ⟨oc_lmoved, od_lmoved, .func (PySem.W.fnOf "_law_moved" "_law_moved" (defArgs s_lmoved) (defBody s_lmoved) (defScope s_lmoved) .none kV_lmoved dc_lmoved pm_lmoved an_lmoved cd_lmoved ct_lmoved), sl_lmoved⟩) (c_lmoved : PySem.W.codeIn K cd_lmoved "_law_moved" = true) (k_lmoved : PySem.W.keepIn K (.ref f_lmoved) = true)
    {f_lbuilt : Addr} {od_lbuilt an_lbuilt : Option Addr} {sl_lbuilt : Array (Option Value)} {oc_lbuilt kV_lbuilt dc_lbuilt pm_lbuilt cd_lbuilt ct_lbuilt : Value}
    (a_lbuilt : PySem.W.nsIn K mainGlobals "_law_built" = some (some (.ref f_lbuilt))) (l_lbuilt : K.lookup f_lbuilt = some ⟨oc_lbuilt, od_lbuilt, .func (PySem.W.fnOf "_law_built" "_law_built" (defArgs s_lbuilt) (defBody s_lbuilt) (defScope s_lbuilt) .none kV_lbuilt dc_lbuilt pm_lbuilt an_lbuilt cd_lbuilt ct_lbuilt), sl_lbuilt⟩) (c_lbuilt : PySem.W.codeIn K cd_lbuilt "_law_built" = true) (k_lbuilt : PySem.W.keepIn K (.ref f_lbuilt) = true)
    {f_law : Addr} {od_law an_law : Option Addr} {sl_law : Array (Option Value)} {oc_law kV_law dc_law pm_law cd_law ct_law : Value}
    (a_law : PySem.W.nsIn K mainGlobals "law" = some (some (.ref f_law))) (l_law : K.lookup f_law = some ⟨oc_law, od_law, .func (PySem.W.fnOf "law" "law" (defArgs s_law) (defBody s_law) (defScope s_law) .none kV_law dc_law pm_law an_law cd_law ct_law), sl_law⟩) (c_law : PySem.W.codeIn K cd_law "law" = true) (k_law : PySem.W.keepIn K (.ref f_law) = true)
    (z_isinstance : PySem.W.nsIn K mainGlobals "isinstance" = some none) (z_int : PySem.W.nsIn K mainGlobals "int" = some none) (z_bool : PySem.W.nsIn K mainGlobals "bool" = some none) (z_len : PySem.W.nsIn K mainGlobals "len" = some none) (z_max : PySem.W.nsIn K mainGlobals "max" = some none) (z_min : PySem.W.nsIn K mainGlobals "min" = some none) (z_sum : PySem.W.nsIn K mainGlobals "sum" = some none) (z_zip : PySem.W.nsIn K mainGlobals "zip" = some none) (z_enumerate : PySem.W.nsIn K mainGlobals "enumerate" = some none) (z_range : PySem.W.nsIn K mainGlobals "range" = some none) (z_abs : PySem.W.nsIn K mainGlobals "abs" = some none) (z_list : PySem.W.nsIn K mainGlobals "list" = some none) (z_tuple : PySem.W.nsIn K mainGlobals "tuple" = some none) (z_all : PySem.W.nsIn K mainGlobals "all" = some none) :
    ∃ fd : FuncData, (∀ (s : Shared) (v : Value), BindsTo s fd ⟨[v], []⟩ [("_law_script", v)]) ∧ ∀ base : Heap, K.In base → base.Ns mainGlobals mg → FnOk l.prog w K mg base CX0 18 fa fd ["_law_script"] (spLaw K) := by
  have e := hfa.symm.trans (PySem.W.mg_of X G a_law)
  cases e
  obtain ⟨⟨D_panes, _⟩⟩ := def_at (st := s_panes) (ps := P_panes) X G a_panes l_panes c_panes k_panes fun _ _ _ _ _ _ us hl => match us, hl with | [_], _ => rfl
  obtain ⟨⟨D_least, _⟩⟩ := def_at (st := s_least) (ps := P_least) X G a_least l_least c_least k_least fun _ _ _ _ _ _ us hl => match us, hl with | [_], _ => rfl
  obtain ⟨⟨D_share, _⟩⟩ := def_at (st := s_share) (ps := P_share) X G a_share l_share c_share k_share fun _ _ _ _ _ _ us hl => match us, hl with | [_, _, _], _ => rfl
  obtain ⟨⟨D_lcell, _⟩⟩ := def_at (st := s_lcell) (ps := P_lcell) X G a_lcell l_lcell c_lcell k_lcell fun _ _ _ _ _ _ us hl => match us, hl with | [_, _], _ => rfl
  obtain ⟨⟨D_lrow, _⟩⟩ := def_at (st := s_lrow) (ps := P_lrow) X G a_lrow l_lrow c_lrow k_lrow fun _ _ _ _ _ _ us hl => match us, hl with | [_, _, _], _ => rfl
  obtain ⟨⟨D_linteger, _⟩⟩ := def_at (st := s_linteger) (ps := P_linteger) X G a_linteger l_linteger c_linteger k_linteger fun _ _ _ _ _ _ us hl => match us, hl with | [_], _ => rfl
  obtain ⟨⟨D_lpanes, _⟩⟩ := def_at (st := s_lpanes) (ps := P_lpanes) X G a_lpanes l_lpanes c_lpanes k_lpanes fun _ _ _ _ _ _ us hl => match us, hl with | [_], _ => rfl
  obtain ⟨⟨D_lleast, _⟩⟩ := def_at (st := s_lleast) (ps := P_lleast) X G a_lleast l_lleast c_lleast k_lleast fun _ _ _ _ _ _ us hl => match us, hl with | [_], _ => rfl
  obtain ⟨⟨D_lshare, _⟩⟩ := def_at (st := s_lshare) (ps := P_lshare) X G a_lshare l_lshare c_lshare k_lshare fun _ _ _ _ _ _ us hl => match us, hl with | [_, _, _], _ => rfl
  obtain ⟨⟨D_lfit, _⟩⟩ := def_at (st := s_lfit) (ps := P_lfit) X G a_lfit l_lfit c_lfit k_lfit fun _ _ _ _ _ _ us hl => match us, hl with | [_, _, _], _ => rfl
  obtain ⟨⟨D_lboxes, _⟩⟩ := def_at (st := s_lboxes) (ps := P_lboxes) X G a_lboxes l_lboxes c_lboxes k_lboxes fun _ _ _ _ _ _ us hl => match us, hl with | [_, _, _, _, _], _ => rfl
  obtain ⟨⟨D_lallboxes, _⟩⟩ := def_at (st := s_lallboxes) (ps := P_lallboxes) X G a_lallboxes l_lallboxes c_lallboxes k_lallboxes fun _ _ _ _ _ _ us hl => match us, hl with | [_, _, _], _ => rfl
  obtain ⟨⟨D_lroom, _⟩⟩ := def_at (st := s_lroom) (ps := P_lroom) X G a_lroom l_lroom c_lroom k_lroom fun _ _ _ _ _ _ us hl => match us, hl with | [_, _, _, _, _], _ => rfl
  obtain ⟨⟨D_lwithnew, _⟩⟩ := def_at (st := s_lwithnew) (ps := P_lwithnew) X G a_lwithnew l_lwithnew c_lwithnew k_lwithnew fun _ _ _ _ _ _ us hl => match us, hl with | [_, _, _, _, _], _ => rfl
  obtain ⟨⟨D_ldivided, _⟩⟩ := def_at (st := s_ldivided) (ps := P_ldivided) X G a_ldivided l_ldivided c_ldivided k_ldivided fun _ _ _ _ _ _ us hl => match us, hl with | [_, _, _, _, _, _], _ => rfl
  obtain ⟨⟨D_ltaken, _⟩⟩ := def_at (st := s_ltaken) (ps := P_ltaken) X G a_ltaken l_ltaken c_ltaken k_ltaken fun _ _ _ _ _ _ us hl => match us, hl with | [_, _], _ => rfl
  obtain ⟨⟨D_lwithout, _⟩⟩ := def_at (st := s_lwithout) (ps := P_lwithout) X G a_lwithout l_lwithout c_lwithout k_lwithout fun _ _ _ _ _ _ us hl => match us, hl with | [_, _, _, _], _ => rfl
  obtain ⟨⟨D_lshift, _⟩⟩ := def_at (st := s_lshift) (ps := P_lshift) X G a_lshift l_lshift c_lshift k_lshift fun _ _ _ _ _ _ us hl => match us, hl with | [_, _, _, _], _ => rfl
  obtain ⟨⟨D_lmoved, _⟩⟩ := def_at (st := s_lmoved) (ps := P_lmoved) X G a_lmoved l_lmoved c_lmoved k_lmoved fun _ _ _ _ _ _ us hl => match us, hl with | [_, _, _, _, _, _], _ => rfl
  obtain ⟨⟨D_lbuilt, _⟩⟩ := def_at (st := s_lbuilt) (ps := P_lbuilt) X G a_lbuilt l_lbuilt c_lbuilt k_lbuilt fun _ _ _ _ _ _ us hl => match us, hl with | [_, _, _], _ => rfl
  have F_law := fun_mk (st := s_law) l_law c_law k_law
  have b_law := F_law.binds (ps := P_law) fun _ _ _ _ _ _ us hl => match us, hl with | [_], _ => rfl
  refine ⟨_, fun s v => .of_eq rfl, fun base _ _ => ok_law (P := l.prog) (w := w) (base := base) { b := ⟨PySem.W.mg_none_of X G z_isinstance, PySem.W.mg_none_of X G z_int, PySem.W.mg_none_of X G z_bool, PySem.W.mg_none_of X G z_len, PySem.W.mg_none_of X G z_max, PySem.W.mg_none_of X G z_min, PySem.W.mg_none_of X G z_sum, PySem.W.mg_none_of X G z_zip, PySem.W.mg_none_of X G z_enumerate, PySem.W.mg_none_of X G z_range, PySem.W.mg_none_of X G z_abs, PySem.W.mg_none_of X G z_list, PySem.W.mg_none_of X G z_tuple, PySem.W.mg_none_of X G z_all⟩, tB := tB, gBESIDE := PySem.W.mg_of X G aB, lp := lp, gLP := PySem.W.mg_of X G aL, hLP := ⟨_, _, _, lL, rfl, rfl, (by show 2 ≤ sizeLine; decide), .cons ⟨_, rfl⟩ (.cons ⟨_, rfl⟩ .nil)⟩, panes := D_panes, least := D_least, share := D_share, lcell := D_lcell, lrow := D_lrow, linteger := D_linteger, lpanes := D_lpanes, lleast := D_lleast, lshare := D_lshare, lfit := D_lfit, lboxes := D_lboxes, lallboxes := D_lallboxes, lroom := D_lroom, lwithnew := D_lwithnew, ldivided := D_ldivided, ltaken := D_ltaken, lwithout := D_lwithout, lshift := D_lshift, lmoved := D_lmoved, lbuilt := D_lbuilt, law := ⟨fa, _, F_law, PySem.W.mg_of X G a_law, b_law⟩ }⟩
end K20
open PySem PySem.W PyProof.Rows
set_option maxRecDepth 100000 in
set_option maxHeartbeats 0 in
theorem PySem.Challenge.cw_manypanes_k20_sharing_room_holds : PySem.Challenge.rw_manypanes_k20_sharing_room.Holds := by
  w_on; o_law; k_head; (case hw => w_witness2)
  k_fill
  refine L2.walk_of (l := PySem.Challenge.rw_manypanes_k20_sharing_room) (n := 63) (k := 18) (x := "_law_script") (CX := fun _ => L2.CX0) (sp := fun w => K20.spLaw _) rfl (by decide) rfl ⟨rfl, by decide, by decide⟩ (fun w h Y => PySem.W.kIn_of Y) ?F (fun _ _ a ns hl _ hS => ⟨a, ns, rfl, hS, hl, fun _ => rfl⟩) (fun _ _ _ _ _ h => h)
  case F =>
    intro w mg fa h KX G hmg
    refine' K20.all_mk KX G hmg ?aB ?aL ?lL ?a_panes ?l_panes ?c_panes ?k_panes ?a_least ?l_least ?c_least ?k_least ?a_share ?l_share ?c_share ?k_share ?a_lcell ?l_lcell ?c_lcell ?k_lcell ?a_lrow ?l_lrow ?c_lrow ?k_lrow ?a_linteger ?l_linteger ?c_linteger ?k_linteger ?a_lpanes ?l_lpanes ?c_lpanes ?k_lpanes ?a_lleast ?l_lleast ?c_lleast ?k_lleast ?a_lshare ?l_lshare ?c_lshare ?k_lshare ?a_lfit ?l_lfit ?c_lfit ?k_lfit ?a_lboxes ?l_lboxes ?c_lboxes ?k_lboxes ?a_lallboxes ?l_lallboxes ?c_lallboxes ?k_lallboxes ?a_lroom ?l_lroom ?c_lroom ?k_lroom ?a_lwithnew ?l_lwithnew ?c_lwithnew ?k_lwithnew ?a_ldivided ?l_ldivided ?c_ldivided ?k_ldivided ?a_ltaken ?l_ltaken ?c_ltaken ?k_ltaken ?a_lwithout ?l_lwithout ?c_lwithout ?k_lwithout ?a_lshift ?l_lshift ?c_lshift ?k_lshift ?a_lmoved ?l_lmoved ?c_lmoved ?k_lmoved ?a_lbuilt ?l_lbuilt ?c_lbuilt ?k_lbuilt ?a_law ?l_law ?c_law ?k_law ?z_isinstance ?z_int ?z_bool ?z_len ?z_max ?z_min ?z_sum ?z_zip ?z_enumerate ?z_range ?z_abs ?z_list ?z_tuple ?z_all
    (case aB => k_is)
    (case aL => k_is)
    (case lL => k_is)
    (case a_panes => k_is)
    (case l_panes => k_is)
    (case c_panes => k_is)
    (case k_panes => k_is)
    (case a_least => k_is)
    (case l_least => k_is)
    (case c_least => k_is)
    (case k_least => k_is)
    (case a_share => k_is)
    (case l_share => k_is)
    (case c_share => k_is)
    (case k_share => k_is)
    (case a_lcell => k_is)
    (case l_lcell => k_is)
    (case c_lcell => k_is)
    (case k_lcell => k_is)
    (case a_lrow => k_is)
    (case l_lrow => k_is)
    (case c_lrow => k_is)
    (case k_lrow => k_is)
    (case a_linteger => k_is)
    (case l_linteger => k_is)
    (case c_linteger => k_is)
    (case k_linteger => k_is)
    (case a_lpanes => k_is)
    (case l_lpanes => k_is)
    (case c_lpanes => k_is)
    (case k_lpanes => k_is)
    (case a_lleast => k_is)
    (case l_lleast => k_is)
    (case c_lleast => k_is)
    (case k_lleast => k_is)
    (case a_lshare => k_is)
    (case l_lshare => k_is)
    (case c_lshare => k_is)
    (case k_lshare => k_is)
    (case a_lfit => k_is)
    (case l_lfit => k_is)
    (case c_lfit => k_is)
    (case k_lfit => k_is)
    (case a_lboxes => k_is)
    (case l_lboxes => k_is)
    (case c_lboxes => k_is)
    (case k_lboxes => k_is)
    (case a_lallboxes => k_is)
    (case l_lallboxes => k_is)
    (case c_lallboxes => k_is)
    (case k_lallboxes => k_is)
    (case a_lroom => k_is)
    (case l_lroom => k_is)
    (case c_lroom => k_is)
    (case k_lroom => k_is)
    (case a_lwithnew => k_is)
    (case l_lwithnew => k_is)
    (case c_lwithnew => k_is)
    (case k_lwithnew => k_is)
    (case a_ldivided => k_is)
    (case l_ldivided => k_is)
    (case c_ldivided => k_is)
    (case k_ldivided => k_is)
    (case a_ltaken => k_is)
    (case l_ltaken => k_is)
    (case c_ltaken => k_is)
    (case k_ltaken => k_is)
    (case a_lwithout => k_is)
    (case l_lwithout => k_is)
    (case c_lwithout => k_is)
    (case k_lwithout => k_is)
    (case a_lshift => k_is)
    (case l_lshift => k_is)
    (case c_lshift => k_is)
    (case k_lshift => k_is)
    (case a_lmoved => k_is)
    (case l_lmoved => k_is)
    (case c_lmoved => k_is)
    (case k_lmoved => k_is)
    (case a_lbuilt => k_is)
    (case l_lbuilt => k_is)
    (case c_lbuilt => k_is)
    (case k_lbuilt => k_is)
    (case a_law => k_is)
    (case l_law => k_is)
    (case c_law => k_is)
    (case k_law => k_is)
    (case z_isinstance => k_is)
    (case z_int => k_is)
    (case z_bool => k_is)
    (case z_len => k_is)
    (case z_max => k_is)
    (case z_min => k_is)
    (case z_sum => k_is)
    (case z_zip => k_is)
    (case z_enumerate => k_is)
    (case z_range => k_is)
    (case z_abs => k_is)
    (case z_list => k_is)
    (case z_tuple => k_is)
    (case z_all => k_is)
#print axioms PySem.Challenge.cw_manypanes_k20_sharing_room_holds
