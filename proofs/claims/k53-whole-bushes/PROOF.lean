import PyProof.Rows.All
import Wide.All
import OpenK.AllK
import Wide.FinOn
import HandS.List
import HandS.Comp
import HandS.Dict
import HandS.Iter
import HandS.Words
import HandS.WordsList
import HandS.IsInst
import HandS.Star
import HandS.Exc
import HandS.Conv
import KE.GoesEnum
import HandS.Walk
import PySem.Challenge.RW_chipfloor_k53_whole_bushes
set_option Elab.async false
set_option linter.all false
set_option maxRecDepth 100000
set_option maxHeartbeats 4000000
namespace K53
/-! ## Plain mathematics: spots, bushes, packing -/
structure Spot where
  l : Int
  y : Int
  w : Int
  h : Int
deriving DecidableEq

/-- the two share some width: s, and a block of width w at l -/
def ov1 (s : Spot) (l w : Int) : Bool := decide (s.l < l + w) && decide (l < s.l + s.w)
/-- a common inner point -/
def ov (s t : Spot) : Bool := decide (s.l < t.l + t.w) && (decide (t.l < s.l + s.w) && (decide (s.y < t.y + t.h) && decide (t.y < s.y + s.h)))
def step1 (l w m : Int) (s : Spot) : Int := if ov1 s l w then (if s.y + s.h > m then s.y + s.h else m) else m
def restOn (ss : List Spot) (l w : Int) : Int := ss.foldl (step1 l w) 0

theorem restOn_snoc (ss : List Spot) (s : Spot) (l w : Int) : restOn (ss ++ [s]) l w = step1 l w (restOn ss l w) s := by
  unfold restOn
  rw [List.foldl_append]
  rfl

/-- the tops of those that share width -/
def tops (ss : List Spot) (l w : Int) : List Int := (ss.filter fun s => ov1 s l w).map fun s => s.y + s.h

theorem fold_le (l w : Int) : ∀ (ss : List Spot) (m : Int), m ≤ ss.foldl (step1 l w) m
  | [], m => Int.le_refl m
  | s :: r, m => by
    have h1 : m ≤ step1 l w m s := by
      unfold step1
      split
      · split <;> omega
      · omega
    exact Int.le_trans h1 (fold_le l w r _)

theorem fold_top (l w : Int) : ∀ (ss : List Spot) (m : Int) (s : Spot), s ∈ ss → ov1 s l w = true → s.y + s.h ≤ ss.foldl (step1 l w) m
  | [], _, _, h, _ => absurd h (by simp)
  | t :: r, m, s, h, ho => by
    show s.y + s.h ≤ r.foldl (step1 l w) (step1 l w m t)
    rcases List.mem_cons.mp h with e | h'
    · subst e
      have h1 : s.y + s.h ≤ step1 l w m s := by
        unfold step1
        rw [if_pos ho]
        split <;> omega
      exact Int.le_trans h1 (fold_le l w r _)
    · exact fold_top l w r _ s h' ho

theorem fold_is (l w : Int) : ∀ (ss : List Spot) (m : Int), ss.foldl (step1 l w) m = m ∨ ∃ s, s ∈ ss ∧ ov1 s l w = true ∧ ss.foldl (step1 l w) m = s.y + s.h
  | [], m => .inl rfl
  | t :: r, m => by
    show r.foldl (step1 l w) (step1 l w m t) = m ∨ _
    rcases fold_is l w r (step1 l w m t) with e | ⟨s, h1, h2, h3⟩
    · by_cases ho : ov1 t l w = true
      · by_cases hm : t.y + t.h > m
        · refine .inr ⟨t, by simp, ho, ?_⟩
          show r.foldl (step1 l w) (step1 l w m t) = _
          rw [e]
          unfold step1
          rw [if_pos ho, if_pos hm]
        · refine .inl ?_
          rw [e]
          unfold step1
          rw [if_pos ho, if_neg hm]
      · refine .inl ?_
        rw [e]
        unfold step1
        rw [if_neg ho]
    · exact .inr ⟨s, List.mem_cons_of_mem _ h1, h2, h3⟩

/-- what max([0, *tops]) is -/
theorem restOn_of {ss : List Spot} {l w m : Int} (h1 : m ∈ (0 : Int) :: tops ss l w) (h2 : ∀ y, y ∈ (0 : Int) :: tops ss l w → y ≤ m) : m = restOn ss l w := by
  have a : restOn ss l w ≤ m := by
    rcases fold_is l w ss 0 with e | ⟨s, q1, q2, q3⟩
    · show ss.foldl (step1 l w) 0 ≤ m
      rw [e]
      exact h2 0 (by simp)
    · show ss.foldl (step1 l w) 0 ≤ m
      rw [q3]
      refine h2 _ (List.mem_cons_of_mem _ (List.mem_map.mpr ⟨s, List.mem_filter.mpr ⟨q1, q2⟩, rfl⟩))
  have b : m ≤ restOn ss l w := by
    rcases List.mem_cons.mp h1 with e | h1
    · rw [e]
      exact fold_le l w ss 0
    · obtain ⟨s, q1, q2⟩ := List.mem_map.mp h1
      obtain ⟨q3, q4⟩ := List.mem_filter.mp q1
      rw [← q2]
      exact fold_top l w ss 0 s q3 q4
  omega

/-! ### bushes -/
inductive Bush where
  | nil
  | node (b : Nat) (s t : Bush)
def Bush.blocks : Bush → List Nat
  | .nil => []
  | .node b s t => b :: (s.blocks ++ t.blocks)
def Bush.depth : Bush → Nat
  | .nil => 0
  | .node _ s t => max s.depth t.depth + 1
def Bush.size : Bush → Nat
  | .nil => 1
  | .node _ s t => s.size + t.size + 1
theorem Bush.depth_le : ∀ t : Bush, t.depth ≤ t.blocks.length
  | .nil => Nat.le_refl _
  | .node _ s t => by
    have h1 := Bush.depth_le s
    have h2 := Bush.depth_le t
    show max s.depth t.depth + 1 ≤ (_ :: (s.blocks ++ t.blocks)).length
    rw [List.length_cons, List.length_append]
    omega

abbrev Sz := Nat → Int × Int
def spotAt (sz : Sz) (b : Nat) (l : Int) (ss : List Spot) : Spot := ⟨l, restOn ss l (sz b).1, (sz b).1, (sz b).2⟩
def place (sz : Sz) : Bush → Int → List (Nat × Spot) → List (Nat × Spot)
  | .nil, _, f => f
  | .node b s t, l, f => place sz t l (place sz s (l + (sz b).1) (f ++ [(b, spotAt sz b l (f.map (·.2)))]))

theorem place_keys (sz : Sz) : ∀ (t : Bush) (l : Int) (f : List (Nat × Spot)), (place sz t l f).map (·.1) = f.map (·.1) ++ t.blocks
  | .nil, _, f => by simp [place, Bush.blocks]
  | .node b s t, l, f => by
    show (place sz t l (place sz s (l + (sz b).1) _)).map (·.1) = _
    rw [place_keys sz t, place_keys sz s]
    simp [Bush.blocks]

/-- the waiting ones, the next first -/
def fin (sz : Sz) : List (Bush × Int) → List (Nat × Spot) → List (Nat × Spot)
  | [], f => f
  | (t, l) :: r, f => fin sz r (place sz t l f)
def work : List (Bush × Int) → Nat
  | [] => 0
  | (t, _) :: r => t.size + work r
theorem work_snoc : ∀ (ws : List (Bush × Int)) (t : Bush) (l : Int), work (ws ++ [(t, l)]) = work ws + t.size
  | [], t, l => by simp [work]
  | (u, k) :: r, t, l => by
    show u.size + work (r ++ [(t, l)]) = u.size + work r + t.size
    rw [work_snoc r]
    omega

/-! ### what holds of the spots as they were put -/
def Good (sz : Sz) (ss : List Spot) : Prop := ∀ (j : Nat) (s : Spot), ss[j]? = some s → 0 ≤ s.l ∧ s.l ≤ 9 * (j : Int) ∧ 1 ≤ s.w ∧ s.w ≤ 9 ∧ 1 ≤ s.h ∧ s.h ≤ 9 ∧ s.y = restOn (ss.take j) s.l s.w

theorem Good.snoc {sz : Sz} {ss : List Spot} (g : Good sz ss) {s : Spot} (h1 : 0 ≤ s.l) (h2 : s.l ≤ 9 * (ss.length : Int)) (h3 : 1 ≤ s.w) (h4 : s.w ≤ 9) (h5 : 1 ≤ s.h) (h6 : s.h ≤ 9) (h7 : s.y = restOn ss s.l s.w) : Good sz (ss ++ [s]) := by
  intro j u hu
  by_cases hj : j < ss.length
  · rw [List.getElem?_append_left hj] at hu
    rw [List.take_append_of_le_length (Nat.le_of_lt hj)]
    exact g j u hu
  · by_cases hj2 : j = ss.length
    · subst hj2
      rw [List.getElem?_append_right (Nat.le_refl _), Nat.sub_self] at hu
      have e : s = u := Option.some.inj hu
      subst e
      rw [List.take_append_of_le_length (Nat.le_refl _), List.take_length]
      exact ⟨h1, h2, h3, h4, h5, h6, h7⟩
    · rw [List.getElem?_append_right (by omega)] at hu
      have e : j - ss.length = (j - ss.length - 1) + 1 := by omega
      rw [e] at hu
      simp at hu

theorem Good.rest_le {sz : Sz} : ∀ (n : Nat) {ss : List Spot} (_ : ss.length = n) (_ : Good sz ss) (l w : Int), restOn ss l w ≤ 9 * (ss.length : Int)
  | n, ss, hn, g, l, w => by
    rcases fold_is l w ss 0 with e | ⟨s, q1, q2, q3⟩
    · show ss.foldl (step1 l w) 0 ≤ _
      rw [e]
      omega
    · show ss.foldl (step1 l w) 0 ≤ _
      rw [q3]
      obtain ⟨j, hj⟩ := List.getElem?_of_mem q1
      obtain ⟨hlt, _⟩ := List.getElem?_eq_some_iff.mp hj
      obtain ⟨_, _, _, _, _, h6, h7⟩ := g j s hj
      have hl : (ss.take j).length = j := by rw [List.length_take]; omega
      have gt : Good sz (ss.take j) := by
        intro i u hu
        have hi : i < j := by
          obtain ⟨z, _⟩ := List.getElem?_eq_some_iff.mp hu
          omega
        rw [List.getElem?_take_of_lt hi] at hu
        rw [List.take_take, Nat.min_eq_left (Nat.le_of_lt hi)]
        exact g i u hu
      have ih := Good.rest_le j hl gt s.l s.w
      rw [hl] at ih
      omega
termination_by n => n
decreasing_by omega

theorem Good.take {sz : Sz} {ss : List Spot} (g : Good sz ss) (j : Nat) : Good sz (ss.take j) := by
  intro i u hu
  have hi : i < j := by
    obtain ⟨z, _⟩ := List.getElem?_eq_some_iff.mp hu
    rw [List.length_take] at z
    omega
  rw [List.getElem?_take_of_lt hi] at hu
  rw [List.take_take, Nat.min_eq_left (Nat.le_of_lt hi)]
  exact g i u hu

theorem Good.y_ge {sz : Sz} {ss : List Spot} (g : Good sz ss) {j : Nat} {s : Spot} (h : ss[j]? = some s) : 0 ≤ s.y ∧ s.y ≤ 9 * (j : Int) := by
  obtain ⟨hlt, _⟩ := List.getElem?_eq_some_iff.mp h
  obtain ⟨_, _, _, _, _, _, h7⟩ := g j s h
  have a := fold_le s.l s.w (ss.take j) 0
  have b := Good.rest_le _ rfl (g.take j) s.l s.w
  rw [List.length_take, Nat.min_eq_left (by omega)] at b
  rw [h7]
  exact ⟨a, b⟩

/-- an earlier one that shares width lies below -/
theorem Good.below {sz : Sz} {ss : List Spot} (g : Good sz ss) {i j : Nat} {s t : Spot} (hs : ss[i]? = some s) (ht : ss[j]? = some t) (hij : i < j) (ho : ov1 s t.l t.w = true) : s.y + s.h ≤ t.y := by
  obtain ⟨_, _, _, _, _, _, h7⟩ := g j t ht
  rw [h7]
  refine fold_top t.l t.w (ss.take j) 0 s ?_ ho
  refine List.mem_of_getElem? (i := i) ?_
  rw [List.getElem?_take_of_lt hij]
  exact hs

theorem Good.apart {sz : Sz} {ss : List Spot} (g : Good sz ss) {i j : Nat} {s t : Spot} (hs : ss[i]? = some s) (ht : ss[j]? = some t) (hij : i ≠ j) : ov s t = false := by
  cases h : ov s t with
  | false => rfl
  | true =>
    exfalso
    unfold ov at h
    simp only [Bool.and_eq_true, decide_eq_true_eq] at h
    obtain ⟨h1, h2, h3, h4⟩ := h
    rcases Nat.lt_or_gt_of_ne hij with q | q
    · have z := g.below hs ht q (by unfold ov1; simp only [Bool.and_eq_true, decide_eq_true_eq]; exact ⟨h1, h2⟩)
      omega
    · have z := g.below ht hs q (by unfold ov1; simp only [Bool.and_eq_true, decide_eq_true_eq]; exact ⟨h2, h1⟩)
      omega

/-- each that is not at 0 stands on an earlier one -/
theorem Good.stands {sz : Sz} {ss : List Spot} (g : Good sz ss) {j : Nat} {t : Spot} (ht : ss[j]? = some t) (hy : 0 < t.y) : ∃ s, s ∈ ss ∧ s ≠ t ∧ ov ⟨t.l, t.y - 1, t.w, t.h⟩ s = true := by
  obtain ⟨_, _, _, _, h5, _, h7⟩ := g j t ht
  rcases fold_is t.l t.w (ss.take j) 0 with e | ⟨s, q1, q2, q3⟩
  · have z : restOn (ss.take j) t.l t.w = 0 := e
    omega
  · have q3 : restOn (ss.take j) t.l t.w = s.y + s.h := q3
    obtain ⟨i, hi⟩ := List.getElem?_of_mem q1
    have hi' := (g.take j) i s hi
    refine ⟨s, List.mem_of_mem_take q1, fun e => ?_, ?_⟩
    · subst e
      omega
    · unfold ov1 at q2
      simp only [Bool.and_eq_true, decide_eq_true_eq] at q2
      unfold ov
      simp only [Bool.and_eq_true, decide_eq_true_eq]
      obtain ⟨q4, q5⟩ := q2
      refine ⟨q5, q4, ?_, ?_⟩ <;> omega

def SzOk (sz : Sz) (bs : List Nat) : Prop := ∀ b ∈ bs, 1 ≤ (sz b).1 ∧ (sz b).1 ≤ 9 ∧ 1 ≤ (sz b).2 ∧ (sz b).2 ≤ 9

theorem place_good {sz : Sz} : ∀ (t : Bush) (l : Int) (f : List (Nat × Spot)), SzOk sz t.blocks → 0 ≤ l → l ≤ 9 * (f.length : Int) → Good sz (f.map (·.2)) → Good sz ((place sz t l f).map (·.2)) ∧ f.length ≤ (place sz t l f).length
  | .nil, _, f, _, _, _, g => ⟨g, Nat.le_refl _⟩
  | .node b s t, l, f, ok, h0, h1, g => by
    have hb := ok b (by simp [Bush.blocks])
    have g1 : Good sz ((f ++ [(b, spotAt sz b l (f.map (·.2)))]).map (·.2)) := by
      rw [List.map_append]
      refine g.snoc h0 ?_ hb.1 hb.2.1 hb.2.2.1 hb.2.2.2 rfl
      rw [List.length_map]
      exact h1
    have e1 : ((f ++ [(b, spotAt sz b l (f.map (·.2)))]).length : Int) = (f.length : Int) + 1 := by rw [List.length_append]; simp
    have r1 := place_good s (l + (sz b).1) (f ++ [(b, spotAt sz b l (f.map (·.2)))]) (fun c hc => ok c (by simp [Bush.blocks, hc])) (by omega) (by rw [e1]; omega) g1
    have l1 := r1.2
    rw [List.length_append] at l1
    have r2 := place_good t l (place sz s (l + (sz b).1) (f ++ [(b, spotAt sz b l (f.map (·.2)))])) (fun c hc => ok c (by simp [Bush.blocks, hc])) h0 (by omega) r1.1
    exact ⟨r2.1, by have := r2.2; show f.length ≤ (place sz t l _).length; omega⟩
end K53

namespace K53
open PySem PySem.Spec PyProof.Rows L2
/-- the text's statements by places -/
def topS (i : Nat) : Stmt := PySem.Challenge.pw_chipfloor_k53_whole_bushes.main.body.getD i (.Pass ⟨0, 0, 0, 0⟩)
/-- the built-ins' names are still the built-ins' -/
structure Bi (mg : Str → Option Value) : Prop where
  isinstance : mg "isinstance" = none
  int : mg "int" = none
  bool : mg "bool" = none
  tuple : mg "tuple" = none
  list : mg "list" = none
  str : mg "str" = none
  len : mg "len" = none
  all : mg "all" = none
  any : mg "any" = none
  enumerate : mg "enumerate" = none
  sorted : mg "sorted" = none
  range : mg "range" = none
  max : mg "max" = none
/-- the module's constants -/
structure Cs (mg : Str → Option Value) : Prop where
  blocks : ∃ t, mg "MOST_BLOCKS" = some (.int 8 t)
  side : ∃ t, mg "MOST_SIDE" = some (.int 100 t)
  place : ∃ t, mg "MOST_PLACE" = some (.int 1000 t)
/-- a def that keeps its promise, by its name -/
structure Def (P : Program) (w : World) (K : PySem.W.Frag) (mg : Str → Option Value) (base : Heap) (x : Str) (k : Nat) (ps : List Str) (sp : Sp) : Prop where
  ex : ∃ (f : Addr) (fd : FuncData), FnOk P w K mg base CX0 k f fd ps sp ∧ mg x = some (.ref f) ∧ PySem.W.keepIn K (.ref f) = true ∧ Binds K fd ps []
theorem Def.mono {P : Program} {w : World} {K : PySem.W.Frag} {mg : Str → Option Value} {base : Heap} {x : Str} {j k : Nat} {ps : List Str} {sp : Sp} (D : Def P w K mg base x j ps sp) (h : j ≤ k) : Def P w K mg base x k ps sp := by
  obtain ⟨f, fd, G, m, kp, b⟩ := D.ex
  exact ⟨f, fd, G.mono h, m, kp, b⟩
/-- where a def of the text stands -/
structure At (K : PySem.W.Frag) (mg : Str → Option Value) (x : Str) (st : Stmt) (f : Addr) (fd : FuncData) (ps : List Str) : Prop where
  fn : Fun K x x st f fd
  gl : mg x = some (.ref f)
  bi : Binds K fd ps []
theorem At.def {P : Program} {w : World} {K : PySem.W.Frag} {mg : Str → Option Value} {base : Heap} {x : Str} {st : Stmt} {f : Addr} {fd : FuncData} {ps : List Str} {k : Nat} {sp : Sp} (T : At K mg x st f fd ps) (G : FnOk P w K mg base CX0 k f fd ps sp) : Def P w K mg base x k ps sp :=
  ⟨f, fd, G, T.gl, T.fn.kp, T.bi⟩

/-! ### heaps -/
theorem same_upd {H : Hp} {p : Addr} {o : HO} (h : H p = none) : Same H (upd H p o) := fun b x e => by
  rw [upd_ne (ne_of_none e h)]
  exact e
/-- all but what stands at r is as it was -/
def Off (r : Addr) (H H' : Hp) : Prop := ∀ b o, b ≠ r → H b = some o → H' b = some o
theorem Off.of {r : Addr} {H H' : Hp} (s : Same H H') : Off r H H' := fun b o _ e => s b o e
theorem Off.refl (r : Addr) (H : Hp) : Off r H H := fun _ _ _ e => e
theorem Off.trans {r : Addr} {H H1 H2 : Hp} (a : Off r H H1) (b : Off r H1 H2) : Off r H H2 := fun c o n e => b c o n (a c o n e)
theorem Off.upd (r : Addr) (H : Hp) (o : HO) : Off r H (upd H r o) := fun b _ n e => by
  rw [upd_ne n]
  exact e
/-- the tuples stand -/
def Tups (H H' : Hp) : Prop := ∀ b xs, H b = some (.tup xs) → H' b = some (.tup xs)
theorem Same.tups {H H' : Hp} (s : Same H H') : Tups H H' := fun b xs e => s b _ e
theorem Tups.trans {H H1 H2 : Hp} (a : Tups H H1) (b : Tups H1 H2) : Tups H H2 := fun c o e => b c o (a c o e)
theorem Off.tups {r : Addr} {H H' : Hp} (s : Off r H H') (n : ∀ xs, H r ≠ some (.tup xs)) : Tups H H' := fun b xs e => s b _ (fun z => n xs (z ▸ e)) e
theorem Off.free {r : Addr} {H H' : Hp} (e : Off r H H') {l : Addr} (n : l ≠ r) (h : H' l = none) : H l = none := by
  cases q : H l with
  | none => rfl
  | some o =>
    rw [e l o n q] at h
    cases h
/-- Same, where r is new -/
theorem Off.same {r : Addr} {H H0 H' : Hp} (e : Off r H0 H') (n : H r = none) (s : Same H H0) : Same H H' := fun b o q => e b o (ne_of_none q n) (s b o q)

/-! ### the data in the heap -/
/-- a size -/
def SzAt (H : Hp) (v : V) (s : Int × Int) : Prop := ∃ a, v = .ref a ∧ H a = some (.tup [.int s.1, .int s.2])
/-- a spot -/
def SpAt (H : Hp) (v : V) (s : Spot) : Prop := ∃ a, v = .ref a ∧ H a = some (.tup [.int s.l, .int s.y, .int s.w, .int s.h])
/-- a bush -/
inductive BuAt (H : Hp) : V → Bush → Prop where
  | nil : BuAt H .non .nil
  | node {a : Addr} {b : Nat} {x y : V} {s t : Bush} : H a = some (.tup [.int (b : Nat), x, y]) → BuAt H x s → BuAt H y t → BuAt H (.ref a) (.node b s t)
theorem SzAt.keep {H H' : Hp} {v : V} {s : Int × Int} (h : SzAt H v s) (k : Tups H H') : SzAt H' v s := by
  obtain ⟨a, e, q⟩ := h
  exact ⟨a, e, k _ _ q⟩
theorem SpAt.keep {H H' : Hp} {v : V} {s : Spot} (h : SpAt H v s) (k : Tups H H') : SpAt H' v s := by
  obtain ⟨a, e, q⟩ := h
  exact ⟨a, e, k _ _ q⟩
theorem BuAt.keep {H H' : Hp} {v : V} {t : Bush} (h : BuAt H v t) (k : Tups H H') : BuAt H' v t := by
  induction h with
  | nil => exact .nil
  | node e _ _ i1 i2 => exact .node (k _ _ e) i1 i2
/-- pairs of equal places -/
theorem paired_get {α β : Type} {F : α → β → Prop} : ∀ {xs : List α} {ys : List β} {i : Nat} {x : α}, Paired F xs ys → xs[i]? = some x → ∃ y, ys[i]? = some y ∧ F x y
  | _, _, _, _, .nil, e => by simp at e
  | _, _, 0, _, .cons r _, e => by
    have e' := Option.some.inj e
    subst e'
    exact ⟨_, rfl, r⟩
  | _, _, i + 1, x, .cons _ t, e => by
    obtain ⟨y, h1, h2⟩ := paired_get (i := i) (x := x) t (by simpa using e)
    exact ⟨y, by simpa using h1, h2⟩
theorem paired_snoc {α β : Type} {F : α → β → Prop} {x : α} {y : β} : ∀ {xs : List α} {ys : List β}, Paired F xs ys → F x y → Paired F (xs ++ [x]) (ys ++ [y])
  | _, _, .nil, h => .cons h .nil
  | _, _, .cons r t, h => .cons r (paired_snoc t h)
theorem paired_imp {α β : Type} {F G : α → β → Prop} (h : ∀ x y, F x y → G x y) : ∀ {xs : List α} {ys : List β}, Paired F xs ys → Paired G xs ys
  | _, _, .nil => .nil
  | _, _, .cons r t => .cons (h _ _ r) (paired_imp h t)
theorem small {n : Nat} (h : n ≤ 1000) : n ≤ sizeLine := Nat.le_of_lt (small1000 h)
end K53

namespace K53
open PySem PySem.Spec PyProof.Rows L2
/-! ### what the small defs answer -/
def spIsInteger : Sp := fun vs H Q _ => ∃ i : Int, vs = [.int i] ∧ Q (.bl true) H
def spIsIn : Sp := fun vs H Q _ => ∃ i lo hi : Int, vs = [.int i, .int lo, .int hi] ∧ Q (.bl (decide (lo ≤ i) && decide (i ≤ hi))) H
def spIsList : Sp := fun vs H Q _ => ∃ (a : Addr) (xs : List V) (lo hi : Int), vs = [.ref a, .int lo, .int hi] ∧ H a = some (.tup xs) ∧ Q (.bl (decide (lo ≤ (xs.length : Int)) && decide ((xs.length : Int) ≤ hi))) H
abbrev sIsInteger : Stmt := topS 1
abbrev sIsIn : Stmt := topS 2
abbrev sIsList : Stmt := topS 3
theorem scIsInteger : FnScope ["value"] ["value"] (defScope sIsInteger) := ⟨rfl, rfl, rfl, by decide +kernel, rfl, by decide +kernel, by decide +kernel⟩
theorem scIsIn : FnScope ["value", "least", "most"] ["value", "least", "most"] (defScope sIsIn) := ⟨rfl, rfl, rfl, by decide +kernel, rfl, by decide +kernel, by decide +kernel⟩
theorem scIsList : FnScope ["value", "least", "most"] ["value", "least", "most"] (defScope sIsList) := ⟨rfl, rfl, rfl, by decide +kernel, rfl, by decide +kernel, by decide +kernel⟩
section
variable {P : Program} {w : World} {K : PySem.W.Frag} {mg : Str → Option Value} {base : Heap}
theorem ok_isInteger {f : Addr} {fd : FuncData} (B : Bi mg) (F : Fun K "is_integer" "is_integer" sIsInteger f fd) : FnOk P w K mg base CX0 1 f fd ["value"] spIsInteger := by
  refine F.ok scIsInteger (fun vs H Q E h => ?_) (fun cdv A outer s H vs Q E hr h => ?_)
  · obtain ⟨i, rfl, _⟩ := h
    rfl
  obtain ⟨i, rfl, q⟩ := h
  refine ⟨_, pss_one (ps_ret (pe_and
    (pe_callB call_isi (by rfl) B.isinstance boot_isinstance (pa_cons (pv 0) (pa_cons (pe_bltn (v := .ty "int") (by rfl) B.int boot_int rfl) pa_nil)))
    (pe_one (pe_not (pe_callB call_isi (by rfl) B.isinstance boot_isinstance (pa_cons (pv 0) (pa_cons (pe_bltn (v := .ty "bool") (by rfl) B.bool boot_bool rfl) pa_nil))))))), ?_⟩
  refine ⟨_, rfl, .int i, .ty "int", _, _, true, rfl, .ty _, .base (.int i), kit_ty (by decide +kernel), _, rfl, ?_⟩
  refine iteT ?_
  refine ⟨_, rfl, .int i, .ty "bool", _, _, false, rfl, .ty _, .base (.int i), kit_ty (by decide +kernel), _, rfl, ?_⟩
  exact q
theorem chain_and {a b : Bool} {Q : Bool → Prop} (h : Q (a && b)) : if a = true then Q b else Q false := by
  cases a with
  | true => exact iteT h
  | false => exact iteF h
theorem ok_isIn {f : Addr} {fd : FuncData} {k : Nat} (G : Def P w K mg base "is_integer" k ["value"] spIsInteger) (F : Fun K "is_in" "is_in" sIsIn f fd) : FnOk P w K mg base CX0 (k + 1) f fd ["value", "least", "most"] spIsIn := by
  obtain ⟨fI, fdI, GI, mI, kI, bI⟩ := G.ex
  refine F.ok scIsIn (fun vs H Q E h => ?_) (fun cdv A outer s H vs Q E hr h => ?_)
  · obtain ⟨i, lo, hi, rfl, _⟩ := h
    rfl
  obtain ⟨i, lo, hi, rfl, q⟩ := h
  refine ⟨_, pss_one (ps_ret (pe_and (pe_call GI hr (by rfl) mI kI bI .nil pass0 (pa_cons (pv 0) pa_nil)) (pe_one (pe_chain op_le op_le (pv 1) (pv 0) (pv 2))))), ?_⟩
  refine ⟨_, rfl, i, rfl, true, rfl, iteT ?_⟩
  refine ⟨_, rfl, _, rfl, lo, i, rfl, rfl, _, rfl, ?_⟩
  by_cases c : lo ≤ i
  · rw [decide_eq_true c] at q ⊢
    exact iteT ⟨_, rfl, i, hi, rfl, rfl, q⟩
  · rw [decide_eq_false c] at q ⊢
    exact iteF q
theorem ok_isList {f : Addr} {fd : FuncData} (B : Bi mg) (F : Fun K "is_list" "is_list" sIsList f fd) : FnOk P w K mg base CX0 1 f fd ["value", "least", "most"] spIsList := by
  refine F.ok scIsList (fun vs H Q E h => ?_) (fun cdv A outer s H vs Q E hr h => ?_)
  · obtain ⟨a, xs, lo, hi, rfl, _⟩ := h
    rfl
  obtain ⟨a, xs, lo, hi, rfl, ha, q⟩ := h
  refine ⟨_, pss_one (ps_ret (pe_and
    (pe_callB call_isi (by rfl) B.isinstance boot_isinstance (pa_cons (pv 0) (pa_cons (pe_bltn (v := .ty "tuple") (by rfl) B.tuple boot_tuple rfl) pa_nil)))
    (pe_one (pe_chain op_le op_le (pv 1) (pe_callB call_len_seq (by rfl) B.len PySem.boot_len (pa_cons (pv 0) pa_nil)) (pv 2))))), ?_⟩
  refine ⟨_, rfl, .ref a, .ty "tuple", _, _, true, rfl, .ty _, .base (.tup ha), kit_ty (by decide +kernel), _, rfl, iteT ?_⟩
  refine ⟨_, rfl, .ref a, rfl, a, xs, rfl, .inr (SqT.of ha), lo, _, rfl, rfl, _, rfl, ?_⟩
  by_cases c : lo ≤ (xs.length : Int)
  · rw [decide_eq_true c] at q ⊢
    exact iteT ⟨_, rfl, _, hi, rfl, rfl, q⟩
  · rw [decide_eq_false c] at q ⊢
    exact iteF q
end
end K53

namespace K53
open PySem PySem.Spec PyProof.Rows L2
theorem ite_t {c : Bool} {A B : Prop} (hc : c = true) (h : A) : if c = true then A else B := by
  subst hc
  exact iteT h
theorem ite_f {c : Bool} {A B : Prop} (hc : c = false) (h : B) : if c = true then A else B := by
  subst hc
  exact iteF h
/-! ### a comprehension whose steps leave what was tracked as it was: at step i it appends (pick i), or nothing -/
def picked (pick : Nat → Option V) (i : Nat) : List V := (List.range i).filterMap pick
theorem picked_succ (pick : Nat → Option V) (i : Nat) : picked pick (i + 1) = picked pick i ++ (match pick i with | some y => [y] | none => []) := by
  unfold picked
  rw [List.range_succ, List.filterMap_append]
  cases h : pick i <;> simp [h]
theorem picked_len (pick : Nat → Option V) (i : Nat) : (picked pick i).length ≤ i := by
  unfold picked
  have h := List.length_filterMap_le pick (List.range i)
  rw [List.length_range] at h
  exact h
theorem picked_all : ∀ (ys : List V) (i : Nat), i ≤ ys.length → picked (fun j => ys[j]?) i = ys.take i
  | ys, 0, _ => by simp [picked]
  | ys, i + 1, h => by
    rw [picked_succ, picked_all ys i (by omega), List.take_add_one]
    have e : ys[i]? = some ys[i] := List.getElem?_eq_getElem (by omega)
    rw [e]
    rfl
theorem picked_list (ys : List V) : picked (fun j => ys[j]?) ys.length = ys := by
  rw [picked_all ys ys.length (Nat.le_refl _), List.take_length]
section
variable {J : It} {G : Hp → Prop} {xs : List V} {tt : TT} {te : TE} {σ : L2.St} {H0 : Hp} {D : Addr} {Qd : Hp → Prop} {s n : Nat}
theorem lc_pick (wk : Walk J n G (YAt xs)) (gs : ∀ H', Same H0 H' → G H') (hD : H0 D = none) (hz : n ≤ 1000) (pick : Nat → Option V)
    (hs : ∀ (i : Nat) (x : V) (H : Hp) (k : Option V → Hp → Prop), i < n → xs[i]? = some x → Same H0 H → (∀ H', Same H H' → k (pick i) H') →
      tt ((σ.set s none).set s (some x)) H fun b H3 => if b = true then te ((σ.set s none).set s (some x)) H3 fun y H4 => k (some y) H4 else k none H3)
    (hd : ∀ H, Same H0 H → H D = some (.lst (picked pick n)) → Qd H) :
    ∃ W : Nat → Nat → Hp → Prop, (∃ m, W 0 m (upd H0 D (.lst []))) ∧ ∀ i m H, W i m H →
      (J.stop i H ∧ Qd H) ∨ (J.go i H ∧ ∃ Nx : Hp → Prop, (∀ H', Nx H' → ∃ m', m' < m ∧ W (i + 1) m' H') ∧ ∀ x H', J.yld i H x H' → gName s x (wipe σ [s]) H' fun σ2 H2 => wipe σ2 [s] = wipe σ [s] ∧ tt σ2 H2 fun b H3 =>
        if b = true then te σ2 H3 fun y H4 => ∃ acc, H4 D = some (.lst acc) ∧ acc.length < sizeLine ∧ Nx (upd H4 D (.lst (acc ++ [y]))) else Nx H3) := by
  refine lc_it wk (fun i H => Same H0 H ∧ H D = some (.lst (picked pick i))) ⟨same_upd hD, upd_same⟩ (fun i H _ h => gs H h.1) (fun i x H H' hi hP hy => ?_) (fun H h => hd H h.1 h.2)
  obtain ⟨rfl, hx⟩ := hy
  refine ⟨by simp [wipe, List.set_set], ?_⟩
  refine hs i x H' (fun o H4 => match o with
    | some y => ∃ acc, H4 D = some (.lst acc) ∧ acc.length < sizeLine ∧ (Same H0 (upd H4 D (.lst (acc ++ [y]))) ∧ upd H4 D (.lst (acc ++ [y])) D = some (.lst (picked pick (i + 1))))
    | none => Same H0 H4 ∧ H4 D = some (.lst (picked pick (i + 1)))) hi hx hP.1 (fun H4 s4 => ?_)
  have e4 := s4 _ _ hP.2
  have q := picked_succ pick i
  cases hp : pick i with
  | none =>
    rw [hp] at q
    simp only [List.append_nil] at q
    exact ⟨hP.1.trans s4, by rw [q]; exact e4⟩
  | some y =>
    rw [hp] at q
    simp only at q
    have hl := picked_len pick i
    refine ⟨_, e4, small1000 (by omega), fun b o e => ?_, by rw [q]; exact upd_same⟩
    rw [upd_ne (ne_of_none e hD)]
    exact s4 _ _ (hP.1 _ _ e)
end
theorem lc_all {J : It} {G : Hp → Prop} {xs : List V} {te : TE} {σ : L2.St} {H0 : Hp} {D : Addr} {Qd : Hp → Prop} {s n : Nat} (wk : Walk J n G (YAt xs)) (gs : ∀ H', Same H0 H' → G H') (hD : H0 D = none) (ys : List V) (hn : n = ys.length) (hz : n ≤ 1000)
    (hs : ∀ (i : Nat) (x y : V) (H : Hp) (k : VK), i < n → xs[i]? = some x → ys[i]? = some y → Same H0 H → (∀ H', Same H H' → k y H') → te ((σ.set s none).set s (some x)) H k)
    (hd : ∀ H, Same H0 H → H D = some (.lst ys) → Qd H) :
    ∃ W : Nat → Nat → Hp → Prop, (∃ m, W 0 m (upd H0 D (.lst []))) ∧ ∀ i m H, W i m H →
      (J.stop i H ∧ Qd H) ∨ (J.go i H ∧ ∃ Nx : Hp → Prop, (∀ H', Nx H' → ∃ m', m' < m ∧ W (i + 1) m' H') ∧ ∀ x H', J.yld i H x H' → gName s x (wipe σ [s]) H' fun σ2 H2 => wipe σ2 [s] = wipe σ [s] ∧ tYes σ2 H2 fun b H3 =>
        if b = true then te σ2 H3 fun y H4 => ∃ acc, H4 D = some (.lst acc) ∧ acc.length < sizeLine ∧ Nx (upd H4 D (.lst (acc ++ [y]))) else Nx H3) := by
  refine lc_pick (tt := tYes) wk gs hD hz (fun i => ys[i]?) (fun i x H k hi hx sm hk => ?_) (fun H sm e => ?_)
  · show if true = true then te ((σ.set s none).set s (some x)) H (fun y H4 => k (some y) H4) else k none H
    rw [if_pos rfl]
    have hy : ys[i]? = some ys[i] := List.getElem?_eq_getElem (by omega)
    refine hs i x ys[i] H (fun y H4 => k (some y) H4) hi hx hy sm fun H' s' => ?_
    have q := hk H' s'
    rw [hy] at q
    exact q
  · refine hd H sm ?_
    rw [e, hn, picked_list]
theorem walk_rangeA {n : Nat} : Walk (Itr 0 n) n (fun _ => True) (YAt ((List.range n).map fun i => V.int (i : Nat))) :=
  (walk_range (lo := 0) (n := n)).mono (fun _ h => h) fun i H x H' hi _ y => by
    obtain ⟨e1, e2⟩ := y
    refine ⟨e1, ?_⟩
    rw [e2, List.getElem?_map, List.getElem?_range hi]
    show some (V.int (i : Nat)) = some (V.int (0 + (i : Nat)))
    rw [Int.zero_add]
theorem Same.seqT {K : PySem.W.Frag} {H H' : Hp} {a : Addr} {xs : List V} (e : Same H H') (h : SqT K H a xs) : SqT K H' a xs := by
  rcases h with (h | ⟨o, h⟩) | h
  · exact .inl (.inl (e _ _ h))
  · exact .inl (.inr ⟨o, e _ _ h⟩)
  · exact .inr h

/-! ### list(d.values()) -/
/-- the view of the values of the dict at d -/
def vwO (v d : Addr) : HO := .ext fun h => h.get? v = some { cls := .type "dict_values", data := .fields #[.ref d] }
def tVals (td : TE) : TE := fun σ H Q => td σ H fun x H1 => ∃ d kvs, x = .ref d ∧ H1 d = some (.dK kvs) ∧ ∀ v, H1 v = none → Q (.ref v) (upd H1 v (vwO v d))
section
variable {X : Cx} {o : Expr} {td : TE} {apos mpos : Pos}
theorem pe_vals (he : PE X o td) (hb : attributeBase o "values" X.env (eval o X.env) = eval o X.env := by rfl) (hl : (apos.endLine == mpos.line) = true := by rfl) : PE X (.Call (.Attribute o "values" apos) [] [] mpos) (tVals td) := by
  refine ⟨fun pins s σ H Q I h => ?_⟩
  refine wpAny_Call_method (T := "dict") (id := "dict.values") hb rfl hl F.plainAttrs_dict F.slot_dict_values F.type_dict_values ?_
  refine thn (he.run pins s σ H _ I h) fun u s1 hx => ?_
  obtain ⟨x, H1, I1, rx, d, kvs, ex, hd, q⟩ := hx
  subst ex
  obtain rfl : u = Value.ref d := rx
  obtain ⟨_, lo, vs, rel, dof⟩ := dk_of I1.hok hd
  have got := dof
  obtain ⟨ob, es, ep, ho, xd, _⟩ := got
  refine ⟨⟨ob, ho, xd.1⟩, fun b e => by cases e; exact ⟨ob, ho, xd.2.1⟩, ?_⟩
  show wpAny _ _ (callWith mpos (.builtin "dict.values") [.ref d] [] []) _ _ _
  refine method_meetsIn F.slot_dict_values F.entry_dict_values rfl (PySem.evalArgs_none ⟨rfl, ⟨ob, ho, xd.1⟩, F.args_dict_values_1 _, _, meets_dict_values (mixKind X.prog X.w) d lo, ⟨vs, dof⟩, ?_⟩)
  have old : ∀ b u, s1.heap.get? b = some u → (s1.heap.push { cls := .type "dict_values", data := .fields #[.ref d] }).get? b = some u := fun b u e => Heap.get?_push_of_some _ e
  have new : (s1.heap.push { cls := .type "dict_values", data := .fields #[.ref d] }).get? s1.heap.objs.size = some { cls := .type "dict_values", data := .fields #[.ref d] } := Heap.get?_push_size _ rfl
  have fr : H1 s1.heap.objs.size = none := I1.hok.fresh (Nat.le_refl _)
  exact ⟨.ref s1.heap.objs.size, _, I1.laid (t' := s1.toks) old (Nat.le_refl _) (show ObjOk X.prog X.w _ _ _ (vwO _ d) from ⟨new, ⟨_, new⟩, fun h1 h2 p k => k _ p⟩), rfl, q _ fr⟩
def rListVw : List V → Hp → VK → Prop := fun xs H Q => ∃ v d kvs, xs = [.ref v] ∧ H v = some (vwO v d) ∧ H d = some (.dK kvs) ∧ ∀ p, H p = none → Q (.ref p) (upd H p (.lst (kvs.map (·.2))))
theorem vals_at {vs : List (Key × Value)} {kvs : List (Key × V)} (rel : KV kvs vs) {us : List Value} (hl : us.length = vs.length) (h : ∀ (j : Nat) (u : Value), us[j]? = some u → ∃ k, vs[j]? = some (k, u)) : Vals (kvs.map (·.2)) us := by
  induction rel generalizing us with
  | nil =>
    cases us with
    | nil => exact .nil
    | cons a r => simp at hl
  | cons r t ih =>
    cases us with
    | nil => simp at hl
    | cons a us =>
      obtain ⟨k, e⟩ := h 0 a rfl
      have e' := Option.some.inj (show some _ = some (k, a) from e)
      refine .cons ?_ (ih (by simpa using hl) fun j u hu => by simpa using h (j + 1) u (by simpa using hu))
      have r2 := r.2
      rw [e'] at r2
      exact r2
theorem call_listVw (hc : X.calm = true) : CallR X (.type "list") rListVw := by
  intro pins s σ H xs us Q I r h
  obtain ⟨v, d, kvs, e, hv, hd, q⟩ := h
  subst e
  obtain ⟨u, eu, rx⟩ := vals1 r
  subst eu
  obtain rfl : u = Value.ref v := rx
  obtain ⟨z, lo, vs, rel, dof⟩ := dk_of I.hok hd
  obtain ⟨ep, hat⟩ := dof.dictAt
  have vw : s.heap.get? v = some { cls := .type "dict_values", data := .fields #[.ref d] } := (show ObjOk X.prog X.w H s.heap v (vwO v d) from I.hok v _ hv).1
  have hl : kvs.length = vs.length := rel.length
  refine PySem.W.kdl_call (PySem.W.kdl_values (knd := mixKind X.prog X.w) (r := v) (kvs := vs) (ep := ep)) (I.ok.hd hc) ⟨⟨_, vw, rfl, rfl⟩, hat⟩ (by rw [← hl]; exact z) fun h' tk acc c' hk hS hacc => ?_
  refine ⟨.ref s.heap.objs.size, _, I.laid (t' := tk) hk (Nat.le_refl _) (show ObjOk X.prog X.w _ _ _ (.lst (kvs.map (·.2))) from ⟨by rw [List.length_map]; exact z, acc.toList, c', ?_, by rw [Array.toArray_toList]; exact hS⟩), rfl, q _ (I.hok.fresh (Nat.le_refl _))⟩
  exact vals_at rel (by rw [Array.length_toList]; exact hacc.1) fun j u hu => hacc.2 j u (by rw [← Array.getElem?_toList]; exact hu)
end
end K53

namespace K53
open PySem PySem.Spec PyProof.Rows L2
open Sem (wp)
/-! ### for i, x in enumerate(a tuple) -/
theorem meets_enumB {v : Value} {o : Obj} {Hq : Heap → Prop} (B : Begins v o Hq) :
    Meets (Builtin.«enumerate.__new__» ⟨[.type "enumerate", v], []⟩) (fun _ R s => Hq s.heap ∧
      R (.ok (.ret (.ref (s.heap.push o).objs.size))) { s with heap := (s.heap.push o).push { cls := .type "enumerate", data := .fields #[.none, .bool false, .ref s.heap.objs.size, rawInt 0, .none, .none] } }) := by
  refine .of_wp fun prog w A R s hh => ?_
  obtain ⟨hp, g, d, tk, os⟩ := s
  obtain ⟨h1, fin⟩ := hh
  have hsub := sub_enumerate
  have beg : ∀ {A1 : Around} {E1 : Value → Shared → Prop} {Q1 : Value → Shared → Prop}, Q1 (.ref hp.objs.size) ⟨hp.push o, g, d, tk, os⟩ → wpAny (model prog w) A1 (pyIter v) Q1 E1 ⟨hp, g, d, tk, os⟩ :=
    fun q => B.iter prog w _ _ ⟨hp, g, d, tk, os⟩ _ h1 q
  wp_walk using beg
  refine wpAny_stack_any fun st => wpAny_pure ?_
  split
  · rename_i c _ _ _ _ _
    cases (c == Value.type "enumerate")
    all_goals
      wp_walk using beg
      exact ⟨_, rfl, fin⟩
  · wp_walk using beg
    exact ⟨_, rfl, fin⟩
theorem call_enumB {prog : Program} {w : World} {A : Around} {E : Value → Shared → Prop} {s : Shared} {v : Value} {o : Obj} {Hq : Heap → Prop} {Q : Value → Shared → Prop} (B : Begins v o Hq) (h1 : Hq s.heap)
    (h : ∀ h', IsEnum h' (s.heap.objs.size + 1) s.heap.objs.size 0 .none → h'.get? s.heap.objs.size = some o → (∀ b u, s.heap.get? b = some u → h'.get? b = some u) → Q (.ref (s.heap.objs.size + 1)) { s with heap := h' }) :
    wpAny (model prog w) A (call (.type "enumerate") [v]) Q E s := by
  refine callType_new F.called_enumerate (by decide) (F.typeCall_enumerate_1 _) (F.newCall_enumerate_1 _) (fun obj => F.args_object_init_2 obj _) F.entry_enumerate_new (meets_enumB B) ⟨h1, ?_⟩
  have sz : (s.heap.push o).objs.size = s.heap.objs.size + 1 := Heap.size_push ..
  have e1 := Heap.get?_push_size (s.heap.push o) (o := { cls := .type "enumerate", data := .fields #[.none, .bool false, .ref s.heap.objs.size, rawInt 0, .none, .none] }) rfl
  rw [sz] at e1
  show _ ∧ _
  rw [sz]
  exact ⟨⟨_, e1, rfl⟩, h _ e1 (Heap.get?_push_of_some _ (Heap.get?_push_size _ B.free)) fun b u z => Heap.get?_push_of_some _ (Heap.get?_push_of_some _ z)⟩
/-- the tuple at a, each item in a new pair with its place -/
def ItE (K : PySem.W.Frag) (a : Addr) : It :=
  ⟨fun i H => ∃ (xs : List V) (x : V), SqT K H a xs ∧ xs[i]? = some x, fun i H v H' => ∃ T x, v = .ref T ∧ H T = none ∧ H' = upd H T (.tup [.int (i : Nat), x]) ∧ ∀ xs, SqT K H a xs → xs[i]? = some x, fun i H => ∃ xs : List V, SqT K H a xs ∧ xs.length = i⟩
theorem walk_enumT {K : PySem.W.Frag} {a : Addr} {xs : List V} : Walk (ItE K a) xs.length (fun H => SqT K H a xs) (YPair (fun i => some (.int (i : Nat))) (fun i => xs[i]?)) := by
  refine ⟨fun i _ hi q => ⟨xs, xs[i], q, List.getElem?_eq_getElem hi⟩, fun _ q => ⟨xs, q, rfl⟩, fun i H v H' _ q y => ?_⟩
  obtain ⟨T, x, y1, y2, y3, y4⟩ := y
  exact ⟨T, _, x, y1, y2, y3, rfl, y4 xs q⟩
/-- where the iterator stands -/
def EnSt (e it a : Addr) (i : Nat) (h : Heap) : Prop := (∃ old, IsEnum h e it ((i : Nat) : Int) old) ∧ h.IsTupleIter it a i ∧ e ≠ it
theorem turn_enumT {P : Program} {w : World} {K : PySem.W.Frag} {elts : List Expr} {kk : Nat} {tpos : Pos} (a e it : Addr) : Turn P w K (.Tuple elts kk tpos) (ItE K a) [e, it] e (EnSt e it a) where
  mem := List.mem_cons_self
  obj := fun i h st b hb => by
    obtain ⟨⟨old, he⟩, ⟨o, ho, _, hd⟩, _⟩ := st
    rcases List.mem_cons.mp hb with z | z
    · subst z
      exact ⟨_, he, fun v q => nomatch q⟩
    · have z' : b = it := List.mem_singleton.mp z
      subst z'
      exact ⟨o, ho, fun v q => by rw [hd] at q; cases q⟩
  keep := fun i h h' st k => by
    obtain ⟨⟨old, he⟩, hi, ne⟩ := st
    exact ⟨⟨old, k e List.mem_cons_self _ he⟩, hi.at fun o q => k it (List.mem_cons_of_mem _ List.mem_cons_self) o q, ne⟩
  item := by
    intro X hP hw hK hc i pins s σ H E I hf st go
    subst hP hw hK
    obtain ⟨⟨old, he⟩, hit, ne⟩ := st
    obtain ⟨xs, x, hq, hx⟩ := go
    obtain ⟨its, rv, tp, _⟩ := I.tuple hq
    obtain ⟨u, hu, ru⟩ := rv.get hx
    have he_lt : e < s.heap.objs.size := Heap.lt_size he
    have hi_lt : it < s.heap.objs.size := by
      obtain ⟨_, z, _⟩ := hit
      exact Heap.lt_size z
    have tp' : s.heap.IsTuple a its.toArray := tp
    have nea : a ≠ e := fun z => by
      obtain ⟨ot, g1, g2, _⟩ := tp'
      rw [z, he] at g1
      cases g1
      exact absurd (Value.type.inj g2) (by decide)
    have nia : a ≠ it := fun z => by
      obtain ⟨ot, g1, g2, _⟩ := tp'
      obtain ⟨oi, g3, g4, _⟩ := hit
      rw [z, g3] at g1
      cases g1
      rw [g4] at g2
      exact absurd (Value.type.inj g2) (by decide)
    have nf : e ∉ [it, a] := fun z => by
      rcases List.mem_cons.mp z with q | q
      · exact ne q
      · exact nea (List.mem_singleton.mp q).symm
    have hi : i < its.toArray.size := by
      rw [List.size_toArray]
      exact (List.getElem?_eq_some_iff.mp hu).1
    have D := Draws.tuple (prog := X.prog) (w := X.w) (A := X.A.in1) (I.ok.hd hc) it a nia its.toArray
    refine wpAny_pyNext_enum_itemD D he ⟨hit, tp'⟩ hi ne nf fun y h' tk hy ho st' hT hsz hk => ?_
    have ey : y = u := by
      rw [List.getElem?_toArray, hu] at hy
      exact (Option.some.inj hy).symm
    subst ey
    refine ⟨_, rfl, wpAny_letOwnedTupleGo_enum (s := { s with heap := h', toks := tk + 1 }) ho fun h2 he2 sb => ?_⟩
    have hT2 : h2.get? s.heap.objs.size = some { cls := .type "tuple", data := .seq #[.int i tk, y] } := (sb.2 _ (Nat.ne_of_gt he_lt)).trans hT
    have new : ObjOk X.prog X.w (upd H s.heap.objs.size (.tup [.int (i : Nat), x])) h2 s.heap.objs.size (.tup [.int (i : Nat), x]) :=
      ⟨small (n := 2) (by decide), [.int i tk, y], .cons ⟨_, rfl⟩ (.cons ru .nil), ⟨_, hT2, rfl, _, rfl⟩⟩
    have out : ∀ b, b ∉ [e, it] → b ≠ e ∧ b ≠ it := fun b hb => ⟨fun z => hb (z ▸ List.mem_cons_self), fun z => hb (z ▸ List.mem_cons_of_mem _ List.mem_cons_self)⟩
    have I1 : Inv X pins σ (upd H s.heap.objs.size (.tup [.int (i : Nat), x])) { s with heap := h2, toks := tk + 1 } :=
      I.turnedNew (ch := [e, it]) (fun b ob hb q => (sb.2 b (out b hb).1).trans (hk b ob (out b hb).1 (out b hb).2 q)) hf (Nat.le_refl _) new
    refine ⟨.ref s.heap.objs.size, _, I1, rfl, ⟨_, x, rfl, I.hok.fresh (Nat.le_refl _), rfl, fun ys hy => by rw [I.tuple_inj hy hq]; exact hx⟩, ⟨⟨y, ?_⟩, st'.1.at fun o q => (sb.2 it (Ne.symm ne)).trans q, ne⟩, fun b hb => ?_⟩
    · have e1 : ((i + 1 : Nat) : Int) = (i : Int) + 1 := by omega
      rw [e1]
      exact he2
    · have lt : b < s.heap.objs.size := by
        rcases List.mem_cons.mp hb with z | z
        · rw [z]
          exact he_lt
        · rw [List.mem_singleton.mp z]
          exact hi_lt
      rw [upd_ne (Nat.ne_of_lt lt)]
      exact (hf b hb).1
  done := by
    intro X hP hw hK hc i pins s σ H E I hf st stop
    subst hP hw hK
    obtain ⟨⟨old, he⟩, hit, ne⟩ := st
    obtain ⟨xs, hq, hx⟩ := stop
    obtain ⟨its, rv, tp, _⟩ := I.tuple hq
    obtain ⟨f0, f1, f2, f3, f4, f5⟩ := hf it (List.mem_cons_of_mem _ List.mem_cons_self)
    have tp' : s.heap.IsTuple a its.toArray := tp
    have nia : a ≠ it := fun z => by
      obtain ⟨ot, g1, g2, _⟩ := tp'
      obtain ⟨oi, g3, g4, _⟩ := hit
      rw [z, g3] at g1
      cases g1
      rw [g4] at g2
      exact absurd (Value.type.inj g2) (by decide)
    have D := Draws.tuple (prog := X.prog) (w := X.w) (A := X.A.in1) (I.ok.hd hc) it a nia its.toArray
    have ei : i = its.toArray.size := by
      rw [List.size_toArray, ← rv.length]
      exact hx.symm
    exact wpAny_pyNext_enum_endD D he (ei ▸ ⟨hit, tp'⟩) fun h' eb => ⟨rfl, I.turned (t' := s.toks) (fun b o hb q => eb b o hb q) f0 f1 f3 f4 f5⟩
  self := fun A i s Q E st h => by
    obtain ⟨⟨old, he⟩, _⟩ := st
    exact wpAny_pyIter_enum he h
def iEnumT (K : PySem.W.Frag) (ta : TA) : TI := fun σ H R => ta σ H fun vs H1 => ∃ a xs, vs = [.ref a] ∧ SqT K H1 a xs ∧ R (ItE K a) H1
theorem pi_enumT {X : Cx} {e : Expr} {ta : TA} {p pos tpos : Pos} {elts : List Expr} {kk : Nat} (hg : Gl X "enumerate") (hm : X.mg "enumerate" = none) (ha : PA X [e] ta) (hs : starEach [e] X.env = [(false, eval e X.env)] := by rfl) :
    PI X (.Tuple elts kk tpos) (.Call (.Name "enumerate" p) [e] [] pos) (iEnumT X.K ta) := by
  refine ⟨fun pins s σ H R I h => ?_⟩
  refine Call_ (ld_blt I hg hm boot_enumerate (PyProof.Rows.callWith_type1 ?_ hs rfl))
  refine thn (ha.run pos pins s σ H _ I h) fun us s1 hx => ?_
  obtain ⟨vs, H1, I1, r1, a, xs, ex, hq, q⟩ := hx
  subst ex
  obtain ⟨u, eu, ru⟩ := vals1 r1
  subst eu
  obtain rfl : u = Value.ref a := ru
  obtain ⟨its, rv, tp, _⟩ := I1.tuple hq
  have tp' : s1.heap.IsTuple a its.toArray := tp
  refine call_enumB (begins_tuple a its.toArray) tp' fun h' he hit hk => wpAny_pyIter_enum he ?_
  have I2 : Inv X pins σ H1 { s1 with heap := h' } := I1.kept (t' := s1.toks) hk
  refine ⟨s1.heap.objs.size + 1, [s1.heap.objs.size + 1, s1.heap.objs.size], _, _, H1, rfl, I2, turn_enumT a (s1.heap.objs.size + 1) s1.heap.objs.size, ⟨⟨.none, he⟩, ⟨_, hit, rfl, rfl⟩, Nat.succ_ne_self _⟩, fun b hb => ?_, q⟩
  have le : s1.heap.objs.size ≤ b := by
    rcases List.mem_cons.mp hb with z | z
    · rw [z]
      exact Nat.le_add_right _ _
    · rw [List.mem_singleton.mp z]
      exact Nat.le_refl _
  exact I1.fpOk le (I1.hok.fresh le)
end K53

namespace K53
open PySem PySem.Spec PyProof.Rows L2
abbrev sIsSize : Stmt := topS 12
theorem scIsSize : FnScope ["value", "side"] ["value"] (defScope sIsSize) := ⟨rfl, rfl, rfl, by decide +kernel, rfl, by decide +kernel, by decide +kernel⟩
def SzIn (w h : Int) : Prop := 1 ≤ w ∧ w ≤ 100 ∧ 1 ≤ h ∧ h ≤ 100
def spIsSize : Sp := fun vs H Q _ => ∃ (a : Addr) (w h : Int), vs = [.ref a] ∧ H a = some (.tup [.int w, .int h]) ∧ SzIn w h ∧ ∀ H', Same H H' → Q (.bl true) H'
section
variable {P : Program} {w : World} {K : PySem.W.Frag} {mg : Str → Option Value} {base : Heap}
theorem in_range {lo i hi : Int} (h1 : lo ≤ i) (h2 : i ≤ hi) : (decide (lo ≤ i) && decide (i ≤ hi)) = true := by
  rw [decide_eq_true h1, decide_eq_true h2]
  rfl
theorem ok_isSize {f : Addr} {fd : FuncData} {k : Nat} (B : Bi mg) (C : Cs mg) (GL : Def P w K mg base "is_list" k ["value", "least", "most"] spIsList) (GI : Def P w K mg base "is_in" k ["value", "least", "most"] spIsIn) (F : Fun K "is_size" "is_size" sIsSize f fd) : FnOk P w K mg base CX0 (k + 1) f fd ["value"] spIsSize := by
  obtain ⟨fL, fdL, gL, mL, kL, bL⟩ := GL.ex
  obtain ⟨fI, fdI, gI, mI, kI, bI⟩ := GI.ex
  obtain ⟨tk, mS⟩ := C.side
  refine F.ok scIsSize (fun vs H Q E h => ?_) (fun cdv A outer s H vs Q E hr h => ?_)
  · obtain ⟨a, w, h, rfl, _⟩ := h
    rfl
  obtain ⟨a, w, h, rfl, ha, hin, q⟩ := h
  refine ⟨_, pss_one (ps_ret (pe_and (pe_call gL hr (by rfl) mL kL bL .nil pass0 (pa_cons (pv 0) (pa_cons pe_int (pa_cons pe_int pa_nil))))
    (pe_one (pe_callB (cr_all rfl) (by rfl) B.all boot_all (pa_cons
      (pe_lc (own := [("side", 1)]) (g := gName 1) (tt := tYes) rfl scIsSize.nd (pi_tup (pv 0)) (blkOk_by (own := [("side", 1)]) (N := ["value", "side"]) (sc := defScope sIsSize) (by decide +kernel))
        (fun _ _ _ _ _ => pg_name (i := 1) scIsSize.nd rfl (Or.inl rfl)) (fun _ _ _ _ _ => pts_nil)
        (fun _ _ _ _ _ => pe_call gI hr (by rfl) mI kI bI .nil pass0 (pa_cons (pv 1) (pa_cons pe_int (pa_cons (pe_glob (v := .int 100) (by rfl) mS ⟨_, rfl⟩) pa_nil)))))
      pa_nil))))), ?_⟩
  refine ⟨_, rfl, a, _, 2, 2, rfl, ha, _, rfl, ite_t rfl ?_⟩
  refine ⟨_, rfl, a, rfl, ⟨_, SqT.of ha⟩, fun D hD => ?_⟩
  refine lc_all (walk_tup (K := K) (a := a) (xs := [.int w, .int h])) (fun H' sm => Same.seqT sm (SqT.of ha)) hD [.bl true, .bl true] rfl (by show 2 ≤ 1000; decide) (fun i x y H1 kk hi hx hy sm hk => ?_) (fun H1 sm e1 => ?_)
  · refine ⟨x, rfl, ?_⟩
    have hb : (x = .int w ∨ x = .int h) ∧ y = .bl true := by
      match i, hi, hx, hy with
      | 0, _, hx, hy => exact ⟨.inl (Option.some.inj hx).symm, (Option.some.inj hy).symm⟩
      | 1, _, hx, hy => exact ⟨.inr (Option.some.inj hx).symm, (Option.some.inj hy).symm⟩
    have hk' := hk H1 (Same.refl H1)
    rw [hb.2] at hk'
    obtain ⟨h1, h2, h3, h4⟩ := hin
    rcases hb.1 with e | e
    · refine ⟨w, 1, 100, by subst e; rfl, ?_⟩
      rw [in_range h1 h2]
      exact hk'
    · refine ⟨h, 1, 100, by subst e; rfl, ?_⟩
      rw [in_range h3 h4]
      exact hk'
  · refine ⟨D, [true, true], rfl, SqL.of e1, ?_⟩
    exact q H1 sm

/-! ### need_sizes -/
/-- a tuple of sizes at a -/
def SizesAt (H : Hp) (a : Addr) (ss : List (Int × Int)) : Prop := ∃ vs, H a = some (.tup vs) ∧ Paired (SzAt H) vs ss ∧ (∀ s ∈ ss, SzIn s.1 s.2) ∧ 1 ≤ ss.length ∧ ss.length ≤ 8
theorem SizesAt.keep {H H' : Hp} {a : Addr} {ss : List (Int × Int)} (h : SizesAt H a ss) (k : Tups H H') : SizesAt H' a ss := by
  obtain ⟨vs, h1, h2, h3⟩ := h
  exact ⟨vs, k _ _ h1, paired_imp (fun x y z => z.keep k) h2, h3⟩
abbrev sNeedSizes : Stmt := topS 15
theorem scNeedSizes : FnScope ["sizes", "index", "size"] ["sizes"] (defScope sNeedSizes) := ⟨rfl, rfl, rfl, by decide +kernel, rfl, by decide +kernel, by decide +kernel⟩
def spNeedSizes : Sp := fun vs H Q _ => ∃ (a : Addr) (ss : List (Int × Int)), vs = [.ref a] ∧ SizesAt H a ss ∧ ∀ H', Same H H' → Q .non H'
theorem ok_needSizes {f : Addr} {fd : FuncData} {k : Nat} (B : Bi mg) (C : Cs mg) (GL : Def P w K mg base "is_list" k ["value", "least", "most"] spIsList) (GS : Def P w K mg base "is_size" k ["value"] spIsSize) (F : Fun K "need_sizes" "need_sizes" sNeedSizes f fd) : FnOk P w K mg base CX0 (k + 1) f fd ["sizes"] spNeedSizes := by
  obtain ⟨fL, fdL, gL, mL, kL, bL⟩ := GL.ex
  obtain ⟨fS, fdS, gS, mS, kS, bS⟩ := GS.ex
  obtain ⟨tk, mB⟩ := C.blocks
  refine F.ok scNeedSizes (fun vs H Q E h => ?_) (fun cdv A outer s H vs Q E hr h => ?_)
  · obtain ⟨a, ss, rfl, _⟩ := h
    rfl
  obtain ⟨a, ss, rfl, ⟨xs, ha, hp, hin, l1, l8⟩, q⟩ := h
  have hl : xs.length = ss.length := hp.length
  refine ⟨_, pss_cons (ps_if (pt_not (pt_val (pe_call gL hr (by rfl) mL kL bL .nil pass0 (pa_cons (pv 0) (pa_cons pe_int (pa_cons (pe_glob (v := .int 8) (by rfl) mB ⟨_, rfl⟩) pa_nil)))))) (pss_one ps_never) pss_nil)
    (pss_one (ps_for PassesOwn.never rfl (pi_enumT (by rfl) B.enumerate (pa_cons (pv 0) pa_nil)) (pg_tup rfl (pgs_cons (pg_name (i := 1) scNeedSizes.nd rfl (.inl rfl)) (pgs_cons (pg_name (i := 2) scNeedSizes.nd rfl (.inl rfl)) pgs_nil)))
      (pss_one (ps_if (pt_not (pt_val (pe_call gS hr (by rfl) mS kS bS .nil pass0 (pa_cons (pv 2) pa_nil)))) (pss_one ps_never) pss_nil)))), ?_⟩
  refine ⟨_, rfl, a, xs, 1, 8, rfl, ha, _, rfl, ite_f (by rw [in_range (by omega) (by omega)] <;> rfl) ?_⟩
  refine ⟨_, rfl, a, xs, rfl, SqT.of ha, ?_⟩
  refine for_it (walk_enumT (K := K) (a := a) (xs := xs)) (fun i σ H' => Same H H' ∧ ∃ y1 y2, σ = [some (.ref a), y1, y2]) ⟨Same.refl H, none, none, rfl⟩ (fun i σ H' _ h => Same.seqT h.1 (SqT.of ha)) (fun i x σ H1 H2 hi hP hy => ?_) (fun σ H' h => q H' h.1)
  obtain ⟨sm, y1, y2, rfl⟩ := hP
  obtain ⟨T, x1, x2, rfl, nT, rfl, e1, e2⟩ := hy
  have sT : Same H1 (upd H1 T (.tup [x1, x2])) := same_upd nT
  refine ⟨T, [x1, x2], rfl, SqT.of upd_same, rfl, x1, [x2], rfl, x2, [], rfl, rfl, ?_⟩
  obtain ⟨⟨sw, sh⟩, g1, ⟨b, eb, g2⟩⟩ := paired_get hp e2
  subst eb
  refine ⟨_, rfl, b, sw, sh, rfl, sT _ _ (sm _ _ g2), hin _ (List.mem_of_getElem? g1), fun H3 s3 => ⟨_, rfl, iteF ?_⟩⟩
  exact ⟨sm.trans (sT.trans s3), _, _, rfl⟩
end
end K53

namespace K53
open PySem PySem.Spec PyProof.Rows L2
theorem and2 {a : Bool} {A B : Prop} (h1 : a = true → A) (h2 : a = false → B) : if a = true then A else B := by
  cases a with
  | true => exact iteT (h1 rfl)
  | false => exact iteF (h2 rfl)
/-! ### the overlap, the program's and the law's -/
def spOverlap : Sp := fun vs H Q _ => ∃ (a b : Addr) (s t : Spot), vs = [.ref a, .ref b] ∧ H a = some (.tup [.int s.l, .int s.y, .int s.w, .int s.h]) ∧ H b = some (.tup [.int t.l, .int t.y, .int t.w, .int t.h]) ∧ Q (.bl (ov s t)) H
abbrev sDoOverlap : Stmt := topS 17
abbrev sLawOverlap : Stmt := topS 31
theorem scDoOverlap : FnScope ["one", "other", "across"] ["one", "other"] (defScope sDoOverlap) := ⟨rfl, rfl, rfl, by decide +kernel, rfl, by decide +kernel, by decide +kernel⟩
theorem scLawOverlap : FnScope ["_law_one", "_law_other", "_law_across"] ["_law_one", "_law_other"] (defScope sLawOverlap) := ⟨rfl, rfl, rfl, by decide +kernel, rfl, by decide +kernel, by decide +kernel⟩
section
variable {P : Program} {w : World} {K : PySem.W.Frag} {mg : Str → Option Value} {base : Heap}
theorem ok_doOverlap {f : Addr} {fd : FuncData} (F : Fun K "do_overlap" "do_overlap" sDoOverlap f fd) : FnOk P w K mg base CX0 1 f fd ["one", "other"] spOverlap := by
  refine F.ok scDoOverlap (fun vs H Q E h => ?_) (fun cdv A outer s₁ H vs Q E hr h => ?_)
  · obtain ⟨a, b, s, t, rfl, _⟩ := h
    rfl
  obtain ⟨a, b, s, t, rfl, ha, hb, q⟩ := h
  refine ⟨_, pss_cons (ps_set (i := 2) scDoOverlap.nd rfl (.inl rfl) (pe_and (pe_cmp (pc_lt (pe_ix ix_tup (pv 0) pe_int (fun _ _ => rfl)) (pe_add (pe_ix ix_tup (pv 1) pe_int (fun _ _ => rfl)) (pe_ix ix_tup (pv 1) pe_int (fun _ _ => rfl))))) (pe_one (pe_cmp (pc_lt (pe_ix ix_tup (pv 1) pe_int (fun _ _ => rfl)) (pe_add (pe_ix ix_tup (pv 0) pe_int (fun _ _ => rfl)) (pe_ix ix_tup (pv 0) pe_int (fun _ _ => rfl))))))))
    (pss_one (ps_ret (pe_and (pv 2) (pe_and (pe_cmp (pc_lt (pe_ix ix_tup (pv 0) pe_int (fun _ _ => rfl)) (pe_add (pe_ix ix_tup (pv 1) pe_int (fun _ _ => rfl)) (pe_ix ix_tup (pv 1) pe_int (fun _ _ => rfl))))) (pe_one (pe_cmp (pc_lt (pe_ix ix_tup (pv 1) pe_int (fun _ _ => rfl)) (pe_add (pe_ix ix_tup (pv 0) pe_int (fun _ _ => rfl)) (pe_ix ix_tup (pv 0) pe_int (fun _ _ => rfl)))))))))), ?_⟩
  refine ⟨_, rfl, a, _, 0, .int s.l, rfl, rfl, SqT.of ha, atI_nat (j := 0) rfl, _, rfl, b, _, 0, .int t.l, rfl, rfl, SqT.of hb, atI_nat (j := 0) rfl, _, rfl, b, _, 2, .int t.w, rfl, rfl, SqT.of hb, atI_nat (j := 2) rfl, _, _, rfl, rfl, _, _, rfl, rfl, _, rfl, ?_⟩
  unfold ov at q
  refine and2 (fun (ea : decide (s.l < t.l + t.w) = true) => ?_) (fun (ea : decide (s.l < t.l + t.w) = false) => ?_)
  · rw [ea] at q
    refine ⟨_, rfl, b, _, 0, .int t.l, rfl, rfl, SqT.of hb, atI_nat (j := 0) rfl, _, rfl, a, _, 0, .int s.l, rfl, rfl, SqT.of ha, atI_nat (j := 0) rfl, _, rfl, a, _, 2, .int s.w, rfl, rfl, SqT.of ha, atI_nat (j := 2) rfl, _, _, rfl, rfl, _, _, rfl, rfl, ?_⟩
    refine ⟨_, rfl, _, rfl, and2 (fun (eb : decide (t.l < s.l + s.w) = true) => ?_) (fun (eb : decide (t.l < s.l + s.w) = false) => ?_)⟩
    · rw [eb] at q
      refine ⟨_, rfl, a, _, 1, .int s.y, rfl, rfl, SqT.of ha, atI_nat (j := 1) rfl, _, rfl, b, _, 1, .int t.y, rfl, rfl, SqT.of hb, atI_nat (j := 1) rfl, _, rfl, b, _, 3, .int t.h, rfl, rfl, SqT.of hb, atI_nat (j := 3) rfl, _, _, rfl, rfl, _, _, rfl, rfl, _, rfl, and2 (fun (ec : decide (s.y < t.y + t.h) = true) => ?_) (fun (ec : decide (s.y < t.y + t.h) = false) => ?_)⟩
      · rw [ec] at q
        exact ⟨_, rfl, b, _, 1, .int t.y, rfl, rfl, SqT.of hb, atI_nat (j := 1) rfl, _, rfl, a, _, 1, .int s.y, rfl, rfl, SqT.of ha, atI_nat (j := 1) rfl, _, rfl, a, _, 3, .int s.h, rfl, rfl, SqT.of ha, atI_nat (j := 3) rfl, _, _, rfl, rfl, _, _, rfl, rfl, q⟩
      · rw [ec] at q
        exact q
    · rw [eb] at q
      exact q
  · rw [ea] at q
    exact ⟨_, rfl, false, rfl, iteF q⟩

theorem ok_lawOverlap {f : Addr} {fd : FuncData} (F : Fun K "_law_overlap" "_law_overlap" sLawOverlap f fd) : FnOk P w K mg base CX0 1 f fd ["_law_one", "_law_other"] spOverlap := by
  refine F.ok scLawOverlap (fun vs H Q E h => ?_) (fun cdv A outer s₁ H vs Q E hr h => ?_)
  · obtain ⟨a, b, s, t, rfl, _⟩ := h
    rfl
  obtain ⟨a, b, s, t, rfl, ha, hb, q⟩ := h
  refine ⟨_, pss_cons (ps_set (i := 2) scLawOverlap.nd rfl (.inl rfl) (pe_and (pe_cmp (pc_lt (pe_ix ix_tup (pv 0) pe_int (fun _ _ => rfl)) (pe_add (pe_ix ix_tup (pv 1) pe_int (fun _ _ => rfl)) (pe_ix ix_tup (pv 1) pe_int (fun _ _ => rfl))))) (pe_one (pe_cmp (pc_lt (pe_ix ix_tup (pv 1) pe_int (fun _ _ => rfl)) (pe_add (pe_ix ix_tup (pv 0) pe_int (fun _ _ => rfl)) (pe_ix ix_tup (pv 0) pe_int (fun _ _ => rfl))))))))
    (pss_one (ps_ret (pe_and (pv 2) (pe_and (pe_cmp (pc_lt (pe_ix ix_tup (pv 0) pe_int (fun _ _ => rfl)) (pe_add (pe_ix ix_tup (pv 1) pe_int (fun _ _ => rfl)) (pe_ix ix_tup (pv 1) pe_int (fun _ _ => rfl))))) (pe_one (pe_cmp (pc_lt (pe_ix ix_tup (pv 1) pe_int (fun _ _ => rfl)) (pe_add (pe_ix ix_tup (pv 0) pe_int (fun _ _ => rfl)) (pe_ix ix_tup (pv 0) pe_int (fun _ _ => rfl)))))))))), ?_⟩
  refine ⟨_, rfl, a, _, 0, .int s.l, rfl, rfl, SqT.of ha, atI_nat (j := 0) rfl, _, rfl, b, _, 0, .int t.l, rfl, rfl, SqT.of hb, atI_nat (j := 0) rfl, _, rfl, b, _, 2, .int t.w, rfl, rfl, SqT.of hb, atI_nat (j := 2) rfl, _, _, rfl, rfl, _, _, rfl, rfl, _, rfl, ?_⟩
  unfold ov at q
  refine and2 (fun (ea : decide (s.l < t.l + t.w) = true) => ?_) (fun (ea : decide (s.l < t.l + t.w) = false) => ?_)
  · rw [ea] at q
    refine ⟨_, rfl, b, _, 0, .int t.l, rfl, rfl, SqT.of hb, atI_nat (j := 0) rfl, _, rfl, a, _, 0, .int s.l, rfl, rfl, SqT.of ha, atI_nat (j := 0) rfl, _, rfl, a, _, 2, .int s.w, rfl, rfl, SqT.of ha, atI_nat (j := 2) rfl, _, _, rfl, rfl, _, _, rfl, rfl, ?_⟩
    refine ⟨_, rfl, _, rfl, and2 (fun (eb : decide (t.l < s.l + s.w) = true) => ?_) (fun (eb : decide (t.l < s.l + s.w) = false) => ?_)⟩
    · rw [eb] at q
      refine ⟨_, rfl, a, _, 1, .int s.y, rfl, rfl, SqT.of ha, atI_nat (j := 1) rfl, _, rfl, b, _, 1, .int t.y, rfl, rfl, SqT.of hb, atI_nat (j := 1) rfl, _, rfl, b, _, 3, .int t.h, rfl, rfl, SqT.of hb, atI_nat (j := 3) rfl, _, _, rfl, rfl, _, _, rfl, rfl, _, rfl, and2 (fun (ec : decide (s.y < t.y + t.h) = true) => ?_) (fun (ec : decide (s.y < t.y + t.h) = false) => ?_)⟩
      · rw [ec] at q
        exact ⟨_, rfl, b, _, 1, .int t.y, rfl, rfl, SqT.of hb, atI_nat (j := 1) rfl, _, rfl, a, _, 1, .int s.y, rfl, rfl, SqT.of ha, atI_nat (j := 1) rfl, _, rfl, a, _, 3, .int s.h, rfl, rfl, SqT.of ha, atI_nat (j := 3) rfl, _, _, rfl, rfl, _, _, rfl, rfl, q⟩
      · rw [ec] at q
        exact q
    · rw [eb] at q
      exact q
  · rw [ea] at q
    exact ⟨_, rfl, false, rfl, iteF q⟩

end
end K53

namespace K53
open PySem PySem.Spec PyProof.Rows L2
/-! ### is_spot, need_packing, is_packing -/
abbrev sIsSpot : Stmt := topS 16
abbrev sNeedPacking : Stmt := topS 18
abbrev sIsPacking : Stmt := topS 19
theorem scIsSpot : FnScope ["value", "part"] ["value"] (defScope sIsSpot) := ⟨rfl, rfl, rfl, by decide +kernel, rfl, by decide +kernel, by decide +kernel⟩
theorem scNeedPacking : FnScope ["spots", "index", "spot", "other"] ["spots"] (defScope sNeedPacking) := ⟨rfl, rfl, rfl, by decide +kernel, rfl, by decide +kernel, by decide +kernel⟩
theorem scIsPacking : FnScope ["spots"] ["spots"] (defScope sIsPacking) := ⟨rfl, rfl, rfl, by decide +kernel, rfl, by decide +kernel, by decide +kernel⟩
def SpIn (s : Spot) : Prop := 0 ≤ s.l ∧ s.l ≤ 1000 ∧ 0 ≤ s.y ∧ s.y ≤ 1000 ∧ SzIn s.w s.h
def spotT (s : Spot) : List V := [.int s.l, .int s.y, .int s.w, .int s.h]
def spIsSpot : Sp := fun vs H Q _ => ∃ (a : Addr) (s : Spot), vs = [.ref a] ∧ H a = some (.tup (spotT s)) ∧ SpIn s ∧ ∀ H', Same H H' → Q (.bl true) H'
/-- a tuple of spots at a -/
def SpotsAt (H : Hp) (a : Addr) (ss : List Spot) : Prop := ∃ vs, H a = some (.tup vs) ∧ Paired (SpAt H) vs ss
theorem SpotsAt.keep {H H' : Hp} {a : Addr} {ss : List Spot} (h : SpotsAt H a ss) (k : Tups H H') : SpotsAt H' a ss := by
  obtain ⟨vs, h1, h2⟩ := h
  exact ⟨vs, k _ _ h1, paired_imp (fun x y z => z.keep k) h2⟩
/-- no two overlap, all in range -/
def Packed (ss : List Spot) : Prop := (∀ s ∈ ss, SpIn s) ∧ (∀ (i j : Nat) (s t : Spot), ss[i]? = some s → ss[j]? = some t → i ≠ j → ov s t = false) ∧ 1 ≤ ss.length ∧ ss.length ≤ 8
def spNeedPacking : Sp := fun vs H Q _ => ∃ (a : Addr) (ss : List Spot), vs = [.ref a] ∧ SpotsAt H a ss ∧ Packed ss ∧ ∀ H', Same H H' → Q .non H'
def spIsPacking : Sp := fun vs H Q _ => ∃ (a : Addr) (ss : List Spot), vs = [.ref a] ∧ SpotsAt H a ss ∧ Packed ss ∧ ∀ H', Same H H' → Q (.bl true) H'
section
variable {P : Program} {w : World} {K : PySem.W.Frag} {mg : Str → Option Value} {base : Heap}
theorem ok_isSpot {f : Addr} {fd : FuncData} {k : Nat} (B : Bi mg) (C : Cs mg) (GL : Def P w K mg base "is_list" k ["value", "least", "most"] spIsList) (GI : Def P w K mg base "is_in" k ["value", "least", "most"] spIsIn) (GS : Def P w K mg base "is_size" k ["value"] spIsSize) (F : Fun K "is_spot" "is_spot" sIsSpot f fd) : FnOk P w K mg base CX0 (k + 1) f fd ["value"] spIsSpot := by
  obtain ⟨fL, fdL, gL, mL, kL, bL⟩ := GL.ex
  obtain ⟨fI, fdI, gI, mI, kI, bI⟩ := GI.ex
  obtain ⟨fS, fdS, gS, mS, kS, bS⟩ := GS.ex
  obtain ⟨tk, mP⟩ := C.place
  refine F.ok scIsSpot (fun vs H Q E h => ?_) (fun cdv A outer s₁ H vs Q E hr h => ?_)
  · obtain ⟨a, s, rfl, _⟩ := h
    rfl
  obtain ⟨a, s, rfl, ha, ⟨i1, i2, i3, i4, i5⟩, q⟩ := h
  refine ⟨_, pss_cons (ps_if (PW.pt (pw_or (pt_not (pt_val (pe_call gL hr (by rfl) mL kL bL .nil pass0 (pa_cons (pv 0) (pa_cons pe_int (pa_cons pe_int pa_nil))))))
      (pw_or1 (pt_not (pt_val (pe_callB (cr_all rfl) (by rfl) B.all boot_all (pa_cons
        (pe_lc (own := [("part", 1)]) (g := gName 1) (tt := tYes) rfl scIsSpot.nd (pi_tup (pe_slice sl_tup (pv 0) po_none (po_some pe_int))) (blkOk_by (own := [("part", 1)]) (N := ["value", "part"]) (sc := defScope sIsSpot) (by decide +kernel))
          (fun _ _ _ _ _ => pg_name (i := 1) scIsSpot.nd rfl (Or.inl rfl)) (fun _ _ _ _ _ => pts_nil)
          (fun _ _ _ _ _ => pe_call gI hr (by rfl) mI kI bI .nil pass0 (pa_cons (pv 1) (pa_cons pe_int (pa_cons (pe_glob (v := .int 1000) (by rfl) mP ⟨_, rfl⟩) pa_nil)))))
        pa_nil))))))) (pss_one (ps_ret pe_bl)) pss_nil)
    (pss_one (ps_ret (pe_call gS hr (by rfl) mS kS bS .nil pass0 (pa_cons (pe_slice sl_tup (pv 0) (po_some pe_int) po_none) pa_nil)))), ?_⟩
  refine ⟨_, rfl, a, _, 4, 4, rfl, ha, _, rfl, iteF ?_⟩
  refine ⟨_, rfl, 2, rfl, a, spotT s, rfl, SqT.of ha, (fun z => absurd z.2 (by show ¬ (2 : Nat) = 4; decide)), fun p np => ?_⟩
  have sp : Same H (upd H p (.tup (cutV (spotT s) none (some 2)))) := same_upd np
  have ep : (upd H p (.tup (cutV (spotT s) none (some 2)))) p = some (.tup [.int s.l, .int s.y]) := upd_same
  generalize upd H p (.tup (cutV (spotT s) none (some 2))) = H1 at sp ep ⊢
  refine ⟨p, rfl, ⟨_, SqT.of ep⟩, fun D hD => ?_⟩
  refine lc_all (walk_tup (K := K) (a := p) (xs := [.int s.l, .int s.y])) (fun H' sm => Same.seqT sm (SqT.of ep)) hD [.bl true, .bl true] rfl (by show 2 ≤ 1000; decide) (fun i x y H2 kk hi hx hy sm hk => ?_) (fun H2 sm e2 => ?_)
  · refine ⟨x, rfl, ?_⟩
    have hb : (x = .int s.l ∨ x = .int s.y) ∧ y = .bl true := by
      match i, hi, hx, hy with
      | 0, _, hx, hy => exact ⟨.inl (Option.some.inj hx).symm, (Option.some.inj hy).symm⟩
      | 1, _, hx, hy => exact ⟨.inr (Option.some.inj hx).symm, (Option.some.inj hy).symm⟩
    have hk' := hk H2 (Same.refl H2)
    rw [hb.2] at hk'
    rcases hb.1 with e | e
    · refine ⟨s.l, 0, 1000, by subst e; rfl, ?_⟩
      rw [in_range i1 i2]
      exact hk'
    · refine ⟨s.y, 0, 1000, by subst e; rfl, ?_⟩
      rw [in_range i3 i4]
      exact hk'
  · refine ⟨D, [true, true], rfl, SqL.of e2, _, rfl, iteF ?_⟩
    have s2 := sp.trans sm
    refine ⟨_, rfl, 2, rfl, a, spotT s, rfl, SqT.of (s2 _ _ ha), (fun z => absurd z.1 (by show ¬ (2 : Nat) = 0; decide)), fun p2 np2 => ?_⟩
    refine ⟨p2, s.w, s.h, rfl, upd_same, i5, fun H3 s3 => q H3 ?_⟩
    exact s2.trans ((same_upd np2).trans s3)
theorem ok_needPacking {f : Addr} {fd : FuncData} {k : Nat} (B : Bi mg) (C : Cs mg) (GL : Def P w K mg base "is_list" k ["value", "least", "most"] spIsList) (GS : Def P w K mg base "is_spot" k ["value"] spIsSpot) (GO : Def P w K mg base "do_overlap" k ["one", "other"] spOverlap) (F : Fun K "need_packing" "need_packing" sNeedPacking f fd) : FnOk P w K mg base CX0 (k + 1) f fd ["spots"] spNeedPacking := by
  obtain ⟨fL, fdL, gL, mL, kL, bL⟩ := GL.ex
  obtain ⟨fS, fdS, gS, mS, kS, bS⟩ := GS.ex
  obtain ⟨fO, fdO, gO, mO, kO, bO⟩ := GO.ex
  obtain ⟨tk, mB⟩ := C.blocks
  refine F.ok scNeedPacking (fun vs H Q E h => ?_) (fun cdv A outer s₁ H vs Q E hr h => ?_)
  · obtain ⟨a, ss, rfl, _⟩ := h
    rfl
  obtain ⟨a, ss, rfl, ⟨xs, ha, hp⟩, ⟨hin, hov, l1, l8⟩, q⟩ := h
  have hl : xs.length = ss.length := hp.length
  refine ⟨_, pss_cons (ps_if (pt_not (pt_val (pe_call gL hr (by rfl) mL kL bL .nil pass0 (pa_cons (pv 0) (pa_cons pe_int (pa_cons (pe_glob (v := .int 8) (by rfl) mB ⟨_, rfl⟩) pa_nil)))))) (pss_one ps_never) pss_nil)
    (pss_one (ps_for PassesOwn.never rfl (pi_enumT (by rfl) B.enumerate (pa_cons (pv 0) pa_nil)) (pg_tup rfl (pgs_cons (pg_name (i := 1) scNeedPacking.nd rfl (.inl rfl)) (pgs_cons (pg_name (i := 2) scNeedPacking.nd rfl (.inr rfl)) pgs_nil)))
      (pss_one (ps_if (PW.pt (pw_or (pt_not (pt_val (pe_call gS hr (by rfl) mS kS bS .nil pass0 (pa_cons (pv 2) pa_nil))))
        (pw_or1 (pt_val (pe_callB (cr_any rfl) (by rfl) B.any boot_any (pa_cons
          (pe_lc (own := [("other", 3)]) (g := gName 3) (tt := tYes) rfl scNeedPacking.nd (pi_tup (pe_slice sl_tup (pv 0) po_none (po_some (pv 1)))) (blkOk_by (own := [("other", 3)]) (N := ["spots", "index", "spot", "other"]) (sc := defScope sNeedPacking) (by decide +kernel))
            (fun _ _ _ _ _ => pg_name (i := 3) scNeedPacking.nd rfl (Or.inl rfl)) (fun _ _ _ _ _ => pts_nil)
            (fun _ _ _ _ _ => pe_call gO hr (by rfl) mO kO bO .nil pass0 (pa_cons (pv 2) (pa_cons (pv 3) pa_nil))))
          pa_nil)))))) (pss_one ps_never) pss_nil)))), ?_⟩
  refine ⟨_, rfl, a, xs, 1, 8, rfl, ha, _, rfl, ite_f (by rw [in_range (by omega) (by omega)] <;> rfl) ?_⟩
  refine ⟨_, rfl, a, xs, rfl, SqT.of ha, ?_⟩
  refine for_it (walk_enumT (K := K) (a := a) (xs := xs)) (fun i σ H' => Same H H' ∧ ∃ y1 y2 y3, σ = [some (.ref a), y1, y2, y3]) ⟨Same.refl H, none, none, none, rfl⟩ (fun i σ H' _ h => Same.seqT h.1 (SqT.of ha)) (fun i x σ H1 H2 hi hP hy => ?_) (fun σ H' h => q H' h.1)
  obtain ⟨sm, y1, y2, y3, rfl⟩ := hP
  obtain ⟨T, x1, x2, rfl, nT, rfl, e1, e2⟩ := hy
  have e1' : x1 = .int (i : Nat) := (Option.some.inj e1).symm
  subst e1'
  have sT : Same H1 (upd H1 T (.tup [.int (i : Nat), x2])) := same_upd nT
  refine ⟨T, [.int (i : Nat), x2], rfl, SqT.of upd_same, rfl, _, [x2], rfl, x2, [], rfl, rfl, ?_⟩
  obtain ⟨s, g1, ⟨b, eb, g2⟩⟩ := paired_get hp e2
  subst eb
  have sm1 := sm.trans sT
  refine ⟨_, rfl, b, s, rfl, sm1 _ _ g2, hin _ (List.mem_of_getElem? g1), fun H3 s3 => ⟨_, rfl, iteF ?_⟩⟩
  have sm3 := sm1.trans s3
  have nw : ¬ (HT.sIx xs.length 0 none = 0 ∧ HT.sIx xs.length xs.length (some ((i : Nat) : Int)) = xs.length) := fun z => by
    have z2 := z.2
    rw [HT.sIx_nat] at z2
    omega
  have ec : cutV xs none (some ((i : Nat) : Int)) = xs.take i := by
    unfold cutV
    rw [HT.sIx_none, HT.sIx_nat, Nat.min_eq_left (Nat.le_of_lt hi)]
    rfl
  refine ⟨_, rfl, _, rfl, _, rfl, a, xs, rfl, SqT.of (sm3 _ _ ha), nw, fun p np => ?_⟩
  have sp : Same H3 (upd H3 p (.tup (cutV xs none (some ((i : Nat) : Int))))) := same_upd np
  have ep : (upd H3 p (.tup (cutV xs none (some ((i : Nat) : Int))))) p = some (.tup (xs.take i)) := by rw [ec]; exact upd_same
  generalize upd H3 p (.tup (cutV xs none (some ((i : Nat) : Int)))) = H4 at sp ep ⊢
  have sm4 := sm3.trans sp
  have hlen : (xs.take i).length = i := by rw [List.length_take]; omega
  refine ⟨p, rfl, ⟨_, SqT.of ep⟩, fun D hD => ?_⟩
  refine lc_all (walk_tup (K := K) (a := p) (xs := xs.take i)) (fun H' sm => Same.seqT sm (SqT.of ep)) hD (List.replicate i (.bl false)) (by rw [hlen, List.length_replicate]) (by rw [hlen]; omega) (fun j x y H5 kk hj hx hyj s5 hk => ?_) (fun H5 s5 e5 => ?_)
  · rw [hlen] at hj
    rw [List.getElem?_take_of_lt hj] at hx
    obtain ⟨t, t1, ⟨c, ec', t2⟩⟩ := paired_get hp hx
    subst ec'
    have hy : y = .bl false := List.eq_of_mem_replicate (List.mem_of_getElem? hyj)
    subst hy
    have sm5 := sm4.trans s5
    refine ⟨_, rfl, _, rfl, b, c, s, t, rfl, sm5 _ _ g2, sm5 _ _ t2, ?_⟩
    rw [hov i j s t g1 t1 (by omega)]
    exact hk H5 (Same.refl H5)
  · refine ⟨D, List.replicate i false, rfl, SqL.of (by rw [e5, List.map_replicate]), _, rfl, ?_⟩
    refine ite_f (by simp) ?_
    exact ⟨sm4.trans s5, _, _, _, rfl⟩
theorem ok_isPacking {f : Addr} {fd : FuncData} {k : Nat} (GN : Def P w K mg base "need_packing" k ["spots"] spNeedPacking) (F : Fun K "is_packing" "is_packing" sIsPacking f fd) : FnOk P w K mg base CX0 (k + 1) f fd ["spots"] spIsPacking := by
  obtain ⟨fN, fdN, gN, mN, kN, bN⟩ := GN.ex
  refine F.ok scIsPacking (fun vs H Q E h => ?_) (fun cdv A outer s₁ H vs Q E hr h => ?_)
  · obtain ⟨a, ss, rfl, _⟩ := h
    rfl
  obtain ⟨a, ss, rfl, h1, h2, q⟩ := h
  refine ⟨_, pss_cons (ps_try_thru0 (pss_one (ps_expr (pe_call gN hr (by rfl) mN kN bN .nil pass0 (pa_cons (pv 0) pa_nil))))) (pss_one (ps_ret pe_bl)), ?_⟩
  exact ⟨_, rfl, a, ss, rfl, h1, h2, fun H' s' => q H' s'⟩
end
end K53

namespace K53
open PySem PySem.Spec PyProof.Rows L2
/-! ### data for == -/
theorem can_ints : ∀ ns : List Int, PyData.canLayAll0 (ns.map PyData.int) = true
  | [] => rfl
  | n :: r => by
    show (PyData.canLay0 (.int n) && PyData.canLayAll0 (r.map PyData.int)) = true
    rw [can_ints r]
    rfl
theorem depth_ints : ∀ ns : List Int, PyData.depthAll (ns.map PyData.int) = 0
  | [] => rfl
  | n :: r => by
    show max 0 (PyData.depthAll (r.map PyData.int)) = 0
    rw [depth_ints r]
    rfl
theorem shaped_of {d : PyData} (h1 : d.canLay0 = true) (h2 : d.depth ≤ 64) : SeqAt.shaped d = true := by
  unfold SeqAt.shaped
  rw [h1, decide_eq_true h2]
  rfl
theorem shaped_ints (ns : List Int) : SeqAt.shaped (.list (ns.map PyData.int)) = true :=
  shaped_of (can_ints ns) (by show PyData.depthAll (ns.map PyData.int) + 1 ≤ 64; rw [depth_ints]; decide)
theorem dp_ints {K : PySem.W.Frag} {H : Hp} : ∀ ns : List Int, DpAll K H (ns.map V.int) (ns.map PyData.int)
  | [] => .nil
  | n :: r => .cons (.int n) (dp_ints r)
theorem eqv_ints : ∀ ns ms : List Int, PyData.eqvAll (ns.map PyData.int) (ms.map PyData.int) = decide (ns = ms)
  | [], [] => rfl
  | [], _ :: _ => rfl
  | _ :: _, [] => rfl
  | n :: r, m :: q => by
    show (PyData.eqv (.int n) (.int m) && PyData.eqvAll (r.map PyData.int) (q.map PyData.int)) = _
    rw [eqv_ints r q]
    show ((n == m) && decide (r = q)) = _
    rw [Bool.eq_iff_iff]
    simp
theorem eqv_nil : ∀ ds : List PyData, PyData.eqvAll ds [] = ds.isEmpty
  | [] => rfl
  | _ :: _ => rfl
/-- == of two lists of ints -/
theorem eq_lists {K : PySem.W.Frag} {H : Hp} {a b : Addr} {ns ms : List Int} {Q : VK} (ha : H a = some (.lst (ns.map V.int))) (hb : H b = some (.lst (ms.map V.int))) (q : Q (.bl (decide (ns = ms))) H) : rEqD K (.ref a) (.ref b) H Q :=
  ⟨_, _, .lst (SqL.of ha) (dp_ints ns), .lst (SqL.of hb) (dp_ints ms), shaped_ints ns, shaped_ints ms, by
    show Q (.bl (PyData.eqvAll (ns.map PyData.int) (ms.map PyData.int))) H
    rw [eqv_ints]
    exact q⟩
theorem ne_lists {K : PySem.W.Frag} {H : Hp} {a b : Addr} {ns ms : List Int} {Q : VK} (ha : H a = some (.lst (ns.map V.int))) (hb : H b = some (.lst (ms.map V.int))) (q : Q (.bl (!decide (ns = ms))) H) : rNeD K (.ref a) (.ref b) H Q :=
  ⟨_, _, .lst (SqL.of ha) (dp_ints ns), .lst (SqL.of hb) (dp_ints ms), shaped_ints ns, shaped_ints ms, by
    show Q (.bl (!PyData.eqvAll (ns.map PyData.int) (ms.map PyData.int))) H
    rw [eqv_ints]
    exact q⟩
/-! ### blocks_of, need_bush -/
abbrev sBlocksOf : Stmt := topS 21
abbrev sNeedBush : Stmt := topS 22
theorem scBlocksOf : FnScope ["bush"] ["bush"] (defScope sBlocksOf) := ⟨rfl, rfl, rfl, by decide +kernel, rfl, by decide +kernel, by decide +kernel⟩
theorem scNeedBush : FnScope ["sizes", "bush"] ["sizes", "bush"] (defScope sNeedBush) := ⟨rfl, rfl, rfl, by decide +kernel, rfl, by decide +kernel, by decide +kernel⟩
def natV (bs : List Nat) : List V := bs.map fun b => V.int (b : Nat)
/-- blocks_of, with n calls one in another at most -/
def spBlocksOf (n : Nat) : Sp := fun vs H Q _ => ∃ (v : V) (t : Bush), vs = [v] ∧ BuAt H v t ∧ t.depth < n ∧ (∀ b ∈ t.blocks, b ≤ 99) ∧ t.blocks.length ≤ 63 ∧ ∀ p H', Same H H' → H' p = some (.lst (natV t.blocks)) → Q (.ref p) H'
section
variable {P : Program} {w : World} {K : PySem.W.Frag} {mg : Str → Option Value} {base : Heap}
theorem step_blocksOf {f : Addr} {fd : FuncData} {n k : Nat} (hk : 2 ≤ k) (GL : Def P w K mg base "is_list" 2 ["value", "least", "most"] spIsList) (GI : Def P w K mg base "is_in" 2 ["value", "least", "most"] spIsIn) (T : At K mg "blocks_of" sBlocksOf f fd ["bush"]) (G : FnOk P w K mg base CX0 k f fd ["bush"] (spBlocksOf n)) : FnOk P w K mg base CX0 (k + 1) f fd ["bush"] (spBlocksOf (n + 1)) := by
  obtain ⟨fL, fdL, gL, mL, kL, bL⟩ := (GL.mono hk).ex
  obtain ⟨fI, fdI, gI, mI, kI, bI⟩ := (GI.mono hk).ex
  refine T.fn.ok scBlocksOf (fun vs H Q E h => ?_) (fun cdv A outer s₁ H vs Q E hr h => ?_)
  · obtain ⟨v, t, rfl, _⟩ := h
    rfl
  obtain ⟨v, t, rfl, hb, hd, h99, h63, q⟩ := h
  refine ⟨_, pss_cons (ps_if (pt_cmpR op_isN (pv 0) pe_non (nomark _)) (pss_one (ps_ret (pe_lst pa_nil))) pss_nil)
    (pss_cons (ps_if (PW.pt (pw_or (pt_not (pt_val (pe_call gL hr (by rfl) mL kL bL .nil pass0 (pa_cons (pv 0) (pa_cons pe_int (pa_cons pe_int pa_nil))))))
        (pw_or1 (pt_not (pt_val (pe_call gI hr (by rfl) mI kI bI .nil pass0 (pa_cons (pe_ix ix_tup (pv 0) pe_int (fun _ _ => rfl)) (pa_cons pe_int (pa_cons pe_int pa_nil))))))))) (pss_one ps_never) pss_nil)
      (pss_one (ps_ret (pe_lst (pa_cons (pe_ix ix_tup (pv 0) pe_int (fun _ _ => rfl))
        (StX.pa_star (pe_call G hr (by rfl) T.gl T.fn.kp T.bi .nil pass0 (pa_cons (pe_ix ix_tup (pv 0) pe_int (fun _ _ => rfl)) pa_nil))
        (StX.pa_star (pe_call G hr (by rfl) T.gl T.fn.kp T.bi .nil pass0 (pa_cons (pe_ix ix_tup (pv 0) pe_int (fun _ _ => rfl)) pa_nil)) pa_nil))))))), ?_⟩
  cases hb with
  | nil =>
    refine ⟨_, rfl, rfl, _, rfl, iteT ?_⟩
    exact ⟨small (n := 0) (by decide), fun p np => q p _ (same_upd np) upd_same⟩
  | @node a b x y s t ha h1 h2 =>
    have hb99 : b ≤ 99 := h99 b (by simp [Bush.blocks])
    have hdd : max s.depth t.depth + 1 < n + 1 := hd
    have hll : (b :: (s.blocks ++ t.blocks)).length ≤ 63 := h63
    rw [List.length_cons, List.length_append] at hll
    refine ⟨_, rfl, rfl, _, rfl, iteF ?_⟩
    refine ⟨_, rfl, a, _, 3, 3, rfl, ha, _, rfl, iteF ?_⟩
    refine ⟨_, rfl, a, _, 0, .int (b : Nat), rfl, rfl, SqT.of ha, atI_nat (j := 0) rfl, (b : Nat), 0, 99, rfl, _, rfl, ite_f (by rw [in_range (by omega) (by omega)] <;> rfl) ?_⟩
    refine ⟨_, rfl, a, _, 0, .int (b : Nat), rfl, rfl, SqT.of ha, atI_nat (j := 0) rfl, ?_⟩
    refine ⟨_, rfl, a, _, 1, x, rfl, rfl, SqT.of ha, atI_nat (j := 1) rfl, x, s, rfl, h1, by omega, fun c hc => h99 c (by simp [Bush.blocks, hc]), by omega, fun p1 H1 s1 e1 => ?_⟩
    refine ⟨p1, _, rfl, .inr (SqL.of e1), ?_⟩
    refine ⟨_, rfl, a, _, 2, y, rfl, rfl, SqT.of (s1 _ _ ha), atI_nat (j := 2) rfl, y, t, rfl, h2.keep (Same.tups s1), by omega, fun c hc => h99 c (by simp [Bush.blocks, hc]), by omega, fun p2 H2 s2 e2 => ?_⟩
    refine ⟨p2, _, rfl, .inr (SqL.of e2), ?_⟩
    have el : V.int (b : Nat) :: (natV s.blocks ++ (natV t.blocks ++ [])) = natV (b :: (s.blocks ++ t.blocks)) := by
      unfold natV
      rw [List.append_nil, List.map_cons, List.map_append]
    refine ⟨?_, fun p np => ?_⟩
    · rw [el]
      unfold natV
      rw [List.length_map, List.length_cons, List.length_append]
      exact small (by omega)
    · refine q p _ (s1.trans (s2.trans (same_upd np))) ?_
      rw [upd_same, el]
      rfl
theorem ok_blocksOf {f : Addr} {fd : FuncData} (GL : Def P w K mg base "is_list" 2 ["value", "least", "most"] spIsList) (GI : Def P w K mg base "is_in" 2 ["value", "least", "most"] spIsIn) (T : At K mg "blocks_of" sBlocksOf f fd ["bush"]) : ∀ n : Nat, FnOk P w K mg base CX0 (n + 2) f fd ["bush"] (spBlocksOf n)
  | 0 => ⟨fun vs H Q E ⟨v, t, e, _, hd, _⟩ => absurd hd (Nat.not_lt_zero _), fun A outer s H args us vs Q E _ _ _ _ ⟨v, t, e, _, hd, _⟩ => absurd hd (Nat.not_lt_zero _)⟩
  | n + 1 => step_blocksOf (Nat.le_add_left 2 n) GL GI T (ok_blocksOf GL GI T n)
end
end K53

namespace K53
open PySem PySem.Spec PyProof.Rows L2
def castI (b : Nat) : Int := (b : Nat)
theorem natV_ints (bs : List Nat) : natV bs = (bs.map castI).map V.int := by
  unfold natV
  rw [List.map_map]
  rfl
theorem rgV_ints (n : Nat) : rgV 0 (n : Nat) = ((List.range n).map castI).map V.int := by
  unfold rgV
  rw [List.map_map, Int.sub_zero, Int.toNat_natCast]
  refine List.map_congr_left fun i _ => ?_
  show V.int (0 + (i : Nat)) = V.int (i : Nat)
  rw [Int.zero_add]
theorem sorted_range {ns : List Int} {bs : List Nat} {n : Nat} (h1 : ns.Perm (bs.map castI)) (h2 : ns.Pairwise (· ≤ ·)) (h3 : bs.Perm (List.range n)) : ns = (List.range n).map castI := by
  refine List.Perm.eq_of_pairwise (fun x y _ _ a b => Int.le_antisymm a b) h2 ?_ (h1.trans (h3.map castI))
  rw [List.pairwise_map]
  exact List.pairwise_le_range.imp fun {a b} h => Int.ofNat_le.mpr h
theorem perm_small {bs : List Nat} {n : Nat} (h : bs.Perm (List.range n)) : bs.length = n ∧ ∀ b ∈ bs, b < n :=
  ⟨by rw [h.length_eq, List.length_range], fun b hb => List.mem_range.mp (h.mem_iff.mp hb)⟩
def spNeedBush : Sp := fun vs H Q _ => ∃ (a : Addr) (ss : List (Int × Int)) (v : V) (t : Bush), vs = [.ref a, v] ∧ SizesAt H a ss ∧ BuAt H v t ∧ t.blocks.Perm (List.range ss.length) ∧ ∀ H', Same H H' → Q .non H'
section
variable {P : Program} {w : World} {K : PySem.W.Frag} {mg : Str → Option Value} {base : Heap}
theorem ok_needBush {f : Addr} {fd : FuncData} {k : Nat} (B : Bi mg) (GN : Def P w K mg base "need_sizes" k ["sizes"] spNeedSizes) (GB : Def P w K mg base "blocks_of" k ["bush"] (spBlocksOf 9)) (F : Fun K "need_bush" "need_bush" sNeedBush f fd) : FnOk P w K mg base CX0 (k + 1) f fd ["sizes", "bush"] spNeedBush := by
  obtain ⟨fN, fdN, gN, mN, kN, bN⟩ := GN.ex
  obtain ⟨fB, fdB, gB, mB, kB, bB⟩ := GB.ex
  refine F.ok scNeedBush (fun vs H Q E h => ?_) (fun cdv A outer s₁ H vs Q E hr h => ?_)
  · obtain ⟨a, ss, v, t, rfl, _⟩ := h
    rfl
  obtain ⟨a, ss, v, t, rfl, hs, hb, hperm, q⟩ := h
  obtain ⟨hlen, hlt⟩ := perm_small hperm
  have hs' := hs
  obtain ⟨xs, ha, hp, _, l1, l8⟩ := hs'
  have hl : xs.length = ss.length := hp.length
  have hd := Bush.depth_le t
  refine ⟨_, pss_cons (ps_expr (pe_call gN hr (by rfl) mN kN bN .nil pass0 (pa_cons (pv 0) pa_nil)))
    (pss_one (ps_if (pt_cmpR (op_neD hr.units) (pe_callB cr_sorted (by rfl) B.sorted boot_sorted (pa_cons (pe_call gB hr (by rfl) mB kB bB .nil pass0 (pa_cons (pv 1) pa_nil)) pa_nil))
      (pe_listRg rfl (by rfl) B.list (prg_1 (by rfl) B.range (pe_callB call_len_seq (by rfl) B.len PySem.boot_len (pa_cons (pv 0) pa_nil)))) (nomark _)) (pss_one ps_never) pss_nil)), ?_⟩
  refine ⟨_, rfl, a, ss, rfl, hs, fun H1 s1 => ?_⟩
  refine ⟨_, rfl, v, t, rfl, hb.keep (Same.tups s1), by omega, fun b hb => by have := hlt b hb; omega, by omega, fun p2 H2 s2 e2 => ?_⟩
  rw [natV_ints] at e2
  refine ⟨p2, t.blocks.map castI, rfl, SqL.of e2, by rw [List.length_map]; omega, fun ns p3 hpm hpw n3 => ?_⟩
  have s3 : Same H2 (upd H2 p3 (.lst (ns.map V.int))) := same_upd n3
  have e3 : (upd H2 p3 (.lst (ns.map V.int))) p3 = some (.lst (ns.map V.int)) := upd_same
  generalize upd H2 p3 (.lst (ns.map V.int)) = H3 at s3 e3 ⊢
  have sm := s1.trans (s2.trans s3)
  refine ⟨_, rfl, a, xs, rfl, .inr (SqT.of (sm _ _ ha)), (xs.length : Nat), rfl, RgOk.of_le (by omega) (by omega) (by omega) (by omega), fun p4 n4 => ?_⟩
  have e4 := rgV_ints xs.length
  rw [e4]
  have s4 : Same H3 (upd H3 p4 (.lst (((List.range xs.length).map castI).map V.int))) := same_upd n4
  refine ne_lists (ns := ns) (ms := (List.range xs.length).map castI) (s4 _ _ e3) upd_same ⟨_, rfl, ?_⟩
  refine ite_f ?_ (q _ (sm.trans s4))
  rw [hl, sorted_range hpm hpw hperm, decide_eq_true rfl]
  rfl
end
/-! ### rest_on -/
theorem picked_bind {α : Type} (f : α → Option V) : ∀ (ys : List α) (i : Nat), i ≤ ys.length → picked (fun j => (ys[j]?).bind f) i = (ys.take i).filterMap f
  | ys, 0, _ => by simp [picked]
  | ys, i + 1, h => by
    rw [picked_succ, picked_bind f ys i (by omega), List.take_add_one]
    have e : ys[i]? = some ys[i] := List.getElem?_eq_getElem (by omega)
    rw [e, List.filterMap_append]
    cases h : f ys[i] <;> simp [h]
def topV (l w : Int) (s : Spot) : Option V := if ov1 s l w = true then some (.int (s.y + s.h)) else none
theorem tops_filterMap (l w : Int) : ∀ ss : List Spot, ss.filterMap (topV l w) = (tops ss l w).map V.int
  | [] => rfl
  | s :: r => by
    have ih := tops_filterMap l w r
    unfold tops at ih ⊢
    by_cases h : ov1 s l w = true
    · have e : topV l w s = some (.int (s.y + s.h)) := if_pos h
      rw [List.filterMap_cons, e, ih]
      simp [h]
    · have e : topV l w s = none := if_neg h
      rw [List.filterMap_cons, e, ih]
      simp [h]
abbrev sRestOn : Stmt := topS 23
theorem scRestOn : FnScope ["spots", "left", "width", "some", "spot"] ["spots", "left", "width"] (defScope sRestOn) := ⟨rfl, rfl, rfl, by decide +kernel, rfl, by decide +kernel, by decide +kernel⟩
def spRestOn : Sp := fun vs H Q _ => ∃ (p : Addr) (l w : Int) (xs : List V) (ss : List Spot), vs = [.ref p, .int l, .int w] ∧ H p = some (.lst xs) ∧ Paired (SpAt H) xs ss ∧ ss.length ≤ 63 ∧ ∀ H', Same H H' → Q (.int (restOn ss l w)) H'
section
variable {P : Program} {w : World} {K : PySem.W.Frag} {mg : Str → Option Value} {base : Heap}
theorem ok_restOn {f : Addr} {fd : FuncData} (B : Bi mg) (F : Fun K "rest_on" "rest_on" sRestOn f fd) : FnOk P w K mg base CX0 1 f fd ["spots", "left", "width"] spRestOn := by
  refine F.ok scRestOn (fun vs H Q E h => ?_) (fun cdv A outer s₁ H vs Q E hr h => ?_)
  · obtain ⟨p, l, w, xs, ss, rfl, _⟩ := h
    rfl
  obtain ⟨p, l, w, xs, ss, rfl, hx, hp, h63, q⟩ := h
  have hl : xs.length = ss.length := hp.length
  refine ⟨_, pss_cons (ps_setLc (i := 3) (own := [("spot", 4)]) (g := gName 4) (by rfl) scRestOn.nd rfl rfl (sw_true rfl rfl rfl (by decide +kernel)) (pi_list (pv 0)) (blkOk_by (own := [("spot", 4)]) (N := ["spots", "left", "width", "some", "spot"]) (sc := defScope sRestOn) (by decide +kernel))
      (fun _ _ _ _ _ => pg_name (i := 4) scRestOn.nd rfl (Or.inl rfl))
      (fun _ _ _ _ _ => pts_one (PW.pt (pw_and (pt_cmp (pc_lt (pe_ix (r := rIxT K) ix_tup (pv 4) pe_int (fun _ _ => rfl)) (pe_add (pv 1) (pv 2)))) (pw_and1 (pt_cmp (pc_lt (pv 1) (pe_add (pe_ix (r := rIxT K) ix_tup (pv 4) pe_int (fun _ _ => rfl)) (pe_ix (r := rIxT K) ix_tup (pv 4) pe_int (fun _ _ => rfl)))))))))
      (fun _ _ _ _ _ => pe_add (pe_ix (r := rIxT K) ix_tup (pv 4) pe_int (fun _ _ => rfl)) (pe_ix (r := rIxT K) ix_tup (pv 4) pe_int (fun _ _ => rfl))))
    (pss_one (ps_ret (pe_callB (cr_max rfl) (by rfl) B.max boot_max (pa_cons (pe_lst (pa_cons pe_int (StX.pa_star (pv 3) pa_nil))) pa_nil)))), ?_⟩
  refine ⟨_, rfl, p, rfl, ⟨_, SqL.of hx⟩, fun D hD => ?_⟩
  refine lc_pick (walk_list (K := K) (a := p) (xs := xs)) (fun H' sm => Same.seq sm (SqL.of hx)) hD (by omega) (fun i => (ss[i]?).bind (topV l w)) (fun i x H1 kk hi hxi sm hk => ?_) (fun H1 sm e1 => ?_)
  · obtain ⟨s, g1, ⟨b, eb, g2⟩⟩ := paired_get hp hxi
    subst eb
    have hk' := hk H1 (Same.refl H1)
    rw [g1] at hk'
    have hk2 : kk (topV l w s) H1 := hk'
    have hb := sm _ _ g2
    refine ⟨_, rfl, b, _, 0, .int s.l, rfl, rfl, SqT.of hb, atI_nat (j := 0) rfl, _, rfl, _, rfl, _, _, rfl, rfl, _, _, rfl, rfl, _, rfl, and2 (fun (ea : decide (s.l < l + w) = true) => ?_) (fun (ea : decide (s.l < l + w) = false) => ?_)⟩
    · refine ⟨_, rfl, _, rfl, b, _, 0, .int s.l, rfl, rfl, SqT.of hb, atI_nat (j := 0) rfl, _, rfl, b, _, 2, .int s.w, rfl, rfl, SqT.of hb, atI_nat (j := 2) rfl, _, _, rfl, rfl, _, _, rfl, rfl, _, rfl, and2 (fun (eb : decide (l < s.l + s.w) = true) => ?_) (fun (eb : decide (l < s.l + s.w) = false) => ?_)⟩
      · refine ⟨_, rfl, b, _, 1, .int s.y, rfl, rfl, SqT.of hb, atI_nat (j := 1) rfl, _, rfl, b, _, 3, .int s.h, rfl, rfl, SqT.of hb, atI_nat (j := 3) rfl, _, _, rfl, rfl, ?_⟩
        have eo : topV l w s = some (.int (s.y + s.h)) := if_pos (by unfold ov1; rw [ea, eb]; rfl)
        rw [eo] at hk2
        exact hk2
      · have eo : topV l w s = none := if_neg (by unfold ov1; rw [eb]; simp)
        rw [eo] at hk2
        exact hk2
    · have eo : topV l w s = none := if_neg (by unfold ov1; rw [ea]; simp)
      rw [eo] at hk2
      exact iteF hk2
  · have el : picked (fun i => (ss[i]?).bind (topV l w)) xs.length = (tops ss l w).map V.int := by
      rw [hl, picked_bind _ ss ss.length (Nat.le_refl _), List.take_length, tops_filterMap]
    rw [el] at e1
    have tl : (tops ss l w).length ≤ ss.length := by
      unfold tops
      rw [List.length_map]
      exact List.length_filter_le _ _
    refine ⟨_, rfl, D, _, rfl, .inr (SqL.of e1), ?_, fun p2 np => ?_⟩
    · show (V.int 0 :: ((tops ss l w).map V.int ++ [])).length ≤ sizeLine
      rw [List.append_nil, List.length_cons, List.length_map]
      exact small (by omega)
    · have e2 : V.int 0 :: ((tops ss l w).map V.int ++ []) = ((0 : Int) :: tops ss l w).map V.int := by rw [List.append_nil]; rfl
      refine ⟨p2, 0 :: tops ss l w, rfl, SqL.of (by rw [← e2]; exact upd_same), Nat.succ_pos _, fun m hm hle => ?_⟩
      rw [restOn_of hm hle]
      exact q _ (sm.trans (same_upd np))
end
end K53

namespace K53
open PySem PySem.Spec PyProof.Rows L2
/-! ### the dict of spots -/
def KAt (H : Hp) (kvs : List (Key × V)) (f : List (Nat × Spot)) : Prop := Paired (fun (kv : Key × V) (bs : Nat × Spot) => kv.1 = Sum.inl (bs.1 : Int) ∧ SpAt H kv.2 bs.2) kvs f
theorem KAt.keep {H H' : Hp} {kvs : List (Key × V)} {f : List (Nat × Spot)} (h : KAt H kvs f) (k : Tups H H') : KAt H' kvs f := paired_imp (fun _ _ z => ⟨z.1, z.2.keep k⟩) h
theorem KAt.len {H : Hp} {kvs : List (Key × V)} {f : List (Nat × Spot)} (h : KAt H kvs f) : kvs.length = f.length := Paired.length h
theorem KAt.vals {H : Hp} : ∀ {kvs : List (Key × V)} {f : List (Nat × Spot)}, KAt H kvs f → Paired (SpAt H) (kvs.map (·.2)) (f.map (·.2))
  | _, _, .nil => .nil
  | _, _, .cons r t => .cons r.2 (KAt.vals t)
theorem KAt.new {H : Hp} {b : Nat} : ∀ {kvs : List (Key × V)} {f : List (Nat × Spot)}, KAt H kvs f → b ∉ f.map (·.1) → valV kvs (Sum.inl (b : Int)) = none
  | _, _, .nil, _ => rfl
  | kv :: _, bs :: _, .cons r t, h => by
    have h2 : ¬ b = bs.1 := fun e => h (by simp [e])
    rw [valV_neg (fun e => h2 ?_), KAt.new t (fun z => h (by simp at z ⊢; exact .inr z))]
    rw [r.1] at e
    have e' := Sum.inl.inj e
    omega
/-- what stands at a block -/
def look (f : List (Nat × Spot)) (b : Nat) : Spot := ((f.find? fun p => decide (p.1 = b)).map (·.2)).getD ⟨0, 0, 1, 1⟩
theorem look_mem {b : Nat} : ∀ {f : List (Nat × Spot)}, b ∈ f.map (·.1) → (b, look f b) ∈ f
  | [], h => absurd h (by simp)
  | p :: r, h => by
    by_cases e : p.1 = b
    · have q : look (p :: r) b = p.2 := by unfold look; rw [List.find?_cons, decide_eq_true e]; rfl
      rw [q, ← e]
      exact List.mem_cons_self
    · have q : look (p :: r) b = look r b := by unfold look; rw [List.find?_cons, decide_eq_false e]
      rw [q]
      refine List.mem_cons_of_mem _ (look_mem ?_)
      rcases List.mem_cons.mp h with z | z
      · exact absurd z.symm e
      · exact z
theorem KAt.look {H : Hp} {b : Nat} : ∀ {kvs : List (Key × V)} {f : List (Nat × Spot)}, KAt H kvs f → b ∈ f.map (·.1) → ∃ v, valV kvs (Sum.inl (b : Int)) = some v ∧ SpAt H v (look f b)
  | _, _, .nil, h => absurd h (by simp)
  | kv :: _, p :: r, .cons q t, h => by
    by_cases e : p.1 = b
    · refine ⟨kv.2, valV_pos (by rw [q.1, e]), ?_⟩
      have z : K53.look (p :: r) b = p.2 := by unfold K53.look; rw [List.find?_cons, decide_eq_true e]; rfl
      rw [z]
      exact q.2
    · have z : K53.look (p :: r) b = K53.look r b := by unfold K53.look; rw [List.find?_cons, decide_eq_false e]
      have h2 : b ∈ r.map (·.1) := by
        rcases List.mem_cons.mp h with y | y
        · exact absurd y.symm e
        · exact y
      obtain ⟨v, v1, v2⟩ := KAt.look t h2
      refine ⟨v, ?_, by rw [z]; exact v2⟩
      rw [valV_neg, v1]
      intro y
      rw [q.1] at y
      have y' := Sum.inl.inj y
      omega
def szOf (ss : List (Int × Int)) : Sz := fun b => ss.getD b (1, 1)
theorem szOf_get {ss : List (Int × Int)} {b : Nat} {y : Int × Int} (h : ss[b]? = some y) : szOf ss b = y := by
  unfold szOf
  rw [List.getD_eq_getElem?_getD, h]
  rfl
theorem place_len (sz : Sz) (t : Bush) (l : Int) (f : List (Nat × Spot)) : (place sz t l f).length = f.length + t.blocks.length := by
  have h := congrArg List.length (place_keys sz t l f)
  rw [List.length_map, List.length_append, List.length_map] at h
  exact h
/-- what the walk of a bush asks of it: its blocks have sizes, and are new -/
def Fits (ss : List (Int × Int)) (t : Bush) (f : List (Nat × Spot)) : Prop := (∀ b ∈ t.blocks, b < ss.length) ∧ (f.map (·.1) ++ t.blocks).Nodup ∧ f.length + t.blocks.length ≤ 63
theorem Fits.head {ss : List (Int × Int)} {b : Nat} {s t : Bush} {f : List (Nat × Spot)} (h : Fits ss (.node b s t) f) : b < ss.length ∧ b ∉ f.map (·.1) ∧ f.length < 63 := by
  obtain ⟨h1, h2, h3⟩ := h
  refine ⟨h1 b (by simp [Bush.blocks]), fun z => ?_, ?_⟩
  · exact (List.nodup_append.mp h2).2.2 b z b (by simp [Bush.blocks]) rfl
  · have : (b :: (s.blocks ++ t.blocks)).length + f.length ≤ 63 := by rw [Nat.add_comm]; exact h3
    rw [List.length_cons] at this
    omega
theorem Fits.left {ss : List (Int × Int)} {b : Nat} {s t : Bush} {f : List (Nat × Spot)} (h : Fits ss (.node b s t) f) (p : Spot) : Fits ss s (f ++ [(b, p)]) := by
  obtain ⟨h1, h2, h3⟩ := h
  refine ⟨fun c hc => h1 c (by simp [Bush.blocks, hc]), ?_, ?_⟩
  · have e : f.map (·.1) ++ Bush.blocks (.node b s t) = ((f ++ [(b, p)]).map (·.1) ++ s.blocks) ++ t.blocks := by simp [Bush.blocks]
    rw [e] at h2
    exact (List.nodup_append.mp h2).1
  · have h3' : f.length + (b :: (s.blocks ++ t.blocks)).length ≤ 63 := h3
    rw [List.length_cons, List.length_append] at h3'
    rw [List.length_append]
    show f.length + 1 + s.blocks.length ≤ 63
    omega
theorem Fits.right {ss : List (Int × Int)} {b : Nat} {s t : Bush} {f : List (Nat × Spot)} (h : Fits ss (.node b s t) f) (p : Spot) (l : Int) : Fits ss t (place (szOf ss) s l (f ++ [(b, p)])) := by
  obtain ⟨h1, h2, h3⟩ := h
  refine ⟨fun c hc => h1 c (by simp [Bush.blocks, hc]), ?_, ?_⟩
  · have e : f.map (·.1) ++ Bush.blocks (.node b s t) = ((f ++ [(b, p)]).map (·.1) ++ s.blocks) ++ t.blocks := by simp [Bush.blocks]
    rw [e] at h2
    rw [place_keys]
    exact h2
  · have h3' : f.length + (b :: (s.blocks ++ t.blocks)).length ≤ 63 := h3
    rw [List.length_cons, List.length_append] at h3'
    rw [place_len, List.length_append]
    show f.length + 1 + s.blocks.length + t.blocks.length ≤ 63
    omega
/-! ### grow -/
abbrev sGrow : Stmt := topS 24
theorem scGrow : FnScope ["sizes", "bush", "left", "found", "block", "beside", "above", "width", "height"] ["sizes", "bush", "left", "found"] (defScope sGrow) := ⟨rfl, rfl, rfl, by decide +kernel, rfl, by decide +kernel, by decide +kernel⟩
def spGrow (n : Nat) : Sp := fun vs H Q _ => ∃ (a d : Addr) (ss : List (Int × Int)) (v : V) (t : Bush) (l : Int) (kvs : List (Key × V)) (f : List (Nat × Spot)), vs = [.ref a, v, .int l, .ref d] ∧ SizesAt H a ss ∧ BuAt H v t ∧ t.depth < n ∧ Fits ss t f ∧ H d = some (.dK kvs) ∧ KAt H kvs f ∧
  ∀ H' kvs', Off d H H' → H' d = some (.dK kvs') → KAt H' kvs' (place (szOf ss) t l f) → Q .non H'
theorem tups_off {d : Addr} {H H' : Hp} {kvs : List (Key × V)} (o : Off d H H') (h : H d = some (.dK kvs)) : Tups H H' := Off.tups o fun xs z => by rw [h] at z; cases z
section
variable {P : Program} {w : World} {K : PySem.W.Frag} {mg : Str → Option Value} {base : Heap}
theorem step_grow {f : Addr} {fd : FuncData} {n k : Nat} (hk : 1 ≤ k) (B : Bi mg) (GR : Def P w K mg base "rest_on" 1 ["spots", "left", "width"] spRestOn) (T : At K mg "grow" sGrow f fd ["sizes", "bush", "left", "found"]) (G : FnOk P w K mg base CX0 k f fd ["sizes", "bush", "left", "found"] (spGrow n)) : FnOk P w K mg base CX0 (k + 1) f fd ["sizes", "bush", "left", "found"] (spGrow (n + 1)) := by
  obtain ⟨fR, fdR, gR, mR, kR, bR⟩ := (GR.mono hk).ex
  refine T.fn.ok scGrow (fun vs H Q E h => ?_) (fun cdv A outer s₁ H vs Q E hr h => ?_)
  · obtain ⟨a, d, ss, v, t, l, kvs, fo, rfl, _⟩ := h
    rfl
  obtain ⟨a, d, ss, v, t, l, kvs, fo, rfl, hs, hb, hd, hf, hdk, hka, q⟩ := h
  refine ⟨_, pss_cons (ps_if (pt_cmpR op_isN (pv 1) pe_non (nomark _)) (pss_one ps_retN) pss_nil)
    (pss_cons (ps_asg (pv 1) (pg_tup rfl (pgs_cons (pg_name (i := 4) scGrow.nd rfl (.inl rfl)) (pgs_cons (pg_name (i := 5) scGrow.nd rfl (.inl rfl)) (pgs_cons (pg_name (i := 6) scGrow.nd rfl (.inl rfl)) pgs_nil)))))
    (pss_cons (ps_asg (pe_ix ix_tup (pv 0) (pv 4) (fun _ _ => rfl)) (pg_tup rfl (pgs_cons (pg_name (i := 7) scGrow.nd rfl (.inl rfl)) (pgs_cons (pg_name (i := 8) scGrow.nd rfl (.inl rfl)) pgs_nil))))
    (pss_cons (ps_dput (hu_of hr) (pv 3) (pv 4) (pe_tup (pa_cons (pv 2) (pa_cons (pe_call gR hr (by rfl) mR kR bR .nil pass0 (pa_cons (pe_callTy (call_listVw rfl) (by rfl) B.list boot_list (pa_cons (pe_vals (pv 3)) pa_nil)) (pa_cons (pv 2) (pa_cons (pv 7) pa_nil)))) (pa_cons (pv 7) (pa_cons (pv 8) pa_nil))))) rfl)
    (pss_cons (ps_expr (pe_call G hr (by rfl) T.gl T.fn.kp T.bi .nil pass0 (pa_cons (pv 0) (pa_cons (pv 5) (pa_cons (pe_add (pv 2) (pv 7)) (pa_cons (pv 3) pa_nil))))))
    (pss_one (ps_expr (pe_call G hr (by rfl) T.gl T.fn.kp T.bi .nil pass0 (pa_cons (pv 0) (pa_cons (pv 6) (pa_cons (pv 2) (pa_cons (pv 3) pa_nil))))))))))), ?_⟩
  cases hb with
  | nil =>
    refine ⟨_, rfl, rfl, _, rfl, iteT ?_⟩
    exact q H kvs (Off.refl d H) hdk hka
  | @node c b x y s t hc h1 h2 =>
    obtain ⟨hb1, hb2, hb3⟩ := hf.head
    have hdd : max s.depth t.depth + 1 < n + 1 := hd
    have hs' := hs
    obtain ⟨xs, ha, hp, hin, l1, l8⟩ := hs'
    have hl : xs.length = ss.length := hp.length
    have hxb : xs[b]? = some xs[b] := List.getElem?_eq_getElem (by omega)
    obtain ⟨⟨sw, sh⟩, g1, ⟨c2, ec2, g2⟩⟩ := paired_get hp hxb
    have esz : szOf ss b = (sw, sh) := szOf_get g1
    refine ⟨_, rfl, rfl, _, rfl, iteF ?_⟩
    refine ⟨_, rfl, c, _, rfl, SqT.of hc, rfl, _, _, rfl, x, _, rfl, y, [], rfl, rfl, ?_⟩
    refine ⟨_, rfl, _, rfl, a, xs, (b : Nat), .ref c2, rfl, rfl, SqT.of ha, atI_nat (by rw [hxb, ec2]), ?_⟩
    refine ⟨c2, _, rfl, SqT.of g2, rfl, _, _, rfl, .int sh, [], rfl, rfl, ?_⟩
    -- the new spot
    refine ⟨_, rfl, _, rfl, d, kvs, rfl, hdk, fun v1 n1 => ?_⟩
    have sv : Same H (upd H v1 (vwO v1 d)) := same_upd n1
    have ev : (upd H v1 (vwO v1 d)) v1 = some (vwO v1 d) := upd_same
    generalize upd H v1 (vwO v1 d) = H1 at sv ev ⊢
    refine ⟨v1, d, kvs, rfl, ev, sv _ _ hdk, fun p1 np1 => ?_⟩
    have sp : Same H1 (upd H1 p1 (.lst (kvs.map (·.2)))) := same_upd np1
    have ep : (upd H1 p1 (.lst (kvs.map (·.2)))) p1 = some (.lst (kvs.map (·.2))) := upd_same
    generalize upd H1 p1 (.lst (kvs.map (·.2))) = H2 at sp ep ⊢
    have s2 := sv.trans sp
    have kl := hka.len
    refine ⟨_, rfl, _, rfl, p1, l, sw, _, fo.map (·.2), rfl, ep, (hka.keep (Same.tups s2)).vals, by rw [List.length_map]; omega, fun H3 s3 => ?_⟩
    have sm3 := s2.trans s3
    refine ⟨_, rfl, _, rfl, small (n := 4) (by decide), fun p4 np4 => ?_⟩
    have sp4 : Same H3 (upd H3 p4 (.tup [.int l, .int (restOn (fo.map (·.2)) l sw), .int sw, .int sh])) := same_upd np4
    have ep4 : (upd H3 p4 (.tup [.int l, .int (restOn (fo.map (·.2)) l sw), .int sw, .int sh])) p4 = some (.tup [.int l, .int (restOn (fo.map (·.2)) l sw), .int sw, .int sh]) := upd_same
    generalize upd H3 p4 (.tup [.int l, .int (restOn (fo.map (·.2)) l sw), .int sw, .int sh]) = H4 at sp4 ep4 ⊢
    have sm4 := sm3.trans sp4
    have hdk4 := sm4 _ _ hdk
    refine ⟨_, rfl, _, rfl, d, _, rfl, DPut.k (k := Sum.inl (b : Int)) hdk4 (small1000 (by omega)), ?_⟩
    rw [putK_new _ (hka.new hb2)]
    -- behind the store
    have o5 : Off d H4 (upd H4 d (.dK (kvs ++ [(Sum.inl (b : Int), V.ref p4)]))) := Off.upd d H4 _
    have e5 : (upd H4 d (.dK (kvs ++ [(Sum.inl (b : Int), V.ref p4)]))) d = some (.dK (kvs ++ [(Sum.inl (b : Int), V.ref p4)])) := upd_same
    generalize upd H4 d (.dK (kvs ++ [(Sum.inl (b : Int), V.ref p4)])) = H5 at o5 e5 ⊢
    have om5 : Off d H H5 := (Off.of sm4).trans o5
    have tu5 := tups_off om5 hdk
    have tu45 := tups_off o5 hdk4
    have new : SpAt H5 (.ref p4) (spotAt (szOf ss) b l (fo.map (·.2))) := ⟨p4, rfl, by
      unfold spotAt
      rw [esz]
      exact tu45 _ _ ep4⟩
    have k5 : KAt H5 (kvs ++ [(Sum.inl (b : Int), V.ref p4)]) (fo ++ [(b, spotAt (szOf ss) b l (fo.map (·.2)))]) := paired_snoc (hka.keep tu5) ⟨rfl, new⟩
    refine ⟨_, rfl, _, rfl, _, rfl, _, rfl, _, _, rfl, rfl, _, rfl, a, d, ss, x, s, l + sw, _, _, rfl, hs.keep tu5, h1.keep tu5, by omega, hf.left _, e5, k5, fun H6 kvs6 o6 e6 k6 => ?_⟩
    have tu6 := tu5.trans (tups_off o6 e5)
    refine ⟨_, rfl, _, rfl, _, rfl, _, rfl, a, d, ss, y, t, l, _, _, rfl, hs.keep tu6, h2.keep tu6, by omega, hf.right _ _, e6, k6, fun H7 kvs7 o7 e7 k7 => ?_⟩
    refine q H7 kvs7 (om5.trans (o6.trans o7)) e7 ?_
    have ew : sw = (szOf ss b).1 := by rw [esz]
    rw [ew] at k7
    exact k7
theorem ok_grow {f : Addr} {fd : FuncData} (B : Bi mg) (GR : Def P w K mg base "rest_on" 1 ["spots", "left", "width"] spRestOn) (T : At K mg "grow" sGrow f fd ["sizes", "bush", "left", "found"]) : ∀ n : Nat, FnOk P w K mg base CX0 (n + 1) f fd ["sizes", "bush", "left", "found"] (spGrow n)
  | 0 => ⟨fun vs H Q E ⟨_, _, _, _, _, _, _, _, _, _, _, hd, _⟩ => absurd hd (Nat.not_lt_zero _), fun A outer s H args us vs Q E _ _ _ _ ⟨_, _, _, _, _, _, _, _, _, _, _, hd, _⟩ => absurd hd (Nat.not_lt_zero _)⟩
  | n + 1 => step_grow (Nat.le_add_left 1 n) B GR T (ok_grow B GR T n)
end
end K53

namespace K53
open PySem PySem.Spec PyProof.Rows L2
/-- the spots of the blocks by their numbers -/
def resOf (f : List (Nat × Spot)) (n : Nat) : List Spot := (List.range n).map (look f)
def res (ss : List (Int × Int)) (t : Bush) : List Spot := resOf (place (szOf ss) t 0 []) ss.length
def refsOf (kvs : List (Key × V)) (n : Nat) : List V := (List.range n).map fun b => (valV kvs (Sum.inl ((b : Nat) : Int))).getD .non
theorem paired_map {α β γ : Type} {F : α → β → Prop} {f : γ → α} {g : γ → β} : ∀ l : List γ, (∀ x ∈ l, F (f x) (g x)) → Paired F (l.map f) (l.map g)
  | [], _ => .nil
  | x :: r, h => .cons (h x List.mem_cons_self) (paired_map r fun y hy => h y (List.mem_cons_of_mem _ hy))
theorem refs_res {H : Hp} {kvs : List (Key × V)} {f : List (Nat × Spot)} {n : Nat} (h : KAt H kvs f) (hk : ∀ b, b < n → b ∈ f.map (·.1)) : Paired (SpAt H) (refsOf kvs n) (resOf f n) := by
  refine paired_map _ fun b hb => ?_
  obtain ⟨v, e, q⟩ := h.look (hk b (List.mem_range.mp hb))
  rw [e]
  exact q
theorem refs_get {kvs : List (Key × V)} {n i : Nat} {y : V} (h : (refsOf kvs n)[i]? = some y) : i < n ∧ y = (valV kvs (Sum.inl ((i : Nat) : Int))).getD .non := by
  unfold refsOf at h
  rw [List.getElem?_map] at h
  cases e : (List.range n)[i]? with
  | none =>
    rw [e] at h
    cases h
  | some j =>
    obtain ⟨z1, z2⟩ := List.getElem?_eq_some_iff.mp e
    rw [List.length_range] at z1
    rw [List.getElem_range] at z2
    rw [e, ← z2] at h
    exact ⟨z1, (Option.some.inj h).symm⟩
theorem refs_len (kvs : List (Key × V)) (n : Nat) : (refsOf kvs n).length = n := by
  unfold refsOf
  rw [List.length_map, List.length_range]
theorem keys_all {ss : List (Int × Int)} {t : Bush} {n : Nat} (hp : t.blocks.Perm (List.range n)) : ∀ b, b < n → b ∈ (place (szOf ss) t 0 []).map (·.1) := fun b hb => by
  rw [place_keys]
  exact hp.mem_iff.mpr (List.mem_range.mpr hb)
theorem fits_top {ss : List (Int × Int)} {t : Bush} (hp : t.blocks.Perm (List.range ss.length)) (h8 : ss.length ≤ 8) : Fits ss t [] := by
  obtain ⟨h1, h2⟩ := perm_small hp
  refine ⟨h2, ?_, by show 0 + t.blocks.length ≤ 63; omega⟩
  show ([] ++ t.blocks).Nodup
  rw [List.nil_append]
  exact hp.nodup_iff.mpr List.nodup_range
/-! ### packed_bush -/
abbrev sPackedBush : Stmt := topS 25
theorem scPackedBush : FnScope ["sizes", "bush", "found", "block"] ["sizes", "bush"] (defScope sPackedBush) := ⟨rfl, rfl, rfl, by decide +kernel, rfl, by decide +kernel, by decide +kernel⟩
def spPackedBush : Sp := fun vs H Q _ => ∃ (a : Addr) (ss : List (Int × Int)) (v : V) (t : Bush), vs = [.ref a, v] ∧ SizesAt H a ss ∧ BuAt H v t ∧ t.blocks.Perm (List.range ss.length) ∧ ∀ H' p, Same H H' → SpotsAt H' p (res ss t) → Q (.ref p) H'
section
variable {P : Program} {w : World} {K : PySem.W.Frag} {mg : Str → Option Value} {base : Heap}
theorem ok_packedBush {f : Addr} {fd : FuncData} {k : Nat} (B : Bi mg) (GN : Def P w K mg base "need_bush" k ["sizes", "bush"] spNeedBush) (GG : Def P w K mg base "grow" k ["sizes", "bush", "left", "found"] (spGrow 9)) (F : Fun K "packed_bush" "packed_bush" sPackedBush f fd) : FnOk P w K mg base CX0 (k + 1) f fd ["sizes", "bush"] spPackedBush := by
  obtain ⟨fN, fdN, gN, mN, kN, bN⟩ := GN.ex
  obtain ⟨fG, fdG, gG, mG, kG, bG⟩ := GG.ex
  refine F.ok scPackedBush (fun vs H Q E h => ?_) (fun cdv A outer s₁ H vs Q E hr h => ?_)
  · obtain ⟨a, ss, v, t, rfl, _⟩ := h
    rfl
  obtain ⟨a, ss, v, t, rfl, hs, hb, hperm, q⟩ := h
  obtain ⟨hlen, hlt⟩ := perm_small hperm
  have hs' := hs
  obtain ⟨xs, ha, hp, _, l1, l8⟩ := hs'
  have hl : xs.length = ss.length := hp.length
  have hd := Bush.depth_le t
  refine ⟨_, pss_cons (ps_expr (pe_call gN hr (by rfl) mN kN bN .nil pass0 (pa_cons (pv 0) (pa_cons (pv 1) pa_nil))))
    (pss_cons (ps_set (i := 2) scPackedBush.nd rfl (.inr rfl) pe_dnewK)
    (pss_cons (ps_expr (pe_call gG hr (by rfl) mG kG bG .nil pass0 (pa_cons (pv 0) (pa_cons (pv 1) (pa_cons pe_int (pa_cons (pv 2) pa_nil))))))
    (pss_one (ps_ret (pe_callTy call_tuple_of (by rfl) B.tuple boot_tuple (pa_cons
      (pe_lc (own := [("block", 3)]) (g := gName 3) (tt := tYes) rfl scPackedBush.nd (pi_range1 (by rfl) B.range (pa_cons (pe_callB call_len_seq (by rfl) B.len PySem.boot_len (pa_cons (pv 0) pa_nil)) pa_nil)) (blkOk_by (own := [("block", 3)]) (N := ["sizes", "bush", "found", "block"]) (sc := defScope sPackedBush) (by decide +kernel))
        (fun _ _ _ _ _ => pg_name (i := 3) scPackedBush.nd rfl (Or.inl rfl)) (fun _ _ _ _ _ => pts_nil)
        (fun _ _ _ _ _ => pe_dget (hu_of hr) (pv 2) (pv 3) (fun _ _ => rfl)))
      pa_nil)))))), ?_⟩
  refine ⟨_, rfl, _, rfl, a, ss, v, t, rfl, hs, hb, hperm, fun H1 s1 => ?_⟩
  refine fun d nd => ?_
  have s2 : Same H1 (upd H1 d (.dK [])) := same_upd nd
  have e2 : (upd H1 d (.dK [])) d = some (.dK []) := upd_same
  generalize upd H1 d (.dK []) = H2 at s2 e2 ⊢
  have sm2 := s1.trans s2
  refine ⟨_, rfl, _, rfl, _, rfl, a, d, ss, v, t, 0, [], [], rfl, hs.keep (Same.tups sm2), hb.keep (Same.tups sm2), by omega, fits_top hperm l8, e2, .nil, fun H3 kvs o3 e3 k3 => ?_⟩
  have sm3 : Same H H3 := fun b o e => (Off.same o3 nd s2) b o (s1 b o e)
  have hk := keys_all (ss := ss) hperm
  refine ⟨_, rfl, a, xs, rfl, .inr (SqT.of (sm3 _ _ ha)), (xs.length : Nat), rfl, by omega, by omega, fun D hD => ?_⟩
  refine lc_all (walk_rangeA (n := xs.length)) (fun _ _ => trivial) hD (refsOf kvs xs.length) (refs_len _ _).symm (by omega) (fun i x y H4 kk hi hx hy s4 hkk => ?_) (fun H4 s4 e4 => ?_)
  · obtain ⟨_, ey⟩ := refs_get hy
    have ex : x = .int (i : Nat) := by
      rw [List.getElem?_map, List.getElem?_range hi] at hx
      exact (Option.some.inj hx).symm
    subst ex
    obtain ⟨v1, q1, _⟩ := k3.look (hk i (by omega))
    rw [q1] at ey
    have ey' : y = v1 := ey
    subst ey'
    refine ⟨_, rfl, _, rfl, d, y, rfl, ?_, hkk H4 (Same.refl H4)⟩
    have z := DGet.k (k := Sum.inl ((i : Nat) : Int)) (s4 _ _ e3)
    rw [q1] at z
    exact z
  · refine ⟨D, _, rfl, .inl ⟨SqL.of e4, fun p np => ?_⟩⟩
    have s5 : Same H4 (upd H4 p (.tup (refsOf kvs xs.length))) := same_upd np
    have sm5 := s4.trans s5
    refine q _ p (sm3.trans sm5) ⟨_, upd_same, ?_⟩
    have z := refs_res (n := xs.length) (k3.keep (Same.tups sm5)) (fun b hb => hk b (by omega))
    unfold res
    rw [← hl]
    exact z
end
end K53

namespace K53
open PySem PySem.Spec PyProof.Rows L2
/-! ### the draw -/
def RowAt (K : PySem.W.Frag) (H : Hp) (r s : Addr) (ns : List Int) : Prop := ∃ c z g : Int, 0 ≤ c ∧ H r = some (.lst [.ref s, .int c, .int z, .int g]) ∧ SqL K H s (ns.map V.int)
theorem row_upd {K : PySem.W.Frag} {H : Hp} {r s : Addr} {ns : List Int} {xs : List V} {o : HO} (h : H r = some (.lst (.ref s :: xs))) (hs : SqL K H s (ns.map V.int)) : SqL K (upd H r o) s (ns.map V.int) := by
  have ne : ∀ u, H s = some u → u ≠ .lst (.ref s :: xs) → s ≠ r := fun u e n z => by
    rw [z, h] at e
    exact n (Option.some.inj e).symm
  rcases hs with (e | ⟨ob, e⟩) | e
  · refine .inl (.inl ?_)
    rw [upd_ne (ne _ e ?_)]
    · exact e
    · intro z
      cases ns with
      | nil => cases z
      | cons n q => cases z
  · refine .inl (.inr ⟨ob, ?_⟩)
    rw [upd_ne (ne _ e (fun z => by cases z))]
    exact e
  · exact .inr e
theorem RowAt.off {K : PySem.W.Frag} {H H' : Hp} {r s q : Addr} {ns : List Int} (h : RowAt K H r s ns) (o : Same H H') : RowAt K H' r s ns := by
  obtain ⟨c, z, g, h0, h1, h2⟩ := h
  exact ⟨c, z, g, h0, o _ _ h1, Same.seq o h2⟩
section
variable {K : PySem.W.Frag} {H : Hp} {r s : Addr} {ns : List Int} {c z g v : Int} {Q : Hp → Prop}
theorem put1 (e : H r = some (.lst [.ref s, .int c, .int z, .int g])) (q : SqL K H s (ns.map V.int)) (k : ∀ H', Off r H H' → H' r = some (.lst [.ref s, .int v, .int z, .int g]) → SqL K H' s (ns.map V.int) → Q H') : rSetL (.ref r) (.int 1) (.int v) H Q :=
  ⟨r, _, 1, 1, rfl, rfl, e, rfl, k _ (Off.upd r H _) upd_same (row_upd e q)⟩
theorem put2 (e : H r = some (.lst [.ref s, .int c, .int z, .int g])) (q : SqL K H s (ns.map V.int)) (k : ∀ H', Off r H H' → H' r = some (.lst [.ref s, .int c, .int v, .int g]) → SqL K H' s (ns.map V.int) → Q H') : rSetL (.ref r) (.int 2) (.int v) H Q :=
  ⟨r, _, 2, 2, rfl, rfl, e, rfl, k _ (Off.upd r H _) upd_same (row_upd e q)⟩
theorem put3 (e : H r = some (.lst [.ref s, .int c, .int z, .int g])) (q : SqL K H s (ns.map V.int)) (k : ∀ H', Off r H H' → H' r = some (.lst [.ref s, .int c, .int z, .int v]) → SqL K H' s (ns.map V.int) → Q H') : rSetL (.ref r) (.int 3) (.int v) H Q :=
  ⟨r, _, 3, 3, rfl, rfl, e, rfl, k _ (Off.upd r H _) upd_same (row_upd e q)⟩
end
abbrev sTaken : Stmt := topS 27
theorem scTaken : FnScope ["_law_row", "_law_many", "_law_found", "_law_cell"] ["_law_row", "_law_many"] (defScope sTaken) := ⟨rfl, rfl, rfl, by decide +kernel, rfl, by decide +kernel, by decide +kernel⟩
def spTaken (K : PySem.W.Frag) : Sp := fun vs H Q _ => ∃ (r s : Addr) (ns : List Int) (m : Int), vs = [.ref r, .int m] ∧ RowAt K H r s ns ∧ 1 ≤ m ∧ m ≤ 63 ∧ ∀ v H', Off r H H' → RowAt K H' r s ns → 0 ≤ v → v < m → Q (.int v) H'
section
variable {P : Program} {w : World} {K : PySem.W.Frag} {mg : Str → Option Value} {base : Heap}
theorem ok_taken {f : Addr} {fd : FuncData} (B : Bi mg) (F : Fun K "_law_taken" "_law_taken" sTaken f fd) : FnOk P w K mg base CX0 1 f fd ["_law_row", "_law_many"] (spTaken K) := by
  refine F.ok scTaken (fun vs H Q E h => ?_) (fun cdv A outer s₁ H vs Q E hr h => ?_)
  · obtain ⟨r, s, ns, m, rfl, _⟩ := h
    rfl
  obtain ⟨r, s, ns, m, rfl, ⟨c, z, g, h0, e0, q0⟩, m1, m63, q⟩ := h
  have hm : (0 : Int) < m := by omega
  have hd : CDiv 0 m := ⟨hm, by omega⟩
  refine ⟨_, pss_cons (ps_if (pt_cmp (pc_gt (pe_ix ix_list (pv 0) pe_int (fun _ _ => rfl)) pe_int))
      (pss_cons (ps_set (i := 2) scTaken.nd rfl (.inl rfl) (pe_op op_mod (pe_callTy call_int1 (by rfl) B.int boot_int (pa_cons (pe_ix ix_list (pv 0) pe_int (fun _ _ => rfl)) pa_nil)) (pv 1)))
      (pss_cons (ps_asg (pe_op op_fdiv (pe_ix ix_list (pv 0) pe_int (fun _ _ => rfl)) (pv 1)) (pg_sub (pv 0) pe_int set_list))
      (pss_one (ps_ret (pv 2))))) pss_nil)
    (pss_cons (ps_asg (pe_add (pe_ix ix_list (pv 0) pe_int (fun _ _ => rfl)) pe_int) (pg_sub (pv 0) pe_int set_list))
    (pss_cons (ps_if (pt_cmp (pc_gt (pe_ix ix_list (pv 0) pe_int (fun _ _ => rfl)) (pe_callB call_len_seq (by rfl) B.len PySem.boot_len (pa_cons (pe_ix ix_list (pv 0) pe_int (fun _ _ => rfl)) pa_nil))))
      (pss_cons (ps_asg (pe_op op_mod (pe_callTy call_int1 (by rfl) B.int boot_int (pa_cons (pe_add (pe_op op_mul (pe_ix ix_list (pv 0) pe_int (fun _ _ => rfl)) pe_int) pe_int) pa_nil)) pe_int) (pg_sub (pv 0) pe_int set_list))
      (pss_one (ps_ret (pe_op op_mod (pe_callTy call_int1 (by rfl) B.int boot_int (pa_cons (pe_op op_fdiv (pe_ix ix_list (pv 0) pe_int (fun _ _ => rfl)) pe_int) pa_nil)) (pv 1))))) pss_nil)
    (pss_cons (ps_set (i := 3) scTaken.nd rfl (.inl rfl) (pe_ix ix_list (pe_ix ix_list (pv 0) pe_int (fun _ _ => rfl)) (pe_sub (pe_ix ix_list (pv 0) pe_int (fun _ _ => rfl)) pe_int) (fun _ _ => rfl)))
    (pss_cons (ps_asg (pe_op op_mod (pe_callTy call_int1 (by rfl) B.int boot_int (pa_cons (pe_add (pe_add (pe_op op_mul (pe_ix ix_list (pv 0) pe_int (fun _ _ => rfl)) pe_int) (pv 3)) pe_int) pa_nil)) pe_int) (pg_sub (pv 0) pe_int set_list))
    (pss_cons (ps_if (pt_cmp (pc_ge (pv 3) (pe_op op_pow pe_int pe_int)))
      (pss_one (ps_asg (pe_op op_fdiv (pv 3) (pv 1)) (pg_sub (pv 0) pe_int set_list))) pss_nil)
    (pss_one (ps_ret (pe_op op_mod (pe_callTy call_int1 (by rfl) B.int boot_int (pa_cons (pv 3) pa_nil)) (pv 1))))))))), ?_⟩
  refine ⟨_, rfl, r, _, 3, .int g, rfl, rfl, SqL.of e0, atI_nat (j := 3) rfl, _, _, rfl, rfl, _, rfl, and2 (fun _ => ?_) (fun _ => ?_)⟩
  · refine ⟨_, rfl, r, _, 3, .int g, rfl, rfl, SqL.of e0, atI_nat (j := 3) rfl, .inl ⟨_, rfl, ?_⟩⟩
    refine ⟨_, rfl, _, _, rfl, rfl, hm, ?_⟩
    refine ⟨_, rfl, r, _, 3, .int g, rfl, rfl, SqL.of e0, atI_nat (j := 3) rfl, _, rfl, _, _, rfl, rfl, ⟨hm, by omega⟩, ?_⟩
    refine ⟨_, rfl, put3 e0 q0 fun H1 o1 e1 q1 => ?_⟩
    refine ⟨_, rfl, ?_⟩
    exact q _ _ o1 ⟨c, z, _, h0, e1, q1⟩ (Int.emod_nonneg _ (by omega)) (Int.emod_lt_of_pos _ hm)
  · refine ⟨_, rfl, r, _, 1, .int c, rfl, rfl, SqL.of e0, atI_nat (j := 1) rfl, _, _, rfl, rfl, ?_⟩
    refine ⟨_, rfl, put1 e0 q0 fun H1 o1 e1 q1 => ?_⟩
    refine ⟨_, rfl, r, _, 1, .int (c + 1), rfl, rfl, SqL.of e1, atI_nat (j := 1) rfl, _, rfl, r, _, 0, .ref s, rfl, rfl, SqL.of e1, atI_nat (j := 0) rfl, s, _, rfl, .inl q1, _, _, rfl, rfl, _, rfl, and2 (fun (_ : decide (((ns.map V.int).length : Int) < c + 1) = true) => ?_) (fun (ec : decide (((ns.map V.int).length : Int) < c + 1) = false) => ?_)⟩
    · refine ⟨_, rfl, r, _, 2, .int z, rfl, rfl, SqL.of e1, atI_nat (j := 2) rfl, _, _, rfl, rfl, .inr ⟨by omega, by omega⟩, _, _, rfl, rfl, .inl ⟨_, rfl, _, _, rfl, rfl, (by show (0 : Int) < 2147483647; decide), ?_⟩⟩
      refine ⟨_, rfl, put2 e1 q1 fun H2 o2 e2 q2 => ?_⟩
      refine ⟨_, rfl, r, _, 2, .int _, rfl, rfl, SqL.of e2, atI_nat (j := 2) rfl, _, _, rfl, rfl, ⟨(by show (0 : Int) < 7; decide), (by show (7 : Int) < 1073741824; decide)⟩, .inl ⟨_, rfl, _, rfl, _, _, rfl, rfl, hm, ?_⟩⟩
      exact q _ _ (Off.trans o1 o2) ⟨_, _, _, by omega, e2, q2⟩ (Int.emod_nonneg _ (by omega)) (Int.emod_lt_of_pos _ hm)
    · have lc := of_decide_eq_false ec
      rw [List.length_map] at lc
      have hj : c.toNat < ns.length := by omega
      have hx : (ns.map V.int)[c.toNat]? = some (.int ns[c.toNat]) := by rw [List.getElem?_map, List.getElem?_eq_getElem hj] <;> rfl
      generalize ns[c.toNat] = x at hx
      refine ⟨_, rfl, r, _, 0, .ref s, rfl, rfl, SqL.of e1, atI_nat (j := 0) rfl, _, rfl, r, _, 1, .int (c + 1), rfl, rfl, SqL.of e1, atI_nat (j := 1) rfl, _, _, rfl, rfl, s, _, _, .int x, rfl, rfl, q1, at_of (j := c.toNat) (by omega) hx, ?_⟩
      refine ⟨_, rfl, r, _, 2, .int z, rfl, rfl, SqL.of e1, atI_nat (j := 2) rfl, _, _, rfl, rfl, .inr ⟨by omega, by omega⟩, _, rfl, _, _, rfl, rfl, _, _, rfl, rfl, .inl ⟨_, rfl, _, _, rfl, rfl, (by show (0 : Int) < 2147483647; decide), ?_⟩⟩
      refine ⟨_, rfl, put2 e1 q1 fun H2 o2 e2 q2 => ?_⟩
      refine ⟨_, rfl, _, _, rfl, rfl, ⟨by decide, by decide, by decide⟩, _, _, rfl, rfl, _, rfl, and2 (fun _ => ?_) (fun _ => ?_)⟩
      · refine ⟨_, rfl, _, rfl, _, _, rfl, rfl, ⟨hm, by omega⟩, ?_⟩
        refine ⟨_, rfl, put3 e2 q2 fun H3 o3 e3 q3 => ?_⟩
        refine ⟨_, rfl, .inl ⟨_, rfl, _, rfl, _, _, rfl, rfl, hm, ?_⟩⟩
        exact q _ _ ((Off.trans o1 o2).trans o3) ⟨_, _, _, by omega, e3, q3⟩ (Int.emod_nonneg _ (by omega)) (Int.emod_lt_of_pos _ hm)
      · refine ⟨_, rfl, .inl ⟨_, rfl, _, rfl, _, _, rfl, rfl, hm, ?_⟩⟩
        exact q _ _ (Off.trans o1 o2) ⟨_, _, _, by omega, e2, q2⟩ (Int.emod_nonneg _ (by omega)) (Int.emod_lt_of_pos _ hm)
end
end K53

namespace K53
open PySem PySem.Spec PyProof.Rows L2
theorem yesT {te : TE} {σ : L2.St} {H : Hp} {k : VK} {z : Hp → Prop} (h : te σ H k) : tYes σ H fun b H3 => if b = true then te σ H3 k else z H3 := by
  show if true = true then te σ H k else z H
  rw [if_pos rfl]
  exact h
theorem RowAt.tups {K : PySem.W.Frag} {H H' : Hp} {r s : Addr} {ns : List Int} (h : RowAt K H r s ns) (o : Off r H H') : Tups H H' := by
  obtain ⟨c, z, g, _, h1, _⟩ := h
  exact Off.tups o fun xs e => by rw [h1] at e; cases e
theorem RowAt.same {K : PySem.W.Frag} {H H' : Hp} {r s : Addr} {ns : List Int} (h : RowAt K H r s ns) (o : Same H H') : RowAt K H' r s ns := by
  obtain ⟨c, z, g, h0, h1, h2⟩ := h
  exact ⟨c, z, g, h0, o _ _ h1, Same.seq o h2⟩
theorem RowAt.ne {K : PySem.W.Frag} {H : Hp} {r s p : Addr} {ns : List Int} (h : RowAt K H r s ns) (n : H p = none) : p ≠ r := by
  obtain ⟨c, z, g, _, h1, _⟩ := h
  intro e
  rw [e, h1] at n
  cases n
theorem RowAt.seq {K : PySem.W.Frag} {H H' : Hp} {r s : Addr} {ns : List Int} (h : RowAt K H r s ns) (o : Off r H H') : SqL K H' s (ns.map V.int) := by
  obtain ⟨c, z, g, _, h1, h2⟩ := h
  have ne : ∀ u, H s = some u → u ≠ .lst [.ref s, .int c, .int z, .int g] → s ≠ r := fun u e n y => by
    rw [y, h1] at e
    exact n (y ▸ (Option.some.inj e).symm)
  rcases h2 with (e | ⟨ob, e⟩) | e
  · refine .inl (.inl (o _ _ (ne _ e ?_) e))
    cases ns with
    | nil => exact fun z => by cases z
    | cons n q => exact fun z => by cases z
  · exact .inl (.inr ⟨ob, o _ _ (ne _ e (fun z => by cases z)) e⟩)
  · exact .inr e
/-- an own object, new since H0, is written -/
theorem RowAt.upd {K : PySem.W.Frag} {H0 H : Hp} {r s p : Addr} {ns : List Int} {o : HO} (h0 : RowAt K H0 r s ns) (h : RowAt K H r s ns) (np : H0 p = none) (of : Off r H0 H) : RowAt K (upd H p o) r s ns ∧ Off r H0 (L2.upd H p o) := by
  have ne : p ≠ r := h0.ne np
  have o2 : Off r H0 (L2.upd H p o) := fun b u n e => by
    rw [upd_ne (ne_of_none e np)]
    exact of b u n e
  obtain ⟨c, z, g, c0, h1, _⟩ := h
  exact ⟨⟨c, z, g, c0, by rw [upd_ne (Ne.symm ne)]; exact h1, h0.seq o2⟩, o2⟩
/-! ### _law_sizes -/
def Small (ss : List (Int × Int)) : Prop := ∀ s ∈ ss, 1 ≤ s.1 ∧ s.1 ≤ 9 ∧ 1 ≤ s.2 ∧ s.2 ≤ 9
theorem Small.snoc {ss : List (Int × Int)} {s : Int × Int} (h : Small ss) (h1 : 1 ≤ s.1 ∧ s.1 ≤ 9 ∧ 1 ≤ s.2 ∧ s.2 ≤ 9) : Small (ss ++ [s]) := fun u hu => by
  rcases List.mem_append.mp hu with z | z
  · exact h u z
  · rw [List.mem_singleton.mp z]
    exact h1
abbrev sLawSizes : Stmt := topS 29
theorem scLawSizes : FnScope ["_law_row", "_law_many", "_law_most", "_law_block"] ["_law_row", "_law_many", "_law_most"] (defScope sLawSizes) := ⟨rfl, rfl, rfl, by decide +kernel, rfl, by decide +kernel, by decide +kernel⟩
def spLawSizes (K : PySem.W.Frag) : Sp := fun vs H Q _ => ∃ (r s : Addr) (ns : List Int) (n : Nat), vs = [.ref r, .int (n : Nat), .int 9] ∧ RowAt K H r s ns ∧ 1 ≤ n ∧ n ≤ 7 ∧
  ∀ p H' ss, Off r H H' → RowAt K H' r s ns → SizesAt H' p ss → ss.length = n → Small ss → Q (.ref p) H'
section
variable {P : Program} {w : World} {K : PySem.W.Frag} {mg : Str → Option Value} {base : Heap}
theorem ok_lawSizes {f : Addr} {fd : FuncData} {k : Nat} (B : Bi mg) (GT : Def P w K mg base "_law_taken" k ["_law_row", "_law_many"] (spTaken K)) (F : Fun K "_law_sizes" "_law_sizes" sLawSizes f fd) : FnOk P w K mg base CX0 (k + 1) f fd ["_law_row", "_law_many", "_law_most"] (spLawSizes K) := by
  obtain ⟨fT, fdT, gT, mT, kT, bT⟩ := GT.ex
  refine F.ok scLawSizes (fun vs H Q E h => ?_) (fun cdv A outer s₁ H vs Q E hr h => ?_)
  · obtain ⟨r, s, ns, n, rfl, _⟩ := h
    rfl
  obtain ⟨r, s, ns, n, rfl, hrow, n1, n7, q⟩ := h
  refine ⟨_, pss_one (ps_ret (pe_callTy call_tuple_of (by rfl) B.tuple boot_tuple (pa_cons
      (pe_lc (own := [("_law_block", 3)]) (g := gName 3) (tt := tYes) rfl scLawSizes.nd (pi_range1 (by rfl) B.range (pa_cons (pv 1) pa_nil)) (blkOk_by (own := [("_law_block", 3)]) (N := ["_law_row", "_law_many", "_law_most", "_law_block"]) (sc := defScope sLawSizes) (by decide +kernel))
        (fun _ _ _ _ _ => pg_name (i := 3) scLawSizes.nd rfl (Or.inl rfl)) (fun _ _ _ _ _ => pts_nil)
        (fun _ _ _ _ _ => pe_tup (pa_cons (pe_add pe_int (pe_call gT hr (by rfl) mT kT bT .nil pass0 (pa_cons (pv 0) (pa_cons (pv 2) pa_nil)))) (pa_cons (pe_add pe_int (pe_call gT hr (by rfl) mT kT bT .nil pass0 (pa_cons (pv 0) (pa_cons (pv 2) pa_nil)))) pa_nil))))
      pa_nil))), ?_⟩
  refine ⟨_, rfl, (n : Nat), rfl, by omega, by omega, fun D hD => ?_⟩
  have sD : Same H (L2.upd H D (.lst [])) := same_upd hD
  refine lc_range (lo := 0) (n := n) (fun i H' => Off r H H' ∧ RowAt K H' r s ns ∧ ∃ xs ss, H' D = some (.lst xs) ∧ Paired (SzAt H') xs ss ∧ ss.length = i ∧ Small ss)
    ⟨Off.of sD, hrow.same sD, [], [], upd_same, .nil, rfl, fun _ z => nomatch z⟩ (fun i H1 hi hP => ?_) (fun H1 hP => ?_)
  · obtain ⟨o1, r1, xs, ss, e1, p1, l1, sm1⟩ := hP
    have neD : D ≠ r := hrow.ne hD
    refine ⟨rfl, yesT ?_⟩
    refine ⟨_, rfl, _, rfl, r, s, ns, 9, rfl, r1, by decide, by decide, fun v1 H2 o2 r2 a1 b1 => ⟨_, _, rfl, rfl, ?_⟩⟩
    refine ⟨_, rfl, _, rfl, r, s, ns, 9, rfl, r2, by decide, by decide, fun v2 H3 o3 r3 a2 b2 => ⟨_, _, rfl, rfl, small (n := 2) (by decide), fun p np => ?_⟩⟩
    have s4 : Same H3 (L2.upd H3 p (.tup [.int (1 + v1), .int (1 + v2)])) := same_upd np
    have e4 : (L2.upd H3 p (.tup [.int (1 + v1), .int (1 + v2)])) p = some (.tup [.int (1 + v1), .int (1 + v2)]) := upd_same
    generalize L2.upd H3 p (.tup [.int (1 + v1), .int (1 + v2)]) = H4 at s4 e4 ⊢
    have r4 := r3.same s4
    have o14 : Off r H1 H4 := (o2.trans o3).trans (Off.of s4)
    have eD : H4 D = some (.lst xs) := o14 _ _ neD e1
    have lx : xs.length = ss.length := p1.length
    have t14 := r1.tups o14
    have tD : Tups H4 (L2.upd H4 D (.lst (xs ++ [.ref p]))) := Off.tups (Off.upd D H4 _) fun z e => by rw [eD] at e; cases e
    refine ⟨xs, eD, small1000 (by omega), ?_, ?_, _, ss ++ [(1 + v1, 1 + v2)], upd_same, ?_, ?_, ?_⟩
    · exact (hrow.upd r4 hD (o1.trans o14)).2
    · exact (hrow.upd r4 hD (o1.trans o14)).1
    · exact paired_snoc (paired_imp (fun x y z => z.keep (t14.trans tD)) p1) ⟨p, rfl, tD _ _ e4⟩
    · rw [List.length_append, l1]
      rfl
    · exact sm1.snoc ⟨by show 1 ≤ 1 + v1; omega, by show 1 + v1 ≤ 9; omega, by show 1 ≤ 1 + v2; omega, by show 1 + v2 ≤ 9; omega⟩
  · obtain ⟨o1, r1, xs, ss, e1, p1, l1, sm1⟩ := hP
    refine ⟨D, xs, rfl, .inl ⟨SqL.of e1, fun p np => ?_⟩⟩
    have s2 : Same H1 (L2.upd H1 p (.tup xs)) := same_upd np
    refine q p _ ss (o1.trans (Off.of s2)) (r1.same s2) ⟨xs, upd_same, paired_imp (fun x y z => z.keep (Same.tups s2)) p1, fun u hu => ?_, by omega, by omega⟩ l1 sm1
    have z := sm1 u hu
    exact ⟨by omega, by omega, by omega, by omega⟩
end
end K53

namespace K53
open PySem PySem.Spec PyProof.Rows L2
/-! ### _law_order -/
theorem ixN_in {n : Nat} {v : Int} (h0 : 0 ≤ v) (h1 : v < (n : Int)) : ixN n v = some v.toNat := by
  unfold ixN
  rw [if_pos h0, if_pos h1]
theorem seq_in {n : Nat} {v : Int} (h0 : 0 ≤ v) (h1 : v < (n : Int)) : seqIndex? v n = some v.toNat := (ixN_seq (ixN_in h0 h1)).1
theorem natV_get {bs : List Nat} {k : Nat} (h : k < bs.length) : (natV bs)[k]? = some (.int (bs[k] : Nat)) := by
  unfold natV
  rw [List.getElem?_map, List.getElem?_eq_getElem h]
  rfl
theorem erase_of_map {α β : Type} (f : α → β) : ∀ (l : List α) (k : Nat), (l.map f).eraseIdx k = (l.eraseIdx k).map f
  | [], _ => rfl
  | _ :: _, 0 => rfl
  | a :: r, k + 1 => congrArg (f a :: ·) (erase_of_map f r k)
theorem perm_erase {α : Type} : ∀ (l : List α) (k : Nat) (h : k < l.length), (l[k] :: l.eraseIdx k).Perm l
  | [], _, h => absurd h (Nat.not_lt_zero _)
  | a :: r, 0, _ => List.Perm.refl _
  | a :: r, k + 1, h => by
    have hk : k < r.length := Nat.lt_of_succ_lt_succ h
    have ih := perm_erase r k hk
    show (r[k] :: a :: r.eraseIdx k).Perm (a :: r)
    exact (List.Perm.swap a _ _).trans (ih.cons a)
theorem natV_erase (bs : List Nat) (k : Nat) : (natV bs).eraseIdx k = natV (bs.eraseIdx k) := by
  unfold natV
  rw [erase_of_map]
theorem natV_snoc (bs : List Nat) (b : Nat) : natV bs ++ [V.int (b : Nat)] = natV (bs ++ [b]) := by
  unfold natV
  rw [List.map_append]
  rfl
theorem natV_len (bs : List Nat) : (natV bs).length = bs.length := List.length_map _
abbrev sLawOrder : Stmt := topS 30
theorem scLawOrder : FnScope ["_law_row", "_law_many", "_law_left", "_law_found", "_law_turn"] ["_law_row", "_law_many"] (defScope sLawOrder) := ⟨rfl, rfl, rfl, by decide +kernel, rfl, by decide +kernel, by decide +kernel⟩
def spLawOrder (K : PySem.W.Frag) : Sp := fun vs H Q _ => ∃ (r s : Addr) (ns : List Int) (n : Nat), vs = [.ref r, .int (n : Nat)] ∧ RowAt K H r s ns ∧ 1 ≤ n ∧ n ≤ 7 ∧
  ∀ p H' bs, Off r H H' → RowAt K H' r s ns → H' p = some (.tup (natV bs)) → bs.Perm (List.range n) → Q (.ref p) H'
section
variable {P : Program} {w : World} {K : PySem.W.Frag} {mg : Str → Option Value} {base : Heap}
theorem ok_lawOrder {f : Addr} {fd : FuncData} {k : Nat} (B : Bi mg) (GT : Def P w K mg base "_law_taken" k ["_law_row", "_law_many"] (spTaken K)) (F : Fun K "_law_order" "_law_order" sLawOrder f fd) : FnOk P w K mg base CX0 (k + 1) f fd ["_law_row", "_law_many"] (spLawOrder K) := by
  obtain ⟨fT, fdT, gT, mT, kT, bT⟩ := GT.ex
  refine F.ok scLawOrder (fun vs H Q E h => ?_) (fun cdv A outer s₁ H vs Q E hr h => ?_)
  · obtain ⟨r, s, ns, n, rfl, _⟩ := h
    rfl
  obtain ⟨r, s, ns, n, rfl, hrow, n1, n7, q⟩ := h
  refine ⟨_, pss_cons (ps_par (i := 2) (j := 3) (by rfl) scLawOrder.nd rfl rfl (by decide) rfl rfl (pa_cons (pe_listRg rfl (by rfl) B.list (prg_1 (by rfl) B.range (pv 1))) (pa_cons (pe_lst pa_nil) pa_nil)) (by rfl))
    (pss_cons (ps_for PassesOwn.never rfl (pi_range1 (by rfl) B.range (pa_cons (pv 1) pa_nil)) (pg_name (i := 4) scLawOrder.nd rfl (.inl rfl))
      (pss_one (ps_expr (pe_bm PySem.F.plainAttrs_list PySem.F.slot_list_append PySem.F.type_list_append mt_append (pv 3) (pa_cons
        (pe_bm PySem.F.plainAttrs_list PySem.F.slot_list_pop PySem.F.type_list_pop mt_popAt (pv 2) (pa_cons
          (pe_call gT hr (by rfl) mT kT bT .nil pass0 (pa_cons (pv 0) (pa_cons (pe_callB call_len_seq (by rfl) B.len PySem.boot_len (pa_cons (pv 2) pa_nil)) pa_nil))) pa_nil)) pa_nil)))))
    (pss_one (ps_ret (pe_callTy call_tuple_of (by rfl) B.tuple boot_tuple (pa_cons (pv 3) pa_nil))))), ?_⟩
  refine ⟨_, rfl, _, rfl, RgOk.of_le (by omega) (by omega) (by omega) (by omega), fun p1 np1 => ?_⟩
  rw [rgV_ints, ← natV_ints]
  have s1 : Same H (L2.upd H p1 (.lst (natV (List.range n)))) := same_upd np1
  have e1 : (L2.upd H p1 (.lst (natV (List.range n)))) p1 = some (.lst (natV (List.range n))) := upd_same
  generalize L2.upd H p1 (.lst (natV (List.range n))) = H1 at s1 e1 ⊢
  refine ⟨small (n := 0) (by decide), fun p2 np2 => ?_⟩
  have s2 : Same H1 (L2.upd H1 p2 (.lst [])) := same_upd np2
  have e2 : (L2.upd H1 p2 (.lst [])) p2 = some (.lst (natV [])) := upd_same
  have e12 : (L2.upd H1 p2 (.lst [])) p1 = some (.lst (natV (List.range n))) := s2 _ _ e1
  have ne12 : p1 ≠ p2 := ne_of_none e1 np2
  have np2H : H p2 = none := Same.free s1 np2
  generalize L2.upd H1 p2 (.lst []) = H2 at s2 e2 e12 ⊢
  have sm := s1.trans s2
  refine ⟨_, _, rfl, ?_⟩
  refine ⟨_, rfl, _, rfl, by omega, by omega, ?_⟩
  refine for_range (lo := 0) (n := n) (fun i σ H' => ∃ y4 ls fs, σ = [some (.ref r), some (.int (n : Nat)), some (.ref p1), some (.ref p2), y4] ∧ Off r H H' ∧ RowAt K H' r s ns ∧ H' p1 = some (.lst (natV ls)) ∧ H' p2 = some (.lst (natV fs)) ∧ (fs ++ ls).Perm (List.range n) ∧ fs.length = i ∧ fs.length + ls.length = n)
    ⟨none, List.range n, [], rfl, Off.of sm, hrow.same sm, e12, e2, List.Perm.refl _, rfl, by rw [List.length_range]; exact Nat.zero_add n⟩ (fun i σ H3 hi hP => ?_) (fun σ H3 hP => ?_)
  · obtain ⟨y4, ls, fs, rfl, o3, r3, f1, f2, hpm, hl, hln⟩ := hP
    refine ⟨_, rfl, .inl ⟨rfl, _, SqL.of f2⟩, ?_⟩
    refine ⟨_, rfl, .inl ⟨rfl, _, SqL.of f1⟩, ?_⟩
    refine ⟨_, rfl, _, rfl, p1, _, rfl, .inl (SqL.of f1), r, s, ns, _, rfl, r3, by rw [natV_len]; omega, by rw [natV_len]; omega, fun v H4 o4 r4 a4 b4 => ?_⟩
    rw [natV_len] at b4
    have ne1 : p1 ≠ r := hrow.ne np1
    have ne2 : p2 ≠ r := hrow.ne np2H
    have g1 : H4 p1 = some (.lst (natV ls)) := o4 _ _ ne1 f1
    have g2 : H4 p2 = some (.lst (natV fs)) := o4 _ _ ne2 f2
    have hk : v.toNat < ls.length := by omega
    refine ⟨p1, natV ls, v, v.toNat, _, rfl, rfl, g1, by omega, by omega, by rw [natV_len]; exact seq_in a4 b4, natV_get hk, ?_⟩
    rw [natV_erase]
    have u5 := hrow.upd (o := .lst (natV (ls.eraseIdx v.toNat))) r4 np1 (o3.trans o4)
    have h1 : (L2.upd H4 p1 (.lst (natV (ls.eraseIdx v.toNat)))) p1 = some (.lst (natV (ls.eraseIdx v.toNat))) := upd_same
    have h2 : (L2.upd H4 p1 (.lst (natV (ls.eraseIdx v.toNat)))) p2 = some (.lst (natV fs)) := by rw [upd_ne (Ne.symm ne12)]; exact g2
    generalize L2.upd H4 p1 (.lst (natV (ls.eraseIdx v.toNat))) = H5 at u5 h1 h2 ⊢
    refine ⟨p2, natV fs, _, rfl, rfl, h2, by rw [natV_len]; exact small1000 (by omega), ?_⟩
    rw [natV_snoc]
    have u6 := hrow.upd (o := .lst (natV (fs ++ [ls[v.toNat]]))) u5.1 np2H u5.2
    refine ⟨_, ls.eraseIdx v.toNat, fs ++ [ls[v.toNat]], rfl, u6.2, u6.1, by rw [upd_ne ne12]; exact h1, upd_same, ?_, ?_, ?_⟩
    · rw [List.append_assoc]
      refine List.Perm.trans ?_ hpm
      exact List.Perm.append_left fs (perm_erase ls v.toNat hk)
    · rw [List.length_append, hl]
      rfl
    · rw [List.length_append, List.length_eraseIdx_of_lt hk]
      show fs.length + 1 + (ls.length - 1) = n
      omega
  · obtain ⟨y4, ls, fs, rfl, o3, r3, f1, f2, hpm, hl, hln⟩ := hP
    have els : ls = [] := List.eq_nil_of_length_eq_zero (by omega)
    subst els
    rw [List.append_nil] at hpm
    refine ⟨_, rfl, p2, _, rfl, .inl ⟨SqL.of f2, fun p3 np3 => ?_⟩⟩
    have s4 : Same H3 (L2.upd H3 p3 (.tup (natV fs))) := same_upd np3
    exact q p3 _ fs (o3.trans (Off.of s4)) (r3.same s4) upd_same hpm
end
/-! ### _law_bush -/
theorem cut_from (bs : List Nat) (k : Nat) : cutV (natV bs) (some ((k : Nat) : Int)) none = natV (bs.drop k) := by
  unfold cutV natV
  rw [HT.sIx_nat, HT.sIx_none, List.length_map, ← List.map_drop, ← List.map_take]
  congr 1
  by_cases h : k ≤ bs.length
  · rw [Nat.min_eq_left h, List.take_of_length_le (by rw [List.length_drop]; omega)]
  · rw [Nat.min_eq_right (by omega), List.drop_eq_nil_of_le (Nat.le_refl _), List.drop_eq_nil_of_le (by omega), List.take_nil]
theorem cut_one (b : Nat) (bs : List Nat) (k : Nat) (h : k ≤ bs.length) : cutV (natV (b :: bs)) (some 1) (some ((k + 1 : Nat) : Int)) = natV (bs.take k) := by
  unfold cutV natV
  have e1 : HT.sIx ((b :: bs).map fun b => V.int (b : Nat)).length 0 (some 1) = min 1 (bs.length + 1) := by
    rw [show (some (1 : Int)) = some ((1 : Nat) : Int) from rfl, HT.sIx_nat, List.length_map, List.length_cons]
  rw [e1, HT.sIx_nat, List.length_map, List.length_cons, Nat.min_eq_left (by omega), Nat.min_eq_left (by omega), Nat.add_sub_cancel, List.map_cons, List.drop_succ_cons, List.drop_zero, List.map_take]
abbrev sLawBush : Stmt := topS 32
theorem scLawBush : FnScope ["_law_row", "_law_blocks", "_law_left"] ["_law_row", "_law_blocks"] (defScope sLawBush) := ⟨rfl, rfl, rfl, by decide +kernel, rfl, by decide +kernel, by decide +kernel⟩
def spLawBush (K : PySem.W.Frag) (n : Nat) : Sp := fun vs H Q _ => ∃ (r s p : Addr) (ns : List Int) (bs : List Nat), vs = [.ref r, .ref p] ∧ RowAt K H r s ns ∧ H p = some (.lst (natV bs)) ∧ bs.length < n ∧ bs.length ≤ 63 ∧
  ∀ v H' t, Off r H H' → RowAt K H' r s ns → BuAt H' v t → t.blocks = bs → Q v H'
section
variable {P : Program} {w : World} {K : PySem.W.Frag} {mg : Str → Option Value} {base : Heap}
theorem step_lawBush {f : Addr} {fd : FuncData} {n k : Nat} (hk : 1 ≤ k) (B : Bi mg) (GT : Def P w K mg base "_law_taken" 1 ["_law_row", "_law_many"] (spTaken K)) (T : At K mg "_law_bush" sLawBush f fd ["_law_row", "_law_blocks"]) (G : FnOk P w K mg base CX0 k f fd ["_law_row", "_law_blocks"] (spLawBush K n)) : FnOk P w K mg base CX0 (k + 1) f fd ["_law_row", "_law_blocks"] (spLawBush K (n + 1)) := by
  obtain ⟨fT, fdT, gT, mT, kT, bT⟩ := (GT.mono hk).ex
  refine T.fn.ok scLawBush (fun vs H Q E h => ?_) (fun cdv A outer s₁ H vs Q E hr h => ?_)
  · obtain ⟨r, s, p, ns, bs, rfl, _⟩ := h
    rfl
  obtain ⟨r, s, p, ns, bs, rfl, hrow, hp, hn, h63, q⟩ := h
  refine ⟨_, pss_cons (ps_if (pt_cmpR (op_eqD hr.units) (pv 1) (pe_lst pa_nil) (nomark _)) (pss_one (ps_ret pe_non)) pss_nil)
    (pss_cons (ps_set (i := 2) scLawBush.nd rfl (.inl rfl) (pe_call gT hr (by rfl) mT kT bT .nil pass0 (pa_cons (pv 0) (pa_cons (pe_callB call_len_seq (by rfl) B.len PySem.boot_len (pa_cons (pv 1) pa_nil)) pa_nil))))
    (pss_one (ps_ret (pe_tup (pa_cons (pe_ix ix_list (pv 1) pe_int (fun _ _ => rfl))
      (pa_cons (pe_call G hr (by rfl) T.gl T.fn.kp T.bi .nil pass0 (pa_cons (pv 0) (pa_cons (pe_slice sl_list (pv 1) (po_some pe_int) (po_some (pe_add (pv 2) pe_int))) pa_nil)))
      (pa_cons (pe_call G hr (by rfl) T.gl T.fn.kp T.bi .nil pass0 (pa_cons (pv 0) (pa_cons (pe_slice sl_list (pv 1) (po_some (pe_add (pv 2) pe_int)) po_none) pa_nil))) pa_nil))))))), ?_⟩
  refine ⟨_, rfl, small (n := 0) (by decide), fun p0 np0 => ?_⟩
  have s0 : Same H (L2.upd H p0 (.lst [])) := same_upd np0
  have e0 : (L2.upd H p0 (.lst [])) p0 = some (.lst (([] : List Int).map V.int)) := upd_same
  generalize L2.upd H p0 (.lst []) = H0 at s0 e0 ⊢
  have hp0 := s0 _ _ hp
  have r0 := hrow.same s0
  refine eq_lists (ns := bs.map castI) (ms := []) (by rw [← natV_ints]; exact hp0) e0 ⟨_, rfl, ?_⟩
  cases bs with
  | nil => exact iteT (q .non H0 .nil (Off.of s0) r0 .nil rfl)
  | cons b bs =>
    rw [List.length_cons] at hn h63
    have ne : p ≠ r := by
      obtain ⟨c, z, g, _, h1, _⟩ := hrow
      intro e
      rw [e, h1] at hp
      cases hp
    refine ite_f (by rw [decide_eq_false]; intro z; cases z) ?_
    refine ⟨_, rfl, _, rfl, p, _, rfl, .inl (SqL.of hp0), r, s, ns, _, rfl, r0, by rw [natV_len, List.length_cons]; omega, by rw [natV_len, List.length_cons]; omega, fun v H1 o1 r1 a1 b1 => ?_⟩
    rw [natV_len, List.length_cons] at b1
    obtain ⟨k1, rfl⟩ : ∃ k1 : Nat, v = (k1 : Nat) := ⟨v.toNat, by omega⟩
    have hp1 := o1 _ _ ne hp0
    refine ⟨_, rfl, p, _, 0, .int (b : Nat), rfl, rfl, SqL.of hp1, atI_nat (j := 0) rfl, ?_⟩
    refine ⟨_, rfl, _, rfl, 1, rfl, _, rfl, _, _, rfl, rfl, _, rfl, p, _, rfl, SqL.of hp1, fun p2 np2 => ?_⟩
    have ec : cutV (natV (b :: bs)) (some 1) (some (((k1 : Nat) : Int) + 1)) = natV (bs.take k1) := cut_one b bs k1 (by omega)
    rw [ec]
    have s2 : Same H1 (L2.upd H1 p2 (.lst (natV (bs.take k1)))) := same_upd np2
    have e2 : (L2.upd H1 p2 (.lst (natV (bs.take k1)))) p2 = some (.lst (natV (bs.take k1))) := upd_same
    generalize L2.upd H1 p2 (.lst (natV (bs.take k1))) = H2 at s2 e2 ⊢
    refine ⟨r, s, p2, ns, bs.take k1, rfl, r1.same s2, e2, by rw [List.length_take]; omega, by rw [List.length_take]; omega, fun v3 H3 t3 o3 r3 b3 eb3 => ?_⟩
    have o13 : Off r H1 H3 := (Off.of s2).trans o3
    have hp3 := o13 _ _ ne hp1
    refine ⟨_, rfl, _, rfl, _, rfl, _, _, rfl, rfl, _, rfl, p, _, rfl, SqL.of hp3, fun p4 np4 => ?_⟩
    have ec2 : cutV (natV (b :: bs)) (some (((k1 : Nat) : Int) + 1)) none = natV (bs.drop k1) := cut_from (b :: bs) (k1 + 1)
    rw [ec2]
    have s4 : Same H3 (L2.upd H3 p4 (.lst (natV (bs.drop k1)))) := same_upd np4
    have e4 : (L2.upd H3 p4 (.lst (natV (bs.drop k1)))) p4 = some (.lst (natV (bs.drop k1))) := upd_same
    generalize L2.upd H3 p4 (.lst (natV (bs.drop k1))) = H4 at s4 e4 ⊢
    have r4 := r3.same s4
    refine ⟨r, s, p4, ns, bs.drop k1, rfl, r4, e4, by rw [List.length_drop]; omega, by rw [List.length_drop]; omega, fun v5 H5 t5 o5 r5 b5 eb5 => ?_⟩
    refine ⟨small (n := 3) (by decide), fun p6 np6 => ?_⟩
    have s6 : Same H5 (L2.upd H5 p6 (.tup [.int (b : Nat), v3, v5])) := same_upd np6
    have t35 : Tups H3 (L2.upd H5 p6 (.tup [.int (b : Nat), v3, v5])) := (r3.tups ((Off.of s4).trans o5)).trans (Same.tups s6)
    refine q _ _ (.node b t3 t5) ((Off.of s0).trans (o1.trans (o13.trans ((Off.of s4).trans (o5.trans (Off.of s6)))))) (r5.same s6) (.node upd_same (b3.keep t35) (b5.keep (Same.tups s6))) ?_
    show b :: (t3.blocks ++ t5.blocks) = b :: bs
    rw [eb3, eb5, List.take_append_drop]
theorem ok_lawBush {f : Addr} {fd : FuncData} (B : Bi mg) (GT : Def P w K mg base "_law_taken" 1 ["_law_row", "_law_many"] (spTaken K)) (T : At K mg "_law_bush" sLawBush f fd ["_law_row", "_law_blocks"]) : ∀ n : Nat, FnOk P w K mg base CX0 (n + 1) f fd ["_law_row", "_law_blocks"] (spLawBush K n)
  | 0 => ⟨fun vs H Q E ⟨_, _, _, _, _, _, _, _, hd, _⟩ => absurd hd (Nat.not_lt_zero _), fun A outer s H args us vs Q E _ _ _ _ ⟨_, _, _, _, _, _, _, _, hd, _⟩ => absurd hd (Nat.not_lt_zero _)⟩
  | n + 1 => step_lawBush (Nat.le_add_left 1 n) B GT T (ok_lawBush B GT T n)
end
end K53

namespace K53
open PySem PySem.Spec PyProof.Rows L2
/-! ### the waiting list as data -/
def buD : Bush → PyData
  | .nil => .none
  | .node b s t => .tuple [.int (b : Nat), buD s, buD t]
theorem buD_can : ∀ t : Bush, (buD t).canLay0 = true
  | .nil => rfl
  | .node b s t => by
    show (true && (PyData.canLay0 (buD s) && (PyData.canLay0 (buD t) && true))) = true
    rw [buD_can s, buD_can t]
    rfl
theorem buD_depth : ∀ t : Bush, (buD t).depth = t.depth
  | .nil => rfl
  | .node b s t => by
    show max 0 (max (PyData.depth (buD s)) (max (PyData.depth (buD t)) 0)) + 1 = max s.depth t.depth + 1
    rw [buD_depth s, buD_depth t]
    omega
theorem dp_bush {K : PySem.W.Frag} {H : Hp} {v : V} {t : Bush} (h : BuAt H v t) : Dp K H v (buD t) := by
  induction h with
  | nil => exact .non
  | node e _ _ i1 i2 => exact .tup (SqT.of e) (.cons (.int _) (.cons i1 (.cons i2 .nil)))
/-- a bush waits, with its place -/
def WaAt (H : Hp) (v : V) (w : Bush × Int) : Prop := ∃ a u, v = .ref a ∧ H a = some (.tup [u, .int w.2]) ∧ BuAt H u w.1
theorem WaAt.keep {H H' : Hp} {v : V} {w : Bush × Int} (h : WaAt H v w) (k : Tups H H') : WaAt H' v w := by
  obtain ⟨a, u, e, q, b⟩ := h
  exact ⟨a, u, e, k _ _ q, b.keep k⟩
def waD (ws : List (Bush × Int)) : List PyData := ws.map fun w => .tuple [buD w.1, .int w.2]
theorem waD_can : ∀ ws : List (Bush × Int), PyData.canLayAll0 (waD ws) = true
  | [] => rfl
  | w :: r => by
    show ((PyData.canLay0 (buD w.1) && (true && true)) && PyData.canLayAll0 (waD r)) = true
    rw [buD_can, waD_can r]
    rfl
theorem waD_depth : ∀ ws : List (Bush × Int), (∀ w ∈ ws, w.1.depth ≤ 8) → PyData.depthAll (waD ws) ≤ 9
  | [], _ => Nat.zero_le _
  | w :: r, h => by
    have h1 := h w List.mem_cons_self
    have h2 := waD_depth r fun u hu => h u (List.mem_cons_of_mem _ hu)
    show max (max (PyData.depth (buD w.1)) (max 0 0) + 1) (PyData.depthAll (waD r)) ≤ 9
    rw [buD_depth]
    omega
theorem dp_wait {K : PySem.W.Frag} {H : Hp} : ∀ {xs : List V} {ws : List (Bush × Int)}, Paired (WaAt H) xs ws → DpAll K H xs (waD ws)
  | _, _, .nil => .nil
  | _, _, .cons h t => by
    obtain ⟨a, u, e, q, b⟩ := h
    subst e
    exact .cons (.tup (SqT.of q) (.cons (dp_bush b) (.cons (.int _) .nil))) (dp_wait t)
/-- the test of the waiting list -/
theorem ne_wait {K : PySem.W.Frag} {H : Hp} {a b : Addr} {xs : List V} {ws : List (Bush × Int)} {Q : VK} (ha : H a = some (.lst xs)) (hp : Paired (WaAt H) xs ws) (hd : ∀ w ∈ ws, w.1.depth ≤ 8) (hb : H b = some (.lst [])) (q : Q (.bl (!ws.isEmpty)) H) : rNeD K (.ref a) (.ref b) H Q :=
  ⟨_, _, .lst (SqL.of ha) (dp_wait hp), .lst (SqL.of hb) .nil, shaped_of (waD_can ws) (by show PyData.depthAll (waD ws) + 1 ≤ 64; have := waD_depth ws hd; omega), shaped_ints [], by
    show Q (.bl (!PyData.eqvAll (waD ws) [])) H
    rw [eqv_nil]
    cases ws with
    | nil => exact q
    | cons w r => exact q⟩
theorem fin_keys (sz : Sz) : ∀ (ws : List (Bush × Int)) (f : List (Nat × Spot)), (fin sz ws f).map (·.1) = f.map (·.1) ++ ws.flatMap fun w => w.1.blocks
  | [], f => by simp [fin]
  | (t, l) :: r, f => by
    show (fin sz r (place sz t l f)).map (·.1) = _
    rw [fin_keys sz r, place_keys]
    simp [List.flatMap_cons]
theorem paired_pop {α β : Type} {F : α → β → Prop} {b : β} : ∀ {xs : List α} {ys : List β}, Paired F xs (ys ++ [b]) → ∃ zs x, xs = zs ++ [x] ∧ Paired F zs ys ∧ F x b
  | [], [], h => nomatch h
  | [], _ :: _, h => nomatch h
  | x :: xs, [], .cons h t => by
    cases t
    exact ⟨[], x, rfl, .nil, h⟩
  | x :: xs, y :: ys, .cons h t => by
    obtain ⟨zs, z, e, p, q⟩ := paired_pop t
    exact ⟨x :: zs, z, by rw [e]; rfl, .cons h p, q⟩
theorem same_off {H H' : Hp} {d : Addr} {o : HO} (s : Same H H') (n : H d = none) : Same H (upd H' d o) := fun b u e => by
  rw [upd_ne (ne_of_none e n)]
  exact s b u e
theorem size_pos (t : Bush) : 0 < t.size := by
  cases t with
  | nil => exact Nat.succ_pos _
  | node b s t => exact Nat.succ_pos _
/-! ### _law_grown -/
abbrev sLawGrown : Stmt := topS 33
abbrev nLawGrown : List Str := ["_law_sizes_here", "_law_bush_here", "_law_found", "_law_waiting", "_law_here", "_law_left", "_law_block", "_law_beside", "_law_above", "_law_wide", "_law_high", "_law_low", "_law_spot"]
theorem scLawGrown : FnScope nLawGrown ["_law_sizes_here", "_law_bush_here"] (defScope sLawGrown) := ⟨rfl, rfl, rfl, by decide +kernel, rfl, by decide +kernel, by decide +kernel⟩
/-- the state of the walk: f the spots so far, ws what waits, the next last -/
structure GrSt (H0 : Hp) (ss : List (Int × Int)) (t0 : Bush) (d p : Addr) (H : Hp) (f : List (Nat × Spot)) (ws : List (Bush × Int)) : Prop where
  same : Same H0 H
  dict : ∃ kvs, H d = some (.dK kvs) ∧ KAt H kvs f
  wait : ∃ xs, H p = some (.lst xs) ∧ Paired (WaAt H) xs ws
  new : H0 p = none
  on : fin (szOf ss) ws.reverse f = place (szOf ss) t0 0 []
  few : ws.length ≤ f.length + 1
theorem GrSt.keys {H0 : Hp} {ss : List (Int × Int)} {t0 : Bush} {d p : Addr} {H : Hp} {f : List (Nat × Spot)} {ws : List (Bush × Int)} (g : GrSt H0 ss t0 d p H f ws) : f.map (·.1) ++ (ws.reverse.flatMap fun w => w.1.blocks) = t0.blocks := by
  rw [← fin_keys (szOf ss), g.on, place_keys]
  rfl
theorem GrSt.small {H0 : Hp} {ss : List (Int × Int)} {t0 : Bush} {d p : Addr} {H : Hp} {f : List (Nat × Spot)} {ws : List (Bush × Int)} (g : GrSt H0 ss t0 d p H f ws) (h8 : t0.blocks.length ≤ 8) : ∀ w ∈ ws, w.1.depth ≤ 8 := fun w hw => by
  have k := congrArg List.length g.keys
  rw [List.length_append] at k
  have h1 := Bush.depth_le w.1
  have h2 : w.1.blocks.length ≤ (ws.reverse.flatMap fun w => w.1.blocks).length := by
    refine List.Sublist.length_le ?_
    exact List.sublist_flatten_of_mem (List.mem_map.mpr ⟨w, List.mem_reverse.mpr hw, rfl⟩)
  omega
/-- the next one is a block: it is new, and has a size -/
theorem GrSt.head {H0 : Hp} {ss : List (Int × Int)} {t0 : Bush} {d p : Addr} {H : Hp} {f : List (Nat × Spot)} {ws : List (Bush × Int)} {b : Nat} {s t : Bush} {l : Int} (g : GrSt H0 ss t0 d p H f (ws ++ [(.node b s t, l)])) (hp : t0.blocks.Perm (List.range ss.length)) (h8 : ss.length ≤ 8) : b < ss.length ∧ b ∉ f.map (·.1) ∧ f.length < 63 := by
  have k := g.keys
  rw [List.reverse_append] at k
  have k2 : f.map (·.1) ++ ((b :: (s.blocks ++ t.blocks)) ++ (ws.reverse.flatMap fun w => w.1.blocks)) = t0.blocks := k
  have nd : t0.blocks.Nodup := hp.nodup_iff.mpr List.nodup_range
  obtain ⟨h1, h2⟩ := perm_small hp
  refine ⟨h2 b (by rw [← k2]; simp), fun z => ?_, ?_⟩
  · rw [← k2] at nd
    exact (List.nodup_append.mp nd).2.2 b z b (by simp) rfl
  · have kl := congrArg List.length k2
    rw [List.length_append, List.length_map] at kl
    omega
end K53

namespace K53
open PySem PySem.Spec PyProof.Rows L2
theorem restOn_take {ss : List Spot} {i : Nat} {s : Spot} {l w : Int} (h : ss[i]? = some s) : restOn (ss.take (i + 1)) l w = step1 l w (restOn (ss.take i) l w) s := by
  rw [List.take_add_one, h]
  exact restOn_snoc _ _ _ _
theorem GrSt.keep {H0 : Hp} {ss : List (Int × Int)} {t0 : Bush} {d p : Addr} {H H' : Hp} {f : List (Nat × Spot)} {ws : List (Bush × Int)} (g : GrSt H0 ss t0 d p H f ws) (s : Same H H') : GrSt H0 ss t0 d p H' f ws := by
  obtain ⟨kvs, k1, k2⟩ := g.dict
  obtain ⟨xs, x1, x2⟩ := g.wait
  exact ⟨g.same.trans s, ⟨kvs, s _ _ k1, k2.keep (Same.tups s)⟩, ⟨xs, s _ _ x1, paired_imp (fun _ _ z => z.keep (Same.tups s)) x2⟩, g.new, g.on, g.few⟩
/-- between two turns of the while -/
def GrW (H0 : Hp) (ss : List (Int × Int)) (t0 : Bush) (a d : Addr) (v : V) (m : Nat) (σ : L2.St) (H : Hp) : Prop := ∃ p f ws y4 y5 y6 y7 y8 y9 y10 y11 y12, σ = [some (.ref a), some v, some (.ref d), some (.ref p), y4, y5, y6, y7, y8, y9, y10, y11, y12] ∧ work ws = m ∧ GrSt H0 ss t0 d p H f ws
section
variable {P : Program} {w : World} {K : PySem.W.Frag} {mg : Str → Option Value} {base : Heap}
theorem ok_lawGrown {f : Addr} {fd : FuncData} {k : Nat} (B : Bi mg) (F : Fun K "_law_grown" "_law_grown" sLawGrown f fd) : FnOk P w K mg base CX0 (k + 1) f fd ["_law_sizes_here", "_law_bush_here"] spPackedBush := by
  refine F.ok scLawGrown (fun vs H Q E h => ?_) (fun cdv A outer s₁ H vs Q E hr h => ?_)
  · obtain ⟨a, ss, v, t, rfl, _⟩ := h
    rfl
  obtain ⟨a, ss, v, t0, rfl, hs, hb, hperm, q⟩ := h
  obtain ⟨hlen, hlt⟩ := perm_small hperm
  have hs' := hs
  obtain ⟨xs, ha, hp, _, l1, l8⟩ := hs'
  have hl : xs.length = ss.length := hp.length
  have nd := scLawGrown.nd
  refine ⟨_, pss_cons (ps_asg (pe_tup (pa_cons pe_dnewK (pa_cons (pe_lst (pa_cons (pe_tup (pa_cons (pv 1) (pa_cons pe_int pa_nil))) pa_nil)) pa_nil))) (pg_tup rfl (pgs_cons (pg_name (i := 2) nd rfl (.inr rfl)) (pgs_cons (pg_name (i := 3) nd rfl (.inl rfl)) pgs_nil))))
    (pss_cons (ps_while PassesOwn.never (pt_cmpR (op_neD hr.units) (pv 3) (pe_lst pa_nil) (nomark _))
      (pss_cons (ps_asg (pe_bm0 PySem.F.plainAttrs_list PySem.F.slot_list_pop PySem.F.type_list_pop mt_pop (pv 3)) (pg_tup rfl (pgs_cons (pg_name (i := 4) nd rfl (.inl rfl)) (pgs_cons (pg_name (i := 5) nd rfl (.inl rfl)) pgs_nil))))
      (pss_one (ps_if (pt_cmpR op_notN (pv 4) pe_non (nomark _))
        (pss_cons (ps_asg (pv 4) (pg_tup rfl (pgs_cons (pg_name (i := 6) nd rfl (.inl rfl)) (pgs_cons (pg_name (i := 7) nd rfl (.inl rfl)) (pgs_cons (pg_name (i := 8) nd rfl (.inl rfl)) pgs_nil)))))
        (pss_cons (ps_asg (pe_ix ix_tup (pv 0) (pv 6) (fun _ _ => rfl)) (pg_tup rfl (pgs_cons (pg_name (i := 9) nd rfl (.inl rfl)) (pgs_cons (pg_name (i := 10) nd rfl (.inl rfl)) pgs_nil))))
        (pss_cons (ps_set (i := 11) nd rfl (.inl rfl) pe_int)
        (pss_cons (ps_for PassesOwn.never rfl (pi_list (pe_callTy (call_listVw rfl) (by rfl) B.list boot_list (pa_cons (pe_vals (pv 2)) pa_nil))) (pg_name (i := 12) nd rfl (.inl rfl))
          (pss_one (ps_if (PW.pt (pw_and (pt_cmp (pc_lt (pe_ix ix_tup (pv 12) pe_int (fun _ _ => rfl)) (pe_add (pv 5) (pv 9)))) (pw_and1 (pt_cmp (pc_lt (pv 5) (pe_add (pe_ix ix_tup (pv 12) pe_int (fun _ _ => rfl)) (pe_ix ix_tup (pv 12) pe_int (fun _ _ => rfl))))))))
            (pss_one (ps_set (i := 11) nd rfl (.inl rfl) (pe_callB (call_max2 rfl) (by rfl) B.max boot_max (pa_cons (pv 11) (pa_cons (pe_add (pe_ix ix_tup (pv 12) pe_int (fun _ _ => rfl)) (pe_ix ix_tup (pv 12) pe_int (fun _ _ => rfl))) pa_nil))))) pss_nil)))
        (pss_cons (ps_dput (hu_of hr) (pv 2) (pv 6) (pe_tup (pa_cons (pv 5) (pa_cons (pv 11) (pa_cons (pv 9) (pa_cons (pv 10) pa_nil))))) rfl)
        (pss_one (ps_set (i := 3) nd rfl (.inl rfl) (pe_op op_cat (pv 3) (pe_lst (pa_cons (pe_tup (pa_cons (pv 8) (pa_cons (pv 5) pa_nil))) (pa_cons (pe_tup (pa_cons (pv 7) (pa_cons (pe_add (pv 5) (pv 9)) pa_nil))) pa_nil))))))))))) pss_nil))))
    (pss_one (ps_ret (pe_callTy call_tuple_of (by rfl) B.tuple boot_tuple (pa_cons
      (pe_lc (own := [("_law_block", 6)]) (g := gName 6) (tt := tYes) rfl nd (pi_range1 (by rfl) B.range (pa_cons (pe_callB call_len_seq (by rfl) B.len PySem.boot_len (pa_cons (pv 0) pa_nil)) pa_nil)) (blkOk_by (own := [("_law_block", 6)]) (N := nLawGrown) (sc := defScope sLawGrown) (by decide +kernel))
        (fun _ _ _ _ _ => pg_name (i := 6) nd rfl (Or.inl rfl)) (fun _ _ _ _ _ => pts_nil)
        (fun _ _ _ _ _ => pe_dget (hu_of hr) (pv 2) (pv 6) (fun _ _ => rfl)))
      pa_nil))))), ?_⟩
  -- the start
  refine fun d nd1 => ⟨_, rfl, small (n := 2) (by decide), fun pt npt => ⟨small (n := 1) (by decide), fun pl npl => ⟨small (n := 2) (by decide), fun pp npp => ⟨pp, _, rfl, SqT.of upd_same, rfl, _, _, rfl, _, [], rfl, rfl, ?_⟩⟩⟩⟩
  have t1 : Same H (L2.upd H d (.dK [])) := same_upd nd1
  have c1 : (L2.upd H d (.dK [])) d = some (.dK []) := upd_same
  generalize L2.upd H d (.dK []) = H1 at t1 c1 npt npl npp ⊢
  have t2 : Same H1 (L2.upd H1 pt (.tup [v, .int 0])) := same_upd npt
  have c2 : (L2.upd H1 pt (.tup [v, .int 0])) pt = some (.tup [v, .int 0]) := upd_same
  generalize L2.upd H1 pt (.tup [v, .int 0]) = H2 at t2 c2 npl npp ⊢
  have t3 : Same H2 (L2.upd H2 pl (.lst [.ref pt])) := same_upd npl
  have c3 : (L2.upd H2 pl (.lst [.ref pt])) pl = some (.lst [.ref pt]) := upd_same
  generalize L2.upd H2 pl (.lst [.ref pt]) = H3 at t3 c3 npp ⊢
  have t4 : Same H3 (L2.upd H3 pp (.tup [.ref d, .ref pl])) := same_upd npp
  generalize L2.upd H3 pp (.tup [.ref d, .ref pl]) = H4 at t4 ⊢
  have t24 := t2.trans (t3.trans t4)
  have t14 := t1.trans t24
  have start : GrSt H ss t0 d pl H4 [] [(t0, 0)] := ⟨t14, ⟨[], t24 _ _ c1, .nil⟩, ⟨[.ref pt], t4 _ _ c3, .cons ⟨pt, v, rfl, t4 _ _ (t3 _ _ c2), hb.keep (Same.tups t14)⟩ .nil⟩, Same.free (t1.trans t2) npl, rfl, Nat.le_refl _⟩
  refine ⟨GrW H ss t0 a d v, ⟨_, pl, [], [(t0, 0)], none, none, none, none, none, none, none, none, none, rfl, rfl, start⟩, ?_⟩
  clear start t4 t24 t14 c3 t3 c2 t2 c1 t1 npp npl npt
  rintro m σ H5 ⟨p, fo, ws, y4, y5, y6, y7, y8, y9, y10, y11, y12, rfl, hm, g⟩
  refine ⟨_, rfl, small (n := 0) (by decide), fun p0 np0 => ?_⟩
  have g6 := g.keep (same_upd (o := .lst []) np0)
  have e6 : (L2.upd H5 p0 (.lst [])) p0 = some (.lst []) := upd_same
  generalize L2.upd H5 p0 (.lst []) = H6 at g6 e6 ⊢
  clear g np0
  have hdep := g6.small (by omega)
  obtain ⟨kvs, k1, k2⟩ := g6.dict
  obtain ⟨zs, x1, x2⟩ := g6.wait
  refine ne_wait x1 x2 hdep e6 ⟨_, rfl, ?_⟩
  rcases List.eq_nil_or_concat ws with e | ⟨init, w1, e⟩
  · -- nothing waits: the end
    subst e
    refine iteF ?_
    have ef : fo = place (szOf ss) t0 0 [] := g6.on
    subst ef
    have hk := keys_all (ss := ss) hperm
    have ha6 := g6.same _ _ ha
    refine ⟨_, rfl, a, xs, rfl, .inr (SqT.of ha6), (xs.length : Nat), rfl, by omega, by omega, fun D hD => ?_⟩
    refine lc_all (walk_rangeA (n := xs.length)) (fun _ _ => trivial) hD (refsOf kvs xs.length) (refs_len _ _).symm (by omega) (fun i x y H7 kk hi hx hy s7 hkk => ?_) (fun H7 s7 e7 => ?_)
    · obtain ⟨_, ey⟩ := refs_get hy
      have ex : x = .int (i : Nat) := by
        rw [List.getElem?_map, List.getElem?_range hi] at hx
        exact (Option.some.inj hx).symm
      subst ex
      obtain ⟨v1, q1, _⟩ := k2.look (hk i (by omega))
      rw [q1] at ey
      have ey' : y = v1 := ey
      subst ey'
      refine ⟨_, rfl, _, rfl, d, y, rfl, ?_, hkk H7 (Same.refl H7)⟩
      have z := DGet.k (k := Sum.inl ((i : Nat) : Int)) (s7 _ _ k1)
      rw [q1] at z
      exact z
    · refine ⟨D, _, rfl, .inl ⟨SqL.of e7, fun pz npz => ?_⟩⟩
      have s8 : Same H7 (L2.upd H7 pz (.tup (refsOf kvs xs.length))) := same_upd npz
      have sm8 := s7.trans s8
      refine q _ pz (g6.same.trans sm8) ⟨_, upd_same, ?_⟩
      have z := refs_res (n := xs.length) (k2.keep (Same.tups sm8)) (fun b hb => hk b (by omega))
      unfold res
      rw [← hl]
      exact z
  · -- the next one
    rw [List.concat_eq_append] at e
    subst e
    refine ite_t (by simp) ⟨fun σ' H' => ∃ m', m' < m ∧ GrW H ss t0 a d v m' σ' H', fun σ' H' h => h, ?_⟩
    obtain ⟨zs, x, rfl, pz, ⟨a1, u, ex, ea1, hbu⟩⟩ := paired_pop x2
    subst ex
    obtain ⟨tn, l⟩ := w1
    have hget : (zs ++ [V.ref a1])[(zs ++ [V.ref a1]).length - 1]? = some (.ref a1) := by
      rw [List.length_append]
      show (zs ++ [V.ref a1])[zs.length + 1 - 1]? = _
      rw [Nat.add_sub_cancel, List.getElem?_append_right (Nat.le_refl _), Nat.sub_self]
      rfl
    have nedp : d ≠ p := ne_of k1 x1 (by intro z; cases z)
    refine ⟨_, rfl, .inl ⟨rfl, _, SqL.of x1⟩, p, _, _, rfl, rfl, x1, hget, ?_⟩
    rw [List.dropLast_concat]
    have sm7 : Same H (L2.upd H6 p (.lst zs)) := same_off g6.same g6.new
    have tu7 : Tups H6 (L2.upd H6 p (.lst zs)) := Off.tups (Off.upd p H6 _) fun z y => by rw [x1] at y; cases y
    have p7 : (L2.upd H6 p (.lst zs)) p = some (.lst zs) := upd_same
    have k7 : (L2.upd H6 p (.lst zs)) d = some (.dK kvs) := by rw [upd_ne nedp]; exact k1
    generalize L2.upd H6 p (.lst zs) = H7 at sm7 tu7 p7 k7 ⊢
    have ka7 := k2.keep tu7
    have pz7 : Paired (WaAt H7) zs init := paired_imp (fun _ _ z => z.keep tu7) pz
    have hbu7 := hbu.keep tu7
    refine ⟨a1, _, rfl, SqT.of (tu7 _ _ ea1), rfl, u, _, rfl, .int l, [], rfl, rfl, ?_⟩
    have on := g6.on
    rw [List.reverse_append] at on
    rw [work_snoc] at hm
    have few := g6.few
    rw [List.length_append] at few
    have few : init.length + 1 ≤ fo.length + 1 := few
    cases hbu7 with
    | nil =>
      refine ⟨_, rfl, rfl, _, rfl, iteF ?_⟩
      exact ⟨work init, by have := size_pos .nil; omega, p, fo, init, _, _, _, _, _, _, _, _, _, rfl, rfl, ⟨sm7, ⟨kvs, k7, ka7⟩, ⟨zs, p7, pz7⟩, g6.new, on, by omega⟩⟩
    | @node c b x y s t hc h1 h2 =>
      obtain ⟨hb1, hb2, hb3⟩ := g6.head hperm l8
      have hxb : xs[b]? = some xs[b] := List.getElem?_eq_getElem (by omega)
      obtain ⟨⟨sw, sh⟩, g1, ⟨c2, ec2, g2⟩⟩ := paired_get hp hxb
      have esz : szOf ss b = (sw, sh) := szOf_get g1
      refine ⟨_, rfl, rfl, _, rfl, iteT ?_⟩
      refine ⟨_, rfl, c, _, rfl, SqT.of hc, rfl, _, _, rfl, x, _, rfl, y, [], rfl, rfl, ?_⟩
      refine ⟨_, rfl, _, rfl, a, xs, (b : Nat), .ref c2, rfl, rfl, SqT.of (sm7 _ _ ha), atI_nat (by rw [hxb, ec2]), ?_⟩
      refine ⟨c2, _, rfl, SqT.of (sm7 _ _ g2), rfl, _, _, rfl, .int sh, [], rfl, rfl, ?_⟩
      -- low = 0, the spots so far
      refine ⟨_, rfl, d, kvs, rfl, k7, fun v1 n1 => ?_⟩
      have s8 : Same H7 (L2.upd H7 v1 (vwO v1 d)) := same_upd n1
      have e8 : (L2.upd H7 v1 (vwO v1 d)) v1 = some (vwO v1 d) := upd_same
      generalize L2.upd H7 v1 (vwO v1 d) = H8 at s8 e8 ⊢
      refine ⟨v1, d, kvs, rfl, e8, s8 _ _ k7, fun p9 np9 => ?_⟩
      have s9 : Same H8 (L2.upd H8 p9 (.lst (kvs.map (·.2)))) := same_upd np9
      have e9 : (L2.upd H8 p9 (.lst (kvs.map (·.2)))) p9 = some (.lst (kvs.map (·.2))) := upd_same
      generalize L2.upd H8 p9 (.lst (kvs.map (·.2))) = H9 at s9 e9 ⊢
      have s79 := s8.trans s9
      have ka9 := ka7.keep (Same.tups s79)
      have hv := ka9.vals
      refine ⟨p9, rfl, ⟨_, SqL.of e9⟩, ?_⟩
      refine for_it (walk_list (K := K) (a := p9) (xs := kvs.map (·.2))) (fun i σ H' => H' = H9 ∧ ∃ y12, σ = [some (.ref a), some v, some (.ref d), some (.ref p), some (.ref c), some (.int l), some (.int (b : Nat)), some x, some y, some (.int sw), some (.int sh), some (.int (restOn ((fo.map (·.2)).take i) l sw)), y12])
        ⟨rfl, _, rfl⟩ (fun i σ H' _ h => h.1 ▸ SqL.of e9) (fun i z σ H1 H2 hi hP hy => ?_) (fun σ H9x hP => ?_)
      · obtain ⟨eH, y12, rfl⟩ := hP
        obtain ⟨eH2, hz⟩ := hy
        subst eH2 eH
        obtain ⟨sp, gs, ⟨b2, eb2, hb2⟩⟩ := paired_get hv hz
        subst eb2
        have st := restOn_take (l := l) (w := sw) gs
        refine ⟨_, rfl, b2, _, 0, .int sp.l, rfl, rfl, SqT.of hb2, atI_nat (j := 0) rfl, _, rfl, _, rfl, _, _, rfl, rfl, _, _, rfl, rfl, _, rfl, and2 (fun (ea : decide (sp.l < l + sw) = true) => ?_) (fun (ea : decide (sp.l < l + sw) = false) => ?_)⟩
        · refine ⟨_, rfl, _, rfl, b2, _, 0, .int sp.l, rfl, rfl, SqT.of hb2, atI_nat (j := 0) rfl, _, rfl, b2, _, 2, .int sp.w, rfl, rfl, SqT.of hb2, atI_nat (j := 2) rfl, _, _, rfl, rfl, _, _, rfl, rfl, _, rfl, and2 (fun (eb : decide (l < sp.l + sp.w) = true) => ?_) (fun (eb : decide (l < sp.l + sp.w) = false) => ?_)⟩
          · refine ⟨_, rfl, _, rfl, b2, _, 1, .int sp.y, rfl, rfl, SqT.of hb2, atI_nat (j := 1) rfl, _, rfl, b2, _, 3, .int sp.h, rfl, rfl, SqT.of hb2, atI_nat (j := 3) rfl, _, _, rfl, rfl, _, _, rfl, ?_⟩
            refine ⟨rfl, some (.ref b2), ?_⟩
            rw [st]
            unfold step1
            rw [if_pos (show ov1 sp l sw = true by unfold ov1; rw [ea, eb]; rfl)]
            rfl
          · refine ⟨rfl, some (.ref b2), ?_⟩
            rw [st]
            unfold step1
            rw [if_neg (show ¬ ov1 sp l sw = true by unfold ov1; rw [eb]; simp)]
            rfl
        · refine iteF ⟨rfl, some (.ref b2), ?_⟩
          rw [st]
          unfold step1
          rw [if_neg (show ¬ ov1 sp l sw = true by unfold ov1; rw [ea]; simp)]
          rfl
      · obtain ⟨eH, y12, rfl⟩ := hP
        subst eH
        rw [List.length_map, ka9.len, List.take_of_length_le (by rw [List.length_map]; exact Nat.le_refl _)]
        -- the store of the new spot
        refine ⟨_, rfl, _, rfl, _, rfl, _, rfl, small (n := 4) (by decide), fun pn npn => ?_⟩
        have s10 : Same H9x (L2.upd H9x pn (.tup [.int l, .int (restOn (fo.map (·.2)) l sw), .int sw, .int sh])) := same_upd npn
        have e10 : (L2.upd H9x pn (.tup [.int l, .int (restOn (fo.map (·.2)) l sw), .int sw, .int sh])) pn = some (.tup [.int l, .int (restOn (fo.map (·.2)) l sw), .int sw, .int sh]) := upd_same
        generalize L2.upd H9x pn (.tup [.int l, .int (restOn (fo.map (·.2)) l sw), .int sw, .int sh]) = H10 at s10 e10 ⊢
        have s710 := s79.trans s10
        have k10 := s710 _ _ k7
        have p10 := s710 _ _ p7
        have kl := ka7.len
        refine ⟨_, rfl, _, rfl, d, _, rfl, DPut.k (k := Sum.inl (b : Int)) k10 (small1000 (by omega)), ?_⟩
        rw [putK_new _ (ka7.new hb2)]
        have tu11 : Tups H10 (L2.upd H10 d (.dK (kvs ++ [(Sum.inl (b : Int), V.ref pn)]))) := tups_off (Off.upd d H10 _) k10
        have e11 : (L2.upd H10 d (.dK (kvs ++ [(Sum.inl (b : Int), V.ref pn)]))) d = some (.dK (kvs ++ [(Sum.inl (b : Int), V.ref pn)])) := upd_same
        have p11 : (L2.upd H10 d (.dK (kvs ++ [(Sum.inl (b : Int), V.ref pn)]))) p = some (.lst zs) := by rw [upd_ne (Ne.symm nedp)]; exact p10
        have sm11 : Same H (L2.upd H10 d (.dK (kvs ++ [(Sum.inl (b : Int), V.ref pn)]))) := same_off (sm7.trans s710) nd1
        generalize L2.upd H10 d (.dK (kvs ++ [(Sum.inl (b : Int), V.ref pn)])) = H11 at tu11 e11 p11 sm11 ⊢
        have tu711 : Tups H7 H11 := (Same.tups s710).trans tu11
        have new : SpAt H11 (.ref pn) (spotAt (szOf ss) b l (fo.map (·.2))) := ⟨pn, rfl, by
          unfold spotAt
          rw [esz]
          exact tu11 _ _ e10⟩
        have ka11 : KAt H11 (kvs ++ [(Sum.inl (b : Int), V.ref pn)]) (fo ++ [(b, spotAt (szOf ss) b l (fo.map (·.2)))]) := paired_snoc (ka7.keep tu711) ⟨rfl, new⟩
        -- the two that wait
        refine ⟨_, rfl, _, rfl, _, rfl, small (n := 2) (by decide), fun q1 nq1 => ?_⟩
        have s12 : Same H11 (L2.upd H11 q1 (.tup [y, .int l])) := same_upd nq1
        have e12 : (L2.upd H11 q1 (.tup [y, .int l])) q1 = some (.tup [y, .int l]) := upd_same
        generalize L2.upd H11 q1 (.tup [y, .int l]) = H12 at s12 e12 ⊢
        refine ⟨_, rfl, _, rfl, _, rfl, _, _, rfl, rfl, small (n := 2) (by decide), fun q2 nq2 => ?_⟩
        have s13 : Same H12 (L2.upd H12 q2 (.tup [x, .int (l + sw)])) := same_upd nq2
        have e13 : (L2.upd H12 q2 (.tup [x, .int (l + sw)])) q2 = some (.tup [x, .int (l + sw)]) := upd_same
        generalize L2.upd H12 q2 (.tup [x, .int (l + sw)]) = H13 at s13 e13 ⊢
        refine ⟨small (n := 2) (by decide), fun q3 nq3 => ?_⟩
        have s14 : Same H13 (L2.upd H13 q3 (.lst [.ref q1, .ref q2])) := same_upd nq3
        have e14 : (L2.upd H13 q3 (.lst [.ref q1, .ref q2])) q3 = some (.lst [.ref q1, .ref q2]) := upd_same
        generalize L2.upd H13 q3 (.lst [.ref q1, .ref q2]) = H14 at s14 e14 ⊢
        have s1114 := s12.trans (s13.trans s14)
        have lz : zs.length = init.length := pz7.length
        refine ⟨p, q3, zs, _, rfl, rfl, s1114 _ _ p11, e14, by show zs.length + 2 ≤ sizeLine; exact small (by omega), fun q4 nq4 => ?_⟩
        have s15 : Same H14 (L2.upd H14 q4 (.lst (zs ++ [.ref q1, .ref q2]))) := same_upd nq4
        have s1115 := s1114.trans s15
        have tu715 := tu711.trans (Same.tups s1115)
        have w1 : WaAt (L2.upd H14 q4 (.lst (zs ++ [.ref q1, .ref q2]))) (.ref q1) (t, l) := ⟨q1, y, rfl, s15 _ _ (s14 _ _ (s13 _ _ e12)), h2.keep tu715⟩
        have w2 : WaAt (L2.upd H14 q4 (.lst (zs ++ [.ref q1, .ref q2]))) (.ref q2) (s, l + sw) := ⟨q2, x, rfl, s15 _ _ (s14 _ _ e13), h1.keep tu715⟩
        refine ⟨work ((init ++ [(t, l)]) ++ [(s, l + sw)]), ?_, q4, fo ++ [(b, spotAt (szOf ss) b l (fo.map (·.2)))], (init ++ [(t, l)]) ++ [(s, l + sw)], _, _, _, _, _, _, _, _, _, rfl, rfl, ⟨sm11.trans s1115, ⟨_, s1115 _ _ e11, ka11.keep (Same.tups s1115)⟩, ⟨_, upd_same, ?_⟩, Same.free (sm11.trans s1114) nq4, ?_, ?_⟩⟩
        · rw [work_snoc, work_snoc]
          have hm' : work init + (s.size + t.size + 1) = m := hm
          omega
        · have z := paired_snoc (paired_snoc (paired_imp (fun _ _ z => WaAt.keep z tu715) pz7) w1) w2
          rw [List.append_assoc] at z
          exact z
        · rw [List.reverse_append, List.reverse_append]
          have ew : (szOf ss b).1 = sw := by rw [esz]
          rw [← ew]
          exact on
        · rw [List.length_append, List.length_append, List.length_append]
          show init.length + 1 + 1 ≤ fo.length + 1 + 1
          omega
end
end K53

namespace K53
open PySem PySem.Spec PyProof.Rows L2
/-! ### _law_alike -/
def AL (H : Hp) : Nat → V → V → Prop
  | 0, _, _ => False
  | n + 1, x, y => (∃ i : Int, x = .int i ∧ y = .int i) ∨ ∃ (a b : Addr) (xs ys : List V), x = .ref a ∧ y = .ref b ∧ H a = some (.tup xs) ∧ H b = some (.tup ys) ∧ ys.length ≤ 63 ∧ xs.length = ys.length ∧ ∀ (i : Nat) (u v : V), xs[i]? = some u → ys[i]? = some v → AL H n u v
theorem AL.keep {H H' : Hp} (k : Tups H H') : ∀ {n : Nat} {x y : V}, AL H n x y → AL H' n x y
  | 0, _, _, h => h
  | n + 1, x, y, h => by
    rcases h with h | ⟨a, b, xs, ys, e1, e2, h1, h2, h3, h4, h5⟩
    · exact .inl h
    · exact .inr ⟨a, b, xs, ys, e1, e2, k _ _ h1, k _ _ h2, h3, h4, fun i u v g1 g2 => (h5 i u v g1 g2).keep k⟩
abbrev sLawAlike : Stmt := topS 28
theorem scLawAlike : FnScope ["_law_found", "_law_due", "_law_k"] ["_law_found", "_law_due"] (defScope sLawAlike) := ⟨rfl, rfl, rfl, by decide +kernel, rfl, by decide +kernel, by decide +kernel⟩
def spLawAlike (n : Nat) : Sp := fun vs H Q _ => ∃ x y : V, vs = [x, y] ∧ AL H n x y ∧ ∀ H', Same H H' → Q (.bl true) H'
theorem picked_none (n : Nat) : picked (fun _ => none) n = [] := by
  unfold picked
  exact List.filterMap_eq_nil_iff.mpr fun _ _ => rfl
theorem kit_tl_tuple {K : PySem.W.Frag} : PySem.W.kitAny K (.type "tuple") [.type "tuple", .type "list"] = some true := kitAny_cons (b := true) (kit_ty (by decide +kernel)) (fun z => nomatch z) (fun _ => rfl)
theorem kit_tl_int {K : PySem.W.Frag} : PySem.W.kitAny K (.type "int") [.type "tuple", .type "list"] = some false :=
  kitAny_cons (b := false) (kit_ty (by decide +kernel)) (fun _ => kitAny_cons (b := false) (kit_ty (by decide +kernel)) (fun _ => kitAny_nil) (fun z => nomatch z)) (fun z => nomatch z)
theorem cls_tl : Paired ClsV [V.ty "tuple", V.ty "list"] [Value.type "tuple", Value.type "list"] := .cons (.ty _) (.cons (.ty _) .nil)
section
variable {P : Program} {w : World} {K : PySem.W.Frag} {mg : Str → Option Value} {base : Heap}
theorem step_lawAlike {f : Addr} {fd : FuncData} {n k : Nat} (B : Bi mg) (T : At K mg "_law_alike" sLawAlike f fd ["_law_found", "_law_due"]) (G : FnOk P w K mg base CX0 k f fd ["_law_found", "_law_due"] (spLawAlike n)) : FnOk P w K mg base CX0 (k + 1) f fd ["_law_found", "_law_due"] (spLawAlike (n + 1)) := by
  refine T.fn.ok scLawAlike (fun vs H Q E h => ?_) (fun cdv A outer s₁ H vs Q E hr h => ?_)
  · obtain ⟨x, y, rfl, _⟩ := h
    rfl
  obtain ⟨x, y, rfl, hal, q⟩ := h
  have nd := scLawAlike.nd
  refine ⟨_, pss_cons (ps_if (pt_val (pe_callB call_isiT (by rfl) B.isinstance boot_isinstance (pa_cons (pv 1) (pa_cons (pe_tup (pa_cons (pe_bltn (v := .ty "tuple") (by rfl) B.tuple boot_tuple rfl) (pa_cons (pe_bltn (v := .ty "list") (by rfl) B.list boot_list rfl) pa_nil))) pa_nil))))
      (pss_cons (ps_if (PW.pt (pw_or (pt_not (pt_val (pe_callB call_isiT (by rfl) B.isinstance boot_isinstance (pa_cons (pv 0) (pa_cons (pe_tup (pa_cons (pe_bltn (v := .ty "tuple") (by rfl) B.tuple boot_tuple rfl) (pa_cons (pe_bltn (v := .ty "list") (by rfl) B.list boot_list rfl) pa_nil))) pa_nil)))))
        (pw_or1 (pt_cmpR op_ne (pe_callB call_isi (by rfl) B.isinstance boot_isinstance (pa_cons (pv 0) (pa_cons (pe_bltn (v := .ty "list") (by rfl) B.list boot_list rfl) pa_nil))) (pe_callB call_isi (by rfl) B.isinstance boot_isinstance (pa_cons (pv 1) (pa_cons (pe_bltn (v := .ty "list") (by rfl) B.list boot_list rfl) pa_nil))) (nomark _))))) (pss_one ps_never) pss_nil)
      (pss_cons (ps_if (pt_cmpR op_ne (pe_callB call_len_seq (by rfl) B.len PySem.boot_len (pa_cons (pv 0) pa_nil)) (pe_callB call_len_seq (by rfl) B.len PySem.boot_len (pa_cons (pv 1) pa_nil)) (nomark _)) (pss_one ps_never) pss_nil)
      (pss_one (ps_ret (pe_cmpR (op_eqD hr.units)
        (pe_lc (own := [("_law_k", 2)]) (g := gName 2) rfl nd (pi_range1 (by rfl) B.range (pa_cons (pe_callB call_len_seq (by rfl) B.len PySem.boot_len (pa_cons (pv 1) pa_nil)) pa_nil)) (blkOk_by (own := [("_law_k", 2)]) (N := ["_law_found", "_law_due", "_law_k"]) (sc := defScope sLawAlike) (by decide +kernel))
          (fun _ _ _ _ _ => pg_name (i := 2) nd rfl (Or.inl rfl))
          (fun _ _ _ _ _ => pts_one (pt_not (pt_val (pe_call G hr (by rfl) T.gl T.fn.kp T.bi .nil pass0 (pa_cons (pe_ix (r := rIxT K) ix_tup (pv 0) (pv 2) (fun _ _ => rfl)) (pa_cons (pe_ix (r := rIxT K) ix_tup (pv 1) (pv 2) (fun _ _ => rfl)) pa_nil))))))
          (fun _ _ _ _ _ => pv 2))
        (pe_lst pa_nil) (nomark _)))))) pss_nil)
    (pss_cons (ps_if (PW.pt (pw_or (pt_cmpR op_isN (pv 1) pe_non (nomark _)) (pw_or1 (pt_val (pe_callB call_isi (by rfl) B.isinstance boot_isinstance (pa_cons (pv 1) (pa_cons (pe_bltn (v := .ty "str") (by rfl) B.str boot_str rfl) pa_nil))))))) (pss_one ps_never) pss_nil)
    (pss_one (ps_ret (pe_and (pe_callB call_isi (by rfl) B.isinstance boot_isinstance (pa_cons (pv 0) (pa_cons (pe_bltn (v := .ty "int") (by rfl) B.int boot_int rfl) pa_nil)))
      (pe_and (pe_cmpR op_eq (pe_callB call_isi (by rfl) B.isinstance boot_isinstance (pa_cons (pv 0) (pa_cons (pe_bltn (v := .ty "bool") (by rfl) B.bool boot_bool rfl) pa_nil))) (pe_callB call_isi (by rfl) B.isinstance boot_isinstance (pa_cons (pv 1) (pa_cons (pe_bltn (v := .ty "bool") (by rfl) B.bool boot_bool rfl) pa_nil))) (nomark _))
        (pe_one (pe_cmpR op_eq (pv 0) (pv 1) (nomark _)))))))), ?_⟩
  rcases hal with ⟨i, rfl, rfl⟩ | ⟨a, b, xs, ys, rfl, rfl, ha, hb, h63, hl, hs⟩
  · -- two ints
    refine ⟨_, rfl, small (n := 2) (by decide), fun p np => ?_⟩
    have s1 : Same H (L2.upd H p (.tup [.ty "tuple", .ty "list"])) := same_upd np
    have e1 : (L2.upd H p (.tup [.ty "tuple", .ty "list"])) p = some (.tup [.ty "tuple", .ty "list"]) := upd_same
    generalize L2.upd H p (.tup [.ty "tuple", .ty "list"]) = H1 at s1 e1 ⊢
    refine ⟨.int i, p, _, _, _, false, rfl, e1, cls_tl, .base (.int i), kit_tl_int, _, rfl, iteF ?_⟩
    refine ⟨_, rfl, rfl, _, rfl, iteF ?_⟩
    refine ⟨_, rfl, .int i, .ty "str", _, _, false, rfl, .ty _, .base (.int i), kit_ty (by decide +kernel), _, rfl, iteF ?_⟩
    refine ⟨_, rfl, .int i, .ty "int", _, _, true, rfl, .ty _, .base (.int i), kit_ty (by decide +kernel), _, rfl, iteT ?_⟩
    refine ⟨_, rfl, .int i, .ty "bool", _, _, false, rfl, .ty _, .base (.int i), kit_ty (by decide +kernel), _, rfl, .int i, .ty "bool", _, _, false, rfl, .ty _, .base (.int i), kit_ty (by decide +kernel), rfl, _, rfl, iteT ?_⟩
    refine ⟨_, rfl, _, rfl, rfl, ?_⟩
    rw [decide_eq_true rfl]
    exact q H1 s1
  · -- two tuples
    refine ⟨_, rfl, small (n := 2) (by decide), fun p np => ?_⟩
    have s1 : Same H (L2.upd H p (.tup [.ty "tuple", .ty "list"])) := same_upd np
    have e1 : (L2.upd H p (.tup [.ty "tuple", .ty "list"])) p = some (.tup [.ty "tuple", .ty "list"]) := upd_same
    generalize L2.upd H p (.tup [.ty "tuple", .ty "list"]) = H1 at s1 e1 ⊢
    refine ⟨.ref b, p, _, _, _, true, rfl, e1, cls_tl, .base (.tup (s1 _ _ hb)), kit_tl_tuple, _, rfl, iteT ?_⟩
    refine ⟨_, rfl, small (n := 2) (by decide), fun p2 np2 => ?_⟩
    have s2 : Same H1 (L2.upd H1 p2 (.tup [.ty "tuple", .ty "list"])) := same_upd np2
    have e2 : (L2.upd H1 p2 (.tup [.ty "tuple", .ty "list"])) p2 = some (.tup [.ty "tuple", .ty "list"]) := upd_same
    generalize L2.upd H1 p2 (.tup [.ty "tuple", .ty "list"]) = H2 at s2 e2 ⊢
    have sm := s1.trans s2
    have ha2 := sm _ _ ha
    have hb2 := sm _ _ hb
    refine ⟨.ref a, p2, _, _, _, true, rfl, e2, cls_tl, .base (.tup ha2), kit_tl_tuple, _, rfl, iteF ?_⟩
    refine ⟨_, rfl, .ref a, .ty "list", _, _, false, rfl, .ty _, .base (.tup ha2), kit_ty (by decide +kernel), _, rfl, .ref b, .ty "list", _, _, false, rfl, .ty _, .base (.tup hb2), kit_ty (by decide +kernel), rfl, _, rfl, iteF ?_⟩
    refine ⟨_, rfl, a, xs, rfl, .inr (SqT.of ha2), _, rfl, b, ys, rfl, .inr (SqT.of hb2), rfl, _, rfl, ite_f (by rw [hl, decide_eq_true rfl]; rfl) ?_⟩
    refine ⟨_, rfl, b, ys, rfl, .inr (SqT.of hb2), (ys.length : Nat), rfl, by omega, by omega, fun D hD => ?_⟩
    refine lc_pick (walk_rangeA (n := ys.length)) (fun _ _ => trivial) hD (by omega) (fun _ => none) (fun i x H3 kk hi hx s3 hk => ?_) (fun H3 s3 e3 => ?_)
    · have ex : x = .int (i : Nat) := by
        rw [List.getElem?_map, List.getElem?_range hi] at hx
        exact (Option.some.inj hx).symm
      subst ex
      have hx1 : xs[i]? = some (xs[i]'(by omega)) := List.getElem?_eq_getElem (by omega)
      have hy1 : ys[i]? = some ys[i] := List.getElem?_eq_getElem hi
      refine ⟨_, rfl, _, rfl, a, xs, _, _, rfl, rfl, SqT.of (s3 _ _ ha2), atI_nat hx1, _, rfl, _, rfl, b, ys, _, _, rfl, rfl, SqT.of (s3 _ _ hb2), atI_nat hy1, _, _, rfl, (hs i _ _ hx1 hy1).keep (Same.tups (sm.trans s3)), fun H4 s4 => ⟨_, rfl, iteF (hk H4 s4)⟩⟩
    · rw [picked_none] at e3
      refine ⟨small (n := 0) (by decide), fun p5 np5 => ?_⟩
      have s5 : Same H3 (L2.upd H3 p5 (.lst [])) := same_upd np5
      refine eq_lists (ns := []) (ms := []) (s5 _ _ e3) upd_same ?_
      rw [decide_eq_true rfl]
      exact q _ (sm.trans (s3.trans s5))
theorem ok_lawAlike {f : Addr} {fd : FuncData} (B : Bi mg) (T : At K mg "_law_alike" sLawAlike f fd ["_law_found", "_law_due"]) : ∀ n : Nat, FnOk P w K mg base CX0 n f fd ["_law_found", "_law_due"] (spLawAlike n)
  | 0 => ⟨fun vs H Q E ⟨_, _, _, hd, _⟩ => hd.elim, fun A outer s H args us vs Q E _ _ _ _ ⟨_, _, _, hd, _⟩ => hd.elim⟩
  | n + 1 => step_lawAlike B T (ok_lawAlike B T n)
end
end K53

namespace K53
open PySem PySem.Spec PyProof.Rows L2
/-! ### what the law asks of the spots -/
theorem look_of_mem {b : Nat} {s : Spot} : ∀ {f : List (Nat × Spot)}, (f.map (·.1)).Nodup → (b, s) ∈ f → look f b = s
  | [], _, h => absurd h (by simp)
  | p :: r, nd, h => by
    rw [List.map_cons, List.nodup_cons] at nd
    rcases List.mem_cons.mp h with e | h'
    · subst e
      unfold look
      rw [List.find?_cons, decide_eq_true rfl]
      rfl
    · have ne : ¬ p.1 = b := fun e => nd.1 (by rw [e]; exact List.mem_map.mpr ⟨_, h', rfl⟩)
      have z : look (p :: r) b = look r b := by unfold look; rw [List.find?_cons, decide_eq_false ne]
      rw [z]
      exact look_of_mem nd.2 h'
structure Fin (f : List (Nat × Spot)) (n : Nat) (sz : Sz) : Prop where
  keys : (f.map (·.1)).Perm (List.range n)
  good : Good sz (f.map (·.2))
theorem Fin.at {f : List (Nat × Spot)} {n : Nat} {sz : Sz} (h : Fin f n sz) {i : Nat} {s : Spot} (e : (resOf f n)[i]? = some s) : i < n ∧ ∃ j, f[j]? = some (i, s) ∧ (f.map (·.2))[j]? = some s ∧ j < n := by
  unfold resOf at e
  rw [List.getElem?_map] at e
  cases g : (List.range n)[i]? with
  | none =>
    rw [g] at e
    cases e
  | some k =>
    obtain ⟨z1, z2⟩ := List.getElem?_eq_some_iff.mp g
    rw [List.length_range] at z1
    rw [List.getElem_range] at z2
    rw [g] at e
    have e' : look f k = s := Option.some.inj e
    subst z2
    have hm : (i, s) ∈ f := by
      rw [← e']
      exact look_mem (h.keys.mem_iff.mpr (List.mem_range.mpr z1))
    obtain ⟨j, hj⟩ := List.getElem?_of_mem hm
    have hl := h.keys.length_eq
    rw [List.length_map, List.length_range] at hl
    have hlt := (List.getElem?_eq_some_iff.mp hj).1
    exact ⟨z1, j, hj, by rw [List.getElem?_map, hj]; rfl, by omega⟩
theorem Fin.packed {f : List (Nat × Spot)} {n : Nat} {sz : Sz} (h : Fin f n sz) (h1 : 1 ≤ n) (h8 : n ≤ 8) : Packed (resOf f n) := by
  have hlen : (resOf f n).length = n := by unfold resOf; rw [List.length_map, List.length_range]
  refine ⟨fun s hs => ?_, fun i j s t hi hj ne => ?_, by omega, by omega⟩
  · obtain ⟨i, hi⟩ := List.getElem?_of_mem hs
    obtain ⟨_, j, _, gj, lj⟩ := h.at hi
    obtain ⟨g1, g2, g3, g4, g5, g6, _⟩ := h.good j s gj
    obtain ⟨g7, g8⟩ := h.good.y_ge gj
    exact ⟨by omega, by omega, by omega, by omega, by omega, by omega, by omega, by omega⟩
  · obtain ⟨_, a, fa, ga, _⟩ := h.at hi
    obtain ⟨_, b, fb, gb, _⟩ := h.at hj
    refine h.good.apart ga gb fun e => ne ?_
    subst e
    rw [fa] at fb
    exact congrArg Prod.fst (Option.some.inj fb)
theorem Fin.stands {f : List (Nat × Spot)} {n : Nat} {sz : Sz} (h : Fin f n sz) {s : Spot} (hs : s ∈ resOf f n) (hy : 0 < s.y) : ∃ (i : Nat) (u : Spot), (resOf f n)[i]? = some u ∧ u ≠ s ∧ ov ⟨s.l, s.y - 1, s.w, s.h⟩ u = true := by
  obtain ⟨i, hi⟩ := List.getElem?_of_mem hs
  obtain ⟨_, j, _, gj, _⟩ := h.at hi
  obtain ⟨u, u1, u2, u3⟩ := h.good.stands gj hy
  obtain ⟨p, p1, p2⟩ := List.mem_map.mp u1
  have nd : (f.map (·.1)).Nodup := h.keys.nodup_iff.mpr List.nodup_range
  have hk : p.1 ∈ f.map (·.1) := List.mem_map.mpr ⟨p, p1, rfl⟩
  have hn : p.1 < n := List.mem_range.mp (h.keys.mem_iff.mp hk)
  refine ⟨p.1, u, ?_, u2, u3⟩
  unfold resOf
  rw [List.getElem?_map, List.getElem?_range hn]
  have q := look_of_mem (b := p.1) (s := p.2) nd p1
  show some (look f p.1) = some u
  rw [q, p2]
theorem fin_res {ss : List (Int × Int)} {t : Bush} (hp : t.blocks.Perm (List.range ss.length)) (hs : Small ss) : Fin (place (szOf ss) t 0 []) ss.length (szOf ss) := by
  refine ⟨by rw [place_keys]; exact hp, (place_good t 0 [] (fun b hb => ?_) (Int.le_refl 0) (by simp) (fun j s z => by simp at z)).1⟩
  have hb' := (perm_small hp).2 b hb
  have e : ss[b]? = some ss[b] := List.getElem?_eq_getElem hb'
  rw [szOf_get e]
  exact hs _ (List.getElem_mem hb')
/-! ### tuples of ints by == -/
theorem ne_tups {K : PySem.W.Frag} {H : Hp} {a b : Addr} {ns ms : List Int} {Q : VK} (ha : H a = some (.tup (ns.map V.int))) (hb : H b = some (.tup (ms.map V.int))) (q : Q (.bl (!decide (ns = ms))) H) : rNeD K (.ref a) (.ref b) H Q :=
  ⟨_, _, .tup (SqT.of ha) (dp_ints ns), .tup (SqT.of hb) (dp_ints ms), shaped_of (can_ints ns) (by show PyData.depthAll (ns.map PyData.int) + 1 ≤ 64; rw [depth_ints]; decide), shaped_of (can_ints ms) (by show PyData.depthAll (ms.map PyData.int) + 1 ≤ 64; rw [depth_ints]; decide), by
    show Q (.bl (!PyData.eqvAll (ns.map PyData.int) (ms.map PyData.int))) H
    rw [eqv_ints]
    exact q⟩
def spotI (s : Spot) : List Int := [s.l, s.y, s.w, s.h]
theorem spotI_inj {s t : Spot} (h : spotI s = spotI t) : s = t := by
  obtain ⟨a, b, c, d⟩ := s
  obtain ⟨a', b', c', d'⟩ := t
  unfold spotI at h
  simp at h
  obtain ⟨h1, h2, h3, h4⟩ := h
  subst h1 h2 h3 h4
  rfl
/-- a list of spots against the empty one -/
theorem dp_some {K : PySem.W.Frag} {H : Hp} : ∀ acc : List V, (∀ v ∈ acc, ∃ s, SpAt H v s) → ∃ ds, DpAll K H acc ds ∧ PyData.canLayAll0 ds = true ∧ PyData.depthAll ds ≤ 1 ∧ ds.isEmpty = acc.isEmpty
  | [], _ => ⟨[], .nil, rfl, Nat.zero_le _, rfl⟩
  | v :: r, h => by
    obtain ⟨s, a, ev, ha⟩ := h v List.mem_cons_self
    obtain ⟨ds, d1, d2, d3, _⟩ := dp_some (K := K) r fun u hu => h u (List.mem_cons_of_mem _ hu)
    refine ⟨.tuple ((spotI s).map PyData.int) :: ds, .cons ?_ d1, ?_, ?_, rfl⟩
    · rw [ev]
      exact .tup (SqT.of ha) (dp_ints (spotI s))
    · show (PyData.canLayAll0 ((spotI s).map PyData.int) && PyData.canLayAll0 ds) = true
      rw [can_ints, d2]
      rfl
    · show max (PyData.depthAll ((spotI s).map PyData.int) + 1) (PyData.depthAll ds) ≤ 1
      rw [depth_ints]
      omega
theorem eq_some {K : PySem.W.Frag} {H : Hp} {a b : Addr} {acc : List V} {Q : VK} (ha : H a = some (.lst acc)) (hs : ∀ v ∈ acc, ∃ s, SpAt H v s) (hb : H b = some (.lst [])) (q : Q (.bl acc.isEmpty) H) : rEqD K (.ref a) (.ref b) H Q := by
  obtain ⟨ds, d1, d2, d3, d4⟩ := dp_some (K := K) acc hs
  refine ⟨_, _, .lst (SqL.of ha) d1, .lst (SqL.of hb) .nil, shaped_of d2 (by show PyData.depthAll ds + 1 ≤ 64; omega), shaped_ints [], ?_⟩
  show Q (.bl (PyData.eqvAll ds [])) H
  rw [eqv_nil, d4]
  exact q
/-- two tuples of the same spots are alike -/
theorem al_spots {H : Hp} {a b : Addr} {ss : List Spot} (h1 : SpotsAt H a ss) (h2 : SpotsAt H b ss) (h63 : ss.length ≤ 63) : AL H 3 (.ref a) (.ref b) := by
  obtain ⟨xs, ha, hx⟩ := h1
  obtain ⟨ys, hb, hy⟩ := h2
  have lx : xs.length = ss.length := hx.length
  have ly : ys.length = ss.length := hy.length
  refine .inr ⟨a, b, xs, ys, rfl, rfl, ha, hb, by omega, by omega, fun i u v gu gv => ?_⟩
  obtain ⟨s, e1, p, eu, hp⟩ := paired_get hx gu
  obtain ⟨s', e2, q, ev, hq⟩ := paired_get hy gv
  rw [e1] at e2
  have es := Option.some.inj e2
  subst es
  refine .inr ⟨p, q, _, _, eu, ev, hp, hq, by show 4 ≤ 63; decide, rfl, fun j x y gx gy => .inl ?_⟩
  rw [gx] at gy
  have exy := Option.some.inj gy
  subst exy
  have hx' : x ∈ [V.int s.l, V.int s.y, V.int s.w, V.int s.h] := List.mem_of_getElem? gx
  simp at hx'
  rcases hx' with e | e | e | e <;> exact ⟨_, e, e⟩
end K53

namespace K53
open PySem PySem.Spec PyProof.Rows L2
/-! ### law -/
abbrev sLaw : Stmt := topS 34
abbrev nLaw : List Str := ["_law_script", "_law_row", "_law_turn", "_law_many", "_law_sizes_here", "_law_bush_here", "_law_spots", "_law_spot", "_law_lower", "_law_other"]
theorem scLaw : FnScope nLaw ["_law_script"] (defScope sLaw) := ⟨rfl, rfl, rfl, by decide +kernel, rfl, by decide +kernel, by decide +kernel⟩
def spLaw (K : PySem.W.Frag) : Sp := fun vs H Q _ => ∃ (s : Addr) (ns : List Int), vs = [.ref s] ∧ SqL K H s (ns.map V.int) ∧ ∀ H', Q (.bl true) H'
theorem res_len (ss : List (Int × Int)) (t : Bush) : (res ss t).length = ss.length := by
  unfold res resOf
  rw [List.length_map, List.length_range]
/-- those that the law's inner list takes -/
def under (xs : List V) (rs : List Spot) (s : Spot) (i : Nat) : Option V := (xs[i]?).bind fun v => (rs[i]?).bind fun u => if (!decide (spotI u = spotI s) && ov ⟨s.l, s.y - 1, s.w, s.h⟩ u) = true then some v else none
theorem under_at {xs : List V} {rs : List Spot} {s u : Spot} {i : Nat} {v : V} (h1 : xs[i]? = some v) (h2 : rs[i]? = some u) : under xs rs s i = if (!decide (spotI u = spotI s) && ov ⟨s.l, s.y - 1, s.w, s.h⟩ u) = true then some v else none := by
  unfold under
  rw [h1, h2]
  rfl
theorem under_mem {xs : List V} {rs : List Spot} {s : Spot} {i : Nat} {v : V} (h : under xs rs s i = some v) : xs[i]? = some v := by
  unfold under at h
  obtain ⟨x, h1, h2⟩ := Option.bind_eq_some_iff.mp h
  obtain ⟨u, h3, h4⟩ := Option.bind_eq_some_iff.mp h2
  split at h4
  · rw [h1, ← h4]
  · cases h4
theorem picked_mem {pick : Nat → Option V} {n : Nat} {v : V} : v ∈ picked pick n ↔ ∃ i, i < n ∧ pick i = some v := by
  unfold picked
  rw [List.mem_filterMap]
  exact ⟨fun ⟨i, h1, h2⟩ => ⟨i, List.mem_range.mp h1, h2⟩, fun ⟨i, h1, h2⟩ => ⟨i, List.mem_range.mpr h1, h2⟩⟩
section
variable {P : Program} {w : World} {K : PySem.W.Frag} {mg : Str → Option Value} {base : Heap}
theorem ok_law {f : Addr} {fd : FuncData} {k : Nat} (B : Bi mg) (GT : Def P w K mg base "_law_taken" k ["_law_row", "_law_many"] (spTaken K)) (GS : Def P w K mg base "_law_sizes" k ["_law_row", "_law_many", "_law_most"] (spLawSizes K))
    (GO : Def P w K mg base "_law_order" k ["_law_row", "_law_many"] (spLawOrder K)) (GB : Def P w K mg base "_law_bush" k ["_law_row", "_law_blocks"] (spLawBush K 8)) (GP : Def P w K mg base "packed_bush" k ["sizes", "bush"] spPackedBush)
    (GG : Def P w K mg base "_law_grown" k ["_law_sizes_here", "_law_bush_here"] spPackedBush) (GA : Def P w K mg base "_law_alike" k ["_law_found", "_law_due"] (spLawAlike 3)) (GI : Def P w K mg base "is_packing" k ["spots"] spIsPacking)
    (GV : Def P w K mg base "_law_overlap" k ["_law_one", "_law_other"] spOverlap) (F : Fun K "law" "law" sLaw f fd) : FnOk P w K mg base CX0 (k + 1) f fd ["_law_script"] (spLaw K) := by
  obtain ⟨fT, fdT, gT, mT, kT, bT⟩ := GT.ex
  obtain ⟨fS, fdS, gS, mS, kS, bS⟩ := GS.ex
  obtain ⟨fO, fdO, gO, mO, kO, bO⟩ := GO.ex
  obtain ⟨fB, fdB, gB, mB, kB, bB⟩ := GB.ex
  obtain ⟨fP, fdP, gP, mP, kP, bP⟩ := GP.ex
  obtain ⟨fG, fdG, gG, mG, kG, bG⟩ := GG.ex
  obtain ⟨fA, fdA, gA, mA, kA, bA⟩ := GA.ex
  obtain ⟨fI, fdI, gI, mI, kI, bI⟩ := GI.ex
  obtain ⟨fV, fdV, gV, mV, kV, bV⟩ := GV.ex
  refine F.ok scLaw (fun vs H Q E h => ?_) (fun cdv A outer s₁ H vs Q E hr h => ?_)
  · obtain ⟨s, ns, rfl, _⟩ := h
    rfl
  obtain ⟨s, ns, rfl, hsq, q⟩ := h
  have nd := scLaw.nd
  refine ⟨_, pss_cons (ps_set (i := 1) nd rfl (.inl rfl) (pe_lst (pa_cons (pv 0) (pa_cons pe_int (pa_cons pe_int (pa_cons pe_int pa_nil))))))
    (pss_cons (ps_for PassesOwn.never rfl (pi_range1 (by rfl) B.range (pa_cons pe_int pa_nil)) (pg_name (i := 2) nd rfl (.inl rfl))
      (pss_cons (ps_set (i := 3) nd rfl (.inl rfl) (pe_add pe_int (pe_call gT hr (by rfl) mT kT bT .nil pass0 (pa_cons (pv 1) (pa_cons pe_int pa_nil)))))
      (pss_cons (ps_par (i := 4) (j := 5) (by rfl) nd rfl rfl (by decide) rfl rfl (pa_cons (pe_call gS hr (by rfl) mS kS bS .nil pass0 (pa_cons (pv 1) (pa_cons (pv 3) (pa_cons pe_int pa_nil))))
        (pa_cons (pe_call gB hr (by rfl) mB kB bB .nil pass0 (pa_cons (pv 1) (pa_cons (pe_callTy call_list_of (by rfl) B.list boot_list (pa_cons (pe_call gO hr (by rfl) mO kO bO .nil pass0 (pa_cons (pv 1) (pa_cons (pv 3) pa_nil))) pa_nil)) pa_nil))) pa_nil)) (by rfl))
      (pss_cons (ps_set (i := 6) nd rfl (.inl rfl) (pe_call gP hr (by rfl) mP kP bP .nil pass0 (pa_cons (pv 4) (pa_cons (pv 5) pa_nil))))
      (pss_cons (ps_if (PW.pt (pw_or (pt_not (pt_val (pe_call gA hr (by rfl) mA kA bA .nil pass0 (pa_cons (pv 6) (pa_cons (pe_call gG hr (by rfl) mG kG bG .nil pass0 (pa_cons (pv 4) (pa_cons (pv 5) pa_nil))) pa_nil)))))
        (pw_or1 (pt_not (pt_val (pe_call gI hr (by rfl) mI kI bI .nil pass0 (pa_cons (pv 6) pa_nil))))))) (pss_one ps_never) pss_nil)
      (pss_one (ps_for PassesOwn.never rfl (pi_tup (pv 6)) (pg_name (i := 7) nd rfl (.inr rfl))
        (pss_cons (ps_set (i := 8) nd rfl (.inr rfl) (pe_op op_catT (pe_tup (pa_cons (pe_ix ix_tup (pv 7) pe_int (fun _ _ => rfl)) (pa_cons (pe_sub (pe_ix ix_tup (pv 7) pe_int (fun _ _ => rfl)) pe_int) pa_nil))) (pe_slice sl_tup (pv 7) (po_some pe_int) po_none)))
        (pss_one (ps_if (PW.pt (pw_and (pt_cmp (pc_gt (pe_ix ix_tup (pv 7) pe_int (fun _ _ => rfl)) pe_int)) (pw_and1 (pt_cmpR (op_eqD hr.units)
          (pe_lc (own := [("_law_other", 9)]) (g := gName 9) rfl nd (pi_tup (pv 6)) (blkOk_by (own := [("_law_other", 9)]) (N := nLaw) (sc := defScope sLaw) (by decide +kernel))
            (fun _ _ _ _ _ => pg_name (i := 9) nd rfl (Or.inl rfl))
            (fun _ _ _ _ _ => pts_one (PW.pt (pw_and (pt_cmpR (r := rNeD K) (op_neD hr.units) (pv 9) (pv 7) (nomark _)) (pw_and1 (pt_val (pe_call gV hr (by rfl) mV kV bV .nil pass0 (pa_cons (pv 8) (pa_cons (pv 9) pa_nil))))))))
            (fun _ _ _ _ _ => pv 9))
          (pe_lst pa_nil) (nomark _))))) (pss_one ps_never) pss_nil))))))))))
    (pss_one (ps_ret pe_bl))), ?_⟩
  -- the row
  refine ⟨_, rfl, small (n := 4) (by decide), fun r nr => ?_⟩
  have row0 : RowAt K (L2.upd H r (.lst [.ref s, .int 0, .int 3853, .int 0])) r s ns := ⟨0, 3853, 0, Int.le_refl 0, upd_same, Same.seq (same_upd nr) hsq⟩
  generalize L2.upd H r (.lst [.ref s, .int 0, .int 3853, .int 0]) = H1 at row0 ⊢
  refine ⟨2, rfl, by omega, by omega, ?_⟩
  refine for_range (lo := 0) (n := 2) (fun i σ H' => RowAt K H' r s ns ∧ ∃ y2 y3 y4 y5 y6 y7 y8 y9, σ = [some (.ref s), some (.ref r), y2, y3, y4, y5, y6, y7, y8, y9])
    ⟨row0, none, none, none, none, none, none, none, none, rfl⟩ (fun i σ H2 hi hP => ?_) (fun σ H2 _ => q H2)
  obtain ⟨row2, y2, y3, y4, y5, y6, y7, y8, y9, rfl⟩ := hP
  -- many
  refine ⟨_, rfl, r, s, ns, 7, rfl, row2, by decide, by decide, fun v H3 o3 row3 a3 b3 => ⟨_, _, rfl, rfl, ?_⟩⟩
  obtain ⟨m, rfl⟩ : ∃ m : Nat, v = (m : Nat) := ⟨v.toNat, by omega⟩
  -- sizes, bush
  refine ⟨_, rfl, _, rfl, r, s, ns, 1 + m, rfl, row3, by omega, by omega, fun p4 H4 ss o4 row4 hs4 hl4 hsm => ?_⟩
  refine ⟨_, rfl, _, rfl, _, rfl, r, s, ns, 1 + m, rfl, row4, by omega, by omega, fun p5 H5 bs o5 row5 e5 hpm => ?_⟩
  have lbs := hpm.length_eq
  rw [List.length_range] at lbs
  refine ⟨p5, _, rfl, .inr (SqT.of e5), fun l6 nl6 => ?_⟩
  have s6 : Same H5 (L2.upd H5 l6 (.lst (natV bs))) := same_upd nl6
  have e6 : (L2.upd H5 l6 (.lst (natV bs))) l6 = some (.lst (natV bs)) := upd_same
  generalize L2.upd H5 l6 (.lst (natV bs)) = H6 at s6 e6 ⊢
  refine ⟨r, s, l6, ns, bs, rfl, row5.same s6, e6, by omega, by omega, fun v7 H7 t o7 row7 b7 eb7 => ⟨_, _, rfl, ?_⟩⟩
  have tu47 : Tups H4 H7 := row4.tups (o5.trans ((Off.of s6).trans o7))
  have hs7 := hs4.keep tu47
  have hperm : t.blocks.Perm (List.range ss.length) := by rw [eb7, hl4]; exact hpm
  have fr := fin_res hperm hsm
  have pk : Packed (res ss t) := fr.packed (by omega) (by omega)
  -- the spots
  refine ⟨_, rfl, _, rfl, p4, ss, v7, t, rfl, hs7, b7, hperm, fun H8 p8 s8 sp8 => ?_⟩
  refine ⟨_, rfl, _, rfl, _, rfl, p4, ss, v7, t, rfl, hs7.keep (Same.tups s8), b7.keep (Same.tups s8), hperm, fun H9 p9 s9 sp9 => ?_⟩
  refine ⟨_, _, rfl, al_spots (sp8.keep (Same.tups s9)) sp9 (by rw [res_len]; omega), fun H10 s10 => ⟨_, rfl, iteF ?_⟩⟩
  refine ⟨_, rfl, p8, res ss t, rfl, sp8.keep (Same.tups (s9.trans s10)), pk, fun H11 s11 => ⟨_, rfl, iteF ?_⟩⟩
  have sm := s8.trans (s9.trans (s10.trans s11))
  have row11 := row7.same sm
  obtain ⟨xs, hx, hpx⟩ := sp8.keep (Same.tups (s9.trans (s10.trans s11)))
  have lx : xs.length = (res ss t).length := hpx.length
  have lr := res_len ss t
  refine ⟨_, rfl, p8, rfl, ⟨_, SqT.of hx⟩, ?_⟩
  refine for_it (walk_tup (K := K) (a := p8) (xs := xs)) (fun j σ H' => Same H11 H' ∧ ∃ z2 z3 z7 z8 z9, σ = [some (.ref s), some (.ref r), z2, z3, some (.ref p4), some v7, some (.ref p8), z7, z8, z9])
    ⟨Same.refl H11, _, _, _, _, _, rfl⟩ (fun j σ H' _ h => Same.seqT h.1 (SqT.of hx)) (fun j z σ H12 H13 hj hP hy => ?_) (fun σ H' hP => ?_)
  · obtain ⟨s12, z2, z3, z7, z8, z9, rfl⟩ := hP
    obtain ⟨eH, hz⟩ := hy
    subst eH
    obtain ⟨sp, gs, ⟨b, eb, hb⟩⟩ := paired_get hpx hz
    subst eb
    have hb12 := s12 _ _ hb
    -- the lower one
    refine ⟨_, rfl, b, _, 0, .int sp.l, rfl, rfl, SqT.of hb12, atI_nat (j := 0) rfl, _, rfl, b, _, 1, .int sp.y, rfl, rfl, SqT.of hb12, atI_nat (j := 1) rfl, _, _, rfl, rfl, small (n := 2) (by decide), fun q1 nq1 => ?_⟩
    have t1 : Same H13 (L2.upd H13 q1 (.tup [.int sp.l, .int (sp.y - 1)])) := same_upd nq1
    have f1 : (L2.upd H13 q1 (.tup [.int sp.l, .int (sp.y - 1)])) q1 = some (.tup [.int sp.l, .int (sp.y - 1)]) := upd_same
    generalize L2.upd H13 q1 (.tup [.int sp.l, .int (sp.y - 1)]) = H14 at t1 f1 ⊢
    refine ⟨_, rfl, 2, rfl, b, spotT sp, rfl, SqT.of (t1 _ _ hb12), (fun z => absurd z.1 (by show ¬ (2 : Nat) = 0; decide)), fun q2 nq2 => ?_⟩
    have t2 : Same H14 (L2.upd H14 q2 (.tup (cutV (spotT sp) (some 2) none))) := same_upd nq2
    have f2 : (L2.upd H14 q2 (.tup (cutV (spotT sp) (some 2) none))) q2 = some (.tup [.int sp.w, .int sp.h]) := upd_same
    generalize L2.upd H14 q2 (.tup (cutV (spotT sp) (some 2) none)) = H15 at t2 f2 ⊢
    refine ⟨q1, q2, _, _, rfl, rfl, SqT.of (t2 _ _ f1), SqT.of f2, (fun z => nomatch z), small (n := 4) (by decide), (fun z => nomatch z), fun _ q3 nq3 => ?_⟩
    have t3 : Same H15 (L2.upd H15 q3 (.tup ([.int sp.l, .int (sp.y - 1)] ++ [.int sp.w, .int sp.h]))) := same_upd nq3
    have f3 : (L2.upd H15 q3 (.tup ([.int sp.l, .int (sp.y - 1)] ++ [.int sp.w, .int sp.h]))) q3 = some (.tup [.int sp.l, .int (sp.y - 1), .int sp.w, .int sp.h]) := upd_same
    generalize L2.upd H15 q3 (.tup ([.int sp.l, .int (sp.y - 1)] ++ [.int sp.w, .int sp.h])) = H16 at t3 f3 ⊢
    have t13 := t1.trans (t2.trans t3)
    have s16 := s12.trans t13
    have hb16 := t13 _ _ hb12
    refine ⟨_, rfl, b, _, 1, .int sp.y, rfl, rfl, SqT.of hb16, atI_nat (j := 1) rfl, _, _, rfl, rfl, _, rfl, and2 (fun (ey : decide ((0 : Int) < sp.y) = true) => ?_) (fun _ => ?_)⟩
    · have hy0 : 0 < sp.y := of_decide_eq_true ey
      obtain ⟨i1, u1, g1, n1, v1⟩ := fr.stands (List.mem_of_getElem? gs) hy0
      have i1n : i1 < xs.length := by
        rw [lx]
        exact (List.getElem?_eq_some_iff.mp g1).1
      have g1 : (res ss t)[i1]? = some u1 := g1
      have hx16 := s16 _ _ hx
      refine ⟨_, rfl, p8, rfl, ⟨_, SqT.of hx16⟩, fun D hD => ?_⟩
      refine lc_pick (walk_tup (K := K) (a := p8) (xs := xs)) (fun H' sm => Same.seqT sm (SqT.of hx16)) hD (by omega) (under xs (res ss t) sp) (fun i x H17 kk hi hxi s17 hk => ?_) (fun H17 s17 e17 => ?_)
      · obtain ⟨u, gu, ⟨c, ec, hc⟩⟩ := paired_get hpx hxi
        subst ec
        have hc17 := (s16.trans s17) _ _ hc
        have hk' := hk H17 (Same.refl H17)
        rw [under_at hxi gu] at hk'
        refine ⟨_, rfl, _, rfl, ne_tups (ns := spotI u) (ms := spotI sp) hc17 (s17 _ _ hb16) ⟨_, rfl, and2 (fun (ea : (!decide (spotI u = spotI sp)) = true) => ?_) (fun (ea : (!decide (spotI u = spotI sp)) = false) => ?_)⟩⟩
        · rw [ea, Bool.true_and] at hk'
          refine ⟨_, rfl, _, rfl, q3, c, ⟨sp.l, sp.y - 1, sp.w, sp.h⟩, u, rfl, s17 _ _ f3, hc17, _, rfl, and2 (fun (eo : ov ⟨sp.l, sp.y - 1, sp.w, sp.h⟩ u = true) => ?_) (fun (eo : ov ⟨sp.l, sp.y - 1, sp.w, sp.h⟩ u = false) => ?_)⟩
          · rw [eo, if_pos rfl] at hk'
            exact ⟨_, rfl, hk'⟩
          · rw [eo, if_neg Bool.false_ne_true] at hk'
            exact hk'
        · rw [ea, Bool.false_and, if_neg Bool.false_ne_true] at hk'
          exact iteF hk'
      · refine ⟨small (n := 0) (by decide), fun p0 np0 => ?_⟩
        have s18 : Same H17 (L2.upd H17 p0 (.lst [])) := same_upd np0
        have sm18 := s16.trans (s17.trans s18)
        refine eq_some (s18 _ _ e17) (fun v hv => ?_) upd_same ⟨_, rfl, ?_⟩
        · obtain ⟨i, _, hi⟩ := picked_mem.mp hv
          obtain ⟨u, _, hu⟩ := paired_get hpx (under_mem hi)
          exact ⟨u, hu.keep (Same.tups sm18)⟩
        · have ne : spotI u1 ≠ spotI sp := fun e => n1 (spotI_inj e)
          have pk1 : under xs (res ss t) sp i1 = some xs[i1] := by
            rw [under_at (List.getElem?_eq_getElem i1n) g1, decide_eq_false ne, v1]
            rfl
          have mem : xs[i1] ∈ picked (under xs (res ss t) sp) xs.length := picked_mem.mpr ⟨i1, i1n, pk1⟩
          have nil : (picked (under xs (res ss t) sp) xs.length).isEmpty = false := by
            cases e : picked (under xs (res ss t) sp) xs.length with
            | nil =>
              rw [e] at mem
              exact absurd mem (by simp)
            | cons _ _ => rfl
          refine ite_f nil ?_
          exact ⟨sm18, _, _, _, _, _, rfl⟩
    · exact iteF ⟨s16, _, _, _, _, _, rfl⟩
  · obtain ⟨s12, z2, z3, z7, z8, z9, rfl⟩ := hP
    exact ⟨row11.same s12, _, _, _, _, _, _, _, _, rfl⟩
end
end K53

namespace K53
open PySem PySem.Spec PyProof.Rows L2
/-! ### where the defs stand behind the top -/
/-- one def of the text, as the top has left it -/
def Stands (K : PySem.W.Frag) (x : Str) (st : Stmt) (f : Addr) : Prop := PySem.W.nsIn K mainGlobals x = some (some (.ref f)) ∧
  (∃ (od an : Option Addr) (sl : Array (Option Value)) (oc kV dc pm cd ct : Value), K.lookup f = some ⟨oc, od, .func (PySem.W.fnOf x x (defArgs st) (defBody st) (defScope st) .none kV dc pm an cd ct), sl⟩ ∧ PySem.W.codeIn K cd x = true) ∧ PySem.W.keepIn K (.ref f) = true
theorem stands_mk {K : PySem.W.Frag} {x : Str} {st : Stmt} {f : Addr} {od an : Option Addr} {sl : Array (Option Value)} {oc kV dc pm cd ct : Value} (a : PySem.W.nsIn K mainGlobals x = some (some (.ref f)))
    (l : K.lookup f = some ⟨oc, od, .func (PySem.W.fnOf x x (defArgs st) (defBody st) (defScope st) .none kV dc pm an cd ct), sl⟩) (c : PySem.W.codeIn K cd x = true) (k : PySem.W.keepIn K (.ref f) = true) : Stands K x st f := ⟨a, ⟨od, an, sl, oc, kV, dc, pm, cd, ct, l, c⟩, k⟩
theorem const_mk {K : PySem.W.Frag} {x : Str} {i : Int} {t : Tok} (h : PySem.W.nsIn K mainGlobals x = some (some (.int i t))) : ∃ t, PySem.W.nsIn K mainGlobals x = some (some (.int i t)) := ⟨t, h⟩
theorem Stands.at {K : PySem.W.Frag} {h : Heap} {mg : Str → Option Value} {x : Str} {st : Stmt} {f : Addr} {ps : List Str} (S : Stands K x st f) (X : K.In h) (G : h.Ns mainGlobals mg)
    (hb : ∀ (kV doc pm : Value) (an : Option Addr) (cdv ct : Value) (us : List Value), us.length = ps.length → bindArgs (PySem.W.fnOf x x (defArgs st) (defBody st) (defScope st) .none kV doc pm an cdv ct) ⟨us, []⟩ = pure (ps.zip us)) :
    ∃ fd, At K mg x st f fd ps ∧ ∃ (kV dc pm : Value) (an : Option Addr) (cd ct : Value), fd = PySem.W.fnOf x x (defArgs st) (defBody st) (defScope st) .none kV dc pm an cd ct := by
  obtain ⟨a, ⟨od, an, sl, oc, kV, dc, pm, cd, ct, l, c⟩, kp⟩ := S
  have F := fun_mk (st := st) l c kp
  exact ⟨_, ⟨F, PySem.W.mg_of X G a, F.binds hb⟩, kV, dc, pm, an, cd, ct, rfl⟩
theorem all_mk {l : PySem.W.OpenLaw} {w : World} {K : PySem.W.Frag} {h : Heap} {mg : Str → Option Value} {fa f1 f2 f3 f4 f5 f6 f7 f8 f9 f10 f11 f12 f13 f14 f15 f16 f17 f18 f19 f20 f21 f22 : Addr} (X : K.In h) (G : h.Ns mainGlobals mg) (hfa : mg "law" = some (.ref fa))
    (S1 : Stands K "is_integer" sIsInteger f1)
    (S2 : Stands K "is_in" sIsIn f2)
    (S3 : Stands K "is_list" sIsList f3)
    (S4 : Stands K "is_size" sIsSize f4)
    (S5 : Stands K "need_sizes" sNeedSizes f5)
    (S6 : Stands K "is_spot" sIsSpot f6)
    (S7 : Stands K "do_overlap" sDoOverlap f7)
    (S8 : Stands K "need_packing" sNeedPacking f8)
    (S9 : Stands K "is_packing" sIsPacking f9)
    (S10 : Stands K "blocks_of" sBlocksOf f10)
    (S11 : Stands K "need_bush" sNeedBush f11)
    (S12 : Stands K "rest_on" sRestOn f12)
    (S13 : Stands K "grow" sGrow f13)
    (S14 : Stands K "packed_bush" sPackedBush f14)
    (S15 : Stands K "_law_taken" sTaken f15)
    (S16 : Stands K "_law_alike" sLawAlike f16)
    (S17 : Stands K "_law_sizes" sLawSizes f17)
    (S18 : Stands K "_law_order" sLawOrder f18)
    (S19 : Stands K "_law_overlap" sLawOverlap f19)
    (S20 : Stands K "_law_bush" sLawBush f20)
    (S21 : Stands K "_law_grown" sLawGrown f21)
    (S22 : Stands K "law" sLaw f22)
    (z1 : PySem.W.nsIn K mainGlobals "isinstance" = some none) (z2 : PySem.W.nsIn K mainGlobals "int" = some none) (z3 : PySem.W.nsIn K mainGlobals "bool" = some none) (z4 : PySem.W.nsIn K mainGlobals "tuple" = some none) (z5 : PySem.W.nsIn K mainGlobals "list" = some none) (z6 : PySem.W.nsIn K mainGlobals "str" = some none) (z7 : PySem.W.nsIn K mainGlobals "len" = some none) (z8 : PySem.W.nsIn K mainGlobals "all" = some none) (z9 : PySem.W.nsIn K mainGlobals "any" = some none) (z10 : PySem.W.nsIn K mainGlobals "enumerate" = some none) (z11 : PySem.W.nsIn K mainGlobals "sorted" = some none) (z12 : PySem.W.nsIn K mainGlobals "range" = some none) (z13 : PySem.W.nsIn K mainGlobals "max" = some none)
    (c1 : ∃ t, PySem.W.nsIn K mainGlobals "MOST_BLOCKS" = some (some (.int 8 t))) (c2 : ∃ t, PySem.W.nsIn K mainGlobals "MOST_SIDE" = some (some (.int 100 t))) (c3 : ∃ t, PySem.W.nsIn K mainGlobals "MOST_PLACE" = some (some (.int 1000 t))) :
    ∃ fd : FuncData, (∀ (s : Shared) (v : Value), BindsTo s fd ⟨[v], []⟩ [("_law_script", v)]) ∧ ∀ base : Heap, K.In base → base.Ns mainGlobals mg → FnOk l.prog w K mg base CX0 14 fa fd ["_law_script"] (spLaw K) := by
  have B : Bi mg := ⟨PySem.W.mg_none_of X G z1, PySem.W.mg_none_of X G z2, PySem.W.mg_none_of X G z3, PySem.W.mg_none_of X G z4, PySem.W.mg_none_of X G z5, PySem.W.mg_none_of X G z6, PySem.W.mg_none_of X G z7, PySem.W.mg_none_of X G z8, PySem.W.mg_none_of X G z9, PySem.W.mg_none_of X G z10, PySem.W.mg_none_of X G z11, PySem.W.mg_none_of X G z12, PySem.W.mg_none_of X G z13⟩
  have C : Cs mg := ⟨c1.imp fun _ e => PySem.W.mg_of X G e, c2.imp fun _ e => PySem.W.mg_of X G e, c3.imp fun _ e => PySem.W.mg_of X G e⟩
  obtain ⟨d1, T1, _⟩ := S1.at (ps := ["value"]) X G fun _ _ _ _ _ _ us hl => match us, hl with | [_], _ => rfl
  obtain ⟨d2, T2, _⟩ := S2.at (ps := ["value", "least", "most"]) X G fun _ _ _ _ _ _ us hl => match us, hl with | [_, _, _], _ => rfl
  obtain ⟨d3, T3, _⟩ := S3.at (ps := ["value", "least", "most"]) X G fun _ _ _ _ _ _ us hl => match us, hl with | [_, _, _], _ => rfl
  obtain ⟨d4, T4, _⟩ := S4.at (ps := ["value"]) X G fun _ _ _ _ _ _ us hl => match us, hl with | [_], _ => rfl
  obtain ⟨d5, T5, _⟩ := S5.at (ps := ["sizes"]) X G fun _ _ _ _ _ _ us hl => match us, hl with | [_], _ => rfl
  obtain ⟨d6, T6, _⟩ := S6.at (ps := ["value"]) X G fun _ _ _ _ _ _ us hl => match us, hl with | [_], _ => rfl
  obtain ⟨d7, T7, _⟩ := S7.at (ps := ["one", "other"]) X G fun _ _ _ _ _ _ us hl => match us, hl with | [_, _], _ => rfl
  obtain ⟨d8, T8, _⟩ := S8.at (ps := ["spots"]) X G fun _ _ _ _ _ _ us hl => match us, hl with | [_], _ => rfl
  obtain ⟨d9, T9, _⟩ := S9.at (ps := ["spots"]) X G fun _ _ _ _ _ _ us hl => match us, hl with | [_], _ => rfl
  obtain ⟨d10, T10, _⟩ := S10.at (ps := ["bush"]) X G fun _ _ _ _ _ _ us hl => match us, hl with | [_], _ => rfl
  obtain ⟨d11, T11, _⟩ := S11.at (ps := ["sizes", "bush"]) X G fun _ _ _ _ _ _ us hl => match us, hl with | [_, _], _ => rfl
  obtain ⟨d12, T12, _⟩ := S12.at (ps := ["spots", "left", "width"]) X G fun _ _ _ _ _ _ us hl => match us, hl with | [_, _, _], _ => rfl
  obtain ⟨d13, T13, _⟩ := S13.at (ps := ["sizes", "bush", "left", "found"]) X G fun _ _ _ _ _ _ us hl => match us, hl with | [_, _, _, _], _ => rfl
  obtain ⟨d14, T14, _⟩ := S14.at (ps := ["sizes", "bush"]) X G fun _ _ _ _ _ _ us hl => match us, hl with | [_, _], _ => rfl
  obtain ⟨d15, T15, _⟩ := S15.at (ps := ["_law_row", "_law_many"]) X G fun _ _ _ _ _ _ us hl => match us, hl with | [_, _], _ => rfl
  obtain ⟨d16, T16, _⟩ := S16.at (ps := ["_law_found", "_law_due"]) X G fun _ _ _ _ _ _ us hl => match us, hl with | [_, _], _ => rfl
  obtain ⟨d17, T17, _⟩ := S17.at (ps := ["_law_row", "_law_many", "_law_most"]) X G fun _ _ _ _ _ _ us hl => match us, hl with | [_, _, _], _ => rfl
  obtain ⟨d18, T18, _⟩ := S18.at (ps := ["_law_row", "_law_many"]) X G fun _ _ _ _ _ _ us hl => match us, hl with | [_, _], _ => rfl
  obtain ⟨d19, T19, _⟩ := S19.at (ps := ["_law_one", "_law_other"]) X G fun _ _ _ _ _ _ us hl => match us, hl with | [_, _], _ => rfl
  obtain ⟨d20, T20, _⟩ := S20.at (ps := ["_law_row", "_law_blocks"]) X G fun _ _ _ _ _ _ us hl => match us, hl with | [_, _], _ => rfl
  obtain ⟨d21, T21, _⟩ := S21.at (ps := ["_law_sizes_here", "_law_bush_here"]) X G fun _ _ _ _ _ _ us hl => match us, hl with | [_, _], _ => rfl
  obtain ⟨d22, T22, ⟨kV, dc, pm, an, cd, ct, efd⟩⟩ := S22.at (ps := ["_law_script"]) X G fun _ _ _ _ _ _ us hl => match us, hl with | [_], _ => rfl
  have e := hfa.symm.trans T22.gl
  cases e
  refine ⟨d22, fun s v => ?_, fun base _ _ => ?_⟩
  · subst efd
    exact .of_eq rfl
  have g1 := T1.def (ok_isInteger (P := l.prog) (w := w) (base := base) B T1.fn)
  have g2 := T2.def (ok_isIn g1 T2.fn)
  have g3 := T3.def (ok_isList (P := l.prog) (w := w) (base := base) B T3.fn)
  have g4 := T4.def (ok_isSize B C (g3.mono (k := 2) (by decide)) g2 T4.fn)
  have g5 := T5.def (ok_needSizes B C (g3.mono (k := 3) (by decide)) g4 T5.fn)
  have g6 := T6.def (ok_isSpot B C (g3.mono (k := 3) (by decide)) (g2.mono (k := 3) (by decide)) g4 T6.fn)
  have g7 := T7.def (ok_doOverlap (P := l.prog) (w := w) (mg := mg) (base := base) T7.fn)
  have g8 := T8.def (ok_needPacking B C (g3.mono (k := 4) (by decide)) g6 (g7.mono (k := 4) (by decide)) T8.fn)
  have g9 := T9.def (ok_isPacking g8 T9.fn)
  have g10 := T10.def (ok_blocksOf (g3.mono (k := 2) (by decide)) g2 T10 9)
  have g11 := T11.def (ok_needBush B (g5.mono (k := 11) (by decide)) g10 T11.fn)
  have g12 := T12.def (ok_restOn (P := l.prog) (w := w) (base := base) B T12.fn)
  have g13 := T13.def (ok_grow B g12 T13 9)
  have g14 := T14.def (ok_packedBush B g11 (g13.mono (k := 12) (by decide)) T14.fn)
  have g15 := T15.def (ok_taken (P := l.prog) (w := w) (base := base) B T15.fn)
  have g16 := T16.def (ok_lawAlike (P := l.prog) (w := w) (base := base) B T16 3)
  have g17 := T17.def (ok_lawSizes B g15 T17.fn)
  have g18 := T18.def (ok_lawOrder B g15 T18.fn)
  have g19 := T19.def (ok_lawOverlap (P := l.prog) (w := w) (mg := mg) (base := base) T19.fn)
  have g20 := T20.def (ok_lawBush B g15 T20 8)
  have g21 := T21.def (ok_lawGrown (k := 0) (P := l.prog) (w := w) (base := base) B T21.fn)
  exact ok_law B (g15.mono (k := 13) (by decide)) (g17.mono (by decide)) (g18.mono (by decide)) (g20.mono (by decide)) g14 (g21.mono (by decide)) (g16.mono (by decide)) (g9.mono (by decide)) (g19.mono (by decide)) T22.fn
end K53
open PySem PySem.W PyProof.Rows
set_option maxHeartbeats 0 in
theorem PySem.Challenge.cw_chipfloor_k53_whole_bushes_holds : PySem.Challenge.rw_chipfloor_k53_whole_bushes.Holds := by
  w_on; o_law; k_head; (case hw => w_witness2)
  k_fill
  refine L2.walk_of (l := PySem.Challenge.rw_chipfloor_k53_whole_bushes) (n := 63) (k := 14) (x := "_law_script") (CX := fun _ => L2.CX0) (sp := fun w => K53.spLaw _) rfl (by decide) rfl ⟨rfl, by decide, by decide⟩ (fun w h Y => PySem.W.kIn_of Y) ?F (fun _ _ a ns hl _ hS => ⟨a, ns, rfl, hS, fun _ => rfl⟩) (fun _ _ _ _ _ h => h)
  case F =>
    intro w mg fa h KX G hmg
    refine' K53.all_mk KX G hmg (K53.stands_mk ?a1 ?l1 ?e1 ?k1) (K53.stands_mk ?a2 ?l2 ?e2 ?k2) (K53.stands_mk ?a3 ?l3 ?e3 ?k3) (K53.stands_mk ?a4 ?l4 ?e4 ?k4) (K53.stands_mk ?a5 ?l5 ?e5 ?k5) (K53.stands_mk ?a6 ?l6 ?e6 ?k6) (K53.stands_mk ?a7 ?l7 ?e7 ?k7) (K53.stands_mk ?a8 ?l8 ?e8 ?k8) (K53.stands_mk ?a9 ?l9 ?e9 ?k9) (K53.stands_mk ?a10 ?l10 ?e10 ?k10) (K53.stands_mk ?a11 ?l11 ?e11 ?k11) (K53.stands_mk ?a12 ?l12 ?e12 ?k12) (K53.stands_mk ?a13 ?l13 ?e13 ?k13) (K53.stands_mk ?a14 ?l14 ?e14 ?k14) (K53.stands_mk ?a15 ?l15 ?e15 ?k15) (K53.stands_mk ?a16 ?l16 ?e16 ?k16) (K53.stands_mk ?a17 ?l17 ?e17 ?k17) (K53.stands_mk ?a18 ?l18 ?e18 ?k18) (K53.stands_mk ?a19 ?l19 ?e19 ?k19) (K53.stands_mk ?a20 ?l20 ?e20 ?k20) (K53.stands_mk ?a21 ?l21 ?e21 ?k21) (K53.stands_mk ?a22 ?l22 ?e22 ?k22) ?z1 ?z2 ?z3 ?z4 ?z5 ?z6 ?z7 ?z8 ?z9 ?z10 ?z11 ?z12 ?z13 (K53.const_mk ?c1) (K53.const_mk ?c2) (K53.const_mk ?c3)
    (case a1 => k_is); (case l1 => k_is); (case e1 => k_is); (case k1 => k_is)
    (case a2 => k_is); (case l2 => k_is); (case e2 => k_is); (case k2 => k_is)
    (case a3 => k_is); (case l3 => k_is); (case e3 => k_is); (case k3 => k_is)
    (case a4 => k_is); (case l4 => k_is); (case e4 => k_is); (case k4 => k_is)
    (case a5 => k_is); (case l5 => k_is); (case e5 => k_is); (case k5 => k_is)
    (case a6 => k_is); (case l6 => k_is); (case e6 => k_is); (case k6 => k_is)
    (case a7 => k_is); (case l7 => k_is); (case e7 => k_is); (case k7 => k_is)
    (case a8 => k_is); (case l8 => k_is); (case e8 => k_is); (case k8 => k_is)
    (case a9 => k_is); (case l9 => k_is); (case e9 => k_is); (case k9 => k_is)
    (case a10 => k_is); (case l10 => k_is); (case e10 => k_is); (case k10 => k_is)
    (case a11 => k_is); (case l11 => k_is); (case e11 => k_is); (case k11 => k_is)
    (case a12 => k_is); (case l12 => k_is); (case e12 => k_is); (case k12 => k_is)
    (case a13 => k_is); (case l13 => k_is); (case e13 => k_is); (case k13 => k_is)
    (case a14 => k_is); (case l14 => k_is); (case e14 => k_is); (case k14 => k_is)
    (case a15 => k_is); (case l15 => k_is); (case e15 => k_is); (case k15 => k_is)
    (case a16 => k_is); (case l16 => k_is); (case e16 => k_is); (case k16 => k_is)
    (case a17 => k_is); (case l17 => k_is); (case e17 => k_is); (case k17 => k_is)
    (case a18 => k_is); (case l18 => k_is); (case e18 => k_is); (case k18 => k_is)
    (case a19 => k_is); (case l19 => k_is); (case e19 => k_is); (case k19 => k_is)
    (case a20 => k_is); (case l20 => k_is); (case e20 => k_is); (case k20 => k_is)
    (case a21 => k_is); (case l21 => k_is); (case e21 => k_is); (case k21 => k_is)
    (case a22 => k_is); (case l22 => k_is); (case e22 => k_is); (case k22 => k_is)
    (case z1 => k_is); (case z2 => k_is); (case z3 => k_is); (case z4 => k_is); (case z5 => k_is); (case z6 => k_is); (case z7 => k_is); (case z8 => k_is); (case z9 => k_is); (case z10 => k_is); (case z11 => k_is); (case z12 => k_is); (case z13 => k_is)
    (case c1 => k_is); (case c2 => k_is); (case c3 => k_is)
#print axioms PySem.Challenge.cw_chipfloor_k53_whole_bushes_holds

