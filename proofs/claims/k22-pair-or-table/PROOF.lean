import PyProof.Rows.All
import Wide.All
import OpenK.AllK
import Wide.FinOn
import KE.KDictKeyed
import KE.SortData
import HandS.ForMost
import HandS.More
import HandS.Flow
import HandS.IsInst
import HandS.Style
import HandS.NoneIn
import HandS.Deep
import HandS.TupAny
import HandS.Defaults
import HandS.Wide
import HandS.Conv
import KE.KStateDown
import HandS.Head0
import HandS.Head1
import HandS.Head2
import HandS.HeadEnd
import HandS.HeadHook1
import HandS.HeadHook2
import PySem.Challenge.RW_eachalone_k22_whole_a_pair_or_a_table
import HandS.Walk
import HandS.Codes
set_option Elab.async false
set_option linter.all false
set_option maxRecDepth 100000

set_option maxHeartbeats 4000000
/-! Layer extras for this claim: keys that are tuples of truths, sorted rows of truths, calls bundled. -/
namespace Ea
open PySem PySem.Spec PyProof.Rows L2

/-! ### rows of truths as data -/
abbrev Row := List Bool
def encR (r : Row) : PyData := .tuple (r.map PyData.bool)
def encP (p : Row × Row) : PyData := .tuple [encR p.1, encR p.2]
def encL (p : Row × Bool) : PyData := .tuple [encR p.1, .bool p.2]
theorem bools_lay : ∀ r : Row, PyData.canLayAll0 (r.map PyData.bool) = true
  | [] => by simp [PyData.canLayAll0]
  | b :: r => by simp [PyData.canLayAll0, PyData.canLay0, bools_lay r]
theorem bools_depth : ∀ r : Row, PyData.depthAll (r.map PyData.bool) = 0
  | [] => by simp [PyData.depthAll]
  | b :: r => by simp [PyData.depthAll, PyData.depth, bools_depth r]
theorem encR_lay (r : Row) : (encR r).canLay0 = true := by unfold encR; simp only [PyData.canLay0]; exact bools_lay r
theorem encR_depth (r : Row) : (encR r).depth = 1 := by unfold encR; simp only [PyData.depth, bools_depth r]
theorem encP_lay (p : Row × Row) : (encP p).canLay0 = true := by
  unfold encP
  simp only [PyData.canLay0, PyData.canLayAll0, encR_lay, Bool.and_self]
theorem encP_depth (p : Row × Row) : (encP p).depth = 2 := by
  unfold encP
  simp [PyData.depth, PyData.depthAll, encR_depth]
theorem encL_lay (p : Row × Bool) : (encL p).canLay0 = true := by
  unfold encL
  simp only [PyData.canLay0, PyData.canLayAll0, encR_lay, Bool.and_self]
theorem encL_depth (p : Row × Bool) : (encL p).depth = 2 := by
  unfold encL
  simp [PyData.depth, PyData.depthAll, encR_depth]
theorem all_lay {α : Type} {f : α → PyData} (h : ∀ a, (f a).canLay0 = true) : ∀ l : List α, PyData.canLayAll0 (l.map f) = true
  | [] => by simp [PyData.canLayAll0]
  | a :: l => by simp [PyData.canLayAll0, h a, all_lay h l]
theorem all_depth {α : Type} {f : α → PyData} {n : Nat} (h : ∀ a, (f a).depth ≤ n) : ∀ l : List α, PyData.depthAll (l.map f) ≤ n
  | [] => by simp [PyData.depthAll]
  | a :: l => by
    have h1 := all_depth h l
    have h2 := h a
    simp only [List.map_cons, PyData.depthAll]
    omega
theorem shaped_of {d : PyData} (h : d.canLay0 = true) (h2 : d.depth ≤ 64) : SeqAt.shaped d = true := by
  show (d.canLay0 && decide (d.depth ≤ 64)) = true
  rw [h, decide_eq_true h2] <;> rfl
theorem encR_shaped (r : Row) : SeqAt.shaped (encR r) = true := shaped_of (encR_lay r) (by rw [encR_depth]; decide)
theorem encP_shaped (r : Row × Row) : SeqAt.shaped (encP r) = true := shaped_of (encP_lay r) (by rw [encP_depth]; decide)
theorem encL_shaped (r : Row × Bool) : SeqAt.shaped (encL r) = true := shaped_of (encL_lay r) (by rw [encL_depth]; decide)
theorem list_shaped {α : Type} {f : α → PyData} {n : Nat} (h : ∀ a, (f a).canLay0 = true) (h2 : ∀ a, (f a).depth ≤ n) (hn : n ≤ 60) (l : List α) : SeqAt.shaped (.list (l.map f)) = true := by
  refine shaped_of ?_ ?_
  · simp only [PyData.canLay0]
    exact all_lay h l
  · have h1 := all_depth h2 l
    simp only [PyData.depth]
    omega
theorem bools_eqv : ∀ r q : Row, PyData.eqvAll (r.map PyData.bool) (q.map PyData.bool) = decide (r = q)
  | [], [] => by simp [PyData.eqvAll]
  | [], b :: q => by simp [PyData.eqvAll]
  | b :: r, [] => by simp [PyData.eqvAll]
  | b :: r, c :: q => by
    have h := bools_eqv r q
    simp only [List.map_cons, PyData.eqvAll, PyData.eqv, h]
    cases b <;> cases c <;> simp
theorem encR_eqv (r q : Row) : PyData.eqv (encR r) (encR q) = decide (r = q) := by
  unfold encR
  simp only [PyData.eqv]
  exact bools_eqv r q
theorem encP_eqv (r q : Row × Row) : PyData.eqv (encP r) (encP q) = decide (r = q) := by
  obtain ⟨a, b⟩ := r
  obtain ⟨c, d⟩ := q
  unfold encP
  simp only [PyData.eqv, PyData.eqvAll, encR_eqv]
  by_cases h1 : a = c <;> by_cases h2 : b = d <;> simp [h1, h2]
theorem encL_eqv (r q : Row × Bool) : PyData.eqv (encL r) (encL q) = decide (r = q) := by
  obtain ⟨a, b⟩ := r
  obtain ⟨c, d⟩ := q
  unfold encL
  simp only [PyData.eqv, PyData.eqvAll, encR_eqv]
  by_cases h1 : a = c <;> cases b <;> cases d <;> simp [h1]
theorem any_eqv {α : Type} [DecidableEq α] {f : α → PyData} (h : ∀ a b, PyData.eqv (f a) (f b) = decide (a = b)) (a : α) : ∀ l : List α, ((l.map f).any fun z => PyData.eqv z (f a)) = decide (a ∈ l)
  | [] => by simp
  | b :: l => by
    rw [List.map_cons, List.any_cons, h, any_eqv h a l]
    by_cases e : b = a
    · subst e; simp
    · have e' : ¬ a = b := fun z => e z.symm
      simp [e, e']
theorem all_eqv {α : Type} [DecidableEq α] {f : α → PyData} (h : ∀ a b, PyData.eqv (f a) (f b) = decide (a = b)) : ∀ l m : List α, PyData.eqvAll (l.map f) (m.map f) = decide (l = m)
  | [], [] => by simp [PyData.eqvAll]
  | [], b :: q => by simp [PyData.eqvAll]
  | b :: r, [] => by simp [PyData.eqvAll]
  | b :: r, c :: q => by
    have h' := all_eqv h r q
    simp only [List.map_cons, PyData.eqvAll, h, h']
    by_cases e : b = c <;> simp [e]

/-! ### rows on the heap -/
/-- v is a tuple of the truths r -/
def RowAt (H : Hp) (v : V) (r : Row) : Prop := ∃ a, v = .ref a ∧ H a = some (.tup (r.map V.bl))
/-- the values vs are the rows rs -/
abbrev RowsAt (H : Hp) (vs : List V) (rs : List Row) : Prop := Paired (RowAt H) vs rs
theorem RowAt.mono {H H' : Hp} {v : V} {r : Row} (h : RowAt H v r) (s : Same H H') : RowAt H' v r := by
  obtain ⟨a, e, h⟩ := h
  exact ⟨a, e, s _ _ h⟩
theorem RowsAt.mono {H H' : Hp} {vs : List V} {rs : List Row} (h : RowsAt H vs rs) (s : Same H H') : RowsAt H' vs rs := Paired.mapP h fun _ _ z => z.mono s
theorem paired_get {α β : Type} {F : α → β → Prop} : ∀ {xs : List α} {ys : List β} {i : Nat} {x : α}, Paired F xs ys → xs[i]? = some x → ∃ y, ys[i]? = some y ∧ F x y
  | _, _, _, _, .nil, e => by simp at e
  | _, _, 0, _, .cons r _, e => by simp at e; subst e; exact ⟨_, rfl, r⟩
  | _, _, i + 1, x, .cons _ t, e => by
    obtain ⟨u, h1, h2⟩ := paired_get (i := i) (x := x) t (by simpa using e)
    exact ⟨u, by simpa using h1, h2⟩
theorem paired_get' {α β : Type} {F : α → β → Prop} : ∀ {xs : List α} {ys : List β} {i : Nat} {y : β}, Paired F xs ys → ys[i]? = some y → ∃ x, xs[i]? = some x ∧ F x y
  | _, _, _, _, .nil, e => by simp at e
  | _, _, 0, _, .cons r _, e => by simp at e; subst e; exact ⟨_, rfl, r⟩
  | _, _, i + 1, x, .cons _ t, e => by
    obtain ⟨u, h1, h2⟩ := paired_get' (i := i) t (by simpa using e)
    exact ⟨u, by simpa using h1, h2⟩
theorem paired_append {α β : Type} {F : α → β → Prop} : ∀ {xs xs' : List α} {ys ys' : List β}, Paired F xs ys → Paired F xs' ys' → Paired F (xs ++ xs') (ys ++ ys')
  | _, _, _, _, .nil, s => s
  | _, _, _, _, .cons r t, s => .cons r (paired_append t s)
theorem paired_snoc {α β : Type} {F : α → β → Prop} {xs : List α} {ys : List β} {x : α} {y : β} (p : Paired F xs ys) (h : F x y) : Paired F (xs ++ [x]) (ys ++ [y]) := paired_append p (.cons h .nil)
theorem paired_take {α β : Type} {F : α → β → Prop} : ∀ {xs : List α} {ys : List β} (n : Nat), Paired F xs ys → Paired F (xs.take n) (ys.take n)
  | _, _, 0, _ => .nil
  | _, _, _ + 1, .nil => .nil
  | _, _, n + 1, .cons r t => .cons r (paired_take n t)
theorem paired_drop {α β : Type} {F : α → β → Prop} : ∀ {xs : List α} {ys : List β} (n : Nat), Paired F xs ys → Paired F (xs.drop n) (ys.drop n)
  | _, _, 0, r => r
  | _, _, _ + 1, .nil => .nil
  | _, _, n + 1, .cons _ t => paired_drop n t
section
variable {K : PySem.W.Frag} {H : Hp}
theorem dp_bools : ∀ r : Row, DpAll K H (r.map V.bl) (r.map PyData.bool)
  | [] => .nil
  | b :: r => .cons (.bl b) (dp_bools r)
theorem RowAt.dp {v : V} {r : Row} (h : RowAt H v r) : Dp K H v (encR r) := by
  obtain ⟨a, rfl, h⟩ := h
  exact .tup (SqT.of h) (dp_bools r)
theorem dpAll_of {α : Type} {F : V → α → Prop} {f : α → PyData} (h : ∀ v a, F v a → Dp K H v (f a)) : ∀ {vs : List V} {as : List α}, Paired F vs as → DpAll K H vs (as.map f)
  | _, _, .nil => .nil
  | _, _, .cons r t => .cons (h _ _ r) (dpAll_of h t)
theorem RowsAt.dp {a : Addr} {vs : List V} {rs : List Row} (h : SqL K H a vs) (p : RowsAt H vs rs) : Dp K H (.ref a) (.list (rs.map encR)) := .lst h (dpAll_of (fun _ _ z => z.dp) p)
end

/-! ### sorted(rows) -/
def srt (rs : List Row) : List Row := rs.mergeSort (PySem.W.dataLe false encR)
theorem srt_perm (rs : List Row) : (srt rs).Perm rs := List.mergeSort_perm rs _
theorem srt_mem {rs : List Row} {r : Row} : r ∈ srt rs ↔ r ∈ rs := (srt_perm rs).mem_iff
theorem srt_nodup {rs : List Row} (h : rs.Nodup) : (srt rs).Nodup := (srt_perm rs).nodup_iff.mpr h
theorem alike_bools : ∀ xs ys : Row, PySem.W.alikeAll (xs.map PyData.bool) (ys.map PyData.bool) = true
  | [], _ => by simp [PySem.W.alikeAll]
  | _ :: _, [] => by simp [PySem.W.alikeAll]
  | x :: xs, y :: ys => by
    show PySem.W.alikeAll (.bool x :: xs.map PyData.bool) (.bool y :: ys.map PyData.bool) = true
    rw [PySem.W.alikeAll, alike_bools xs ys]
    simp [PySem.W.alike]
/-- sorted(xs), xs a list of rows that are not empty -/
def rSortB (K : PySem.W.Frag) : List V → Hp → VK → Prop := fun vs H Q => ∃ (a : Addr) (xs : List V) (rs : List Row), vs = [.ref a] ∧ SqL K H a xs ∧ RowsAt H xs rs ∧ (∀ r ∈ rs, r ≠ []) ∧
  ∀ (ys : List V) (p : Addr), RowsAt H ys (srt rs) → H p = none → Q (.ref p) (upd H p (.lst ys))
/-- the value u is the row r -/
def RowU (H : Hp) (u : Value) (r : Row) : Prop := ∃ a, u = .ref a ∧ H a = some (.tup (r.map V.bl))
theorem each_rows {H : Hp} : ∀ {xs : List V} {us : List Value} {rs : List Row}, Vals xs us → RowsAt H xs rs → PySem.W.EachIs (RowU H) us rs
  | _, _, _, .nil, .nil => .nil
  | _, _, _, .cons r t, .cons ⟨a, e, h⟩ t2 => by
    subst e
    cases r
    exact .cons ⟨a, rfl, h⟩ (each_rows t t2)
theorem rows_each {H : Hp} : ∀ {us : List Value} {rs : List Row}, PySem.W.EachIs (RowU H) us rs → ∃ xs, Vals xs us ∧ RowsAt H xs rs
  | _, _, .nil => ⟨[], .nil, .nil⟩
  | _, _, .cons ⟨a, e, h⟩ t => by
    subst e
    obtain ⟨xs, h1, h2⟩ := rows_each t
    exact ⟨.ref a :: xs, .cons rfl h1, .cons ⟨a, rfl, h⟩ h2⟩
section
variable {X : Cx}
theorem cr_sortedB (hu : X.A.units + 8 < cLine) : CallR X (.builtin "sorted") (rSortB X.K) := by
  intro pins s σ H vs us Q I r h
  obtain ⟨a, xs, rs, rfl, hs, hr, hne, q⟩ := h
  obtain ⟨its, rv, hl, hz⟩ := I.list hs
  rw [Vals.ref1 r]
  have e := each_rows rv hr
  have hlen : rs.length = xs.length := (Paired.length hr).symm
  have er : PySem.W.EachIs (fun v b => ∃ as, Reads s.heap v (encR b) as) its rs := by
    refine e.mono ?_
    intro v b hv
    obtain ⟨c, ev, hc⟩ := hv
    subst ev
    exact Dp.reads I (encR b) (.ref c) (.ref c) (RowAt.dp (K := X.K) ⟨c, rfl, hc⟩) rfl
  refine PySem.W.sorted_data (enc := encR) hl.isList e er ?_ ?_ (by rw [hlen]; exact hz) ?_ fun out h1 h2 => ?_
  · refine PySem.W.AllAlike.of fun b b' => ?_
    unfold encR
    rw [PySem.W.alike]
    exact alike_bools b b'
  · refine .inl fun d hd => ?_
    obtain ⟨b, hb, rfl⟩ := List.mem_map.mp hd
    cases b with
    | nil => exact absurd rfl (hne _ hb)
    | cons c b => exact ⟨.bool c, b.map PyData.bool, rfl⟩
  · intro b _
    rw [encR_depth]
    omega
  · obtain ⟨ys, k1, k2⟩ := rows_each h2
    obtain ⟨ep, he'⟩ := PyProof.Rows.sortedAll_at s.heap its out.toArray
    have hy : ys.length ≤ sizeLine := by
      rw [k1.length, h1, hlen]
      exact hz
    exact ⟨.ref _, upd H (s.heap.objs.size + 1) (.lst ys), I.laid (t' := s.toks) (fun _ _ => PyProof.Rows.sortedAll_old) (Nat.le_succ _) ⟨hy, out, ep, k1, he'⟩, rfl, q ys _ k2 (I.hok.fresh (Nat.le_succ _))⟩
end
end Ea

set_option maxHeartbeats 4000000
namespace Ea
open PySem PySem.Spec PyProof.Rows L2

/-! ### a truth as a key -/
def lfB (b : Bool) : Leaf := .num (if b then 1 else 0)
theorem lfB_inj {a b : Bool} (h : lfB a = lfB b) : a = b := by
  cases a <;> cases b <;> simp [lfB] at h ⊢
def isB (b : Bool) : Value → Bool
  | .bool c => b == c
  | _ => false
theorem isB_eq {b : Bool} {v : Value} (h : isB b v = true) : v = .bool b := by
  cases v with
  | bool c =>
    have e : b = c := eq_of_beq (show (b == c) = true from h)
    rw [e]
  | _ => exact absurd h Bool.false_ne_true
theorem isB_self (b : Bool) : isB b (.bool b) = true := by cases b <;> rfl
theorem leafB (P : Program) (w : World) (b : Bool) : (leafKind P w).is (lfB b) (.bool b) = true := by cases b <;> rfl
def boolKind (P : Program) (w : World) : PySem.KeyKind P w Bool where
  is := isB
  hash := fun b => (leafKind P w).hash (lfB b)
  inj := fun v a b ha hb => by
    have e := isB_eq ha
    have e2 := isB_eq hb
    rw [e] at e2
    injection e2
  byValue := fun k v h => by
    have e := isB_eq h
    subst e
    rfl
  pyHash := fun {A E s k v Q} hv h => by
    have e := isB_eq hv
    subst e
    exact (leafKind P w).pyHash (leafB P w k) h
  eqBool := fun {A E s a b u v Q} hu hv h => by
    have e := isB_eq hu
    have e2 := isB_eq hv
    subst e e2
    refine (leafKind P w).eqBool (leafB P w a) (leafB P w b) ?_
    have q : decide (lfB a = lfB b) = decide (a = b) := by
      by_cases c : a = b
      · rw [decide_eq_true c, c]
        exact decide_eq_true rfl
      · rw [decide_eq_false c]
        exact decide_eq_false fun z => c (lfB_inj z)
    rw [q]
    exact h
  «strs» := fun k x t v h => absurd h Bool.false_ne_true

/-! ### a dict whose keys are rows -/
abbrev RK (P : Program) (w : World) := tupleKind (boolKind P w)
abbrev Ent := Row × Addr × Value
/-- the entries stand in the dict's own object -/
def DBphi (P : Program) (w : World) (a : Addr) (xs : List Ent) (h : Heap) : Prop := xs.length ≤ sizeLine ∧ (a == sysModules) = false ∧
  ∃ o es ep, h.get? a = some o ∧ o.ExactDict ∧ o.data = .dict es ep ∧ es.toList = xs.map (entryOfKey (RK P w)) ∧ (xs.map (·.1)).Nodup
def DBo (P : Program) (w : World) (a : Addr) (xs : List Ent) : HO := .ext (DBphi P w a xs)
/-- .. and each key's tuple is tracked -/
structure DB (P : Program) (w : World) (H : Hp) (a : Addr) (xs : List Ent) : Prop where
  ob : H a = some (DBo P w a xs)
  ks : ∀ x ∈ xs, H x.2.1 = some (.tup (x.1.map V.bl))
theorem DB.mono {P : Program} {w : World} {H H' : Hp} {a : Addr} {xs : List Ent} (d : DB P w H a xs) (s : Same H H') : DB P w H' a xs := ⟨s _ _ d.ob, fun x hx => s _ _ (d.ks x hx)⟩
theorem db_ok {P : Program} {w : World} {H : Hp} {h : Heap} {a : Addr} {xs : List Ent} (c : DBphi P w a xs h) : ObjOk P w H h a (DBo P w a xs) := by
  refine ⟨c, ?_, ?_⟩
  · obtain ⟨_, _, o, _, _, e, _⟩ := c
    exact ⟨o, e⟩
  · intro h1 h2 c1 k
    obtain ⟨z, y, o, es, ep, e, r⟩ := c1
    exact ⟨z, y, o, es, ep, k _ e, r⟩
theorem row_items {P : Program} {w : World} : ∀ {r : Row} {us : List Value}, Vals (r.map V.bl) us → ItemsAre (boolKind P w) r us
  | [], _, r => by rw [List.map_nil] at r; cases r; exact .nil
  | b :: ks, _, r => by
    rw [List.map_cons] at r
    cases r with
    | cons h t =>
      cases h
      exact .cons (isB_self b) (row_items t)
theorem row_key {P : Program} {w : World} {H : Hp} {h : Heap} {a : Addr} {r : Row} (ok : HOk P w H h) (e : H a = some (.tup (r.map V.bl))) : (RK P w).is h r a := by
  obtain ⟨_, its, rv, o, h1, h2, n, h3⟩ := (show ObjOk P w H h a (.tup (r.map V.bl)) from ok a _ e)
  exact ⟨o, its.toArray, n, h1, h2, h3, by simpa using row_items rv⟩
theorem DB.get {P : Program} {w : World} {H : Hp} {h : Heap} {a : Addr} {xs : List Ent} (d : DB P w H a xs) (ok : HOk P w H h) : xs.length ≤ sizeLine ∧ (a == sysModules) = false ∧ h.DictOfH (RK P w) a xs := by
  obtain ⟨⟨z, y, o, es, ep, h1, h2, h3, h4, h5⟩, _⟩ := (show ObjOk P w H h a (DBo P w a xs) from ok a _ d.ob)
  exact ⟨z, y, o, es, ep, h1, h2, h3, h4, fun x hx => row_key ok (d.ks x hx), h5⟩
theorem at_none {xs : List Ent} {r : Row} (h : r ∉ xs.map (·.1)) : atKey xs r = none := by
  unfold atKey
  rw [Option.map_eq_none_iff, List.find?_eq_none]
  intro x hx
  simp only [decide_eq_true_eq]
  intro e
  exact h (List.mem_map.mpr ⟨x, hx, e⟩)
theorem at_some (xs : List Ent) (r : Row) : (atKey xs r).isSome = decide (r ∈ xs.map (·.1)) := by
  by_cases h : r ∈ xs.map (·.1)
  · rw [decide_eq_true h]
    obtain ⟨x, hx, e⟩ := List.mem_map.mp h
    unfold atKey
    rw [Option.isSome_map, List.find?_isSome]
    exact ⟨x, hx, decide_eq_true e⟩
  · rw [at_none h, decide_eq_false h] <;> rfl

section
variable {X : Cx} {o i value : Expr} {pos pos' : Pos} {td ty tv : TE}
/-- {} -/
def tDNewB (P : Program) (w : World) : TE := fun _ H Q => ∀ p, H p = none → Q (.ref p) (upd H p (DBo P w p []))
theorem pe_dnewB : PE X (.Dict [] [] pos) (tDNewB X.prog X.w) := ⟨fun pins s σ H Q I h =>
  wpAny_Dict_empty ⟨.ref s.heap.objs.size, _, I.laid (a := s.heap.objs.size) (o := DBo X.prog X.w s.heap.objs.size []) (t' := s.toks) (fun _ _ q => Heap.get?_push_of_some _ q) (Nat.le_refl _)
    (db_ok ⟨Nat.zero_le _, beq_eq_false_iff_ne.mpr (Ne.symm (Nat.ne_of_lt I.big)), _, #[], 0, Heap.get?_push_size _ rfl, ⟨rfl, rfl, rfl⟩, rfl, rfl, List.nodup_nil⟩), rfl, h _ (I.hok.fresh (Nat.le_refl _))⟩⟩
/-- y in d -/
def tDInB (P : Program) (w : World) (ty td : TE) : TE := fun σ H Q => ty σ H fun y H1 => td σ H1 fun x H2 => ∃ (a : Addr) (xs : List Ent) (r : Row), x = .ref a ∧ DB P w H2 a xs ∧ RowAt H2 y r ∧ Q (.bl (decide (r ∈ xs.map (·.1)))) H2
theorem pc_dinB (hu : X.A.units + 1 < cLine) (hi : PE X i ty) (ho : PE X o td) : PC X .In i o (tDInB X.prog X.w ty td) := by
  refine ⟨fun pins s σ H Q I h => ?_⟩
  refine thn (hi.run pins s σ H _ I h) fun iv s1 ⟨y, H1, I1, ry, q1⟩ => thn (ho.run pins s1 σ H1 _ I1 q1) fun u s2 ⟨x, H2, I2, rx, a, xs, r, ex, g, ⟨b, ey, hb⟩, q2⟩ => ?_
  subst ex ey
  obtain rfl : u = Value.ref a := rx
  obtain rfl : iv = Value.ref b := ry
  obtain ⟨z, hd, dd⟩ := g.get I2.hok
  refine wpAny_in_heap (tupleKind_room_in1 hu) (row_key I2.hok hb) hd dd ?_
  rw [at_some]
  exact ⟨.bl _, H2, I2.tok _, rfl, q2⟩
/-- d[y] = v, a new key -/
def sDPutB (P : Program) (w : World) (td ty tv : TE) : TS := fun D σ H => tv σ H fun v H1 => td σ H1 fun x H2 => ty σ H2 fun y H3 => ∃ (a b : Addr) (xs : List Ent) (r : Row), x = .ref a ∧ DB P w H3 a xs ∧ y = .ref b ∧ H3 b = some (.tup (r.map V.bl)) ∧
  r ∉ xs.map (·.1) ∧ xs.length < sizeLine ∧ ∀ u : Value, D.nx σ (upd H3 a (DBo P w a (xs ++ [(r, b, u)])))
theorem ps_dputB (hu : X.A.units + 1 < cLine) (ho : PE X o td) (hi : PE X i ty) (hv : PE X value tv) (hs : swapsWith value (some (.Subscript o i pos')) pos.line X.env = pure false) :
    PS X (.Assign [.Subscript o i pos'] value pos) (sDPutB X.prog X.w td ty tv) := by
  refine ⟨fun pins s σ H D I h => ?_⟩
  refine wpAny_Assign_Subscript (thn (hv.run pins s σ H _ I h) fun r s1 ⟨v, H1, I1, rv, q1⟩ => thn (ho.run pins s1 σ H1 _ I1 q1) fun u s2 ⟨x, H2, I2, rx, q2⟩ => thn (hi.run pins s2 σ H2 _ I2 q2) fun iv s3 ⟨y, H3, I3, ry, a, b, xs, k, ex, g, ey, hb, hn, hl, q3⟩ => ?_) hs
  subst ex ey
  obtain rfl : u = Value.ref a := rx
  obtain rfl : iv = Value.ref b := ry
  obtain ⟨z, hd, dd⟩ := g.get I3.hok
  refine wpAny_setItem_heap (hsz := z) (tupleKind_room_in1 hu) (row_key I3.hok hb) dd fun h' dd' hsb => ?_
  rw [storedH_new (at_none hn)] at dd'
  obtain ⟨q, es, ep, hq, h2, h3, h4, _, h5⟩ := dd'
  have mu : Mut (H3 a) := by rw [g.ob]; exact True.intro
  exact ⟨σ, _, d_write I3 mu hsb ⟨q, hq⟩ (db_ok ⟨by rw [List.length_append, List.length_singleton]; exact hl, hd, q, es, ep, hq, h2, h3, h4, h5⟩), q3 r⟩
/-- list(d) -/
def rListB (P : Program) (w : World) : List V → Hp → VK → Prop := fun vs H Q => ∃ (a : Addr) (xs : List Ent), vs = [.ref a] ∧ DB P w H a xs ∧ ∀ p, H p = none → Q (.ref p) (upd H p (.lst (xs.map fun x => V.ref x.2.1)))
theorem refs_vals : ∀ {us : List Value} {xs : List Ent}, us.length = xs.length → (∀ (j : Nat) (u : Value), us[j]? = some u → ∃ y, xs[j]? = some y ∧ u = .ref y.2.1) → Vals (xs.map fun x => V.ref x.2.1) us
  | [], [], _, _ => .nil
  | [], _ :: _, h, _ => by simp at h
  | _ :: _, [], h, _ => by simp at h
  | u :: us, x :: xs, h, q => by
    refine .cons ?_ (refs_vals (by simpa using h) fun j v hj => ?_)
    · obtain ⟨y, e1, e2⟩ := q 0 u rfl
      have e3 : x = y := Option.some.inj e1
      subst e3
      exact e2
    · exact q (j + 1) v (by simpa using hj)
theorem call_listB (hcalm : X.calm = true) : CallR X (.type "list") (rListB X.prog X.w) := by
  intro pins s σ H vs us Q I r q
  obtain ⟨a, xs, ex, g, q⟩ := q
  subst ex
  rw [Vals.ref1 r]
  obtain ⟨z, lo, dd⟩ := g.get I.hok
  obtain ⟨es, ep, hr, hs, he⟩ := dd.raw
  refine PySem.W.kdl_call (KdlSrc.rawDict (prog := X.prog) (w := X.w) (es := es) (ep := ep) lo) (I.ok.hd hcalm) hr (by rw [hs]; exact z) fun h' tk acc c' hk hD hacc => ?_
  have hv : Vals (xs.map fun x => V.ref x.2.1) acc.toList := by
    refine refs_vals (by rw [Array.length_toList, hacc.1, hs]) fun j u e => ?_
    obtain ⟨hi, ev⟩ := hacc.2 j u (by rw [← Array.getElem?_toList]; exact e)
    obtain ⟨y, e1, e2, _⟩ := he j hi
    exact ⟨y, e1, ev.trans e2⟩
  exact ⟨.ref s.heap.objs.size, upd H s.heap.objs.size (.lst (xs.map fun x => V.ref x.2.1)), I.laid (t' := tk) hk (Nat.le_refl _)
    (show ObjOk X.prog X.w _ _ _ (.lst (xs.map fun x => V.ref x.2.1)) from ⟨by rw [List.length_map]; exact z, acc.toList, c', hv, by rw [Array.toArray_toList]; exact hD⟩), rfl, q _ (I.hok.fresh (Nat.le_refl _))⟩
end

/-! ### calls in a bundle -/
structure Cal (P : Program) (w : World) (K : PySem.W.Frag) (mg : Str → Option Value) (base : Heap) (k : Nat) (x : Str) (sp : Sp) : Prop where
  ex : ∃ (f : Addr) (fd : FuncData) (ps : List Str), FnOk P w K mg base CX0 k f fd ps sp ∧ mg x = some (.ref f) ∧ PySem.W.keepIn K (.ref f) = true ∧ Binds K fd ps []
structure Met (P : Program) (w : World) (K : PySem.W.Frag) (mg : Str → Option Value) (base : Heap) (k : Nat) (C : Addr) (m : Str) (sp : Sp) : Prop where
  ex : ∃ (f : Addr) (fd : FuncData) (ps : List Str), Cls K C ∧ Meth K C m f ∧ FnOk P w K mg base CX0 k f fd ps sp ∧ Binds K fd ps []
structure Mak (P : Program) (w : World) (K : PySem.W.Frag) (mg : Str → Option Value) (base : Heap) (k : Nat) (x : Str) (C : Addr) (sp : Sp) : Prop where
  ex : ∃ (f : Addr) (fd : FuncData) (ps : List Str), Mk K C f ∧ FnOk P w K mg base CX0 k f fd ps sp ∧ mg x = some (.ref C) ∧ Binds K fd ps []
/-- a def as the top leaves it, by the global x -/
structure Def (K : PySem.W.Frag) (mg : Str → Option Value) (x name : Str) (st : Stmt) (dvs : List V) : Prop where
  ex : ∃ (f : Addr) (fd : FuncData), FunD K name name (defArgs st) (defBody st) (defScope st) dvs [] f fd ∧ mg x = some (.ref f)
/-- a method -/
structure DefM (K : PySem.W.Frag) (C : Addr) (m qual : Str) (st : Stmt) (dvs : List V) : Prop where
  ex : ∃ (f : Addr) (fd : FuncData), FunD K m qual (defArgs st) (defBody st) (defScope st) dvs [] f fd ∧ Meth K C m f
section
variable {P : Program} {w : World} {K : PySem.W.Frag} {mg : Str → Option Value} {base : Heap}
theorem Cal.mono {j k : Nat} {x : Str} {sp : Sp} (c : Cal P w K mg base j x sp) (h : j ≤ k) : Cal P w K mg base k x sp := by
  obtain ⟨f, fd, ps, F, r⟩ := c.ex
  exact ⟨f, fd, ps, F.mono h, r⟩
abbrev BindOk (name qual : Str) (st : Stmt) (ps : List Str) : Prop := ∀ (kV doc pm : Value) (an : Option Addr) (cdv ct : Value) (us : List Value), us.length = ps.length → bindArgs (PySem.W.fnOf name qual (defArgs st) (defBody st) (defScope st) .none kV doc pm an cdv ct) ⟨us, []⟩ = pure (ps.zip us)
theorem nox_of {X : Cx} {b : List Stmt} {Z : TS → Prop} (h : ∃ t, PSs X.nox b t ∧ Z t) : ∃ t, PSs X b t ∧ Z t := by
  obtain ⟨t, h, q⟩ := h
  exact ⟨t, h.nox, q⟩
/-- a def by its body -/
theorem Def.cal {x name : Str} {st : Stmt} {N ps : List Str} {k : Nat} {sp : Sp} (D : Def K mg x name st []) (S : FnScope N ps (defScope st)) (hb : BindOk name name st ps) (len : ∀ vs H Q E, sp vs H Q E → vs.length = ps.length)
    (body : ∀ (f : Addr) (cdv : Value) (A : Around) (outer : List Env) (s : Shared) (H : Hp) (vs : List V) (Q : VK) (E : XK), Room k (A.deeper (envOfC name (defScope st) s.heap.objs.size f cdv)) → sp vs H Q E →
      ∃ t, PSs (cxOf CX0 P w K mg base N name (defScope st) f cdv A outer s H E).nox (defBody st) t ∧ t { nx := fun _ H' => Q .non H', rt := Q } (start N vs) H) : Cal P w K mg base (k + 1) x sp := by
  obtain ⟨f, fd, F, hm⟩ := D.ex
  exact ⟨f, fd, ps, F.ok S len fun cdv A outer s H vs Q E hr hs => nox_of (body f cdv A outer s H vs Q E hr hs), hm, F.kp, F.bindsN hb⟩
/-- nothing can be asked: no calls are left -/
theorem Def.cal0 {x name : Str} {st : Stmt} {ps : List Str} {dvs : List V} {sp : Sp} (D : Def K mg x name st dvs) (hb : ∀ f fd, FunD K name name (defArgs st) (defBody st) (defScope st) dvs [] f fd → Binds K fd ps []) (no : ∀ vs H Q E, ¬ sp vs H Q E) : Cal P w K mg base 0 x sp := by
  obtain ⟨f, fd, F, hm⟩ := D.ex
  exact ⟨f, fd, ps, ⟨fun vs H Q E h => absurd h (no vs H Q E), fun A outer s H args us vs Q E _ _ _ _ h => absurd h (no vs H Q E)⟩, hm, F.kp, hb f fd F⟩
theorem DefM.met {C : Addr} {m qual : Str} {st : Stmt} {N ps : List Str} {k : Nat} {sp : Sp} (D : DefM K C m qual st []) (c : Cls K C) (S : FnScope N ps (defScope st)) (hb : BindOk m qual st ps) (len : ∀ vs H Q E, sp vs H Q E → vs.length = ps.length)
    (body : ∀ (f : Addr) (cdv : Value) (A : Around) (outer : List Env) (s : Shared) (H : Hp) (vs : List V) (Q : VK) (E : XK), Room k (A.deeper (envOfC qual (defScope st) s.heap.objs.size f cdv)) → sp vs H Q E →
      ∃ t, PSs (cxOf CX0 P w K mg base N qual (defScope st) f cdv A outer s H E).nox (defBody st) t ∧ t { nx := fun _ H' => Q .non H', rt := Q } (start N vs) H) : Met P w K mg base (k + 1) C m sp := by
  obtain ⟨f, fd, F, hm⟩ := D.ex
  exact ⟨f, fd, ps, c, hm, F.ok S len fun cdv A outer s H vs Q E hr hs => nox_of (body f cdv A outer s H vs Q E hr hs), F.bindsN hb⟩
end
section
variable {X : Cx} {k j : Nat} {C : Addr} {x m : Str} {sp : Sp} {p pos apos : Pos} {e o : Expr} {es : List Expr} {ta : TE} {t : TA}
theorem pe_c (c : Cal X.prog X.w X.K X.mg X.base k x sp) (hr : Room j X.A) (hk : k ≤ j) (hg : Gl X x) (ha : PA X (e :: es) t)
    (hdb : (x == ("__debug__" : Str)) = false := by decide) (he : starEach (e :: es) X.env = (false, eval e X.env) :: starEach es X.env := by rfl) (hpl : (backTo pos (starEach es X.env)).any (·.1) = false := by rfl) :
    PE X (.Call (.Name x p) (e :: es) [] pos) (tCall sp [] E0 t) := by
  obtain ⟨f, fd, ps, F, hm, kp, b⟩ := c.ex
  exact pe_call F (hr.mono hk) hg hm kp b .nil pass0 ha hdb he hpl
theorem pe_mk (c : Mak X.prog X.w X.K X.mg X.base k x C sp) (hr : Room j X.A) (hk : k + 1 ≤ j) (hg : Gl X x) (ha : PA X (e :: es) t)
    (hdb : (x == ("__debug__" : Str)) = false := by decide) (he : starEach (e :: es) X.env = (false, eval e X.env) :: starEach es X.env := by rfl) (hpl : (backTo pos (starEach es X.env)).any (·.1) = false := by rfl) :
    PE X (.Call (.Name x p) (e :: es) [] pos) (tMake C sp [] E0 t) := by
  obtain ⟨f, fd, ps, M, F, hm, b⟩ := c.ex
  exact pe_make M F (hr.mono hk) hg hm b .nil pass0 ha hdb he hpl
theorem pe_mt {pl : Sem Bool} (c : Met X.prog X.w X.K X.mg X.base k C m sp) (hr : Room j X.A) (hk : k ≤ j) (he : PE X o ta) (ha : PA X (e :: es) t)
    (hst : starEach (e :: es) X.env = (false, eval e X.env) :: starEach es X.env := by rfl) (hpl : (backTo pos (starEach es X.env)).any (·.1) = false := by rfl)
    (ht : eval (.Call (.Attribute o m apos) (e :: es) [] pos) X.env = (do
      let ov ← eval o X.env
      standAt apos.atName
      let (f, first) ← holding [ov] (getMethod ov m pl)
      callWith pos f first (backTo pos (starEach (e :: es) X.env)) (backToKw pos (keywordEach [] X.env))) := by rfl) :
    PE X (.Call (.Attribute o m apos) (e :: es) [] pos) (tMeth C m sp [] E0 ta t) := by
  obtain ⟨f, fd, ps, hc, hm, F, b⟩ := c.ex
  exact pe_meth (pl := pl) he hc hm F (hr.mono hk) b .nil pass0 ha hst hpl ht
theorem pe_mt0 {pl : Sem Bool} (c : Met X.prog X.w X.K X.mg X.base k C m sp) (hr : Room j X.A) (hk : k ≤ j) (he : PE X o ta)
    (ht : eval (.Call (.Attribute o m apos) [] [] pos) X.env = (do
      let ov ← eval o X.env
      standAt apos.atName
      let (f, first) ← holding [ov] (getMethod ov m pl)
      callWith pos f first (backTo pos (starEach [] X.env)) (backToKw pos (keywordEach [] X.env))) := by rfl) :
    PE X (.Call (.Attribute o m apos) [] [] pos) (tMeth C m sp [] E0 ta tNil) := by
  obtain ⟨f, fd, ps, hc, hm, F, b⟩ := c.ex
  exact pe_meth0 (pl := pl) he hc hm F (hr.mono hk) b .nil pass0 ht
end
/-! ### room -/
theorem u8 {A : Around} {k : Nat} (hr : Room k A) : A.units + 8 < cLine := by have := hr.un; omega
theorem u64 {A : Around} {k : Nat} (hr : Room k A) : A.units + 64 < cLine := by have := hr.un; omega
theorem u65 {A : Around} {k : Nat} (hr : Room k A) : A.units + 65 < cLine := by have := hr.un; omega
/-- the built-in names are the built-ins -/
structure Txt (mg : Str → Option Value) : Prop where
  isi : mg "isinstance" = none
  int : mg "int" = none
  bool : mg "bool" = none
  tuple : mg "tuple" = none
  len : mg "len" = none
  all : mg "all" = none
  list : mg "list" = none
  str : mg "str" = none
  any : mg "any" = none
  range : mg "range" = none
  enumerate : mg "enumerate" = none
  sorted : mg "sorted" = none
  zip : mg "zip" = none
  min : mg "min" = none
  max : mg "max" = none
end Ea

set_option maxHeartbeats 4000000
/-! The layer's rules with the written part named: within a comprehension's block it must not depend on the block. -/
namespace Ea
open PySem PySem.Spec PyProof.Rows L2
/-! ### a number of the module's top -/
structure Nums (mg : Str → Option Value) : Prop where
  MOST_PARTS : ∃ t, mg "MOST_PARTS" = some (.int 60 t)
  DEEPEST : ∃ t, mg "DEEPEST" = some (.int 12 t)
  MOST_WITHIN : ∃ t, mg "MOST_WITHIN" = some (.int 6 t)
  MOST_ROWS : ∃ t, mg "MOST_ROWS" = some (.int 4 t)
  MOST_WISHES : ∃ t, mg "MOST_WISHES" = some (.int 8 t)
section
variable {X : Cx}
theorem pe_gi {x : Str} {n : Int} {pos : Pos} (hg : Gl X x) (h : ∃ t, X.mg x = some (.int n t)) (hd : (x == ("__debug__" : Str)) = false := by decide) : PE X (.Name x pos) (tC (.int n)) := by
  obtain ⟨t, h⟩ := h
  exact pe_glob hg h ⟨t, rfl⟩ hd
variable (K : PySem.W.Frag) (h : X.K = K)
def rLenK (K : PySem.W.Frag) : List V → Hp → VK → Prop := fun xs H Q => ∃ p ys, xs = [.ref p] ∧ (SqL K H p ys ∨ SqT K H p ys) ∧ Q (.int ys.length) H
def rListK (K : PySem.W.Frag) : List V → Hp → VK → Prop := fun xs H Q => ∃ p ys, xs = [.ref p] ∧ (SqL K H p ys ∨ SqT K H p ys) ∧ ∀ l, H l = none → Q (.ref l) (upd H l (.lst ys))
def rTupK (K : PySem.W.Frag) : List V → Hp → VK → Prop := fun xs H Q => ∃ p ys, xs = [.ref p] ∧ ((SqL K H p ys ∧ ∀ l, H l = none → Q (.ref l) (upd H l (.tup ys))) ∨ (SqT K H p ys ∧ Q (.ref p) H))
include h
theorem kIsi : CallR X (.builtin "isinstance") (rIsi K) := h ▸ call_isi
theorem kLen : CallR X (.builtin "len") (rLenK K) := h ▸ call_len_seq
theorem kList : CallR X (.type "list") (rListK K) := h ▸ call_list_of
theorem kTup : CallR X (.type "tuple") (rTupK K) := h ▸ call_tuple_of
theorem kIxT : IxR X (rIxT K) := h ▸ ix_tup
theorem kIxL : IxR X (rIxL K) := h ▸ ix_list
theorem kSlT : SlR X (rSlA K) := h ▸ sl_tupA
theorem kSlL : SlR X (rSlL K) := h ▸ sl_list
theorem kCat : OpR X (binaryOp .Add) (rCatA K) := h ▸ op_catA
theorem kEq (hu : X.A.units + 64 < cLine) : OpR X (compareOp .Eq) (rEqD K) := h ▸ op_eqD hu
theorem kNe (hu : X.A.units + 64 < cLine) : OpR X (compareOp .NotEq) (rNeD K) := h ▸ op_neD hu
theorem kIn (hu : X.A.units + 65 < cLine) : OpR X (compareOp .In) (rInD K) := h ▸ op_inD hu
theorem kNotIn (hu : X.A.units + 65 < cLine) : OpR X (compareOp .NotIn) (rNotInD K) := h ▸ op_notInD hu
theorem kInS : OpR X (compareOp .In) (rIn K false) := h ▸ op_in_seq
theorem kNotInS : OpR X (compareOp .NotIn) (rIn K true) := h ▸ op_notIn_seq
theorem kAll (hc : X.calm = true) : CallR X (.builtin "all") (rAll K) := h ▸ cr_all hc
theorem kAny (hc : X.calm = true) : CallR X (.builtin "any") (rAny K) := h ▸ cr_any hc
theorem kSorted (hu : X.A.units + 8 < cLine) : CallR X (.builtin "sorted") (rSortB K) := h ▸ cr_sortedB hu
theorem kiTup {tg l : Expr} {tl : TE} (hl : PE X l tl) : PI X tg l (iTup K tl) := h ▸ pi_tup hl
theorem kiList {tg l : Expr} {tl : TE} (hl : PE X l tl) : PI X tg l (iList K tl) := h ▸ pi_list hl
omit h
theorem kTupG {es : List Expr} {k : Nat} {t : TGs} {n : Nat} (h : X.K = K) (hc : X.calm = true) (hp : PGs X es t)
    (hn : (assignEach es X.env).length = n := by rfl) (hst : (assignEach es X.env).findIdx? (·.1) = none := by rfl) : PG X (.Tuple es k pos) (gTup K n t) := by
  subst h
  exact pg_tup hc hp hn hst
end
/-! ### held against an empty tuple, an empty list -/
def rEqE (K : PySem.W.Frag) : R2 := fun x y H Q => ∃ (a b : Addr) (xs : List V), x = .ref a ∧ y = .ref b ∧ SqT K H a xs ∧ SqT K H b [] ∧ Q (.bl xs.isEmpty) H
def rEqL (K : PySem.W.Frag) : R2 := fun x y H Q => ∃ (a b : Addr) (xs : List V), x = .ref a ∧ y = .ref b ∧ SqL K H a xs ∧ SqL K H b [] ∧ Q (.bl xs.isEmpty) H
def rNeL (K : PySem.W.Frag) : R2 := fun x y H Q => ∃ (a b : Addr) (xs : List V), x = .ref a ∧ y = .ref b ∧ SqL K H a xs ∧ SqL K H b [] ∧ Q (.bl (!xs.isEmpty)) H
section
variable {X : Cx}
theorem op_eqE (hu : X.A.units < cLine) : OpR X (compareOp .Eq) (rEqE X.K) := by
  intro pins s σ H x y v u Q I rx ry h
  obtain ⟨a, b, xs, rfl, rfl, ha, hb, q⟩ := h
  cases rx
  cases ry
  obtain ⟨its, r1, p1, _⟩ := I.tuple ha
  obtain ⟨its2, r2, p2, _⟩ := I.tuple hb
  cases r2
  refine SeqAt.eq_tupleAt (e := fun _ => true) p1 p2 hu (fun j _ h2 => absurd h2 (Nat.not_lt_zero _)) ?_
  have e : ((List.range (min its.toArray.size ([] : List Value).toArray.size)).all (fun _ => true) && its.toArray.size == ([] : List Value).toArray.size) = xs.isEmpty := by
    have hl := r1.length
    cases xs with
    | nil => cases r1; rfl
    | cons x xs => cases r1; simp
  rw [e]
  exact ⟨.bl _, H, I, rfl, q⟩
theorem op_eqL (hu : X.A.units < cLine) : OpR X (compareOp .Eq) (rEqL X.K) := by
  intro pins s σ H x y v u Q I rx ry h
  obtain ⟨a, b, xs, rfl, rfl, ha, hb, q⟩ := h
  cases rx
  cases ry
  obtain ⟨its, r1, p1, _⟩ := I.list ha
  obtain ⟨its2, r2, p2, _⟩ := I.list hb
  cases r2
  cases xs with
  | nil =>
    cases r1
    exact SeqAt.eq_listAt (e := fun _ => true) p1.isList p2.isList rfl hu (fun j _ h2 => absurd h2 (Nat.not_lt_zero _)) ⟨.bl _, H, I, rfl, q⟩
  | cons x xs =>
    cases r1
    exact SeqAt.eq_list_lengthsAt p1.isList p2.isList (by simp) hu ⟨.bl _, H, I, rfl, q⟩
theorem op_neL (hu : X.A.units < cLine) : OpR X (compareOp .NotEq) (rNeL X.K) := by
  intro pins s σ H x y v u Q I rx ry h
  obtain ⟨a, b, xs, rfl, rfl, ha, hb, q⟩ := h
  cases rx
  cases ry
  obtain ⟨its, r1, p1, _⟩ := I.list ha
  obtain ⟨its2, r2, p2, _⟩ := I.list hb
  cases r2
  cases xs with
  | nil =>
    cases r1
    exact SeqAt.RcNeAt.lists (e := fun _ => true) p1.isList p2.isList rfl hu (fun j _ h2 => absurd h2 (Nat.not_lt_zero _)) X.prog X.w _ _ ⟨.bl _, H, I, rfl, q⟩
  | cons x xs =>
    cases r1
    exact SeqAt.RcNeAt.lists_lengths p1.isList p2.isList (by simp) hu X.prog X.w _ _ ⟨.bl _, H, I, rfl, q⟩
variable (K : PySem.W.Frag) (h : X.K = K)
include h
theorem kEqE (hu : X.A.units + 8 < cLine) : OpR X (compareOp .Eq) (rEqE K) := h ▸ op_eqE (by omega)
theorem kEqL (hu : X.A.units + 8 < cLine) : OpR X (compareOp .Eq) (rEqL K) := h ▸ op_eqL (by omega)
theorem kNeL (hu : X.A.units + 8 < cLine) : OpR X (compareOp .NotEq) (rNeL K) := h ▸ op_neL (by omega)
end
section
variable {X : Cx} (P : Program) (w : World) (h : X.prog = P) (h2 : X.w = w)
include h h2
theorem kNewB {pos : Pos} : PE X (.Dict [] [] pos) (tDNewB P w) := h ▸ h2 ▸ pe_dnewB
theorem kInB {o i : Expr} {td ty : TE} (hu : X.A.units + 1 < cLine) (hi : PE X i ty) (ho : PE X o td) : PC X .In i o (tDInB P w ty td) := h ▸ h2 ▸ pc_dinB hu hi ho
theorem kPutB {o i value : Expr} {pos pos' : Pos} {td ty tv : TE} (hu : X.A.units + 1 < cLine) (ho : PE X o td) (hi : PE X i ty) (hv : PE X value tv) (hs : swapsWith value (some (.Subscript o i pos')) pos.line X.env = pure false) :
    PS X (.Assign [.Subscript o i pos'] value pos) (sDPutB P w td ty tv) := h ▸ h2 ▸ ps_dputB hu ho hi hv hs
theorem kListB (hc : X.calm = true) : CallR X (.type "list") (rListB P w) := h ▸ h2 ▸ call_listB hc
end
/-! ### small steps of reading -/
theorem iteD {α : Type} [DecidableEq α] {x y : α} {A B : Prop} (h1 : x = y → A) (h2 : x ≠ y → B) : if decide (x = y) = true then A else B := by
  by_cases e : x = y
  · rw [decide_eq_true e]
    exact iteT (h1 e)
  · rw [decide_eq_false e]
    exact iteF (h2 e)
/-- the test's outcome is known -/
theorem iteK {b : Bool} {A B : Prop} (e : b = false) (h : B) : if b = true then A else B := by
  rw [e]
  exact iteF h
theorem iteY {b : Bool} {A B : Prop} (e : b = true) (h : A) : if b = true then A else B := by
  rw [e]
  exact iteT h
theorem qbl {Q : VK} {b c : Bool} {H : Hp} (e : b = c) (q : Q (.bl c) H) : Q (.bl b) H := e ▸ q
theorem same_new {H : Hp} {p : Addr} (h : H p = none) (o : HO) : Same H (upd H p o) := fun b u q => by rw [upd_ne (ne_of_none q h)]; exact q
/-- a mutable that was new at the start may change -/
theorem same_upd {H H' : Hp} {p : Addr} (s : Same H H') (h : H p = none) (o : HO) : Same H (upd H' p o) := fun b u q => by rw [upd_ne (ne_of_none q h)]; exact s b u q
theorem bl_of {r : Row} {i : Nat} {x : V} (hi : (r.map V.bl)[i]? = some x) : ∃ b, x = V.bl b ∧ r[i]? = some b := by
  rw [List.getElem?_map] at hi
  cases e : r[i]? with
  | none => rw [e] at hi; cases hi
  | some b => rw [e] at hi; exact ⟨b, (Option.some.inj hi).symm, rfl⟩
theorem lt_of_get {α : Type} {l : List α} {i : Nat} {x : α} (h : l[i]? = some x) : i < l.length := (List.getElem?_eq_some_iff.mp h).1
end Ea

set_option maxHeartbeats 0
namespace Ea
open PySem PySem.Spec PyProof.Rows L2
/-! ### the text by places -/
def top (i : Nat) : Stmt := PySem.Challenge.pw_eachalone_k22_whole_a_pair_or_a_table.main.body.getD i (.Pass ⟨0, 0, 0, 0⟩)
abbrev s_is_whole : Stmt := top 6
abbrev s_is_within : Stmt := top 7
abbrev s_is_row : Stmt := top 8
abbrev s_inner_parts : Stmt := top 14
abbrev s_is_form : Stmt := top 15
abbrev s_are_rows : Stmt := top 16
abbrev s_parts_of : Stmt := top 17
abbrev s_is_decision : Stmt := top 18
abbrev s_answer_cases : Stmt := top 19
abbrev s_answer : Stmt := top 20
abbrev s_look_at_rows : Stmt := top 25
abbrev s_Case_init : Stmt := inClass (top 26) 0
abbrev s_Case_many : Stmt := inClass (top 26) 3
abbrev s_Case_rows : Stmt := inClass (top 26) 5
abbrev s_Case_look_at_row : Stmt := inClass (top 26) 6
abbrev s_Case_can_be : Stmt := inClass (top 26) 7
abbrev s_Case_answer : Stmt := inClass (top 26) 8
abbrev s_look_at_wish : Stmt := top 28
abbrev s_turned_about : Stmt := top 29
abbrev s_twins : Stmt := top 30
abbrev s_pairs : Stmt := top 31
abbrev s_table_of : Stmt := top 32
abbrev s_alone : Stmt := top 33
abbrev s_lets_pair : Stmt := top 34
abbrev s_is_line : Stmt := top 35
abbrev s_lets_alone : Stmt := top 36
abbrev s_L_pool : Stmt := top 38
abbrev s_L_take : Stmt := top 39
abbrev s_L_decision : Stmt := top 40
abbrev s_L_answer : Stmt := top 41
abbrev s_L_all_rows : Stmt := top 42
abbrev s_L_rows_of : Stmt := top 43
abbrev s_L_case : Stmt := top 44
abbrev s_L_turned : Stmt := top 45
abbrev s_L_sways : Stmt := top 46
abbrev s_L_pairs : Stmt := top 47
abbrev s_L_table : Stmt := top 48
abbrev s_L_wish_right : Stmt := top 49
abbrev s_law : Stmt := top 50
def d_is_whole : He.DefD := ⟨("is_whole", none), "is_whole", "is_whole", defArgs s_is_whole, defBody s_is_whole, defScope s_is_whole, [], []⟩
def d_is_within : He.DefD := ⟨("is_within", none), "is_within", "is_within", defArgs s_is_within, defBody s_is_within, defScope s_is_within, [], []⟩
def d_is_row : He.DefD := ⟨("is_row", none), "is_row", "is_row", defArgs s_is_row, defBody s_is_row, defScope s_is_row, [], []⟩
def d_inner_parts : He.DefD := ⟨("inner_parts", none), "inner_parts", "inner_parts", defArgs s_inner_parts, defBody s_inner_parts, defScope s_inner_parts, [], []⟩
def d_is_form : He.DefD := ⟨("is_form", none), "is_form", "is_form", defArgs s_is_form, defBody s_is_form, defScope s_is_form, [], []⟩
def d_are_rows : He.DefD := ⟨("are_rows", none), "are_rows", "are_rows", defArgs s_are_rows, defBody s_are_rows, defScope s_are_rows, [], []⟩
def d_parts_of : He.DefD := ⟨("parts_of", none), "parts_of", "parts_of", defArgs s_parts_of, defBody s_parts_of, defScope s_parts_of, [], []⟩
def d_is_decision : He.DefD := ⟨("is_decision", none), "is_decision", "is_decision", defArgs s_is_decision, defBody s_is_decision, defScope s_is_decision, [.int 8], []⟩
def d_answer_cases : He.DefD := ⟨("answer_cases", none), "answer_cases", "answer_cases", defArgs s_answer_cases, defBody s_answer_cases, defScope s_answer_cases, [], []⟩
def d_answer : He.DefD := ⟨("answer_decisions", none), "answer", "answer", defArgs s_answer, defBody s_answer, defScope s_answer, [], []⟩
def d_look_at_rows : He.DefD := ⟨("look_at_rows", none), "look_at_rows", "look_at_rows", defArgs s_look_at_rows, defBody s_look_at_rows, defScope s_look_at_rows, [], []⟩
def d_Case_init : He.DefD := ⟨("Case", some "__init__"), "__init__", "Case.__init__", defArgs s_Case_init, defBody s_Case_init, defScope s_Case_init, [.non], []⟩
def d_Case_many : He.DefD := ⟨("Case", some "many"), "many", "Case.many", defArgs s_Case_many, defBody s_Case_many, defScope s_Case_many, [], []⟩
def d_Case_rows : He.DefD := ⟨("Case", some "rows"), "rows", "Case.rows", defArgs s_Case_rows, defBody s_Case_rows, defScope s_Case_rows, [], []⟩
def d_Case_look_at_row : He.DefD := ⟨("Case", some "look_at_row"), "look_at_row", "Case.look_at_row", defArgs s_Case_look_at_row, defBody s_Case_look_at_row, defScope s_Case_look_at_row, [], []⟩
def d_Case_can_be : He.DefD := ⟨("Case", some "can_be"), "can_be", "Case.can_be", defArgs s_Case_can_be, defBody s_Case_can_be, defScope s_Case_can_be, [], []⟩
def d_Case_answer : He.DefD := ⟨("Case", some "answer"), "answer", "Case.answer", defArgs s_Case_answer, defBody s_Case_answer, defScope s_Case_answer, [], []⟩
def d_look_at_wish : He.DefD := ⟨("look_at_wish", none), "look_at_wish", "look_at_wish", defArgs s_look_at_wish, defBody s_look_at_wish, defScope s_look_at_wish, [], []⟩
def d_turned_about : He.DefD := ⟨("turned_about", none), "turned_about", "turned_about", defArgs s_turned_about, defBody s_turned_about, defScope s_turned_about, [], []⟩
def d_twins : He.DefD := ⟨("twins", none), "twins", "twins", defArgs s_twins, defBody s_twins, defScope s_twins, [], []⟩
def d_pairs : He.DefD := ⟨("pairs", none), "pairs", "pairs", defArgs s_pairs, defBody s_pairs, defScope s_pairs, [], []⟩
def d_table_of : He.DefD := ⟨("table_of", none), "table_of", "table_of", defArgs s_table_of, defBody s_table_of, defScope s_table_of, [], []⟩
def d_alone : He.DefD := ⟨("alone", none), "alone", "alone", defArgs s_alone, defBody s_alone, defScope s_alone, [], []⟩
def d_lets_pair : He.DefD := ⟨("lets_pair", none), "lets_pair", "lets_pair", defArgs s_lets_pair, defBody s_lets_pair, defScope s_lets_pair, [], []⟩
def d_is_line : He.DefD := ⟨("is_line", none), "is_line", "is_line", defArgs s_is_line, defBody s_is_line, defScope s_is_line, [], []⟩
def d_lets_alone : He.DefD := ⟨("lets_alone", none), "lets_alone", "lets_alone", defArgs s_lets_alone, defBody s_lets_alone, defScope s_lets_alone, [], []⟩
def d_L_pool : He.DefD := ⟨("_law_pool", none), "_law_pool", "_law_pool", defArgs s_L_pool, defBody s_L_pool, defScope s_L_pool, [], []⟩
def d_L_take : He.DefD := ⟨("_law_take", none), "_law_take", "_law_take", defArgs s_L_take, defBody s_L_take, defScope s_L_take, [], []⟩
def d_L_decision : He.DefD := ⟨("_law_decision", none), "_law_decision", "_law_decision", defArgs s_L_decision, defBody s_L_decision, defScope s_L_decision, [], []⟩
def d_L_answer : He.DefD := ⟨("_law_answer", none), "_law_answer", "_law_answer", defArgs s_L_answer, defBody s_L_answer, defScope s_L_answer, [], []⟩
def d_L_all_rows : He.DefD := ⟨("_law_all_rows", none), "_law_all_rows", "_law_all_rows", defArgs s_L_all_rows, defBody s_L_all_rows, defScope s_L_all_rows, [], []⟩
def d_L_rows_of : He.DefD := ⟨("_law_rows_of", none), "_law_rows_of", "_law_rows_of", defArgs s_L_rows_of, defBody s_L_rows_of, defScope s_L_rows_of, [], []⟩
def d_L_case : He.DefD := ⟨("_law_case", none), "_law_case", "_law_case", defArgs s_L_case, defBody s_L_case, defScope s_L_case, [], []⟩
def d_L_turned : He.DefD := ⟨("_law_turned", none), "_law_turned", "_law_turned", defArgs s_L_turned, defBody s_L_turned, defScope s_L_turned, [], []⟩
def d_L_sways : He.DefD := ⟨("_law_sways", none), "_law_sways", "_law_sways", defArgs s_L_sways, defBody s_L_sways, defScope s_L_sways, [], []⟩
def d_L_pairs : He.DefD := ⟨("_law_pairs", none), "_law_pairs", "_law_pairs", defArgs s_L_pairs, defBody s_L_pairs, defScope s_L_pairs, [], []⟩
def d_L_table : He.DefD := ⟨("_law_table", none), "_law_table", "_law_table", defArgs s_L_table, defBody s_L_table, defScope s_L_table, [], []⟩
def d_L_wish_right : He.DefD := ⟨("_law_wish_right", none), "_law_wish_right", "_law_wish_right", defArgs s_L_wish_right, defBody s_L_wish_right, defScope s_L_wish_right, [], []⟩
def d_law : He.DefD := ⟨("law", none), "law", "law", defArgs s_law, defBody s_law, defScope s_law, [], []⟩
end Ea

set_option maxHeartbeats 4000000
namespace Ea
open PySem PySem.Spec PyProof.Rows L2
/-! ### whole numbers, rows -/
def spWhole : Sp := fun vs H Q _ => ∃ i : Int, vs = [.int i] ∧ Q (.bl true) H
def spWithin : Sp := fun vs H Q _ => ∃ i lo hi : Int, vs = [.int i, .int lo, .int hi] ∧ Q (.bl (decide (lo ≤ i ∧ i ≤ hi))) H
def spIsRow : Sp := fun vs H Q _ => ∃ (v : V) (r : Row) (m : Int), vs = [v, .int m] ∧ RowAt H v r ∧ r.length ≤ 1000 ∧ ∀ H', Same H H' → Q (.bl (decide ((r.length : Int) = m))) H'
section
variable {P : Program} {w : World} {K : PySem.W.Frag} {mg : Str → Option Value} {base : Heap}
theorem sc_is_whole : FnScope ["thing"] ["thing"] (defScope s_is_whole) := ⟨rfl, rfl, rfl, by decide +kernel, rfl, by decide +kernel, by decide +kernel⟩
theorem ok_is_whole (T0 : Txt mg) (D : Def K mg "is_whole" "is_whole" s_is_whole []) : Cal P w K mg base 1 "is_whole" spWhole := by
  refine D.cal sc_is_whole (fun _ _ _ _ _ _ us hl => match us, hl with | [_], _ => rfl) (fun vs H Q E h => ?_) (fun f cdv A outer s H vs Q E hr h => ?_)
  · obtain ⟨i, rfl, _⟩ := h
    rfl
  obtain ⟨i, rfl, q⟩ := h
  refine ⟨_, (pss_one (ps_ret (pe_and (pe_callB (kIsi K rfl) (by rfl) T0.isi (by decide +kernel) (pa_cons (pv 0) (pa_cons (pe_bltn (v := .ty "int") (by rfl) T0.int (by decide +kernel) rfl) pa_nil))) (pe_one (pe_not (pe_callB (kIsi K rfl) (by rfl) T0.isi (by decide +kernel) (pa_cons (pv 0) (pa_cons (pe_bltn (v := .ty "bool") (by rfl) T0.bool (by decide +kernel) rfl) pa_nil)))))))), ?_⟩
  refine ⟨_, rfl, _, _, _, _, true, rfl, .ty _, .base (.int i), kit_ty (by decide +kernel), true, rfl, iteT ?_⟩
  exact ⟨_, rfl, _, _, _, _, false, rfl, .ty _, .base (.int i), kit_ty (by decide +kernel), false, rfl, q⟩
theorem sc_is_within : FnScope ["thing", "low", "high"] ["thing", "low", "high"] (defScope s_is_within) := ⟨rfl, rfl, rfl, by decide +kernel, rfl, by decide +kernel, by decide +kernel⟩
theorem ok_is_within (D : Def K mg "is_within" "is_within" s_is_within []) (G_is_whole : Cal P w K mg base 1 "is_whole" spWhole) : Cal P w K mg base 2 "is_within" spWithin := by
  refine D.cal sc_is_within (fun _ _ _ _ _ _ us hl => match us, hl with | [_, _, _], _ => rfl) (fun vs H Q E h => ?_) (fun f cdv A outer s H vs Q E hr h => ?_)
  · obtain ⟨i, lo, hi, rfl, _⟩ := h
    rfl
  obtain ⟨i, lo, hi, rfl, q⟩ := h
  refine ⟨_, (pss_one (ps_ret (pe_and (pe_c G_is_whole hr (by omega) rfl (pa_cons (pv 0) pa_nil)) (pe_one (pe_chain op_le op_le (pv 1) (pv 0) (pv 2)))))), ?_⟩
  refine ⟨_, rfl, i, rfl, true, rfl, iteT ?_⟩
  refine ⟨_, rfl, _, rfl, _, _, rfl, rfl, _, rfl, ite2 (fun c => ?_) (fun c => ?_)⟩
  · have c' : lo ≤ i := of_decide_eq_true c
    refine ⟨_, rfl, _, _, rfl, rfl, ?_⟩
    have e : decide (lo ≤ i ∧ i ≤ hi) = decide (i ≤ hi) := by simp [c']
    rw [e] at q
    exact q
  · have c' : ¬ lo ≤ i := of_decide_eq_false (Bool.eq_false_iff.mpr c)
    have e : decide (lo ≤ i ∧ i ≤ hi) = false := by simp [c']
    rw [e] at q
    exact q
theorem sc_is_row : FnScope ["thing", "many", "one"] ["thing", "many"] (defScope s_is_row) := ⟨rfl, rfl, rfl, by decide +kernel, rfl, by decide +kernel, by decide +kernel⟩
theorem ok_is_row (T0 : Txt mg) (D : Def K mg "is_row" "is_row" s_is_row []) : Cal P w K mg base 1 "is_row" spIsRow := by
  refine D.cal sc_is_row (fun _ _ _ _ _ _ us hl => match us, hl with | [_, _], _ => rfl) (fun vs H Q E h => ?_) (fun f cdv A outer s H vs Q E hr h => ?_)
  · obtain ⟨v, r, m, rfl, _⟩ := h
    rfl
  obtain ⟨v, r, m, rfl, ⟨a, rfl, ha⟩, hr8, q⟩ := h
  refine ⟨_, (pss_one (ps_ret (pe_and (pe_callB (kIsi K rfl) (by rfl) T0.isi (by decide +kernel) (pa_cons (pv 0) (pa_cons (pe_bltn (v := .ty "tuple") (by rfl) T0.tuple (by decide +kernel) rfl) pa_nil))) (pe_and (pe_cmpR op_eq (pe_callB (kLen K rfl) (by rfl) T0.len (by decide +kernel) (pa_cons (pv 0) pa_nil)) (pv 1) (nomark _)) (pe_one (pe_callB (kAll K rfl rfl) (by rfl) T0.all (by decide +kernel) (pa_cons (pe_lc (own := [("one", 2)]) (g := gName 2) (tt := tYes) rfl sc_is_row.nd (kiTup K rfl (pv 0)) (blkOk_by (own := [("one", 2)]) (N := ["thing", "many", "one"]) (sc := defScope s_is_row) (by decide +kernel)) (fun _ _ _ _ _ => pg_name (i := 2) sc_is_row.nd rfl (Or.inl rfl)) (fun _ _ _ _ _ => pts_nil) (fun _ _ _ _ _ => (pe_callB (kIsi K rfl) (by rfl) T0.isi (by decide +kernel) (pa_cons (pv 2) (pa_cons (pe_bltn (v := .ty "bool") (by rfl) T0.bool (by decide +kernel) rfl) pa_nil))))) pa_nil))))))), ?_⟩
  refine ⟨_, rfl, _, _, _, _, true, rfl, .ty _, .base (.tup ha), kit_ty (by decide +kernel), true, rfl, iteT ?_⟩
  refine ⟨_, rfl, a, _, rfl, .inr (SqT.of ha), _, rfl, rfl, _, rfl, ite2 (fun c => ?_) (fun c => ?_)⟩
  · have c' : (r.length : Int) = m := by
      have := of_decide_eq_true c
      injection this with z
      simpa using z
    rw [decide_eq_true c'] at q
    refine ⟨_, rfl, a, rfl, ⟨_, SqT.of ha⟩, fun D0 hD => ?_⟩
    refine lc_tup (K := K) (a := a) (xs := r.map V.bl) (fun i H' => Same H H' ∧ H' D0 = some (.lst ((List.replicate i true).map V.bl))) ⟨same_new hD _, upd_same⟩ (fun i H' _ z => SqT.of (z.1 _ _ ha)) ?_ ?_
    · rintro i x H' hi ⟨s1, h2⟩
      have hlt := lt_of_get hi
      obtain ⟨b, rfl, _⟩ := bl_of hi
      rw [List.length_map] at hlt
      refine ⟨rfl, ?_⟩
      refine ⟨_, rfl, _, _, _, _, true, rfl, .ty _, .base (.bl b), kit_ty (by decide +kernel), _, h2, ?_, ?_⟩
      · rw [List.length_map, List.length_replicate]
        exact small1000 (by omega)
      · refine ⟨same_upd s1 hD _, ?_⟩
        rw [upd_same, List.replicate_succ', List.map_append]
        rfl
    · rintro H' ⟨s1, h2⟩
      refine ⟨_, _, rfl, SqL.of h2, ?_⟩
      have e : (List.replicate (r.map V.bl).length true).all id = true := by simp
      rw [e]
      exact q H' s1
  · have c' : ¬ (r.length : Int) = m := by
      intro z
      apply c
      rw [List.length_map, z]
      exact decide_eq_true rfl
    rw [decide_eq_false c'] at q
    exact q H (Same.refl H)
end
end Ea

set_option maxHeartbeats 4000000
/-! Decisions on the heap: how deep at most, how many parts, what they answer. -/
namespace Ea
open PySem PySem.Spec PyProof.Rows L2
abbrev F := Row → Bool
abbrev Rel := V → Nat → F → Prop
def casesF : List ((Nat × F) × (Nat × F)) → F → F
  | [], g, r => g r
  | q :: qs, g, r => if q.1.2 r = true then q.2.2 r else casesF qs g r
abbrev Two (H : Hp) (R : Rel) (row : V) (q : (Nat × F) × (Nat × F)) : Prop := ∃ (e : Addr) (x y : V), row = .ref e ∧ H e = some (.tup [x, y]) ∧ R x q.1.1 q.1.2 ∧ R y q.2.1 q.2.2
abbrev One (R : Rel) (d : V) (q : Nat × F) : Prop := R d q.1 q.2
abbrev sum1 (qs : List (Nat × F)) : Nat := (qs.map (·.1)).sum
abbrev sum2 (qs : List ((Nat × F) × (Nat × F))) : Nat := (qs.map fun q => q.1.1 + q.2.1).sum
inductive DecF (H : Hp) (many : Nat) (R : Rel) : List V → Nat → F → Prop where
  | wish (i : Nat) (h : i < many) : DecF H many R [.str "wish", .int i] 1 fun r => r.getD i false
  | fixd (x : Str) (b : Bool) (hx : (x = "yes" ∧ b = true) ∨ (x = "no" ∧ b = false)) : DecF H many R [.str x] 1 fun _ => b
  | neg (d : V) (q : Nat) (g : F) (h : R d q g) : DecF H many R [.str "not", d] (1 + q) fun r => !g r
  | junct (x : Str) (b : Bool) (hx : (x = "and" ∧ b = true) ∨ (x = "or" ∧ b = false)) (c : Addr) (ds : List V) (qs : List (Nat × F)) (hc : H c = some (.tup ds)) (hp : Paired (One R) ds qs) (h1 : 1 ≤ ds.length) (h6 : ds.length ≤ 6) :
      DecF H many R [.str x, .ref c] (1 + sum1 qs) fun r => if b = true then qs.all (fun q => q.2 r) else qs.any fun q => q.2 r
  | ladder (c : Addr) (rows : List V) (qs : List ((Nat × F) × (Nat × F))) (last : V) (ql : Nat) (gl : F) (hc : H c = some (.tup rows)) (hp : Paired (Two H R) rows qs) (h1 : 1 ≤ rows.length) (h4 : rows.length ≤ 4) (hl : R last ql gl) :
      DecF H many R [.str "cases", .ref c, last] (1 + sum2 qs + ql) (casesF qs gl)
def DecAt (many : Nat) (H : Hp) : Nat → Rel
  | 0, _, _, _ => False
  | n + 1, v, p, f => ∃ (a : Addr) (xs : List V), v = .ref a ∧ H a = some (.tup xs) ∧ DecF H many (DecAt many H n) xs p f
theorem DecF.mono {H H' : Hp} {many : Nat} {R R' : Rel} {xs : List V} {p : Nat} {f : F} (d : DecF H many R xs p f) (s : Same H H') (k : ∀ v p f, R v p f → R' v p f) : DecF H' many R' xs p f := by
  cases d with
  | wish i h => exact .wish i h
  | fixd x b hx => exact .fixd x b hx
  | neg d q g h => exact .neg d q g (k _ _ _ h)
  | junct x b hx c ds qs hc hp h1 h6 => exact .junct x b hx c ds qs (s _ _ hc) (Paired.mapP hp fun _ _ z => k _ _ _ z) h1 h6
  | ladder c rows qs last ql gl hc hp h1 h4 hl =>
    exact .ladder c rows qs last ql gl (s _ _ hc) (Paired.mapP hp fun _ _ ⟨e, x, y, a, b, c, d⟩ => ⟨e, x, y, a, s _ _ b, k _ _ _ c, k _ _ _ d⟩) h1 h4 (k _ _ _ hl)
theorem DecAt.mono {many : Nat} {H H' : Hp} (s : Same H H') : ∀ {n : Nat} {v : V} {p : Nat} {f : F}, DecAt many H n v p f → DecAt many H' n v p f
  | 0, _, _, _, h => h.elim
  | n + 1, v, p, f, ⟨a, xs, e, ha, d⟩ => ⟨a, xs, e, s _ _ ha, d.mono s fun _ _ _ z => DecAt.mono s z⟩
/-! ### readings of the first word -/
section
variable {K : PySem.W.Frag} {H : Hp} {σ : L2.St} {i : Nat} {a : Addr} {x y z : Str} {xs : List V}
theorem rd_ix0 {Q : VK} {v : V} (hσ : σ[i]? = some (some (.ref a))) (ha : H a = some (.tup (v :: xs))) (q : Q v H) : tOp (rIxT K) (tVar i) (tC (.int 0)) σ H Q := ⟨_, hσ, a, _, _, v, rfl, rfl, SqT.of ha, atI_nat (j := 0) rfl, q⟩
theorem rd_ix1 {Q : VK} {v u : V} (hσ : σ[i]? = some (some (.ref a))) (ha : H a = some (.tup (u :: v :: xs))) (q : Q v H) : tOp (rIxT K) (tVar i) (tC (.int 1)) σ H Q := ⟨_, hσ, a, _, _, v, rfl, rfl, SqT.of ha, atI_nat (j := 1) rfl, q⟩
theorem rd_ix2 {Q : VK} {v u t : V} (hσ : σ[i]? = some (some (.ref a))) (ha : H a = some (.tup (t :: u :: v :: xs))) (q : Q v H) : tOp (rIxT K) (tVar i) (tC (.int 2)) σ H Q := ⟨_, hσ, a, _, _, v, rfl, rfl, SqT.of ha, atI_nat (j := 2) rfl, q⟩
/-- if o[0] == y, another word -/
theorem if_no {t u : TS} {D : Ends} (hσ : σ[i]? = some (some (.ref a))) (ha : H a = some (.tup (.str x :: xs))) (ne : decide (x = y) = false) (q : u D σ H) : tIfS (tTest (tOp rEq (tOp (rIxT K) (tVar i) (tC (.int 0))) (tC (.str y)))) t u D σ H := by
  refine rd_ix0 hσ ha ⟨rfl, _, rfl, ?_⟩
  have e : decide (V.str x = V.str y) = false := decide_eq_false fun z => of_decide_eq_false ne (V.str.inj z)
  rw [e]
  exact iteF q
theorem if_yes {t u : TS} {D : Ends} (hσ : σ[i]? = some (some (.ref a))) (ha : H a = some (.tup (.str y :: xs))) (q : t D σ H) : tIfS (tTest (tOp rEq (tOp (rIxT K) (tVar i) (tC (.int 0))) (tC (.str y)))) t u D σ H := by
  refine rd_ix0 hσ ha ⟨rfl, _, rfl, ?_⟩
  rw [decide_eq_true rfl]
  exact iteT q
theorem beq_dec (y x : Str) : (y == x) = decide (x = y) := by
  by_cases c : x = y
  · subst c
    rw [beq_self_eq_true, decide_eq_true rfl]
  · rw [beq_eq_false_iff_ne.mpr (fun z => c z.symm), decide_eq_false c]
/-- o[0] in (y, z), by values; the pair is laid -/
theorem rd_in {Q : VK} (hσ : σ[i]? = some (some (.ref a))) (ha : H a = some (.tup (.str x :: xs))) (q : ∀ p, H p = none → Q (.bl (decide (x = y) || decide (x = z))) (upd H p (.tup [.str y, .str z]))) :
    tOp (rIn K false) (tOp (rIxT K) (tVar i) (tC (.int 0))) (tTup (tCons (tC (.str y)) (tCons (tC (.str z)) tNil))) σ H Q := by
  refine rd_ix0 hσ ha ⟨by show 2 ≤ sizeLine; decide, fun p hp => ⟨p, _, rfl, .inr (SqT.of upd_same), rfl, rfl, ?_⟩⟩
  have e : inV (.str x) [.str y, .str z] = (decide (x = y) || decide (x = z)) := by
    show ((y == x) || ((z == x) || false)) = _
    have e1 : (y == x) = decide (x = y) := beq_dec y x
    have e2 : (z == x) = decide (x = z) := beq_dec z x
    rw [e1, e2, Bool.or_false]
  show Q (.bl (inV (.str x) [.str y, .str z])) _
  rw [e]
  exact q p hp
theorem if_in_no {t u : TS} {D : Ends} (hσ : σ[i]? = some (some (.ref a))) (ha : H a = some (.tup (.str x :: xs))) (ne : (decide (x = y) || decide (x = z)) = false) (q : ∀ p, H p = none → u D σ (upd H p (.tup [.str y, .str z]))) :
    tIfS (tTest (tOp (rIn K false) (tOp (rIxT K) (tVar i) (tC (.int 0))) (tTup (tCons (tC (.str y)) (tCons (tC (.str z)) tNil))))) t u D σ H := by
  refine rd_in hσ ha fun p hp => ⟨_, rfl, ?_⟩
  rw [ne]
  exact iteF (q p hp)
theorem if_in_yes {t u : TS} {D : Ends} (hσ : σ[i]? = some (some (.ref a))) (ha : H a = some (.tup (.str x :: xs))) (ne : (decide (x = y) || decide (x = z)) = true) (q : ∀ p, H p = none → t D σ (upd H p (.tup [.str y, .str z]))) :
    tIfS (tTest (tOp (rIn K false) (tOp (rIxT K) (tVar i) (tC (.int 0))) (tTup (tCons (tC (.str y)) (tCons (tC (.str z)) tNil))))) t u D σ H := by
  refine rd_in hσ ha fun p hp => ⟨_, rfl, ?_⟩
  rw [ne]
  exact iteT (q p hp)
end
/-! ### promises -/
def spInner : Sp := fun vs H Q _ => ∃ (v : V) (n p many : Nat) (f : F), vs = [v] ∧ DecAt many H (n + 1) v p f ∧
  ∀ (l : Addr) (ds : List V) (qs : List (Nat × F)) (H' : Hp), Same H H' → H' l = some (.lst ds) → Paired (One (DecAt many H n)) ds qs → p = 1 + sum1 qs → Q (.ref l) H'
def spForm : Sp := fun vs H Q _ => ∃ (v : V) (n p many : Nat) (f : F), vs = [v, .int many] ∧ DecAt many H (n + 1) v p f ∧ ∀ H', Same H H' → Q (.bl true) H'
def spAreRows : Sp := fun vs H Q _ => ∃ (c : Addr) (rows : List V), vs = [.ref c] ∧ H c = some (.tup rows) ∧ (∀ r ∈ rows, ∃ (e : Addr) (x y : V), r = .ref e ∧ H e = some (.tup [x, y])) ∧ 1 ≤ rows.length ∧ rows.length ≤ 4 ∧ ∀ H', Same H H' → Q (.bl true) H'
def spParts (n : Nat) : Sp := fun vs H Q _ => ∃ (v : V) (p many : Nat) (f : F) (room : Int), vs = [v, .int many, .int room] ∧ DecAt many H n v p f ∧ (n : Int) ≤ room ∧ p ≤ 60 ∧ ∀ H', Same H H' → Q (.int p) H'
def spIsDec : Sp := fun vs H Q _ => ∃ (v : V) (n p many : Nat) (f : F), vs = [v, .int many] ∧ DecAt many H n v p f ∧ n ≤ 12 ∧ p ≤ 60 ∧ ∀ H', Same H H' → Q (.bl true) H'
def spAns (n : Nat) : Sp := fun vs H Q _ => ∃ (v u : V) (p many : Nat) (f : F) (r : Row), vs = [v, u] ∧ DecAt many H n v p f ∧ RowAt H u r ∧ r.length = many ∧ ∀ H', Same H H' → Q (.bl (f r)) H'
def spLadder (n : Nat) : Sp := fun vs H Q _ => ∃ (a c : Addr) (u last : V) (rows : List V) (qs : List ((Nat × F) × (Nat × F))) (many ql : Nat) (gl : F) (r : Row), vs = [.ref a, u] ∧ H a = some (.tup [.str "cases", .ref c, last]) ∧ H c = some (.tup rows) ∧
  Paired (Two H (DecAt many H n)) rows qs ∧ DecAt many H n last ql gl ∧ RowAt H u r ∧ r.length = many ∧ ∀ H', Same H H' → Q (.bl (casesF qs gl r)) H'
end Ea

set_option maxHeartbeats 4000000
namespace Ea
open PySem PySem.Spec PyProof.Rows L2
theorem paired_map_sum {R : Rel} {S : Rel} (h : ∀ v p f, R v p f → S v p f) {ds : List V} {qs : List (Nat × F)} (p : Paired (One R) ds qs) : Paired (One S) ds qs := Paired.mapP p fun _ _ z => h _ _ _ z
/-- the two decisions of each row, in order -/
def flat2 : List ((Nat × F) × (Nat × F)) → List (Nat × F)
  | [] => []
  | q :: qs => q.1 :: q.2 :: flat2 qs
theorem flat2_sum : ∀ qs, sum1 (flat2 qs) = sum2 qs
  | [] => rfl
  | q :: qs => by
    have h := flat2_sum qs
    show q.1.1 + (q.2.1 + sum1 (flat2 qs)) = (q.1.1 + q.2.1) + sum2 qs
    rw [h]
    omega
theorem flat2_snoc : ∀ (qs : List ((Nat × F) × (Nat × F))) (q), flat2 (qs ++ [q]) = flat2 qs ++ [q.1, q.2]
  | [], q => rfl
  | p :: qs, q => by
    show p.1 :: p.2 :: flat2 (qs ++ [q]) = _
    rw [flat2_snoc qs q]
    rfl
theorem take_succ_get {α : Type} {l : List α} {i : Nat} {x : α} (h : l[i]? = some x) : l.take (i + 1) = l.take i ++ [x] := by
  rw [List.take_add_one, h]
  rfl
section
variable {P : Program} {w : World} {K : PySem.W.Frag} {mg : Str → Option Value} {base : Heap}
theorem sc_inner_parts : FnScope ["decision", "found", "test", "told"] ["decision"] (defScope s_inner_parts) := ⟨rfl, rfl, rfl, by decide +kernel, rfl, by decide +kernel, by decide +kernel⟩
theorem ok_inner_parts (T0 : Txt mg) (D : Def K mg "inner_parts" "inner_parts" s_inner_parts []) : Cal P w K mg base 1 "inner_parts" spInner := by
  refine D.cal sc_inner_parts (fun _ _ _ _ _ _ us hl => match us, hl with | [_], _ => rfl) (fun vs H Q E h => ?_) (fun f0 cdv A outer s H vs Q E hr h => ?_)
  · obtain ⟨v, n, p, many, f, rfl, _⟩ := h
    rfl
  obtain ⟨v, n, p, many, f, rfl, ⟨a, xs, rfl, ha, d⟩, q⟩ := h
  refine ⟨_, (pss_cons (ps_if (pt_cmpR op_eq (pe_ix (kIxT K rfl) (pv 0) pe_int (fun _ _ => rfl)) pe_str (nomark _)) (pss_one (ps_ret (pe_lst (pa_cons (pe_ix (kIxT K rfl) (pv 0) pe_int (fun _ _ => rfl)) pa_nil)))) pss_nil)
      (pss_cons (ps_if (pt_cmpR (kInS K rfl) (pe_ix (kIxT K rfl) (pv 0) pe_int (fun _ _ => rfl)) (pe_tup (pa_cons pe_str (pa_cons pe_str pa_nil))) (by rfl)) (pss_one (ps_ret (pe_callTy (kList K rfl) (by rfl) T0.list (by decide +kernel) (pa_cons (pe_ix (kIxT K rfl) (pv 0) pe_int (fun _ _ => rfl)) pa_nil)))) pss_nil)
      (pss_cons (ps_if (pt_cmpR op_eq (pe_ix (kIxT K rfl) (pv 0) pe_int (fun _ _ => rfl)) pe_str (nomark _)) (pss_cons (ps_set (i := 1) sc_inner_parts.nd rfl (Or.inl rfl) (pe_lst pa_nil))
      (pss_cons (ps_for PassesOwn.never rfl (kiTup K rfl (pe_ix (kIxT K rfl) (pv 0) pe_int (fun _ _ => rfl))) (pg_tup rfl (pgs_cons (pg_name (i := 2) sc_inner_parts.nd rfl (Or.inl rfl)) (pgs_cons (pg_name (i := 3) sc_inner_parts.nd rfl (Or.inl rfl)) pgs_nil)))
      (pss_one (ps_expr (pe_bm PySem.F.plainAttrs_list PySem.F.slot_list_extend PySem.F.type_list_extend mt_extend (pv 1) (pa_cons (pe_lst (pa_cons (pv 2) (pa_cons (pv 3) pa_nil))) pa_nil)))))
      (pss_one (ps_ret (pe_op op_cat (pv 1) (pe_lst (pa_cons (pe_ix (kIxT K rfl) (pv 0) pe_int (fun _ _ => rfl)) pa_nil))))))) pss_nil)
      (pss_one (ps_ret (pe_lst pa_nil)))))), ?_⟩
  cases d with
  | wish i hi =>
    refine if_no rfl ha (by decide +kernel) ?_
    refine if_in_no rfl ha (by decide +kernel) fun t ht => ?_
    have s1 := same_new ht (.tup [.str "and", .str "or"])
    refine if_no rfl (s1 _ _ ha) (by decide +kernel) ?_
    refine ⟨Nat.zero_le _, fun l hl => ?_⟩
    exact q l [] [] _ (s1.trans (same_new hl _)) upd_same .nil rfl
  | fixd x b hx =>
    have e1 : decide (x = "not") = false ∧ (decide (x = "and") || decide (x = "or")) = false ∧ decide (x = "cases") = false := by
      rcases hx with ⟨rfl, _⟩ | ⟨rfl, _⟩ <;> decide +kernel
    refine if_no rfl ha e1.1 ?_
    refine if_in_no rfl ha e1.2.1 fun t ht => ?_
    have s1 := same_new ht (.tup [.str "and", .str "or"])
    refine if_no rfl (s1 _ _ ha) e1.2.2 ?_
    refine ⟨Nat.zero_le _, fun l hl => ?_⟩
    exact q l [] [] _ (s1.trans (same_new hl _)) upd_same .nil rfl
  | neg e k g hg =>
    refine if_yes rfl ha ?_
    refine rd_ix1 rfl ha ⟨by show 1 ≤ sizeLine; decide, fun l hl => ?_⟩
    exact q l [e] [(k, g)] _ (same_new hl _) upd_same (.cons hg .nil) (by simp [sum1])
  | junct x b hx c ds qs hc hp h1 h6 =>
    have e1 : decide (x = "not") = false ∧ (decide (x = "and") || decide (x = "or")) = true := by
      rcases hx with ⟨rfl, _⟩ | ⟨rfl, _⟩ <;> decide +kernel
    refine if_no rfl ha e1.1 ?_
    refine if_in_yes rfl ha e1.2 fun t ht => ?_
    have s1 := same_new ht (.tup [.str "and", .str "or"])
    refine rd_ix1 rfl (s1 _ _ ha) ⟨c, ds, rfl, .inr (SqT.of (s1 _ _ hc)), fun l hl => ?_⟩
    exact q l ds qs _ (s1.trans (same_new hl _)) upd_same hp rfl
  | ladder c rows qs last ql gl hc hp h1 h4 hl =>
    refine if_no rfl ha (by decide +kernel) ?_
    refine if_in_no rfl ha (by decide +kernel) fun t ht => ?_
    have s1 := same_new ht (.tup [.str "and", .str "or"])
    refine if_yes rfl (s1 _ _ ha) ?_
    refine ⟨Nat.zero_le _, fun l hl0 => ?_⟩
    have s2 := s1.trans (same_new hl0 (.lst []))
    have l0 : H l = none := s1.free hl0
    refine rd_ix1 rfl (s2 _ _ ha) ⟨c, rfl, ⟨_, SqT.of (s2 _ _ hc)⟩, ?_⟩
    refine for_tup (K := K) (a := c) (xs := rows) (fun i σ H' => ∃ (v1 v2 : Option V) (ds : List V), σ = [some (.ref a), some (.ref l), v1, v2] ∧ Same H H' ∧ H' l = some (.lst ds) ∧ Paired (One (DecAt many H n)) ds (flat2 (qs.take i)))
      ⟨none, none, [], rfl, s2, upd_same, .nil⟩ (fun i σ H' _ ⟨_, _, _, _, s3, _⟩ => SqT.of (s3 _ _ hc)) ?_ ?_
    · rintro i x σ H' hx ⟨v1, v2, ds, rfl, s3, hL, hd⟩
      have hi4 := lt_of_get hx
      obtain ⟨qq, hq, e, y, z, rfl, he, hy, hz⟩ := paired_get hp hx
      have hds : ds.length ≤ 8 := by
        have z := Paired.length hd
        have z2 : ∀ m : List ((Nat × F) × (Nat × F)), (flat2 m).length = 2 * m.length := fun m => by
          induction m with
          | nil => rfl
          | cons q m ih =>
            show (flat2 m).length + 1 + 1 = 2 * (m.length + 1)
            omega
        rw [z2] at z
        have z3 : (qs.take i).length ≤ i := by rw [List.length_take]; omega
        omega
      refine ⟨e, _, rfl, SqT.of (s3 _ _ he), rfl, _, _, rfl, _, _, rfl, rfl, ?_⟩
      refine ⟨_, rfl, .inl ⟨rfl, _, SqL.of hL⟩, ?_⟩
      refine ⟨_, rfl, _, rfl, by show 2 ≤ sizeLine; decide, fun t2 ht2 => ?_⟩
      have nt : l ≠ t2 := ne_of_none hL ht2
      refine ⟨l, t2, ds, [y, z], rfl, rfl, by rw [upd_ne nt]; exact hL, upd_same, Nat.le_of_lt (small1000 (by show ds.length + 2 ≤ 1000; omega)), ?_⟩
      refine ⟨_, _, ds ++ [y, z], rfl, same_upd (s3.trans (same_new ht2 _)) l0 _, upd_same, ?_⟩
      rw [take_succ_get hq, flat2_snoc]
      exact paired_append hd (.cons hy (.cons hz .nil))
    · rintro σ H' ⟨v1, v2, ds, rfl, s3, hL, hd⟩
      have hlen := Paired.length hp
      rw [hlen, List.take_length] at hd
      have hds : ds.length ≤ 8 := by
        have z := Paired.length hd
        have z2 : ∀ m : List ((Nat × F) × (Nat × F)), (flat2 m).length = 2 * m.length := fun m => by
          induction m with
          | nil => rfl
          | cons q m ih =>
            show (flat2 m).length + 1 + 1 = 2 * (m.length + 1)
            omega
        rw [z2] at z
        omega
      refine ⟨_, rfl, ?_⟩
      refine rd_ix2 rfl (s3 _ _ ha) ⟨by show 1 ≤ sizeLine; decide, fun t2 ht2 => ?_⟩
      have nt : l ≠ t2 := ne_of_none hL ht2
      refine ⟨l, t2, ds, [last], rfl, rfl, by rw [upd_ne nt]; exact hL, upd_same, Nat.le_of_lt (small1000 (by show ds.length + 1 ≤ 1000; omega)), fun t3 ht3 => ?_⟩
      refine q t3 (ds ++ [last]) (flat2 qs ++ [(ql, gl)]) _ ((s3.trans (same_new ht2 _)).trans (same_new ht3 _)) upd_same (paired_append hd (.cons hl .nil)) ?_
      have e := flat2_sum qs
      show 1 + sum2 qs + ql = 1 + sum1 (flat2 qs ++ [(ql, gl)])
      unfold sum1 at *
      rw [List.map_append, List.sum_append, e]
      simp
      omega
end
end Ea

set_option maxHeartbeats 4000000
namespace Ea
open PySem PySem.Spec PyProof.Rows L2
section
variable {P : Program} {w : World} {K : PySem.W.Frag} {mg : Str → Option Value} {base : Heap}
theorem sc_are_rows : FnScope ["thing", "row"] ["thing"] (defScope s_are_rows) := ⟨rfl, rfl, rfl, by decide +kernel, rfl, by decide +kernel, by decide +kernel⟩
theorem ok_are_rows (T0 : Txt mg) (T1 : Nums mg) (D : Def K mg "are_rows" "are_rows" s_are_rows []) : Cal P w K mg base 1 "are_rows" spAreRows := by
  refine D.cal sc_are_rows (fun _ _ _ _ _ _ us hl => match us, hl with | [_], _ => rfl) (fun vs H Q E h => ?_) (fun f0 cdv A outer s H vs Q E hr h => ?_)
  · obtain ⟨c, rows, rfl, _⟩ := h
    rfl
  obtain ⟨c, rows, rfl, hc, hp, h1, h4, q⟩ := h
  refine ⟨_, (pss_cons (ps_if (PW.pt (pw_or (pt_not (pt_val (pe_callB (kIsi K rfl) (by rfl) T0.isi (by decide +kernel) (pa_cons (pv 0) (pa_cons (pe_bltn (v := .ty "tuple") (by rfl) T0.tuple (by decide +kernel) rfl) pa_nil))))) (pw_or1 (pt_not (pt_chain op_le op_le pe_int (pe_callB (kLen K rfl) (by rfl) T0.len (by decide +kernel) (pa_cons (pv 0) pa_nil)) (pe_gi rfl T1.MOST_ROWS)))))) (pss_one (ps_ret pe_bl)) pss_nil)
      (pss_one (ps_ret (pe_callB (kAll K rfl rfl) (by rfl) T0.all (by decide +kernel) (pa_cons (pe_lc (own := [("row", 1)]) (g := gName 1) (tt := tYes) rfl sc_are_rows.nd (kiTup K rfl (pv 0)) (blkOk_by (own := [("row", 1)]) (N := ["thing", "row"]) (sc := defScope s_are_rows) (by decide +kernel)) (fun _ _ _ _ _ => pg_name (i := 1) sc_are_rows.nd rfl (Or.inl rfl)) (fun _ _ _ _ _ => pts_nil) (fun _ _ _ _ _ => (pe_and (pe_callB (kIsi K rfl) (by rfl) T0.isi (by decide +kernel) (pa_cons (pv 1) (pa_cons (pe_bltn (v := .ty "tuple") (by rfl) T0.tuple (by decide +kernel) rfl) pa_nil))) (pe_one (pe_cmpR op_eq (pe_callB (kLen K rfl) (by rfl) T0.len (by decide +kernel) (pa_cons (pv 1) pa_nil)) pe_int (nomark _)))))) pa_nil))))), ?_⟩
  refine ⟨_, rfl, _, _, _, _, true, rfl, .ty _, .base (.tup hc), kit_ty (by decide +kernel), true, rfl, ?_⟩
  refine iteF ?_
  refine ⟨_, rfl, c, _, rfl, .inr (SqT.of hc), _, _, rfl, rfl, _, rfl, iteY (decide_eq_true (by show (1 : Int) ≤ (rows.length : Int); omega)) ?_⟩
  refine ⟨_, _, rfl, rfl, _, rfl, ?_⟩
  refine iteK (by rw [decide_eq_true (by show (rows.length : Int) ≤ 4; omega)]; rfl) ?_
  refine ⟨_, rfl, c, rfl, ⟨_, SqT.of hc⟩, fun D0 hD => ?_⟩
  refine lc_tup (K := K) (a := c) (xs := rows) (fun i H' => Same H H' ∧ H' D0 = some (.lst ((List.replicate i true).map V.bl))) ⟨same_new hD _, upd_same⟩ (fun i H' _ z => SqT.of (z.1 _ _ hc)) ?_ ?_
  · rintro i x H' hi ⟨s1, h2⟩
    have hlt := lt_of_get hi
    obtain ⟨e, y, z, rfl, he⟩ := hp x (List.mem_of_getElem? hi)
    refine ⟨rfl, ?_⟩
    refine ⟨_, rfl, _, _, _, _, true, rfl, .ty _, .base (.tup (s1 _ _ he)), kit_ty (by decide +kernel), true, rfl, iteT ?_⟩
    refine ⟨_, rfl, e, _, rfl, .inr (SqT.of (s1 _ _ he)), rfl, _, h2, ?_, ?_⟩
    · rw [List.length_map, List.length_replicate]
      exact small1000 (by omega)
    · refine ⟨same_upd s1 hD _, ?_⟩
      rw [upd_same, List.replicate_succ', List.map_append]
      rfl
  · rintro H' ⟨s1, h2⟩
    refine ⟨_, _, rfl, SqL.of h2, ?_⟩
    have e : (List.replicate rows.length true).all id = true := by simp
    rw [e]
    exact q H' s1
theorem sc_is_form : FnScope ["thing", "many"] ["thing", "many"] (defScope s_is_form) := ⟨rfl, rfl, rfl, by decide +kernel, rfl, by decide +kernel, by decide +kernel⟩
theorem ok_is_form (T0 : Txt mg) (T1 : Nums mg) (D : Def K mg "is_form" "is_form" s_is_form []) (G_are_rows : Cal P w K mg base 1 "are_rows" spAreRows) (G_is_within : Cal P w K mg base 2 "is_within" spWithin) : Cal P w K mg base 3 "is_form" spForm := by
  refine D.cal sc_is_form (fun _ _ _ _ _ _ us hl => match us, hl with | [_, _], _ => rfl) (fun vs H Q E h => ?_) (fun f0 cdv A outer s H vs Q E hr h => ?_)
  · obtain ⟨v, n, p, many, f, rfl, _⟩ := h
    rfl
  obtain ⟨v, n, p, many, f, rfl, ⟨a, xs, rfl, ha, d⟩, q⟩ := h
  refine ⟨_, (pss_cons (ps_if (PW.pt (pw_or (pt_not (pt_val (pe_callB (kIsi K rfl) (by rfl) T0.isi (by decide +kernel) (pa_cons (pv 0) (pa_cons (pe_bltn (v := .ty "tuple") (by rfl) T0.tuple (by decide +kernel) rfl) pa_nil))))) (pw_or (pt_cmpR (kEqE K rfl (u8 hr)) (pv 0) (pe_tup pa_nil) (nomark _)) (pw_or1 (pt_not (pt_val (pe_callB (kIsi K rfl) (by rfl) T0.isi (by decide +kernel) (pa_cons (pe_ix (kIxT K rfl) (pv 0) pe_int (fun _ _ => rfl)) (pa_cons (pe_bltn (v := .ty "str") (by rfl) T0.str (by decide +kernel) rfl) pa_nil))))))))) (pss_one (ps_ret pe_bl)) pss_nil)
      (pss_cons (ps_if (pt_cmpR (kInS K rfl) (pe_ix (kIxT K rfl) (pv 0) pe_int (fun _ _ => rfl)) (pe_tup (pa_cons pe_str (pa_cons pe_str pa_nil))) (by rfl)) (pss_one (ps_ret (pe_cmpR op_eq (pe_callB (kLen K rfl) (by rfl) T0.len (by decide +kernel) (pa_cons (pv 0) pa_nil)) pe_int (nomark _)))) pss_nil)
      (pss_cons (ps_if (pt_cmpR op_eq (pe_ix (kIxT K rfl) (pv 0) pe_int (fun _ _ => rfl)) pe_str (nomark _)) (pss_one (ps_ret (pe_and (pe_cmpR op_eq (pe_callB (kLen K rfl) (by rfl) T0.len (by decide +kernel) (pa_cons (pv 0) pa_nil)) pe_int (nomark _)) (pe_one (pe_c G_are_rows hr (by omega) rfl (pa_cons (pe_ix (kIxT K rfl) (pv 0) pe_int (fun _ _ => rfl)) pa_nil)))))) pss_nil)
      (pss_cons (ps_if (pt_cmpR op_ne (pe_callB (kLen K rfl) (by rfl) T0.len (by decide +kernel) (pa_cons (pv 0) pa_nil)) pe_int (nomark _)) (pss_one (ps_ret pe_bl)) pss_nil)
      (pss_cons (ps_if (pt_cmpR op_eq (pe_ix (kIxT K rfl) (pv 0) pe_int (fun _ _ => rfl)) pe_str (nomark _)) (pss_one (ps_ret (pe_c G_is_within hr (by omega) rfl (pa_cons (pe_ix (kIxT K rfl) (pv 0) pe_int (fun _ _ => rfl)) (pa_cons pe_int (pa_cons (pe_op op_sub (pv 1) pe_int) pa_nil)))))) pss_nil)
      (pss_cons (ps_if (pt_cmpR op_eq (pe_ix (kIxT K rfl) (pv 0) pe_int (fun _ _ => rfl)) pe_str (nomark _)) (pss_one (ps_ret pe_bl)) pss_nil)
      (pss_one (ps_ret (pe_and (pe_cmpR (kInS K rfl) (pe_ix (kIxT K rfl) (pv 0) pe_int (fun _ _ => rfl)) (pe_tup (pa_cons pe_str (pa_cons pe_str pa_nil))) (by rfl)) (pe_and (pe_callB (kIsi K rfl) (by rfl) T0.isi (by decide +kernel) (pa_cons (pe_ix (kIxT K rfl) (pv 0) pe_int (fun _ _ => rfl)) (pa_cons (pe_bltn (v := .ty "tuple") (by rfl) T0.tuple (by decide +kernel) rfl) pa_nil))) (pe_one (pe_chain op_le op_le pe_int (pe_callB (kLen K rfl) (by rfl) T0.len (by decide +kernel) (pa_cons (pe_ix (kIxT K rfl) (pv 0) pe_int (fun _ _ => rfl)) pa_nil)) (pe_gi rfl T1.MOST_WITHIN))))))))))))), ?_⟩
  obtain ⟨x0, ys, hxs⟩ : ∃ (x : Str) (ys : List V), xs = .str x :: ys := by
    cases d <;> exact ⟨_, _, rfl⟩
  -- the first test: a tuple, not empty, its first thing a text
  refine ⟨_, rfl, _, _, _, _, true, rfl, .ty _, .base (.tup ha), kit_ty (by decide +kernel), true, rfl, iteF ?_⟩
  refine ⟨_, rfl, Nat.zero_le _, fun t0 ht0 => ?_⟩
  have s0 := same_new ht0 (.tup [])
  have ha0 := s0 _ _ ha
  refine ⟨a, t0, xs, rfl, rfl, SqT.of ha0, SqT.of upd_same, _, rfl, iteK (by rw [hxs]; rfl) ?_⟩
  refine rd_ix0 (K := K) rfl (show _ = some (HO.tup (.str x0 :: ys)) by rw [ha0, hxs]) ?_
  refine ⟨_, _, _, _, true, rfl, .ty _, .base (.str x0), kit_ty (by decide +kernel), true, rfl, iteF ?_⟩
  clear hxs
  cases d with
  | wish i hi =>
    refine if_in_no rfl ha0 (by decide +kernel) fun t ht => ?_
    have s1 := s0.trans (same_new ht (.tup [.str "yes", .str "no"]))
    refine if_no rfl (s1 _ _ ha) (by decide +kernel) ?_
    refine ⟨_, rfl, a, _, rfl, .inr (SqT.of (s1 _ _ ha)), rfl, _, rfl, iteF ?_⟩
    refine if_yes rfl (s1 _ _ ha) ?_
    refine rd_ix1 rfl (s1 _ _ ha) ⟨_, rfl, _, _, rfl, rfl, _, _, _, rfl, ?_⟩
    rw [decide_eq_true (show (0 : Int) ≤ (i : Int) ∧ (i : Int) ≤ (many : Int) - 1 by omega)]
    exact q _ s1
  | fixd x b hx =>
    have e1 : (decide (x = "yes") || decide (x = "no")) = true := by
      rcases hx with ⟨rfl, _⟩ | ⟨rfl, _⟩ <;> decide +kernel
    refine if_in_yes rfl ha0 e1 fun t ht => ?_
    have s1 := s0.trans (same_new ht (.tup [.str "yes", .str "no"]))
    refine ⟨_, rfl, a, _, rfl, .inr (SqT.of (s1 _ _ ha)), rfl, ?_⟩
    exact q _ s1
  | neg e k g hg =>
    refine if_in_no rfl ha0 (by decide +kernel) fun t ht => ?_
    have s1 := s0.trans (same_new ht (.tup [.str "yes", .str "no"]))
    refine if_no rfl (s1 _ _ ha) (by decide +kernel) ?_
    refine ⟨_, rfl, a, _, rfl, .inr (SqT.of (s1 _ _ ha)), rfl, _, rfl, iteF ?_⟩
    refine if_no rfl (s1 _ _ ha) (by decide +kernel) ?_
    refine if_yes rfl (s1 _ _ ha) ?_
    exact q _ s1
  | junct x b hx c ds qs hc hp h1 h6 =>
    have e1 : (decide (x = "yes") || decide (x = "no")) = false ∧ decide (x = "cases") = false ∧ decide (x = "wish") = false ∧ decide (x = "not") = false ∧ (decide (x = "and") || decide (x = "or")) = true := by
      rcases hx with ⟨rfl, _⟩ | ⟨rfl, _⟩ <;> decide +kernel
    refine if_in_no rfl ha0 e1.1 fun t ht => ?_
    have s1 := s0.trans (same_new ht (.tup [.str "yes", .str "no"]))
    refine if_no rfl (s1 _ _ ha) e1.2.1 ?_
    refine ⟨_, rfl, a, _, rfl, .inr (SqT.of (s1 _ _ ha)), rfl, _, rfl, iteF ?_⟩
    refine if_no rfl (s1 _ _ ha) e1.2.2.1 ?_
    refine if_no rfl (s1 _ _ ha) e1.2.2.2.1 ?_
    refine rd_in rfl (s1 _ _ ha) fun t2 ht2 => ⟨_, rfl, iteY e1.2.2.2.2 ?_⟩
    have s2 := s1.trans (same_new ht2 (.tup [.str "and", .str "or"]))
    refine rd_ix1 rfl (s2 _ _ ha) ⟨_, _, _, _, true, rfl, .ty _, .base (.tup (s2 _ _ hc)), kit_ty (by decide +kernel), true, rfl, iteT ?_⟩
    refine rd_ix1 rfl (s2 _ _ ha) ⟨c, ds, rfl, .inr (SqT.of (s2 _ _ hc)), _, _, rfl, rfl, _, rfl, iteY (decide_eq_true (by show (1 : Int) ≤ (ds.length : Int); omega)) ?_⟩
    refine ⟨_, _, rfl, rfl, ?_⟩
    exact qbl (decide_eq_true (show (ds.length : Int) ≤ 6 by omega)) (q _ s2)
  | ladder c rows qs last ql gl hc hp h1 h4 hl =>
    refine if_in_no rfl ha0 (by decide +kernel) fun t ht => ?_
    have s1 := s0.trans (same_new ht (.tup [.str "yes", .str "no"]))
    refine if_yes rfl (s1 _ _ ha) ?_
    refine ⟨_, rfl, a, _, rfl, .inr (SqT.of (s1 _ _ ha)), rfl, _, rfl, iteT ?_⟩
    refine rd_ix1 rfl (s1 _ _ ha) ⟨c, rows, rfl, s1 _ _ hc, ?_, h1, h4, fun H' s2 => q _ (s1.trans s2)⟩
    intro r hr
    obtain ⟨i, hi⟩ := List.getElem?_of_mem hr
    obtain ⟨qq, hq, e, y, z, rfl, he, hy, hz⟩ := paired_get hp hi
    exact ⟨e, y, z, rfl, s1 _ _ he⟩
theorem sc_parts_of : FnScope ["thing", "many", "room", "found", "part", "inner"] ["thing", "many", "room"] (defScope s_parts_of) := ⟨rfl, rfl, rfl, by decide +kernel, rfl, by decide +kernel, by decide +kernel⟩
theorem ok_parts_of (T1 : Nums mg) (D : Def K mg "parts_of" "parts_of" s_parts_of []) (G_is_form : Cal P w K mg base 3 "is_form" spForm) (G_inner_parts : Cal P w K mg base 1 "inner_parts" spInner) :
    ∀ n, Cal P w K mg base (n + 4) "parts_of" (spParts n)
  | 0 => by
    refine (D.cal0 (ps := ["thing", "many", "room"]) (fun f fd FD => FD.bindsN fun _ _ _ _ _ _ us hl => match us, hl with | [_, _, _], _ => rfl) ?_).mono (Nat.zero_le _)
    rintro vs H Q E ⟨v, p, many, f, room, _, h, _⟩
    exact h
  | n + 1 => by
    have G_parts_of := ok_parts_of T1 D G_is_form G_inner_parts n
    refine D.cal sc_parts_of (fun _ _ _ _ _ _ us hl => match us, hl with | [_, _, _], _ => rfl) (fun vs H Q E h => ?_) (fun f0 cdv A outer s H vs Q E hr h => ?_)
    · obtain ⟨v, p, many, f, room, rfl, _⟩ := h
      rfl
    obtain ⟨v, p, many, f, room, rfl, d, hn, hp, q⟩ := h
    refine ⟨_, (pss_cons (ps_if (PW.pt (pw_or (pt_cmpR op_lt (pv 2) pe_int (nomark _)) (pw_or1 (pt_not (pt_val (pe_c G_is_form hr (by omega) rfl (pa_cons (pv 0) (pa_cons (pv 1) pa_nil)))))))) (pss_one (ps_ret pe_non)) pss_nil)
      (pss_cons (ps_set (i := 3) sc_parts_of.nd rfl (Or.inl rfl) pe_int)
      (pss_cons (ps_for PassesOwn.never rfl (kiList K rfl (pe_c G_inner_parts hr (by omega) rfl (pa_cons (pv 0) pa_nil))) (pg_name (i := 4) sc_parts_of.nd rfl (Or.inl rfl))
      (pss_cons (ps_set (i := 5) sc_parts_of.nd rfl (Or.inl rfl) (pe_c G_parts_of hr (by omega) rfl (pa_cons (pv 4) (pa_cons (pv 1) (pa_cons (pe_op op_sub (pv 2) pe_int) pa_nil)))))
      (pss_cons (ps_if (PW.pt (pw_or (pt_cmpR op_isN (pv 5) pe_non (nomark _)) (pw_or1 (pt_cmpR op_gt (pe_op op_add (pv 3) (pv 5)) (pe_gi rfl T1.MOST_PARTS) (nomark _))))) (pss_one (ps_ret pe_non)) pss_nil)
      (pss_one (ps_aug (i := 3) sc_parts_of.nd rfl (Or.inl rfl) (pv 5) ip_add)))))
      (pss_one (ps_ret (pv 3)))))), ?_⟩
    have e1 : decide (room < 1) = false := decide_eq_false (by omega)
    refine ⟨_, rfl, _, _, rfl, rfl, _, rfl, iteK e1 ?_⟩
    refine ⟨_, rfl, _, rfl, v, n, p, many, f, rfl, d, fun H1 s1 => ⟨_, rfl, iteF ?_⟩⟩
    refine ⟨_, rfl, v, n, p, many, f, rfl, d.mono s1, fun l ds qs H2 s2 hL hd hsum => ?_⟩
    have s12 := s1.trans s2
    refine ⟨l, rfl, ⟨_, SqL.of hL⟩, ?_⟩
    refine for_list (K := K) (a := l) (xs := ds) (fun i σ H' => ∃ (v1 v2 : Option V), σ = [some v, some (.int many), some (.int room), some (.int ((1 + sum1 (qs.take i) : Nat) : Int)), v1, v2] ∧ Same H H' ∧ Same H2 H')
      ⟨none, none, rfl, s12, Same.refl _⟩ (fun i σ H' _ ⟨_, _, _, _, s3⟩ => SqL.of (s3 _ _ hL)) ?_ ?_
    · rintro i x σ H' hx ⟨v1, v2, rfl, s3, s4⟩
      obtain ⟨qq, hq, hx2⟩ := paired_get hd hx
      have hsplit : sum1 (qs.take (i + 1)) = sum1 (qs.take i) + qq.1 := by
        rw [take_succ_get hq]
        simp [sum1]
      have hle : sum1 (qs.take (i + 1)) ≤ sum1 qs := by
        have : sum1 qs = sum1 (qs.take (i + 1)) + sum1 (qs.drop (i + 1)) := by
          unfold sum1
          rw [← List.sum_append, ← List.map_append, List.take_append_drop]
        omega
      refine ⟨_, rfl, _, rfl, _, rfl, _, _, rfl, rfl, x, qq.1, many, qq.2, room - 1, rfl, DecAt.mono (s2.trans s4) hx2, by omega, by omega, fun H3 s5 => ?_⟩
      refine ⟨_, rfl, rfl, _, rfl, iteK (decide_eq_false fun z => nomatch z) ?_⟩
      refine ⟨_, rfl, _, rfl, _, _, rfl, rfl, _, _, rfl, rfl, _, rfl, iteK (decide_eq_false (by omega)) ?_⟩
      refine ⟨_, rfl, _, rfl, _, _, rfl, rfl, ?_⟩
      refine ⟨some x, some (.int (qq.1 : Int)), ?_, s3.trans s5, s4.trans s5⟩
      rw [hsplit]
      show _ = [_, _, _, some (V.int ((1 + (sum1 (qs.take i) + qq.1) : Nat) : Int)), _, _]
      rw [show ((1 + (sum1 (qs.take i) + qq.1) : Nat) : Int) = ((1 + sum1 (qs.take i) : Nat) : Int) + (qq.1 : Int) by omega]
      rfl
    · rintro σ H' ⟨v1, v2, rfl, s3, s4⟩
      have hlen := Paired.length hd
      refine ⟨_, rfl, ?_⟩
      rw [hlen, List.take_length, ← hsum]
      exact q _ s3
theorem sc_is_decision : FnScope ["thing", "many"] ["thing", "many"] (defScope s_is_decision) := ⟨rfl, rfl, rfl, by decide +kernel, rfl, by decide +kernel, by decide +kernel⟩
theorem ok_is_decision (T1 : Nums mg) (D : Def K mg "is_decision" "is_decision" s_is_decision [.int 8]) (G : ∀ n, Cal P w K mg base (n + 4) "parts_of" (spParts n)) : Cal P w K mg base 17 "is_decision" spIsDec := by
  obtain ⟨f, fd, FD, hm⟩ := D.ex
  have hb : Binds K fd ["thing", "many"] [] := by
    obtain ⟨ds, hv, hb⟩ := FD.binds1 (ps := ["thing", "many"]) 2 1 (by simp) rfl (fun T kV doc pm an cdv ct us its hl hi => match us, its, hl, hi with | [_, _], [_], _, _ => ⟨_, rfl, rfl⟩)
    cases hv
    exact hb
  refine ⟨f, fd, ["thing", "many"], ?_, hm, FD.kp, hb⟩
  refine FD.ok sc_is_decision (fun vs H Q E h => ?_) (fun cdv A outer s H vs Q E hr h => nox_of ?_)
  · obtain ⟨v, n, p, many, f, rfl, _⟩ := h
    rfl
  obtain ⟨v, n, p, many, f, rfl, d, hn, hp, q⟩ := h
  have G_parts_of := G n
  refine ⟨_, (pss_one (ps_ret (pe_cmpR op_notN (pe_c G_parts_of hr (by omega) rfl (pa_cons (pv 0) (pa_cons (pv 1) (pa_cons (pe_gi rfl T1.DEEPEST) pa_nil)))) pe_non (nomark _)))), ?_⟩
  refine ⟨_, rfl, _, rfl, v, p, many, f, 12, rfl, d, by omega, hp, fun H1 s1 => ?_⟩
  refine ⟨rfl, qbl (c := true) ?_ (q _ s1)⟩
  rw [decide_eq_false (fun z => nomatch z)]
  rfl
end
end Ea

set_option maxHeartbeats 4000000
namespace Ea
open PySem PySem.Spec PyProof.Rows L2
theorem getD_of {r : Row} {i : Nat} (h : i < r.length) : (r.map V.bl)[i]? = some (.bl (r.getD i false)) := by
  rw [List.getElem?_map, List.getElem?_eq_getElem h, List.getD_eq_getElem?_getD, List.getElem?_eq_getElem h]
  rfl
theorem all_fst : ∀ (qs : List (Nat × F)) (r : Row), (qs.map fun q => q.2 r).all id = qs.all fun q => q.2 r
  | [], _ => rfl
  | q :: qs, r => by
    show (q.2 r && (qs.map fun q => q.2 r).all id) = (q.2 r && qs.all fun q => q.2 r)
    rw [all_fst qs r]
theorem any_fst : ∀ (qs : List (Nat × F)) (r : Row), (qs.map fun q => q.2 r).any id = qs.any fun q => q.2 r
  | [], _ => rfl
  | q :: qs, r => by
    show (q.2 r || (qs.map fun q => q.2 r).any id) = (q.2 r || qs.any fun q => q.2 r)
    rw [any_fst qs r]
section
variable {P : Program} {w : World} {K : PySem.W.Frag} {mg : Str → Option Value} {base : Heap}
theorem sc_answer_cases : FnScope ["decision", "row", "test", "told"] ["decision", "row"] (defScope s_answer_cases) := ⟨rfl, rfl, rfl, by decide +kernel, rfl, by decide +kernel, by decide +kernel⟩
theorem ok_answer_cases {n k : Nat} (D : Def K mg "answer_cases" "answer_cases" s_answer_cases []) (G_answer_decisions : Cal P w K mg base k "answer_decisions" (spAns n)) : Cal P w K mg base (k + 1) "answer_cases" (spLadder n) := by
  refine D.cal sc_answer_cases (fun _ _ _ _ _ _ us hl => match us, hl with | [_, _], _ => rfl) (fun vs H Q E h => ?_) (fun f0 cdv A outer s H vs Q E hr h => ?_)
  · obtain ⟨a, c, u, last, rows, qs, many, ql, gl, r, rfl, _⟩ := h
    rfl
  obtain ⟨a, c, u, last, rows, qs, many, ql, gl, r, rfl, ha, hc, hp, hl, hu, hlen, q⟩ := h
  refine ⟨_, (pss_cons (ps_for PassesOwn.never rfl (kiTup K rfl (pe_ix (kIxT K rfl) (pv 0) pe_int (fun _ _ => rfl))) (pg_tup rfl (pgs_cons (pg_name (i := 2) sc_answer_cases.nd rfl (Or.inl rfl)) (pgs_cons (pg_name (i := 3) sc_answer_cases.nd rfl (Or.inl rfl)) pgs_nil)))
      (pss_one (ps_if (pt_val (pe_c G_answer_decisions hr (by omega) rfl (pa_cons (pv 2) (pa_cons (pv 1) pa_nil)))) (pss_one (ps_ret (pe_c G_answer_decisions hr (by omega) rfl (pa_cons (pv 3) (pa_cons (pv 1) pa_nil))))) pss_nil)))
      (pss_one (ps_ret (pe_c G_answer_decisions hr (by omega) rfl (pa_cons (pe_ix (kIxT K rfl) (pv 0) pe_int (fun _ _ => rfl)) (pa_cons (pv 1) pa_nil)))))), ?_⟩
  refine rd_ix1 rfl ha ⟨c, rfl, ⟨_, SqT.of hc⟩, ?_⟩
  refine for_tup (K := K) (a := c) (xs := rows) (fun i σ H' => ∃ (v1 v2 : Option V), σ = [some (.ref a), some u, v1, v2] ∧ Same H H' ∧ casesF (qs.drop i) gl r = casesF qs gl r)
    ⟨none, none, rfl, Same.refl H, rfl⟩ (fun i σ H' _ ⟨_, _, _, s1, _⟩ => SqT.of (s1 _ _ hc)) ?_ ?_
  · rintro i x σ H' hx ⟨v1, v2, rfl, s1, he⟩
    obtain ⟨qq, hq, e, y, z, rfl, hee, hy, hz⟩ := paired_get hp hx
    refine ⟨e, _, rfl, SqT.of (s1 _ _ hee), rfl, _, _, rfl, _, _, rfl, rfl, ?_⟩
    have hdrop : qs.drop i = qq :: qs.drop (i + 1) := by
      obtain ⟨hi, e2⟩ := List.getElem?_eq_some_iff.mp hq
      rw [List.drop_eq_getElem_cons hi, e2]
    refine ⟨_, rfl, _, rfl, y, u, qq.1.1, many, qq.1.2, r, rfl, hy.mono s1, hu.mono s1, hlen, fun H2 s2 => ⟨_, rfl, ?_⟩⟩
    cases hb : qq.1.2 r with
    | true =>
      refine iteT ?_
      refine ⟨_, rfl, _, rfl, z, u, qq.2.1, many, qq.2.2, r, rfl, hz.mono (s1.trans s2), hu.mono (s1.trans s2), hlen, fun H3 s3 => ?_⟩
      refine qbl ?_ (q _ ((s1.trans s2).trans s3))
      rw [← he, hdrop]
      unfold casesF
      rw [if_pos hb]
    | false =>
      refine iteF ?_
      refine ⟨some y, some z, rfl, s1.trans s2, ?_⟩
      rw [← he, hdrop]
      show casesF (qs.drop (i + 1)) gl r = if qq.1.2 r = true then qq.2.2 r else casesF (qs.drop (i + 1)) gl r
      rw [hb]
      rfl
  · rintro σ H' ⟨v1, v2, rfl, s1, he⟩
    refine rd_ix2 rfl (s1 _ _ ha) ⟨_, rfl, last, u, ql, many, gl, r, rfl, hl.mono s1, hu.mono s1, hlen, fun H2 s2 => ?_⟩
    refine qbl ?_ (q _ (s1.trans s2))
    rw [← he, Paired.length hp, List.drop_length]
    rfl
theorem sc_answer : FnScope ["decision", "row", "answers", "part"] ["decision", "row"] (defScope s_answer) := ⟨rfl, rfl, rfl, by decide +kernel, rfl, by decide +kernel, by decide +kernel⟩
theorem ok_answer (T0 : Txt mg) (D : Def K mg "answer_decisions" "answer" s_answer []) (DC : Def K mg "answer_cases" "answer_cases" s_answer_cases []) : ∀ n, Cal P w K mg base (2 * n) "answer_decisions" (spAns n)
  | 0 => by
    refine D.cal0 (ps := ["decision", "row"]) (fun f fd FD => FD.bindsN fun _ _ _ _ _ _ us hl => match us, hl with | [_, _], _ => rfl) ?_
    rintro vs H Q E ⟨v, u, p, many, f, r, _, h, _⟩
    exact h
  | n + 1 => by
    have G_answer_decisions := ok_answer T0 D DC n
    have G_answer_cases := ok_answer_cases (n := n) DC G_answer_decisions
    show Cal P w K mg base ((2 * n + 1) + 1) "answer_decisions" (spAns (n + 1))
    refine D.cal sc_answer (fun _ _ _ _ _ _ us hl => match us, hl with | [_, _], _ => rfl) (fun vs H Q E h => ?_) (fun f0 cdv A outer s H vs Q E hr h => ?_)
    · obtain ⟨v, u, p, many, f, r, rfl, _⟩ := h
      rfl
    obtain ⟨v, u, p, many, f, r, rfl, ⟨a, xs, rfl, ha, d⟩, hu, hlen, q⟩ := h
    refine ⟨_, (pss_cons (ps_if (pt_cmpR op_eq (pe_ix (kIxT K rfl) (pv 0) pe_int (fun _ _ => rfl)) pe_str (nomark _)) (pss_one (ps_ret (pe_c G_answer_cases hr (by omega) rfl (pa_cons (pv 0) (pa_cons (pv 1) pa_nil))))) pss_nil)
      (pss_cons (ps_if (pt_cmpR op_eq (pe_ix (kIxT K rfl) (pv 0) pe_int (fun _ _ => rfl)) pe_str (nomark _)) (pss_one (ps_ret (pe_ix (kIxT K rfl) (pv 1) (pe_ix (kIxT K rfl) (pv 0) pe_int (fun _ _ => rfl)) (fun _ _ => rfl)))) pss_nil)
      (pss_cons (ps_if (pt_cmpR op_eq (pe_ix (kIxT K rfl) (pv 0) pe_int (fun _ _ => rfl)) pe_str (nomark _)) (pss_one (ps_ret (pe_not (pe_c G_answer_decisions hr (by omega) rfl (pa_cons (pe_ix (kIxT K rfl) (pv 0) pe_int (fun _ _ => rfl)) (pa_cons (pv 1) pa_nil)))))) pss_nil)
      (pss_cons (ps_if (pt_cmpR (kInS K rfl) (pe_ix (kIxT K rfl) (pv 0) pe_int (fun _ _ => rfl)) (pe_tup (pa_cons pe_str (pa_cons pe_str pa_nil))) (by rfl)) (pss_one (ps_ret (pe_cmpR op_eq (pe_ix (kIxT K rfl) (pv 0) pe_int (fun _ _ => rfl)) pe_str (nomark _)))) pss_nil)
      (pss_cons (ps_setLc (i := 2) (own := [("part", 3)]) (g := gName 3) (tt := tYes) rfl sc_answer.nd rfl rfl (sw_true rfl rfl rfl (by decide +kernel)) (kiTup K rfl (pe_ix (kIxT K rfl) (pv 0) pe_int (fun _ _ => rfl))) (blkOk_by (own := [("part", 3)]) (N := ["decision", "row", "answers", "part"]) (sc := defScope s_answer) (by decide +kernel)) (fun _ _ _ _ _ => pg_name (i := 3) sc_answer.nd rfl (Or.inl rfl)) (fun _ _ _ _ _ => pts_nil) (fun _ _ _ _ _ => (pe_c G_answer_decisions hr (by omega) rfl (pa_cons (pv 3) (pa_cons (pv 1) pa_nil)))))
      (pss_cons (ps_if (pt_cmpR op_eq (pe_ix (kIxT K rfl) (pv 0) pe_int (fun _ _ => rfl)) pe_str (nomark _)) (pss_one (ps_ret (pe_callB (kAll K rfl rfl) (by rfl) T0.all (by decide +kernel) (pa_cons (pv 2) pa_nil)))) pss_nil)
      (pss_one (ps_ret (pe_callB (kAny K rfl rfl) (by rfl) T0.any (by decide +kernel) (pa_cons (pv 2) pa_nil)))))))))), ?_⟩
    cases d with
    | wish i hi =>
      refine if_no rfl ha (by decide +kernel) ?_
      refine if_yes rfl ha ?_
      obtain ⟨b, rfl, hb⟩ := hu
      refine ⟨_, rfl, ?_⟩
      refine rd_ix1 rfl ha ⟨b, _, _, _, rfl, rfl, SqT.of hb, atI_nat (getD_of (by omega)), ?_⟩
      exact q _ (Same.refl H)
    | fixd x b hx =>
      have e1 : decide (x = "cases") = false ∧ decide (x = "wish") = false ∧ decide (x = "not") = false ∧ (decide (x = "yes") || decide (x = "no")) = true ∧ decide (x = "yes") = b := by
        rcases hx with ⟨rfl, rfl⟩ | ⟨rfl, rfl⟩ <;> decide +kernel
      refine if_no rfl ha e1.1 ?_
      refine if_no rfl ha e1.2.1 ?_
      refine if_no rfl ha e1.2.2.1 ?_
      refine if_in_yes rfl ha e1.2.2.2.1 fun t ht => ?_
      have s1 := same_new ht (.tup [.str "yes", .str "no"])
      refine rd_ix0 rfl (s1 _ _ ha) ⟨rfl, qbl ?_ (q _ s1)⟩
      rw [← e1.2.2.2.2]
      by_cases c : x = "yes"
      · rw [c]
        exact decide_eq_true rfl
      · rw [decide_eq_false c]
        exact decide_eq_false fun z => c (V.str.inj z)
    | neg e k g hg =>
      refine if_no rfl ha (by decide +kernel) ?_
      refine if_no rfl ha (by decide +kernel) ?_
      refine if_yes rfl ha ?_
      refine rd_ix1 rfl ha ⟨_, rfl, e, u, k, many, g, r, rfl, hg, hu, hlen, fun H1 s1 => ⟨_, rfl, ?_⟩⟩
      exact q _ s1
    | junct x b hx c ds qs hc hp h1 h6 =>
      have e1 : decide (x = "cases") = false ∧ decide (x = "wish") = false ∧ decide (x = "not") = false ∧ (decide (x = "yes") || decide (x = "no")) = false := by
        rcases hx with ⟨rfl, rfl⟩ | ⟨rfl, rfl⟩ <;> decide +kernel
      refine if_no rfl ha e1.1 ?_
      refine if_no rfl ha e1.2.1 ?_
      refine if_no rfl ha e1.2.2.1 ?_
      refine if_in_no rfl ha e1.2.2.2 fun t ht => ?_
      have s1 := same_new ht (.tup [.str "yes", .str "no"])
      refine rd_ix1 rfl (s1 _ _ ha) ⟨c, rfl, ⟨_, SqT.of (s1 _ _ hc)⟩, fun L hL => ?_⟩
      refine lc_tup (K := K) (a := c) (xs := ds) (fun i H' => Same H H' ∧ H' L = some (.lst ((((qs.take i).map fun q => q.2 r)).map V.bl))) ⟨s1.trans (same_new hL _), upd_same⟩ (fun i H' _ z => SqT.of (z.1 _ _ hc)) ?_ ?_
      · rintro i y H' hy ⟨s2, h2⟩
        have hlt := lt_of_get hy
        obtain ⟨qq, hq, hy2⟩ := paired_get hp hy
        refine ⟨rfl, ?_⟩
        have L0 : H L = none := s1.free hL
        refine ⟨_, rfl, _, rfl, y, u, qq.1, many, qq.2, r, rfl, hy2.mono s2, hu.mono s2, hlen, fun H3 s3 => ⟨_, s3 _ _ h2, ?_, same_upd (s2.trans s3) L0 _, ?_⟩⟩
        · rw [List.length_map, List.length_map, List.length_take]
          exact small1000 (by omega)
        · rw [upd_same, take_succ_get hq]
          simp
      · rintro H' ⟨s2, h2⟩
        rw [Paired.length hp, List.take_length] at h2
        rcases hx with ⟨rfl, rfl⟩ | ⟨rfl, rfl⟩
        · refine if_yes rfl (s2 _ _ ha) ?_
          refine ⟨_, rfl, L, _, rfl, SqL.of h2, qbl ?_ (q _ s2)⟩
          exact all_fst qs r
        · refine if_no rfl (s2 _ _ ha) (by decide +kernel) ?_
          refine ⟨_, rfl, L, _, rfl, SqL.of h2, qbl ?_ (q _ s2)⟩
          exact any_fst qs r
    | ladder c rows qs last ql gl hc hp h1 h4 hl =>
      refine if_yes rfl ha ?_
      exact ⟨_, rfl, _, rfl, a, c, u, last, rows, qs, many, ql, gl, r, rfl, ha, hc, hp, hl, hu, hlen, q⟩
end
end Ea

set_option maxHeartbeats 4000000
namespace Ea
open PySem PySem.Spec PyProof.Rows L2
def tNeverE : TE := fun _ _ _ => False
theorem pe_never {X : Cx} {e : Expr} : PE X e tNeverE := ⟨fun _ _ _ _ _ _ h => h.elim⟩
/-! ### a case on the heap -/
/-- what a case was made of: how many wishes, how deep and how great its decision, the answers, the rows as told -/
structure Kase where
  many : Nat
  n : Nat
  p : Nat
  f : F
  rs : List Row
structure Kase.Ok (k : Kase) : Prop where
  m1 : 1 ≤ k.many
  m5 : k.many ≤ 5
  n12 : k.n ≤ 12
  p60 : k.p ≤ 60
  len : ∀ r ∈ k.rs, r.length = k.many
  nd : k.rs.Nodup
  ne : k.rs ≠ []
  few : k.rs.length ≤ 32
def cf (m : Int) (v : V) (d : Addr) : List (Str × V) := putF "case_rows" (.ref d) (putF "case_decision" v (putF "case_many" (.int m) []))
theorem cf_ne : ¬ (("case_many" : Str) = "case_decision") ∧ ¬ (("case_many" : Str) = "case_rows") ∧ ¬ (("case_decision" : Str) = "case_rows") := by decide +kernel
theorem cf_many (m : Int) (v : V) (d : Addr) : (cf m v d).lookup ("case_many" : Str) = some (.int m) := by
  unfold cf
  rw [lookup_putF, if_neg cf_ne.2.1, lookup_putF, if_neg cf_ne.1, lookup_putF, if_pos rfl]
theorem cf_dec (m : Int) (v : V) (d : Addr) : (cf m v d).lookup ("case_decision" : Str) = some v := by
  unfold cf
  rw [lookup_putF, if_neg cf_ne.2.2, lookup_putF, if_pos rfl]
theorem cf_rows (m : Int) (v : V) (d : Addr) : (cf m v d).lookup ("case_rows" : Str) = some (.ref d) := by
  unfold cf
  rw [lookup_putF, if_pos rfl]
theorem cf_no (m : Int) (v : V) (d : Addr) {x : Str} (h1 : ¬ x = "case_rows") (h2 : ¬ x = "case_decision") (h3 : ¬ x = "case_many") : (cf m v d).lookup x = none := by
  unfold cf
  rw [lookup_putF, if_neg h1, lookup_putF, if_neg h2, lookup_putF, if_neg h3]
  rfl
/-- the case k stands at x -/
structure CaseAt (P : Program) (w : World) (C : Addr) (H : Hp) (x : Addr) (k : Kase) : Prop where
  ok : k.Ok
  ex : ∃ (dx d : Addr) (v : V) (es : List Ent), H x = some (.ins C dx (cf k.many v d)) ∧ DecAt k.many H k.n v k.p k.f ∧ DB P w H d es ∧ es.map (·.1) = srt k.rs
theorem CaseAt.mono {P : Program} {w : World} {C x : Addr} {H H' : Hp} {k : Kase} (c : CaseAt P w C H x k) (s : Same H H') : CaseAt P w C H' x k := by
  obtain ⟨ok, dx, d, v, es, h1, h2, h3, h4⟩ := c
  exact ⟨ok, dx, d, v, es, s _ _ h1, h2.mono s, h3.mono s, h4⟩
/-- the class as the top has made it -/
structure Cl (K : PySem.W.Frag) (C : Addr) : Prop where
  cl : Cls K C
  nM : NoAttr K C "case_many"
  nD : NoAttr K C "case_decision"
  nR : NoAttr K C "case_rows"
/-! ### promises -/
def spLookRows : Sp := fun vs H Q _ => ∃ (a : Addr) (xs : List V) (rs : List Row) (many : Nat), vs = [.int many, .ref a] ∧ H a = some (.lst xs) ∧ RowsAt H xs rs ∧ (∀ r ∈ rs, r.length = many) ∧ many ≤ 5 ∧ rs.Nodup ∧ rs ≠ [] ∧ rs.length ≤ 32 ∧ ∀ H', Same H H' → Q .non H'
def spInit (P : Program) (w : World) (C : Addr) : Sp := fun vs H Q _ => ∃ (x dx a : Addr) (v : V) (xs : List V) (k : Kase), vs = [.ref x, .int k.many, v, .ref a] ∧ H x = some (.ins C dx []) ∧ k.Ok ∧ DecAt k.many H k.n v k.p k.f ∧ H a = some (.lst xs) ∧ RowsAt H xs k.rs ∧
  ∀ H', (∀ b o, b ≠ x → H b = some o → H' b = some o) → CaseAt P w C H' x k → Q .non H'
def spMany (P : Program) (w : World) (C : Addr) : Sp := fun vs H Q _ => ∃ (x : Addr) (k : Kase), vs = [.ref x] ∧ CaseAt P w C H x k ∧ Q (.int k.many) H
def spRows (P : Program) (w : World) (C : Addr) : Sp := fun vs H Q _ => ∃ (x : Addr) (k : Kase), vs = [.ref x] ∧ CaseAt P w C H x k ∧ ∀ (l : Addr) (ys : List V) (H' : Hp), Same H H' → H l = none → H' l = some (.lst ys) → RowsAt H' ys (srt k.rs) → Q (.ref l) H'
def spLookRow (P : Program) (w : World) (C : Addr) : Sp := fun vs H Q _ => ∃ (x : Addr) (k : Kase) (u : V) (r : Row), vs = [.ref x, u] ∧ CaseAt P w C H x k ∧ RowAt H u r ∧ r.length = k.many ∧ ∀ H', Same H H' → Q .non H'
def spCanBe (P : Program) (w : World) (C : Addr) : Sp := fun vs H Q _ => ∃ (x : Addr) (k : Kase) (u : V) (r : Row), vs = [.ref x, u] ∧ CaseAt P w C H x k ∧ RowAt H u r ∧ r.length = k.many ∧ ∀ H', Same H H' → Q (.bl (decide (r ∈ k.rs))) H'
def spAnswer (P : Program) (w : World) (C : Addr) : Sp := fun vs H Q _ => ∃ (x : Addr) (k : Kase) (u : V) (r : Row), vs = [.ref x, u] ∧ CaseAt P w C H x k ∧ RowAt H u r ∧ r.length = k.many ∧ ∀ H', Same H H' → Q (.bl (k.f r)) H'
section
variable {P : Program} {w : World} {K : PySem.W.Frag} {mg : Str → Option Value} {base : Heap} {C : Addr}
theorem sc_look_at_rows : FnScope ["many", "rows", "seen", "place", "row"] ["many", "rows"] (defScope s_look_at_rows) := ⟨rfl, rfl, rfl, by decide +kernel, rfl, by decide +kernel, by decide +kernel⟩
theorem ok_look_at_rows (T0 : Txt mg) (D : Def K mg "look_at_rows" "look_at_rows" s_look_at_rows []) (G_is_row : Cal P w K mg base 1 "is_row" spIsRow) : Cal P w K mg base 2 "look_at_rows" spLookRows := by
  refine D.cal sc_look_at_rows (fun _ _ _ _ _ _ us hl => match us, hl with | [_, _], _ => rfl) (fun vs H Q E h => ?_) (fun f0 cdv A outer s H vs Q E hr h => ?_)
  · obtain ⟨a, xs, rs, many, rfl, _⟩ := h
    rfl
  obtain ⟨a, xs, rs, many, rfl, ha, hrs, hlen, h5, hnd, hne, h32, q⟩ := h
  have hl := Paired.length hrs
  refine ⟨_, (pss_cons (ps_if (PW.pt (pw_or (pt_not (pt_val (pe_callB (kIsi K rfl) (by rfl) T0.isi (by decide +kernel) (pa_cons (pv 1) (pa_cons (pe_bltn (v := .ty "list") (by rfl) T0.list (by decide +kernel) rfl) pa_nil))))) (pw_or1 (pt_cmpR (kEqL K rfl (u8 hr)) (pv 1) (pe_lst pa_nil) (nomark _))))) (pss_one ps_never) pss_nil)
      (pss_cons (ps_set (i := 2) sc_look_at_rows.nd rfl (Or.inl rfl) (kNewB P w rfl rfl))
      (pss_one (ps_for PassesOwn.never rfl (pi_enum (by rfl) T0.enumerate (pa_cons (pv 1) pa_nil)) (pg_tup rfl (pgs_cons (pg_name (i := 3) sc_look_at_rows.nd rfl (Or.inl rfl)) (pgs_cons (pg_name (i := 4) sc_look_at_rows.nd rfl (Or.inl rfl)) pgs_nil)))
      (pss_cons (ps_if (PW.pt (pw_or (pt_not (pt_val (pe_c G_is_row hr (by omega) rfl (pa_cons (pv 4) (pa_cons (pv 0) pa_nil))))) (pw_or1 (pt_cmp (kInB P w rfl rfl (hu_of hr) (pv 4) (pv 2)))))) (pss_one ps_never) pss_nil)
      (pss_one (kPutB P w rfl rfl (hu_of hr) (pv 2) (pv 4) pe_bl rfl))))))), ?_⟩
  refine ⟨_, rfl, _, _, _, _, true, rfl, .ty _, .base (.lst ha), kit_ty (by decide +kernel), true, rfl, iteF ?_⟩
  refine ⟨_, rfl, Nat.zero_le _, fun t0 ht0 => ?_⟩
  have s0 := same_new ht0 (.lst [])
  refine ⟨a, t0, xs, rfl, rfl, SqL.of (s0 _ _ ha), SqL.of upd_same, _, rfl, iteK ?_ ?_⟩
  · cases xs with
    | nil =>
      cases hrs
      exact absurd rfl hne
    | cons x xs => rfl
  intro d hd
  have d0 : H d = none := s0.free hd
  have s1 := s0.trans (same_new hd (DBo P w d []))
  refine ⟨_, rfl, a, xs, rfl, SqL.of (s1 _ _ ha), ?_⟩
  refine for_it (walk_enum (K := K) (a := a) (xs := xs)) (fun i σ H' => ∃ (v1 v2 : Option V) (es : List Ent), σ = [some (.int many), some (.ref a), some (.ref d), v1, v2] ∧ Same H H' ∧ DB P w H' d es ∧ es.map (·.1) = rs.take i)
    ⟨none, none, [], rfl, s1, ⟨upd_same, fun x hx => nomatch hx⟩, rfl⟩ (fun i σ H' _ ⟨_, _, _, _, s2, _⟩ => SqL.of (s2 _ _ ha)) ?_ ?_
  · rintro i x σ H' H'' hi ⟨v1, v2, es, rfl, s2, hdb, hks⟩ ⟨T, pl, y, rfl, hT, rfl, hp1, hy⟩
    obtain rfl : V.int (i : Nat) = pl := Option.some.inj hp1
    have s3 := same_new hT (.tup [.int (i : Nat), y])
    obtain ⟨r, hr2, b, rfl, hb⟩ := paired_get hrs hy
    have hrm : r ∈ rs := List.mem_of_getElem? hr2
    refine ⟨T, _, rfl, SqT.of upd_same, rfl, _, _, rfl, _, _, rfl, rfl, ?_⟩
    have s23 := s2.trans s3
    refine ⟨_, rfl, _, rfl, .ref b, r, _, rfl, ⟨b, rfl, s23 _ _ hb⟩, by rw [hlen r hrm]; omega, fun H4 s4 => ⟨_, rfl, ?_⟩⟩
    refine iteK (by rw [decide_eq_true (show (r.length : Int) = many by rw [hlen r hrm])]; rfl) ?_
    have hdb4 := hdb.mono (s3.trans s4)
    have hni : r ∉ es.map (·.1) := by
      rw [hks]
      intro hm
      obtain ⟨j, hj⟩ := List.getElem?_of_mem hm
      rw [List.getElem?_take] at hj
      split at hj
      · rename_i hji
        have e := nd_ix hnd hj hr2
        omega
      · cases hj
    have hel : es.length ≤ i := by
      have := congrArg List.length hks
      rw [List.length_map, List.length_take] at this
      omega
    have hb4 := s4 _ _ (s23 _ _ hb)
    refine ⟨_, rfl, _, rfl, d, es, r, rfl, hdb4, ⟨b, rfl, hb4⟩, _, rfl, iteK (decide_eq_false hni) ?_⟩
    refine ⟨_, rfl, _, rfl, d, b, es, r, rfl, hdb4, rfl, hb4, hni, small1000 (by omega), fun u => ?_⟩
    refine ⟨_, _, es ++ [(r, b, u)], rfl, same_upd (s23.trans s4) d0 _, ⟨upd_same, fun x hx => ?_⟩, ?_⟩
    · have nd : x.2.1 ≠ d := by
        rintro rfl
        rcases List.mem_append.mp hx with hx | hx
        · have z := hdb4.ks x hx
          rw [hdb4.ob] at z
          exact nomatch z
        · rw [List.mem_singleton.mp hx] at hdb4
          have z := hdb4.ob
          rw [hb4] at z
          exact nomatch z
      rw [upd_ne nd]
      rcases List.mem_append.mp hx with hx | hx
      · exact hdb4.ks x hx
      · rw [List.mem_singleton.mp hx]
        exact hb4
    · rw [take_succ_get hr2, List.map_append, hks]
      rfl
  · rintro σ H' ⟨v1, v2, es, rfl, s2, hdb, hks⟩
    exact q _ s2
theorem sc_Case_many : FnScope ["self"] ["self"] (defScope s_Case_many) := ⟨rfl, rfl, rfl, by decide +kernel, rfl, by decide +kernel, by decide +kernel⟩
theorem ok_Case_many (T : Cl K C) (D : DefM K C "many" "Case.many" s_Case_many []) : Met P w K mg base 1 C "many" (spMany P w C) := by
  refine D.met T.cl sc_Case_many (fun _ _ _ _ _ _ us hl => match us, hl with | [_], _ => rfl) (fun vs H Q E h => ?_) (fun f0 cdv A outer s H vs Q E hr h => ?_)
  · obtain ⟨x, k, rfl, _⟩ := h
    rfl
  obtain ⟨x, k, rfl, ⟨ok, dx, d, v, es, h1, h2, h3, h4⟩, q⟩ := h
  refine ⟨_, (pss_one (ps_ret (pe_fld (pv 0) rfl))), ?_⟩
  exact ⟨_, rfl, x, C, dx, _, _, rfl, h1, T.cl, T.nM, cf_many _ _ _, q⟩
theorem sc_Case_rows : FnScope ["self"] ["self"] (defScope s_Case_rows) := ⟨rfl, rfl, rfl, by decide +kernel, rfl, by decide +kernel, by decide +kernel⟩
theorem ok_Case_rows (T0 : Txt mg) (T : Cl K C) (D : DefM K C "rows" "Case.rows" s_Case_rows []) : Met P w K mg base 1 C "rows" (spRows P w C) := by
  refine D.met T.cl sc_Case_rows (fun _ _ _ _ _ _ us hl => match us, hl with | [_], _ => rfl) (fun vs H Q E h => ?_) (fun f0 cdv A outer s H vs Q E hr h => ?_)
  · obtain ⟨x, k, rfl, _⟩ := h
    rfl
  obtain ⟨x, k, rfl, ⟨ok, dx, d, v, es, h1, h2, h3, h4⟩, q⟩ := h
  refine ⟨_, (pss_one (ps_ret (pe_callTy (kListB P w rfl rfl rfl) (by rfl) T0.list (by decide +kernel) (pa_cons (pe_fld (pv 0) rfl) pa_nil)))), ?_⟩
  refine ⟨_, rfl, x, C, dx, _, _, rfl, h1, T.cl, T.nR, cf_rows _ _ _, d, es, rfl, h3, fun l hl => ?_⟩
  have s1 := same_new hl (.lst (es.map fun x => V.ref x.2.1))
  refine q l _ _ s1 hl upd_same ?_
  rw [← h4]
  have all : ∀ es : List Ent, (∀ e ∈ es, H e.2.1 = some (.tup (e.1.map V.bl))) → RowsAt H (es.map fun x => V.ref x.2.1) (es.map (·.1)) := by
    intro es
    induction es with
    | nil => intro _; exact .nil
    | cons e es ih => intro h; exact .cons ⟨_, rfl, h e (List.mem_cons_self ..)⟩ (ih fun x hx => h x (List.mem_cons_of_mem _ hx))
  exact (all es h3.ks).mono s1
theorem sc_Case_look_at_row : FnScope ["self", "row"] ["self", "row"] (defScope s_Case_look_at_row) := ⟨rfl, rfl, rfl, by decide +kernel, rfl, by decide +kernel, by decide +kernel⟩
theorem ok_Case_look_at_row (T : Cl K C) (D : DefM K C "look_at_row" "Case.look_at_row" s_Case_look_at_row []) (G_is_row : Cal P w K mg base 1 "is_row" spIsRow) : Met P w K mg base 2 C "look_at_row" (spLookRow P w C) := by
  refine D.met T.cl sc_Case_look_at_row (fun _ _ _ _ _ _ us hl => match us, hl with | [_, _], _ => rfl) (fun vs H Q E h => ?_) (fun f0 cdv A outer s H vs Q E hr h => ?_)
  · obtain ⟨x, k, u, r, rfl, _⟩ := h
    rfl
  obtain ⟨x, k, u, r, rfl, ⟨ok, dx, d, v, es, h1, h2, h3, h4⟩, hu, hlen, q⟩ := h
  have m5 := ok.m5
  refine ⟨_, (pss_one (ps_if (pt_not (pt_val (pe_c G_is_row hr (by omega) rfl (pa_cons (pv 1) (pa_cons (pe_fld (pv 0) rfl) pa_nil))))) (pss_one ps_never) pss_nil)), ?_⟩
  refine ⟨_, rfl, _, rfl, x, C, dx, _, _, rfl, h1, T.cl, T.nM, cf_many _ _ _, u, r, _, rfl, hu, by omega, fun H1 s1 => ⟨_, rfl, ?_⟩⟩
  refine iteK (by rw [decide_eq_true (show (r.length : Int) = k.many by omega)]; rfl) ?_
  exact q _ s1
theorem sc_Case_can_be : FnScope ["self", "row"] ["self", "row"] (defScope s_Case_can_be) := ⟨rfl, rfl, rfl, by decide +kernel, rfl, by decide +kernel, by decide +kernel⟩
theorem ok_Case_can_be (T : Cl K C) (D : DefM K C "can_be" "Case.can_be" s_Case_can_be []) (M_look_at_row : Met P w K mg base 2 C "look_at_row" (spLookRow P w C)) : Met P w K mg base 3 C "can_be" (spCanBe P w C) := by
  refine D.met T.cl sc_Case_can_be (fun _ _ _ _ _ _ us hl => match us, hl with | [_, _], _ => rfl) (fun vs H Q E h => ?_) (fun f0 cdv A outer s H vs Q E hr h => ?_)
  · obtain ⟨x, k, u, r, rfl, _⟩ := h
    rfl
  obtain ⟨x, k, u, r, rfl, c, hu, hlen, q⟩ := h
  refine ⟨_, (pss_cons (ps_expr (pe_mt M_look_at_row hr (by omega) (pv 0) (pa_cons (pv 1) pa_nil)))
      (pss_one (ps_ret (pe_cmp (kInB P w rfl rfl (hu_of hr) (pv 1) (pe_fld (pv 0) rfl)) rfl)))), ?_⟩
  obtain ⟨ok, dx, d, v, es, h1, h2, h3, h4⟩ := id c
  refine ⟨_, rfl, x, dx, _, rfl, h1, cf_no _ _ _ (by decide +kernel) (by decide +kernel) (by decide +kernel), _, rfl, x, k, u, r, rfl, c, hu, hlen, fun H1 s1 => ?_⟩
  refine ⟨_, rfl, _, rfl, x, C, dx, _, _, rfl, s1 _ _ h1, T.cl, T.nR, cf_rows _ _ _, d, es, r, rfl, h3.mono s1, hu.mono s1, qbl ?_ (q _ s1)⟩
  rw [h4]
  exact decide_eq_decide.mpr srt_mem
theorem sc_Case_answer : FnScope ["self", "row"] ["self", "row"] (defScope s_Case_answer) := ⟨rfl, rfl, rfl, by decide +kernel, rfl, by decide +kernel, by decide +kernel⟩
theorem ok_Case_answer (T : Cl K C) (D : DefM K C "answer" "Case.answer" s_Case_answer []) (M_look_at_row : Met P w K mg base 2 C "look_at_row" (spLookRow P w C)) (G : ∀ n, Cal P w K mg base (2 * n) "answer_decisions" (spAns n)) : Met P w K mg base 30 C "answer" (spAnswer P w C) := by
  refine D.met T.cl sc_Case_answer (fun _ _ _ _ _ _ us hl => match us, hl with | [_, _], _ => rfl) (fun vs H Q E h => ?_) (fun f0 cdv A outer s H vs Q E hr h => ?_)
  · obtain ⟨x, k, u, r, rfl, _⟩ := h
    rfl
  obtain ⟨x, k, u, r, rfl, c, hu, hlen, q⟩ := h
  obtain ⟨ok, dx, d, v, es, h1, h2, h3, h4⟩ := id c
  have n12 := ok.n12
  have G_answer_decisions := G k.n
  refine ⟨_, (pss_cons (ps_expr (pe_mt M_look_at_row hr (by omega) (pv 0) (pa_cons (pv 1) pa_nil)))
      (pss_one (ps_ret (pe_c G_answer_decisions hr (by omega) rfl (pa_cons (pe_fld (pv 0) rfl) (pa_cons (pv 1) pa_nil)))))), ?_⟩
  refine ⟨_, rfl, x, dx, _, rfl, h1, cf_no _ _ _ (by decide +kernel) (by decide +kernel) (by decide +kernel), _, rfl, x, k, u, r, rfl, c, hu, hlen, fun H1 s1 => ?_⟩
  exact ⟨_, rfl, x, C, dx, _, _, rfl, s1 _ _ h1, T.cl, T.nD, cf_dec _ _ _, _, rfl, v, u, k.p, k.many, k.f, r, rfl, h2.mono s1, hu.mono s1, hlen, fun H2 s2 => q _ (s1.trans s2)⟩
end
end Ea

set_option maxHeartbeats 4000000
namespace Ea
open PySem PySem.Spec PyProof.Rows L2
/-- tuples stay -/
def TSame (H H' : Hp) : Prop := ∀ b ts, H b = some (.tup ts) → H' b = some (.tup ts)
theorem Same.t {H H' : Hp} (s : Same H H') : TSame H H' := fun b ts e => s b _ e
theorem TSame.trans {H H1 H2 : Hp} (a : TSame H H1) (b : TSame H1 H2) : TSame H H2 := fun c ts e => b c ts (a c ts e)
theorem TSame.put {H H1 : Hp} {x : Addr} (a : TSame H H1) (h : ∀ ts, H1 x ≠ some (.tup ts)) (o : HO) : TSame H (upd H1 x o) := fun b ts e => by
  have z := a b ts e
  have n : b ≠ x := fun q => by
    rw [q] at z
    exact h ts z
  rw [upd_ne n]
  exact z
theorem RowAt.monoT {H H' : Hp} {v : V} {r : Row} (h : RowAt H v r) (s : TSame H H') : RowAt H' v r := by
  obtain ⟨a, e, h⟩ := h
  exact ⟨a, e, s _ _ h⟩
theorem RowsAt.monoT {H H' : Hp} {vs : List V} {rs : List Row} (h : RowsAt H vs rs) (s : TSame H H') : RowsAt H' vs rs := Paired.mapP h fun _ _ z => z.monoT s
theorem DecF.monoT {H H' : Hp} {many : Nat} {R R' : Rel} {xs : List V} {p : Nat} {f : F} (d : DecF H many R xs p f) (s : TSame H H') (k : ∀ v p f, R v p f → R' v p f) : DecF H' many R' xs p f := by
  cases d with
  | wish i h => exact .wish i h
  | fixd x b hx => exact .fixd x b hx
  | neg d q g h => exact .neg d q g (k _ _ _ h)
  | junct x b hx c ds qs hc hp h1 h6 => exact .junct x b hx c ds qs (s _ _ hc) (Paired.mapP hp fun _ _ z => k _ _ _ z) h1 h6
  | ladder c rows qs last ql gl hc hp h1 h4 hl =>
    exact .ladder c rows qs last ql gl (s _ _ hc) (Paired.mapP hp fun _ _ ⟨e, x, y, a, b, c, d⟩ => ⟨e, x, y, a, s _ _ b, k _ _ _ c, k _ _ _ d⟩) h1 h4 (k _ _ _ hl)
theorem DecAt.monoT {many : Nat} {H H' : Hp} (s : TSame H H') : ∀ {n : Nat} {v : V} {p : Nat} {f : F}, DecAt many H n v p f → DecAt many H' n v p f
  | 0, _, _, _, h => h.elim
  | n + 1, v, p, f, ⟨a, xs, e, ha, d⟩ => ⟨a, xs, e, s _ _ ha, d.monoT s fun _ _ _ z => DecAt.monoT s z⟩
theorem few2 (v u : V) : (putF "case_decision" v (putF "case_many" u [])).length < 1000 := by
  show (if ("case_many" : Str) = "case_decision" then [(("case_many" : Str), v)] else (("case_many" : Str), u) :: putF "case_decision" v []).length < 1000
  rw [if_neg cf_ne.1]
  show 2 < 1000
  decide
section
variable {P : Program} {w : World} {K : PySem.W.Frag} {mg : Str → Option Value} {base : Heap} {C : Addr}
theorem sc_Case_init : FnScope ["self", "many", "decision", "rows", "row"] ["self", "many", "decision", "rows"] (defScope s_Case_init) := ⟨rfl, rfl, rfl, by decide +kernel, rfl, by decide +kernel, by decide +kernel⟩
theorem ok_Case_init (T0 : Txt mg) (T1 : Nums mg) (T : Cl K C) (D : DefM K C "__init__" "Case.__init__" s_Case_init [.non]) (M : ∀ f, Meth K C "__init__" f → Mk K C f) (hC : mg "Case" = some (.ref C)) (G_is_within : Cal P w K mg base 2 "is_within" spWithin) (G_is_decision : Cal P w K mg base 17 "is_decision" spIsDec) (G_look_at_rows : Cal P w K mg base 2 "look_at_rows" spLookRows)
    (G : ∀ n, Cal P w K mg base (2 * n) "answer_decisions" (spAns n)) : Mak P w K mg base 30 "Case" C (spInit P w C) := by
  obtain ⟨fa, fd, FD, hm⟩ := D.ex
  have hb : Binds K fd ["self", "many", "decision", "rows"] [] := by
    obtain ⟨ds, hv, hb⟩ := FD.binds1 (ps := ["self", "many", "decision", "rows"]) 4 1 (by simp) rfl (fun T kV doc pm an cdv ct us its hl hi => match us, its, hl, hi with | [_, _, _, _], [_], _, _ => ⟨_, rfl, rfl⟩)
    cases hv
    exact hb
  refine ⟨fa, fd, ["self", "many", "decision", "rows"], M fa hm, ?_, hC, hb⟩
  refine FD.ok sc_Case_init (fun vs H Q E h => ?_) (fun cdv A outer s H vs Q E hr h => nox_of ?_)
  · obtain ⟨x, dx, a, v, xs, k, rfl, _⟩ := h
    rfl
  obtain ⟨x, dx, a, v, xs, k, rfl, hx, ok, hv, ha, hrs, q⟩ := h
  have n12 := ok.n12
  have m1 := ok.m1
  have m5 := ok.m5
  have G_answer_decisions := G k.n
  refine ⟨_, (pss_cons (ps_if (pt_not (pt_val (pe_c G_is_within hr (by omega) rfl (pa_cons (pv 1) (pa_cons pe_int (pa_cons (pe_gi rfl T1.MOST_WISHES) pa_nil)))))) (pss_one ps_never) pss_nil)
      (pss_cons (ps_if (pt_not (pt_val (pe_c G_is_decision hr (by omega) rfl (pa_cons (pv 2) (pa_cons (pv 1) pa_nil))))) (pss_one ps_never) pss_nil)
      (pss_cons (ps_if (pt_cmpR op_notN (pv 3) pe_non (nomark _)) (pss_one (ps_expr (pe_c G_look_at_rows hr (by omega) rfl (pa_cons (pv 1) (pa_cons (pv 3) pa_nil))))) pss_nil)
      (pss_cons (ps_fld (pv 0) (pv 1) rfl)
      (pss_cons (ps_fld (pv 0) (pv 2) rfl)
      (pss_cons (ps_fld (pv 0) (kNewB P w rfl rfl) rfl)
      (pss_one (ps_for PassesOwn.never rfl (kiList K rfl (pe_callB (kSorted K rfl (u8 hr)) (by rfl) T0.sorted (by decide +kernel) (pa_cons (pe_ifExp (pt_cmpR op_isN (pv 3) pe_non (nomark _)) pe_never (pv 3)) pa_nil))) (pg_name (i := 4) sc_Case_init.nd rfl (Or.inl rfl))
      (pss_one (kPutB P w rfl rfl (hu_of hr) (pe_fld (pv 0) rfl) (pv 4) (pe_c G_answer_decisions hr (by omega) rfl (pa_cons (pv 2) (pa_cons (pv 4) pa_nil))) rfl)))))))))), ?_⟩
  refine ⟨_, rfl, _, _, _, rfl, _, rfl, iteK (by rw [decide_eq_true (show (1 : Int) ≤ (k.many : Int) ∧ (k.many : Int) ≤ 8 by omega)]; rfl) ?_⟩
  refine ⟨_, rfl, _, rfl, v, k.n, k.p, k.many, k.f, rfl, hv, ok.n12, ok.p60, fun H1 s1 => ⟨_, rfl, iteF ?_⟩⟩
  refine ⟨_, rfl, rfl, _, rfl, iteY (by rw [decide_eq_false (fun z => nomatch z)]; rfl) ?_⟩
  refine ⟨_, rfl, _, rfl, a, xs, k.rs, k.many, rfl, s1 _ _ ha, hrs.mono s1, ok.len, ok.m5, ok.nd, ok.ne, ok.few, fun H2 s2 => ?_⟩
  have s12 := s1.trans s2
  have hx2 := s12 _ _ hx
  -- the fields
  refine ⟨_, rfl, _, rfl, x, C, dx, [], rfl, hx2, T.cl, T.nM, (by show 0 < 1000; decide), ?_⟩
  refine ⟨_, rfl, _, rfl, x, C, dx, _, rfl, upd_same, T.cl, T.nD, (by show 1 < 1000; decide), ?_⟩
  intro d hd
  have nxd : x ≠ d := ne_of_none upd_same hd
  refine ⟨_, rfl, x, C, dx, putF "case_decision" v (putF "case_many" (.int k.many) []), rfl, by rw [upd_ne nxd, upd_same], T.cl, T.nR, few2 _ _, ?_⟩
  -- what stands behind the fields
  have d2 : H2 d = none := by
    rw [upd_ne nxd.symm, upd_ne nxd.symm] at hd
    exact hd
  generalize eH3 : upd (upd (upd (upd H2 x (.ins C dx (putF "case_many" (.int k.many) []))) x (.ins C dx (putF "case_decision" v (putF "case_many" (.int k.many) [])))) d (DBo P w d [])) x (.ins C dx (putF "case_rows" (.ref d) (putF "case_decision" v (putF "case_many" (.int k.many) [])))) = H3
  have k3 : ∀ b o, b ≠ x → H b = some o → H3 b = some o := fun b o nb e => by
    have e2 := s12 _ _ e
    rw [← eH3, upd_ne nb, upd_ne (ne_of_none e2 d2), upd_ne nb, upd_ne nb]
    exact e2
  have hx3 : H3 x = some (.ins C dx (cf k.many v d)) := by
    rw [← eH3, upd_same]
    rfl
  have hd3 : H3 d = some (DBo P w d []) := by rw [← eH3, upd_ne nxd.symm, upd_same]
  have t3 : TSame H H3 := fun b ts e => k3 b _ (ne_of e hx (fun z => nomatch z)) e
  have na : a ≠ x := ne_of ha hx (fun z => nomatch z)
  refine ⟨_, rfl, rfl, _, rfl, iteK (decide_eq_false fun z => nomatch z) ?_⟩
  refine ⟨_, rfl, a, xs, k.rs, rfl, SqL.of (k3 _ _ na ha), hrs.monoT t3, fun r hr e => ?_, fun ys p hys hp => ?_⟩
  · have := ok.len r hr
    rw [e] at this
    simp at this
    omega
  have s4 := same_new hp (.lst ys)
  refine ⟨p, rfl, ⟨_, SqL.of upd_same⟩, ?_⟩
  refine for_list (K := K) (a := p) (xs := ys) (fun i σ H' => ∃ (v1 : Option V) (es : List Ent), σ = [some (.ref x), some (.int k.many), some v, some (.ref a), v1] ∧ (∀ b o, b ≠ x → H b = some o → H' b = some o) ∧ H' x = some (.ins C dx (cf k.many v d)) ∧ H' p = some (.lst ys) ∧ RowsAt H' ys (srt k.rs) ∧ DB P w H' d es ∧ es.map (·.1) = (srt k.rs).take i)
    ⟨none, [], rfl, fun b o nb e => s4 _ _ (k3 b o nb e), s4 _ _ hx3, upd_same, hys.mono s4, ⟨s4 _ _ hd3, fun x hx => nomatch hx⟩, rfl⟩ (fun i σ H' _ ⟨_, _, _, _, _, h, _⟩ => SqL.of h) ?_ ?_
  · rintro i y σ H' hy ⟨v1, es, rfl, k4, hx4, hp4, hys4, hdb, hks⟩
    have hil := lt_of_get hy
    obtain ⟨r, hr2, b, rfl, hbb⟩ := paired_get hys4 hy
    have hrm : r ∈ k.rs := srt_mem.mp (List.mem_of_getElem? hr2)
    have t4 : TSame H H' := fun b ts e => k4 b _ (ne_of e hx (fun z => nomatch z)) e
    refine ⟨_, rfl, _, rfl, v, .ref b, k.p, k.many, k.f, r, rfl, hv.monoT t4, ⟨b, rfl, hbb⟩, ok.len r hrm, fun H5 s5 => ?_⟩
    have hdb5 := hdb.mono s5
    have hb5 := s5 _ _ hbb
    have hni : r ∉ es.map (·.1) := by
      rw [hks]
      intro hm
      obtain ⟨j, hj⟩ := List.getElem?_of_mem hm
      rw [List.getElem?_take] at hj
      split at hj
      · rename_i hji
        have e := nd_ix (srt_nodup ok.nd) hj hr2
        omega
      · cases hj
    have hel : es.length ≤ 32 := by
      have h1 := congrArg List.length hks
      have h2 := (srt_perm k.rs).length_eq
      have h3 := ok.few
      rw [List.length_map, List.length_take] at h1
      omega
    refine ⟨_, rfl, x, C, dx, _, _, rfl, s5 _ _ hx4, T.cl, T.nR, cf_rows _ _ _, _, rfl, d, b, es, r, rfl, hdb5, rfl, hb5, hni, small1000 (by omega), fun u => ?_⟩
    have dk : ∀ z o, H z = some o → z ≠ d := fun z o e q => by
      have e2 := s12 _ _ e
      rw [q, d2] at e2
      exact nomatch e2
    have dtu : ∀ ts, H5 d ≠ some (.tup ts) := fun ts e => by
      rw [hdb5.ob] at e
      exact nomatch e
    refine ⟨_, es ++ [(r, b, u)], rfl, fun z o nb e => ?_, ?_, ?_, ?_, ⟨upd_same, fun z hz => ?_⟩, ?_⟩
    · rw [upd_ne (dk z o e)]
      exact s5 _ _ (k4 z o nb e)
    · rw [upd_ne nxd]
      exact s5 _ _ hx4
    · have hp5 := s5 _ _ hp4
      rw [upd_ne (ne_of hp5 hdb5.ob (fun z => nomatch z))]
      exact hp5
    · exact hys4.monoT (TSame.put (Same.t s5) dtu _)
    · have nd : z.2.1 ≠ d := by
        rintro q
        rcases List.mem_append.mp hz with hz | hz
        · have e := hdb5.ks z hz
          rw [q] at e
          exact dtu _ e
        · rw [List.mem_singleton.mp hz] at q
          have q' : b = d := q
          rw [q'] at hb5
          exact dtu _ hb5
      rw [upd_ne nd]
      rcases List.mem_append.mp hz with hz | hz
      · exact hdb5.ks z hz
      · rw [List.mem_singleton.mp hz]
        exact hb5
    · rw [take_succ_get hr2, List.map_append, hks]
      rfl
  · rintro σ H' ⟨v1, es, rfl, k4, hx4, hp4, hys4, hdb, hks⟩
    have t4 : TSame H H' := fun b ts e => k4 b _ (ne_of e hx (fun z => nomatch z)) e
    refine q H' k4 ⟨ok, dx, d, v, es, hx4, hv.monoT t4, hdb, ?_⟩
    rw [hks, Paired.length hys4, List.take_length]
end
end Ea

set_option maxHeartbeats 4000000
namespace Ea
open PySem PySem.Spec PyProof.Rows L2
/-! ### rows turned about, pairs, tables: the plain functions -/
def turn (r : Row) (i : Nat) : Row := r.take i ++ [!r.getD i false] ++ r.drop (i + 1)
def del (r : Row) (i : Nat) : Row := r.take i ++ r.drop (i + 1)
def twinsM (k : Kase) (i : Nat) : List (Row × Row) := ((srt k.rs).filter fun r => !r.getD i false && decide (turn r i ∈ k.rs)).map fun r => (r, turn r i)
def pairsM (k : Kase) (i : Nat) : List (Row × Row) := (twinsM k i).filter fun p => k.f p.1 != k.f p.2
def tableM (k : Kase) (i : Nat) : List (Row × Bool) := (twinsM k i).map fun p => (del p.1 i, k.f p.1)
theorem turn_length {r : Row} {i : Nat} (h : i < r.length) : (turn r i).length = r.length := by
  unfold turn
  rw [List.length_append, List.length_append, List.length_take, List.length_drop, List.length_singleton]
  omega
theorem del_length {r : Row} {i : Nat} (h : i < r.length) : (del r i).length = r.length - 1 := by
  unfold del
  rw [List.length_append, List.length_take, List.length_drop]
  omega
theorem twins_mem {k : Kase} {i : Nat} {p : Row × Row} (h : p ∈ twinsM k i) : p.1 ∈ k.rs ∧ p.2 = turn p.1 i ∧ p.1.getD i false = false ∧ p.2 ∈ k.rs := by
  unfold twinsM at h
  obtain ⟨r, hr, rfl⟩ := List.mem_map.mp h
  obtain ⟨h1, h2⟩ := List.mem_filter.mp hr
  simp only [Bool.and_eq_true, Bool.not_eq_true', decide_eq_true_eq] at h2
  exact ⟨srt_mem.mp h1, rfl, h2.1, h2.2⟩
theorem twins_len (k : Kase) (i : Nat) : (twinsM k i).length ≤ k.rs.length := by
  unfold twinsM
  rw [List.length_map, ← (srt_perm k.rs).length_eq]
  exact List.length_filter_le _ _
theorem pairs_len (k : Kase) (i : Nat) : (pairsM k i).length ≤ k.rs.length := Nat.le_trans (List.length_filter_le _ _) (twins_len k i)
/-! ### on the heap -/
def TupAt (H : Hp) (v : V) (xs : List V) : Prop := ∃ a, v = .ref a ∧ H a = some (.tup xs)
def PairAt (H : Hp) (v : V) (p : Row × Row) : Prop := ∃ (a : Addr) (x y : V), v = .ref a ∧ H a = some (.tup [x, y]) ∧ RowAt H x p.1 ∧ RowAt H y p.2
def LineAt (H : Hp) (v : V) (q : Row × Bool) : Prop := ∃ (a : Addr) (x : V), v = .ref a ∧ H a = some (.tup [x, .bl q.2]) ∧ RowAt H x q.1
theorem PairAt.mono {H H' : Hp} {v : V} {p : Row × Row} (h : PairAt H v p) (s : Same H H') : PairAt H' v p := by
  obtain ⟨a, x, y, e, h1, h2, h3⟩ := h
  exact ⟨a, x, y, e, s _ _ h1, h2.mono s, h3.mono s⟩
theorem LineAt.mono {H H' : Hp} {v : V} {p : Row × Bool} (h : LineAt H v p) (s : Same H H') : LineAt H' v p := by
  obtain ⟨a, x, e, h1, h2⟩ := h
  exact ⟨a, x, e, s _ _ h1, h2.mono s⟩
theorem PairAt.monoT {H H' : Hp} {v : V} {p : Row × Row} (h : PairAt H v p) (s : TSame H H') : PairAt H' v p := by
  obtain ⟨a, x, y, e, h1, h2, h3⟩ := h
  exact ⟨a, x, y, e, s _ _ h1, h2.monoT s, h3.monoT s⟩
theorem LineAt.monoT {H H' : Hp} {v : V} {p : Row × Bool} (h : LineAt H v p) (s : TSame H H') : LineAt H' v p := by
  obtain ⟨a, x, e, h1, h2⟩ := h
  exact ⟨a, x, e, s _ _ h1, h2.monoT s⟩
section
variable {K : PySem.W.Frag} {H : Hp}
theorem PairAt.dp {v : V} {p : Row × Row} (h : PairAt H v p) : Dp K H v (encP p) := by
  obtain ⟨a, x, y, rfl, h1, h2, h3⟩ := h
  exact .tup (SqT.of h1) (.cons h2.dp (.cons h3.dp .nil))
theorem LineAt.dp {v : V} {p : Row × Bool} (h : LineAt H v p) : Dp K H v (encL p) := by
  obtain ⟨a, x, rfl, h1, h2⟩ := h
  exact .tup (SqT.of h1) (.cons h2.dp (.cons (.bl _) .nil))
/-! ### slices, sums -/
theorem sl_take {a : Addr} {xs : List V} {i : Nat} {Q : VK} (ha : H a = some (.tup xs)) (q : ∀ u H', Same H H' → TupAt H' u (xs.take i) → Q u H') : rSlA K (.ref a) none (some (i : Int)) H Q := by
  refine ⟨a, xs, rfl, SqT.of ha, fun hw => ?_, fun _ p hp => ?_⟩
  · refine q _ H (Same.refl H) ⟨a, rfl, ?_⟩
    rw [HT.sIx_nat] at hw
    rw [List.take_of_length_le (by omega)]
    exact ha
  · refine q _ _ (same_new hp _) ⟨p, rfl, ?_⟩
    rw [upd_same]
    unfold cutV
    rw [HT.sIx_none, HT.sIx_nat, List.drop_zero, Nat.sub_zero]
    by_cases h : i ≤ xs.length
    · rw [Nat.min_eq_left h]
    · rw [Nat.min_eq_right (by omega), List.take_of_length_le (Nat.le_refl _), List.take_of_length_le (by omega)]
theorem sl_drop {a : Addr} {xs : List V} {i : Nat} {Q : VK} (ha : H a = some (.tup xs)) (q : ∀ u H', Same H H' → TupAt H' u (xs.drop i) → Q u H') : rSlA K (.ref a) (some (i : Int)) none H Q := by
  refine ⟨a, xs, rfl, SqT.of ha, fun hw => ?_, fun _ p hp => ?_⟩
  · refine q _ H (Same.refl H) ⟨a, rfl, ?_⟩
    rw [HT.sIx_nat] at hw
    by_cases h0 : i = 0
    · rw [h0, List.drop_zero]
      exact ha
    · have e : xs = [] := by
        cases xs with
        | nil => rfl
        | cons x xs =>
          simp only [List.length_cons] at hw
          omega
      rw [e] at ha ⊢
      rw [List.drop_nil]
      exact ha
  · refine q _ _ (same_new hp _) ⟨p, rfl, ?_⟩
    rw [upd_same]
    unfold cutV
    rw [HT.sIx_none, HT.sIx_nat]
    by_cases h : i ≤ xs.length
    · rw [Nat.min_eq_left h, List.take_of_length_le (by rw [List.length_drop]; exact Nat.le_refl _)]
    · rw [Nat.min_eq_right (by omega), Nat.sub_self, List.take_zero, List.drop_eq_nil_of_le (by omega)]
theorem sl_dropN {a : Addr} {xs : List V} {i : Nat} {σ : L2.St} {Q : VK} (ha : H a = some (.tup xs)) (q : ∀ u H', Same H H' → TupAt H' u (xs.drop i) → Q u H') : tNoPart σ H fun u H3 => rSlA K (.ref a) (some (i : Int)) u H3 Q := sl_drop ha q
theorem cat_at {u v : V} {xs ys : List V} {Q : VK} (hu : TupAt H u xs) (hv : TupAt H v ys) (hl : xs.length + ys.length ≤ 1000) (q : ∀ z H', Same H H' → TupAt H' z (xs ++ ys) → Q z H') : rCatA K u v H Q := by
  obtain ⟨a, rfl, ha⟩ := hu
  obtain ⟨b, rfl, hb⟩ := hv
  refine ⟨a, b, xs, ys, rfl, rfl, SqT.of ha, SqT.of hb, Nat.le_of_lt (small1000 hl), fun e => ?_, fun _ e => ?_, fun _ _ p hp => ?_⟩
  · exact q _ H (Same.refl H) ⟨b, rfl, by rw [e]; exact hb⟩
  · exact q _ H (Same.refl H) ⟨a, rfl, by rw [e, List.append_nil]; exact ha⟩
  · exact q _ _ (same_new hp _) ⟨p, rfl, upd_same⟩
theorem TupAt.mono {H H' : Hp} {v : V} {xs : List V} (h : TupAt H v xs) (s : Same H H') : TupAt H' v xs := by
  obtain ⟨a, e, h⟩ := h
  exact ⟨a, e, s _ _ h⟩
/-- r[:i] + r[i + 1:], by values -/
theorem del_at {a : Addr} {r : Row} {σ : L2.St} {i j l : Nat} {Q : VK} (hj : σ[j]? = some (some (.ref a))) (hl : σ[l]? = some (some (.int (i : Int)))) (ha : H a = some (.tup (r.map V.bl))) (hz : r.length ≤ 100) (q : ∀ z H', Same H H' → RowAt H' z (del r i) → Q z H') :
    tOp (rCatA K) (tSl (rSlA K) (tVar j) tNoPart (tPart (tVar l))) (tSl (rSlA K) (tVar j) (tPart (tOp (rI0 fun i j => .int (i + j)) (tVar l) (tC (.int 1)))) tNoPart) σ H Q := by
  refine ⟨_, hj, _, hl, _, rfl, sl_take ha fun u H1 s1 h1 => ?_⟩
  refine ⟨_, hj, _, hl, _, _, rfl, rfl, ((i + 1 : Nat) : Int), rfl, ?_⟩
  refine sl_dropN (i := i + 1) (s1 _ _ ha) fun v H2 s2 h2 => ?_
  refine cat_at (h1.mono s2) h2 ?_ fun z H3 s3 h3 => ?_
  · rw [List.length_take, List.length_drop, List.length_map]
    omega
  · refine q z H3 ((s1.trans s2).trans s3) ?_
    obtain ⟨c, e, hc⟩ := h3
    refine ⟨c, e, ?_⟩
    rw [hc]
    unfold del
    rw [List.map_append, List.map_take, List.map_drop]
theorem turn_at {a : Addr} {r : Row} {σ : L2.St} {i j l : Nat} {Q : VK} (hj : σ[j]? = some (some (.ref a))) (hl : σ[l]? = some (some (.int (i : Int)))) (ha : H a = some (.tup (r.map V.bl))) (hi : i < r.length) (hz : r.length ≤ 100) (q : ∀ z H', Same H H' → RowAt H' z (turn r i) → Q z H') :
    tOp (rCatA K) (tOp (rCatA K) (tSl (rSlA K) (tVar j) tNoPart (tPart (tVar l))) (tTup (tCons (tNotV (tOp (rIxT K) (tVar j) (tVar l))) tNil))) (tSl (rSlA K) (tVar j) (tPart (tOp (rI0 fun i j => .int (i + j)) (tVar l) (tC (.int 1)))) tNoPart) σ H Q := by
  refine ⟨_, hj, _, hl, _, rfl, sl_take ha fun u H1 s1 h1 => ?_⟩
  refine ⟨_, hj, _, hl, a, _, _, _, rfl, rfl, SqT.of (s1 _ _ ha), atI_nat (getD_of hi), _, rfl, by show 1 ≤ sizeLine; decide, fun p hp => ?_⟩
  have s2 := same_new hp (.tup [V.bl (!r.getD i false)])
  refine cat_at (h1.mono s2) ⟨p, rfl, upd_same⟩ ?_ fun z1 H3 s3 h3 => ?_
  · rw [List.length_take, List.length_map, List.length_singleton]
    omega
  have s13 := (s1.trans s2).trans s3
  refine ⟨_, hj, _, hl, _, _, rfl, rfl, ((i + 1 : Nat) : Int), rfl, ?_⟩
  refine sl_dropN (i := i + 1) (s13 _ _ ha) fun v H4 s4 h4 => ?_
  refine cat_at (h3.mono s4) h4 ?_ fun z H5 s5 h5 => ?_
  · rw [List.length_append, List.length_take, List.length_drop, List.length_map, List.length_singleton]
    omega
  · refine q z H5 ((s13.trans s4).trans s5) ?_
    obtain ⟨c, e, hc⟩ := h5
    refine ⟨c, e, ?_⟩
    rw [hc]
    unfold turn
    rw [List.map_append, List.map_append, List.map_take, List.map_drop]
    rfl
end
end Ea

set_option maxHeartbeats 4000000
namespace Ea
open PySem PySem.Spec PyProof.Rows L2
theorem filter_no {α : Type} {f : α → Bool} {x : α} (h : f x = false) : [x].filter f = [] := by
  rw [List.filter_cons, h]
  rfl
theorem filter_yes {α : Type} {f : α → Bool} {x : α} (h : f x = true) : [x].filter f = [x] := by
  rw [List.filter_cons, h]
  rfl
/-! ### promises -/
def spLookWish (P : Program) (w : World) (C : Addr) : Sp := fun vs H Q _ => ∃ (x : Addr) (k : Kase) (i : Nat), vs = [.ref x, .int i] ∧ CaseAt P w C H x k ∧ i < k.many ∧ Q .non H
def spTurned : Sp := fun vs H Q _ => ∃ (v : V) (r : Row) (i : Nat), vs = [v, .int i] ∧ RowAt H v r ∧ i < r.length ∧ r.length ≤ 100 ∧ ∀ u H', Same H H' → RowAt H' u (turn r i) → Q u H'
def spTwins (P : Program) (w : World) (C : Addr) : Sp := fun vs H Q _ => ∃ (x : Addr) (k : Kase) (i : Nat), vs = [.ref x, .int i] ∧ CaseAt P w C H x k ∧ i < k.many ∧
  ∀ (l : Addr) (ys : List V) (H' : Hp), Same H H' → H l = none → H' l = some (.lst ys) → Paired (PairAt H') ys (twinsM k i) → Q (.ref l) H'
def spPairs (P : Program) (w : World) (C : Addr) : Sp := fun vs H Q _ => ∃ (x : Addr) (k : Kase) (i : Nat), vs = [.ref x, .int i] ∧ CaseAt P w C H x k ∧ i < k.many ∧
  ∀ (l : Addr) (ys : List V) (H' : Hp), Same H H' → H l = none → H' l = some (.lst ys) → Paired (PairAt H') ys (pairsM k i) → Q (.ref l) H'
def spTable (P : Program) (w : World) (C : Addr) : Sp := fun vs H Q _ => ∃ (x : Addr) (k : Kase) (i : Nat), vs = [.ref x, .int i] ∧ CaseAt P w C H x k ∧ i < k.many ∧
  ∀ (l : Addr) (ys : List V) (H' : Hp), Same H H' → H l = none → H' l = some (.lst ys) → Paired (LineAt H') ys (tableM k i) → Q (.ref l) H'
/-- what alone tells -/
inductive Told (H0 H : Hp) (k : Kase) (i : Nat) : V → Prop where
  | pair (t : Addr) (x y : V) (p : Row × Row) (hp : (pairsM k i).head? = some p) (ht : H t = some (.tup [.str "pair", x, y])) (hx : RowAt H x p.1) (hy : RowAt H y p.2) : Told H0 H k i (.ref t)
  | table (t l : Addr) (ys : List V) (hp : pairsM k i = []) (ht : H t = some (.tup [.str "table", .ref l])) (h0 : H0 l = none) (hl : H l = some (.lst ys)) (hy : Paired (LineAt H) ys (tableM k i)) : Told H0 H k i (.ref t)
def spAlone (P : Program) (w : World) (C : Addr) : Sp := fun vs H Q _ => ∃ (x : Addr) (k : Kase) (i : Nat), vs = [.ref x, .int i] ∧ CaseAt P w C H x k ∧ i < k.many ∧ ∀ v H', Same H H' → Told H H' k i v → Q v H'
def spLetsPair (P : Program) (w : World) (C : Addr) : Sp := fun vs H Q _ => ∃ (x : Addr) (k : Kase) (i : Nat) (u v : V) (p : Row × Row), vs = [.ref x, .int i, u, v] ∧ CaseAt P w C H x k ∧ i < k.many ∧ RowAt H u p.1 ∧ RowAt H v p.2 ∧ p.1.length = k.many ∧ p.2.length = k.many ∧
  ∀ H', Same H H' → Q (.bl (decide (p ∈ pairsM k i))) H'
def spIsLine : Sp := fun vs H Q _ => ∃ (v : V) (q : Row × Bool) (m : Int), vs = [v, .int m] ∧ LineAt H v q ∧ (q.1.length : Int) = m ∧ q.1.length ≤ 100 ∧ ∀ H', Same H H' → Q (.bl true) H'
/-- a pair of rows, or the table: what lets_alone is asked here -/
def spLets (P : Program) (w : World) (C : Addr) : Sp := fun vs H Q _ => ∃ (x t : Addr) (k : Kase) (i : Nat), vs = [.ref x, .int i, .ref t] ∧ CaseAt P w C H x k ∧ i < k.many ∧
  ((∃ (u v : V) (p : Row × Row), H t = some (.tup [.str "pair", u, v]) ∧ RowAt H u p.1 ∧ RowAt H v p.2 ∧ p.1.length = k.many ∧ p.2.length = k.many ∧ ∀ H', Same H H' → Q (.bl (decide (p ∈ pairsM k i))) H') ∨
   ∃ (l : Addr) (ys : List V), H t = some (.tup [.str "table", .ref l]) ∧ H l = some (.lst ys) ∧ Paired (LineAt H) ys (tableM k i) ∧ ∀ H', Same H H' → Q (.bl (decide (pairsM k i = []))) H')
section
variable {P : Program} {w : World} {K : PySem.W.Frag} {mg : Str → Option Value} {base : Heap} {C : Addr}
theorem sc_look_at_wish : FnScope ["case", "wish"] ["case", "wish"] (defScope s_look_at_wish) := ⟨rfl, rfl, rfl, by decide +kernel, rfl, by decide +kernel, by decide +kernel⟩
theorem ok_look_at_wish (D : Def K mg "look_at_wish" "look_at_wish" s_look_at_wish []) (G_is_within : Cal P w K mg base 2 "is_within" spWithin) (M_many : Met P w K mg base 1 C "many" (spMany P w C)) : Cal P w K mg base 3 "look_at_wish" (spLookWish P w C) := by
  refine D.cal sc_look_at_wish (fun _ _ _ _ _ _ us hl => match us, hl with | [_, _], _ => rfl) (fun vs H Q E h => ?_) (fun f0 cdv A outer s H vs Q E hr h => ?_)
  · obtain ⟨x, k, i, rfl, _⟩ := h
    rfl
  obtain ⟨x, k, i, rfl, c, hi, q⟩ := h
  obtain ⟨ok, dx, d, v, es, h1, h2, h3, h4⟩ := id c
  refine ⟨_, (pss_one (ps_if (pt_not (pt_val (pe_c G_is_within hr (by omega) rfl (pa_cons (pv 1) (pa_cons pe_int (pa_cons (pe_op op_sub (pe_mt0 M_many hr (by omega) (pv 0)) pe_int) pa_nil)))))) (pss_one ps_never) pss_nil)), ?_⟩
  refine ⟨_, rfl, _, rfl, x, dx, _, rfl, h1, cf_no _ _ _ (by decide +kernel) (by decide +kernel) (by decide +kernel), x, k, rfl, c, _, _, rfl, rfl, _, _, _, rfl, _, rfl, ?_⟩
  exact iteK (by rw [decide_eq_true (show (0 : Int) ≤ (i : Int) ∧ (i : Int) ≤ (k.many : Int) - 1 by omega)]; rfl) q
theorem sc_turned_about : FnScope ["row", "wish"] ["row", "wish"] (defScope s_turned_about) := ⟨rfl, rfl, rfl, by decide +kernel, rfl, by decide +kernel, by decide +kernel⟩
theorem ok_turned_about (D : Def K mg "turned_about" "turned_about" s_turned_about []) : Cal P w K mg base 1 "turned_about" spTurned := by
  refine D.cal sc_turned_about (fun _ _ _ _ _ _ us hl => match us, hl with | [_, _], _ => rfl) (fun vs H Q E h => ?_) (fun f0 cdv A outer s H vs Q E hr h => ?_)
  · obtain ⟨v, r, i, rfl, _⟩ := h
    rfl
  obtain ⟨v, r, i, rfl, ⟨a, rfl, ha⟩, hi, hz, q⟩ := h
  refine ⟨_, (pss_one (ps_ret (pe_op (kCat K rfl) (pe_op (kCat K rfl) (pe_slice (kSlT K rfl) (pv 0) po_none (po_some (pv 1))) (pe_tup (pa_cons (pe_not (pe_ix (kIxT K rfl) (pv 0) (pv 1) (fun _ _ => rfl))) pa_nil))) (pe_slice (kSlT K rfl) (pv 0) (po_some (pe_op op_add (pv 1) pe_int)) po_none)))), ?_⟩
  exact turn_at rfl rfl ha hi hz q
theorem sc_twins : FnScope ["case", "wish", "found", "row", "other"] ["case", "wish"] (defScope s_twins) := ⟨rfl, rfl, rfl, by decide +kernel, rfl, by decide +kernel, by decide +kernel⟩
theorem ok_twins (T0 : Txt mg) (D : Def K mg "twins" "twins" s_twins []) (G_turned_about : Cal P w K mg base 1 "turned_about" spTurned) (M_rows : Met P w K mg base 1 C "rows" (spRows P w C)) (M_can_be : Met P w K mg base 3 C "can_be" (spCanBe P w C)) : Cal P w K mg base 4 "twins" (spTwins P w C) := by
  refine D.cal sc_twins (fun _ _ _ _ _ _ us hl => match us, hl with | [_, _], _ => rfl) (fun vs H Q E h => ?_) (fun f0 cdv A outer s H vs Q E hr h => ?_)
  · obtain ⟨x, k, i, rfl, _⟩ := h
    rfl
  obtain ⟨x, k, i, rfl, c, hi, q⟩ := h
  obtain ⟨ok, dx, d, v, es, h1, h2, h3, h4⟩ := id c
  have m5 := ok.m5
  refine ⟨_, (pss_cons (ps_set (i := 2) sc_twins.nd rfl (Or.inl rfl) (pe_lst pa_nil))
      (pss_cons (ps_for PassesOwn.never rfl (kiList K rfl (pe_mt0 M_rows hr (by omega) (pv 0))) (pg_name (i := 3) sc_twins.nd rfl (Or.inl rfl))
      (pss_cons (ps_set (i := 4) sc_twins.nd rfl (Or.inl rfl) (pe_c G_turned_about hr (by omega) rfl (pa_cons (pv 3) (pa_cons (pv 1) pa_nil))))
      (pss_one (ps_if (PW.pt (pw_and (pt_not (pt_val (pe_ix (kIxT K rfl) (pv 3) (pv 1) (fun _ _ => rfl)))) (pw_and1 (pt_val (pe_mt M_can_be hr (by omega) (pv 0) (pa_cons (pv 4) pa_nil)))))) (pss_one (ps_expr (pe_bm PySem.F.plainAttrs_list PySem.F.slot_list_append PySem.F.type_list_append mt_append (pv 2) (pa_cons (pe_tup (pa_cons (pv 3) (pa_cons (pv 4) pa_nil))) pa_nil)))) pss_nil))))
      (pss_one (ps_ret (pv 2))))), ?_⟩
  refine ⟨Nat.zero_le _, fun l hl => ?_⟩
  have s0 := same_new hl (.lst [])
  refine ⟨_, rfl, x, dx, _, rfl, s0 _ _ h1, cf_no _ _ _ (by decide +kernel) (by decide +kernel) (by decide +kernel), x, k, rfl, c.mono s0, fun p ys H1 s1 hp0 hp hys => ?_⟩
  have s01 := s0.trans s1
  refine ⟨p, rfl, ⟨_, SqL.of hp⟩, ?_⟩
  have hlen := Paired.length hys
  have few : (srt k.rs).length ≤ 32 := by rw [(srt_perm k.rs).length_eq]; exact ok.few
  refine for_list (K := K) (a := p) (xs := ys) (fun n σ H' => ∃ (v1 v2 : Option V) (zs : List V), σ = [some (.ref x), some (.int i), some (.ref l), v1, v2] ∧ Same H H' ∧ H' p = some (.lst ys) ∧ TSame H1 H' ∧ H' l = some (.lst zs) ∧
      Paired (PairAt H') zs ((((srt k.rs).take n).filter fun r => !r.getD i false && decide (turn r i ∈ k.rs)).map fun r => (r, turn r i)))
    ⟨none, none, [], rfl, s01, hp, fun _ _ e => e, s1 _ _ upd_same, .nil⟩ (fun n σ H' _ ⟨_, _, _, _, _, h, _⟩ => SqL.of h) ?_ ?_
  · rintro n y σ H' hy ⟨v1, v2, zs, rfl, s2, hp2, t2, hz2, hpz⟩
    obtain ⟨r, hr2, hyr⟩ := paired_get hys hy
    have hrm : r ∈ k.rs := srt_mem.mp (List.mem_of_getElem? hr2)
    have hrl := ok.len r hrm
    have hn := lt_of_get hr2
    have hzl : zs.length ≤ 32 := by
      have z := Paired.length hpz
      have z2 := List.length_filter_le (fun r => !r.getD i false && decide (turn r i ∈ k.rs)) ((srt k.rs).take n)
      rw [List.length_map] at z
      rw [List.length_take] at z2
      omega
    have hyr2 := hyr.monoT t2
    refine ⟨_, rfl, _, rfl, y, r, i, rfl, hyr2, by omega, by omega, fun u H3 s3 hu => ?_⟩
    have hyr3 := hyr2.mono s3
    obtain ⟨b, rfl, hb⟩ := id hyr3
    refine ⟨_, rfl, _, rfl, b, _, _, _, rfl, rfl, SqT.of hb, atI_nat (getD_of (by omega)), _, rfl, ?_⟩
    rw [take_succ_get hr2, List.filter_append, List.map_append]
    cases hb0 : r.getD i false with
    | true =>
      refine iteF (iteF ?_)
      refine ⟨_, _, zs, rfl, s2.trans s3, s3 _ _ hp2, t2.trans (Same.t s3), s3 _ _ hz2, ?_⟩
      have e : ([r].filter fun r => !r.getD i false && decide (turn r i ∈ k.rs)) = [] := filter_no (by rw [hb0]; rfl)
      rw [e, List.map_nil, List.append_nil]
      exact Paired.mapP hpz fun _ _ z => z.mono s3
    | false =>
      refine iteT ?_
      refine ⟨_, rfl, x, dx, _, rfl, s3 _ _ (s2 _ _ h1), cf_no _ _ _ (by decide +kernel) (by decide +kernel) (by decide +kernel), _, rfl, x, k, u, turn r i, rfl, c.mono (s2.trans s3), hu, by rw [turn_length (by omega), hrl], fun H4 s4 => ⟨_, rfl, ?_⟩⟩
      have s34 := s3.trans s4
      by_cases hm : turn r i ∈ k.rs
      · refine iteY (decide_eq_true hm) ?_
        refine ⟨_, rfl, .inl ⟨rfl, _, SqL.of (s34 _ _ hz2)⟩, ?_⟩
        refine ⟨_, rfl, _, rfl, by show 2 ≤ sizeLine; decide, fun t ht => ?_⟩
        have s5 := same_new ht (.tup [.ref b, u])
        have nlt : l ≠ t := ne_of_none (s34 _ _ hz2) ht
        refine ⟨l, zs, .ref t, rfl, rfl, s5 _ _ (s34 _ _ hz2), small1000 (by omega), ?_⟩
        have s2345 := (s2.trans s34).trans s5
        have tl : ∀ ts, upd H4 t (.tup [.ref b, u]) l ≠ some (.tup ts) := fun ts e => by
          rw [s5 _ _ (s34 _ _ hz2)] at e
          exact nomatch e
        have npl : p ≠ l := (ne_of_none upd_same hp0).symm
        refine ⟨_, _, zs ++ [.ref t], rfl, same_upd s2345 hl _, ?_, TSame.put ((t2.trans (Same.t s34)).trans (Same.t s5)) tl _, upd_same, ?_⟩
        · rw [upd_ne npl]
          exact s5 _ _ (s34 _ _ hp2)
        · have e : ([r].filter fun r => !r.getD i false && decide (turn r i ∈ k.rs)) = [r] := filter_yes (by rw [hb0, decide_eq_true hm]; rfl)
          rw [e]
          have tt : TSame H' (upd (upd H4 t (.tup [.ref b, u])) l (.lst (zs ++ [.ref t]))) := TSame.put ((Same.t s34).trans (Same.t s5)) tl _
          refine paired_snoc (Paired.mapP hpz fun _ _ z => z.monoT tt) ⟨t, .ref b, u, rfl, ?_, ?_, ?_⟩
          · rw [upd_ne nlt.symm, upd_same]
          · exact hyr2.monoT tt
          · exact hu.monoT (TSame.put ((Same.t s4).trans (Same.t s5)) tl _)
      · refine iteK (decide_eq_false hm) ?_
        refine ⟨_, _, zs, rfl, s2.trans s34, s34 _ _ hp2, t2.trans (Same.t s34), s34 _ _ hz2, ?_⟩
        have e : ([r].filter fun r => !r.getD i false && decide (turn r i ∈ k.rs)) = [] := filter_no (by rw [decide_eq_false hm, Bool.and_false])
        rw [e, List.map_nil, List.append_nil]
        exact Paired.mapP hpz fun _ _ z => z.mono s34
  · rintro σ H' ⟨v1, v2, zs, rfl, s2, hp2, t2, hz2, hpz⟩
    refine ⟨_, rfl, q l zs H' s2 hl hz2 ?_⟩
    rw [hlen, List.take_length] at hpz
    exact hpz
end
end Ea

set_option maxHeartbeats 4000000
namespace Ea
open PySem PySem.Spec PyProof.Rows L2
theorem bne_bl (a b : Bool) : (!decide (V.bl a = V.bl b)) = (a != b) := by cases a <;> cases b <;> rfl
theorem few_filter {α : Type} (f : α → Bool) (l : List α) (n m : Nat) (h : l.length ≤ m) : ((l.take n).filter f).length ≤ m := by
  have z2 := List.length_filter_le f (l.take n)
  rw [List.length_take] at z2
  omega
section
variable {P : Program} {w : World} {K : PySem.W.Frag} {mg : Str → Option Value} {base : Heap} {C : Addr}
theorem sc_pairs : FnScope ["case", "wish", "one", "other"] ["case", "wish"] (defScope s_pairs) := ⟨rfl, rfl, rfl, by decide +kernel, rfl, by decide +kernel, by decide +kernel⟩
theorem ok_pairs (D : Def K mg "pairs" "pairs" s_pairs []) (G_look_at_wish : Cal P w K mg base 3 "look_at_wish" (spLookWish P w C)) (G_twins : Cal P w K mg base 4 "twins" (spTwins P w C)) (M_answer : Met P w K mg base 30 C "answer" (spAnswer P w C)) : Cal P w K mg base 31 "pairs" (spPairs P w C) := by
  refine D.cal sc_pairs (fun _ _ _ _ _ _ us hl => match us, hl with | [_, _], _ => rfl) (fun vs H Q E h => ?_) (fun f0 cdv A outer s H vs Q E hr h => ?_)
  · obtain ⟨x, k, i, rfl, _⟩ := h
    rfl
  obtain ⟨x, k, i, rfl, c, hi, q⟩ := h
  obtain ⟨ok, dx, d, v, es, h1, h2, h3, h4⟩ := id c
  have m5 := ok.m5
  refine ⟨_, (pss_cons (ps_expr (pe_c G_look_at_wish hr (by omega) rfl (pa_cons (pv 0) (pa_cons (pv 1) pa_nil))))
      (pss_one (ps_ret (pe_lc (own := [("one", 2), ("other", 3)]) (g := gTup K 2 (gCons (gName 2) (gCons (gName 3) gNil))) rfl sc_pairs.nd (kiList K rfl (pe_c G_twins hr (by omega) rfl (pa_cons (pv 0) (pa_cons (pv 1) pa_nil)))) (blkOk_by (own := [("one", 2), ("other", 3)]) (N := ["case", "wish", "one", "other"]) (sc := defScope s_pairs) (by decide +kernel)) (fun _ _ _ _ _ => kTupG K rfl rfl (pgs_cons (pg_name (i := 2) sc_pairs.nd rfl (Or.inl rfl)) (pgs_cons (pg_name (i := 3) sc_pairs.nd rfl (Or.inl rfl)) pgs_nil))) (fun _ _ _ _ _ => pts_one (pt_cmpR op_ne (pe_mt M_answer hr (by omega) (pv 0) (pa_cons (pv 2) pa_nil)) (pe_mt M_answer hr (by omega) (pv 0) (pa_cons (pv 3) pa_nil)) (nomark _))) (fun _ _ _ _ _ => (pe_tup (pa_cons (pv 2) (pa_cons (pv 3) pa_nil)))))))), ?_⟩
  refine ⟨_, rfl, _, rfl, x, k, i, rfl, c, hi, ?_⟩
  refine ⟨_, rfl, _, rfl, x, k, i, rfl, c, hi, fun l ys H1 s1 hl0 hl hys => ⟨l, rfl, ⟨_, SqL.of hl⟩, fun L hL => ?_⟩⟩
  have L0 : H L = none := s1.free hL
  have few := Nat.le_trans (twins_len k i) ok.few
  refine lc_list (K := K) (a := l) (xs := ys) (fun n H' => Same H1 H' ∧ ∃ zs, H' L = some (.lst zs) ∧ Paired (PairAt H') zs (((twinsM k i).take n).filter fun p => k.f p.1 != k.f p.2))
    ⟨same_new hL _, [], upd_same, .nil⟩ (fun n H' _ z => SqL.of (z.1 _ _ hl)) ?_ ?_
  · rintro n y H' hy ⟨s2, zs, hz, hpz⟩
    obtain ⟨p, hp, a, u, v', rfl, ha, hu, hv⟩ := paired_get hys hy
    have hpm : p ∈ twinsM k i := List.mem_of_getElem? hp
    obtain ⟨p1, p2, p3, p4⟩ := twins_mem hpm
    have hl1 := ok.len _ p1
    have hl2 := ok.len _ p4
    have hzl : zs.length ≤ 32 := by
      rw [Paired.length hpz]
      exact few_filter _ _ _ _ few
    have s12 := s1.trans s2
    refine ⟨a, _, rfl, SqT.of (s2 _ _ ha), rfl, _, _, rfl, _, _, rfl, rfl, rfl, ?_⟩
    refine ⟨_, rfl, x, dx, _, rfl, s12 _ _ h1, cf_no _ _ _ (by decide +kernel) (by decide +kernel) (by decide +kernel), _, rfl, x, k, u, p.1, rfl, c.mono s12, hu.mono s2, hl1, fun H3 s3 => ?_⟩
    have s23 := s2.trans s3
    have s13 := s12.trans s3
    refine ⟨_, rfl, x, dx, _, rfl, s13 _ _ h1, cf_no _ _ _ (by decide +kernel) (by decide +kernel) (by decide +kernel), _, rfl, x, k, v', p.2, rfl, c.mono s13, hv.mono s23, hl2, fun H4 s4 => ?_⟩
    have s24 := s23.trans s4
    have s34 := s3.trans s4
    refine ⟨rfl, _, rfl, ?_⟩
    rw [bne_bl, take_succ_get hp, List.filter_append]
    cases hb : (k.f p.1 != k.f p.2) with
    | false =>
      refine iteF ⟨s24, zs, s34 _ _ hz, ?_⟩
      rw [filter_no (f := fun p : Row × Row => k.f p.1 != k.f p.2) (x := p) hb, List.append_nil]
      exact Paired.mapP hpz fun _ _ z => z.mono s34
    | true =>
      refine iteT ?_
      refine ⟨_, rfl, _, rfl, by show 2 ≤ sizeLine; decide, fun t ht => ?_⟩
      have s5 := same_new ht (.tup [u, v'])
      have hz5 := s5 _ _ (s34 _ _ hz)
      have tl : ∀ ts, upd H4 t (.tup [u, v']) L ≠ some (.tup ts) := fun ts e => by
        rw [hz5] at e
        exact nomatch e
      have ntL : t ≠ L := (ne_of_none (s34 _ _ hz) ht).symm
      have tt : TSame H' (upd (upd H4 t (.tup [u, v'])) L (.lst (zs ++ [.ref t]))) := TSame.put ((Same.t s34).trans (Same.t s5)) tl _
      refine ⟨zs, hz5, small1000 (by omega), same_upd (s24.trans s5) hL _, _, upd_same, ?_⟩
      rw [filter_yes (f := fun p : Row × Row => k.f p.1 != k.f p.2) (x := p) hb]
      refine paired_snoc (Paired.mapP hpz fun _ _ z => z.monoT tt) ⟨t, u, v', rfl, ?_, ?_, ?_⟩
      · rw [upd_ne ntL, upd_same]
      · exact (hu.mono s2).monoT tt
      · exact (hv.mono s2).monoT tt
  · rintro H' ⟨s2, zs, hz, hpz⟩
    refine q L zs H' (s1.trans s2) L0 hz ?_
    rw [Paired.length hys, List.take_length] at hpz
    exact hpz
theorem sc_table_of : FnScope ["case", "wish", "one", "other"] ["case", "wish"] (defScope s_table_of) := ⟨rfl, rfl, rfl, by decide +kernel, rfl, by decide +kernel, by decide +kernel⟩
theorem ok_table_of (D : Def K mg "table_of" "table_of" s_table_of []) (G_twins : Cal P w K mg base 4 "twins" (spTwins P w C)) (M_answer : Met P w K mg base 30 C "answer" (spAnswer P w C)) : Cal P w K mg base 31 "table_of" (spTable P w C) := by
  refine D.cal sc_table_of (fun _ _ _ _ _ _ us hl => match us, hl with | [_, _], _ => rfl) (fun vs H Q E h => ?_) (fun f0 cdv A outer s H vs Q E hr h => ?_)
  · obtain ⟨x, k, i, rfl, _⟩ := h
    rfl
  obtain ⟨x, k, i, rfl, c, hi, q⟩ := h
  obtain ⟨ok, dx, d, v, es, h1, h2, h3, h4⟩ := id c
  have m5 := ok.m5
  refine ⟨_, (pss_one (ps_ret (pe_lc (own := [("one", 2), ("other", 3)]) (g := gTup K 2 (gCons (gName 2) (gCons (gName 3) gNil))) (tt := tYes) rfl sc_table_of.nd (kiList K rfl (pe_c G_twins hr (by omega) rfl (pa_cons (pv 0) (pa_cons (pv 1) pa_nil)))) (blkOk_by (own := [("one", 2), ("other", 3)]) (N := ["case", "wish", "one", "other"]) (sc := defScope s_table_of) (by decide +kernel)) (fun _ _ _ _ _ => kTupG K rfl rfl (pgs_cons (pg_name (i := 2) sc_table_of.nd rfl (Or.inl rfl)) (pgs_cons (pg_name (i := 3) sc_table_of.nd rfl (Or.inl rfl)) pgs_nil))) (fun _ _ _ _ _ => pts_nil) (fun _ _ _ _ _ => (pe_tup (pa_cons (pe_op (kCat K rfl) (pe_slice (kSlT K rfl) (pv 2) po_none (po_some (pv 1))) (pe_slice (kSlT K rfl) (pv 2) (po_some (pe_op op_add (pv 1) pe_int)) po_none)) (pa_cons (pe_mt M_answer hr (by omega) (pv 0) (pa_cons (pv 2) pa_nil)) pa_nil))))))), ?_⟩
  refine ⟨_, rfl, _, rfl, x, k, i, rfl, c, hi, fun l ys H1 s1 hl0 hl hys => ⟨l, rfl, ⟨_, SqL.of hl⟩, fun L hL => ?_⟩⟩
  have L0 : H L = none := s1.free hL
  have few := Nat.le_trans (twins_len k i) ok.few
  refine lc_list (K := K) (a := l) (xs := ys) (fun n H' => Same H1 H' ∧ ∃ zs, H' L = some (.lst zs) ∧ Paired (LineAt H') zs (((twinsM k i).take n).map fun p => (del p.1 i, k.f p.1)))
    ⟨same_new hL _, [], upd_same, .nil⟩ (fun n H' _ z => SqL.of (z.1 _ _ hl)) ?_ ?_
  · rintro n y H' hy ⟨s2, zs, hz, hpz⟩
    obtain ⟨p, hp, a, u, v', rfl, ha, hu, hv⟩ := paired_get hys hy
    have hpm : p ∈ twinsM k i := List.mem_of_getElem? hp
    obtain ⟨p1, p2, p3, p4⟩ := twins_mem hpm
    have hl1 := ok.len _ p1
    have hzl : zs.length ≤ 32 := by
      rw [Paired.length hpz, List.length_map, List.length_take]
      omega
    have s12 := s1.trans s2
    obtain ⟨b, rfl, hb⟩ := hu.mono s2
    refine ⟨a, _, rfl, SqT.of (s2 _ _ ha), rfl, _, _, rfl, _, _, rfl, rfl, rfl, ?_⟩
    refine del_at (i := i) rfl rfl hb (by omega) fun z H3 s3 hz3 => ?_
    have s13 := s12.trans s3
    refine ⟨_, rfl, x, dx, _, rfl, s13 _ _ h1, cf_no _ _ _ (by decide +kernel) (by decide +kernel) (by decide +kernel), _, rfl, x, k, .ref b, p.1, rfl, c.mono s13, ⟨b, rfl, s3 _ _ hb⟩, hl1, fun H4 s4 => ?_⟩
    refine ⟨by show 2 ≤ sizeLine; decide, fun t ht => ?_⟩
    have s5 := same_new ht (.tup [z, .bl (k.f p.1)])
    have s34 := s3.trans s4
    have hz5 := s5 _ _ (s34 _ _ hz)
    have tl : ∀ ts, upd H4 t (.tup [z, .bl (k.f p.1)]) L ≠ some (.tup ts) := fun ts e => by
      rw [hz5] at e
      exact nomatch e
    have ntL : t ≠ L := (ne_of_none (s34 _ _ hz) ht).symm
    have tt : TSame H' (upd (upd H4 t (.tup [z, .bl (k.f p.1)])) L (.lst (zs ++ [.ref t]))) := TSame.put ((Same.t s34).trans (Same.t s5)) tl _
    refine ⟨zs, hz5, small1000 (by omega), same_upd ((s2.trans s34).trans s5) hL _, _, upd_same, ?_⟩
    rw [take_succ_get hp, List.map_append]
    refine paired_snoc (Paired.mapP hpz fun _ _ z => z.monoT tt) ⟨t, z, rfl, ?_, ?_⟩
    · rw [upd_ne ntL, upd_same]
    · exact hz3.monoT (TSame.put ((Same.t s4).trans (Same.t s5)) tl _)
  · rintro H' ⟨s2, zs, hz, hpz⟩
    refine q L zs H' (s1.trans s2) L0 hz ?_
    rw [Paired.length hys, List.take_length] at hpz
    exact hpz
theorem sc_alone : FnScope ["case", "wish", "some"] ["case", "wish"] (defScope s_alone) := ⟨rfl, rfl, rfl, by decide +kernel, rfl, by decide +kernel, by decide +kernel⟩
theorem ok_alone (D : Def K mg "alone" "alone" s_alone []) (G_pairs : Cal P w K mg base 31 "pairs" (spPairs P w C)) (G_table_of : Cal P w K mg base 31 "table_of" (spTable P w C)) : Cal P w K mg base 32 "alone" (spAlone P w C) := by
  refine D.cal sc_alone (fun _ _ _ _ _ _ us hl => match us, hl with | [_, _], _ => rfl) (fun vs H Q E h => ?_) (fun f0 cdv A outer s H vs Q E hr h => ?_)
  · obtain ⟨x, k, i, rfl, _⟩ := h
    rfl
  obtain ⟨x, k, i, rfl, c, hi, q⟩ := h
  refine ⟨_, (pss_cons (ps_set (i := 2) sc_alone.nd rfl (Or.inl rfl) (pe_c G_pairs hr (by omega) rfl (pa_cons (pv 0) (pa_cons (pv 1) pa_nil))))
      (pss_cons (ps_if (pt_cmpR (kNeL K rfl (u8 hr)) (pv 2) (pe_lst pa_nil) (nomark _)) (pss_one (ps_ret (pe_tup (pa_cons pe_str (pa_cons (pe_ix (kIxT K rfl) (pe_ix (kIxL K rfl) (pv 2) pe_int (fun _ _ => rfl)) pe_int (fun _ _ => rfl)) (pa_cons (pe_ix (kIxT K rfl) (pe_ix (kIxL K rfl) (pv 2) pe_int (fun _ _ => rfl)) pe_int (fun _ _ => rfl)) pa_nil)))))) pss_nil)
      (pss_one (ps_ret (pe_tup (pa_cons pe_str (pa_cons (pe_c G_table_of hr (by omega) rfl (pa_cons (pv 0) (pa_cons (pv 1) pa_nil))) pa_nil))))))), ?_⟩
  refine ⟨_, rfl, _, rfl, x, k, i, rfl, c, hi, fun l ys H1 s1 hl0 hl hys => ?_⟩
  refine ⟨_, rfl, Nat.zero_le _, fun t0 ht0 => ?_⟩
  have s2 := same_new ht0 (.lst [])
  have s12 := s1.trans s2
  refine ⟨l, t0, ys, rfl, rfl, SqL.of (s2 _ _ hl), SqL.of upd_same, _, rfl, ?_⟩
  cases ys with
  | nil =>
    refine iteF ?_
    have hp : pairsM k i = [] := by
      cases e : pairsM k i with
      | nil => rfl
      | cons p r => rw [e] at hys; cases hys
    refine ⟨_, rfl, _, rfl, x, k, i, rfl, c.mono s12, hi, fun l2 ys2 H3 s3 hl20 hl2 hys2 => ?_⟩
    refine ⟨by show 2 ≤ sizeLine; decide, fun t ht => ?_⟩
    have s4 := same_new ht (.tup [.str "table", .ref l2])
    refine q _ _ ((s12.trans s3).trans s4) (.table t l2 ys2 hp upd_same (s12.free hl20) (s4 _ _ hl2) (Paired.mapP hys2 fun _ _ z => z.mono s4))
  | cons y ys =>
    refine iteT ?_
    cases e : pairsM k i with
    | nil => rw [e] at hys; cases hys
    | cons p r =>
      rw [e] at hys
      cases hys with
      | cons hy hr2 =>
        obtain ⟨a, u, v, rfl, ha, hu, hv⟩ := hy.mono s2
        refine ⟨_, rfl, l, _, _, _, rfl, rfl, SqL.of (s2 _ _ hl), atI_nat (j := 0) rfl, a, _, _, _, rfl, rfl, SqT.of ha, atI_nat (j := 0) rfl, ?_⟩
        refine ⟨_, rfl, l, _, _, _, rfl, rfl, SqL.of (s2 _ _ hl), atI_nat (j := 0) rfl, a, _, _, _, rfl, rfl, SqT.of ha, atI_nat (j := 1) rfl, ?_⟩
        refine ⟨by show 3 ≤ sizeLine; decide, fun t ht => ?_⟩
        have s4 := same_new ht (.tup [.str "pair", u, v])
        exact q _ _ (s12.trans s4) (.pair t u v p (by rw [e]; rfl) upd_same (hu.mono s4) (hv.mono s4))
end
end Ea

set_option maxHeartbeats 4000000
namespace Ea
open PySem PySem.Spec PyProof.Rows L2
theorem paired_mono {α : Type} {F : Hp → V → α → Prop} (m : ∀ H H' v a, F H v a → Same H H' → F H' v a) {H H' : Hp} {vs : List V} {as : List α} (p : Paired (F H) vs as) (s : Same H H') : Paired (F H') vs as := Paired.mapP p fun _ _ z => m _ _ _ _ z s
section
variable {P : Program} {w : World} {K : PySem.W.Frag} {mg : Str → Option Value} {base : Heap} {C : Addr}
theorem sc_lets_pair : FnScope ["case", "wish", "one", "other"] ["case", "wish", "one", "other"] (defScope s_lets_pair) := ⟨rfl, rfl, rfl, by decide +kernel, rfl, by decide +kernel, by decide +kernel⟩
theorem ok_lets_pair (D : Def K mg "lets_pair" "lets_pair" s_lets_pair []) (G_is_row : Cal P w K mg base 1 "is_row" spIsRow) (M_many : Met P w K mg base 1 C "many" (spMany P w C)) (G_pairs : Cal P w K mg base 31 "pairs" (spPairs P w C)) : Cal P w K mg base 32 "lets_pair" (spLetsPair P w C) := by
  refine D.cal sc_lets_pair (fun _ _ _ _ _ _ us hl => match us, hl with | [_, _, _, _], _ => rfl) (fun vs H Q E h => ?_) (fun f0 cdv A outer s H vs Q E hr h => ?_)
  · obtain ⟨x, k, i, u, v, p, rfl, _⟩ := h
    rfl
  obtain ⟨x, k, i, u, v, p, rfl, c, hi, hu, hv, l1, l2, q⟩ := h
  obtain ⟨ok, dx, d, v0, es, h1, h2, h3, h4⟩ := id c
  have m5 := ok.m5
  refine ⟨_, (pss_cons (ps_if (PW.pt (pw_or (pt_not (pt_val (pe_c G_is_row hr (by omega) rfl (pa_cons (pv 2) (pa_cons (pe_mt0 M_many hr (by omega) (pv 0)) pa_nil))))) (pw_or1 (pt_not (pt_val (pe_c G_is_row hr (by omega) rfl (pa_cons (pv 3) (pa_cons (pe_mt0 M_many hr (by omega) (pv 0)) pa_nil)))))))) (pss_one (ps_ret pe_bl)) pss_nil)
      (pss_one (ps_ret (pe_cmpR (kIn K rfl (u65 hr)) (pe_tup (pa_cons (pv 2) (pa_cons (pv 3) pa_nil))) (pe_c G_pairs hr (by omega) rfl (pa_cons (pv 0) (pa_cons (pv 1) pa_nil))) (by rfl))))), ?_⟩
  refine ⟨_, rfl, _, rfl, x, dx, _, rfl, h1, cf_no _ _ _ (by decide +kernel) (by decide +kernel) (by decide +kernel), x, k, rfl, c, u, p.1, _, rfl, hu, by omega, fun H1 s1 => ⟨_, rfl, ?_⟩⟩
  refine iteK (by rw [decide_eq_true (show (p.1.length : Int) = k.many by omega)]; rfl) ?_
  refine ⟨_, rfl, _, rfl, x, dx, _, rfl, s1 _ _ h1, cf_no _ _ _ (by decide +kernel) (by decide +kernel) (by decide +kernel), x, k, rfl, c.mono s1, v, p.2, _, rfl, hv.mono s1, by omega, fun H2 s2 => ⟨_, rfl, ?_⟩⟩
  refine iteK (by rw [decide_eq_true (show (p.2.length : Int) = k.many by omega)]; rfl) ?_
  have s12 := s1.trans s2
  refine ⟨_, rfl, _, rfl, by show 2 ≤ sizeLine; decide, fun t ht => ?_⟩
  have s3 := same_new ht (.tup [u, v])
  have s13 := s12.trans s3
  refine ⟨_, rfl, _, rfl, x, k, i, rfl, c.mono s13, hi, fun l ys H4 s4 hl0 hl hys => ?_⟩
  have s14 := s13.trans s4
  refine ⟨encP p, (pairsM k i).map encP, PairAt.dp (K := K) ⟨t, u, v, rfl, s4 _ _ upd_same, hu.mono s14, hv.mono s14⟩, .lst (SqL.of hl) (dpAll_of (fun _ _ z => z.dp) hys), encP_shaped p, list_shaped encP_lay (fun a => Nat.le_of_eq (encP_depth a)) (by decide) _, ?_⟩
  exact qbl ((any_eqv encP_eqv p _).trans (decide_eq_decide.mpr Iff.rfl)) (q _ s14)
theorem sc_is_line : FnScope ["thing", "many"] ["thing", "many"] (defScope s_is_line) := ⟨rfl, rfl, rfl, by decide +kernel, rfl, by decide +kernel, by decide +kernel⟩
theorem ok_is_line (T0 : Txt mg) (D : Def K mg "is_line" "is_line" s_is_line []) (G_is_row : Cal P w K mg base 1 "is_row" spIsRow) : Cal P w K mg base 2 "is_line" spIsLine := by
  refine D.cal sc_is_line (fun _ _ _ _ _ _ us hl => match us, hl with | [_, _], _ => rfl) (fun vs H Q E h => ?_) (fun f0 cdv A outer s H vs Q E hr h => ?_)
  · obtain ⟨v, qq, m, rfl, _⟩ := h
    rfl
  obtain ⟨v, qq, m, rfl, ⟨a, x, rfl, ha, hx⟩, hm, h100, q⟩ := h
  refine ⟨_, (pss_cons (ps_if (PW.pt (pw_or (pt_not (pt_val (pe_callB (kIsi K rfl) (by rfl) T0.isi (by decide +kernel) (pa_cons (pv 0) (pa_cons (pe_bltn (v := .ty "tuple") (by rfl) T0.tuple (by decide +kernel) rfl) pa_nil))))) (pw_or (pt_cmpR op_ne (pe_callB (kLen K rfl) (by rfl) T0.len (by decide +kernel) (pa_cons (pv 0) pa_nil)) pe_int (nomark _)) (pw_or1 (pt_not (pt_val (pe_c G_is_row hr (by omega) rfl (pa_cons (pe_ix (kIxT K rfl) (pv 0) pe_int (fun _ _ => rfl)) (pa_cons (pv 1) pa_nil))))))))) (pss_one (ps_ret pe_bl)) pss_nil)
      (pss_one (ps_ret (pe_callB (kIsi K rfl) (by rfl) T0.isi (by decide +kernel) (pa_cons (pe_ix (kIxT K rfl) (pv 0) pe_int (fun _ _ => rfl)) (pa_cons (pe_bltn (v := .ty "bool") (by rfl) T0.bool (by decide +kernel) rfl) pa_nil)))))), ?_⟩
  refine ⟨_, rfl, _, _, _, _, true, rfl, .ty _, .base (.tup ha), kit_ty (by decide +kernel), true, rfl, iteF ?_⟩
  refine ⟨_, rfl, a, _, rfl, .inr (SqT.of ha), rfl, _, rfl, iteF ?_⟩
  refine rd_ix0 rfl ha ⟨_, rfl, x, qq.1, m, rfl, hx, by omega, fun H1 s1 => ⟨_, rfl, ?_⟩⟩
  refine iteK (by rw [decide_eq_true hm]; rfl) ?_
  refine rd_ix1 rfl (s1 _ _ ha) ⟨_, _, _, _, true, rfl, .ty _, .base (.bl _), kit_ty (by decide +kernel), ?_⟩
  exact q _ s1
theorem sc_lets_alone : FnScope ["case", "wish", "thing", "due", "one", "row"] ["case", "wish", "thing"] (defScope s_lets_alone) := ⟨rfl, rfl, rfl, by decide +kernel, rfl, by decide +kernel, by decide +kernel⟩
theorem ok_lets_alone (T0 : Txt mg) (D : Def K mg "lets_alone" "lets_alone" s_lets_alone []) (G_look_at_wish : Cal P w K mg base 3 "look_at_wish" (spLookWish P w C)) (G_lets_pair : Cal P w K mg base 32 "lets_pair" (spLetsPair P w C)) (G_table_of : Cal P w K mg base 31 "table_of" (spTable P w C))
    (G_pairs : Cal P w K mg base 31 "pairs" (spPairs P w C)) (G_is_line : Cal P w K mg base 2 "is_line" spIsLine) (M_many : Met P w K mg base 1 C "many" (spMany P w C)) : Cal P w K mg base 33 "lets_alone" (spLets P w C) := by
  refine D.cal sc_lets_alone (fun _ _ _ _ _ _ us hl => match us, hl with | [_, _, _], _ => rfl) (fun vs H Q E h => ?_) (fun f0 cdv A outer s H vs Q E hr h => ?_)
  · obtain ⟨x, t, k, i, rfl, _⟩ := h
    rfl
  obtain ⟨x, t, k, i, rfl, c, hi, h⟩ := h
  obtain ⟨ok, dx, d, v0, es, h1, h2, h3, h4⟩ := id c
  have m5 := ok.m5
  obtain ⟨x0, rest, ht⟩ : ∃ (x0 : Str) (rest : List V), H t = some (.tup (.str x0 :: rest)) := by
    rcases h with ⟨u, v, p, ht, _⟩ | ⟨l, ys, ht, _⟩
    · exact ⟨_, _, ht⟩
    · exact ⟨_, _, ht⟩
  refine ⟨_, (pss_cons (ps_expr (pe_c G_look_at_wish hr (by omega) rfl (pa_cons (pv 0) (pa_cons (pv 1) pa_nil))))
      (pss_cons (ps_if (PW.pt (pw_or (pt_not (pt_val (pe_callB (kIsi K rfl) (by rfl) T0.isi (by decide +kernel) (pa_cons (pv 2) (pa_cons (pe_bltn (v := .ty "tuple") (by rfl) T0.tuple (by decide +kernel) rfl) pa_nil))))) (pw_or (pt_cmpR (kEqE K rfl (u8 hr)) (pv 2) (pe_tup pa_nil) (nomark _)) (pw_or1 (pt_not (pt_val (pe_callB (kIsi K rfl) (by rfl) T0.isi (by decide +kernel) (pa_cons (pe_ix (kIxT K rfl) (pv 2) pe_int (fun _ _ => rfl)) (pa_cons (pe_bltn (v := .ty "str") (by rfl) T0.str (by decide +kernel) rfl) pa_nil))))))))) (pss_one (ps_ret pe_bl)) pss_nil)
      (pss_cons (ps_if (pt_cmpR op_eq (pe_ix (kIxT K rfl) (pv 2) pe_int (fun _ _ => rfl)) pe_str (nomark _)) (pss_one (ps_ret (pe_and (pe_cmpR op_eq (pe_callB (kLen K rfl) (by rfl) T0.len (by decide +kernel) (pa_cons (pv 2) pa_nil)) pe_int (nomark _)) (pe_one (pe_c G_lets_pair hr (by omega) rfl (pa_cons (pv 0) (pa_cons (pv 1) (pa_cons (pe_ix (kIxT K rfl) (pv 2) pe_int (fun _ _ => rfl)) (pa_cons (pe_ix (kIxT K rfl) (pv 2) pe_int (fun _ _ => rfl)) pa_nil))))))))) pss_nil)
      (pss_cons (ps_if (PW.pt (pw_or (pt_cmpR op_ne (pe_ix (kIxT K rfl) (pv 2) pe_int (fun _ _ => rfl)) pe_str (nomark _)) (pw_or (pt_cmpR op_ne (pe_callB (kLen K rfl) (by rfl) T0.len (by decide +kernel) (pa_cons (pv 2) pa_nil)) pe_int (nomark _)) (pw_or1 (pt_not (pt_val (pe_callB (kIsi K rfl) (by rfl) T0.isi (by decide +kernel) (pa_cons (pe_ix (kIxT K rfl) (pv 2) pe_int (fun _ _ => rfl)) (pa_cons (pe_bltn (v := .ty "list") (by rfl) T0.list (by decide +kernel) rfl) pa_nil))))))))) (pss_one (ps_ret pe_bl)) pss_nil)
      (pss_cons (ps_set (i := 3) sc_lets_alone.nd rfl (Or.inl rfl) (pe_c G_table_of hr (by omega) rfl (pa_cons (pv 0) (pa_cons (pv 1) pa_nil))))
      (pss_cons (ps_if (PW.pt (pw_or (pt_cmpR (kNeL K rfl (u8 hr)) (pe_c G_pairs hr (by omega) rfl (pa_cons (pv 0) (pa_cons (pv 1) pa_nil))) (pe_lst pa_nil) (nomark _)) (pw_or1 (pt_cmpR op_ne (pe_callB (kLen K rfl) (by rfl) T0.len (by decide +kernel) (pa_cons (pe_ix (kIxT K rfl) (pv 2) pe_int (fun _ _ => rfl)) pa_nil)) (pe_callB (kLen K rfl) (by rfl) T0.len (by decide +kernel) (pa_cons (pv 3) pa_nil)) (nomark _))))) (pss_one (ps_ret pe_bl)) pss_nil)
      (pss_one (ps_ret (pe_callB (kAll K rfl rfl) (by rfl) T0.all (by decide +kernel) (pa_cons (pe_lc (own := [("one", 4), ("row", 5)]) (g := gTup K 2 (gCons (gName 4) (gCons (gName 5) gNil))) (tt := tYes) rfl sc_lets_alone.nd (pi_zip (by rfl) T0.zip (pa_cons (pe_ix (kIxT K rfl) (pv 2) pe_int (fun _ _ => rfl)) (pa_cons (pv 3) pa_nil))) (blkOk_by (own := [("one", 4), ("row", 5)]) (N := ["case", "wish", "thing", "due", "one", "row"]) (sc := defScope s_lets_alone) (by decide +kernel)) (fun _ _ _ _ _ => kTupG K rfl rfl (pgs_cons (pg_name (i := 4) sc_lets_alone.nd rfl (Or.inl rfl)) (pgs_cons (pg_name (i := 5) sc_lets_alone.nd rfl (Or.inl rfl)) pgs_nil))) (fun _ _ _ _ _ => pts_nil) (fun _ _ _ _ _ => (pe_and (pe_c G_is_line hr (by omega) rfl (pa_cons (pv 4) (pa_cons (pe_op op_sub (pe_mt0 M_many hr (by omega) (pv 0)) pe_int) pa_nil))) (pe_one (pe_cmpR (kEq K rfl (u64 hr)) (pv 4) (pv 5) (nomark _)))))) pa_nil)))))))))), ?_⟩
  refine ⟨_, rfl, _, rfl, x, k, i, rfl, c, hi, ?_⟩
  refine ⟨_, rfl, _, _, _, _, true, rfl, .ty _, .base (.tup ht), kit_ty (by decide +kernel), true, rfl, iteF ?_⟩
  refine ⟨_, rfl, Nat.zero_le _, fun t0 ht0 => ?_⟩
  have s0 := same_new ht0 (.tup [])
  refine ⟨t, t0, _, rfl, rfl, SqT.of (s0 _ _ ht), SqT.of upd_same, _, rfl, iteK rfl ?_⟩
  refine rd_ix0 (K := K) rfl (s0 _ _ ht) ⟨_, _, _, _, true, rfl, .ty _, .base (.str x0), kit_ty (by decide +kernel), true, rfl, iteF ?_⟩
  clear ht x0 rest
  rcases h with ⟨u, v, p, ht, hu, hv, l1, l2, q⟩ | ⟨l, ys, ht, hl, hys, q⟩
  · have ht0 := s0 _ _ ht
    refine if_yes rfl ht0 ?_
    refine ⟨_, rfl, t, _, rfl, .inr (SqT.of ht0), rfl, _, rfl, iteT ?_⟩
    refine ⟨_, rfl, _, rfl, ?_⟩
    refine rd_ix1 (K := K) rfl ht0 (rd_ix2 (K := K) rfl ht0 ⟨x, k, i, u, v, p, rfl, c.mono s0, hi, hu.mono s0, hv.mono s0, l1, l2, fun H' s1 => q _ (s0.trans s1)⟩)
  · have ht0 := s0 _ _ ht
    have hl0 := s0 _ _ hl
    refine if_no rfl ht0 (by decide +kernel) ?_
    refine rd_ix0 (K := K) rfl ht0 ⟨rfl, _, rfl, iteK (by rw [decide_eq_true rfl]; rfl) ?_⟩
    refine ⟨_, rfl, t, _, rfl, .inr (SqT.of ht0), rfl, _, rfl, iteF ?_⟩
    refine rd_ix1 (K := K) rfl ht0 ⟨_, _, _, _, true, rfl, .ty _, .base (.lst hl0), kit_ty (by decide +kernel), true, rfl, iteF ?_⟩
    refine ⟨_, rfl, _, rfl, x, k, i, rfl, c.mono s0, hi, fun l2 ys2 H1 s1 hl20 hl2 hys2 => ?_⟩
    have s01 := s0.trans s1
    refine ⟨_, rfl, _, rfl, x, k, i, rfl, c.mono s01, hi, fun l3 ys3 H2 s2 hl30 hl3 hys3 => ?_⟩
    have s02 := s01.trans s2
    refine ⟨Nat.zero_le _, fun t1 ht1 => ?_⟩
    have s3 := same_new ht1 (.lst [])
    have s03 := s02.trans s3
    refine ⟨l3, t1, ys3, rfl, rfl, SqL.of (s3 _ _ hl3), SqL.of upd_same, _, rfl, ?_⟩
    cases e : pairsM k i with
    | cons p r =>
      rw [e] at hys3 q
      cases hys3
      refine iteT ?_
      exact qbl (decide_eq_false fun z => nomatch z).symm (q _ s03)
    | nil =>
      rw [e] at hys3 q
      cases hys3
      refine iteF ?_
      have len2 : ys.length = ys2.length := (Paired.length hys).trans (Paired.length hys2).symm
      refine rd_ix1 (K := K) rfl (s03 _ _ ht) ⟨l, ys, rfl, .inl (SqL.of (s03 _ _ hl)), _, rfl, l2, ys2, rfl, .inl (SqL.of (s3 _ _ (s2 _ _ hl2))), rfl, _, rfl, iteK (by rw [len2, decide_eq_true rfl]; rfl) ?_⟩
      refine rd_ix1 (K := K) rfl (s03 _ _ ht) ⟨_, rfl, l, l2, ys, ys2, rfl, SqL.of (s03 _ _ hl), SqL.of (s3 _ _ (s2 _ _ hl2)), fun L hL => ?_⟩
      have s4 := same_new hL (.lst [])
      have few : ys.length ≤ 32 := by
        rw [Paired.length hys]
        unfold tableM
        rw [List.length_map]
        exact Nat.le_trans (twins_len k i) ok.few
      have L0 : H L = none := s03.free hL
      refine lc_it (walk_zip (K := K) (a := l) (b := l2) (n := ys.length) (xs := ys) (ys := ys2) (by omega)) (fun n H' => Same (upd H2 t1 (.lst [])) H' ∧ H' L = some (.lst ((List.replicate n true).map V.bl)))
        ⟨s4, upd_same⟩ (fun n H' _ z => ⟨SqL.of (z.1 _ _ (s03 _ _ hl)), SqL.of (z.1 _ _ (s3 _ _ (s2 _ _ hl2)))⟩) ?_ ?_
      · rintro n y H' H'' hn ⟨s5, hz⟩ ⟨T, z1, z2, rfl, hT, rfl, e1, e2⟩
        have s6 := same_new hT (.tup [z1, z2])
        obtain ⟨q1, hq1, hl1⟩ := paired_get hys e1
        obtain ⟨q2, hq2, hl2'⟩ := paired_get hys2 e2
        have eq : q1 = q2 := Option.some.inj (hq1.symm.trans hq2)
        subst eq
        have s05 := (s03.trans s5).trans s6
        have hlq : q1.1.length = k.many - 1 := by
          have hm := List.mem_of_getElem? hq1
          unfold tableM at hm
          obtain ⟨pp, hpp, rfl⟩ := List.mem_map.mp hm
          obtain ⟨p1, p2, p3, p4⟩ := twins_mem hpp
          have := ok.len _ p1
          show (del pp.1 i).length = _
          rw [del_length (by omega), this]
        refine ⟨T, _, rfl, SqT.of upd_same, rfl, _, _, rfl, _, _, rfl, rfl, rfl, ?_⟩
        refine ⟨_, rfl, _, rfl, x, dx, _, rfl, s05 _ _ h1, cf_no _ _ _ (by decide +kernel) (by decide +kernel) (by decide +kernel), x, k, rfl, c.mono s05, _, _, rfl, rfl, z1, q1, _, rfl, hl1.mono s05, ?_, by omega, fun H6 s7 => ⟨_, rfl, iteT ?_⟩⟩
        · have := ok.m1
          omega
        have s07 := s05.trans s7
        have s27 := ((s3.trans s5).trans s6).trans s7
        have e3 : PyData.eqv (encL q1) (encL q1) = true := by
          rw [encL_eqv]
          exact decide_eq_true rfl
        have hzL := s7 _ _ (s6 _ _ hz)
        refine ⟨_, rfl, _, rfl, encL q1, encL q1, (hl1.mono s07).dp, (hl2'.mono (s2.trans s27)).dp, encL_shaped q1, encL_shaped q1, _, hzL, ?_, same_upd ((s5.trans s6).trans s7) hL _, ?_⟩
        · rw [List.length_map, List.length_replicate]
          exact small1000 (by omega)
        · rw [upd_same, List.replicate_succ', List.map_append, e3]
          rfl
      · rintro H' ⟨s5, hz⟩
        refine ⟨L, _, rfl, SqL.of hz, qbl ?_ (q _ (s03.trans s5))⟩
        simp
end
end Ea

set_option maxHeartbeats 4000000
namespace Ea
open PySem PySem.Spec PyProof.Rows L2
/-! ### the law's own numbers: a pool of two -/
def PoolAt (H : Hp) (p : Addr) : Prop := ∃ a b : Int, H p = some (.lst [.int a, .int b]) ∧ 0 ≤ a ∧ 0 ≤ b ∧ b < 2147483647
/-- all but p stays -/
def Keep (p : Addr) (H H' : Hp) : Prop := ∀ c o, c ≠ p → H c = some o → H' c = some o
theorem Keep.refl (p : Addr) (H : Hp) : Keep p H H := fun _ _ _ e => e
theorem Keep.trans {p : Addr} {H H1 H2 : Hp} (a : Keep p H H1) (b : Keep p H1 H2) : Keep p H H2 := fun c o n e => b c o n (a c o n e)
theorem Same.keep {p : Addr} {H H' : Hp} (s : Same H H') : Keep p H H' := fun c o _ e => s c o e
theorem Keep.t {p : Addr} {H H' : Hp} (k : Keep p H H') (h : PoolAt H p) : TSame H H' := fun b ts e => by
  obtain ⟨x, y, hp, _⟩ := h
  exact k b _ (ne_of e hp fun z => nomatch z) e
theorem Keep.free {p : Addr} {H H' : Hp} (k : Keep p H H') (h : PoolAt H p) {l : Addr} (hl : H' l = none) (hn : l ≠ p) : H l = none := by
  cases q : H l with
  | none => rfl
  | some o =>
    have z := k l o hn q
    rw [hl] at z
    exact nomatch z
theorem PoolAt.mono {H H' : Hp} {p : Addr} (h : PoolAt H p) (s : Same H H') : PoolAt H' p := by
  obtain ⟨a, b, e, r⟩ := h
  exact ⟨a, b, s _ _ e, r⟩
theorem PoolAt.ne {H : Hp} {p l : Addr} (h : PoolAt H p) (hl : H l = none) : l ≠ p := by
  obtain ⟨a, b, e, _⟩ := h
  exact (ne_of_none e hl).symm
theorem PoolAt.put {H : Hp} {p l : Addr} {o : HO} (h : PoolAt H p) (hn : l ≠ p) : PoolAt (upd H l o) p := by
  obtain ⟨a, b, e, r⟩ := h
  exact ⟨a, b, by rw [upd_ne hn.symm]; exact e, r⟩
/-- a store at a thing that was new -/
theorem keep_upd {p l : Addr} {H H' : Hp} (k : Keep p H H') (h : H l = none) (o : HO) : Keep p H (upd H' l o) := fun b u n q => by
  rw [upd_ne (ne_of_none q h)]
  exact k b u n q
def spTake : Sp := fun vs H Q _ => ∃ (p : Addr) (m : Int), vs = [.ref p, .int m] ∧ PoolAt H p ∧ 1 ≤ m ∧ m < 1073741824 ∧ ∀ (d : Int) H', Keep p H H' → PoolAt H' p → 0 ≤ d → d < m → Q (.int d) H'
def spPool (K : PySem.W.Frag) : Sp := fun vs H Q _ => ∃ (a : Addr) (ns : List Int) (k : Nat), vs = [.ref a, .int k] ∧ SqL K H a (ns.map V.int) ∧ ns.length ≤ 63 ∧ (k < ns.length ∨ (ns = [] ∧ k = 0)) ∧ ∀ p H', Same H H' → H p = none → PoolAt H' p → Q (.ref p) H'
theorem fmod_in {x m : Int} (h : 0 < m) : 0 ≤ x.fmod m ∧ x.fmod m < m := by
  rw [Int.fmod_eq_emod_of_nonneg x (by omega)]
  exact ⟨Int.emod_nonneg _ (by omega), Int.emod_lt_of_pos _ h⟩
theorem fdiv_nn {x m : Int} (h0 : 0 ≤ x) (h : 0 < m) : 0 ≤ x.fdiv m := by
  rw [Int.fdiv_eq_ediv_of_nonneg x (by omega)]
  exact Int.ediv_nonneg h0 (by omega)
section
variable {P : Program} {w : World} {K : PySem.W.Frag} {mg : Str → Option Value} {base : Heap}
theorem sc_L_take : FnScope ["_law_pool_here", "_law_many", "_law_digit"] ["_law_pool_here", "_law_many"] (defScope s_L_take) := ⟨rfl, rfl, rfl, by decide +kernel, rfl, by decide +kernel, by decide +kernel⟩
theorem ok_L_take (D : Def K mg "_law_take" "_law_take" s_L_take []) : Cal P w K mg base 1 "_law_take" spTake := by
  refine D.cal sc_L_take (fun _ _ _ _ _ _ us hl => match us, hl with | [_, _], _ => rfl) (fun vs H Q E h => ?_) (fun f0 cdv A outer s H vs Q E hr h => ?_)
  · obtain ⟨p, m, rfl, _⟩ := h
    rfl
  obtain ⟨p, m, rfl, ⟨a, b, hp, ha, hb, hb2⟩, hm, hm2, q⟩ := h
  refine ⟨_, (pss_cons (ps_if (pt_cmpR op_gt (pe_ix (kIxL K rfl) (pv 0) pe_int (fun _ _ => rfl)) pe_int (nomark _)) (pss_cons (ps_set (i := 2) sc_L_take.nd rfl (Or.inl rfl) (pe_op op_modN (pe_ix (kIxL K rfl) (pv 0) pe_int (fun _ _ => rfl)) (pv 1)))
      (pss_cons (ps_asg (pe_op op_fdivN (pe_ix (kIxL K rfl) (pv 0) pe_int (fun _ _ => rfl)) (pv 1)) (pg_sub (pv 0) pe_int set_list))
      (pss_one (ps_ret (pv 2))))) pss_nil)
      (pss_cons (ps_asg (pe_op op_modN (pe_op op_add (pe_op op_mul (pe_ix (kIxL K rfl) (pv 0) pe_int (fun _ _ => rfl)) pe_int) pe_int) pe_int) (pg_sub (pv 0) pe_int set_list))
      (pss_one (ps_ret (pe_op op_modN (pe_op op_fdivN (pe_op op_modN (pe_op op_mul (pe_ix (kIxL K rfl) (pv 0) pe_int (fun _ _ => rfl)) (pe_ix (kIxL K rfl) (pv 0) pe_int (fun _ _ => rfl))) pe_int) pe_int) (pv 1)))))), ?_⟩
  refine ⟨_, rfl, p, _, _, _, rfl, rfl, SqL.of hp, atI_nat (j := 0) rfl, _, _, rfl, rfl, _, rfl, ?_⟩
  refine ite2 (fun c => ?_) (fun c => ?_)
  · refine ⟨_, rfl, p, _, _, _, rfl, rfl, SqL.of hp, atI_nat (j := 0) rfl, _, rfl, _, _, rfl, rfl, by show m ≠ 0; omega, ?_⟩
    refine ⟨_, rfl, p, _, _, _, rfl, rfl, SqL.of hp, atI_nat (j := 0) rfl, _, rfl, _, _, rfl, rfl, ⟨by omega, by omega⟩, _, rfl, p, _, _, 0, rfl, rfl, hp, rfl, ?_⟩
    refine ⟨_, rfl, q _ _ (fun c o n e => ?_) ⟨_, _, upd_same, fdiv_nn ha (by omega), hb, hb2⟩ (fmod_in (by omega)).1 (fmod_in (by omega)).2⟩
    rw [upd_ne n]
    exact e
  · refine ⟨_, rfl, p, _, _, _, rfl, rfl, SqL.of hp, atI_nat (j := 1) rfl, _, _, rfl, rfl, .inl ⟨by omega, by omega⟩, _, _, rfl, rfl, _, _, rfl, rfl, (show (2147483647 : Int) ≠ 0 by decide), _, rfl, p, _, _, 1, rfl, rfl, hp, rfl, ?_⟩
    have hb3 := fmod_in (x := b * 48271 + 11) (m := 2147483647) (by decide)
    refine ⟨_, rfl, p, _, _, _, rfl, rfl, SqL.of upd_same, atI_nat (j := 1) rfl, _, rfl, p, _, _, _, rfl, rfl, SqL.of upd_same, atI_nat (j := 1) rfl, _, _, rfl, rfl, .inl ⟨by omega, by omega⟩, ?_⟩
    refine ⟨_, _, rfl, rfl, (show (2147483629 : Int) ≠ 0 by decide), _, _, rfl, rfl, ⟨by decide, by decide⟩, _, rfl, _, _, rfl, rfl, by show m ≠ 0; omega, ?_⟩
    refine q _ _ (fun c o n e => ?_) ⟨_, _, upd_same, ha, hb3.1, hb3.2⟩ (fmod_in (by omega)).1 (fmod_in (by omega)).2
    rw [upd_ne n]
    exact e
theorem sc_L_pool : FnScope ["_law_script", "_law_k", "_law_cell", "_law_seed"] ["_law_script", "_law_k"] (defScope s_L_pool) := ⟨rfl, rfl, rfl, by decide +kernel, rfl, by decide +kernel, by decide +kernel⟩
theorem ok_L_pool (T0 : Txt mg) (D : Def K mg "_law_pool" "_law_pool" s_L_pool []) : Cal P w K mg base 1 "_law_pool" (spPool K) := by
  refine D.cal sc_L_pool (fun _ _ _ _ _ _ us hl => match us, hl with | [_, _], _ => rfl) (fun vs H Q E h => ?_) (fun f0 cdv A outer s H vs Q E hr h => ?_)
  · obtain ⟨a, ns, k, rfl, _⟩ := h
    rfl
  obtain ⟨a, ns, k, rfl, ha, h63, hk, q⟩ := h
  refine ⟨_, (pss_cons (ps_set (i := 2) sc_L_pool.nd rfl (Or.inl rfl) pe_int)
      (pss_cons (ps_if (pt_cmpR (kNeL K rfl (u8 hr)) (pv 0) (pe_lst pa_nil) (nomark _)) (pss_one (ps_set (i := 2) sc_L_pool.nd rfl (Or.inl rfl) (pe_ix (kIxL K rfl) (pv 0) (pe_op op_modN (pv 1) (pe_callB (kLen K rfl) (by rfl) T0.len (by decide +kernel) (pa_cons (pv 0) pa_nil))) (fun _ _ => rfl)))) pss_nil)
      (pss_cons (ps_if (pt_cmpR op_ge (pv 1) (pe_callB (kLen K rfl) (by rfl) T0.len (by decide +kernel) (pa_cons (pv 0) pa_nil)) (nomark _)) (pss_one (ps_set (i := 2) sc_L_pool.nd rfl (Or.inl rfl) (pe_ix (kIxL K rfl) (pe_lst (pa_cons (pe_op op_modN (pv 2) pe_int) (pa_cons (pe_op op_fdivW (pv 2) (pe_op op_pow pe_int pe_int)) pa_nil))) (pe_callTy call_int1 (by rfl) T0.int (by decide +kernel) (pa_cons (pe_cmpR op_ge (pv 2) (pe_op op_pow pe_int pe_int) (nomark _)) pa_nil)) (fun _ _ => rfl)))) pss_nil)
      (pss_cons (ps_set (i := 3) sc_L_pool.nd rfl (Or.inl rfl) (pe_op op_modN (pe_op op_mul (pe_op op_add (pe_op op_add (pe_op op_modN (pv 2) pe_int) (pe_op op_mul pe_int (pv 1))) pe_int) pe_int) pe_int))
      (pss_one (ps_ret (pe_lst (pa_cons (pe_op op_mul (pv 2) (pe_callTy call_int1 (by rfl) T0.int (by decide +kernel) (pa_cons (pe_cmpR op_ge (pv 2) (pe_op op_pow pe_int pe_int) (nomark _)) pa_nil))) (pa_cons (pv 3) pa_nil))))))))), ?_⟩
  refine ⟨_, rfl, Nat.zero_le _, fun t ht => ?_⟩
  have s1 := same_new ht (.lst [])
  refine ⟨a, t, _, rfl, rfl, s1.seq ha, SqL.of upd_same, _, rfl, ?_⟩
  rcases hk with hk | ⟨rfl, rfl⟩
  · have hne : (ns.map V.int).isEmpty = false := by
      cases ns with
      | nil => simp at hk
      | cons n ns => rfl
    refine iteY (by rw [hne]; rfl) ?_
    have hkk : ((k : Int).fmod (((ns.map V.int).length : Nat) : Int)) = (k : Int) := by
      rw [List.length_map, Int.fmod_eq_emod_of_nonneg _ (by omega)]
      exact Int.emod_eq_of_lt (by omega) (by omega)
    have hat : atI (ns.map V.int) ((k : Int).fmod (((ns.map V.int).length : Nat) : Int)) = some (.int ns[k]) := by
      rw [hkk]
      exact atI_nat (by rw [List.getElem?_map, List.getElem?_eq_getElem hk]; rfl)
    refine ⟨_, rfl, _, rfl, _, rfl, a, _, rfl, .inl (s1.seq ha), _, _, rfl, rfl, (by show (((ns.map V.int).length : Nat) : Int) ≠ 0; rw [List.length_map]; omega), a, _, _, _, rfl, rfl, s1.seq ha, hat, ?_⟩
    refine ⟨_, rfl, _, rfl, a, _, rfl, .inl (s1.seq ha), _, _, rfl, rfl, _, rfl, iteK (decide_eq_false (by rw [List.length_map]; omega)) ?_⟩
    refine ⟨_, rfl, _, _, rfl, rfl, (show (2147483629 : Int) ≠ 0 by decide), _, rfl, _, _, rfl, rfl, .inl ⟨by decide, by decide⟩, _, _, rfl, rfl, _, _, rfl, rfl, _, _, rfl, rfl, .inr ⟨by decide, by decide⟩, _, _, rfl, rfl, (show (2147483647 : Int) ≠ 0 by decide), ?_⟩
    refine ⟨_, rfl, _, rfl, _, _, rfl, rfl, ⟨by decide, by decide, by decide⟩, _, _, rfl, rfl, .inr ⟨_, rfl, _, _, rfl, rfl, .inr ?_, _, rfl, by show 2 ≤ sizeLine; decide, fun p hp => ?_⟩⟩
    · constructor <;> split <;> decide
    · have hz := fmod_in (x := ((ns[k]).fmod 2147483629 + 104729 * (k : Int) + 11) * 48271) (m := 2147483647) (by decide)
      refine q p _ (s1.trans (same_new hp _)) (s1.free hp) ⟨_, _, upd_same, ?_, hz.1, hz.2⟩
      split
      · rename_i hc
        have hc' := of_decide_eq_true hc
        have h18 : (0 : Int) ≤ (10 : Int) ^ ((18 : Int).toNat) := by decide
        omega
      · omega
  · refine iteF ?_
    refine ⟨_, rfl, _, rfl, a, _, rfl, .inl (s1.seq ha), _, _, rfl, rfl, _, rfl, iteY (decide_eq_true (by decide)) ?_⟩
    refine ⟨_, rfl, _, _, rfl, rfl, (show (1000003 : Int) ≠ 0 by decide), _, rfl, _, _, rfl, rfl, ⟨by decide, by decide, by decide⟩, _, _, rfl, rfl, wide_div (b := 64) (by decide) (by decide) (by decide) (by decide), by show 2 ≤ sizeLine; decide, fun p2 hp2 => ?_⟩
    have s2 := same_new hp2 (.lst [V.int ((0 : Int).fmod 1000003), V.int (0 / (10 : Int) ^ (18 : Int).toNat)])
    refine ⟨_, rfl, _, _, rfl, rfl, ⟨by decide, by decide, by decide⟩, _, _, rfl, rfl, .inr ⟨_, rfl, p2, _, _, V.int ((0 : Int).fmod 1000003), rfl, rfl, SqL.of upd_same, ?_, ?_⟩⟩
    · rw [if_neg (by decide)]
      exact atI_nat (j := 0) rfl
    have s1 := s1.trans s2
    refine ⟨_, rfl, _, _, rfl, rfl, (show (2147483629 : Int) ≠ 0 by decide), _, rfl, _, _, rfl, rfl, .inl ⟨by decide, by decide⟩, _, _, rfl, rfl, _, _, rfl, rfl, _, _, rfl, rfl, .inr ⟨by decide, by decide⟩, _, _, rfl, rfl, (show (2147483647 : Int) ≠ 0 by decide), ?_⟩
    refine ⟨_, rfl, _, rfl, _, _, rfl, rfl, ⟨by decide, by decide, by decide⟩, _, _, rfl, rfl, .inr ⟨_, rfl, _, _, rfl, rfl, .inr ?_, _, rfl, by show 2 ≤ sizeLine; decide, fun p hp => ?_⟩⟩
    · constructor <;> split <;> decide
    · have hz := fmod_in (x := (((0 : Int).fmod 1000003).fmod 2147483629 + 104729 * ((0 : Nat) : Int) + 11) * 48271) (m := 2147483647) (by decide)
      refine q p _ (s1.trans (same_new hp _)) (s1.free hp) ⟨_, _, upd_same, ?_, hz.1, hz.2⟩
      split
      · rename_i hc
        have hc' := of_decide_eq_true hc
        have h18 : (0 : Int) ≤ (10 : Int) ^ ((18 : Int).toNat) := by decide
        omega
      · omega
end
end Ea

set_option maxHeartbeats 4000000
namespace Ea
open PySem PySem.Spec PyProof.Rows L2
def spLDec (N : Nat) : Sp := fun vs H Q _ => ∃ (p : Addr) (many n : Nat) (room : Int), vs = [.ref p, .int many, .int room, .int n] ∧ PoolAt H p ∧ 1 ≤ n ∧ n ≤ N ∧ 1 ≤ many ∧ many ≤ 8 ∧ 1 ≤ room ∧ room ≤ 100 ∧
  ∀ (v : V) (c : Nat) (f : F) (H' : Hp), Keep p H H' → PoolAt H' p → DecAt many H' n v c f → (c : Int) ≤ room → Q v H'
theorem sum1_le : ∀ (qs : List (Nat × F)) (e : Int), (∀ q ∈ qs, (q.1 : Int) ≤ e) → (sum1 qs : Int) ≤ (qs.length : Int) * e
  | [], e, _ => by simp [sum1]
  | q :: qs, e, h => by
    have h1 := sum1_le qs e fun x hx => h x (List.mem_cons_of_mem _ hx)
    have h2 := h q (List.mem_cons_self ..)
    have e1 : sum1 (q :: qs) = q.1 + sum1 qs := by simp [sum1]
    rw [e1, List.length_cons]
    have e2 : ((qs.length + 1 : Nat) : Int) * e = (qs.length : Int) * e + e := by
      rw [Int.natCast_add, Int.add_mul]
      simp
    rw [e2]
    omega
theorem sum2_le : ∀ (qs : List ((Nat × F) × (Nat × F))) (e : Int), (∀ q ∈ qs, (q.1.1 : Int) ≤ e ∧ (q.2.1 : Int) ≤ e) → (sum2 qs : Int) ≤ (qs.length : Int) * (2 * e)
  | [], e, _ => by simp [sum2]
  | q :: qs, e, h => by
    have h1 := sum2_le qs e fun x hx => h x (List.mem_cons_of_mem _ hx)
    have h2 := h q (List.mem_cons_self ..)
    have e1 : sum2 (q :: qs) = q.1.1 + q.2.1 + sum2 qs := by simp [sum2]
    rw [e1, List.length_cons]
    have e2 : ((qs.length + 1 : Nat) : Int) * (2 * e) = (qs.length : Int) * (2 * e) + 2 * e := by
      rw [Int.natCast_add, Int.add_mul]
      simp
    rw [e2]
    omega
theorem fdiv_mul {x m : Int} (h0 : 0 ≤ x) (h : 0 < m) : m * x.fdiv m ≤ x ∧ 0 ≤ x.fdiv m ∧ (m ≤ x → 1 ≤ x.fdiv m) := by
  rw [Int.fdiv_eq_ediv_of_nonneg x (by omega)]
  refine ⟨Int.mul_ediv_self_le (by omega), Int.ediv_nonneg h0 (by omega), fun hm => ?_⟩
  exact Int.le_ediv_of_mul_le h (by omega)
theorem DecAt.wish {many i n : Nat} {H : Hp} {a : Addr} (h : H a = some (.tup [.str "wish", .int i])) (hi : i < many) (hn : 1 ≤ n) : DecAt many H n (.ref a) 1 fun r => r.getD i false := by
  cases n with
  | zero => omega
  | succ n => exact ⟨a, _, rfl, h, .wish i hi⟩
section
variable {P : Program} {w : World} {K : PySem.W.Frag} {mg : Str → Option Value} {base : Heap}
theorem sc_L_decision : FnScope ["_law_pool_here", "_law_many", "_law_room", "_law_deep", "_law_way", "_law_size", "_law_k", "_law_some", "_law_each", "_law_rows", "_law_test"] ["_law_pool_here", "_law_many", "_law_room", "_law_deep"] (defScope s_L_decision) := ⟨rfl, rfl, rfl, by decide +kernel, rfl, by decide +kernel, by decide +kernel⟩
theorem ok_L_decision (T0 : Txt mg) (D : Def K mg "_law_decision" "_law_decision" s_L_decision []) (G_L_take : Cal P w K mg base 1 "_law_take" spTake) : ∀ N, Cal P w K mg base (N + 1) "_law_decision" (spLDec N)
  | 0 => by
    refine (D.cal0 (ps := ["_law_pool_here", "_law_many", "_law_room", "_law_deep"]) (fun f fd FD => FD.bindsN fun _ _ _ _ _ _ us hl => match us, hl with | [_, _, _, _], _ => rfl) ?_).mono (Nat.zero_le _)
    rintro vs H Q E ⟨p, many, n, room, _, _, h1, h2, _⟩
    omega
  | N + 1 => by
    have G_L_decision := ok_L_decision T0 D G_L_take N
    refine D.cal sc_L_decision (fun _ _ _ _ _ _ us hl => match us, hl with | [_, _, _, _], _ => rfl) (fun vs H Q E h => ?_) (fun f0 cdv A outer s H vs Q E hr h => ?_)
    · obtain ⟨p, many, n, room, rfl, _⟩ := h
      rfl
    obtain ⟨p, many, n, room, rfl, hp, n1, nN, m1, m8, r1, r100, q⟩ := h
    obtain ⟨m, rfl⟩ : ∃ m, n = m + 1 := ⟨n - 1, by omega⟩
    have em : ((m + 1 : Nat) : Int) - 1 = (m : Int) := by omega
    refine ⟨_, (pss_cons (ps_set (i := 4) sc_L_decision.nd rfl (Or.inl rfl) (pe_c G_L_take hr (by omega) rfl (pa_cons (pv 0) (pa_cons pe_int pa_nil))))
      (pss_cons (ps_if (PW.pt (pw_or (pt_cmpR op_lt (pv 2) pe_int (nomark _)) (pw_or (pt_cmpR op_lt (pv 3) pe_int (nomark _)) (pw_or1 (pt_cmpR op_eq (pv 4) pe_int (nomark _)))))) (pss_cons (ps_if (pt_cmpR op_eq (pe_c G_L_take hr (by omega) rfl (pa_cons (pv 0) (pa_cons pe_int pa_nil))) pe_int (nomark _)) (pss_one (ps_ret (pe_ix (kIxL K rfl) (pe_lst (pa_cons (pe_tup (pa_cons pe_str pa_nil)) (pa_cons (pe_tup (pa_cons pe_str pa_nil)) pa_nil))) (pe_c G_L_take hr (by omega) rfl (pa_cons (pv 0) (pa_cons pe_int pa_nil))) (fun _ _ => rfl)))) pss_nil)
      (pss_one (ps_ret (pe_tup (pa_cons pe_str (pa_cons (pe_c G_L_take hr (by omega) rfl (pa_cons (pv 0) (pa_cons (pv 1) pa_nil))) pa_nil)))))) pss_nil)
      (pss_cons (ps_if (pt_cmpR op_lt (pv 4) pe_int (nomark _)) (pss_one (ps_ret (pe_tup (pa_cons pe_str (pa_cons (pe_c G_L_decision hr (by omega) rfl (pa_cons (pv 0) (pa_cons (pv 1) (pa_cons (pe_op op_sub (pv 2) pe_int) (pa_cons (pe_op op_sub (pv 3) pe_int) pa_nil))))) pa_nil))))) pss_nil)
      (pss_cons (ps_if (pt_cmpR op_lt (pv 4) pe_int (nomark _)) (pss_cons (ps_set (i := 5) sc_L_decision.nd rfl (Or.inr rfl) (pe_op op_add pe_int (pe_c G_L_take hr (by omega) rfl (pa_cons (pv 0) (pa_cons (pe_callB (call_min2 rfl) (by rfl) T0.min (by decide +kernel) (pa_cons pe_int (pa_cons (pe_op op_sub (pv 2) pe_int) pa_nil))) pa_nil)))))
      (pss_cons (ps_setLc (i := 7) (own := [("_law_k", 6)]) (g := gName 6) (tt := tYes) rfl sc_L_decision.nd rfl rfl (sw_true rfl rfl rfl (by decide +kernel)) (pi_range1 rfl T0.range (pa_cons (pv 5) pa_nil)) (blkOk_by (own := [("_law_k", 6)]) (N := ["_law_pool_here", "_law_many", "_law_room", "_law_deep", "_law_way", "_law_size", "_law_k", "_law_some", "_law_each", "_law_rows", "_law_test"]) (sc := defScope s_L_decision) (by decide +kernel)) (fun _ _ _ _ _ => pg_name (i := 6) sc_L_decision.nd rfl (Or.inl rfl)) (fun _ _ _ _ _ => pts_nil) (fun _ _ _ _ _ => (pe_c G_L_decision hr (by omega) rfl (pa_cons (pv 0) (pa_cons (pv 1) (pa_cons (pe_op op_fdivN (pe_op op_sub (pv 2) pe_int) (pv 5)) (pa_cons (pe_op op_sub (pv 3) pe_int) pa_nil)))))))
      (pss_one (ps_ret (pe_tup (pa_cons (pe_ix (kIxL K rfl) (pe_lst (pa_cons pe_str (pa_cons pe_str pa_nil))) (pe_op op_modN (pv 4) pe_int) (fun _ _ => rfl)) (pa_cons (pe_callTy (kTup K rfl) (by rfl) T0.tuple (by decide +kernel) (pa_cons (pv 7) pa_nil)) pa_nil))))))) pss_nil)
      (pss_cons (ps_set (i := 5) sc_L_decision.nd rfl (Or.inr rfl) (pe_op op_add pe_int (pe_c G_L_take hr (by omega) rfl (pa_cons (pv 0) (pa_cons (pe_callB (call_min2 rfl) (by rfl) T0.min (by decide +kernel) (pa_cons pe_int (pa_cons (pe_op op_add (pe_op op_fdivN (pe_op op_sub (pv 2) pe_int) pe_int) pe_int) pa_nil))) pa_nil)))))
      (pss_cons (ps_set (i := 8) sc_L_decision.nd rfl (Or.inl rfl) (pe_op op_fdivN (pe_op op_sub (pv 2) pe_int) (pe_op op_add (pe_op op_mul pe_int (pv 5)) pe_int)))
      (pss_cons (ps_if (pt_cmpR op_lt (pv 8) pe_int (nomark _)) (pss_one (ps_ret (pe_tup (pa_cons pe_str (pa_cons (pe_c G_L_take hr (by omega) rfl (pa_cons (pv 0) (pa_cons (pv 1) pa_nil))) pa_nil))))) pss_nil)
      (pss_cons (ps_set (i := 9) sc_L_decision.nd rfl (Or.inl rfl) (pe_lst pa_nil))
      (pss_cons (ps_for PassesOwn.never rfl (pi_range1 rfl T0.range (pa_cons (pv 5) pa_nil)) (pg_name (i := 6) sc_L_decision.nd rfl (Or.inl rfl))
      (pss_cons (ps_set (i := 10) sc_L_decision.nd rfl (Or.inl rfl) (pe_c G_L_decision hr (by omega) rfl (pa_cons (pv 0) (pa_cons (pv 1) (pa_cons (pv 8) (pa_cons (pe_op op_sub (pv 3) pe_int) pa_nil))))))
      (pss_one (ps_expr (pe_bm PySem.F.plainAttrs_list PySem.F.slot_list_append PySem.F.type_list_append mt_append (pv 9) (pa_cons (pe_tup (pa_cons (pv 10) (pa_cons (pe_c G_L_decision hr (by omega) rfl (pa_cons (pv 0) (pa_cons (pv 1) (pa_cons (pv 8) (pa_cons (pe_op op_sub (pv 3) pe_int) pa_nil))))) pa_nil))) pa_nil))))))
      (pss_one (ps_ret (pe_tup (pa_cons pe_str (pa_cons (pe_callTy (kTup K rfl) (by rfl) T0.tuple (by decide +kernel) (pa_cons (pv 9) pa_nil)) (pa_cons (pe_c G_L_decision hr (by omega) rfl (pa_cons (pv 0) (pa_cons (pv 1) (pa_cons (pv 8) (pa_cons (pe_op op_sub (pv 3) pe_int) pa_nil))))) pa_nil))))))))))))))), ?_⟩
    -- the way
    refine ⟨_, rfl, p, 9, rfl, hp, by decide, by decide, fun way H1 k1 hp1 w0 w9 => ?_⟩
    -- a wish, from any later heap
    have leafW : ∀ (H2 : Hp), Keep p H H2 → PoolAt H2 p → ∀ (σ : L2.St), σ[0]? = some (some (.ref p)) → σ[1]? = some (some (.int many)) → tTup (tCons (tC (.str "wish")) (tCons (tCall spTake [] E0 (tCons (tVar 0) (tCons (tVar 1) tNil))) tNil)) σ H2 Q := by
      intro H2 k2 hp2 σ e0 e1
      refine ⟨_, e0, _, e1, p, many, rfl, hp2, by omega, by omega, fun d H3 k3 hp3 d0 dm => ⟨by show 2 ≤ sizeLine; decide, fun t ht => ?_⟩⟩
      have s4 := same_new ht (.tup [.str "wish", .int d])
      have ed : d = ((d.toNat : Nat) : Int) := by omega
      refine q _ 1 (fun r => r.getD d.toNat false) _ ((k2.trans k3).trans (Same.keep s4)) (hp3.mono s4) (DecAt.wish (i := d.toNat) ?_ (by omega) n1) (by omega)
      rw [upd_same, ← ed]
    refine ⟨_, rfl, _, _, rfl, rfl, _, rfl, ite2 (fun c1 => iteT ?_) (fun c1 => ?_)⟩
    · refine ⟨_, rfl, p, 9, rfl, hp1, by decide, by decide, fun d2 H2 k2 hp2 d20 d29 => ?_⟩
      refine ⟨rfl, _, rfl, ite2 (fun _ => ?_) (fun _ => ?_)⟩
      · refine ⟨by show 1 ≤ sizeLine; decide, fun t1 ht1 => ⟨by show 1 ≤ sizeLine; decide, fun t2 ht2 => ⟨by show 2 ≤ sizeLine; decide, fun l hl => ?_⟩⟩⟩
        have s3 := same_new ht1 (.tup [.str "yes"])
        have s4 := same_new ht2 (.tup [.str "no"])
        have s5 := same_new hl (.lst [.ref t1, .ref t2])
        have s345 := (s3.trans s4).trans s5
        have hp5 := hp2.mono s345
        have nl : l ≠ p := (hp2.mono (s3.trans s4)).ne hl
        refine ⟨_, rfl, p, 2, rfl, hp5, by decide, by decide, fun d3 H3 k3 hp3 d30 d32 => ?_⟩
        have kk : Keep p H H3 := ((k1.trans k2).trans (Same.keep s345)).trans k3
        have tt := Keep.t k3 hp5
        have hl3 := k3 _ _ nl upd_same
        by_cases z : d3 = 0
        · subst z
          refine ⟨l, _, _, _, rfl, rfl, SqL.of hl3, atI_nat (j := 0) rfl, ?_⟩
          exact q _ 1 (fun _ => true) H3 kk hp3 ⟨t1, _, rfl, tt _ _ (s5 _ _ (s4 _ _ upd_same)), .fixd "yes" true (.inl ⟨rfl, rfl⟩)⟩ (by omega)
        · have z1 : d3 = ((1 : Nat) : Int) := by omega
          subst z1
          refine ⟨l, _, _, _, rfl, rfl, SqL.of hl3, atI_nat (j := 1) rfl, ?_⟩
          exact q _ 1 (fun _ => false) H3 kk hp3 ⟨t2, _, rfl, tt _ _ (s5 _ _ upd_same), .fixd "no" false (.inr ⟨rfl, rfl⟩)⟩ (by omega)
      · exact leafW H2 (k1.trans k2) hp2 _ rfl rfl
    have c1' : ¬ room < 3 := of_decide_eq_false (Bool.eq_false_iff.mpr c1)
    refine ⟨_, rfl, _, _, rfl, rfl, _, rfl, ite2 (fun c2 => iteT ?_) (fun c2 => ?_)⟩
    · refine ⟨_, rfl, p, 9, rfl, hp1, by decide, by decide, fun d2 H2 k2 hp2 d20 d29 => ?_⟩
      refine ⟨rfl, _, rfl, ite2 (fun _ => ?_) (fun _ => ?_)⟩
      · refine ⟨by show 1 ≤ sizeLine; decide, fun t1 ht1 => ⟨by show 1 ≤ sizeLine; decide, fun t2 ht2 => ⟨by show 2 ≤ sizeLine; decide, fun l hl => ?_⟩⟩⟩
        have s3 := same_new ht1 (.tup [.str "yes"])
        have s4 := same_new ht2 (.tup [.str "no"])
        have s5 := same_new hl (.lst [.ref t1, .ref t2])
        have s345 := (s3.trans s4).trans s5
        have hp5 := hp2.mono s345
        have nl : l ≠ p := (hp2.mono (s3.trans s4)).ne hl
        refine ⟨_, rfl, p, 2, rfl, hp5, by decide, by decide, fun d3 H3 k3 hp3 d30 d32 => ?_⟩
        have kk : Keep p H H3 := ((k1.trans k2).trans (Same.keep s345)).trans k3
        have tt := Keep.t k3 hp5
        have hl3 := k3 _ _ nl upd_same
        by_cases z : d3 = 0
        · subst z
          refine ⟨l, _, _, _, rfl, rfl, SqL.of hl3, atI_nat (j := 0) rfl, ?_⟩
          exact q _ 1 (fun _ => true) H3 kk hp3 ⟨t1, _, rfl, tt _ _ (s5 _ _ (s4 _ _ upd_same)), .fixd "yes" true (.inl ⟨rfl, rfl⟩)⟩ (by omega)
        · have z1 : d3 = ((1 : Nat) : Int) := by omega
          subst z1
          refine ⟨l, _, _, _, rfl, rfl, SqL.of hl3, atI_nat (j := 1) rfl, ?_⟩
          exact q _ 1 (fun _ => false) H3 kk hp3 ⟨t2, _, rfl, tt _ _ (s5 _ _ upd_same), .fixd "no" false (.inr ⟨rfl, rfl⟩)⟩ (by omega)
      · exact leafW H2 (k1.trans k2) hp2 _ rfl rfl
    have c2' : ¬ ((m + 1 : Nat) : Int) < 2 := of_decide_eq_false (Bool.eq_false_iff.mpr c2)
    refine ⟨_, rfl, rfl, _, rfl, ite2 (fun c3 => ?_) (fun c3 => ?_)⟩
    · refine ⟨_, rfl, p, 9, rfl, hp1, by decide, by decide, fun d2 H2 k2 hp2 d20 d29 => ?_⟩
      refine ⟨rfl, _, rfl, ite2 (fun _ => ?_) (fun _ => ?_)⟩
      · refine ⟨by show 1 ≤ sizeLine; decide, fun t1 ht1 => ⟨by show 1 ≤ sizeLine; decide, fun t2 ht2 => ⟨by show 2 ≤ sizeLine; decide, fun l hl => ?_⟩⟩⟩
        have s3 := same_new ht1 (.tup [.str "yes"])
        have s4 := same_new ht2 (.tup [.str "no"])
        have s5 := same_new hl (.lst [.ref t1, .ref t2])
        have s345 := (s3.trans s4).trans s5
        have hp5 := hp2.mono s345
        have nl : l ≠ p := (hp2.mono (s3.trans s4)).ne hl
        refine ⟨_, rfl, p, 2, rfl, hp5, by decide, by decide, fun d3 H3 k3 hp3 d30 d32 => ?_⟩
        have kk : Keep p H H3 := ((k1.trans k2).trans (Same.keep s345)).trans k3
        have tt := Keep.t k3 hp5
        have hl3 := k3 _ _ nl upd_same
        by_cases z : d3 = 0
        · subst z
          refine ⟨l, _, _, _, rfl, rfl, SqL.of hl3, atI_nat (j := 0) rfl, ?_⟩
          exact q _ 1 (fun _ => true) H3 kk hp3 ⟨t1, _, rfl, tt _ _ (s5 _ _ (s4 _ _ upd_same)), .fixd "yes" true (.inl ⟨rfl, rfl⟩)⟩ (by omega)
        · have z1 : d3 = ((1 : Nat) : Int) := by omega
          subst z1
          refine ⟨l, _, _, _, rfl, rfl, SqL.of hl3, atI_nat (j := 1) rfl, ?_⟩
          exact q _ 1 (fun _ => false) H3 kk hp3 ⟨t2, _, rfl, tt _ _ (s5 _ _ upd_same), .fixd "no" false (.inr ⟨rfl, rfl⟩)⟩ (by omega)
      · exact leafW H2 (k1.trans k2) hp2 _ rfl rfl
    -- not
    refine ⟨_, rfl, _, _, rfl, rfl, _, rfl, ite2 (fun c4 => ?_) (fun c4 => ?_)⟩
    · refine ⟨_, rfl, _, rfl, _, rfl, _, _, rfl, rfl, _, rfl, _, _, rfl, rfl, p, many, m, room - 1, ?_, hp1, by omega, by omega, m1, m8, by omega, by omega, fun v c f H2 k2 hp2 hd hc => ⟨by show 2 ≤ sizeLine; decide, fun t ht => ?_⟩⟩
      · show [V.ref p, V.int many, V.int (room - 1), V.int (((m + 1 : Nat) : Int) - 1)] = _
        rw [em]
      · have s3 := same_new ht (.tup [.str "not", v])
        exact q _ (1 + c) (fun r => !f r) _ ((k1.trans k2).trans (Same.keep s3)) (hp2.mono s3) ⟨t, _, rfl, upd_same, .neg v c f (hd.mono s3)⟩ (by omega)
    -- and, or
    refine ⟨_, rfl, _, _, rfl, rfl, _, rfl, ite2 (fun c5 => ?_) (fun c5 => ?_)⟩
    · refine ⟨_, rfl, _, rfl, _, _, rfl, rfl, _, _, rfl, p, _, rfl, hp1, by split <;> omega, by split <;> omega, fun d H2 k2 hp2 d0 dm => ?_⟩
      have dm6 : d < 6 ∧ d < room - 1 := by
        revert dm
        split <;> omega
      refine ⟨_, _, rfl, rfl, ?_⟩
      have hsz : ((1 + d).toNat : Int) = 1 + d := by omega
      have hf := fdiv_mul (x := room - 1) (m := 1 + d) (by omega) (by omega)
      have hf1 := hf.2.2 (by omega)
      refine ⟨_, rfl, _, rfl, by omega, by omega, fun L hL => ?_⟩
      have nL : L ≠ p := hp2.ne hL
      refine lc_range (lo := 0) (n := (1 + d).toNat) (fun i H' => Keep p H2 H' ∧ PoolAt H' p ∧ ∃ ds qs, H' L = some (.lst ds) ∧ Paired (One (DecAt many H' m)) ds qs ∧ ds.length = i ∧ ∀ x ∈ qs, (x.1 : Int) ≤ (room - 1).fdiv (1 + d))
        ⟨Same.keep (same_new hL _), hp2.put nL, [], [], upd_same, .nil, rfl, fun x hx => nomatch hx⟩ ?_ ?_
      · rintro i H' hi ⟨k3, hp3, ds, qs, hds, hpd, hlen, hle⟩
        refine ⟨rfl, ?_⟩
        refine ⟨_, rfl, _, rfl, _, rfl, _, _, rfl, rfl, _, rfl, _, _, rfl, rfl, ⟨by omega, by omega⟩, _, rfl, _, _, rfl, rfl, p, many, m, (room - 1).fdiv (1 + d), ?_, hp3, by omega, by omega, m1, m8, hf1, ?_, fun v c f H4 k4 hp4 hd hc => ?_⟩
        · show [V.ref p, V.int many, V.int ((room - 1).fdiv (1 + d)), V.int (((m + 1 : Nat) : Int) - 1)] = _
          rw [em]
        · have z : (room - 1).fdiv (1 + d) ≤ (1 + d) * (room - 1).fdiv (1 + d) := by
            have := Int.mul_le_mul_of_nonneg_right (show (1 : Int) ≤ 1 + d by omega) hf.2.1
            rw [Int.one_mul] at this
            exact this
          omega
        · have hds4 := k4 _ _ nL hds
          have tl : ∀ ts, H4 L ≠ some (.tup ts) := fun ts e => by
            rw [hds4] at e
            exact nomatch e
          have t4 : TSame H' (upd H4 L (.lst (ds ++ [v]))) := TSame.put (Keep.t k4 hp3) tl _
          refine ⟨ds, hds4, small1000 (by omega), keep_upd (k3.trans k4) hL _, hp4.put nL, ds ++ [v], qs ++ [(c, f)], upd_same, ?_, by rw [List.length_append, hlen]; rfl, fun x hx => ?_⟩
          · exact paired_snoc (Paired.mapP hpd fun _ _ z => DecAt.monoT t4 z) (DecAt.monoT (TSame.put (fun _ _ e => e) tl _) hd)
          · rcases List.mem_append.mp hx with hx | hx
            · exact hle x hx
            · rw [List.mem_singleton.mp hx]
              exact hc
      · rintro H' ⟨k3, hp3, ds, qs, hds, hpd, hlen, hle⟩
        have L2 : H2 L = none := hL
        obtain ⟨x, b, hx, hat⟩ : ∃ (x : Str) (b : Bool), ((x = "and" ∧ b = true) ∨ (x = "or" ∧ b = false)) ∧ atI [V.str "and", V.str "or"] (way.fmod 2) = some (.str x) := by
          have z := fmod_in (x := way) (m := 2) (by decide)
          by_cases e : way.fmod 2 = 0
          · rw [e]
            exact ⟨"and", true, .inl ⟨rfl, rfl⟩, atI_nat (j := 0) rfl⟩
          · have e1 : way.fmod 2 = ((1 : Nat) : Int) := by omega
            rw [e1]
            exact ⟨"or", false, .inr ⟨rfl, rfl⟩, atI_nat (j := 1) rfl⟩
        refine ⟨by show 2 ≤ sizeLine; decide, fun l2 hl2 => ?_⟩
        have s4 := same_new hl2 (.lst [.str "and", .str "or"])
        refine ⟨_, rfl, _, _, rfl, rfl, (show (2 : Int) ≠ 0 by decide), l2, _, _, _, rfl, rfl, SqL.of upd_same, hat, ?_⟩
        refine ⟨_, rfl, L, ds, rfl, .inl ⟨SqL.of (s4 _ _ hds), fun cc hcc => ?_⟩⟩
        have s5 := same_new hcc (.tup ds)
        refine ⟨by show 2 ≤ sizeLine; decide, fun t ht => ?_⟩
        have s6 := same_new ht (.tup [.str x, .ref cc])
        have s456 := (s4.trans s5).trans s6
        have hq := Paired.length hpd
        refine q _ (1 + sum1 qs) (fun r => if b = true then qs.all (fun q => q.2 r) else qs.any fun q => q.2 r) _ (((k1.trans k2).trans k3).trans (Same.keep s456)) (hp3.mono s456) ⟨t, _, rfl, upd_same, .junct x b hx cc ds qs (s6 _ _ upd_same) (Paired.mapP hpd fun _ _ z => DecAt.mono s456 z) (by omega) (by omega)⟩ ?_
        have z := sum1_le qs _ hle
        have e : (qs.length : Int) = 1 + d := by omega
        rw [e] at z
        omega
    -- cases
    have h2 := fdiv_mul (x := room - 2) (m := 2) (by omega) (by decide)
    refine ⟨_, rfl, _, rfl, _, _, rfl, rfl, _, _, rfl, rfl, ⟨by decide, by decide⟩, _, _, rfl, rfl, _, _, rfl, p, _, rfl, hp1, by split <;> omega, by split <;> omega, fun d H2 k2 hp2 d0 dm => ?_⟩
    have dm4 : d < 4 := by
      revert dm
      split <;> omega
    refine ⟨_, _, rfl, rfl, ?_⟩
    refine ⟨_, rfl, _, _, rfl, rfl, _, rfl, _, _, rfl, rfl, .inl ⟨by decide, by decide⟩, _, _, rfl, rfl, _, _, rfl, rfl, ⟨by omega, by omega⟩, ?_⟩
    have hf := fdiv_mul (x := room - 1) (m := 2 * (1 + d) + 1) (by omega) (by omega)
    obtain ⟨e, he⟩ : ∃ e, (room - 1).fdiv (2 * (1 + d) + 1) = e := ⟨_, rfl⟩
    rw [he] at hf
    show gName 8 (V.int ((room - 1).fdiv (2 * (1 + d) + 1))) _ _ _
    rw [he]
    refine ⟨_, rfl, _, _, rfl, rfl, _, rfl, ite2 (fun c6 => ?_) (fun c6 => ?_)⟩
    · exact leafW H2 (k1.trans k2) hp2 _ rfl rfl
    have c6' : ¬ e < 1 := of_decide_eq_false (Bool.eq_false_iff.mpr c6)
    have e100 : e ≤ 100 := by
      have := Int.mul_le_mul_of_nonneg_right (show (1 : Int) ≤ 2 * (1 + d) + 1 by omega) hf.2.1
      rw [Int.one_mul] at this
      omega
    refine ⟨Nat.zero_le _, fun L hL => ?_⟩
    have nL : L ≠ p := hp2.ne hL
    have hsz : ((1 + d).toNat : Int) = 1 + d := by omega
    refine ⟨_, rfl, _, rfl, by omega, by omega, ?_⟩
    refine for_range (lo := 0) (n := (1 + d).toNat) (fun i σ H' => ∃ (v6 v10 : Option V), σ = [some (.ref p), some (.int many), some (.int room), some (.int (m + 1 : Nat)), some (.int way), some (.int (1 + d)), v6, none, some (.int e), some (.ref L), v10] ∧ Keep p H2 H' ∧ PoolAt H' p ∧
        ∃ ds qs, H' L = some (.lst ds) ∧ Paired (Two H' (DecAt many H' m)) ds qs ∧ ds.length = i ∧ ∀ x ∈ qs, (x.1.1 : Int) ≤ e ∧ (x.2.1 : Int) ≤ e)
      ⟨none, none, rfl, Same.keep (same_new hL _), hp2.put nL, [], [], upd_same, .nil, rfl, fun x hx => nomatch hx⟩ ?_ ?_
    · rintro i σ H' hi ⟨v6, v10, rfl, k3, hp3, ds, qs, hds, hpd, hlen, hle⟩
      refine ⟨_, rfl, _, rfl, _, rfl, _, rfl, _, _, rfl, rfl, p, many, m, e, ?_, hp3, by omega, by omega, m1, m8, by omega, e100, fun v c f H4 k4 hp4 hd hc => ?_⟩
      · show [V.ref p, V.int many, V.int e, V.int (((m + 1 : Nat) : Int) - 1)] = _
        rw [em]
      have hds4 := k4 _ _ nL hds
      refine ⟨_, rfl, .inl ⟨rfl, _, SqL.of hds4⟩, ?_⟩
      refine ⟨_, rfl, _, rfl, _, rfl, _, rfl, _, rfl, _, _, rfl, rfl, p, many, m, e, ?_, hp4, by omega, by omega, m1, m8, by omega, e100, fun v2 c2 f2 H5 k5 hp5 hd2 hc2 => ⟨by show 2 ≤ sizeLine; decide, fun t ht => ?_⟩⟩
      · show [V.ref p, V.int many, V.int e, V.int (((m + 1 : Nat) : Int) - 1)] = _
        rw [em]
      have s6 := same_new ht (.tup [v, v2])
      have hds5 := s6 _ _ (k5 _ _ nL hds4)
      have tl : ∀ ts, upd H5 t (.tup [v, v2]) L ≠ some (.tup ts) := fun ts z => by
        rw [hds5] at z
        exact nomatch z
      have ntL : t ≠ L := (ne_of_none (k5 _ _ nL hds4) ht).symm
      have t6 : TSame H5 (upd (upd H5 t (.tup [v, v2])) L (.lst (ds ++ [.ref t]))) := TSame.put (Same.t s6) tl _
      have t45 := Keep.t k5 hp4
      have t34 := Keep.t k4 hp3
      refine ⟨L, ds, .ref t, rfl, rfl, hds5, small1000 (by omega), ?_⟩
      refine ⟨_, _, rfl, keep_upd (((k3.trans k4).trans k5).trans (Same.keep s6)) hL _, (hp5.mono s6).put nL, ds ++ [.ref t], qs ++ [((c, f), (c2, f2))], upd_same, ?_, by rw [List.length_append, hlen]; rfl, fun x hx => ?_⟩
      · refine paired_snoc (Paired.mapP hpd fun _ _ ⟨a, x, y, z1, z2, z3, z4⟩ => ⟨a, x, y, z1, t6 _ _ (t45 _ _ (t34 _ _ z2)), DecAt.monoT ((t34.trans t45).trans t6) z3, DecAt.monoT ((t34.trans t45).trans t6) z4⟩) ⟨t, v, v2, rfl, ?_, DecAt.monoT (t45.trans t6) hd, DecAt.monoT t6 hd2⟩
        rw [upd_ne ntL, upd_same]
      · rcases List.mem_append.mp hx with hx | hx
        · exact hle x hx
        · rw [List.mem_singleton.mp hx]
          exact ⟨hc, hc2⟩
    · rintro σ H' ⟨v6, v10, rfl, k3, hp3, ds, qs, hds, hpd, hlen, hle⟩
      refine ⟨_, rfl, L, ds, rfl, .inl ⟨SqL.of hds, fun cc hcc => ?_⟩⟩
      have s4 := same_new hcc (.tup ds)
      have hp4 := hp3.mono s4
      refine ⟨_, rfl, _, rfl, _, rfl, _, rfl, _, _, rfl, rfl, p, many, m, e, ?_, hp4, by omega, by omega, m1, m8, by omega, e100, fun v c f H5 k5 hp5 hd hc => ⟨by show 3 ≤ sizeLine; decide, fun t ht => ?_⟩⟩
      · show [V.ref p, V.int many, V.int e, V.int (((m + 1 : Nat) : Int) - 1)] = _
        rw [em]
      have s6 := same_new ht (.tup [.str "cases", .ref cc, v])
      have t45 := Keep.t k5 hp4
      have tt : TSame H' (upd H5 t (.tup [.str "cases", .ref cc, v])) := ((Same.t s4).trans t45).trans (Same.t s6)
      have hq := Paired.length hpd
      refine q _ (1 + sum2 qs + c) (casesF qs f) _ (((((k1.trans k2).trans k3).trans (Same.keep s4)).trans k5).trans (Same.keep s6)) (hp5.mono s6) ⟨t, _, rfl, upd_same, .ladder cc ds qs v c f (s6 _ _ (t45 _ _ upd_same)) (Paired.mapP hpd fun _ _ ⟨a, x, y, z1, z2, z3, z4⟩ => ⟨a, x, y, z1, tt _ _ z2, DecAt.monoT tt z3, DecAt.monoT tt z4⟩) (by omega) (by omega) (hd.mono s6)⟩ ?_
      have z := sum2_le qs _ hle
      have e1 : (qs.length : Int) = 1 + d := by omega
      rw [e1] at z
      have e2 : (2 * (1 + d) + 1) * e = (1 + d) * (2 * e) + e := by
        rw [Int.add_mul, Int.one_mul, Int.mul_assoc, Int.mul_left_comm]
      omega
end
end Ea

set_option maxHeartbeats 4000000
namespace Ea
open PySem PySem.Spec PyProof.Rows L2
section
variable {K : PySem.W.Frag} {H : Hp} {σ : L2.St} {i : Nat} {a : Addr} {x y z : Str} {xs : List V}
theorem rd_inL {Q : VK} (hσ : σ[i]? = some (some (.ref a))) (ha : H a = some (.tup (.str x :: xs))) (q : ∀ p, H p = none → Q (.bl (decide (x = y) || decide (x = z))) (upd H p (.lst [.str y, .str z]))) :
    tOp (rIn K false) (tOp (rIxT K) (tVar i) (tC (.int 0))) (tLst (tCons (tC (.str y)) (tCons (tC (.str z)) tNil))) σ H Q := by
  refine rd_ix0 hσ ha ⟨by show 2 ≤ sizeLine; decide, fun p hp => ⟨p, _, rfl, .inl (SqL.of upd_same), rfl, rfl, ?_⟩⟩
  have e : inV (.str x) [.str y, .str z] = (decide (x = y) || decide (x = z)) := by
    show ((y == x) || ((z == x) || false)) = _
    rw [beq_dec y x, beq_dec z x, Bool.or_false]
  show Q (.bl (inV (.str x) [.str y, .str z])) _
  rw [e]
  exact q p hp
theorem if_inL_no {t u : TS} {D : Ends} (hσ : σ[i]? = some (some (.ref a))) (ha : H a = some (.tup (.str x :: xs))) (ne : (decide (x = y) || decide (x = z)) = false) (q : ∀ p, H p = none → u D σ (upd H p (.lst [.str y, .str z]))) :
    tIfS (tTest (tOp (rIn K false) (tOp (rIxT K) (tVar i) (tC (.int 0))) (tLst (tCons (tC (.str y)) (tCons (tC (.str z)) tNil))))) t u D σ H := by
  refine rd_inL hσ ha fun p hp => ⟨_, rfl, ?_⟩
  rw [ne]
  exact iteF (q p hp)
theorem if_inL_yes {t u : TS} {D : Ends} (hσ : σ[i]? = some (some (.ref a))) (ha : H a = some (.tup (.str x :: xs))) (ne : (decide (x = y) || decide (x = z)) = true) (q : ∀ p, H p = none → t D σ (upd H p (.lst [.str y, .str z]))) :
    tIfS (tTest (tOp (rIn K false) (tOp (rIxT K) (tVar i) (tC (.int 0))) (tLst (tCons (tC (.str y)) (tCons (tC (.str z)) tNil))))) t u D σ H := by
  refine rd_inL hσ ha fun p hp => ⟨_, rfl, ?_⟩
  rw [ne]
  exact iteT (q p hp)
end
section
variable {P : Program} {w : World} {K : PySem.W.Frag} {mg : Str → Option Value} {base : Heap}
theorem sc_L_answer : FnScope ["_law_decision_here", "_law_row", "_law_test", "_law_told", "_law_part"] ["_law_decision_here", "_law_row"] (defScope s_L_answer) := ⟨rfl, rfl, rfl, by decide +kernel, rfl, by decide +kernel, by decide +kernel⟩
theorem ok_L_answer (T0 : Txt mg) (D : Def K mg "_law_answer" "_law_answer" s_L_answer []) : ∀ n, Cal P w K mg base n "_law_answer" (spAns n)
  | 0 => by
    refine D.cal0 (ps := ["_law_decision_here", "_law_row"]) (fun f fd FD => FD.bindsN fun _ _ _ _ _ _ us hl => match us, hl with | [_, _], _ => rfl) ?_
    rintro vs H Q E ⟨v, u, p, many, f, r, _, h, _⟩
    exact h
  | n + 1 => by
    have G_L_answer := ok_L_answer T0 D n
    refine D.cal sc_L_answer (fun _ _ _ _ _ _ us hl => match us, hl with | [_, _], _ => rfl) (fun vs H Q E h => ?_) (fun f0 cdv A outer s H vs Q E hr h => ?_)
    · obtain ⟨v, u, p, many, f, r, rfl, _⟩ := h
      rfl
    obtain ⟨v, u, p, many, f, r, rfl, ⟨a, xs, rfl, ha, d⟩, hu, hlen, q⟩ := h
    refine ⟨_, (pss_cons (ps_if (pt_cmpR op_eq (pe_ix (kIxT K rfl) (pv 0) pe_int (fun _ _ => rfl)) pe_str (nomark _)) (pss_one (ps_ret (pe_ix (kIxT K rfl) (pv 1) (pe_ix (kIxT K rfl) (pv 0) pe_int (fun _ _ => rfl)) (fun _ _ => rfl)))) pss_nil)
      (pss_cons (ps_if (pt_cmpR (kInS K rfl) (pe_ix (kIxT K rfl) (pv 0) pe_int (fun _ _ => rfl)) (pe_lst (pa_cons pe_str (pa_cons pe_str pa_nil))) (by rfl)) (pss_one (ps_ret (pe_cmpR op_eq (pe_ix (kIxT K rfl) (pv 0) pe_int (fun _ _ => rfl)) pe_str (nomark _)))) pss_nil)
      (pss_cons (ps_if (pt_cmpR op_eq (pe_ix (kIxT K rfl) (pv 0) pe_int (fun _ _ => rfl)) pe_str (nomark _)) (pss_one (ps_ret (pe_not (pe_c G_L_answer hr (by omega) rfl (pa_cons (pe_ix (kIxT K rfl) (pv 0) pe_int (fun _ _ => rfl)) (pa_cons (pv 1) pa_nil)))))) pss_nil)
      (pss_cons (ps_if (pt_cmpR op_eq (pe_ix (kIxT K rfl) (pv 0) pe_int (fun _ _ => rfl)) pe_str (nomark _)) (pss_one (ps_ret (pe_cmpR (kEqL K rfl (u8 hr)) (pe_lc (own := [("_law_part", 4)]) (g := gName 4) rfl sc_L_answer.nd (kiTup K rfl (pe_ix (kIxT K rfl) (pv 0) pe_int (fun _ _ => rfl))) (blkOk_by (own := [("_law_part", 4)]) (N := ["_law_decision_here", "_law_row", "_law_test", "_law_told", "_law_part"]) (sc := defScope s_L_answer) (by decide +kernel)) (fun _ _ _ _ _ => pg_name (i := 4) sc_L_answer.nd rfl (Or.inl rfl)) (fun _ _ _ _ _ => pts_one (pt_not (pt_val (pe_c G_L_answer hr (by omega) rfl (pa_cons (pv 4) (pa_cons (pv 1) pa_nil)))))) (fun _ _ _ _ _ => (pv 4))) (pe_lst pa_nil) (nomark _)))) pss_nil)
      (pss_cons (ps_if (pt_cmpR op_eq (pe_ix (kIxT K rfl) (pv 0) pe_int (fun _ _ => rfl)) pe_str (nomark _)) (pss_one (ps_ret (pe_cmpR (kNeL K rfl (u8 hr)) (pe_lc (own := [("_law_part", 4)]) (g := gName 4) rfl sc_L_answer.nd (kiTup K rfl (pe_ix (kIxT K rfl) (pv 0) pe_int (fun _ _ => rfl))) (blkOk_by (own := [("_law_part", 4)]) (N := ["_law_decision_here", "_law_row", "_law_test", "_law_told", "_law_part"]) (sc := defScope s_L_answer) (by decide +kernel)) (fun _ _ _ _ _ => pg_name (i := 4) sc_L_answer.nd rfl (Or.inl rfl)) (fun _ _ _ _ _ => pts_one (pt_val (pe_c G_L_answer hr (by omega) rfl (pa_cons (pv 4) (pa_cons (pv 1) pa_nil))))) (fun _ _ _ _ _ => (pv 4))) (pe_lst pa_nil) (nomark _)))) pss_nil)
      (pss_cons (ps_for PassesOwn.never rfl (kiTup K rfl (pe_ix (kIxT K rfl) (pv 0) pe_int (fun _ _ => rfl))) (pg_tup rfl (pgs_cons (pg_name (i := 2) sc_L_answer.nd rfl (Or.inl rfl)) (pgs_cons (pg_name (i := 3) sc_L_answer.nd rfl (Or.inl rfl)) pgs_nil)))
      (pss_one (ps_if (pt_val (pe_c G_L_answer hr (by omega) rfl (pa_cons (pv 2) (pa_cons (pv 1) pa_nil)))) (pss_one (ps_ret (pe_c G_L_answer hr (by omega) rfl (pa_cons (pv 3) (pa_cons (pv 1) pa_nil))))) pss_nil)))
      (pss_one (ps_ret (pe_c G_L_answer hr (by omega) rfl (pa_cons (pe_ix (kIxT K rfl) (pv 0) pe_int (fun _ _ => rfl)) (pa_cons (pv 1) pa_nil))))))))))), ?_⟩
    cases d with
    | wish i hi =>
      refine if_yes rfl ha ?_
      obtain ⟨b, rfl, hb⟩ := hu
      refine ⟨_, rfl, ?_⟩
      refine rd_ix1 rfl ha ⟨b, _, _, _, rfl, rfl, SqT.of hb, atI_nat (getD_of (by omega)), ?_⟩
      exact q _ (Same.refl H)
    | fixd x b hx =>
      have e1 : decide (x = "wish") = false ∧ (decide (x = "yes") || decide (x = "no")) = true ∧ decide (x = "yes") = b := by
        rcases hx with ⟨rfl, rfl⟩ | ⟨rfl, rfl⟩ <;> decide +kernel
      refine if_no rfl ha e1.1 ?_
      refine if_inL_yes rfl ha e1.2.1 fun t ht => ?_
      have s1 := same_new ht (.lst [.str "yes", .str "no"])
      refine rd_ix0 rfl (s1 _ _ ha) ⟨rfl, qbl ?_ (q _ s1)⟩
      rw [← e1.2.2]
      by_cases c : x = "yes"
      · rw [c]
        exact decide_eq_true rfl
      · rw [decide_eq_false c]
        exact decide_eq_false fun z => c (V.str.inj z)
    | neg e k g hg =>
      refine if_no rfl ha (by decide +kernel) ?_
      refine if_inL_no rfl ha (by decide +kernel) fun t ht => ?_
      have s1 := same_new ht (.lst [.str "yes", .str "no"])
      refine if_yes rfl (s1 _ _ ha) ?_
      refine rd_ix1 rfl (s1 _ _ ha) ⟨_, rfl, e, u, k, many, g, r, rfl, hg.mono s1, hu.mono s1, hlen, fun H1 s2 => ⟨_, rfl, ?_⟩⟩
      exact q _ (s1.trans s2)
    | junct x b hx c ds qs hc hp h1 h6 =>
      have e1 : decide (x = "wish") = false ∧ (decide (x = "yes") || decide (x = "no")) = false ∧ decide (x = "not") = false := by
        rcases hx with ⟨rfl, rfl⟩ | ⟨rfl, rfl⟩ <;> decide +kernel
      refine if_no rfl ha e1.1 ?_
      refine if_inL_no rfl ha e1.2.1 fun t ht => ?_
      have s1 := same_new ht (.lst [.str "yes", .str "no"])
      refine if_no rfl (s1 _ _ ha) e1.2.2 ?_
      rcases hx with ⟨rfl, rfl⟩ | ⟨rfl, rfl⟩
      · refine if_yes rfl (s1 _ _ ha) ?_
        refine rd_ix1 rfl (s1 _ _ ha) ⟨c, rfl, ⟨_, SqT.of (s1 _ _ hc)⟩, fun L hL => ?_⟩
        refine lc_tup (K := K) (a := c) (xs := ds) (fun i H' => Same H H' ∧ ∃ zs, H' L = some (.lst zs) ∧ zs.isEmpty = ((qs.take i).all fun q => q.2 r) ∧ zs.length ≤ i) ⟨s1.trans (same_new hL _), [], upd_same, rfl, Nat.le_refl _⟩ (fun i H' _ z => SqT.of (z.1 _ _ hc)) ?_ ?_
        · rintro i y H' hy ⟨s2, zs, hz, hze, hzl⟩
          have hlt := lt_of_get hy
          obtain ⟨qq, hq, hy2⟩ := paired_get hp hy
          refine ⟨rfl, ?_⟩
          have L0 : H L = none := s1.free hL
          refine ⟨_, rfl, _, rfl, y, u, qq.1, many, qq.2, r, rfl, hy2.mono s2, hu.mono s2, hlen, fun H3 s3 => ⟨_, rfl, ?_⟩⟩
          rw [take_succ_get hq]
          cases hb : qq.2 r with
          | true =>
            refine iteF ⟨s2.trans s3, zs, s3 _ _ hz, ?_, by omega⟩
            rw [List.all_append, hze]
            simp [hb]
          | false =>
            refine iteT ⟨_, rfl, zs, s3 _ _ hz, small1000 (by omega), same_upd (s2.trans s3) L0 _, _, upd_same, ?_, ?_⟩
            · rw [List.all_append]
              simp [hb]
            · rw [List.length_append, List.length_singleton]
              omega
        · rintro H' ⟨s2, zs, hz, hze, hzl⟩
          rw [Paired.length hp, List.take_length] at hze
          refine ⟨Nat.zero_le _, fun t2 ht2 => ?_⟩
          have s3 := same_new ht2 (.lst [])
          exact ⟨L, t2, zs, rfl, rfl, SqL.of (s3 _ _ hz), SqL.of upd_same, qbl hze (q _ (s2.trans s3))⟩
      · refine if_no rfl (s1 _ _ ha) (by decide +kernel) ?_
        refine if_yes rfl (s1 _ _ ha) ?_
        refine rd_ix1 rfl (s1 _ _ ha) ⟨c, rfl, ⟨_, SqT.of (s1 _ _ hc)⟩, fun L hL => ?_⟩
        refine lc_tup (K := K) (a := c) (xs := ds) (fun i H' => Same H H' ∧ ∃ zs, H' L = some (.lst zs) ∧ (!zs.isEmpty) = ((qs.take i).any fun q => q.2 r) ∧ zs.length ≤ i) ⟨s1.trans (same_new hL _), [], upd_same, rfl, Nat.le_refl _⟩ (fun i H' _ z => SqT.of (z.1 _ _ hc)) ?_ ?_
        · rintro i y H' hy ⟨s2, zs, hz, hze, hzl⟩
          have hlt := lt_of_get hy
          obtain ⟨qq, hq, hy2⟩ := paired_get hp hy
          refine ⟨rfl, ?_⟩
          have L0 : H L = none := s1.free hL
          refine ⟨_, rfl, _, rfl, y, u, qq.1, many, qq.2, r, rfl, hy2.mono s2, hu.mono s2, hlen, fun H3 s3 => ⟨_, rfl, ?_⟩⟩
          rw [take_succ_get hq]
          cases hb : qq.2 r with
          | false =>
            refine iteF ⟨s2.trans s3, zs, s3 _ _ hz, ?_, by omega⟩
            rw [List.any_append, hze]
            simp [hb]
          | true =>
            refine iteT ⟨_, rfl, zs, s3 _ _ hz, small1000 (by omega), same_upd (s2.trans s3) L0 _, _, upd_same, ?_, ?_⟩
            · rw [List.any_append]
              simp [hb]
            · rw [List.length_append, List.length_singleton]
              omega
        · rintro H' ⟨s2, zs, hz, hze, hzl⟩
          rw [Paired.length hp, List.take_length] at hze
          refine ⟨Nat.zero_le _, fun t2 ht2 => ?_⟩
          have s3 := same_new ht2 (.lst [])
          exact ⟨L, t2, zs, rfl, rfl, SqL.of (s3 _ _ hz), SqL.of upd_same, qbl hze (q _ (s2.trans s3))⟩
    | ladder c rows qs last ql gl hc hp h1 h4 hl =>
      refine if_no rfl ha (by decide +kernel) ?_
      refine if_inL_no rfl ha (by decide +kernel) fun t ht => ?_
      have s0 := same_new ht (.lst [.str "yes", .str "no"])
      refine if_no rfl (s0 _ _ ha) (by decide +kernel) ?_
      refine if_no rfl (s0 _ _ ha) (by decide +kernel) ?_
      refine if_no rfl (s0 _ _ ha) (by decide +kernel) ?_
      refine rd_ix1 rfl (s0 _ _ ha) ⟨c, rfl, ⟨_, SqT.of (s0 _ _ hc)⟩, ?_⟩
      refine for_tup (K := K) (a := c) (xs := rows) (fun i σ H' => ∃ (v1 v2 v3 : Option V), σ = [some (.ref a), some u, v1, v2, v3] ∧ Same H H' ∧ casesF (qs.drop i) gl r = casesF qs gl r)
        ⟨none, none, none, rfl, s0, rfl⟩ (fun i σ H' _ ⟨_, _, _, _, s1, _⟩ => SqT.of (s1 _ _ hc)) ?_ ?_
      · rintro i x σ H' hx ⟨v1, v2, v3, rfl, s1, he⟩
        obtain ⟨qq, hq, e, y, z, rfl, hee, hy, hz⟩ := paired_get hp hx
        refine ⟨e, _, rfl, SqT.of (s1 _ _ hee), rfl, _, _, rfl, _, _, rfl, rfl, ?_⟩
        have hdrop : qs.drop i = qq :: qs.drop (i + 1) := by
          obtain ⟨hi, e2⟩ := List.getElem?_eq_some_iff.mp hq
          rw [List.drop_eq_getElem_cons hi, e2]
        refine ⟨_, rfl, _, rfl, y, u, qq.1.1, many, qq.1.2, r, rfl, hy.mono s1, hu.mono s1, hlen, fun H2 s2 => ⟨_, rfl, ?_⟩⟩
        cases hb : qq.1.2 r with
        | true =>
          refine iteT ?_
          refine ⟨_, rfl, _, rfl, z, u, qq.2.1, many, qq.2.2, r, rfl, hz.mono (s1.trans s2), hu.mono (s1.trans s2), hlen, fun H3 s3 => ?_⟩
          refine qbl ?_ (q _ ((s1.trans s2).trans s3))
          rw [← he, hdrop]
          unfold casesF
          rw [if_pos hb]
        | false =>
          refine iteF ?_
          refine ⟨some y, some z, v3, rfl, s1.trans s2, ?_⟩
          rw [← he, hdrop]
          show casesF (qs.drop (i + 1)) gl r = if qq.1.2 r = true then qq.2.2 r else casesF (qs.drop (i + 1)) gl r
          rw [hb]
          rfl
      · rintro σ H' ⟨v1, v2, v3, rfl, s1, he⟩
        refine rd_ix2 rfl (s1 _ _ ha) ⟨_, rfl, last, u, ql, many, gl, r, rfl, hl.mono s1, hu.mono s1, hlen, fun H2 s2 => ?_⟩
        refine qbl ?_ (q _ (s1.trans s2))
        rw [← he, Paired.length hp, List.drop_length]
        rfl
theorem sc_L_turned : FnScope ["_law_line", "_law_wish"] ["_law_line", "_law_wish"] (defScope s_L_turned) := ⟨rfl, rfl, rfl, by decide +kernel, rfl, by decide +kernel, by decide +kernel⟩
theorem ok_L_turned (D : Def K mg "_law_turned" "_law_turned" s_L_turned []) : Cal P w K mg base 1 "_law_turned" spTurned := by
  refine D.cal sc_L_turned (fun _ _ _ _ _ _ us hl => match us, hl with | [_, _], _ => rfl) (fun vs H Q E h => ?_) (fun f0 cdv A outer s H vs Q E hr h => ?_)
  · obtain ⟨v, r, i, rfl, _⟩ := h
    rfl
  obtain ⟨v, r, i, rfl, ⟨a, rfl, ha⟩, hi, hz, q⟩ := h
  refine ⟨_, (pss_one (ps_ret (pe_op (kCat K rfl) (pe_op (kCat K rfl) (pe_slice (kSlT K rfl) (pv 0) po_none (po_some (pv 1))) (pe_tup (pa_cons (pe_not (pe_ix (kIxT K rfl) (pv 0) (pv 1) (fun _ _ => rfl))) pa_nil))) (pe_slice (kSlT K rfl) (pv 0) (po_some (pe_op op_add (pv 1) pe_int)) po_none)))), ?_⟩
  exact turn_at rfl rfl ha hi hz q
def spSways (n : Nat) : Sp := fun vs H Q _ => ∃ (v u : V) (p many : Nat) (f : F) (r : Row) (i : Nat), vs = [v, u, .int i] ∧ DecAt many H n v p f ∧ RowAt H u r ∧ r.length = many ∧ i < many ∧ many ≤ 100 ∧ ∀ H', Same H H' → Q (.bl (f r != f (turn r i))) H'
theorem sc_L_sways : FnScope ["_law_decision_here", "_law_line", "_law_wish"] ["_law_decision_here", "_law_line", "_law_wish"] (defScope s_L_sways) := ⟨rfl, rfl, rfl, by decide +kernel, rfl, by decide +kernel, by decide +kernel⟩
theorem ok_L_sways {n : Nat} (D : Def K mg "_law_sways" "_law_sways" s_L_sways []) (G_L_answer : Cal P w K mg base n "_law_answer" (spAns n)) (G_L_turned : Cal P w K mg base 1 "_law_turned" spTurned) : Cal P w K mg base (n + 2) "_law_sways" (spSways n) := by
  refine D.cal sc_L_sways (fun _ _ _ _ _ _ us hl => match us, hl with | [_, _, _], _ => rfl) (fun vs H Q E h => ?_) (fun f0 cdv A outer s H vs Q E hr h => ?_)
  · obtain ⟨v, u, p, many, f, r, i, rfl, _⟩ := h
    rfl
  obtain ⟨v, u, p, many, f, r, i, rfl, hd, hu, hlen, hi, h100, q⟩ := h
  refine ⟨_, (pss_one (ps_ret (pe_cmpR op_ne (pe_c G_L_answer hr (by omega) rfl (pa_cons (pv 0) (pa_cons (pv 1) pa_nil))) (pe_c G_L_answer hr (by omega) rfl (pa_cons (pv 0) (pa_cons (pe_c G_L_turned hr (by omega) rfl (pa_cons (pv 1) (pa_cons (pv 2) pa_nil))) pa_nil))) (nomark _)))), ?_⟩
  refine ⟨_, rfl, _, rfl, v, u, p, many, f, r, rfl, hd, hu, hlen, fun H1 s1 => ?_⟩
  refine ⟨_, rfl, _, rfl, _, rfl, u, r, i, rfl, hu.mono s1, by omega, by omega, fun u2 H2 s2 hu2 => ?_⟩
  refine ⟨v, u2, p, many, f, turn r i, rfl, hd.mono (s1.trans s2), hu2, by rw [turn_length (by omega), hlen], fun H3 s3 => ⟨rfl, ?_⟩⟩
  exact qbl (bne_bl _ _) (q _ ((s1.trans s2).trans s3))
end
end Ea

set_option maxHeartbeats 4000000
namespace Ea
open PySem PySem.Spec PyProof.Rows L2
def cScope : Expr → Scope → Scope
  | .ListComp _ _ sc _, _ => sc
  | _, sc => sc
def scAll : Scope := match defBody s_L_all_rows with
  | [.Return (some e) _] => cScope e (defScope s_L_all_rows)
  | _ => defScope s_L_all_rows
def bitR (m : Nat) (x : Nat) : Row := (List.range m).map fun k : Nat => decide (Builtin.bitAnd ((x : Int) / 2 ^ ((m : Int) - 1 - (k : Int)).toNat) 1 = 1)
def allR (m : Nat) : List Row := (List.range (2 ^ m)).map (bitR m)
theorem allR_len {m : Nat} : ∀ r ∈ allR m, r.length = m := by
  intro r hr
  obtain ⟨x, _, rfl⟩ := List.mem_map.mp hr
  unfold bitR
  rw [List.length_map, List.length_range]
theorem allR_length (m : Nat) : (allR m).length = 2 ^ m := by
  unfold allR
  rw [List.length_map, List.length_range]
theorem allR_nodup {m : Nat} (h1 : 1 ≤ m) (h5 : m ≤ 5) : (allR m).Nodup := by
  have h : m = 1 ∨ m = 2 ∨ m = 3 ∨ m = 4 ∨ m = 5 := by omega
  rcases h with rfl | rfl | rfl | rfl | rfl <;> decide +kernel
theorem pow5 {m : Nat} (h5 : m ≤ 5) : 2 ^ m ≤ 32 := Nat.pow_le_pow_right (by decide) h5
def spAllRows : Sp := fun vs H Q _ => ∃ (m : Nat), vs = [.int m] ∧ 1 ≤ m ∧ m ≤ 5 ∧ ∀ (l : Addr) (ys : List V) (H' : Hp), Same H H' → H l = none → H' l = some (.lst ys) → RowsAt H' ys (allR m) → Q (.ref l) H'
section
variable {P : Program} {w : World} {K : PySem.W.Frag} {mg : Str → Option Value} {base : Heap}
theorem sc_L_all_rows : FnScope ["_law_many", "_law_number", "_law_k"] ["_law_many"] (defScope s_L_all_rows) := ⟨rfl, rfl, rfl, by decide +kernel, rfl, by decide +kernel, by decide +kernel⟩
theorem ok_L_all_rows (T0 : Txt mg) (D : Def K mg "_law_all_rows" "_law_all_rows" s_L_all_rows []) : Cal P w K mg base 1 "_law_all_rows" spAllRows := by
  refine D.cal sc_L_all_rows (fun _ _ _ _ _ _ us hl => match us, hl with | [_], _ => rfl) (fun vs H Q E h => ?_) (fun f0 cdv A outer s H vs Q E hr h => ?_)
  · obtain ⟨m, rfl, _⟩ := h
    rfl
  obtain ⟨m, rfl, m1, m5, q⟩ := h
  refine ⟨_, (pss_one (ps_ret (pe_lc (own := [("_law_number", 1)]) (g := gName 1) (tt := tYes) rfl sc_L_all_rows.nd (pi_range1 rfl T0.range (pa_cons (pe_op op_shl pe_int (pv 0)) pa_nil)) (blkOk_by (own := [("_law_number", 1)]) (N := ["_law_many", "_law_number", "_law_k"]) (sc := defScope s_L_all_rows) (by decide +kernel)) (fun _ _ _ _ _ => pg_name (i := 1) sc_L_all_rows.nd rfl (Or.inr rfl)) (fun _ _ _ _ _ => pts_nil) (fun _ _ _ _ _ => (pe_callTy (kTup K rfl) (by rfl) T0.tuple (by decide +kernel) (pa_cons (pe_lc (own := [("_law_k", 2)]) (g := gName 2) (tt := tYes) rfl sc_L_all_rows.nd (pi_range1 rfl T0.range (pa_cons (pv 0) pa_nil)) (blkOk_by (own := [("_law_k", 2)]) (N := ["_law_many", "_law_number", "_law_k"]) (sc := relS scAll (defScope s_L_all_rows)) (by decide +kernel)) (fun _ _ _ _ _ => pg_name (i := 2) sc_L_all_rows.nd rfl (Or.inl rfl)) (fun _ _ _ _ _ => pts_nil) (fun _ _ _ _ _ => (pe_cmpR op_eq (pe_op op_and (pe_op op_shr (pv 1) (pe_op op_sub (pe_op op_sub (pv 0) pe_int) (pv 2))) pe_int) pe_int (nomark _)))) pa_nil)))))), ?_⟩
  have hpow : ((1 : Int) * 2 ^ ((m : Nat) : Int).toNat) = ((2 ^ m : Nat) : Int) := by
    rw [Int.toNat_natCast, Int.one_mul]
    exact (Int.natCast_pow 2 m).symm
  have p5 := pow5 m5
  have hn : ((1 : Int) * 2 ^ ((m : Nat) : Int).toNat).toNat = 2 ^ m := by rw [hpow]; exact Int.toNat_natCast _
  have hlo : -(2 ^ 62) ≤ ((2 ^ m : Nat) : Int) ∧ ((2 ^ m : Nat) : Int) < 2 ^ 62 := by
    generalize 2 ^ m = z at p5
    omega
  refine ⟨_, rfl, _, _, rfl, rfl, ⟨by omega, by omega, by decide⟩, _, rfl, ?_, ?_, fun L hL => ?_⟩
  · rw [hpow]
    exact hlo.1
  · rw [hpow]
    exact hlo.2
  refine lc_range (lo := 0) (n := ((1 : Int) * 2 ^ ((m : Nat) : Int).toNat).toNat) (fun i H' => Same H H' ∧ ∃ zs, H' L = some (.lst zs) ∧ RowsAt H' zs ((List.range i).map (bitR m)))
    ⟨same_new hL _, [], upd_same, .nil⟩ ?_ ?_
  · rintro i H' hi ⟨s1, zs, hz, hpz⟩
    rw [hn] at hi
    refine ⟨rfl, ?_⟩
    refine ⟨_, rfl, _, rfl, by omega, by omega, fun L2 hL2 => ?_⟩
    refine lc_range (lo := 0) (n := ((m : Nat) : Int).toNat) (fun j H2 => Same H' H2 ∧ H2 L2 = some (.lst (((List.range j).map fun k : Nat => decide (Builtin.bitAnd (((i : Nat) : Int) / 2 ^ ((m : Int) - 1 - (k : Int)).toNat) 1 = 1)).map V.bl)))
      ⟨same_new hL2 _, upd_same⟩ ?_ ?_
    · rintro j H2 hj ⟨s2, hz2⟩
      rw [Int.toNat_natCast] at hj
      refine ⟨rfl, ?_⟩
      refine ⟨_, rfl, _, rfl, _, _, rfl, rfl, _, rfl, _, _, rfl, rfl, _, _, rfl, rfl, by omega, _, _, rfl, rfl, rfl, _, hz2, ?_, ?_⟩
      · rw [List.length_map, List.length_map, List.length_range]
        exact small1000 (by omega)
      · refine ⟨same_upd s2 hL2 _, ?_⟩
        rw [upd_same, List.range_succ, List.map_append, List.map_append]
        have e : (decide (V.int (Builtin.bitAnd ((0 + (i : Int)) / 2 ^ ((m : Int) - 1 - (0 + (j : Int))).toNat) 1) = V.int 1)) = decide (Builtin.bitAnd (((i : Nat) : Int) / 2 ^ ((m : Int) - 1 - (j : Int)).toNat) 1 = 1) := by
          rw [Int.zero_add, Int.zero_add]
          exact decide_eq_decide.mpr ⟨V.int.inj, congrArg V.int⟩
        exact congrArg (fun b => some (HO.lst (_ ++ [V.bl b]))) e
    · rintro H2 ⟨s2, hz2⟩
      refine ⟨L2, _, rfl, .inl ⟨SqL.of hz2, fun t ht => ?_⟩⟩
      have s3 := same_new ht (.tup (((List.range ((m : Nat) : Int).toNat).map fun k : Nat => decide (Builtin.bitAnd (((i : Nat) : Int) / 2 ^ ((m : Int) - 1 - (k : Int)).toNat) 1 = 1)).map V.bl))
      have s23 := s2.trans s3
      have hz3 := s23 _ _ hz
      have tl : ∀ ts, upd H2 t (.tup (((List.range ((m : Nat) : Int).toNat).map fun k : Nat => decide (Builtin.bitAnd (((i : Nat) : Int) / 2 ^ ((m : Int) - 1 - (k : Int)).toNat) 1 = 1)).map V.bl)) L ≠ some (.tup ts) := fun ts e => by
        rw [hz3] at e
        exact nomatch e
      have ntL : t ≠ L := (ne_of_none (s2 _ _ hz) ht).symm
      have tt := TSame.put (Same.t s23) tl (.lst (zs ++ [.ref t]))
      refine ⟨zs, hz3, ?_, same_upd (s1.trans s23) hL _, _, upd_same, ?_⟩
      · rw [Paired.length hpz, List.length_map, List.length_range]
        exact small1000 (by omega)
      · rw [List.range_succ, List.map_append]
        refine paired_snoc (RowsAt.monoT hpz tt) ⟨t, rfl, ?_⟩
        rw [upd_ne ntL, upd_same, Int.toNat_natCast]
        rfl
  · rintro H' ⟨s1, zs, hz, hpz⟩
    rw [hn] at hpz
    exact q L zs H' s1 hL hz hpz
end
end Ea

set_option maxHeartbeats 4000000
namespace Ea
open PySem PySem.Spec PyProof.Rows L2
/-- a list at L is being filled with some of the first i of rs, in order; the pool at p may turn -/
def Filt (p L : Addr) (H0 : Hp) (rs : List Row) (i : Nat) (H' : Hp) : Prop := Keep p H0 H' ∧ PoolAt H' p ∧ ∃ zs rs1, H' L = some (.lst zs) ∧ RowsAt H' zs rs1 ∧ rs1.Sublist (rs.take i)
theorem Filt.start {p L : Addr} {H0 : Hp} {rs : List Row} (hp : PoolAt H0 p) (hL : H0 L = none) : Filt p L H0 rs 0 (upd H0 L (.lst [])) :=
  ⟨Same.keep (same_new hL _), hp.put (hp.ne hL), [], [], upd_same, .nil, List.Sublist.refl []⟩
theorem Filt.drop {p L : Addr} {H0 H' : Hp} {rs : List Row} {i : Nat} (h : Filt p L H0 rs i H') : Filt p L H0 rs (i + 1) H' := by
  obtain ⟨k, hp, zs, rs1, hz, hr, hs⟩ := h
  refine ⟨k, hp, zs, rs1, hz, hr, hs.trans ?_⟩
  rw [List.take_add_one]
  exact List.sublist_append_left _ _
theorem Filt.later {p L : Addr} {H0 H' H3 : Hp} {rs : List Row} {i : Nat} (h : Filt p L H0 rs i H') (k3 : Keep p H' H3) (hp3 : PoolAt H3 p) (nL : L ≠ p) : Filt p L H0 rs i H3 := by
  obtain ⟨k, hp, zs, rs1, hz, hr, hs⟩ := h
  exact ⟨k.trans k3, hp3, zs, rs1, k3 _ _ nL hz, hr.monoT (Keep.t k3 hp), hs⟩
theorem Filt.more {p L : Addr} {H0 H' : Hp} {rs : List Row} {i : Nat} {r : Row} {y : V} (h : Filt p L H0 rs i H') (hL : H0 L = none) (nL : L ≠ p) (hi : rs[i]? = some r) (hy : RowAt H' y r) : ∃ zs, H' L = some (.lst zs) ∧ zs.length ≤ i ∧ Filt p L H0 rs (i + 1) (upd H' L (.lst (zs ++ [y]))) := by
  obtain ⟨k, hp, zs, rs1, hz, hr, hs⟩ := h
  have tl : ∀ ts, H' L ≠ some (.tup ts) := fun ts e => by
    rw [hz] at e
    exact nomatch e
  have tt := TSame.put (fun _ _ e => e : TSame H' H') tl (.lst (zs ++ [y]))
  refine ⟨zs, hz, ?_, keep_upd k hL _, hp.put nL, _, rs1 ++ [r], upd_same, paired_snoc (hr.monoT tt) (hy.monoT tt), ?_⟩
  · have h1 := Paired.length hr
    have h2 := hs.length_le
    rw [List.length_take] at h2
    omega
  · rw [take_succ_get hi]
    exact List.Sublist.append hs (List.Sublist.refl _)
theorem atI_last1 {r : Row} (h : 1 ≤ r.length) : ∃ b, atI (r.map V.bl) (-1) = some (.bl b) := by
  refine ⟨r.getD (r.length - 1) false, ?_⟩
  have e : ixN (r.map V.bl).length (-1) = some (r.length - 1) := by
    unfold ixN
    rw [if_neg (by decide), List.length_map, if_pos (by omega)]
    congr 1
    omega
  unfold atI
  rw [e]
  exact getD_of (by omega)
def spRowsOf : Sp := fun vs H Q _ => ∃ (p : Addr) (m : Nat), vs = [.ref p, .int m, .int 32] ∧ PoolAt H p ∧ 1 ≤ m ∧ m ≤ 5 ∧
  ∀ (l : Addr) (ys : List V) (rs : List Row) (H' : Hp), Keep p H H' → PoolAt H' p → H l = none → H' l = some (.lst ys) → RowsAt H' ys rs → (∀ r ∈ rs, r.length = m) → rs.Nodup → rs ≠ [] → rs.length ≤ 32 → Q (.ref l) H'
theorem cut_all {xs : List V} (h : xs.length ≤ 32) : cutV xs none (some 32) = xs := by
  have e : HT.sIx xs.length xs.length (some ((32 : Nat) : Int)) = xs.length := by
    rw [HT.sIx_nat]
    omega
  unfold cutV
  rw [HT.sIx_none, List.drop_zero, Nat.sub_zero]
  show xs.take (HT.sIx xs.length xs.length (some ((32 : Nat) : Int))) = xs
  rw [e, List.take_length]
theorem cut_one (xs : List V) : cutV xs none (some 1) = xs.take 1 := by
  have e : HT.sIx xs.length xs.length (some ((1 : Nat) : Int)) = min 1 xs.length := HT.sIx_nat _ _ _
  unfold cutV
  rw [HT.sIx_none, List.drop_zero, Nat.sub_zero]
  show xs.take (HT.sIx xs.length xs.length (some ((1 : Nat) : Int))) = _
  rw [e]
  cases xs with
  | nil => rfl
  | cons x xs => rw [Nat.min_eq_left (by simp)]
/-- some rows, at most thirty-two, none twice, so many truths each -/
structure RowsOk (m : Nat) (rs : List Row) : Prop where
  len : ∀ r ∈ rs, r.length = m
  nd : rs.Nodup
  few : rs.length ≤ 32
theorem RowsOk.sub {m : Nat} {rs : List Row} (m1 : 1 ≤ m) (m5 : m ≤ 5) (h : rs.Sublist (allR m)) : RowsOk m rs := by
  refine ⟨fun r hr => allR_len r (h.subset hr), h.nodup (allR_nodup m1 m5), ?_⟩
  have h1 := h.length_le
  rw [allR_length] at h1
  have := pow5 m5
  omega
theorem allR_ne (m : Nat) : allR m ≠ [] := by
  intro e
  have h := allR_length m
  rw [e] at h
  have : 0 < 2 ^ m := Nat.pow_pos (by decide)
  simp at h
  omega
def Mid (p le : Addr) (m : Nat) (way : Int) (ys : List V) (H : Hp) : L2.St → Hp → Prop := fun σ H' => ∃ (v5 v7 : Option V) (ls : Addr) (zs : List V) (rs1 : List Row), σ = [some (.ref p), some (.int m), some (.int 32), some (.ref le), some (.int way), v5, some (.ref ls), v7, none] ∧
  Keep p H H' ∧ PoolAt H' p ∧ H' le = some (.lst ys) ∧ RowsAt H' ys (allR m) ∧ ls ≠ p ∧ H' ls = some (.lst zs) ∧ RowsAt H' zs rs1 ∧ rs1.Sublist (allR m)
section
variable {P : Program} {w : World} {K : PySem.W.Frag} {mg : Str → Option Value} {base : Heap}
theorem sc_L_rows_of : FnScope ["_law_pool_here", "_law_many", "_law_most", "_law_every", "_law_way", "_law_line", "_law_some", "_law_at", "_law_found"] ["_law_pool_here", "_law_many", "_law_most"] (defScope s_L_rows_of) := ⟨rfl, rfl, rfl, by decide +kernel, rfl, by decide +kernel, by decide +kernel⟩
theorem ok_L_rows_of (T0 : Txt mg) (D : Def K mg "_law_rows_of" "_law_rows_of" s_L_rows_of []) (G_L_take : Cal P w K mg base 1 "_law_take" spTake) (G_L_all_rows : Cal P w K mg base 1 "_law_all_rows" spAllRows) : Cal P w K mg base 2 "_law_rows_of" spRowsOf := by
  refine D.cal sc_L_rows_of (fun _ _ _ _ _ _ us hl => match us, hl with | [_, _, _], _ => rfl) (fun vs H Q E h => ?_) (fun f0 cdv A outer s H vs Q E hr h => ?_)
  · obtain ⟨p, m, rfl, _⟩ := h
    rfl
  obtain ⟨p, m, rfl, hp, m1, m5, q⟩ := h
  refine ⟨_, (pss_cons (ps_set (i := 3) sc_L_rows_of.nd rfl (Or.inl rfl) (pe_c G_L_all_rows hr (by omega) rfl (pa_cons (pv 1) pa_nil)))
      (pss_cons (ps_set (i := 4) sc_L_rows_of.nd rfl (Or.inl rfl) (pe_c G_L_take hr (by omega) rfl (pa_cons (pv 0) (pa_cons pe_int pa_nil))))
      (pss_cons (ps_if (PW.pt (pw_and (pt_cmpR op_eq (pv 4) pe_int (nomark _)) (pw_and1 (pt_cmpR op_le (pe_callB (kLen K rfl) (by rfl) T0.len (by decide +kernel) (pa_cons (pv 3) pa_nil)) (pv 2) (nomark _))))) (pss_one (ps_ret (pv 3))) pss_nil)
      (pss_cons (ps_setLc (i := 6) (own := [("_law_line", 5)]) (g := gName 5) rfl sc_L_rows_of.nd rfl rfl (sw_true rfl rfl rfl (by decide +kernel)) (kiList K rfl (pv 3)) (blkOk_by (own := [("_law_line", 5)]) (N := ["_law_pool_here", "_law_many", "_law_most", "_law_every", "_law_way", "_law_line", "_law_some", "_law_at", "_law_found"]) (sc := defScope s_L_rows_of) (by decide +kernel)) (fun _ _ _ _ _ => pg_name (i := 5) sc_L_rows_of.nd rfl (Or.inl rfl)) (fun _ _ _ _ _ => pts_one (pt_cmpR op_gt (pe_c G_L_take hr (by omega) rfl (pa_cons (pv 0) (pa_cons pe_int pa_nil))) pe_int (nomark _))) (fun _ _ _ _ _ => (pv 5)))
      (C8.pss_cut (ps_if (pt_cmpR op_eq (pv 4) pe_int (nomark _)) (pss_one (ps_setLc (i := 6) (own := [("_law_line", 5)]) (g := gName 5) rfl sc_L_rows_of.nd rfl rfl (sw_true rfl rfl rfl (by decide +kernel)) (kiList K rfl (pv 3)) (blkOk_by (own := [("_law_line", 5)]) (N := ["_law_pool_here", "_law_many", "_law_most", "_law_every", "_law_way", "_law_line", "_law_some", "_law_at", "_law_found"]) (sc := defScope s_L_rows_of) (by decide +kernel)) (fun _ _ _ _ _ => pg_name (i := 5) sc_L_rows_of.nd rfl (Or.inl rfl)) (fun _ _ _ _ _ => pts_one (pt_cmpR op_eq (pe_c G_L_take hr (by omega) rfl (pa_cons (pv 0) (pa_cons pe_int pa_nil))) pe_int (nomark _))) (fun _ _ _ _ _ => (pv 5)))) pss_nil)
      (C8.pss_cut (ps_if (pt_cmpR op_eq (pv 4) pe_int (nomark _)) (pss_cons (ps_set (i := 7) sc_L_rows_of.nd rfl (Or.inr rfl) (pe_c G_L_take hr (by omega) rfl (pa_cons (pv 0) (pa_cons (pv 1) pa_nil))))
      (pss_one (ps_setLc (i := 6) (own := [("_law_line", 5)]) (g := gName 5) rfl sc_L_rows_of.nd rfl rfl (sw_true rfl rfl rfl (by decide +kernel)) (kiList K rfl (pv 6)) (blkOk_by (own := [("_law_line", 5)]) (N := ["_law_pool_here", "_law_many", "_law_most", "_law_every", "_law_way", "_law_line", "_law_some", "_law_at", "_law_found"]) (sc := defScope s_L_rows_of) (by decide +kernel)) (fun _ _ _ _ _ => pg_name (i := 5) sc_L_rows_of.nd rfl (Or.inl rfl)) (fun _ _ _ _ _ => pts_one (PW.pt (pw_or (pt_cmpR op_eq (pe_ix (kIxT K rfl) (pv 5) (pv 7) (fun _ _ => rfl)) (pe_ix (kIxT K rfl) (pv 5) pe_int (fun _ _ => rfl)) (nomark _)) (pw_or1 (pt_val (pe_ix (kIxT K rfl) (pv 5) (pe_un un_neg pe_int) (fun _ _ => rfl))))))) (fun _ _ _ _ _ => (pv 5))))) pss_nil)
      (C8.pss_cut (ps_if (pt_cmpR (kEqL K rfl (u8 hr)) (pv 6) (pe_lst pa_nil) (nomark _)) (pss_one (ps_set (i := 6) sc_L_rows_of.nd rfl (Or.inl rfl) (pe_slice (kSlL K rfl) (pv 3) po_none (po_some pe_int)))) pss_nil)
      (pss_cons (ps_set (i := 8) sc_L_rows_of.nd rfl (Or.inl rfl) (pe_lst pa_nil))
      (pss_cons (ps_for PassesOwn.never rfl (kiList K rfl (pv 6)) (pg_name (i := 5) sc_L_rows_of.nd rfl (Or.inl rfl))
      (pss_one (ps_expr (pe_bm PySem.F.plainAttrs_list PySem.F.slot_list_insert PySem.F.type_list_insert mt_insert (pv 8) (pa_cons (pe_c G_L_take hr (by omega) rfl (pa_cons (pv 0) (pa_cons (pe_op op_add (pe_callB (kLen K rfl) (by rfl) T0.len (by decide +kernel) (pa_cons (pv 8) pa_nil)) pe_int) pa_nil))) (pa_cons (pv 5) pa_nil))))))
      (pss_one (ps_ret (pe_slice (kSlL K rfl) (pv 8) po_none (po_some (pv 2)))))))))))))), ?_⟩
  refine ⟨_, rfl, m, rfl, m1, m5, fun le ys H1 s1 hle0 hle hys => ?_⟩
  have nle : le ≠ p := hp.ne hle0
  have hp1 := hp.mono s1
  refine ⟨_, rfl, p, 4, rfl, hp1, by decide, by decide, fun way H2 k2 hp2 w0 w4 => ?_⟩
  have k12 : Keep p H H2 := (Same.keep s1).trans k2
  have hle2 := k2 _ _ nle hle
  have hys2 := hys.monoT (Keep.t k2 hp1)
  have hlen := Paired.length hys
  have hl32 : ys.length ≤ 32 := by
    rw [hlen, allR_length]
    exact pow5 m5
  refine ⟨_, rfl, rfl, _, rfl, ite2 (fun c => ?_) (fun c => ?_)⟩
  · have ok := RowsOk.sub m1 m5 (List.Sublist.refl (allR m))
    refine ⟨_, rfl, le, ys, rfl, .inl (SqL.of hle2), _, rfl, _, _, rfl, rfl, _, rfl, iteY (decide_eq_true (by omega)) ?_⟩
    exact ⟨_, rfl, q le ys (allR m) H2 k12 hp2 hle0 hle2 hys2 ok.len ok.nd (allR_ne m) ok.few⟩
  refine iteF ?_
  -- some = [line for line in every if take(pool, 4) > 0]
  refine ⟨_, rfl, le, rfl, ⟨_, SqL.of hle2⟩, fun L hL => ?_⟩
  have nL : L ≠ p := hp2.ne hL
  have nLle : le ≠ L := ne_of_none hle2 hL
  refine lc_list (K := K) (a := le) (xs := ys) (fun i H' => Filt p L H2 (allR m) i H') (Filt.start hp2 hL) (fun i H' _ z => SqL.of (z.1 _ _ nle hle2)) ?_ ?_
  · rintro i y H' hy hf
    obtain ⟨r, hr2, hyr⟩ := paired_get hys2 hy
    refine ⟨rfl, ?_⟩
    refine ⟨_, rfl, p, 4, rfl, hf.2.1, by decide, by decide, fun d H3 k3 hp3 d0 d4 => ?_⟩
    have hf3 := hf.later k3 hp3 nL
    refine ⟨_, _, rfl, rfl, _, rfl, ite2 (fun c => ?_) (fun c => hf3.drop)⟩
    obtain ⟨zs, hz, hzl, hm⟩ := hf3.more hL nL hr2 (hyr.monoT (Keep.t hf3.1 hp2))
    exact ⟨_, rfl, zs, hz, small1000 (by have := lt_of_get hy; omega), hm⟩
  rintro H3 ⟨k3, hp3, zs, rs1, hz, hzs, hsub⟩
  rw [hlen, List.take_length] at hsub
  have t3 := Keep.t k3 hp2
  -- if way == 1
  refine ⟨Mid p le m way ys H, ⟨_, rfl, rfl, _, rfl, ite2 (fun c => ?_) (fun c => ?_)⟩, ?_⟩
  · refine ⟨_, rfl, le, rfl, ⟨_, SqL.of (k3 _ _ nle hle2)⟩, fun L2 hL2 => ?_⟩
    have nL2 : L2 ≠ p := hp3.ne hL2
    refine lc_list (K := K) (a := le) (xs := ys) (fun i H' => Filt p L2 H3 (allR m) i H') (Filt.start hp3 hL2) (fun i H' _ z => SqL.of (z.1 _ _ nle (k3 _ _ nle hle2))) ?_ ?_
    · rintro i y H' hy hf
      obtain ⟨r, hr2, hyr⟩ := paired_get (hys2.monoT t3) hy
      refine ⟨rfl, ?_⟩
      refine ⟨_, rfl, p, 2, rfl, hf.2.1, by decide, by decide, fun d H4 k4 hp4 d0 d4 => ?_⟩
      have hf3 := hf.later k4 hp4 nL2
      refine ⟨rfl, _, rfl, ite2 (fun c => ?_) (fun c => hf3.drop)⟩
      obtain ⟨zs, hz, hzl, hm⟩ := hf3.more hL2 nL2 hr2 (hyr.monoT (Keep.t hf3.1 hp3))
      exact ⟨_, rfl, zs, hz, small1000 (by have := lt_of_get hy; omega), hm⟩
    · rintro H4 ⟨k4, hp4, zs4, rs4, hz4, hzs4, hsub4⟩
      rw [hlen, List.take_length] at hsub4
      exact ⟨_, _, L2, zs4, rs4, rfl, (k12.trans k3).trans k4, hp4, k4 _ _ nle (k3 _ _ nle hle2), hys2.monoT (t3.trans (Keep.t k4 hp3)), nL2, hz4, hzs4, hsub4⟩
  · exact ⟨_, _, L, zs, rs1, rfl, k12.trans k3, hp3, k3 _ _ nle hle2, hys2.monoT t3, nL, hz, hzs, hsub⟩
  clear hzs hz hsub t3 nLle nL hL hp3 k3
  rintro σ H3 ⟨v5, v7, ls, zs, rs1, rfl, k3, hp3, hle3, hys3, nls, hz, hzs, hsub⟩
  -- if way == 2
  refine ⟨Mid p le m way ys H, ⟨_, rfl, rfl, _, rfl, ite2 (fun c => ?_) (fun c => ?_)⟩, ?_⟩
  · refine ⟨_, rfl, _, rfl, p, m, rfl, hp3, by omega, by omega, fun at_ H4 k4 hp4 a0 a1 => ?_⟩
    obtain ⟨an, rfl⟩ : ∃ an : Nat, at_ = (an : Int) := ⟨at_.toNat, by omega⟩
    have t4 := Keep.t k4 hp3
    have hz4 := k4 _ _ nls hz
    have hzs4 := hzs.monoT t4
    refine ⟨_, rfl, ls, rfl, ⟨_, SqL.of hz4⟩, fun L2 hL2 => ?_⟩
    have nL2 : L2 ≠ p := hp4.ne hL2
    have hok := RowsOk.sub m1 m5 hsub
    refine lc_list (K := K) (a := ls) (xs := zs) (fun i H' => Filt p L2 H4 rs1 i H') (Filt.start hp4 hL2) (fun i H' _ z => SqL.of (z.1 _ _ nls hz4)) ?_ ?_
    · rintro i y H' hy hf
      obtain ⟨r, hr2, hyr⟩ := paired_get hzs4 hy
      have hrl := hok.len r (List.mem_of_getElem? hr2)
      have hyr2 := hyr.monoT (Keep.t hf.1 hp4)
      obtain ⟨zs5, hz5, hzl, hm⟩ := hf.more hL2 nL2 hr2 hyr2
      have hl5 : zs5.length < sizeLine := small1000 (by have h1 := lt_of_get hr2; have h2 := hok.few; omega)
      obtain ⟨b, rfl, hb⟩ := hyr2
      obtain ⟨bl, hbl⟩ := atI_last1 (r := r) (by omega)
      refine ⟨rfl, ?_⟩
      refine ⟨_, rfl, _, rfl, b, _, _, _, rfl, rfl, SqT.of hb, atI_nat (getD_of (by omega)), ?_⟩
      refine ⟨_, rfl, b, _, _, _, rfl, rfl, SqT.of hb, atI_nat (getD_of (i := 0) (by omega)), rfl, _, rfl, ite2 (fun c => ?_) (fun c => ?_)⟩
      · exact iteT ⟨_, rfl, zs5, hz5, hl5, hm⟩
      · refine ⟨_, rfl, _, rfl, b, _, _, _, rfl, rfl, SqT.of hb, hbl, bl, rfl, ?_⟩
        cases bl with
        | true => exact iteT ⟨_, rfl, zs5, hz5, hl5, hm⟩
        | false => exact iteF hf.drop
    · rintro H5 ⟨k5, hp5, zs5, rs5, hz5, hzs5, hsub5⟩
      rw [Paired.length hzs, List.take_length] at hsub5
      exact ⟨_, _, L2, zs5, rs5, rfl, (k3.trans k4).trans k5, hp5, k5 _ _ nle (k4 _ _ nle hle3), hys3.monoT (t4.trans (Keep.t k5 hp4)), nL2, hz5, hzs5, hsub5.trans hsub⟩
  · exact ⟨_, _, ls, zs, rs1, rfl, k3, hp3, hle3, hys3, nls, hz, hzs, hsub⟩
  clear hzs hz hsub hys3 hle3 nls hp3 k3
  rintro σ H3 ⟨v5, v7, ls, zs, rs1, rfl, k3, hp3, hle3, hys3, nls, hz, hzs, hsub⟩
  -- if some == []
  refine ⟨fun σ H' => ∃ (v5 v7 : Option V) (ls : Addr) (zs : List V) (rs1 : List Row), σ = [some (.ref p), some (.int m), some (.int 32), some (.ref le), some (.int way), v5, some (.ref ls), v7, none] ∧ Keep p H H' ∧ PoolAt H' p ∧ ls ≠ p ∧ H' ls = some (.lst zs) ∧ RowsAt H' zs rs1 ∧ rs1.Sublist (allR m) ∧ rs1 ≠ [], ?_, ?_⟩
  · refine ⟨_, rfl, Nat.zero_le _, fun t ht => ?_⟩
    have s4 := same_new ht (.lst [])
    refine ⟨ls, t, zs, rfl, rfl, SqL.of (s4 _ _ hz), SqL.of upd_same, _, rfl, ?_⟩
    cases hzs with
    | nil =>
      refine iteT ?_
      refine ⟨_, rfl, _, rfl, le, ys, rfl, SqL.of (s4 _ _ hle3), fun l2 hl2 => ?_⟩
      have s5 := same_new hl2 (.lst (cutV ys none (some 1)))
      have hp4 := hp3.mono s4
      refine ⟨_, _, l2, cutV ys none (some 1), (allR m).take 1, rfl, k3.trans (Same.keep (s4.trans s5)), hp4.mono s5, hp4.ne hl2, upd_same, ?_, List.take_sublist 1 _, ?_⟩
      · have e := paired_take 1 ((hys3.mono s4).mono s5)
        rw [← cut_one] at e
        exact e
      · have h := allR_ne m
        cases e : allR m with
        | nil => exact absurd e h
        | cons r rs => exact List.cons_ne_nil _ _
    | cons hz1 hz2 =>
      refine iteF ?_
      exact ⟨_, _, ls, _, _, rfl, k3.trans (Same.keep s4), hp3.mono s4, nls, s4 _ _ hz, RowsAt.mono (show RowsAt H3 _ _ from .cons hz1 hz2) s4, hsub, List.cons_ne_nil _ _⟩
  clear hzs hz hsub hys3 hle3 nls hp3 k3
  rintro σ H3 ⟨v5, v7, ls, zs, rs1, rfl, k3, hp3, nls, hz, hzs, hsub, hne⟩
  have hok := RowsOk.sub m1 m5 hsub
  -- the rows put in somewhere
  refine ⟨Nat.zero_le _, fun lf hlf => ?_⟩
  have nlf : lf ≠ p := hp3.ne hlf
  have lf0 : H lf = none := k3.free hp hlf nlf
  have s4 := same_new hlf (.lst [])
  have nlsf : ls ≠ lf := ne_of_none hz hlf
  refine ⟨_, rfl, ls, rfl, ⟨_, SqL.of (s4 _ _ hz)⟩, ?_⟩
  refine for_list (K := K) (a := ls) (xs := zs) (fun i σ H' => ∃ (v5 : Option V) (fs : List V) (frs : List Row), σ = [some (.ref p), some (.int m), some (.int 32), some (.ref le), some (.int way), v5, some (.ref ls), v7, some (.ref lf)] ∧ Keep p H3 H' ∧ PoolAt H' p ∧ H' lf = some (.lst fs) ∧ RowsAt H' fs frs ∧ frs.Perm (rs1.take i))
    ⟨_, [], [], rfl, Same.keep s4, hp3.put nlf, upd_same, .nil, List.Perm.refl _⟩ (fun i σ H' _ ⟨_, _, _, _, k, _⟩ => SqL.of (k _ _ nls hz)) ?_ ?_
  · rintro i y σ H' hy ⟨v5, fs, frs, rfl, k5, hp5, hfs, hfr, hperm⟩
    obtain ⟨r, hr2, hyr⟩ := paired_get hzs hy
    have hfl : fs.length ≤ 32 := by
      have h1 := Paired.length hfr
      have h2 := hperm.length_eq
      rw [List.length_take] at h2
      have h3 := hok.few
      omega
    refine ⟨_, rfl, .inl ⟨rfl, _, SqL.of hfs⟩, ?_⟩
    refine ⟨_, rfl, _, rfl, lf, fs, rfl, .inl (SqL.of hfs), _, _, rfl, rfl, p, _, rfl, hp5, by omega, by omega, fun d H6 k6 hp6 d0 d1 => ?_⟩
    have hfs6 := k6 _ _ nlf hfs
    refine ⟨_, rfl, lf, fs, d, y, rfl, rfl, hfs6, small1000 (by omega), d0, by omega, ?_⟩
    have tl : ∀ ts, H6 lf ≠ some (.tup ts) := fun ts e => by
      rw [hfs6] at e
      exact nomatch e
    have t6 := Keep.t k6 hp5
    have tt := TSame.put t6 tl (.lst (fs.take d.toNat ++ [y] ++ fs.drop d.toNat))
    refine ⟨_, _, frs.take d.toNat ++ [r] ++ frs.drop d.toNat, rfl, keep_upd (k5.trans k6) hlf _, hp6.put nlf, upd_same, ?_, ?_⟩
    · have hfr2 := hfr.monoT tt
      exact paired_append (paired_append (paired_take _ hfr2) (.cons (hyr.monoT ((Keep.t k5 hp3).trans tt)) .nil)) (paired_drop _ hfr2)
    · rw [take_succ_get hr2]
      have e1 : (frs.take d.toNat ++ [r] ++ frs.drop d.toNat).Perm (r :: frs) := by
        have h := List.perm_middle (a := r) (l₁ := frs.take d.toNat) (l₂ := frs.drop d.toNat)
        rw [List.take_append_drop] at h
        rw [List.append_assoc]
        exact h
      have e2 : (rs1.take i ++ [r]).Perm (r :: rs1.take i) := List.perm_append_comm
      exact e1.trans ((hperm.cons r).trans e2.symm)
  · rintro σ H4 ⟨v5, fs, frs, rfl, k5, hp5, hfs, hfr, hperm⟩
    rw [Paired.length hzs, List.take_length] at hperm
    have hfl : fs.length ≤ 32 := by
      have h1 := Paired.length hfr
      have h2 := hperm.length_eq
      have h3 := hok.few
      omega
    refine ⟨_, rfl, _, rfl, _, rfl, lf, fs, rfl, SqL.of hfs, fun l2 hl2 => ?_⟩
    have s6 := same_new hl2 (.lst (cutV fs none (some 32)))
    have k35 := k3.trans k5
    refine q l2 fs frs _ (k35.trans (Same.keep s6)) (hp5.mono s6) (k35.free hp hl2 (hp5.ne hl2)) ?_ (hfr.mono s6) (fun r hr => hok.len r (hperm.mem_iff.mp hr)) (hperm.nodup_iff.mpr hok.nd) ?_ ?_
    · have e := cut_all hfl
      show upd H4 l2 (.lst (cutV fs none (some 32))) l2 = _
      rw [e]
      exact upd_same
    · intro e
      rw [e] at hperm
      exact hne (List.Perm.nil_eq hperm).symm
    · rw [hperm.length_eq]
      exact hok.few
end
end Ea

set_option maxHeartbeats 4000000
namespace Ea
open PySem PySem.Spec PyProof.Rows L2
/-- the law's own list of a case: how many wishes, the decision, the rows -/
def CList (H : Hp) (l : Addr) (k : Kase) : Prop := k.Ok ∧ ∃ (v : V) (a : Addr) (ys : List V), H l = some (.lst [.int k.many, v, .ref a]) ∧ DecAt k.many H k.n v k.p k.f ∧ H a = some (.lst ys) ∧ RowsAt H ys k.rs
theorem CList.mono {H H' : Hp} {l : Addr} {k : Kase} (c : CList H l k) (s : Same H H') : CList H' l k := by
  obtain ⟨ok, v, a, ys, h1, h2, h3, h4⟩ := c
  exact ⟨ok, v, a, ys, s _ _ h1, h2.mono s, s _ _ h3, h4.mono s⟩
def spLCase : Sp := fun vs H Q _ => ∃ (p : Addr), vs = [.ref p, .int 5, .int 32] ∧ PoolAt H p ∧ ∀ (l : Addr) (k : Kase) (H' : Hp), Keep p H H' → H l = none → CList H' l k → Q (.ref l) H'
section
variable {P : Program} {w : World} {K : PySem.W.Frag} {mg : Str → Option Value} {base : Heap}
theorem sc_L_case : FnScope ["_law_pool_here", "_law_wishes", "_law_most", "_law_many", "_law_decision_here"] ["_law_pool_here", "_law_wishes", "_law_most"] (defScope s_L_case) := ⟨rfl, rfl, rfl, by decide +kernel, rfl, by decide +kernel, by decide +kernel⟩
theorem ok_L_case (D : Def K mg "_law_case" "_law_case" s_L_case []) (G_L_take : Cal P w K mg base 1 "_law_take" spTake) (G_L_decision : Cal P w K mg base 7 "_law_decision" (spLDec 6)) (G_L_rows_of : Cal P w K mg base 2 "_law_rows_of" spRowsOf) : Cal P w K mg base 8 "_law_case" spLCase := by
  refine D.cal sc_L_case (fun _ _ _ _ _ _ us hl => match us, hl with | [_, _, _], _ => rfl) (fun vs H Q E h => ?_) (fun f0 cdv A outer s H vs Q E hr h => ?_)
  · obtain ⟨p, rfl, _⟩ := h
    rfl
  obtain ⟨p, rfl, hp, q⟩ := h
  refine ⟨_, (pss_cons (ps_set (i := 3) sc_L_case.nd rfl (Or.inl rfl) (pe_op op_add pe_int (pe_c G_L_take hr (by omega) rfl (pa_cons (pv 0) (pa_cons (pv 1) pa_nil)))))
      (pss_cons (ps_set (i := 4) sc_L_case.nd rfl (Or.inl rfl) (pe_c G_L_decision hr (by omega) rfl (pa_cons (pv 0) (pa_cons (pv 3) (pa_cons (pe_op op_add pe_int (pe_c G_L_take hr (by omega) rfl (pa_cons (pv 0) (pa_cons pe_int pa_nil)))) (pa_cons (pe_op op_add pe_int (pe_c G_L_take hr (by omega) rfl (pa_cons (pv 0) (pa_cons pe_int pa_nil)))) pa_nil))))))
      (pss_one (ps_ret (pe_lst (pa_cons (pv 3) (pa_cons (pv 4) (pa_cons (pe_c G_L_rows_of hr (by omega) rfl (pa_cons (pv 0) (pa_cons (pv 3) (pa_cons (pv 2) pa_nil)))) pa_nil)))))))), ?_⟩
  refine ⟨_, rfl, _, rfl, p, 5, rfl, hp, by decide, by decide, fun d H1 k1 hp1 d0 d5 => ?_⟩
  obtain ⟨dn, rfl⟩ : ∃ dn : Nat, d = (dn : Int) := ⟨d.toNat, by omega⟩
  refine ⟨_, _, rfl, rfl, ?_⟩
  refine ⟨_, rfl, _, rfl, _, rfl, p, 30, rfl, hp1, by decide, by decide, fun d2 H2 k2 hp2 d20 d230 => ⟨_, _, rfl, rfl, ?_⟩⟩
  refine ⟨_, rfl, p, 5, rfl, hp2, by decide, by decide, fun d3 H3 k3 hp3 d30 d35 => ⟨_, _, rfl, rfl, ?_⟩⟩
  obtain ⟨en, rfl⟩ : ∃ en : Nat, d3 = (en : Int) := ⟨d3.toNat, by omega⟩
  refine ⟨p, 1 + dn, 2 + en, 2 + d2, ?_, hp3, by omega, by omega, by omega, by omega, by omega, by omega, fun v c f H4 k4 hp4 hd hc => ?_⟩
  · show [V.ref p, V.int (1 + (dn : Int)), V.int (2 + d2), V.int (2 + (en : Int))] = _
    rw [show (1 + (dn : Int)) = ((1 + dn : Nat) : Int) by omega, show (2 + (en : Int)) = ((2 + en : Nat) : Int) by omega]
  refine ⟨_, rfl, _, rfl, _, rfl, _, rfl, _, rfl, p, 1 + dn, ?_, hp4, by omega, by omega, fun a ys rs H5 k5 hp5 ha0 ha hrs hlen hnd hne hfew => ?_⟩
  · show [V.ref p, V.int (1 + (dn : Int)), V.int 32] = _
    rw [show (1 + (dn : Int)) = ((1 + dn : Nat) : Int) by omega]
  refine ⟨by show 3 ≤ sizeLine; decide, fun l hl => ?_⟩
  have kk := (((k1.trans k2).trans k3).trans k4).trans k5
  have s6 := same_new hl (.lst [.int (1 + (dn : Int)), v, .ref a])
  have nl := hp5.ne hl
  refine q l ⟨1 + dn, 2 + en, c, f, rs⟩ _ (kk.trans (Same.keep s6)) (kk.free hp hl nl) ⟨⟨by show 1 ≤ 1 + dn; omega, by show 1 + dn ≤ 5; omega, by show 2 + en ≤ 12; omega, by show c ≤ 60; omega, hlen, hnd, hne, hfew⟩, v, a, ys, ?_, ?_, s6 _ _ ha, hrs.mono s6⟩
  · show upd H5 l (.lst [.int (1 + (dn : Int)), v, .ref a]) l = some (.lst [.int ((1 + dn : Nat) : Int), v, .ref a])
    rw [upd_same, show (1 + (dn : Int)) = ((1 + dn : Nat) : Int) by omega]
  · exact (DecAt.monoT (Keep.t k5 hp4) hd).mono s6
end
end Ea

set_option maxHeartbeats 4000000
namespace Ea
open PySem PySem.Spec PyProof.Rows L2
/-- the twins' test, the first n rows -/
def cT (k : Kase) (i : Nat) (r : Row) : Bool := !r.getD i false && decide (turn r i ∈ k.rs)
def tT (i : Nat) (r : Row) : Row × Row := (r, turn r i)
def gT (k : Kase) (p : Row × Row) : Bool := k.f p.1 != k.f p.2
def lT (k : Kase) (i : Nat) (p : Row × Row) : Row × Bool := (del p.1 i, k.f p.1)
def puTo (k : Kase) (i n : Nat) : List (Row × Row) := ((((srt k.rs).take n).filter (cT k i)).map (tT i)).filter (gT k)
def tuTo (k : Kase) (i n : Nat) : List (Row × Bool) := ((((srt k.rs).take n).filter (cT k i)).map (tT i)).map (lT k i)
theorem puTo_all (k : Kase) (i : Nat) : puTo k i (srt k.rs).length = pairsM k i := by
  unfold puTo
  rw [List.take_length]
  rfl
theorem tuTo_all (k : Kase) (i : Nat) : tuTo k i (srt k.rs).length = tableM k i := by
  unfold tuTo
  rw [List.take_length]
  rfl
theorem puTo_no {k : Kase} {i n : Nat} {r : Row} (h : (srt k.rs)[n]? = some r) (c : (cT k i r && gT k (tT i r)) = false) : puTo k i (n + 1) = puTo k i n := by
  unfold puTo
  rw [take_succ_get h, List.filter_append, List.map_append, List.filter_append]
  cases e : cT k i r with
  | false => rw [filter_no e, List.map_nil, List.filter_nil, List.append_nil]
  | true =>
    rw [e, Bool.true_and] at c
    rw [filter_yes e, List.map_cons, List.map_nil, filter_no c, List.append_nil]
theorem puTo_yes {k : Kase} {i n : Nat} {r : Row} (h : (srt k.rs)[n]? = some r) (c : cT k i r = true) (g : gT k (tT i r) = true) : puTo k i (n + 1) = puTo k i n ++ [tT i r] := by
  unfold puTo
  rw [take_succ_get h, List.filter_append, List.map_append, List.filter_append, filter_yes c, List.map_cons, List.map_nil, filter_yes g]
theorem tuTo_no {k : Kase} {i n : Nat} {r : Row} (h : (srt k.rs)[n]? = some r) (c : cT k i r = false) : tuTo k i (n + 1) = tuTo k i n := by
  unfold tuTo
  rw [take_succ_get h, List.filter_append, List.map_append, List.map_append, filter_no c, List.map_nil, List.map_nil, List.append_nil]
theorem tuTo_yes {k : Kase} {i n : Nat} {r : Row} (h : (srt k.rs)[n]? = some r) (c : cT k i r = true) : tuTo k i (n + 1) = tuTo k i n ++ [(del r i, k.f r)] := by
  unfold tuTo
  rw [take_succ_get h, List.filter_append, List.map_append, List.map_append, filter_yes c]
  rfl
theorem puTo_len (k : Kase) (i n : Nat) : (puTo k i n).length ≤ k.rs.length := by
  unfold puTo
  refine Nat.le_trans (List.length_filter_le _ _) ?_
  rw [List.length_map]
  refine Nat.le_trans (List.length_filter_le _ _) ?_
  rw [List.length_take, (srt_perm k.rs).length_eq]
  omega
theorem tuTo_len (k : Kase) (i n : Nat) : (tuTo k i n).length ≤ k.rs.length := by
  unfold tuTo
  rw [List.length_map, List.length_map]
  refine Nat.le_trans (List.length_filter_le _ _) ?_
  rw [List.length_take, (srt_perm k.rs).length_eq]
  omega
theorem in_rows (k : Kase) (r : Row) : ((k.rs.map encR).any fun z => PyData.eqv z (encR r)) = decide (r ∈ k.rs) := (any_eqv encR_eqv r _).trans (decide_eq_decide.mpr Iff.rfl)
def spLPairs : Sp := fun vs H Q _ => ∃ (l : Addr) (k : Kase) (i : Nat), vs = [.ref l, .int i, .bl false] ∧ CList H l k ∧ i < k.many ∧ ∀ (l2 : Addr) (ys : List V) (H' : Hp), Same H H' → H l2 = none → H' l2 = some (.lst ys) → Paired (PairAt H') ys (pairsM k i) → Q (.ref l2) H'
def spLTable : Sp := fun vs H Q _ => ∃ (l : Addr) (k : Kase) (i : Nat), vs = [.ref l, .int i] ∧ CList H l k ∧ i < k.many ∧ ∀ (l2 : Addr) (ys : List V) (H' : Hp), Same H H' → H l2 = none → H' l2 = some (.lst ys) → Paired (LineAt H') ys (tableM k i) → Q (.ref l2) H'
section
variable {P : Program} {w : World} {K : PySem.W.Frag} {mg : Str → Option Value} {base : Heap}
theorem sc_L_pairs : FnScope ["_law_case_here", "_law_wish", "_law_loosely", "_law_many", "_law_decision_here", "_law_rows", "_law_found", "_law_line", "_law_other", "_law_unlike"] ["_law_case_here", "_law_wish", "_law_loosely"] (defScope s_L_pairs) := ⟨rfl, rfl, rfl, by decide +kernel, rfl, by decide +kernel, by decide +kernel⟩
theorem ok_L_pairs (T0 : Txt mg) (D : Def K mg "_law_pairs" "_law_pairs" s_L_pairs []) (G_L_turned : Cal P w K mg base 1 "_law_turned" spTurned) (G : ∀ n, Cal P w K mg base (n + 2) "_law_sways" (spSways n)) : Cal P w K mg base 15 "_law_pairs" spLPairs := by
  refine D.cal sc_L_pairs (fun _ _ _ _ _ _ us hl => match us, hl with | [_, _, _], _ => rfl) (fun vs H Q E h => ?_) (fun f0 cdv A outer s H vs Q E hr h => ?_)
  · obtain ⟨l, k, i, rfl, _⟩ := h
    rfl
  obtain ⟨l, k, i, rfl, ⟨ok, v, a, ys, hl, hv, ha, hys⟩, hi, q⟩ := h
  have n12 := ok.n12
  have m5 := ok.m5
  have few := ok.few
  have G_L_sways := G k.n
  refine ⟨_, (pss_cons (ps_asg (pv 0) (pg_unl rfl (pgs_cons (pg_name (i := 3) sc_L_pairs.nd rfl (Or.inl rfl)) (pgs_cons (pg_name (i := 4) sc_L_pairs.nd rfl (Or.inl rfl)) (pgs_cons (pg_name (i := 5) sc_L_pairs.nd rfl (Or.inl rfl)) pgs_nil)))))
      (pss_cons (ps_set (i := 6) sc_L_pairs.nd rfl (Or.inl rfl) (pe_lst pa_nil))
      (pss_cons (ps_for PassesOwn.never rfl (kiList K rfl (pe_callB (kSorted K rfl (u8 hr)) (by rfl) T0.sorted (by decide +kernel) (pa_cons (pv 5) pa_nil))) (pg_name (i := 7) sc_L_pairs.nd rfl (Or.inl rfl))
      (pss_one (ps_if (PW.pt (pw_and (pt_not (pt_val (pe_ix (kIxT K rfl) (pv 7) (pv 1) (fun _ _ => rfl)))) (pw_and1 (pt_not (pt_val (pv 2)))))) (pss_cons (ps_set (i := 8) sc_L_pairs.nd rfl (Or.inl rfl) (pe_c G_L_turned hr (by omega) rfl (pa_cons (pv 7) (pa_cons (pv 1) pa_nil))))
      (pss_one (ps_if (PW.pt (pw_and (pt_cmpR (kIn K rfl (u65 hr)) (pv 8) (pv 5) (by rfl)) (pw_and1 (pt_val (pe_c G_L_sways hr (by omega) rfl (pa_cons (pv 4) (pa_cons (pv 7) (pa_cons (pv 1) pa_nil)))))))) (pss_one (ps_expr (pe_bm PySem.F.plainAttrs_list PySem.F.slot_list_append PySem.F.type_list_append mt_append (pv 6) (pa_cons (pe_tup (pa_cons (pv 7) (pa_cons (pv 8) pa_nil))) pa_nil)))) pss_nil))) (pss_one (ps_if (PW.pt (pw_and (pt_not (pt_val (pe_ix (kIxT K rfl) (pv 7) (pv 1) (fun _ _ => rfl)))) (pw_and1 (pt_val (pe_c G_L_sways hr (by omega) rfl (pa_cons (pv 4) (pa_cons (pv 7) (pa_cons (pv 1) pa_nil)))))))) (pss_one ps_never) pss_nil)))))
      (pss_one (ps_ret (pv 6)))))), ?_⟩
  refine ⟨_, rfl, l, _, rfl, SqL.of hl, rfl, _, _, rfl, _, _, rfl, _, _, rfl, rfl, ?_⟩
  refine ⟨Nat.zero_le _, fun lf hlf => ?_⟩
  have s1 := same_new hlf (.lst [])
  refine ⟨_, rfl, a, ys, k.rs, rfl, SqL.of (s1 _ _ ha), hys.mono s1, fun r hr e => ?_, fun zs p hzs hp0 => ?_⟩
  · have h1 := ok.len r hr
    have h2 := ok.m1
    rw [e] at h1
    simp at h1
    omega
  have s2 := same_new hp0 (.lst zs)
  have s12 := s1.trans s2
  have hzs2 := hzs.mono s2
  have npf : p ≠ lf := (ne_of_none upd_same hp0).symm
  have hzl := Paired.length hzs
  refine ⟨p, rfl, ⟨_, SqL.of upd_same⟩, ?_⟩
  refine for_list (K := K) (a := p) (xs := zs) (fun n σ H' => ∃ (v7 v8 v9 : Option V) (fs : List V), σ = [some (.ref l), some (.int i), some (.bl false), some (.int k.many), some v, some (.ref a), some (.ref lf), v7, v8, v9] ∧ Same H H' ∧ H' p = some (.lst zs) ∧ RowsAt H' zs (srt k.rs) ∧ H' lf = some (.lst fs) ∧ Paired (PairAt H') fs (puTo k i n))
    ⟨none, none, none, [], rfl, s12, upd_same, hzs2, s2 _ _ upd_same, .nil⟩ (fun n σ H' _ ⟨_, _, _, _, _, _, h, _⟩ => SqL.of h) ?_ ?_
  · rintro n y σ H' hy ⟨v7, v8, v9, fs, rfl, s3, hp3, hz3, hf3, hpf⟩
    obtain ⟨r, hr2, hyr⟩ := paired_get hz3 hy
    have hrm : r ∈ k.rs := srt_mem.mp (List.mem_of_getElem? hr2)
    have hrl := ok.len r hrm
    have hfl : fs.length ≤ 32 := by
      have h1 := Paired.length hpf
      have h2 := puTo_len k i n
      omega
    obtain ⟨b, rfl, hb⟩ := id hyr
    refine ⟨_, rfl, _, rfl, b, _, _, _, rfl, rfl, SqT.of hb, atI_nat (getD_of (by omega)), _, rfl, ?_⟩
    cases hb0 : r.getD i false with
    | true =>
      refine iteF (iteF ?_)
      refine ⟨_, rfl, _, rfl, b, _, _, _, rfl, rfl, SqT.of hb, atI_nat (getD_of (by omega)), _, rfl, ?_⟩
      rw [hb0]
      refine iteF (iteF ?_)
      refine ⟨_, v8, v9, fs, rfl, s3, hp3, hz3, hf3, ?_⟩
      rw [puTo_no hr2 (by unfold cT; rw [hb0]; rfl)]
      exact hpf
    | false =>
      refine iteT ⟨_, rfl, _, rfl, iteT ?_⟩
      refine ⟨_, rfl, _, rfl, .ref b, r, i, rfl, hyr, by omega, by omega, fun u H4 s4 hu => ?_⟩
      have s34 := s3.trans s4
      refine ⟨_, rfl, _, rfl, encR (turn r i), k.rs.map encR, hu.dp, RowsAt.dp (SqL.of (s34 _ _ ha)) (hys.mono s34), encR_shaped _, list_shaped encR_lay (fun a => Nat.le_of_eq (encR_depth a)) (by decide) _, _, rfl, ?_⟩
      rw [in_rows]
      by_cases hm : turn r i ∈ k.rs
      · refine iteY (decide_eq_true hm) ?_
        refine ⟨_, rfl, _, rfl, _, rfl, v, .ref b, k.p, k.many, k.f, r, i, rfl, hv.mono s34, hyr.mono s4, hrl, hi, by omega, fun H5 s5 => ⟨_, rfl, ?_⟩⟩
        have s45 := s4.trans s5
        cases hg : (k.f r != k.f (turn r i)) with
        | false =>
          refine iteF ?_
          refine ⟨_, _, v9, fs, rfl, s3.trans s45, s45 _ _ hp3, hz3.mono s45, s45 _ _ hf3, ?_⟩
          have hg2 : gT k (tT i r) = false := hg
          rw [puTo_no hr2 (by rw [hg2, Bool.and_false])]
          exact Paired.mapP hpf fun _ _ z => z.mono s45
        | true =>
          refine iteT ?_
          refine ⟨_, rfl, .inl ⟨rfl, _, SqL.of (s45 _ _ hf3)⟩, ?_⟩
          refine ⟨_, rfl, _, rfl, by show 2 ≤ sizeLine; decide, fun t ht => ?_⟩
          have s6 := same_new ht (.tup [.ref b, u])
          have s456 := s45.trans s6
          have hf6 := s456 _ _ hf3
          have tl : ∀ ts, upd H5 t (.tup [.ref b, u]) lf ≠ some (.tup ts) := fun ts e => by
            rw [hf6] at e
            exact nomatch e
          have ntl : t ≠ lf := (ne_of_none (s45 _ _ hf3) ht).symm
          have tt : TSame H' (upd (upd H5 t (.tup [.ref b, u])) lf (.lst (fs ++ [.ref t]))) := TSame.put (Same.t s456) tl _
          refine ⟨lf, fs, .ref t, rfl, rfl, hf6, small1000 (by omega), ?_⟩
          refine ⟨_, _, v9, fs ++ [.ref t], rfl, same_upd (s3.trans s456) hlf _, ?_, hz3.monoT tt, upd_same, ?_⟩
          · rw [upd_ne npf]
            exact s456 _ _ hp3
          · rw [puTo_yes hr2 (by unfold cT; rw [hb0, decide_eq_true hm]; rfl) hg]
            refine paired_snoc (Paired.mapP hpf fun _ _ z => z.monoT tt) ⟨t, .ref b, u, rfl, ?_, hyr.monoT tt, hu.monoT (TSame.put ((Same.t s5).trans (Same.t s6)) tl _)⟩
            rw [upd_ne ntl, upd_same]
      · refine iteK (decide_eq_false hm) (iteF ?_)
        refine ⟨_, _, v9, fs, rfl, s34, s4 _ _ hp3, hz3.mono s4, s4 _ _ hf3, ?_⟩
        rw [puTo_no hr2 (by unfold cT; rw [decide_eq_false hm, Bool.and_false, Bool.false_and])]
        exact Paired.mapP hpf fun _ _ z => z.mono s4
  · rintro σ H' ⟨v7, v8, v9, fs, rfl, s3, hp3, hz3, hf3, hpf⟩
    rw [hzl, puTo_all] at hpf
    exact ⟨_, rfl, q lf fs H' s3 hlf hf3 hpf⟩
theorem sc_L_table : FnScope ["_law_case_here", "_law_wish", "_law_many", "_law_decision_here", "_law_rows", "_law_found", "_law_line"] ["_law_case_here", "_law_wish"] (defScope s_L_table) := ⟨rfl, rfl, rfl, by decide +kernel, rfl, by decide +kernel, by decide +kernel⟩
theorem ok_L_table (T0 : Txt mg) (D : Def K mg "_law_table" "_law_table" s_L_table []) (G_L_turned : Cal P w K mg base 1 "_law_turned" spTurned) (G : ∀ n, Cal P w K mg base n "_law_answer" (spAns n)) : Cal P w K mg base 15 "_law_table" spLTable := by
  refine D.cal sc_L_table (fun _ _ _ _ _ _ us hl => match us, hl with | [_, _], _ => rfl) (fun vs H Q E h => ?_) (fun f0 cdv A outer s H vs Q E hr h => ?_)
  · obtain ⟨l, k, i, rfl, _⟩ := h
    rfl
  obtain ⟨l, k, i, rfl, ⟨ok, v, a, ys, hl, hv, ha, hys⟩, hi, q⟩ := h
  have n12 := ok.n12
  have m5 := ok.m5
  have few := ok.few
  have G_L_answer := G k.n
  refine ⟨_, (pss_cons (ps_asg (pv 0) (pg_unl rfl (pgs_cons (pg_name (i := 2) sc_L_table.nd rfl (Or.inl rfl)) (pgs_cons (pg_name (i := 3) sc_L_table.nd rfl (Or.inl rfl)) (pgs_cons (pg_name (i := 4) sc_L_table.nd rfl (Or.inl rfl)) pgs_nil)))))
      (pss_cons (ps_set (i := 5) sc_L_table.nd rfl (Or.inl rfl) (pe_lst pa_nil))
      (pss_cons (ps_for PassesOwn.never rfl (kiList K rfl (pe_callB (kSorted K rfl (u8 hr)) (by rfl) T0.sorted (by decide +kernel) (pa_cons (pv 4) pa_nil))) (pg_name (i := 6) sc_L_table.nd rfl (Or.inl rfl))
      (pss_one (ps_if (PW.pt (pw_and (pt_not (pt_val (pe_ix (kIxT K rfl) (pv 6) (pv 1) (fun _ _ => rfl)))) (pw_and1 (pt_cmpR (kIn K rfl (u65 hr)) (pe_c G_L_turned hr (by omega) rfl (pa_cons (pv 6) (pa_cons (pv 1) pa_nil))) (pv 4) (by rfl))))) (pss_one (ps_expr (pe_bm PySem.F.plainAttrs_list PySem.F.slot_list_append PySem.F.type_list_append mt_append (pv 5) (pa_cons (pe_tup (pa_cons (pe_op (kCat K rfl) (pe_slice (kSlT K rfl) (pv 6) po_none (po_some (pv 1))) (pe_slice (kSlT K rfl) (pv 6) (po_some (pe_op op_add (pv 1) pe_int)) po_none)) (pa_cons (pe_c G_L_answer hr (by omega) rfl (pa_cons (pv 3) (pa_cons (pv 6) pa_nil))) pa_nil))) pa_nil)))) pss_nil)))
      (pss_one (ps_ret (pv 5)))))), ?_⟩
  refine ⟨_, rfl, l, _, rfl, SqL.of hl, rfl, _, _, rfl, _, _, rfl, _, _, rfl, rfl, ?_⟩
  refine ⟨Nat.zero_le _, fun lf hlf => ?_⟩
  have s1 := same_new hlf (.lst [])
  refine ⟨_, rfl, a, ys, k.rs, rfl, SqL.of (s1 _ _ ha), hys.mono s1, fun r hr e => ?_, fun zs p hzs hp0 => ?_⟩
  · have h1 := ok.len r hr
    have h2 := ok.m1
    rw [e] at h1
    simp at h1
    omega
  have s2 := same_new hp0 (.lst zs)
  have s12 := s1.trans s2
  have hzs2 := hzs.mono s2
  have npf : p ≠ lf := (ne_of_none upd_same hp0).symm
  have hzl := Paired.length hzs
  refine ⟨p, rfl, ⟨_, SqL.of upd_same⟩, ?_⟩
  refine for_list (K := K) (a := p) (xs := zs) (fun n σ H' => ∃ (v6 : Option V) (fs : List V), σ = [some (.ref l), some (.int i), some (.int k.many), some v, some (.ref a), some (.ref lf), v6] ∧ Same H H' ∧ H' p = some (.lst zs) ∧ RowsAt H' zs (srt k.rs) ∧ H' lf = some (.lst fs) ∧ Paired (LineAt H') fs (tuTo k i n))
    ⟨none, [], rfl, s12, upd_same, hzs2, s2 _ _ upd_same, .nil⟩ (fun n σ H' _ ⟨_, _, _, _, h, _⟩ => SqL.of h) ?_ ?_
  · rintro n y σ H' hy ⟨v6, fs, rfl, s3, hp3, hz3, hf3, hpf⟩
    obtain ⟨r, hr2, hyr⟩ := paired_get hz3 hy
    have hrm : r ∈ k.rs := srt_mem.mp (List.mem_of_getElem? hr2)
    have hrl := ok.len r hrm
    have hfl : fs.length ≤ 32 := by
      have h1 := Paired.length hpf
      have h2 := tuTo_len k i n
      omega
    obtain ⟨b, rfl, hb⟩ := id hyr
    refine ⟨_, rfl, _, rfl, b, _, _, _, rfl, rfl, SqT.of hb, atI_nat (getD_of (by omega)), _, rfl, ?_⟩
    cases hb0 : r.getD i false with
    | true =>
      refine iteF (iteF ?_)
      refine ⟨_, fs, rfl, s3, hp3, hz3, hf3, ?_⟩
      rw [tuTo_no hr2 (by unfold cT; rw [hb0]; rfl)]
      exact hpf
    | false =>
      refine iteT ?_
      refine ⟨_, rfl, _, rfl, .ref b, r, i, rfl, hyr, by omega, by omega, fun u H4 s4 hu => ?_⟩
      have s34 := s3.trans s4
      refine ⟨_, rfl, encR (turn r i), k.rs.map encR, hu.dp, RowsAt.dp (SqL.of (s34 _ _ ha)) (hys.mono s34), encR_shaped _, list_shaped encR_lay (fun a => Nat.le_of_eq (encR_depth a)) (by decide) _, _, rfl, ?_⟩
      rw [in_rows]
      by_cases hm : turn r i ∈ k.rs
      · refine iteY (decide_eq_true hm) ?_
        refine ⟨_, rfl, .inl ⟨rfl, _, SqL.of (s4 _ _ hf3)⟩, ?_⟩
        refine del_at (i := i) rfl rfl (s4 _ _ hb) (by omega) fun z H5 s5 hz5 => ?_
        have s35 := s34.trans s5
        refine ⟨_, rfl, _, rfl, v, .ref b, k.p, k.many, k.f, r, rfl, hv.mono s35, ⟨b, rfl, s5 _ _ (s4 _ _ hb)⟩, hrl, fun H6 s6 => ⟨by show 2 ≤ sizeLine; decide, fun t ht => ?_⟩⟩
        have s7 := same_new ht (.tup [z, .bl (k.f r)])
        have s46 := (s4.trans s5).trans s6
        have s47 := s46.trans s7
        have hf7 := s47 _ _ hf3
        have tl : ∀ ts, upd H6 t (.tup [z, .bl (k.f r)]) lf ≠ some (.tup ts) := fun ts e => by
          rw [hf7] at e
          exact nomatch e
        have ntl : t ≠ lf := (ne_of_none (s46 _ _ hf3) ht).symm
        have tt : TSame H' (upd (upd H6 t (.tup [z, .bl (k.f r)])) lf (.lst (fs ++ [.ref t]))) := TSame.put (Same.t s47) tl _
        refine ⟨lf, fs, .ref t, rfl, rfl, hf7, small1000 (by omega), ?_⟩
        refine ⟨_, fs ++ [.ref t], rfl, same_upd (s3.trans s47) hlf _, ?_, hz3.monoT tt, upd_same, ?_⟩
        · rw [upd_ne npf]
          exact s47 _ _ hp3
        · rw [tuTo_yes hr2 (by unfold cT; rw [hb0, decide_eq_true hm]; rfl)]
          refine paired_snoc (Paired.mapP hpf fun _ _ z => z.monoT tt) ⟨t, z, rfl, ?_, hz5.monoT (TSame.put ((Same.t s6).trans (Same.t s7)) tl _)⟩
          rw [upd_ne ntl, upd_same]
      · refine iteK (decide_eq_false hm) ?_
        refine ⟨_, fs, rfl, s34, s4 _ _ hp3, hz3.mono s4, s4 _ _ hf3, ?_⟩
        rw [tuTo_no hr2 (by unfold cT; rw [decide_eq_false hm, Bool.and_false])]
        exact Paired.mapP hpf fun _ _ z => z.mono s4
  · rintro σ H' ⟨v6, fs, rfl, s3, hp3, hz3, hf3, hpf⟩
    rw [hzl, tuTo_all] at hpf
    exact ⟨_, rfl, q lf fs H' s3 hlf hf3 hpf⟩
end
end Ea

set_option maxHeartbeats 4000000
namespace Ea
open PySem PySem.Spec PyProof.Rows L2
theorem turn_getD {r : Row} {i : Nat} (h : i < r.length) : (turn r i).getD i false = !r.getD i false := by
  unfold turn
  have hl : (r.take i).length = i := by rw [List.length_take]; omega
  rw [List.getD_eq_getElem?_getD, List.append_assoc, List.getElem?_append_right (by omega), hl, Nat.sub_self]
  rfl
theorem pairs_mem {k : Kase} {i : Nat} {p : Row × Row} (h : p ∈ pairsM k i) : p ∈ twinsM k i := (List.mem_filter.mp h).1
theorem pairs_flip {k : Kase} {i : Nat} (ok : k.Ok) (hi : i < k.many) {p : Row × Row} (h : p ∈ pairsM k i) : (p.2, p.1) ∉ pairsM k i := by
  intro h2
  obtain ⟨a1, a2, a3, a4⟩ := twins_mem (pairs_mem h)
  obtain ⟨b1, b2, b3, b4⟩ := twins_mem (pairs_mem h2)
  have hl := ok.len _ a1
  have e := turn_getD (r := p.1) (i := i) (by omega)
  rw [← a2, a3] at e
  have b3' : p.2.getD i false = false := b3
  rw [b3'] at e
  exact nomatch e
theorem pairs_lens {k : Kase} {i : Nat} (ok : k.Ok) {p : Row × Row} (h : p ∈ pairsM k i) : p.1.length = k.many ∧ p.2.length = k.many := by
  obtain ⟨a1, a2, a3, a4⟩ := twins_mem (pairs_mem h)
  exact ⟨ok.len _ a1, ok.len _ a4⟩
theorem paired_mem {α β : Type} {F : α → β → Prop} : ∀ {xs : List α} {ys : List β} {x : α}, Paired F xs ys → x ∈ xs → ∃ y, y ∈ ys ∧ F x y
  | _, _, x, .nil, h => nomatch h
  | _, _, x, .cons r t, h => by
    rcases List.mem_cons.mp h with e | h
    · subst e
      exact ⟨_, List.mem_cons_self .., r⟩
    · obtain ⟨y, h1, h2⟩ := paired_mem t h
      exact ⟨y, List.mem_cons_of_mem _ h1, h2⟩
theorem paired_empty {α β : Type} {F : α → β → Prop} {xs : List α} {ys : List β} (p : Paired F xs ys) : xs.isEmpty = ys.isEmpty := by cases p <;> rfl
theorem pairs_dp {K : PySem.W.Frag} {H H' : Hp} {ys : List V} {qs : List (Row × Row)} (p : Paired (PairAt H) ys qs) (s : Same H H') : DpAll K H' ys (qs.map encP) :=
  dpAll_of (F := PairAt H') (fun _ _ z => PairAt.dp z) (Paired.mapP p fun _ _ z => PairAt.mono z s)
theorem lines_dp {K : PySem.W.Frag} {H H' : Hp} {ys : List V} {qs : List (Row × Bool)} (p : Paired (LineAt H) ys qs) (s : Same H H') : DpAll K H' ys (qs.map encL) :=
  dpAll_of (F := LineAt H') (fun _ _ z => LineAt.dp z) (Paired.mapP p fun _ _ z => LineAt.mono z s)
/-- ("table", lines) as data -/
def encT (ls : List (Row × Bool)) : PyData := .tuple [.str "table", .list (ls.map encL)]
theorem encT_shaped (ls : List (Row × Bool)) : SeqAt.shaped (encT ls) = true := by
  have h1 := list_shaped encL_lay (fun a => Nat.le_of_eq (encL_depth a)) (by decide) ls
  have h2 : PyData.canLayAll0 (ls.map encL) = true := all_lay encL_lay ls
  have h3 := all_depth (f := encL) (n := 2) (fun a => Nat.le_of_eq (encL_depth a)) ls
  have h4 : PyData.canLay0 (.str "table") = true := by decide +kernel
  refine shaped_of ?_ ?_
  · unfold encT
    simp only [PyData.canLay0, PyData.canLayAll0] at h4 ⊢
    rw [h4, h2]
    rfl
  · unfold encT
    simp only [PyData.depth, PyData.depthAll]
    omega
theorem encT_eqv (ls : List (Row × Bool)) : PyData.eqv (encT ls) (encT ls) = true := by
  unfold encT
  simp only [PyData.eqv, PyData.eqvAll]
  rw [all_eqv encL_eqv ls ls, decide_eq_true rfl]
  simp
theorem in_pairs (k : Kase) (i : Nat) (p : Row × Row) : (((pairsM k i).map encP).any fun z => PyData.eqv z (encP p)) = decide (p ∈ pairsM k i) := (any_eqv encP_eqv p _).trans (decide_eq_decide.mpr Iff.rfl)
def spWish (P : Program) (w : World) (C : Addr) : Sp := fun vs H Q _ => ∃ (x l : Addr) (k : Kase) (i : Nat), vs = [.ref x, .ref l, .int i] ∧ CaseAt P w C H x k ∧ CList H l k ∧ i < k.many ∧ ∀ H', Same H H' → Q (.bl true) H'
section
variable {P : Program} {w : World} {K : PySem.W.Frag} {mg : Str → Option Value} {base : Heap} {C : Addr}
theorem sc_L_wish_right : FnScope ["_law_made", "_law_case_here", "_law_wish", "_law_some", "_law_rows", "_law_turn", "_law_found", "_law_one", "_law_other", "_law_line", "_law_pair"] ["_law_made", "_law_case_here", "_law_wish"] (defScope s_L_wish_right) := ⟨rfl, rfl, rfl, by decide +kernel, rfl, by decide +kernel, by decide +kernel⟩
theorem ok_L_wish_right (T0 : Txt mg) (D : Def K mg "_law_wish_right" "_law_wish_right" s_L_wish_right []) (G_L_pairs : Cal P w K mg base 15 "_law_pairs" spLPairs) (G_L_table : Cal P w K mg base 15 "_law_table" spLTable) (G_L_turned : Cal P w K mg base 1 "_law_turned" spTurned)
    (G_alone : Cal P w K mg base 32 "alone" (spAlone P w C)) (G_lets_alone : Cal P w K mg base 33 "lets_alone" (spLets P w C)) : Cal P w K mg base 34 "_law_wish_right" (spWish P w C) := by
  refine D.cal sc_L_wish_right (fun _ _ _ _ _ _ us hl => match us, hl with | [_, _, _], _ => rfl) (fun vs H Q E h => ?_) (fun f0 cdv A outer s H vs Q E hr h => ?_)
  · obtain ⟨x, l, k, i, rfl, _⟩ := h
    rfl
  obtain ⟨x, l, k, i, rfl, c, cl, hi, q⟩ := h
  have ok := c.ok
  have m5 := ok.m5
  have few := ok.few
  refine ⟨_, (pss_cons (ps_set (i := 3) sc_L_wish_right.nd rfl (Or.inl rfl) (pe_c G_L_pairs hr (by omega) rfl (pa_cons (pv 1) (pa_cons (pv 2) (pa_cons pe_bl pa_nil)))))
      (pss_cons (ps_set (i := 4) sc_L_wish_right.nd rfl (Or.inl rfl) (pe_c G_L_table hr (by omega) rfl (pa_cons (pv 1) (pa_cons (pv 2) pa_nil))))
      (pss_cons (ps_for PassesOwn.never rfl (pi_range1 rfl T0.range (pa_cons pe_int pa_nil)) (pg_name (i := 5) sc_L_wish_right.nd rfl (Or.inl rfl))
      (pss_cons (ps_set (i := 6) sc_L_wish_right.nd rfl (Or.inl rfl) (pe_c G_alone hr (by omega) rfl (pa_cons (pv 0) (pa_cons (pv 2) pa_nil))))
      (pss_cons (ps_if (PW.pt (pw_or (pt_not (pt_val (pe_callB (kIsi K rfl) (by rfl) T0.isi (by decide +kernel) (pa_cons (pv 6) (pa_cons (pe_bltn (v := .ty "tuple") (by rfl) T0.tuple (by decide +kernel) rfl) pa_nil))))) (pw_or1 (pt_cmpR op_notBl (pe_c G_lets_alone hr (by omega) rfl (pa_cons (pv 0) (pa_cons (pv 2) (pa_cons (pv 6) pa_nil)))) pe_bl (nomark _))))) (pss_one (ps_ret pe_bl)) pss_nil)
      (pss_cons (ps_if (PW.pt (pw_and (pt_cmpR (kEqL K rfl (u8 hr)) (pv 3) (pe_lst pa_nil) (nomark _)) (pw_and1 (PW.pt (pw_or (pt_cmpR (kNe K rfl (u64 hr)) (pv 6) (pe_tup (pa_cons pe_str (pa_cons (pv 4) pa_nil))) (nomark _)) (pw_or1 (pt_not (pt_val (pe_callB (kIsi K rfl) (by rfl) T0.isi (by decide +kernel) (pa_cons (pe_ix (kIxT K rfl) (pv 6) pe_int (fun _ _ => rfl)) (pa_cons (pe_bltn (v := .ty "list") (by rfl) T0.list (by decide +kernel) rfl) pa_nil))))))))))) (pss_one (ps_ret pe_bl)) pss_nil)
      (pss_cons (ps_if (PW.pt (pw_and (pt_cmpR (kNeL K rfl (u8 hr)) (pv 3) (pe_lst pa_nil) (nomark _)) (pw_and1 (PW.pt (pw_or (pt_cmpR op_ne (pe_callB (kLen K rfl) (by rfl) T0.len (by decide +kernel) (pa_cons (pv 6) pa_nil)) pe_int (nomark _)) (pw_or (pt_cmpR op_ne (pe_ix (kIxT K rfl) (pv 6) pe_int (fun _ _ => rfl)) pe_str (nomark _)) (pw_or1 (pt_cmpR (kNotIn K rfl (u65 hr)) (pe_slice (kSlT K rfl) (pv 6) (po_some pe_int) po_none) (pv 3) (by rfl))))))))) (pss_one (ps_ret pe_bl)) pss_nil)
      (pss_one (ps_if (pt_cmpR (kEqL K rfl (u8 hr)) (pv 3) (pe_lst pa_nil) (nomark _)) (pss_one (ps_expr (pe_bm PySem.F.plainAttrs_list PySem.F.slot_list_append PySem.F.type_list_append mt_append (pe_ix (kIxT K rfl) (pv 6) pe_int (fun _ _ => rfl)) (pa_cons pe_non pa_nil)))) pss_nil)))))))
      (pss_cons (ps_for PassesOwn.never rfl (kiList K rfl (pv 3)) (pg_tup rfl (pgs_cons (pg_name (i := 7) sc_L_wish_right.nd rfl (Or.inl rfl)) (pgs_cons (pg_name (i := 8) sc_L_wish_right.nd rfl (Or.inl rfl)) pgs_nil)))
      (pss_cons (ps_if (pt_cmpR op_notBl (pe_c G_lets_alone hr (by omega) rfl (pa_cons (pv 0) (pa_cons (pv 2) (pa_cons (pe_tup (pa_cons pe_str (pa_cons (pv 7) (pa_cons (pv 8) pa_nil)))) pa_nil)))) pe_bl (nomark _)) (pss_one (ps_ret pe_bl)) pss_nil)
      (pss_one (ps_if (pt_cmpR op_notBl (pe_c G_lets_alone hr (by omega) rfl (pa_cons (pv 0) (pa_cons (pv 2) (pa_cons (pe_tup (pa_cons pe_str (pa_cons (pv 8) (pa_cons (pv 7) pa_nil)))) pa_nil)))) pe_bl (nomark _)) (pss_one (ps_ret pe_bl)) pss_nil))))
      (pss_cons (ps_if (pt_cmpR op_ne (pe_c G_lets_alone hr (by omega) rfl (pa_cons (pv 0) (pa_cons (pv 2) (pa_cons (pe_tup (pa_cons pe_str (pa_cons (pv 4) pa_nil))) pa_nil)))) (pe_cmpR (kEqL K rfl (u8 hr)) (pv 3) (pe_lst pa_nil) (nomark _)) (nomark _)) (pss_one (ps_ret pe_bl)) pss_nil)
      (pss_cons (ps_for PassesOwn.never rfl (kiList K rfl (pe_slice (kSlL K rfl) (pe_callB (kSorted K rfl (u8 hr)) (by rfl) T0.sorted (by decide +kernel) (pa_cons (pe_ix (kIxL K rfl) (pv 1) pe_int (fun _ _ => rfl)) pa_nil)) po_none (po_some pe_int))) (pg_name (i := 9) sc_L_wish_right.nd rfl (Or.inl rfl))
      (pss_cons (ps_set (i := 10) sc_L_wish_right.nd rfl (Or.inl rfl) (pe_tup (pa_cons pe_str (pa_cons (pv 9) (pa_cons (pe_c G_L_turned hr (by omega) rfl (pa_cons (pv 9) (pa_cons (pv 2) pa_nil))) pa_nil)))))
      (pss_one (ps_if (pt_cmpR op_ne (pe_c G_lets_alone hr (by omega) rfl (pa_cons (pv 0) (pa_cons (pv 2) (pa_cons (pv 10) pa_nil)))) (pe_cmpR (kIn K rfl (u65 hr)) (pe_slice (kSlT K rfl) (pv 10) (po_some pe_int) po_none) (pv 3) (by rfl)) (nomark _)) (pss_one (ps_ret pe_bl)) pss_nil))))
      (pss_one (ps_ret pe_bl)))))))), ?_⟩
  refine ⟨_, rfl, _, rfl, l, k, i, rfl, cl, hi, fun ls ps H1 s1 hls0 hls1 hps1 => ?_⟩
  refine ⟨_, rfl, _, rfl, l, k, i, rfl, cl.mono s1, hi, fun lr ts H2 s2 hlr0 hlr hts => ?_⟩
  have s12 := s1.trans s2
  have c2 := c.mono s12
  have cl2 := cl.mono s12
  have hls := s2 _ _ hls1
  have hps : Paired (PairAt H2) ps (pairsM k i) := Paired.mapP hps1 fun _ _ z => z.mono s2
  have pe := paired_empty hps
  clear hps1 hls1
  refine ⟨_, rfl, by decide, by decide, ?_⟩
  refine for_range (lo := 0) (n := 2) (fun n σ H' => ∃ (v5 v6 : Option V), σ = [some (.ref x), some (.ref l), some (.int i), some (.ref ls), some (.ref lr), v5, v6, none, none, none, none] ∧ Same H2 H')
    ⟨none, none, rfl, Same.refl _⟩ ?_ ?_
  · rintro n σ H' hn ⟨v5, v6, rfl, s3⟩
    refine ⟨_, rfl, _, rfl, x, k, i, rfl, c2.mono s3, hi, fun v H3 s4 told => ?_⟩
    have s34 := s3.trans s4
    cases told with
    | pair t u1 u2 p hp ht hx hy =>
      have hpm : p ∈ pairsM k i := by
        cases e : pairsM k i with
        | nil => rw [e] at hp; cases hp
        | cons p' r =>
          rw [e] at hp
          rw [Option.some.inj hp]
          exact List.mem_cons_self ..
      have hpe : ps.isEmpty = false := by
        rw [pe]
        cases e : pairsM k i with
        | nil => rw [e] at hpm; cases hpm
        | cons p' r => rfl
      obtain ⟨l1, l2⟩ := pairs_lens ok hpm
      refine ⟨_, rfl, _, _, _, _, true, rfl, .ty _, .base (.tup ht), kit_ty (by decide +kernel), true, rfl, iteF ?_⟩
      refine ⟨_, rfl, _, rfl, _, rfl, x, t, k, i, rfl, c2.mono s34, hi, .inl ⟨u1, u2, p, ht, hx, hy, l1, l2, fun H4 s5 => ⟨_, _, rfl, rfl, _, rfl, iteK (by rw [decide_eq_true hpm]; rfl) ?_⟩⟩⟩
      have s35 := s34.trans s5
      refine ⟨_, rfl, Nat.zero_le _, fun t0 ht0 => ?_⟩
      have s6 := same_new ht0 (.lst [])
      have s36 := s35.trans s6
      refine ⟨ls, t0, ps, rfl, rfl, SqL.of (s36 _ _ hls), SqL.of upd_same, _, rfl, iteK hpe (iteF ?_)⟩
      refine ⟨_, rfl, Nat.zero_le _, fun t1 ht1 => ?_⟩
      have s7 := same_new ht1 (.lst [])
      have s37 := s36.trans s7
      have s57 := (s5.trans s6).trans s7
      refine ⟨ls, t1, ps, rfl, rfl, SqL.of (s37 _ _ hls), SqL.of upd_same, _, rfl, iteY (by rw [hpe]; rfl) ?_⟩
      refine ⟨_, rfl, t, _, rfl, .inr (SqT.of (s57 _ _ ht)), rfl, _, rfl, iteF ?_⟩
      refine rd_ix0 (K := K) rfl (s57 _ _ ht) ⟨rfl, _, rfl, iteK (by rw [decide_eq_true rfl]; rfl) ?_⟩
      refine ⟨_, rfl, _, rfl, sl_dropN (i := 1) (s57 _ _ ht) fun u3 H5 s8 hu3 => ?_⟩
      have s38 := s37.trans s8
      have s58 := s57.trans s8
      obtain ⟨b3, rfl, hb3⟩ := hu3
      refine ⟨_, rfl, encP p, (pairsM k i).map encP, PairAt.dp (K := K) ⟨b3, u1, u2, rfl, hb3, hx.mono s58, hy.mono s58⟩, .lst (SqL.of (s38 _ _ hls)) (pairs_dp hps s38), encP_shaped p, list_shaped encP_lay (fun a => Nat.le_of_eq (encP_depth a)) (by decide) _, _, rfl, iteK (by rw [in_pairs, decide_eq_true hpm]; rfl) ?_⟩
      refine ⟨_, rfl, Nat.zero_le _, fun t2 ht2 => ?_⟩
      have s9 := same_new ht2 (.lst [])
      refine ⟨ls, t2, ps, rfl, rfl, SqL.of (s9 _ _ (s38 _ _ hls)), SqL.of upd_same, _, rfl, iteK hpe ?_⟩
      exact ⟨_, _, rfl, s38.trans s9⟩
    | table t l2 ys2 hp ht h0 hl2 hy2 =>
      have hpe : ps.isEmpty = true := by
        rw [pe, hp]
        rfl
      refine ⟨_, rfl, _, _, _, _, true, rfl, .ty _, .base (.tup ht), kit_ty (by decide +kernel), true, rfl, iteF ?_⟩
      refine ⟨_, rfl, _, rfl, _, rfl, x, t, k, i, rfl, c2.mono s34, hi, .inr ⟨l2, ys2, ht, hl2, hy2, fun H4 s5 => ⟨_, _, rfl, rfl, _, rfl, iteK (by rw [decide_eq_true hp]; rfl) ?_⟩⟩⟩
      have s35 := s34.trans s5
      refine ⟨_, rfl, Nat.zero_le _, fun t0 ht0 => ?_⟩
      have s6 := same_new ht0 (.lst [])
      have s36 := s35.trans s6
      have s56 := s5.trans s6
      refine ⟨ls, t0, ps, rfl, rfl, SqL.of (s36 _ _ hls), SqL.of upd_same, _, rfl, iteY hpe ?_⟩
      refine ⟨_, rfl, _, rfl, by show 2 ≤ sizeLine; decide, fun t3 ht3 => ?_⟩
      have s7 := same_new ht3 (.tup [.str "table", .ref lr])
      have s37 := s36.trans s7
      have s57 := s56.trans s7
      refine ⟨encT (tableM k i), encT (tableM k i), ?_, ?_, encT_shaped _, encT_shaped _, _, rfl, iteK (by rw [encT_eqv]; rfl) ?_⟩
      · exact .tup (SqT.of (s57 _ _ ht)) (.cons (.str _) (.cons (.lst (SqL.of (s57 _ _ hl2)) (lines_dp hy2 s57)) .nil))
      · exact .tup (SqT.of upd_same) (.cons (.str _) (.cons (.lst (SqL.of (s37 _ _ hlr)) (lines_dp hts s37)) .nil))
      refine rd_ix1 (K := K) rfl (s57 _ _ ht) ⟨_, _, _, _, true, rfl, .ty _, .base (.lst (s57 _ _ hl2)), kit_ty (by decide +kernel), true, rfl, iteF ?_⟩
      refine ⟨_, rfl, Nat.zero_le _, fun t1 ht1 => ?_⟩
      have s8 := same_new ht1 (.lst [])
      have s38 := s37.trans s8
      have s58 := s57.trans s8
      refine ⟨ls, t1, ps, rfl, rfl, SqL.of (s38 _ _ hls), SqL.of upd_same, _, rfl, iteK (by rw [hpe]; rfl) (iteF ?_)⟩
      refine ⟨_, rfl, Nat.zero_le _, fun t2 ht2 => ?_⟩
      have s9 := same_new ht2 (.lst [])
      have s39 := s38.trans s9
      have s59 := s58.trans s9
      refine ⟨ls, t2, ps, rfl, rfl, SqL.of (s39 _ _ hls), SqL.of upd_same, _, rfl, iteY hpe ?_⟩
      have hyl : ys2.length ≤ 32 := by
        rw [Paired.length hy2]
        unfold tableM
        rw [List.length_map]
        exact Nat.le_trans (twins_len k i) few
      refine rd_ix1 (K := K) rfl (s59 _ _ ht) ⟨.inl ⟨rfl, _, SqL.of (s59 _ _ hl2)⟩, l2, ys2, .non, rfl, rfl, s59 _ _ hl2, small1000 (by omega), ?_⟩
      exact ⟨_, _, rfl, same_upd s39 (s3.free h0) _⟩
  rintro σ H3 ⟨v5, v6, rfl, s3⟩
  -- every pair
  refine ⟨_, rfl, ls, rfl, ⟨_, SqL.of (s3 _ _ hls)⟩, ?_⟩
  refine for_list (K := K) (a := ls) (xs := ps) (fun n σ H' => ∃ (v7 v8 : Option V), σ = [some (.ref x), some (.ref l), some (.int i), some (.ref ls), some (.ref lr), v5, v6, v7, v8, none, none] ∧ Same H2 H')
    ⟨none, none, rfl, s3⟩ (fun n σ H' _ ⟨_, _, _, z⟩ => SqL.of (z _ _ hls)) ?_ ?_
  · rintro n y σ H' hy ⟨v7, v8, rfl, s4⟩
    obtain ⟨p, hp, hyp⟩ := paired_get hps hy
    have hpm : p ∈ pairsM k i := List.mem_of_getElem? hp
    obtain ⟨l1, l2⟩ := pairs_lens ok hpm
    obtain ⟨a, u, v, rfl, ha, hu, hv⟩ := hyp.mono s4
    refine ⟨a, _, rfl, SqT.of ha, rfl, _, _, rfl, _, _, rfl, rfl, ?_⟩
    refine ⟨_, rfl, _, rfl, _, rfl, _, rfl, by show 3 ≤ sizeLine; decide, fun t ht => ?_⟩
    have s5 := same_new ht (.tup [.str "pair", u, v])
    refine ⟨x, t, k, i, rfl, c2.mono (s4.trans s5), hi, .inl ⟨u, v, p, upd_same, hu.mono s5, hv.mono s5, l1, l2, fun H4 s6 => ⟨_, _, rfl, rfl, _, rfl, iteK (by rw [decide_eq_true hpm]; rfl) ?_⟩⟩⟩
    have s56 := s5.trans s6
    refine ⟨_, rfl, _, rfl, _, rfl, _, rfl, by show 3 ≤ sizeLine; decide, fun t2 ht2 => ?_⟩
    have s7 := same_new ht2 (.tup [.str "pair", v, u])
    have s57 := s56.trans s7
    refine ⟨x, t2, k, i, rfl, c2.mono (s4.trans s57), hi, .inl ⟨v, u, (p.2, p.1), upd_same, hv.mono s57, hu.mono s57, l2, l1, fun H5 s8 => ⟨_, _, rfl, rfl, _, rfl, iteK (by rw [decide_eq_false (pairs_flip ok hi hpm)]; rfl) ?_⟩⟩⟩
    exact ⟨_, _, rfl, (s4.trans s57).trans s8⟩
  rintro σ H4 ⟨v7, v8, rfl, s4⟩
  -- the table
  refine ⟨_, rfl, _, rfl, _, rfl, by show 2 ≤ sizeLine; decide, fun t ht => ?_⟩
  have s5 := same_new ht (.tup [.str "table", .ref lr])
  have s45 := s4.trans s5
  refine ⟨x, t, k, i, rfl, c2.mono s45, hi, .inr ⟨lr, ts, upd_same, s45 _ _ hlr, Paired.mapP hts fun _ _ z => z.mono s45, fun H5 s6 => ?_⟩⟩
  have s46 := s45.trans s6
  refine ⟨_, rfl, Nat.zero_le _, fun t0 ht0 => ?_⟩
  have s7 := same_new ht0 (.lst [])
  have s47 := s46.trans s7
  refine ⟨ls, t0, ps, rfl, rfl, SqL.of (s47 _ _ hls), SqL.of upd_same, rfl, _, rfl, iteK ?_ ?_⟩
  · rw [bne_bl, pe]
    cases e : pairsM k i with
    | nil => rfl
    | cons p r => rfl
  -- the first rows
  obtain ⟨_, v, a, ys, hl7, hv7, ha7, hys7⟩ := cl2.mono s47
  refine ⟨_, rfl, l, _, _, _, rfl, rfl, SqL.of hl7, atI_nat (j := 2) rfl, a, ys, k.rs, rfl, SqL.of ha7, hys7, fun r hr e => ?_, fun zs p hzs hp0 => ?_⟩
  · have h1 := ok.len r hr
    have h2 := ok.m1
    rw [e] at h1
    simp at h1
    omega
  have s8 := same_new hp0 (.lst zs)
  refine ⟨_, rfl, p, zs, rfl, SqL.of upd_same, fun l3 hl3 => ?_⟩
  have s9 := same_new hl3 (.lst (cutV zs none (some 12)))
  have s89 := s8.trans s9
  have s49 := s47.trans s89
  have hzs9 := hzs.mono s89
  refine ⟨l3, rfl, ⟨_, SqL.of upd_same⟩, ?_⟩
  refine for_list (K := K) (a := l3) (xs := cutV zs none (some 12)) (fun n σ H' => ∃ (v9 v10 : Option V), σ = [some (.ref x), some (.ref l), some (.int i), some (.ref ls), some (.ref lr), v5, v6, v7, v8, v9, v10] ∧ Same (upd (upd _ p (.lst zs)) l3 (.lst (cutV zs none (some 12)))) H')
    ⟨none, none, rfl, Same.refl _⟩ (fun n σ H' _ ⟨_, _, _, z⟩ => SqL.of (z _ _ upd_same)) ?_ ?_
  · rintro n y σ H' hy ⟨v9, v10, rfl, s10⟩
    have hyz : y ∈ zs := by
      have h := List.mem_of_getElem? hy
      unfold cutV at h
      exact List.mem_of_mem_drop (List.mem_of_mem_take h)
    obtain ⟨r, hrm, hyr⟩ := paired_mem hzs9 hyz
    have hrl := ok.len r (srt_mem.mp hrm)
    have hyr2 := hyr.mono s10
    have sA := s49.trans s10
    refine ⟨_, rfl, _, rfl, _, rfl, y, r, i, rfl, hyr2, by omega, by omega, fun u H6 s11 hu => ⟨by show 3 ≤ sizeLine; decide, fun t3 ht3 => ?_⟩⟩
    have s12' := same_new ht3 (.tup [.str "pair", y, u])
    have sB := s11.trans s12'
    have sC := sA.trans sB
    refine ⟨_, rfl, _, rfl, _, rfl, x, t3, k, i, rfl, c2.mono sC, hi, .inl ⟨y, u, (r, turn r i), upd_same, hyr2.mono sB, hu.mono s12', hrl, by show (turn r i).length = _; rw [turn_length (by omega), hrl], fun H7 s13 => ?_⟩⟩
    refine ⟨_, rfl, _, rfl, sl_dropN (i := 1) (s13 _ _ upd_same) fun u3 H8 s14 hu3 => ?_⟩
    have s134 := s13.trans s14
    have sD := sC.trans s134
    obtain ⟨b3, rfl, hb3⟩ := hu3
    refine ⟨_, rfl, encP (r, turn r i), (pairsM k i).map encP, PairAt.dp (K := K) ⟨b3, y, u, rfl, hb3, hyr2.mono (sB.trans s134), hu.mono (s12'.trans s134)⟩, .lst (SqL.of (sD _ _ hls)) (pairs_dp hps sD), encP_shaped _, list_shaped encP_lay (fun a => Nat.le_of_eq (encP_depth a)) (by decide) _, rfl, _, rfl, iteK ?_ ?_⟩
    · rw [bne_bl, in_pairs]
      cases (decide ((r, turn r i) ∈ pairsM k i)) <;> rfl
    · exact ⟨_, _, rfl, (s10.trans sB).trans s134⟩
  · rintro σ H' ⟨v9, v10, rfl, s10⟩
    exact q _ (s12.trans (s49.trans s10))
end
end Ea

set_option maxHeartbeats 4000000
namespace Ea
open PySem PySem.Spec PyProof.Rows L2
def spLaw (K : PySem.W.Frag) : Sp := fun vs H Q _ => ∃ (a : Addr) (ns : List Int), vs = [.ref a] ∧ SqL K H a (ns.map V.int) ∧ ns.length ≤ 63 ∧ ∀ H', Q (.bl true) H'
theorem Same.new {p : Addr} {H H1 H2 : Hp} (s : Same H H1) (h : H p = none) (k : Keep p H1 H2) : Same H H2 := fun b o e => k b o (ne_of_none e h) (s b o e)
section
variable {P : Program} {w : World} {K : PySem.W.Frag} {mg : Str → Option Value} {base : Heap} {C : Addr}
theorem sc_law : FnScope ["_law_script", "_law_k", "_law_pool_here", "_law_case_here", "_law_made", "_law_wish"] ["_law_script"] (defScope s_law) := ⟨rfl, rfl, rfl, by decide +kernel, rfl, by decide +kernel, by decide +kernel⟩
theorem body_law (T0 : Txt mg) (G_L_pool : Cal P w K mg base 1 "_law_pool" (spPool K)) (G_L_case : Cal P w K mg base 8 "_law_case" spLCase) (G_Case : Mak P w K mg base 30 "Case" C (spInit P w C)) (G_L_wish_right : Cal P w K mg base 34 "_law_wish_right" (spWish P w C))
    {f : Addr} {fd : FuncData} (FD : FunD K "law" "law" (defArgs s_law) (defBody s_law) (defScope s_law) [] [] f fd) : FnOk P w K mg base CX0 35 f fd ["_law_script"] (spLaw K) := by
  refine FD.ok sc_law (fun vs H Q E h => ?_) (fun cdv A outer s H vs Q E hr h => nox_of ?_)
  · obtain ⟨a, ns, rfl, _⟩ := h
    rfl
  obtain ⟨a, ns, rfl, ha, h63, q⟩ := h
  refine ⟨_, (pss_cons (ps_for PassesOwn.never rfl (pi_range1 rfl T0.range (pa_cons (pe_callB (call_max2 rfl) (by rfl) T0.max (by decide +kernel) (pa_cons pe_int (pa_cons (pe_callB (call_min2 rfl) (by rfl) T0.min (by decide +kernel) (pa_cons pe_int (pa_cons (pe_callB (kLen K rfl) (by rfl) T0.len (by decide +kernel) (pa_cons (pv 0) pa_nil)) pa_nil))) pa_nil))) pa_nil)) (pg_name (i := 1) sc_law.nd rfl (Or.inl rfl))
      (pss_cons (ps_set (i := 2) sc_law.nd rfl (Or.inl rfl) (pe_c G_L_pool hr (by omega) rfl (pa_cons (pv 0) (pa_cons (pv 1) pa_nil))))
      (pss_cons (ps_set (i := 3) sc_law.nd rfl (Or.inl rfl) (pe_c G_L_case hr (by omega) rfl (pa_cons (pv 2) (pa_cons pe_int (pa_cons pe_int pa_nil)))))
      (pss_cons (ps_set (i := 4) sc_law.nd rfl (Or.inl rfl) (pe_mk G_Case hr (by omega) rfl (pa_cons (pe_ix (kIxL K rfl) (pv 3) pe_int (fun _ _ => rfl)) (pa_cons (pe_ix (kIxL K rfl) (pv 3) pe_int (fun _ _ => rfl)) (pa_cons (pe_ix (kIxL K rfl) (pv 3) pe_int (fun _ _ => rfl)) pa_nil)))))
      (pss_one (ps_for PassesOwn.never rfl (pi_range1 rfl T0.range (pa_cons (pe_ix (kIxL K rfl) (pv 3) pe_int (fun _ _ => rfl)) pa_nil)) (pg_name (i := 5) sc_law.nd rfl (Or.inl rfl))
      (pss_one (ps_if (pt_not (pt_val (pe_c G_L_wish_right hr (by omega) rfl (pa_cons (pv 4) (pa_cons (pv 3) (pa_cons (pv 5) pa_nil)))))) (pss_one (ps_ret pe_bl)) pss_nil))))))))
      (pss_one (ps_ret pe_bl))), ?_⟩
  have hl : (ns.map V.int).length = ns.length := List.length_map _
  refine ⟨_, rfl, a, _, rfl, .inl ha, _, _, rfl, _, _, rfl, _, rfl, ?_, ?_, ?_⟩
  · rw [hl]
    split <;> split <;> omega
  · rw [hl]
    split <;> split <;> omega
  refine for_range (lo := 0) (n := (if (if (((ns.map V.int).length : Nat) : Int) < 20 then (((ns.map V.int).length : Nat) : Int) else 20) > 1 then (if (((ns.map V.int).length : Nat) : Int) < 20 then (((ns.map V.int).length : Nat) : Int) else 20) else 1).toNat)
    (fun i σ H' => ∃ (v1 v2 v3 v4 v5 : Option V), σ = [some (.ref a), v1, v2, v3, v4, v5] ∧ Same H H') ⟨none, none, none, none, none, rfl, Same.refl H⟩ ?_ ?_
  · rintro i σ H' hi ⟨v1, v2, v3, v4, v5, rfl, s1⟩
    have hk : i < ns.length ∨ (ns = [] ∧ i = 0) := by
      rw [hl] at hi
      cases ns with
      | nil => exact .inr ⟨rfl, by revert hi; simp⟩
      | cons n ns =>
        refine .inl ?_
        revert hi
        simp only [List.length_cons]
        split <;> split <;> omega
    refine ⟨_, rfl, _, rfl, a, ns, i, ?_, s1.seq ha, h63, hk, fun p H1 s2 hp0 hp => ?_⟩
    · show [V.ref a, V.int (0 + (i : Int))] = _
      rw [Int.zero_add]
    refine ⟨_, rfl, p, rfl, hp, fun l k H2 k2 hl0 cl => ?_⟩
    have s3 : Same H' H2 := Same.new s2 hp0 k2
    obtain ⟨ok, v, a2, ys, hl2, hv, ha2, hys⟩ := id cl
    refine ⟨_, rfl, l, _, _, _, rfl, rfl, SqL.of hl2, atI_nat (j := 0) rfl, _, rfl, l, _, _, _, rfl, rfl, SqL.of hl2, atI_nat (j := 1) rfl, _, rfl, l, _, _, _, rfl, rfl, SqL.of hl2, atI_nat (j := 2) rfl, ?_⟩
    intro x dx nx ndx nex
    have s4 : Same H2 (upd (upd H2 dx (.own x)) x (.ins C dx [])) := fun b o e => by
      rw [upd_ne (ne_of_none e nx), upd_ne (ne_of_none e ndx)]
      exact e
    refine ⟨x, dx, a2, v, ys, k, rfl, upd_same, ok, hv.mono s4, s4 _ _ ha2, hys.mono s4, fun H3 k5 cas => ⟨rfl, ?_⟩⟩
    have s5 : Same H2 H3 := fun b o e => k5 b o (ne_of_none e nx) (s4 b o e)
    have cl3 := cl.mono s5
    have m5 := ok.m5
    refine ⟨_, rfl, l, _, _, _, rfl, rfl, SqL.of (s5 _ _ hl2), atI_nat (j := 0) rfl, _, rfl, by omega, by omega, ?_⟩
    refine for_range (lo := 0) (n := ((k.many : Nat) : Int).toNat) (fun j σ H4 => ∃ (v5 : Option V), σ = [some (.ref a), some (.int (0 + (i : Int))), some (.ref p), some (.ref l), some (.ref x), v5] ∧ Same H3 H4) ⟨_, rfl, Same.refl H3⟩ ?_ ?_
    · rintro j σ H4 hj ⟨v5, rfl, s6⟩
      rw [Int.toNat_natCast] at hj
      refine ⟨_, rfl, _, rfl, _, rfl, x, l, k, j, ?_, cas.mono s6, cl3.mono s6, hj, fun H5 s7 => ⟨_, rfl, iteF ?_⟩⟩
      · show [V.ref x, V.ref l, V.int (0 + (j : Int))] = _
        rw [Int.zero_add]
      · exact ⟨_, rfl, s6.trans s7⟩
    · rintro σ H4 ⟨v5, rfl, s6⟩
      exact ⟨_, _, _, _, _, rfl, ((s1.trans s3).trans s5).trans s6⟩
  · rintro σ H' ⟨v1, v2, v3, v4, v5, rfl, s1⟩
    exact q H'
end
end Ea

set_option maxHeartbeats 0
namespace Ea
open PySem PySem.Spec PyProof.Rows L2
def fn : List He.DefD := [d_is_whole, d_is_within, d_is_row, d_inner_parts, d_is_form, d_are_rows, d_parts_of, d_is_decision, d_answer_cases, d_answer, d_look_at_rows, d_Case_init, d_Case_many, d_Case_rows, d_Case_look_at_row, d_Case_can_be, d_Case_answer, d_look_at_wish, d_turned_about, d_twins, d_pairs, d_table_of, d_alone, d_lets_pair, d_is_line, d_lets_alone, d_L_pool, d_L_take, d_L_decision, d_L_answer, d_L_all_rows, d_L_rows_of, d_L_case, d_L_turned, d_L_sways, d_L_pairs, d_L_table, d_L_wish_right, d_law]
def fa : List He.Fa := [.glo "is_whole", .glo "is_within", .glo "is_row", .glo "inner_parts", .glo "is_form", .glo "are_rows", .glo "parts_of", .glo "is_decision", .glo "answer_cases", .glo "answer_decisions", .glo "look_at_rows", .glo "look_at_wish", .glo "turned_about", .glo "twins", .glo "pairs", .glo "table_of", .glo "alone", .glo "lets_pair", .glo "is_line", .glo "lets_alone", .glo "_law_pool", .glo "_law_take", .glo "_law_decision", .glo "_law_answer", .glo "_law_all_rows", .glo "_law_rows_of", .glo "_law_case", .glo "_law_turned", .glo "_law_sways", .glo "_law_pairs", .glo "_law_table", .glo "_law_wish_right", .glo "law", .glo "Case", .free "isinstance", .free "int", .free "bool", .free "tuple", .free "len", .free "all", .free "list", .free "str", .free "any", .free "range", .free "enumerate", .free "sorted", .free "zip", .free "min", .free "max", .int "MOST_PARTS" 60, .int "DEEPEST" 12, .int "MOST_WITHIN" 6, .int "MOST_ROWS" 4, .int "MOST_WISHES" 8, .cls "Case", .noat "Case" "case_many", .noat "Case" "case_decision", .noat "Case" "case_rows", .meth "Case" "many", .meth "Case" "rows", .meth "Case" "look_at_row", .meth "Case" "can_be", .meth "Case" "answer", .mkr "Case"]
def loose1 : List PySem.Str := ["AloneError", "NoCase", "NoRow", "NoWish", "is_whole", "is_within", "is_row", "MOST_PARTS", "DEEPEST", "MOST_WITHIN", "MOST_ROWS", "inner_parts", "is_form", "are_rows", "parts_of", "is_decision", "answer_cases", "answer", "answer_decisions", "MOST_WISHES", "all_rows", "look_at_rows"]
def loose2 : List PySem.Str := ["Case", "look_at_wish", "turned_about", "twins", "pairs", "table_of", "alone", "lets_pair", "is_line", "lets_alone", "_law_pool", "_law_take", "_law_decision", "_law_answer", "_law_all_rows", "_law_rows_of", "_law_case", "_law_turned", "_law_sways", "_law_pairs", "_law_table", "_law_wish_right"]
abbrev R : PySem.W.OpenRow := PySem.W.OpenLaw.row PySem.Challenge.rw_eachalone_k22_whole_a_pair_or_a_table
abbrev hk : PySem.W.Hook := He.hookD 6 fa fn
def ob (s : PySem.W.SharedT) : He.AlD := He.obsDG 6 fa fn (HandSHeadRun.getT s)
theorem ob_eq (s : PySem.W.SharedT) : ob s = hk.obs s.abs := He.obsDG_eq (HandSHeadRun.getT_eq s)
theorem run (w : World) : HandSHeadRun.RunEq R (PySem.W.view R.prog [50]) hk ob 6000 (loose1 ++ loose2) w := by
  intro os
  kernel_rfl
end Ea

set_option maxHeartbeats 8000000
namespace Ea
open PySem PySem.Spec PyProof.Rows L2
theorem facts {P : Program} {w : World} {K : PySem.W.Frag} {h : Heap} {mg : Str → Option Value} {f : Addr} (X : K.In h) (G : h.Ns mainGlobals mg) (hfa : mg ("law" : Str) = some (.ref f)) (c : He.SaysD fa fn K) :
    ∃ fd : FuncData, (∀ (s : Shared) (v : Value), BindsTo s fd ⟨[v], []⟩ [("_law_script", v)]) ∧ ∀ base : Heap, K.In base → base.Ns mainGlobals mg → FnOk P w K mg base CX0 35 f fd ["_law_script"] (spLaw K) := by
  have T0 : Txt mg := ⟨He.free_ok X G (c.fact 34 (f := .free "isinstance") rfl), He.free_ok X G (c.fact 35 (f := .free "int") rfl), He.free_ok X G (c.fact 36 (f := .free "bool") rfl), He.free_ok X G (c.fact 37 (f := .free "tuple") rfl), He.free_ok X G (c.fact 38 (f := .free "len") rfl), He.free_ok X G (c.fact 39 (f := .free "all") rfl), He.free_ok X G (c.fact 40 (f := .free "list") rfl), He.free_ok X G (c.fact 41 (f := .free "str") rfl), He.free_ok X G (c.fact 42 (f := .free "any") rfl), He.free_ok X G (c.fact 43 (f := .free "range") rfl), He.free_ok X G (c.fact 44 (f := .free "enumerate") rfl), He.free_ok X G (c.fact 45 (f := .free "sorted") rfl), He.free_ok X G (c.fact 46 (f := .free "zip") rfl), He.free_ok X G (c.fact 47 (f := .free "min") rfl), He.free_ok X G (c.fact 48 (f := .free "max") rfl)⟩
  have T1 : Nums mg := ⟨He.int_ok X G (c.fact 49 (f := .int "MOST_PARTS" 60) rfl), He.int_ok X G (c.fact 50 (f := .int "DEEPEST" 12) rfl), He.int_ok X G (c.fact 51 (f := .int "MOST_WITHIN" 6) rfl), He.int_ok X G (c.fact 52 (f := .int "MOST_ROWS" 4) rfl), He.int_ok X G (c.fact 53 (f := .int "MOST_WISHES" 8) rfl)⟩
  have gC := He.glo_ok X G (c.fact 33 (f := .glo "Case") rfl)
  have TC : Cl K (He.ga K "Case") := ⟨He.cls_ok (c.fact 54 (f := .cls "Case") rfl), He.noat_ok (c.fact 55 (f := .noat "Case" "case_many") rfl), He.noat_ok (c.fact 56 (f := .noat "Case" "case_decision") rfl), He.noat_ok (c.fact 57 (f := .noat "Case" "case_rows") rfl)⟩
  have mk := He.mkr_ok (c.fact 63 (f := .mkr "Case") rfl)
  obtain ⟨fd0, F0⟩ := c.def_ 0 (d := d_is_whole) rfl
  have D_is_whole : Def K mg "is_whole" "is_whole" s_is_whole [] := ⟨⟨_, _, F0, He.glo_ok X G (c.fact 0 (f := .glo "is_whole") rfl)⟩⟩
  obtain ⟨fd1, F1⟩ := c.def_ 1 (d := d_is_within) rfl
  have D_is_within : Def K mg "is_within" "is_within" s_is_within [] := ⟨⟨_, _, F1, He.glo_ok X G (c.fact 1 (f := .glo "is_within") rfl)⟩⟩
  obtain ⟨fd2, F2⟩ := c.def_ 2 (d := d_is_row) rfl
  have D_is_row : Def K mg "is_row" "is_row" s_is_row [] := ⟨⟨_, _, F2, He.glo_ok X G (c.fact 2 (f := .glo "is_row") rfl)⟩⟩
  obtain ⟨fd3, F3⟩ := c.def_ 3 (d := d_inner_parts) rfl
  have D_inner_parts : Def K mg "inner_parts" "inner_parts" s_inner_parts [] := ⟨⟨_, _, F3, He.glo_ok X G (c.fact 3 (f := .glo "inner_parts") rfl)⟩⟩
  obtain ⟨fd4, F4⟩ := c.def_ 4 (d := d_is_form) rfl
  have D_is_form : Def K mg "is_form" "is_form" s_is_form [] := ⟨⟨_, _, F4, He.glo_ok X G (c.fact 4 (f := .glo "is_form") rfl)⟩⟩
  obtain ⟨fd5, F5⟩ := c.def_ 5 (d := d_are_rows) rfl
  have D_are_rows : Def K mg "are_rows" "are_rows" s_are_rows [] := ⟨⟨_, _, F5, He.glo_ok X G (c.fact 5 (f := .glo "are_rows") rfl)⟩⟩
  obtain ⟨fd6, F6⟩ := c.def_ 6 (d := d_parts_of) rfl
  have D_parts_of : Def K mg "parts_of" "parts_of" s_parts_of [] := ⟨⟨_, _, F6, He.glo_ok X G (c.fact 6 (f := .glo "parts_of") rfl)⟩⟩
  obtain ⟨fd7, F7⟩ := c.def_ 7 (d := d_is_decision) rfl
  have D_is_decision : Def K mg "is_decision" "is_decision" s_is_decision [.int 8] := ⟨⟨_, _, F7, He.glo_ok X G (c.fact 7 (f := .glo "is_decision") rfl)⟩⟩
  obtain ⟨fd8, F8⟩ := c.def_ 8 (d := d_answer_cases) rfl
  have D_answer_cases : Def K mg "answer_cases" "answer_cases" s_answer_cases [] := ⟨⟨_, _, F8, He.glo_ok X G (c.fact 8 (f := .glo "answer_cases") rfl)⟩⟩
  obtain ⟨fd9, F9⟩ := c.def_ 9 (d := d_answer) rfl
  have D_answer : Def K mg "answer_decisions" "answer" s_answer [] := ⟨⟨_, _, F9, He.glo_ok X G (c.fact 9 (f := .glo "answer_decisions") rfl)⟩⟩
  obtain ⟨fd10, F10⟩ := c.def_ 10 (d := d_look_at_rows) rfl
  have D_look_at_rows : Def K mg "look_at_rows" "look_at_rows" s_look_at_rows [] := ⟨⟨_, _, F10, He.glo_ok X G (c.fact 10 (f := .glo "look_at_rows") rfl)⟩⟩
  obtain ⟨fd11, F11⟩ := c.def_ 11 (d := d_Case_init) rfl
  have D_Case_init : DefM K (He.ga K "Case") "__init__" "Case.__init__" s_Case_init [.non] := ⟨⟨_, _, F11, ⟨mk.2, mk.3, F11.kp⟩⟩⟩
  obtain ⟨fd12, F12⟩ := c.def_ 12 (d := d_Case_many) rfl
  have D_Case_many : DefM K (He.ga K "Case") "many" "Case.many" s_Case_many [] := ⟨⟨_, _, F12, He.meth_ok (c.fact 58 (f := .meth "Case" "many") rfl)⟩⟩
  obtain ⟨fd13, F13⟩ := c.def_ 13 (d := d_Case_rows) rfl
  have D_Case_rows : DefM K (He.ga K "Case") "rows" "Case.rows" s_Case_rows [] := ⟨⟨_, _, F13, He.meth_ok (c.fact 59 (f := .meth "Case" "rows") rfl)⟩⟩
  obtain ⟨fd14, F14⟩ := c.def_ 14 (d := d_Case_look_at_row) rfl
  have D_Case_look_at_row : DefM K (He.ga K "Case") "look_at_row" "Case.look_at_row" s_Case_look_at_row [] := ⟨⟨_, _, F14, He.meth_ok (c.fact 60 (f := .meth "Case" "look_at_row") rfl)⟩⟩
  obtain ⟨fd15, F15⟩ := c.def_ 15 (d := d_Case_can_be) rfl
  have D_Case_can_be : DefM K (He.ga K "Case") "can_be" "Case.can_be" s_Case_can_be [] := ⟨⟨_, _, F15, He.meth_ok (c.fact 61 (f := .meth "Case" "can_be") rfl)⟩⟩
  obtain ⟨fd16, F16⟩ := c.def_ 16 (d := d_Case_answer) rfl
  have D_Case_answer : DefM K (He.ga K "Case") "answer" "Case.answer" s_Case_answer [] := ⟨⟨_, _, F16, He.meth_ok (c.fact 62 (f := .meth "Case" "answer") rfl)⟩⟩
  obtain ⟨fd17, F17⟩ := c.def_ 17 (d := d_look_at_wish) rfl
  have D_look_at_wish : Def K mg "look_at_wish" "look_at_wish" s_look_at_wish [] := ⟨⟨_, _, F17, He.glo_ok X G (c.fact 11 (f := .glo "look_at_wish") rfl)⟩⟩
  obtain ⟨fd18, F18⟩ := c.def_ 18 (d := d_turned_about) rfl
  have D_turned_about : Def K mg "turned_about" "turned_about" s_turned_about [] := ⟨⟨_, _, F18, He.glo_ok X G (c.fact 12 (f := .glo "turned_about") rfl)⟩⟩
  obtain ⟨fd19, F19⟩ := c.def_ 19 (d := d_twins) rfl
  have D_twins : Def K mg "twins" "twins" s_twins [] := ⟨⟨_, _, F19, He.glo_ok X G (c.fact 13 (f := .glo "twins") rfl)⟩⟩
  obtain ⟨fd20, F20⟩ := c.def_ 20 (d := d_pairs) rfl
  have D_pairs : Def K mg "pairs" "pairs" s_pairs [] := ⟨⟨_, _, F20, He.glo_ok X G (c.fact 14 (f := .glo "pairs") rfl)⟩⟩
  obtain ⟨fd21, F21⟩ := c.def_ 21 (d := d_table_of) rfl
  have D_table_of : Def K mg "table_of" "table_of" s_table_of [] := ⟨⟨_, _, F21, He.glo_ok X G (c.fact 15 (f := .glo "table_of") rfl)⟩⟩
  obtain ⟨fd22, F22⟩ := c.def_ 22 (d := d_alone) rfl
  have D_alone : Def K mg "alone" "alone" s_alone [] := ⟨⟨_, _, F22, He.glo_ok X G (c.fact 16 (f := .glo "alone") rfl)⟩⟩
  obtain ⟨fd23, F23⟩ := c.def_ 23 (d := d_lets_pair) rfl
  have D_lets_pair : Def K mg "lets_pair" "lets_pair" s_lets_pair [] := ⟨⟨_, _, F23, He.glo_ok X G (c.fact 17 (f := .glo "lets_pair") rfl)⟩⟩
  obtain ⟨fd24, F24⟩ := c.def_ 24 (d := d_is_line) rfl
  have D_is_line : Def K mg "is_line" "is_line" s_is_line [] := ⟨⟨_, _, F24, He.glo_ok X G (c.fact 18 (f := .glo "is_line") rfl)⟩⟩
  obtain ⟨fd25, F25⟩ := c.def_ 25 (d := d_lets_alone) rfl
  have D_lets_alone : Def K mg "lets_alone" "lets_alone" s_lets_alone [] := ⟨⟨_, _, F25, He.glo_ok X G (c.fact 19 (f := .glo "lets_alone") rfl)⟩⟩
  obtain ⟨fd26, F26⟩ := c.def_ 26 (d := d_L_pool) rfl
  have D_L_pool : Def K mg "_law_pool" "_law_pool" s_L_pool [] := ⟨⟨_, _, F26, He.glo_ok X G (c.fact 20 (f := .glo "_law_pool") rfl)⟩⟩
  obtain ⟨fd27, F27⟩ := c.def_ 27 (d := d_L_take) rfl
  have D_L_take : Def K mg "_law_take" "_law_take" s_L_take [] := ⟨⟨_, _, F27, He.glo_ok X G (c.fact 21 (f := .glo "_law_take") rfl)⟩⟩
  obtain ⟨fd28, F28⟩ := c.def_ 28 (d := d_L_decision) rfl
  have D_L_decision : Def K mg "_law_decision" "_law_decision" s_L_decision [] := ⟨⟨_, _, F28, He.glo_ok X G (c.fact 22 (f := .glo "_law_decision") rfl)⟩⟩
  obtain ⟨fd29, F29⟩ := c.def_ 29 (d := d_L_answer) rfl
  have D_L_answer : Def K mg "_law_answer" "_law_answer" s_L_answer [] := ⟨⟨_, _, F29, He.glo_ok X G (c.fact 23 (f := .glo "_law_answer") rfl)⟩⟩
  obtain ⟨fd30, F30⟩ := c.def_ 30 (d := d_L_all_rows) rfl
  have D_L_all_rows : Def K mg "_law_all_rows" "_law_all_rows" s_L_all_rows [] := ⟨⟨_, _, F30, He.glo_ok X G (c.fact 24 (f := .glo "_law_all_rows") rfl)⟩⟩
  obtain ⟨fd31, F31⟩ := c.def_ 31 (d := d_L_rows_of) rfl
  have D_L_rows_of : Def K mg "_law_rows_of" "_law_rows_of" s_L_rows_of [] := ⟨⟨_, _, F31, He.glo_ok X G (c.fact 25 (f := .glo "_law_rows_of") rfl)⟩⟩
  obtain ⟨fd32, F32⟩ := c.def_ 32 (d := d_L_case) rfl
  have D_L_case : Def K mg "_law_case" "_law_case" s_L_case [] := ⟨⟨_, _, F32, He.glo_ok X G (c.fact 26 (f := .glo "_law_case") rfl)⟩⟩
  obtain ⟨fd33, F33⟩ := c.def_ 33 (d := d_L_turned) rfl
  have D_L_turned : Def K mg "_law_turned" "_law_turned" s_L_turned [] := ⟨⟨_, _, F33, He.glo_ok X G (c.fact 27 (f := .glo "_law_turned") rfl)⟩⟩
  obtain ⟨fd34, F34⟩ := c.def_ 34 (d := d_L_sways) rfl
  have D_L_sways : Def K mg "_law_sways" "_law_sways" s_L_sways [] := ⟨⟨_, _, F34, He.glo_ok X G (c.fact 28 (f := .glo "_law_sways") rfl)⟩⟩
  obtain ⟨fd35, F35⟩ := c.def_ 35 (d := d_L_pairs) rfl
  have D_L_pairs : Def K mg "_law_pairs" "_law_pairs" s_L_pairs [] := ⟨⟨_, _, F35, He.glo_ok X G (c.fact 29 (f := .glo "_law_pairs") rfl)⟩⟩
  obtain ⟨fd36, F36⟩ := c.def_ 36 (d := d_L_table) rfl
  have D_L_table : Def K mg "_law_table" "_law_table" s_L_table [] := ⟨⟨_, _, F36, He.glo_ok X G (c.fact 30 (f := .glo "_law_table") rfl)⟩⟩
  obtain ⟨fd37, F37⟩ := c.def_ 37 (d := d_L_wish_right) rfl
  have D_L_wish_right : Def K mg "_law_wish_right" "_law_wish_right" s_L_wish_right [] := ⟨⟨_, _, F37, He.glo_ok X G (c.fact 31 (f := .glo "_law_wish_right") rfl)⟩⟩
  obtain ⟨fd38, F38⟩ := c.def_ 38 (d := d_law) rfl
  have e := hfa.symm.trans (He.glo_ok X G (c.fact 32 (f := .glo "law") rfl))
  cases e
  have bl := FunD.bindsA (ps := ["_law_script"]) F38 fun _ _ _ _ _ _ us hl => match us, hl with | [_], _ => rfl
  refine ⟨fd38, fun s v => bl s [v] rfl, fun base _ _ => ?_⟩
  have g_is_whole := ok_is_whole (P := P) (w := w) (base := base) T0 D_is_whole
  have g_is_within := ok_is_within D_is_within g_is_whole
  have g_is_row := ok_is_row (P := P) (w := w) (base := base) T0 D_is_row
  have g_inner_parts := ok_inner_parts (P := P) (w := w) (base := base) T0 D_inner_parts
  have g_are_rows := ok_are_rows (P := P) (w := w) (base := base) T0 T1 D_are_rows
  have g_is_form := ok_is_form T0 T1 D_is_form g_are_rows g_is_within
  have g_parts_of := ok_parts_of T1 D_parts_of g_is_form g_inner_parts
  have g_is_decision := ok_is_decision T1 D_is_decision g_parts_of
  have g_answer := ok_answer (P := P) (w := w) (base := base) T0 D_answer D_answer_cases
  have g_look_at_rows := ok_look_at_rows T0 D_look_at_rows g_is_row
  have m_many := ok_Case_many (P := P) (w := w) (mg := mg) (base := base) TC D_Case_many
  have m_rows := ok_Case_rows (P := P) (w := w) (mg := mg) (base := base) T0 TC D_Case_rows
  have m_look_at_row := ok_Case_look_at_row (P := P) (w := w) TC D_Case_look_at_row g_is_row
  have m_can_be := ok_Case_can_be TC D_Case_can_be m_look_at_row
  have m_answer := ok_Case_answer TC D_Case_answer m_look_at_row g_answer
  have g_Case := ok_Case_init T0 T1 TC D_Case_init (fun f hm => ⟨mk.1, hm.1, hm.2, mk.4⟩) gC g_is_within g_is_decision g_look_at_rows g_answer
  have g_look_at_wish := ok_look_at_wish D_look_at_wish g_is_within m_many
  have g_turned_about := ok_turned_about (P := P) (w := w) (base := base) D_turned_about
  have g_twins := ok_twins T0 D_twins g_turned_about m_rows m_can_be
  have g_pairs := ok_pairs D_pairs g_look_at_wish g_twins m_answer
  have g_table_of := ok_table_of D_table_of g_twins m_answer
  have g_alone := ok_alone D_alone g_pairs g_table_of
  have g_lets_pair := ok_lets_pair D_lets_pair g_is_row m_many g_pairs
  have g_is_line := ok_is_line T0 D_is_line g_is_row
  have g_lets_alone := ok_lets_alone T0 D_lets_alone g_look_at_wish g_lets_pair g_table_of g_pairs g_is_line m_many
  have g_L_pool := ok_L_pool (P := P) (w := w) (base := base) T0 D_L_pool
  have g_L_take := ok_L_take (P := P) (w := w) (base := base) D_L_take
  have g_L_decision := ok_L_decision T0 D_L_decision g_L_take
  have g_L_answer := ok_L_answer (P := P) (w := w) (base := base) T0 D_L_answer
  have g_L_all_rows := ok_L_all_rows (P := P) (w := w) (base := base) T0 D_L_all_rows
  have g_L_rows_of := ok_L_rows_of T0 D_L_rows_of g_L_take g_L_all_rows
  have g_L_case := ok_L_case D_L_case g_L_take (g_L_decision 6) g_L_rows_of
  have g_L_turned := ok_L_turned (P := P) (w := w) (base := base) D_L_turned
  have g_L_pairs := ok_L_pairs T0 D_L_pairs g_L_turned fun n => ok_L_sways D_L_sways (g_L_answer n) g_L_turned
  have g_L_table := ok_L_table T0 D_L_table g_L_turned g_L_answer
  have g_L_wish_right := ok_L_wish_right T0 D_L_wish_right g_L_pairs g_L_table g_L_turned g_alone g_lets_alone
  exact body_law T0 g_L_pool g_L_case g_Case g_L_wish_right F38
end Ea
open PySem PySem.W PySem.Calls PyProof.Rows
set_option maxHeartbeats 0
theorem PySem.Challenge.cw_eachalone_k22_whole_a_pair_or_a_table_holds : PySem.Challenge.rw_eachalone_k22_whole_a_pair_or_a_table.Holds := by
  w_on; o_law
  refine HandSHeadRun.head_any (r := OpenLaw.row PySem.Challenge.rw_eachalone_k22_whole_a_pair_or_a_table) (q := view (OpenLaw.row PySem.Challenge.rw_eachalone_k22_whole_a_pair_or_a_table).prog [50]) (H := Ea.hk) (ob := Ea.ob) (M := 6000) (loose := Ea.loose1 ++ Ea.loose2) (d := HandSHeadRun.topDef (OpenLaw.row PySem.Challenge.rw_eachalone_k22_whole_a_pair_or_a_table).prog 50) (kwd := []) Ea.ob_eq
    (by kernel_rfl) (fun s => by kernel_rfl) Ea.run (by kernel_rfl) (by kernel_rfl) (by kernel_rfl) (by rfl) (by first | assumption | decide +kernel) (by decide +kernel) ⟨rfl, rfl, rfl, rfl, rfl, by decide +kernel⟩ ?hw ?hc
  case hw => w_witness2
  case hc =>
    refine L2.walk_ofE (l := PySem.Challenge.rw_eachalone_k22_whole_a_pair_or_a_table) (n := 63) (k := 35) (x := "_law_script") (CX := L2.CX0) rfl (by decide) (by kernel_rfl) ⟨rfl, by decide, by decide⟩ ?F (fun _ _ _ _ z => z)
    intro w mg fa h Y G hmg0
    obtain ⟨K, KX, c⟩ := Y
    have hmg : mg ("law" : PySem.Str) = some (.ref fa) := by
      have e : (HandSHeadRun.topDef (OpenLaw.row PySem.Challenge.rw_eachalone_k22_whole_a_pair_or_a_table).prog 50).name = ("law" : PySem.Str) := by kernel_rfl
      rw [← e]
      exact hmg0
    obtain ⟨fd, hb, hF⟩ := Ea.facts (P := (PySem.Challenge.rw_eachalone_k22_whole_a_pair_or_a_table).prog) (w := w) KX G hmg c
    exact ⟨K, fd, Ea.spLaw K, KX, hb, fun H a ns hl _ hS => ⟨a, ns, rfl, hS, hl, fun _ => rfl⟩, hF⟩
