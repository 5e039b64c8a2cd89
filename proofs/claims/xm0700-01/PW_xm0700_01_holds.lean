import PyProof.Rows.All
import Wide.All
import OpenK.AllK
import Wide.FinOn
import PySem.Challenge.RW_xm0700_01
open PySem PySem.W PyProof.Rows PySem.Calls
set_option Elab.async false
namespace Mine
set_option maxRecDepth 100000 in
set_option maxHeartbeats 8000000 in
open_top hd for PySem.Challenge.rw_xm0700_01
end Mine

namespace Mine
abbrev tupA (vs : Array Value) (n : Nat) : Obj := { cls := .type "tuple", data := .seq vs n }

theorem adjust_rev (n : Nat) : Builtin.Slice.sliceAdjust none none (-1) (n : Int) = ((n : Int) - 1, -1) := by
  unfold Builtin.Slice.sliceAdjust
  have h1 : ((-1 : Int) < 0) := by omega
  simp only [h1, if_true]
theorem places_rev (n : Nat) : Builtin.Slice.slicePlaces ((n : Int) - 1) (-1) (-1) = n := by
  unfold Builtin.Slice.slicePlaces
  have h1 : ¬ ((-1 : Int) > 0) := by omega
  have h2 : (- (-1 : Int)) = 1 := by omega
  simp only [h1, if_false, h2, Int.ediv_one]
  split <;> omega
section
variable {prog : Program} {w : World} {A : Around} {E : Value → Shared → Prop} {s : Shared}
theorem sliceApplied_rev {sl : Addr} {n : Nat} {u : Tok} {Q : Int × Int × Nat → Shared → Prop} (hs : s.heap.IsSliceOf sl .none .none (.int (-1) u)) (h : Q ((n : Int) - 1, -1, n) s) :
    wpAny (model prog w) A (Builtin.Slice.sliceApplied (.ref sl) (pure (n : Int))) Q E s := by
  obtain ⟨os, hos, hcs, hds⟩ := id hs
  unfold Builtin.Slice.sliceApplied Builtin.Slice.sliceFields
  refine wpAny_bind (wpAny_bind (wpAny_field hos hds (x := .none) rfl (wpAny_bind (wpAny_field hos hds (x := .none) rfl (wpAny_bind (wpAny_field hos hds (x := .int (-1) u) rfl (wpAny_pure ?_)))))))
  refine wpAny_bind (slicePart_int ?_)
  show wpAny _ _ (if (((-1 : Int)) == 0) = true then _ else _) _ _ s
  rw [if_neg (by decide)]
  refine wpAny_bind (slicePart_none (wpAny_bind (slicePart_none (wpAny_bind (wpAny_pure ?_)))))
  show wpAny _ _ (match Builtin.Slice.sliceAdjust none none (-1) (n : Int) with | (lo, hi) => pure (lo, (-1 : Int), Builtin.Slice.slicePlaces lo hi (-1))) _ _ s
  rw [adjust_rev n]
  show wpAny _ _ (pure ((n : Int) - 1, (-1 : Int), Builtin.Slice.slicePlaces ((n : Int) - 1) (-1) (-1))) _ _ s
  rw [places_rev n]
  exact wpAny_pure h
theorem fm_congr {α β : Type} {f g : α → Option β} : ∀ {l : List α}, (∀ x ∈ l, f x = g x) → l.filterMap f = l.filterMap g
  | [], _ => rfl
  | a :: l, h => by
    rw [List.filterMap_cons, List.filterMap_cons, h a (.head _), fm_congr fun x hx => h x (.tail _ hx)]
theorem pick_rev (xs : Array Value) : ((List.range xs.size).filterMap fun (k : Nat) => xs[((xs.size : Int) - 1 + (k : Int) * (-1)).toNat]?).toArray = xs.toList.reverse.toArray := by
  congr 1
  have e : ((List.range xs.size).filterMap fun (k : Nat) => xs[((xs.size : Int) - 1 + (k : Int) * (-1)).toNat]?) = ((List.range xs.size).map (fun k => xs.size - 1 - k)).filterMap (xs[·]?) := by
    rw [List.filterMap_map]
    refine fm_congr fun k hk => ?_
    have hk' := List.mem_range.mp hk
    have : ((xs.size : Int) - 1 + (k : Int) * (-1)).toNat = xs.size - 1 - k := by omega
    show xs[((xs.size : Int) - 1 + (k : Int) * (-1)).toNat]? = xs[xs.size - 1 - k]?
    rw [this]
  rw [e, krv_range, List.filterMap_reverse, krv_all]

theorem getItem_tuple_rev {t sl : Addr} {items : Array Value} {u : Tok} {Q : Value → Shared → Prop} (ht : IsTup s.heap t items) (hs : s.heap.IsSliceOf sl .none .none (.int (-1) u))
    (h : Q (.ref s.heap.objs.size) { s with heap := s.heap.push { cls := .type "tuple", data := .seq items.toList.reverse.toArray } })
    (hsz : items.size ≤ sizeLine) : wpAny (model prog w) A (getItem (.ref t) (.ref sl)) Q E s := by
  have hrev : sizeOk (.seq items.toList.reverse.toArray) := by
    show items.toList.reverse.toArray.size ≤ sizeLine
    rw [List.size_toArray, List.length_reverse, Array.length_toList]
    exact hsz
  obtain ⟨os, hos, hcs, hds⟩ := id hs
  have hTs : s.TypeIs (.ref sl) "slice" := ⟨os, hos, hcs⟩
  unfold getItem
  try with_reducible refine wpAny_holding ?_
  first | refine wpAny_bind (wpAny_pure ?_) | skip
  refine wpAny_bind (wpAny_sequenceKey ht.typeIs (by decide) ?_)
  refine wpAny_bind (wpAny_callSpecial?_slot (name := Str.ofString "__getitem__") ht.typeIs slot_tuple_getitem
    (wpAny_call_entry slot_tuple_getitem ht.typeIs entry_tuple_getitem ?_ (args_tuple_getitem _ _)))
  show wpAny _ _ (Builtin.Tuple.tupleItemsOf (.ref t) >>= _) _ _ s
  refine wpAny_bind (tupleItemsOf_ ht ?_)
  refine wpAny_bind (wpAny_typeOf hTs ?_)
  rw [if_pos (by decide)]
  refine wpAny_bind (sliceApplied_rev hs ?_)
  have hno : ¬ ((((items.size : Int) - 1) == 0 && (-1 : Int) == 1 && items.size == items.size) = true) := by
    have : ((-1 : Int) == 1) = false := by decide
    rw [this]; simp
  show wpAny _ _ (if (((items.size : Int) - 1) == 0 && (-1 : Int) == 1 && items.size == items.size) = true then _ else _) _ _ s
  rw [if_neg hno, pick_rev items]
  first
    | exact wpAny_bind (m := Builtin.Tuple.tupleExact _) (wpAny_newObj_type (wpAny_pure ⟨_, rfl, wpAny_pure h⟩) hrev)
    | exact wpAny_bind (m := Builtin.Tuple.tupleExact _) (wpAny_newObj_type (wpAny_bind (wpAny_pure (wpAny_pure ⟨_, rfl, wpAny_pure h⟩))) hrev)
    | exact wpAny_bind (wpAny_bind (m := Builtin.Tuple.tupleExact _) (wpAny_newObj_type (wpAny_pure (wpAny_pure ⟨_, rfl, wpAny_pure h⟩)) hrev))
    | exact wpAny_bind (wpAny_bind (m := Builtin.Tuple.tupleExact _) (wpAny_newObj_type (wpAny_pure ⟨_, rfl, wpAny_pure h⟩) hrev))
variable {h₀ : Heap} {L : Addr} {m : Str → Option Value} {news : List (Addr × Obj)}
theorem slice_tuple_rev {value slice : Expr} {t : Addr} {vs : List Value} {c : Nat} {u : Tok} {Q : Value → Shared → Prop}
    (F : Fr h₀ L s.heap m) (N : News h₀ L s.heap news) (ht : (t, tupA vs.toArray c) ∈ news)
    (h : ∀ D h', Fr h₀ L h' m → News h₀ L h' ((D, tupA vs.reverse.toArray 0) :: news) → (∀ p ∈ news, p.1 < D) → Q (.ref D) { s with heap := h' })
    (hs : subscripted slice false (.ref t) (.ref s.heap.objs.size) = operate [.ref s.heap.objs.size, .ref t] (getItem (.ref t) (.ref s.heap.objs.size)))
    (hg : ∀ r, letTemporaryGo value (.ref t) r = pure ())
    (hsz : vs.length ≤ sizeLine) :
    wpAny (model prog w) A (subscriptTail value slice (.ref t) (.ref s.heap.objs.size)) Q E { s with heap := s.heap.push { cls := .type "slice", data := .fields #[.none, .none, .int (-1) u] } } := by
  have ht0 : IsTup s.heap t vs.toArray := N.isTup ht
  have ht' : IsTup (s.heap.push { cls := .type "slice", data := .fields #[.none, .none, .int (-1) u] }) t vs.toArray := ht0.keeps fun _ _ e => Heap.get?_push_of_some _ e
  refine subscriptTail_ops (s := { s with heap := s.heap.push { cls := .type "slice", data := .fields #[.none, .none, .int (-1) u] } }) ht'.typeIs slot_tuple_getitem.lookup
    (getItem_tuple_rev ht' (Heap.IsSliceOf.new ..) ?_ (by rw [List.size_toArray]; exact hsz)) hs hg
  have N1 := News.push (F.push { cls := .type "slice", data := .fields #[.none, .none, .int (-1) u] }) (N.grown fun _ _ e => Heap.get?_push_of_some _ e) { cls := .type "tuple", data := .seq vs.reverse.toArray }
  rw [Heap.size_push] at N1
  show Q (.ref (s.heap.push _).objs.size) _
  rw [Heap.size_push]
  exact h _ _ ((F.push _).push _) N1 fun p hp => Nat.lt_succ_of_lt (Heap.lt_size (N p hp).1)
end

abbrev Pt := Int × Int
abbrev tupO (vs : List Value) (n : Nat) : Obj := { cls := .type "tuple", data := .seq vs.toArray n }
def PtAt (news : List (Addr × Obj)) (v : Value) (p : Pt) : Prop := ∃ (a : Addr) (t u : Tok) (c : Nat), v = .ref a ∧ (a, tupO [.int p.1 t, .int p.2 u] c) ∈ news
def PtsIn (news : List (Addr × Obj)) : List Value → List Pt → Prop
  | [], [] => True
  | v :: vs, p :: ps => PtAt news v p ∧ PtsIn news vs ps
  | _, _ => False
theorem PtAt.mono {n n' : List (Addr × Obj)} (hs : ∀ p ∈ n, p ∈ n') {v : Value} {p : Pt} (h : PtAt n v p) : PtAt n' v p := by
  obtain ⟨a, t, u, c, e, hm⟩ := h
  exact ⟨a, t, u, c, e, hs _ hm⟩
theorem PtsIn.mono {n n' : List (Addr × Obj)} (hs : ∀ p ∈ n, p ∈ n') : ∀ {vs : List Value} {ps : List Pt}, PtsIn n vs ps → PtsIn n' vs ps
  | [], [], _ => trivial
  | _ :: _, _ :: _, h => ⟨h.1.mono hs, h.2.mono hs⟩
  | [], _ :: _, h => h.elim
  | _ :: _, [], h => h.elim
theorem PtsIn.length {n : List (Addr × Obj)} : ∀ {vs : List Value} {ps : List Pt}, PtsIn n vs ps → vs.length = ps.length
  | [], [], _ => rfl
  | _ :: _, _ :: _, h => by rw [List.length_cons, List.length_cons, h.2.length]
  | [], _ :: _, h => h.elim
  | _ :: _, [], h => h.elim
theorem PtsIn.append {n : List (Addr × Obj)} : ∀ {vs ws : List Value} {ps qs : List Pt}, PtsIn n vs ps → PtsIn n ws qs → PtsIn n (vs ++ ws) (ps ++ qs)
  | [], _, [], _, _, k => k
  | _ :: _, _, _ :: _, _, h, k => ⟨h.1, h.2.append k⟩
  | [], _, _ :: _, _, h, _ => h.elim
  | _ :: _, _, [], _, h, _ => h.elim
theorem PtsIn.snoc {n : List (Addr × Obj)} {vs : List Value} {ps : List Pt} {v : Value} {p : Pt} (h : PtsIn n vs ps) (k : PtAt n v p) : PtsIn n (vs ++ [v]) (ps ++ [p]) := h.append ⟨k, trivial⟩
theorem PtsIn.reverse {n : List (Addr × Obj)} : ∀ {vs : List Value} {ps : List Pt}, PtsIn n vs ps → PtsIn n vs.reverse ps.reverse
  | [], [], _ => trivial
  | v :: vs, p :: ps, h => by
    rw [List.reverse_cons, List.reverse_cons]
    exact h.2.reverse.snoc h.1
  | [], _ :: _, h => h.elim
  | _ :: _, [], h => h.elim
theorem PtsIn.get {n : List (Addr × Obj)} : ∀ {vs : List Value} {ps : List Pt}, PtsIn n vs ps → ∀ (k : Nat) (p : Pt), ps[k]? = some p → ∃ v, vs[k]? = some v ∧ PtAt n v p
  | [], [], _, _, _, e => by cases e
  | v :: vs, p :: ps, h, 0, q, e => by
    cases e
    exact ⟨v, rfl, h.1⟩
  | v :: vs, p :: ps, h, k + 1, q, e => h.2.get k q e
  | [], _ :: _, h, _, _, _ => h.elim
  | _ :: _, [], h, _, _, _ => h.elim

def ptD (p : Pt) : PyData := .tuple [.int p.1, .int p.2]
def pairD (a b : List Pt) : PyData := .tuple [.tuple (a.map ptD), .tuple (b.map ptD)]
section
variable {h₀ h : Heap} {L : Addr} {news : List (Addr × Obj)}
theorem PtAt.reads (N : News h₀ L h news) {v : Value} {p : Pt} (x : PtAt news v p) : Reads h v (ptD p) [] := by
  obtain ⟨a, t, u, c, rfl, hm⟩ := x
  exact reads_tuple_at (N.get hm) rfl rfl (.cons (.int _ _) (.cons (.int _ _) .nil))
theorem PtsIn.reads (N : News h₀ L h news) : ∀ {vs : List Value} {ps : List Pt}, PtsIn news vs ps → ReadsAll h vs (ps.map ptD) []
  | [], [], _ => .nil
  | _ :: _, _ :: _, x => .cons (as := []) (bs := []) (x.1.reads N) (x.2.reads N)
  | [], _ :: _, x => x.elim
  | _ :: _, [], x => x.elim
theorem pair_reads (N : News h₀ L h news) {r f g : Addr} {c cf cg : Nat} {fs gs : List Value} {ps qs : List Pt} (hr : (r, tupO [.ref f, .ref g] c) ∈ news) (hf : (f, tupO fs cf) ∈ news) (hg : (g, tupO gs cg) ∈ news)
    (pf : PtsIn news fs ps) (pg : PtsIn news gs qs) : Reads h (.ref r) (pairD ps qs) [] :=
  reads_tuple_at (N.get hr) rfl rfl (.cons (as := []) (bs := []) (reads_tuple_at (N.get hf) rfl rfl (by simpa using pf.reads N)) (.cons (as := []) (bs := []) (reads_tuple_at (N.get hg) rfl rfl (by simpa using pg.reads N)) .nil))
end
theorem ptD_lay : ∀ ps : List Pt, PyData.canLayAll0 (ps.map ptD) = true ∧ PyData.depthAll (ps.map ptD) ≤ 1
  | [] => by simp [PyData.canLayAll0, PyData.depthAll]
  | p :: ps => by
    have h := ptD_lay ps
    refine ⟨?_, ?_⟩
    · simp [PyData.canLayAll0, PyData.canLay0, ptD, h.1]
    · have h2 := h.2
      simp only [List.map_cons, PyData.depthAll, ptD, PyData.depth]
      omega
theorem ptD_eqv : ∀ ps qs : List Pt, (PyData.eqvAll (ps.map ptD) (qs.map ptD) = true ↔ ps = qs)
  | [], [] => by simp [PyData.eqvAll]
  | [], _ :: _ => by simp [PyData.eqvAll]
  | _ :: _, [] => by simp [PyData.eqvAll]
  | (a, b) :: ps, (c, d) :: qs => by
    have h := ptD_eqv ps qs
    simp [PyData.eqvAll, PyData.eqv, ptD, h]
theorem pairD_shaped (ps qs : List Pt) : SeqAt.shaped (pairD ps qs) = true := by
  have h1 := ptD_lay ps
  have h2 := ptD_lay qs
  have a1 := h1.2
  have a2 := h2.2
  unfold SeqAt.shaped
  have e : (pairD ps qs).canLay0 = true := by simp [pairD, PyData.canLay0, PyData.canLayAll0, h1.1, h2.1]
  rw [e, Bool.true_and]
  refine decide_eq_true ?_
  simp only [pairD, PyData.depth, PyData.depthAll]
  omega
theorem pairD_eqv (ps qs ps' qs' : List Pt) : PyData.eqv (pairD ps qs) (pairD ps' qs') = decide (ps = ps' ∧ qs = qs') := by
  have h : PyData.eqv (pairD ps qs) (pairD ps' qs') = true ↔ (ps = ps' ∧ qs = qs') := by
    simp [pairD, PyData.eqv, PyData.eqvAll, ptD_eqv]
  by_cases hq : ps = ps' ∧ qs = qs'
  · rw [decide_eq_true hq]; exact h.mpr hq
  · rw [decide_eq_false hq]; exact Bool.eq_false_iff.mpr fun z => hq (h.mp z)
section
variable {prog : Program} {w : World} {A : Around} {E : Value → Shared → Prop} {s : Shared} {h₀ : Heap} {L : Addr} {news : List (Addr × Obj)} {r f g r' f' g' : Addr} {c cf cg c' cf' cg' : Nat} {fs gs fs' gs' : List Value} {ps qs ps' qs' : List Pt} {Q : Value → Shared → Prop}
theorem eq_pair (N : News h₀ L s.heap news) (hr : (r, tupO [.ref f, .ref g] c) ∈ news) (hf : (f, tupO fs cf) ∈ news) (hg : (g, tupO gs cg) ∈ news) (pf : PtsIn news fs ps) (pg : PtsIn news gs qs)
    (hr' : (r', tupO [.ref f', .ref g'] c') ∈ news) (hf' : (f', tupO fs' cf') ∈ news) (hg' : (g', tupO gs' cg') ∈ news) (pf' : PtsIn news fs' ps') (pg' : PtsIn news gs' qs') (hu : A.units + 64 < cLine)
    (h : Q (.bool (decide (ps = ps' ∧ qs = qs'))) s) : wpAny (model prog w) A (compareOp .Eq (.ref r) (.ref r')) Q E s :=
  eq_dataH (pair_reads N hr hf hg pf pg) (pair_reads N hr' hf' hg' pf' pg') (pairD_shaped _ _) (pairD_shaped _ _) hu (by rw [pairD_eqv]; exact h)
theorem ne_pair (N : News h₀ L s.heap news) (hr : (r, tupO [.ref f, .ref g] c) ∈ news) (hf : (f, tupO fs cf) ∈ news) (hg : (g, tupO gs cg) ∈ news) (pf : PtsIn news fs ps) (pg : PtsIn news gs qs)
    (hr' : (r', tupO [.ref f', .ref g'] c') ∈ news) (hf' : (f', tupO fs' cf') ∈ news) (hg' : (g', tupO gs' cg') ∈ news) (pf' : PtsIn news fs' ps') (pg' : PtsIn news gs' qs') (hu : A.units + 64 < cLine)
    (e : ps = ps' ∧ qs = qs') (h : Q (.bool false) s) : wpAny (model prog w) A (compareOp .NotEq (.ref r) (.ref r')) Q E s :=
  ne_dataH (pair_reads N hr hf hg pf pg) (pair_reads N hr' hf' hg' pf' pg') (pairD_shaped _ _) (pairD_shaped _ _) hu (by rw [pairD_eqv, decide_eq_true e]; exact h)
theorem eq_pair_yes (N : News h₀ L s.heap news) (hr : (r, tupO [.ref f, .ref g] c) ∈ news) (hf : (f, tupO fs cf) ∈ news) (hg : (g, tupO gs cg) ∈ news) (pf : PtsIn news fs ps) (pg : PtsIn news gs qs)
    (hr' : (r', tupO [.ref f', .ref g'] c') ∈ news) (hf' : (f', tupO fs' cf') ∈ news) (hg' : (g', tupO gs' cg') ∈ news) (pf' : PtsIn news fs' ps') (pg' : PtsIn news gs' qs') (hu : A.units + 64 < cLine)
    (e : ps = ps' ∧ qs = qs') (h : Q (.bool true) s) : wpAny (model prog w) A (compareOp .Eq (.ref r) (.ref r')) Q E s :=
  eq_pair N hr hf hg pf pg hr' hf' hg' pf' pg' hu (by rw [decide_eq_true e]; exact h)
end
end Mine

namespace Mine
def mid (a b : Int) : Int := Int.fdiv (a + b) 2
theorem mid_comm (a b : Int) : mid a b = mid b a := by unfold mid; rw [Int.add_comm]
def midP (p q : Pt) : Pt := (mid p.1 q.1, mid p.2 q.2)
theorem midP_comm (p q : Pt) : midP p q = midP q p := by unfold midP; rw [mid_comm p.1, mid_comm p.2]
def nextRow : List Pt → List Pt
  | p :: q :: r => midP p q :: nextRow (q :: r)
  | _ => []
def midAt (ps : List Pt) : Nat → Nat → Pt
  | i, 0 => ps.getD i (0, 0)
  | i, lv + 1 => midP (midAt ps i lv) (midAt ps (i + 1) lv)
def heads : Nat → List Pt → List Pt
  | 0, _ => []
  | k + 1, row => row.getD 0 (0, 0) :: heads k (nextRow row)
def lasts : Nat → List Pt → List Pt
  | 0, _ => []
  | k + 1, row => row.getD k (0, 0) :: lasts k (nextRow row)
def bothF (n : Nat) (g : Nat → Nat → Pt) : List Pt := (List.range n).map fun lv => g 0 lv
def bothS (n : Nat) (g : Nat → Nat → Pt) : List Pt := (List.range n).map fun i => g i (n - 1 - i)

theorem nextRow_length : ∀ ps : List Pt, (nextRow ps).length = ps.length - 1
  | [] => rfl
  | [_] => rfl
  | p :: q :: r => by
    have h := nextRow_length (q :: r)
    simp only [nextRow, List.length_cons] at h ⊢
    omega
theorem nextRow_get : ∀ (ps : List Pt) (i : Nat), i + 1 < ps.length → (nextRow ps).getD i (0, 0) = midP (ps.getD i (0, 0)) (ps.getD (i + 1) (0, 0))
  | [], i, h => absurd h (Nat.not_lt_zero _)
  | [_], i, h => by simp at h
  | p :: q :: r, 0, _ => rfl
  | p :: q :: r, i + 1, h => by
    have h' : i + 1 < (q :: r).length := Nat.lt_of_succ_lt_succ h
    have e := nextRow_get (q :: r) i h'
    simpa [nextRow] using e
theorem midAt_next (ps : List Pt) : ∀ (lv i : Nat), i + lv + 1 < ps.length → midAt (nextRow ps) i lv = midAt ps i (lv + 1)
  | 0, i, h => nextRow_get ps i h
  | lv + 1, i, h => by
    rw [midAt, midAt_next ps lv i (by omega), midAt_next ps lv (i + 1) (by omega), ← midAt]
theorem heads_eq : ∀ (k : Nat) (ps : List Pt), k ≤ ps.length → heads k ps = bothF k (midAt ps)
  | 0, _, _ => rfl
  | k + 1, ps, h => by
    have hn := nextRow_length ps
    rw [heads, heads_eq k (nextRow ps) (by omega)]
    unfold bothF
    rw [List.range_succ_eq_map, List.map_cons, List.map_map]
    refine congrArg (List.cons _) (List.map_congr_left fun lv hl => ?_)
    have := List.mem_range.mp hl
    exact midAt_next ps lv 0 (by omega)
theorem lasts_eq : ∀ (k : Nat) (ps : List Pt), ps.length = k → lasts k ps = (List.range k).map fun lv => midAt ps (k - 1 - lv) lv
  | 0, _, _ => rfl
  | k + 1, ps, h => by
    have hn := nextRow_length ps
    rw [lasts, lasts_eq k (nextRow ps) (by omega), List.range_succ_eq_map, List.map_cons, List.map_map]
    refine congrArg (List.cons _) (List.map_congr_left fun lv hl => ?_)
    have := List.mem_range.mp hl
    rw [midAt_next ps lv _ (by omega)]
    show _ = midAt ps (k + 1 - 1 - (lv + 1)) (lv + 1)
    congr 1
    omega
theorem rev_range {α : Type} (n : Nat) (f : Nat → α) : ((List.range n).map f).reverse = (List.range n).map fun i => f (n - 1 - i) := by
  rw [← List.map_reverse, ← krv_range, List.map_map]
  rfl
theorem lasts_rev (ps : List Pt) : (lasts ps.length ps).reverse = bothS ps.length (midAt ps) := by
  rw [lasts_eq _ ps rfl, rev_range]
  unfold bothS
  refine List.map_congr_left fun i hi => ?_
  have := List.mem_range.mp hi
  congr 1
  omega
theorem midAt_rev (ps : List Pt) : ∀ (lv i : Nat), i + lv < ps.length → midAt ps.reverse i lv = midAt ps (ps.length - 1 - i - lv) lv
  | 0, i, h => by
    simp only [midAt, Nat.sub_zero, List.getD_eq_getElem?_getD]
    rw [List.getElem?_reverse (by omega)]
  | lv + 1, i, h => by
    rw [midAt, midAt_rev ps lv i (by omega), midAt_rev ps lv (i + 1) (by omega), midP_comm, midAt]
    congr 2 <;> omega
theorem bothF_rev (ps : List Pt) : bothF ps.length (midAt ps.reverse) = (bothS ps.length (midAt ps)).reverse := by
  unfold bothF bothS
  rw [rev_range]
  refine List.map_congr_left fun lv hl => ?_
  have := List.mem_range.mp hl
  rw [midAt_rev ps lv 0 (by omega)]
  congr 1 <;> omega
theorem bothS_rev (ps : List Pt) : bothS ps.length (midAt ps.reverse) = (bothF ps.length (midAt ps)).reverse := by
  unfold bothF bothS
  rw [rev_range]
  refine List.map_congr_left fun i hi => ?_
  have := List.mem_range.mp hi
  rw [midAt_rev ps _ i (by omega)]
  congr 1
  omega

def sumAt (ps : List Pt) : Nat → Nat → Pt
  | i, 0 => ps.getD i (0, 0)
  | i, lv + 1 => ((sumAt ps i lv).1 + (sumAt ps (i + 1) lv).1, (sumAt ps i lv).2 + (sumAt ps (i + 1) lv).2)
def shareAt (ps : List Pt) (i lv : Nat) : Pt := ((sumAt ps i lv).1 * 2 ^ (4 - lv), (sumAt ps i lv).2 * 2 ^ (4 - lv))
def row16 (ps : List Pt) : List Pt := ps.map fun p => (16 * p.1, 16 * p.2)
theorem mid_even (a b : Int) (e : Nat) : mid (a * 2 ^ (e + 1)) (b * 2 ^ (e + 1)) = (a + b) * 2 ^ e := by
  unfold mid
  have h : a * 2 ^ (e + 1) + b * 2 ^ (e + 1) = ((a + b) * 2 ^ e) * 2 := by
    rw [← Int.add_mul, Int.pow_succ, Int.mul_assoc]
  rw [h, Int.fdiv_eq_ediv_of_nonneg _ (by decide)]
  exact Int.mul_ediv_cancel _ (by decide)
theorem share_eq (ps : List Pt) : ∀ (lv i : Nat), lv ≤ 4 → i + lv < ps.length → midAt (row16 ps) i lv = shareAt ps i lv
  | 0, i, _, h => by
    simp only [midAt, shareAt, sumAt, row16, List.getD_eq_getElem?_getD, List.getElem?_map]
    have h' : i < ps.length := h
    rw [List.getElem?_eq_getElem h']
    simp only [Option.map_some, Option.getD_some, Prod.mk.injEq]
    constructor <;> omega
  | lv + 1, i, hl, h => by
    rw [midAt, share_eq ps lv i (by omega) (by omega), share_eq ps lv (i + 1) (by omega) (by omega)]
    have e : 4 - lv = (4 - (lv + 1)) + 1 := by omega
    simp only [midP, shareAt, sumAt]
    rw [e, mid_even, mid_even]
theorem bothF_share (ps : List Pt) (h : ps.length ≤ 5) : bothF (row16 ps).length (midAt (row16 ps)) = bothF ps.length (shareAt ps) := by
  have hl : (row16 ps).length = ps.length := by simp [row16]
  rw [hl]
  unfold bothF
  refine List.map_congr_left fun lv hv => ?_
  have := List.mem_range.mp hv
  exact share_eq ps lv 0 (by omega) (by omega)
theorem bothS_share (ps : List Pt) (h : ps.length ≤ 5) : bothS (row16 ps).length (midAt (row16 ps)) = bothS ps.length (shareAt ps) := by
  have hl : (row16 ps).length = ps.length := by simp [row16]
  rw [hl]
  unfold bothS
  refine List.map_congr_left fun i hv => ?_
  have := List.mem_range.mp hv
  exact share_eq ps _ i (by omega) (by omega)
end Mine

namespace Mine
section
variable {prog : Program} {w : World} {A : Around} {E : Value → Shared → Prop} {env : Env} {test : PySem.Expr} {body orelse : List Stmt} {Q : Flow → Shared → Prop}
def WNext (J : Nat → Shared → Prop) (n : Nat) (s : Shared) : Prop := ∃ k, k < n ∧ J k s
/-- what a turn of a while must bring -/
def WPost (Q : Flow → Shared → Prop) (J : Nat → Shared → Prop) (n : Nat) (f : Flow) (s : Shared) : Prop :=
  match f with
  | .next => WNext J n s
  | .cont => WNext J n s
  | .brk => Q .next s
  | .ret v => Q (.ret v) s
/-- a while by an invariant that falls -/
theorem whl_inv (J : Nat → Shared → Prop) (hE : PassesOwn (model prog w) A env E)
    (turn : ∀ n s, J n s → wpAny (model prog w) A (isTrue test env (eval test env)) (fun b s₂ => WhlIf b (wpAny (model prog w) A (execs body env) (WPost Q J n) E s₂) (wpAny (model prog w) A (execs orelse env) Q E s₂)) E s) :
    ∀ (k n : Nat) (s : Shared), J n s → n < k → WhlRest prog w A E env test body orelse Q k s := by
  intro k
  induction k with
  | zero => intro n s _ h; exact absurd h (Nat.not_lt_zero _)
  | succ k ih =>
    intro n s hJ hn
    refine whl_turn hE (wpAny_mono (turn n s hJ) (fun b s₂ h₂ => ?_) fun _ _ e => e)
    cases b with
    | false => exact h₂
    | true =>
      have h₃ : wpAny (model prog w) A (execs body env) (WPost Q J n) E s₂ := h₂
      show wpAny (model prog w) A (execs body env) (WhlPost prog w A E env test body orelse Q k) E s₂
      refine wpAny_mono h₃ (fun f s₃ h₄ => ?_) fun _ _ e => e
      cases f with
      | next => obtain ⟨j, hj, hJ'⟩ := h₄; exact ih j s₃ hJ' (by omega)
      | cont => obtain ⟨j, hj, hJ'⟩ := h₄; exact ih j s₃ hJ' (by omega)
      | brk => exact h₄
      | ret v => exact h₄
end
section
variable {prog : Program} {w : World} {A : Around} {s : Shared} {h₀ : Heap} {L : Addr} {m : Str → Option Value} {env : Env}
/-- a comprehension's turns by an invariant over the items made and the ledger -/
theorem comp_inv {elt : Expr} {x : Str} {scope : Scope} {cl : List (Str × Addr)} {S : List (Addr × Obj) → Prop} {P : Nat → Value → Prop} {Fin : List Value → List (Addr × Obj) → Prop} {n : Nat} {news : List (Addr × Obj)} (J : Nat → List Value → List (Addr × Obj) → Prop) (h0 : J 0 [] news)
    (turn : ∀ i ys nw v I oI C oC D m₂ h tk (E' : Value → Shared → Prop), i < n → J i ys nw → P i v → LCg.NsObj oC m₂ → m₂ x = some v → Fr h₀ L h m → News h₀ L h ((I, oI) :: (C, oC) :: (D, LCg.lst ys) :: nw) → LCg.Off3 I C D nw → ((@Ne Nat I C) ∧ (@Ne Nat I D) ∧ (@Ne Nat C D)) →
      wpAny (model prog w) A (eval elt (compEnvC scope cl C env)) (LCg.CompEnd h₀ L m { s with heap := h, toks := tk } I oI C oC D (LCg.lst ys) S (fun y nw' => J (i + 1) (ys ++ [y]) nw')) E' { s with heap := h, toks := tk })
    (fin : ∀ ys nw, J n ys nw → Fin ys nw) : LCg.CompRest prog w A h₀ L m env elt x scope cl s S P Fin n 0 [] news := by
  have all : ∀ k i ys nw, i + k = n → J i ys nw → LCg.CompRest prog w A h₀ L m env elt x scope cl s S P Fin k i ys nw := by
    intro k
    induction k with
    | zero =>
      intro i ys nw e hJ
      obtain rfl : i = n := by omega
      exact LCg.CompRest.zero (fin ys nw hJ)
    | succ k ih =>
      intro i ys nw e hJ
      refine LCg.CompRest.succ fun v I oI C oC D m₂ h tk E' hv hC hx F N off ne => ?_
      refine wpAny_mono (turn i ys nw v I oI C oC D m₂ h tk E' (by omega) hJ hv hC hx F N off ne) (fun y s₂ hq => ?_) fun _ _ e => e
      obtain ⟨h', tk', nw', e', F', N', off', hS, hJ'⟩ := hq
      exact ⟨h', tk', nw', e', F', N', off', hS, ih (i + 1) (ys ++ [y]) nw' (by omega) hJ'⟩
  exact all n 0 [] news (by omega) h0
end
end Mine

namespace Mine
section
variable {prog : Program} {w : World} {A : Around} {E : Value → Shared → Prop} {s : Shared} {h₀ : Heap} {L : Addr} {m : Str → Option Value} {env : Env} {news : List (Addr × Obj)}

/-- a comprehension over a zip of two lists, whose element is reckoned from two ints and makes nothing: what stands where the zip is made -/
def ZSrc (prog : Program) (w : World) (A : Around) (h₀ : Heap) (L : Addr) (m : Str → Option Value) (env : Env) (elt : Expr) (a b : Str) (scope : Scope) (cl : List (Str × Addr)) (Fin : Shared → List Value → List (Addr × Obj) → Prop) (xv : Value) (s₁ : Shared) : Prop :=
  ∃ (z TI TO i1 i2 l1 l2 : Addr) (xs ys : List Value) (ns ms : List Int) (g : Int → Int → Int) (news : List (Addr × Obj)), xv = .ref z ∧ A.handled = none ∧ ZipApart z TI TO i1 i2 l1 l2 ∧
    (IsZip s₁.heap z TI TO .none ∧ IsPair s₁.heap TI (.ref i1) (.ref i2) ∧ (∃ a b, IsPair s₁.heap TO a b) ∧ s₁.heap.IsListIter i1 l1 0 ∧ s₁.heap.IsListIter i2 l2 0 ∧ s₁.heap.IsList l1 xs.toArray ∧ s₁.heap.IsList l2 ys.toArray) ∧
    IntsAre xs ns ∧ IntsAre ys ms ∧ ns.length ≤ 100 ∧ Fr h₀ L s₁.heap m ∧ News h₀ L s₁.heap news ∧ (∀ c ∈ [z, TO, i1, i2], @Ne Nat c L ∧ h₀.get? c = none ∧ ∀ p ∈ news, p.1 ≠ c) ∧
    (∀ x y tx ty C m₂ h tk (E' : Value → Shared → Prop), h.Ns C m₂ → m₂ a = some (.int x tx) → m₂ b = some (.int y ty) →
      wpAny (model prog w) A (eval elt (compEnvC scope cl C env)) (fun v s₄ => (∃ tk', s₄ = { s₁ with heap := h, toks := tk' }) ∧ ∃ t, v = .int (g x y) t) E' { s₁ with heap := h, toks := tk }) ∧
    (∀ zs, IntsAre zs (List.zipWith g ns ms) → Fin s₁ zs news)

theorem zsrc_call {elt : Expr} {a b : Str} {scope : Scope} {cl : List (Str × Addr)} {Fin : Shared → List Value → List (Addr × Obj) → Prop} {l1 l2 : Addr} {xs ys : List Value} {ns ms : List Int} {c1 c2 : Nat} (g : Int → Int → Int) (hh : A.handled = none) (F : Fr h₀ L s.heap m) (N : News h₀ L s.heap news)
    (m1 : (l1, listOf xs.toArray c1) ∈ news) (m2 : (l2, listOf ys.toArray c2) ∈ news) (hx : IntsAre xs ns) (hy : IntsAre ys ms) (hn : ns.length ≤ 100)
    (R : ∀ x y tx ty C m₂ (s₁ : Shared) h tk (E' : Value → Shared → Prop), h.Ns C m₂ → m₂ a = some (.int x tx) → m₂ b = some (.int y ty) →
      wpAny (model prog w) A (eval elt (compEnvC scope cl C env)) (fun v s₄ => (∃ tk', s₄ = { s₁ with heap := h, toks := tk' }) ∧ ∃ t, v = .int (g x y) t) E' { s₁ with heap := h, toks := tk })
    (fin : ∀ g' zs, IntsAre zs (List.zipWith g ns ms) → Fin { s with heap := g' } zs news) :
    wpAny (model prog w) A (call (.type "zip") [.ref l1, .ref l2]) (ZSrc prog w A h₀ L m env elt a b scope cl Fin) E s := by
  have hl1 := N.isList m1
  have hl2 := N.isList m2
  have b1 : l1 < s.heap.objs.size := Heap.lt_size (N _ m1).1
  have b2 : l2 < s.heap.objs.size := Heap.lt_size (N _ m2).1
  refine call_zip_2 hl1 hl2 fun h' hz hTI hTO hi1 hi2 hsz hk => ?_
  have fresh : ∀ c, s.heap.objs.size ≤ c → @Ne Nat c L ∧ h₀.get? c = none ∧ ∀ p ∈ news, p.1 ≠ c := by
    intro c hc
    refine ⟨Nat.ne_of_gt (Nat.lt_of_lt_of_le F.ns.lt hc), ?_, fun p hp => Nat.ne_of_lt (Nat.lt_of_lt_of_le (Heap.lt_size (N p hp).1) hc)⟩
    cases e : h₀.get? c with
    | none => rfl
    | some o => exact absurd (Heap.lt_size (F.keep c o e)) (Nat.not_lt.mpr hc)
  refine ⟨_, _, _, _, _, l1, l2, xs, ys, ns, ms, g, news, rfl, hh, zipApart_new b1 b2, ⟨hz, hTI, ⟨_, _, hTO⟩, hi1, hi2, hl1.at fun o e => hk _ o e, hl2.at fun o e => hk _ o e⟩, hx, hy, hn, F.keeps hk, fun p hp => ⟨hk _ _ (N p hp).1, (N p hp).2⟩, ?_, ?_, ?_⟩
  · intro c hc
    refine fresh c ?_
    simp only [List.mem_cons, List.not_mem_nil, or_false] at hc
    rcases hc with rfl | rfl | rfl | rfl
    · exact Nat.le_add_right _ _
    · exact Nat.le_add_right _ _
    · exact Nat.le_refl _
    · exact Nat.le_add_right _ _
  · intro x y tx ty C m₂ h tk E' n1 n2 n3
    exact R x y tx ty C m₂ _ h tk E' n1 n2 n3
  · intro zs hz'
    exact fin _ zs hz'

theorem ints_zip {g : Int → Int → Int} {ns ms : List Int} {zs : List Value} (hl : zs.length = min ns.length ms.length) (hz : ∀ (i : Nat) (x y : Int), ns[i]? = some x → ms[i]? = some y → ∃ t, zs[i]? = some (Value.int (g x y) t)) : IntsAre zs (List.zipWith g ns ms) := by
  induction ns generalizing ms zs with
  | nil =>
    have : zs = [] := List.length_eq_zero_iff.mp (by simpa using hl)
    subst this
    exact .nil
  | cons n ns ih =>
    cases ms with
    | nil =>
      have : zs = [] := List.length_eq_zero_iff.mp (by simpa using hl)
      subst this
      exact .nil
    | cons k ms =>
      cases zs with
      | nil => simp at hl
      | cons v zs =>
        obtain ⟨t, ht⟩ := hz 0 n k rfl rfl
        cases ht
        refine .cons _ t (ih (by simp only [List.length_cons] at hl; omega) fun i x y h1 h2 => ?_)
        have := hz (i + 1) x y (by simpa using h1) (by simpa using h2)
        simpa using this

theorem off1_of {D : Addr} {l : List (Addr × Obj)} (h : ∀ p ∈ l, p.1 ≠ D) : LCg.Off1 D l := by
  induction l with
  | nil => exact trivial
  | cons q r ih => exact ⟨h q (.head _), ih fun p hp => h p (.tail _ hp)⟩
theorem zip_block {elt iter : Expr} {a b : Str} {pa pb tp : Pos} {kk : Nat} {scope : Scope} {cl : List (Str × Addr)} {pos : Pos} {s₁ : Shared} {RR : Value → Addr → Result → Shared → Prop} {z TI TO i1 i2 l1 l2 : Addr} {xs ys : List Value} {ns ms : List Int} {g : Int → Int → Int} {news : List (Addr × Obj)}
    (hcell : ∀ y ∈ scope.names, y.2 ≠ .cell) (hkind : scope.kind = .function) (hxa : scope.names.lookup a = some .local) (hxb : scope.names.lookup b = some .local) (hab : ¬ a = b)
    (hh : A.handled = none) (D : ZipApart z TI TO i1 i2 l1 l2)
    (hst : IsZip s₁.heap z TI TO .none ∧ IsPair s₁.heap TI (.ref i1) (.ref i2) ∧ (∃ a b, IsPair s₁.heap TO a b) ∧ s₁.heap.IsListIter i1 l1 0 ∧ s₁.heap.IsListIter i2 l2 0 ∧ s₁.heap.IsList l1 xs.toArray ∧ s₁.heap.IsList l2 ys.toArray)
    (hx : IntsAre xs ns) (hy : IntsAre ys ms) (hn : ns.length ≤ 100) (F : Fr h₀ L s₁.heap m) (N : News h₀ L s₁.heap news) (fr : ∀ c ∈ [z, TO, i1, i2], @Ne Nat c L ∧ h₀.get? c = none ∧ ∀ p ∈ news, p.1 ≠ c)
    (R : ∀ x y tx ty C m₂ h tk (E' : Value → Shared → Prop), h.Ns C m₂ → m₂ a = some (.int x tx) → m₂ b = some (.int y ty) →
      wpAny (model prog w) A (eval elt (compEnvC scope cl C env)) (fun v s₄ => (∃ tk', s₄ = { s₁ with heap := h, toks := tk' }) ∧ ∃ t, v = .int (g x y) t) E' { s₁ with heap := h, toks := tk })
    (hRR : ∀ D C h tk m' zs, Fr h₀ L h m → News h₀ L h ((D, LCg.lst zs) :: news) → LCg.Off1 D news → h.Ns C m' → h₀.get? C = none → h₀.get? D = none → C ≠ L → D ≠ L → C ≠ D → (∀ p ∈ news, p.1 ≠ C) → IntsAre zs (List.zipWith g ns ms) → RR (.ref D) C (.ok .next) { s₁ with heap := h, toks := tk }) :
    wpAny (model prog w) A (newList []) (fun acc s₃ => wpAny (model prog w) A (newFunctionEnv scope env.globals cl [] env.qual none .none (some env)) (fun cenv s₄ =>
      codeAny (model prog w) A (.compStart (.ListComp elt [⟨.Tuple [.Name a pa, .Name b pb] kk tp, iter, [], 0⟩] scope pos) 0 (.ref z) acc { cenv with scope := relabel scope env }) (RR acc cenv.locals) s₄) E s₃) E s₁ := by
  have W := WalksT.zip2 (prog := prog) (w := w) hh z TI TO i1 i2 l1 l2 D xs.toArray ys.toArray
  refine wpAny_newObj_type (wpAny_newFunctionEnv hcell (by intro y hy; simp at hy) (fun h₁ hns₁ hsb₁ => ?_) hkind)
  dsimp only at hns₁ hsb₁ ⊢
  generalize hH2 : s₁.heap.push { cls := .type "list", dict := none, data := .seq ([] : List Value).toArray } = H2 at hns₁ hsb₁ ⊢
  have hC : H2.objs.size = s₁.heap.objs.size + 1 := by rw [← hH2, Heap.size_push]
  have hDC : s₁.heap.objs.size ≠ H2.objs.size := by rw [hC]; exact Nat.ne_of_lt (Nat.lt_succ_self _)
  have below : ∀ c, c < s₁.heap.objs.size → c ≠ H2.objs.size ∧ c ≠ s₁.heap.objs.size := fun c hc => ⟨by rw [hC]; exact Nat.ne_of_lt (Nat.lt_succ_of_lt hc), Nat.ne_of_lt hc⟩
  have old : ∀ c o, s₁.heap.get? c = some o → h₁.get? c = some o := fun c o e => hsb₁.extBut c o (below c (Heap.lt_size e)).1 (Heap.get?_push_of_some _ (hH2 ▸ Heap.get?_push_of_some _ e))
  have hacc : h₁.get? s₁.heap.objs.size = some (LCg.lst []) := hsb₁.extBut _ _ hDC (Heap.get?_push_of_some _ (hH2 ▸ Heap.get?_push_size _ rfl))
  have hfp : ∀ c ∈ [z, TI, TO, i1, i2, l1, l2], c < s₁.heap.objs.size := by
    obtain ⟨q1, q2, ⟨_, _, q3⟩, ⟨_, q4, _⟩, ⟨_, q5, _⟩, ⟨_, q6, _⟩, ⟨_, q7, _⟩⟩ := hst
    intro c hc
    simp only [List.mem_cons, List.not_mem_nil, or_false] at hc
    rcases hc with rfl | rfl | rfl | rfl | rfl | rfl | rfl
    · exact Heap.lt_size q1
    · exact Heap.lt_size q2
    · exact Heap.lt_size q3
    · exact Heap.lt_size q4
    · exact Heap.lt_size q5
    · exact Heap.lt_size q6
    · exact Heap.lt_size q7
  have hDf : s₁.heap.objs.size ∉ [z, TI, TO, i1, i2, l1, l2] := fun hm => Nat.lt_irrefl _ (hfp _ hm)
  have hCf : H2.objs.size ∉ [z, TI, TO, i1, i2, l1, l2] := fun hm => by have := hfp _ hm; rw [hC] at this; exact Nat.lt_irrefl _ (Nat.lt_of_succ_lt this)
  have hst₁ := W.frame _ _ h₁ hst fun c _ o e => old c o e
  have fresh₀ : ∀ c, s₁.heap.objs.size ≤ c → h₀.get? c = none := fun c hc => by
    cases e : h₀.get? c with
    | none => rfl
    | some o' => exact absurd (Heap.lt_size (F.keep c o' e)) (Nat.not_lt.mpr hc)
  have hD₀ : h₀.get? s₁.heap.objs.size = none := fresh₀ _ (Nat.le_refl _)
  have hC₀ : h₀.get? H2.objs.size = none := fresh₀ _ (by rw [hC]; exact Nat.le_succ _)
  have hLlt : L < s₁.heap.objs.size := F.ns.lt
  have hDL : s₁.heap.objs.size ≠ L := Ne.symm (below L hLlt).2
  have hCL : H2.objs.size ≠ L := Ne.symm (below L hLlt).1
  have offD : ∀ p ∈ news, p.1 ≠ s₁.heap.objs.size := fun p hp => (below _ (Heap.lt_size (N p hp).1)).2
  have offC : ∀ p ∈ news, p.1 ≠ H2.objs.size := fun p hp => (below _ (Heap.lt_size (N p hp).1)).1
  have nW : ∀ c, (∀ q ∈ [z, TO, i1, i2], c ≠ q) → c ∉ [z, TO, i1, i2] := fun c hc hm => hc c hm rfl
  have hLw : L ∉ [z, TO, i1, i2] := nW L fun q hq => Ne.symm (fr q hq).1
  have hCw : H2.objs.size ∉ [z, TO, i1, i2] := fun hm => hCf (W.sub _ hm)
  have hDw : s₁.heap.objs.size ∉ [z, TO, i1, i2] := fun hm => hDf (W.sub _ hm)
  have hNw : ∀ p ∈ news, p.1 ∉ [z, TO, i1, i2] := fun p hp => nW _ fun q hq => (fr q hq).2.2 p hp
  have h₀w : ∀ c o, h₀.get? c = some o → c ∉ [z, TO, i1, i2] := fun c o e => nW c fun q hq z => by rw [z, (fr q hq).2.1] at e; cases e
  have loop : ∀ s₃ : Shared, s₃ = { s₁ with heap := h₁, toks := s₁.toks + ([] : List (Str × Value)).length } →
      codeAny (model prog w) A (.compLoop (.ListComp elt [⟨.Tuple [.Name a pa, .Name b pb] kk tp, iter, [], 0⟩] scope pos) 0 (.ref z) (.ref s₁.heap.objs.size) (compEnvC scope cl H2.objs.size env))
        (RR (.ref s₁.heap.objs.size) H2.objs.size) s₃ := by
    rintro s₃ rfl
    refine kcp_loop
      (fun k s' => ∃ h' tk i zs m', s' = { s₁ with heap := h', toks := tk } ∧ i ≤ min xs.length ys.length ∧ k = min xs.length ys.length + 1 - i ∧ zs.length = i ∧
        (IsZip h' z TI TO .none ∧ IsPair h' TI (.ref i1) (.ref i2) ∧ (∃ a b, IsPair h' TO a b) ∧ h'.IsListIter i1 l1 i ∧ h'.IsListIter i2 l2 i ∧ h'.IsList l1 xs.toArray ∧ h'.IsList l2 ys.toArray) ∧ Fr h₀ L h' m ∧ h'.Ns H2.objs.size m' ∧
        News h₀ L h' ((s₁.heap.objs.size, LCg.lst zs) :: news) ∧ ∀ j x y, j < i → ns[j]? = some x → ms[j]? = some y → ∃ t, zs[j]? = some (Value.int (g x y) t)) ?_ (min xs.length ys.length + 1)
      ⟨h₁, _, 0, [], _, rfl, Nat.zero_le _, rfl, rfl, hst₁, F.keeps old, hns₁, fun p hp => ?_, fun j _ _ hj => absurd hj (Nat.not_lt_zero _)⟩
    · rintro k s' ⟨h', tk, i, zs, m', rfl, hi, rfl, hzl, hst', F', hn', N', hG⟩
      by_cases hlt : i < min xs.length ys.length
      · refine W.item i _ _ _ (by simpa using hlt) hst' fun T vals h₂ tk₂ hP _ hT hMd hk₂ => ?_
        obtain ⟨x, y, ex, ey, rfl⟩ := hP
        obtain ⟨x', tx, rfl, hx1⟩ := hx.at i x (by simpa using ex)
        obtain ⟨y', ty, rfl, hy1⟩ := hy.at i y (by simpa using ey)
        refine W.go _ _ _ i T _ _ _ hMd fun h₃ hst₃ hk₃ => ?_
        have hTw := W.apart _ _ _ hMd
        have hT₃ : h₃.IsTuple T #[.int x' tx, .int y' ty] := by obtain ⟨o, e, r⟩ := hT; exact ⟨o, hk₃ T o hTw e, r⟩
        have up₃ : ∀ c o, c ∉ [z, TO, i1, i2] → h'.get? c = some o → h₃.get? c = some o := fun c o hc e => hk₃ c o hc (hk₂ c o hc e)
        refine kcp_assign (env := compEnvC scope cl H2.objs.size env) hh hT₃ (lookup_relabel_local hxa) (lookup_relabel_local hxb) (by simp [compEnvC, relabel, hkind]) (hn'.at' fun o e => up₃ _ o hCw e) fun h₄ tk₄ hn₄ hs₄ => ?_
        have up : ∀ c o, c ∉ [z, TO, i1, i2] → c ≠ H2.objs.size → h'.get? c = some o → h₄.get? c = some o := fun c o h1 h2 e => hs₄ c o h2 (up₃ c o h1 e)
        have hst₄ := W.frame _ _ h₄ hst₃ fun c hc o e => hs₄ c o (fun (q : c = H2.objs.size) => hCf (by rw [← q]; exact hc)) e
        have F₄ : Fr h₀ L h₄ m := ⟨F'.ns.at' fun o e => up _ o hLw (Ne.symm hCL) e, fun c o e => up c o (h₀w c o e) (fun q => by rw [q, hC₀] at e; cases e) (F'.keep c o e), F'.above⟩
        have N₄ : News h₀ L h₄ ((s₁.heap.objs.size, LCg.lst zs) :: news) := fun q hq => by
          refine ⟨?_, (N' q hq).2⟩
          rcases List.mem_cons.mp hq with rfl | hq
          · exact up _ _ hDw hDC (N' _ (.head _)).1
          · exact up _ _ (hNw q hq) (offC q hq) (N' q (.tail _ hq)).1
        refine wpAny_mono (R x' y' tx ty H2.objs.size _ h₄ _ _ hn₄ (by simp [hab]) (by simp)) (fun v s₅ h₅ => ?_) fun _ _ e => e
        obtain ⟨⟨tk₅, rfl⟩, t, rfl⟩ := h₅
        refine append_at (hsz := by show zs.toArray.size ≤ sizeLine; rw [List.size_toArray, hzl, sizeLine_eq]; have := hx.length; omega) (N₄ _ (.head _)).1 fun h₆ hs₆ hD₆ => ?_
        refine ⟨min xs.length ys.length + 1 - (i + 1), by omega, h₆, tk₅, i + 1, zs ++ [Value.int (g x' y') t], _, rfl, hlt, rfl, by rw [List.length_append, List.length_singleton, hzl], W.frame _ _ _ hst₄ fun c hc o e => hs₆.extBut c o (fun q => hDf (q ▸ hc)) e, F₄.change hs₆ hDL hD₀,
          hn₄.sameBut hs₆ (Ne.symm hDC), fun q hq => ?_, fun j u v hj hu hv => ?_⟩
        · rcases List.mem_cons.mp hq with rfl | hq
          · exact ⟨hD₆.trans (congrArg some (LCg.lst_snoc zs _)), hDL, hD₀⟩
          · exact ⟨hs₆.extBut _ _ (offD q hq) (N₄ q (.tail _ hq)).1, (N₄ q (.tail _ hq)).2⟩
        · by_cases hji : j < i
          · obtain ⟨t', ht'⟩ := hG j u v hji hu hv
            exact ⟨t', by rw [List.getElem?_append_left (by omega)]; exact ht'⟩
          · obtain rfl : j = i := by omega
            rw [hx1] at hu
            rw [hy1] at hv
            cases hu
            cases hv
            exact ⟨t, by rw [← hzl]; simp⟩
      · have hin : i = min xs.length ys.length := Nat.le_antisymm hi (Nat.not_lt.mp hlt)
        subst hin
        refine W.done _ _ _ (by simpa using hst') fun h₂ tk₂ hk₂ => ?_
        have hxl := hx.length
        have hyl := hy.length
        have F₂ : Fr h₀ L h₂ m := ⟨F'.ns.at' fun o e => hk₂ _ o hLw e, fun c o e => hk₂ c o (h₀w c o e) (F'.keep c o e), F'.above⟩
        have N₂ : News h₀ L h₂ ((s₁.heap.objs.size, LCg.lst zs) :: news) := fun q hq => by
          refine ⟨hk₂ _ _ ?_ (N' q hq).1, (N' q hq).2⟩
          rcases List.mem_cons.mp hq with rfl | hq
          · exact hDw
          · exact hNw q hq
        refine hRR _ _ h₂ tk₂ m' zs F₂ N₂ (off1_of offD) (hn'.at' fun o e => hk₂ _ o hCw e) hC₀ hD₀ hCL hDL (Ne.symm hDC) offC (ints_zip (by omega) fun j u v hu hv => hG j u v ?_ hu hv)
        have h1 := (List.getElem?_eq_some_iff.mp hu).1
        have h2 := (List.getElem?_eq_some_iff.mp hv).1
        omega
    · rcases List.mem_cons.mp hp with rfl | hp
      · exact ⟨hacc, hDL, hD₀⟩
      · exact ⟨old _ _ (N p hp).1, (N p hp).2⟩
  exact codeAny_compStart_list (loop _ rfl) (wpAny_pyIter_zip hst₁.1 (loop _ rfl))

theorem zip_comp_assign {elt iter : Expr} {a b y : Str} {pa pb tp py : Pos} {kk : Nat} {scope : Scope} {cl : List (Str × Addr)} {pos spos : Pos} {Q : Flow → Shared → Prop} (F₀ : Fr h₀ L s.heap m) (hLe : env.locals = L)
    (hsw : swapsWith (.ListComp elt [⟨.Tuple [.Name a pa, .Name b pb] kk tp, iter, [], 0⟩] scope pos) (some (.Name y py)) spos.line env = pure true)
    (hclos : closureFor scope env = pure cl) (hcell : ∀ y ∈ scope.names, y.2 ≠ .cell) (hkind : scope.kind = .function)
    (hnames : ∀ y ∈ scope.names, y.2 = .local → scope.names.lookup y.1 = some .local) (hxa : scope.names.lookup a = some .local) (hxb : scope.names.lookup b = some .local) (hab : ¬ a = b)
    (hy : env.kindOf y = some .local) (hp : (env.scope.kind == .class || (env.scope.kind == .module && env.locals != env.globals)) = false)
    (h : wpAny (model prog w) A (eval iter env) (ZSrc prog w A h₀ L m env elt a b scope cl (fun s₂ => LCg.FinA h₀ L m s₂ y Q)) E s)
    (hs : ∀ x, foldedSetIterable iter env x = pure x := by intro _; rfl) :
    wpAny (model prog w) A (exec (.Assign [.Name y py] (.ListComp elt [⟨.Tuple [.Name a pa, .Name b pb] kk tp, iter, [], 0⟩] scope pos) spos) env) Q E s := by
  subst hLe
  rw [exec_Assign_Name_used _ _ _ _ hsw]
  refine wpAny_bind (wpAny_standAt (wpAny_bind ?_))
  show wpAny _ A (do let _ ← comprehension (.ListComp elt [⟨.Tuple [.Name a pa, .Name b pb] kk tp, iter, [], 0⟩] scope pos) scope env _ (newList []) false (eval iter env) (some (assign (.Name y py) env))) _ _ s
  refine wpAny_bind (wpAny_mono (wpAny_comprehension_free (use := some (assign (.Name y py) env)) (Q := fun _ s' => Q .next s') rfl hs hclos hkind hnames
    (wpAny_mono h (fun xv s₁ h₁ => ?_) fun _ _ e => e)) (fun _ s' hq => wpAny_pure (wpAny_pure hq)) fun _ _ e => e)
  obtain ⟨z, TI, TO, i1, i2, l1, l2, xs, ys, ns, ms, g, news, rfl, hh, D, hst, hx, hy', hn, F, N, fr, R, fin⟩ := h₁
  refine wpAny_pyIter_zip hst.1 (zip_block hcell hkind hxa hxb hab hh D hst hx hy' hn F N fr R ?_)
  intro D C h' tk m' zs F' N' o1 hn hC₀ hD₀ hCL hDL hCD offC hz
  show wpAny _ A (assign (.Name y py) env (.ref D)) _ _ _
  refine wpAny_assign_Name (wpAny_storeName_local hy F'.ns (fun h₂ hn₂ hs₂ => ?_) hp)
  have hL₀ : h₀.get? env.locals = none := Heap.get?_none_of_le F'.above
  have F₂ : Fr h₀ env.locals h₂ (fun z => if z = y then some (.ref D) else m z) := ⟨hn₂, fun c o e => hs₂.extBut c o (fun q => by rw [q, hL₀] at e; cases e) (F'.keep c o e), F'.above⟩
  refine ⟨m', hn.sameBut hs₂ hCL, fun h'' hs'' => fin zs hz D h'' _ (F₂.change hs'' hCL hC₀) (fun p hp => ?_) o1⟩
  have z2 : h₂.get? p.1 = some p.2 := hs₂.extBut _ _ (N' p hp).2.1 (N' p hp).1
  refine ⟨hs''.extBut _ _ ?_ z2, (N' p hp).2⟩
  rcases List.mem_cons.mp hp with rfl | hp
  · exact Ne.symm hCD
  · exact offC p hp
end
end Mine

namespace Mine

abbrev CC (w : World) (f : Addr) (vs : List Value) (news : List (Addr × Obj)) (sz : Nat) (R : Heap → Addr → (Str → Option Value) → Shared → (Value → Shared → Prop) → Prop) : Prop :=
  ∀ (mean : ExcName → Option Value) (mg mb : Str → Option Value) (dp un : Nat) (gd : Option (List Code)) (cn : Str) (cs : Scope) (a : Addr) (ccd : Value) (cl : List (Str × Addr)) (outer : List Env) (A₀ : Around) (base h₀ : Heap) (L : Addr) (m : Str → Option Value)
    (s : Shared) (Q E : Value → Shared → Prop),
    Below A₀ base outer h₀ → Fr h₀ L s.heap m → (hd.heap_39 w.params).In h₀ → News h₀ L s.heap news → Top hd.view_39 (looseW hd.view_39 []) mean mg mb h₀ → cs.kind = .function →
    dp + sz < recursionLimit → un + 8 * sz < cLine → R h₀ L m s Q →
    wpAny (model (RowW.prog (OpenRow.toRowW (OpenLaw.row Challenge.rw_xm0700_01))) w) (ktrTop dp un gd cn cs L a ccd cl outer) (call (.ref f) vs) Q E s

abbrev srcO (p : Int) (tp : Tok) (q : Int) (tq : Tok) (c : Nat) : Obj := listOf [Value.int p tp, Value.int q tq].toArray c

theorem py_top {x top : Int} (h0 : 0 < top) (h1 : top ≤ 2199023255551) : Builtin.divisionGoesByPylong x top = false := by
  refine PyProof.noPylong_of_log2 ?_
  have h : top.natAbs < 2 ^ 42 := by omega
  have := (Nat.log2_lt (n := top.natAbs) (k := 42) (by omega)).mpr h
  omega
local macro_rules | `(tactic| k_all) => `(tactic| (with_reducible assumption))
local macro_rules | `(tactic| walk_at "binaryOp FloorDiv int int") => `(tactic| (k_here; (with_reducible refine floordiv_int ?kbe ?_ (Or.inl (py_top (by assumption) (by assumption)))); (case kbe => omega)))

theorem src_item {prog : Program} {w : World} {A : Around} {E : Value → Shared → Prop} {s : Shared} {value slice : PySem.Expr} {h₀ : Heap} {L l : Addr} {news : List (Addr × Obj)} {vs : List Value} {c : Nat} {k : Int} {u : Tok} {v : Value} {Q : Value → Shared → Prop}
    (N : News h₀ L s.heap news) (hm : (l, listOf vs.toArray c) ∈ news) (h0 : 0 ≤ k) (hhi : k < 2 ^ 63) (hx : vs[k.toNat]? = some v) (h : Q v s)
    (hs : subscripted slice false (.ref l) (.int k u) = operate [.ref l, .int k u] (getItem (.ref l) (.int k u)) := by with_unfolding_all rfl) :
    wpAny (model prog w) A (subscriptTail value slice (.ref l) (.int k u)) Q E s :=
  have hl : s.heap.IsList l vs.toArray := ⟨_, (N _ hm).1, rfl, c, rfl⟩
  tail_any hl.typeIs slot_list_getitem.lookup (wpAny_getItem_list hl h0 hhi (by simpa using hx) h) hs
local macro_rules | `(tactic| walk_at "subscriptTail Name Constant ref int") => `(tactic| (k_here; (with_reducible show wpAny _ _ (subscriptTail _ _ (Value.ref _) (Value.int _ _)) _ _ _); (with_unfolding_all refine' src_item ?k1 ?k2 ?k3 ?k4 ?k5 ?_ ?k6; (case k1 => k_asm); (case k2 => k_mem); (case k3 => decide); (case k4 => decide); (case k5 => rfl); (case k6 => with_unfolding_all rfl); k_whole)))
theorem fm_lo (a : Int) {n : Int} (h : 0 < n) : 0 ≤ Int.fmod a n := Int.fmod_nonneg_of_pos a h
theorem fm_hi (a : Int) {n : Int} (h : 0 < n) : Int.fmod a n < n := Int.fmod_lt_of_pos a h
theorem mul_fm {a : Int} : IntMulOk (Int.fmod a 2147483647) (Int.fmod a 2147483647) := by
  have h1 := fm_lo a (n := 2147483647) (by decide)
  have h2 := fm_hi a (n := 2147483647) (by decide)
  exact PySem.IntMulOk.of_left (PySem.intBits_le_64 (by omega) (by omega))
local macro_rules | `(tactic| walk_at "binaryOp Mult int int") => `(tactic| (with_reducible refine mul_int ?_ mul_fm))

def TakeC (w : World) : Prop := ∀ (sa : Addr) (p q : Int) (tp tq : Tok) (c : Nat) (rest : List (Addr × Obj)) (top : Int) (tt : Tok), (∀ x ∈ rest, x.1 ≠ sa) → 0 < top → top ≤ 2199023255551 → 0 ≤ q → q < 2147483647 →
  CC w 40 [.ref sa, .int top tt] ((sa, srcO p tp q tq c) :: rest) 1 fun h₀ L m s Q =>
    ∀ (r : Int) (tr : Tok) (p' q' : Int) (tp' tq' : Tok) (h' : Heap) (tk' : Nat), 0 ≤ r → r < top → 0 ≤ q' → q' < 2147483647 → Fr h₀ L h' m → News h₀ L h' ((sa, srcO p' tp' q' tq' c) :: rest) → Q (.int r tr) { s with heap := h', toks := tk' }

theorem CC.use {w : World} {f : Addr} {vs : List Value} {news : List (Addr × Obj)} {sz : Nat} {R : Heap → Addr → (Str → Option Value) → Shared → (Value → Shared → Prop) → Prop} (C : CC w f vs news sz R)
    {mean : ExcName → Option Value} {mg mb : Str → Option Value} {dp un : Nat} {gd : Option (List Code)} {cn : Str} {cs : Scope} {a : Addr} {ccd : Value} {cl : List (Str × Addr)} {outer : List Env} {A₀ : Around} {base h₀ : Heap} {L : Addr} {m : Str → Option Value}
    {s : Shared} {Q E : Value → Shared → Prop} (B : Below A₀ base outer h₀) (F : Fr h₀ L s.heap m) (X : (hd.heap_39 w.params).In h₀) (N : News h₀ L s.heap news) (T : Top hd.view_39 (looseW hd.view_39 []) mean mg mb h₀) (hk : cs.kind = .function)
    (hd : dp + sz < recursionLimit) (hu : un + 8 * sz < cLine) (r : R h₀ L m s Q) :
    wpAny (model (RowW.prog (OpenRow.toRowW (OpenLaw.row Challenge.rw_xm0700_01))) w) (ktrTop dp un gd cn cs L a ccd cl outer) (call (.ref f) vs) Q E s := C _ _ _ _ _ _ _ _ _ _ _ _ _ _ _ _ _ _ _ _ B F X N T hk hd hu r

set_option maxRecDepth 100000 in
set_option maxHeartbeats 8000000 in
theorem takeC (w : World) : TakeC w := by
  unfold TakeC CC
  w_top off
  k_fill
  intro sa p q tp tq c rest top tt hne ht ht2 hq0 hq1 mean mg mb dp un gd cn cs a ccd cl outer A₀ base h₀ L m s Q E B F X N T hk hd hu hret
  refine wpAny_call ?_
  k_dflt cell_enter
  k_steps
  all_goals (refine hret _ _ _ _ _ _ _ _ ?_ ?_ ?_ ?_ (by assumption) (by assumption))
  all_goals first | assumption | exact fm_lo _ (by assumption) | exact fm_hi _ (by assumption) | exact fm_lo _ (by decide) | exact fm_hi _ (by decide)

theorem len_any {prog : Program} {w : World} {A : Around} {E : Value → Shared → Prop} {s : Shared} {h₀ : Heap} {L l : Addr} {news : List (Addr × Obj)} {us : List Value} {n : Nat} {k : Int} {Q : Value → Shared → Prop} (N : News h₀ L s.heap news) (hm : (l, listOf us.toArray n) ∈ news) (hk : (us.length : Int) = k) (hfit : k < 2 ^ 63)
    (h : Q (.int k (s.toks + 1)) { s with toks := s.toks + 1 + 1 }) : wpAny (model prog w) A (call (.builtin "len") [.ref l]) Q E s := by
  have hl : s.heap.IsList l us.toArray := ⟨_, (N _ hm).1, rfl, n, rfl⟩
  have e : us.toArray.size = us.length := by rw [List.size_toArray]
  subst hk
  exact len_list hl (by rw [e]; exact hfit) (by rw [e]; exact h)
theorem len3 {a b c : Value} : (([a, b, c] : List Value).length : Int) = 3 := rfl
local macro_rules | `(tactic| k_mem) => `(tactic| (with_reducible assumption))
local macro_rules | `(tactic| walk_at "call builtin:len") => `(tactic| (k_here; (with_reducible show wpAny _ _ (call (Value.builtin "len") [Value.ref _]) _ _ _); k_dflt (refine' len_any ?k1 ?k2 ?k3 ?k4 ?_; (case k1 => k_asm); (case k2 => k_mem); (case k3 => first | with_reducible exact len3 | assumption); (case k4 => first | decide | omega)); (try dsimp only)))

end Mine

namespace Mine
local macro_rules | `(tactic| walk_at "Pad") => `(tactic| skip)
local macro_rules | `(tactic| walk_at "Pad") => `(tactic| skip)
local macro_rules | `(tactic| walk_at "Pad") => `(tactic| skip)
local macro_rules | `(tactic| walk_at "Pad") => `(tactic| skip)
local macro_rules | `(tactic| walk_at "Pad") => `(tactic| skip)
local macro_rules | `(tactic| k_all) => `(tactic| (with_reducible assumption))
local macro_rules | `(tactic| k_mem) => `(tactic| assumption)
local macro_rules | `(tactic| walk_at "call builtin:len") => `(tactic| (k_here; (with_reducible show wpAny _ _ (call (Value.builtin "len") [Value.ref _]) _ _ _); k_dflt (refine' len_any ?k1 ?k2 ?k3 ?k4 ?_; (case k1 => k_asm); (case k2 => k_mem); (case k3 => first | with_reducible exact len3 | assumption); (case k4 => first | decide | omega)); (try dsimp only)))
theorem news_swap {h₀ h : Heap} {L : Addr} {p q : Addr × Obj} {rest : List (Addr × Obj)} (N : News h₀ L h (p :: q :: rest)) : News h₀ L h (q :: p :: rest) := fun x hx => N x (by
  rcases List.mem_cons.mp hx with rfl | hx
  · exact .tail _ (.head _)
  · rcases List.mem_cons.mp hx with rfl | hx
    · exact .head _
    · exact .tail _ (.tail _ hx))
theorem news_drop2 {h₀ h : Heap} {L : Addr} {p q : Addr × Obj} {rest : List (Addr × Obj)} (N : News h₀ L h (p :: q :: rest)) : News h₀ L h (p :: rest) := fun x hx => N x (by
  rcases List.mem_cons.mp hx with rfl | hx
  · exact .head _
  · exact .tail _ (.tail _ hx))
theorem ne_cons {sa l : Addr} {o : Obj} {rest : List (Addr × Obj)} (h : @LT.lt Nat _ sa l) (hne : ∀ x ∈ rest, x.1 ≠ sa) : ∀ x ∈ (l, o) :: rest, x.1 ≠ sa := by
  intro x hx
  rcases List.mem_cons.mp hx with rfl | hx
  · exact Nat.ne_of_gt h
  · exact hne x hx

theorem item3 {prog : Program} {w : World} {A : Around} {E : Value → Shared → Prop} {s : Shared} {value slice : PySem.Expr} {h₀ : Heap} {L l : Addr} {news : List (Addr × Obj)} {c : Nat} {k lo hi x y z : Int} {u tx ty tz : Tok} {Q : Value → Shared → Prop}
    (N : News h₀ L s.heap news) (hm : (l, listOf [Value.int x tx, Value.int y ty, Value.int z tz].toArray c) ∈ news) (h0 : 0 ≤ k) (h3 : k < 3) (hx1 : lo ≤ x) (hx2 : x ≤ hi) (hy1 : lo ≤ y) (hy2 : y ≤ hi) (hz1 : lo ≤ z) (hz2 : z ≤ hi)
    (h : ∀ i t, lo ≤ i → i ≤ hi → Q (.int i t) s)
    (hs : subscripted slice false (.ref l) (.int k u) = operate [.ref l, .int k u] (getItem (.ref l) (.int k u)) := by with_unfolding_all rfl) :
    wpAny (model prog w) A (subscriptTail value slice (.ref l) (.int k u)) Q E s := by
  have h63 : k < 2 ^ 63 := by omega
  have hk : k = 0 ∨ k = 1 ∨ k = 2 := by omega
  rcases hk with rfl | rfl | rfl
  · exact src_item N hm h0 h63 rfl (h _ _ hx1 hx2) hs
  · exact src_item N hm h0 h63 rfl (h _ _ hy1 hy2) hs
  · exact src_item N hm h0 h63 rfl (h _ _ hz1 hz2) hs
local macro_rules | `(tactic| walk_at "subscriptTail") => `(tactic| (k_here; (with_reducible show wpAny _ _ (subscriptTail _ _ (Value.ref _) (Value.int _ _)) _ _ _); (with_unfolding_all refine' item3 ?k1 ?k2 ?k3 ?k4 ?k5 ?k6 ?k7 ?k8 ?k9 ?kA ?_ ?kB; (case k1 => k_asm); (case k2 => k_mem); (case k3 => assumption); (case k4 => assumption); (case k5 => assumption); (case k6 => assumption); (case k7 => assumption); (case k8 => assumption); (case k9 => assumption); (case kA => assumption); (case kB => with_unfolding_all rfl)); intro i' t' hlo' hhi'; walk_say "ITEM3"))

def OneC (w : World) : Prop := ∀ (sa : Addr) (p q : Int) (tp tq : Tok) (c : Nat) (rest : List (Addr × Obj)) (th : Addr) (x y z : Int) (tx ty tz : Tok) (ct : Nat) (lo hi : Int), (∀ x ∈ rest, x.1 ≠ sa) → 0 ≤ q → q < 2147483647 →
  (th, listOf [Value.int x tx, Value.int y ty, Value.int z tz].toArray ct) ∈ rest → lo ≤ x → x ≤ hi → lo ≤ y → y ≤ hi → lo ≤ z → z ≤ hi →
  CC w 47 [.ref sa, .ref th] ((sa, srcO p tp q tq c) :: rest) 2 fun h₀ L m s Q =>
    ∀ (r : Int) (tr : Tok) (p' q' : Int) (tp' tq' : Tok) (h' : Heap) (tk' : Nat), lo ≤ r → r ≤ hi → 0 ≤ q' → q' < 2147483647 → Fr h₀ L h' m → News h₀ L h' ((sa, srcO p' tp' q' tq' c) :: rest) → Q (.int r tr) { s with heap := h', toks := tk' }

local macro_rules | `(tactic| walk_at "call ref") => `(tactic| (k_here; (with_reducible show wpAny _ _ (call (Value.ref 40) [Value.ref _, Value.int _ _]) _ _ _); k_dflt (refine' CC.use (takeC _ _ _ _ _ _ _ _ _ _ ?h1 ?h2 ?h3 ?h4 ?h5) ?k1 ?k2 ?k3 ?k4 ?k5 ?kK ?kd ?ku ?_; (case k1 => k_asm); (case k2 => k_asm); (case k3 => k_asm); (case k4 => k_asm); (case k5 => k_asm); (case kK => first | exact rfl | assumption); (case kd => ktr_room); (case ku => ktr_units); (case h1 => first | assumption | exact ne_cons (by omega) (by assumption)); (case h2 => first | decide | omega); (case h3 => first | decide | omega); (case h4 => assumption); (case h5 => assumption)); intro r' tr' p' q' tp' tq' h' tk' hr0' hr1' hq0' hq1' F' N'; (try dsimp only); (try k_sweep); walk_say "TAKE"))

set_option maxRecDepth 100000 in
set_option maxHeartbeats 8000000 in
theorem oneC (w : World) : OneC w := by
  unfold OneC CC
  w_top off
  k_fill
  intro sa p q tp tq c rest th x y z tx ty tz ct lo hi hne hq0 hq1 hth hx1 hx2 hy1 hy2 hz1 hz2 mean mg mb dp un gd cn cs a ccd cl outer A₀ base h₀ L m s Q E B F X N T hk hd hu hret
  refine wpAny_call ?_
  k_dflt cell_enter
  k_steps
  all_goals exact hret _ _ _ _ _ _ _ _ (by assumption) (by assumption) (by assumption) (by assumption) (by assumption) (by assumption)

theorem pow_at {prog : Program} {w : World} {A : Around} {E : Value → Shared → Prop} {s : Shared} {a n x : Int} {t u : Tok} {Q : Value → Shared → Prop} (hn : 0 ≤ n) (hn2 : n ≤ 1000000) (ha : a.natAbs < 2 ^ 64) (e : a ^ n.toNat = x) (h : Q (.int x s.toks) { s with toks := s.toks + 1 }) :
    wpAny (model prog w) A (binaryOp .Pow (.int a t) (.int n u)) Q E s := by
  subst e
  exact pow_int_small hn hn2 ha h
local macro_rules | `(tactic| walk_at "binaryOp Pow int int") => `(tactic| first | (with_reducible refine pow_at (x := 2199023255552) (by decide) (by decide) (by decide) (by decide) ?_) | (with_reducible refine pow_at (x := 1099511627776) (by decide) (by decide) (by decide) (by decide) ?_))

def NumberC (w : World) : Prop := ∀ (sa : Addr) (p q : Int) (tp tq : Tok) (c : Nat) (rest : List (Addr × Obj)), (∀ x ∈ rest, x.1 ≠ sa) → 0 ≤ q → q < 2147483647 →
  CC w 76 [.ref sa] ((sa, srcO p tp q tq c) :: rest) 3 fun h₀ L m s Q =>
    ∀ (r : Int) (tr : Tok) (p' q' : Int) (tp' tq' : Tok) (h' : Heap) (tk' : Nat), -1099511627776 ≤ r → r ≤ 1099511627776 → 0 ≤ q' → q' < 2147483647 → Fr h₀ L h' m → News h₀ L h' ((sa, srcO p' tp' q' tq' c) :: rest) → Q (.int r tr) { s with heap := h', toks := tk' }

local macro_rules | `(tactic| walk_at "call ref") => `(tactic| (k_here; (with_reducible show wpAny _ _ (call (Value.ref 47) [Value.ref _, Value.ref _]) _ _ _); k_dflt (refine' CC.use (oneC _ _ _ _ _ _ _ _ _ _ _ _ _ _ _ _ (-1099511627776) 1099511627776 ?h1 ?h2 ?h3 ?h4 ?h5 ?h6 ?h7 ?h8 ?h9 ?hA) ?k1 ?k2 ?k3 ?k4 ?k5 ?kK ?kd ?ku ?_; (case k1 => k_asm); (case k2 => k_asm); (case k3 => k_asm); (case k4 => first | k_asm | exact news_swap (by k_asm)); (case k5 => k_asm); (case kK => first | exact rfl | assumption); (case kd => ktr_room); (case ku => ktr_units); (case h4 => k_mem); (case h1 => first | assumption | exact ne_cons (by omega) (by assumption)); (case h2 => assumption); (case h3 => assumption); (case h5 => omega); (case h6 => omega); (case h7 => omega); (case h8 => omega); (case h9 => omega); (case hA => omega)); intro r' tr' p' q' tp' tq' h' tk' hr0' hr1' hq0' hq1' F' N'; (try dsimp only); (try k_sweep); walk_say "ONE"))

set_option maxRecDepth 100000 in
set_option maxHeartbeats 8000000 in
theorem numberC (w : World) : NumberC w := by
  unfold NumberC CC
  w_top off
  k_fill
  intro sa p q tp tq c rest hne hq0 hq1 mean mg mb dp un gd cn cs a ccd cl outer A₀ base h₀ L m s Q E B F X N T hk hd hu hret
  refine wpAny_call ?_
  k_dflt cell_enter
  k_steps
  all_goals exact hret _ _ _ _ _ _ _ _ (by assumption) (by assumption) (by assumption) (by assumption) (by assumption) (news_drop2 (by assumption))
end Mine

namespace Mine
local macro_rules | `(tactic| walk_at "Pad") => `(tactic| skip)
local macro_rules | `(tactic| walk_at "Pad") => `(tactic| skip)
local macro_rules | `(tactic| walk_at "Pad") => `(tactic| skip)
local macro_rules | `(tactic| walk_at "Pad") => `(tactic| skip)
local macro_rules | `(tactic| walk_at "Pad") => `(tactic| skip)
local macro_rules | `(tactic| walk_at "Pad") => `(tactic| skip)
local macro_rules | `(tactic| walk_at "Pad") => `(tactic| skip)
local macro_rules | `(tactic| walk_at "Pad") => `(tactic| skip)
local macro_rules | `(tactic| walk_at "Pad") => `(tactic| skip)
local macro_rules | `(tactic| walk_at "Pad") => `(tactic| skip)
local macro_rules | `(tactic| walk_at "Pad") => `(tactic| skip)
local macro_rules | `(tactic| k_all) => `(tactic| (with_reducible assumption))
local macro_rules | `(tactic| k_mem) => `(tactic| first | with_reducible assumption | exact List.mem_cons_self | (refine List.mem_cons_of_mem _ ?_; k_mem) | (refine List.mem_append.mpr (Or.inr ?_); k_mem) | (refine List.mem_append.mpr (Or.inl ?_); k_mem))

def MiddleC (w : World) : Prop := ∀ (news : List (Addr × Obj)) (o1 o2 : Addr) (x y u v : Int) (tx ty tu tv : Tok) (c1 c2 : Nat),
    (o1, tupO [.int x tx, .int y ty] c1) ∈ news → (o2, tupO [.int u tu, .int v tv] c2) ∈ news →
    CC w 21 [.ref o1, .ref o2] news 1 fun h₀ L m s Q => ∀ (r : Addr) (t1 t2 : Tok) (h' : Heap) (tk' : Nat), Fr h₀ L h' m → News h₀ L h' ((r, tupO [.int (mid x u) t1, .int (mid y v) t2] 0) :: news) → (∀ p ∈ news, p.1 < r) → Q (.ref r) { s with heap := h', toks := tk' }

set_option maxRecDepth 100000 in
set_option maxHeartbeats 8000000 in
theorem middleC (w : World) : MiddleC w := by
  unfold MiddleC CC
  w_top off
  k_fill
  intro news o1 o2 x y u v tx ty tu tv c1 c2 m1 m2 mean mg mb dp un gd cn cs a ccd cl outer A₀ base h₀ L m s Q E B F X N T hk hd hu hret
  refine wpAny_call ?_
  k_dflt cell_enter
  k_steps
  all_goals exact hret _ _ _ _ _ (by assumption) (by assumption) (by assumption)

/-- what a reckoner gives: a point of g's, made or old -/
abbrev ReckR (g : Pt) (news sub : List (Addr × Obj)) : Heap → Addr → (Str → Option Value) → Shared → (Value → Shared → Prop) → Prop := fun h₀ L m s Q =>
  ∀ (tl : List (Addr × Obj)) (a : Addr) (t u : Tok) (c : Nat) (h' : Heap) (tk' : Nat), Fr h₀ L h' m → News h₀ L h' (tl ++ news) → (∀ p ∈ tl, ∀ q ∈ news, q.1 < p.1) → (a, tupO [.int g.1 t, .int g.2 u] c) ∈ tl ++ sub → (a, tupO [.int g.1 t, .int g.2 u] c) ∈ tl ++ news → Q (.ref a) { s with heap := h', toks := tk' }
def ReckC (w : World) (f : Addr) (g : List Pt → Nat → Nat → Pt) (Ok : List Pt → Prop) (i lv : Int) (sz : Nat) : Prop :=
  ∀ (news sub : List (Addr × Obj)) (ra : Addr) (c : Nat) (vs : List Value) (ps : List Pt) (ti tl : Tok), (ra, listOf vs.toArray c) ∈ news → (∀ p ∈ sub, p ∈ news) → PtsIn sub vs ps → Ok ps → ps.length ≤ 5 → 0 ≤ i → 0 ≤ lv → i + lv < ps.length →
    CC w f [.ref ra, .int i ti, .int lv tl] news sz (ReckR (g ps i.toNat lv.toNat) news sub)

theorem pt_item {prog : Program} {w : World} {A : Around} {E : Value → Shared → Prop} {s : Shared} {value slice : PySem.Expr} {h₀ : Heap} {L l : Addr} {news n₁ : List (Addr × Obj)} {vs : List Value} {ps : List Pt} {c : Nat} {k : Int} {u : Tok} {Q : Value → Shared → Prop}
    (N : News h₀ L s.heap news) (hm : (l, listOf vs.toArray c) ∈ news) (P : PtsIn n₁ vs ps) (h0 : 0 ≤ k) (h1 : k < ps.length) (h5 : ps.length ≤ 5)
    (h : ∀ a t t' c', (a, tupO [.int (ps.getD k.toNat (0, 0)).1 t, .int (ps.getD k.toNat (0, 0)).2 t'] c') ∈ n₁ → Q (.ref a) s)
    (hs : subscripted slice false (.ref l) (.int k u) = operate [.ref l, .int k u] (getItem (.ref l) (.int k u)) := by with_unfolding_all rfl) :
    wpAny (model prog w) A (subscriptTail value slice (.ref l) (.int k u)) Q E s := by
  have hk : k.toNat < ps.length := by omega
  obtain ⟨v, hv, a, t, t', c', rfl, hm'⟩ := P.get k.toNat _ (List.getElem?_eq_getElem hk)
  have e : ps.getD k.toNat (0, 0) = ps[k.toNat] := by rw [List.getD_eq_getElem?_getD, List.getElem?_eq_getElem hk]; rfl
  rw [← e] at hm'
  exact src_item N hm h0 (by omega) hv (h a t t' c' hm') hs
local macro_rules | `(tactic| walk_at "subscriptTail") => `(tactic| (k_here; (with_reducible show wpAny _ _ (subscriptTail _ _ (Value.ref _) (Value.int _ _)) _ _ _); (with_unfolding_all refine' pt_item ?k1 ?k2 ?k3 ?k4 ?k5 ?k6 ?_ ?k7; (case k1 => k_asm); (case k2 => k_mem); (case k3 => assumption); (case k4 => omega); (case k5 => omega); (case k6 => assumption); (case k7 => with_unfolding_all rfl)); intro a' t' u' c' hm'; walk_say "PTITEM"))

theorem mid_mod (a b : Int) : Int.fdiv (a + b - Int.fmod (a + b) 2) 2 = mid a b := by
  unfold mid
  have h1 := Int.fmod_add_mul_fdiv (a + b) 2
  have h2 := fm_lo (a + b) (n := 2) (by decide)
  have h3 := fm_hi (a + b) (n := 2) (by decide)
  have h4 := Int.fmod_add_mul_fdiv (a + b - Int.fmod (a + b) 2) 2
  have h5 := fm_lo (a + b - Int.fmod (a + b) 2) (n := 2) (by decide)
  have h6 := fm_hi (a + b - Int.fmod (a + b) 2) (n := 2) (by decide)
  omega

set_option maxRecDepth 100000 in
set_option maxHeartbeats 8000000 in
theorem lmid0 (w : World) (i : Int) : ReckC w 54 midAt (fun _ => True) i 0 1 := by
  unfold ReckC CC
  w_top off
  k_fill
  intro news sub ra c vs ps ti tl hm hsu P _ h5 hi hl hn mean mg mb dp un gd cn cs a ccd cl outer A₀ base h₀ L m s Q E B F X N T hk hd hu hret
  refine wpAny_call ?_
  k_dflt cell_enter
  k_steps
  all_goals exact hret [] _ _ _ _ _ _ (by assumption) (by assumption) (fun _ h => nomatch h) (by assumption) (hsu _ (by assumption))

theorem sub_app {n n' m : List (Addr × Obj)} (h : ∀ p ∈ m, p ∈ n) : ∀ p ∈ m, p ∈ n' ++ n := fun p hp => List.mem_append.mpr (.inr (h p hp))
theorem up_app {n m tl : List (Addr × Obj)} (h : ∀ p ∈ m, p ∈ n) {q : Addr × Obj} (hq : q ∈ tl ++ m) : q ∈ tl ++ n := (List.mem_append.mp hq).elim (fun z => List.mem_append.mpr (.inl z)) fun z => List.mem_append.mpr (.inr (h q z))
local macro_rules | `(tactic| walk_at "call ref") => `(tactic| (k_here; (with_reducible show wpAny _ _ (call (Value.ref 54) [Value.ref _, Value.int _ _, Value.int _ _]) _ _ _); (rename (∀ (_ _ : Int), _ = _ → ReckC _ 54 _ _ _ _ _) => hIH'); k_dflt (refine' CC.use (hIH' _ _ ?h0 _ _ _ _ _ _ _ _ ?h1 ?hs ?h2 True.intro ?h3 ?h4 ?h5 ?h6) ?k1 ?k2 ?k3 ?k4 ?k5 ?kK ?kd ?ku ?_; (case k1 => k_asm); (case k2 => k_asm); (case k3 => k_asm); (case k4 => k_asm); (case k5 => k_asm); (case kK => first | exact rfl | assumption); (case kd => ktr_room); (case ku => ktr_units); (case h0 => omega); (case h1 => k_mem); (case h2 => with_reducible assumption); (case hs => first | with_reducible assumption | exact sub_app (by assumption)); (case h3 => assumption); (case h4 => omega); (case h5 => omega); (case h6 => omega)); intro tl' a' t' u' c' h' tk' F' N' hlt' hm0' hm'; (try dsimp only); (try k_sweep); walk_say "LMID"))

theorem midAt_step (ps : List Pt) {i lv : Int} (hi : 0 ≤ i) (hl : 0 ≤ lv) : midAt ps i.toNat (lv + 1).toNat = midP (midAt ps i.toNat (lv + 1 - 1).toNat) (midAt ps (i + 1).toNat (lv + 1 - 1).toNat) := by
  have e1 : (lv + 1).toNat = (lv + 1 - 1).toNat + 1 := by omega
  have e2 : (i + 1).toNat = i.toNat + 1 := by omega
  rw [e1, e2, midAt]
theorem reck_new {h₀ h' : Heap} {L D : Addr} {m : Str → Option Value} {s : Shared} {Q : Value → Shared → Prop} {news sub big : List (Addr × Obj)} {g : Pt} {x y : Int} {t u : Tok} {c tk' : Nat} (hret : ReckR g news sub h₀ L m s Q) (F : Fr h₀ L h' m) (N : News h₀ L h' ((D, tupO [.int x t, .int y u] c) :: big))
    (hs : ∀ p ∈ news, p ∈ big) (hl : ∀ p ∈ big, p.1 < D) (ex : x = g.1) (ey : y = g.2) : Q (.ref D) { s with heap := h', toks := tk' } := by
  subst ex
  subst ey
  refine hret [(D, tupO [.int g.1 t, .int g.2 u] c)] D t u c h' tk' F (fun p hp => ?_) (fun p hp q hq => ?_) (.head _) (.head _)
  · rcases List.mem_append.mp hp with hp | hp
    · rw [List.mem_singleton.mp hp]
      exact N _ (.head _)
    · exact N p (.tail _ (hs p hp))
  · rw [List.mem_singleton.mp hp]
    exact hl q (hs q hq)
theorem sub3 {p : Addr × Obj} {t1 t2 news : List (Addr × Obj)} : ∀ x ∈ news, x ∈ p :: (t2 ++ (t1 ++ news)) := fun _ h => .tail _ (List.mem_append.mpr (.inr (List.mem_append.mpr (.inr h))))

set_option maxRecDepth 100000 in
set_option maxHeartbeats 8000000 in
theorem lmidS (w : World) (lv : Int) (n : Nat) (hlv : 0 ≤ lv) (IH : ∀ i l : Int, l = lv → ReckC w 54 midAt (fun _ => True) i l n) (i : Int) : ReckC w 54 midAt (fun _ => True) i (lv + 1) (n + 1) := by
  unfold ReckC CC
  w_top off
  k_fill
  intro news sub ra c vs ps ti tl hm hsu P _ h5 hi hl hn mean mg mb dp un gd cn cs a ccd cl outer A₀ base h₀ L m s Q E B F X N T hk hd hu hret
  refine wpAny_call ?_
  k_dflt cell_enter
  k_steps
  · exfalso; omega
  · refine reck_new hret (by assumption) (by assumption) sub3 (ktn_ltOf (by assumption)) ?_ ?_
    · rw [midAt_step ps hi hlv]; exact mid_mod _ _
    · rw [midAt_step ps hi hlv]; exact mid_mod _ _

theorem lmid_all (w : World) : ∀ (n : Nat) (i l : Int), l = (n : Int) → ReckC w 54 midAt (fun _ => True) i l (n + 1)
  | 0, i, l, h => by
    subst h
    exact lmid0 w i
  | n + 1, i, l, h => by
    have e : l = (n : Int) + 1 := by omega
    subst e
    exact lmidS w n (n + 1) (by omega) (fun i l h => lmid_all w n i l h) i
theorem CC.more {w : World} {f : Addr} {vs : List Value} {news : List (Addr × Obj)} {a b : Nat} {R : Heap → Addr → (Str → Option Value) → Shared → (Value → Shared → Prop) → Prop} (C : CC w f vs news a R) (h : a ≤ b) : CC w f vs news b R :=
  fun mean mg mb dp un gd cn cs a' ccd cl outer A₀ base h₀ L m s Q E B F X N T hk hd hu r => C mean mg mb dp un gd cn cs a' ccd cl outer A₀ base h₀ L m s Q E B F X N T hk (by omega) (by omega) r
/-- _law_middle is a reckoner -/
theorem lmidC (w : World) (i lv : Int) : ReckC w 54 midAt (fun _ => True) i lv 6 := by
  intro news sub ra c vs ps ti tl hm hsu P hok h5 hi hl hn
  exact CC.more (lmid_all w lv.toNat i lv (by omega) news sub ra c vs ps ti tl hm hsu P hok h5 hi hl hn) (by omega)
end Mine

namespace Mine
local macro_rules | `(tactic| walk_at "Pad") => `(tactic| skip)
local macro_rules | `(tactic| walk_at "Pad") => `(tactic| skip)
local macro_rules | `(tactic| walk_at "Pad") => `(tactic| skip)
local macro_rules | `(tactic| walk_at "Pad") => `(tactic| skip)
local macro_rules | `(tactic| walk_at "Pad") => `(tactic| skip)
local macro_rules | `(tactic| walk_at "Pad") => `(tactic| skip)
local macro_rules | `(tactic| walk_at "Pad") => `(tactic| skip)
local macro_rules | `(tactic| walk_at "Pad") => `(tactic| skip)
local macro_rules | `(tactic| walk_at "Pad") => `(tactic| skip)
local macro_rules | `(tactic| walk_at "Pad") => `(tactic| skip)
local macro_rules | `(tactic| walk_at "Pad") => `(tactic| skip)
local macro_rules | `(tactic| walk_at "Pad") => `(tactic| skip)
local macro_rules | `(tactic| walk_at "Pad") => `(tactic| skip)
local macro_rules | `(tactic| walk_at "Pad") => `(tactic| skip)
local macro_rules | `(tactic| k_all) => `(tactic| (with_reducible assumption))
local macro_rules | `(tactic| k_mem) => `(tactic| first | with_reducible assumption | exact List.mem_cons_self | (refine List.mem_cons_of_mem _ ?_; k_mem) | (refine List.mem_append.mpr (Or.inr ?_); k_mem) | (refine List.mem_append.mpr (Or.inl ?_); k_mem))

/-- two tuples of points, in a pair -/
abbrev PairR (p1 p2 : List Pt) (news : List (Addr × Obj)) : Heap → Addr → (Str → Option Value) → Shared → (Value → Shared → Prop) → Prop := fun h₀ L m s Q =>
  ∀ (tl : List (Addr × Obj)) (r f g : Addr) (c cf cg : Nat) (fs gs : List Value) (h' : Heap) (tk' : Nat), Fr h₀ L h' m → News h₀ L h' (tl ++ news) → (r, tupO [.ref f, .ref g] c) ∈ tl ++ news → (f, tupO fs cf) ∈ tl ++ news → (g, tupO gs cg) ∈ tl ++ news →
    PtsIn (tl ++ news) fs p1 → PtsIn (tl ++ news) gs p2 → Q (.ref r) { s with heap := h', toks := tk' }
def HalvesC (w : World) : Prop := ∀ (news : List (Addr × Obj)) (sp : Addr) (c : Nat) (vs : List Value) (ps : List Pt), ((sp, listOf vs.toArray c) ∈ news ∨ (sp, tupO vs c) ∈ news) → PtsIn news vs ps → 0 < ps.length → ps.length ≤ 5 →
  CC w 26 [.ref sp] news 2 (PairR (bothF ps.length (midAt ps)) (bothS ps.length (midAt ps)) news)

theorem or_up {a b p : Addr × Obj} {n : List (Addr × Obj)} (h : a ∈ n ∨ b ∈ n) : a ∈ p :: n ∨ b ∈ p :: n := h.imp (List.mem_cons_of_mem _) (List.mem_cons_of_mem _)
theorem list_any {prog : Program} {w : World} {A : Around} {E : Value → Shared → Prop} {s : Shared} {h₀ : Heap} {L l : Addr} {m : Str → Option Value} {news : List (Addr × Obj)} {vs : List Value} {c : Nat} {Q : Value → Shared → Prop} (F : Fr h₀ L s.heap m) (N : News h₀ L s.heap news) (hm : (l, listOf vs.toArray c) ∈ news ∨ (l, tupO vs c) ∈ news) (hz : vs.length ≤ 5)
    (h : ∀ D c' h', Fr h₀ L h' m → News h₀ L h' ((D, listOf vs.toArray c') :: news) → (∀ q ∈ news, q.1 < D) → Q (.ref D) { s with heap := h' }) : wpAny (model prog w) A (call (.type "list") [.ref l]) Q E s := by
  have hz' : vs.toArray.size ≤ sizeLine := by rw [List.size_toArray, sizeLine_eq]; omega
  rcases hm with hm | hm
  · exact list_copyK F N (N.isList hm) h hz'
  · exact list_copyKT F N (N.isTup hm) h hz'
local macro_rules | `(tactic| walk_at "call type:list") => `(tactic| (k_here; (with_reducible show wpAny _ _ (call (Value.type _) [Value.ref _]) _ _ _); k_dflt (refine' list_any ?k1 ?k2 ?k3 ?k4 ?_; (case k1 => k_asm); (case k2 => k_asm); (case k3 => first | assumption | exact or_up (by assumption) | exact Or.inl (by k_mem) | exact Or.inr (by k_mem)); (case k4 => assumption)); intro D' c' h' F' N' l1; (try k_lt l1); (try k_sweep); walk_say "LISTANY"))

def Stop (P : Prop) : Prop := P
theorem Stop.of {P : Prop} (h : Stop P) : P := h
theorem News.sub {h₀ h : Heap} {L : Addr} {n n' : List (Addr × Obj)} (N : News h₀ L h n) (hs : ∀ p ∈ n', p ∈ n) : News h₀ L h n' := fun p hp => N p (hs p hp)

def HJ (g : Heap) (L : Addr) (m : Str → Option Value) (f l : Addr) (s₀ : Shared) (news : List (Addr × Obj)) (p1 p2 : List Pt) (n : Nat) (s : Shared) : Prop :=
  ∃ (h : Heap) (tk : Nat) (oc : Obj) (r : Addr) (vs fs ls : List Value) (cr cf cl : Nat) (ps hs es : List Pt) (tail : List (Addr × Obj)),
    s = { s₀ with heap := h, toks := tk } ∧ Fr g L h m ∧ News g L h ((f, listOf fs.toArray cf) :: (l, listOf ls.toArray cl) :: (r, listOf vs.toArray cr) :: (L + 1, oc) :: tail) ∧ oc.data = .cell (some (.ref r)) ∧
    PtsIn tail vs ps ∧ PtsIn tail fs hs ∧ PtsIn tail ls es ∧ ps.length = n + 1 ∧ fs.length + n + 1 ≤ 5 ∧ ls.length + n + 1 ≤ 5 ∧ hs ++ heads (n + 1) ps = p1 ∧ es ++ lasts (n + 1) ps = p2 ∧ (∀ x ∈ news, x ∈ tail) ∧
    (@Ne Nat f l ∧ @Ne Nat f r ∧ @Ne Nat l r ∧ @Ne Nat f (L + 1) ∧ @Ne Nat l (L + 1) ∧ @Ne Nat r (L + 1)) ∧ (∀ x ∈ tail, x.1 ≠ f) ∧ (∀ x ∈ tail, x.1 ≠ l) ∧ (∀ x ∈ tail, x.1 ≠ L + 1)

theorem hj_start {g : Heap} {L : Addr} {m : Str → Option Value} {f l : Addr} {s₀ : Shared} {news : List (Addr × Obj)} {p1 p2 : List Pt} {n : Nat} {h : Heap} {tk : Nat} {oc : Obj} {r : Addr} {vs : List Value} {cr : Nat} {ps : List Pt}
    (F : Fr g L h m) (N : News g L h ((f, listOf ([] : List Value).toArray 0) :: (l, listOf ([] : List Value).toArray 0) :: (r, listOf vs.toArray cr) :: (L + 1, oc) :: news)) (d : oc.data = .cell (some (.ref r))) (P : PtsIn news vs ps) (hn : ps.length = n + 1) (h5 : ps.length ≤ 5) (e1 : heads (n + 1) ps = p1) (e2 : lasts (n + 1) ps = p2)
    (n1 : @Ne Nat f l) (n2 : @Ne Nat f r) (n3 : @Ne Nat l r) (n4 : @Ne Nat f (L + 1)) (n5 : @Ne Nat l (L + 1)) (n6 : @Ne Nat r (L + 1)) (t1 : ∀ x ∈ news, x.1 ≠ f) (t2 : ∀ x ∈ news, x.1 ≠ l) (t3 : ∀ x ∈ news, x.1 ≠ L + 1) :
    HJ g L m f l s₀ news p1 p2 n { s₀ with heap := h, toks := tk } :=
  ⟨h, tk, oc, r, vs, [], [], cr, 0, 0, ps, [], [], news, rfl, F, N, d, P, trivial, trivial, hn, by show 0 + n + 1 ≤ 5; omega, by show 0 + n + 1 ≤ 5; omega, e1, e2, fun _ h => h, ⟨n1, n2, n3, n4, n5, n6⟩, t1, t2, t3⟩

theorem pt_last {prog : Program} {w : World} {A : Around} {E : Value → Shared → Prop} {s : Shared} {value slice : PySem.Expr} {h₀ : Heap} {L l : Addr} {news n₁ : List (Addr × Obj)} {vs : List Value} {ps : List Pt} {c n : Nat} {u : Tok} {Q : Value → Shared → Prop}
    (N : News h₀ L s.heap news) (hm : (l, listOf vs.toArray c) ∈ news) (P : PtsIn n₁ vs ps) (h1 : ps.length = n + 1) (h5 : n + 1 ≤ 5)
    (h : ∀ a t t' c', (a, tupO [.int (ps.getD n (0, 0)).1 t, .int (ps.getD n (0, 0)).2 t'] c') ∈ n₁ → Q (.ref a) s)
    (hs : subscripted slice false (.ref l) (.int (-1) u) = operate [.ref l, .int (-1) u] (getItem (.ref l) (.int (-1) u)) := by with_unfolding_all rfl) :
    wpAny (model prog w) A (subscriptTail value slice (.ref l) (.int (-1) u)) Q E s := by
  have hk : n < ps.length := by omega
  obtain ⟨v, hv, a, t, t', c', rfl, hm'⟩ := P.get n _ (List.getElem?_eq_getElem hk)
  have e : ps.getD n (0, 0) = ps[n] := by rw [List.getD_eq_getElem?_getD, List.getElem?_eq_getElem hk]; rfl
  rw [← e] at hm'
  have hl := P.length
  refine kde_neg (j := n) (N.isList hm) (by decide) (by decide) ?_ hv (h a t t' c' hm') hs
  unfold seqIndex?
  rw [hl, h1]
  have hx : (-1 : Int) < 0 := by decide
  simp only [hx, if_true]
  have e2 : (-1 + ((n + 1 : Nat) : Int)) = (n : Int) := by omega
  rw [e2]
  have c1 : (0 ≤ (n : Int)) := by omega
  have c2 : ((n : Int) < ((n + 1 : Nat) : Int)) := by omega
  simp
  omega

local macro_rules | `(tactic| walk_at "subscriptTail") => `(tactic| (k_here; (with_reducible show wpAny _ _ (subscriptTail _ _ (Value.ref _) (Value.int _ _)) _ _ _); (with_unfolding_all refine' pt_item ?k1 ?k2 ?k3 ?k4 ?k5 ?k6 ?_ ?k7); (case k1 => k_asm); (case k2 => k_mem); (case k3 => with_reducible assumption); (case k4 => omega); (case k5 => omega); (case k6 => omega); (case k7 => with_unfolding_all rfl); intro a' t' u' c' hm'; walk_say "PTITEM"))
local macro_rules | `(tactic| walk_at "subscriptTail") => `(tactic| (k_here; (with_reducible show wpAny _ _ (subscriptTail _ _ (Value.ref _) (Value.int (-1) _)) _ _ _); (with_unfolding_all refine' pt_last ?k1 ?k2 ?k3 ?k4 ?k5 ?_ ?k7); (case k1 => k_asm); (case k2 => k_mem); (case k3 => with_reducible assumption); (case k4 => with_reducible assumption); (case k5 => omega); (case k7 => with_unfolding_all rfl); intro a' t' u' c' hm'; walk_say "PTLAST"))
local macro_rules | `(tactic| walk_at "call builtin:list.append") => `(tactic| (k_here; (with_reducible show wpAny _ _ (call (Value.builtin _) [Value.ref _, _]) _ _ _); k_dflt (refine' append_K ?k1 ?k2 ?k3 ?_ ?z; (case k1 => k_asm); (case k2 => k_asm); (case k3 => k_upd); (case z => (rw [List.size_toArray, sizeLine_eq]; omega)); k_whole); intro h' F' N'; (try simp only [List.push_toArray] at N'); (try k_sweep); walk_say "APPEND"))
theorem tuple_any {prog : Program} {w : World} {A : Around} {E : Value → Shared → Prop} {s : Shared} {h₀ : Heap} {L l : Addr} {m : Str → Option Value} {news : List (Addr × Obj)} {vs : List Value} {c : Nat} {Q : Value → Shared → Prop} (F : Fr h₀ L s.heap m) (N : News h₀ L s.heap news) (hm : (l, listOf vs.toArray c) ∈ news) (hz : vs.length ≤ 5)
    (h : ∀ D h', Fr h₀ L h' m → News h₀ L h' ((D, tupO vs 0) :: news) → (∀ q ∈ news, q.1 < D) → Q (.ref D) { s with heap := h' }) : wpAny (model prog w) A (call (.type "tuple") [.ref l]) Q E s :=
  kde_tupleOf F N (N.isList hm) (by rw [List.size_toArray]; omega) (by simp) h
local macro_rules | `(tactic| walk_at "call type:tuple") => `(tactic| (k_here; (with_reducible show wpAny _ _ (call (Value.type _) [Value.ref _]) _ _ _); k_dflt (refine' tuple_any ?k1 ?k2 ?k3 ?k4 ?_; (case k1 => k_asm); (case k2 => k_asm); (case k3 => k_mem); (case k4 => (simp only [List.length_append, List.length_cons, List.length_nil, List.length_reverse]; omega))); intro D' h' F' N' l1; (try k_lt l1); (try k_sweep); walk_say "TUPLEANY"))
local macro_rules | `(tactic| walk_at "subscriptTail Name Slice ref ref") => `(tactic| (k_here; (with_reducible show wpAny _ _ (subscriptTail _ (PySem.Expr.Slice none none (some _) _) (Value.ref _) (Value.ref _)) _ _ _); k_dflt (refine' krv_lit (its := List.toArray _) ?F ?N ?l ?k ?e ?_ ?s ?t ?z; (case F => k_asm); (case N => k_asm); (case l => exact News.isList (by k_asm) (by k_mem)); (case k => exact IsPart.int _ _); (case e => exact rfl); (case s => with_unfolding_all rfl); (case t => kmk_pure); (case z => (rw [List.size_toArray, sizeLine_eq]; simp only [List.length_append, List.length_cons, List.length_nil, List.length_reverse]; omega))); intro D' h' F' N' l1; (try k_lt l1); (try k_sweep); walk_say "LISTREV"))
local macro_rules | `(tactic| walk_at "call builtin:len") => `(tactic| (k_here; (with_reducible show wpAny _ _ (call (Value.builtin "len") [Value.ref _]) _ _ _); k_dflt (refine' len_any ?k1 ?k2 ?k3 ?k4 ?_; (case k1 => k_asm); (case k2 => k_mem); (case k3 => with_reducible assumption); (case k4 => omega)); (try dsimp only)))
local macro_rules | `(tactic| walk_at "CompSrc") => `(tactic| refine Stop.of ?_)
local macro_rules | `(tactic| walk_at "WPost") => `(tactic| dsimp only [WPost])
theorem halves_end {h₀ h' : Heap} {L D d1 d3 : Addr} {m : Str → Option Value} {s : Shared} {Q : Value → Shared → Prop} {news tail : List (Addr × Obj)} {e2 e4 e5 e6 e7 : Addr × Obj} {ps qs hs es : List Pt} {n c1 c3 tk' a1 a2 : Nat} {t1 u1 t2 u2 : Tok} {cc1 cc2 : Nat} {fs ls : List Value}
    (hret : PairR (bothF ps.length (midAt ps)) (bothS ps.length (midAt ps)) news h₀ L m s Q) (F : Fr h₀ L h' m)
    (N : News h₀ L h' ((D, tupO [.ref d3, .ref d1] 0) :: (d1, tupO (ls ++ [Value.ref a2]).reverse c1) :: e2 :: (d3, tupO (fs ++ [Value.ref a1]) c3) :: e4 :: e5 :: e6 :: e7 :: tail))
    (Pf : PtsIn tail fs hs) (Pl : PtsIn tail ls es) (hm1 : (a1, tupO [.int (qs.getD 0 (0, 0)).1 t1, .int (qs.getD 0 (0, 0)).2 u1] cc1) ∈ tail) (hm2 : (a2, tupO [.int (qs.getD n (0, 0)).1 t2, .int (qs.getD n (0, 0)).2 u2] cc2) ∈ tail)
    (h1 : (n : Int) + 1 = 1) (hF : hs ++ heads (n + 1) qs = bothF ps.length (midAt ps)) (hL : es ++ lasts (n + 1) qs = lasts ps.length ps) (hsub : ∀ x ∈ news, x ∈ tail) : Q (.ref D) { s with heap := h', toks := tk' } := by
  obtain rfl : n = 0 := by omega
  have P1 : PtsIn tail (fs ++ [Value.ref a1]) (hs ++ [qs.getD 0 (0, 0)]) := Pf.snoc ⟨a1, t1, u1, cc1, rfl, hm1⟩
  have P2 : PtsIn tail (ls ++ [Value.ref a2]) (es ++ [qs.getD 0 (0, 0)]) := Pl.snoc ⟨a2, t2, u2, cc2, rfl, hm2⟩
  have q1 : hs ++ [qs.getD 0 (0, 0)] = bothF ps.length (midAt ps) := hF
  have q2 : es ++ [qs.getD 0 (0, 0)] = lasts ps.length ps := hL
  rw [q1] at P1
  rw [q2] at P2
  have P3 := P2.reverse
  rw [lasts_rev] at P3
  have up : ∀ p ∈ tail, p ∈ ((D, tupO [.ref d3, .ref d1] 0) :: (d1, tupO (ls ++ [Value.ref a2]).reverse c1) :: (d3, tupO (fs ++ [Value.ref a1]) c3) :: tail) ++ news := fun p hp => List.mem_append.mpr (.inl (.tail _ (.tail _ (.tail _ hp))))
  refine hret ((D, tupO [.ref d3, .ref d1] 0) :: (d1, tupO (ls ++ [Value.ref a2]).reverse c1) :: (d3, tupO (fs ++ [Value.ref a1]) c3) :: tail) D d3 d1 0 c3 c1 _ _ h' tk' F (fun p hp => N p ?_) (.head _) (.tail _ (.tail _ (.head _))) (.tail _ (.head _)) (P1.mono up) (P3.mono up)
  rcases List.mem_append.mp hp with hp | hp
  · rcases List.mem_cons.mp hp with rfl | hp
    · exact .head _
    rcases List.mem_cons.mp hp with rfl | hp
    · exact .tail _ (.head _)
    rcases List.mem_cons.mp hp with rfl | hp
    · exact .tail _ (.tail _ (.tail _ (.head _)))
    · exact .tail _ (.tail _ (.tail _ (.tail _ (.tail _ (.tail _ (.tail _ (.tail _ hp)))))))
  · exact .tail _ (.tail _ (.tail _ (.tail _ (.tail _ (.tail _ (.tail _ (.tail _ (hsub p hp))))))))

/-- the turns of a comprehension that makes points -/
def CJ (base sub : List (Addr × Obj)) (tgt : List Pt) (i : Nat) (ys : List Value) (nw : List (Addr × Obj)) : Prop := ∃ pts, nw = pts ++ base ∧ (∀ p ∈ pts, ∀ q ∈ base, @LT.lt Nat _ q.1 p.1) ∧ PtsIn (pts ++ sub) ys (tgt.take i)
theorem CJ.start (base sub : List (Addr × Obj)) (tgt : List Pt) : CJ base sub tgt 0 [] base := by
  refine ⟨[], rfl, ?_, ?_⟩
  · intro p hp
    cases hp
  · rw [List.take_zero]
    trivial
theorem CJ.step {base sub pts tl : List (Addr × Obj)} {tgt : List Pt} {i : Nat} {ys : List Value} {v : Value} {p : Pt} (hl : ∀ p ∈ pts, ∀ q ∈ base, @LT.lt Nat _ q.1 p.1) (P : PtsIn (pts ++ sub) ys (tgt.take i)) (ht : ∀ p ∈ tl, ∀ q ∈ base, @LT.lt Nat _ q.1 p.1)
    (hp : tgt[i]? = some p) (k : PtAt (tl ++ (pts ++ sub)) v p) : CJ base sub tgt (i + 1) (ys ++ [v]) (tl ++ (pts ++ base)) := by
  refine ⟨tl ++ pts, (List.append_assoc _ _ _).symm, fun x hx q hq => ?_, ?_⟩
  · rcases List.mem_append.mp hx with hx | hx
    · exact ht x hx q hq
    · exact hl x hx q hq
  · rw [List.take_add_one, hp, List.append_assoc]
    exact (P.mono fun _ h => List.mem_append.mpr (.inr h)).snoc k
theorem comp_end_new {h₀ h' : Heap} {L : Addr} {m : Str → Option Value} {s : Shared} {S : List (Addr × Obj) → Prop} {I C D a : Addr} {oI oC oD o : Obj} {base sub pts : List (Addr × Obj)} {tgt : List Pt} {i tk' : Nat} {ys : List Value} {p : Pt}
    (F : Fr h₀ L h' m) (N : News h₀ L h' ((a, o) :: (I, oI) :: (C, oC) :: (D, oD) :: (pts ++ base))) (hlt : ∀ q ∈ (I, oI) :: (C, oC) :: (D, oD) :: (pts ++ base), q.1 < a) (off : LCg.Off3 I C D (pts ++ base)) (hS : S ((a, o) :: (pts ++ base)))
    (hl : ∀ p ∈ pts, ∀ q ∈ base, @LT.lt Nat _ q.1 p.1) (P : PtsIn (pts ++ sub) ys (tgt.take i)) (hp : tgt[i]? = some p) (ho : ∃ t u c, o = tupO [.int p.1 t, .int p.2 u] c) :
    LCg.CompEnd h₀ L m s I oI C oC D oD S (fun y nw' => CJ base sub tgt (i + 1) (ys ++ [y]) nw') (.ref a) { s with heap := h', toks := tk' } := by
  obtain ⟨t, u, c, rfl⟩ := ho
  refine LCg.CompEnd.intro F N ((a, _) :: (pts ++ base)) (fun x hx => ?_) ⟨⟨Nat.ne_of_gt (hlt _ (.head _)), Nat.ne_of_gt (hlt _ (.tail _ (.head _))), Nat.ne_of_gt (hlt _ (.tail _ (.tail _ (.head _))))⟩, off⟩ hS ?_
  · rcases List.mem_cons.mp hx with rfl | hx
    · exact .tail _ (.head _)
    rcases List.mem_cons.mp hx with rfl | hx
    · exact .tail _ (.tail _ (.head _))
    rcases List.mem_cons.mp hx with rfl | hx
    · exact .tail _ (.tail _ (.tail _ (.head _)))
    rcases List.mem_cons.mp hx with rfl | hx
    · exact .head _
    · exact .tail _ (.tail _ (.tail _ (.tail _ hx)))
  · refine CJ.step (tl := [(a, _)]) hl P (fun x hx q hq => ?_) hp ⟨a, t, u, c, rfl, .head _⟩
    rw [List.mem_singleton.mp hx]
    exact hlt q (.tail _ (.tail _ (.tail _ (List.mem_append.mpr (.inr hq)))))
theorem off1_mem {D : Addr} {l : List (Addr × Obj)} (x : LCg.Off1 D l) : ∀ p ∈ l, @Ne Nat p.1 D := by
  induction l with
  | nil => intro p hp; cases hp
  | cons q r ih =>
    intro p hp
    rcases List.mem_cons.mp hp with e | hp
    · rw [e]; exact x.1
    · exact ih x.2 p hp
theorem fin_led {h₀ h : Heap} {L : Addr} {d a b c e : Addr × Obj} {pts tail : List (Addr × Obj)} (N : News h₀ L h (d :: (pts ++ (a :: b :: c :: e :: tail)))) : News h₀ L h (d :: a :: b :: c :: e :: (pts ++ tail)) := News.sub N (by kcf_all)
theorem pts_ne {base tail pts : List (Addr × Obj)} {x : Addr} {o : Obj} (hl : ∀ p ∈ pts, ∀ q ∈ base, @LT.lt Nat _ q.1 p.1) (hx : (x, o) ∈ base) (ht : ∀ p ∈ tail, p.1 ≠ x) : ∀ p ∈ pts ++ tail, p.1 ≠ x := by
  intro p hp
  rcases List.mem_append.mp hp with hp | hp
  · exact Nat.ne_of_gt (hl p hp _ hx)
  · exact ht p hp
theorem hj_next {g h : Heap} {L D f l : Addr} {m : Str → Option Value} {s₀ : Shared} {news tail tail2 : List (Addr × Obj)} {p1 p2 qs hs es : List Pt} {n tk k : Nat} {oc : Obj} {ys fs ls : List Value} {cf cl : Nat} {er : Addr × Obj} {a1 a2 : Addr} {x1 y1 x2 y2 : Tok} {d1 d2 : Nat}
    (F : Fr g L h m) (N : News g L h ((D, LCg.lst ys) :: (f, listOf (fs ++ [Value.ref a1]).toArray cf) :: (l, listOf (ls ++ [Value.ref a2]).toArray cl) :: er :: (L + 1, oc) :: tail2)) (d : oc.data = .cell (some (.ref D))) (P : PtsIn tail2 ys ((nextRow qs).take k)) (hk : k = n + 1)
    (Pf : PtsIn tail fs hs) (Pl : PtsIn tail ls es) (hm1 : (a1, tupO [.int (qs.getD 0 (0, 0)).1 x1, .int (qs.getD 0 (0, 0)).2 y1] d1) ∈ tail) (hm2 : (a2, tupO [.int (qs.getD (n + 1) (0, 0)).1 x2, .int (qs.getD (n + 1) (0, 0)).2 y2] d2) ∈ tail) (hup : ∀ x ∈ tail, x ∈ tail2)
    (hlen : qs.length = n + 1 + 1) (hf5 : fs.length + (n + 1) + 1 ≤ 5) (hl5 : ls.length + (n + 1) + 1 ≤ 5) (hF : hs ++ heads (n + 1 + 1) qs = p1) (hL : es ++ lasts (n + 1 + 1) qs = p2) (hsub : ∀ x ∈ news, x ∈ tail)
    (n1 : @Ne Nat f l) (n2 : @Ne Nat D f) (n3 : @Ne Nat D l) (n4 : @Ne Nat f (L + 1)) (n5 : @Ne Nat l (L + 1)) (n6 : @Ne Nat D (L + 1)) (t1 : ∀ x ∈ tail2, x.1 ≠ f) (t2 : ∀ x ∈ tail2, x.1 ≠ l) (t3 : ∀ x ∈ tail2, x.1 ≠ L + 1) :
    HJ g L m f l s₀ news p1 p2 n { s₀ with heap := h, toks := tk } := by
  have hnl := nextRow_length qs
  have ht : (nextRow qs).take k = nextRow qs := List.take_of_length_le (by omega)
  rw [ht] at P
  refine ⟨h, tk, oc, D, ys, fs ++ [Value.ref a1], ls ++ [Value.ref a2], ys.length, cf, cl, nextRow qs, hs ++ [qs.getD 0 (0, 0)], es ++ [qs.getD (n + 1) (0, 0)], tail2, rfl, F, News.sub N (by kcf_all), d, P, (Pf.mono hup).snoc ⟨a1, x1, y1, d1, rfl, hup _ hm1⟩, (Pl.mono hup).snoc ⟨a2, x2, y2, d2, rfl, hup _ hm2⟩, by omega, ?_, ?_, ?_, ?_, fun x hx => hup x (hsub x hx), ⟨n1, Ne.symm n2, Ne.symm n3, n4, n5, n6⟩, t1, t2, t3⟩
  · rw [List.length_append, List.length_singleton]; omega
  · rw [List.length_append, List.length_singleton]; omega
  · rw [List.append_assoc]; exact hF
  · rw [List.append_assoc]; exact hL
theorem next_some {ps : List Pt} {i : Nat} (h : i + 1 < ps.length) : (nextRow ps)[i]? = some (midP (ps.getD i (0, 0)) (ps.getD (i + 1) (0, 0))) := by
  have hl := nextRow_length ps
  have e := nextRow_get ps i h
  have hi : i < (nextRow ps).length := by omega
  rw [List.getD_eq_getElem?_getD, List.getElem?_eq_getElem hi] at e
  rw [List.getElem?_eq_getElem hi, ← e]
  rfl
local macro_rules | `(tactic| walk_at "call ref") => `(tactic| (k_here; (with_reducible show wpAny _ _ (call (Value.ref 21) [Value.ref _, Value.ref _]) _ _ _); k_dflt (refine' CC.use (middleC _ _ _ _ _ _ _ _ _ _ _ _ _ _ ?h1 ?h2) ?k1 ?k2 ?k3 ?k4 ?k5 ?kK ?kd ?ku ?_; (case k1 => k_asm); (case k2 => k_asm); (case k3 => k_asm); (case k4 => k_asm); (case k5 => k_asm); (case kK => first | exact rfl | assumption); (case kd => ktr_room); (case ku => ktr_units); (case h1 => k_mem); (case h2 => k_mem)); intro r' t1' t2' h' tk' F' N' hlt'; (try dsimp only); (try k_sweep); walk_say "MIDDLE"))

local macro_rules | `(tactic| walk_at "WhlRest") => `(tactic| refine Stop.of ?_)

set_option maxRecDepth 100000 in
set_option maxHeartbeats 1000000 in
theorem halvesC (w : World) : HalvesC w := by
  unfold HalvesC CC
  w_top off
  k_fill
  intro news sp c vs ps hm P h0 h5 mean mg mb dp un gd cn cs a ccd cl outer A₀ base h₀ L m s Q E B F X N T hk hd hu hret
  have hv5 : vs.length ≤ 5 := by rw [P.length]; exact h5
  refine wpAny_call ?_
  k_dflt (refine' code_defC ?k1 ?k2 ?k3 ?k4 ?k5 ?kA ?kF ?kK ?k6 ?k7 ?k8 ?k9 ?kB ?kD ?_ ?c2 ?c3 ?c4; (case kA => exact rfl); (case kF => exact rfl); (case kK => assumption); (case k1 => k_asm); (case k2 => k_asm); (case k3 => k_asm); (case k4 => k_asm); (case k5 => k_asm); (case k6 => k_is); (case k7 => k_is); (case k8 => ktr_room); (case k9 => exact BindsTo.of_eq rfl); (case kB => exact rfl); (case kD => decide +kernel); (case c2 => exact rfl); (case c3 => exact rfl); (case c4 => exact rfl); k_whole)
  intro g' L' h' tk' cells' FG' F' N' Y' B' X' T' l1
  have hC : ∀ p ∈ news, p.1 ≠ L' + 1 := fun p hp => Nat.ne_of_lt (Nat.lt_succ_of_lt (l1 p hp))
  k_cells Y'
  (try simp only [List.cons_append, List.nil_append] at N')
  (try dsimp only)
  (try k_fold)
  k_steps
  unfold Stop
  rename_i ra cr h1 lr fa h2 lf la h3 ll da h4 ld hx1 hx2 oc doc hx3 hh FF NN
  obtain ⟨n, hn⟩ : ∃ n, ps.length = n + 1 := ⟨ps.length - 1, by omega⟩
  have hJ := fun tkx : Nat => hj_start (p1 := bothF ps.length (midAt ps)) (p2 := lasts ps.length ps) (s₀ := s) (tk := tkx) FF (News.sub NN (by kcf_all)) doc P hn h5 (by rw [← hn]; exact heads_eq _ _ (Nat.le_refl _)) (by rw [← hn]) (by omega) (by omega) (by omega) (by omega) (by omega) (by omega) (fun x hx => Nat.ne_of_lt (ktn_ltOf lf.2.2 x hx)) (fun x hx => Nat.ne_of_lt (ktn_ltOf ll.2.2.2 x hx)) hC
  refine whl_inv (HJ g' L' _ fa la s news (bothF ps.length (midAt ps)) (lasts ps.length ps)) ?hE ?turn 100 n _ (hJ _) (by omega)
  case hE => passes_own
  clear hJ NN FF h1 h2 h3 h4 hx1 hx2 hx3 lr lf ll ld doc
  intro n s1 hJ
  obtain ⟨h, tk, oc, r, ws, fs, ls, cr, cf, cl, qs, hs, es, tail, rfl, FF, NN, doc, Pw, Pf, Pl, hlen, hf5, hl5, hF, hL, hsub, ⟨n1, n2, n3, n4, n5, n6⟩, t1, t2, t3⟩ := hJ
  have hwl : (ws.length : Int) = (n : Int) + 1 := by rw [Pw.length, hlen]; omega
  try k_fold
  k_steps
  · exact halves_end hret (by assumption) (by assumption) Pf Pl (by assumption) (by assumption) (by assumption) hF hL hsub
  · unfold Stop
    rename_i hn1 _ _ _ _ _ _ hR FF2 NN2 _
    refine LCg.CompSrc.range (by rfl) FF2 NN2 hR (small_one (by omega) (by omega) (by omega) (by omega)) (rangeSize_nat _ _) (by rw [sizeLine_eq]; omega) ?_
    intro g2
    refine comp_inv (CJ _ tail (nextRow qs)) (CJ.start _ _ _) ?turn2 ?fin2
    case turn2 =>
      intro i ys nw v I oI C oC D m₂ h tk E' hi hJ hv hC' hx F N off ne
      obtain ⟨pts, rfl, hlt, hP⟩ := hJ
      obtain ⟨t, rfl⟩ := hv
      try k_fold
      k_steps
      refine comp_end_new (p := midP (qs.getD (0 + (i : Int)).toNat (0, 0)) (qs.getD (0 + (i : Int) + 1).toNat (0, 0))) (by assumption) (by assumption) (by assumption) off trivial hlt hP ?_ ⟨_, _, _, rfl⟩
      have e1 : (0 + (i : Int)).toNat = i := by omega
      have e2 : (0 + (i : Int) + 1).toNat = i + 1 := by omega
      rw [e1, e2]
      exact next_some (by omega)
    case fin2 =>
      intro ys nw hJ
      obtain ⟨pts, rfl, hlt, hP⟩ := hJ
      unfold LCg.FinE
      intro D h tk F N off
      have hD := off1_mem off
      have z1 : @Ne Nat D fa := Ne.symm (hD _ (List.mem_append.mpr (.inr (.head _))))
      have z2 : @Ne Nat D la := Ne.symm (hD _ (List.mem_append.mpr (.inr (.tail _ (.head _)))))
      have z3 : @Ne Nat D (L' + 1) := Ne.symm (hD _ (List.mem_append.mpr (.inr (.tail _ (.tail _ (.tail _ (.head _)))))))
      have y1 := pts_ne hlt (.head _) t1
      have y2 := pts_ne hlt (.tail _ (.head _)) t2
      have y3 := pts_ne hlt (.tail _ (.tail _ (.tail _ (.head _)))) t3
      have N3 := fin_led N
      clear N NN2 FF2
      try k_fold
      k_steps
      obtain ⟨n', rfl⟩ : ∃ n', n = n' + 1 := ⟨n - 1, by omega⟩
      refine ⟨n', Nat.lt_succ_self _, ?_⟩
      refine hj_next (by assumption) (by assumption) (by assumption) hP (by omega) Pf Pl (by assumption) (by assumption) (fun x hx => List.mem_append.mpr (.inr hx)) hlen hf5 hl5 hF hL hsub n1 z1 z2 n4 n5 z3 y1 y2 y3
end Mine

namespace Mine
local macro_rules | `(tactic| walk_at "Pad") => `(tactic| skip)
local macro_rules | `(tactic| walk_at "Pad") => `(tactic| skip)
local macro_rules | `(tactic| walk_at "Pad") => `(tactic| skip)
local macro_rules | `(tactic| walk_at "Pad") => `(tactic| skip)
local macro_rules | `(tactic| walk_at "Pad") => `(tactic| skip)
local macro_rules | `(tactic| walk_at "Pad") => `(tactic| skip)
local macro_rules | `(tactic| walk_at "Pad") => `(tactic| skip)
local macro_rules | `(tactic| walk_at "Pad") => `(tactic| skip)
local macro_rules | `(tactic| walk_at "Pad") => `(tactic| skip)
local macro_rules | `(tactic| walk_at "Pad") => `(tactic| skip)
local macro_rules | `(tactic| walk_at "Pad") => `(tactic| skip)
local macro_rules | `(tactic| walk_at "Pad") => `(tactic| skip)
local macro_rules | `(tactic| walk_at "Pad") => `(tactic| skip)
local macro_rules | `(tactic| walk_at "Pad") => `(tactic| skip)
local macro_rules | `(tactic| walk_at "Pad") => `(tactic| skip)
local macro_rules | `(tactic| walk_at "Pad") => `(tactic| skip)
local macro_rules | `(tactic| walk_at "Pad") => `(tactic| skip)
local macro_rules | `(tactic| walk_at "Pad") => `(tactic| skip)
local macro_rules | `(tactic| walk_at "Pad") => `(tactic| skip)
local macro_rules | `(tactic| walk_at "Pad") => `(tactic| skip)
local macro_rules | `(tactic| walk_at "Pad") => `(tactic| skip)
local macro_rules | `(tactic| walk_at "Pad") => `(tactic| skip)
local macro_rules | `(tactic| walk_at "Pad") => `(tactic| skip)
local macro_rules | `(tactic| walk_at "Pad") => `(tactic| skip)
local macro_rules | `(tactic| walk_at "Pad") => `(tactic| skip)
local macro_rules | `(tactic| walk_at "Pad") => `(tactic| skip)
theorem ne_far {l : List (Addr × Obj)} {L d : Addr} (h : ∀ p ∈ l, p.1 < L) (hd : @LE.le Nat _ L d) : ∀ p ∈ l, p.1 ≠ d := fun p hp => Nat.ne_of_lt (Nat.lt_of_lt_of_le (h p hp) hd)
local macro_rules | `(tactic| k_all) => `(tactic| first | (with_reducible assumption) | exact ne_far (by with_reducible assumption) (by omega))
local macro_rules | `(tactic| k_mem) => `(tactic| first | with_reducible assumption | exact List.mem_cons_self | (refine List.mem_cons_of_mem _ ?_; k_mem) | (refine List.mem_append.mpr (Or.inr ?_); k_mem) | (refine List.mem_append.mpr (Or.inl ?_); k_mem))
local macro_rules | `(tactic| walk_at "call type:tuple") => `(tactic| (k_here; (with_reducible show wpAny _ _ (call (Value.type _) [Value.ref _]) _ _ _); k_dflt (refine' tuple_any ?k1 ?k2 ?k3 ?k4 ?_; (case k1 => k_asm); (case k2 => k_asm); (case k3 => k_mem); (case k4 => first | with_reducible assumption | (simp only [List.length_append, List.length_cons, List.length_nil, List.length_reverse]; omega))); intro D' h' F' N' l1; (try k_lt l1); (try k_sweep); walk_say "TUPLEANY"))
local macro_rules | `(tactic| walk_at "CompSrc") => `(tactic| refine Stop.of ?_)
local macro_rules | `(tactic| walk_at "call builtin:len") => `(tactic| (k_here; (with_reducible show wpAny _ _ (call (Value.builtin "len") [Value.ref _]) _ _ _); k_dflt (refine' len_any ?k1 ?k2 ?k3 ?k4 ?_; (case k1 => k_asm); (case k2 => k_mem); (case k3 => with_reducible assumption); (case k4 => omega)); (try dsimp only)))
local macro_rules | `(tactic| walk_at "call ref") => `(tactic| (k_here; (with_reducible show wpAny _ _ (call (Value.ref _) [Value.ref _, Value.int _ _, Value.int _ _]) _ _ _); (rename (∀ (_ _ : Int), ReckC _ _ _ _ _ _ _) => hR'); k_dflt (refine' CC.use (hR' _ _ _ _ _ _ _ _ _ _ ?h1 ?hs ?h2 ?hok ?h3 ?h4 ?h5 ?h6) ?k1 ?k2 ?k3 ?k4 ?k5 ?kK ?kd ?ku ?_; (case k1 => k_asm); (case k2 => k_asm); (case k3 => k_asm); (case k4 => k_asm); (case k5 => k_asm); (case kK => first | exact rfl | assumption); (case kd => ktr_room); (case ku => ktr_units); (case h1 => k_mem); (case h2 => with_reducible assumption); (case hs => kcf_all); (case hok => with_reducible assumption); (case h3 => with_reducible assumption); (case h4 => omega); (case h5 => omega); (case h6 => omega)); intro tl' a' t' u' c' h' tk' F' N' hlt' hm0' hm'; (try dsimp only); (try k_sweep); walk_say "RECK"))

def BothC (w : World) (f : Addr) (g : List Pt → Nat → Nat → Pt) (Ok : List Pt → Prop) : Prop := ∀ (news : List (Addr × Obj)) (ra : Addr) (c : Nat) (vs : List Value) (ps : List Pt), (ra, listOf vs.toArray c) ∈ news → PtsIn news vs ps → Ok ps → 0 < ps.length → ps.length ≤ 5 →
  CC w 69 [.ref ra, .ref f] news 7 (PairR (bothF ps.length (g ps)) (bothS ps.length (g ps)) news)

theorem off3_app {I C D : Addr} {a b : List (Addr × Obj)} (h : ∀ p ∈ a, p.1 ≠ I ∧ p.1 ≠ C ∧ p.1 ≠ D) (k : LCg.Off3 I C D b) : LCg.Off3 I C D (a ++ b) := by
  induction a with
  | nil => exact k
  | cons q r ih => exact ⟨h q (.head _), ih fun p hp => h p (.tail _ hp)⟩
theorem comp_end_reck {h₀ h' : Heap} {L : Addr} {m : Str → Option Value} {s : Shared} {S : List (Addr × Obj) → Prop} {I C D a : Addr} {oI oC oD : Obj} {base sub pts tl : List (Addr × Obj)} {tgt : List Pt} {i tk' c : Nat} {ys : List Value} {p : Pt} {t u : Tok}
    (F : Fr h₀ L h' m) (N : News h₀ L h' (tl ++ ((I, oI) :: (C, oC) :: (D, oD) :: (pts ++ base)))) (hlt : ∀ x ∈ tl, ∀ q ∈ (I, oI) :: (C, oC) :: (D, oD) :: (pts ++ base), q.1 < x.1) (off : LCg.Off3 I C D (pts ++ base)) (hS : S (tl ++ (pts ++ base)))
    (hl : ∀ p ∈ pts, ∀ q ∈ base, @LT.lt Nat _ q.1 p.1) (P : PtsIn (pts ++ sub) ys (tgt.take i)) (hp : tgt[i]? = some p) (hm : (a, tupO [.int p.1 t, .int p.2 u] c) ∈ tl ++ sub) :
    LCg.CompEnd h₀ L m s I oI C oC D oD S (fun y nw' => CJ base sub tgt (i + 1) (ys ++ [y]) nw') (.ref a) { s with heap := h', toks := tk' } := by
  refine LCg.CompEnd.intro F N (tl ++ (pts ++ base)) (fun x hx => ?_) (off3_app (fun x hx => ⟨Nat.ne_of_gt (hlt x hx _ (.head _)), Nat.ne_of_gt (hlt x hx _ (.tail _ (.head _))), Nat.ne_of_gt (hlt x hx _ (.tail _ (.tail _ (.head _))))⟩) off) hS ?_
  · rcases List.mem_cons.mp hx with rfl | hx
    · exact List.mem_append.mpr (.inr (.head _))
    rcases List.mem_cons.mp hx with rfl | hx
    · exact List.mem_append.mpr (.inr (.tail _ (.head _)))
    rcases List.mem_cons.mp hx with rfl | hx
    · exact List.mem_append.mpr (.inr (.tail _ (.tail _ (.head _))))
    rcases List.mem_append.mp hx with hx | hx
    · exact List.mem_append.mpr (.inl hx)
    · exact List.mem_append.mpr (.inr (.tail _ (.tail _ (.tail _ hx))))
  · refine CJ.step (tl := tl) hl P (fun x hx q hq => hlt x hx q (.tail _ (.tail _ (.tail _ (List.mem_append.mpr (.inr hq)))))) hp ⟨a, t, u, c, rfl, ?_⟩
    rcases List.mem_append.mp hm with hm | hm
    · exact List.mem_append.mpr (.inl hm)
    · exact List.mem_append.mpr (.inr (List.mem_append.mpr (.inr hm)))
theorem both_end {h₀ h' : Heap} {L r f g : Addr} {m : Str → Option Value} {s : Shared} {Q : Value → Shared → Prop} {news big n1 n2 : List (Addr × Obj)} {p1 p2 : List Pt} {tk' c cf cg : Nat} {fs gs : List Value} (hret : PairR p1 p2 news h₀ L m s Q) (F : Fr h₀ L h' m) (N : News h₀ L h' big)
    (hr : (r, tupO [Value.ref f, Value.ref g] c) ∈ big) (hf : (f, tupO fs cf) ∈ big) (hg : (g, tupO gs cg) ∈ big) (P1 : PtsIn n1 fs p1) (P2 : PtsIn n2 gs p2) (s1 : ∀ p ∈ n1, p ∈ big) (s2 : ∀ p ∈ n2, p ∈ big) (hs : ∀ p ∈ news, p ∈ big) : Q (.ref r) { s with heap := h', toks := tk' } :=
  hret big r f g c cf cg fs gs h' tk' F (fun p hp => (List.mem_append.mp hp).elim (N p) fun h => N p (hs p h)) (List.mem_append.mpr (.inl hr)) (List.mem_append.mpr (.inl hf)) (List.mem_append.mpr (.inl hg)) (P1.mono fun p hp => List.mem_append.mpr (.inl (s1 p hp))) (P2.mono fun p hp => List.mem_append.mpr (.inl (s2 p hp))) 
theorem bothF_get {n i : Nat} {g : Nat → Nat → Pt} (h : i < n) : (bothF n g)[i]? = some (g 0 i) := by simp [bothF, h]
theorem bothS_get {n i : Nat} {g : Nat → Nat → Pt} (h : i < n) : (bothS n g)[i]? = some (g i (n - 1 - i)) := by simp [bothS, h]
theorem bothF_len {n : Nat} {g : Nat → Nat → Pt} : (bothF n g).length = n := by simp [bothF]
theorem bothS_len {n : Nat} {g : Nat → Nat → Pt} : (bothS n g).length = n := by simp [bothS]

set_option maxRecDepth 100000 in
set_option maxHeartbeats 1000000 in
theorem bothM (w : World) : BothC w 54 midAt (fun _ => True) := by
  unfold BothC CC
  w_top off
  k_fill
  intro news ra c vs ps hm P hok h0 h5 mean mg mb dp un gd cn cs a ccd cl outer A₀ base h₀ L m s Q E B F X N T hk hd hu hret
  have hR : ∀ i lv : Int, ReckC w 54 midAt (fun _ => True) i lv 6 := lmidC w
  have hvl : (vs.length : Int) = (ps.length : Int) := by rw [P.length]
  refine wpAny_call ?_
  k_dflt (refine' code_defC ?k1 ?k2 ?k3 ?k4 ?k5 ?kA ?kF ?kK ?k6 ?k7 ?k8 ?k9 ?kB ?kD ?_ ?c2 ?c3 ?c4; (case kA => exact rfl); (case kF => exact rfl); (case kK => assumption); (case k1 => k_asm); (case k2 => k_asm); (case k3 => k_asm); (case k4 => k_asm); (case k5 => k_asm); (case k6 => k_is); (case k7 => k_is); (case k8 => ktr_room); (case k9 => exact BindsTo.of_eq rfl); (case kB => exact rfl); (case kD => decide +kernel); (case c2 => exact rfl); (case c3 => exact rfl); (case c4 => exact rfl); k_whole)
  intro g' L' h' tk' cells' FG' F' N' Y' B' X' T' l1
  k_cells Y'
  (try simp only [List.cons_append, List.nil_append] at N')
  (try dsimp only)
  (try k_fold)
  k_steps
  unfold Stop
  (rename IsRange _ _ _ _ _ _ _ _ => hI1); (rename News _ _ _ _ => NN1); (rename Fr _ _ _ _ => FF1)
  refine LCg.CompSrc.range (by rfl) FF1 NN1 hI1 (small_one (by omega) (by omega) (by omega) (by omega)) (rangeSize_nat _ _) (by rw [sizeLine_eq]; omega) ?_
  intro g1
  refine comp_inv (CJ _ news (bothF ps.length (midAt ps))) (CJ.start _ _ _) ?turn1 ?fin1
  case turn1 =>
    intro i ys nw v I oI C oC D m₂ h tk E' hi hJ hv hC' hx F N off ne
    obtain ⟨pts, rfl, hlt, hP⟩ := hJ
    obtain ⟨t, rfl⟩ := hv
    try k_fold
    k_steps
    refine comp_end_reck (p := midAt ps (0 : Int).toNat (0 + (i : Int)).toNat) (by assumption) (by assumption) (by assumption) off trivial hlt hP ?_ (by assumption)
    have e1 : (0 + (i : Int)).toNat = i := by omega
    rw [e1]
    exact bothF_get (by omega)
  case fin1 =>
    intro ys nw hJ
    obtain ⟨pts, rfl, hlt, hP⟩ := hJ
    have hP1 : PtsIn (pts ++ news) ys (bothF ps.length (midAt ps)) := by rw [List.take_of_length_le (by rw [bothF_len]; omega)] at hP; exact hP
    have hy5 : ys.length ≤ 5 := by rw [hP1.length, bothF_len]; exact h5
    unfold LCg.FinE
    intro D h tk F N off
    clear hP NN1 FF1
    try k_fold
    k_steps
    unfold Stop
    (rename IsRange _ _ _ _ _ _ _ _ => hI2); (rename News _ _ _ _ => NN2); (rename Fr _ _ _ _ => FF2)
    refine LCg.CompSrc.range (by rfl) FF2 NN2 hI2 (small_one (by omega) (by omega) (by omega) (by omega)) (rangeSize_nat _ _) (by rw [sizeLine_eq]; omega) ?_
    intro g2
    refine comp_inv (CJ _ news (bothS ps.length (midAt ps))) (CJ.start _ _ _) ?turn2 ?fin2
    case turn2 =>
      intro i zs nw v I oI C oC D m₂ h tk E' hi hJ hv hC' hx F N off ne
      obtain ⟨qts, rfl, hlt2, hP2⟩ := hJ
      obtain ⟨t, rfl⟩ := hv
      try k_fold
      k_steps
      refine comp_end_reck (p := midAt ps (0 + (i : Int)).toNat ((ps.length : Int) - 1 - (0 + (i : Int))).toNat) (by assumption) (by assumption) (by assumption) off trivial hlt2 hP2 ?_ (by assumption)
      have e1 : (0 + (i : Int)).toNat = i := by omega
      have e2 : ((ps.length : Int) - 1 - (0 + (i : Int))).toNat = ps.length - 1 - i := by omega
      rw [e1, e2]
      exact bothS_get (by omega)
    case fin2 =>
      intro zs nw hJ
      obtain ⟨qts, rfl, hlt2, hP2⟩ := hJ
      have hP3 : PtsIn (qts ++ news) zs (bothS ps.length (midAt ps)) := by rw [List.take_of_length_le (by rw [bothS_len]; omega)] at hP2; exact hP2
      have hz5 : zs.length ≤ 5 := by rw [hP3.length, bothS_len]; exact h5
      unfold LCg.FinE
      intro D h tk F N off
      clear hP2 NN2 FF2
      try k_fold
      k_steps
      exact both_end (cf := 0) hret (by assumption) (by assumption) (.head _) (by k_mem) (.tail _ (.head _)) hP1 hP3 (by kcf_all) (by kcf_all) (by kcf_all)
end Mine

namespace Mine
local macro_rules | `(tactic| walk_at "Pad") => `(tactic| skip)
local macro_rules | `(tactic| walk_at "Pad") => `(tactic| skip)
local macro_rules | `(tactic| walk_at "Pad") => `(tactic| skip)
local macro_rules | `(tactic| walk_at "Pad") => `(tactic| skip)
local macro_rules | `(tactic| walk_at "Pad") => `(tactic| skip)
local macro_rules | `(tactic| walk_at "Pad") => `(tactic| skip)
local macro_rules | `(tactic| walk_at "Pad") => `(tactic| skip)
local macro_rules | `(tactic| walk_at "Pad") => `(tactic| skip)
local macro_rules | `(tactic| walk_at "Pad") => `(tactic| skip)
local macro_rules | `(tactic| walk_at "Pad") => `(tactic| skip)
local macro_rules | `(tactic| walk_at "Pad") => `(tactic| skip)
local macro_rules | `(tactic| walk_at "Pad") => `(tactic| skip)
local macro_rules | `(tactic| walk_at "Pad") => `(tactic| skip)
local macro_rules | `(tactic| walk_at "Pad") => `(tactic| skip)
local macro_rules | `(tactic| walk_at "Pad") => `(tactic| skip)
local macro_rules | `(tactic| walk_at "Pad") => `(tactic| skip)
local macro_rules | `(tactic| walk_at "Pad") => `(tactic| skip)
local macro_rules | `(tactic| walk_at "Pad") => `(tactic| skip)
local macro_rules | `(tactic| walk_at "Pad") => `(tactic| skip)
local macro_rules | `(tactic| walk_at "Pad") => `(tactic| skip)
local macro_rules | `(tactic| walk_at "Pad") => `(tactic| skip)
local macro_rules | `(tactic| walk_at "Pad") => `(tactic| skip)
local macro_rules | `(tactic| walk_at "Pad") => `(tactic| skip)
local macro_rules | `(tactic| walk_at "Pad") => `(tactic| skip)
local macro_rules | `(tactic| walk_at "Pad") => `(tactic| skip)
local macro_rules | `(tactic| walk_at "Pad") => `(tactic| skip)
local macro_rules | `(tactic| walk_at "Pad") => `(tactic| skip)
local macro_rules | `(tactic| walk_at "Pad") => `(tactic| skip)
local macro_rules | `(tactic| walk_at "Pad") => `(tactic| skip)
local macro_rules | `(tactic| walk_at "Pad") => `(tactic| skip)
local macro_rules | `(tactic| walk_at "Pad") => `(tactic| skip)
theorem add_ints {prog : Program} {w : World} {A : Around} {E : Value → Shared → Prop} {s : Shared} {h₀ : Heap} {L l b : Addr} {m : Str → Option Value} {news : List (Addr × Obj)} {xs ys : List Value} {ns ms : List Int} {c1 c2 : Nat} {Q : Value → Shared → Prop} (F : Fr h₀ L s.heap m) (N : News h₀ L s.heap news)
    (m1 : (l, listOf xs.toArray c1) ∈ news) (m2 : (b, listOf ys.toArray c2) ∈ news) (hx : IntsAre xs ns) (hy : IntsAre ys ms) (hz : ns.length + ms.length ≤ 100)
    (h : ∀ D h', Fr h₀ L h' m → News h₀ L h' ((D, listOf (xs ++ ys).toArray 0) :: news) → (∀ q ∈ news, q.1 < D) → IntsAre (xs ++ ys) (ns ++ ms) → Q (.ref D) { s with heap := h' }) : wpAny (model prog w) A (binaryOp .Add (.ref l) (.ref b)) Q E s :=
  add_arrays_ints F N (N.isList m1) (N.isList m2) hx hy (fun h' F' N' hi => h _ h' F' N' (fun q hq => Heap.lt_size (N q hq).1) hi) (by rw [sizeLine_eq]; omega)
local macro_rules | `(tactic| k_mem) => `(tactic| first | with_reducible assumption | exact List.mem_cons_self | (refine List.mem_cons_of_mem _ ?_; k_mem) | (refine List.mem_append.mpr (Or.inr ?_); k_mem) | (refine List.mem_append.mpr (Or.inl ?_); k_mem))
local macro_rules | `(tactic| walk_at "binaryOp Add ref ref") => `(tactic| (k_here; k_dflt (refine' add_ints ?k1 ?k2 ?k3 ?k4 ?k5 ?k6 ?k7 ?_; (case k1 => k_asm); (case k2 => k_asm); (case k3 => k_mem); (case k4 => k_mem); (case k5 => first | with_reducible assumption | exact IntsAre.cons _ _ IntsAre.nil); (case k6 => first | with_reducible assumption | exact IntsAre.cons _ _ IntsAre.nil); (case k7 => decide)); intro D' h' F' N' l1 hI'; (try k_lt l1); (try k_sweep); walk_say "ADDINTS"))
local macro_rules | `(tactic| walk_at "exec Assign cons ListComp") => `(tactic| (k_here; k_dflt (refine zip_comp_assign (F₀ := by k_asm) (by rfl) (by with_unfolding_all rfl) (by rfl) (by decide) (by rfl) (by decide) (by rfl) (by rfl) (by decide) (by rfl) (by rfl) ?_); walk_say "ZIPCOMP"))
local macro_rules | `(tactic| walk_at "call type:zip") => `(tactic| (k_here; k_dflt (refine' zsrc_call (fun x y => x + y) ?k0 ?k1 ?k2 ?k3 ?k4 ?k5 ?k6 ?k7 ?_ ?_; (case k0 => exact rfl); (case k1 => k_asm); (case k2 => k_asm); (case k3 => k_mem); (case k4 => k_mem); (case k5 => first | with_reducible assumption | assumption); (case k6 => first | with_reducible assumption | assumption); (case k7 => decide)); walk_say "ZIPCALL"))

theorem unr_end1 {h₀ : Heap} {L I D : Addr} {it o : Obj} {rest : (Str → Option Value) → List (Addr × Obj) → Prop} {s₁ : Shared} {h' : Heap} {tk : Nat} {m' : Str → Option Value} {big tail : List (Addr × Obj)} {a : Prop} (F : Fr h₀ L h' m') (N : News h₀ L h' ((D, o) :: big)) (hA : a ∧ AllLt I tail)
    (hI : (I, it) ∈ (D, o) :: big) (hs : ∀ p ∈ tail, p ∈ big) (ho : @Ne Nat D I) (r : rest m' ((D, o) :: tail)) : UnrEnd h₀ L s₁ I it rest { s₁ with heap := h', toks := tk } := by
  refine UnrEnd.intro F N ((D, o) :: tail) (fun p hp => ?_) (fun p hp => ?_) r
  · rcases List.mem_cons.mp hp with rfl | hp
    · exact hI
    rcases List.mem_cons.mp hp with rfl | hp
    · exact .head _
    · exact .tail _ (hs p hp)
  · rcases List.mem_cons.mp hp with rfl | hp
    · exact ho
    · exact Nat.ne_of_lt (ktn_ltOf hA.2 p hp)
local macro_rules | `(tactic| walk_at "UnrEnd") => `(tactic| (refine unr_end1 (by assumption) (by assumption) (by with_reducible assumption) (by k_mem) ?hs ?ho ?_; (case hs => kcf_all); (case ho => omega); walk_say "UNREND"))
def WaysC (w : World) (k : Int) (ns : List Int) : Prop := ∀ (news : List (Addr × Obj)) (t : Tok), CC w 59 [.int k t] news 1 (fun h₀ L m s Q => ∀ (r : Addr) (vs : List Value) (c : Nat) (h' : Heap) (tk' : Nat), Fr h₀ L h' m → News h₀ L h' ((r, listOf vs.toArray c) :: news) → (∀ p ∈ news, @Ne Nat p.1 r) → IntsAre vs ns → Q (.ref r) { s with heap := h', toks := tk' })

theorem off_six {a b c d e f : Prop} {D : Addr} {l : List (Addr × Obj)} (h : a ∧ b ∧ c ∧ d ∧ e ∧ f ∧ LCg.Off1 D l) : ∀ p ∈ l, @Ne Nat p.1 D := by
  have x := h.2.2.2.2.2.2
  clear h
  induction l with
  | nil => intro p hp; cases hp
  | cons q r ih =>
    intro p hp
    rcases List.mem_cons.mp hp with e | hp
    · rw [e]; exact x.1
    · exact ih x.2 p hp
theorem lt_ne {D : Addr} {l : List (Addr × Obj)} (h : ∀ p ∈ l, p.1 < D) : ∀ p ∈ l, @Ne Nat p.1 D := fun p hp => Nat.ne_of_lt (h p hp)
set_option maxRecDepth 100000 in
set_option maxHeartbeats 2000000 in
theorem ways0 (w : World) : WaysC w 0 [1] := by
  unfold WaysC CC
  w_top off
  k_fill
  intro news t mean mg mb dp un gd cn cs a ccd cl outer A₀ base h₀ L m s Q E B F X N T hk hd hu hret
  refine wpAny_call ?_
  k_dflt cell_enter
  k_steps
  all_goals exact hret _ _ _ _ _ (by assumption) (by assumption) (lt_ne (by assumption)) (.cons _ _ .nil)
set_option maxRecDepth 100000 in
set_option maxHeartbeats 2000000 in
theorem ways1 (w : World) : WaysC w 1 [1, 1] := by
  unfold WaysC CC
  w_top off
  k_fill
  intro news t mean mg mb dp un gd cn cs a ccd cl outer A₀ base h₀ L m s Q E B F X N T hk hd hu hret
  refine wpAny_call ?_
  k_dflt cell_enter
  k_steps
  all_goals exact hret _ _ _ _ _ (by assumption) (by assumption) (off_six (by assumption)) (by assumption)
set_option maxRecDepth 100000 in
set_option maxHeartbeats 2000000 in
theorem ways2 (w : World) : WaysC w 2 [1, 2, 1] := by
  unfold WaysC CC
  w_top off
  k_fill
  intro news t mean mg mb dp un gd cn cs a ccd cl outer A₀ base h₀ L m s Q E B F X N T hk hd hu hret
  refine wpAny_call ?_
  k_dflt cell_enter
  k_steps
  all_goals exact hret _ _ _ _ _ (by assumption) (by assumption) (off_six (by assumption)) (by assumption)
set_option maxRecDepth 100000 in
set_option maxHeartbeats 2000000 in
theorem ways3 (w : World) : WaysC w 3 [1, 3, 3, 1] := by
  unfold WaysC CC
  w_top off
  k_fill
  intro news t mean mg mb dp un gd cn cs a ccd cl outer A₀ base h₀ L m s Q E B F X N T hk hd hu hret
  refine wpAny_call ?_
  k_dflt cell_enter
  k_steps
  all_goals exact hret _ _ _ _ _ (by assumption) (by assumption) (off_six (by assumption)) (by assumption)
set_option maxRecDepth 100000 in
set_option maxHeartbeats 2000000 in
theorem ways4 (w : World) : WaysC w 4 [1, 4, 6, 4, 1] := by
  unfold WaysC CC
  w_top off
  k_fill
  intro news t mean mg mb dp un gd cn cs a ccd cl outer A₀ base h₀ L m s Q E B F X N T hk hd hu hret
  refine wpAny_call ?_
  k_dflt cell_enter
  k_steps
  all_goals exact hret _ _ _ _ _ (by assumption) (by assumption) (off_six (by assumption)) (by assumption)
end Mine

namespace Mine
local macro_rules | `(tactic| walk_at "Pad") => `(tactic| skip)
local macro_rules | `(tactic| walk_at "Pad") => `(tactic| skip)
local macro_rules | `(tactic| walk_at "Pad") => `(tactic| skip)
local macro_rules | `(tactic| walk_at "Pad") => `(tactic| skip)
local macro_rules | `(tactic| walk_at "Pad") => `(tactic| skip)
local macro_rules | `(tactic| walk_at "Pad") => `(tactic| skip)
local macro_rules | `(tactic| walk_at "Pad") => `(tactic| skip)
local macro_rules | `(tactic| walk_at "Pad") => `(tactic| skip)
local macro_rules | `(tactic| walk_at "Pad") => `(tactic| skip)
local macro_rules | `(tactic| walk_at "Pad") => `(tactic| skip)
local macro_rules | `(tactic| walk_at "Pad") => `(tactic| skip)
local macro_rules | `(tactic| walk_at "Pad") => `(tactic| skip)
local macro_rules | `(tactic| walk_at "Pad") => `(tactic| skip)
local macro_rules | `(tactic| walk_at "Pad") => `(tactic| skip)
local macro_rules | `(tactic| walk_at "Pad") => `(tactic| skip)
local macro_rules | `(tactic| walk_at "Pad") => `(tactic| skip)
local macro_rules | `(tactic| walk_at "Pad") => `(tactic| skip)
local macro_rules | `(tactic| walk_at "Pad") => `(tactic| skip)
local macro_rules | `(tactic| walk_at "Pad") => `(tactic| skip)
local macro_rules | `(tactic| walk_at "Pad") => `(tactic| skip)
local macro_rules | `(tactic| walk_at "Pad") => `(tactic| skip)
local macro_rules | `(tactic| walk_at "Pad") => `(tactic| skip)
local macro_rules | `(tactic| walk_at "Pad") => `(tactic| skip)
local macro_rules | `(tactic| walk_at "Pad") => `(tactic| skip)
local macro_rules | `(tactic| walk_at "Pad") => `(tactic| skip)
local macro_rules | `(tactic| walk_at "Pad") => `(tactic| skip)
local macro_rules | `(tactic| walk_at "Pad") => `(tactic| skip)
local macro_rules | `(tactic| walk_at "Pad") => `(tactic| skip)
local macro_rules | `(tactic| walk_at "Pad") => `(tactic| skip)
local macro_rules | `(tactic| walk_at "Pad") => `(tactic| skip)
local macro_rules | `(tactic| walk_at "Pad") => `(tactic| skip)
local macro_rules | `(tactic| walk_at "Pad") => `(tactic| skip)
local macro_rules | `(tactic| walk_at "Pad") => `(tactic| skip)
local macro_rules | `(tactic| walk_at "Pad") => `(tactic| skip)
local macro_rules | `(tactic| walk_at "Pad") => `(tactic| skip)
local macro_rules | `(tactic| walk_at "Pad") => `(tactic| skip)
local macro_rules | `(tactic| k_all) => `(tactic| first | (with_reducible assumption) | exact ne_far (by with_reducible assumption) (by omega))
local macro_rules | `(tactic| k_mem) => `(tactic| first | with_reducible assumption | exact List.mem_cons_self | (refine List.mem_cons_of_mem _ ?_; k_mem) | (refine List.mem_append.mpr (Or.inr ?_); k_mem) | (refine List.mem_append.mpr (Or.inl ?_); k_mem))
local macro_rules | `(tactic| walk_at "CompSrc") => `(tactic| refine Stop.of ?_)
def wrow : Nat → List Int
  | 0 => [1]
  | 1 => [1, 1]
  | 2 => [1, 2, 1]
  | 3 => [1, 3, 3, 1]
  | _ => [1, 4, 6, 4, 1]
theorem waysAll (w : World) (k : Int) (h0 : 0 ≤ k) (h4 : k ≤ 4) : WaysC w k (wrow k.toNat) := by
  have h : k = 0 ∨ k = 1 ∨ k = 2 ∨ k = 3 ∨ k = 4 := by omega
  rcases h with rfl | rfl | rfl | rfl | rfl
  · exact ways0 w
  · exact ways1 w
  · exact ways2 w
  · exact ways3 w
  · exact ways4 w
theorem wrow_len (n : Nat) (h : n ≤ 4) : (wrow n).length = n + 1 := by
  match n, h with
  | 0, _ => rfl
  | 1, _ => rfl
  | 2, _ => rfl
  | 3, _ => rfl
  | 4, _ => rfl
  | n + 5, h => omega
def BdP (ps : List Pt) : Prop := ∀ p ∈ ps, -1099511627776 ≤ p.1 ∧ p.1 ≤ 1099511627776 ∧ -1099511627776 ≤ p.2 ∧ p.2 ≤ 1099511627776
theorem bd_get {ps : List Pt} (h : BdP ps) (n : Nat) : -1099511627776 ≤ (ps.getD n (0, 0)).1 ∧ (ps.getD n (0, 0)).1 ≤ 1099511627776 ∧ -1099511627776 ≤ (ps.getD n (0, 0)).2 ∧ (ps.getD n (0, 0)).2 ≤ 1099511627776 := by
  by_cases hn : n < ps.length
  · rw [List.getD_eq_getElem?_getD, List.getElem?_eq_getElem hn]
    exact h _ (List.getElem_mem hn)
  · rw [List.getD_eq_getElem?_getD, List.getElem?_eq_none (by omega)]
    simp
theorem bd_mul1 {ps : List Pt} (h : BdP ps) {n : Nat} {x : Int} : IntMulOk x (ps.getD n (0, 0)).1 := by
  have := bd_get h n
  exact PySem.IntMulOk.of_right (PySem.intBits_le_64 (by omega) (by omega))
theorem bd_mul2 {ps : List Pt} (h : BdP ps) {n : Nat} {x : Int} : IntMulOk x (ps.getD n (0, 0)).2 := by
  have := bd_get h n
  exact PySem.IntMulOk.of_right (PySem.intBits_le_64 (by omega) (by omega))
theorem pow_mul {k x : Int} (h0 : 0 ≤ k) (h4 : k ≤ 4) : IntMulOk x (2 ^ (4 - k).toNat) := by
  have h : k = 0 ∨ k = 1 ∨ k = 2 ∨ k = 3 ∨ k = 4 := by omega
  rcases h with rfl | rfl | rfl | rfl | rfl <;> exact PySem.IntMulOk.of_right (by decide)
def wsum (f : Pt → Int) (ps : List Pt) (i lv : Nat) : List Int := (List.range (lv + 1)).map fun k => (wrow lv).getD k 0 * f (ps.getD (i + k) (0, 0))
theorem wsum_get {f : Pt → Int} {ps : List Pt} {i lv j : Nat} (h : j < lv + 1) : (wsum f ps i lv)[j]? = some ((wrow lv).getD j 0 * f (ps.getD (i + j) (0, 0))) := by simp [wsum, h]
theorem wsum_len {f : Pt → Int} {ps : List Pt} {i lv : Nat} : (wsum f ps i lv).length = lv + 1 := by simp [wsum]
theorem wsum1 (ps : List Pt) (i lv : Nat) (h : lv ≤ 4) : (wsum Prod.fst ps i lv).sum = (sumAt ps i lv).1 := by
  match lv, h with
  | 0, _ => simp [wsum, wrow, sumAt, List.range_succ]
  | 1, _ => simp [wsum, wrow, sumAt, List.range_succ]
  | 2, _ => simp [wsum, wrow, sumAt, List.range_succ, Nat.add_assoc]; omega
  | 3, _ => simp [wsum, wrow, sumAt, List.range_succ, Nat.add_assoc]; omega
  | 4, _ => simp [wsum, wrow, sumAt, List.range_succ, Nat.add_assoc]; omega
  | n + 5, h => omega
theorem wsum2 (ps : List Pt) (i lv : Nat) (h : lv ≤ 4) : (wsum Prod.snd ps i lv).sum = (sumAt ps i lv).2 := by
  match lv, h with
  | 0, _ => simp [wsum, wrow, sumAt, List.range_succ]
  | 1, _ => simp [wsum, wrow, sumAt, List.range_succ]
  | 2, _ => simp [wsum, wrow, sumAt, List.range_succ, Nat.add_assoc]; omega
  | 3, _ => simp [wsum, wrow, sumAt, List.range_succ, Nat.add_assoc]; omega
  | 4, _ => simp [wsum, wrow, sumAt, List.range_succ, Nat.add_assoc]; omega
  | n + 5, h => omega
theorem int_item {prog : Program} {w : World} {A : Around} {E : Value → Shared → Prop} {s : Shared} {value slice : PySem.Expr} {h₀ : Heap} {L l : Addr} {news : List (Addr × Obj)} {vs : List Value} {ns : List Int} {c : Nat} {k : Int} {u : Tok} {Q : Value → Shared → Prop}
    (N : News h₀ L s.heap news) (hm : (l, listOf vs.toArray c) ∈ news) (hi : IntsAre vs ns) (h0 : 0 ≤ k) (h1 : k < ns.length) (h5 : ns.length ≤ 5) (h : ∀ t, Q (.int (ns.getD k.toNat 0) t) s)
    (hs : subscripted slice false (.ref l) (.int k u) = operate [.ref l, .int k u] (getItem (.ref l) (.int k u)) := by with_unfolding_all rfl) :
    wpAny (model prog w) A (subscriptTail value slice (.ref l) (.int k u)) Q E s := ksa_sub N hm hi h0 h1 (by omega) h hs
local macro_rules | `(tactic| walk_at "subscriptTail") => `(tactic| (k_here; (with_reducible show wpAny _ _ (subscriptTail _ _ (Value.ref _) (Value.int _ _)) _ _ _); (with_unfolding_all refine' pt_item ?k1 ?k2 ?k3 ?k4 ?k5 ?k6 ?_ ?k7); (case k1 => k_asm); (case k2 => k_mem); (case k3 => with_reducible assumption); (case k4 => omega); (case k5 => omega); (case k6 => omega); (case k7 => with_unfolding_all rfl); intro a' t' u' c' hm'; walk_say "PTITEM"))
local macro_rules | `(tactic| walk_at "subscriptTail") => `(tactic| (k_here; (with_reducible show wpAny _ _ (subscriptTail _ _ (Value.ref _) (Value.int _ _)) _ _ _); (with_unfolding_all refine' int_item ?k1 ?k2 ?k3 ?k4 ?k5 ?k6 ?_ ?k7); (case k1 => k_asm); (case k2 => k_mem); (case k3 => with_reducible assumption); (case k4 => omega); (case k5 => omega); (case k6 => omega); (case k7 => with_unfolding_all rfl); intro t'; walk_say "INTITEM"))
local macro_rules | `(tactic| walk_at "call ref") => `(tactic| (k_here; (with_reducible show wpAny _ _ (call (Value.ref 59) [Value.int _ _]) _ _ _); k_dflt (refine' CC.use (waysAll _ _ ?h1 ?h2 _ _) ?k1 ?k2 ?k3 ?k4 ?k5 ?kK ?kd ?ku ?_; (case k1 => k_asm); (case k2 => k_asm); (case k3 => k_asm); (case k4 => k_asm); (case k5 => k_asm); (case kK => first | exact rfl | assumption); (case kd => ktr_room); (case ku => ktr_units); (case h1 => omega); (case h2 => omega)); intro r' vs' c' h' tk' F' N' hne' hI'; (try simp only [List.forall_mem_cons] at hne'); (try dsimp only); (try k_sweep); walk_say "WAYS"))
local macro_rules | `(tactic| walk_at "binaryOp Mult int int") => `(tactic| first | (with_reducible refine mul_int ?_ (bd_mul1 (by assumption))) | (with_reducible refine mul_int ?_ (bd_mul2 (by assumption))) | (with_reducible refine mul_int ?_ (pow_mul (by omega) (by omega))))

def JI (base : List (Addr × Obj)) (tgt : List Int) (i : Nat) (ys : List Value) (nw : List (Addr × Obj)) : Prop := nw = base ∧ IntsAre ys (tgt.take i)
theorem JI.start (base : List (Addr × Obj)) (tgt : List Int) : JI base tgt 0 [] base := ⟨rfl, by rw [List.take_zero]; exact .nil⟩
theorem comp_end_int {h₀ h' : Heap} {L : Addr} {m : Str → Option Value} {s : Shared} {S : List (Addr × Obj) → Prop} {I C D : Addr} {oI oC oD : Obj} {base : List (Addr × Obj)} {tgt : List Int} {i tk' : Nat} {ys : List Value} {r : Int} {t : Tok}
    (F : Fr h₀ L h' m) (N : News h₀ L h' ((I, oI) :: (C, oC) :: (D, oD) :: base)) (off : LCg.Off3 I C D base) (hS : S base) (P : IntsAre ys (tgt.take i)) (hp : tgt[i]? = some r) :
    LCg.CompEnd h₀ L m s I oI C oC D oD S (fun y nw' => JI base tgt (i + 1) (ys ++ [y]) nw') (.int r t) { s with heap := h', toks := tk' } := by
  refine LCg.CompEnd.intro F N base (fun _ h => h) off hS ⟨rfl, ?_⟩
  rw [List.take_add_one, hp]
  exact P.append (.cons r t .nil)

set_option maxRecDepth 100000 in
set_option maxHeartbeats 2000000 in
theorem shareC (w : World) (i lv : Int) : ReckC w 64 shareAt BdP i lv 6 := by
  unfold ReckC CC
  w_top off
  k_fill
  intro news sub ra c vs ps ti tl hm hsu P hok h5 hi hl hn mean mg mb dp un gd cn cs a ccd cl outer A₀ base h₀ L m s Q E B F X N T hk hd hu hret
  have P2 : PtsIn news vs ps := P.mono hsu
  have hwl : (wrow lv.toNat).length = lv.toNat + 1 := wrow_len _ (by omega)
  clear P
  refine wpAny_call ?_
  k_dflt (refine' code_defC ?k1 ?k2 ?k3 ?k4 ?k5 ?kA ?kF ?kK ?k6 ?k7 ?k8 ?k9 ?kB ?kD ?_ ?c2 ?c3 ?c4; (case kA => exact rfl); (case kF => exact rfl); (case kK => assumption); (case k1 => k_asm); (case k2 => k_asm); (case k3 => k_asm); (case k4 => k_asm); (case k5 => k_asm); (case k6 => k_is); (case k7 => k_is); (case k8 => ktr_room); (case k9 => exact BindsTo.of_eq rfl); (case kB => exact rfl); (case kD => decide +kernel); (case c2 => exact rfl); (case c3 => exact rfl); (case c4 => exact rfl); k_whole)
  intro g' L' h' tk' cells' FG' F' N' Y' B' X' T' l1
  k_cells Y'
  (try simp only [List.cons_append, List.nil_append] at N')
  (try dsimp only)
  (try k_fold)
  k_steps
  unfold Stop
  (rename IsRange _ _ _ _ _ _ _ _ => hI1); (rename News _ _ _ _ => NN1); (rename Fr _ _ _ _ => FF1)
  refine LCg.CompSrc.range (by rfl) FF1 NN1 hI1 (small_one (by omega) (by omega) (by omega) (by omega)) (rangeSize_nat _ _) (by rw [sizeLine_eq]; omega) ?_
  intro g1
  refine comp_inv (JI _ (wsum Prod.fst ps i.toNat lv.toNat)) (JI.start _ _) ?turn1 ?fin1
  case turn1 =>
    intro j ys nw v I oI C oC D m₂ h tk E' hj hJ hv hC' hx F N off ne
    obtain ⟨rfl, hP⟩ := hJ
    obtain ⟨t, rfl⟩ := hv
    try k_fold
    k_steps
    refine comp_end_int (by assumption) (by assumption) off trivial hP ?_
    have e1 : (0 + (j : Int)).toNat = j := by omega
    have e2 : (i + (0 + (j : Int))).toNat = i.toNat + j := by omega
    rw [e1, e2]
    exact wsum_get (by omega)
  case fin1 =>
    intro ys nw hJ
    obtain ⟨rfl, hP⟩ := hJ
    have hP1 : IntsAre ys (wsum Prod.fst ps i.toNat lv.toNat) := by rw [List.take_of_length_le (by rw [wsum_len]; omega)] at hP; exact hP
    unfold LCg.FinE
    intro D h tk F N off
    clear hP NN1 FF1
    try k_fold
    k_steps
    unfold Stop
    (rename IsRange _ _ _ _ _ _ _ _ => hI2); (rename News _ _ _ _ => NN2); (rename Fr _ _ _ _ => FF2)
    refine LCg.CompSrc.range (by rfl) FF2 NN2 hI2 (small_one (by omega) (by omega) (by omega) (by omega)) (rangeSize_nat _ _) (by rw [sizeLine_eq]; omega) ?_
    intro g2
    refine comp_inv (JI _ (wsum Prod.snd ps i.toNat lv.toNat)) (JI.start _ _) ?turn2 ?fin2
    case turn2 =>
      intro j zs nw v I oI C oC D m₂ h tk E' hj hJ hv hC' hx F N off ne
      obtain ⟨rfl, hP⟩ := hJ
      obtain ⟨t, rfl⟩ := hv
      try k_fold
      k_steps
      refine comp_end_int (by assumption) (by assumption) off trivial hP ?_
      have e1 : (0 + (j : Int)).toNat = j := by omega
      have e2 : (i + (0 + (j : Int))).toNat = i.toNat + j := by omega
      rw [e1, e2]
      exact wsum_get (by omega)
    case fin2 =>
      intro zs nw hJ
      obtain ⟨rfl, hP⟩ := hJ
      have hP2 : IntsAre zs (wsum Prod.snd ps i.toNat lv.toNat) := by rw [List.take_of_length_le (by rw [wsum_len]; omega)] at hP; exact hP
      unfold LCg.FinE
      intro D h tk F N off
      clear hP NN2 FF2
      try k_fold
      k_steps
      have eP : (4 - lv).toNat = 4 - lv.toNat := by omega
      refine reck_new hret (by assumption) (by assumption) (by kcf_all) (ktn_ltOf (by assumption)) ?_ ?_
      · rw [wsum1 _ _ _ (by omega), eP]; rfl
      · rw [wsum2 _ _ _ (by omega), eP]; rfl
end Mine

namespace Mine
local macro_rules | `(tactic| walk_at "Pad") => `(tactic| skip)
local macro_rules | `(tactic| walk_at "Pad") => `(tactic| skip)
local macro_rules | `(tactic| walk_at "Pad") => `(tactic| skip)
local macro_rules | `(tactic| walk_at "Pad") => `(tactic| skip)
local macro_rules | `(tactic| walk_at "Pad") => `(tactic| skip)
local macro_rules | `(tactic| walk_at "Pad") => `(tactic| skip)
local macro_rules | `(tactic| walk_at "Pad") => `(tactic| skip)
local macro_rules | `(tactic| walk_at "Pad") => `(tactic| skip)
local macro_rules | `(tactic| walk_at "Pad") => `(tactic| skip)
local macro_rules | `(tactic| walk_at "Pad") => `(tactic| skip)
local macro_rules | `(tactic| walk_at "Pad") => `(tactic| skip)
local macro_rules | `(tactic| walk_at "Pad") => `(tactic| skip)
local macro_rules | `(tactic| walk_at "Pad") => `(tactic| skip)
local macro_rules | `(tactic| walk_at "Pad") => `(tactic| skip)
local macro_rules | `(tactic| walk_at "Pad") => `(tactic| skip)
local macro_rules | `(tactic| walk_at "Pad") => `(tactic| skip)
local macro_rules | `(tactic| walk_at "Pad") => `(tactic| skip)
local macro_rules | `(tactic| walk_at "Pad") => `(tactic| skip)
local macro_rules | `(tactic| walk_at "Pad") => `(tactic| skip)
local macro_rules | `(tactic| walk_at "Pad") => `(tactic| skip)
local macro_rules | `(tactic| walk_at "Pad") => `(tactic| skip)
local macro_rules | `(tactic| walk_at "Pad") => `(tactic| skip)
local macro_rules | `(tactic| walk_at "Pad") => `(tactic| skip)
local macro_rules | `(tactic| walk_at "Pad") => `(tactic| skip)
local macro_rules | `(tactic| walk_at "Pad") => `(tactic| skip)
local macro_rules | `(tactic| walk_at "Pad") => `(tactic| skip)
local macro_rules | `(tactic| walk_at "Pad") => `(tactic| skip)
local macro_rules | `(tactic| walk_at "Pad") => `(tactic| skip)
local macro_rules | `(tactic| walk_at "Pad") => `(tactic| skip)
local macro_rules | `(tactic| walk_at "Pad") => `(tactic| skip)
local macro_rules | `(tactic| walk_at "Pad") => `(tactic| skip)
local macro_rules | `(tactic| walk_at "Pad") => `(tactic| skip)
local macro_rules | `(tactic| walk_at "Pad") => `(tactic| skip)
local macro_rules | `(tactic| walk_at "Pad") => `(tactic| skip)
local macro_rules | `(tactic| walk_at "Pad") => `(tactic| skip)
local macro_rules | `(tactic| walk_at "Pad") => `(tactic| skip)
local macro_rules | `(tactic| walk_at "Pad") => `(tactic| skip)
local macro_rules | `(tactic| walk_at "Pad") => `(tactic| skip)
local macro_rules | `(tactic| walk_at "Pad") => `(tactic| skip)
local macro_rules | `(tactic| walk_at "Pad") => `(tactic| skip)
local macro_rules | `(tactic| walk_at "Pad") => `(tactic| skip)
local macro_rules | `(tactic| walk_at "Pad") => `(tactic| skip)
local macro_rules | `(tactic| k_all) => `(tactic| first | (with_reducible assumption) | exact ne_far (by with_reducible assumption) (by omega))
local macro_rules | `(tactic| k_mem) => `(tactic| first | with_reducible assumption | exact List.mem_cons_self | (refine List.mem_cons_of_mem _ ?_; k_mem) | (refine List.mem_append.mpr (Or.inr ?_); k_mem) | (refine List.mem_append.mpr (Or.inl ?_); k_mem))
local macro_rules | `(tactic| walk_at "call type:tuple") => `(tactic| (k_here; (with_reducible show wpAny _ _ (call (Value.type _) [Value.ref _]) _ _ _); k_dflt (refine' tuple_any ?k1 ?k2 ?k3 ?k4 ?_; (case k1 => k_asm); (case k2 => k_asm); (case k3 => k_mem); (case k4 => first | with_reducible assumption | (simp only [List.length_append, List.length_cons, List.length_nil, List.length_reverse]; omega))); intro D' h' F' N' l1; (try k_lt l1); (try k_sweep); walk_say "TUPLEANY"))
local macro_rules | `(tactic| walk_at "CompSrc") => `(tactic| refine Stop.of ?_)
local macro_rules | `(tactic| walk_at "call builtin:len") => `(tactic| (k_here; (with_reducible show wpAny _ _ (call (Value.builtin "len") [Value.ref _]) _ _ _); k_dflt (refine' len_any ?k1 ?k2 ?k3 ?k4 ?_; (case k1 => k_asm); (case k2 => k_mem); (case k3 => with_reducible assumption); (case k4 => omega)); (try dsimp only)))
local macro_rules | `(tactic| walk_at "call ref") => `(tactic| (k_here; (with_reducible show wpAny _ _ (call (Value.ref _) [Value.ref _, Value.int _ _, Value.int _ _]) _ _ _); (rename (∀ (_ _ : Int), ReckC _ _ _ _ _ _ _) => hR'); k_dflt (refine' CC.use (hR' _ _ _ _ _ _ _ _ _ _ ?h1 ?hs ?h2 ?hok ?h3 ?h4 ?h5 ?h6) ?k1 ?k2 ?k3 ?k4 ?k5 ?kK ?kd ?ku ?_; (case k1 => k_asm); (case k2 => k_asm); (case k3 => k_asm); (case k4 => k_asm); (case k5 => k_asm); (case kK => first | exact rfl | assumption); (case kd => ktr_room); (case ku => ktr_units); (case h1 => k_mem); (case h2 => with_reducible assumption); (case hs => kcf_all); (case hok => with_reducible assumption); (case h3 => with_reducible assumption); (case h4 => omega); (case h5 => omega); (case h6 => omega)); intro tl' a' t' u' c' h' tk' F' N' hlt' hm0' hm'; (try dsimp only); (try k_sweep); walk_say "RECK"))

set_option maxRecDepth 100000 in
set_option maxHeartbeats 1000000 in
theorem bothSh (w : World) : BothC w 64 shareAt BdP := by
  unfold BothC CC
  w_top off
  k_fill
  intro news ra c vs ps hm P hok h0 h5 mean mg mb dp un gd cn cs a ccd cl outer A₀ base h₀ L m s Q E B F X N T hk hd hu hret
  have hR : ∀ i lv : Int, ReckC w 64 shareAt BdP i lv 6 := shareC w
  have hvl : (vs.length : Int) = (ps.length : Int) := by rw [P.length]
  refine wpAny_call ?_
  k_dflt (refine' code_defC ?k1 ?k2 ?k3 ?k4 ?k5 ?kA ?kF ?kK ?k6 ?k7 ?k8 ?k9 ?kB ?kD ?_ ?c2 ?c3 ?c4; (case kA => exact rfl); (case kF => exact rfl); (case kK => assumption); (case k1 => k_asm); (case k2 => k_asm); (case k3 => k_asm); (case k4 => k_asm); (case k5 => k_asm); (case k6 => k_is); (case k7 => k_is); (case k8 => ktr_room); (case k9 => exact BindsTo.of_eq rfl); (case kB => exact rfl); (case kD => decide +kernel); (case c2 => exact rfl); (case c3 => exact rfl); (case c4 => exact rfl); k_whole)
  intro g' L' h' tk' cells' FG' F' N' Y' B' X' T' l1
  k_cells Y'
  (try simp only [List.cons_append, List.nil_append] at N')
  (try dsimp only)
  (try k_fold)
  k_steps
  unfold Stop
  (rename IsRange _ _ _ _ _ _ _ _ => hI1); (rename News _ _ _ _ => NN1); (rename Fr _ _ _ _ => FF1)
  refine LCg.CompSrc.range (by rfl) FF1 NN1 hI1 (small_one (by omega) (by omega) (by omega) (by omega)) (rangeSize_nat _ _) (by rw [sizeLine_eq]; omega) ?_
  intro g1
  refine comp_inv (CJ _ news (bothF ps.length (shareAt ps))) (CJ.start _ _ _) ?turn1 ?fin1
  case turn1 =>
    intro i ys nw v I oI C oC D m₂ h tk E' hi hJ hv hC' hx F N off ne
    obtain ⟨pts, rfl, hlt, hP⟩ := hJ
    obtain ⟨t, rfl⟩ := hv
    try k_fold
    k_steps
    refine comp_end_reck (p := shareAt ps (0 : Int).toNat (0 + (i : Int)).toNat) (by assumption) (by assumption) (by assumption) off trivial hlt hP ?_ (by assumption)
    have e1 : (0 + (i : Int)).toNat = i := by omega
    rw [e1]
    exact bothF_get (by omega)
  case fin1 =>
    intro ys nw hJ
    obtain ⟨pts, rfl, hlt, hP⟩ := hJ
    have hP1 : PtsIn (pts ++ news) ys (bothF ps.length (shareAt ps)) := by rw [List.take_of_length_le (by rw [bothF_len]; omega)] at hP; exact hP
    have hy5 : ys.length ≤ 5 := by rw [hP1.length, bothF_len]; exact h5
    unfold LCg.FinE
    intro D h tk F N off
    clear hP NN1 FF1
    try k_fold
    k_steps
    unfold Stop
    (rename IsRange _ _ _ _ _ _ _ _ => hI2); (rename News _ _ _ _ => NN2); (rename Fr _ _ _ _ => FF2)
    refine LCg.CompSrc.range (by rfl) FF2 NN2 hI2 (small_one (by omega) (by omega) (by omega) (by omega)) (rangeSize_nat _ _) (by rw [sizeLine_eq]; omega) ?_
    intro g2
    refine comp_inv (CJ _ news (bothS ps.length (shareAt ps))) (CJ.start _ _ _) ?turn2 ?fin2
    case turn2 =>
      intro i zs nw v I oI C oC D m₂ h tk E' hi hJ hv hC' hx F N off ne
      obtain ⟨qts, rfl, hlt2, hP2⟩ := hJ
      obtain ⟨t, rfl⟩ := hv
      try k_fold
      k_steps
      refine comp_end_reck (p := shareAt ps (0 + (i : Int)).toNat ((ps.length : Int) - 1 - (0 + (i : Int))).toNat) (by assumption) (by assumption) (by assumption) off trivial hlt2 hP2 ?_ (by assumption)
      have e1 : (0 + (i : Int)).toNat = i := by omega
      have e2 : ((ps.length : Int) - 1 - (0 + (i : Int))).toNat = ps.length - 1 - i := by omega
      rw [e1, e2]
      exact bothS_get (by omega)
    case fin2 =>
      intro zs nw hJ
      obtain ⟨qts, rfl, hlt2, hP2⟩ := hJ
      have hP3 : PtsIn (qts ++ news) zs (bothS ps.length (shareAt ps)) := by rw [List.take_of_length_le (by rw [bothS_len]; omega)] at hP2; exact hP2
      have hz5 : zs.length ≤ 5 := by rw [hP3.length, bothS_len]; exact h5
      unfold LCg.FinE
      intro D h tk F N off
      clear hP2 NN2 FF2
      try k_fold
      k_steps
      exact both_end (cf := 0) hret (by assumption) (by assumption) (.head _) (by k_mem) (.tail _ (.head _)) hP1 hP3 (by kcf_all) (by kcf_all) (by kcf_all)
end Mine

namespace Mine
/-- as CC, over the call's own base -/
abbrev CB (w : World) (f : Addr) (vs : List Value) (news : List (Addr × Obj)) (sz : Nat) (Pre : Heap → Prop) (R : Heap → Addr → (Str → Option Value) → Shared → (Value → Shared → Prop) → Prop) : Prop :=
  ∀ (mean : ExcName → Option Value) (mg mb : Str → Option Value) (dp un : Nat) (gd : Option (List Code)) (cn : Str) (cs : Scope) (a : Addr) (ccd : Value) (cl : List (Str × Addr)) (outer : List Env) (A₀ : Around) (base h₀ : Heap) (L : Addr) (m : Str → Option Value)
    (s : Shared) (Q E : Value → Shared → Prop),
    Below A₀ base outer h₀ → Fr h₀ L s.heap m → (hd.heap_39 w.params).In h₀ → News h₀ L s.heap news → Top hd.view_39 (looseW hd.view_39 []) mean mg mb h₀ → cs.kind = .function → Pre base →
    dp + sz < recursionLimit → un + 8 * sz < cLine → R h₀ L m s Q →
    wpAny (model (RowW.prog (OpenRow.toRowW (OpenLaw.row Challenge.rw_xm0700_01))) w) (ktrTop dp un gd cn cs L a ccd cl outer) (call (.ref f) vs) Q E s
def PoolC (w : World) : Prop := ∀ (news : List (Addr × Obj)) (l : Addr) (vs : List Value) (ns : List Int), IntsAre vs ns → ns.length ≤ 63 →
  CB w 33 [.ref l] news 1 (fun base => base.IsList l vs.toArray) fun h₀ L m s Q =>
    ∀ (r : Addr) (p q : Int) (tp tq : Tok) (c : Nat) (h' : Heap) (tk' : Nat), 0 ≤ q → q < 2147483647 → Fr h₀ L h' m → News h₀ L h' ((r, srcO p tp q tq c) :: news) → (∀ p ∈ news, p.1 < r) → Q (.ref r) { s with heap := h', toks := tk' }
set_option maxRecDepth 100000 in
set_option maxHeartbeats 1000000 in
theorem poolC (w : World) : PoolC w := by
  unfold PoolC CB
  w_top off
  k_fill
  intro news l vs ns hi hlen mean mg mb dp un gd cn cs a ccd cl outer A₀ base h₀ L m s Q E B F X N T hk hl hd hu hret
  refine wpAny_call ?_
  k_dflt cell_enter
  k_steps
  all_goals exact hret _ _ _ _ _ _ _ _ (fm_lo _ (by decide)) (fm_hi _ (by decide)) (by assumption) (by assumption) (by assumption)
theorem CB.use {w : World} {f : Addr} {vs : List Value} {news : List (Addr × Obj)} {sz : Nat} {Pre : Heap → Prop} {R : Heap → Addr → (Str → Option Value) → Shared → (Value → Shared → Prop) → Prop} (C : CB w f vs news sz Pre R)
    {mean : ExcName → Option Value} {mg mb : Str → Option Value} {dp un : Nat} {gd : Option (List Code)} {cn : Str} {cs : Scope} {a : Addr} {ccd : Value} {cl : List (Str × Addr)} {outer : List Env} {A₀ : Around} {base h₀ : Heap} {L : Addr} {m : Str → Option Value}
    {s : Shared} {Q E : Value → Shared → Prop} (B : Below A₀ base outer h₀) (F : Fr h₀ L s.heap m) (X : (hd.heap_39 w.params).In h₀) (N : News h₀ L s.heap news) (T : Top hd.view_39 (looseW hd.view_39 []) mean mg mb h₀) (hk : cs.kind = .function) (p : Pre base)
    (hd : dp + sz < recursionLimit) (hu : un + 8 * sz < cLine) (r : R h₀ L m s Q) :
    wpAny (model (RowW.prog (OpenRow.toRowW (OpenLaw.row Challenge.rw_xm0700_01))) w) (ktrTop dp un gd cn cs L a ccd cl outer) (call (.ref f) vs) Q E s := C _ _ _ _ _ _ _ _ _ _ _ _ _ _ _ _ _ _ _ _ B F X N T hk p hd hu r
end Mine

namespace Mine
local macro_rules | `(tactic| walk_at "Pad") => `(tactic| skip)
local macro_rules | `(tactic| walk_at "Pad") => `(tactic| skip)
local macro_rules | `(tactic| walk_at "Pad") => `(tactic| skip)
local macro_rules | `(tactic| walk_at "Pad") => `(tactic| skip)
local macro_rules | `(tactic| walk_at "Pad") => `(tactic| skip)
local macro_rules | `(tactic| walk_at "Pad") => `(tactic| skip)
local macro_rules | `(tactic| walk_at "Pad") => `(tactic| skip)
local macro_rules | `(tactic| walk_at "Pad") => `(tactic| skip)
local macro_rules | `(tactic| walk_at "Pad") => `(tactic| skip)
local macro_rules | `(tactic| walk_at "Pad") => `(tactic| skip)
local macro_rules | `(tactic| walk_at "Pad") => `(tactic| skip)
local macro_rules | `(tactic| walk_at "Pad") => `(tactic| skip)
local macro_rules | `(tactic| walk_at "Pad") => `(tactic| skip)
local macro_rules | `(tactic| walk_at "Pad") => `(tactic| skip)
local macro_rules | `(tactic| walk_at "Pad") => `(tactic| skip)
local macro_rules | `(tactic| walk_at "Pad") => `(tactic| skip)
local macro_rules | `(tactic| walk_at "Pad") => `(tactic| skip)
local macro_rules | `(tactic| walk_at "Pad") => `(tactic| skip)
local macro_rules | `(tactic| walk_at "Pad") => `(tactic| skip)
local macro_rules | `(tactic| walk_at "Pad") => `(tactic| skip)
local macro_rules | `(tactic| walk_at "Pad") => `(tactic| skip)
local macro_rules | `(tactic| walk_at "Pad") => `(tactic| skip)
local macro_rules | `(tactic| walk_at "Pad") => `(tactic| skip)
local macro_rules | `(tactic| walk_at "Pad") => `(tactic| skip)
local macro_rules | `(tactic| walk_at "Pad") => `(tactic| skip)
local macro_rules | `(tactic| walk_at "Pad") => `(tactic| skip)
local macro_rules | `(tactic| walk_at "Pad") => `(tactic| skip)
local macro_rules | `(tactic| walk_at "Pad") => `(tactic| skip)
local macro_rules | `(tactic| walk_at "Pad") => `(tactic| skip)
local macro_rules | `(tactic| walk_at "Pad") => `(tactic| skip)
local macro_rules | `(tactic| walk_at "Pad") => `(tactic| skip)
local macro_rules | `(tactic| walk_at "Pad") => `(tactic| skip)
local macro_rules | `(tactic| walk_at "Pad") => `(tactic| skip)
local macro_rules | `(tactic| walk_at "Pad") => `(tactic| skip)
local macro_rules | `(tactic| walk_at "Pad") => `(tactic| skip)
local macro_rules | `(tactic| walk_at "Pad") => `(tactic| skip)
local macro_rules | `(tactic| walk_at "Pad") => `(tactic| skip)
local macro_rules | `(tactic| walk_at "Pad") => `(tactic| skip)
local macro_rules | `(tactic| walk_at "Pad") => `(tactic| skip)
local macro_rules | `(tactic| walk_at "Pad") => `(tactic| skip)
local macro_rules | `(tactic| walk_at "Pad") => `(tactic| skip)
local macro_rules | `(tactic| walk_at "Pad") => `(tactic| skip)
local macro_rules | `(tactic| walk_at "Pad") => `(tactic| skip)
local macro_rules | `(tactic| walk_at "Pad") => `(tactic| skip)
local macro_rules | `(tactic| walk_at "Pad") => `(tactic| skip)
local macro_rules | `(tactic| walk_at "Pad") => `(tactic| skip)
local macro_rules | `(tactic| walk_at "Pad") => `(tactic| skip)
local macro_rules | `(tactic| k_all) => `(tactic| first | (with_reducible assumption) | exact ne_far (by with_reducible assumption) (by omega))
local macro_rules | `(tactic| k_mem) => `(tactic| first | with_reducible assumption | exact List.mem_cons_self | (refine List.mem_cons_of_mem _ ?_; k_mem) | (refine List.mem_append.mpr (Or.inr ?_); k_mem) | (refine List.mem_append.mpr (Or.inl ?_); k_mem))
section
variable {prog : Program} {w : World} {A : Around} {E : Value → Shared → Prop} {s : Shared} {h₀ : Heap} {L : Addr} {m : Str → Option Value} {news : List (Addr × Obj)}
theorem slice_tuple_rev2 {value slice : Expr} {t : Addr} {vs : List Value} {c : Nat} {u : Tok} {ops : List Value} {Q : Value → Shared → Prop}
    (F : Fr h₀ L s.heap m) (N : News h₀ L s.heap news) (ht : (t, tupA vs.toArray c) ∈ news)
    (h : ∀ D h', Fr h₀ L h' m → News h₀ L h' ((D, tupA vs.reverse.toArray 0) :: news) → (∀ p ∈ news, p.1 < D) → Q (.ref D) { s with heap := h' })
    (hs : subscripted slice false (.ref t) (.ref s.heap.objs.size) = operate ops (getItem (.ref t) (.ref s.heap.objs.size)))
    (hg : ∀ r, letTemporaryGo value (.ref t) r = pure ())
    (hsz : vs.length ≤ sizeLine) :
    wpAny (model prog w) A (subscriptTail value slice (.ref t) (.ref s.heap.objs.size)) Q E { s with heap := s.heap.push { cls := .type "slice", data := .fields #[.none, .none, .int (-1) u] } } := by
  have ht0 : IsTup s.heap t vs.toArray := N.isTup ht
  have ht' : IsTup (s.heap.push { cls := .type "slice", data := .fields #[.none, .none, .int (-1) u] }) t vs.toArray := ht0.keeps fun _ _ e => Heap.get?_push_of_some _ e
  refine subscriptTail_ops (s := { s with heap := s.heap.push { cls := .type "slice", data := .fields #[.none, .none, .int (-1) u] } }) ht'.typeIs slot_tuple_getitem.lookup
    (getItem_tuple_rev ht' (Heap.IsSliceOf.new ..) ?_ (by rw [List.size_toArray]; exact hsz)) hs hg
  have N1 := News.push (F.push { cls := .type "slice", data := .fields #[.none, .none, .int (-1) u] }) (N.grown fun _ _ e => Heap.get?_push_of_some _ e) { cls := .type "tuple", data := .seq vs.reverse.toArray }
  rw [Heap.size_push] at N1
  show Q (.ref (s.heap.push _).objs.size) _
  rw [Heap.size_push]
  exact h _ _ ((F.push _).push _) N1 fun p hp => Nat.lt_succ_of_lt (Heap.lt_size (N p hp).1)
end
def LawIf (h₀ : Heap) (L : Addr) (m : Str → Option Value) (news : List (Addr × Obj)) (s : Shared) (f : Flow) (s' : Shared) : Prop := f = .next ∧ ∃ h tk, s' = { s with heap := h, toks := tk } ∧ Fr h₀ L h m ∧ News h₀ L h news
theorem law_if {prog : Program} {w : World} {A : Around} {E : Value → Shared → Prop} {s : Shared} {env : Env} {st : Stmt} {rest : List Stmt} {Q : Flow → Shared → Prop} {h₀ : Heap} {L : Addr} {m : Str → Option Value} {news : List (Addr × Obj)}
    (F0 : Fr h₀ L s.heap m) (N0 : News h₀ L s.heap news) (h1 : wpAny (model prog w) A (exec st env) (LawIf h₀ L m news s) E s) (h2 : ∀ h tk, Fr h₀ L h m → News h₀ L h news → wpAny (model prog w) A (execs rest env) Q E { s with heap := h, toks := tk }) :
    wpAny (model prog w) A (execs (st :: rest) env) Q E s := by
  refine wpAny_execs_cons (wpAny_mono h1 (fun f s' h => ?_) fun _ _ h => h)
  obtain ⟨rfl, h, tk, rfl, F, N⟩ := h
  exact h2 h tk F N
theorem LawIf.intro {h₀ h : Heap} {L : Addr} {m : Str → Option Value} {news big : List (Addr × Obj)} {s : Shared} {tk : Nat} (F : Fr h₀ L h m) (N : News h₀ L h big) (hs : ∀ p ∈ news, p ∈ big) : LawIf h₀ L m news s .next { s with heap := h, toks := tk } := ⟨rfl, h, tk, rfl, F, News.sub N hs⟩
theorem pts_two {n : List (Addr × Obj)} {a b : Addr} {x y u v : Int} {t1 t2 t3 t4 : Tok} {c d : Nat} (h1 : (a, tupO [.int x t1, .int y t2] c) ∈ n) (h2 : (b, tupO [.int u t3, .int v t4] d) ∈ n) : PtsIn n [Value.ref a, Value.ref b] [(x, y), (u, v)] := ⟨⟨a, t1, t2, c, rfl, h1⟩, ⟨b, t3, t4, d, rfl, h2⟩, trivial⟩
theorem ne_one {a sa : Addr} {o : Obj} (h : @LT.lt Nat _ a sa) : ∀ x ∈ [(a, o)], x.1 ≠ sa := by
  intro x hx
  rw [List.mem_singleton.mp hx]
  exact Nat.ne_of_lt h
theorem news_rot {h₀ h : Heap} {L : Addr} {a b c d : Addr × Obj} {rest : List (Addr × Obj)} (N : News h₀ L h (a :: b :: c :: d :: rest)) : News h₀ L h (d :: a :: b :: c :: rest) := News.sub N (by kcf_all)
theorem pts_rev {n n' : List (Addr × Obj)} {vs : List Value} {ps qs : List Pt} (P : PtsIn n vs ps) (hs : ∀ p ∈ n, p ∈ n') (e : ps.reverse = qs) : PtsIn n' vs.reverse qs := by
  subst e
  exact P.reverse.mono hs
theorem row16_len {ps : List Pt} : (row16 ps).length = ps.length := by simp [row16]

/-- the turns of the row -/
def RJ (base : List (Addr × Obj)) (sa : Addr) (i : Nat) (ys : List Value) (nw : List (Addr × Obj)) : Prop :=
  ∃ (p q : Int) (tp tq : Tok) (c : Nat) (pts : List (Addr × Obj)) (ps : List Pt), nw = (sa, srcO p tp q tq c) :: (pts ++ base) ∧ 0 ≤ q ∧ q < 2147483647 ∧ (∀ x ∈ pts ++ base, x.1 ≠ sa) ∧ PtsIn pts ys ps ∧ BdP ps ∧ ps.length = i
theorem RJ.start {base : List (Addr × Obj)} {sa : Addr} {p q : Int} {tp tq : Tok} {c : Nat} (h0 : 0 ≤ q) (h1 : q < 2147483647) (hne : ∀ x ∈ base, x.1 ≠ sa) : RJ base sa 0 [] ((sa, srcO p tp q tq c) :: base) := by
  refine ⟨p, q, tp, tq, c, [], [], rfl, h0, h1, hne, trivial, ?_, rfl⟩
  intro p hp
  cases hp
theorem ne_three {I C D sa : Addr} {oI oC oD o : Obj} {rest : List (Addr × Obj)} (off : LCg.Off3 I C D ((sa, o) :: rest)) (h : ∀ x ∈ rest, x.1 ≠ sa) : ∀ x ∈ (I, oI) :: (C, oC) :: (D, oD) :: rest, x.1 ≠ sa := by
  intro x hx
  rcases List.mem_cons.mp hx with rfl | hx
  · exact Ne.symm off.1.1
  rcases List.mem_cons.mp hx with rfl | hx
  · exact Ne.symm off.1.2.1
  rcases List.mem_cons.mp hx with rfl | hx
  · exact Ne.symm off.1.2.2
  · exact h x hx
theorem comp_end_row {h₀ h' : Heap} {L : Addr} {m : Str → Option Value} {s : Shared} {S : List (Addr × Obj) → Prop} {I C D T sa : Addr} {oI oC oD ox : Obj} {base pts : List (Addr × Obj)} {i tk' c c' : Nat} {ys : List Value} {ps : List Pt} {p q x y : Int} {tp tq t u : Tok}
    (F : Fr h₀ L h' m) (N : News h₀ L h' ((T, tupO [.int x t, .int y u] c') :: (sa, srcO p tp q tq c) :: (I, oI) :: (C, oC) :: (D, oD) :: (pts ++ base))) (hlt : ∀ z ∈ (sa, srcO p tp q tq c) :: (I, oI) :: (C, oC) :: (D, oD) :: (pts ++ base), z.1 < T)
    (off : LCg.Off3 I C D ((sa, ox) :: (pts ++ base))) (hS : S ((sa, srcO p tp q tq c) :: (T, tupO [.int x t, .int y u] c') :: (pts ++ base))) (hq0 : 0 ≤ q) (hq1 : q < 2147483647) (hne : ∀ x ∈ pts ++ base, x.1 ≠ sa)
    (P : PtsIn pts ys ps) (hB : BdP ps) (hl : ps.length = i) (x1 : -1099511627776 ≤ x) (x2 : x ≤ 1099511627776) (y1 : -1099511627776 ≤ y) (y2 : y ≤ 1099511627776) :
    LCg.CompEnd h₀ L m s I oI C oC D oD S (fun y nw' => RJ base sa (i + 1) (ys ++ [y]) nw') (.ref T) { s with heap := h', toks := tk' } := by
  refine LCg.CompEnd.intro F N ((sa, srcO p tp q tq c) :: (T, tupO [.int x t, .int y u] c') :: (pts ++ base)) (by kcf_all) ⟨off.1, ⟨Nat.ne_of_gt (hlt _ (.tail _ (.head _))), Nat.ne_of_gt (hlt _ (.tail _ (.tail _ (.head _)))), Nat.ne_of_gt (hlt _ (.tail _ (.tail _ (.tail _ (.head _)))))⟩, off.2⟩ hS ?_
  refine ⟨p, q, tp, tq, c, (T, tupO [.int x t, .int y u] c') :: pts, ps ++ [(x, y)], rfl, hq0, hq1, ?_, ?_, ?_, ?_⟩
  · intro z hz
    rcases List.mem_cons.mp hz with rfl | hz
    · exact Nat.ne_of_gt (hlt _ (.head _))
    · exact hne z hz
  · exact (P.mono fun _ h => .tail _ h).snoc ⟨T, t, u, c', rfl, .head _⟩
  · intro z hz
    rcases List.mem_append.mp hz with hz | hz
    · exact hB z hz
    · rw [List.mem_singleton.mp hz]
      exact ⟨x1, x2, y1, y2⟩
  · rw [List.length_append, List.length_singleton, hl]
section
variable {prog : Program} {w : World} {A : Around} {s : Shared} {h₀ : Heap} {L : Addr} {m : Str → Option Value} {env : Env}
/-- the same, of pairs -/
theorem comp_invP {elt : Expr} {x x₂ : Str} {scope : Scope} {cl : List (Str × Addr)} {S : List (Addr × Obj) → Prop} {P : Nat → Value → Prop} {Fin : List Value → List (Addr × Obj) → Prop} {n : Nat} {news : List (Addr × Obj)} (J : Nat → List Value → List (Addr × Obj) → Prop) (h0 : J 0 [] news)
    (turn : ∀ i ys nw v, i < n → J i ys nw → P i v → ∃ (t : Addr) (ot : Obj) (v₁ v₂ : Value) (nt : Nat), v = .ref t ∧ (t, ot) ∈ nw ∧ ot.cls = .type "tuple" ∧ ot.data = .seq #[v₁, v₂] nt ∧
      ∀ I oI C oC D m₂ h tk (E' : Value → Shared → Prop), LCg.NsObj oC m₂ → m₂ x = some v₁ → m₂ x₂ = some v₂ → Fr h₀ L h m → News h₀ L h ((I, oI) :: (C, oC) :: (D, LCg.lst ys) :: nw) → LCg.Off3 I C D nw → ((@Ne Nat I C) ∧ (@Ne Nat I D) ∧ (@Ne Nat C D)) →
      wpAny (model prog w) A (eval elt (compEnvC scope cl C env)) (LCg.CompEnd h₀ L m { s with heap := h, toks := tk } I oI C oC D (LCg.lst ys) S (fun y nw' => J (i + 1) (ys ++ [y]) nw')) E' { s with heap := h, toks := tk })
    (fin : ∀ ys nw, J n ys nw → Fin ys nw) : LCp.CompRestP prog w A h₀ L m env elt x x₂ scope cl s S P Fin n 0 [] news := by
  have all : ∀ k i ys nw, i + k = n → J i ys nw → LCp.CompRestP prog w A h₀ L m env elt x x₂ scope cl s S P Fin k i ys nw := by
    intro k
    induction k with
    | zero =>
      intro i ys nw e hJ
      obtain rfl : i = n := by omega
      exact LCp.CompRestP.zero (fin ys nw hJ)
    | succ k ih =>
      intro i ys nw e hJ
      refine LCp.CompRestP.succ fun v hv => ?_
      obtain ⟨t, ot, v₁, v₂, nt, e1, e2, e3, e4, go⟩ := turn i ys nw v (by omega) hJ hv
      refine ⟨t, ot, v₁, v₂, nt, e1, e2, e3, e4, ?_⟩
      intro I oI C oC D m₂ h tk E' hC hx hx2 F N off ne
      refine wpAny_mono (go I oI C oC D m₂ h tk E' hC hx hx2 F N off ne) (fun y s₂ hq => ?_) fun _ _ e => e
      obtain ⟨h', tk', nw', e', F', N', off', hS, hJ'⟩ := hq
      exact ⟨h', tk', nw', e', F', N', off', hS, ih (i + 1) (ys ++ [y]) nw' (by omega) hJ'⟩
  exact all n 0 [] news (by omega) h0
end
theorem row16_get {ps : List Pt} {i : Nat} (h : i < ps.length) : (row16 ps)[i]? = some (16 * (ps.getD i (0, 0)).1, 16 * (ps.getD i (0, 0)).2) := by
  unfold row16
  rw [List.getElem?_map, List.getD_eq_getElem?_getD, List.getElem?_eq_getElem h]
  rfl
theorem pts_at {n : List (Addr × Obj)} {vs : List Value} {ps : List Pt} (P : PtsIn n vs ps) {i : Nat} {v : Value} (hv : vs.toArray[i]? = some v) : i < ps.length ∧ ∃ (a : Addr) (t u : Tok) (c : Nat), v = .ref a ∧ (a, tupO [.int (ps.getD i (0, 0)).1 t, .int (ps.getD i (0, 0)).2 u] c) ∈ n := by
  have hv' : vs[i]? = some v := by simpa using hv
  have hl := P.length
  have hi : i < vs.length := (List.getElem?_eq_some_iff.mp hv').1
  have hk : i < ps.length := by omega
  obtain ⟨v2, h2, a, t, u, c, e, hm⟩ := P.get i _ (List.getElem?_eq_getElem hk)
  rw [hv'] at h2
  cases h2
  have e2 : ps.getD i (0, 0) = ps[i] := by rw [List.getD_eq_getElem?_getD, List.getElem?_eq_getElem hk]; rfl
  rw [← e2] at hm
  exact ⟨hk, a, t, u, c, e, hm⟩
theorem mul16 {x : Int} : IntMulOk 16 x := PySem.IntMulOk.of_left (by decide)

local macro_rules | `(tactic| walk_at "LawIf") => `(tactic| exact LawIf.intro (by k_asm) (by k_asm) (by kcf_all))
local macro_rules | `(tactic| walk_at "CompSrc") => `(tactic| refine Stop.of ?_)
local macro_rules | `(tactic| walk_at "SrcLP") => `(tactic| refine Stop.of ?_)
local macro_rules | `(tactic| walk_at "compareOp NotEq ref ref") => `(tactic| refine Stop.of ?_)
local macro_rules | `(tactic| walk_at "compareOp Eq ref ref") => `(tactic| refine Stop.of ?_)
local macro_rules | `(tactic| walk_at "call ref") => `(tactic| refine Stop.of ?_)
local macro_rules | `(tactic| walk_at "Pts") => `(tactic| first | with_reducible assumption | (refine' pts_two ?h21 ?h22; (case h21 => k_mem); (case h22 => k_mem)) | (refine PtsIn.mono ?_ (by with_reducible assumption); kcf_all) | (refine' pts_rev (by with_reducible assumption) ?hrs ?hre; (case hre => exact rfl); (case hrs => kcf_all)))
local macro_rules | `(tactic| walk_at "call ref") => `(tactic| (k_here; (with_reducible show wpAny _ _ (call (Value.ref 26) [Value.ref _]) _ _ _); k_dflt (refine' CC.use (halvesC _ _ _ _ _ _ ?h1 ?h2 ?h3 ?h4) ?k1 ?k2 ?k3 ?k4 ?k5 ?kK ?kd ?ku ?_; (case k1 => k_asm); (case k2 => k_asm); (case k3 => k_asm); (case k4 => k_asm); (case k5 => k_asm); (case kK => first | exact rfl | assumption); (case kd => ktr_room); (case ku => ktr_units); (case h1 => first | exact Or.inl (by k_mem) | exact Or.inr (by k_mem)); (case h2 => walk_at "Pts"); (case h3 => first | decide | omega | (rw [List.length_reverse]; omega) | (rw [row16_len]; omega)); (case h4 => first | decide | omega | (rw [List.length_reverse]; omega) | (rw [row16_len]; omega))); intro tl' r' f' g' c' cf' cg' fs' gs' h' tk' F' N' mr' mf' mg' P1' P2'; have e1' := PtsIn.length P1'; have e2' := PtsIn.length P2'; (rw [bothF_len] at e1'); (rw [bothS_len] at e2'); (try rw [List.length_reverse] at e1' e2'); (try rw [row16_len] at e1' e2'); (try dsimp only); (try k_sweep); walk_say "HALVES"))
local macro_rules | `(tactic| walk_at "compareOp NotEq ref ref") => `(tactic| (k_here; k_dflt (refine' ne_pair ?N ?r ?f ?g ?p ?q ?r2 ?f2 ?g2 ?p2 ?q2 ?u ?e ?_; (case N => k_asm); (case r => k_mem); (case f => k_mem); (case g => k_mem); (case r2 => k_mem); (case f2 => k_mem); (case g2 => k_mem); (case p => walk_at "Pts"); (case q => walk_at "Pts"); (case p2 => walk_at "Pts"); (case q2 => walk_at "Pts"); (case u => first | ke_room | decide); (case e => first | exact ⟨by rw [List.length_reverse, bothF_rev], by rw [List.length_reverse, bothS_rev]⟩ | exact ⟨rfl, rfl⟩ | decide)); (try dsimp only); walk_say "NEPAIR"))
local macro_rules | `(tactic| walk_at "call ref") => `(tactic| (k_here; (with_reducible show wpAny _ _ (call (Value.ref 33) [Value.ref _]) _ _ _); k_dflt (refine' CB.use (poolC _ _ _ _ _ ?h1 ?h2) ?k1 ?k2 ?k3 ?k4 ?k5 ?kK ?kp ?kd ?ku ?_; (case k1 => k_asm); (case k2 => k_asm); (case k3 => k_asm); (case k4 => k_asm); (case k5 => k_asm); (case kK => first | exact rfl | assumption); (case kp => first | k_asm | assumption); (case kd => ktr_room); (case ku => ktr_units); (case h1 => assumption); (case h2 => omega)); intro r' p' q' tp' tq' c' h' tk' hq0' hq1' F' N' hlt'; (try k_lt hlt'); (try dsimp only); (try k_sweep); walk_say "POOL"))
local macro_rules | `(tactic| walk_at "call ref") => `(tactic| (k_here; (with_reducible show wpAny _ _ (call (Value.ref 40) [Value.ref _, Value.int _ _]) _ _ _); k_dflt (refine' CC.use (takeC _ _ _ _ _ _ _ _ _ _ ?h1 ?h2 ?h3 ?h4 ?h5) ?k1 ?k2 ?k3 ?k4 ?k5 ?kK ?kd ?ku ?_; (case k1 => k_asm); (case k2 => k_asm); (case k3 => k_asm); (case k4 => k_asm); (case k5 => k_asm); (case kK => first | exact rfl | assumption); (case kd => ktr_room); (case ku => ktr_units); (case h1 => first | assumption | exact ne_one (by omega)); (case h2 => first | decide | omega); (case h3 => first | decide | omega); (case h4 => assumption); (case h5 => assumption)); intro r' tr' p' q' tp' tq' h' tk' hr0' hr1' hq0' hq1' F' N'; (try dsimp only); (try k_sweep); walk_say "TAKE"))
local macro_rules | `(tactic| walk_at "call ref") => `(tactic| (k_here; (with_reducible show wpAny _ _ (call (Value.ref 76) [Value.ref _]) _ _ _); k_dflt (refine' CC.use (numberC _ _ _ _ _ _ _ _ ?h1 ?h2 ?h3) ?k1 ?k2 ?k3 ?k4 ?k5 ?kK ?kd ?ku ?_; (case k1 => k_asm); (case k2 => k_asm); (case k3 => k_asm); (case k4 => first | k_asm | exact news_rot (by k_asm)); (case k5 => k_asm); (case kK => first | exact rfl | assumption); (case kd => ktr_room); (case ku => ktr_units); (case h1 => assumption); (case h2 => assumption); (case h3 => assumption)); intro r' tr' p' q' tp' tq' h' tk' hr0' hr1' hq0' hq1' F' N'; (try dsimp only); (try k_sweep); walk_say "NUMBER"))
local macro_rules | `(tactic| walk_at "exec Assign cons ListComp") => `(tactic| (k_here; k_dflt (refine LCg.Assign_ListComp_U (F₀ := by k_asm) (by rfl) (by with_unfolding_all rfl) (by with_unfolding_all rfl) (by decide) (by rfl) (by decide) (by rfl) (by rfl) (by rfl) ?_)))
local macro_rules | `(tactic| walk_at "call ref") => `(tactic| (k_here; (with_reducible show wpAny _ _ (call (Value.ref 69) [Value.ref _, Value.ref 54]) _ _ _); k_dflt (refine' CC.use (bothM _ _ _ _ _ _ ?h1 ?h2 ?h3 ?h4 ?h5) ?k1 ?k2 ?k3 ?k4 ?k5 ?kK ?kd ?ku ?_; (case k1 => k_asm); (case k2 => k_asm); (case k3 => k_asm); (case k4 => k_asm); (case k5 => k_asm); (case kK => first | exact rfl | assumption); (case kd => ktr_room); (case ku => ktr_units); (case h1 => k_mem); (case h2 => first | with_reducible assumption | (refine PtsIn.mono ?_ (by with_reducible assumption); kcf_all)); (case h3 => first | exact trivial | assumption); (case h4 => omega); (case h5 => omega)); intro tl' r' f' g' c' cf' cg' fs' gs' h' tk' F' N' mr' mf' mg' P1' P2'; have e1' := PtsIn.length P1'; have e2' := PtsIn.length P2'; (rw [bothF_len] at e1'); (rw [bothS_len] at e2'); (try dsimp only); (try k_sweep); walk_say "BOTH"))
local macro_rules | `(tactic| walk_at "call ref") => `(tactic| (k_here; (with_reducible show wpAny _ _ (call (Value.ref 69) [Value.ref _, Value.ref 64]) _ _ _); k_dflt (refine' CC.use (bothSh _ _ _ _ _ _ ?h1 ?h2 ?h3 ?h4 ?h5) ?k1 ?k2 ?k3 ?k4 ?k5 ?kK ?kd ?ku ?_; (case k1 => k_asm); (case k2 => k_asm); (case k3 => k_asm); (case k4 => k_asm); (case k5 => k_asm); (case kK => first | exact rfl | assumption); (case kd => ktr_room); (case ku => ktr_units); (case h1 => k_mem); (case h2 => first | with_reducible assumption | (refine PtsIn.mono ?_ (by with_reducible assumption); kcf_all)); (case h3 => first | exact trivial | assumption); (case h4 => omega); (case h5 => omega)); intro tl' r' f' g' c' cf' cg' fs' gs' h' tk' F' N' mr' mf' mg' P1' P2'; have e1' := PtsIn.length P1'; have e2' := PtsIn.length P2'; (rw [bothF_len] at e1'); (rw [bothS_len] at e2'); (try dsimp only); (try k_sweep); walk_say "BOTH"))
local macro_rules | `(tactic| walk_at "compareOp Eq ref ref") => `(tactic| (k_here; k_dflt (refine' eq_pair_yes ?N ?r ?f ?g ?p ?q ?r2 ?f2 ?g2 ?p2 ?q2 ?u ?e ?_; (case N => k_asm); (case r => k_mem); (case f => k_mem); (case g => k_mem); (case r2 => k_mem); (case f2 => k_mem); (case g2 => k_mem); (case p => walk_at "Pts"); (case q => walk_at "Pts"); (case p2 => walk_at "Pts"); (case q2 => walk_at "Pts"); (case u => first | ke_room | decide); (case e => exact ⟨bothF_share _ (by omega), bothS_share _ (by omega)⟩)); (try dsimp only); walk_say "EQPAIR"))
local macro_rules | `(tactic| walk_at "subscriptTail Name Slice ref ref") => `(tactic| refine Stop.of ?_)
local macro_rules | `(tactic| walk_at "subscriptTail Name Slice ref ref") => `(tactic| (k_here; (with_reducible show wpAny _ _ (subscriptTail _ (PySem.Expr.Slice none none (some _) _) (Value.ref _) (Value.ref _)) _ _ _); k_dflt (refine' krv_lit (its := List.toArray _) ?F ?N ?l ?k ?e ?_ ?s ?t ?z; (case F => k_asm); (case N => k_asm); (case l => exact News.isList (by k_asm) (by k_mem)); (case k => exact IsPart.int _ _); (case e => exact rfl); (case s => with_unfolding_all rfl); (case t => kmk_pure); (case z => (rw [List.size_toArray, sizeLine_eq]; omega))); intro D' h' F' N' l1; (try simp only [List.toList_toArray] at N'); (try k_lt l1); (try k_sweep); walk_say "LISTREV"))
local macro_rules | `(tactic| walk_at "MyKey") => `(tactic| (k_here; (with_reducible show wpAny _ _ (subscriptTail _ (PySem.Expr.Slice none none (some _) _) (Value.ref _) (Value.ref _)) _ _ _); k_dflt (refine' slice_tuple_rev2 ?F ?N ?ht ?_ ?s ?t ?z; (case F => k_asm); (case N => k_asm); (case ht => k_mem); (case s => with_unfolding_all rfl); (case t => kmk_pure); (case z => (rw [sizeLine_eq]; omega))); intro D' h' F' N' l1; (try k_lt l1); (try k_sweep); walk_say "TUPREV"))
local macro_rules | `(tactic| walk_at "binaryOp Mult int int") => `(tactic| (with_reducible refine mul_int ?_ mul16))
set_option maxRecDepth 100000 in
set_option maxHeartbeats 6000000 in
theorem x0 : Challenge.rw_xm0700_01.Holds := Mine.hd (by w_strict (
  k_go0; (all_goals try k_fold)
  (rename News _ _ _ _ => NN0); (rename Fr _ _ _ _ => FF0)
  dsimp only
  refine law_if FF0 NN0 ?g1 ?g2
  case g1 => k_steps
  case g2 =>
    intro h1 tk1 F1 N1
    clear FF0 NN0
    k_steps
    unfold Stop
    (rename IsRange _ _ _ _ _ _ _ _ => hI1); (rename News _ _ _ _ => NN1); (rename Fr _ _ _ _ => FF1)
    rename_i sa p0 q0 tp0 tq0 c0 hh0 htk0 hq00 hq01 hslt hh1 oc hoc r0 tr0 p1 q1 tp1 tq1 hh2 htk2 hr0 hr1 hq10 hq11 FFx NNx hh3 tk4 tt1 tt2 tt3 hkeep
    refine LCg.CompSrc.range (by rfl) FF1 NN1 hI1 (small_one (by omega) (by omega) (by omega) (by omega)) (rangeSize_nat _ _) (by rw [sizeLine_eq]; omega) ?_
    intro g1
    refine comp_inv (RJ [(_, oc)] sa) (RJ.start hq10 hq11 (ne_one hslt)) ?turn1 ?fin1
    case turn1 =>
      clear NN1 FF1 hI1 F1 N1 NNx FFx
      intro i ys nw v I oI C oC D m₂ h tk E' hi hJ hv hC' hx F N off ne
      obtain ⟨p, q, tp, tq, c, pts, ps, rfl, hq0, hq1, hne, hP, hB, hlen⟩ := hJ
      obtain ⟨t, rfl⟩ := hv
      have hne2 := ne_three (oI := oI) (oC := oC) (oD := LCg.lst ys) off hne
      try k_fold
      k_steps
      refine comp_end_row (by assumption) (by assumption) (ktn_ltOf (by assumption)) off trivial (by assumption) (by assumption) hne hP hB hlen (by assumption) (by assumption) (by assumption) (by assumption)
    case fin1 =>
      clear NN1 FF1 hI1 F1 N1 NNx FFx
      intro ys nw hJ
      obtain ⟨p, q, tp, tq, c, pts, ps, rfl, hq0, hq1, hne, hP, hB, hlen⟩ := hJ
      have hl0 : 0 < ps.length := by omega
      have hl5 : ps.length ≤ 5 := by omega
      have hyl := hP.length
      unfold LCg.FinA
      intro D h tk F N off
      try k_fold
      k_steps
      unfold Stop
      walk_at "MyKey"
      k_steps
      unfold Stop
      walk_at "MyKey"
      k_steps
      unfold Stop
      (rename News _ _ _ _ => NN2); (rename Fr _ _ _ _ => FF2)
      refine LCp.SrcLP.ledger (by rfl) FF2 NN2 (by k_mem) (by rw [List.size_toArray, sizeLine_eq]; omega) ?_
      intro g2
      refine comp_invP (CJ _ [] (row16 ps)) (CJ.start _ _ _) ?turn2 ?fin2
      case turn2 =>
        clear NN2 FF2
        intro i zs nw v hi hJ hv
        obtain ⟨pts2, rfl, hlt2, hP2⟩ := hJ
        obtain ⟨hk, a2, t2, u2, c2, rfl, hm2⟩ := pts_at hP hv
        refine ⟨a2, _, _, _, _, rfl, (by k_mem), rfl, rfl, ?_⟩
        intro I oI C oC D2 m₂ h tk E' hC' hx hx2 F N off2 ne
        try k_fold
        k_steps
        refine comp_end_new (p := (16 * (ps.getD i (0, 0)).1, 16 * (ps.getD i (0, 0)).2)) (by assumption) (by assumption) (ktn_ltOf (by assumption)) off2 (.inr ⟨_, by k_mem, rfl, _, rfl⟩) hlt2 hP2 (row16_get hk) ⟨_, _, _, rfl⟩
      case fin2 =>
        clear NN2 FF2
        intro zs nw hJ
        obtain ⟨pts2, rfl, hlt2, hP2⟩ := hJ
        have hP3 : PtsIn (pts2 ++ []) zs (row16 ps) := by rw [List.take_of_length_le (by rw [row16_len, List.size_toArray]; omega)] at hP2; exact hP2
        rw [List.append_nil] at hP3
        clear hP2
        unfold LCg.FinE
        intro D2 h2 tk2 F2 N2 off2
        try k_fold
        k_steps))
end Mine

theorem PySem.Challenge.cw_xm0700_01_holds : PySem.Challenge.rw_xm0700_01.Holds :=
  Mine.x0
