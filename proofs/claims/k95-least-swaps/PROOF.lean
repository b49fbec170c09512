import PyProof.Rows.All
import Wide.All
import OpenK.AllK
import Wide.FinOn
import HandS.ForMost
import HandS.TupAny
import HandS.SortOrd
import HandS.TupLen
import HandS.Conv
import HandS.Strs
import KE.KDictDisplayH
import KE.GoesEnum
import PyProof.SeqIndex
import HandS.Set
import HandS.SetFor
import PyProof.Rows.SortStr
import HandS.SortRule
import HandS.DictTup
import HandS.Walk
import KE.KDictSum
import KE.KSortTup
import PyProof.EnumMake
import HandS.Defaults
import PyProof.Rows.SortShell
import PyProof.TupleOfSeq
import HandS.Style
import HandS.Wide
import HandS.Zip
import HandS.RaiseMore
import PySem.Challenge.RW_deepedge_k95_whole_least_swaps_by_search
set_option Elab.async false
section
set_option autoImplicit false
/-! K95M: the plain side of law k95: stacks are lists of numbers. -/
namespace K95

/-! ### one swap -/
def swp (p : List Nat) (far : Nat) : List Nat :=
  p.take (p.length - 1 - far) ++ [p.getD (p.length - 1) 0] ++ (p.drop (p.length - 1 - far + 1)).take (far - 1) ++ [p.getD (p.length - 1 - far) 0]

/-! ### the levels -/
abbrev Fnd := List (List Nat × Nat)
def look (fs : Fnd) (p : List Nat) : Option Nat := (fs.find? fun e => e.1 == p).map (·.2)
abbrev LSt := Fnd × List (List Nat)
def stepFar (one : List Nat) (st : LSt) (far : Nat) : LSt :=
  if (look st.1 (swp one far)).isSome then st else (st.1 ++ [(swp one far, (look st.1 one).getD 0 + 1)], st.2 ++ [swp one far])
def fars (high : Nat) : List Nat := (List.range (high - 1)).map (· + 1)
def stepOne (high : Nat) (st : LSt) (one : List Nat) : LSt := (fars high).foldl (stepFar one) st
def stepLevel (high : Nat) (st : LSt) : LSt := st.2.foldl (stepOne high) (st.1, [])
def iterL (high : Nat) : Nat → LSt → LSt
  | 0, st => st
  | k + 1, st => iterL high k (stepLevel high st)
def startL (n : Nat) : LSt := ([(List.range n, 0)], [List.range n])
def levels (n high : Nat) : LSt := iterL high 10 (startL n)

/-! ### places -/
def idx (p : List Nat) (x c : Nat) : Option Nat := (List.range p.length).find? fun j => decide (c ≤ j) && (p[j]? == some x)

/-! ### cycles -/
def cyc (p q : List Nat) (c : Nat) : Nat → List Nat → Nat → Option (List Nat)
  | 0, _, _ => none
  | k + 1, found, later => if later = c then some found else
    match idx p (q.getD later 0) c with
    | none => none
    | some j => cyc p q c k (found ++ [later]) j
def cycleFrom (p q : List Nat) (c : Nat) : Option (List Nat) :=
  match idx p (q.getD c 0) c with
  | none => none
  | some j => cyc p q c 10 [c] j
def cycStep (p q : List Nat) (acc : List (List Nat)) (cell : Nat) : Option (List (List Nat)) :=
  if p.getD cell 0 ≠ q.getD cell 0 ∧ cell ∉ acc.flatten then (cycleFrom p q cell).map fun c => acc ++ [c] else some acc
def runC (p q : List Nat) : List Nat → List (List Nat) → Option (List (List Nat))
  | [], acc => some acc
  | c :: cs, acc => match cycStep p q acc c with
    | none => none
    | some a => runC p q cs a
def cellsFrom (low n : Nat) : List Nat := (List.range (n - low)).map (low + ·)
def okN (n x : Nat) : Bool := decide (x < n) || decide (x = 7)
def nodupB : List Nat → Bool
  | [] => true
  | x :: xs => !xs.contains x && nodupB xs
/-- none: this side says nothing of the pair -/
def pairM (p q : List Nat) (low : Nat) : Option Bool :=
  if p.length = q.length ∧ p.all (okN p.length) = true ∧ q.all (okN p.length) = true ∧ nodupB (p.drop low) = true ∧ 1 ≤ p.length ∧ p.length ≤ 40 then
    if p.take low = q.take low then (if (p.drop low).isPerm (q.drop low) then some true else none) else some false
  else none
def cyclesM (p q : List Nat) (r : Nat) : Option (Option (List (List Nat))) :=
  match pairM p q (p.length - (r + 1)) with
  | none => none
  | some false => some none
  | some true => match runC p q (cellsFrom (p.length - (r + 1)) p.length) [] with
    | none => none
    | some cs => some (some cs)
def swapsFor (cs : List (List Nat)) (top : Nat) : Int := (cs.map fun c => (c.length : Int) + 1).sum - 2 * ((cs.filter fun c => c.contains top).length : Int)
def turned (c : List Nat) (top : Nat) : List Nat :=
  match idx c top 0 with
  | some j => (c.drop (j + 1) ++ c.take j).reverse
  | none => [c.getD 0 0] ++ (c.drop 1).reverse ++ [c.getD 0 0]
def cellsOf (cs : List (List Nat)) (top : Nat) : List Nat := cs.flatMap fun c => turned c top
def leastM (p q : List Nat) (r : Nat) : Option (Option (Int × List Nat)) :=
  match cyclesM p q r with
  | none => none
  | some none => some none
  | some (some cs) => some (some (swapsFor cs (p.length - 1), cellsOf cs (p.length - 1)))

/-! ### what the law asks of one goal -/
def okRow (n : Nat) (p : List Nat) : Bool := decide (p.length = n) && p.all fun x => decide (x < n)
def follow (n span : Nat) (q : List Nat) (due : Int) : List Nat → Int → List Nat → Bool
  | [], _, row => decide (row = q)
  | c :: cs, k, row => decide (c + 1 < n) && decide (n ≤ c + 1 + span) && okRow n (swp row (n - 1 - c)) &&
    (match leastM (swp row (n - 1 - c)) q span with
      | some (some (x, _)) => decide (x = due - 1 - k)
      | _ => false) && follow n span q due cs (k + 1) (swp row (n - 1 - c))
def rightM (n span : Nat) (q : List Nat) (due : Nat) : Bool :=
  match leastM (List.range n) q span with
  | some (some (x, cells)) => decide (x = due) && decide (cells.length = due) && decide (due ≤ 100) && follow n span q due cells 0 (List.range n)
  | _ => false
def most (c : Int) : Int := 3 * (c - 1) / 2
def okAll (n span : Nat) : Bool :=
  decide ((levels n (min n (span + 1))).2 = []) && ((levels n (min n (span + 1))).1.all fun e => rightM n span e.1 e.2) &&
  ((levels n (min n (span + 1))).1.all fun e => decide ((e.2 : Int) ≤ most (min n (span + 1) : Nat))) && ((levels n (min n (span + 1))).1.any fun e => decide ((e.2 : Int) = most (min n (span + 1) : Nat))) &&
  decide ((levels n (min n (span + 1))).1.length ≤ 120) && ((levels n (min n (span + 1))).1.all fun e => decide (look (levels n (min n (span + 1))).1 e.1 = some e.2)) &&
  (decide (n ≤ min n (span + 1)) || (match leastM (List.range n) (7 :: (List.range n).drop 1) span with
    | some none => true
    | _ => false))

set_option maxRecDepth 100000 in
theorem ok_1_2 : okAll 1 2 = true := by decide +kernel
set_option maxRecDepth 100000 in
theorem ok_1_3 : okAll 1 3 = true := by decide +kernel
set_option maxRecDepth 100000 in
theorem ok_1_4 : okAll 1 4 = true := by decide +kernel
set_option maxRecDepth 100000 in
theorem ok_2_2 : okAll 2 2 = true := by decide +kernel
set_option maxRecDepth 100000 in
theorem ok_2_3 : okAll 2 3 = true := by decide +kernel
set_option maxRecDepth 100000 in
theorem ok_2_4 : okAll 2 4 = true := by decide +kernel
set_option maxRecDepth 100000 in
theorem ok_3_2 : okAll 3 2 = true := by decide +kernel
set_option maxRecDepth 100000 in
theorem ok_3_3 : okAll 3 3 = true := by decide +kernel
set_option maxRecDepth 100000 in
theorem ok_3_4 : okAll 3 4 = true := by decide +kernel
set_option maxRecDepth 100000 in
theorem ok_4_2 : okAll 4 2 = true := by decide +kernel
set_option maxRecDepth 100000 in
theorem ok_4_3 : okAll 4 3 = true := by decide +kernel
set_option maxRecDepth 100000 in
theorem ok_4_4 : okAll 4 4 = true := by decide +kernel
set_option maxRecDepth 100000 in
theorem ok_5_2 : okAll 5 2 = true := by decide +kernel
set_option maxRecDepth 100000 in
theorem ok_5_3 : okAll 5 3 = true := by decide +kernel
set_option maxRecDepth 100000 in
theorem ok_5_4 : okAll 5 4 = true := by decide +kernel
set_option maxRecDepth 100000 in
theorem ok_6_2 : okAll 6 2 = true := by decide +kernel
set_option maxRecDepth 100000 in
theorem ok_6_3 : okAll 6 3 = true := by decide +kernel
set_option maxRecDepth 100000 in
theorem ok_6_4 : okAll 6 4 = true := by decide +kernel
set_option maxRecDepth 100000 in
theorem ok_7_2 : okAll 7 2 = true := by decide +kernel
set_option maxRecDepth 100000 in
theorem ok_7_3 : okAll 7 3 = true := by decide +kernel
set_option maxRecDepth 100000 in
theorem ok_7_4 : okAll 7 4 = true := by decide +kernel
theorem ok_of {n span : Nat} (h1 : 1 ≤ n) (h7 : n ≤ 7) (hs : span ∈ [2, 3, 4]) : okAll n span = true := by
  have hn : n = 1 ∨ n = 2 ∨ n = 3 ∨ n = 4 ∨ n = 5 ∨ n = 6 ∨ n = 7 := by omega
  have hp : span = 2 ∨ span = 3 ∨ span = 4 := by
    simp only [List.mem_cons, List.not_mem_nil, or_false] at hs
    exact hs
  rcases hn with rfl | rfl | rfl | rfl | rfl | rfl | rfl
  · rcases hp with rfl | rfl | rfl
    · exact ok_1_2
    · exact ok_1_3
    · exact ok_1_4
  · rcases hp with rfl | rfl | rfl
    · exact ok_2_2
    · exact ok_2_3
    · exact ok_2_4
  · rcases hp with rfl | rfl | rfl
    · exact ok_3_2
    · exact ok_3_3
    · exact ok_3_4
  · rcases hp with rfl | rfl | rfl
    · exact ok_4_2
    · exact ok_4_3
    · exact ok_4_4
  · rcases hp with rfl | rfl | rfl
    · exact ok_5_2
    · exact ok_5_3
    · exact ok_5_4
  · rcases hp with rfl | rfl | rfl
    · exact ok_6_2
    · exact ok_6_3
    · exact ok_6_4
  · rcases hp with rfl | rfl | rfl
    · exact ok_7_2
    · exact ok_7_3
    · exact ok_7_4
end K95
end

section
set_option autoImplicit false
/-! K95N: plain facts of the levels. -/
namespace K95
theorem swp_len {p : List Nat} {far : Nat} (h1 : 1 ≤ far) (h2 : far < p.length) : (swp p far).length = p.length := by
  unfold swp
  rw [List.length_append, List.length_append, List.length_append, List.length_take, List.length_take, List.length_drop]
  show min (p.length - 1 - far) p.length + 1 + min (far - 1) (p.length - (p.length - 1 - far + 1)) + 1 = p.length
  omega
theorem getD_in {p : List Nat} {i : Nat} (h : i < p.length) : p.getD i 0 ∈ p := by
  rw [List.getD_eq_getElem?_getD, List.getElem?_eq_getElem h]
  exact List.getElem_mem h
theorem swp_all {n : Nat} {p : List Nat} {far : Nat} (h : p.all (okN n) = true) (h2 : far < p.length) : (swp p far).all (okN n) = true := by
  rw [List.all_eq_true] at h ⊢
  intro x hx
  unfold swp at hx
  rcases List.mem_append.mp hx with hx | hx
  · rcases List.mem_append.mp hx with hx | hx
    · rcases List.mem_append.mp hx with hx | hx
      · exact h x (List.mem_of_mem_take hx)
      · rw [List.mem_singleton.mp hx]
        exact h _ (getD_in (by omega))
    · exact h x (List.mem_of_mem_drop (List.mem_of_mem_take hx))
  · rw [List.mem_singleton.mp hx]
    exact h _ (getD_in (by omega))
theorem fars_at {high i : Nat} (h : i < high - 1) : (fars high).drop i = (1 + i) :: (fars high).drop (i + 1) := by
  have hl : (fars high).length = high - 1 := by simp [fars]
  rw [List.drop_eq_getElem_cons (by rw [hl]; exact h)]
  simp [fars, Nat.add_comm]
theorem fars_end {high : Nat} : (fars high).drop (high - 1) = [] := by
  have hl : (fars high).length = high - 1 := by simp [fars]
  exact List.drop_of_length_le (by rw [hl]; exact Nat.le_refl _)
theorem look_app {fs gs : Fnd} {p : List Nat} (h : (look fs p).isSome = true) : look (fs ++ gs) p = look fs p := by
  unfold look at h ⊢
  rw [List.find?_append]
  cases e : fs.find? fun e => e.1 == p with
  | none => rw [e] at h; cases h
  | some x => rfl
theorem look_self {fs : Fnd} {p : List Nat} {v : Nat} : (look (fs ++ [(p, v)]) p).isSome = true := by
  unfold look
  rw [List.find?_append]
  cases e : fs.find? fun e => e.1 == p with
  | none => simp
  | some x => rfl
/-! ### lengths only grow -/
theorem len_far {one : List Nat} {st : LSt} {far : Nat} : st.1.length ≤ (stepFar one st far).1.length := by
  unfold stepFar
  by_cases h : (look st.1 (swp one far)).isSome = true
  · rw [if_pos h]
    exact Nat.le_refl _
  · rw [if_neg h]
    show st.1.length ≤ (st.1 ++ [_]).length
    rw [List.length_append]
    exact Nat.le_add_right _ _
theorem len_fars {one : List Nat} : ∀ {l : List Nat} {st : LSt}, st.1.length ≤ (l.foldl (stepFar one) st).1.length
  | [], _ => Nat.le_refl _
  | _ :: _, _ => Nat.le_trans len_far len_fars
theorem len_ones {high : Nat} : ∀ {l : List (List Nat)} {st : LSt}, st.1.length ≤ (l.foldl (stepOne high) st).1.length
  | [], _ => Nat.le_refl _
  | _ :: _, _ => Nat.le_trans len_fars len_ones
theorem len_iter {high : Nat} : ∀ {k : Nat} {st : LSt}, st.1.length ≤ (iterL high k st).1.length
  | 0, _ => Nat.le_refl _
  | k + 1, st => Nat.le_trans (len_ones (l := st.2) (st := (st.1, []))) (len_iter (k := k))
theorem iter_nil {high : Nat} : ∀ {k : Nat} {fs : Fnd}, iterL high k (fs, []) = (fs, [])
  | 0, _ => rfl
  | k + 1, fs => iter_nil (k := k)
/-! ### what stands throughout -/
def Row (n : Nat) (p : List Nat) : Prop := p.length = n ∧ p.all (okN n) = true
def Good (n : Nat) (lev : List (List Nat)) (st : LSt) : Prop := (∀ e ∈ st.1, Row n e.1) ∧ (∀ q ∈ lev, (look st.1 q).isSome = true ∧ Row n q) ∧ (∀ q ∈ st.2, (look st.1 q).isSome = true ∧ Row n q) ∧ st.2.length ≤ st.1.length
theorem good_new {n : Nat} {lev : List (List Nat)} {st : LSt} {one : List Nat} {far v : Nat} (g : Good n lev st) (h : Row n one) (h1 : 1 ≤ far) (h2 : far < n) : Good n lev (st.1 ++ [(swp one far, v)], st.2 ++ [swp one far]) := by
  obtain ⟨g1, g2, g3, g4⟩ := g
  have r : Row n (swp one far) := ⟨by rw [swp_len h1 (by rw [h.1]; exact h2)]; exact h.1, swp_all h.2 (by rw [h.1]; exact h2)⟩
  refine ⟨fun e he => ?_, fun q hq => ⟨?_, (g2 q hq).2⟩, fun q hq => ?_, ?_⟩
  · rcases List.mem_append.mp he with he | he
    · exact g1 e he
    · rw [List.mem_singleton.mp he]
      exact r
  · show (look (st.1 ++ _) q).isSome = true
    rw [look_app (g2 q hq).1]
    exact (g2 q hq).1
  · rcases List.mem_append.mp hq with hq | hq
    · refine ⟨?_, (g3 q hq).2⟩
      show (look (st.1 ++ _) q).isSome = true
      rw [look_app (g3 q hq).1]
      exact (g3 q hq).1
    · rw [List.mem_singleton.mp hq]
      exact ⟨look_self, r⟩
  · show (st.2 ++ [_]).length ≤ (st.1 ++ [_]).length
    rw [List.length_append, List.length_append]
    exact Nat.add_le_add_right g4 1
end K95
end

section
set_option Elab.async false
set_option linter.all false
set_option maxRecDepth 100000
set_option maxHeartbeats 4000000
/-! K95R: rules over the hand layer that this law needs besides. -/
namespace K95R
open PySem PySem.Spec PyProof.Rows L2

/-! ### tuples that are known to have no dict of their own: their methods can be called -/
def TupN (H : Hp) (p : Addr) (xs : List V) : Prop := ∃ ob : Obj, H p = some (.frz ob (.tup xs)) ∧ ob.dict = none
theorem TupN.sq {K : PySem.W.Frag} {H : Hp} {p : Addr} {xs : List V} (t : TupN H p xs) : SqT K H p xs :=
  let ⟨ob, e, _⟩ := t
  .inl (.inr ⟨ob, e⟩)
theorem TupN.same {H H' : Hp} {p : Addr} {xs : List V} (t : TupN H p xs) (s : Same H H') : TupN H' p xs :=
  let ⟨ob, e, d⟩ := t
  ⟨ob, s _ _ e, d⟩
theorem TupN.new {H : Hp} {p : Addr} {xs : List V} {ob : Obj} (d : ob.dict = none) : TupN (upd H p (.frz ob (.tup xs))) p xs := ⟨ob, upd_same, d⟩
section
variable {X : Cx}
/-- tuple(list), the new tuple known as it is -/
theorem cr_tupleN : CallR X (.type "tuple") (fun xs H Q => ∃ p ys, xs = [.ref p] ∧ SqL X.K H p ys ∧ ∀ l ob, H l = none → ob.dict = none → Q (.ref l) (upd H l (.frz ob (.tup ys)))) := by
  intro pins s σ H xs us Q I r h
  obtain ⟨p, ys, rfl, hq, q⟩ := h
  obtain ⟨u, rfl, ru⟩ := vals1 r
  obtain rfl : u = Value.ref p := ru
  obtain ⟨its, rv, pl, hz⟩ := I.list hq
  have hl := rv.length
  refine call_tuple_list pl.isList (fun g kp => ?_) (by simp only [List.size_toArray] <;> omega)
  have I1 : Inv X pins σ H { s with heap := g } := I.kept (t' := s.toks) kp
  have e : (g.push { cls := .type "tuple", data := .seq its.toArray }).get? g.objs.size = some { cls := .type "tuple", data := .seq its.toArray } := Heap.get?_push_size _ rfl
  have I2 : Inv X pins σ (upd H g.objs.size (.frz { cls := .type "tuple", data := .seq its.toArray } (.tup ys))) { s with heap := g.push { cls := .type "tuple", data := .seq its.toArray } } :=
    I1.laid (t' := s.toks) (fun b o z => Heap.get?_push_of_some _ z) (Nat.le_refl _) ⟨e, hz, its, rv, IsTup.new _ _⟩
  exact ⟨.ref g.objs.size, _, I2, rfl, q _ _ (I1.hok.fresh (Nat.le_refl _)) rfl⟩
/-- t + u, neither empty, the new tuple known as it is -/
theorem op_catN : OpR X (binaryOp .Add) (fun x y H Q => ∃ a b xs ys, x = .ref a ∧ y = .ref b ∧ SqT X.K H a xs ∧ SqT X.K H b ys ∧ xs ≠ [] ∧ ys ≠ [] ∧ xs.length + ys.length ≤ sizeLine ∧
    ∀ p ob, H p = none → ob.dict = none → Q (.ref p) (upd H p (.frz ob (.tup (xs ++ ys))))) := by
  intro pins s σ H x y v u Q I rx ry h
  obtain ⟨a, b, xs, ys, rfl, rfl, ha, hb, hx, hy, hz, q⟩ := h
  cases rx
  cases ry
  obtain ⟨its, r1, p1, _⟩ := I.tuple ha
  obtain ⟨jts, r2, p2, _⟩ := I.tuple hb
  refine HT.cat_tup p1 p2 (fun c => hx (r1.nil_iff.mp c)) (fun c => absurd (r2.nil_iff.mp c) hy) (fun _ => ?_) (by rw [← r1.length, ← r2.length]; exact hz)
  have e : (s.heap.push { cls := .type "tuple", data := .seq (its ++ jts).toArray }).get? s.heap.objs.size = some { cls := .type "tuple", data := .seq (its ++ jts).toArray } := Heap.get?_push_size _ rfl
  refine ⟨.ref s.heap.objs.size, _, I.laid (t' := s.toks) (o := .frz { cls := .type "tuple", data := .seq (its ++ jts).toArray } (.tup (xs ++ ys))) (fun b ob z => Heap.get?_push_of_some _ z) (Nat.le_refl _) ?_, rfl, q _ _ (I.hok.fresh (Nat.le_refl _)) rfl⟩
  exact ⟨e, by rw [List.length_append]; exact hz, _, r1.append r2, IsTup.new _ _⟩
/-- a method of such a tuple -/
def tTM (r : V → List V → Hp → VK → Prop) (to : TE) (t : TA) : TE := fun σ H Q => to σ H fun x H1 => (∃ p xs, x = .ref p ∧ TupN H1 p xs) ∧ t σ H1 fun vs H2 => r x vs H2 Q
theorem pe_tm {id : String} {name : Str} {r : V → List V → Hp → VK → Prop} {o e : Expr} {es : List Expr} {to : TE} {t : TA} {apos cpos : Pos} (slot : Slot "tuple" name id) (hty : typeOf (.builtin id) = pure (.type "method_descriptor"))
    (hm : MtR X id r) (ho : PE X o to) (ha : PA X (e :: es) t) (hbase : attributeBase o name X.env (eval o X.env) = eval o X.env := by rfl)
    (hfew : ((backTo cpos (starEach (e :: es) X.env)).all (fun z => !z.1) && (backToKw cpos (keywordEach [] X.env)).all (fun z => z.1.isSome) && decide ((e :: es).length + ([] : List Keyword).length + (if ([] : List Keyword).isEmpty then 0 else 1) < 30)) = true := by rfl)
    (hline : (apos.endLine == cpos.line) = true := by rfl) (hs : starEach (e :: es) X.env = (false, eval e X.env) :: starEach es X.env := by rfl) (hp : (backTo cpos (starEach es X.env)).any (·.1) = false := by rfl) :
    PE X (.Call (.Attribute o name apos) (e :: es) [] cpos) (tTM r to t) := by
  refine ⟨fun pins s σ H Q I h => ?_⟩
  refine wpAny_Call_method_late hbase hfew hline rfl (thn (ho.run pins s σ H _ I h) fun v s1 ⟨x, H1, I1, r1, ⟨p, xs, ex, ob, hp1, hd⟩, q1⟩ => ?_)
  subst ex
  obtain rfl : v = Value.ref p := r1
  obtain ⟨ho1, _, its, _, ob2, ho2, hc2, _⟩ := I1.hok p _ hp1
  rw [ho1] at ho2
  cases ho2
  refine ⟨"tuple", id, PySem.F.plainAttrs_tuple, slot, hty, ⟨ob, ho1, hc2⟩, fun a e => by cases e; exact ⟨ob, ho1, hd⟩, ?_⟩
  have hA := ha.run cpos pins s1 σ H1 _ I1 q1
  rw [hs] at hA ⊢
  refine Calls.callWith_builtin (by show (false || (backTo cpos (starEach es X.env)).any (·.1)) = false; rw [hp] <;> rfl) (Calls.evalArgs_plain ?_)
  exact thn hA fun us s2 ⟨vs, H2, I2, r2, q2⟩ => hm pins s2 σ H2 (.ref p) vs (.ref p) us Q I2 rfl r2 q2
end

/-! ### t.index(y), t.index(y, c) -/
def hits (ys : List V) (y : V) (j : Nat) : Bool := match ys[j]? with
  | some z => eqV z y
  | none => false
section
variable {X : Cx} {pins : List (Addr × Obj)} {σ : L2.St} {H : Hp} {s : Shared}
theorem hit_at {A : Around} {ys : List V} {y : V} {its : List Value} {u : Value} (rv : Vals ys its) (ry : RelV y u) (fy : flatV y = true) (fs : ys.all flatV = true) (j : Nat) (hj : j < its.toArray.size) :
    SeqAt.EqAt A s its.toArray[j] u (hits ys y j) := by
  have hj' : j < ys.length := by rw [rv.length]; simpa using hj
  obtain ⟨w, hw, rw'⟩ := rv.get (i := j) (List.getElem?_eq_getElem hj')
  have e : its.toArray[j] = w := by
    have := (List.getElem?_eq_some_iff.mp hw).2
    simpa using this
  have f1 : flatV ys[j] = true := List.all_eq_true.mp fs _ (List.getElem_mem hj')
  unfold hits
  rw [e, List.getElem?_eq_getElem hj']
  exact eqAt_V rw' ry f1 fy
theorem mt_idx2 : MtR X "tuple.index" (fun x xs H Q => ∃ (p : Addr) (ys : List V) (y : V) (c j : Nat), x = .ref p ∧ xs = [y, .int (c : Int)] ∧ SqT X.K H p ys ∧ flatV y = true ∧ ys.all flatV = true ∧ c ≤ j ∧ hits ys y j = true ∧
    (∀ m, c ≤ m → m < j → hits ys y m = false) ∧ Q (.int (j : Int)) H) := by
  intro pins s σ H x xs v us Q I rx rs h
  obtain ⟨p, ys, y, c, j, rfl, rfl, hq, fy, fs, hcj, hit, hno, q⟩ := h
  cases rx
  obtain ⟨u, u2, rfl, ru, ru2⟩ := vals2 rs
  obtain ⟨t, rfl⟩ := ru2
  obtain ⟨its, rv, ⟨⟨cls, dd, dt, sl⟩, ho, hc, n, hd⟩, hz⟩ := I.tuple hq
  simp only at hc hd
  subst hc
  subst hd
  have hj : j < its.toArray.size := by
    have : j < ys.length := by
      unfold hits at hit
      cases e : ys[j]? with
      | none => rw [e] at hit; cases hit
      | some z => exact (List.getElem?_eq_some_iff.mp e).1
    have := rv.length
    simp only [List.size_toArray]
    omega
  refine call_meets PySem.F.slot_tuple_index ⟨_, ho, rfl⟩ PySem.F.entry_tuple_index (PySem.F.args_tuple_index_3 _ _ _)
    (SeqAt.tuple_index3_found p its.toArray n dd sl u (hits ys y) c t j hj (by rw [SeqAt.searchFrom_nat]; exact hcj) hj hit (fun m _ h1 h2 => hno m (by rw [SeqAt.searchFrom_nat] at h1; exact h1) h2))
    ⟨ho, fun m hm => hit_at rv ru fy fs m hm, ⟨.int (j : Nat), H, I.tok _, ⟨_, rfl⟩, q⟩⟩
theorem mt_idx1 : MtR X "tuple.index" (fun x xs H Q => ∃ (p : Addr) (ys : List V) (y : V) (j : Nat), x = .ref p ∧ xs = [y] ∧ SqT X.K H p ys ∧ flatV y = true ∧ ys.all flatV = true ∧ hits ys y j = true ∧
    (∀ m, m < j → hits ys y m = false) ∧ Q (.int (j : Int)) H) := by
  intro pins s σ H x xs v us Q I rx rs h
  obtain ⟨p, ys, y, j, rfl, rfl, hq, fy, fs, hit, hno, q⟩ := h
  cases rx
  obtain ⟨u, rfl, ru⟩ := vals1 rs
  obtain ⟨its, rv, ⟨⟨cls, dd, dt, sl⟩, ho, hc, n, hd⟩, hz⟩ := I.tuple hq
  simp only at hc hd
  subst hc
  subst hd
  have hj : j < its.toArray.size := by
    have : j < ys.length := by
      unfold hits at hit
      cases e : ys[j]? with
      | none => rw [e] at hit; cases hit
      | some z => exact (List.getElem?_eq_some_iff.mp e).1
    have := rv.length
    simp only [List.size_toArray]
    omega
  refine call_meets PySem.F.slot_tuple_index ⟨_, ho, rfl⟩ PySem.F.entry_tuple_index (PySem.F.args_tuple_index_2 _ _)
    (SeqAt.tuple_index2_found p its.toArray n dd sl u (hits ys y) j hj (Nat.zero_le _) hj hit (fun m _ _ h2 => hno m h2))
    ⟨ho, fun m hm => hit_at rv ru fy fs m hm, ⟨.int (j : Nat), H, I.tok _, ⟨_, rfl⟩, q⟩⟩
end

/-! ### d.update(pairs) -/
section
variable {X : Cx}
theorem mt_update (hc : X.calm = true) : MtR X "dict.update" (fun x xs H Q => ∃ (d a : Addr) (old : List (Key × V)) (ps : List Addr) (kvs : List (Key × V)), x = .ref d ∧ xs = [.ref a] ∧ H d = some (.dK old) ∧ SqL X.K H a (ps.map V.ref) ∧
    Paired (fun p kv => SqT X.K H p [kV kv.1, kv.2]) ps kvs ∧ old.length + kvs.length ≤ 1000 ∧ Q .non (upd H d (.dK (mergeK old kvs)))) := by
  intro pins s σ H x xs v us Q I rx rs h
  obtain ⟨d, a, old, ps, kvs, rfl, rfl, hd, ha, hp, hz, q⟩ := h
  cases rx
  obtain ⟨u, rfl, ru⟩ := vals1 rs
  obtain rfl : u = Value.ref a := ru
  obtain ⟨its, rv, ⟨ol, nl, hol, hcl, hdl, hdat⟩, _⟩ := I.list ha
  have ei := refs_at rv
  subst ei
  obtain ⟨prs, rel, hl, hpr⟩ := pairs_of I hp
  obtain ⟨z, hm, vs, rel0, dd⟩ := dk_of I.hok hd
  have hda : d ≠ a := by
    intro e
    subst e
    have e1 := dd.typeIs
    obtain ⟨o1, h1, h2⟩ := e1
    rw [hol] at h1
    cases h1
    rw [hcl] at h2
    exact absurd (Value.type.inj h2) (by decide)
  have hz1 : vs.length + prs.length ≤ 1000 := by
    have e1 := rel0.length
    have e2 := rel.length
    omega
  refine call_meetsIn PySem.F.slot_dict_update dd.typeIs PySem.F.entry_dict_update (PySem.F.args_dict_update_2 _ _)
    (S := fun A' R s' => A' = X.A ∧ s = s' ∧ ∀ h' tk, h'.DictOf (mixKind X.prog X.w) d (merged vs prs) → (∀ b o, b ≠ d → s.heap.get? b = some o → h'.get? b = some o) → R (.ok (.ret .none)) { s with heap := h', toks := tk })
    (fun A' R s' hS => ?_) ⟨rfl, rfl, fun h' tk hd' k => ?_⟩
  · obtain ⟨rfl, rfl, hq⟩ := hS
    refine meets_dict_update_arg dd.typeIs ?_
    unfold Builtin.Dict.updateFrom
    refine wpAny_bind (wpAny_typeOf (T := "list") ⟨ol, hol, hcl⟩ ?_)
    rw [if_pos (by first | decide | rfl | simp)]
    refine wpAny_bind (miss_list hol hcl hdat hdl (I.ok.hd hc) fun h1 tk1 hk1 => ?_)
    rw [if_pos (show (none : Option Value).isNone = true from rfl)]
    refine wpAny_bind (wpAny_rule ?_)
    have hl1 : h1.IsList a (ps.map Value.ref).toArray := ⟨ol, hk1 _ _ hol, hcl, nl, hdat⟩
    have dd1 : h1.DictOf (mixKind X.prog X.w) d vs := dd.at fun o e => hk1 _ _ e
    have hd1 : d < h1.objs.size := by
      obtain ⟨_, _, _, e, _⟩ := dd1
      exact Heap.lt_size e
    have ha1 : a < h1.objs.size := Heap.lt_size (hk1 _ _ hol)
    refine wpAny_bind (wpAny_pyIter_list hl1 ?_)
    have k2 : ∀ b o, h1.get? b = some o → (h1.push { cls := .type "list_iterator", data := .fields #[.ref a, .int 0 0] }).get? b = some o := fun b o e => Heap.get?_push_of_some _ e
    have key := upd_loop (prog := X.prog) (w := X.w) (A := X.A) (R := R) (S := d) (I := h1.objs.size) (l := a) (items := (ps.map Value.ref).toArray) (res := Value.none) (I.ok.hd hc)
      (Nat.ne_of_lt ha1) (Nat.ne_of_lt hd1) hda prs 0 vs 0 0
      { s with heap := h1.push { cls := .type "list_iterator", data := .fields #[.ref a, .int 0 0] }, toks := tk1 } (by simp [hl]) (by rw [sizeLine_eq]; omega)
      (fun j q e => by
        obtain ⟨b, u, e1, e2, e3⟩ := hpr j q e
        refine ⟨b, u, by simp [e1], fun c => ?_, Nat.ne_of_lt (Heap.lt_size (hk1 _ _ e2.choose_spec.1)), e2.keeps fun c o z => k2 _ _ (hk1 _ _ z), e3⟩
        subst c
        obtain ⟨o1, f1, f2, _⟩ := e2
        obtain ⟨o2, f3, f4⟩ := dd.typeIs
        rw [f1] at f3
        cases f3
        rw [f2] at f4
        exact absurd (Value.type.inj f4) (by decide))
      ⟨_, Heap.get?_push_size _ rfl, rfl, rfl⟩ (hl1.at fun o e => k2 _ _ e) (dd1.at fun o e => k2 _ _ e)
      (fun h' tk hd' k => hq h' tk hd' fun b o h3 e => k b o h3 (Nat.ne_of_lt (Heap.lt_size (hk1 _ _ e))) (k2 _ _ (hk1 _ _ e)))
    first
      | exact wpAny_pure ⟨plainId_quiet ud_plain _, key⟩
      | exact wpAny_bind (wpAny_pure (wpAny_pure ⟨plainId_quiet ud_plain _, key⟩))
  · have hlen : (mergeK old kvs).length ≤ sizeLine := by
      have := length_mergeK kvs old
      rw [sizeLine_eq]
      omega
    obtain ⟨ob, hob⟩ : ∃ ob, h'.get? d = some ob := let ⟨o, _, _, e, _⟩ := hd'; ⟨o, e⟩
    refine ⟨.non, upd H d (.dK (mergeK old kvs)), I.write (x := d) (e := d) (t' := tk) (by rw [hd]; trivial) (.inl rfl) (fun b u hb e => k b u hb e) ⟨ob, hob⟩ ⟨hlen, hm, _, KV.merge rel rel0, hd'⟩, rfl, q⟩
end
end K95R
end

section
set_option Elab.async false
set_option linter.all false
set_option maxRecDepth 100000
set_option maxHeartbeats 4000000
/-! K95S: sets of texts, made of a tuple and sorted; told by a list of members, any world's order. -/
namespace K95S
open PySem PySem.Spec PyProof.Rows L2

/-- the text of a member -/
def txt (z : Int × Value) : Str := match z.2 with
  | .str y _ => y
  | _ => Str.empty
/-- a member: a text beside its hash -/
def IsM (w : World) (z : Int × Value) : Prop := ∃ (y : Str) (u : Tok), z.2 = Value.str y u ∧ z.1 = hashStr w y
/-- at a stands a set whose members are the m texts that B tells -/
def TxS (w : World) (g : Heap) (a : Addr) (B : Str → Bool) (m : Nat) : Prop :=
  ∃ ob zs ep tb, g.get? a = some ob ∧ ob.ExactSet ∧ ob.data = .set zs ep tb ∧ (∀ z ∈ zs.toList, IsM w z) ∧ (zs.toList.map txt).Nodup ∧
    (∀ y, B y = true ↔ y ∈ zs.toList.map txt) ∧ zs.size < scanBound ∧ tb.fits zs.size = true ∧ zs.size = m ∧ Ris tb.place.toList ∧
    (w.params.followText "set-order" = true ∨ tb.led = true)
section
variable {P : Program} {w : World} {g g' : Heap} {a : Addr} {B : Str → Bool} {m : Nat}
theorem TxS.move (T : TxS w g a B m) (k : ∀ ob, g.get? a = some ob → g'.get? a = some ob) : TxS w g' a B m := by
  obtain ⟨ob, zs, ep, tb, e, rest⟩ := T
  exact ⟨ob, zs, ep, tb, k ob e, rest⟩
theorem TxS.same {B' : Str → Bool} (T : TxS w g a B m) (e : ∀ y, B' y = B y) : TxS w g a B' m := by
  have q : B' = B := funext e
  rw [q]
  exact T
theorem els {l : List (Int × Value)} (all : ∀ z ∈ l, IsM w z) : ElemsOf (strKind P w) l := fun z hz => by
  obtain ⟨y, u, e1, e2⟩ := all z hz
  exact ⟨⟨y, by rw [e1]; exact strKind_is _ _ _ _, e2⟩, by rw [e1] <;> rfl⟩
theorem is_txt {z : Int × Value} (h : IsM w z) (y : Str) : (strKind P w).is y z.2 = true ↔ txt z = y := by
  obtain ⟨x, u, e1, _⟩ := h
  unfold txt
  rw [e1]
  show ((x == y) = true) ↔ x = y
  exact beq_iff_eq
theorem mem_txt {l : List (Int × Value)} (all : ∀ z ∈ l, IsM w z) (y : Str) : y ∈ l.map txt ↔ ∃ z ∈ l, (strKind P w).is y z.2 = true := by
  rw [List.mem_map]
  constructor
  · rintro ⟨z, hz, e⟩
    exact ⟨z, hz, (is_txt (all z hz) y).2 e⟩
  · rintro ⟨z, hz, e⟩
    exact ⟨z, hz, (is_txt (all z hz) y).1 e⟩
end

section
variable {P : Program} {w : World} {A : Around} {E : Value → Shared → Prop} {s : Shared} {a : Addr} {B : Str → Bool} {m : Nat}
/-- what follows the laying of one more member -/
theorem tail_of {gw : Bool → Sem Unit} (hgw : ∀ (b : Bool) (s1 : Shared) (N : Unit → Shared → Prop), N () s1 → wpAny (model P w) A (gw b) N E s1)
    {ob : Obj} {zs : Array (Int × Value)} {ep : Nat} {tb : SetTable} (e0 : s.heap.get? a = some ob) (ex : ob.ExactSet) (dat : ob.data = .set zs ep tb)
    {ys : Array (Int × Value)} {t1 : SetTable} {B' : Str → Bool} (all : ∀ z ∈ ys.toList, IsM w z) (nd : (ys.toList.map txt).Nodup)
    (mem : ∀ y, B' y = true ↔ y ∈ ys.toList.map txt) (few : ys.size < scanBound) (fit : t1.fits ys.size = true) (ris : Ris t1.place.toList)
    (led : w.params.followText "set-order" = true ∨ t1.led = true) {dm : Bool} {R : Option Bool → Shared → Prop}
    (fin : ∀ g', Heap.SameBut a s.heap g' → TxS w g' a B' ys.size → R (some true) { s with heap := g' }) :
    wpAny (model P w) A (do
        storeSet a ys t1
        if (!dm && t1.tooFull) = true then do
            gw (relayAll t1 ys (SetTable.grown ys.size)).2.2
            storeSet a (relayAll t1 ys (SetTable.grown ys.size)).1 (relayAll t1 ys (SetTable.grown ys.size)).2.1
            pure (some true)
          else pure (some true)) R E s := by
  have at1 := store_at (es' := ys) (t' := t1) e0 dat
  have but1 := Heap.SameBut.update s.heap a (Obj.putSet ys t1)
  refine wpAny_bind (wpAny_storeSet_of e0 dat ?_ (fits_of_scanBound few))
  split
  · have p1 := relayAll_perm t1 ys (SetTable.grown ys.size)
    have p2 := relayAll_fits t1 ys (SetTable.grown ys.size)
    have p3 := relayAll_ris t1 ys (SetTable.grown ys.size)
    have p4 := relayAll_led t1 ys (SetTable.grown ys.size)
    generalize relayAll t1 ys (SetTable.grown ys.size) = W at p1 p2 p3 p4 ⊢
    obtain ⟨ys2, t2, gv⟩ := W
    dsimp only at p1 p2 p3 p4 ⊢
    have sz : ys2.size = ys.size := by rw [← Array.length_toList, p1.length_eq, Array.length_toList]
    have few2 : ys2.size < scanBound := by rw [sz]; exact few
    refine wpAny_bind (hgw _ _ _ (wpAny_bind (wpAny_storeSet_of at1 rfl ?_ (fits_of_scanBound few2))))
    have at2 := store_at (es' := ys2) (t' := t2) at1 rfl
    refine wpAny_pure (fin _ (but1.trans (Heap.SameBut.update _ a _)) ⟨_, ys2, _, t2, at2, ex, rfl, fun z hz => all z (p1.mem_iff.mp hz), (p1.map txt).nodup_iff.mpr nd, fun y => (mem y).trans (p1.map txt).mem_iff.symm, few2, p2, sz, p3, led.imp id fun q => by rw [p4]; exact q⟩)
  · exact wpAny_pure (fin _ but1 ⟨_, ys, _, t1, at1, ex, rfl, all, nd, mem, few, fit, rfl, ris, led⟩)

theorem add_of {y : Str} {u : Tok} {Q : Bool → Shared → Prop} (T : TxS w s.heap a B m) (room : m + 1 < scanBound)
    (fin : ∀ g', Heap.SameBut a s.heap g' → TxS w g' a (fun x => B x || decide (x = y)) (if B y = true then m else m + 1) → Q (!B y) { s with heap := g' }) :
    wpAny (model P w) A (setAddHashed a (.str y u) ((strKind P w).hash y)) Q E s := by
  obtain ⟨ob, zs, ep, tb, e0, ex, dat, all, nd, mem, few, fit, num, ris, led⟩ := T
  have key : (strKind P w).is y (.str y u) = true := strKind_is _ _ _ _
  have scn : (Value.str y u).scannable = true := rfl
  have el : ElemsOf (strKind P w) zs.toList := els all
  unfold setAddHashed setAddHashedIn
  refine wpAny_holding (wpAny_bind (wpAny_setState_of e0 dat fit ?_))
  dsimp only
  rw [byScan_of scn few el]
  simp only [↓reduceIte]
  unfold setAddByScan
  refine wpAny_bind (wpAny_bind (wpAny_rule (wpAny_bind (wpAny_setScan_of key e0 dat fit el ?_))))
  cases found : List.findIdx? (fun z => (strKind P w).is y z.2) zs.toList with
  | some j =>
    dsimp only
    obtain ⟨jl, jp, _⟩ := List.findIdx?_eq_some_iff_getElem.mp found
    have in' : B y = true := (mem y).2 ((mem_txt (P := P) (w := w) all y).2 ⟨zs.toList[j], List.getElem_mem jl, jp⟩)
    have q := fin s.heap (Heap.SameBut.refl a s.heap) ⟨ob, zs, ep, tb, e0, ex, dat, all, nd, fun x => by
      rw [Bool.or_eq_true, decide_eq_true_eq, ← mem x]
      exact ⟨fun c => c.elim id (fun e => e ▸ in'), .inl⟩, few, fit, by rw [if_pos in']; exact num, ris, led⟩
    rw [in'] at q
    exact wpAny_pure (wpAny_pure q)
  | none =>
    dsimp only
    have out : y ∉ zs.toList.map txt := fun c => by
      obtain ⟨z, hz, q⟩ := (mem_txt (P := P) (w := w) all y).1 c
      have c := List.findIdx?_eq_none_iff.mp found z hz
      rw [q] at c
      cases c
    have no : B y = false := by
      cases q : B y with
      | false => rfl
      | true => exact absurd ((mem y).1 q) out
    have gv : ∀ (b : Bool) {s1 : Shared} {N : Unit → Shared → Prop}, N () s1 → wpAny (model P w) A (match b with | true => rule "set.scan.the-table-gave-way" | false => pure ()) N E s1 := by
      intro b s1 N q
      cases b
      · exact wpAny_pure q
      · exact wpAny_rule q
    have p1 := layNew_perm tb zs ((strKind P w).hash y) (.str y u)
    have p2 := layNew_fits tb zs ((strKind P w).hash y) (.str y u)
    have p3 := layNew_ris tb zs ((strKind P w).hash y) (.str y u) ris
    have p4 := layNew_led tb zs ((strKind P w).hash y) (.str y u)
    generalize layNew tb zs ((strKind P w).hash y) (.str y u) = W at p1 p2 p3 p4 ⊢
    obtain ⟨ys, t1, dm, gave⟩ := W
    dsimp only at p1 p2 p3 p4 ⊢
    rw [Array.toList_push] at p1
    have p5 : ys.toList.Perm (((strKind P w).hash y, Value.str y u) :: zs.toList) := p1.trans (List.perm_append_singleton _ _)
    have p6 : (ys.toList.map txt).Perm (y :: zs.toList.map txt) := p5.map txt
    have all1 : ∀ z ∈ ys.toList, IsM w z := fun z hz => by
      rcases List.mem_cons.mp (p5.mem_iff.mp hz) with c | c
      · rw [c]; exact ⟨y, u, rfl, rfl⟩
      · exact all z c
    have nd1 : (ys.toList.map txt).Nodup := p6.nodup_iff.mpr (List.nodup_cons.mpr ⟨out, nd⟩)
    have mem1 : ∀ x, (B x || decide (x = y)) = true ↔ x ∈ ys.toList.map txt := fun x => by
      rw [Bool.or_eq_true, decide_eq_true_eq, mem x, p6.mem_iff, List.mem_cons]
      exact Or.comm
    have num1 : ys.size = m + 1 := by rw [← Array.length_toList, p5.length_eq, List.length_cons, Array.length_toList, num]
    have few1 : ys.size < scanBound := by rw [num1]; exact room
    have led1 : w.params.followText "set-order" = true ∨ t1.led = true := led.imp id fun q => by rw [p4]; exact q
    have done : ∀ g', Heap.SameBut a s.heap g' → TxS w g' a (fun x => B x || decide (x = y)) ys.size → Q true { s with heap := g' } := fun g' sb r => by
      have q := fin g' sb
      rw [no] at q
      rw [num1] at r
      exact q r
    refine wpAny_bind (gv _ ?_)
    split
    · refine wpAny_bind ?_
      rw [hashByValue_scannable 8 scn]
      refine wpAny_pure ?_
      refine tail_of ?_ e0 ex dat all1 nd1 mem1 few1 ?_ ?_ ?_ ?_
      · exact fun b s1 N q => by cases b <;> first | exact wpAny_pure q | exact wpAny_rule q
      · first | (split <;> first | exact p2 | exact SetTable.fits_plain_off p2) | exact p2
      · first | (split <;> exact p3) | exact p3
      · first | (split <;> exact led1) | exact led1
      · exact fun g' sb r => wpAny_pure (done g' sb r)
    · refine wpAny_bind (wpAny_pure ?_)
      simp only [↓reduceIte]
      refine tail_of ?_ e0 ex dat all1 nd1 mem1 few1 p2 p3 led1 ?_
      · exact fun b s1 N q => by cases b <;> first | exact wpAny_pure q | exact wpAny_rule q
      · exact fun g' sb r => wpAny_pure (done g' sb r)
end

/-! ### set(t) of a tuple of texts -/
theorem fresh_at {w : World} {g : Heap} {a : Addr} {ts : List Str} (e : g.get? a = some { cls := .type "set", dict := none, data := .set #[] 0 (.fresh 0 0 (!w.params.followText "set-order")) }) :
    TxS w g a (fun x => decide (x ∈ ts.take 0)) 0 := by
  refine ⟨_, #[], 0, _, e, ⟨rfl, rfl, rfl⟩, rfl, fun z hz => by simp at hz, by simp, fun x => by simp, by decide, by rfl, rfl, List.Pairwise.nil, ?_⟩
  show w.params.followText "set-order" = true ∨ (!w.params.followText "set-order") = true
  cases w.params.followText "set-order" <;> simp
section
variable {P : Program} {w : World} {A : Around} {E : Value → Shared → Prop} {s : Shared}
theorem fill_of {I : Addr} {fp wr : List Addr} {G : Array GenState → Array GenState → Prop} {n : Nat} {Pv : Nat → Value → Prop} {St : Nat → Shared → Prop} {R : Result → Shared → Prop}
    (W : WalksS P w A.in1 I fp wr G n Pv St) (D : Addr) (off : D ∉ fp) (ts : List Str) (hn : n = ts.length) (few : ts.length + 1 < scanBound)
    (val : ∀ i v, Pv i v → ∃ y u, ts[i]? = some y ∧ v = .str y u) :
    ∀ (k i : Nat) (s : Shared), n - i = k → i ≤ n → St i s → (∃ c, c ≤ i ∧ TxS w s.heap D (fun x => decide (x ∈ ts.take i)) c) →
      (∀ s' c, Moved (D :: wr) G s s' → c ≤ n → TxS w s'.heap D (fun x => decide (x ∈ ts)) c → R (.ok (.ret .none)) s') →
      codeAny (model P w) A (.builtin "set.update.loop" ⟨[.ref D, .ref I], []⟩) R s := by
  have offw : D ∉ wr := fun c => off (W.sub _ c)
  have sub : ∀ b ∈ wr, b ∈ D :: wr := fun b hb => List.mem_cons_of_mem _ hb
  intro k
  induction k with
  | zero =>
    intro i s hk hi hst ⟨c, hc, T⟩ hR
    have e : i = n := by omega
    subst e
    refine codeAny_builtin F.entry_set_update_loop ?_
    rw [Around.under_plainId F.plain_set_update_loop _]
    show wpAny _ A.in1 (pyNext (.ref I) >>= _) _ _ s
    refine wpAny_bind (W.done s _ _ hst fun s' mv => ?_)
    show wpAny _ A.in1 (ret Value.none) _ _ s'
    have e : ts.take i = ts := List.take_of_length_le (by omega)
    rw [e] at T
    exact wpAny_pure (hR s' c (mv.mono sub) hc (T.move fun ob e => mv.heap D ob offw e))
  | succ k ih =>
    intro i s hk hi hst ⟨c, hc, T⟩ hR
    have lt : i < n := by omega
    refine codeAny_builtin F.entry_set_update_loop ?_
    rw [Around.under_plainId F.plain_set_update_loop _]
    show wpAny _ A.in1 (pyNext (.ref I) >>= _) _ _ s
    refine wpAny_bind (W.item i s _ _ lt hst fun v s' hP hst' mv => ?_)
    obtain ⟨y, u, hy, rfl⟩ := val i v hP
    have T' : TxS w s'.heap D (fun x => decide (x ∈ ts.take i)) c := T.move fun ob e => mv.heap D ob offw e
    show wpAny _ A.in1 (holding [Value.str y u] (setAdd D (.str y u)) >>= _) _ _ s'
    refine wpAny_bind (wpAny_holding ?_)
    unfold setAdd
    refine wpAny_holding (wpAny_bind ((strKind P w).pyHash (k := y) (strKind_is _ _ _ _) ?_))
    refine add_of (s := { s' with toks := s'.toks + 1 }) T' (by omega) fun g' sb T2 => ?_
    have T3 : TxS w g' D (fun x => decide (x ∈ ts.take (i + 1))) (if decide (y ∈ ts.take i) = true then c else c + 1) := T2.same fun x => by
      rw [List.take_add_one, hy]
      simp [List.mem_append]
    have c3 : (if decide (y ∈ ts.take i) = true then c else c + 1) ≤ i + 1 := by
      split <;> omega
    refine wpAny_pure ⟨plainId_quiet F.plain_set_update_loop _, ih (i + 1) _ (by omega) lt (W.frame _ s' _ _ hst' (Nat.le_succ _) fun b hb ob e => ?_) ⟨_, c3, T3⟩ fun s2 c2 mv2 hc2 T4 => ?_⟩
    · rw [sb.2 b (fun c : b = D => off (by rw [← c]; exact hb))]
      exact e
    · refine hR s2 c2 (Moved.trans W.gtrans ((mv.mono sub).then_heap (Nat.le_succ _) fun b ob hb e => ?_) mv2) hc2 T4
      rw [sb.2 b (fun c : b = D => hb (by rw [c]; exact List.mem_cons_self))]
      exact e

set_option maxRecDepth 100000 in
theorem set_of_tuple {l : Addr} {items : Array Value} (ts : List Str) {Q : Value → Shared → Prop} (hh : A.handled = none) (hl : s.heap.IsTuple l items) (hit : StrsAre items.toList ts) (few : ts.length + 1 < scanBound)
    (fin : ∀ (g' : Heap) (tk c : Nat), TxS w g' s.heap.objs.size (fun x => decide (x ∈ ts)) c → c ≤ ts.length → (∀ b ob, s.heap.get? b = some ob → g'.get? b = some ob) → Q (.ref s.heap.objs.size) { s with heap := g', toks := tk }) :
    wpAny (model P w) A (call (.type "set") [.ref l]) Q E s := by
  have isz : items.size = ts.length := by
    have q := StrsAre.len_eq hit
    rw [Array.length_toList] at q
    exact q
  obtain ⟨c, tl, hmro⟩ := F.called_set.mro
  have hmade := F.called_set.made
  have hsub := F.called_set.sub
  refine wpAny_call (codeAny_of_tree ?_)
  show wpAny _ _ (callAny (.type "set") _) _ _ _
  refine wpAny_pure ⟨Code.quiet_builtin _ (by decide +kernel), codeAny_builtin F.entry_type_call ?_⟩
  rw [Around.under_plain (weight_type_call_type "set" [.ref l] []) rfl]
  have h1 := F.called_set.notType
  have h2 := F.called_set.canCreate
  have hct := F.typeCall_set_1 (.ref l)
  repeat (any_goals (first | assumption | wp_step))
  generalize hN : s.heap.push { cls := .type "set", dict := none, data := .set #[] 0 (.fresh 0 0 (!w.params.followText "set-order")) } = g1
  have gS : g1.get? s.heap.objs.size = some { cls := .type "set", dict := none, data := .set #[] 0 (.fresh 0 0 (!w.params.followText "set-order")) } := by rw [← hN]; exact Heap.get?_push_size _ rfl
  have gO : ∀ b ob, s.heap.get? b = some ob → g1.get? b = some ob := fun b ob e => by rw [← hN]; exact Heap.get?_push_of_some _ e
  have gZ : g1.objs.size = s.heap.objs.size + 1 := by rw [← hN]; exact Heap.size_push ..
  refine codeAny_mono (code_set_led1 (.ref l) (E := E) (Q₁ := fun v s1 => v = .ref s.heap.objs.size ∧ s1 = { s with heap := g1 }) ⟨rfl, by rw [hN]⟩) fun r s1 hr => ?_
  cases r with
  | error e => exact hr
  | ok fl =>
    cases fl with
    | ret v =>
      obtain ⟨rfl, rfl⟩ := hr
      have hT : Shared.TypeIs { s with heap := g1 } (.ref s.heap.objs.size) "set" := ⟨_, gS, rfl⟩
      have hli := F.called_set.init.lookup
      have hbi := F.called_set.init.bind (.ref s.heap.objs.size)
      repeat (any_goals (first | assumption | wp_step))
      refine codeAny_mono (codeAny_call_builtin (R := wants (fun r s2 => r = .none ∧ ∃ g' tk c, s2 = { s with heap := g', toks := tk } ∧ TxS w g' s.heap.objs.size (fun x => decide (x ∈ ts)) c ∧ c ≤ ts.length ∧
          (∀ b ob, s.heap.get? b = some ob → g'.get? b = some ob)) E) F.called_set.init.plain F.entry_set_init (check_set_init_1 hT ?_)) fun r2 s2 hr2 => ?_
      · obtain ⟨ol, hol, hcl, nl, hdl⟩ := hl
        obtain ⟨ocls, odict, odata, oslots⟩ := ol
        simp only at hcl hdl
        subst hcl
        subst hdl
        have hol' : g1.get? l = some { cls := .type "tuple", dict := odict, data := .seq items nl, slots := oslots } := gO _ _ hol
        have hsls := F.sub_tuple_set
        have hslf := F.sub_tuple_frozenset
        have hne : (Value.type "tuple" == Value.type "dict") = false := by decide
        have hl1 : g1.IsTuple l items := ⟨_, hol', rfl, nl, rfl⟩
        unfold Builtin.«set.__init__» noKeywords Builtin.Frozenset.updateFrom
        generalize hPI : pyIter = PI
        wp_walk
        subst hPI
        refine wpAny_pyIter_tuple hl1 (wpAny_bind (wpAny_runValue ?_))
        have ltl : l < s.heap.objs.size := Heap.lt_size hol
        have hh3 : A.in1.in1.in1.handled = none := by simp [hh]
        have nI : l ≠ g1.objs.size := by rw [gZ]; exact Nat.ne_of_lt (Nat.lt_succ_of_lt ltl)
        have nS : s.heap.objs.size ∉ [g1.objs.size, l] := by
          rw [gZ]
          simp only [List.mem_cons, List.mem_singleton, List.not_mem_nil, or_false, not_or]
          exact ⟨Nat.ne_of_lt (Nat.lt_succ_self _), Nat.ne_of_gt ltl⟩
        have val : ∀ (i : Nat) (v : Value), items[i]? = some v → ∃ y u, ts[i]? = some y ∧ v = .str y u := fun i v hv => by
          have hi : i < ts.length := by rw [← isz]; exact (Array.getElem?_eq_some_iff.mp hv).1
          obtain ⟨u, e⟩ := SS.strs_at hit i v (by rw [Array.getElem?_toList]; exact hv)
          refine ⟨ts[i], u, List.getElem?_eq_getElem hi, ?_⟩
          rw [e, List.getD_eq_getElem?_getD, List.getElem?_eq_getElem hi] <;> rfl
        refine fill_of ((Walks.tuple hh3 _ l nI items).toS) s.heap.objs.size nS ts isz few val (items.size - 0) 0 _ (by omega) (Nat.zero_le _)
          ⟨⟨_, Heap.get?_push_size _ rfl, rfl, rfl⟩, (hl1.push _)⟩ ⟨0, Nat.le_refl 0, fresh_at (Heap.get?_push_of_some _ gS)⟩ fun s' c' mv hc' T' => ?_
        obtain ⟨g', gn', d', tk', os'⟩ := s'
        have eg : gn' = s.gens := mv.gens
        have ed : d' = s.drawn := mv.drawn
        have eo : os' = s.os := mv.os
        subst eg ed eo
        show wpAny _ _ _ _ _ _
        refine wpAny_pure ?_
        show wpAny _ _ (ret Value.none) _ _ _
        rw [isz] at hc'
        refine wpAny_pure ⟨rfl, g', tk', c', rfl, T', hc', fun b ob e => ?_⟩
        have b0 : b < s.heap.objs.size := Heap.lt_size e
        refine mv.heap b ob ?_ (Heap.get?_push_of_some _ (gO _ _ e))
        simp only [List.mem_cons, List.mem_singleton, List.not_mem_nil, or_false, not_or]
        exact ⟨Nat.ne_of_lt b0, by rw [gZ]; exact Nat.ne_of_lt (Nat.lt_succ_of_lt b0)⟩
      · cases r2 with
        | error e => exact hr2
        | ok fl2 =>
          cases fl2 with
          | ret r =>
            obtain ⟨rfl, g', tk, c', rfl, T', hc', hk'⟩ := hr2
            repeat (any_goals (first | assumption | wp_step))
            exact fin _ _ _ T' hc' hk'
          | _ => exact hr2.elim
    | _ => exact hr.elim

theorem strs_of : ∀ (l : List Value), (∀ v ∈ l, ∃ y u, v = Value.str y u) → StrsAre l (l.map fun v => txt (0, v))
  | [], _ => .nil
  | v :: l, h => by
    obtain ⟨y, u, rfl⟩ := h v List.mem_cons_self
    exact .cons y u (strs_of l fun x hx => h x (List.mem_cons_of_mem _ hx))
/-- sorted(set): all members, by their signs -/
theorem sorted_of {a : Addr} {B : Str → Bool} {m : Nat} {Q : Value → Shared → Prop} (T : TxS w s.heap a B m) (hh : A.handled = none) (h64 : m < 64)
    (fin : ∀ s' p (out : Array Value) (c : Nat) (ys : List Str), (∀ b ob, s.heap.get? b = some ob → s'.heap.get? b = some ob) → s'.gens = s.gens → s'.os = s.os → s.heap.objs.size ≤ p →
      s'.heap.get? p = some (seqObj "list" out c) → StrsAre out.toList ys → ys.Nodup → sortedS ys = true → (∀ y, y ∈ ys ↔ B y = true) → ys.length = m → Q (.ref p) s') :
    wpAny (model P w) A (call (.builtin "sorted") [.ref a]) Q E s := by
  obtain ⟨ob, zs, ep, tb, e0, ex, dat, all, nd, mem, few, fit, num, ris, led⟩ := T
  refine Calls.call_function_entry kind_sorted plain_sorted entry_sorted (args_sorted1 _) ?_
  unfold Builtin.«sorted»
  refine wpAny_bind (m := checkCount "sorted" 1 1 _) (wpAny_pure ?_)
  refine wpAny_bind (collect_set (A := A.in1) hh ⟨ob, e0, ex.1, dat⟩ fit few ris led fun s1 vs k1 hz g1 o1 pm => ?_)
  have vl : vs.length = m := by rw [pm.length_eq, List.length_map, Array.length_toList]; exact num
  have hS : StrsAre vs (vs.map fun v => txt (0, v)) := strs_of vs fun v hv => by
    obtain ⟨z, hz', q⟩ := List.mem_map.mp (pm.mem_iff.mp hv)
    obtain ⟨y, u, h1, _⟩ := all z hz'
    exact ⟨y, u, by rw [← q]; exact h1⟩
  have pk : (vs.map fun v => txt (0, v)).Perm (zs.toList.map txt) := by
    have q := pm.map fun v => txt (0, v)
    rw [List.map_map] at q
    exact q
  refine wpAny_bind (wpAny_newList ?_ (by rw [vl, sizeLine_eq]; omega))
  have hoL : (s1.heap.push (seqObj "list" vs.toArray 0)).get? s1.heap.objs.size = some (seqObj "list" vs.toArray 0) := Heap.get?_push_size _ rfl
  refine wpAny_bind (wpAny_holding (wpAny_call_entry slot_list_sort ⟨_, hoL, rfl⟩ entry_list_sort
    (list_sort_treeK strKind_oneLt (s := { s1 with heap := s1.heap.push (seqObj "list" vs.toArray 0) }) hoL hS.keysOf (fun v₁ v₂ rest e => keyKind_strs (by rw [← e]; exact hS)) (by rw [vl]; exact h64) fun st' hp hs => ⟨_, rfl, ?_⟩) (args_list_sort _)))
  obtain ⟨ys, a1, a2, a3⟩ := sorted_out_str hS hp hs
  obtain ⟨c, hc⟩ := sortedHeap_at (vs := vs) (out := (arrOf st').map (·.2)) hoL
  have pn : ys.Perm (zs.toList.map txt) := a2.trans pk
  refine wpAny_pure ⟨_, rfl, fin _ s1.heap.objs.size _ c ys (fun b u e => ?_) g1 o1 hz hc a1 (pn.nodup_iff.mpr nd) a3 (fun y => by rw [pn.mem_iff, ← mem y]) ?_⟩
  · have q := k1 b u e
    have lt := Heap.lt_size q
    refine (sortedHeap_old (Nat.ne_of_lt lt) (by rw [size_push']; exact Nat.lt_succ_of_lt lt)).trans ?_
    exact Heap.get?_push_of_some _ q
  · rw [pn.length_eq, List.length_map, Array.length_toList]
    exact num
end

/-! ### as rules of the layer -/
/-- the set of texts at a -/
def TxO (w : World) (a : Addr) (B : Str → Bool) (m : Nat) : HO := .ext fun g => TxS w g a B m
theorem txO_ok {P : Program} {w : World} {H : Hp} {g : Heap} {a : Addr} {B : Str → Bool} {m : Nat} (T : TxS w g a B m) : ObjOk P w H g a (TxO w a B m) := by
  have ⟨ob, _, _, _, e, _⟩ := T
  exact ⟨T, ⟨ob, e⟩, fun g1 g2 p k => TxS.move p k⟩
section
variable {X : Cx}
theorem cr_setTx (hc : X.calm = true) : CallR X (.type "set") (fun xs H Q => ∃ (l : Addr) (ts : List Str), xs = [.ref l] ∧ SqT X.K H l (ts.map V.str) ∧ ts.length < 60 ∧
    ∀ p c H', H p = none → c ≤ ts.length → Same H H' → H' p = some (TxO X.w p (fun x => decide (x ∈ ts)) c) → Q (.ref p) H') := by
  intro pins s σ H xs us Q I r h
  obtain ⟨l, ts, rfl, hq, hn, q⟩ := h
  obtain ⟨u, rfl, ru⟩ := vals1 r
  obtain rfl : u = Value.ref l := ru
  obtain ⟨its, rv, pl, hz⟩ := I.tuple hq
  refine set_of_tuple ts (I.ok.hd hc) pl (by simpa using strsAre_of rv) (by unfold scanBound; omega) fun g' tk c T hc' hk => ?_
  exact ⟨.ref s.heap.objs.size, upd H s.heap.objs.size (TxO X.w s.heap.objs.size (fun x => decide (x ∈ ts)) c), I.laid (t' := tk) hk (Nat.le_refl _) (txO_ok T), rfl, q _ _ _ (I.hok.fresh (Nat.le_refl _)) hc' (fun b o e => by rw [upd_ne (ne_of_none e (I.hok.fresh (Nat.le_refl _)))]; exact e) upd_same⟩
theorem cr_sortedTx (hc : X.calm = true) : CallR X (.builtin "sorted") (fun xs H Q => ∃ (a : Addr) (B : Str → Bool) (m : Nat), xs = [.ref a] ∧ H a = some (TxO X.w a B m) ∧ m < 64 ∧
    ∀ (ys : List Str) (p : Addr), ys.Nodup → sortedS ys = true → (∀ y, y ∈ ys ↔ B y = true) → ys.length = m → H p = none → Q (.ref p) (upd H p (.lst (ys.map V.str)))) := by
  intro pins s σ H xs us Q I r h
  obtain ⟨a, B, m, rfl, ha, h64, q⟩ := h
  have T : TxS X.w s.heap a B m := (I.hok a _ ha).1
  rw [Vals.ref1 r]
  refine sorted_of T (I.ok.hd hc) h64 fun s' p out c ys k g o hp hg hi hnd hs hm hl => ?_
  have len : (ys.map V.str).length ≤ sizeLine := by rw [List.length_map, hl, sizeLine_eq]; omega
  have hn : H p = none := I.hok.fresh hp
  have J : Inv X pins σ (upd H p (.lst (ys.map V.str))) { s with heap := s'.heap, gens := s'.gens, drawn := s'.drawn, toks := s'.toks } :=
    I.call (ch := []) (Un.laid k hp hn) (I.hok.laid k hp ⟨len, out.toList, c, vals_of_strs hi, hg⟩) (by rw [g]; exact I.bare) (fun _ z => nomatch z)
  have e : s' = { s with heap := s'.heap, gens := s'.gens, drawn := s'.drawn, toks := s'.toks } := by
    obtain ⟨_, _, _, _, _⟩ := s'
    obtain ⟨_, _, _, _, _⟩ := s
    cases o
    rfl
  rw [e]
  exact ⟨.ref p, _, J, rfl, q ys p hnd hs hm hl hn⟩
end
end K95S
end

section
set_option Elab.async false
set_option linter.all false
set_option maxRecDepth 100000
set_option maxHeartbeats 4000000
/-! K95D: a dict whose keys are tuples, told with the keys' places; the tuples are known beside it. -/
namespace K95D
open PySem PySem.Spec PyProof.Rows L2 K95R

/-- key, its tuple's place, value -/
abbrev Ent := List L2.Key × Addr × V
abbrev KX : List Ent → List (List L2.Key × Addr × Value) → Prop := Paired fun p q => p.1 = q.1 ∧ p.2.1 = q.2.1 ∧ RelV p.2.2 q.2.2
def DXs (P : Program) (w : World) (g : Heap) (a : Addr) (es : List Ent) : Prop := es.length ≤ 1000 ∧ (a == sysModules) = false ∧ ∃ xs, KX es xs ∧
  ∃ ob zs ep, g.get? a = some ob ∧ ob.ExactDict ∧ ob.data = .dict zs ep ∧ zs.toList = xs.map (entryOfKey (tupleKind (mixKind P w))) ∧ (xs.map (·.1)).Nodup
def DXO (P : Program) (w : World) (a : Addr) (es : List Ent) : HO := .ext fun g => DXs P w g a es
def valX (es : List Ent) (k : List L2.Key) : Option V := (es.find? fun e => decide (e.1 = k)).map (·.2.2)
/-- the keys' tuples stand -/
def KeysAt (K : PySem.W.Frag) (H : Hp) (es : List Ent) : Prop := ∀ e ∈ es, SqT K H e.2.1 (e.1.map kV)
theorem DXs.ok {P : Program} {w : World} {H : Hp} {g : Heap} {a : Addr} {es : List Ent} (D : DXs P w g a es) : ObjOk P w H g a (DXO P w a es) := by
  have ⟨_, _, _, _, ob, _, _, e, _⟩ := D
  refine ⟨D, ⟨ob, e⟩, fun g1 g2 p k => ?_⟩
  obtain ⟨z, m, xs, r, o, zs, ep, h1, rest⟩ := p
  exact ⟨z, m, xs, r, o, zs, ep, k o h1, rest⟩
theorem KX.val {es : List Ent} {xs : List (List L2.Key × Addr × Value)} (r : KX es xs) (k : List L2.Key) : RelO (valX es k) ((atKey xs k).map (·.2)) := by
  induction r with
  | nil => exact True.intro
  | @cons p q ps qs h t ih =>
    obtain ⟨h1, _, h2⟩ := h
    by_cases e : p.1 = k
    · have e2 : q.1 = k := h1.symm.trans e
      have a : valX (p :: ps) k = some p.2.2 := by simp [valX, List.find?_cons, e]
      have b : atKey (q :: qs) k = some q.2 := by simp [atKey, List.find?_cons, e2]
      rw [a, b]
      exact h2
    · have e2 : ¬ q.1 = k := fun z => e (h1.trans z)
      have a : valX (p :: ps) k = valX ps k := by simp [valX, List.find?_cons, e]
      have b : atKey (q :: qs) k = atKey qs k := by simp [atKey, List.find?_cons, e2]
      rw [a, b]
      exact ih
theorem KX.len {es : List Ent} {xs : List (List L2.Key × Addr × Value)} (r : KX es xs) : es.length = xs.length := Paired.length r
section
variable {X : Cx} {pins : List (Addr × Obj)} {σ : L2.St} {H : Hp} {s : Shared} {a b : Addr} {es : List Ent} {k : List L2.Key}
theorem key_at (I : L2.Inv X pins σ H s) (h : SqT X.K H b (k.map kV)) : (tupleKind (mixKind X.prog X.w)).is s.heap k b := by
  obtain ⟨its, r, ⟨o, h1, h2, n, h3⟩, _⟩ := I.tuple h
  exact ⟨o, its.toArray, n, h1, h2, h3, by simpa using items_are r⟩
theorem dx_of (I : L2.Inv X pins σ H s) (e : Rd H a (DXO X.prog X.w a es)) (ks : KeysAt X.K H es) : es.length ≤ 1000 ∧ (a == sysModules) = false ∧ ∃ xs, KX es xs ∧ s.heap.DictOfH (tupleKind (mixKind X.prog X.w)) a xs := by
  obtain ⟨z, m, xs, r, o, zs, ep, h1, h2, h3, h4, h5⟩ := (show ObjOk X.prog X.w H s.heap a (DXO X.prog X.w a es) from e.ok I.hok).1
  refine ⟨z, m, xs, r, o, zs, ep, h1, h2, h3, h4, ?_, h5⟩
  have all : ∀ {l : List Ent} {y : List (List L2.Key × Addr × Value)}, KX l y → (∀ e ∈ l, SqT X.K H e.2.1 (e.1.map kV)) → ∀ x ∈ y, (tupleKind (mixKind X.prog X.w)).is s.heap x.1 x.2.1 := by
    intro l y q
    induction q with
    | nil => intro _ x hx; exact nomatch hx
    | @cons p q ps qs hq t ih =>
      intro hk x hx
      rcases List.mem_cons.mp hx with c | c
      · subst c
        have h0 := key_at I (hk p (List.mem_cons_self ..))
        rw [hq.1, hq.2.1] at h0
        exact h0
      · exact ih (fun e he => hk e (List.mem_cons_of_mem _ he)) x c
  exact all r ks
end

/-! ### {t: v} -/
section
variable {X : Cx} {ek ev : Expr} {tk tv : TE} {pos : Pos}
def tDisp1 (P : Program) (w : World) (K : PySem.W.Frag) (tk tv : TE) : TE := fun σ H Q => ∀ p H0, H p = none → (∀ c, c ≠ p → H0 c = H c) → H0 p = some (DXO P w p []) → tk σ H0 fun x H1 => tv σ H1 fun y H2 => H2 p = some (DXO P w p []) ∧
  ∃ (b : Addr) (k : List L2.Key), x = .ref b ∧ SqT K H2 b (k.map kV) ∧ ∀ H3, (∀ c, c ≠ p → H3 c = H2 c) → H3 p = some (DXO P w p [(k, b, y)]) → Q (.ref p) H3
theorem pe_disp1 (hu : X.A.units + 1 < cLine) (hk : PE X ek tk) (hv : PE X ev tv) : PE X (.Dict [some ek] [ev] pos) (tDisp1 X.prog X.w X.K tk tv) := by
  refine ⟨fun pins s σ H Q I h => ?_⟩
  have big : (s.heap.objs.size == sysModules) = false := beq_eq_false_iff_ne.mpr (Nat.ne_of_gt I.big)
  have new : DXs X.prog X.w (s.heap.push { cls := .type "dict", data := .dict #[] }) s.heap.objs.size [] := ⟨Nat.zero_le _, big, [], .nil, _, #[], 0, Heap.get?_push_size _ rfl, ⟨rfl, rfl, rfl⟩, rfl, rfl, List.nodup_nil⟩
  have I1 : L2.Inv X pins σ (upd H s.heap.objs.size (DXO X.prog X.w s.heap.objs.size [])) { s with heap := s.heap.push { cls := .type "dict", data := .dict #[] } } :=
    I.laid (t' := s.toks) (fun b o e => Heap.get?_push_of_some _ e) (Nat.le_refl _) new.ok
  have q := h s.heap.objs.size _ (I.hok.fresh (Nat.le_refl _)) (fun c hc => upd_ne hc) upd_same
  have shape := zip_pairTrees [some ek] [ev] X.env pos rfl rfl
  have room : (tupleKind (mixKind X.prog X.w)).room X.A := Nat.lt_of_le_of_lt (Nat.le_succ _) hu
  rw [arm_eval_Dict, shape, dictDisplay_pairs (pairTrees [some ek] [ev] X.env pos) (fun c => nomatch c) (by show 1 < 17; decide)]
  refine wpAny_bind (wpAny_standAt (wpAny_bind (wpAny_subDictH (knd := tupleKind (mixKind X.prog X.w)) room (by show 1 ≤ 15; decide) ?_)))
  refine pairTrees_cons_walk (thn (hk.run pins _ σ _ _ I1 q) fun u s1 ⟨x, H1, I2, rx, q1⟩ => thn (hv.run pins s1 σ H1 _ I2 q1) fun u2 s2 ⟨y, H2, I3, ry, e, b, k, ex, hb, q2⟩ => pairTrees_nil_walk ?_)
  subst ex
  obtain rfl : u = Value.ref b := rx
  obtain ⟨z, m, xs, r, hD⟩ := dx_of I3 (.inl e) (fun _ c => nomatch c)
  cases r
  refine ⟨[(k, b, u2)], ⟨rfl, rfl, key_at I3 hb, True.intro⟩, hD, fun h' tk hD' hs => wpAny_pure ⟨.ref s.heap.objs.size, _, ?_, rfl, q2 _ (fun c hc => upd_ne hc) upd_same⟩⟩
  obtain ⟨o, zs, ep, h1, h2, h3, h4, _, h5⟩ := hD'
  refine I3.write (x := s.heap.objs.size) (e := s.heap.objs.size) (t' := tk) (by rw [e]; exact True.intro) (.inl rfl) (fun c ob hc z => (hs.2 c hc).trans z) ⟨o, h1⟩ ?_
  exact DXs.ok ⟨by show 1 ≤ 1000; decide, big, [(k, b, u2)], .cons ⟨rfl, rfl, ry⟩ .nil, o, zs, ep, h1, h2, h3, h4, h5⟩
end

/-! ### d[t], t not in d, d[t] = v of a new t, len(d) -/
/-- what the dict at a tells of the tuple y -/
def XAt (P : Program) (w : World) (K : PySem.W.Frag) (H : Hp) (a : Addr) (y : V) (es : List Ent) (k : List L2.Key) : Prop := Rd H a (DXO P w a es) ∧ KeysAt K H es ∧ ∃ b, y = .ref b ∧ SqT K H b (k.map kV)
section
variable {X : Cx} {pins : List (Addr × Obj)} {σ : L2.St} {H : Hp} {s : Shared} {a b : Addr} {es : List Ent} {k : List L2.Key} {y v : V} {u r : Value} {E : Value → Shared → Prop}
theorem x_get {Q : Value → Shared → Prop} (hu : X.A.units + 1 < cLine) (I : L2.Inv X pins σ H s) (x : XAt X.prog X.w X.K H a y es k) (hv : valX es k = some v) (ry : RelV y u) (q : ∀ w' s', L2.Inv X pins σ H s' → RelV v w' → Q w' s') :
    wpAny (model X.prog X.w) X.A (getItem (.ref a) u) Q E s := by
  obtain ⟨e, ks, b, rfl, hb⟩ := x
  cases (show u = Value.ref b from ry)
  obtain ⟨_, m, xs, rel, dd⟩ := dx_of I e ks
  obtain ⟨w', hw, rw'⟩ := RelO.some_of (v := v) (o := (atKey xs k).map (·.2)) (by rw [← hv]; exact rel.val k)
  obtain ⟨p, hp, hp2⟩ := Option.map_eq_some_iff.mp hw
  refine wpAny_getItem_heap (tupleKind_room_in1 hu) (key_at I hb) dd hp ?_
  rw [hp2]
  exact q w' _ (I.tok _) rw'
theorem x_notIn {Q : Value → Shared → Prop} (hu : X.A.units + 1 < cLine) (I : L2.Inv X pins σ H s) (x : XAt X.prog X.w X.K H a y es k) (ry : RelV y u) (q : ∀ s', L2.Inv X pins σ H s' → Q (.bool (!(valX es k).isSome)) s') :
    wpAny (model X.prog X.w) X.A (compareOp .NotIn u (.ref a)) Q E s := by
  obtain ⟨e, ks, b, rfl, hb⟩ := x
  cases (show u = Value.ref b from ry)
  obtain ⟨_, m, xs, rel, dd⟩ := dx_of I e ks
  refine wpAny_notIn_heap (tupleKind_room_in1 hu) (key_at I hb) m dd ?_
  have z := (rel.val k).isSome_eq
  rw [Option.isSome_map] at z
  rw [← z]
  exact q _ (I.tok _)
theorem x_put {Q : Unit → Shared → Prop} (hu : X.A.units + 1 < cLine) (I : L2.Inv X pins σ H s) (e : H a = some (DXO X.prog X.w a es)) (ks : KeysAt X.K H es) (hb : SqT X.K H b (k.map kV)) (hn : valX es k = none) (few : es.length < 1000)
    (rv : RelV v r) (q : ∀ s', L2.Inv X pins σ (upd H a (DXO X.prog X.w a (es ++ [(k, b, v)]))) s' → Q () s') :
    wpAny (model X.prog X.w) X.A (setItem (.ref a) (.ref b) r) Q E s := by
  obtain ⟨_, m, xs, rel, dd⟩ := dx_of I (.inl e) ks
  have no : atKey xs k = none := by
    have z := RelO.none_of (o := (atKey xs k).map (·.2)) (by rw [← hn]; exact rel.val k)
    exact Option.map_eq_none_iff.mp z
  have hz : xs.length ≤ sizeLine := by rw [← rel.len, sizeLine_eq]; omega
  refine wpAny_setItem_heap (hsz := hz) (tupleKind_room_in1 hu) (key_at I hb) dd fun h' dd' hs => q _ ?_
  rw [storedH_new no] at dd'
  obtain ⟨o, zs, ep, h1, h2, h3, h4, _, h5⟩ := dd'
  refine I.write (x := a) (e := a) (by rw [e]; exact True.intro) (.inl rfl) (fun c ob hc z => (hs.2 c hc).trans z) ⟨o, h1⟩ ?_
  exact DXs.ok ⟨by rw [List.length_append]; show es.length + 1 ≤ 1000; omega, m, _, Paired.snoc rel ⟨rfl, rfl, rv⟩, o, zs, ep, h1, h2, h3, h4, h5⟩
end
section
variable {X : Cx} {o i value : Expr} {pos pos' : Pos} {td ty tv : TE}
def tXGet (P : Program) (w : World) (K : PySem.W.Frag) (td ty : TE) : TE := fun σ H Q => td σ H fun x H1 => ty σ H1 fun y H2 => ∃ a es k v, x = .ref a ∧ XAt P w K H2 a y es k ∧ valX es k = some v ∧ Q v H2
def tXNot (P : Program) (w : World) (K : PySem.W.Frag) (ty td : TE) : TE := fun σ H Q => ty σ H fun y H1 => td σ H1 fun x H2 => ∃ a es k, x = .ref a ∧ XAt P w K H2 a y es k ∧ Q (.bl (!(valX es k).isSome)) H2
def sXPut (P : Program) (w : World) (K : PySem.W.Frag) (td ty tv : TE) : TS := fun D σ H => tv σ H fun v H1 => td σ H1 fun x H2 => ty σ H2 fun y H3 => ∃ a b es k, x = .ref a ∧ y = .ref b ∧ H3 a = some (DXO P w a es) ∧ KeysAt K H3 es ∧
  SqT K H3 b (k.map kV) ∧ valX es k = none ∧ es.length < 1000 ∧ ∀ H4, (∀ c, c ≠ a → H4 c = H3 c) → H4 a = some (DXO P w a (es ++ [(k, b, v)])) → D.nx σ H4
theorem pe_xget (hu : X.A.units + 1 < cLine) (ho : PE X o td) (hi : PE X i ty) (hs : NoSl i) : PE X (.Subscript o i pos) (tXGet X.prog X.w X.K td ty) := by
  refine ⟨fun pins s σ H Q I h => ?_⟩
  refine subD_of PySem.F.slot_dict_getitem.lookup hs (thn (ho.run pins s σ H _ I h) fun u s1 ⟨x, H1, I1, rx, q1⟩ => thn (hi.run pins s1 σ H1 _ I1 q1) fun u2 s2 ⟨y, H2, I2, ry, a, es, k, v, ex, g, hv, q2⟩ => ?_)
  subst ex
  obtain rfl : u = Value.ref a := rx
  obtain ⟨_, _, xs, _, dd⟩ := dx_of I2 g.1 g.2.1
  exact ⟨dd.typeIs, x_get hu I2 g hv ry fun w' s3 I3 rw' => ⟨v, H2, I3, rw', q2⟩⟩
theorem pc_xnot (hu : X.A.units + 1 < cLine) (hi : PE X i ty) (ho : PE X o td) : PC X .NotIn i o (tXNot X.prog X.w X.K ty td) := by
  refine ⟨fun pins s σ H Q I h => ?_⟩
  refine thn (hi.run pins s σ H _ I h) fun u2 s1 ⟨y, H1, I1, ry, q1⟩ => thn (ho.run pins s1 σ H1 _ I1 q1) fun u s2 ⟨x, H2, I2, rx, a, es, k, ex, g, q2⟩ => ?_
  subst ex
  obtain rfl : u = Value.ref a := rx
  exact x_notIn hu I2 g ry fun s3 I3 => ⟨.bl (!(valX es k).isSome), H2, I3, rfl, q2⟩
theorem ps_xput (hu : X.A.units + 1 < cLine) (ho : PE X o td) (hi : PE X i ty) (hv : PE X value tv) (hs : swapsWith value (some (.Subscript o i pos')) pos.line X.env = pure false) :
    PS X (.Assign [.Subscript o i pos'] value pos) (sXPut X.prog X.w X.K td ty tv) := by
  refine ⟨fun pins s σ H D I h => ?_⟩
  refine wpAny_Assign_Subscript (thn (hv.run pins s σ H _ I h) fun r s1 ⟨v, H1, I1, rv, q1⟩ => thn (ho.run pins s1 σ H1 _ I1 q1) fun u s2 ⟨x, H2, I2, rx, q2⟩ => thn (hi.run pins s2 σ H2 _ I2 q2) fun u2 s3 ⟨y, H3, I3, ry, a, b, es, k, ex, ey, e, ks, hb, hn, few, q3⟩ => ?_) hs
  subst ex
  subst ey
  obtain rfl : u = Value.ref a := rx
  obtain rfl : u2 = Value.ref b := ry
  exact x_put hu I3 e ks hb hn few rv fun s4 I4 => ⟨σ, _, I4, q3 _ (fun c hc => upd_ne hc) upd_same⟩
theorem call_len_x : CallR X (.builtin "len") (fun xs H Q => ∃ p es, xs = [.ref p] ∧ Rd H p (DXO X.prog X.w p es) ∧ KeysAt X.K H es ∧ Q (.int ((es.length : Nat) : Int)) H) := by
  intro pins s σ H xs us Q I r h
  obtain ⟨p, es, rfl, hp, ks, q⟩ := h
  obtain ⟨u, rfl, rx⟩ := vals1 r
  obtain rfl : u = Value.ref p := rx
  obtain ⟨z, m, ys, rel, dd⟩ := dx_of I hp ks
  refine call_len_dictH m dd (by rw [← rel.len]; omega) ?_
  rw [← rel.len]
  exact ⟨.int ((es.length : Nat) : Int), H, I.tok _, ⟨_, rfl⟩, q⟩
end

/-! ### for t in d (the dict locked) -/
/-- the keys' own tuples, in their order -/
def ItX (P : Program) (w : World) (d : Addr) (o : Obj) (es : List Ent) : It :=
  ⟨fun i H => H d = some (.frz o (DXO P w d es)) ∧ i < es.length, fun i H x H' => H' = H ∧ ∃ e, es[i]? = some e ∧ x = .ref e.2.1, fun i H => H d = some (.frz o (DXO P w d es)) ∧ es.length ≤ i⟩
section
variable {X : Cx} {pins : List (Addr × Obj)} {σ : L2.St} {H : Hp} {s : Shared} {d : Addr} {o : Obj} {es : List Ent}
theorem frzX (I : L2.Inv X pins σ H s) (h : H d = some (.frz o (DXO X.prog X.w d es))) :
    (d == sysModules) = false ∧ s.heap.get? d = some o ∧ o.ExactDict ∧ ∃ (zs : Array DictEntry) (ep : Nat), o.data = .dict zs ep ∧ zs.size = es.length ∧
      ∀ (i : Nat) (e : Ent), es[i]? = some e → ∃ en : DictEntry, zs[i]? = some en ∧ en.key = .ref e.2.1 := by
  obtain ⟨hd, ⟨z, m, xs, r, o', zs, ep, ho, hx, hdt, he, _⟩, _⟩ := I.hok d _ h
  rw [hd] at ho
  cases ho
  refine ⟨m, hd, hx, zs, ep, hdt, by rw [size_of_entries he, ← r.len], fun i e q => ?_⟩
  obtain ⟨b, hb, e1, e2, _⟩ := paired_get r q
  have q2 := entry_at he i
  rw [hb] at q2
  exact ⟨_, q2, by rw [e2] <;> rfl⟩
end
theorem turn_X {P : Program} {w : World} {K : PySem.W.Frag} {tg : Expr} {d : Addr} {o : Obj} {zs : Array DictEntry} {ep : Nat} {es : List Ent} (it : Addr) (hod : o.data = .dict zs ep) : Turn P w K tg (ItX P w d o es) [it] it (fun i h => h.IsKeyIter it d i es.length ep) where
  mem := by simp
  obj := fun i h st b hb => by
    have e : b = it := by simpa using hb
    subst e
    obtain ⟨oi, e, c, dd⟩ := st
    exact ⟨oi, e, fun v z => by rw [dd] at z; cases z⟩
  keep := fun i h h' st k => st.at fun oi e => k it (by simp) oi e
  item := by
    intro X hP hw hK hc i pins s σ H E I hf st hg
    subst hP hw hK
    obtain ⟨hd, hi⟩ := hg
    obtain ⟨f0, f1, f2, f3, f4, f5⟩ := hf it (by simp)
    obtain ⟨hs, hgd, hx, zs', ep', hdt, hsz, ent⟩ := frzX I hd
    obtain ⟨rfl, rfl⟩ := dict_ep hod hdt
    obtain ⟨en, hen, hkey⟩ := ent i es[i] (List.getElem?_eq_getElem hi)
    refine next_key_item st hgd hdt hsz hen fun h' st' sb => ?_
    have I1 : L2.Inv X pins σ H { s with heap := h' } := I.turned (t' := s.toks) (fun b ob hb e => (sb.2 b hb).trans e) f0 f1 f3 f4 f5
    obtain ⟨oi, e, c, dd⟩ := id st'
    exact ⟨en.key, rfl, go_of (s := { s with heap := h' }) e c dd (by decide) ⟨.ref es[i].2.1, H, I1, hkey, ⟨rfl, es[i], List.getElem?_eq_getElem hi, rfl⟩, st', fun b hb => (hf b hb).1⟩⟩
  done := by
    intro X hP hw hK hc i pins s σ H E I hf st hg
    subst hP hw hK
    obtain ⟨hd, hi⟩ := hg
    obtain ⟨f0, f1, f2, f3, f4, f5⟩ := hf it (by simp)
    obtain ⟨hs, hgd, hx, zs', ep', hdt, hsz, ent⟩ := frzX I hd
    obtain ⟨rfl, rfl⟩ := dict_ep hod hdt
    exact next_key_end (I.ok.hd hc) st hgd hdt hsz hi fun h' eb => ⟨rfl, I.turned (t' := s.toks) (fun b ob hb e => eb b ob hb e) f0 f1 f3 f4 f5⟩
  self := fun _ _ _ _ _ st q => PySem.wpAny_pyIter_keyiter st q
def iX (P : Program) (w : World) (td : TE) : TI := fun σ H R => td σ H fun x H1 => ∃ d o es, x = .ref d ∧ H1 d = some (.frz o (DXO P w d es)) ∧ R (ItX P w d o es) H1
theorem pi_X {X : Cx} {tg e : Expr} {td : TE} (he : PE X e td) : PI X tg e (iX X.prog X.w td) := by
  refine ⟨fun pins s σ H R I h => ?_⟩
  refine thn (he.run pins s σ H _ I h) fun u s1 ⟨x, H1, I1, rx, d, o, es, ex, hd, q⟩ => ?_
  subst ex
  obtain rfl : u = Value.ref d := rx
  obtain ⟨hs, hgd, hx, zs, ep, hdt, hsz, ent⟩ := frzX I1 hd
  refine iter_keys hs hgd hx hdt (pi_one (tk := s1.toks) I1 _ (turn_X _ hdt) ⟨_, Heap.get?_push_size _ rfl, rfl, ?_⟩ q)
  rw [hsz] <;> rfl
theorem walk_X {P : Program} {w : World} {d : Addr} {o : Obj} {es : List Ent} : Walk (ItX P w d o es) es.length (fun H => H d = some (.frz o (DXO P w d es))) (fun i H x H' => H' = H ∧ ∃ e, es[i]? = some e ∧ x = .ref e.2.1) :=
  ⟨fun _ _ hi q => ⟨q, hi⟩, fun _ q => ⟨q, Nat.le_refl _⟩, fun _ _ _ _ _ _ y => y⟩
end K95D
end

section
set_option Elab.async false
set_option linter.all false
set_option maxRecDepth 100000
set_option maxHeartbeats 4000000
/-! K95T: sorted(d) of a dict whose keys are tuples of texts (its order left open); for k, x in enumerate(tuple); sorted lists of texts. -/
namespace K95T
open PySem PySem.Spec PyProof.Rows L2 K95R K95D

/-! ### the order of lists of texts -/
abbrev sLt (x y : Str) : Bool := decide (x.cps.toList < y.cps.toList)
theorem sLt_irr (x : Str) : sLt x x = false := decide_eq_false (List.lt_irrefl _)
theorem sLt_tr {x y z : Str} (a : sLt x y = true) (b : sLt y z = true) : sLt x z = true := decide_eq_true (List.lt_trans (of_decide_eq_true a) (of_decide_eq_true b))
theorem sLt_asym {x y : Str} (a : sLt x y = true) : sLt y x = false := by
  cases h : sLt y x with
  | false => rfl
  | true =>
    have := sLt_tr a h
    rw [sLt_irr] at this
    cases this
theorem str_ext {x y : Str} (h : x.cps.toList = y.cps.toList) : x = y := by
  obtain ⟨a⟩ := x
  obtain ⟨b⟩ := y
  have : a = b := Array.toList_inj.mp h
  rw [this]
theorem sLt_tot {x y : Str} (a : sLt x y = false) (b : sLt y x = false) : x = y :=
  str_ext (List.le_antisymm (List.not_lt.mp (of_decide_eq_false b)) (List.not_lt.mp (of_decide_eq_false a)))
theorem sLt_neg {x y z : Str} (a : sLt y x = false) (b : sLt z y = false) : sLt z x = false := by
  cases h : sLt z x with
  | false => rfl
  | true =>
    by_cases e : x = y
    · rw [e] at h
      rw [h] at b
      cases b
    · cases h2 : sLt x y with
      | true =>
        have := sLt_tr h h2
        rw [this] at b
        cases b
      | false => exact absurd (sLt_tot h2 a) e
def lexT : List Str → List Str → Bool
  | [], [] => false
  | [], _ :: _ => true
  | _ :: _, [] => false
  | x :: xs, y :: ys => if x = y then lexT xs ys else sLt x y
theorem lexT_asym : ∀ xs ys, lexT xs ys = true → lexT ys xs = false
  | [], [], h => by cases h
  | [], _ :: _, _ => rfl
  | _ :: _, [], h => by cases h
  | x :: xs, y :: ys, h => by
    unfold lexT at h ⊢
    by_cases e : x = y
    · rw [if_pos e] at h
      rw [if_pos e.symm]
      exact lexT_asym xs ys h
    · rw [if_neg e] at h
      rw [if_neg (Ne.symm e)]
      exact sLt_asym h
theorem lexT_tr : ∀ xs ys zs, lexT ys xs = false → lexT zs ys = false → lexT zs xs = false
  | [], [], [], _, _ => rfl
  | [], [], _ :: _, _, h => rfl
  | [], _ :: _, [], h, h2 => by cases h2
  | [], _ :: _, _ :: _, h, _ => rfl
  | _ :: _, [], _, h, _ => by cases h
  | _ :: _, _ :: _, [], _, h => by cases h
  | x :: xs, y :: ys, z :: zs, h1, h2 => by
    unfold lexT at h1 h2 ⊢
    by_cases a : y = x
    · rw [if_pos a] at h1
      subst a
      by_cases b : z = y
      · rw [if_pos b] at h2 ⊢
        exact lexT_tr xs ys zs h1 h2
      · rw [if_neg b] at h2 ⊢
        exact h2
    · rw [if_neg a] at h1
      by_cases b : z = y
      · subst b
        rw [if_neg a]
        exact h1
      · rw [if_neg b] at h2
        by_cases c : z = x
        · subst c
          exact absurd (sLt_tot h1 h2) a
        · rw [if_neg c]
          exact sLt_neg h1 h2

/-! ### sorted texts -/
theorem risen : ∀ (l : List Str) (p : Str), risingS p l = true → (p :: l).Pairwise fun x y => sLt y x = false
  | [], p, _ => List.pairwise_singleton _ _
  | x :: r, p, h => by
    have h' : (!ltCps x.cps.toList p.cps.toList && risingS x r) = true := h
    rw [Bool.and_eq_true, Bool.not_eq_true'] at h'
    obtain ⟨h1, h2⟩ := h'
    rw [ltCps_eq] at h1
    have ih := risen r x h2
    refine List.pairwise_cons.mpr ⟨fun y hy => ?_, ih⟩
    rcases List.mem_cons.mp hy with e | e
    · rw [e]
      exact h1
    · exact sLt_neg h1 ((List.pairwise_cons.mp ih).1 y e)
theorem sorted_pw {l : List Str} (h : sortedS l = true) : l.Pairwise fun x y => sLt y x = false := by
  cases l with
  | nil => exact List.Pairwise.nil
  | cons p r => exact risen r p h
theorem pw_uniq : ∀ {l m : List Str}, l.Pairwise (fun x y => sLt y x = false) → m.Pairwise (fun x y => sLt y x = false) → l.Perm m → l = m
  | [], m, _, _, h => (List.Perm.eq_nil h.symm).symm
  | x :: l, [], _, _, h => absurd h.length_eq (by simp)
  | x :: l, y :: m, hl, hm, h => by
    have e : x = y := by
      rcases List.mem_cons.mp (h.mem_iff.mp (List.mem_cons_self (a := x) (l := l))) with c | c
      · exact c
      · rcases List.mem_cons.mp (h.mem_iff.mpr (List.mem_cons_self (a := y) (l := m))) with d | d
        · exact d.symm
        · exact sLt_tot ((List.pairwise_cons.mp hm).1 x c) ((List.pairwise_cons.mp hl).1 y d)
    subst e
    rw [pw_uniq (List.pairwise_cons.mp hl).2 (List.pairwise_cons.mp hm).2 h.cons_inv]
theorem sorted_uniq {l m : List Str} (hl : sortedS l = true) (hm : sortedS m = true) (h : l.Perm m) : l = m := pw_uniq (sorted_pw hl) (sorted_pw hm) h

/-! ### sorted(d) -/
def isTs (h : Heap) (v : Value) (ts : List Str) : Prop := ∃ (a : Addr) (us : List Value), v = .ref a ∧ IsTup h a us.toArray ∧ StrsAre us ts
theorem strsAre_inj : ∀ {us : List Value} {xs ys : List Str}, StrsAre us xs → StrsAre us ys → xs = ys
  | _, _, _, .nil, .nil => rfl
  | _, _, _, .cons x t r, .cons _ _ r2 => by rw [strsAre_inj r r2]
theorem isTs_inj {h : Heap} {v : Value} {xs ys : List Str} (a : isTs h v xs) (b : isTs h v ys) : xs = ys := by
  obtain ⟨p, us, rfl, ⟨o, h1, _, n, h2⟩, r⟩ := a
  obtain ⟨q, ws, e, ⟨o2, h3, _, n2, h4⟩, r2⟩ := b
  cases e
  rw [h1] at h3
  cases h3
  rw [h2] at h4
  injection h4 with e1 _
  have : us = ws := by simpa using congrArg Array.toList e1
  subst this
  exact strsAre_inj r r2
open Classical in
noncomputable def tsOf (h : Heap) (v : Value) : List Str := if e : ∃ ts, isTs h v ts then e.choose else []
theorem tsOf_eq {h : Heap} {v : Value} {ts : List Str} (a : isTs h v ts) : tsOf h v = ts := by
  have e : ∃ ts, isTs h v ts := ⟨ts, a⟩
  unfold tsOf
  rw [dif_pos e]
  exact isTs_inj e.choose_spec a
theorem isTs_keep {h h' : Heap} {v : Value} {ts : List Str} (a : isTs h v ts) (k : ∀ b o, h.get? b = some o → o.cls = .type "tuple" → h'.get? b = some o) : isTs h' v ts := by
  obtain ⟨p, us, e, ⟨o, h1, h2, r⟩, rs⟩ := a
  exact ⟨p, us, e, ⟨o, k _ _ h1 h2, h2, r⟩, rs⟩
section
variable {prog : Program} {w : World} {A : Around} {E : Value → Shared → Prop} {s : Shared}
theorem lex_go {fin : Bool} : ∀ (xs ys : List Str) (us ws : List Value) (i : Nat) (Q : Bool → Shared → Prop), StrsAre us xs → StrsAre ws ys → Q (lexT xs ys) s → fin = decide (xs.length < ys.length) → PySem.W.KatLex prog w A true fin Q (us.zip ws) i s
  | [], ys, _, ws, i, Q, .nil, r2, hq, hf => by
    have e : lexT [] ys = fin := by
      rw [hf]
      cases ys <;> simp [lexT]
    rw [e] at hq
    exact PySem.W.kat_nil hq
  | x :: xs, [], _, _, i, Q, .cons _ t r1, .nil, hq, hf => by
    have e : lexT (x :: xs) [] = fin := by
      rw [hf]
      simp [lexT]
    rw [e] at hq
    exact PySem.W.kat_nil hq
  | x :: xs, y :: ys, _, _, i, Q, .cons (vs := us) _ t r1, .cons (vs := ws) _ u r2, hq, hf => by
    show PySem.W.KatLex prog w A true fin Q ((Value.str x t, Value.str y u) :: us.zip ws) i s
    have op : lexT (x :: xs) (y :: ys) = if x = y then lexT xs ys else sLt x y := rfl
    rw [op] at hq
    refine PySem.W.kat_cons (wpAny_eqBool_str (PySem.W.kat_go (fun e => ?_) (fun e => ?_)))
    · have ex : x = y := by simpa using e
      rw [if_pos ex] at hq
      exact PySem.W.kat_yes (lex_go xs ys us ws (i + 1) Q r1 r2 hq (by rw [hf]; simp))
    · have ex : ¬ x = y := by simpa using e
      rw [if_neg ex] at hq
      refine PySem.W.kat_no ?_
      cases hb : (true && i == 0) with
      | true => exact oneLt_str hq
      | false => exact PySem.W.kat_one _ _ (PyProof.Rows.lt_str hq)
theorem firsts_ts {h : Heap} : ∀ vs : List Value, (∀ v ∈ vs, ∃ t ts, isTs h v (t :: ts)) → ∃ fs : List Value, PySem.W.KatTups h vs fs ∧ fs.length = vs.length ∧ ∀ f ∈ fs, ∃ x u, f = Value.str x u
  | [], _ => ⟨[], PySem.W.KatTups.nil, rfl, fun f hf => nomatch hf⟩
  | v :: vs, all => by
    obtain ⟨fs, k, hl, hi⟩ := firsts_ts vs fun u hu => all u (List.mem_cons_of_mem _ hu)
    obtain ⟨t, ts, a, us, rfl, ⟨o, ho, hc, n, hd⟩, r⟩ := all v (List.mem_cons_self ..)
    cases r with
    | cons _ u r =>
      refine ⟨Value.str t u :: fs, PySem.W.KatTups.cons ho hc hd rfl k, by rw [List.length_cons, List.length_cons, hl], fun f hf => ?_⟩
      rcases List.mem_cons.mp hf with e | e
      · exact ⟨t, u, e⟩
      · exact hi f e
theorem ts_cmp {vs : List Value} (all : ∀ v ∈ vs, ∃ ts, isTs s.heap v ts) : SrtO.Cmp prog w A s (tuples' true) (fun p => p.1 ∈ vs) (SrtO.lt2 fun v u => lexT (tsOf s.heap v) (tsOf s.heap u)) := by
  intro p q hm hm'
  obtain ⟨xs, h1⟩ := all _ hm
  obtain ⟨ys, h2⟩ := all _ hm'
  show wpAny (model prog w) A (keyLt' (tuples' true) p.1 q.1) (fun r s' => s' = s ∧ r = lexT (tsOf s.heap p.1) (tsOf s.heap q.1)) (fun _ _ => False) s
  rw [tsOf_eq h1, tsOf_eq h2]
  obtain ⟨a, us, e1, ⟨o, ho, hc, n, hd⟩, r1⟩ := h1
  obtain ⟨b, ws, e2, ⟨o2, ho2, hc2, n2, hd2⟩, r2⟩ := h2
  rw [e1, e2]
  refine PySem.W.kat_lt ho hd ho2 hd2 ?_
  have l1 := StrsAre.len_eq r1
  have l2 := StrsAre.len_eq r2
  exact lex_go xs ys us ws 0 _ r1 r2 ⟨rfl, rfl⟩ (by simp only [List.size_toArray]; rw [l1, l2])
theorem ts_sortable {a : Addr} {vs : List Value} (h0 : 0 < vs.length) (all : ∀ v ∈ vs, ∃ t ts, isTs s.heap v (t :: ts)) (ha : ∀ o, s.heap.get? a = some o → o.cls ≠ .type "tuple") :
    SrtO.SortableO prog w A s a vs fun v u => lexT (tsOf s.heap v) (tsOf s.heap u) := by
  intro h' keep
  have kp : ∀ b o, s.heap.get? b = some o → o.cls = .type "tuple" → h'.get? b = some o := fun b o e c => keep b o (fun z => by subst z; exact ha o e c) e
  have all' : ∀ v ∈ vs, ∃ t ts, isTs h' v (t :: ts) := fun v hv => let ⟨t, ts, x⟩ := all v hv; ⟨t, ts, isTs_keep x kp⟩
  have same : ∀ v ∈ vs, tsOf h' v = tsOf s.heap v := fun v hv => by
    obtain ⟨t, ts, x⟩ := all v hv
    rw [tsOf_eq x, tsOf_eq (isTs_keep x kp)]
  obtain ⟨fs, h1, h2, h3⟩ := firsts_ts vs all'
  refine ⟨tuples' true, fun Q E hq => ?_, fun p q hm hm' => ?_⟩
  · refine PySem.W.kat_kind (T := .type "str") h1 (by omega) (fun f hf => ?_) (by rfl) ?_
    · obtain ⟨x, u, rfl⟩ := h3 f hf
      exact PySem.W.Looks.now
    · have e : (Value.type "str" != Value.type "tuple") = true := by first | decide +kernel | rfl | decide
      rw [e]
      exact hq
  · have z := ts_cmp (prog := prog) (w := w) (A := A) (s := { s with heap := h' }) (vs := vs) (fun v hv => let ⟨t, ts, x⟩ := all' v hv; ⟨_, x⟩) p q hm hm'
    have e1 : (SrtO.lt2 fun v u => lexT (tsOf h' v) (tsOf h' u)) p q = (SrtO.lt2 fun v u => lexT (tsOf s.heap v) (tsOf s.heap u)) p q := by
      show lexT (tsOf h' p.1) (tsOf h' q.1) = lexT (tsOf s.heap p.1) (tsOf s.heap q.1)
      rw [same _ hm, same _ hm']
    rw [← e1]
    exact z
end
theorem swo_ts (g : Value → List Str) : SrtO.Swo fun v u => lexT (g v) (g u) := ⟨fun x y h => lexT_asym _ _ h, fun x y z a b => lexT_tr _ _ _ a b⟩
section
variable {X : Cx}
theorem strs_key : ∀ {ts : List Str} {us : List Value}, Vals ((ts.map fun t => (Sum.inr t : L2.Key)).map kV) us → StrsAre us ts
  | [], us, r => by
    cases r
    exact .nil
  | t :: ts, us, r => by
    cases r with
    | cons h r =>
      obtain ⟨u, rfl⟩ := h
      exact .cons t u (strs_key r)
theorem cr_sortedX (hc : X.calm = true) : CallR X (.builtin "sorted") (fun xs H Q => ∃ (d : Addr) (es : List Ent), xs = [.ref d] ∧ Rd H d (DXO X.prog X.w d es) ∧ KeysAt X.K H es ∧ (∀ e ∈ es, ∃ t ts, e.1 = (t :: ts).map Sum.inr) ∧
    ∀ p bs, List.Perm bs (es.map fun e => e.2.1) → H p = none → Q (.ref p) (upd H p (.lst (bs.map V.ref)))) := by
  intro pins s σ H xs us Q I r h
  obtain ⟨d, es, rfl, hd, ks, hk, q⟩ := h
  obtain ⟨u, rfl, rx⟩ := vals1 r
  obtain rfl : u = Value.ref d := rx
  obtain ⟨z, m, ys, pr, o, zs, ep, ho, hx, hdt, he, hn⟩ := (show ObjOk X.prog X.w H s.heap d (DXO X.prog X.w d es) from hd.ok I.hok).1
  have l1 : zs.size = ys.length := size_of_entries he
  have l2 := pr.len
  refine Calls.call_function_entry PyProof.Rows.kind_sorted PyProof.Rows.plain_sorted PyProof.Rows.entry_sorted (PyProof.Rows.args_sorted1 _) ?_
  unfold Builtin.«sorted»
  refine wpAny_bind (m := checkCount "sorted" 1 1 _) (wpAny_pure ?_)
  refine wpAny_bind (PySem.W.kdu_collect (A := X.A.in1) (kdl_raw m hx hdt) (I.ok.hd hc) ho (by rw [sizeLine_eq]; omega) fun h' tk acc kp it => ?_)
  have ea : acc.toList = es.map fun e => Value.ref e.2.1 := by
    have hl : acc.toList.length = es.length := by rw [Array.length_toList, it.1, l1, l2]
    apply List.ext_getElem?
    intro j
    rw [List.getElem?_map]
    cases hj : acc.toList[j]? with
    | none =>
      have h1 := List.getElem?_eq_none_iff.mp hj
      rw [List.getElem?_eq_none (by omega)]
      all_goals rfl
    | some v =>
      obtain ⟨en, hen, hv⟩ := it.2 j v (by rw [← Array.getElem?_toList]; exact hj)
      have qe := entry_at he j
      rw [hen] at qe
      have hj2 : j < es.length := by rw [← hl]; exact (List.getElem?_eq_some_iff.mp hj).1
      obtain ⟨b, hb, _, e2, _⟩ := paired_get pr (List.getElem?_eq_getElem hj2)
      rw [hb] at qe
      have e3 : en = entryOfKey (tupleKind (mixKind X.prog X.w)) b := Option.some.inj qe
      rw [List.getElem?_eq_getElem hj2, hv, e3]
      show some (Value.ref b.2.1) = some (Value.ref es[j].2.1)
      rw [e2]
  have I1 : L2.Inv X pins σ H { s with heap := h', toks := tk } := I.kept kp
  have hal : acc.toList.length = es.length := by rw [ea, List.length_map]
  refine wpAny_bind (wpAny_newList ?_ (by rw [hal, sizeLine_eq]; omega))
  have hoL : (h'.push (seqObj "list" acc.toList.toArray 0)).get? h'.objs.size = some (seqObj "list" acc.toList.toArray 0) := Heap.get?_push_size _ rfl
  show wpAny _ _ _ _ _ { s with heap := h'.push (seqObj "list" acc.toList.toArray 0), toks := tk }
  have keep : ∀ b o, s.heap.get? b = some o → (h'.push (seqObj "list" acc.toList.toArray 0)).get? b = some o := fun b o e => Heap.get?_push_of_some _ (kp b o e)
  have tup : ∀ v ∈ acc.toList, ∃ t ts, isTs (h'.push (seqObj "list" acc.toList.toArray 0)) v (t :: ts) := fun v hv => by
    rw [ea] at hv
    obtain ⟨e, he', rfl⟩ := List.mem_map.mp hv
    obtain ⟨t, ts, ek⟩ := hk e he'
    have hq := ks e he'
    rw [ek] at hq
    obtain ⟨its, rv, pl, _⟩ := I.tuple hq
    exact ⟨t, ts, e.2.1, its, rfl, pl.keeps fun c o z => keep c o z, strs_key rv⟩
  refine wpAny_bind (wpAny_holding (wpAny_call_entry PyProof.Rows.slot_list_sort ⟨_, hoL, rfl⟩ PyProof.Rows.entry_list_sort
    (SrtO.list_sort_ord (s := { s with heap := h'.push (seqObj "list" acc.toList.toArray 0), toks := tk }) (swo_ts (tsOf (h'.push (seqObj "list" acc.toList.toArray 0)))) hoL (by rw [hal, sizeLine_eq]; omega)
      (fun h2 => ts_sortable (by omega) tup fun ob e c => by
        have e' : some ob = some (seqObj "list" acc.toList.toArray 0) := e.symm.trans hoL
        cases e'
        exact absurd (Value.type.inj c) (by decide)) fun out hs hb => ⟨_, rfl, ?_⟩)
    (PyProof.Rows.args_list_sort _)))
  obtain ⟨bs, hbs, hp2⟩ : ∃ bs : List Addr, out = bs.map Value.ref ∧ bs.Perm (es.map fun e => e.2.1) := by
    have pm := hb.perm
    rw [ea, show (es.map fun e : Ent => Value.ref e.2.1) = (es.map fun e => e.2.1).map Value.ref by rw [List.map_map]; rfl] at pm
    obtain ⟨bs, h1, h2⟩ := perm_lift Value.ref pm _ rfl
    exact ⟨bs, h2.symm, h1⟩
  obtain ⟨c, hcl⟩ := PyProof.Rows.sortedHeap_at (vs := acc.toList) (out := out.toArray) hoL
  have hn0 : H h'.objs.size = none := I1.hok.fresh (Nat.le_refl _)
  have old : ∀ b o, h'.get? b = some o → (sortedHeap (h'.push (seqObj "list" acc.toList.toArray 0)) h'.objs.size acc.toList out.toArray).get? b = some o := fun b o e =>
    (PyProof.Rows.sortedHeap_old (Nat.ne_of_lt (Heap.lt_size e)) (by rw [size_push']; exact Nat.lt_succ_of_lt (Heap.lt_size e))).trans (Heap.get?_push_of_some _ e)
  have len : (bs.map V.ref).length ≤ sizeLine := by
    have := hp2.length_eq
    rw [List.length_map] at this
    rw [List.length_map, sizeLine_eq]
    omega
  refine wpAny_pure ⟨_, rfl, .ref h'.objs.size, upd H h'.objs.size (.lst (bs.map V.ref)), I1.laid (t' := tk) old (Nat.le_refl _) ⟨len, out, c, ?_, hcl⟩, rfl, q _ bs hp2 hn0⟩
  rw [hbs]
  exact vals_refs bs
end
end K95T
end

section
set_option Elab.async false
set_option linter.all false
set_option maxRecDepth 100000
set_option maxHeartbeats 4000000
/-! K95U: for k, x in enumerate(t), t a tuple. -/
namespace K95U
open PySem PySem.Spec PyProof.Rows L2 K95R
open AutoSeq1 (wpAny_loadPart')

theorem meets_new (l : Addr) (items : Array Value) (n : Nat) (dct : Option Addr) (sl : Array (Option Value)) :
    Meets (Builtin.«enumerate.__new__» ⟨[.type "enumerate", .ref l], []⟩) (fun _ R s => s.heap.get? l = some { cls := .type "tuple", dict := dct, data := .seq items n, slots := sl } ∧
      R (.ok (.ret (.ref (s.heap.push { cls := .type "tuple_iterator", data := .fields #[.ref l, .int 0 0] }).objs.size)))
        { s with heap := (s.heap.push { cls := .type "tuple_iterator", data := .fields #[.ref l, .int 0 0] }).push { cls := .type "enumerate", data := .fields #[.none, .bool false, .ref s.heap.objs.size, rawInt 0, .none, .none] } }) :=
  .of_wp fun prog w A R s h => by
    obtain ⟨hp, g, d, tk, os⟩ := s
    obtain ⟨hl, h⟩ := h
    have hsub := sub_enumerate
    have hT : Heap.IsTuple (Shared.heap ⟨hp, g, d, tk, os⟩) l items := ⟨_, hl, rfl, n, rfl⟩
    wp_walk using wpAny_loadPart' hl
    refine wpAny_stack_any fun st => wpAny_pure ?_
    split
    · rename_i c _ _ _ _ _
      cases (c == Value.type "enumerate") <;> (wp_walk using wpAny_loadPart' hl, wpAny_pyIter_tuple hT; exact ⟨_, rfl, h⟩)
    · wp_walk using wpAny_loadPart' hl, wpAny_pyIter_tuple hT
      exact ⟨_, rfl, h⟩
section
variable {prog : Program} {w : World} {A : Around} {E : Value → Shared → Prop} {s : Shared}
theorem call_enum {l : Addr} {items : Array Value} {Q : Value → Shared → Prop} (hT : s.heap.IsTuple l items)
    (h : ∀ h', IsEnum h' (s.heap.objs.size + 1) s.heap.objs.size 0 .none → h'.IsTupleIter s.heap.objs.size l 0 → h'.objs.size = s.heap.objs.size + 2 →
      (∀ b o, s.heap.get? b = some o → h'.get? b = some o) → Q (.ref (s.heap.objs.size + 1)) { s with heap := h' }) :
    wpAny (model prog w) A (call (.type "enumerate") [.ref l]) Q E s := by
  obtain ⟨⟨c, dct, dt, sl⟩, hl, hc, n, hd⟩ := hT
  simp only at hc hd
  subst hc
  subst hd
  refine callType_new F.called_enumerate (by decide) (F.typeCall_enumerate_1 _) (F.newCall_enumerate_1 _) (fun obj => F.args_object_init_2 obj _) F.entry_enumerate_new (meets_new l items n dct sl) ⟨hl, ?_⟩
  generalize e1 : s.heap.push { cls := .type "tuple_iterator", data := .fields #[.ref l, .int 0 0] } = g1
  have z1 : g1.objs.size = s.heap.objs.size + 1 := by rw [← e1]; exact Heap.size_push ..
  have i1 : g1.get? s.heap.objs.size = some { cls := .type "tuple_iterator", data := .fields #[.ref l, .int 0 0] } := by rw [← e1]; exact Heap.get?_push_size _ rfl
  have k1 : ∀ b o, s.heap.get? b = some o → g1.get? b = some o := fun b o x => by rw [← e1]; exact Heap.get?_push_of_some _ x
  show _ ∧ _
  rw [z1]
  have he : IsEnum (g1.push { cls := .type "enumerate", data := .fields #[.none, .bool false, .ref s.heap.objs.size, rawInt 0, .none, .none] }) (s.heap.objs.size + 1) s.heap.objs.size 0 .none := by
    have q := Heap.get?_push_size g1 (o := { cls := .type "enumerate", data := .fields #[.none, .bool false, .ref s.heap.objs.size, rawInt 0, .none, .none] }) rfl
    rw [z1] at q
    exact q
  exact ⟨⟨_, he, rfl⟩, h _ he ⟨_, Heap.get?_push_of_some _ i1, rfl, rfl⟩ (by rw [Heap.size_push, z1]) fun b o x => Heap.get?_push_of_some _ (k1 b o x)⟩
end
/-- the tuple at a, each item in a new pair -/
def ItE (K : PySem.W.Frag) (a : Addr) (xs : List V) : It :=
  ⟨fun i H => SqT K H a xs ∧ i < xs.length, fun i H v H' => ∃ T x, xs[i]? = some x ∧ v = .ref T ∧ H T = none ∧ H' = upd H T (.tup [.int (i : Nat), x]), fun i H => SqT K H a xs ∧ i = xs.length⟩
theorem turn_E {P : Program} {w : World} {K : PySem.W.Frag} {elts : List Expr} {kk : Nat} {tpos : Pos} (a e it : Addr) (xs : List V) :
    Turn P w K (.Tuple elts kk tpos) (ItE K a xs) [e, it] e (fun i h => (∃ old, IsEnum h e it ((i : Nat) : Int) old) ∧ h.IsTupleIter it a i ∧ e ≠ it ∧ e ≠ a ∧ a ≠ it) where
  mem := by simp
  obj := fun i h st b hb => by
    obtain ⟨⟨old, he⟩, ⟨o, ho, hc, hd⟩, _⟩ := st
    have e' : b = e ∨ b = it := by simpa using hb
    rcases e' with z | z
    · rw [z]; exact ⟨_, he, fun v q => nomatch q⟩
    · rw [z]; exact ⟨o, ho, fun v q => by rw [hd] at q; cases q⟩
  keep := fun i h h' st k => let ⟨⟨old, he⟩, hi, hne⟩ := st; ⟨⟨old, k e (by simp) _ he⟩, hi.at fun o q => k it (by simp) o q, hne⟩
  item := by
    intro X hP hw hK hc i pins s σ H E I hf st hg
    subst hP hw hK
    obtain ⟨⟨old, he⟩, hit, hne, hea, hai⟩ := st
    obtain ⟨hq, hi⟩ := hg
    obtain ⟨its, rv, p, hz⟩ := I.tuple hq
    have hx : xs[i]? = some xs[i] := List.getElem?_eq_getElem hi
    obtain ⟨u, hu, ru⟩ := rv.get hx
    have hel : e < s.heap.objs.size := Heap.lt_size he
    have hil : it < s.heap.objs.size := by obtain ⟨_, q, _⟩ := hit; exact Heap.lt_size q
    have hn : i < its.toArray.size := by
      have := rv.length
      simp only [List.size_toArray]
      omega
    refine wpAny_pyNext_enum_itemD (Draws.tuple (A := X.A.in1) (I.ok.hd hc) it a hai its.toArray) he ⟨hit, p⟩ hn hne (by simp [hne, hea]) fun x h' tk hx' ho hst hT hsz hk => ?_
    have ex : x = u := by
      rw [List.getElem?_toArray, hu] at hx'
      exact (Option.some.inj hx').symm
    subst ex
    refine ⟨_, rfl, wpAny_letOwnedTupleGo_enum (s := { s with heap := h', toks := tk + 1 }) ho fun h'' he' sb => ?_⟩
    have hT2 : h''.get? s.heap.objs.size = some { cls := .type "tuple", data := .seq #[.int i tk, x] } := (sb.2 _ (Nat.ne_of_gt hel)).trans hT
    have new : ObjOk X.prog X.w (upd H s.heap.objs.size (.tup [.int (i : Nat), xs[i]])) h'' s.heap.objs.size (.tup [.int (i : Nat), xs[i]]) :=
      ⟨by show 2 ≤ sizeLine; decide, [.int i tk, x], .cons ⟨_, rfl⟩ (.cons ru .nil), ⟨_, hT2, rfl, _, rfl⟩⟩
    have I1 : L2.Inv X pins σ (upd H s.heap.objs.size (.tup [.int (i : Nat), xs[i]])) { s with heap := h'', toks := tk + 1 } :=
      I.turnedNew (ch := [e, it]) (fun b ob hb q => (sb.2 b (fun z => hb (by simp [z]))).trans (hk b ob (fun z => hb (by simp [z])) (fun z => hb (by simp [z])) q)) hf (Nat.le_refl _) new
    refine ⟨.ref s.heap.objs.size, _, I1, rfl, ⟨_, xs[i], hx, rfl, I.hok.fresh (Nat.le_refl _), rfl⟩, ⟨⟨x, ?_⟩, hst.1.at fun o q => (sb.2 it (Ne.symm hne)).trans q, hne, hea, hai⟩, fun b hb => ?_⟩
    · have e1 : ((i + 1 : Nat) : Int) = (i : Int) + 1 := by omega
      rw [e1]
      exact he'
    · have hb' : b < s.heap.objs.size := by
        have e' : b = e ∨ b = it := by simpa using hb
        rcases e' with z | z
        · rw [z]; exact hel
        · rw [z]; exact hil
      rw [upd_ne (Nat.ne_of_lt hb')]
      exact (hf b hb).1
  done := by
    intro X hP hw hK hc i pins s σ H E I hf st hg
    subst hP hw hK
    obtain ⟨⟨old, he⟩, hit, hne, hea, hai⟩ := st
    obtain ⟨hq, hi⟩ := hg
    obtain ⟨its, rv, p, hz⟩ := I.tuple hq
    obtain ⟨f0, f1, f2, f3, f4, f5⟩ := hf it (by simp)
    have hl := rv.length
    have e1 : i = its.toArray.size := by simp only [List.size_toArray]; omega
    subst e1
    exact wpAny_pyNext_enum_endD (Draws.tuple (A := X.A.in1) (I.ok.hd hc) it a hai its.toArray) he ⟨hit, p⟩ fun h' eb => ⟨rfl, I.turned (t' := s.toks) (fun b o hb q => eb b o hb q) f0 f1 f3 f4 f5⟩
  self := fun A i s Q E st h => let ⟨⟨_, he⟩, _⟩ := st; wpAny_pyIter_enum he h
def iE (K : PySem.W.Frag) (ta : TA) : TI := fun σ H R => ta σ H fun vs H1 => ∃ a xs, vs = [.ref a] ∧ SqT K H1 a xs ∧ R (ItE K a xs) H1
theorem pi_enumT {X : Cx} {e : Expr} {ta : TA} {p pos tpos : Pos} {elts : List Expr} {kk : Nat} (hg : Gl X "enumerate") (hm : X.mg "enumerate" = none) (ha : PA X [e] ta) (hs : starEach [e] X.env = [(false, eval e X.env)] := by rfl) :
    PI X (.Tuple elts kk tpos) (.Call (.Name "enumerate" p) [e] [] pos) (iE X.K ta) := by
  refine ⟨fun pins s σ H R I h => ?_⟩
  refine Call_ (ld_blt I hg hm boot_enumerate (PyProof.Rows.callWith_type1 (thn (ha.run pos pins s σ H _ I h) fun us s1 ⟨vs, H1, I1, r1, q1⟩ => ?_) hs rfl))
  obtain ⟨a, xs, ex, hq, q⟩ := q1
  subst ex
  cases r1 with
  | cons r rr =>
    cases rr
    cases r
    obtain ⟨its, rv, p', hz⟩ := I1.tuple hq
    have hal : a < s1.heap.objs.size := p'.lt
    refine call_enum p' fun h' he hit hsz hk => wpAny_pyIter_enum he ?_
    have I2 : L2.Inv X pins σ H1 { s1 with heap := h' } := I1.kept (t' := s1.toks) hk
    refine ⟨s1.heap.objs.size + 1, [s1.heap.objs.size + 1, s1.heap.objs.size], _, _, H1, rfl, I2, turn_E a (s1.heap.objs.size + 1) s1.heap.objs.size xs, ⟨⟨.none, he⟩, hit, Nat.succ_ne_self _, Nat.ne_of_gt (Nat.lt_succ_of_lt hal), Nat.ne_of_lt hal⟩, fun b hb => ?_, q⟩
    have e' : b = s1.heap.objs.size + 1 ∨ b = s1.heap.objs.size := by simpa using hb
    have hle : s1.heap.objs.size ≤ b := by
      rcases e' with z | z
      · rw [z]; exact Nat.le_add_right _ _
      · rw [z]; exact Nat.le_refl _
    exact I1.fpOk hle (I1.hok.fresh hle)
theorem walk_E {K : PySem.W.Frag} {a : Addr} {xs : List V} : Walk (ItE K a xs) xs.length (fun H => SqT K H a xs) (fun i H v H' => ∃ T x, xs[i]? = some x ∧ v = .ref T ∧ H T = none ∧ H' = upd H T (.tup [.int (i : Nat), x])) :=
  ⟨fun _ _ hi q => ⟨q, hi⟩, fun _ q => ⟨q, rfl⟩, fun _ _ _ _ _ _ y => y⟩
end K95U
end

section
set_option Elab.async false
set_option linter.all false
set_option maxRecDepth 100000
set_option maxHeartbeats 4000000
/-! K95V: sorted(t) of a tuple of texts; a call by keywords alone. -/
namespace K95V
open PySem PySem.Spec PyProof.Rows L2 K95R
section
variable {X : Cx}
theorem cr_sortedTup : CallR X (.builtin "sorted") (fun xs H Q => ∃ (a : Addr) (ts : List Str), xs = [.ref a] ∧ SqT X.K H a (ts.map V.str) ∧ ts.length < 64 ∧
    ∀ (ys : List Str) (p : Addr), ys.Perm ts → sortedS ys = true → H p = none → Q (.ref p) (upd H p (.lst (ys.map V.str)))) := by
  intro pins s σ H xs us Q I r h
  obtain ⟨a, ts, rfl, hq, h64, q⟩ := h
  rw [Vals.ref1 r]
  obtain ⟨its, rv, pl, hz⟩ := I.tuple hq
  have hS : StrsAre its ts := strsAre_of rv
  have hil : its.length = ts.length := StrsAre.len_eq hS
  refine Calls.call_function_entry PyProof.Rows.kind_sorted PyProof.Rows.plain_sorted PyProof.Rows.entry_sorted (PyProof.Rows.args_sorted1 _) ?_
  unfold Builtin.«sorted»
  refine wpAny_bind (m := checkCount "sorted" 1 1 _) (wpAny_pure ?_)
  obtain ⟨tob, tat, tcl, tn, tdat⟩ := id pl
  refine wpAny_bind (PySem.wpAny_collect_seq a (.inr rfl) tat tcl tdat (fun g gk => ?_) (by rw [sizeLine_eq]; simp only [List.size_toArray]; omega))
  refine wpAny_bind (wpAny_newList ?_ (by rw [hil, sizeLine_eq]; omega))
  have hoL : (g.push (seqObj "list" its.toArray 0)).get? g.objs.size = some (seqObj "list" its.toArray 0) := Heap.get?_push_size _ rfl
  show wpAny _ _ _ _ _ { s with heap := g.push (seqObj "list" its.toArray 0) }
  refine wpAny_bind (wpAny_holding (wpAny_call_entry PyProof.Rows.slot_list_sort ⟨_, hoL, rfl⟩ PyProof.Rows.entry_list_sort
    (list_sort_treeK strKind_oneLt (s := { s with heap := g.push (seqObj "list" its.toArray 0) }) hoL hS.keysOf (fun v₁ v₂ rest e => keyKind_strs (by rw [← e]; exact hS)) (by rw [hil]; exact h64) fun st' hp hs => ⟨_, rfl, ?_⟩)
    (PyProof.Rows.args_list_sort _)))
  obtain ⟨ys, a1, a2, a3⟩ := sorted_out_str hS hp hs
  obtain ⟨c, hcl⟩ := PyProof.Rows.sortedHeap_at (vs := its) (out := (arrOf st').map (·.2)) hoL
  have I1 : L2.Inv X pins σ H { s with heap := g } := I.kept (t' := s.toks) gk
  have old : ∀ b o, g.get? b = some o → (sortedHeap (g.push (seqObj "list" its.toArray 0)) g.objs.size its ((arrOf st').map (·.2))).get? b = some o := fun b o e =>
    (PyProof.Rows.sortedHeap_old (Nat.ne_of_lt (Heap.lt_size e)) (by rw [size_push']; exact Nat.lt_succ_of_lt (Heap.lt_size e))).trans (Heap.get?_push_of_some _ e)
  have len : (ys.map V.str).length ≤ sizeLine := by rw [List.length_map, a2.length_eq, sizeLine_eq]; omega
  exact wpAny_pure ⟨_, rfl, .ref g.objs.size, upd H g.objs.size (.lst (ys.map V.str)), I1.laid (t' := s.toks) old (Nat.le_refl _) ⟨len, _, c, vals_of_strs a1, by rw [Array.toArray_toList]; exact hcl⟩, rfl, q ys _ a2 a3 (I1.hok.fresh (Nat.le_refl _))⟩
end
/-- f(k = v, ..) -/
theorem pe_callN0 {X : Cx} {CX : CXT} {k : Nat} {f : Addr} {fd : FuncData} {ps ks : List Str} {sp : Sp} {E : XK} {x : Str} {p pos : Pos} {kws : List Keyword} {tk : TA} {g : List Value → List Value → List Value} {gV : List V → List V → List V}
    (F : FnOk X.prog X.w X.K X.mg X.base CX k f fd ps sp) (hr : Room k X.A) (hg : Gl X x) (hm : X.mg x = some (.ref f)) (hk : PySem.W.keepIn X.K (.ref f) = true) (hb : KBn X.K fd ps 0 ks g gV) (hx : Passes CX X E)
    (hkw : PK X kws tk) (hall : (backToKw pos (keywordEach kws X.env)).all (·.1.isSome) = true := by rfl) (hks : (backToKw pos (keywordEach kws X.env)).filterMap (·.1) = ks := by rfl)
    (hdb : (x == ("__debug__" : Str)) = false := by decide) (hpl : ((backTo pos (starEach [] X.env)).any (·.1) || (backToKw pos (keywordEach kws X.env)).any (·.1.isNone)) = false := by rfl) :
    PE X (.Call (.Name x p) [] kws pos) (tCallN 0 ks.length sp gV E tNil tk) := by
  refine ⟨fun pins s σ H Q I h => ?_⟩
  refine wpAny_Call_Name_kw (ld_glob I hg hm (PySem.W.callWith_KW0 (h₀ := X.base) I.ok.mod.kin hk hall ?_ hpl) hdb)
  refine thn (hkw.run pos pins s σ H _ I h) fun ws s2 ⟨zs, H2, I2, rz, l1, l2, q2⟩ => ⟨I2.kIn, ?_⟩
  rw [hks]
  exact run_fnN F hr hb hx I2 .nil rz l1 l2 q2
end K95V
end

section
set_option Elab.async false
set_option linter.all false
set_option maxRecDepth 100000
set_option maxHeartbeats 4000000
/-! K95H: small helpers of the walk. -/
namespace K95H
open PySem PySem.Spec PyProof.Rows L2 K95R
theorem Same.lay {H : Hp} {p : Addr} {o : HO} (hp : H p = none) : Same H (upd H p o) := fun b u e => by rw [upd_ne (ne_of_none e hp)]; exact e
theorem Same.sqT {K : PySem.W.Frag} {H H' : Hp} {a : Addr} {xs : List V} (e : Same H H') (h : SqT K H a xs) : SqT K H' a xs := by
  rcases h with (h | ⟨o, h⟩) | h
  · exact .inl (.inl (e _ _ h))
  · exact .inl (.inr ⟨o, e _ _ h⟩)
  · exact .inr h
/-- what is stored at p counts for nothing where p is new -/
theorem Same.upd {H H' : Hp} {p : Addr} {o : HO} (e : Same H H') (hp : H p = none) : Same H (L2.upd H' p o) := fun b u h => by
  rw [upd_ne (ne_of_none h hp)]
  exact e b u h
/-- t[lo:hi], whether it is t or new -/
theorem cut_any {K : PySem.W.Frag} {H : Hp} {a : Addr} {xs : List V} {lo hi : Option Int} {Q : VK} (hs : SqT K H a xs) (q : ∀ H' p, Same H H' → SqT K H' p (cutV xs lo hi) → Q (.ref p) H') : rSlA K (.ref a) lo hi H Q := by
  refine ⟨a, xs, rfl, hs, fun hw => ?_, fun _ p hp => ?_⟩
  · have e : cutV xs lo hi = xs := by
      unfold cutV
      rw [hw.1, hw.2]
      simp
    exact q H a (Same.refl H) (by rw [e]; exact hs)
  · exact q _ p (Same.lay hp) (.inl (.inl upd_same))
theorem cut_from (xs : List V) (k : Nat) : cutV xs (some (k : Int)) none = xs.drop k := by
  unfold cutV
  rw [HT.sIx_none, HT.sIx_nat]
  rw [List.take_of_length_le (by rw [List.length_drop]; exact Nat.le_refl _)]
  by_cases h : k ≤ xs.length
  · rw [Nat.min_eq_left h]
  · rw [Nat.min_eq_right (by omega), List.drop_of_length_le (Nat.le_refl _), List.drop_of_length_le (by omega)]
theorem cut_to (xs : List V) (k : Nat) : cutV xs none (some (k : Int)) = xs.take k := by
  unfold cutV
  rw [HT.sIx_none, HT.sIx_nat]
  simp only [List.drop_zero, Nat.sub_zero]
  by_cases h : k ≤ xs.length
  · rw [Nat.min_eq_left h]
  · rw [Nat.min_eq_right (by omega), List.take_of_length_le (Nat.le_refl _), List.take_of_length_le (by omega)]
theorem cut_mid (xs : List V) (k : Nat) : cutV xs (some (k : Int)) (some (-1)) = (xs.drop k).take (xs.length - 1 - k) := by
  unfold cutV
  have e : HT.sIx xs.length xs.length (some (-1)) = xs.length - 1 := by
    show (if (-1 : Int) < 0 then ((-1 : Int) + (xs.length : Int)).toNat else min (-1 : Int).toNat xs.length) = _
    rw [if_pos (by decide)]
    omega
  rw [e, HT.sIx_nat]
  by_cases h : k ≤ xs.length
  · rw [Nat.min_eq_left h]
  · rw [Nat.min_eq_right (by omega), List.drop_of_length_le (Nat.le_refl _), List.drop_of_length_le (by omega)]
    simp
/-- data of texts, of ints -/
theorem dp_strs {K : PySem.W.Frag} {H : Hp} : ∀ ts : List Str, DpAll K H (ts.map V.str) (ts.map PyData.str)
  | [] => .nil
  | t :: ts => .cons (.str t) (dp_strs ts)
theorem dp_ints {K : PySem.W.Frag} {H : Hp} : ∀ ns : List Int, DpAll K H (ns.map V.int) (ns.map PyData.int)
  | [] => .nil
  | n :: ns => .cons (.int n) (dp_ints ns)
theorem eqv_strs : ∀ xs ys : List Str, PyData.eqvAll (xs.map PyData.str) (ys.map PyData.str) = decide (xs = ys)
  | [], [] => rfl
  | [], _ :: _ => rfl
  | _ :: _, [] => rfl
  | x :: xs, y :: ys => by
    show (PyData.eqv (.str x) (.str y) && PyData.eqvAll (xs.map PyData.str) (ys.map PyData.str)) = _
    rw [eqv_strs xs ys]
    have e : PyData.eqv (.str x) (.str y) = decide (x = y) := by
      show (x == y) = _
      by_cases h : x = y
      · subst h; simp
      · rw [decide_eq_false h]; exact beq_eq_false_iff_ne.mpr h
    rw [e]
    by_cases h : x = y <;> by_cases h2 : xs = ys <;> simp [h, h2]
theorem eqv_ints : ∀ xs ys : List Int, PyData.eqvAll (xs.map PyData.int) (ys.map PyData.int) = decide (xs = ys)
  | [], [] => rfl
  | [], _ :: _ => rfl
  | _ :: _, [] => rfl
  | x :: xs, y :: ys => by
    show (PyData.eqv (.int x) (.int y) && PyData.eqvAll (xs.map PyData.int) (ys.map PyData.int)) = _
    rw [eqv_ints xs ys]
    have e : PyData.eqv (.int x) (.int y) = decide (x = y) := by
      show (x == y) = _
      by_cases h : x = y
      · subst h; simp
      · rw [decide_eq_false h]; exact beq_eq_false_iff_ne.mpr h
    rw [e]
    by_cases h : x = y <;> by_cases h2 : xs = ys <;> simp [h, h2]
def Fine (ts : List Str) : Prop := ∀ t ∈ ts, PyData.strOk t = true
theorem can_strs : ∀ ts : List Str, Fine ts → PyData.canLayAll0 (ts.map PyData.str) = true
  | [], _ => rfl
  | t :: ts, h => by
    show (PyData.strOk t && PyData.canLayAll0 (ts.map PyData.str)) = true
    rw [h t (List.mem_cons_self ..), can_strs ts fun u hu => h u (List.mem_cons_of_mem _ hu)] <;> rfl
theorem can_ints : ∀ ns : List Int, PyData.canLayAll0 (ns.map PyData.int) = true
  | [] => rfl
  | n :: ns => by
    show (true && PyData.canLayAll0 (ns.map PyData.int)) = true
    rw [can_ints ns] <;> rfl
theorem dep_strs : ∀ ts : List Str, PyData.depthAll (ts.map PyData.str) ≤ 1
  | [] => by decide
  | t :: ts => by
    show max (PyData.depth (.str t)) (PyData.depthAll (ts.map PyData.str)) ≤ 1
    have := dep_strs ts
    exact Nat.max_le.mpr ⟨Nat.zero_le 1, this⟩
theorem dep_ints : ∀ ts : List Int, PyData.depthAll (ts.map PyData.int) ≤ 1
  | [] => by decide
  | t :: ts => by
    show max (PyData.depth (.int t)) (PyData.depthAll (ts.map PyData.int)) ≤ 1
    have := dep_ints ts
    exact Nat.max_le.mpr ⟨Nat.zero_le 1, this⟩
theorem sh_tup (ts : List Str) (h : Fine ts) : SeqAt.shaped (.tuple (ts.map PyData.str)) = true := by
  refine Bool.and_eq_true_iff.mpr ⟨can_strs ts h, decide_eq_true ?_⟩
  show PyData.depthAll (ts.map PyData.str) + 1 ≤ 64
  have := dep_strs ts
  omega
theorem sh_lst (ts : List Str) (h : Fine ts) : SeqAt.shaped (.list (ts.map PyData.str)) = true := by
  refine Bool.and_eq_true_iff.mpr ⟨can_strs ts h, decide_eq_true ?_⟩
  show PyData.depthAll (ts.map PyData.str) + 1 ≤ 64
  have := dep_strs ts
  omega
theorem sh_ints (ns : List Int) : SeqAt.shaped (.list (ns.map PyData.int)) = true := by
  refine Bool.and_eq_true_iff.mpr ⟨can_ints ns, decide_eq_true ?_⟩
  show PyData.depthAll (ns.map PyData.int) + 1 ≤ 64
  have := dep_ints ns
  omega
end K95H
end

section
set_option Elab.async false
set_option linter.all false
set_option maxRecDepth 100000
set_option maxHeartbeats 4000000
/-! K95P1: the text by places; lowest_upper, is_pair, most_swaps. -/
namespace K95P
open PySem PyProof.Rows L2 K95R K95S K95T K95V K95H
def top (i : Nat) : Stmt := PySem.Challenge.pw_deepedge_k95_whole_least_swaps_by_search.main.body.getD i (.Pass ⟨0, 0, 0, 0⟩)
abbrev sLow : Stmt := top 2
abbrev sPair : Stmt := top 3
abbrev sCyc : Stmt := top 4
abbrev sCycs : Stmt := top 5
abbrev sFor : Stmt := top 6
abbrev sTurn : Stmt := top 7
abbrev sLeast : Stmt := top 8
abbrev sMost : Stmt := top 9
abbrev sPen : Stmt := top 11
abbrev sPick : Stmt := top 12
abbrev sAfter : Stmt := top 13
abbrev sLevels : Stmt := top 15
abbrev sRight : Stmt := top 16
abbrev sLaw : Stmt := top 17
/-- the names that are the built-ins' own -/
structure Bi (mg : Str → Option Value) : Prop where
  max : mg "max" = none
  min : mg "min" = none
  len : mg "len" = none
  sorted : mg "sorted" = none
  set : mg "set" = none
  tuple : mg "tuple" = none
  list : mg "list" = none
  range : mg "range" = none
  sum : mg "sum" = none
  abs : mg "abs" = none
  int : mg "int" = none
  repr : mg "repr" = none
  isinstance : mg "isinstance" = none
  enumerate : mg "enumerate" = none
section
variable {P : Program} {w : World} {K : PySem.W.Frag} {mg : Str → Option Value} {base : Heap}

/-! ### lowest_upper -/
def spLow (K : PySem.W.Frag) : Sp := fun vs H Q _ => ∃ (s : Addr) (xs : List V) (r : Nat), vs = [.ref s, .int r] ∧ SqT K H s xs ∧ Q (.int ((xs.length - (r + 1) : Nat) : Int)) H
theorem scLow : FnScope ["stack", "reach"] ["stack", "reach"] (defScope sLow) := ⟨rfl, rfl, rfl, by decide +kernel, rfl, by decide +kernel, by decide +kernel⟩
theorem ok_low {f : Addr} {fd : FuncData} (F : Fun K "lowest_upper" "lowest_upper" sLow f fd) (T : Bi mg) : FnOk P w K mg base CX0 1 f fd ["stack", "reach"] (spLow K) := by
  refine F.ok scLow (fun vs H Q E h => ?_) (fun cdv A outer s H vs Q E hr h => ?_)
  · obtain ⟨a, xs, r, rfl, _⟩ := h
    rfl
  · obtain ⟨a, xs, r, rfl, hs, q⟩ := h
    refine ⟨_, pss_one (ps_ret (pe_callB (call_max2 rfl) (by rfl) T.max (by decide +kernel) (pa_cons pe_int (pa_cons (pe_op op_sub (pe_op op_sub (pe_callB call_len_seq (by rfl) T.len PySem.boot_len (pa_cons (pv 0) pa_nil)) (pv 1)) pe_int) pa_nil)))), ?_⟩
    refine ⟨_, rfl, a, _, rfl, .inr hs, _, rfl, _, _, rfl, rfl, _, _, rfl, rfl, _, _, rfl, ?_⟩
    have e : (if ((xs.length : Nat) : Int) - (r : Int) - 1 > 0 then ((xs.length : Nat) : Int) - (r : Int) - 1 else 0) = ((xs.length - (r + 1) : Nat) : Int) := by split <;> omega
    rw [e]
    exact q

/-! ### is_pair -/
def spPair (K : PySem.W.Frag) : Sp := fun vs H Q _ => ∃ (s t : Addr) (xs ys : List Str) (r : Nat) (b : Bool), vs = [.ref s, .ref t, .int r] ∧ SqT K H s (xs.map V.str) ∧ SqT K H t (ys.map V.str) ∧ 1 ≤ xs.length ∧ xs.length ≤ 40 ∧
  xs.length = ys.length ∧ (xs.drop (xs.length - (r + 1))).Nodup ∧ Fine xs ∧ Fine ys ∧
  ((b = false ∧ xs.take (xs.length - (r + 1)) ≠ ys.take (xs.length - (r + 1))) ∨ (b = true ∧ xs.take (xs.length - (r + 1)) = ys.take (xs.length - (r + 1)) ∧ (xs.drop (xs.length - (r + 1))).Perm (ys.drop (xs.length - (r + 1))))) ∧
  ∀ H', Same H H' → Q (.bl b) H'
theorem scPair : FnScope ["stack", "target", "reach", "low", "upper"] ["stack", "target", "reach"] (defScope sPair) := ⟨rfl, rfl, rfl, by decide +kernel, rfl, by decide +kernel, by decide +kernel⟩
theorem ok_pair {f g : Addr} {fd gd : FuncData} (F : Fun K "is_pair" "is_pair" sPair f fd) (T : Bi mg) (G : FnOk P w K mg base CX0 1 g gd ["stack", "reach"] (spLow K)) (gK : PySem.W.keepIn K (.ref g) = true) (gm : mg "lowest_upper" = some (.ref g)) (gB : Binds K gd ["stack", "reach"] []) :
    FnOk P w K mg base CX0 2 f fd ["stack", "target", "reach"] (spPair K) := by
  refine F.ok scPair (fun vs H Q E h => ?_) (fun cdv A outer s H vs Q E hr h => ?_)
  · obtain ⟨a, c, xs, ys, r, b, rfl, _⟩ := h
    rfl
  · obtain ⟨a, c, xs, ys, r, b, rfl, hs, ht, h1, h40, hl, hnd, fx, fy, hb, q⟩ := h
    generalize hlow : xs.length - (r + 1) = low at hnd hb
    have hu := hu_of hr
    refine ⟨_, pss_cons (ps_set (i := 3) scPair.nd rfl (Or.inl rfl) (pe_call G hr rfl gm gK gB .nil pass0 (pa_cons (pv 0) (pa_cons (pv 2) pa_nil))))
      (pss_cons (ps_set (i := 4) scPair.nd rfl (Or.inl rfl) (pe_callB (cr_sortedTx rfl) (by rfl) T.sorted (by decide +kernel) (pa_cons (pe_callTy (cr_setTx rfl) (by rfl) T.set (by decide +kernel) (pa_cons (pe_slice sl_tupA (pv 0) (po_some (pv 3)) po_none) pa_nil)) pa_nil)))
      (pss_cons (ps_if (PW.pt (pw_or (pt_cmpR op_ne (pe_callB call_len_seq (by rfl) T.len PySem.boot_len (pa_cons (pv 0) pa_nil)) (pe_callB call_len_seq (by rfl) T.len PySem.boot_len (pa_cons (pv 1) pa_nil)) (nomark _))
          (pw_or (pt_cmpR (op_neD hr.units) (pe_slice sl_tupA (pv 0) po_none (po_some (pv 3))) (pe_slice sl_tupA (pv 1) po_none (po_some (pv 3))) (nomark _))
          (pw_or1 (pt_cmpR op_ne (pe_callB call_len_seq (by rfl) T.len PySem.boot_len (pa_cons (pv 4) pa_nil)) (pe_op op_sub (pe_callB call_len_seq (by rfl) T.len PySem.boot_len (pa_cons (pv 0) pa_nil)) (pv 3)) (nomark _))))))
          (pss_one (ps_ret pe_bl)) pss_nil)
      (pss_one (ps_ret (pe_cmpR (op_eqD hr.units) (pv 4) (pe_callB cr_sortedTup (by rfl) T.sorted (by decide +kernel) (pa_cons (pe_slice sl_tupA (pv 1) (po_some (pv 3)) po_none) pa_nil)) (nomark _)))))), ?_⟩
    have ln : ((xs.map V.str).length - (r + 1) : Nat) = low := by rw [List.length_map]; exact hlow
    have lle : low ≤ xs.length := by omega
    refine ⟨_, rfl, _, rfl, a, xs.map V.str, r, rfl, hs, ?_⟩
    rw [ln]
    -- upper = sorted(set(stack[low:]))
    refine ⟨_, rfl, _, rfl, _, rfl, ?_⟩
    dsimp only [tNoPart]
    refine cut_any (K := K) hs fun H1 p1 S1 c1 => ?_
    rw [cut_from, ← List.map_drop] at c1
    refine ⟨p1, xs.drop low, rfl, c1, by rw [List.length_drop]; omega, fun p2 k H2 hp2 hc S2' e2 => ?_⟩
    refine ⟨p2, _, k, rfl, e2, by rw [List.length_drop] at hc; omega, fun us p3 und usrt umem ulen hp3 => ?_⟩
    have S2 : Same H H2 := S1.trans S2'
    have S3 : Same H (upd H2 p3 (.lst (us.map V.str))) := Same.upd S2 (S2.free hp3)
    have uat : (upd H2 p3 (.lst (us.map V.str))) p3 = some (.lst (us.map V.str)) := upd_same
    generalize (upd H2 p3 (.lst (us.map V.str))) = H3 at S3 uat ⊢
    have uperm : us.Perm (xs.drop low) := by
      refine (List.perm_ext_iff_of_nodup und hnd).mpr fun y => ?_
      rw [umem y, decide_eq_true_eq]
    have ulen2 : us.length = xs.length - low := by rw [uperm.length_eq, List.length_drop]
    -- if len(stack) != len(target) or ..
    refine ⟨_, rfl, a, _, rfl, .inr (Same.sqT S3 hs), _, rfl, c, _, rfl, .inr (Same.sqT S3 ht), rfl, _, rfl, ?_⟩
    refine iteNS (by rw [List.length_map, List.length_map, hl]) ?_
    -- stack[:low] != target[:low]
    refine ⟨_, rfl, ?_⟩
    dsimp only [tNoPart]
    refine ⟨_, rfl, _, rfl, ?_⟩
    refine cut_any (K := K) (Same.sqT S3 hs) fun H4 p4 S4 c4 => ?_
    rw [cut_to, ← List.map_take] at c4
    refine ⟨_, rfl, ?_⟩
    dsimp only [tNoPart]
    refine ⟨_, rfl, _, rfl, ?_⟩
    refine cut_any (K := K) (Same.sqT S4 (Same.sqT S3 ht)) fun H5 p5 S5 c5 => ?_
    rw [cut_to, ← List.map_take] at c5
    have S05 : Same H H5 := (S3.trans S4).trans S5
    have fxt : Fine (xs.take low) := fun z hz => fx z (List.mem_of_mem_take hz)
    have fyt : Fine (ys.take low) := fun z hz => fy z (List.mem_of_mem_take hz)
    refine ⟨_, _, .tup (Same.sqT S5 c4) (dp_strs _), .tup c5 (dp_strs _), sh_tup _ fxt, sh_tup _ fyt, _, rfl, ?_⟩
    have ev : PyData.eqv (.tuple ((xs.take low).map PyData.str)) (.tuple ((ys.take low).map PyData.str)) = decide (xs.take low = ys.take low) := eqv_strs _ _
    rw [ev]
    rcases hb with ⟨rfl, hne⟩ | ⟨rfl, heq, hperm⟩
    · rw [decide_eq_false hne]
      exact q _ S05
    · rw [decide_eq_true heq]
      -- len(upper) != len(stack) - low
      refine ⟨_, rfl, p3, us.map V.str, rfl, .inl (.inl (.inl (S5 _ _ (S4 _ _ uat)))), _, rfl, a, xs.map V.str, rfl, .inr (Same.sqT S05 hs), _, rfl, _, _, rfl, rfl, rfl, _, rfl, ?_⟩
      refine iteNS (by rw [List.length_map, List.length_map, ulen2]; congr 1; omega) ?_
      -- return upper == sorted(target[low:])
      refine ⟨_, rfl, _, rfl, _, rfl, _, rfl, ?_⟩
      dsimp only [tNoPart]
      refine cut_any (K := K) (Same.sqT S05 ht) fun H6 p6 S6 c6 => ?_
      rw [cut_from, ← List.map_drop] at c6
      refine ⟨p6, ys.drop low, rfl, c6, by rw [List.length_drop]; omega, fun vs p7 vperm vsrt hp7 => ?_⟩
      have S7 : Same H5 (upd H6 p7 (.lst (vs.map V.str))) := Same.upd S6 (S6.free hp7)
      have fus : Fine us := fun z hz => fx z (List.mem_of_mem_drop (uperm.mem_iff.mp hz))
      have fvs : Fine vs := fun z hz => fy z (List.mem_of_mem_drop (vperm.mem_iff.mp hz))
      refine ⟨_, _, .lst (.inl (.inl (S7 _ _ (S5 _ _ (S4 _ _ uat))))) (dp_strs _), .lst (.inl (.inl upd_same)) (dp_strs _), sh_lst _ fus, sh_lst _ fvs, ?_⟩
      have ev2 : PyData.eqv (.list (us.map PyData.str)) (.list (vs.map PyData.str)) = decide (us = vs) := eqv_strs _ _
      rw [ev2, decide_eq_true (sorted_uniq usrt vsrt ((uperm.trans hperm).trans vperm.symm))]
      exact q _ (S05.trans S7)

/-! ### most_swaps -/
def spMost : Sp := fun vs H Q _ => ∃ c : Int, vs = [.int c] ∧ -1000 ≤ c ∧ c ≤ 1000 ∧ Q (.int (3 * (c - 1) / 2)) H
theorem scMost : FnScope ["cells"] ["cells"] (defScope sMost) := ⟨rfl, rfl, rfl, by decide +kernel, rfl, by decide +kernel, by decide +kernel⟩
theorem ok_most {f : Addr} {fd : FuncData} (F : Fun K "most_swaps" "most_swaps" sMost f fd) : FnOk P w K mg base CX0 1 f fd ["cells"] spMost := by
  refine F.ok scMost (fun vs H Q E h => ?_) (fun cdv A outer s H vs Q E hr h => ?_)
  · obtain ⟨c, rfl, _⟩ := h
    rfl
  · obtain ⟨c, rfl, h1, h2, q⟩ := h
    refine ⟨_, pss_one (ps_ret (pe_op op_fdiv (pe_op op_mul pe_int (pe_op op_sub (pv 0) pe_int)) pe_int)), ?_⟩
    exact ⟨_, rfl, _, _, rfl, rfl, _, _, rfl, rfl, .inl ⟨by decide, by decide⟩, _, _, rfl, rfl, ⟨by decide, by decide⟩, q⟩
end
end K95P
end

section
set_option Elab.async false
set_option linter.all false
set_option maxRecDepth 100000
set_option maxHeartbeats 4000000
/-! K95P2: places of texts told by numbers; cycle_from. -/
namespace K95P
open PySem PyProof.Rows L2 K95R K95H K95
/-- no two numbers in play name one text -/
def Inj (f : Nat → Str) (n : Nat) : Prop := ∀ i j, okN n i = true → okN n j = true → f i = f j → i = j
abbrev enc (f : Nat → Str) (p : List Nat) : List V := p.map fun i => V.str (f i)
abbrev nums (l : List Nat) : List V := l.map fun (i : Nat) => V.int (i : Int)
theorem enc_at {f : Nat → Str} {p : List Nat} {i x : Nat} (h : p[i]? = some x) : (enc f p)[i]? = some (.str (f x)) := by
  rw [List.getElem?_map, h]
  rfl
theorem getD_at {p : List Nat} {i : Nat} (h : i < p.length) (d : Nat) : p[i]? = some (p.getD i d) := by
  rw [List.getElem?_eq_getElem h, List.getD_eq_getElem?_getD, List.getElem?_eq_getElem h]
  rfl
theorem idx_some {p : List Nat} {x c j : Nat} (h : idx p x c = some j) : c ≤ j ∧ j < p.length ∧ p[j]? = some x ∧ ∀ m, c ≤ m → m < j → p[m]? ≠ some x := by
  unfold idx at h
  rw [List.find?_range_eq_some] at h
  obtain ⟨h1, h2, h3⟩ := h
  simp only [Bool.and_eq_true, decide_eq_true_eq, beq_iff_eq] at h1
  refine ⟨h1.1, List.mem_range.mp h2, h1.2, fun m hm hj e => ?_⟩
  have q := h3 m hj
  simp [hm, e] at q
theorem idx_none {p : List Nat} {x : Nat} (h : idx p x 0 = none) : x ∉ p := by
  unfold idx at h
  rw [List.find?_eq_none] at h
  intro hx
  obtain ⟨j, hj, e⟩ := List.getElem_of_mem hx
  have q := h j (List.mem_range.mpr hj)
  simp [List.getElem?_eq_getElem hj, e] at q
theorem ok_at {n : Nat} {p : List Nat} (h : p.all (okN n) = true) {i x : Nat} (e : p[i]? = some x) : okN n x = true := List.all_eq_true.mp h x (List.mem_of_getElem? e)
theorem hits_enc {f : Nat → Str} {n : Nat} (inj : Inj f n) {p : List Nat} (hp : p.all (okN n) = true) {x : Nat} (hx : okN n x = true) (m : Nat) : hits (enc f p) (.str (f x)) m = decide (p[m]? = some x) := by
  unfold hits
  cases e : p[m]? with
  | none =>
    rw [List.getElem?_map, e]
    simp
  | some z =>
    rw [enc_at e]
    show eqV (V.str (f z)) (V.str (f x)) = _
    show (f z == f x) = _
    by_cases h : z = x
    · subst h
      simp
    · have : f z ≠ f x := fun c => h (inj z x (ok_at hp e) hx c)
      rw [beq_eq_false_iff_ne.mpr this]
      simp [h]
theorem hits_int {l : List Nat} {x m : Nat} : hits (nums l) (.int (x : Int)) m = decide (l[m]? = some x) := by
  unfold hits
  cases e : l[m]? with
  | none =>
    rw [List.getElem?_map, e]
    simp
  | some z =>
    rw [List.getElem?_map, e]
    show ((z : Int) == (x : Int)) = _
    by_cases h : z = x
    · subst h
      simp
    · have : (z : Int) ≠ (x : Int) := by omega
      rw [beq_eq_false_iff_ne.mpr this]
      simp [h]
theorem flat_enc (f : Nat → Str) (p : List Nat) : (enc f p).all flatV = true := by
  rw [List.all_map]
  exact List.all_eq_true.mpr fun _ _ => rfl
theorem nums_app (a b : List Nat) : nums (a ++ b) = nums a ++ nums b := List.map_append
theorem flat_nums (l : List Nat) : (nums l).all flatV = true := by
  rw [List.all_map]
  exact List.all_eq_true.mpr fun _ _ => rfl

theorem iteY {c A B : Prop} [Decidable c] (hc : ¬ c) (h : A) : if (!decide c) = true then A else B := by
  rw [decide_eq_false hc]
  exact iteT h
section
variable {P : Program} {w : World} {K : PySem.W.Frag} {mg : Str → Option Value} {base : Heap}
/-! ### cycle_from -/
def spCyc (K : PySem.W.Frag) : Sp := fun vs H Q _ => ∃ (s t : Addr) (f : Nat → Str) (p q : List Nat) (c : Nat) (res : List Nat), vs = [.ref s, .ref t, .int (c : Int)] ∧ TupN H s (enc f p) ∧ SqT K H t (enc f q) ∧ Inj f p.length ∧
  p.all (okN p.length) = true ∧ q.all (okN p.length) = true ∧ p.length = q.length ∧ c < p.length ∧ cycleFrom p q c = some res ∧ ∀ H' a, Same H H' → H a = none → TupN H' a (nums res) → Q (.ref a) H'
theorem scCyc : FnScope ["stack", "target", "cell", "found", "later"] ["stack", "target", "cell"] (defScope sCyc) := ⟨rfl, rfl, rfl, by decide +kernel, rfl, by decide +kernel, by decide +kernel⟩
/-- between two turns of the while: n turns are enough to come to res -/
def CycW (H : Hp) (a b l : Addr) (p q res : List Nat) (c n : Nat) (σ : L2.St) (H' : Hp) : Prop := ∃ (found : List Nat) (later : Nat), σ = [some (.ref a), some (.ref b), some (.int (c : Int)), some (.ref l), some (.int (later : Int))] ∧ Same H H' ∧ H' l = some (.lst (nums found)) ∧ later < p.length ∧
  found[0]? = some c ∧ found.length + n ≤ 100 ∧ cyc p q c n found later = some res
theorem ok_cyc {f : Addr} {fd : FuncData} (F : Fun K "cycle_from" "cycle_from" sCyc f fd) (T : Bi mg) : FnOk P w K mg base CX0 1 f fd ["stack", "target", "cell"] (spCyc K) := by
  refine F.ok scCyc (fun vs H Q E h => ?_) (fun cdv A outer s H vs Q E hr h => ?_)
  · obtain ⟨a, b, g, p, q, c, res, rfl, _⟩ := h
    rfl
  · obtain ⟨a, b, g, p, q, c, res, rfl, hs, ht, inj, hp, hq, hl', hc, hres, k⟩ := h
    refine ⟨_, pss_cons (ps_set (i := 3) scCyc.nd rfl (Or.inl rfl) (pe_lst (pa_cons (pv 2) pa_nil)))
      (pss_cons (ps_set (i := 4) scCyc.nd rfl (Or.inl rfl) (pe_tm PySem.F.slot_tuple_index PySem.F.type_tuple_index mt_idx2 (pv 0) (pa_cons (pe_ix ix_tup (pv 1) (pv 2) (fun _ _ => rfl)) (pa_cons (pe_ix ix_list (pv 3) pe_int (fun _ _ => rfl)) pa_nil))))
      (pss_cons (ps_while PassesOwn.never (pt_cmpR op_ne (pv 4) (pv 2) (nomark _))
        (pss_cons (ps_expr (pe_bm PySem.F.plainAttrs_list PySem.F.slot_list_append PySem.F.type_list_append mt_append (pv 3) (pa_cons (pv 4) pa_nil)))
        (pss_one (ps_set (i := 4) scCyc.nd rfl (Or.inl rfl) (pe_tm PySem.F.slot_tuple_index PySem.F.type_tuple_index mt_idx2 (pv 0) (pa_cons (pe_ix ix_tup (pv 1) (pv 4) (fun _ _ => rfl)) (pa_cons (pe_ix ix_list (pv 3) pe_int (fun _ _ => rfl)) pa_nil)))))))
      (pss_one (ps_ret (pe_callTy cr_tupleN (by rfl) T.tuple (by decide +kernel) (pa_cons (pv 3) pa_nil)))))), ?_⟩
    refine ⟨_, rfl, by show 1 ≤ sizeLine; decide, fun l hl => ?_⟩
    have S1 : Same H (upd H l (.lst [V.int (c : Int)])) := Same.lay hl
    have e1 : (upd H l (.lst [V.int (c : Int)])) l = some (.lst (nums [c])) := upd_same
    generalize upd H l (.lst [V.int (c : Int)]) = H1 at S1 e1 ⊢
    have hcq : c < q.length := hl' ▸ hc
    unfold cycleFrom at hres
    cases ej : idx p (q.getD c 0) c with
    | none =>
      rw [ej] at hres
      cases hres
    | some j =>
      rw [ej] at hres
      obtain ⟨j1, j2, j3, j4⟩ := idx_some ej
      have okq := ok_at hq (getD_at hcq 0)
      -- later = stack.index(target[cell], found[0])
      refine ⟨_, rfl, ⟨a, _, rfl, hs.same S1⟩, _, rfl, _, rfl, b, enc g q, c, _, rfl, rfl, Same.sqT S1 ht, atI_nat (enc_at (getD_at hcq 0)), _, rfl, l, nums [c], 0, _, rfl, rfl, SqL.of e1, atI_nat (j := 0) rfl, ?_⟩
      refine ⟨a, enc g p, _, c, j, rfl, rfl, (hs.same S1).sq, rfl, flat_enc g p, j1, ?_, fun m hm hj => ?_, ?_⟩
      · rw [hits_enc inj hp okq]
        exact decide_eq_true j3
      · rw [hits_enc inj hp okq]
        exact decide_eq_false (j4 m hm hj)
      -- while later != cell
      · refine ⟨CycW H a b l p q res c, ⟨10, [c], j, rfl, S1, e1, j2, rfl, by show 1 + 10 ≤ 100; decide, hres⟩, ?_⟩
        rintro n σ H' ⟨found, later, rfl, S2, e2, hlat, hf0, hfn, hcy⟩
        refine ⟨_, rfl, _, rfl, rfl, _, rfl, ?_⟩
        cases n with
        | zero => cases hcy
        | succ n =>
          unfold cyc at hcy
          by_cases hlc : later = c
          · rw [if_pos hlc] at hcy
            cases hcy
            refine iteNS (by rw [hlc]) ?_
            exact ⟨_, rfl, l, _, rfl, SqL.of e2, fun p2 ob h2 hd => k _ p2 (Same.upd S2 (S2.free h2)) (S2.free h2) (TupN.new hd)⟩
          · rw [if_neg hlc] at hcy
            refine iteY (fun e => hlc (by have := V.int.inj e; omega)) ?_
            cases ek : idx p (q.getD later 0) c with
            | none =>
              rw [ek] at hcy
              cases hcy
            | some m =>
              rw [ek] at hcy
              obtain ⟨m1, m2, m3, m4⟩ := idx_some ek
              have hlq : later < q.length := hl' ▸ hlat
              have okl := ok_at hq (getD_at hlq 0)
              -- found.append(later); later = stack.index(target[later], found[0])
              refine ⟨CycW H a b l p q res c n, fun σ' H' x => ⟨n, Nat.lt_succ_self n, x⟩, ?_⟩
              refine ⟨_, rfl, .inl ⟨rfl, _, SqL.of e2⟩, _, rfl, l, _, _, rfl, rfl, e2, by rw [List.length_map]; exact small1000 (by omega), ?_⟩
              have nl : H l = none := hl
              have S3 : Same H (upd H' l (.lst (nums found ++ [V.int (later : Int)]))) := Same.upd S2 nl
              have e3 : (upd H' l (.lst (nums found ++ [V.int (later : Int)]))) l = some (.lst (nums (found ++ [later]))) := by rw [upd_same, nums_app]; rfl
              generalize upd H' l (.lst (nums found ++ [V.int (later : Int)])) = H3 at S3 e3 ⊢
              have f0 : (found ++ [later])[0]? = some c := by
                cases found with
                | nil => cases hf0
                | cons x r => exact hf0
              refine ⟨_, rfl, ⟨a, _, rfl, hs.same S3⟩, _, rfl, _, rfl, b, enc g q, later, _, rfl, rfl, Same.sqT S3 ht, atI_nat (enc_at (getD_at hlq 0)), _, rfl, l, _, 0, V.int (c : Int), rfl, rfl, SqL.of e3, atI_nat (j := 0) (by rw [List.getElem?_map, f0]; rfl), ?_⟩
              refine ⟨a, enc g p, _, c, m, rfl, rfl, (hs.same S3).sq, rfl, flat_enc g p, m1, ?_, fun i hi hj => ?_, ?_⟩
              · rw [hits_enc inj hp okl]
                exact decide_eq_true m3
              · rw [hits_enc inj hp okl]
                exact decide_eq_false (m4 i hi hj)
              · exact ⟨found ++ [later], m, rfl, S3, e3, m2, f0, by rw [List.length_append]; show found.length + 1 + n ≤ 100; omega, hcy⟩
end
end K95P
end

section
set_option Elab.async false
set_option linter.all false
set_option maxRecDepth 100000
set_option maxHeartbeats 4000000
/-! K95P3: cycles_of. -/
namespace K95P
open PySem PyProof.Rows L2 K95R K95H K95
/-! ### plain facts -/
theorem cyc_len {p q : List Nat} {c : Nat} : ∀ {k later : Nat} {found res : List Nat}, cyc p q c k found later = some res → res.length ≤ found.length + k
  | 0, later, found, res, h => by cases h
  | k + 1, later, found, res, h => by
    unfold cyc at h
    by_cases e : later = c
    · rw [if_pos e] at h
      cases h
      omega
    · rw [if_neg e] at h
      cases ek : idx p (q.getD later 0) c with
      | none => rw [ek] at h; cases h
      | some m =>
        rw [ek] at h
        have := cyc_len h
        rw [List.length_append] at this
        have : ([later] : List Nat).length = 1 := rfl
        omega
theorem cycle_len {p q : List Nat} {c : Nat} {res : List Nat} (h : cycleFrom p q c = some res) : res.length ≤ 11 := by
  unfold cycleFrom at h
  cases e : idx p (q.getD c 0) c with
  | none => rw [e] at h; cases h
  | some j =>
    rw [e] at h
    have := cyc_len h
    exact this
theorem cells_at {low n i : Nat} (h : i < n - low) : (cellsFrom low n).drop i = (low + i) :: (cellsFrom low n).drop (i + 1) := by
  have hl : (cellsFrom low n).length = n - low := by simp [K95.cellsFrom]
  rw [List.drop_eq_getElem_cons (by rw [hl]; exact h)]
  simp [K95.cellsFrom]
theorem nodupB_iff : ∀ {l : List Nat}, nodupB l = true → l.Nodup
  | [], _ => List.nodup_nil
  | x :: xs, h => by
    have h' : (!xs.contains x && nodupB xs) = true := h
    rw [Bool.and_eq_true, Bool.not_eq_true'] at h'
    refine List.nodup_cons.mpr ⟨fun m => ?_, nodupB_iff h'.2⟩
    have := List.contains_iff_mem.mpr m
    rw [h'.1] at this
    cases this
theorem enc_eq (f : Nat → Str) (p : List Nat) : enc f p = (p.map f).map V.str := by
  rw [List.map_map]
  rfl
theorem map_inj {f : Nat → Str} {n : Nat} (inj : Inj f n) : ∀ {p q : List Nat}, p.all (okN n) = true → q.all (okN n) = true → p.map f = q.map f → p = q
  | [], [], _, _, _ => rfl
  | [], _ :: _, _, _, h => by simp at h
  | _ :: _, [], _, _, h => by simp at h
  | x :: p, y :: q, hp, hq, h => by
    rw [List.all_cons, Bool.and_eq_true] at hp hq
    rw [List.map_cons, List.map_cons] at h
    injection h with h1 h2
    rw [inj x y hp.1 hq.1 h1, map_inj inj hp.2 hq.2 h2]
theorem all_take {n k : Nat} {p : List Nat} (h : p.all (okN n) = true) : (p.take k).all (okN n) = true := List.all_eq_true.mpr fun x hx => List.all_eq_true.mp h x (List.mem_of_mem_take hx)
theorem all_drop {n k : Nat} {p : List Nat} (h : p.all (okN n) = true) : (p.drop k).all (okN n) = true := List.all_eq_true.mpr fun x hx => List.all_eq_true.mp h x (List.mem_of_mem_drop hx)
theorem nodup_map {f : Nat → Str} {n : Nat} (inj : Inj f n) : ∀ {p : List Nat}, p.all (okN n) = true → p.Nodup → (p.map f).Nodup
  | [], _, _ => List.nodup_nil
  | x :: p, hp, hn => by
    rw [List.all_cons, Bool.and_eq_true] at hp
    rw [List.nodup_cons] at hn
    rw [List.map_cons, List.nodup_cons]
    refine ⟨fun m => ?_, nodup_map inj hp.2 hn.2⟩
    obtain ⟨y, hy, e⟩ := List.mem_map.mp m
    have := inj y x (List.all_eq_true.mp hp.2 y hy) hp.1 e
    exact hn.1 (this ▸ hy)
/-- texts in play are texts -/
def FineF (f : Nat → Str) (n : Nat) : Prop := ∀ i, okN n i = true → PyData.strOk (f i) = true
theorem fine_map {f : Nat → Str} {n : Nat} (ff : FineF f n) {p : List Nat} (hp : p.all (okN n) = true) : Fine (p.map f) := fun t ht => by
  obtain ⟨i, hi, rfl⟩ := List.mem_map.mp ht
  exact ff i (List.all_eq_true.mp hp i hi)
/-- the cells of cycles, as the dict met tells them -/
theorem val_merge : ∀ (res : List Nat) (old : List (L2.Key × V)) (x : Int), (valV (mergeK old (res.map fun (i : Nat) => ((Sum.inl (i : Int) : L2.Key), V.bl true))) (Sum.inl x)).isSome = ((valV old (Sum.inl x)).isSome || res.any fun (i : Nat) => decide ((i : Int) = x))
  | [], old, x => by simp [mergeK]
  | r :: res, old, x => by
    have ih := val_merge res (putK old (Sum.inl (r : Int)) (.bl true)) x
    show (valV (mergeK (putK old (Sum.inl (r : Int)) (.bl true)) (res.map fun (i : Nat) => ((Sum.inl (i : Int) : L2.Key), V.bl true))) (Sum.inl x)).isSome = _
    rw [ih, valV_put, List.any_cons]
    by_cases e : (r : Int) = x
    · subst e
      simp
    · have : ¬ (Sum.inl x : L2.Key) = Sum.inl (r : Int) := fun c => e (Sum.inl.inj c).symm
      rw [if_neg this]
      simp [e]
/-- the cycles' tuples -/
abbrev CycsAt (H : Hp) : List Addr → List (List Nat) → Prop := Paired fun a c => TupN H a (nums c)
theorem CycsAt.same {H H' : Hp} {as : List Addr} {cs : List (List Nat)} (c : CycsAt H as cs) (s : Same H H') : CycsAt H' as cs := Paired.mapP c fun _ _ t => t.same s
theorem CycsAt.snoc {H : Hp} : ∀ {as : List Addr} {cs : List (List Nat)} {a : Addr} {c : List Nat}, CycsAt H as cs → TupN H a (nums c) → CycsAt H (as ++ [a]) (cs ++ [c])
  | _, _, _, _, .nil, t => .cons t .nil
  | _, _, _, _, .cons h r, t => .cons h (CycsAt.snoc r t)
theorem TupN.wr {H : Hp} {a l : Addr} {xs : List V} {o o' : HO} (t : TupN H a xs) (e : H l = some o) (ne : ∀ ob x, o ≠ .frz ob x) : TupN (upd H l o') a xs := by
  obtain ⟨ob, e1, d⟩ := t
  refine ⟨ob, ?_, d⟩
  rw [upd_ne (fun c => by subst c; rw [e1] at e; exact ne _ _ (Option.some.inj e).symm)]
  exact e1
theorem CycsAt.wr {H : Hp} {l : Addr} {o o' : HO} {as : List Addr} {cs : List (List Nat)} (c : CycsAt H as cs) (e : H l = some o) (ne : ∀ ob x, o ≠ .frz ob x) : CycsAt (upd H l o') as cs := Paired.mapP c fun _ _ t => TupN.wr t e ne
theorem SqT.wr {K : PySem.W.Frag} {H : Hp} {a l : Addr} {xs ys : List V} {o' : HO} (t : SqT K H a xs) (e : H l = some (.lst ys)) : SqT K (upd H l o') a xs := by
  rcases t with (h | ⟨o, h⟩) | h
  · refine .inl (.inl ?_)
    rw [upd_ne (fun c => by subst c; rw [h] at e; cases e)]
    exact h
  · refine .inl (.inr ⟨o, ?_⟩)
    rw [upd_ne (fun c => by subst c; rw [h] at e; cases e)]
    exact h
  · exact .inr h
theorem pairM_some {p q : List Nat} {low : Nat} {b : Bool} (h : pairM p q low = some b) : (p.length = q.length ∧ p.all (okN p.length) = true ∧ q.all (okN p.length) = true ∧ nodupB (p.drop low) = true ∧ 1 ≤ p.length ∧ p.length ≤ 40) ∧
    ((b = false ∧ p.take low ≠ q.take low) ∨ (b = true ∧ p.take low = q.take low ∧ (p.drop low).Perm (q.drop low))) := by
  unfold pairM at h
  by_cases c : p.length = q.length ∧ p.all (okN p.length) = true ∧ q.all (okN p.length) = true ∧ nodupB (p.drop low) = true ∧ 1 ≤ p.length ∧ p.length ≤ 40
  · rw [if_pos c] at h
    refine ⟨c, ?_⟩
    by_cases d : p.take low = q.take low
    · rw [if_pos d] at h
      by_cases e : (p.drop low).isPerm (q.drop low) = true
      · rw [if_pos e] at h
        cases h
        exact .inr ⟨rfl, d, List.isPerm_iff.mp e⟩
      · rw [if_neg e] at h
        cases h
    · rw [if_neg d] at h
      cases h
      exact .inl ⟨rfl, d⟩
  · rw [if_neg c] at h
    cases h
theorem low_add {n r : Nat} (h : 1 ≤ n) : n - (r + 1) ≤ n := Nat.sub_le _ _
section
variable {P : Program} {w : World} {K : PySem.W.Frag} {mg : Str → Option Value} {base : Heap}
/-! ### cycles_of -/
def spCycs (K : PySem.W.Frag) : Sp := fun vs H Q _ => ∃ (s t : Addr) (f : Nat → Str) (p q : List Nat) (r : Nat) (ans : Option (List (List Nat))), vs = [.ref s, .ref t, .int (r : Int)] ∧ TupN H s (enc f p) ∧ SqT K H t (enc f q) ∧ Inj f p.length ∧ FineF f p.length ∧
  cyclesM p q r = some ans ∧ match ans with
    | none => ∀ H', Same H H' → Q .non H'
    | some cs => ∀ H' a as, Same H H' → SqT K H' a (as.map V.ref) → CycsAt H' as cs → Q (.ref a) H'
theorem pair_says {s t : Addr} {f : Nat → Str} {p q : List Nat} {r : Nat} {b : Bool} {H : Hp} {Q : VK} {E : XK} (hs : TupN H s (enc f p)) (ht : SqT K H t (enc f q)) (inj : Inj f p.length) (ff : FineF f p.length) (h : pairM p q (p.length - (r + 1)) = some b)
    (k : ∀ H', Same H H' → Q (.bl b) H') : spPair K [.ref s, .ref t, .int (r : Int)] H Q E := by
  obtain ⟨⟨c1, c2, c3, c4, c5, c6⟩, d⟩ := pairM_some h
  have hl : (p.map f).length = p.length := List.length_map ..
  refine ⟨s, t, p.map f, q.map f, r, b, rfl, by rw [← enc_eq]; exact hs.sq, by rw [← enc_eq]; exact ht, by rw [hl]; exact c5, by rw [hl]; exact c6, by rw [hl, List.length_map]; exact c1, ?_, fine_map ff c2, fine_map ff c3, ?_, k⟩
  · rw [hl, ← List.map_drop]
    exact nodup_map inj (all_drop c2) (nodupB_iff c4)
  · rw [hl, ← List.map_take, ← List.map_take, ← List.map_drop, ← List.map_drop]
    rcases d with ⟨rfl, d⟩ | ⟨rfl, d, e⟩
    · exact .inl ⟨rfl, fun c => d (map_inj inj (all_take c2) (all_take c3) c)⟩
    · exact .inr ⟨rfl, by rw [d], e.map f⟩
/-- the list of pairs for the dict, after i of its cells -/
def PairI (K : PySem.W.Frag) (H : Hp) (D : Addr) (res : List Nat) (i : Nat) (H' : Hp) : Prop := ∃ ps : List Addr, Same H H' ∧ H' D = some (.lst (ps.map V.ref)) ∧ ps.length ≤ i ∧
  Paired (fun p (kv : L2.Key × V) => SqT K H' p [kV kv.1, kv.2]) ps ((res.take i).map fun (n : Nat) => ((Sum.inl (n : Int) : L2.Key), V.bl true))
theorem paired_snoc {α β : Type} {F : α → β → Prop} : ∀ {xs : List α} {ys : List β} {x : α} {y : β}, Paired F xs ys → F x y → Paired F (xs ++ [x]) (ys ++ [y])
  | _, _, _, _, .nil, h => .cons h .nil
  | _, _, _, _, .cons h r, t => .cons h (paired_snoc r t)
/-- between two turns of the for -/
def CycsI (H : Hp) (a b l d : Addr) (r : Nat) (p q : List Nat) (fin : List (List Nat)) (low i : Nat) (σ : L2.St) (H' : Hp) : Prop := ∃ (z : Option V) (as : List Addr) (acc : List (List Nat)) (kvs : List (L2.Key × V)),
  σ = [some (.ref a), some (.ref b), some (.int (r : Int)), some (.ref l), some (.ref d), z, none] ∧ Same H H' ∧ H' l = some (.lst (as.map V.ref)) ∧ H' d = some (.dK kvs) ∧ CycsAt H' as acc ∧
  (∀ x : Int, (valV kvs (Sum.inl x)).isSome = acc.flatten.any fun (i : Nat) => decide ((i : Int) = x)) ∧ kvs.length ≤ 11 * i ∧ acc.length ≤ i ∧ runC p q ((K95.cellsFrom low p.length).drop i) acc = some fin
theorem scCycs : FnScope ["stack", "target", "reach", "found", "met", "cell", "one"] ["stack", "target", "reach"] (defScope sCycs) := ⟨rfl, rfl, rfl, by decide +kernel, rfl, by decide +kernel, by decide +kernel⟩
theorem ok_cycs {f g1 g2 g3 : Addr} {fd d1 d2 d3 : FuncData} (F : Fun K "cycles_of" "cycles_of" sCycs f fd) (T : Bi mg)
    (G1 : FnOk P w K mg base CX0 1 g1 d1 ["stack", "reach"] (spLow K)) (k1 : PySem.W.keepIn K (.ref g1) = true) (m1 : mg "lowest_upper" = some (.ref g1)) (b1 : Binds K d1 ["stack", "reach"] [])
    (G2 : FnOk P w K mg base CX0 2 g2 d2 ["stack", "target", "reach"] (spPair K)) (k2 : PySem.W.keepIn K (.ref g2) = true) (m2 : mg "is_pair" = some (.ref g2)) (b2 : Binds K d2 ["stack", "target", "reach"] [])
    (G3 : FnOk P w K mg base CX0 1 g3 d3 ["stack", "target", "cell"] (spCyc K)) (k3 : PySem.W.keepIn K (.ref g3) = true) (m3 : mg "cycle_from" = some (.ref g3)) (b3 : Binds K d3 ["stack", "target", "cell"] []) :
    FnOk P w K mg base CX0 3 f fd ["stack", "target", "reach"] (spCycs K) := by
  refine F.ok scCycs (fun vs H Q E h => ?_) (fun cdv A outer s H vs Q E hr h => ?_)
  · obtain ⟨a, b, g, p, q, r, ans, rfl, _⟩ := h
    rfl
  · obtain ⟨a, b, g, p, q, r, ans, rfl, hs, ht, inj, ff, hans, k⟩ := h
    have hu := hu_of hr
    have hr1 : Room 1 _ := hr.mono (by decide)
    refine ⟨_, pss_cons (ps_if (pt_not (pt_val (pe_call G2 hr rfl m2 k2 b2 .nil pass0 (pa_cons (pv 0) (pa_cons (pv 1) (pa_cons (pv 2) pa_nil)))))) (pss_one (ps_ret pe_non)) pss_nil)
      (pss_cons (ps_set (i := 3) scCycs.nd rfl (Or.inl rfl) (pe_lst pa_nil))
      (pss_cons (ps_set (i := 4) scCycs.nd rfl (Or.inl rfl) pe_dnewK)
      (pss_cons (ps_for PassesOwn.never rfl (pi_range2 rfl T.range (pa_cons (pe_call G1 hr1 rfl m1 k1 b1 .nil pass0 (pa_cons (pv 0) (pa_cons (pv 2) pa_nil))) (pa_cons (pe_callB call_len_seq (by rfl) T.len PySem.boot_len (pa_cons (pv 0) pa_nil)) pa_nil))) (pg_name (i := 5) scCycs.nd rfl (Or.inl rfl))
        (pss_one (ps_if (PW.pt (pw_and (pt_cmpR op_ne (pe_ix ix_tup (pv 0) (pv 5) (fun _ _ => rfl)) (pe_ix ix_tup (pv 1) (pv 5) (fun _ _ => rfl)) (nomark _)) (pw_and1 (pt_cmp (pc_dnotin hu (pv 5) (pv 4))))))
          (pss_cons (ps_expr (pe_bm PySem.F.plainAttrs_list PySem.F.slot_list_append PySem.F.type_list_append mt_append (pv 3) (pa_cons (pe_call G3 hr1 rfl m3 k3 b3 .nil pass0 (pa_cons (pv 0) (pa_cons (pv 1) (pa_cons (pv 5) pa_nil)))) pa_nil)))
          (pss_one (ps_expr (pe_bm PySem.F.plainAttrs_dict PySem.F.slot_dict_update PySem.F.type_dict_update (mt_update rfl) (pv 4)
            (pa_cons (pe_lc (own := [("one", 6)]) (g := gName 6) (tt := tYes) rfl scCycs.nd (pi_tup (pe_ix ix_list (pv 3) (pe_un un_neg pe_int) (fun _ _ => rfl)))
              (blkOk_by (N := ["stack", "target", "reach", "found", "met", "cell", "one"]) (sc := defScope sCycs) (by decide +kernel)) (fun _ _ _ _ _ => pg_name (i := 6) scCycs.nd rfl (Or.inl rfl)) (fun _ _ _ _ _ => pts_nil) (fun _ _ _ _ _ => pe_tup (pa_cons (pv 6) (pa_cons pe_bl pa_nil)))) pa_nil)))))
          pss_nil)))
      (pss_one (ps_ret (pe_callTy call_tuple_of (by rfl) T.tuple (by decide +kernel) (pa_cons (pv 3) pa_nil))))))), ?_⟩
    have hlo : p.length - (r + 1) ≤ p.length := Nat.sub_le _ _
    unfold cyclesM at hans
    generalize hlow : p.length - (r + 1) = low at hans hlo
    cases hpm : pairM p q low with
    | none => rw [hpm] at hans; cases hans
    | some bb =>
      obtain ⟨⟨c1, c2, c3, c4, c5, c6⟩, _⟩ := pairM_some hpm
      refine ⟨_, rfl, _, rfl, _, rfl, ?_⟩
      dsimp only [tNil]
      refine pair_says hs ht inj ff (by rw [hlow]; exact hpm) fun H1 S1 => ⟨bb, rfl, ?_⟩
      cases bb with
      | false =>
        rw [hpm] at hans
        cases hans
        exact k H1 S1
      | true =>
        rw [hpm] at hans
        cases hrun : runC p q (K95.cellsFrom low p.length) [] with
        | none => rw [hrun] at hans; cases hans
        | some fin =>
          rw [hrun] at hans
          cases hans
          -- found = []; met = {}
          refine iteF ?_
          refine ⟨Nat.zero_le _, fun l hl d hd => ?_⟩
          have nl : H l = none := S1.free hl
          have nd : H d = none := (Same.upd S1 nl).free hd
          have ld : l ≠ d := fun c => by subst c; rw [upd_same] at hd; cases hd
          have S2 : Same H (upd (upd H1 l (.lst [])) d (.dK [])) := Same.upd (Same.upd S1 nl) nd
          have el : (upd (upd H1 l (.lst [])) d (.dK [])) l = some (.lst (([] : List Addr).map V.ref)) := by rw [upd_ne ld, upd_same]; rfl
          have ed : (upd (upd H1 l (.lst [])) d (.dK [])) d = some (.dK []) := upd_same
          generalize upd (upd H1 l (.lst [])) d (.dK []) = H2 at S2 el ed ⊢
          -- for cell in range(lowest_upper(stack, reach), len(stack))
          refine ⟨_, rfl, _, rfl, a, enc g p, r, rfl, (hs.same S2).sq, _, rfl, a, _, rfl, .inr (hs.same S2).sq, ?_⟩
          have hle : (enc g p).length = p.length := List.length_map ..
          rw [hle, hlow]
          refine ⟨(low : Int), (p.length : Int), rfl, ⟨by omega, by omega, by omega, by omega⟩, ?_⟩
          have hn : ((p.length : Int) - (low : Int)).toNat = p.length - low := by omega
          rw [hn]
          refine for_range (CycsI H a b l d r p q fin low) ⟨none, [], [], [], rfl, S2, el, ed, .nil, fun x => rfl, Nat.zero_le _, Nat.zero_le _, hrun⟩ (fun i σ H' hi h => ?_) (fun σ H' h => ?_)
          · obtain ⟨z, as, acc, kvs, rfl, S3, el, ed, ca, hk, hkl, hal, hrun⟩ := h
            rw [cells_at hi] at hrun
            unfold runC at hrun
            have hci : low + i < p.length := by omega
            have hcq : low + i < q.length := by omega
            have ec : ((low : Int) + (i : Int)) = ((low + i : Nat) : Int) := by omega
            rw [ec]
            -- stack[cell] != target[cell]
            refine ⟨_, rfl, _, rfl, ⟨a, enc g p, (low + i : Nat), _, rfl, rfl, (hs.same S3).sq, atI_nat (enc_at (getD_at hci 0)), _, rfl, _, rfl, ⟨b, enc g q, (low + i : Nat), _, rfl, rfl, Same.sqT S3 ht, atI_nat (enc_at (getD_at hcq 0)), rfl, _, rfl, ?_⟩⟩⟩
            by_cases hpq : p.getD (low + i) 0 = q.getD (low + i) 0
            · refine iteNS (by rw [hpq]) (iteF ?_)
              have e1 : cycStep p q acc (low + i) = some acc := by
                unfold cycStep
                rw [if_neg fun c => c.1 hpq]
              rw [e1] at hrun
              exact ⟨_, as, acc, kvs, rfl, S3, el, ed, ca, hk, by omega, by omega, hrun⟩
            · refine iteY (fun e => hpq (inj _ _ (ok_at c2 (getD_at hci 0)) (ok_at c3 (getD_at hcq 0)) (V.str.inj e))) ?_
              -- cell not in met
              refine ⟨_, rfl, _, rfl, d, valV kvs (Sum.inl ((low + i : Nat) : Int)), rfl, DGet.k (k := Sum.inl ((low + i : Nat) : Int)) ed, _, rfl, ?_⟩
              rw [hk]
              by_cases hin : low + i ∈ acc.flatten
              · have e0 : (acc.flatten.any fun (j : Nat) => decide ((j : Int) = ((low + i : Nat) : Int))) = true := List.any_eq_true.mpr ⟨low + i, hin, decide_eq_true rfl⟩
                rw [e0]
                refine iteF ?_
                have e1 : cycStep p q acc (low + i) = some acc := by
                  unfold cycStep
                  rw [if_neg fun c => c.2 hin]
                rw [e1] at hrun
                exact ⟨_, as, acc, kvs, rfl, S3, el, ed, ca, hk, by omega, by omega, hrun⟩
              · have e0 : (acc.flatten.any fun (j : Nat) => decide ((j : Int) = ((low + i : Nat) : Int))) = false := by
                  rw [List.any_eq_false]
                  intro j hj c
                  have c' := of_decide_eq_true c
                  exact hin ((show j = low + i by omega) ▸ hj)
                rw [e0]
                refine iteT ?_
                unfold cycStep at hrun
                rw [if_pos ⟨hpq, hin⟩] at hrun
                cases hcy : cycleFrom p q (low + i) with
                | none =>
                  rw [hcy] at hrun
                  cases hrun
                | some res =>
                  rw [hcy] at hrun
                  have hrun : runC p q ((K95.cellsFrom low p.length).drop (i + 1)) (acc ++ [res]) = some fin := hrun
                  have hrl := cycle_len hcy
                  have hal2 : as.length = acc.length := Paired.length ca
                  -- found.append(cycle_from(stack, target, cell))
                  refine ⟨_, rfl, .inl ⟨rfl, _, SqL.of el⟩, _, rfl, _, rfl, _, rfl, ?_⟩
                  refine ⟨a, b, g, p, q, low + i, res, rfl, hs.same S3, Same.sqT S3 ht, inj, c2, c3, c1, hci, hcy, fun H4 a4 S4 h4 t4 => ?_⟩
                  refine ⟨l, as.map V.ref, V.ref a4, rfl, rfl, S4 _ _ el, by rw [List.length_map]; exact small1000 (by omega), ?_⟩
                  have S5 : Same H (upd H4 l (.lst (as.map V.ref ++ [V.ref a4]))) := Same.upd (S3.trans S4) nl
                  have e5 : (upd H4 l (.lst (as.map V.ref ++ [V.ref a4]))) l = some (.lst ((as ++ [a4]).map V.ref)) := by rw [upd_same, List.map_append]; rfl
                  have d5 : (upd H4 l (.lst (as.map V.ref ++ [V.ref a4]))) d = some (.dK kvs) := by rw [upd_ne (fun c => ld c.symm)]; exact S4 _ _ ed
                  have t5 : TupN (upd H4 l (.lst (as.map V.ref ++ [V.ref a4]))) a4 (nums res) := TupN.wr t4 (S4 _ _ el) (fun _ _ c => nomatch c)
                  have ca5 : CycsAt (upd H4 l (.lst (as.map V.ref ++ [V.ref a4]))) (as ++ [a4]) (acc ++ [res]) := CycsAt.snoc (CycsAt.wr (CycsAt.same ca S4) (S4 _ _ el) (fun _ _ c => nomatch c)) t5
                  generalize upd H4 l (.lst (as.map V.ref ++ [V.ref a4])) = H5 at S5 e5 d5 t5 ca5 ⊢
                  have el5 : H5 l = some (.lst (as.map V.ref ++ [V.ref a4])) := by rw [e5, List.map_append]; rfl
                  -- met.update([(one, True) for one in found[-1]])
                  refine ⟨_, rfl, .inr (.inr (.inl ⟨rfl, .inl ⟨_, d5⟩⟩)), _, rfl, 1, rfl, l, _, -1, V.ref a4, rfl, rfl, SqL.of el5, atI_last _ _, a4, rfl, ⟨_, t5.sq⟩, fun D hD => ?_⟩
                  have lres : (nums res).length = res.length := List.length_map ..
                  refine lc_tup (xs := nums res) (PairI K H5 D res) ⟨[], Same.lay hD, upd_same, Nat.zero_le _, .nil⟩ (fun j H6 hj h => ?_) (fun j x H6 hx h => ?_) (fun H6 h => ?_)
                  · obtain ⟨ps, S6, _⟩ := h
                    exact (t5.same S6).sq
                  · obtain ⟨ps, S6, e6, hp6, pr⟩ := h
                    have hj : j < res.length := by
                      have := (List.getElem?_eq_some_iff.mp hx).1
                      omega
                    have hx' : x = V.int ((res.getD j 0 : Nat) : Int) := by
                      have e := getD_at hj 0
                      rw [List.getElem?_map, e] at hx
                      exact (Option.some.inj hx).symm
                    subst hx'
                    refine ⟨rfl, ?_⟩
                    dsimp only [tYes]
                    refine iteT ?_
                    refine ⟨_, rfl, by show 2 ≤ sizeLine; decide, fun p7 hp7 => ⟨ps.map V.ref, ?_, by rw [List.length_map]; exact small1000 (by omega), ?_⟩⟩
                    · rw [upd_ne (fun c => by subst c; rw [e6] at hp7; cases hp7)]
                      exact e6
                    · have S7 : Same H6 (upd H6 p7 (.tup [V.int ((res.getD j 0 : Nat) : Int), V.bl true])) := Same.lay hp7
                      have e7 := S7 _ _ e6
                      refine ⟨ps ++ [p7], Same.upd (S6.trans S7) hD, by rw [upd_same, List.map_append]; rfl, by rw [List.length_append]; show ps.length + 1 ≤ j + 1; omega, ?_⟩
                      have et : res.take (j + 1) = res.take j ++ [res.getD j 0] := by
                        rw [List.take_succ, getD_at hj 0]
                        rfl
                      rw [et, List.map_append]
                      refine paired_snoc (Paired.mapP pr fun _ _ t => SqT.wr (Same.sqT S7 t) e7) ?_
                      exact SqT.wr (.inl (.inl upd_same)) e7
                  · obtain ⟨ps, S6, e6, hp6, pr⟩ := h
                    rw [lres, List.take_length] at pr
                    have hd6 := S6 _ _ d5
                    refine ⟨d, D, kvs, ps, _, rfl, rfl, hd6, SqL.of e6, pr, by rw [List.length_map]; omega, ?_⟩
                    have ne6 : l ≠ d := ld
                    refine ⟨_, as ++ [a4], acc ++ [res], _, rfl, Same.upd (S5.trans S6) nd, ?_, upd_same, CycsAt.wr (CycsAt.same ca5 S6) hd6 (fun _ _ c => nomatch c), fun x => ?_, ?_, ?_, hrun⟩
                    · rw [upd_ne ld]
                      exact S6 _ _ e5
                    · rw [val_merge, hk, List.flatten_append, List.any_append]
                      show (_ || _) = (_ || (List.flatten [res]).any _)
                      rw [List.flatten_cons, List.flatten_nil, List.append_nil]
                    · have := length_mergeK (res.map fun (n : Nat) => ((Sum.inl (n : Int) : L2.Key), V.bl true)) kvs
                      rw [List.length_map] at this
                      omega
                    · rw [List.length_append]
                      show acc.length + 1 ≤ i + 1
                      omega
          · obtain ⟨z, as, acc, kvs, rfl, S3, el, ed, ca, hk, hkl, hal, hrun⟩ := h
            have hcl : (K95.cellsFrom low p.length).length = p.length - low := by simp [K95.cellsFrom]
            rw [List.drop_of_length_le (by rw [hcl]; exact Nat.le_refl _)] at hrun
            cases hrun
            refine ⟨_, rfl, l, _, rfl, .inl ⟨SqL.of el, fun p2 h2 => ?_⟩⟩
            exact k _ p2 as (Same.upd S3 (S3.free h2)) (.inl (.inl upd_same)) (CycsAt.same ca (Same.lay h2))
end
end K95P
end

section
set_option Elab.async false
set_option linter.all false
set_option maxRecDepth 100000
set_option maxHeartbeats 4000000
/-! K95P4: swaps_for, turned. -/
namespace K95P
open PySem PyProof.Rows L2 K95R K95H K95
theorem inv_nums {c : List Nat} {x : Nat} : inV (.int (x : Int)) (nums c) = c.contains x := by
  unfold inV
  rw [List.any_map]
  induction c with
  | nil => rfl
  | cons y c ih =>
    rw [List.any_cons, ih, List.contains_cons]
    congr 1
    show ((y : Int) == (x : Int)) = (x == y)
    by_cases e : x = y
    · subst e
      simp
    · have e2 : (y : Int) ≠ (x : Int) := by omega
      rw [beq_eq_false_iff_ne.mpr e2, beq_eq_false_iff_ne.mpr e]
theorem CycsAt.get {H : Hp} : ∀ {as : List Addr} {cs : List (List Nat)} {i : Nat} {a : Addr}, CycsAt H as cs → as[i]? = some a → ∃ c, cs[i]? = some c ∧ TupN H a (nums c)
  | _, _, 0, _, .cons h r, e => by cases e; exact ⟨_, rfl, h⟩
  | _, _, i + 1, _, .cons h r, e => CycsAt.get (i := i) r e
theorem take_snoc {α : Type} {l : List α} {i : Nat} {x : α} (h : l[i]? = some x) : l.take (i + 1) = l.take i ++ [x] := by
  rw [List.take_succ, h]
  rfl
theorem ref_at {as : List Addr} {i : Nat} {x : V} (h : (as.map V.ref)[i]? = some x) : ∃ a, as[i]? = some a ∧ x = .ref a := by
  rw [List.getElem?_map] at h
  cases e : as[i]? with
  | none => rw [e] at h; cases h
  | some a => rw [e] at h; exact ⟨a, rfl, (Option.some.inj h).symm⟩
section
variable {P : Program} {w : World} {K : PySem.W.Frag} {mg : Str → Option Value} {base : Heap}
/-- what len asks of a list or a tuple -/
abbrev lenR (K : PySem.W.Frag) : List V → Hp → VK → Prop := fun xs H Q => ∃ (p : Addr) (ys : List V), xs = [V.ref p] ∧ (SqL K H p ys ∨ SqT K H p ys) ∧ Q (V.int ((ys.length : Nat) : Int)) H
/-! ### swaps_for -/
def spFor (K : PySem.W.Frag) : Sp := fun vs H Q _ => ∃ (t : Addr) (as : List Addr) (cs : List (List Nat)) (top : Nat), vs = [.ref t, .int (top : Int)] ∧ SqT K H t (as.map V.ref) ∧ CycsAt H as cs ∧ cs.length ≤ 100 ∧ ∀ H', Same H H' → Q (.int (swapsFor cs top)) H'
theorem scFor : FnScope ["cycles", "top", "cycle"] ["cycles", "top"] (defScope sFor) := ⟨rfl, rfl, rfl, by decide +kernel, rfl, by decide +kernel, by decide +kernel⟩
theorem ok_for {f : Addr} {fd : FuncData} (F : Fun K "swaps_for" "swaps_for" sFor f fd) (T : Bi mg) : FnOk P w K mg base CX0 1 f fd ["cycles", "top"] (spFor K) := by
  refine F.ok scFor (fun vs H Q E h => ?_) (fun cdv A outer s H vs Q E hr h => ?_)
  · obtain ⟨t, as, cs, tp, rfl, _⟩ := h
    rfl
  · obtain ⟨t, as, cs, tp, rfl, ht, hc, hl, k⟩ := h
    refine ⟨_, pss_one (ps_ret (pe_op op_sub
        (pe_callB (cr_sum rfl) (by rfl) T.sum (by decide +kernel) (pa_cons (pe_lc (own := [("cycle", 2)]) (g := gName 2) (tt := tYes) (te := tOp (rI0 fun i j => .int (i + j)) (tCB (lenR K) (tCons (tVar 2) tNil)) (tC (.int 1))) rfl scFor.nd (pi_tup (pv 0)) (blkOk_by (N := ["cycles", "top", "cycle"]) (sc := defScope sFor) (by decide +kernel)) (fun _ _ _ _ _ => pg_name (i := 2) scFor.nd rfl (Or.inl rfl)) (fun _ _ _ _ _ => pts_nil)
          (fun _ _ _ _ _ => pe_op op_add (pe_callB call_len_seq (by rfl) T.len PySem.boot_len (pa_cons (pv 2) pa_nil)) pe_int)) pa_nil))
        (pe_op op_mul pe_int (pe_callB call_len_seq (by rfl) T.len PySem.boot_len (pa_cons (pe_lc (own := [("cycle", 2)]) (g := gName 2) (tt := tTest (tOp (rIn K false) (tVar 1) (tVar 2))) rfl scFor.nd (pi_tup (pv 0)) (blkOk_by (N := ["cycles", "top", "cycle"]) (sc := defScope sFor) (by decide +kernel)) (fun _ _ _ _ _ => pg_name (i := 2) scFor.nd rfl (Or.inl rfl))
          (fun _ _ _ _ _ => pts_one (pt_cmpR op_in_seq (pv 1) (pv 2) (by with_unfolding_all rfl))) (fun _ _ _ _ _ => pe_int)) pa_nil))))), ?_⟩
    have lc : as.length = cs.length := Paired.length hc
    -- sum([len(cycle) + 1 for cycle in cycles])
    refine ⟨_, rfl, t, rfl, ⟨_, ht⟩, fun D hD => ?_⟩
    refine lc_tup (xs := as.map V.ref) (fun i H' => Same H H' ∧ H' D = some (.lst (((cs.take i).map fun c => (c.length : Int) + 1).map V.int))) ⟨Same.lay hD, upd_same⟩ (fun j H6 hj h => Same.sqT h.1 ht) (fun j x H6 hx h => ?_) (fun H6 h => ?_)
    · obtain ⟨S6, e6⟩ := h
      obtain ⟨a, ha, rfl⟩ := ref_at hx
      obtain ⟨c, hcj, tc⟩ := CycsAt.get hc ha
      refine ⟨rfl, ?_⟩
      dsimp only [tYes]
      refine iteT ?_
      refine ⟨_, rfl, a, _, rfl, .inr (tc.same S6).sq, _, _, rfl, rfl, _, e6, ?_, Same.upd S6 hD, ?_⟩
      · rw [List.length_map, List.length_map, List.length_take]
        exact small1000 (by omega)
      · rw [upd_same, take_snoc hcj, List.map_append, List.map_append, List.length_map]
        rfl
    · obtain ⟨S6, e6⟩ := h
      rw [List.length_map, lc, List.take_length] at e6
      refine ⟨D, _, rfl, SqL.of e6, ?_⟩
      -- 2 * len([1 for cycle in cycles if top in cycle])
      refine ⟨_, rfl, t, rfl, ⟨_, Same.sqT S6 ht⟩, fun D2 hD2 => ?_⟩
      refine lc_tup (xs := as.map V.ref) (fun i H' => Same H6 H' ∧ H' D2 = some (.lst (((cs.take i).filter fun c => c.contains tp).map fun _ => V.int 1))) ⟨Same.lay hD2, upd_same⟩ (fun j H7 hj h => Same.sqT h.1 (Same.sqT S6 ht)) (fun j x H7 hx h => ?_) (fun H7 h => ?_)
      · obtain ⟨S7, e7⟩ := h
        obtain ⟨a, ha, rfl⟩ := ref_at hx
        obtain ⟨c, hcj, tc⟩ := CycsAt.get hc ha
        refine ⟨rfl, ?_⟩
        have tc7 : TupN H7 a (nums c) := (tc.same S6).same S7
        refine ⟨_, rfl, _, rfl, a, nums c, rfl, .inr tc7.sq, rfl, flat_nums c, _, rfl, ?_⟩
        show if (inV (.int (tp : Int)) (nums c)) = true then _ else _
        rw [inv_nums]
        by_cases hin : c.contains tp = true
        · rw [if_pos hin]
          refine ⟨_, e7, ?_, Same.upd S7 hD2, ?_⟩
          · rw [List.length_map]
            refine small1000 ?_
            have := List.length_filter_le (fun c : List Nat => c.contains tp) (cs.take j)
            rw [List.length_take] at this
            omega
          · rw [upd_same, take_snoc hcj, List.filter_append, List.map_append]
            have : [c].filter (fun c => c.contains tp) = [c] := by
              rw [List.filter_cons, if_pos hin]
              rfl
            rw [this]
            rfl
        · rw [if_neg hin]
          refine ⟨S7, ?_⟩
          rw [e7, take_snoc hcj, List.filter_append]
          have : [c].filter (fun c => c.contains tp) = [] := by
            rw [List.filter_cons, if_neg hin]
            rfl
          rw [this, List.append_nil]
      · obtain ⟨S7, e7⟩ := h
        rw [List.length_map, lc, List.take_length] at e7
        refine ⟨D2, _, rfl, .inl (SqL.of e7), _, _, rfl, rfl, .inl ⟨by decide, by decide⟩, _, _, rfl, rfl, ?_⟩
        rw [List.length_map]
        exact k H7 (S6.trans S7)
/-- t + u, whether the one, the other or new -/
theorem cat_any {H : Hp} {a b : Addr} {xs ys : List V} {Q : VK} (ha : SqT K H a xs) (hb : SqT K H b ys) (hz : xs.length + ys.length ≤ sizeLine) (q : ∀ H' p, Same H H' → SqT K H' p (xs ++ ys) → Q (.ref p) H') : rCatA K (.ref a) (.ref b) H Q := by
  refine ⟨a, b, xs, ys, rfl, rfl, ha, hb, hz, fun e => ?_, fun _ e => ?_, fun _ _ p hp => ?_⟩
  · subst e
    exact q H b (Same.refl H) hb
  · subst e
    exact q H a (Same.refl H) (by rw [List.append_nil]; exact ha)
  · exact q _ p (Same.lay hp) (.inl (.inl upd_same))
/-! ### turned -/
def spTurn (K : PySem.W.Frag) : Sp := fun vs H Q _ => ∃ (t : Addr) (c : List Nat) (top : Nat), vs = [.ref t, .int (top : Int)] ∧ TupN H t (nums c) ∧ 1 ≤ c.length ∧ c.length ≤ 100 ∧ ∀ H' l, Same H H' → H l = none → H' l = some (.lst (nums (turned c top))) → Q (.ref l) H'
theorem scTurn : FnScope ["cycle", "top", "place", "rest"] ["cycle", "top"] (defScope sTurn) := ⟨rfl, rfl, rfl, by decide +kernel, rfl, by decide +kernel, by decide +kernel⟩
theorem ok_turn {f : Addr} {fd : FuncData} (F : Fun K "turned" "turned" sTurn f fd) (T : Bi mg) : FnOk P w K mg base CX0 1 f fd ["cycle", "top"] (spTurn K) := by
  refine F.ok scTurn (fun vs H Q E h => ?_) (fun cdv A outer s H vs Q E hr h => ?_)
  · obtain ⟨t, c, tp, rfl, _⟩ := h
    rfl
  · obtain ⟨t, c, tp, rfl, ht, hl1, hl, k⟩ := h
    refine ⟨_, pss_cons (ps_if (pt_cmpR op_in_seq (pv 1) (pv 0) (by with_unfolding_all rfl))
        (pss_cons (ps_set (i := 2) scTurn.nd rfl (Or.inl rfl) (pe_tm PySem.F.slot_tuple_index PySem.F.type_tuple_index mt_idx1 (pv 0) (pa_cons (pv 1) pa_nil)))
        (pss_cons (ps_set (i := 3) scTurn.nd rfl (Or.inl rfl) (pe_callTy call_list_of (by rfl) T.list (by decide +kernel) (pa_cons (pe_op op_catA (pe_slice sl_tupA (pv 0) (po_some (pe_op op_add (pv 2) pe_int)) po_none) (pe_slice sl_tupA (pv 0) po_none (po_some (pv 2)))) pa_nil)))
        (pss_one (ps_ret (pe_revL (pv 3)))))) pss_nil)
      (pss_cons (ps_set (i := 3) scTurn.nd rfl (Or.inl rfl) (pe_callTy call_list_of (by rfl) T.list (by decide +kernel) (pa_cons (pe_slice sl_tupA (pv 0) (po_some pe_int) po_none) pa_nil)))
      (pss_one (ps_ret (pe_op op_cat (pe_op op_cat (pe_lst (pa_cons (pe_ix ix_tup (pv 0) pe_int (fun _ _ => rfl)) pa_nil)) (pe_revL (pv 3))) (pe_lst (pa_cons (pe_ix ix_tup (pv 0) pe_int (fun _ _ => rfl)) pa_nil)))))), ?_⟩
    refine ⟨_, rfl, _, rfl, t, nums c, rfl, .inr ht.sq, rfl, flat_nums c, _, rfl, ?_⟩
    show if (inV (.int (tp : Int)) (nums c)) = true then _ else _
    rw [inv_nums]
    cases ej : idx c tp 0 with
    | some j =>
      obtain ⟨_, j2, j3, j4⟩ := idx_some ej
      rw [if_pos (List.contains_iff_mem.mpr (List.mem_of_getElem? j3))]
      -- place = cycle.index(top)
      refine ⟨_, rfl, ⟨t, _, rfl, ht⟩, _, rfl, t, nums c, _, j, rfl, rfl, ht.sq, rfl, flat_nums c, by rw [hits_int]; exact decide_eq_true j3, fun m hm => by rw [hits_int]; exact decide_eq_false (j4 m (Nat.zero_le _) hm), ?_⟩
      -- rest = list(cycle[place + 1:] + cycle[:place])
      refine ⟨_, rfl, _, rfl, _, _, rfl, rfl, _, rfl, ?_⟩
      dsimp only [tNoPart]
      refine cut_any (K := K) ht.sq fun H1 p1 S1 c1 => ?_
      have e1 : cutV (nums c) (some ((j : Int) + 1)) none = nums (c.drop (j + 1)) := by
        rw [show ((j : Int) + 1) = ((j + 1 : Nat) : Int) from rfl, cut_from, ← List.map_drop]
      rw [e1] at c1
      refine ⟨_, rfl, ?_⟩
      dsimp only [tNoPart]
      refine ⟨_, rfl, _, rfl, ?_⟩
      refine cut_any (K := K) (Same.sqT S1 ht.sq) fun H2 p2 S2 c2 => ?_
      rw [cut_to, ← List.map_take] at c2
      refine cat_any (K := K) (Same.sqT S2 c1) c2 ?_ fun H3 p3 S3 c3 => ?_
      · rw [List.length_map, List.length_map, List.length_drop, List.length_take]
        exact Nat.le_of_lt (small1000 (by omega))
      · rw [← nums_app] at c3
        refine ⟨p3, _, rfl, .inr c3, fun l hl => ?_⟩
        have S4 : Same H (upd H3 l (.lst (nums (c.drop (j + 1) ++ c.take j)))) := Same.upd ((S1.trans S2).trans S3) ((S1.trans S2).trans S3 |>.free hl)
        have e4 : (upd H3 l (.lst (nums (c.drop (j + 1) ++ c.take j)))) l = some (.lst (nums (c.drop (j + 1) ++ c.take j))) := upd_same
        generalize upd H3 l (.lst (nums (c.drop (j + 1) ++ c.take j))) = H4 at S4 e4 ⊢
        refine ⟨_, rfl, l, _, rfl, SqL.of e4, fun p hp => ?_⟩
        refine k _ p (Same.upd S4 (S4.free hp)) (S4.free hp) ?_
        rw [upd_same]
        unfold turned
        rw [ej, ← List.map_reverse]
    | none =>
      have hni := idx_none ej
      rw [if_neg (fun h => hni (List.contains_iff_mem.mp h))]
      -- rest = list(cycle[1:])
      refine ⟨_, rfl, _, rfl, ?_⟩
      dsimp only [tNoPart]
      refine cut_any (K := K) ht.sq fun H1 p1 S1 c1 => ?_
      have e1 : cutV (nums c) (some 1) none = nums (c.drop 1) := by
        rw [show (1 : Int) = ((1 : Nat) : Int) from rfl, cut_from, ← List.map_drop]
      rw [e1] at c1
      refine ⟨p1, _, rfl, .inr c1, fun l hl => ?_⟩
      have S2 : Same H (upd H1 l (.lst (nums (c.drop 1)))) := Same.upd S1 (S1.free hl)
      have e2 : (upd H1 l (.lst (nums (c.drop 1)))) l = some (.lst (nums (c.drop 1))) := upd_same
      generalize upd H1 l (.lst (nums (c.drop 1))) = H2 at S2 e2 ⊢
      have h0 : (nums c)[0]? = some (V.int ((c.getD 0 0 : Nat) : Int)) := by rw [List.getElem?_map, getD_at hl1 0]; rfl
      -- [cycle[0]] + rest[::-1] + [cycle[0]]
      refine ⟨_, rfl, t, nums c, 0, _, rfl, rfl, (ht.same S2).sq, atI_nat (j := 0) h0, by show 1 ≤ sizeLine; decide, fun l1 f1 => ?_⟩
      have S3 : Same H2 (upd H2 l1 (.lst [V.int ((c.getD 0 0 : Nat) : Int)])) := Same.lay f1
      have e3 : (upd H2 l1 (.lst [V.int ((c.getD 0 0 : Nat) : Int)])) l1 = some (.lst (nums [c.getD 0 0])) := upd_same
      generalize upd H2 l1 (.lst [V.int ((c.getD 0 0 : Nat) : Int)]) = H3 at S3 e3 ⊢
      refine ⟨_, rfl, l, _, rfl, SqL.of (S3 _ _ e2), fun l2 f2 => ?_⟩
      have S4 : Same H3 (upd H3 l2 (.lst (nums (c.drop 1)).reverse)) := Same.lay f2
      have e4 : (upd H3 l2 (.lst (nums (c.drop 1)).reverse)) l2 = some (.lst (nums (c.drop 1).reverse)) := by rw [upd_same, ← List.map_reverse]
      generalize upd H3 l2 (.lst (nums (c.drop 1)).reverse) = H4 at S4 e4 ⊢
      refine ⟨l1, l2, _, _, rfl, rfl, S4 _ _ e3, e4, ?_, fun l3 f3 => ?_⟩
      · rw [List.length_map, List.length_map, List.length_reverse, List.length_drop]
        exact Nat.le_of_lt (small1000 (by show 1 + (c.length - 1) ≤ 1000; omega))
      · have S5 : Same H4 (upd H4 l3 (.lst (nums [c.getD 0 0] ++ nums (c.drop 1).reverse))) := Same.lay f3
        have e5 : (upd H4 l3 (.lst (nums [c.getD 0 0] ++ nums (c.drop 1).reverse))) l3 = some (.lst (nums ([c.getD 0 0] ++ (c.drop 1).reverse))) := by rw [upd_same, ← nums_app]
        generalize upd H4 l3 (.lst (nums [c.getD 0 0] ++ nums (c.drop 1).reverse)) = H5 at S5 e5 ⊢
        have S05 : Same H H5 := S2.trans (S3.trans (S4.trans S5))
        refine ⟨_, rfl, t, nums c, 0, _, rfl, rfl, (ht.same S05).sq, atI_nat (j := 0) h0, by show 1 ≤ sizeLine; decide, fun l4 f4 => ?_⟩
        have S6 : Same H5 (upd H5 l4 (.lst [V.int ((c.getD 0 0 : Nat) : Int)])) := Same.lay f4
        have e6 : (upd H5 l4 (.lst [V.int ((c.getD 0 0 : Nat) : Int)])) l4 = some (.lst (nums [c.getD 0 0])) := upd_same
        generalize upd H5 l4 (.lst [V.int ((c.getD 0 0 : Nat) : Int)]) = H6 at S6 e6 ⊢
        refine ⟨l3, l4, _, _, rfl, rfl, S6 _ _ e5, e6, ?_, fun l5 f5 => ?_⟩
        · rw [List.length_map, List.length_map, List.length_append, List.length_reverse, List.length_drop]
          exact Nat.le_of_lt (small1000 (by show 1 + (c.length - 1) + 1 ≤ 1000; omega))
        · refine k _ l5 (Same.upd (S05.trans S6) ((S05.trans S6).free f5)) ((S05.trans S6).free f5) ?_
          rw [upd_same, ← nums_app]
          unfold turned
          rw [ej]
end
end K95P
end

section
set_option Elab.async false
set_option linter.all false
set_option maxRecDepth 100000
set_option maxHeartbeats 4000000
/-! K95P5: least_swaps. -/
namespace K95P
open PySem PyProof.Rows L2 K95R K95H K95
/-! ### lengths -/
theorem cyc_ge {p q : List Nat} {c : Nat} : ∀ {k later : Nat} {found res : List Nat}, cyc p q c k found later = some res → found.length ≤ res.length
  | 0, later, found, res, h => by cases h
  | k + 1, later, found, res, h => by
    unfold cyc at h
    by_cases e : later = c
    · rw [if_pos e] at h
      cases h
      exact Nat.le_refl _
    · rw [if_neg e] at h
      cases ek : idx p (q.getD later 0) c with
      | none => rw [ek] at h; cases h
      | some m =>
        rw [ek] at h
        have := cyc_ge h
        rw [List.length_append] at this
        omega
theorem cycle_ge {p q : List Nat} {c : Nat} {res : List Nat} (h : cycleFrom p q c = some res) : 1 ≤ res.length := by
  unfold cycleFrom at h
  cases e : idx p (q.getD c 0) c with
  | none => rw [e] at h; cases h
  | some j =>
    rw [e] at h
    have := cyc_ge h
    exact this
def Short (c : List Nat) : Prop := 1 ≤ c.length ∧ c.length ≤ 11
theorem runC_short {p q : List Nat} : ∀ {cells : List Nat} {acc cs : List (List Nat)}, runC p q cells acc = some cs → (∀ c ∈ acc, Short c) → (∀ c ∈ cs, Short c) ∧ cs.length ≤ acc.length + cells.length
  | [], acc, cs, h, ha => by
    cases h
    exact ⟨ha, Nat.le_refl _⟩
  | x :: cells, acc, cs, h, ha => by
    unfold runC at h
    unfold cycStep at h
    by_cases g : p.getD x 0 ≠ q.getD x 0 ∧ x ∉ acc.flatten
    · rw [if_pos g] at h
      cases ec : cycleFrom p q x with
      | none => rw [ec] at h; cases h
      | some res =>
        rw [ec] at h
        have h : runC p q cells (acc ++ [res]) = some cs := h
        have := runC_short h (fun c hc => by
          rcases List.mem_append.mp hc with hc | hc
          · exact ha c hc
          · rw [List.mem_singleton.mp hc]
            exact ⟨cycle_ge ec, cycle_len ec⟩)
        refine ⟨this.1, ?_⟩
        have h2 := this.2
        rw [List.length_append] at h2
        have : ([res] : List (List Nat)).length = 1 := rfl
        rw [List.length_cons]
        omega
    · rw [if_neg g] at h
      have := runC_short h ha
      refine ⟨this.1, ?_⟩
      rw [List.length_cons]
      omega
theorem cyclesM_short {p q : List Nat} {r : Nat} {cs : List (List Nat)} (h : cyclesM p q r = some (some cs)) : (∀ c ∈ cs, Short c) ∧ cs.length ≤ 40 := by
  unfold cyclesM at h
  cases e : pairM p q (p.length - (r + 1)) with
  | none => rw [e] at h; cases h
  | some b =>
    obtain ⟨⟨_, _, _, _, _, c6⟩, _⟩ := pairM_some e
    rw [e] at h
    cases b with
    | false => cases h
    | true =>
      cases er : runC p q (K95.cellsFrom (p.length - (r + 1)) p.length) [] with
      | none => rw [er] at h; cases h
      | some cs' =>
        rw [er] at h
        cases h
        have := runC_short er (fun c hc => nomatch hc)
        refine ⟨this.1, ?_⟩
        have h2 := this.2
        have : (K95.cellsFrom (p.length - (r + 1)) p.length).length = p.length - (p.length - (r + 1)) := by simp [K95.cellsFrom]
        rw [this] at h2
        have : ([] : List (List Nat)).length = 0 := rfl
        omega
theorem turned_len {c : List Nat} {t : Nat} : (turned c t).length ≤ c.length + 2 := by
  unfold turned
  cases e : idx c t 0 with
  | some j =>
    show (c.drop (j + 1) ++ c.take j).reverse.length ≤ _
    rw [List.length_reverse, List.length_append, List.length_drop, List.length_take]
    omega
  | none =>
    show ([c.getD 0 0] ++ (c.drop 1).reverse ++ [c.getD 0 0]).length ≤ _
    rw [List.length_append, List.length_append, List.length_reverse, List.length_drop]
    show 1 + (c.length - 1) + 1 ≤ _
    omega
theorem cells_len {t : Nat} : ∀ {cs : List (List Nat)}, (∀ c ∈ cs, Short c) → (cellsOf cs t).length ≤ 13 * cs.length
  | [], _ => Nat.zero_le _
  | c :: cs, h => by
    show (turned c t ++ cellsOf cs t).length ≤ _
    rw [List.length_append, List.length_cons]
    have h1 := turned_len (c := c) (t := t)
    have h2 := h c (List.mem_cons_self ..)
    have h3 := cells_len (t := t) (cs := cs) fun d hd => h d (List.mem_cons_of_mem _ hd)
    have := h2.2
    omega
theorem cells_snoc {cs : List (List Nat)} {c : List Nat} {t : Nat} : cellsOf (cs ++ [c]) t = cellsOf cs t ++ turned c t := by
  show (cs ++ [c]).flatMap _ = _
  rw [List.flatMap_append]
  show _ ++ (turned c t ++ []) = _
  rw [List.append_nil]
  rfl
/-! ### a walk by turns, whatever a turn does: the outer and the inner for of a comprehension of two -/
theorem turns {J : It} {N : Nat} {G : Hp → Prop} {Y : Nat → Hp → V → Hp → Prop} {Step : (Hp → Prop) → V → Hp → Prop} {End : Hp → Prop} {Hs : Hp} (wk : Walk J N G Y) (Iv : Nat → Hp → Prop) (start : Iv 0 Hs) (stay : ∀ k Hk, k ≤ N → Iv k Hk → G Hk)
    (turn : ∀ k x Hk Hx, k < N → Iv k Hk → Y k Hk x Hx → Step (Iv (k + 1)) x Hx) (fin : ∀ Hk, Iv N Hk → End Hk) :
    ∃ W : Nat → Nat → Hp → Prop, (∃ m, W 0 m Hs) ∧ ∀ k m Hk, W k m Hk → (J.stop k Hk ∧ End Hk) ∨ (J.go k Hk ∧ ∃ Nx : Hp → Prop, (∀ Hn, Nx Hn → ∃ m2, m2 < m ∧ W (k + 1) m2 Hn) ∧ ∀ x Hx, J.yld k Hk x Hx → Step Nx x Hx) := by
  refine ⟨fun k m Hk => k + m = N ∧ Iv k Hk, ⟨N, Nat.zero_add N, start⟩, fun k m Hk hW => ?_⟩
  have ok := stay k Hk (by omega) hW.2
  cases m with
  | zero =>
    obtain ⟨ek, iv⟩ := hW
    have ek : k = N := ek
    subst ek
    exact .inl ⟨wk.stops Hk ok, fin Hk iv⟩
  | succ m =>
    have hk : k < N := by have := hW.1; omega
    exact .inr ⟨wk.goes k Hk hk ok, Iv (k + 1), fun Hn hn => ⟨m, Nat.lt_succ_self m, by have := hW.1; omega, hn⟩, fun x Hx y => turn k x Hk Hx hk hW.2 (wk.yields k Hk x Hx hk ok y)⟩
section
variable {P : Program} {w : World} {K : PySem.W.Frag} {mg : Str → Option Value} {base : Heap}
/-- the shuffle's tuples -/
abbrev DeedsAt (K : PySem.W.Frag) (H : Hp) (t : Nat) : List Addr → List Nat → Prop := Paired fun a c => SqT K H a [V.str "swap", V.int ((t : Int) - (c : Int))]
theorem DeedsAt.same {H H' : Hp} {t : Nat} {as : List Addr} {cs : List Nat} (c : DeedsAt K H t as cs) (s : Same H H') : DeedsAt K H' t as cs := Paired.mapP c fun _ _ t => Same.sqT s t
def spLeast (K : PySem.W.Frag) : Sp := fun vs H Q _ => ∃ (s t : Addr) (f : Nat → Str) (p q : List Nat) (r : Nat) (ans : Option (Int × List Nat)), vs = [.ref s, .ref t, .int (r : Int)] ∧ TupN H s (enc f p) ∧ SqT K H t (enc f q) ∧ Inj f p.length ∧ FineF f p.length ∧ 1 ≤ p.length ∧
  leastM p q r = some ans ∧ match ans with
    | none => ∀ H', Same H H' → Q .non H'
    | some (x, cells) => ∀ H' a b as, Same H H' → H' a = some (.tup [.int x, .ref b]) → SqT K H' b (as.map V.ref) → DeedsAt K H' (p.length - 1) as cells → Q (.ref a) H'
theorem scLeast : FnScope ["stack", "target", "reach", "cycles", "top", "cells", "cycle", "cell"] ["stack", "target", "reach"] (defScope sLeast) := ⟨rfl, rfl, rfl, by decide +kernel, rfl, by decide +kernel, by decide +kernel⟩
abbrev KwR (K : PySem.W.Frag) (d : FuncData) : Prop := KBn K d ["stack", "target", "reach"] 2 ["reach"] (fun us ws => us ++ ws) (fun vs zs => vs ++ zs)
theorem ok_least {f g1 g2 g3 : Addr} {fd d1 d2 d3 : FuncData} {tk : Tok} (F : Fun K "least_swaps" "least_swaps" sLeast f fd) (T : Bi mg) (mS : mg "SWAP" = some (.str "swap" tk))
    (G1 : FnOk P w K mg base CX0 3 g1 d1 ["stack", "target", "reach"] (spCycs K)) (k1 : PySem.W.keepIn K (.ref g1) = true) (m1 : mg "cycles_of" = some (.ref g1)) (b1 : KwR K d1)
    (G2 : FnOk P w K mg base CX0 1 g2 d2 ["cycles", "top"] (spFor K)) (k2 : PySem.W.keepIn K (.ref g2) = true) (m2 : mg "swaps_for" = some (.ref g2)) (b2 : Binds K d2 ["cycles", "top"] [])
    (G3 : FnOk P w K mg base CX0 1 g3 d3 ["cycle", "top"] (spTurn K)) (k3 : PySem.W.keepIn K (.ref g3) = true) (m3 : mg "turned" = some (.ref g3)) (b3 : Binds K d3 ["cycle", "top"] []) :
    FnOk P w K mg base CX0 4 f fd ["stack", "target", "reach"] (spLeast K) := by
  refine F.ok scLeast (fun vs H Q E h => ?_) (fun cdv A outer s H vs Q E hr h => ?_)
  · obtain ⟨a, b, g, p, q, r, ans, rfl, _⟩ := h
    rfl
  · obtain ⟨a, b, g, p, q, r, ans, rfl, hs, ht, inj, ff, hp1, hans, k⟩ := h
    have hr1 : Room 1 _ := hr.mono (by decide)
    refine ⟨_, pss_cons (ps_set (i := 3) scLeast.nd rfl (Or.inl rfl) (pe_callN G1 hr rfl m1 k1 b1 pass0 (pa_cons (pv 0) (pa_cons (pv 1) pa_nil)) (pk_cons (pv 2) pk_nil)))
      (pss_cons (ps_if (pt_cmp (pc_isN (pv 3))) (pss_one (ps_ret pe_non)) pss_nil)
      (pss_cons (ps_set (i := 4) scLeast.nd rfl (Or.inr rfl) (pe_op op_sub (pe_callB call_len_seq (by rfl) T.len PySem.boot_len (pa_cons (pv 0) pa_nil)) pe_int))
      (pss_cons (ps_setLc2 (i := 5) (own := [("cycle", 6), ("cell", 7)]) (vs1 := [7]) (g := gName 6) (g1 := gName 7) (tt := tYes) (tt1 := tYes) (te := tVar 7) (wi1 := iList K (tCall (spTurn K) [] E0 (tCons (tVar 6) (tCons (tVar 4) tNil)))) rfl scLeast.nd rfl rfl (sw_true rfl rfl rfl (by decide +kernel)) (pi_tup (pv 3))
          (blkOk_by (N := ["stack", "target", "reach", "cycles", "top", "cells", "cycle", "cell"]) (sc := defScope sLeast) (by decide +kernel)) (by decide) (fun _ _ _ _ _ => pg_name (i := 6) scLeast.nd rfl (Or.inl rfl)) (fun _ _ _ _ _ => pts_nil)
          (fun _ _ _ _ _ => pi_list (pe_call G3 hr1 rfl m3 k3 b3 .nil pass0 (pa_cons (pv 6) (pa_cons (pv 4) pa_nil)))) (fun _ _ _ _ _ => pg_name (i := 7) scLeast.nd rfl (Or.inl rfl)) (fun _ _ _ _ _ => pts_nil) (fun _ _ _ _ _ => pv 7))
      (pss_one (ps_ret (pe_tup (pa_cons (pe_call G2 hr1 rfl m2 k2 b2 .nil pass0 (pa_cons (pv 3) (pa_cons (pv 4) pa_nil)))
        (pa_cons (pe_callTy call_tuple_of (by rfl) T.tuple (by decide +kernel) (pa_cons (pe_lc (own := [("cell", 7)]) (g := gName 7) (tt := tYes) (te := tTup (tCons (tC (.str "swap")) (tCons (tOp (rI0 fun i j => .int (i - j)) (tVar 4) (tVar 7)) tNil))) rfl scLeast.nd (pi_list (pv 5))
          (blkOk_by (N := ["stack", "target", "reach", "cycles", "top", "cells", "cycle", "cell"]) (sc := defScope sLeast) (by decide +kernel)) (fun _ _ _ _ _ => pg_name (i := 7) scLeast.nd rfl (Or.inl rfl)) (fun _ _ _ _ _ => pts_nil)
          (fun _ _ _ _ _ => pe_tup (pa_cons (pe_glob rfl mS ⟨_, rfl⟩) (pa_cons (pe_op op_sub (pv 4) (pv 7)) pa_nil)))) pa_nil)) pa_nil)))))))), ?_⟩
    have hlp : (enc g p).length = p.length := List.length_map ..
    unfold leastM at hans
    cases hcm : cyclesM p q r with
    | none => rw [hcm] at hans; cases hans
    | some cc =>
      rw [hcm] at hans
      refine ⟨_, rfl, _, rfl, _, rfl, rfl, rfl, ?_⟩
      refine ⟨a, b, g, p, q, r, cc, rfl, hs, ht, inj, ff, hcm, ?_⟩
      cases cc with
      | none =>
        cases hans
        exact fun H1 S1 => ⟨_, rfl, _, rfl, iteT (k H1 S1)⟩
      | some cs =>
        cases hans
        obtain ⟨hsh, hcl⟩ := cyclesM_short hcm
        intro H1 ca as S1 sq1 cat1
        have hal : as.length = cs.length := Paired.length cat1
        refine ⟨_, rfl, _, rfl, iteF ?_⟩
        -- top = len(stack) - 1
        refine ⟨_, rfl, a, _, rfl, .inr (hs.same S1).sq, _, _, rfl, rfl, ?_⟩
        have et : (((enc g p).length : Nat) : Int) - 1 = ((p.length - 1 : Nat) : Int) := by rw [hlp]; omega
        dsimp only [gName]
        rw [et]
        generalize ht0 : p.length - 1 = tp at k ⊢
        -- cells = [cell for cycle in cycles for cell in turned(cycle, top)]
        refine ⟨_, rfl, ca, rfl, ⟨_, sq1⟩, fun D hD => ?_⟩
        refine turns (walk_tup (xs := as.map V.ref)) (fun i H' => Same H1 H' ∧ H' D = some (.lst (nums (cellsOf (cs.take i) tp)))) ⟨Same.lay hD, upd_same⟩ (fun i H' _ h => Same.sqT h.1 sq1) (fun i x H' Hx _ h hy => ?_) (fun H2 h => ?_)
        · obtain ⟨S2, e2⟩ := h
          obtain ⟨rfl, hx⟩ := hy
          obtain ⟨c, hc, rfl⟩ := ref_at hx
          obtain ⟨cy, hcy, tc⟩ := CycsAt.get cat1 hc
          have hi : i < cs.length := (List.getElem?_eq_some_iff.mp hcy).1
          have hsc := hsh cy (List.mem_of_getElem? hcy)
          refine ⟨rfl, ?_⟩
          dsimp only [tYes]
          refine iteT ?_
          refine ⟨_, rfl, _, rfl, c, cy, tp, rfl, tc.same S2, hsc.1, by have := hsc.2; omega, fun H3 l S3 hl el => ?_⟩
          have nlD : l ≠ D := fun e => by subst e; rw [hl] at e2; cases e2
          refine ⟨l, rfl, ⟨_, SqL.of el⟩, ?_⟩
          refine turns (walk_list (xs := nums (turned cy tp))) (fun j H' => Same H1 H' ∧ H' l = some (.lst (nums (turned cy tp))) ∧ H' D = some (.lst (nums (cellsOf (cs.take i) tp ++ (turned cy tp).take j)))) ⟨S2.trans S3, el, by rw [S3 _ _ e2, List.take_zero, List.append_nil]⟩ (fun j H' _ h => SqL.of h.2.1) (fun j x H' Hx _ h hy => ?_) (fun H' h => ?_)
          · obtain ⟨S4, e4, e5⟩ := h
            obtain ⟨rfl, hx⟩ := hy
            refine ⟨rfl, ?_⟩
            refine iteT ?_
            refine ⟨_, rfl, _, e5, ?_, Same.upd S4 hD, ?_, ?_⟩
            · rw [List.length_map, List.length_append, List.length_take]
              have h1 := cells_len (t := tp) (cs := cs.take i) fun d hd => hsh d (List.mem_of_mem_take hd)
              rw [List.length_take] at h1
              have h2 := turned_len (c := cy) (t := tp)
              have := hsc.2
              exact small1000 (by omega)
            · rw [upd_ne nlD]
              exact e4
            · rw [upd_same]
              have hx2 : ∃ y, (turned cy tp)[j]? = some y ∧ x = V.int ((y : Nat) : Int) := by
                rw [List.getElem?_map] at hx
                cases e : (turned cy tp)[j]? with
                | none => rw [e] at hx; cases hx
                | some y => rw [e] at hx; exact ⟨y, rfl, (Option.some.inj hx).symm⟩
              obtain ⟨y, hy, rfl⟩ := hx2
              rw [take_snoc hy, ← List.append_assoc, nums_app _ [y]]
              rfl
          · obtain ⟨S4, e4, e5⟩ := h
            refine ⟨S4, ?_⟩
            rw [e5, List.length_map, List.take_length, take_snoc hcy, cells_snoc]
        · obtain ⟨S2, e2⟩ := h
          rw [List.length_map, hal, List.take_length] at e2
          have S02 : Same H H2 := S1.trans S2
          have hcells := cells_len (t := tp) hsh
          -- swaps_for(cycles, top)
          refine ⟨_, rfl, _, rfl, ca, as, cs, tp, rfl, Same.sqT S2 sq1, CycsAt.same cat1 S2, by omega, fun H3 S3 => ?_⟩
          have e3 := S3 _ _ e2
          -- [(SWAP, top - cell) for cell in cells]
          refine ⟨_, rfl, D, rfl, ⟨_, SqL.of e3⟩, fun D2 hD2 => ?_⟩
          refine lc_list (xs := nums (cellsOf cs tp)) (fun i H' => ∃ ps : List Addr, Same H3 H' ∧ ps.length = i ∧ H' D2 = some (.lst (ps.map V.ref)) ∧ DeedsAt K H' tp ps ((cellsOf cs tp).take i)) ⟨[], Same.lay hD2, rfl, upd_same, .nil⟩ (fun i H' _ h => ?_) (fun i x H' hx h => ?_) (fun H4 h => ?_)
          · obtain ⟨ps, S4, _⟩ := h
            exact SqL.of (S4 _ _ e3)
          · obtain ⟨ps, S4, hpl, e4, dp⟩ := h
            have hx2 : ∃ y, (cellsOf cs tp)[i]? = some y ∧ x = V.int ((y : Nat) : Int) := by
              rw [List.getElem?_map] at hx
              cases e : (cellsOf cs tp)[i]? with
              | none => rw [e] at hx; cases hx
              | some y => rw [e] at hx; exact ⟨y, rfl, (Option.some.inj hx).symm⟩
            obtain ⟨y, hy, rfl⟩ := hx2
            have hil : i < (cellsOf cs tp).length := (List.getElem?_eq_some_iff.mp hy).1
            refine ⟨rfl, ?_⟩
            dsimp only [tYes]
            refine iteT ?_
            refine ⟨_, rfl, _, rfl, _, _, rfl, rfl, by show 2 ≤ sizeLine; decide, fun p7 hp7 => ⟨ps.map V.ref, ?_, by rw [List.length_map]; exact small1000 (by omega), ?_⟩⟩
            · rw [upd_ne (fun c => by subst c; rw [e4] at hp7; cases hp7)]
              exact e4
            · have S7 : Same H' (upd H' p7 (.tup [V.str "swap", V.int ((tp : Int) - (y : Int))])) := Same.lay hp7
              have e7 := S7 _ _ e4
              refine ⟨ps ++ [p7], Same.upd (S4.trans S7) hD2, by rw [List.length_append, hpl]; rfl, by rw [upd_same, List.map_append]; rfl, ?_⟩
              rw [take_snoc hy]
              refine paired_snoc (Paired.mapP dp fun _ _ t => SqT.wr (Same.sqT S7 t) e7) ?_
              exact SqT.wr (.inl (.inl upd_same)) e7
          · obtain ⟨ps, S4, hpl, e4, dp⟩ := h
            rw [List.length_map, List.take_length] at dp
            -- tuple(..), the pair
            refine ⟨D2, _, rfl, .inl ⟨SqL.of e4, fun p5 h5 => ?_⟩⟩
            have S5 : Same H4 (upd H4 p5 (.tup (ps.map V.ref))) := Same.lay h5
            have e5 : SqT K (upd H4 p5 (.tup (ps.map V.ref))) p5 (ps.map V.ref) := .inl (.inl upd_same)
            generalize upd H4 p5 (.tup (ps.map V.ref)) = H5 at S5 e5 ⊢
            refine ⟨by show 2 ≤ sizeLine; decide, fun p6 h6 => ?_⟩
            have S6 : Same H5 (upd H5 p6 (.tup [V.int (swapsFor cs tp), V.ref p5])) := Same.lay h6
            exact k _ p6 p5 ps (S02.trans (S3.trans (S4.trans (S5.trans S6)))) upd_same (Same.sqT S6 e5) (DeedsAt.same (DeedsAt.same dp S5) S6)
end
end K95P
end

section
set_option Elab.async false
set_option linter.all false
set_option maxRecDepth 100000
set_option maxHeartbeats 4000000
/-! K95L1: _law_pen, _law_pick. -/
namespace K95P
open PySem PyProof.Rows L2 K95R K95H K95
/-- the pen at P, with at most n cells begun -/
def PenOk (H : Hp) (P c : Addr) (ns : List Int) (n : Nat) : Prop := ∃ (i : Nat) (rest : Int), H P = some (.lst [V.ref c, V.int (i : Int), V.int rest]) ∧ H c = some (.lst (ns.map V.int)) ∧ c ≠ P ∧ ns.length ≤ 63 ∧ 0 ≤ rest ∧ i ≤ n
/-- nothing but P is written -/
def Others (P : Addr) (H H' : Hp) : Prop := ∀ b u, b ≠ P → H b = some u → H' b = some u
theorem Others.upd {P : Addr} {H H' : Hp} {o : HO} (h : Others P H H') : Others P H (L2.upd H' P o) := fun b u hb e => by rw [upd_ne hb]; exact h b u hb e
theorem Others.refl {P : Addr} {H : Hp} : Others P H H := fun _ _ _ e => e
theorem Others.andS {P : Addr} {H H' H2 : Hp} (h : Others P H H') (s : Same H' H2) : Others P H H2 := fun b u hb e => s _ _ (h b u hb e)
theorem pick_b1 (z : Int) (i : Nat) (hi : i ≤ 1000) : (z % 2147483587 + 44027 * (i : Int) * (i : Int) + 27011 * (i : Int) + 83).natAbs < 2 ^ 64 := by
  have h1 := Int.emod_nonneg z (b := 2147483587) (by decide)
  have h2 := Int.emod_lt_of_pos z (b := 2147483587) (by decide)
  have h3 : i * i ≤ 1000 * 1000 := Nat.mul_le_mul hi hi
  have h4 : (i : Int) * (i : Int) = ((i * i : Nat) : Int) := rfl
  rw [Int.mul_assoc, h4]
  generalize i * i = j at h3
  have : (2 : Nat) ^ 64 = 18446744073709551616 := by decide
  rw [this]
  omega
theorem pick_b2 (x : Int) (i : Nat) (h0 : 0 ≤ x) (h1 : x < 2147483629) (hi : i ≤ 1000) : (x * (2 * (i : Int) + 37) + 60013).natAbs < 2 ^ 64 := by
  have h2 : x * (2 * (i : Int) + 37) ≤ 2147483629 * 2037 := Int.mul_le_mul (by omega) (by omega) (by omega) (by decide)
  have h3 : 0 ≤ x * (2 * (i : Int) + 37) := Int.mul_nonneg h0 (by omega)
  generalize x * (2 * (i : Int) + 37) = y at h2 h3
  have : (2 : Nat) ^ 64 = 18446744073709551616 := by decide
  rw [this]
  omega
section
variable {P : Program} {w : World} {K : PySem.W.Frag} {mg : Str → Option Value} {base : Heap}
/-! ### _law_pen -/
def spPen (K : PySem.W.Frag) : Sp := fun vs H Q _ => ∃ (s : Addr) (ns : List Int), vs = [.ref s] ∧ SqL K H s (ns.map V.int) ∧ ∀ H' p c ns', Same H H' → H p = none → H c = none → PenOk H' p c ns' 0 → Q (.ref p) H'
theorem scPen : FnScope ["_law_script"] ["_law_script"] (defScope sPen) := ⟨rfl, rfl, rfl, by decide +kernel, rfl, by decide +kernel, by decide +kernel⟩
theorem ok_pen {f : Addr} {fd : FuncData} (F : Fun K "_law_pen" "_law_pen" sPen f fd) (T : Bi mg) : FnOk P w K mg base CX0 1 f fd ["_law_script"] (spPen K) := by
  refine F.ok scPen (fun vs H Q E h => ?_) (fun cdv A outer s H vs Q E hr h => ?_)
  · obtain ⟨a, ns, rfl, _⟩ := h
    rfl
  · obtain ⟨a, ns, rfl, hs, k⟩ := h
    refine ⟨_, pss_one (ps_ret (pe_lst (pa_cons (pe_callTy call_list_of (by rfl) T.list (by decide +kernel) (pa_cons (pe_slice sl_list (pv 0) po_none (po_some pe_int)) pa_nil)) (pa_cons pe_int (pa_cons pe_int pa_nil))))), ?_⟩
    refine ⟨_, rfl, ?_⟩
    dsimp only [tNoPart]
    refine ⟨_, rfl, a, _, rfl, hs, fun p1 h1 => ?_⟩
    have e0 : cutV (ns.map V.int) none (some 63) = (ns.take 63).map V.int := by
      rw [show (63 : Int) = ((63 : Nat) : Int) from rfl, cut_to, List.map_take]
    rw [e0]
    have S1 : Same H (upd H p1 (.lst ((ns.take 63).map V.int))) := Same.lay h1
    have e1 : (upd H p1 (.lst ((ns.take 63).map V.int))) p1 = some (.lst ((ns.take 63).map V.int)) := upd_same
    generalize upd H p1 (.lst ((ns.take 63).map V.int)) = H1 at S1 e1 ⊢
    refine ⟨p1, _, rfl, .inl (SqL.of e1), fun p2 h2 => ?_⟩
    have S2 : Same H1 (upd H1 p2 (.lst ((ns.take 63).map V.int))) := Same.lay h2
    have e2 : (upd H1 p2 (.lst ((ns.take 63).map V.int))) p2 = some (.lst ((ns.take 63).map V.int)) := upd_same
    generalize upd H1 p2 (.lst ((ns.take 63).map V.int)) = H2 at S2 e2 ⊢
    refine ⟨by show 3 ≤ sizeLine; decide, fun p3 h3 => ?_⟩
    have S3 : Same H2 (upd H2 p3 (.lst [V.ref p2, V.int 0, V.int 0])) := Same.lay h3
    have ne : p2 ≠ p3 := fun c => by subst c; rw [h3] at e2; cases e2
    refine k _ p3 p2 (ns.take 63) ((S1.trans S2).trans S3) ((S1.trans S2).free h3) (S1.free h2) ⟨0, 0, upd_same, S3 _ _ e2, ne, ?_, Int.le_refl _, Nat.le_refl _⟩
    rw [List.length_take]
    omega
/-! ### _law_pick -/
def spPick : Sp := fun vs H Q _ => ∃ (p c : Addr) (ns : List Int) (u n : Nat), vs = [.ref p, .int (u : Int)] ∧ 1 ≤ u ∧ u ≤ 1000 ∧ PenOk H p c ns n ∧ n ≤ 1000 ∧ ∀ H' (r : Nat), r < u → Others p H H' → PenOk H' p c ns (n + 1) → Q (.int (r : Int)) H'
theorem scPick : FnScope ["_law_pen_here", "_law_upto", "_law_digit", "_law_at", "_law_cell", "_law_great", "_law_first", "_law_second"] ["_law_pen_here", "_law_upto"] (defScope sPick) := ⟨rfl, rfl, rfl, by decide +kernel, rfl, by decide +kernel, by decide +kernel⟩
theorem ok_pick {f : Addr} {fd : FuncData} (F : Fun K "_law_pick" "_law_pick" sPick f fd) (T : Bi mg) : FnOk P w K mg base CX0 1 f fd ["_law_pen_here", "_law_upto"] spPick := by
  refine F.ok scPick (fun vs H Q E h => ?_) (fun cdv A outer s H vs Q E hr h => ?_)
  · obtain ⟨p, c, ns, u, n, rfl, _⟩ := h
    rfl
  · obtain ⟨p, c, ns, u, n, rfl, hu1, hu2, ⟨i, rest, ep, ec, hcp, hns, hrest, hin⟩, hn, k⟩ := h
    refine ⟨_, pss_cons (ps_if (pt_cmp (pc_gt (pe_ix ix_list (pv 0) pe_int (fun _ _ => rfl)) pe_int))
        (pss_cons (ps_set (i := 2) scPick.nd rfl (Or.inl rfl) (pe_op op_mod (pe_ix ix_list (pv 0) pe_int (fun _ _ => rfl)) (pv 1)))
        (pss_cons (ps_asg (pe_op op_fdivW (pe_ix ix_list (pv 0) pe_int (fun _ _ => rfl)) (pv 1)) (pg_sub (pv 0) pe_int set_list))
        (pss_one (ps_ret (pv 2))))) pss_nil)
      (pss_cons (ps_set (i := 3) scPick.nd rfl (Or.inl rfl) (pe_ix ix_list (pv 0) pe_int (fun _ _ => rfl)))
      (pss_cons (ps_asg (pe_op op_add (pv 3) pe_int) (pg_sub (pv 0) pe_int set_list))
      (pss_cons (ps_set (i := 4) scPick.nd rfl (Or.inl rfl) (pe_op op_add (pe_op op_mul pe_int (pv 3)) pe_int))
      (pss_cons (ps_if (pt_cmpR (op_neD hr.units) (pe_ix ix_list (pv 0) pe_int (fun _ _ => rfl)) (pe_lst pa_nil) (nomark _))
        (pss_one (ps_set (i := 4) scPick.nd rfl (Or.inl rfl) (pe_ix ix_list (pe_ix ix_list (pv 0) pe_int (fun _ _ => rfl)) (pe_op op_mod (pv 3) (pe_callB call_len_seq (by rfl) T.len PySem.boot_len (pa_cons (pe_ix ix_list (pv 0) pe_int (fun _ _ => rfl)) pa_nil))) (fun _ _ => rfl)))) pss_nil)
      (pss_cons (ps_if (PW.pt (pw_and (pt_cmp (pc_lt (pv 3) (pe_callB call_len_seq (by rfl) T.len PySem.boot_len (pa_cons (pe_ix ix_list (pv 0) pe_int (fun _ _ => rfl)) pa_nil))))
          (pw_and1 (pt_cmp (pc_ge (pe_callB call_abs (by rfl) T.abs (by decide +kernel) (pa_cons (pv 4) pa_nil)) (pe_op op_pow pe_int pe_int))))))
        (pss_cons (ps_set (i := 5) scPick.nd rfl (Or.inl rfl) (pe_op op_add (pe_op op_mul pe_int (pe_op op_sub (pe_callB call_abs (by rfl) T.abs (by decide +kernel) (pa_cons (pv 4) pa_nil)) (pe_op op_pow pe_int pe_int))) (pe_callTy call_int1 (by rfl) T.int (by decide +kernel) (pa_cons (pe_cmp (pc_lt (pv 4) pe_int)) pa_nil))))
        (pss_cons (ps_asg (pe_op op_fdivW (pv 5) (pv 1)) (pg_sub (pv 0) pe_int set_list))
        (pss_one (ps_ret (pe_op op_mod (pv 5) (pv 1)))))) pss_nil)
      (pss_cons (ps_set (i := 6) scPick.nd rfl (Or.inl rfl) (pe_op op_mod (pe_op op_pow (pe_op op_add (pe_op op_add (pe_op op_add (pe_op op_mod (pv 4) pe_int) (pe_op op_mul (pe_op op_mul pe_int (pv 3)) (pv 3))) (pe_op op_mul pe_int (pv 3))) pe_int) pe_int) pe_int))
      (pss_cons (ps_set (i := 7) scPick.nd rfl (Or.inl rfl) (pe_op op_mod (pe_op op_pow (pe_op op_add (pe_op op_mul (pv 6) (pe_op op_add (pe_op op_mul pe_int (pv 3)) pe_int)) pe_int) pe_int) pe_int))
      (pss_one (ps_ret (pe_op op_mod (pe_op op_fdiv (pv 7) pe_int) (pv 1))))))))))), ?_⟩
    have hu0 : (0 : Int) < (u : Int) := by omega
    have hlog : ((u : Int).natAbs).log2 < 9000 := by
      show u.log2 < 9000
      exact Nat.lt_of_le_of_lt (Nat.log2_le_self u) (by omega)
    have fin : ∀ (H' : Hp) (x : Int), Others p H H' → PenOk H' p c ns (n + 1) → Q (.int (x % (u : Int))) H' := fun H' x o pk => by
      have h1 := Int.emod_nonneg x (b := (u : Int)) (by omega)
      have h2 := Int.emod_lt_of_pos x hu0
      have e : x % (u : Int) = (((x % (u : Int)).toNat : Nat) : Int) := by omega
      rw [e]
      exact k H' _ (by omega) o pk
    -- if pen[2] > 0
    refine ⟨_, rfl, p, _, 2, V.int rest, rfl, rfl, SqL.of ep, rfl, _, _, rfl, rfl, _, rfl, ite2 (fun _ => ?_) (fun _ => ?_)⟩
    · refine ⟨_, rfl, p, _, 2, V.int rest, rfl, rfl, SqL.of ep, rfl, _, rfl, _, _, rfl, rfl, hu0, ?_⟩
      refine ⟨_, rfl, p, _, 2, V.int rest, rfl, rfl, SqL.of ep, rfl, _, rfl, _, _, rfl, rfl, ⟨hu0, hlog⟩, _, rfl, p, _, 2, 2, rfl, rfl, ep, rfl, ?_⟩
      refine ⟨_, rfl, fin _ rest (Others.upd Others.refl) ⟨i, rest / (u : Int), upd_same, by rw [upd_ne hcp]; exact ec, hcp, hns, Int.ediv_nonneg hrest (by omega), by omega⟩⟩
    · -- at = pen[1]; pen[1] = at + 1
      refine ⟨_, rfl, p, _, 1, V.int (i : Int), rfl, rfl, SqL.of ep, rfl, ?_⟩
      refine ⟨_, rfl, _, _, rfl, rfl, _, rfl, p, _, 1, 1, rfl, rfl, ep, rfl, ?_⟩
      have o1 : Others p H (upd H p (.lst [V.ref c, V.int ((i : Int) + 1), V.int rest])) := Others.upd Others.refl
      have p1 : (upd H p (.lst [V.ref c, V.int ((i : Int) + 1), V.int rest])) p = some (.lst [V.ref c, V.int ((i : Int) + 1), V.int rest]) := upd_same
      have c1 : (upd H p (.lst [V.ref c, V.int ((i : Int) + 1), V.int rest])) c = some (.lst (ns.map V.int)) := by rw [upd_ne hcp]; exact ec
      show tSeq _ _ _ _ (upd H p (.lst [V.ref c, V.int ((i : Int) + 1), V.int rest]))
      generalize upd H p (.lst [V.ref c, V.int ((i : Int) + 1), V.int rest]) = H1 at o1 p1 c1 ⊢
      -- cell = 9601 * at + 113
      refine ⟨_, rfl, _, _, rfl, rfl, .inl ⟨by decide, by decide⟩, _, _, rfl, rfl, ?_⟩
      -- if pen[0] != []
      refine ⟨_, rfl, p, _, 0, V.ref c, rfl, rfl, SqL.of p1, rfl, Nat.zero_le _, fun l hl => ?_⟩
      have S2 : Same H1 (upd H1 l (.lst [])) := Same.lay hl
      have l2 : (upd H1 l (.lst [])) l = some (.lst []) := upd_same
      generalize upd H1 l (.lst []) = H2 at S2 l2 ⊢
      have o2 := o1.andS S2
      have p2 := S2 _ _ p1
      have c2 := S2 _ _ c1
      refine ⟨_, .list [], .lst (SqL.of c2) (dp_ints ns), .lst (SqL.of l2) .nil, sh_ints ns, sh_ints [], _, rfl, ?_⟩
      have ev : PyData.eqv (.list (ns.map PyData.int)) (.list []) = decide (ns = []) := eqv_ints ns []
      rw [ev]
      rcases Decidable.em (ns = []) with hne | hne
      case' inl =>
        refine iteNS hne ?_
        dsimp only [tNext]
        generalize (9601 * (i : Int) + 113) = z
      case' inr =>
        refine iteY hne ?_
        have hln : 0 < ns.length := List.length_pos_iff.mpr hne
        have hlt : i % ns.length < ns.length := Nat.mod_lt _ hln
        refine ⟨_, rfl, p, _, 0, V.ref c, rfl, rfl, SqL.of p2, rfl, _, rfl, _, rfl, p, _, 0, V.ref c, rfl, rfl, SqL.of p2, rfl, c, _, rfl, .inl (SqL.of c2), _, _, rfl, rfl, ?_, c, _, _, V.int (ns.getD (i % ns.length) 0), rfl, rfl, SqL.of c2, ?_, ?_⟩
        · show (0 : Int) < (((ns.map V.int).length : Nat) : Int)
          rw [List.length_map]
          omega
        · rw [List.length_map]
          show atI _ ((i % ns.length : Nat) : Int) = _
          refine atI_nat ?_
          rw [List.getElem?_map, List.getElem?_eq_getElem hlt, List.getD_eq_getElem?_getD, List.getElem?_eq_getElem hlt]
          rfl
        generalize (ns.getD (i % ns.length) 0) = z
      all_goals
        have hi64 : -(2 ^ 64) < (i : Int) ∧ (i : Int) < 2 ^ 64 := ⟨by omega, by omega⟩
        refine ⟨_, rfl, _, rfl, p, _, 0, V.ref c, rfl, rfl, SqL.of p2, rfl, c, _, rfl, .inl (SqL.of c2), _, _, rfl, rfl, _, rfl, ite2 (fun _ => ?_) (fun _ => iteF ?_)⟩
        · refine ⟨_, rfl, z, rfl, _, _, rfl, rfl, ⟨by decide, by decide, by decide⟩, _, _, rfl, rfl, _, rfl, ite2 (fun hge => ?_) (fun _ => ?_)⟩
          · refine ⟨_, rfl, z, rfl, _, _, rfl, rfl, ⟨by decide, by decide, by decide⟩, _, _, rfl, rfl, _, _, rfl, rfl, .inl ⟨by decide, by decide⟩, _, rfl, _, _, rfl, rfl, .inr ⟨_, rfl, _, _, rfl, rfl, ?_⟩⟩
            dsimp only [gName]
            generalize hgr : 2 * ((if z < 0 then -z else z) - 10 ^ (Int.toNat 18)) + (if decide (z < 0) = true then 1 else 0) = gr
            have gr0 : 0 ≤ gr := by
              have h1 : (10 : Int) ^ (Int.toNat 18) ≤ (if z < 0 then -z else z) := of_decide_eq_true hge
              rw [← hgr]
              generalize (if z < 0 then -z else z) = y at h1
              generalize (10 : Int) ^ (Int.toNat 18) = t at h1
              split <;> omega
            refine ⟨_, rfl, _, rfl, _, _, rfl, rfl, ⟨hu0, hlog⟩, _, rfl, p, _, 2, 2, rfl, rfl, p2, rfl, ?_⟩
            exact ⟨_, rfl, _, rfl, _, _, rfl, rfl, hu0, fin _ gr (Others.upd o2) ⟨i + 1, gr / (u : Int), upd_same, by rw [upd_ne hcp]; exact c2, hcp, hns, Int.ediv_nonneg gr0 (by omega), by omega⟩⟩
          · refine ⟨_, rfl, _, _, rfl, rfl, (show (0 : Int) < 2147483587 by decide), _, rfl, _, _, rfl, rfl, .inl ⟨by decide, by decide⟩, _, rfl, _, _, rfl, rfl, .inr hi64, _, _, rfl, rfl, _, rfl, _, _, rfl, rfl, .inl ⟨by decide, by decide⟩, _, _, rfl, rfl, _, _, rfl, rfl, _, _, rfl, rfl, ⟨by decide, by decide, pick_b1 z i (by omega)⟩, _, _, rfl, rfl, (show (0 : Int) < 2147483629 by decide), ?_⟩
            dsimp only [gName]
            generalize hx : (z % 2147483587 + 44027 * (i : Int) * (i : Int) + 27011 * (i : Int) + 83) ^ (Int.toNat 3) % 2147483629 = x
            have x0 : 0 ≤ x := by rw [← hx]; exact Int.emod_nonneg _ (by decide)
            have x1 : x < 2147483629 := by rw [← hx]; exact Int.emod_lt_of_pos _ (by decide)
            refine ⟨_, rfl, _, rfl, _, _, rfl, rfl, .inl ⟨by decide, by decide⟩, _, _, rfl, rfl, _, _, rfl, rfl, .inl ⟨by omega, by omega⟩, _, _, rfl, rfl, _, _, rfl, rfl, ⟨by decide, by decide, pick_b2 x i x0 x1 (by omega)⟩, _, _, rfl, rfl, (show (0 : Int) < 2147483563 by decide), ?_⟩
            refine ⟨_, rfl, _, _, rfl, rfl, ⟨by decide, by decide⟩, _, rfl, _, _, rfl, rfl, hu0, ?_⟩
            exact fin _ _ o2 ⟨i + 1, rest, p2, c2, hcp, hns, hrest, by omega⟩
        · refine ⟨_, rfl, _, _, rfl, rfl, (show (0 : Int) < 2147483587 by decide), _, rfl, _, _, rfl, rfl, .inl ⟨by decide, by decide⟩, _, rfl, _, _, rfl, rfl, .inr hi64, _, _, rfl, rfl, _, rfl, _, _, rfl, rfl, .inl ⟨by decide, by decide⟩, _, _, rfl, rfl, _, _, rfl, rfl, _, _, rfl, rfl, ⟨by decide, by decide, pick_b1 z i (by omega)⟩, _, _, rfl, rfl, (show (0 : Int) < 2147483629 by decide), ?_⟩
          dsimp only [gName]
          generalize hx : (z % 2147483587 + 44027 * (i : Int) * (i : Int) + 27011 * (i : Int) + 83) ^ (Int.toNat 3) % 2147483629 = x
          have x0 : 0 ≤ x := by rw [← hx]; exact Int.emod_nonneg _ (by decide)
          have x1 : x < 2147483629 := by rw [← hx]; exact Int.emod_lt_of_pos _ (by decide)
          refine ⟨_, rfl, _, rfl, _, _, rfl, rfl, .inl ⟨by decide, by decide⟩, _, _, rfl, rfl, _, _, rfl, rfl, .inl ⟨by omega, by omega⟩, _, _, rfl, rfl, _, _, rfl, rfl, ⟨by decide, by decide, pick_b2 x i x0 x1 (by omega)⟩, _, _, rfl, rfl, (show (0 : Int) < 2147483563 by decide), ?_⟩
          refine ⟨_, rfl, _, _, rfl, rfl, ⟨by decide, by decide⟩, _, rfl, _, _, rfl, rfl, hu0, ?_⟩
          exact fin _ _ o2 ⟨i + 1, rest, p2, c2, hcp, hns, hrest, by omega⟩
end
end K95P
end

section
set_option Elab.async false
set_option linter.all false
set_option maxRecDepth 100000
set_option maxHeartbeats 4000000
/-! K95L2: _law_after, of a swap within the stack. -/
namespace K95P
open PySem PyProof.Rows L2 K95R K95H K95
theorem pss_never {X : Cx} {st : List Stmt} : PSs X st (fun _ _ _ => False) := ⟨fun _ _ _ _ _ _ h => h.elim⟩
theorem enc_last {f : Nat → Str} {p : List Nat} (h : 1 ≤ p.length) : atI (enc f p) (-1) = some (V.str (f (p.getD (p.length - 1) 0))) := by
  unfold atI ixN
  rw [List.length_map, if_neg (by decide), if_pos (by omega)]
  have e : ((-1 : Int) + (p.length : Int)).toNat = p.length - 1 := by omega
  rw [e]
  exact enc_at (getD_at (by omega) 0)
section
variable {P : Program} {w : World} {K : PySem.W.Frag} {mg : Str → Option Value} {base : Heap}
def spAfter (K : PySem.W.Frag) : Sp := fun vs H Q _ => ∃ (s d : Addr) (f : Nat → Str) (p : List Nat) (far : Nat), vs = [.ref s, .ref d] ∧ SqT K H s (enc f p) ∧ SqT K H d [V.str "swap", V.int (far : Int)] ∧ 1 ≤ far ∧ far < p.length ∧ p.length ≤ 40 ∧
  ∀ H' a, Same H H' → H a = none → TupN H' a (enc f (swp p far)) → Q (.ref a) H'
theorem scAfter : FnScope ["_law_row", "_law_deed", "_law_far", "_law_low"] ["_law_row", "_law_deed"] (defScope sAfter) := ⟨rfl, rfl, rfl, by decide +kernel, rfl, by decide +kernel, by decide +kernel⟩
theorem ok_after {f : Addr} {fd : FuncData} (F : Fun K "_law_after" "_law_after" sAfter f fd) (T : Bi mg) : FnOk P w K mg base CX0 1 f fd ["_law_row", "_law_deed"] (spAfter K) := by
  refine F.ok scAfter (fun vs H Q E h => ?_) (fun cdv A outer s H vs Q E hr h => ?_)
  · obtain ⟨a, d, g, p, far, rfl, _⟩ := h
    rfl
  · obtain ⟨a, d, g, p, far, rfl, hs, hd, hf1, hf2, h40, k⟩ := h
    refine ⟨_, pss_cons (ps_if (pt_cmpR op_eq (pe_ix ix_tup (pv 1) pe_int (fun _ _ => rfl)) pe_str (nomark _)) pss_never pss_nil)
      (pss_cons (ps_set (i := 2) scAfter.nd rfl (Or.inl rfl) (pe_ix ix_tup (pv 1) pe_int (fun _ _ => rfl)))
      (pss_cons (ps_if (pt_cmpR op_eq (pe_ix ix_tup (pv 1) pe_int (fun _ _ => rfl)) pe_str (nomark _)) pss_never pss_nil)
      (pss_cons (ps_if (pt_cmp (pc_ge (pv 2) (pe_callB call_len_seq (by rfl) T.len PySem.boot_len (pa_cons (pv 0) pa_nil)))) (pss_one (ps_ret pe_non)) pss_nil)
      (pss_cons (ps_set (i := 3) scAfter.nd rfl (Or.inl rfl) (pe_op op_sub (pe_op op_sub (pe_callB call_len_seq (by rfl) T.len PySem.boot_len (pa_cons (pv 0) pa_nil)) pe_int) (pv 2)))
      (pss_one (ps_ret (pe_op op_catN (pe_op op_catA (pe_op op_catA (pe_slice sl_tupA (pv 0) po_none (po_some (pv 3))) (pe_tup (pa_cons (pe_ix ix_tup (pv 0) (pe_un un_neg pe_int) (fun _ _ => rfl)) pa_nil)))
        (pe_slice sl_tupA (pv 0) (po_some (pe_op op_add (pv 3) pe_int)) (po_some (pe_un un_neg pe_int)))) (pe_tup (pa_cons (pe_ix ix_tup (pv 0) (pv 3) (fun _ _ => rfl)) pa_nil))))))))), ?_⟩
    have le : (enc g p).length = p.length := List.length_map ..
    refine ⟨_, rfl, d, _, 0, V.str "swap", rfl, rfl, hd, rfl, rfl, _, rfl, ite2 (fun h => absurd (V.str.inj (of_decide_eq_true h)) (by decide)) (fun _ => ?_)⟩
    refine ⟨_, rfl, d, _, 1, V.int (far : Int), rfl, rfl, hd, rfl, ?_⟩
    refine ⟨_, rfl, d, _, 0, V.str "swap", rfl, rfl, hd, rfl, rfl, _, rfl, ite2 (fun h => absurd (V.str.inj (of_decide_eq_true h)) (by decide)) (fun _ => ?_)⟩
    refine ⟨_, rfl, _, rfl, a, _, rfl, .inr hs, _, _, rfl, rfl, _, rfl, ite2 (fun h => ?_) (fun _ => ?_)⟩
    · have h2 : (((enc g p).length : Nat) : Int) ≤ (far : Int) := of_decide_eq_true h
      rw [le] at h2
      omega
    · -- low = len(row) - 1 - far
      refine ⟨_, rfl, a, _, rfl, .inr hs, _, _, rfl, rfl, _, rfl, _, _, rfl, rfl, ?_⟩
      dsimp only [gName]
      have el : (((enc g p).length : Nat) : Int) - 1 - (far : Int) = ((p.length - 1 - far : Nat) : Int) := by rw [le]; omega
      rw [el]
      generalize hlow : p.length - 1 - far = low
      -- row[:low] + (row[-1],)
      refine ⟨_, rfl, ?_⟩
      dsimp only [tNoPart]
      refine ⟨_, rfl, _, rfl, ?_⟩
      refine cut_any (K := K) hs fun H1 p1 S1 c1 => ?_
      rw [cut_to, ← List.map_take] at c1
      refine ⟨_, rfl, 1, rfl, a, _, -1, _, rfl, rfl, Same.sqT S1 hs, enc_last (by omega), by show 1 ≤ sizeLine; decide, fun p2 h2 => ?_⟩
      have S2 : Same H1 (upd H1 p2 (.tup [V.str (g (p.getD (p.length - 1) 0))])) := Same.lay h2
      have c2 : SqT K (upd H1 p2 (.tup [V.str (g (p.getD (p.length - 1) 0))])) p2 (enc g [p.getD (p.length - 1) 0]) := .inl (.inl upd_same)
      generalize upd H1 p2 (.tup [V.str (g (p.getD (p.length - 1) 0))]) = H2 at S2 c2 ⊢
      refine cat_any (K := K) (Same.sqT S2 c1) c2 ?_ fun H3 p3 S3 c3 => ?_
      · rw [List.length_map, List.length_map, List.length_take]
        exact Nat.le_of_lt (small1000 (by show min low p.length + 1 ≤ 1000; omega))
      · rw [← List.map_append] at c3
        have S03 : Same H H3 := S1.trans (S2.trans S3)
        -- + row[low + 1:-1]
        refine ⟨_, rfl, _, rfl, _, _, rfl, rfl, _, rfl, 1, rfl, _, rfl, ?_⟩
        refine cut_any (K := K) (Same.sqT S03 hs) fun H4 p4 S4 c4 => ?_
        have e4 : cutV (enc g p) (some ((low : Int) + 1)) (some (-1)) = enc g ((p.drop (low + 1)).take (far - 1)) := by
          rw [show ((low : Int) + 1) = ((low + 1 : Nat) : Int) from rfl, cut_mid, le, ← List.map_drop, ← List.map_take]
          rw [show p.length - 1 - (low + 1) = far - 1 by omega]
        rw [e4] at c4
        refine cat_any (K := K) (Same.sqT S4 c3) c4 ?_ fun H5 p5 S5 c5 => ?_
        · rw [List.length_map, List.length_map, List.length_append, List.length_take, List.length_take, List.length_drop]
          exact Nat.le_of_lt (small1000 (by show min low p.length + 1 + min (far - 1) (p.length - (low + 1)) ≤ 1000; omega))
        · rw [← List.map_append] at c5
          have S05 : Same H H5 := S03.trans (S4.trans S5)
          -- + (row[low],)
          refine ⟨_, rfl, _, rfl, a, _, (low : Int), _, rfl, rfl, Same.sqT S05 hs, atI_nat (enc_at (getD_at (by omega) 0)), by show 1 ≤ sizeLine; decide, fun p6 h6 => ?_⟩
          have S6 : Same H5 (upd H5 p6 (.tup [V.str (g (p.getD low 0))])) := Same.lay h6
          have c6 : SqT K (upd H5 p6 (.tup [V.str (g (p.getD low 0))])) p6 (enc g [p.getD low 0]) := .inl (.inl upd_same)
          generalize upd H5 p6 (.tup [V.str (g (p.getD low 0))]) = H6 at S6 c6 ⊢
          refine ⟨p5, p6, _, _, rfl, rfl, Same.sqT S6 c5, c6, ?_, ?_, ?_, fun p7 ob h7 hd7 => ?_⟩
          · intro e
            have := congrArg List.length e
            rw [List.length_map, List.length_append, List.length_append] at this
            have e1 : ([p.getD (p.length - 1) 0] : List Nat).length = 1 := rfl
            rw [e1] at this
            simp at this
          · intro e
            cases e
          · rw [List.length_map, List.length_map, List.length_append, List.length_append, List.length_take, List.length_take, List.length_drop]
            exact Nat.le_of_lt (small1000 (by show min low p.length + 1 + min (far - 1) (p.length - (low + 1)) + 1 ≤ 1000; omega))
          · have S06 : Same H H6 := S05.trans S6
            refine k _ p7 (Same.upd S06 (S06.free h7)) (S06.free h7) ?_
            rw [← List.map_append]
            have es : swp p far = p.take low ++ [p.getD (p.length - 1) 0] ++ (p.drop (low + 1)).take (far - 1) ++ [p.getD low 0] := by
              unfold swp
              rw [hlow]
            rw [es]
            exact TupN.new hd7
end
end K95P
end

section
set_option Elab.async false
set_option linter.all false
set_option maxRecDepth 100000
set_option maxHeartbeats 4000000
/-! K95L3: _law_levels. -/
namespace K95P
open PySem PyProof.Rows L2 K95R K95D K95H K95
theorem TupN.oth {P : Program} {w : World} {H H4 : Hp} {a x : Addr} {xs : List V} {d : Addr} {es : List Ent} (t : TupN H x xs) (e : H a = some (DXO P w d es)) (k : ∀ c, c ≠ a → H4 c = H c) : TupN H4 x xs := by
  obtain ⟨ob, e1, dd⟩ := t
  refine ⟨ob, ?_, dd⟩
  rw [k x (fun c => by subst c; rw [e1] at e; exact nomatch e)]
  exact e1
/-- the levels' dict -/
abbrev FndAt (f : Nat → Str) (H : Hp) : List Ent → Fnd → Prop := Paired fun e m => e.1 = (m.1.map f).map Sum.inr ∧ e.2.2 = V.int (m.2 : Int) ∧ TupN H e.2.1 (enc f m.1)
abbrev RowsAt (f : Nat → Str) (H : Hp) : List Addr → List (List Nat) → Prop := Paired fun a p => TupN H a (enc f p)
theorem FndAt.same {f : Nat → Str} {H H' : Hp} {es : List Ent} {fs : Fnd} (h : FndAt f H es fs) (s : Same H H') : FndAt f H' es fs := Paired.mapP h fun _ _ t => ⟨t.1, t.2.1, t.2.2.same s⟩
theorem RowsAt.same {f : Nat → Str} {H H' : Hp} {es : List Addr} {fs : List (List Nat)} (h : RowsAt f H es fs) (s : Same H H') : RowsAt f H' es fs := Paired.mapP h fun _ _ t => t.same s
theorem FndAt.wr {f : Nat → Str} {H : Hp} {l : Addr} {xs : List V} {o : HO} {es : List Ent} {fs : Fnd} (h : FndAt f H es fs) (e : H l = some (.lst xs)) : FndAt f (upd H l o) es fs := Paired.mapP h fun _ _ t => ⟨t.1, t.2.1, TupN.wr t.2.2 e (fun _ _ c => nomatch c)⟩
theorem RowsAt.wr {f : Nat → Str} {H : Hp} {l : Addr} {xs : List V} {o : HO} {es : List Addr} {fs : List (List Nat)} (h : RowsAt f H es fs) (e : H l = some (.lst xs)) : RowsAt f (upd H l o) es fs := Paired.mapP h fun _ _ t => TupN.wr t e (fun _ _ c => nomatch c)
theorem FndAt.oth {P : Program} {w : World} {f : Nat → Str} {H H4 : Hp} {a d : Addr} {ds es : List Ent} {fs : Fnd} (h : FndAt f H es fs) (e : H a = some (DXO P w d ds)) (k : ∀ c, c ≠ a → H4 c = H c) : FndAt f H4 es fs := Paired.mapP h fun _ _ t => ⟨t.1, t.2.1, TupN.oth t.2.2 e k⟩
theorem RowsAt.oth {P : Program} {w : World} {f : Nat → Str} {H H4 : Hp} {a d : Addr} {ds : List Ent} {es : List Addr} {fs : List (List Nat)} (h : RowsAt f H es fs) (e : H a = some (DXO P w d ds)) (k : ∀ c, c ≠ a → H4 c = H c) : RowsAt f H4 es fs := Paired.mapP h fun _ _ t => TupN.oth t e k
theorem key_enc {f : Nat → Str} {p : List Nat} : (((p.map f).map Sum.inr : List L2.Key)).map kV = enc f p := by
  rw [List.map_map, List.map_map]
  rfl
theorem FndAt.keys {K : PySem.W.Frag} {f : Nat → Str} {H : Hp} : ∀ {es : List Ent} {fs : Fnd}, FndAt f H es fs → KeysAt K H es
  | _, _, .nil => fun _ h => nomatch h
  | _, _, .cons h r => fun e he => by
    rcases List.mem_cons.mp he with he | he
    · subst he
      rw [h.1, key_enc]
      exact h.2.2.sq
    · exact FndAt.keys r e he
theorem val_look {f : Nat → Str} {H : Hp} {n : Nat} (inj : Inj f n) {p : List Nat} (hp : p.all (okN n) = true) : ∀ {es : List Ent} {fs : Fnd}, FndAt f H es fs → (∀ e ∈ fs, Row n e.1) → valX es ((p.map f).map Sum.inr) = (look fs p).map fun (v : Nat) => V.int (v : Int)
  | _, _, .nil, _ => rfl
  | _, _, .cons (a := e) (b := m) (l₁ := es) (l₂ := fs) h r, hr => by
    have ih := val_look inj hp r fun x hx => hr x (List.mem_cons_of_mem _ hx)
    unfold valX look at ih ⊢
    rw [List.find?_cons, List.find?_cons]
    by_cases c : m.1 = p
    · rw [show (decide (e.1 = (p.map f).map Sum.inr)) = true from decide_eq_true (by rw [h.1, c]), show (m.1 == p) = true from beq_iff_eq.mpr c]
      show some e.2.2 = some (V.int (m.2 : Int))
      rw [h.2.1]
    · have c2 : ¬ e.1 = (p.map f).map Sum.inr := by
        rw [h.1]
        intro q
        have q2 : m.1.map f = p.map f := (List.map_inj_right (fun x y h => Sum.inr.inj h)).mp q
        exact c (map_inj inj (hr m (List.mem_cons_self ..)).2 hp q2)
      rw [show (decide (e.1 = (p.map f).map Sum.inr)) = false from decide_eq_false c2, show (m.1 == p) = false from beq_eq_false_iff_ne.mpr c]
      exact ih
theorem RowsAt.get {f : Nat → Str} {H : Hp} : ∀ {as : List Addr} {cs : List (List Nat)} {i : Nat} {a : Addr}, RowsAt f H as cs → as[i]? = some a → ∃ c, cs[i]? = some c ∧ TupN H a (enc f c)
  | _, _, 0, _, .cons h r, e => by cases e; exact ⟨_, rfl, h⟩
  | _, _, i + 1, _, .cons h r, e => RowsAt.get (i := i) r e
theorem drop_at {α : Type} {l : List α} {i : Nat} {x : α} (h : l[i]? = some x) : l.drop i = x :: l.drop (i + 1) := by
  obtain ⟨h1, h2⟩ := List.getElem?_eq_some_iff.mp h
  rw [List.drop_eq_getElem_cons h1, h2]
/-! ### a list of rows as data -/
abbrev rowD (f : Nat → Str) (p : List Nat) : PyData := .tuple ((p.map f).map PyData.str)
theorem dp_rows {K : PySem.W.Frag} {f : Nat → Str} {H : Hp} : ∀ {as : List Addr} {cs : List (List Nat)}, RowsAt f H as cs → DpAll K H (as.map V.ref) (cs.map (rowD f))
  | _, _, .nil => .nil
  | _, _, .cons h r => .cons (.tup (xs := enc f _) h.sq (by rw [enc_eq]; exact dp_strs _)) (dp_rows r)
theorem can_rows {f : Nat → Str} {n : Nat} (ff : FineF f n) : ∀ {cs : List (List Nat)}, (∀ q ∈ cs, q.all (okN n) = true) → PyData.canLayAll0 (cs.map (rowD f)) = true
  | [], _ => rfl
  | c :: cs, h => by
    show (PyData.canLayAll0 ((c.map f).map PyData.str) && PyData.canLayAll0 (cs.map (rowD f))) = true
    rw [can_strs _ (fine_map ff (h c (List.mem_cons_self ..))), can_rows ff fun q hq => h q (List.mem_cons_of_mem _ hq)] <;> rfl
theorem dep_rows {f : Nat → Str} : ∀ {cs : List (List Nat)}, PyData.depthAll (cs.map (rowD f)) ≤ 2
  | [] => Nat.zero_le 2
  | c :: cs => by
    show max (PyData.depth (rowD f c)) (PyData.depthAll (cs.map (rowD f))) ≤ 2
    have h1 := dep_rows (f := f) (cs := cs)
    have h2 := dep_strs (c.map f)
    refine Nat.max_le.mpr ⟨?_, h1⟩
    show PyData.depthAll ((c.map f).map PyData.str) + 1 ≤ 2
    omega
theorem sh_rows {f : Nat → Str} {n : Nat} (ff : FineF f n) {cs : List (List Nat)} (h : ∀ q ∈ cs, q.all (okN n) = true) : SeqAt.shaped (.list (cs.map (rowD f))) = true := by
  refine Bool.and_eq_true_iff.mpr ⟨can_rows ff h, decide_eq_true ?_⟩
  show PyData.depthAll (cs.map (rowD f)) + 1 ≤ 64
  have := dep_rows (f := f) (cs := cs)
  omega
section
variable {P : Program} {w : World} {K : PySem.W.Frag} {mg : Str → Option Value} {base : Heap}
/-! ### _law_levels -/
def spLevels (P : Program) (w : World) (K : PySem.W.Frag) : Sp := fun vs H Q _ => ∃ (s : Addr) (f : Nat → Str) (n high : Nat), vs = [.ref s, .int (high : Int)] ∧ TupN H s (enc f (List.range n)) ∧ 1 ≤ n ∧ n ≤ 40 ∧ 1 ≤ high ∧ high ≤ n ∧ Inj f n ∧ FineF f n ∧
  (levels n high).2 = [] ∧ (levels n high).1.length ≤ 120 ∧ ∀ H' d es, Same H H' → H d = none → H' d = some (DXO P w d es) → FndAt f H' es (levels n high).1 → Q (.ref d) H'
theorem scLevels : FnScope ["_law_row", "_law_high", "_law_found", "_law_level", "_law_later", "_law_one", "_law_far", "_law_two"] ["_law_row", "_law_high"] (defScope sLevels) := ⟨rfl, rfl, rfl, by decide +kernel, rfl, by decide +kernel, by decide +kernel⟩
/-- within the for: the level at L, the later at l, the dict at d -/
def LvI (P : Program) (w : World) (f : Nat → Str) (H : Hp) (d l L : Addr) (ls : List Addr) (lev : List (List Nat)) (n : Nat) (st : LSt) (H' : Hp) : Prop := ∃ (es : List Ent) (la : List Addr), Same H H' ∧ H' d = some (DXO P w d es) ∧ FndAt f H' es st.1 ∧ H' l = some (.lst (la.map V.ref)) ∧ RowsAt f H' la st.2 ∧
  H' L = some (.lst (ls.map V.ref)) ∧ RowsAt f H' ls lev ∧ Good n lev st
/-- between two turns of the while -/
def LvW (P : Program) (w : World) (f : Nat → Str) (H : Hp) (s d : Addr) (n high : Nat) (fin : LSt) (k : Nat) (σ : L2.St) (H' : Hp) : Prop := ∃ (st : LSt) (es : List Ent) (ls : List Addr) (L : Addr) (z4 z5 z6 z7 : Option V), σ = [some (.ref s), some (.int (high : Int)), some (.ref d), some (.ref L), z4, z5, z6, z7] ∧
  Same H H' ∧ H L = none ∧ H' d = some (DXO P w d es) ∧ FndAt f H' es st.1 ∧ H' L = some (.lst (ls.map V.ref)) ∧ RowsAt f H' ls st.2 ∧ Good n [] st ∧ iterL high k st = fin
theorem ok_levels {f g : Addr} {fd gd : FuncData} (F : Fun K "_law_levels" "_law_levels" sLevels f fd) (T : Bi mg)
    (G : FnOk P w K mg base CX0 1 g gd ["_law_row", "_law_deed"] (spAfter K)) (gK : PySem.W.keepIn K (.ref g) = true) (gm : mg "_law_after" = some (.ref g)) (gB : Binds K gd ["_law_row", "_law_deed"] []) :
    FnOk P w K mg base CX0 2 f fd ["_law_row", "_law_high"] (spLevels P w K) := by
  refine F.ok scLevels (fun vs H Q E h => ?_) (fun cdv A outer s H vs Q E hr h => ?_)
  · obtain ⟨a, f, n, high, rfl, _⟩ := h
    rfl
  · obtain ⟨a, f, n, high, rfl, hs, hn1, hn40, hh1, hhn, inj, ff, hl0, hl120, k⟩ := h
    have hu := hu_of hr
    refine ⟨_, pss_cons (ps_set (i := 2) scLevels.nd rfl (Or.inl rfl) (pe_disp1 hu (pv 0) pe_int))
      (pss_cons (ps_set (i := 3) scLevels.nd rfl (Or.inl rfl) (pe_lst (pa_cons (pv 0) pa_nil)))
      (pss_cons (ps_while PassesOwn.never (pt_cmpR (op_neD hr.units) (pv 3) (pe_lst pa_nil) (nomark _))
        (pss_cons (ps_set (i := 4) scLevels.nd rfl (Or.inl rfl) (pe_lst pa_nil))
        (pss_cons (ps_for PassesOwn.never rfl (pi_list (pv 3)) (pg_name (i := 5) scLevels.nd rfl (Or.inl rfl))
          (pss_one (ps_for PassesOwn.never rfl (pi_range2 rfl T.range (pa_cons pe_int (pa_cons (pv 1) pa_nil))) (pg_name (i := 6) scLevels.nd rfl (Or.inl rfl))
            (pss_cons (ps_set (i := 7) scLevels.nd rfl (Or.inl rfl) (pe_call G hr rfl gm gK gB .nil pass0 (pa_cons (pv 5) (pa_cons (pe_tup (pa_cons pe_str (pa_cons (pv 6) pa_nil))) pa_nil))))
            (pss_one (ps_if (pt_cmp (pc_xnot hu (pv 7) (pv 2)))
              (pss_cons (ps_xput hu (pv 2) (pv 7) (pe_op op_add (pe_xget hu (pv 2) (pv 5) (fun _ _ => rfl)) pe_int) rfl)
              (pss_one (ps_expr (pe_bm PySem.F.plainAttrs_list PySem.F.slot_list_append PySem.F.type_list_append mt_append (pv 4) (pa_cons (pv 7) pa_nil))))) pss_nil))))))
        (pss_one (ps_set (i := 3) scLevels.nd rfl (Or.inl rfl) (pv 4))))))
      (pss_one (ps_ret (pv 2))))), ?_⟩
    have lr : (List.range n).length = n := List.length_range ..
    have row0 : Row n (List.range n) := ⟨lr, List.all_eq_true.mpr fun x hx => by
      show (decide (x < n) || decide (x = 7)) = true
      rw [decide_eq_true (List.mem_range.mp hx)]
      rfl⟩
    generalize hfin : levels n high = fin at hl0 hl120 k
    -- found = {row: 0}; level = [row]
    intro d H0 hd k0 e0
    refine ⟨_, rfl, e0, a, ((List.range n).map f).map Sum.inr, rfl, ?_, fun H3 k3 e3 => ?_⟩
    · rw [key_enc]
      have : TupN H0 a (enc f (List.range n)) := by
        obtain ⟨ob, e1, dd⟩ := hs
        refine ⟨ob, ?_, dd⟩
        rw [k0 a (fun c => by subst c; rw [hd] at e1; cases e1)]
        exact e1
      exact this.sq
    have S3 : Same H H3 := fun b o e => by
      have nb : b ≠ d := fun c => by subst c; rw [hd] at e; cases e
      rw [k3 b nb, k0 b nb]
      exact e
    refine ⟨_, rfl, by show 1 ≤ sizeLine; decide, fun L hL => ?_⟩
    have S4 : Same H3 (upd H3 L (.lst [V.ref a])) := Same.lay hL
    have e4 : (upd H3 L (.lst [V.ref a])) L = some (.lst ([a].map V.ref)) := upd_same
    have nL : H L = none := S3.free hL
    generalize upd H3 L (.lst [V.ref a]) = H4 at S4 e4 ⊢
    have S04 := S3.trans S4
    -- while level != []
    refine ⟨LvW P w f H a d n high fin, ⟨10, startL n, _, [a], L, none, none, none, none, rfl, S04, nL, S4 _ _ e3, .cons ⟨rfl, rfl, hs.same S04⟩ .nil, e4, .cons (hs.same S04) .nil, ⟨?_, ?_, ?_, Nat.le_refl _⟩, hfin⟩, ?_⟩
    · intro e he
      rw [List.mem_singleton.mp he]
      exact row0
    · intro q hq
      cases hq
    · intro q hq
      rw [List.mem_singleton.mp hq]
      refine ⟨?_, row0⟩
      show (look [(List.range n, 0)] (List.range n)).isSome = true
      exact look_self (fs := [])
    rintro m σ H5 ⟨st, es, ls, L, z4, z5, z6, z7, rfl, S5, nL, ed, fa, eL, ra, gd, hit⟩
    have hlen : st.1.length ≤ 120 := by
      have := len_iter (high := high) (k := m) (st := st)
      rw [hit] at this
      omega
    refine ⟨_, rfl, Nat.zero_le _, fun x hx => ?_⟩
    have S6 : Same H5 (upd H5 x (.lst [])) := Same.lay hx
    have x6 : (upd H5 x (.lst [])) x = some (.lst []) := upd_same
    generalize upd H5 x (.lst []) = H6 at S6 x6 ⊢
    refine ⟨_, .list [], .lst (SqL.of (S6 _ _ eL)) (dp_rows (ra.same S6)), .lst (SqL.of x6) .nil, sh_rows ff fun q hq => (gd.2.2.1 q hq).2.2, sh_rows (f := f) ff (cs := []) (fun q hq => nomatch hq), _, rfl, ?_⟩
    cases hlv : st.2 with
    | nil =>
      refine iteF ?_
      have est : st = fin := by
        have e1 : st = (st.1, []) := by rw [← hlv]
        rw [e1, iter_nil] at hit
        rw [e1]
        exact hit
      subst est
      exact ⟨_, rfl, k H6 d es (S5.trans S6) hd (S6 _ _ ed) (fa.same S6)⟩
    | cons one0 rest0 =>
      refine iteT ?_
      cases m with
      | zero =>
        have est : st = fin := hit
        rw [← est, hlv] at hl0
        cases hl0
      | succ m =>
        refine ⟨LvW P w f H a d n high fin m, fun σ' H' q => ⟨m, Nat.lt_succ_self m, q⟩, ?_⟩
        -- later = []
        refine ⟨Nat.zero_le _, fun l hl => ?_⟩
        have S7 : Same H6 (upd H6 l (.lst [])) := Same.lay hl
        have l7 : (upd H6 l (.lst [])) l = some (.lst (([] : List Addr).map V.ref)) := upd_same
        have nl : H l = none := (S5.trans S6).free hl
        have nLl : L ≠ l := fun c => by
          subst c
          rw [S6 _ _ eL] at hl
          cases hl
        generalize upd H6 l (.lst []) = H7 at S7 l7 ⊢
        have S57 : Same H5 H7 := S6.trans S7
        have hstep : iterL high m (stepLevel high st) = fin := hit
        have lenT : (stepLevel high st).1.length ≤ 120 := by
          have := len_iter (high := high) (k := m) (st := stepLevel high st)
          rw [hstep] at this
          omega
        have hT : st.2.foldl (stepOne high) (st.1, []) = stepLevel high st := rfl
        generalize stepLevel high st = TT at hstep lenT hT
        have gd0 : Good n st.2 (st.1, []) := ⟨gd.1, gd.2.2.1, (fun q hq => nomatch hq), Nat.zero_le _⟩
        -- for one in level
        refine ⟨_, rfl, L, rfl, ⟨_, SqL.of (S57 _ _ eL)⟩, ?_⟩
        refine for_list (K := K) (xs := ls.map V.ref) (fun j σ H' => ∃ (st' : LSt) (z5 z6 z7 : Option V), σ = [some (.ref a), some (.int (high : Int)), some (.ref d), some (.ref L), some (.ref l), z5, z6, z7] ∧ LvI P w f H d l L ls st.2 n st' H' ∧ (st.2.drop j).foldl (stepOne high) st' = TT)
          ⟨(st.1, []), z5, z6, z7, rfl, ⟨es, [], S5.trans S57, S57 _ _ ed, fa.same S57, l7, .nil, S57 _ _ eL, ra.same S57, gd0⟩, hT⟩ (fun j σ H' _ h => ?_) (fun j x σ H' hx h => ?_) (fun σ H' h => ?_)
        · obtain ⟨_, _, _, _, _, ⟨_, _, _, _, _, _, _, eL, _⟩, _⟩ := h
          exact SqL.of eL
        · obtain ⟨st1, z5, z6, z7, rfl, hI, hfold⟩ := h
          obtain ⟨oa, hoa, rfl⟩ := ref_at hx
          obtain ⟨one, hone, _⟩ := RowsAt.get ra hoa
          have hmem : one ∈ st.2 := List.mem_of_getElem? hone
          rw [drop_at hone] at hfold
          have hfold : (st.2.drop (j + 1)).foldl (stepOne high) (stepOne high st1 one) = TT := hfold
          have lenT2 : (stepOne high st1 one).1.length ≤ 120 := by
            have := len_ones (high := high) (l := st.2.drop (j + 1)) (st := stepOne high st1 one)
            rw [hfold] at this
            omega
          have hT2 : (fars high).foldl (stepFar one) st1 = stepOne high st1 one := rfl
          generalize stepOne high st1 one = T2 at hfold lenT2 hT2
          -- for far in range(1, high)
          refine ⟨_, rfl, 1, (high : Int), rfl, ⟨by decide, by decide, by omega, by omega⟩, ?_⟩
          have hn' : ((high : Int) - 1).toNat = high - 1 := by omega
          rw [hn']
          refine for_range (fun i σ H' => ∃ (st' : LSt) (z6 z7 : Option V), σ = [some (.ref a), some (.int (high : Int)), some (.ref d), some (.ref L), some (.ref l), some (.ref oa), z6, z7] ∧ LvI P w f H d l L ls st.2 n st' H' ∧ ((fars high).drop i).foldl (stepFar one) st' = T2)
            ⟨st1, z6, z7, rfl, hI, hT2⟩ (fun i σ H' hi h => ?_) (fun σ H' h => ?_)
          · obtain ⟨st2, z6, z7, rfl, ⟨es, la, S, ed, fa, el, rl, eL, ra2, gd⟩, hf⟩ := h
            rw [fars_at hi] at hf
            have hf : ((fars high).drop (i + 1)).foldl (stepFar one) (stepFar one st2 (1 + i)) = T2 := hf
            have lenS : (stepFar one st2 (1 + i)).1.length ≤ 120 := by
              have := len_fars (one := one) (l := (fars high).drop (i + 1)) (st := stepFar one st2 (1 + i))
              rw [hf] at this
              omega
            obtain ⟨one', hone', tone⟩ := RowsAt.get ra2 hoa
            have e11 : one' = one := by
              rw [hone] at hone'
              exact (Option.some.inj hone').symm
            subst e11
            have rone : Row n one' := (gd.2.1 _ hmem).2
            have hfn : 1 + i < one'.length := by rw [rone.1]; omega
            have rtwo : Row n (swp one' (1 + i)) := ⟨by rw [swp_len (by omega) hfn]; exact rone.1, swp_all rone.2 hfn⟩
            have ec : ((1 : Int) + (i : Int)) = ((1 + i : Nat) : Int) := by omega
            rw [ec]
            -- two = _law_after(one, ("swap", far))
            refine ⟨_, rfl, _, rfl, by show 2 ≤ sizeLine; decide, fun pd hpd => ?_⟩
            have S8 : Same H' (upd H' pd (.tup [V.str "swap", V.int ((1 + i : Nat) : Int)])) := Same.lay hpd
            have c8 : SqT K (upd H' pd (.tup [V.str "swap", V.int ((1 + i : Nat) : Int)])) pd [V.str "swap", V.int ((1 + i : Nat) : Int)] := .inl (.inl upd_same)
            dsimp only [tNil]
            generalize upd H' pd (.tup [V.str "swap", V.int ((1 + i : Nat) : Int)]) = H8 at S8 c8 ⊢
            refine ⟨oa, pd, f, one', 1 + i, rfl, (tone.same S8).sq, c8, by omega, hfn, by rw [rone.1]; exact hn40, fun H9 t S9 ht tt => ?_⟩
            have S89 : Same H' H9 := S8.trans S9
            have ed9 := S89 _ _ ed
            have fa9 := fa.same S89
            have el9 := S89 _ _ el
            have eL9 := S89 _ _ eL
            have ra9 := ra2.same S89
            have rl9 := rl.same S89
            have t19 := tone.same S89
            have hel : es.length = st2.1.length := Paired.length fa
            have hll : la.length = st2.2.length := Paired.length rl
            -- if two not in found
            refine ⟨_, rfl, _, rfl, d, es, ((swp one' (1 + i)).map f).map Sum.inr, rfl, ⟨.inl ed9, fa9.keys, t, rfl, by rw [key_enc]; exact tt.sq⟩, _, rfl, ?_⟩
            rw [val_look inj rtwo.2 fa9 gd.1, Option.isSome_map]
            cases hlk : (look st2.1 (swp one' (1 + i))).isSome with
            | true =>
              refine iteF ?_
              have e1 : stepFar one' st2 (1 + i) = st2 := by
                unfold stepFar
                rw [if_pos hlk]
              rw [e1] at hf
              exact ⟨st2, _, _, rfl, ⟨es, la, S.trans S89, ed9, fa9, el9, rl9, eL9, ra9, gd⟩, hf⟩
            | false =>
              refine iteT ?_
              obtain ⟨v, hv⟩ : ∃ v, look st2.1 one' = some v := Option.isSome_iff_exists.mp (gd.2.1 one' hmem).1
              have e1 : stepFar one' st2 (1 + i) = (st2.1 ++ [(swp one' (1 + i), v + 1)], st2.2 ++ [swp one' (1 + i)]) := by
                unfold stepFar
                rw [if_neg (by rw [hlk]; decide), hv]
                rfl
              rw [e1] at hf lenS
              have lenS : (st2.1 ++ [(swp one' (1 + i), v + 1)]).length ≤ 120 := lenS
              rw [List.length_append] at lenS
              have l4 := gd.2.2.2
              -- found[two] = found[one] + 1
              refine ⟨_, rfl, _, rfl, d, es, (one'.map f).map Sum.inr, V.int (v : Int), rfl, ⟨.inl ed9, fa9.keys, oa, rfl, by rw [key_enc]; exact t19.sq⟩, by rw [val_look inj rone.2 fa9 gd.1, hv]; rfl, _, _, rfl, rfl, _, rfl, _, rfl, d, t, es, ((swp one' (1 + i)).map f).map Sum.inr, rfl, rfl, ed9, fa9.keys, by rw [key_enc]; exact tt.sq, ?_, by omega, fun H10 k10 e10 => ?_⟩
              · rw [val_look inj rtwo.2 fa9 gd.1]
                cases hq : look st2.1 (swp one' (1 + i)) with
                | none => rfl
                | some y => rw [hq] at hlk; cases hlk
              · have nld : l ≠ d := fun c => by
                  subst c
                  rw [ed9] at el9
                  exact nomatch el9
                have nLd : L ≠ d := fun c => by
                  subst c
                  rw [ed9] at eL9
                  exact nomatch eL9
                have el10 : H10 l = some (.lst (la.map V.ref)) := by rw [k10 l nld]; exact el9
                -- later.append(two)
                refine ⟨_, rfl, .inl ⟨rfl, _, SqL.of el10⟩, _, rfl, l, la.map V.ref, V.ref t, rfl, rfl, el10, by rw [List.length_map]; exact small1000 (by omega), ?_⟩
                refine ⟨(st2.1 ++ [(swp one' (1 + i), v + 1)], st2.2 ++ [swp one' (1 + i)]), _, _, rfl, ⟨es ++ [(((swp one' (1 + i)).map f).map Sum.inr, t, V.int ((v : Int) + 1))], la ++ [t], fun b o e => ?_, ?_, paired_snoc (FndAt.wr (FndAt.oth fa9 ed9 k10) el10) ⟨rfl, rfl, TupN.wr (TupN.oth tt ed9 k10) el10 (fun _ _ c => nomatch c)⟩, ?_, paired_snoc (RowsAt.wr (RowsAt.oth rl9 ed9 k10) el10) (TupN.wr (TupN.oth tt ed9 k10) el10 (fun _ _ c => nomatch c)), ?_, RowsAt.wr (RowsAt.oth ra9 ed9 k10) el10, good_new gd rone (by omega) (by omega)⟩, hf⟩
                · have nbd : b ≠ d := fun c => by subst c; rw [hd] at e; cases e
                  have nbl : b ≠ l := fun c => by subst c; rw [nl] at e; cases e
                  rw [upd_ne nbl, k10 b nbd]
                  exact S89 _ _ (S _ _ e)
                · rw [upd_ne (fun c => nld c.symm)]
                  exact e10
                · rw [upd_same, List.map_append]
                  rfl
                · rw [upd_ne nLl, k10 L nLd]
                  exact eL9
          · obtain ⟨st2, z6, z7, rfl, hI2, hf⟩ := h
            rw [fars_end] at hf
            have hf : st2 = T2 := hf
            subst hf
            exact ⟨st2, _, _, _, rfl, hI2, hfold⟩
        · obtain ⟨st1, z5, z6, z7, rfl, ⟨es1, la, S1, ed1, fa1, el1, rl1, eL1, ra1, gd1⟩, hfold⟩ := h
          have hlls : ls.length = st.2.length := Paired.length ra
          rw [List.length_map, List.drop_of_length_le (by rw [hlls]; exact Nat.le_refl _)] at hfold
          have hfold : st1 = TT := hfold
          subst hfold
          -- level = later
          exact ⟨_, rfl, st1, es1, la, l, _, _, _, _, rfl, S1, nl, ed1, fa1, el1, rl1, ⟨gd1.1, (fun q hq => nomatch hq), gd1.2.2.1, gd1.2.2.2⟩, hstep⟩
end
end K95P
end

section
set_option Elab.async false
set_option linter.all false
set_option maxRecDepth 100000
set_option maxHeartbeats 4000000
/-! K95L4: _law_right. -/
namespace K95P
open PySem PyProof.Rows L2 K95R K95D K95U K95H K95
/-! ### what the closed check says of a goal -/
theorem right_some {n span due : Nat} {q : List Nat} (h : rightM n span q due = true) : ∃ cells, leastM (List.range n) q span = some (some ((due : Int), cells)) ∧ cells.length = due ∧ due ≤ 100 ∧ follow n span q (due : Int) cells 0 (List.range n) = true := by
  unfold rightM at h
  cases e : leastM (List.range n) q span with
  | none => rw [e] at h; cases h
  | some a =>
    rw [e] at h
    cases a with
    | none => cases h
    | some xc =>
      obtain ⟨x, cells⟩ := xc
      simp only [Bool.and_eq_true, decide_eq_true_eq] at h
      obtain ⟨⟨⟨h1, h2⟩, h3⟩, h4⟩ := h
      subst h1
      exact ⟨cells, rfl, h2, h3, h4⟩
theorem least_row {p q : List Nat} {r : Nat} {x : Int × List Nat} (h : leastM p q r = some (some x)) : p.length = q.length ∧ q.all (okN p.length) = true := by
  unfold leastM at h
  cases e : cyclesM p q r with
  | none => rw [e] at h; cases h
  | some a =>
    rw [e] at h
    cases a with
    | none => cases h
    | some cs =>
      unfold cyclesM at e
      cases e2 : pairM p q (p.length - (r + 1)) with
      | none => rw [e2] at e; cases e
      | some b =>
        obtain ⟨⟨c1, _, c3, _⟩, _⟩ := pairM_some e2
        exact ⟨c1, c3⟩
theorem follow_cons {n span : Nat} {q : List Nat} {due k : Int} {c : Nat} {cs row : List Nat} (h : follow n span q due (c :: cs) k row = true) : c + 1 < n ∧ n ≤ c + 1 + span ∧ Row n (swp row (n - 1 - c)) ∧
    (∃ x y, leastM (swp row (n - 1 - c)) q span = some (some (x, y)) ∧ x = due - 1 - k) ∧ follow n span q due cs (k + 1) (swp row (n - 1 - c)) = true := by
  unfold follow at h
  simp only [Bool.and_eq_true, decide_eq_true_eq] at h
  obtain ⟨⟨⟨⟨h1, h2⟩, h3⟩, h4⟩, h5⟩ := h
  refine ⟨h1, h2, ?_, ?_, h5⟩
  · unfold okRow at h3
    rw [Bool.and_eq_true, decide_eq_true_eq] at h3
    refine ⟨h3.1, List.all_eq_true.mpr fun x hx => ?_⟩
    have := List.all_eq_true.mp h3.2 x hx
    show (decide (x < n) || decide (x = 7)) = true
    rw [this]
    rfl
  · cases e : leastM (swp row (n - 1 - c)) q span with
    | none => rw [e] at h4; cases h4
    | some a =>
      rw [e] at h4
      cases a with
      | none => cases h4
      | some xc =>
        obtain ⟨x, y⟩ := xc
        exact ⟨x, y, rfl, of_decide_eq_true h4⟩
theorem follow_at {n span : Nat} {q : List Nat} {due : Int} : ∀ {cs row : List Nat} {k : Int}, follow n span q due cs k row = true → ∀ c ∈ cs, c + 1 < n ∧ n ≤ c + 1 + span
  | [], _, _, _, _, hc => nomatch hc
  | d :: cs, row, k, h, c, hc => by
    obtain ⟨h1, h2, _, _, h5⟩ := follow_cons h
    rcases List.mem_cons.mp hc with hc | hc
    · subst hc
      exact ⟨h1, h2⟩
    · exact follow_at h5 c hc
theorem range_row {n : Nat} : Row n (List.range n) := ⟨List.length_range .., List.all_eq_true.mpr fun x hx => by
  show (decide (x < n) || decide (x = 7)) = true
  rw [decide_eq_true (List.mem_range.mp hx)]
  rfl⟩
theorem DeedsAt.get {K : PySem.W.Frag} {H : Hp} {t : Nat} : ∀ {as : List Addr} {cs : List Nat} {i : Nat} {a : Addr}, DeedsAt K H t as cs → as[i]? = some a → ∃ c, cs[i]? = some c ∧ SqT K H a [V.str "swap", V.int ((t : Int) - (c : Int))]
  | _, _, 0, _, .cons h r, e => by cases e; exact ⟨_, rfl, h⟩
  | _, _, i + 1, _, .cons h r, e => DeedsAt.get (i := i) r e
section
variable {P : Program} {w : World} {K : PySem.W.Frag} {mg : Str → Option Value} {base : Heap}
def spRight (K : PySem.W.Frag) : Sp := fun vs H Q _ => ∃ (s t : Addr) (f : Nat → Str) (n span due : Nat) (q : List Nat) (fo : Bool), vs = [.ref s, .ref t, .int (span : Int), .int (due : Int), .bl fo] ∧ TupN H s (enc f (List.range n)) ∧ SqT K H t (enc f q) ∧ Inj f n ∧ FineF f n ∧ 1 ≤ n ∧ n ≤ 40 ∧
  rightM n span q due = true ∧ ∀ H', Same H H' → Q (.bl true) H'
theorem scRight : FnScope ["_law_row", "_law_goal", "_law_span", "_law_due", "_law_is_followed", "_law_found", "_law_deed", "_law_k"] ["_law_row", "_law_goal", "_law_span", "_law_due", "_law_is_followed"] (defScope sRight) := ⟨rfl, rfl, rfl, by decide +kernel, rfl, by decide +kernel, by decide +kernel⟩
theorem ok_right {f g1 g2 : Addr} {fd d1 d2 : FuncData} (F : Fun K "_law_right" "_law_right" sRight f fd) (T : Bi mg)
    (G1 : FnOk P w K mg base CX0 4 g1 d1 ["stack", "target", "reach"] (spLeast K)) (k1 : PySem.W.keepIn K (.ref g1) = true) (m1 : mg "least_swaps" = some (.ref g1)) (b1 : KwR K d1)
    (G2 : FnOk P w K mg base CX0 1 g2 d2 ["_law_row", "_law_deed"] (spAfter K)) (k2 : PySem.W.keepIn K (.ref g2) = true) (m2 : mg "_law_after" = some (.ref g2)) (b2 : Binds K d2 ["_law_row", "_law_deed"] []) :
    FnOk P w K mg base CX0 5 f fd ["_law_row", "_law_goal", "_law_span", "_law_due", "_law_is_followed"] (spRight K) := by
  refine F.ok scRight (fun vs H Q E h => ?_) (fun cdv A outer s H vs Q E hr h => ?_)
  · obtain ⟨s, t, f, n, span, due, q, fo, rfl, _⟩ := h
    rfl
  · obtain ⟨s, t, f, n, span, due, q, fo, rfl, hs, ht, inj, ff, hn1, hn40, hR, k⟩ := h
    have hr1 : Room 1 _ := hr.mono (by decide)
    refine ⟨_, pss_cons (ps_set (i := 5) scRight.nd rfl (Or.inl rfl) (pe_callN G1 hr rfl m1 k1 b1 pass0 (pa_cons (pv 0) (pa_cons (pv 1) pa_nil)) (pk_cons (pv 2) pk_nil)))
      (pss_cons (ps_if (PW.pt (pw_or (pt_not (pt_val (pe_callB RZ.call_isTy (by rfl) T.isinstance (by decide +kernel) (pa_cons (pv 5) (pa_cons (pe_bltn rfl T.tuple (by decide +kernel : bootBuiltins "tuple" = some (.type "tuple")) (v := .ty "tuple") rfl) pa_nil)))))
          (pw_or (pt_cmpR op_ne (pe_callB call_len_seq (by rfl) T.len PySem.boot_len (pa_cons (pv 5) pa_nil)) pe_int (nomark _))
          (pw_or (pt_cmpR op_ne (pe_callB SkE.call_repr_int (by rfl) T.repr (by decide +kernel) (pa_cons (pe_ix ix_tup (pv 5) pe_int (fun _ _ => rfl)) pa_nil)) (pe_callB SkE.call_repr_int (by rfl) T.repr (by decide +kernel) (pa_cons (pv 3) pa_nil)) (nomark _))
          (pw_or1 (pt_cmpR op_ne (pe_callB call_len_seq (by rfl) T.len PySem.boot_len (pa_cons (pe_ix ix_tup (pv 5) pe_int (fun _ _ => rfl)) pa_nil)) (pv 3) (nomark _)))))))
        (pss_one (ps_ret pe_bl)) pss_nil)
      (pss_cons (ps_if (pt_cmpR (op_neD hr.units) (pe_lc (own := [("_law_deed", 6)]) (g := gName 6) (te := tVar 6)
            (tt := tOr (tTest (tOp rNe (tOp (rIxT K) (tVar 6) (tC (.int 0))) (tC (.str "swap")))) (tNot (tTest (tChain (rI0 fun i j => .bl (decide (i ≤ j))) (rI0 fun i j => .bl (decide (i ≤ j))) (tC (.int 1)) (tOp (rIxT K) (tVar 6) (tC (.int 1))) (tVar 2)))))
            rfl scRight.nd (pi_tup (pe_ix ix_tup (pv 5) pe_int (fun _ _ => rfl)))
            (blkOk_by (N := ["_law_row", "_law_goal", "_law_span", "_law_due", "_law_is_followed", "_law_found", "_law_deed", "_law_k"]) (sc := defScope sRight) (by decide +kernel)) (fun _ _ _ _ _ => pg_name (i := 6) scRight.nd rfl (Or.inl rfl))
            (fun _ _ _ _ _ => pts_one (PW.pt (pw_or (pt_cmpR op_ne (pe_ix ix_tup (pv 6) pe_int (fun _ _ => rfl)) pe_str (nomark _)) (pw_or1 (pt_not (pt_chain op_le op_le pe_int (pe_ix ix_tup (pv 6) pe_int (fun _ _ => rfl)) (pv 2)))))))
            (fun _ _ _ _ _ => pv 6)) (pe_lst pa_nil) (nomark _))
        (pss_one (ps_ret pe_bl)) pss_nil)
      (pss_cons (ps_for PassesOwn.never rfl (pi_enumT rfl T.enumerate (pa_cons (pe_ix ix_tup (pv 5) pe_int (fun _ _ => rfl)) pa_nil)) (pg_tup rfl (pgs_cons (pg_name (i := 7) scRight.nd rfl (Or.inl rfl)) (pgs_cons (pg_name (i := 6) scRight.nd rfl (Or.inl rfl)) pgs_nil)))
        (pss_cons (ps_set (i := 0) scRight.nd rfl (Or.inl rfl) (pe_call G2 hr1 rfl m2 k2 b2 .nil pass0 (pa_cons (pv 0) (pa_cons (pv 6) pa_nil))))
        (pss_one (ps_if (PW.pt (pw_and (pt_val (pv 4)) (pw_and1 (pt_cmpR op_ne (pe_ix ix_tup (pe_callN G1 hr rfl m1 k1 b1 pass0 (pa_cons (pv 0) (pa_cons (pv 1) pa_nil)) (pk_cons (pv 2) pk_nil)) pe_int (fun _ _ => rfl)) (pe_op op_sub (pe_op op_sub (pv 3) pe_int) (pv 7)) (nomark _)))))
          (pss_one (ps_ret pe_bl)) pss_nil))))
      (pss_one (ps_ret (pe_cmpR (op_eqD hr.units) (pv 0) (pv 1) (nomark _))))))), ?_⟩
    obtain ⟨cells, hls, hcl, hdue, hfo⟩ := right_some hR
    have lr : (List.range n).length = n := List.length_range ..
    obtain ⟨_, hqa⟩ := least_row hls
    rw [lr] at hqa
    have hlog : ((due : Int).natAbs).log2 < 1920 := by
      show due.log2 < 1920
      exact Nat.lt_of_le_of_lt (Nat.log2_le_self due) (by omega)
    -- found = least_swaps(row, goal, reach=span)
    refine ⟨_, rfl, _, rfl, _, rfl, rfl, rfl, ?_⟩
    refine ⟨s, t, f, List.range n, q, span, some ((due : Int), cells), rfl, hs, ht, by rw [lr]; exact inj, by rw [lr]; exact ff, by rw [lr]; exact hn1, hls, fun H1 fa fb as S1 ea eb da => ?_⟩
    rw [lr] at da
    have hal : as.length = due := (Paired.length da).trans hcl
    have eaq : SqT K H1 fa [V.int (due : Int), V.ref fb] := .inl (.inl ea)
    -- the first if
    refine ⟨_, rfl, V.ref fa, "tuple", rfl, .tup ea, _, rfl, iteF ?_⟩
    refine ⟨_, rfl, fa, _, rfl, .inr eaq, rfl, _, rfl, iteNS rfl ?_⟩
    refine ⟨_, rfl, fa, _, 0, V.int (due : Int), rfl, rfl, eaq, rfl, (due : Int), rfl, hlog, _, rfl, (due : Int), rfl, hlog, rfl, _, rfl, iteNS rfl ?_⟩
    refine ⟨_, rfl, fa, _, 1, V.ref fb, rfl, rfl, eaq, rfl, fb, _, rfl, .inr eb, _, rfl, rfl, _, rfl, iteNS (by rw [List.length_map, hal]) ?_⟩
    -- the shuffle's instructions
    refine ⟨_, rfl, fa, _, 1, V.ref fb, rfl, rfl, eaq, rfl, fb, rfl, ⟨_, eb⟩, fun D hD => ?_⟩
    refine lc_tup (xs := as.map V.ref) (fun i H' => Same H1 H' ∧ H' D = some (.lst [])) ⟨Same.lay hD, upd_same⟩ (fun i H' _ h => Same.sqT h.1 eb) (fun i x H' hx h => ?_) (fun H2 h => ?_)
    · obtain ⟨S2, e2⟩ := h
      obtain ⟨a, ha, rfl⟩ := ref_at hx
      obtain ⟨c, hc, sc⟩ := DeedsAt.get da ha
      obtain ⟨f1, f2⟩ := follow_at hfo c (List.mem_of_getElem? hc)
      have sc' := Same.sqT S2 sc
      refine ⟨rfl, ?_⟩
      refine ⟨_, rfl, a, _, 0, V.str "swap", rfl, rfl, sc', rfl, rfl, _, rfl, iteNS rfl ?_⟩
      refine ⟨_, rfl, a, _, 1, V.int (((n - 1 : Nat) : Int) - (c : Int)), rfl, rfl, sc', rfl, _, _, rfl, rfl, _, rfl, ite2 (fun _ => ?_) (fun hc => absurd (decide_eq_true (by omega)) hc)⟩
      refine ⟨_, rfl, _, _, rfl, rfl, _, rfl, iteNS (by omega) ?_⟩
      exact ⟨S2, e2⟩
    · obtain ⟨S2, e2⟩ := h
      refine ⟨Nat.zero_le _, fun l hl => ?_⟩
      have S3 : Same H2 (upd H2 l (.lst [])) := Same.lay hl
      have l3 : (upd H2 l (.lst [])) l = some (.lst []) := upd_same
      generalize upd H2 l (.lst []) = H3 at S3 l3 ⊢
      have ev0 : PyData.eqv (.list []) (.list []) = true := eqv_ints [] []
      refine ⟨.list [], .list [], .lst (SqL.of (S3 _ _ e2)) .nil, .lst (SqL.of l3) .nil, sh_ints [], sh_ints [], _, rfl, ?_⟩
      rw [ev0]
      refine iteF ?_
      have S13 : Same H1 H3 := S2.trans S3
      have S03 : Same H H3 := S1.trans S13
      have ea3 := Same.sqT S13 eaq
      have eb3 := Same.sqT S13 eb
      have da3 := DeedsAt.same da S13
      -- for k, deed in enumerate(found[1])
      refine ⟨_, rfl, fa, _, 1, V.ref fb, rfl, rfl, ea3, rfl, fb, as.map V.ref, rfl, eb3, ?_⟩
      refine for_it walk_E (fun i σ H' => ∃ (r : Addr) (row : List Nat) (z6 z7 : Option V), σ = [some (.ref r), some (.ref t), some (.int (span : Int)), some (.int (due : Int)), some (.bl fo), some (.ref fa), z6, z7] ∧ Same H3 H' ∧ TupN H' r (enc f row) ∧ Row n row ∧ follow n span q (due : Int) (cells.drop i) (i : Int) row = true)
        ⟨s, List.range n, none, none, rfl, Same.refl _, hs.same S03, range_row, hfo⟩ (fun i σ H' _ h => ?_) (fun i v σ H4 H5 hi h hy => ?_) (fun σ H' h => ?_)
      · obtain ⟨_, _, _, _, _, S4, _⟩ := h
        exact Same.sqT S4 eb3
      · obtain ⟨r, row, z6, z7, rfl, S4, tr, rr, hf⟩ := h
        obtain ⟨Tp, x, hx, rfl, hT, rfl⟩ := hy
        obtain ⟨a, ha, rfl⟩ := ref_at hx
        obtain ⟨c, hc, sc⟩ := DeedsAt.get da3 ha
        rw [drop_at hc] at hf
        obtain ⟨f1, f2, f3, ⟨x1, y1, f4, f5⟩, f6⟩ := follow_cons hf
        have S5 : Same H4 (upd H4 Tp (.tup [V.int (i : Int), V.ref a])) := Same.lay hT
        have t5 : SqT K (upd H4 Tp (.tup [V.int (i : Int), V.ref a])) Tp [V.int (i : Int), V.ref a] := .inl (.inl upd_same)
        generalize upd H4 Tp (.tup [V.int (i : Int), V.ref a]) = H5 at S5 t5 ⊢
        refine ⟨Tp, _, rfl, t5, rfl, _, _, rfl, _, _, rfl, rfl, ?_⟩
        have sc5 : SqT K H5 a [V.str "swap", V.int ((n - 1 - c : Nat) : Int)] := by
          have e : ((n - 1 - c : Nat) : Int) = ((n - 1 : Nat) : Int) - (c : Int) := by omega
          rw [e]
          exact Same.sqT (S4.trans S5) sc
        -- row = after(row, deed)
        refine ⟨_, rfl, _, rfl, ?_⟩
        dsimp only [tNil]
        refine ⟨r, a, f, row, n - 1 - c, rfl, (tr.same S5).sq, sc5, by omega, by rw [rr.1]; omega, by rw [rr.1]; exact hn40, fun H6 r2 S6 hr2 tr2 => ?_⟩
        have S36 : Same H3 H6 := S4.trans (S5.trans S6)
        refine ⟨_, rfl, fo, rfl, ?_⟩
        cases fo with
        | false =>
          refine iteF (iteF ?_)
          exact ⟨r2, _, _, _, rfl, S36, tr2, f3, f6⟩
        | true =>
          refine iteT ?_
          refine ⟨_, rfl, _, rfl, _, rfl, rfl, rfl, ?_⟩
          refine ⟨r2, t, f, swp row (n - 1 - c), q, span, some (x1, y1), rfl, tr2, Same.sqT (S03.trans S36) ht, by rw [f3.1]; exact inj, by rw [f3.1]; exact ff, by rw [f3.1]; exact hn1, f4, fun H7 fa2 fb2 as2 S7 ea2 eb2 da2 => ?_⟩
          refine ⟨fa2, _, 0, V.int x1, rfl, rfl, .inl (.inl ea2), rfl, _, rfl, _, _, rfl, rfl, _, rfl, _, _, rfl, rfl, rfl, _, rfl, iteNS (by rw [f5]) ?_⟩
          exact ⟨r2, _, _, _, rfl, S36.trans S7, tr2.same S7, f3, f6⟩
      · obtain ⟨r, row, z6, z7, rfl, S4, tr, rr, hf⟩ := h
        rw [List.length_map, List.drop_of_length_le (by rw [hcl, hal]; exact Nat.le_refl _)] at hf
        have hrq : row = q := of_decide_eq_true hf
        subst hrq
        have S04 := S03.trans S4
        have hdp : ∀ H' : Hp, DpAll K H' (enc f row) ((row.map f).map PyData.str) := fun H' => by
          rw [enc_eq]
          exact dp_strs _
        refine ⟨_, rfl, _, rfl, _, _, .tup tr.sq (hdp _), .tup (Same.sqT S04 ht) (hdp _), sh_tup _ (fine_map ff rr.2), sh_tup _ (fine_map ff rr.2), ?_⟩
        have ev : PyData.eqv (.tuple ((row.map f).map PyData.str)) (.tuple ((row.map f).map PyData.str)) = true := (eqv_strs (row.map f) (row.map f)).trans (decide_eq_true rfl)
        rw [ev]
        exact k _ S04
end
end K95P
end

section
set_option Elab.async false
set_option linter.all false
set_option maxRecDepth 100000
set_option maxHeartbeats 4000000
/-! K95Q: what the closed checks say; the texts of a row; heaps. -/
namespace K95P
open PySem PyProof.Rows L2 K95R K95D K95T K95V K95H K95
/-! ### what the closed check says -/
theorem ok_parts {n span : Nat} (h : okAll n span = true) : (levels n (min n (span + 1))).2 = [] ∧ (∀ e ∈ (levels n (min n (span + 1))).1, rightM n span e.1 e.2 = true) ∧ (∀ e ∈ (levels n (min n (span + 1))).1, (e.2 : Int) ≤ most (min n (span + 1) : Nat)) ∧
    (∃ e ∈ (levels n (min n (span + 1))).1, (e.2 : Int) = most (min n (span + 1) : Nat)) ∧ (levels n (min n (span + 1))).1.length ≤ 120 ∧ (∀ e ∈ (levels n (min n (span + 1))).1, look (levels n (min n (span + 1))).1 e.1 = some e.2) ∧ (n ≤ min n (span + 1) ∨ leastM (List.range n) (7 :: (List.range n).drop 1) span = some none) := by
  unfold okAll at h
  simp only [Bool.and_eq_true, Bool.or_eq_true, decide_eq_true_eq, List.all_eq_true, List.any_eq_true] at h
  obtain ⟨⟨⟨⟨⟨⟨h1, h2⟩, h3⟩, h4⟩, h5⟩, h7⟩, h6⟩ := h
  refine ⟨h1, h2, h3, h4, h5, h7, ?_⟩
  rcases h6 with h6 | h6
  · exact .inl h6
  · refine .inr ?_
    cases e : leastM (List.range n) (7 :: (List.range n).drop 1) span with
    | none => rw [e] at h6; cases h6
    | some a =>
      rw [e] at h6
      cases a with
      | none => rfl
      | some x => cases h6
/-! ### taking one out of a list -/
theorem map_erase {α β : Type} (f : α → β) : ∀ (l : List α) (i : Nat), (l.map f).eraseIdx i = (l.eraseIdx i).map f
  | [], _ => rfl
  | _ :: _, 0 => rfl
  | x :: l, i + 1 => by
    show f x :: (l.map f).eraseIdx i = f x :: (l.eraseIdx i).map f
    rw [map_erase f l i]
theorem erase_perm {α : Type} : ∀ {l : List α} {i : Nat} {x : α}, l[i]? = some x → (x :: l.eraseIdx i).Perm l
  | [], _, _, h => by cases h
  | y :: l, 0, x, h => by
    cases h
    exact List.Perm.refl _
  | y :: l, i + 1, x, h => by
    have ih := erase_perm (l := l) (i := i) (x := x) h
    show (x :: y :: l.eraseIdx i).Perm (y :: l)
    exact (List.Perm.swap y x _).trans (ih.cons y)
/-! ### the texts of a row -/
def names : List Str := ["a", "b", "c", "d", "e", "ab", "zz"]
theorem names_nodup : names.Nodup := by decide +kernel
theorem names_new : ("new" : Str) ∉ names := by decide +kernel
theorem names_ok : ∀ t ∈ names, PyData.strOk t = true := by decide +kernel
def tx (ps : List Str) (i : Nat) : Str := if i = 7 then "new" else ps.getD i ""
theorem tx_enc {ps : List Str} (h : ps.length ≤ 7) : enc (tx ps) (List.range ps.length) = ps.map V.str := by
  refine List.ext_getElem (by rw [List.length_map, List.length_map, List.length_range]) fun i h1 h2 => ?_
  rw [List.length_map, List.length_range] at h1
  rw [List.getElem_map, List.getElem_map, List.getElem_range]
  unfold tx
  rw [if_neg (by omega), List.getD_eq_getElem?_getD, List.getElem?_eq_getElem h1]
  rfl
theorem tx_in {ps : List Str} {i : Nat} (h : ps.length ≤ 7) (hi : i < ps.length) : tx ps i ∈ ps := by
  unfold tx
  rw [if_neg (by omega), List.getD_eq_getElem?_getD, List.getElem?_eq_getElem hi]
  exact List.getElem_mem hi
theorem tx_inj {ps : List Str} (h : ps.length ≤ 7) (hn : ps.Nodup) (hm : ∀ t ∈ ps, t ∈ names) : Inj (tx ps) ps.length := by
  intro i j hi hj e
  have ci : i < ps.length ∨ i = 7 := by
    have : (decide (i < ps.length) || decide (i = 7)) = true := hi
    simpa using this
  have cj : j < ps.length ∨ j = 7 := by
    have : (decide (j < ps.length) || decide (j = 7)) = true := hj
    simpa using this
  have h7 : tx ps 7 = "new" := by
    unfold tx
    rw [if_pos rfl]
  rcases ci with ci | rfl
  · rcases cj with cj | rfl
    · unfold tx at e
      rw [if_neg (by omega), if_neg (by omega), List.getD_eq_getElem?_getD, List.getD_eq_getElem?_getD, List.getElem?_eq_getElem ci, List.getElem?_eq_getElem cj] at e
      have pw := List.pairwise_iff_getElem.mp hn
      rcases Nat.lt_trichotomy i j with q | q | q
      · exact absurd e (pw i j ci cj q)
      · exact q
      · exact absurd e.symm (pw j i cj ci q)
    · rw [h7] at e
      exact absurd (e ▸ hm _ (tx_in h ci)) names_new
  · rcases cj with cj | rfl
    · rw [h7] at e
      exact absurd (e.symm ▸ hm _ (tx_in h cj)) names_new
    · rfl
theorem tx_fine {ps : List Str} (h : ps.length ≤ 7) (hm : ∀ t ∈ ps, t ∈ names) : FineF (tx ps) ps.length := by
  intro i hi
  have ci : i < ps.length ∨ i = 7 := by
    have : (decide (i < ps.length) || decide (i = 7)) = true := hi
    simpa using this
  rcases ci with ci | rfl
  · exact names_ok _ (hm _ (tx_in h ci))
  · unfold tx
    rw [if_pos rfl]
    decide +kernel
/-! ### what a write at the pen leaves -/
theorem Others.trans {P : Addr} {H H1 H2 : Hp} (h : Others P H H1) (k : Others P H1 H2) : Others P H H2 := fun b u hb e => k b u hb (h b u hb e)
theorem Others.of {P : Addr} {H H1 : Hp} (s : Same H H1) : Others P H H1 := fun b u _ e => s b u e
theorem TupN.ot {P a : Addr} {H H1 : Hp} {xs ys : List V} (t : TupN H a xs) (hp : H P = some (.lst ys)) (o : Others P H H1) : TupN H1 a xs := by
  obtain ⟨ob, e, d⟩ := t
  exact ⟨ob, o a _ (fun c => by subst c; rw [e] at hp; exact nomatch hp) e, d⟩
theorem SqT.ot {K : PySem.W.Frag} {P a : Addr} {H H1 : Hp} {xs ys : List V} (t : SqT K H a xs) (hp : H P = some (.lst ys)) (o : Others P H H1) : SqT K H1 a xs := by
  rcases t with (h | ⟨u, h⟩) | h
  · exact .inl (.inl (o a _ (fun c => by subst c; rw [h] at hp; exact nomatch hp) h))
  · exact .inl (.inr ⟨u, o a _ (fun c => by subst c; rw [h] at hp; exact nomatch hp) h⟩)
  · exact .inr h
theorem PenOk.same {H H1 : Hp} {P c : Addr} {ns : List Int} {n : Nat} (p : PenOk H P c ns n) (s : Same H H1) : PenOk H1 P c ns n := by
  obtain ⟨i, rest, h1, h2, h3⟩ := p
  exact ⟨i, rest, s _ _ h1, s _ _ h2, h3⟩
theorem PenOk.mono {H : Hp} {P c : Addr} {ns : List Int} {n m : Nat} (p : PenOk H P c ns n) (h : n ≤ m) : PenOk H P c ns m := by
  obtain ⟨i, rest, h1, h2, h3, h4, h5, h6⟩ := p
  exact ⟨i, rest, h1, h2, h3, h4, h5, Nat.le_trans h6 h⟩
theorem PenOk.at {H : Hp} {P c : Addr} {ns : List Int} {n : Nat} (p : PenOk H P c ns n) : ∃ ys, H P = some (.lst ys) := by
  obtain ⟨i, rest, h1, _⟩ := p
  exact ⟨_, h1⟩
theorem PenOk.wr {H : Hp} {P c l : Addr} {ns : List Int} {n : Nat} {o : HO} (p : PenOk H P c ns n) (h1 : P ≠ l) (h2 : c ≠ l) : PenOk (upd H l o) P c ns n := by
  obtain ⟨i, rest, e1, e2, h3⟩ := p
  exact ⟨i, rest, by rw [upd_ne h1]; exact e1, by rw [upd_ne h2]; exact e2, h3⟩
/-- a dict locked for a while -/
theorem lock_same {H H' : Hp} {d : Addr} {u : HO} {od : Obj} (e : H d = some u) (s : Same (upd H d (.frz od u)) H') : Same H (upd H' d u) := fun b o h => by
  by_cases c : b = d
  · subst c
    rw [upd_same]
    rw [e] at h
    exact h
  · rw [upd_ne c]
    exact s b o (by rw [upd_ne c]; exact h)
end K95P
end

section
set_option Elab.async false
set_option linter.all false
set_option maxRecDepth 100000
set_option maxHeartbeats 4000000
/-! K95L5: law. -/
namespace K95P
open PySem PyProof.Rows L2 K95R K95D K95T K95V K95H K95
section
variable {P : Program} {w : World} {K : PySem.W.Frag} {mg : Str → Option Value} {base : Heap}
def spLaw (K : PySem.W.Frag) : Sp := fun vs H Q _ => ∃ (s : Addr) (ns : List Int), vs = [.ref s] ∧ SqL K H s (ns.map V.int) ∧ ∀ H', Q (.bl true) H'
abbrev NL : List Str := ["_law_script", "_law_pen_here", "_law_names", "_law_span", "_law_size", "_law_left", "_law_k", "_law_row", "_law_high", "_law_found", "_law_goal", "_law_start"]
theorem scLaw : FnScope ["_law_script", "_law_pen_here", "_law_names", "_law_span", "_law_size", "_law_left", "_law_k", "_law_row", "_law_high", "_law_found", "_law_goal", "_law_start"] ["_law_script"] (defScope sLaw) := ⟨rfl, rfl, rfl, by decide +kernel, rfl, by decide +kernel, by decide +kernel⟩
theorem FndAt.get {f : Nat → Str} {H : Hp} : ∀ {es : List Ent} {fs : Fnd} {i : Nat} {e : Ent}, FndAt f H es fs → es[i]? = some e → ∃ m, fs[i]? = some m ∧ e.1 = (m.1.map f).map Sum.inr ∧ TupN H e.2.1 (enc f m.1)
  | _, _, 0, _, .cons h r, e => by cases e; exact ⟨_, rfl, h.1, h.2.2⟩
  | _, _, i + 1, _, .cons h r, e => FndAt.get (i := i) r e
theorem FndAt.ot {f : Nat → Str} {P : Addr} {H H1 : Hp} {es : List Ent} {fs : Fnd} {ys : List V} (h : FndAt f H es fs) (hp : H P = some (.lst ys)) (o : Others P H H1) : FndAt f H1 es fs := Paired.mapP h fun _ _ t => ⟨t.1, t.2.1, TupN.ot t.2.2 hp o⟩
/-- between two turns of the for over the reaches -/
def TurnI (K : PySem.W.Frag) (H : Hp) (s pen c nm tp : Addr) (ns : List Int) (i : Nat) (σ : L2.St) (H' : Hp) : Prop := ∃ z3 z4 z5 z6 z7 z8 z9 z10 z11 : Option V, σ = [some (.ref s), some (.ref pen), some (.ref nm), z3, z4, z5, z6, z7, z8, z9, z10, z11] ∧
  Same H H' ∧ PenOk H' pen c ns (10 * i) ∧ H' nm = some (.lst (names.map V.str)) ∧ SqT K H' tp [V.int 2, V.int 3, V.int 4]
theorem ok_law {f gP gK gL gM gR gS : Addr} {fd dP dK dL dM dR dS : FuncData} (F : Fun K "law" "law" sLaw f fd) (T : Bi mg)
    (GP : FnOk P w K mg base CX0 1 gP dP ["_law_script"] (spPen K)) (kP : PySem.W.keepIn K (.ref gP) = true) (mP : mg "_law_pen" = some (.ref gP)) (bP : Binds K dP ["_law_script"] [])
    (GK : FnOk P w K mg base CX0 1 gK dK ["_law_pen_here", "_law_upto"] spPick) (kK : PySem.W.keepIn K (.ref gK) = true) (mK : mg "_law_pick" = some (.ref gK)) (bK : Binds K dK ["_law_pen_here", "_law_upto"] [])
    (GL : FnOk P w K mg base CX0 2 gL dL ["_law_row", "_law_high"] (spLevels P w K)) (kL : PySem.W.keepIn K (.ref gL) = true) (mL : mg "_law_levels" = some (.ref gL)) (bL : Binds K dL ["_law_row", "_law_high"] [])
    (GM : FnOk P w K mg base CX0 1 gM dM ["cells"] spMost) (kM : PySem.W.keepIn K (.ref gM) = true) (mM : mg "most_swaps" = some (.ref gM)) (bM : Binds K dM ["cells"] []) (bM0 : KBn K dM ["cells"] 0 ["cells"] (fun us ws => us ++ ws) (fun vs zs => vs ++ zs))
    (GR : FnOk P w K mg base CX0 5 gR dR ["_law_row", "_law_goal", "_law_span", "_law_due", "_law_is_followed"] (spRight K)) (kR : PySem.W.keepIn K (.ref gR) = true) (mR : mg "_law_right" = some (.ref gR)) (bR : Binds K dR ["_law_row", "_law_goal", "_law_span", "_law_due", "_law_is_followed"] [])
    (GS : FnOk P w K mg base CX0 4 gS dS ["stack", "target", "reach"] (spLeast K)) (kS : PySem.W.keepIn K (.ref gS) = true) (mS : mg "least_swaps" = some (.ref gS)) (bS : KwR K dS) :
    FnOk P w K mg base CX0 6 f fd ["_law_script"] (spLaw K) := by
  refine F.ok scLaw (fun vs H Q E h => ?_) (fun cdv A outer s H vs Q E hr h => ?_)
  · obtain ⟨s, ns, rfl, _⟩ := h
    rfl
  · obtain ⟨s, ns0, rfl, hs, k⟩ := h
    have hu := hu_of hr
    have hr1 : Room 1 _ := hr.mono (by decide)
    have hr2 : Room 2 _ := hr.mono (by decide)
    have hr4 : Room 4 _ := hr.mono (by decide)
    refine ⟨_, pss_cons (ps_set (i := 1) scLaw.nd rfl (Or.inr rfl) (pe_call GP hr1 rfl mP kP bP .nil pass0 (pa_cons (pv 0) pa_nil)))
      (pss_cons (ps_set (i := 2) scLaw.nd rfl (Or.inl rfl) (pe_lst (pa_cons pe_str (pa_cons pe_str (pa_cons pe_str (pa_cons pe_str (pa_cons pe_str (pa_cons pe_str (pa_cons pe_str pa_nil)))))))))
      (pss_cons (ps_for PassesOwn.never rfl (pi_tup (pe_tup (pa_cons pe_int (pa_cons pe_int (pa_cons pe_int pa_nil))))) (pg_name (i := 3) scLaw.nd rfl (Or.inl rfl))
        (pss_cons (ps_set (i := 4) scLaw.nd rfl (Or.inl rfl) (pe_op op_add pe_int (pe_call GK hr1 rfl mK kK bK .nil pass0 (pa_cons (pv 1) (pa_cons pe_int pa_nil)))))
        (pss_cons (ps_set (i := 5) scLaw.nd rfl (Or.inr rfl) (pe_slice sl_list (pv 2) po_none (po_some (pv 4))))
        (pss_cons (ps_set (i := 7) scLaw.nd rfl (Or.inl rfl) (pe_callTy cr_tupleN (by rfl) T.tuple (by decide +kernel) (pa_cons (pe_lc (own := [("_law_k", 6)]) (g := gName 6) (tt := tYes)
            (te := tBM K "list" rPopAt (tVar 5) (tCons (tCall spPick [] E0 (tCons (tVar 1) (tCons (tCB (lenR K) (tCons (tVar 5) tNil)) tNil))) tNil)) rfl scLaw.nd (pi_range1 rfl T.range (pa_cons (pv 4) pa_nil)) (blkOk_by (N := NL) (sc := defScope sLaw) (by decide +kernel))
            (fun _ _ _ _ _ => pg_name (i := 6) scLaw.nd rfl (Or.inl rfl)) (fun _ _ _ _ _ => pts_nil)
            (fun _ _ _ _ _ => pe_bm PySem.F.plainAttrs_list PySem.F.slot_list_pop PySem.F.type_list_pop mt_popAt (pv 5) (pa_cons (pe_call GK hr1 rfl mK kK bK .nil pass0 (pa_cons (pv 1) (pa_cons (pe_callB call_len_seq (by rfl) T.len PySem.boot_len (pa_cons (pv 5) pa_nil)) pa_nil))) pa_nil))) pa_nil)))
        (pss_cons (ps_set (i := 8) scLaw.nd rfl (Or.inl rfl) (pe_callB (call_min2 rfl) (by rfl) T.min (by decide +kernel) (pa_cons (pv 4) (pa_cons (pe_op op_add (pv 3) pe_int) pa_nil))))
        (pss_cons (ps_set (i := 9) scLaw.nd rfl (Or.inr rfl) (pe_call GL hr2 rfl mL kL bL .nil pass0 (pa_cons (pv 7) (pa_cons (pv 8) pa_nil))))
        (pss_cons (ps_if (PW.pt (pw_or (pt_cmpR op_ne (pe_lock (pe_callB (cr_max rfl) (by rfl) T.max (by decide +kernel) (pa_cons (pe_lc (own := [("_law_goal", 10)]) (g := gName 10) (tt := tYes) (te := tXGet P w K (tVar 9) (tVar 10)) rfl scLaw.nd (pi_X (pv 9)) (blkOk_by (N := NL) (sc := defScope sLaw) (by decide +kernel))
              (fun _ _ _ _ _ => pg_name (i := 10) scLaw.nd rfl (Or.inl rfl)) (fun _ _ _ _ _ => pts_nil) (fun _ _ _ _ _ => pe_xget hu (pv 9) (pv 10) (fun _ _ => rfl))) pa_nil))) (pe_call GM hr1 rfl mM kM bM .nil pass0 (pa_cons (pv 8) pa_nil)) (nomark _))
            (pw_or1 (pt_cmpR op_ne (pe_callN0 GM hr1 rfl mM kM bM0 pass0 (pk_cons (pv 8) pk_nil)) (pe_call GM hr1 rfl mM kM bM .nil pass0 (pa_cons (pv 8) pa_nil)) (nomark _)))))
          (pss_one (ps_ret pe_bl)) pss_nil)
        (pss_cons (ps_set (i := 11) scLaw.nd rfl (Or.inl rfl) (pe_call GK hr1 rfl mK kK bK .nil pass0 (pa_cons (pv 1) (pa_cons (pe_callB call_len_x (by rfl) T.len PySem.boot_len (pa_cons (pv 9) pa_nil)) pa_nil))))
        (pss_cons (ps_for PassesOwn.never rfl (pi_enum rfl T.enumerate (pa_cons (pe_callB (cr_sortedX rfl) (by rfl) T.sorted (by decide +kernel) (pa_cons (pv 9) pa_nil)) pa_nil)) (pg_tup rfl (pgs_cons (pg_name (i := 6) scLaw.nd rfl (Or.inl rfl)) (pgs_cons (pg_name (i := 10) scLaw.nd rfl (Or.inl rfl)) pgs_nil)))
          (pss_one (ps_if (pt_not (pt_val (pe_call GR hr rfl mR kR bR .nil pass0 (pa_cons (pv 7) (pa_cons (pv 10) (pa_cons (pv 3) (pa_cons (pe_xget hu (pv 9) (pv 10) (fun _ _ => rfl)) (pa_cons (pe_cmp (pc_lt (pe_op op_mod (pe_op op_sub (pv 6) (pv 11)) (pe_callB call_len_x (by rfl) T.len PySem.boot_len (pa_cons (pv 9) pa_nil))) pe_int)) pa_nil))))))))
            (pss_one (ps_ret pe_bl)) pss_nil)))
        (pss_one (ps_if (PW.pt (pw_and (pt_cmp (pc_gt (pv 4) (pv 8))) (pw_and1 (pt_cmp (pc_notN (pe_callN GS hr4 rfl mS kS bS pass0 (pa_cons (pv 7) (pa_cons (pe_op op_catA (pe_tup (pa_cons pe_str pa_nil)) (pe_slice sl_tupA (pv 7) (po_some pe_int) po_none)) pa_nil)) (pk_cons (pv 3) pk_nil)))))))
          (pss_one (ps_ret pe_bl)) pss_nil)))))))))))
      (pss_one (ps_ret (pe_cmpR (op_eqD hr.units)
        (pe_lc (own := [("_law_high", 8)]) (g := gName 8) (tt := tYes) (te := tCall spMost [] E0 (tCons (tVar 8) tNil)) rfl scLaw.nd (pi_range2 rfl T.range (pa_cons pe_int (pa_cons pe_int pa_nil))) (blkOk_by (N := NL) (sc := defScope sLaw) (by decide +kernel))
          (fun _ _ _ _ _ => pg_name (i := 8) scLaw.nd rfl (Or.inl rfl)) (fun _ _ _ _ _ => pts_nil) (fun _ _ _ _ _ => pe_call GM hr1 rfl mM kM bM .nil pass0 (pa_cons (pv 8) pa_nil)))
        (pe_lc (own := [("_law_high", 8)]) (g := gName 8) (tt := tYes) (te := tOp (rI CDiv fun i j => .int (i / j)) (tOp (rI CMul fun i j => .int (i * j)) (tC (.int 3)) (tVar 8)) (tC (.int 2))) rfl scLaw.nd (pi_range1 rfl T.range (pa_cons pe_int pa_nil)) (blkOk_by (N := NL) (sc := defScope sLaw) (by decide +kernel))
          (fun _ _ _ _ _ => pg_name (i := 8) scLaw.nd rfl (Or.inl rfl)) (fun _ _ _ _ _ => pts_nil) (fun _ _ _ _ _ => pe_op op_fdiv (pe_op op_mul pe_int (pv 8)) pe_int)) (nomark _)))))), ?_⟩
    -- pen, names
    refine ⟨_, rfl, ?_⟩
    dsimp only [tNil]
    refine ⟨s, ns0, rfl, hs, fun H1 pen c ns S1 hpen hc pk => ?_⟩
    refine ⟨by show 7 ≤ sizeLine; decide, fun nm hnm => ?_⟩
    have S2 : Same H1 (upd H1 nm (.lst (names.map V.str))) := Same.lay hnm
    have n2 : (upd H1 nm (.lst (names.map V.str))) nm = some (.lst (names.map V.str)) := upd_same
    have nnm : H nm = none := S1.free hnm
    have nmp : nm ≠ pen := fun e => by
      obtain ⟨ys, e1⟩ := pk.at
      rw [← e, hnm] at e1
      cases e1
    show tSeq _ _ _ _ (upd H1 nm (.lst (names.map V.str)))
    generalize upd H1 nm (.lst (names.map V.str)) = H2 at S2 n2 ⊢
    refine ⟨by show 3 ≤ sizeLine; decide, fun tp htp => ?_⟩
    have S3 : Same H2 (upd H2 tp (.tup [V.int 2, V.int 3, V.int 4])) := Same.lay htp
    have t3 : SqT K (upd H2 tp (.tup [V.int 2, V.int 3, V.int 4])) tp [V.int 2, V.int 3, V.int 4] := .inl (.inl upd_same)
    generalize upd H2 tp (.tup [V.int 2, V.int 3, V.int 4]) = H3 at S3 t3 ⊢
    have S03 : Same H H3 := S1.trans (S2.trans S3)
    refine ⟨tp, rfl, ⟨_, t3⟩, ?_⟩
    refine for_tup (K := K) (xs := [V.int 2, V.int 3, V.int 4]) (TurnI K H s pen c nm tp ns) ⟨none, none, none, none, none, none, none, none, none, rfl, S03, (pk.same S2).same S3, S3 _ _ n2, t3⟩ (fun i σ H' _ h => ?_) (fun i x σ H' hx h => ?_) (fun σ H' h => ?_)
    · obtain ⟨_, _, _, _, _, _, _, _, _, _, _, _, _, t⟩ := h
      exact t
    · obtain ⟨z3, z4, z5, z6, z7, z8, z9, z10, z11, rfl, S4, pk4, n4, t4⟩ := h
      have hi3 : i < 3 := (List.getElem?_eq_some_iff.mp hx).1
      obtain ⟨span, rfl, hspan⟩ : ∃ span : Nat, x = V.int (span : Int) ∧ span ∈ [2, 3, 4] := by
        have hc : i = 0 ∨ i = 1 ∨ i = 2 := by omega
        rcases hc with rfl | rfl | rfl
        · exact ⟨2, (Option.some.inj hx).symm, by decide⟩
        · exact ⟨3, (Option.some.inj hx).symm, by decide⟩
        · exact ⟨4, (Option.some.inj hx).symm, by decide⟩
      have hsp4 : span ≤ 4 := by
        have := hspan
        simp only [List.mem_cons, List.not_mem_nil, or_false] at this
        omega
      obtain ⟨ys4, p4⟩ := pk4.at
      -- size = 1 + pick(pen, 7)
      refine ⟨_, rfl, ?_⟩
      dsimp only [tNil]
      refine ⟨pen, c, ns, 7, 10 * i, rfl, by decide, by decide, pk4, by omega, fun Ha r0 hr0 oa pka => ?_⟩
      refine ⟨_, _, rfl, rfl, ?_⟩
      dsimp only [gName]
      have esz : (1 : Int) + (r0 : Int) = ((1 + r0 : Nat) : Int) := by omega
      rw [esz]
      obtain ⟨n, hn⟩ : ∃ n, n = 1 + r0 := ⟨_, rfl⟩
      rw [← hn]
      have hn1 : 1 ≤ n := by omega
      have hn7 : n ≤ 7 := by omega
      have na := oa nm _ nmp n4
      have ta := SqT.ot t4 p4 oa
      have Sa : Same H Ha := fun b o e => oa b o (fun c => by subst c; rw [hpen] at e; cases e) (S4 b o e)
      -- left = names[:size]
      refine ⟨_, rfl, ?_⟩
      dsimp only [tNoPart]
      refine ⟨_, rfl, _, rfl, nm, _, rfl, SqL.of na, fun L hL => ?_⟩
      have e0 : cutV (names.map V.str) none (some (n : Int)) = (names.take n).map V.str := by rw [cut_to, List.map_take]
      rw [e0]
      have SL : Same Ha (upd Ha L (.lst ((names.take n).map V.str))) := Same.lay hL
      have eL : (upd Ha L (.lst ((names.take n).map V.str))) L = some (.lst ((names.take n).map V.str)) := upd_same
      generalize upd Ha L (.lst ((names.take n).map V.str)) = Hb at SL eL ⊢
      have pkb := pka.same SL
      have penL : pen ≠ L := fun e => by
        obtain ⟨ys, e1⟩ := pka.at
        rw [e, hL] at e1
        cases e1
      have cL : c ≠ L := fun e => by
        obtain ⟨_, _, _, e1, _⟩ := pka
        rw [e, hL] at e1
        cases e1
      -- row = tuple([left.pop(pick(pen, len(left))) for k in range(size)])
      refine ⟨_, rfl, (n : Int), rfl, by omega, by omega, fun D hD => ?_⟩
      have penD : pen ≠ D := fun e => by
        obtain ⟨ys, e1⟩ := pkb.at
        rw [e, hD] at e1
        cases e1
      have cD : c ≠ D := fun e => by
        obtain ⟨_, _, _, e1, _⟩ := pkb
        rw [e, hD] at e1
        cases e1
      have LD : L ≠ D := fun e => by
        rw [e, hD] at eL
        cases eL
      have lnm : names.length = 7 := rfl
      show ∃ W, _
      refine lc_range (lo := 0) (n := n) (fun j H' => ∃ (rem ps : List Str), Others pen Ha H' ∧ H' L = some (.lst (rem.map V.str)) ∧ H' D = some (.lst (ps.map V.str)) ∧ PenOk H' pen c ns (10 * i + 1 + j) ∧ (ps ++ rem).Perm (names.take n) ∧ ps.length = j ∧ rem.length + j = n)
        ⟨names.take n, [], Others.of (Same.upd SL (SL.free hD)), by rw [upd_ne LD]; exact eL, upd_same, pkb.wr penD cD, List.Perm.refl _, rfl, by rw [List.length_take, lnm]; omega⟩ (fun j H' hj h => ?_) (fun Hc h => ?_)
      · obtain ⟨rem, ps, oc, rL, rD, rpk, rp, rl, rr⟩ := h
        refine ⟨rfl, ?_⟩
        dsimp only [tYes]
        refine iteT ?_
        refine ⟨_, rfl, .inl ⟨rfl, _, SqL.of rL⟩, _, rfl, _, rfl, L, _, rfl, .inl (SqL.of rL), ?_⟩
        dsimp only [tNil]
        have hrl : (rem.map V.str).length = rem.length := List.length_map ..
        refine ⟨pen, c, ns, rem.length, 10 * i + 1 + j, by rw [hrl]; rfl, by omega, by omega, rpk, by omega, fun Hd r1 hr1' od pkd => ?_⟩
        have LpN : L ≠ pen := fun e => penL e.symm
        have DpN : D ≠ pen := fun e => penD e.symm
        have dL := od L _ LpN rL
        have dD := od D _ DpN rD
        have hat : rem[r1]? = some (rem.getD r1 "") := by
          rw [List.getElem?_eq_getElem hr1', List.getD_eq_getElem?_getD, List.getElem?_eq_getElem hr1']
          rfl
        refine ⟨L, rem.map V.str, (r1 : Int), r1, V.str (rem.getD r1 ""), rfl, rfl, dL, by omega, by omega, ?_, by rw [List.getElem?_map, hat]; rfl, ?_⟩
        · rw [PySem.seqIndex_of (by omega) (by rw [hrl]; omega)]
          rfl
        · rw [map_erase]
          have elen : (rem.eraseIdx r1).length + 1 = rem.length := by
            rw [List.length_eraseIdx, if_pos hr1']
            omega
          refine ⟨ps.map V.str, by rw [upd_ne (fun e => LD e.symm)]; exact dD, by rw [List.length_map]; exact small1000 (by omega), rem.eraseIdx r1, ps ++ [rem.getD r1 ""], fun b o hb e => ?_, by rw [upd_ne LD, upd_same], by rw [upd_same, List.map_append]; rfl, ?_, ?_, by rw [List.length_append, rl]; rfl, by omega⟩
          · have nbL : b ≠ L := fun q => by subst q; rw [hL] at e; cases e
            have nbD : b ≠ D := fun q => by subst q; rw [SL.free hD] at e; cases e
            rw [upd_ne nbD, upd_ne nbL]
            exact od b o hb (oc b o hb e)
          · exact ((pkd.wr penL cL).wr penD cD).mono (by omega)
          · rw [List.append_assoc]
            exact ((erase_perm hat).append_left ps).trans rp
      · obtain ⟨rem, ps, oc, rL, rD, rpk, rp, rl, rr⟩ := h
        have hrem : rem = [] := List.length_eq_zero_iff.mp (by omega)
        subst hrem
        rw [List.append_nil] at rp
        have hps : ps.length ≤ 7 := by omega
        have hpn : ps.Nodup := rp.nodup_iff.mpr (List.Nodup.sublist (List.take_sublist _ _) names_nodup)
        have hpm : ∀ t ∈ ps, t ∈ names := fun t ht => List.mem_of_mem_take (rp.mem_iff.mp ht)
        have eenc : ps.map V.str = enc (tx ps) (List.range n) := by rw [← rl]; exact (tx_enc hps).symm
        have inj : Inj (tx ps) n := by rw [← rl]; exact tx_inj hps hpn hpm
        have ff : FineF (tx ps) n := by rw [← rl]; exact tx_fine hps hpm
        have lr : (List.range n).length = n := List.length_range ..
        -- the row's tuple
        refine ⟨D, _, rfl, SqL.of rD, fun ra ob hra hob => ?_⟩
        rw [eenc]
        have Sr : Same Hc (upd Hc ra (.frz ob (.tup (enc (tx ps) (List.range n))))) := Same.lay hra
        have tr : TupN (upd Hc ra (.frz ob (.tup (enc (tx ps) (List.range n))))) ra (enc (tx ps) (List.range n)) := TupN.new hob
        generalize upd Hc ra (.frz ob (.tup (enc (tx ps) (List.range n)))) = Hr at Sr tr ⊢
        have pkr := rpk.same Sr
        obtain ⟨okl, okr, okm, okx, ok120, lk, okn⟩ := ok_parts (ok_of hn1 hn7 hspan)
        -- high = min(size, span + 1)
        refine ⟨_, rfl, _, rfl, _, _, rfl, rfl, _, _, rfl, ?_⟩
        dsimp only [gName]
        have eh : (if (span : Int) + 1 < (n : Int) then (span : Int) + 1 else (n : Int)) = ((min n (span + 1) : Nat) : Int) := by split <;> omega
        rw [eh]
        have hh1 : 1 ≤ min n (span + 1) := by omega
        have hhn : min n (span + 1) ≤ n := by omega
        generalize min n (span + 1) = high at okl okr okm okx ok120 okn lk hh1 hhn ⊢
        -- found = levels(row, high)
        refine ⟨_, rfl, _, rfl, ?_⟩
        dsimp only [tNil]
        refine ⟨ra, tx ps, n, high, rfl, tr, hn1, by omega, hh1, hhn, inj, ff, okl, ok120, fun Hf d es Sf hd ed fa => ?_⟩
        generalize (levels n high).1 = fs at okr okm okx ok120 lk fa
        have hes : es.length = fs.length := Paired.length fa
        have hrow : ∀ e ∈ fs, Row n e.1 := fun e he => by
          obtain ⟨cells, hls, _⟩ := right_some (okr e he)
          obtain ⟨q1, q2⟩ := least_row hls
          rw [lr] at q1 q2
          exact ⟨q1.symm, q2⟩
        have hval : ∀ (e : Ent) (m : List Nat × Nat), m ∈ fs → e.1 = (m.1.map (tx ps)).map Sum.inr → valX es e.1 = some (V.int (m.2 : Int)) := fun e m hm he => by
          rw [he, val_look inj (hrow m hm).2 fa hrow, lk m hm]
          rfl
        have pkf := pkr.same Sf
        have penf := pkf.at
        have dpen : d ≠ pen := fun q => by
          obtain ⟨ys, e1⟩ := penf
          rw [← q, ed] at e1
          exact nomatch e1
        have trf := tr.same Sf
        -- if max([found[goal] for goal in found]) != most_swaps(high) or ..
        refine ⟨d, _, ed, trivial, fun od => ?_⟩
        have kL : ∀ b, b ≠ d → (upd Hf d (.frz od (DXO P w d es))) b = Hf b := fun b hb => upd_ne hb
        have eLd : (upd Hf d (.frz od (DXO P w d es))) d = some (.frz od (DXO P w d es)) := upd_same
        have SLk : ∀ H', Same (upd Hf d (.frz od (DXO P w d es))) H' → Same Hf (upd H' d (DXO P w d es)) := fun H' q => lock_same ed q
        generalize upd Hf d (.frz od (DXO P w d es)) = HL at kL eLd SLk ⊢
        have faL : FndAt (tx ps) HL es fs := FndAt.oth fa ed kL
        refine ⟨_, rfl, d, od, es, rfl, eLd, fun D2 hD2 => ?_⟩
        refine lc_it walk_X (fun j H' => Same HL H' ∧ H' D2 = some (.lst (((fs.take j).map fun (m : List Nat × Nat) => (m.2 : Int)).map V.int))) ⟨Same.lay hD2, upd_same⟩ (fun j H' _ h => h.1 _ _ eLd) (fun j x H5 H6 hj h hy => ?_) (fun H5 h => ?_)
        · obtain ⟨S5, e5⟩ := h
          obtain ⟨rfl, e, he, rfl⟩ := hy
          obtain ⟨m, hm, q1, q2⟩ := FndAt.get faL he
          refine ⟨rfl, ?_⟩
          dsimp only [tYes]
          refine iteT ?_
          refine ⟨_, rfl, _, rfl, d, es, e.1, V.int (m.2 : Int), rfl, ⟨.inr ⟨od, S5 _ _ eLd⟩, FndAt.keys (faL.same S5), e.2.1, rfl, by rw [q1, key_enc]; exact (q2.same S5).sq⟩, hval e m (List.mem_of_getElem? hm) q1, _, e5, ?_, Same.upd S5 hD2, ?_⟩
          · rw [List.length_map, List.length_map, List.length_take]
            exact small1000 (by omega)
          · rw [upd_same, take_snoc hm, List.map_append, List.map_append]
            rfl
        · obtain ⟨S5, e5⟩ := h
          rw [hes, List.take_length] at e5
          obtain ⟨mx, mxin, mxe⟩ := okx
          refine ⟨D2, fs.map fun (m : List Nat × Nat) => (m.2 : Int), rfl, SqL.of e5, by rw [List.length_map]; exact List.length_pos_of_mem mxin, fun m hm hmax => ⟨S5 _ _ eLd, ?_⟩⟩
          have hmm : m = most (high : Int) := by
            obtain ⟨m1, h1, h2⟩ := List.mem_map.mp hm
            have h3 := okm m1 h1
            have h4 := hmax _ (List.mem_map.mpr ⟨mx, mxin, rfl⟩)
            have h4 : (mx.2 : Int) ≤ m := h4
            have h2 : (m1.2 : Int) = m := h2
            omega
          subst hmm
          have S6 := SLk _ S5
          generalize upd H5 d (DXO P w d es) = H6 at S6 ⊢
          refine ⟨_, rfl, ?_⟩
          dsimp only [tNil]
          refine ⟨(high : Int), rfl, by omega, by omega, rfl, _, rfl, iteNS rfl ?_⟩
          refine ⟨_, rfl, rfl, rfl, (high : Int), rfl, by omega, by omega, _, rfl, ?_⟩
          dsimp only [tNil]
          refine ⟨(high : Int), rfl, by omega, by omega, rfl, _, rfl, iteNS rfl ?_⟩
          have ed6 := S6 _ _ ed
          have fa6 := fa.same S6
          have pk6 := pkf.same S6
          have hpos : 1 ≤ fs.length := List.length_pos_of_mem mxin
          -- start = pick(pen, len(found))
          refine ⟨_, rfl, _, rfl, d, es, rfl, .inl ed6, FndAt.keys fa6, ?_⟩
          dsimp only [tNil]
          refine ⟨pen, c, ns, es.length, 10 * i + 1 + n, rfl, by omega, by omega, pk6, by omega, fun H7 r2 hr2' o7 pk7 => ?_⟩
          obtain ⟨ys6, pen6⟩ := pk6.at
          have ed7 := o7 d _ dpen ed6
          have fa7 := FndAt.ot fa6 pen6 o7
          have tr7 := TupN.ot (trf.same S6) pen6 o7
          have o07 : Others pen Ha H7 := (((oc.andS Sr).andS Sf).andS S6).trans o7
          have n7 := o07 nm _ nmp na
          obtain ⟨ysa, pena⟩ := pka.at
          have t7 := SqT.ot ta pena o07
          have S07 : Same H H7 := fun b o e => o07 b o (fun q => by subst q; rw [hpen] at e; cases e) (Sa b o e)
          have done : ∀ (H' : Hp) (z6 z10 : Option V), Same H7 H' → TurnI K H s pen c nm tp ns (i + 1) [some (.ref s), some (.ref pen), some (.ref nm), some (.int (span : Int)), some (.int (n : Int)), some (.ref L), z6, some (.ref ra), some (.int (high : Int)), some (.ref d), z10, some (.int (r2 : Int))] H' := fun H' z6 z10 S =>
            ⟨_, _, _, _, _, _, _, _, _, rfl, S07.trans S, (pk7.same S).mono (by omega), S _ _ n7, Same.sqT S t7⟩
          -- for k, goal in enumerate(sorted(found))
          refine ⟨_, rfl, d, es, rfl, .inl ed7, FndAt.keys fa7, fun e he => ?_, fun p bs hperm hp => ?_⟩
          · obtain ⟨j, hj⟩ := List.getElem?_of_mem he
            obtain ⟨m, hm, q1, _⟩ := FndAt.get fa7 hj
            have hml := (hrow m (List.mem_of_getElem? hm)).1
            cases hm1 : m.1 with
            | nil =>
              rw [hm1] at hml
              have : ([] : List Nat).length = 0 := rfl
              omega
            | cons y ys => exact ⟨tx ps y, ys.map (tx ps), by rw [q1, hm1]; rfl⟩
          · have S8 : Same H7 (upd H7 p (.lst (bs.map V.ref))) := Same.lay hp
            have e8 : (upd H7 p (.lst (bs.map V.ref))) p = some (.lst (bs.map V.ref)) := upd_same
            generalize upd H7 p (.lst (bs.map V.ref)) = H8 at S8 e8 ⊢
            refine ⟨p, bs.map V.ref, rfl, SqL.of e8, ?_⟩
            refine for_it (walk_enum (xs := bs.map V.ref)) (fun j σ H' => ∃ z6 z10 : Option V, σ = [some (.ref s), some (.ref pen), some (.ref nm), some (.int (span : Int)), some (.int (n : Int)), some (.ref L), z6, some (.ref ra), some (.int (high : Int)), some (.ref d), z10, some (.int (r2 : Int))] ∧ Same H8 H')
              ⟨_, _, rfl, Same.refl _⟩ (fun j σ H' _ h => ?_) (fun j v σ H9 H10 hj h hy => ?_) (fun σ H9 h => ?_)
            · obtain ⟨_, _, _, S9⟩ := h
              exact SqL.of (S9 _ _ e8)
            · obtain ⟨z6, z10, rfl, S9⟩ := h
              obtain ⟨Tp, x, y, rfl, hT, rfl, ex, ey⟩ := hy
              obtain rfl : V.int (j : Int) = x := Option.some.inj ex
              obtain ⟨b, hb, rfl⟩ := ref_at ey
              obtain ⟨e, he, rfl⟩ := List.mem_map.mp (hperm.mem_iff.mp (List.mem_of_getElem? hb))
              obtain ⟨j2, hj2⟩ := List.getElem?_of_mem he
              obtain ⟨m, hm, q1, q2⟩ := FndAt.get fa7 hj2
              have hmem := List.mem_of_getElem? hm
              have S10 : Same H9 (upd H9 Tp (.tup [V.int (j : Int), V.ref e.2.1])) := Same.lay hT
              have t10 : SqT K (upd H9 Tp (.tup [V.int (j : Int), V.ref e.2.1])) Tp [V.int (j : Int), V.ref e.2.1] := .inl (.inl upd_same)
              generalize upd H9 Tp (.tup [V.int (j : Int), V.ref e.2.1]) = H10 at S10 t10 ⊢
              have S7 : Same H7 H10 := S8.trans (S9.trans S10)
              refine ⟨Tp, _, rfl, t10, rfl, _, _, rfl, _, _, rfl, rfl, ?_⟩
              refine ⟨_, rfl, _, rfl, _, rfl, _, rfl, _, rfl, d, es, e.1, V.int (m.2 : Int), rfl, ⟨.inl (S7 _ _ ed7), FndAt.keys (fa7.same S7), e.2.1, rfl, by rw [q1, key_enc]; exact (q2.same S7).sq⟩, hval e m hmem q1, _, rfl, _, rfl, _, _, rfl, rfl, _, rfl, d, es, rfl, .inl (S7 _ _ ed7), FndAt.keys (fa7.same S7), _, _, rfl, rfl, ?_, _, _, rfl, rfl, ?_⟩
              · show (0 : Int) < ((es.length : Nat) : Int)
                omega
              · dsimp only [tNil]
                refine ⟨ra, e.2.1, tx ps, n, span, m.2, m.1, _, rfl, tr7.same S7, (q2.same S7).sq, inj, ff, hn1, by omega, okr m hmem, fun H11 S11 => ⟨true, rfl, iteF ?_⟩⟩
                exact ⟨_, _, rfl, S9.trans (S10.trans S11)⟩
            · obtain ⟨z6, z10, rfl, S9⟩ := h
              have S79 : Same H7 H9 := S8.trans S9
              -- if size > high and least_swaps(row, ("new",) + row[1:], reach=span) is not None
              refine ⟨_, rfl, _, rfl, _, _, rfl, rfl, _, rfl, ite2 (fun hgt => ?_) (fun _ => iteF ?_)⟩
              · have hgt' : (high : Int) < (n : Int) := of_decide_eq_true hgt
                have hnone : leastM (List.range n) (7 :: (List.range n).drop 1) span = some none := okn.resolve_left (by omega)
                refine ⟨_, rfl, by show 1 ≤ sizeLine; decide, fun p1 h1 => ?_⟩
                have S11 : Same H9 (upd H9 p1 (.tup [V.str "new"])) := Same.lay h1
                have t11 : SqT K (upd H9 p1 (.tup [V.str "new"])) p1 (enc (tx ps) [7]) := .inl (.inl upd_same)
                generalize upd H9 p1 (.tup [V.str "new"]) = H11 at S11 t11 ⊢
                refine ⟨_, rfl, _, rfl, ?_⟩
                dsimp only [tNoPart]
                refine cut_any (K := K) (tr7.same (S79.trans S11)).sq fun H12 p2 S12 c2 => ?_
                have e1 : cutV (enc (tx ps) (List.range n)) (some 1) none = enc (tx ps) ((List.range n).drop 1) := by
                  rw [show (1 : Int) = ((1 : Nat) : Int) from rfl, cut_from, ← List.map_drop]
                rw [e1] at c2
                refine cat_any (K := K) (Same.sqT S12 t11) c2 ?_ fun H13 p3 S13 c3 => ?_
                · rw [List.length_map, List.length_map, List.length_drop, lr]
                  exact Nat.le_of_lt (small1000 (by show 1 + (n - 1) ≤ 1000; omega))
                · have S93 : Same H9 H13 := S11.trans (S12.trans S13)
                  refine ⟨_, rfl, rfl, rfl, ?_⟩
                  refine ⟨ra, p3, tx ps, List.range n, 7 :: (List.range n).drop 1, span, none, rfl, tr7.same (S79.trans S93), c3, by rw [lr]; exact inj, by rw [lr]; exact ff, by rw [lr]; exact hn1, hnone, fun H14 S14 => ⟨_, rfl, iteF ?_⟩⟩
                  exact done H14 _ _ (S79.trans (S93.trans S14))
              · exact done H9 _ _ S79
    · obtain ⟨z3, z4, z5, z6, z7, z8, z9, z10, z11, rfl, S4, _⟩ := h
      -- return [most_swaps(high) for high in range(1, 42)] == [3 * high // 2 for high in range(41)]
      refine ⟨1, 42, rfl, ⟨by decide, by decide, by decide, by decide⟩, fun D hD => ?_⟩
      refine lc_range (lo := 1) (n := 41) (fun i H'' => H'' D = some (.lst (((List.range i).map fun (j : Nat) => 3 * (j : Int) / 2).map V.int))) upd_same (fun i H'' hi h => ?_) (fun H5 h5 => ?_)
      · refine ⟨rfl, ?_⟩
        dsimp only [tYes]
        refine iteT ?_
        refine ⟨_, rfl, ?_⟩
        dsimp only [tNil]
        refine ⟨1 + (i : Int), rfl, by omega, by omega, _, h, ?_, ?_⟩
        · rw [List.length_map, List.length_map, List.length_range]
          exact small1000 (by omega)
        · rw [upd_same, List.range_succ, List.map_append, List.map_append]
          show some (HO.lst (_ ++ [V.int (3 * (1 + (i : Int) - 1) / 2)])) = some (HO.lst (_ ++ [V.int (3 * (i : Int) / 2)]))
          rw [show 1 + (i : Int) - 1 = (i : Int) by omega]
      · refine ⟨41, rfl, by decide, by decide, fun D2 hD2 => ?_⟩
        refine lc_range (lo := 0) (n := 41) (fun i H'' => Same H5 H'' ∧ H'' D2 = some (.lst (((List.range i).map fun (j : Nat) => 3 * (j : Int) / 2).map V.int))) ⟨Same.lay hD2, upd_same⟩ (fun i H'' hi h => ?_) (fun H6 h6 => ?_)
        · obtain ⟨S6, e6⟩ := h
          refine ⟨rfl, ?_⟩
          dsimp only [tYes]
          refine iteT ?_
          refine ⟨_, rfl, _, _, rfl, rfl, .inl ⟨by decide, by decide⟩, _, _, rfl, rfl, ⟨by decide, by decide⟩, _, e6, ?_, Same.upd S6 hD2, ?_⟩
          · rw [List.length_map, List.length_map, List.length_range]
            exact small1000 (by omega)
          · rw [upd_same, List.range_succ, List.map_append, List.map_append]
            show some (HO.lst (_ ++ [V.int (3 * (0 + (i : Int)) / 2)])) = some (HO.lst (_ ++ [V.int (3 * (i : Int) / 2)]))
            rw [show 0 + (i : Int) = (i : Int) by omega]
        · obtain ⟨S6, e6⟩ := h6
          refine ⟨_, _, .lst (SqL.of (S6 _ _ h5)) (dp_ints _), .lst (SqL.of e6) (dp_ints _), sh_ints _, sh_ints _, ?_⟩
          have ev := eqv_ints ((List.range 41).map fun (j : Nat) => 3 * (j : Int) / 2) ((List.range 41).map fun (j : Nat) => 3 * (j : Int) / 2)
          rw [decide_eq_true rfl] at ev
          have ev2 : PyData.eqv (.list (((List.range 41).map fun (j : Nat) => 3 * (j : Int) / 2).map PyData.int)) (.list (((List.range 41).map fun (j : Nat) => 3 * (j : Int) / 2).map PyData.int)) = true := ev
          rw [ev2]
          exact k _
end
end K95P
end

section
set_option Elab.async false
set_option linter.all false
set_option maxRecDepth 100000
set_option maxHeartbeats 4000000
/-! K95E: what the top has written; the law's row. Printed by gen_end.py. -/
namespace K95P
open PySem PyProof.Rows L2
theorem all_mk {l : PySem.W.OpenLaw} {w : World} {K : PySem.W.Frag} {h : Heap} {mg : Str → Option Value} {fa f1 f2 f3 f4 f5 f6 f7 f8 f9 f10 f11 f12 f13 f14 : Addr} {tk : Tok} (X : K.In h) (G : h.Ns mainGlobals mg) (hfa : mg "law" = some (.ref fa))
    {od1 an1 od2 an2 od3 an3 od4 an4 od5 an5 od6 an6 od7 an7 od8 an8 od9 an9 od10 an10 od11 an11 od12 an12 od13 an13 od14 an14 : Option Addr} {sl1 sl2 sl3 sl4 sl5 sl6 sl7 sl8 sl9 sl10 sl11 sl12 sl13 sl14 : Array (Option Value)} {oc1 kV1 dc1 pm1 cd1 ct1 oc2 kV2 dc2 pm2 cd2 ct2 oc3 kV3 dc3 pm3 cd3 ct3 oc4 kV4 dc4 pm4 cd4 ct4 oc5 kV5 dc5 pm5 cd5 ct5 oc6 kV6 dc6 pm6 cd6 ct6 oc7 kV7 dc7 pm7 cd7 ct7 oc8 kV8 dc8 pm8 cd8 ct8 oc9 kV9 dc9 pm9 cd9 ct9 oc10 kV10 dc10 pm10 cd10 ct10 oc11 kV11 dc11 pm11 cd11 ct11 oc12 kV12 dc12 pm12 cd12 ct12 oc13 kV13 dc13 pm13 cd13 ct13 oc14 kV14 dc14 pm14 cd14 ct14 : Value}
    (a1 : PySem.W.nsIn K mainGlobals "lowest_upper" = some (some (.ref f1))) (l1 : K.lookup f1 = some ⟨oc1, od1, .func (PySem.W.fnOf "lowest_upper" "lowest_upper" (defArgs sLow) (defBody sLow) (defScope sLow) .none kV1 dc1 pm1 an1 cd1 ct1), sl1⟩) (c1 : PySem.W.codeIn K cd1 "lowest_upper" = true) (k1 : PySem.W.keepIn K (.ref f1) = true)
    (a2 : PySem.W.nsIn K mainGlobals "is_pair" = some (some (.ref f2))) (l2 : K.lookup f2 = some ⟨oc2, od2, .func (PySem.W.fnOf "is_pair" "is_pair" (defArgs sPair) (defBody sPair) (defScope sPair) .none kV2 dc2 pm2 an2 cd2 ct2), sl2⟩) (c2 : PySem.W.codeIn K cd2 "is_pair" = true) (k2 : PySem.W.keepIn K (.ref f2) = true)
    (a3 : PySem.W.nsIn K mainGlobals "cycle_from" = some (some (.ref f3))) (l3 : K.lookup f3 = some ⟨oc3, od3, .func (PySem.W.fnOf "cycle_from" "cycle_from" (defArgs sCyc) (defBody sCyc) (defScope sCyc) .none kV3 dc3 pm3 an3 cd3 ct3), sl3⟩) (c3 : PySem.W.codeIn K cd3 "cycle_from" = true) (k3 : PySem.W.keepIn K (.ref f3) = true)
    (a4 : PySem.W.nsIn K mainGlobals "cycles_of" = some (some (.ref f4))) (l4 : K.lookup f4 = some ⟨oc4, od4, .func (PySem.W.fnOf "cycles_of" "cycles_of" (defArgs sCycs) (defBody sCycs) (defScope sCycs) .none kV4 dc4 pm4 an4 cd4 ct4), sl4⟩) (c4 : PySem.W.codeIn K cd4 "cycles_of" = true) (k4 : PySem.W.keepIn K (.ref f4) = true)
    (a5 : PySem.W.nsIn K mainGlobals "swaps_for" = some (some (.ref f5))) (l5 : K.lookup f5 = some ⟨oc5, od5, .func (PySem.W.fnOf "swaps_for" "swaps_for" (defArgs sFor) (defBody sFor) (defScope sFor) .none kV5 dc5 pm5 an5 cd5 ct5), sl5⟩) (c5 : PySem.W.codeIn K cd5 "swaps_for" = true) (k5 : PySem.W.keepIn K (.ref f5) = true)
    (a6 : PySem.W.nsIn K mainGlobals "turned" = some (some (.ref f6))) (l6 : K.lookup f6 = some ⟨oc6, od6, .func (PySem.W.fnOf "turned" "turned" (defArgs sTurn) (defBody sTurn) (defScope sTurn) .none kV6 dc6 pm6 an6 cd6 ct6), sl6⟩) (c6 : PySem.W.codeIn K cd6 "turned" = true) (k6 : PySem.W.keepIn K (.ref f6) = true)
    (a7 : PySem.W.nsIn K mainGlobals "least_swaps" = some (some (.ref f7))) (l7 : K.lookup f7 = some ⟨oc7, od7, .func (PySem.W.fnOf "least_swaps" "least_swaps" (defArgs sLeast) (defBody sLeast) (defScope sLeast) .none kV7 dc7 pm7 an7 cd7 ct7), sl7⟩) (c7 : PySem.W.codeIn K cd7 "least_swaps" = true) (k7 : PySem.W.keepIn K (.ref f7) = true)
    (a8 : PySem.W.nsIn K mainGlobals "most_swaps" = some (some (.ref f8))) (l8 : K.lookup f8 = some ⟨oc8, od8, .func (PySem.W.fnOf "most_swaps" "most_swaps" (defArgs sMost) (defBody sMost) (defScope sMost) .none kV8 dc8 pm8 an8 cd8 ct8), sl8⟩) (c8 : PySem.W.codeIn K cd8 "most_swaps" = true) (k8 : PySem.W.keepIn K (.ref f8) = true)
    (a9 : PySem.W.nsIn K mainGlobals "_law_pen" = some (some (.ref f9))) (l9 : K.lookup f9 = some ⟨oc9, od9, .func (PySem.W.fnOf "_law_pen" "_law_pen" (defArgs sPen) (defBody sPen) (defScope sPen) .none kV9 dc9 pm9 an9 cd9 ct9), sl9⟩) (c9 : PySem.W.codeIn K cd9 "_law_pen" = true) (k9 : PySem.W.keepIn K (.ref f9) = true)
    (a10 : PySem.W.nsIn K mainGlobals "_law_pick" = some (some (.ref f10))) (l10 : K.lookup f10 = some ⟨oc10, od10, .func (PySem.W.fnOf "_law_pick" "_law_pick" (defArgs sPick) (defBody sPick) (defScope sPick) .none kV10 dc10 pm10 an10 cd10 ct10), sl10⟩) (c10 : PySem.W.codeIn K cd10 "_law_pick" = true) (k10 : PySem.W.keepIn K (.ref f10) = true)
    (a11 : PySem.W.nsIn K mainGlobals "_law_after" = some (some (.ref f11))) (l11 : K.lookup f11 = some ⟨oc11, od11, .func (PySem.W.fnOf "_law_after" "_law_after" (defArgs sAfter) (defBody sAfter) (defScope sAfter) .none kV11 dc11 pm11 an11 cd11 ct11), sl11⟩) (c11 : PySem.W.codeIn K cd11 "_law_after" = true) (k11 : PySem.W.keepIn K (.ref f11) = true)
    (a12 : PySem.W.nsIn K mainGlobals "_law_levels" = some (some (.ref f12))) (l12 : K.lookup f12 = some ⟨oc12, od12, .func (PySem.W.fnOf "_law_levels" "_law_levels" (defArgs sLevels) (defBody sLevels) (defScope sLevels) .none kV12 dc12 pm12 an12 cd12 ct12), sl12⟩) (c12 : PySem.W.codeIn K cd12 "_law_levels" = true) (k12 : PySem.W.keepIn K (.ref f12) = true)
    (a13 : PySem.W.nsIn K mainGlobals "_law_right" = some (some (.ref f13))) (l13 : K.lookup f13 = some ⟨oc13, od13, .func (PySem.W.fnOf "_law_right" "_law_right" (defArgs sRight) (defBody sRight) (defScope sRight) .none kV13 dc13 pm13 an13 cd13 ct13), sl13⟩) (c13 : PySem.W.codeIn K cd13 "_law_right" = true) (k13 : PySem.W.keepIn K (.ref f13) = true)
    (a14 : PySem.W.nsIn K mainGlobals "law" = some (some (.ref f14))) (l14 : K.lookup f14 = some ⟨oc14, od14, .func (PySem.W.fnOf "law" "law" (defArgs sLaw) (defBody sLaw) (defScope sLaw) .none kV14 dc14 pm14 an14 cd14 ct14), sl14⟩) (c14 : PySem.W.codeIn K cd14 "law" = true) (k14 : PySem.W.keepIn K (.ref f14) = true)
    (z_max : PySem.W.nsIn K mainGlobals "max" = some none)
    (z_min : PySem.W.nsIn K mainGlobals "min" = some none)
    (z_len : PySem.W.nsIn K mainGlobals "len" = some none)
    (z_sorted : PySem.W.nsIn K mainGlobals "sorted" = some none)
    (z_set : PySem.W.nsIn K mainGlobals "set" = some none)
    (z_tuple : PySem.W.nsIn K mainGlobals "tuple" = some none)
    (z_list : PySem.W.nsIn K mainGlobals "list" = some none)
    (z_range : PySem.W.nsIn K mainGlobals "range" = some none)
    (z_sum : PySem.W.nsIn K mainGlobals "sum" = some none)
    (z_abs : PySem.W.nsIn K mainGlobals "abs" = some none)
    (z_int : PySem.W.nsIn K mainGlobals "int" = some none)
    (z_repr : PySem.W.nsIn K mainGlobals "repr" = some none)
    (z_isinstance : PySem.W.nsIn K mainGlobals "isinstance" = some none)
    (z_enumerate : PySem.W.nsIn K mainGlobals "enumerate" = some none)
    (aS : PySem.W.nsIn K mainGlobals "SWAP" = some (some (.str "swap" tk))) :
    ∃ fd : FuncData, (∀ (s : Shared) (v : Value), BindsTo s fd ⟨[v], []⟩ [("_law_script", v)]) ∧ ∀ base : Heap, K.In base → base.Ns mainGlobals mg → FnOk l.prog w K mg base CX0 6 fa fd ["_law_script"] (spLaw K) := by
  have e := hfa.symm.trans (PySem.W.mg_of X G a14)
  cases e
  have T : Bi mg := ⟨PySem.W.mg_none_of X G z_max, PySem.W.mg_none_of X G z_min, PySem.W.mg_none_of X G z_len, PySem.W.mg_none_of X G z_sorted, PySem.W.mg_none_of X G z_set, PySem.W.mg_none_of X G z_tuple, PySem.W.mg_none_of X G z_list, PySem.W.mg_none_of X G z_range, PySem.W.mg_none_of X G z_sum, PySem.W.mg_none_of X G z_abs, PySem.W.mg_none_of X G z_int, PySem.W.mg_none_of X G z_repr, PySem.W.mg_none_of X G z_isinstance, PySem.W.mg_none_of X G z_enumerate⟩
  have F1 := fun_mk (st := sLow) l1 c1 k1
  have m1 := PySem.W.mg_of X G a1
  have b1 := F1.binds (ps := ["stack", "reach"]) fun _ _ _ _ _ _ us hl => match us, hl with | [_, _], _ => rfl
  have F2 := fun_mk (st := sPair) l2 c2 k2
  have m2 := PySem.W.mg_of X G a2
  have b2 := F2.binds (ps := ["stack", "target", "reach"]) fun _ _ _ _ _ _ us hl => match us, hl with | [_, _, _], _ => rfl
  have F3 := fun_mk (st := sCyc) l3 c3 k3
  have m3 := PySem.W.mg_of X G a3
  have b3 := F3.binds (ps := ["stack", "target", "cell"]) fun _ _ _ _ _ _ us hl => match us, hl with | [_, _, _], _ => rfl
  have F4 := fun_mk (st := sCycs) l4 c4 k4
  have m4 := PySem.W.mg_of X G a4
  have F5 := fun_mk (st := sFor) l5 c5 k5
  have m5 := PySem.W.mg_of X G a5
  have b5 := F5.binds (ps := ["cycles", "top"]) fun _ _ _ _ _ _ us hl => match us, hl with | [_, _], _ => rfl
  have F6 := fun_mk (st := sTurn) l6 c6 k6
  have m6 := PySem.W.mg_of X G a6
  have b6 := F6.binds (ps := ["cycle", "top"]) fun _ _ _ _ _ _ us hl => match us, hl with | [_, _], _ => rfl
  have F7 := fun_mk (st := sLeast) l7 c7 k7
  have m7 := PySem.W.mg_of X G a7
  have F8 := fun_mk (st := sMost) l8 c8 k8
  have m8 := PySem.W.mg_of X G a8
  have b8 := F8.binds (ps := ["cells"]) fun _ _ _ _ _ _ us hl => match us, hl with | [_], _ => rfl
  have F9 := fun_mk (st := sPen) l9 c9 k9
  have m9 := PySem.W.mg_of X G a9
  have b9 := F9.binds (ps := ["_law_script"]) fun _ _ _ _ _ _ us hl => match us, hl with | [_], _ => rfl
  have F10 := fun_mk (st := sPick) l10 c10 k10
  have m10 := PySem.W.mg_of X G a10
  have b10 := F10.binds (ps := ["_law_pen_here", "_law_upto"]) fun _ _ _ _ _ _ us hl => match us, hl with | [_, _], _ => rfl
  have F11 := fun_mk (st := sAfter) l11 c11 k11
  have m11 := PySem.W.mg_of X G a11
  have b11 := F11.binds (ps := ["_law_row", "_law_deed"]) fun _ _ _ _ _ _ us hl => match us, hl with | [_, _], _ => rfl
  have F12 := fun_mk (st := sLevels) l12 c12 k12
  have m12 := PySem.W.mg_of X G a12
  have b12 := F12.binds (ps := ["_law_row", "_law_high"]) fun _ _ _ _ _ _ us hl => match us, hl with | [_, _], _ => rfl
  have F13 := fun_mk (st := sRight) l13 c13 k13
  have m13 := PySem.W.mg_of X G a13
  have b13 := F13.binds (ps := ["_law_row", "_law_goal", "_law_span", "_law_due", "_law_is_followed"]) fun _ _ _ _ _ _ us hl => match us, hl with | [_, _, _, _, _], _ => rfl
  have F14 := fun_mk (st := sLaw) l14 c14 k14
  have mS := PySem.W.mg_of X G aS
  have b4 : KwR K (PySem.W.fnOf "cycles_of" "cycles_of" (defArgs sCycs) (defBody sCycs) (defScope sCycs) .none kV4 dc4 pm4 an4 cd4 ct4) := ⟨fun s us ws _ hl1 hl2 => match us, hl1, ws, hl2 with | [_, _], _, [_], _ => .of_eq rfl, fun r1 r2 => r1.append r2⟩
  have b7 : KwR K (PySem.W.fnOf "least_swaps" "least_swaps" (defArgs sLeast) (defBody sLeast) (defScope sLeast) .none kV7 dc7 pm7 an7 cd7 ct7) := ⟨fun s us ws _ hl1 hl2 => match us, hl1, ws, hl2 with | [_, _], _, [_], _ => .of_eq rfl, fun r1 r2 => r1.append r2⟩
  have bM0 : KBn K (PySem.W.fnOf "most_swaps" "most_swaps" (defArgs sMost) (defBody sMost) (defScope sMost) .none kV8 dc8 pm8 an8 cd8 ct8) ["cells"] 0 ["cells"] (fun us ws => us ++ ws) (fun vs zs => vs ++ zs) := ⟨fun s us ws _ hl1 hl2 => match us, hl1, ws, hl2 with | [], _, [_], _ => .of_eq rfl, fun r1 r2 => r1.append r2⟩
  refine ⟨PySem.W.fnOf "law" "law" (defArgs sLaw) (defBody sLaw) (defScope sLaw) .none kV14 dc14 pm14 an14 cd14 ct14, fun s v => .of_eq rfl, fun base _ _ => ?_⟩
  have G1 := ok_low (P := l.prog) (w := w) (base := base) F1 T
  have G2 := ok_pair F2 T G1 k1 m1 b1
  have G3 := ok_cyc (P := l.prog) (w := w) (base := base) F3 T
  have G4 := ok_cycs F4 T G1 k1 m1 b1 G2 k2 m2 b2 G3 k3 m3 b3
  have G5 := ok_for (P := l.prog) (w := w) (base := base) F5 T
  have G6 := ok_turn (P := l.prog) (w := w) (base := base) F6 T
  have G7 := ok_least F7 T mS G4 k4 m4 b4 G5 k5 m5 b5 G6 k6 m6 b6
  have G8 := ok_most (P := l.prog) (w := w) (mg := mg) (base := base) F8
  have G9 := ok_pen (P := l.prog) (w := w) (base := base) F9 T
  have G10 := ok_pick (P := l.prog) (w := w) (base := base) F10 T
  have G11 := ok_after (P := l.prog) (w := w) (base := base) F11 T
  have G12 := ok_levels F12 T G11 k11 m11 b11
  have G13 := ok_right F13 T G7 k7 m7 b7 G11 k11 m11 b11
  exact ok_law F14 T G9 k9 m9 b9 G10 k10 m10 b10 G12 k12 m12 b12 G8 k8 m8 b8 bM0 G13 k13 m13 b13 G7 k7 m7 b7
theorem walk {l : PySem.W.OpenLaw} {q : Program} {loose : List Str} {XP : (Str → Option Value) → Heap → Prop} {YP : World → Heap → Prop} {d : DefRec} {K : Params → PySem.W.Frag} (hn : l.most = some 63) (hdf : d.params.defaults = [])
    (hY : ∀ (w : World) (h : Heap), YP w h → (K w.params).In h)
    (F : ∀ (w : World) (mg : Str → Option Value) (fa : Addr) (h : Heap), (K w.params).In h → h.Ns mainGlobals mg → mg d.name = some (.ref fa) →
      ∃ fd : FuncData, (∀ (s : Shared) (v : Value), BindsTo s fd ⟨[v], []⟩ [("_law_script", v)]) ∧ ∀ base : Heap, (K w.params).In base → base.Ns mainGlobals mg → FnOk l.prog w (K w.params) mg base CX0 6 fa fd ["_law_script"] (spLaw (K w.params))) :
    PySem.W.WalkO q loose XP YP l.row.toRowW d [] (fun f vs => PySem.call f vs) :=
  L2.walk_of (n := 63) (k := 6) (x := "_law_script") (CX := fun _ => CX0) (sp := fun w => spLaw (K w.params)) hn (by decide) hdf ⟨rfl, by decide, by decide⟩ hY F (fun _ _ a ns _ _ hS => ⟨a, ns, rfl, hS, fun _ => rfl⟩) fun _ _ _ _ _ z => z
end K95P

open PySem PySem.W PyProof.Rows in
set_option maxRecDepth 100000 in
set_option maxHeartbeats 0 in
theorem PySem.Challenge.cw_deepedge_k95_whole_least_swaps_by_search_holds : PySem.Challenge.rw_deepedge_k95_whole_least_swaps_by_search.Holds := by
  w_on; o_law; k_head; (case hw => w_witness2)
  k_fill
  refine K95P.walk (l := PySem.Challenge.rw_deepedge_k95_whole_least_swaps_by_search) rfl rfl (fun w h Y => PySem.W.kIn_of Y) ?F
  case F =>
    intro w mg fa h KX G hmg
    refine' K95P.all_mk KX G hmg ?a1 ?l1 ?c1 ?k1 ?a2 ?l2 ?c2 ?k2 ?a3 ?l3 ?c3 ?k3 ?a4 ?l4 ?c4 ?k4 ?a5 ?l5 ?c5 ?k5 ?a6 ?l6 ?c6 ?k6 ?a7 ?l7 ?c7 ?k7 ?a8 ?l8 ?c8 ?k8 ?a9 ?l9 ?c9 ?k9 ?a10 ?l10 ?c10 ?k10 ?a11 ?l11 ?c11 ?k11 ?a12 ?l12 ?c12 ?k12 ?a13 ?l13 ?c13 ?k13 ?a14 ?l14 ?c14 ?k14 ?z_max ?z_min ?z_len ?z_sorted ?z_set ?z_tuple ?z_list ?z_range ?z_sum ?z_abs ?z_int ?z_repr ?z_isinstance ?z_enumerate ?aS
    (case a1 => k_is)
    (case l1 => k_is)
    (case c1 => k_is)
    (case k1 => k_is)
    (case a2 => k_is)
    (case l2 => k_is)
    (case c2 => k_is)
    (case k2 => k_is)
    (case a3 => k_is)
    (case l3 => k_is)
    (case c3 => k_is)
    (case k3 => k_is)
    (case a4 => k_is)
    (case l4 => k_is)
    (case c4 => k_is)
    (case k4 => k_is)
    (case a5 => k_is)
    (case l5 => k_is)
    (case c5 => k_is)
    (case k5 => k_is)
    (case a6 => k_is)
    (case l6 => k_is)
    (case c6 => k_is)
    (case k6 => k_is)
    (case a7 => k_is)
    (case l7 => k_is)
    (case c7 => k_is)
    (case k7 => k_is)
    (case a8 => k_is)
    (case l8 => k_is)
    (case c8 => k_is)
    (case k8 => k_is)
    (case a9 => k_is)
    (case l9 => k_is)
    (case c9 => k_is)
    (case k9 => k_is)
    (case a10 => k_is)
    (case l10 => k_is)
    (case c10 => k_is)
    (case k10 => k_is)
    (case a11 => k_is)
    (case l11 => k_is)
    (case c11 => k_is)
    (case k11 => k_is)
    (case a12 => k_is)
    (case l12 => k_is)
    (case c12 => k_is)
    (case k12 => k_is)
    (case a13 => k_is)
    (case l13 => k_is)
    (case c13 => k_is)
    (case k13 => k_is)
    (case a14 => k_is)
    (case l14 => k_is)
    (case c14 => k_is)
    (case k14 => k_is)
    (case z_max => k_is)
    (case z_min => k_is)
    (case z_len => k_is)
    (case z_sorted => k_is)
    (case z_set => k_is)
    (case z_tuple => k_is)
    (case z_list => k_is)
    (case z_range => k_is)
    (case z_sum => k_is)
    (case z_abs => k_is)
    (case z_int => k_is)
    (case z_repr => k_is)
    (case z_isinstance => k_is)
    (case z_enumerate => k_is)
    (case aS => k_is)
#print axioms PySem.Challenge.cw_deepedge_k95_whole_least_swaps_by_search_holds
end
