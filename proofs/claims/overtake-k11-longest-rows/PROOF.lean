import PyProof.Rows.All
import Wide.All
import OpenK.AllK
import Wide.FinOn
import HandS.ForMost
import KE.KIndexOf
import KE.GoesEnum
import HandS.Conv
import HandS.Keys
import HandS.TupSets
import KE.KDictList
import HandS.TupAny
import HandS.Codes
import HandS.IsInst
import HandS.Star
import PySem.Challenge.RW_overtake_k11_whole_longest_rows
import HandS.More
import HandS.Walk
import HandS.Style
set_option Elab.async false
set_option maxRecDepth 100000
/-! The mathematics of the law, plain Lean: people are ints, a line is a list of ints. -/
namespace Ot
/-- all that can be taken one by one out of xs, put behind f -/
def taken : Nat → List Int → List Int → List (List Int)
  | 0, _, f => [f]
  | n + 1, xs, f => (List.range xs.length).flatMap fun k => taken n (xs.eraseIdx k) (f ++ [xs.getD k 0])
def upto (n : Nat) : List Int := (List.range n).map fun (k : Nat) => (k : Int)
/-- all lines of one to five people -/
def lines : List (List Int) := [1, 2, 3, 4, 5].flatMap fun n => taken n (upto n) []
def spot (l : List Int) (p : Int) : Nat := l.idxOf p
def down (l : List Int) (p : Int) : Nat → Nat
  | 0 => 0
  | k + 1 => if l.getD k 0 < p then down l p k else k + 1
def goal (l : List Int) (p : Int) : Nat := down l p (spot l p)
/-- the line behind the call of p -/
def call (l : List Int) (p : Int) : List Int :=
  l.take (goal l p) ++ p :: ((l.drop (goal l p)).take (spot l p - goal l p) ++ l.drop (spot l p + 1))
def ins (x : Int) : List Int → List Int
  | [] => [x]
  | y :: r => if x ≤ y then x :: y :: r else y :: ins x r
def isort : List Int → List Int
  | [] => []
  | x :: r => ins x (isort r)
def rises (l : List Int) : List Int :=
  ((List.range (l.length - 1)).filter fun k => decide (l.getD k 0 < l.getD (k + 1) 0)).map fun k => l.getD (k + 1) 0
def movers (l : List Int) : List Int := isort (rises l)
/-- one turn of the loop over the people ahead, from behind: how many runs are closed, the run at hand -/
def runStep (p : Int) (s : Nat × List Int) (o : Int) : Nat × List Int :=
  if o < p then (s.1, o :: s.2) else if s.2 = [] then s else (s.1 + 1, [])
def runEnd (s : Nat × List Int) : Nat := if s.2 = [] then s.1 else s.1 + 1
def runCount (l : List Int) (p : Int) : Nat := runEnd ((l.take (spot l p)).reverse.foldl (runStep p) (0, []))
def counts (l : List Int) : List Int := (List.range l.length).map fun (k : Nat) => ((runCount l (k : Int) : Nat) : Int)
def rank (l : List Int) : Int := (counts l).sum
def plain (l : List Int) : List Int := (movers l).filter fun p => decide (rank (call l p) = rank l - 1)
def rowF : Nat → List Int → List Int
  | 0, _ => []
  | n + 1, l => if movers l = [] then [] else (plain l).headD 0 :: rowF n (call l ((plain l).headD 0))
def row (l : List Int) : List Int := rowF 12 l
def cntF : Nat → List Int → Int
  | 0, _ => 1
  | n + 1, l => if movers l = [] then 1 else ((plain l).map fun p => cntF n (call l p)).sum
def cnt (l : List Int) : Int := cntF 12 l
def getI (d : List (Int × Int)) (k : Int) : Int := match d with
  | [] => 0
  | kv :: r => if kv.1 = k then kv.2 else getI r k
def hasI (d : List (Int × Int)) (k : Int) : Bool := d.any fun kv => decide (kv.1 = k)
def putI (d : List (Int × Int)) (k v : Int) : List (Int × Int) :=
  if hasI d k = true then d.map fun kv => if kv.1 = k then (kv.1, v) else kv else d ++ [(k, v)]
def addI (d : List (Int × Int)) (kv : Int × Int) : List (Int × Int) := putI d (kv.1 + 1) (getI d (kv.1 + 1) + kv.2)
def cfF : Nat → List Int → List (Int × Int)
  | 0, _ => [(0, 1)]
  | n + 1, l => if movers l = [] then [(0, 1)] else (movers l).foldl (fun d p => (cfF n (call l p)).foldl addI d) []
def cf (l : List Int) : List (Int × Int) := cfF 12 l
/-- the law's rows -/
abbrev Rw := List Int × List Int
def ends (rs : List Rw) : List (List Int) := (rs.filter fun r => decide (movers r.2 = [])).map (·.1)
def later (rs : List Rw) : List Rw := rs.flatMap fun r => (movers r.2).map fun p => (r.1 ++ [p], call r.2 p)
def rowsAt (l : List Int) : Nat → List Rw
  | 0 => [([], l)]
  | n + 1 => later (rowsAt l n)
def countsAt (l : List Int) (n : Nat) : List Int := (List.range n).map fun k => (((ends (rowsAt l k)).length : Nat) : Int)
def turns (l : List Int) : Nat := (rank l).toNat
/-- the law's own call and movers -/
def tall (l : List Int) (p : Int) : List Int := ((List.range (spot l p)).filter fun (k : Nat) => decide (p < l.getD k 0)).map fun (k : Nat) => (k : Int)
def goalL (l : List Int) (p : Int) : Nat := if tall l p = [] then 0 else ((tall l p).getLastD 0 + 1).toNat
def callL (l : List Int) (p : Int) : List Int :=
  l.take (goalL l p) ++ [p] ++ (l.drop (goalL l p)).take (spot l p - goalL l p) ++ l.drop (spot l p + 1)
def moversL (l : List Int) : List Int := ((List.range l.length).filter fun (k : Nat) => decide (callL l (k : Int) ≠ l)).map fun (k : Nat) => (k : Int)
/-- the greatest key -/
def most (d : List (Int × Int)) : Int := d.foldl (fun m kv => if m < kv.1 then kv.1 else m) 0
/-- a row of people as one number -/
def codeM (B : Int) : List Int → Int
  | [] => 0
  | d :: r => d * B ^ r.length + codeM B r
end Ot
set_option Elab.async false
set_option maxRecDepth 100000
namespace Ot
/-! ### what holds of the 153 lines -/
theorem lines_shape : ∀ l ∈ lines, 1 ≤ l.length ∧ l.length ≤ 5 ∧ l.Nodup ∧ ∀ k ∈ List.range l.length, (k : Int) ∈ l ∧ 0 ≤ l.getD k 0 ∧ l.getD k 0 < (l.length : Int) := by decide +kernel
theorem lines_call : ∀ l ∈ lines, ∀ p ∈ l, call l p ∈ lines ∧ callL l p = call l p ∧ goal l p ≤ spot l p ∧ goalL l p = goal l p ∧ spot l p < l.length := by decide +kernel
theorem lines_move : ∀ l ∈ lines, moversL l = movers l ∧ (∀ p ∈ movers l, p ∈ l ∧ rank (call l p) < rank l) ∧ 0 ≤ rank l ∧ rank l ≤ 6 := by decide +kernel
theorem lines_plain : ∀ l ∈ lines, movers l ≠ [] → plain l ≠ [] := by decide +kernel
theorem lines_row : ∀ l ∈ lines, movers l ≠ [] → row l = (plain l).headD 0 :: row (call l ((plain l).headD 0)) := by decide +kernel
theorem lines_row0 : ∀ l ∈ lines, movers l = [] → row l = [] ∧ cnt l = 1 ∧ cf l = [(0, 1)] ∧ rank l = 0 := by decide +kernel
theorem lines_cnt : ∀ l ∈ lines, movers l ≠ [] → cnt l = ((plain l).map fun p => cnt (call l p)).sum := by decide +kernel
theorem lines_cf : ∀ l ∈ lines, movers l ≠ [] → cf l = (movers l).foldl (fun d p => (cf (call l p)).foldl addI d) [] := by decide +kernel
theorem lines_cfk : ∀ l ∈ lines, (cf l).length ≤ 12 ∧ cf l ≠ [] ∧ ∀ kv ∈ cf l, 0 ≤ kv.1 ∧ kv.1 ≤ 12 := by decide +kernel
theorem lines_rows : ∀ l ∈ lines, ∀ k ∈ List.range 12, (rowsAt l k).length ≤ 24 ∧ (∀ r ∈ rowsAt l k, r.2 ∈ lines ∧ r.1.length = k ∧ ∀ p ∈ r.1, 0 ≤ p ∧ p < 5) ∧ (rowsAt l (k + 1) = [] ↔ turns l ≤ k) := by decide +kernel
theorem lines_end : ∀ l ∈ lines, (rowsAt l (turns l)) ≠ [] ∧ (∀ r ∈ rowsAt l (turns l), movers r.2 = []) ∧ turns l ≤ 6 := by decide +kernel
theorem lines_most : ∀ l ∈ lines, (most (cf l) ∈ (cf l).map (·.1)) ∧ (∀ k ∈ (cf l).map (·.1), k ≤ most (cf l)) ∧ (0 ≤ most (cf l)) ∧ most (cf l) ≤ 12 := by decide +kernel
theorem lines_law1 : ∀ l ∈ lines, ((List.range ((most (cf l)).toNat + 1)).map fun (k : Nat) => getI (cf l) (k : Int)) = countsAt l (turns l + 1) := by decide +kernel
theorem lines_law2 : ∀ l ∈ lines, ((cf l).map (·.2)).sum = (countsAt l (turns l + 1)).sum := by decide +kernel
theorem lines_law3 : ∀ l ∈ lines, rank l = (((countsAt l (turns l + 1)).length : Nat) : Int) - 1 := by decide +kernel
theorem lines_law4 : ∀ l ∈ lines, row l ∈ ends (rowsAt l (turns l)) ∧ (∀ c ∈ ends (rowsAt l (turns l)), codeM 5 (row l) ≤ codeM 5 c ∧ (codeM 5 c = codeM 5 (row l) → c = row l)) := by decide +kernel
theorem lines_law5 : ∀ l ∈ lines, cnt l = (((ends (rowsAt l (turns l))).length : Nat) : Int) := by decide +kernel
end Ot
set_option Elab.async false
set_option maxRecDepth 100000
namespace Ot
theorem ins_perm (x : Int) : ∀ l : List Int, (ins x l).Perm (x :: l)
  | [] => List.Perm.refl _
  | y :: r => by
    unfold ins
    split
    · exact List.Perm.refl _
    · exact ((ins_perm x r).cons y).trans (List.Perm.swap x y r)
theorem isort_perm : ∀ l : List Int, (isort l).Perm l
  | [] => List.Perm.refl _
  | x :: r => (ins_perm x (isort r)).trans ((isort_perm r).cons x)
theorem ins_up (x : Int) : ∀ l : List Int, l.Pairwise (· ≤ ·) → (ins x l).Pairwise (· ≤ ·)
  | [], _ => List.pairwise_singleton _ _
  | y :: r, h => by
    obtain ⟨h1, h2⟩ := List.pairwise_cons.mp h
    unfold ins
    split
    · rename_i c
      refine List.pairwise_cons.mpr ⟨fun z hz => ?_, h⟩
      rcases List.mem_cons.mp hz with e | hz
      · rw [e]; exact c
      · have := h1 z hz; omega
    · rename_i c
      refine List.pairwise_cons.mpr ⟨fun z hz => ?_, ins_up x r h2⟩
      rcases List.mem_cons.mp ((ins_perm x r).mem_iff.mp hz) with e | hz
      · omega
      · exact h1 z hz
theorem isort_up : ∀ l : List Int, (isort l).Pairwise (· ≤ ·)
  | [] => List.Pairwise.nil
  | x :: r => ins_up x _ (isort_up r)
theorem sort_eq {a l : List Int} (hp : a.Perm l) (hs : a.Pairwise (· ≤ ·)) : a = isort l :=
  (hp.trans (isort_perm l).symm).eq_of_pairwise (fun _ _ _ _ h1 h2 => Int.le_antisymm h1 h2) hs (isort_up l)
theorem mem_isort {x : Int} {l : List Int} : x ∈ isort l ↔ x ∈ l := (isort_perm l).mem_iff
end Ot
set_option Elab.async false
set_option linter.all false
set_option maxRecDepth 100000
set_option maxHeartbeats 4000000
namespace OtR
open PySem PySem.Spec PyProof.Rows L2 HT
section
variable {prog : Program} {w : World} {A : Around} {E : Value → Shared → Prop} {s : Shared}
/-! ### t[::-1] of a tuple -/
theorem rev_ix (xs : Array Value) : ((List.range xs.size).filterMap fun (m : Nat) => xs[(((xs.size : Int) - 1) + (m : Int) * (-1)).toNat]?).toArray = xs.toList.reverse.toArray := by
  have e : ∀ m ∈ List.range xs.size, (fun (m : Nat) => xs[(((xs.size : Int) - 1) + (m : Int) * (-1)).toNat]?) m = ((fun j : Nat => xs[j]?) ∘ fun m : Nat => xs.size - 1 - m) m := fun m hm => by
    have h := List.mem_range.mp hm
    have : (((xs.size : Int) - 1) + (m : Int) * (-1)).toNat = xs.size - 1 - m := by omega
    show xs[(((xs.size : Int) - 1) + (m : Int) * (-1)).toNat]? = xs[xs.size - 1 - m]?
    rw [this]
  have c : ∀ l : List Nat, (∀ m ∈ l, m ∈ List.range xs.size) → l.filterMap (fun (m : Nat) => xs[(((xs.size : Int) - 1) + (m : Int) * (-1)).toNat]?) = l.filterMap ((fun j : Nat => xs[j]?) ∘ fun m : Nat => xs.size - 1 - m) := fun l hl => by
    induction l with
    | nil => rfl
    | cons a r ih =>
      have ea : xs[(((xs.size : Int) - 1) + (a : Int) * (-1)).toNat]? = ((fun j : Nat => xs[j]?) ∘ fun m : Nat => xs.size - 1 - m) a := e a (hl a List.mem_cons_self)
      rw [List.filterMap_cons, List.filterMap_cons, ih fun m hm => hl m (List.mem_cons_of_mem _ hm), ← ea]
  rw [c _ fun _ h => h, ← List.filterMap_map, PySem.W.krv_range, List.filterMap_reverse, PySem.W.krv_all]
theorem applied_rev {sl : Addr} {vs : Value} {n : Nat} {Q : Int × Int × Nat → Shared → Prop} (hs : s.heap.IsSliceOf sl .none .none vs) (ps : IsPart vs (some (-1)))
    (h : Q (((n : Int) - 1), -1, n) s) : wpAny (model prog w) A (Builtin.Slice.sliceApplied (.ref sl) (pure (n : Int))) Q E s := by
  obtain ⟨os, hos, hcs, hds⟩ := id hs
  unfold Builtin.Slice.sliceApplied Builtin.Slice.sliceFields
  refine wpAny_bind (wpAny_bind (wpAny_field hos hds (x := .none) rfl (wpAny_bind (wpAny_field hos hds (x := .none) rfl (wpAny_bind (wpAny_field hos hds (x := vs) rfl (wpAny_pure ?_)))))))
  refine wpAny_bind (slicePart_ ps ?_)
  show wpAny _ _ (if ((-1 : Int) == 0) = true then _ else _) _ _ s
  rw [if_neg (by decide)]
  refine wpAny_bind (slicePart_none (wpAny_bind (slicePart_none (wpAny_bind (wpAny_pure ?_)))))
  show wpAny _ _ (pure (((n : Int) - 1), (-1 : Int), Builtin.Slice.slicePlaces ((n : Int) - 1) (-1) (-1))) _ _ s
  have e : Builtin.Slice.slicePlaces ((n : Int) - 1) (-1) (-1) = n := by
    unfold Builtin.Slice.slicePlaces
    rw [if_neg (by decide)]
    split
    · rw [show (-(-1) : Int) = 1 by decide, Int.ediv_one]
      omega
    · omega
  rw [e]
  exact wpAny_pure h
theorem getItem_tuple_rev {t sl : Addr} {items : Array Value} {vs : Value} {Q : Value → Shared → Prop} (ht : IsTup s.heap t items) (hs : s.heap.IsSliceOf sl .none .none vs) (ps : IsPart vs (some (-1)))
    (h : Q (.ref s.heap.objs.size) { s with heap := s.heap.push { cls := .type "tuple", data := .seq items.toList.reverse.toArray } })
    (hsz : items.size ≤ sizeLine) : wpAny (model prog w) A (getItem (.ref t) (.ref sl)) Q E s := by
  have fits : sizeOk (.seq items.toList.reverse.toArray) := by
    show items.toList.reverse.toArray.size ≤ sizeLine
    rw [List.size_toArray, List.length_reverse, Array.length_toList]
    exact hsz
  obtain ⟨os, hos, hcs, hds⟩ := id hs
  have hTs : s.TypeIs (.ref sl) "slice" := ⟨os, hos, hcs⟩
  unfold getItem
  try with_reducible refine wpAny_holding ?_
  first | refine wpAny_bind (wpAny_pure ?_) | skip
  refine wpAny_bind (wpAny_sequenceKey ht.typeIs (by decide) ?_)
  refine wpAny_bind (wpAny_callSpecial?_slot (name := Str.ofString "__getitem__") ht.typeIs PyProof.Rows.slot_tuple_getitem
    (wpAny_call_entry PyProof.Rows.slot_tuple_getitem ht.typeIs entry_tuple_getitem ?_ (args_tuple_getitem _ _)))
  show wpAny _ _ (Builtin.Tuple.tupleItemsOf (.ref t) >>= _) _ _ s
  refine wpAny_bind (tupleItemsOf_ ht ?_)
  refine wpAny_bind (wpAny_typeOf hTs ?_)
  rw [if_pos (by decide)]
  refine wpAny_bind (applied_rev hs ps ?_)
  have hno : ¬ ((((items.size : Int) - 1) == 0 && (-1 : Int) == 1 && items.size == items.size) = true) := by
    intro q
    rw [Bool.and_eq_true, Bool.and_eq_true] at q
    exact absurd q.1.2 (by decide)
  show wpAny _ _ (if (((items.size : Int) - 1) == 0 && (-1 : Int) == 1 && items.size == items.size) = true then _ else _) _ _ s
  rw [if_neg hno, rev_ix]
  first
    | exact wpAny_bind (m := Builtin.Tuple.tupleExact _) (wpAny_newObj_type (wpAny_pure ⟨_, rfl, wpAny_pure h⟩) fits)
    | exact wpAny_bind (m := Builtin.Tuple.tupleExact _) (wpAny_newObj_type (wpAny_bind (wpAny_pure (wpAny_pure ⟨_, rfl, wpAny_pure h⟩))) fits)
    | exact wpAny_bind (wpAny_bind (m := Builtin.Tuple.tupleExact _) (wpAny_newObj_type (wpAny_pure (wpAny_pure ⟨_, rfl, wpAny_pure h⟩)) fits))
    | exact wpAny_bind (wpAny_bind (m := Builtin.Tuple.tupleExact _) (wpAny_newObj_type (wpAny_pure ⟨_, rfl, wpAny_pure h⟩) fits))
end
section
variable {X : Cx}
def tRevT (K : PySem.W.Frag) (te : TE) : TE := fun σ H Q => te σ H fun x H1 => ∃ a xs, x = .ref a ∧ SqT K H1 a xs ∧ ∀ p, H1 p = none → Q (.ref p) (upd H1 p (.tup xs.reverse))
theorem pe_revT {e : Expr} {te : TE} {k : Nat} {p1 p2 p3 pos : Pos} (he : PE X e te) : PE X (.Subscript e (.Slice none none (some (.UnaryOp .USub (.Constant (.int 1) k p1) p2)) p3) pos) (tRevT X.K te) := by
  refine ⟨fun pins s σ H Q I h => ?_⟩
  refine Subscript_ (thn (he.run pins s σ H _ I h) fun v s1 ⟨x, H1, I1, r1, q1⟩ => ?_)
  obtain ⟨a, xs, ex, hx, q⟩ := q1
  subst ex
  cases r1
  have hst : PO X (some (.UnaryOp .USub (.Constant (.int 1) k p1) p2)) (tPart (tUn (rU fun i => .int (-i)) (tC (.int 1)))) := po_some (pe_un un_neg pe_int)
  refine wpAny_Slice (thn (po_none.run pins s1 σ H1 (fun o H2 => o = none ∧ H2 = H1) I1 ⟨rfl, rfl⟩) fun vl s2 ⟨l, H2, I2, pl, el, e2⟩ => ?_)
  subst el e2
  refine thn (po_none.run pins s2 σ H2 (fun o H3 => o = none ∧ H3 = H2) I2 ⟨rfl, rfl⟩) fun vu s3 ⟨u, H3, I3, pu, eu, e3⟩ => ?_
  subst eu e3
  refine thn (hst.run pins s3 σ H3 (fun o H4 => o = some (-1) ∧ H4 = H3) I3 ⟨1, rfl, -1, rfl, rfl, rfl⟩) fun vs s4 ⟨o, H4, I4, ps, eo, e4⟩ => ?_
  subst eo e4
  have I5 : Inv X pins σ H4 { s4 with heap := s4.heap.push { cls := .type "slice", data := .fields #[vl, vu, vs] } } := I4.kept (t' := s4.toks) fun b ob q => Heap.get?_push_of_some _ q
  obtain ⟨its, r, ht, hz⟩ := I5.tuple hx
  have hlen := r.length
  show wpAny (model X.prog X.w) X.A (subscriptTail e (.Slice none none (some (.UnaryOp .USub (.Constant (.int 1) k p1) p2)) p3) (.ref a) (.ref s4.heap.objs.size)) (EP X pins σ Q) X.xe { s4 with heap := s4.heap.push { cls := .type "slice", data := .fields #[vl, vu, vs] } }
  refine tail_any (ops := [.ref a, .ref s4.heap.objs.size]) ht.typeIs PyProof.Rows.slot_tuple_getitem.lookup ?_ (by with_unfolding_all rfl)
  cases pl
  cases pu
  refine getItem_tuple_rev ht (Heap.IsSliceOf.new _ .none .none vs) ps ?_ (by rw [List.size_toArray]; omega)
  refine ⟨.ref _, _, I5.laid (t' := s4.toks) (o := .tup xs.reverse) (fun b ob q => Heap.get?_push_of_some _ q) (Nat.le_refl _) ?_, rfl, q _ (I5.hok.fresh (Nat.le_refl _))⟩
  exact ⟨by rw [List.length_reverse]; exact hz, its.reverse, r.reverse, ⟨_, Heap.get?_push_size _ rfl, rfl, _, rfl⟩⟩
end
end OtR
set_option Elab.async false
set_option linter.all false
set_option maxRecDepth 100000
set_option maxHeartbeats 4000000
namespace OtR
open PySem PySem.Spec PyProof.Rows L2
section
variable {X : Cx}
/-! ### t.index(k), ints -/
def rTIdx (K : PySem.W.Frag) : V → List V → Hp → VK → Prop := fun x xs H Q => ∃ (p : Addr) (ns : List Int) (k : Int), x = .ref p ∧ xs = [.int k] ∧ SqT K H p (ns.map V.int) ∧ k ∈ ns ∧ Q (.int ((ns.idxOf k : Nat) : Int)) H
theorem mt_tidx : MtR X "tuple.index" (rTIdx X.K) := by
  intro pins s σ H x xs v us Q I rx rs h
  obtain ⟨p, ns, k, rfl, rfl, hq, hk, q⟩ := h
  cases rx
  obtain ⟨u, rfl, t, rfl⟩ := vals1 rs
  obtain ⟨its, r, pl, hz⟩ := I.tuple hq
  exact PySem.SeqAt.tuple_index_ints (show s.heap.IsTuple p its.toArray from pl) r.ints hk ⟨.int _, H, I.tok _, ⟨_, rfl⟩, q⟩
end
/-! ### enumerate(t), t a tuple -/
theorem enumT_new (l : Addr) (items : Array Value) (n : Nat) (dct : Option Addr) (sl : Array (Option Value)) :
    Meets (Builtin.«enumerate.__new__» ⟨[.type "enumerate", .ref l], []⟩) (fun _ R s => s.heap.get? l = some { cls := .type "tuple", dict := dct, data := .seq items n, slots := sl } ∧
      R (.ok (.ret (.ref (s.heap.push { cls := .type "tuple_iterator", data := .fields #[.ref l, .int 0 0] }).objs.size)))
        { s with heap := (s.heap.push { cls := .type "tuple_iterator", data := .fields #[.ref l, .int 0 0] }).push { cls := .type "enumerate", data := .fields #[.none, .bool false, .ref s.heap.objs.size, rawInt 0, .none, .none] } }) :=
  .of_wp fun prog w A R s h => by
    obtain ⟨hp, g, d, tk, os⟩ := s; obtain ⟨hl, h⟩ := h
    have hsub := sub_enumerate
    have hL : Heap.IsTuple (Shared.heap ⟨hp, g, d, tk, os⟩) l items := ⟨_, hl, rfl, n, rfl⟩
    wp_walk using AutoSeq1.wpAny_loadPart' hl
    refine wpAny_stack_any fun st => wpAny_pure ?_
    split
    · rename_i c _ _ _ _ _
      cases (c == Value.type "enumerate")
      · wp_walk using AutoSeq1.wpAny_loadPart' hl, wpAny_pyIter_tuple hL
        exact ⟨_, rfl, h⟩
      · wp_walk using AutoSeq1.wpAny_loadPart' hl, wpAny_pyIter_tuple hL
        exact ⟨_, rfl, h⟩
    · wp_walk using AutoSeq1.wpAny_loadPart' hl, wpAny_pyIter_tuple hL
      exact ⟨_, rfl, h⟩
section
variable {prog : Program} {w : World} {A : Around} {E : Value → Shared → Prop} {s : Shared}
theorem call_enumT {l : Addr} {items : Array Value} {Q : Value → Shared → Prop} (hL : s.heap.IsTuple l items)
    (h : ∀ h', IsEnum h' (s.heap.objs.size + 1) s.heap.objs.size 0 .none → h'.IsTupleIter s.heap.objs.size l 0 →
      (∀ b o, s.heap.get? b = some o → h'.get? b = some o) → Q (.ref (s.heap.objs.size + 1)) { s with heap := h' }) :
    wpAny (model prog w) A (PySem.call (.type "enumerate") [.ref l]) Q E s := by
  obtain ⟨⟨c, dct, dt, sl⟩, hl, hc, n, hd⟩ := hL
  replace hc : c = .type "tuple" := hc
  replace hd : dt = .seq items n := hd
  subst hc hd
  refine callType_new F.called_enumerate (by decide) (F.typeCall_enumerate_1 _) (F.newCall_enumerate_1 _) (fun obj => F.args_object_init_2 obj _) F.entry_enumerate_new
    (enumT_new l items n dct sl) ⟨hl, ?_⟩
  have hz : (s.heap.push { cls := .type "tuple_iterator", data := .fields #[.ref l, .int 0 0] }).objs.size = s.heap.objs.size + 1 := Heap.size_push ..
  show _ ∧ _
  rw [hz]
  have he : IsEnum ((s.heap.push { cls := .type "tuple_iterator", data := .fields #[.ref l, .int 0 0] }).push
      { cls := .type "enumerate", data := .fields #[.none, .bool false, .ref s.heap.objs.size, rawInt 0, .none, .none] }) (s.heap.objs.size + 1) s.heap.objs.size 0 .none := by
    have := Heap.get?_push_size (s.heap.push { cls := .type "tuple_iterator", data := .fields #[.ref l, .int 0 0] })
      (o := { cls := .type "enumerate", data := .fields #[.none, .bool false, .ref s.heap.objs.size, rawInt 0, .none, .none] }) rfl
    rw [hz] at this; exact this
  refine ⟨⟨_, he, rfl⟩, h _ he ⟨_, Heap.get?_push_of_some _ (Heap.get?_push_size _ rfl), rfl, rfl⟩ fun b o x => Heap.get?_push_of_some _ (Heap.get?_push_of_some _ x)⟩
end
/-- the tuple at a, each item in a new pair -/
def IteT (K : PySem.W.Frag) (a : Addr) : It :=
  ⟨fun i H => ∃ (xs : List V) (x : V), SqT K H a xs ∧ xs[i]? = some x, fun i H v H' => ∃ T x, v = .ref T ∧ H T = none ∧ H' = upd H T (.tup [.int (i : Nat), x]) ∧ ∀ xs, SqT K H a xs → xs[i]? = some x, fun i H => ∃ xs : List V, SqT K H a xs ∧ xs.length = i⟩
theorem turn_enumT {P : Program} {w : World} {K : PySem.W.Frag} {elts : List Expr} {kk : Nat} {tpos : Pos} (a e it : Addr) (hae : a ≠ e) (hai : a ≠ it) (hei : e ≠ it) :
    Turn P w K (.Tuple elts kk tpos) (IteT K a) [e, it] e (fun i h => (∃ old, IsEnum h e it ((i : Nat) : Int) old) ∧ h.IsTupleIter it a i) where
  mem := by simp
  obj := fun i h st b hb => by
    obtain ⟨⟨old, he⟩, ⟨o, ho, hc, hd⟩⟩ := st
    have e' : b = e ∨ b = it := by simpa using hb
    rcases e' with z | z
    · rw [z]; exact ⟨_, he, fun v q => nomatch q⟩
    · rw [z]; exact ⟨o, ho, fun v q => by rw [hd] at q; cases q⟩
  keep := fun i h h' st k => let ⟨⟨old, he⟩, hi⟩ := st; ⟨⟨old, k e (by simp) _ he⟩, hi.at fun o q => k it (by simp) o q⟩
  item := by
    intro X hP hw hK hc i pins s σ H E I hf st hg
    subst hP hw hK
    obtain ⟨⟨old, he⟩, hit⟩ := st
    obtain ⟨xs, x, hq, hx⟩ := hg
    obtain ⟨its, rv, p, hz⟩ := I.tuple hq
    obtain ⟨u, hu, ru⟩ := rv.get hx
    have hel : e < s.heap.objs.size := Heap.lt_size he
    have hil : it < s.heap.objs.size := by obtain ⟨_, q, _⟩ := hit; exact Heap.lt_size q
    have D := Draws.tuple (prog := X.prog) (w := X.w) (A := X.A.in1) (I.ok.hd hc) it a hai its.toArray
    have hlt : i < its.toArray.size := by
      have := (List.getElem?_eq_some_iff.mp hu).1
      simpa using this
    refine wpAny_pyNext_enum_itemD D he ⟨hit, show s.heap.IsTuple a its.toArray from p⟩ hlt hei (by simp [hei, hae.symm]) fun y h' tk hy ho hst' hT hsz hk => ?_
    obtain ⟨hit', _⟩ := hst'
    have ey : y = u := by
      have z : its.toArray[i]? = some u := by simpa using hu
      rw [z] at hy
      exact (Option.some.inj hy).symm
    subst ey
    refine ⟨_, rfl, wpAny_letOwnedTupleGo_enum (s := { s with heap := h', toks := tk + 1 }) ho fun h'' he' sb => ?_⟩
    have hT2 : h''.get? s.heap.objs.size = some { cls := .type "tuple", data := .seq #[.int i tk, y] } := (sb.2 _ (Nat.ne_of_gt hel)).trans hT
    have new : ObjOk X.prog X.w (upd H s.heap.objs.size (.tup [.int (i : Nat), x])) h'' s.heap.objs.size (.tup [.int (i : Nat), x]) :=
      ⟨by show 2 ≤ sizeLine; decide, [.int i tk, y], .cons ⟨_, rfl⟩ (.cons ru .nil), ⟨_, hT2, rfl, _, rfl⟩⟩
    have I1 : Inv X pins σ (upd H s.heap.objs.size (.tup [.int (i : Nat), x])) { s with heap := h'', toks := tk + 1 } :=
      I.turnedNew (ch := [e, it]) (fun b ob hb q => (sb.2 b (fun z => hb (by simp [z]))).trans (hk b ob (fun z => hb (by simp [z])) (fun z => hb (by simp [z])) q)) hf (Nat.le_refl _) new
    refine ⟨.ref s.heap.objs.size, _, I1, rfl, ⟨_, x, rfl, I.hok.fresh (Nat.le_refl _), rfl, fun ys hy => by rw [I.tuple_inj hy hq]; exact hx⟩, ⟨⟨y, ?_⟩, hit'.at fun o q => (sb.2 it (Ne.symm hei)).trans q⟩, fun b hb => ?_⟩
    · have e1 : ((i + 1 : Nat) : Int) = (i : Int) + 1 := by omega
      rw [e1]; exact he'
    · have hb' : b < s.heap.objs.size := by
        have e' : b = e ∨ b = it := by simpa using hb
        rcases e' with z | z
        · rw [z]; exact hel
        · rw [z]; exact hil
      rw [upd_ne (Nat.ne_of_lt hb')]
      exact (hf b hb).1
  done := by
    intro X hP hw hK hc i pins s σ H E I hf st hg
    subst hP hw hK
    obtain ⟨⟨old, he⟩, hit⟩ := st
    obtain ⟨xs, hq, hx⟩ := hg
    obtain ⟨its, rv, p, hz⟩ := I.tuple hq
    obtain ⟨f0, f1, f2, f3, f4, f5⟩ := hf it (by simp)
    have hl := rv.length
    have D := Draws.tuple (prog := X.prog) (w := X.w) (A := X.A.in1) (I.ok.hd hc) it a hai its.toArray
    have en : its.toArray.size = i := by
      rw [List.size_toArray, ← hl]
      exact hx
    exact wpAny_pyNext_enum_endD D he (show _ ∧ _ by rw [en]; exact ⟨hit, show s.heap.IsTuple a its.toArray from p⟩) fun h' eb => ⟨rfl, I.turned (t' := s.toks) (fun b o hb q => eb b o hb q) f0 f1 f3 f4 f5⟩
  self := fun A i s Q E st h => let ⟨⟨_, he⟩, _⟩ := st; wpAny_pyIter_enum he h
def iEnumT (K : PySem.W.Frag) (ta : TA) : TI := fun σ H R => ta σ H fun vs H1 => ∃ a xs, vs = [.ref a] ∧ SqT K H1 a xs ∧ R (IteT K a) H1
theorem pi_enumT {X : Cx} {e : Expr} {ta : TA} {p pos tpos : Pos} {elts : List Expr} {kk : Nat} (hg : Gl X "enumerate") (hm : X.mg "enumerate" = none) (ha : PA X [e] ta) (hs : starEach [e] X.env = [(false, eval e X.env)] := by rfl) :
    PI X (.Tuple elts kk tpos) (.Call (.Name "enumerate" p) [e] [] pos) (iEnumT X.K ta) := by
  refine ⟨fun pins s σ H R I h => ?_⟩
  refine Call_ (ld_blt I hg hm boot_enumerate (PyProof.Rows.callWith_type1 (thn (ha.run pos pins s σ H _ I h) fun us s1 ⟨vs, H1, I1, r1, q1⟩ => ?_) hs rfl))
  obtain ⟨a, xs, ex, hq, q⟩ := q1
  subst ex
  cases r1 with
  | cons r rr =>
    cases rr
    cases r
    obtain ⟨its, rv, p', hz⟩ := I1.tuple hq
    have hal : a < s1.heap.objs.size := p'.lt
    refine call_enumT (show s1.heap.IsTuple a its.toArray from p') fun h' he hit hk => wpAny_pyIter_enum he ?_
    have I2 : Inv X pins σ H1 { s1 with heap := h' } := I1.kept (t' := s1.toks) hk
    refine ⟨s1.heap.objs.size + 1, [s1.heap.objs.size + 1, s1.heap.objs.size], _, _, H1, rfl, I2, turn_enumT a (s1.heap.objs.size + 1) s1.heap.objs.size (Nat.ne_of_lt (Nat.lt_succ_of_lt hal)) (Nat.ne_of_lt hal) (Nat.succ_ne_self _), ⟨⟨.none, he⟩, hit⟩, fun b hb => ?_, q⟩
    have e' : b = s1.heap.objs.size + 1 ∨ b = s1.heap.objs.size := by simpa using hb
    have hle : s1.heap.objs.size ≤ b := by
      rcases e' with z | z
      · rw [z]; exact Nat.le_add_right _ _
      · rw [z]; exact Nat.le_refl _
    exact I1.fpOk hle (I1.hok.fresh hle)
theorem for_enumT {K : PySem.W.Frag} {a : Addr} {xs : List V} {g : TG} {tb : TS} {D : Ends} {σ : L2.St} {H : Hp} (Pv : Nat → L2.St → Hp → Prop) (h0 : Pv 0 σ H) (hl : ∀ i σ H, i ≤ xs.length → Pv i σ H → SqT K H a xs)
    (hs : ∀ i x T σ H, xs[i]? = some x → Pv i σ H → H T = none → g (.ref T) σ (upd H T (.tup [.int (i : Nat), x])) fun σ2 H2 => tb { D with nx := Pv (i + 1), ct := Pv (i + 1), bk := D.nx } σ2 H2) (hd : ∀ σ H, Pv xs.length σ H → D.nx σ H) :
    ∃ W : Nat → Nat → L2.St → Hp → Prop, (∃ m, W 0 m σ H) ∧ ∀ i m σ H, W i m σ H →
      ((IteT K a).stop i H ∧ D.nx σ H) ∨ ((IteT K a).go i H ∧ ∃ N : L2.St → Hp → Prop, (∀ σ' H', N σ' H' → ∃ m', m' < m ∧ W (i + 1) m' σ' H') ∧ ∀ x H', (IteT K a).yld i H x H' → g x σ H' fun σ2 H2 => tb { D with nx := N, ct := N, bk := D.nx } σ2 H2) := by
  refine ⟨fun i m σ H => m = xs.length - i ∧ i ≤ xs.length ∧ Pv i σ H, ⟨xs.length, by simp, Nat.zero_le _, h0⟩, ?_⟩
  rintro i m σ H ⟨rfl, hi, p⟩
  have q := hl i σ H hi p
  by_cases hlt : i < xs.length
  · refine .inr ⟨⟨xs, xs[i], q, by simp [hlt]⟩, Pv (i + 1), fun σ' H' p' => ⟨xs.length - (i + 1), by omega, rfl, hlt, p'⟩, fun v H' y => ?_⟩
    obtain ⟨T, x, rfl, hT, rfl, hx⟩ := y
    exact hs i x T σ H (hx xs q) p hT
  · have e : i = xs.length := by omega
    subst e
    exact .inl ⟨⟨xs, q, rfl⟩, hd σ H p⟩
end OtR
set_option Elab.async false
set_option linter.all false
set_option maxRecDepth 100000
set_option maxHeartbeats 4000000
namespace OtR
open PySem PySem.Spec PyProof.Rows L2
section
variable {X : Cx}
/-! ### a dict that is handed on is locked from then on (never written again) -/
def tFrz (t : TE) : TE := fun σ H Q => t σ H fun x H1 => ∃ d kvs, x = .ref d ∧ ((∃ od, H1 d = some (.frz od (.dK kvs)) ∧ Q x H1) ∨ (H1 d = some (.dK kvs) ∧ ∀ od, Q x (upd H1 d (.frz od (.dK kvs)))))
theorem pe_frz {e : Expr} {t : TE} (h : PE X e t) : PE X e (tFrz t) := by
  refine ⟨fun pins s σ H Q I hw => ?_⟩
  refine thn (h.run pins s σ H _ I hw) fun v s1 ⟨x, H1, I1, r1, d, kvs, ex, q⟩ => ?_
  rcases q with ⟨od, _, q⟩ | ⟨hd, q⟩
  · exact ⟨x, H1, I1, r1, q⟩
  · obtain ⟨od, I2⟩ := I1.lock hd True.intro
    exact ⟨x, _, I2, r1, q od⟩
/-! ### list(e.values()) of a locked dict -/
def rValsL : V → Hp → VK → Prop := fun x H Q => ∃ (d : Addr) (o : Obj) (kvs : List (Key × V)), x = .ref d ∧ H d = some (.frz o (.dK kvs)) ∧ ∀ p, H p = none → Q (.ref p) (upd H p (.lst (kvs.map (·.2))))
def tListVals (te : TE) : TE := fun σ H Q => te σ H fun x H1 => rValsL x H1 Q
theorem kv_vals {κ : Type} : ∀ {kvs : List (κ × V)} {vs : List (κ × Value)}, KV kvs vs → Vals (kvs.map (·.2)) (vs.map (·.2))
  | _, _, .nil => .nil
  | _, _, .cons r t => .cons r.2 (kv_vals t)
theorem pe_listVals {e : Expr} {te : TE} {p apos cpos pos : Pos} (hc : X.calm = true) (he : PE X e te) (hg : Gl X "list") (hm : X.mg "list" = none) (hv : bootBuiltins "list" = some (.type "list")) (hbase : attributeBase e "values" X.env (eval e X.env) = eval e X.env := by rfl) (hline : (apos.endLine == cpos.line) = true := by rfl)
    (hs : starEach [.Call (.Attribute e "values" apos) [] [] cpos] X.env = (false, eval (.Call (.Attribute e "values" apos) [] [] cpos) X.env) :: starEach [] X.env := by rfl) :
    PE X (.Call (.Name "list" p) [.Call (.Attribute e "values" apos) [] [] cpos] [] pos) (tListVals te) := by
  refine ⟨fun pins s σ H Q I hq => ?_⟩
  refine wpAny_Call_Name_kw (ld_blt I hg hm hv ?_)
  refine PyProof.Rows.callWith_type1 ?_ hs rfl
  rw [hs]
  show wpAny _ _ (spliced ((false, eval (.Call (.Attribute e "values" apos) [] [] cpos) X.env) :: backTo pos (starEach [] X.env))) _ _ s
  refine Calls.spliced_cons ?_
  refine wpAny_Call_method (T := "dict") (id := "dict.values") hbase rfl hline F.plainAttrs_dict F.slot_dict_values F.type_dict_values (thn (he.run pins s σ H _ I hq) fun u s1 ⟨x, H1, I1, rx, d, o, kvs, ex, hd, q⟩ => ?_)
  subst ex
  obtain rfl : u = Value.ref d := rx
  obtain ⟨hs0, hgd, hx, es, ep, vs, hdt, hsz, kv, hat⟩ := I1.frzK hd
  have hz : kvs.length ≤ sizeLine := (I1.hok d _ hd).2.1
  have lk : kvs.length = vs.length := Paired.length kv
  have I2 : Inv X pins σ H1 { s1 with heap := s1.heap.push { cls := .type "dict_values", data := .fields #[.ref d] } } := I1.kept (t' := s1.toks) fun b ob q => Heap.get?_push_of_some _ q
  refine ⟨hat.dictOf.typeIs, hat.dictOf.mapOf.noDict, ?_⟩
  show wpAny _ _ (callWith cpos (.builtin "dict.values") [.ref d] [] []) _ X.xe s1
  refine method_meetsIn F.slot_dict_values F.entry_dict_values rfl (PySem.evalArgs_none ⟨rfl, hat.dictOf.typeIs, F.args_dict_values_1 _, _, meets_dict_values (mixKind X.prog X.w) d hs0, ⟨vs, hat.dictOf⟩, ?_⟩)
  refine Calls.spliced_nil ?_
  refine PySem.W.kdl_call (PySem.W.kdl_values (knd := mixKind X.prog X.w) (kvs := vs) (ep := ep)) (I1.ok.hd hc) ⟨⟨_, Heap.get?_push_size _ rfl, rfl, rfl⟩, hat.push _⟩ (by rw [← lk]; exact hz) fun h' tk acc c hk hS hacc => ?_
  have ev : acc.toList = vs.map (·.2) := PySem.W.kdl_vals_eq acc.toList (by rw [Array.length_toList]; exact hacc.1) fun j v hj => hacc.2 j v (by rw [← Array.getElem?_toList]; exact hj)
  have hl : (kvs.map (·.2)).length ≤ sizeLine := by rw [List.length_map]; exact hz
  refine ⟨.ref _, upd H1 _ (.lst (kvs.map (·.2))), I2.laid hk (Nat.le_refl _) ⟨hl, acc.toList, c, by rw [ev]; exact kv_vals kv, by rw [Array.toArray_toList]; exact hS⟩, rfl, q _ (I2.hok.fresh (Nat.le_refl _))⟩
end
/-! ### sorted(xs): tuples of ints of one length; a list of one item at most -/
section
variable {prog : Program} {w : World} {A : Around} {E : Value → Shared → Prop} {s : Shared}
theorem sort_few {a : Addr} {vs : List Value} {n : Nat} {P : PySem.Fin → Shared → Prop} (ho : s.heap.get? a = some (seqObj "list" vs.toArray n)) (h1 : vs.length ≤ 1)
    (h : ∀ out : Array Value, out.toList.Perm vs → P (.done (.ret .none)) { s with heap := sortedHeap s.heap a vs out }) :
    wpAny (model prog w) A (Builtin.«list.sort» ⟨[.ref a], []⟩) P E s :=
  SK.plain_sort (r := fun _ => 0) ho (by omega) (fun h2 => by omega) fun ps out e1 e2 _ => h out (by
    rw [e1]
    have z := e2.map Prod.snd
    rw [List.map_snd_zip (Nat.le_refl _)] at z
    exact z)
theorem sorted_few {l : Addr} {vs : List Value} {Q : Value → Shared → Prop} (hl : s.heap.IsList l vs.toArray) (h1 : vs.length ≤ 1)
    (h : ∀ out : Array Value, out.toList.Perm vs → Q (.ref (s.heap.objs.size + 1)) { s with heap := sortedAll s.heap vs out }) :
    wpAny (model prog w) A (PySem.call (.builtin "sorted") [.ref l]) Q E s := by
  refine Calls.call_function_entry kind_sorted plain_sorted entry_sorted (args_sorted1 _) ?_
  unfold Builtin.«sorted»
  refine wpAny_bind (m := checkCount "sorted" 1 1 _) (wpAny_pure ?_)
  refine wpAny_bind (collect_list hl ?_ (by rw [sizeLine_eq]; omega))
  refine wpAny_bind (wpAny_newList ?_ (by rw [sizeLine_eq]; omega))
  have hsz : ((s.heap.push (seqObj "list" #[] 0)).update s.heap.objs.size (Obj.mapSeq (· ++ vs.toArray))).objs.size = s.heap.objs.size + 1 := by
    rw [Heap.size_update, size_push']
  have hoL : (((s.heap.push (seqObj "list" #[] 0)).update s.heap.objs.size (Obj.mapSeq (· ++ vs.toArray))).push (seqObj "list" vs.toArray 0)).get? (s.heap.objs.size + 1) = some (seqObj "list" vs.toArray 0) := by
    rw [← hsz]; exact Heap.get?_push_size _ rfl
  show wpAny _ _ _ _ _ { s with heap := ((s.heap.push (seqObj "list" #[] 0)).update s.heap.objs.size (Obj.mapSeq (· ++ vs.toArray))).push (seqObj "list" vs.toArray 0) }
  rw [hsz]
  refine wpAny_bind (wpAny_holding (wpAny_call_entry slot_list_sort ⟨_, hoL, rfl⟩ entry_list_sort (sort_few hoL h1 fun out a1 => ⟨_, rfl, ?_⟩) (args_list_sort _)))
  exact wpAny_pure ⟨_, rfl, h out a1⟩
end
section
variable {X : Cx}
theorem perm_one {α : Type} {l m : List α} (h : l.Perm m) (h1 : m.length ≤ 1) : l = m := by
  match m, h1 with
  | [], _ => exact List.perm_nil.mp h
  | [x], _ => exact List.perm_singleton.mp h
def rSortX (K : PySem.W.Frag) (B : Int) : List V → Hp → VK → Prop := fun vs H Q =>
  (∃ (a : Addr) (xs : List V), vs = [V.ref a] ∧ SqL K H a xs ∧ xs.length ≤ 1 ∧ ∀ p, H p = none → Q (.ref p) (upd H p (.lst xs))) ∨ ∃ d : Nat, 1 ≤ d ∧ rSortU K d B vs H Q
theorem cr_sortX {B : Int} : CallR X (.builtin "sorted") (rSortX X.K B) := by
  intro pins s σ H vs us Q I r h
  rcases h with ⟨a, xs, rfl, hs, h1, q⟩ | ⟨d, hd, h⟩
  · obtain ⟨its, rv, hl, hz⟩ := I.list hs
    rw [Vals.ref1 r]
    refine sorted_few hl.isList (by rw [← rv.length]; exact h1) fun out hp => ?_
    have eo : out.toList = its := perm_one hp (by rw [← rv.length]; exact h1)
    obtain ⟨ep, he'⟩ := PyProof.Rows.sortedAll_at s.heap its out
    exact ⟨.ref _, upd H (s.heap.objs.size + 1) (.lst xs), I.laid (t' := s.toks) (fun _ _ => PyProof.Rows.sortedAll_old) (Nat.le_succ _) ⟨hz, out.toList, ep, by rw [eo]; exact rv, he'⟩, rfl, q _ (I.hok.fresh (Nat.le_succ _))⟩
  · exact cr_sortT hd pins s σ H vs us Q I r h
end
end OtR
set_option Elab.async false
set_option linter.all false
set_option maxRecDepth 100000
set_option maxHeartbeats 4000000
namespace OtR
open PySem PySem.Spec PyProof.Rows L2
/-! ### a tuple whose object is known (it has no dict of its own): its methods may be called -/
def Kn (H : Hp) (a : Addr) (xs : List V) : Prop := ∃ o : Obj, H a = some (.frz o (.tup xs)) ∧ o.dict = none
theorem Kn.sq {K : PySem.W.Frag} {H : Hp} {a : Addr} {xs : List V} (h : Kn H a xs) : SqT K H a xs := let ⟨o, e, _⟩ := h; .inl (.inr ⟨o, e⟩)
theorem Kn.same {H H' : Hp} {a : Addr} {xs : List V} (h : Kn H a xs) (s : Same H H') : Kn H' a xs := let ⟨o, e, d⟩ := h; ⟨o, s _ _ e, d⟩
theorem Kn.new {H : Hp} {a : Addr} {xs : List V} {o : Obj} (d : o.dict = none) : Kn (upd H a (.frz o (.tup xs))) a xs := ⟨o, upd_same, d⟩
section
variable {X : Cx} {o e : Expr} {es : List Expr} {to : TE} {t : TA} {name : Str} {apos cpos pos : Pos} {id : String} {r : V → List V → Hp → VK → Prop}
/-- (e, ..) -/
def tTupF (t : TA) : TE := fun σ H Q => t σ H fun xs H1 => xs.length ≤ sizeLine ∧ ∀ (p : Addr) (o : Obj), o.dict = none → H1 p = none → Q (.ref p) (upd H1 p (.frz o (.tup xs)))
theorem pe_tupF {x1} (h : PA X es t) : PE X (.Tuple es x1 pos) (tTupF t) := by
  refine ⟨fun pins s σ H Q I hq => ?_⟩
  refine wpAny_Tuple_spliced (thn (h.run pos pins s σ H _ I hq) fun us s1 ⟨xs, H1, I1, r, z, q⟩ => ⟨by rw [← r.length]; exact z, ?_⟩)
  have hf : H1 s1.heap.objs.size = none := I1.hok.fresh (Nat.le_refl _)
  have hg := Heap.get?_push_size s1.heap (o := { cls := .type "tuple", data := .seq us.toArray }) rfl
  refine ⟨.ref s1.heap.objs.size, _, I1.laid (t' := s1.toks) (o := .frz { cls := .type "tuple", data := .seq us.toArray } (.tup xs)) (fun b u e => Heap.get?_push_of_some _ e) (Nat.le_refl _) ?_, rfl, q _ _ rfl hf⟩
  exact ⟨hg, z, us, r, ⟨_, hg, rfl, _, rfl⟩⟩
/-- tuple(l), l a list -/
def rTupF (K : PySem.W.Frag) : List V → Hp → VK → Prop := fun xs H Q => ∃ p ys, xs = [.ref p] ∧ SqL K H p ys ∧ ∀ (l : Addr) (o : Obj), o.dict = none → H l = none → Q (.ref l) (upd H l (.frz o (.tup ys)))
theorem call_tupF : CallR X (.type "tuple") (rTupF X.K) := by
  intro pins s σ H xs us Q I r h
  obtain ⟨p, ys, rfl, hq, q⟩ := h
  obtain ⟨u, rfl, rx⟩ := vals1 r
  cases rx
  obtain ⟨its, r', pl, hz⟩ := I.list hq
  have hlen := r'.length
  refine call_tuple_list pl.isList (fun h' kp => ?_) (by simp only [List.size_toArray] <;> omega)
  have I1 : Inv X pins σ H { s with heap := h' } := I.kept (t' := s.toks) kp
  have hg := Heap.get?_push_size h' (o := { cls := .type "tuple", data := .seq its.toArray }) rfl
  have I2 : Inv X pins σ (upd H h'.objs.size (.frz { cls := .type "tuple", data := .seq its.toArray } (.tup ys))) { s with heap := h'.push { cls := .type "tuple", data := .seq its.toArray } } :=
    I1.laid (t' := s.toks) (fun b o e => Heap.get?_push_of_some _ e) (Nat.le_refl _) ⟨hg, hz, its, r', ⟨_, hg, rfl, _, rfl⟩⟩
  exact ⟨.ref h'.objs.size, _, I2, rfl, q _ _ rfl (I1.hok.fresh (Nat.le_refl _))⟩
/-- t + u -/
def rCatF (K : PySem.W.Frag) : R2 := fun x y H Q => ∃ a b xs ys, x = .ref a ∧ y = .ref b ∧ SqT K H a xs ∧ SqT K H b ys ∧ xs.length + ys.length ≤ sizeLine ∧
  (xs = [] → Q (.ref b) H) ∧ (xs ≠ [] → ys = [] → Q (.ref a) H) ∧ (xs ≠ [] → ys ≠ [] → ∀ (p : Addr) (o : Obj), o.dict = none → H p = none → Q (.ref p) (upd H p (.frz o (.tup (xs ++ ys)))))
theorem op_catF : OpR X (binaryOp .Add) (rCatF X.K) := by
  intro pins s σ H x y v u Q I rx ry h
  obtain ⟨a, b, xs, ys, rfl, rfl, ha, hb, hz, q0, q1, q2⟩ := h
  cases rx
  cases ry
  obtain ⟨its, r1, p1, _⟩ := I.tuple ha
  obtain ⟨its2, r2, p2, _⟩ := I.tuple hb
  by_cases hx : xs = []
  · subst hx
    cases r1
    exact cat_tup0 p1 p2 ⟨.ref b, H, I, rfl, q0 rfl⟩
  · refine HT.cat_tup p1 p2 (fun z => hx (r1.nil_iff.mp z)) (fun z => ⟨.ref a, H, I, rfl, q1 hx (r2.nil_iff.mp z)⟩) (fun z => ?_) (by rw [← r1.length, ← r2.length]; exact hz)
    have hg := Heap.get?_push_size s.heap (o := { cls := .type "tuple", data := .seq (its ++ its2).toArray }) rfl
    refine ⟨.ref s.heap.objs.size, _, I.laid (t' := s.toks) (o := .frz { cls := .type "tuple", data := .seq (its ++ its2).toArray } (.tup (xs ++ ys))) (fun b ob q => Heap.get?_push_of_some _ q) (Nat.le_refl _) ?_, rfl, q2 hx (fun w => z (r2.nil_iff.mpr w)) _ _ rfl (I.hok.fresh (Nat.le_refl _))⟩
    exact ⟨hg, by rw [List.length_append]; exact hz, _, r1.append r2, ⟨_, hg, rfl, _, rfl⟩⟩
/-- t.m(e, ..), t a tuple whose object is known -/
def tBMT (r : V → List V → Hp → VK → Prop) (to : TE) (t : TA) : TE := fun σ H Q => to σ H fun x H1 => (∃ a xs, x = .ref a ∧ Kn H1 a xs) ∧ t σ H1 fun xs H2 => r x xs H2 Q
theorem pe_bmT (slot : Slot "tuple" name id) (hty : typeOf (.builtin id) = pure (.type "method_descriptor")) (hm : MtR X id r) (ho : PE X o to) (ha : PA X (e :: es) t)
    (hbase : attributeBase o name X.env (eval o X.env) = eval o X.env := by rfl)
    (hfew : ((backTo cpos (starEach (e :: es) X.env)).all (fun x => !x.1) && (backToKw cpos (keywordEach [] X.env)).all (fun x => x.1.isSome)
      && decide ((e :: es).length + ([] : List Keyword).length + (if ([] : List Keyword).isEmpty then 0 else 1) < 30)) = true := by rfl)
    (hline : (apos.endLine == cpos.line) = true := by rfl) (hs : starEach (e :: es) X.env = (false, eval e X.env) :: starEach es X.env := by rfl) (hplain : (backTo cpos (starEach es X.env)).any (·.1) = false := by rfl) :
    PE X (.Call (.Attribute o name apos) (e :: es) [] cpos) (tBMT r to t) := by
  refine ⟨fun pins s σ H Q I h => ?_⟩
  refine wpAny_Call_method_late hbase hfew hline rfl (thn (ho.run pins s σ H _ I h) fun v s1 ⟨x, H1, I1, r1, ⟨a, xs, ex, oa, ea, da⟩, q1⟩ => ?_)
  subst ex
  obtain rfl : v = Value.ref a := r1
  obtain ⟨hg, _, its, rv, o2, h2, hc, _⟩ := (show ObjOk X.prog X.w H1 s1.heap a (.frz oa (.tup xs)) from I1.hok a _ ea)
  have hc2 : oa.cls = .type "tuple" := by
    rw [hg] at h2
    cases h2
    exact hc
  refine ⟨"tuple", id, F.plainAttrs_tuple, slot, hty, ⟨oa, hg, hc2⟩, fun b eb => ?_, ?_⟩
  · cases eb
    exact ⟨oa, hg, da⟩
  have hA := ha.run cpos pins s1 σ H1 _ I1 q1
  rw [hs] at hA ⊢
  refine Calls.callWith_builtin (by show (false || (backTo cpos (starEach es X.env)).any (·.1)) = false; rw [hplain] <;> rfl) (Calls.evalArgs_plain ?_)
  exact thn hA fun us s2 ⟨vs, H2, I2, r2, q2⟩ => hm pins s2 σ H2 (.ref a) vs (.ref a) us Q I2 rfl r2 q2
/-- t.index(k) -/
theorem pe_tidx (ho : PE X o to) (ha : PE X e t0) (hbase : attributeBase o "index" X.env (eval o X.env) = eval o X.env := by rfl)
    (hfew : ((backTo cpos (starEach [e] X.env)).all (fun x => !x.1) && (backToKw cpos (keywordEach [] X.env)).all (fun x => x.1.isSome)
      && decide (([e] : List Expr).length + ([] : List Keyword).length + (if ([] : List Keyword).isEmpty then 0 else 1) < 30)) = true := by rfl)
    (hline : (apos.endLine == cpos.line) = true := by rfl) (hs : starEach [e] X.env = (false, eval e X.env) :: starEach [] X.env := by rfl) :
    PE X (.Call (.Attribute o "index" apos) [e] [] cpos) (tBMT (rTIdx X.K) to (tCons t0 tNil)) :=
  pe_bmT F.slot_tuple_index F.type_tuple_index mt_tidx ho (pa_cons ha pa_nil hs) hbase hfew hline hs rfl
end
end OtR
set_option Elab.async false
set_option linter.all false
set_option maxRecDepth 100000
set_option maxHeartbeats 4000000
namespace OtR
open PySem PySem.Spec PyProof.Rows L2
/-! ### a dict whose keys are tuples of ints that stand at known addresses -/
/-- an entry: the key's ints, the key's own tuple, the value -/
abbrev En := List Int × Addr × V
def keyI (k : List Int) : List L2.Key := k.map Sum.inl
theorem keyI_kV (k : List Int) : (keyI k).map kV = k.map V.int := by
  unfold keyI
  rw [List.map_map]
  rfl
theorem keyI_inj : ∀ {a b : List Int}, keyI a = keyI b → a = b
  | [], [], _ => rfl
  | [], _ :: _, e => by cases e
  | _ :: _, [], e => by cases e
  | x :: xs, y :: ys, e => by
    injection e with e1 e2
    injection e1 with e3
    rw [e3, keyI_inj (a := xs) (b := ys) e2]
abbrev ERel : En → List L2.Key × Addr × Value → Prop := fun p q => q.1 = keyI p.1 ∧ q.2.1 = p.2.1 ∧ RelV p.2.2 q.2.2
/-- the dict at a holds these entries -/
def KD (P : Program) (w : World) (a : Addr) (es : List En) : HO := .ext fun h => (a == sysModules) = false ∧ es.length ≤ sizeLine ∧ ∃ xs : List (List L2.Key × Addr × Value), Paired ERel es xs ∧
  ∃ o m ep, h.get? a = some o ∧ o.ExactDict ∧ o.data = .dict m ep ∧ m.toList = xs.map (entryOfKey (tupleKind (mixKind P w))) ∧ (xs.map (·.1)).Nodup
theorem kd_ok {P : Program} {w : World} {H : Hp} {h : Heap} {a : Addr} {es : List En} {xs : List (List L2.Key × Addr × Value)} (hs : (a == sysModules) = false) (hz : es.length ≤ sizeLine) (r : Paired ERel es xs) (d : h.DictOfH (tupleKind (mixKind P w)) a xs) :
    ObjOk P w H h a (KD P w a es) := by
  obtain ⟨o, m, ep, ho, hx, hd, he, _, hn⟩ := d
  refine ⟨⟨hs, hz, xs, r, o, m, ep, ho, hx, hd, he, hn⟩, ⟨o, ho⟩, ?_⟩
  rintro h1 h2 ⟨_, _, ys, q, u, m2, ep2, g1, g2, g3, g4, g5⟩ k
  exact ⟨hs, hz, ys, q, u, m2, ep2, k _ g1, g2, g3, g4, g5⟩
/-- the keys' tuples stand -/
def Keys (K : PySem.W.Frag) (H : Hp) (es : List En) : Prop := ∀ e ∈ es, SqT K H e.2.1 (e.1.map V.int)
section
variable {X : Cx} {pins : List (Addr × Obj)} {σ : L2.St} {H : Hp} {s : Shared} {a b : Addr} {es : List En} {k : List Int}
theorem key_at (I : Inv X pins σ H s) (h : SqT X.K H b (k.map V.int)) : (tupleKind (mixKind X.prog X.w)).is s.heap (keyI k) b := by
  obtain ⟨its, r, ⟨o, h1, h2, n, h3⟩, _⟩ := I.tuple h
  refine ⟨o, its.toArray, n, h1, h2, h3, ?_⟩
  rw [← keyI_kV] at r
  simpa using items_are r
theorem kd_at (I : Inv X pins σ H s) (h : H a = some (KD X.prog X.w a es)) (hk : Keys X.K H es) : (a == sysModules) = false ∧ es.length ≤ sizeLine ∧ ∃ xs, Paired ERel es xs ∧ s.heap.DictOfH (tupleKind (mixKind X.prog X.w)) a xs := by
  obtain ⟨⟨hs, hz, xs, r, o, m, ep, ho, hx, hd, he, hn⟩, _⟩ := (show ObjOk X.prog X.w H s.heap a (KD X.prog X.w a es) from I.hok a _ h)
  refine ⟨hs, hz, xs, r, o, m, ep, ho, hx, hd, he, fun x hx => ?_, hn⟩
  have all : ∀ {l : List En} {y : List (List L2.Key × Addr × Value)}, Paired ERel l y → (∀ e ∈ l, SqT X.K H e.2.1 (e.1.map V.int)) → ∀ x ∈ y, (tupleKind (mixKind X.prog X.w)).is s.heap x.1 x.2.1 := by
    intro l y q
    induction q with
    | nil => intro _ x hx; exact nomatch hx
    | @cons p q ps qs hq t ih =>
      intro hl x hx
      rcases List.mem_cons.mp hx with e | hx
      · subst e
        obtain ⟨e1, e2, _⟩ := hq
        rw [e1, e2]
        exact key_at I (hl p List.mem_cons_self)
      · exact ih (fun e he => hl e (List.mem_cons_of_mem _ he)) x hx
  exact all r hk x hx
theorem key_has {es : List En} {xs : List (List L2.Key × Addr × Value)} (r : Paired ERel es xs) (k : List Int) : (atKey xs (keyI k)).isSome = decide (k ∈ es.map (·.1)) := by
  induction r with
  | nil => rfl
  | @cons p q ps qs h t ih =>
    obtain ⟨h1, _, _⟩ := h
    by_cases e : p.1 = k
    · have e' : q.1 = keyI k := by rw [h1, e]
      have z : atKey (q :: qs) (keyI k) = some q.2 := by simp [atKey, List.find?_cons, e']
      rw [z]
      symm
      exact decide_eq_true (by rw [List.map_cons, e]; exact List.mem_cons_self)
    · have e' : ¬ q.1 = keyI k := fun z => e (keyI_inj (h1.symm.trans z))
      have z : atKey (q :: qs) (keyI k) = atKey qs (keyI k) := by simp [atKey, List.find?_cons, e']
      rw [z, ih, List.map_cons]
      refine decide_eq_decide.mpr ⟨fun m => List.mem_cons_of_mem _ m, fun m => ?_⟩
      rcases List.mem_cons.mp m with c | c
      · exact absurd c.symm e
      · exact c
theorem key_val {es : List En} {xs : List (List L2.Key × Addr × Value)} (r : Paired ERel es xs) {k : List Int} {p : Addr × Value} (h : atKey xs (keyI k) = some p) : ∃ v, (k, p.1, v) ∈ es ∧ RelV v p.2 := by
  induction r with
  | nil => exact nomatch h
  | @cons x q ps qs hq t ih =>
    obtain ⟨h1, h2, h3⟩ := hq
    by_cases e : x.1 = k
    · have e' : q.1 = keyI k := by rw [h1, e]
      have z : atKey (q :: qs) (keyI k) = some q.2 := by simp [atKey, List.find?_cons, e']
      rw [z] at h
      cases h
      refine ⟨x.2.2, ?_, h3⟩
      rw [← e, h2]
      exact List.mem_cons_self
    · have e' : ¬ q.1 = keyI k := fun z => e (keyI_inj (h1.symm.trans z))
      have z : atKey (q :: qs) (keyI k) = atKey qs (keyI k) := by simp [atKey, List.find?_cons, e']
      rw [z] at h
      obtain ⟨v, m, rv⟩ := ih h
      exact ⟨v, List.mem_cons_of_mem _ m, rv⟩
/-- k there: its value is changed; else a new entry -/
def putX (es : List En) (k : List Int) (b : Addr) (v : V) : List En :=
  if decide (k ∈ es.map (·.1)) = true then es.map (fun e => if e.1 = k then (e.1, e.2.1, v) else e) else es ++ [(k, b, v)]
theorem putX_mem {es : List En} {k : List Int} {b : Addr} {v : V} {e : En} (h : e ∈ putX es k b v) : e = (k, b, v) ∨ e ∈ es ∨ (e.1 = k ∧ e.2.2 = v ∧ ∃ u, (k, e.2.1, u) ∈ es) := by
  unfold putX at h
  by_cases c : decide (k ∈ es.map (·.1)) = true
  · rw [if_pos c] at h
    obtain ⟨x, hx, rfl⟩ := List.mem_map.mp h
    by_cases d : x.1 = k
    · rw [if_pos d]
      refine .inr (.inr ⟨d, rfl, x.2.2, ?_⟩)
      rw [← d]
      exact hx
    · rw [if_neg d]
      exact .inr (.inl hx)
  · rw [if_neg c] at h
    rcases List.mem_append.mp h with z | z
    · exact .inr (.inl z)
    · exact .inl (List.mem_singleton.mp z)
theorem putX_key (es : List En) (k : List Int) (b : Addr) (v : V) : k ∈ (putX es k b v).map (·.1) := by
  unfold putX
  by_cases c : decide (k ∈ es.map (·.1)) = true
  · rw [if_pos c]
    have m := of_decide_eq_true c
    obtain ⟨x, hx, e⟩ := List.mem_map.mp m
    refine List.mem_map.mpr ⟨(x.1, x.2.1, v), List.mem_map.mpr ⟨x, hx, ?_⟩, e⟩
    rw [if_pos e]
  · rw [if_neg c, List.map_append]
    exact List.mem_append_right _ (List.mem_singleton.mpr rfl)
theorem putX_len (es : List En) (k : List Int) (b : Addr) (v : V) : (putX es k b v).length ≤ es.length + 1 := by
  unfold putX
  split
  · rw [List.length_map]; omega
  · rw [List.length_append]; exact Nat.le_refl _
theorem putX_rel {es : List En} {xs : List (List L2.Key × Addr × Value)} (r : Paired ERel es xs) (k : List Int) (b : Addr) {v : V} {u : Value} (rv : RelV v u) : Paired ERel (putX es k b v) (storedH xs (keyI k) b u) := by
  unfold putX storedH
  rw [key_has r k]
  by_cases c : decide (k ∈ es.map (·.1)) = true
  · rw [if_pos c, if_pos c]
    clear c
    induction r with
    | nil => exact .nil
    | @cons p q ps qs h t ih =>
      obtain ⟨h1, h2, h3⟩ := h
      rw [List.map_cons, List.map_cons]
      refine .cons ?_ ih
      unfold putAt
      by_cases e : p.1 = k
      · rw [if_pos e, if_pos (by rw [h1, e])]; exact ⟨h1, h2, rv⟩
      · rw [if_neg e, if_neg (fun z => e (keyI_inj (h1.symm.trans z)))]; exact ⟨h1, h2, h3⟩
  · rw [if_neg c, if_neg c]
    exact Paired.snoc r ⟨rfl, rfl, rv⟩
end
section
variable {X : Cx} {o i value : Expr} {pos pos' : Pos} {td ty tv : TE}
def tXNew (P : Program) (w : World) : TE := fun _ H Q => ∀ p, H p = none → Q (.ref p) (upd H p (KD P w p []))
theorem pe_xnew : PE X (.Dict [] [] pos) (tXNew X.prog X.w) := ⟨fun pins s σ H Q I h =>
  wpAny_Dict_empty ⟨.ref s.heap.objs.size, _, I.laid (a := s.heap.objs.size) (t' := s.toks) (fun _ _ q => Heap.get?_push_of_some _ q) (Nat.le_refl _)
    (kd_ok (xs := []) (beq_eq_false_iff_ne.mpr (Ne.symm (Nat.ne_of_lt I.big))) (Nat.zero_le _) .nil (Heap.DictOfH.new s.heap)), rfl, h _ (I.hok.fresh (Nat.le_refl _))⟩⟩
/-- y not in d -/
def tXNotIn (P : Program) (w : World) (K : PySem.W.Frag) (ty td : TE) : TE := fun σ H Q => ty σ H fun y H1 => td σ H1 fun x H2 => ∃ a b es k, x = .ref a ∧ y = .ref b ∧ H2 a = some (KD P w a es) ∧ Keys K H2 es ∧ SqT K H2 b (k.map V.int) ∧ Q (.bl (!decide (k ∈ es.map (·.1)))) H2
theorem pc_xnotin (hu : X.A.units + 1 < cLine) (hi : PE X i ty) (ho : PE X o td) : PC X .NotIn i o (tXNotIn X.prog X.w X.K ty td) := by
  refine ⟨fun pins s σ H Q I h => ?_⟩
  refine thn (hi.run pins s σ H _ I h) fun iv s1 ⟨y, H1, I1, ry, q1⟩ => thn (ho.run pins s1 σ H1 _ I1 q1) fun u s2 ⟨x, H2, I2, rx, a, b, es, k, ex, ey, hd, hk, hb, q2⟩ => ?_
  subst ex ey
  obtain rfl : u = Value.ref a := rx
  obtain rfl : iv = Value.ref b := ry
  obtain ⟨hs, hz, xs, r, d⟩ := kd_at I2 hd hk
  refine wpAny_notIn_heap (tupleKind_room_in1 hu) (key_at I2 hb) hs d ?_
  rw [key_has r k]
  exact ⟨.bl (!decide (k ∈ es.map (fun e : En => e.1))), H2, I2.tok _, rfl, q2⟩
/-- d[y], there -/
def tXGet (P : Program) (w : World) (K : PySem.W.Frag) (td ty : TE) : TE := fun σ H Q => td σ H fun x H1 => ty σ H1 fun y H2 => ∃ a b es k, x = .ref a ∧ y = .ref b ∧ H2 a = some (KD P w a es) ∧ Keys K H2 es ∧ SqT K H2 b (k.map V.int) ∧ k ∈ es.map (·.1) ∧ ∀ q v, (k, q, v) ∈ es → Q v H2
theorem pe_xget (hu : X.A.units + 1 < cLine) (ho : PE X o td) (hi : PE X i ty) (hs : NoSl i) : PE X (.Subscript o i pos) (tXGet X.prog X.w X.K td ty) := by
  refine ⟨fun pins s σ H Q I h => ?_⟩
  refine subD_of PySem.F.slot_dict_getitem.lookup hs (thn (ho.run pins s σ H _ I h) fun u s1 ⟨x, H1, I1, rx, q1⟩ => thn (hi.run pins s1 σ H1 _ I1 q1) fun iv s2 ⟨y, H2, I2, ry, a, b, es, k, ex, ey, hd, hk, hb, hm, q2⟩ => ?_)
  subst ex ey
  obtain rfl : u = Value.ref a := rx
  obtain rfl : iv = Value.ref b := ry
  obtain ⟨hs, hz, xs, r, d⟩ := kd_at I2 hd hk
  have hh := key_has r k
  rw [decide_eq_true hm] at hh
  obtain ⟨p, hp⟩ := Option.isSome_iff_exists.mp hh
  obtain ⟨v, m, rv⟩ := key_val r hp
  exact ⟨d.typeIs, wpAny_getItem_heap (tupleKind_room_in1 hu) (key_at I2 hb) d hp ⟨v, H2, I2.tok _, rv, q2 _ _ m⟩⟩
/-- d[y] = v -/
def sXPut (P : Program) (w : World) (K : PySem.W.Frag) (td ty tv : TE) : TS := fun D σ H => tv σ H fun v H1 => td σ H1 fun x H2 => ty σ H2 fun y H3 => ∃ a b es k, x = .ref a ∧ y = .ref b ∧ H3 a = some (KD P w a es) ∧ Keys K H3 es ∧ SqT K H3 b (k.map V.int) ∧ es.length < sizeLine ∧ D.nx σ (upd H3 a (KD P w a (putX es k b v)))
theorem ps_xput (hu : X.A.units + 1 < cLine) (ho : PE X o td) (hi : PE X i ty) (hv : PE X value tv) (hs : swapsWith value (some (.Subscript o i pos')) pos.line X.env = pure false) :
    PS X (.Assign [.Subscript o i pos'] value pos) (sXPut X.prog X.w X.K td ty tv) := by
  refine ⟨fun pins s σ H D I h => ?_⟩
  refine wpAny_Assign_Subscript (thn (hv.run pins s σ H _ I h) fun r s1 ⟨v, H1, I1, rv, q1⟩ => thn (ho.run pins s1 σ H1 _ I1 q1) fun u s2 ⟨x, H2, I2, rx, q2⟩ => thn (hi.run pins s2 σ H2 _ I2 q2) fun iv s3 ⟨y, H3, I3, ry, a, b, es, k, ex, ey, hd, hk, hb, hl, q3⟩ => ?_) hs
  subst ex ey
  obtain rfl : u = Value.ref a := rx
  obtain rfl : iv = Value.ref b := ry
  obtain ⟨hs, hz, xs, rel, d⟩ := kd_at I3 hd hk
  have hzx : xs.length ≤ sizeLine := by rw [← Paired.length rel]; exact hz
  refine wpAny_setItem_heap (hsz := hzx) (tupleKind_room_in1 hu) (key_at I3 hb) d fun h' d' hsb => ?_
  have new : ObjOk X.prog X.w (upd H3 a (KD X.prog X.w a (putX es k b v))) h' a (KD X.prog X.w a (putX es k b v)) :=
    kd_ok hs (Nat.le_trans (putX_len es k b v) hl) (putX_rel rel k b rv) d'
  have ex : ∃ z, h'.get? a = some z := let ⟨z, _, _, hz, _⟩ := d'; ⟨z, hz⟩
  exact ⟨σ, _, d_write I3 (by rw [hd]; exact True.intro) hsb ex new, q3⟩
end
end OtR
set_option Elab.async false
set_option linter.all false
set_option maxRecDepth 100000
set_option maxHeartbeats 4000000
namespace Ot
open PySem PySem.Spec PyProof.Rows L2 OtR
open C8 (Cal pe_c)
/-! ### the text by places -/
def stm (i : Nat) : Stmt := PySem.Challenge.pw_overtake_k11_whole_longest_rows.main.body.getD i (.Pass ⟨0, 0, 0, 0⟩)
/-- a line (or a row of people) as it stands; a list of ints -/
abbrev Tu (H : Hp) (a : Addr) (l : List Int) : Prop := Kn H a (l.map V.int)
abbrev Ls (H : Hp) (a : Addr) (l : List Int) : Prop := H a = some (.lst (l.map V.int))
/-- built-in names that the module does not bind -/
structure Bt (mg : Str → Option Value) : Prop where
  len : mg "len" = none
  range : mg "range" = none
  sorted : mg "sorted" = none
  enum : mg "enumerate" = none
  isi : mg "isinstance" = none
  int : mg "int" = none
  bool : mg "bool" = none
  tuple : mg "tuple" = none
  list : mg "list" = none
  str : mg "str" = none
  sum : mg "sum" = none
  max : mg "max" = none
/-- a def of the module -/
structure Df (K : PySem.W.Frag) (mg : Str → Option Value) (x : Str) (st : Stmt) (f : Addr) (fd : FuncData) : Prop where
  fn : L2.Fun K x x st f fd
  g : mg x = some (.ref f)
theorem same_new {H : Hp} {p : Addr} {o : HO} (h : H p = none) : Same H (upd H p o) := fun b x e => by
  rw [upd_ne (ne_of_none e h)]
  exact e
theorem same_keep {H H1 : Hp} {p : Addr} {o : HO} (s : Same H H1) (h : H p = none) : Same H (upd H1 p o) := fun b x e => by
  rw [upd_ne (ne_of_none e h)]
  exact s b x e
theorem small {n : Nat} (h : n ≤ 1000) : n ≤ sizeLine := Nat.le_of_lt (small1000 h)
theorem gi {l : List Int} {k : Nat} (hk : k < l.length) : (l.map V.int)[k]? = some (V.int (l.getD k 0)) := by
  rw [List.getElem?_map, List.getElem?_eq_getElem hk, List.getD_eq_getElem?_getD, List.getElem?_eq_getElem hk]
  rfl
theorem eqV_int (i j : Int) : eqV (.int i) (.int j) = decide (i = j) := by
  first
    | rfl
    | (simp [eqV])
theorem cut_to (xs : List V) {i : Nat} (h : i ≤ xs.length) : cutV xs none (some (i : Int)) = xs.take i := by
  unfold cutV
  rw [HT.sIx_none, HT.sIx_nat, Nat.min_eq_left h, List.drop_zero, Nat.sub_zero]
theorem cut_from (xs : List V) {i : Nat} (h : i ≤ xs.length) : cutV xs (some (i : Int)) none = xs.drop i := by
  unfold cutV
  rw [HT.sIx_none, HT.sIx_nat, Nat.min_eq_left h]
  exact List.take_of_length_le (by rw [List.length_drop]; exact Nat.le_refl _)
theorem cut_mid (xs : List V) {i j : Nat} (h : j ≤ xs.length) (hi : i ≤ j) : cutV xs (some (i : Int)) (some (j : Int)) = (xs.drop i).take (j - i) := by
  unfold cutV
  rw [HT.sIx_nat, HT.sIx_nat, Nat.min_eq_left h, Nat.min_eq_left (Nat.le_trans hi h)]
theorem no_before {l : List Int} (nd : l.Nodup) {i : Nat} (hi : i < l.length) : inV (.int (l.getD i 0)) ((l.map V.int).take i) = false := by
  unfold inV
  rw [List.any_eq_false]
  intro y hy
  rw [← List.map_take] at hy
  obtain ⟨z, hz, rfl⟩ := List.mem_map.mp hy
  obtain ⟨j, hj, e⟩ := List.mem_iff_getElem.mp hz
  rw [eqV_int]
  intro c
  have c1 : z = l.getD i 0 := of_decide_eq_true c
  rw [List.length_take] at hj
  have e1 : l[j] = z := by rw [← e, List.getElem_take]
  have e2 : l.getD i 0 = l[i] := by rw [List.getD_eq_getElem?_getD, List.getElem?_eq_getElem hi]; rfl
  have : j = i := (List.getElem_inj nd).mp (e1.trans (c1.trans e2))
  omega
theorem flat_ints (l : List Int) : (l.map V.int).all flatV = true := by
  rw [List.all_map]
  exact List.all_eq_true.mpr fun _ _ => rfl
theorem q_true {Q : VK} {H : Hp} {c : Prop} [Decidable c] (h : c) (q : Q (.bl true) H) : Q (.bl (decide c)) H := by
  rw [decide_eq_true h]
  exact q
section
variable {P : Program} {w : World} {K : PySem.W.Frag} {mg : Str → Option Value} {base : Heap}
theorem cal_of {x : Str} {st : Stmt} {f : Addr} {fd : FuncData} {ps : List Str} {k : Nat} {sp : Sp} (D : Df K mg x st f fd) (F : FnOk P w K mg base CX0 k f fd ps sp)
    (b : Binds K fd ps []) : Cal P w K mg base k x sp [] := ⟨f, fd, ps, [], F, D.g, D.fn.kp, b, .nil⟩
/-! ### is_integer, is_in, is_list: on what they are asked here -/
abbrev sIsInt : Stmt := stm 1
theorem scIsInt : FnScope ["value"] ["value"] (defScope sIsInt) := ⟨rfl, rfl, rfl, by decide +kernel, rfl, by decide +kernel, by decide +kernel⟩
def spIsInt : Sp := fun vs H Q _ => ∃ i : Int, vs = [.int i] ∧ Q (.bl true) H
theorem cal_isint {f : Addr} {fd : FuncData} (D : Df K mg "is_integer" sIsInt f fd) (B : Bt mg) : Cal P w K mg base 1 "is_integer" spIsInt [] := by
  refine cal_of (ps := ["value"]) D (D.fn.ok scIsInt (fun vs H Q E h => ?_) (fun cdv A outer s H vs Q E hr h => ?_)) (D.fn.binds fun _ _ _ _ _ _ us hl => match us, hl with | [_], _ => rfl)
  · obtain ⟨i, rfl, _⟩ := h
    rfl
  obtain ⟨i, rfl, q⟩ := h
  refine ⟨_, pss_one (ps_ret (pe_and (pe_callB call_isi (by rfl) B.isi (by decide +kernel) (pa_cons (pv 0) (pa_cons (pe_bltn (v := .ty "int") (by rfl) B.int (by decide +kernel) rfl) pa_nil)))
    (pe_one (pe_not (pe_callB call_isi (by rfl) B.isi (by decide +kernel) (pa_cons (pv 0) (pa_cons (pe_bltn (v := .ty "bool") (by rfl) B.bool (by decide +kernel) rfl) pa_nil))))))), ?_⟩
  refine ⟨_, rfl, _, _, _, _, true, rfl, .ty "int", .base (.int i), kit_ty (by decide +kernel), true, rfl, iteT ?_⟩
  exact ⟨_, rfl, _, _, _, _, false, rfl, .ty "bool", .base (.int i), kit_ty (by decide +kernel), false, rfl, q⟩
abbrev sIsIn : Stmt := stm 2
theorem scIsIn : FnScope ["value", "least", "most"] ["value", "least", "most"] (defScope sIsIn) := ⟨rfl, rfl, rfl, by decide +kernel, rfl, by decide +kernel, by decide +kernel⟩
def spIsIn : Sp := fun vs H Q _ => ∃ i lo hi : Int, vs = [.int i, .int lo, .int hi] ∧ lo ≤ i ∧ i ≤ hi ∧ Q (.bl true) H
theorem cal_isin {f : Addr} {fd : FuncData} (D : Df K mg "is_in" sIsIn f fd) (C : Cal P w K mg base 1 "is_integer" spIsInt []) : Cal P w K mg base 2 "is_in" spIsIn [] := by
  refine cal_of (ps := ["value", "least", "most"]) D (D.fn.ok scIsIn (fun vs H Q E h => ?_) (fun cdv A outer s H vs Q E hr h => ?_)) (D.fn.binds fun _ _ _ _ _ _ us hl => match us, hl with | [_, _, _], _ => rfl)
  · obtain ⟨i, lo, hi, rfl, _⟩ := h
    rfl
  obtain ⟨i, lo, hi, rfl, h1, h2, q⟩ := h
  refine ⟨_, pss_one (ps_ret (pe_and (pe_c C hr (Nat.le_refl _) (by rfl) (pa_cons (pv 0) pa_nil)) (pe_one (pe_chain op_le op_le (pv 1) (pv 0) (pv 2))))), ?_⟩
  refine ⟨_, rfl, i, rfl, true, rfl, iteT ?_⟩
  refine ⟨_, rfl, _, rfl, _, _, rfl, rfl, true, congrArg V.bl (decide_eq_true h1), iteT ?_⟩
  exact ⟨_, rfl, _, _, rfl, rfl, q_true h2 q⟩
abbrev sIsList : Stmt := stm 3
theorem scIsList : FnScope ["value", "least", "most"] ["value", "least", "most"] (defScope sIsList) := ⟨rfl, rfl, rfl, by decide +kernel, rfl, by decide +kernel, by decide +kernel⟩
def spIsList : Sp := fun vs H Q _ => ∃ (a : Addr) (xs : List V) (lo hi : Int), vs = [.ref a, .int lo, .int hi] ∧ Kn H a xs ∧ lo ≤ (xs.length : Int) ∧ (xs.length : Int) ≤ hi ∧ Q (.bl true) H
theorem cal_islist {f : Addr} {fd : FuncData} (D : Df K mg "is_list" sIsList f fd) (B : Bt mg) : Cal P w K mg base 1 "is_list" spIsList [] := by
  refine cal_of (ps := ["value", "least", "most"]) D (D.fn.ok scIsList (fun vs H Q E h => ?_) (fun cdv A outer s H vs Q E hr h => ?_)) (D.fn.binds fun _ _ _ _ _ _ us hl => match us, hl with | [_, _, _], _ => rfl)
  · obtain ⟨a, xs, lo, hi, rfl, _⟩ := h
    rfl
  obtain ⟨a, xs, lo, hi, rfl, ha, h1, h2, q⟩ := h
  obtain ⟨oa, ea, da⟩ := id ha
  refine ⟨_, pss_one (ps_ret (pe_and (pe_callB call_isi (by rfl) B.isi (by decide +kernel) (pa_cons (pv 0) (pa_cons (pe_bltn (v := .ty "tuple") (by rfl) B.tuple (by decide +kernel) rfl) pa_nil)))
    (pe_one (pe_chain op_le op_le (pv 1) (pe_callB call_len_seq (by rfl) B.len PySem.boot_len (pa_cons (pv 0) pa_nil)) (pv 2))))), ?_⟩
  refine ⟨_, rfl, _, _, _, _, true, rfl, .ty "tuple", .fTuple ea, kit_ty (by decide +kernel), true, rfl, iteT ?_⟩
  refine ⟨_, rfl, _, rfl, a, _, rfl, .inr (ha.sq), _, _, rfl, rfl, true, congrArg V.bl (decide_eq_true h1), iteT ?_⟩
  exact ⟨_, rfl, _, _, rfl, rfl, q_true h2 q⟩
/-! ### need_line -/
abbrev sNeed : Stmt := stm 9
theorem scNeed : FnScope ["line", "index", "person"] ["line"] (defScope sNeed) := ⟨rfl, rfl, rfl, by decide +kernel, rfl, by decide +kernel, by decide +kernel⟩
def spNeed : Sp := fun vs H Q _ => ∃ (a : Addr) (l : List Int), vs = [.ref a] ∧ Tu H a l ∧ l ∈ lines ∧ ∀ H', Same H H' → Q .non H'
theorem cal_need {f : Addr} {fd : FuncData} {t8 : Tok} (D : Df K mg "need_line" sNeed f fd) (B : Bt mg) (C1 : Cal P w K mg base 1 "is_list" spIsList []) (C2 : Cal P w K mg base 2 "is_in" spIsIn []) (m8 : mg "MOST_PEOPLE" = some (.int 8 t8)) :
    Cal P w K mg base 3 "need_line" spNeed [] := by
  refine cal_of (ps := ["line"]) D (D.fn.ok scNeed (fun vs H Q E h => ?_) (fun cdv A outer s H vs Q E hr h => ?_)) (D.fn.binds fun _ _ _ _ _ _ us hl => match us, hl with | [_], _ => rfl)
  · obtain ⟨a, l, rfl, _⟩ := h
    rfl
  obtain ⟨a, l, rfl, ha, hm, q⟩ := h
  refine ⟨_, pss_cons (ps_if (pt_not (pt_val (pe_c C1 hr (by decide) (by rfl) (pa_cons (pv 0) (pa_cons pe_int (pa_cons (pe_glob (v := .int 8) (by rfl) m8 ⟨_, rfl⟩) pa_nil)))))) pss_never pss_nil)
    (pss_one (ps_for PassesOwn.never rfl (pi_enumT (by rfl) B.enum (pa_cons (pv 0) pa_nil)) (pg_tup rfl (pgs_cons (pg_name (i := 1) scNeed.nd rfl (.inl rfl)) (pgs_cons (pg_name (i := 2) scNeed.nd rfl (.inl rfl)) pgs_nil)))
      (pss_one (ps_if (PW.pt (pw_or (pt_not (pt_val (pe_c C2 hr (by decide) (by rfl) (pa_cons (pv 2) (pa_cons pe_int (pa_cons (pe_op op_sub (pe_callB call_len_seq (by rfl) B.len PySem.boot_len (pa_cons (pv 0) pa_nil)) pe_int) pa_nil))))))
        (pw_or1 (pt_cmpR op_in_seq (pv 2) (pe_slice sl_tup (pv 0) po_none (po_some (pv 1))) (by rfl))))) pss_never pss_nil)))), ?_⟩
  obtain ⟨h1, h5, nd, hk⟩ := lines_shape l hm
  have el : (l.map V.int).length = l.length := List.length_map _
  refine ⟨_, rfl, a, _, 1, 8, rfl, ha, by rw [el]; omega, by rw [el]; omega, true, rfl, iteF ?_⟩
  refine ⟨_, rfl, a, _, rfl, ha.sq, for_enumT (xs := l.map V.int) (fun i σ H2 => Same H H2 ∧ ∃ y z, σ = [some (.ref a), y, z]) ⟨Same.refl _, none, none, rfl⟩ (fun i σ H2 _ ⟨sm, _⟩ => (ha.same sm).sq) (fun i x T σ H2 hx ⟨sm, y, z, eσ⟩ hT => ?_) (fun σ H2 ⟨sm, _⟩ => q H2 sm)⟩
  subst eσ
  have hi : i < l.length := by
    have := (List.getElem?_eq_some_iff.mp hx).1
    rw [el] at this
    exact this
  rw [gi hi] at hx
  cases hx
  obtain ⟨_, k1, k2⟩ := hk i (List.mem_range.mpr hi)
  have sm1 : Same H2 (upd H2 T (.tup [.int (i : Nat), .int (l.getD i 0)])) := same_new hT
  have ha2 : Tu (upd H2 T (.tup [.int (i : Nat), .int (l.getD i 0)])) a l := (ha.same sm).same sm1
  refine ⟨T, _, rfl, SqT.of upd_same, rfl, _, _, rfl, _, _, rfl, rfl, ?_⟩
  refine ⟨_, rfl, _, rfl, a, _, rfl, .inr (ha2.sq), _, _, rfl, rfl, _, _, _, rfl, k1, by rw [el]; omega, true, rfl, iteF ?_⟩
  refine ⟨_, rfl, _, rfl, _, rfl, i, rfl, a, _, rfl, ha2.sq, ?_, fun p np => ?_⟩
  · rw [HT.sIx_none, HT.sIx_nat, el]
    omega
  refine ⟨p, _, rfl, .inr (SqT.of upd_same), rfl, ?_, _, rfl, ?_⟩
  · rw [cut_to _ (by rw [el]; omega), ← List.map_take]
    exact flat_ints _
  · rw [cut_to _ (by rw [el]; omega), no_before nd hi]
    exact iteF ⟨same_keep (sm.trans sm1) (sm1.free np |> sm.free), _, _, rfl⟩
end
end Ot
set_option Elab.async false
set_option linter.all false
set_option maxRecDepth 100000
set_option maxHeartbeats 4000000
namespace Ot
open PySem PySem.Spec PyProof.Rows L2 OtR
open C8 (Cal pe_c)
section
variable {P : Program} {w : World} {K : PySem.W.Frag} {mg : Str → Option Value} {base : Heap}
/-! ### goal_in -/
abbrev sGoal : Stmt := stm 11
theorem scGoal : FnScope ["line", "person", "place"] ["line", "person"] (defScope sGoal) := ⟨rfl, rfl, rfl, by decide +kernel, rfl, by decide +kernel, by decide +kernel⟩
def spGoal : Sp := fun vs H Q _ => ∃ (a : Addr) (l : List Int) (p : Int), vs = [.ref a, .int p] ∧ Tu H a l ∧ p ∈ l ∧ Q (.int ((goal l p : Nat) : Int)) H
theorem spot_lt {l : List Int} {p : Int} (h : p ∈ l) : spot l p < l.length := List.idxOf_lt_length_of_mem h
theorem cal_goal {f : Addr} {fd : FuncData} (D : Df K mg "goal_in" sGoal f fd) : Cal P w K mg base 1 "goal_in" spGoal [] := by
  refine cal_of (ps := ["line", "person"]) D (D.fn.ok scGoal (fun vs H Q E h => ?_) (fun cdv A outer s H vs Q E hr h => ?_)) (D.fn.binds fun _ _ _ _ _ _ us hl => match us, hl with | [_, _], _ => rfl)
  · obtain ⟨a, l, p, rfl, _⟩ := h
    rfl
  obtain ⟨a, l, p, rfl, ha, hp, q⟩ := h
  refine ⟨_, pss_cons (ps_set (i := 2) scGoal.nd rfl (.inl rfl) (pe_tidx (pv 0) (pv 1)))
    (pss_cons (ps_while PassesOwn.never (PW.pt (pw_and (pt_cmpR op_gt (pv 2) pe_int (nomark _)) (pw_and1 (pt_cmpR op_lt (pe_ix ix_tup (pv 0) (pe_op op_sub (pv 2) pe_int) (fun _ _ => rfl)) (pv 1) (nomark _)))))
      (pss_one (ps_aug (i := 2) scGoal.nd rfl (.inl rfl) pe_int ip_sub)))
    (pss_one (ps_ret (pv 2)))), ?_⟩
  refine ⟨_, rfl, ⟨a, _, rfl, ha⟩, _, rfl, a, l, p, rfl, rfl, ha.sq, hp, ?_⟩
  refine ⟨fun m σ H' => ∃ k : Nat, m = k ∧ σ = [some (.ref a), some (.int p), some (.int (k : Int))] ∧ H' = H ∧ k ≤ spot l p ∧ down l p k = goal l p, ⟨spot l p, spot l p, rfl, rfl, rfl, Nat.le_refl _, rfl⟩, ?_⟩
  rintro m σ H' ⟨k, rfl, rfl, rfl, hk, e⟩
  have hlt := spot_lt hp
  refine ⟨_, rfl, _, _, rfl, rfl, _, rfl, ite2 (fun c => ?_) (fun c => ?_)⟩
  · have c0 : (0 : Int) < (m : Int) := of_decide_eq_true c
    obtain ⟨j, rfl⟩ : ∃ j, m = j + 1 := ⟨m - 1, by omega⟩
    refine ⟨_, rfl, _, rfl, _, _, rfl, rfl, a, _, _, _, rfl, rfl, ha.sq, at_of (j := j) (by omega) (gi (by omega)), _, rfl, _, _, rfl, rfl, _, rfl, ?_⟩
    refine ite2 (fun c2 => ?_) (fun c2 => ?_)
    · have c3 : l.getD j 0 < p := of_decide_eq_true c2
      refine ⟨fun σ' H'' => σ' = [some (.ref a), some (.int p), some (.int (j : Int))] ∧ H'' = H', fun σ' H'' ⟨e1, e2⟩ => ⟨j, Nat.lt_succ_self _, j, rfl, e1, e2, by omega, ?_⟩, ?_⟩
      · rw [← e]
        show down l p j = if l.getD j 0 < p then down l p j else j + 1
        rw [if_pos c3]
      · refine ⟨_, rfl, _, _, rfl, rfl, ?_, rfl⟩
        show [some (V.ref a), some (.int p), some (.int (((j + 1 : Nat) : Int) - 1))] = _
        rw [show ((j + 1 : Nat) : Int) - 1 = (j : Int) by omega]
    · have c3 : ¬ l.getD j 0 < p := fun z => c2 (decide_eq_true z)
      have e2 : goal l p = j + 1 := by
        rw [← e]
        show (if l.getD j 0 < p then down l p j else j + 1) = j + 1
        rw [if_neg c3]
      rw [e2] at q
      exact ⟨_, rfl, q⟩
  · have c0 : ¬ (0 : Int) < (m : Int) := fun z => c (decide_eq_true z)
    have e0 : m = 0 := by omega
    subst e0
    have e2 : goal l p = 0 := e.symm
    rw [e2] at q
    exact ite2 (fun z => absurd z c) (fun _ => ⟨_, rfl, q⟩)
/-! ### call_in -/
abbrev sCall : Stmt := stm 12
theorem scCall : FnScope ["line", "person", "old", "new"] ["line", "person"] (defScope sCall) := ⟨rfl, rfl, rfl, by decide +kernel, rfl, by decide +kernel, by decide +kernel⟩
def spCall : Sp := fun vs H Q _ => ∃ (a : Addr) (l : List Int) (p : Int), vs = [.ref a, .int p] ∧ Tu H a l ∧ p ∈ l ∧ l ∈ lines ∧
  ∀ H' r, Same H H' → H r = none → Tu H' r (call l p) → Q (.ref r) H'
theorem cal_call {f : Addr} {fd : FuncData} (D : Df K mg "call_in" sCall f fd) (C : Cal P w K mg base 1 "goal_in" spGoal []) : Cal P w K mg base 2 "call_in" spCall [] := by
  refine cal_of (ps := ["line", "person"]) D (D.fn.ok scCall (fun vs H Q E h => ?_) (fun cdv A outer s H vs Q E hr h => ?_)) (D.fn.binds fun _ _ _ _ _ _ us hl => match us, hl with | [_, _], _ => rfl)
  · obtain ⟨a, l, p, rfl, _⟩ := h
    rfl
  obtain ⟨a, l, p, rfl, ha, hp, hm, q⟩ := h
  refine ⟨_, pss_cons (ps_par (i := 2) (j := 3) rfl scCall.nd rfl rfl (by decide) rfl rfl (pa_cons (pe_tidx (pv 0) (pv 1)) (pa_cons (pe_c C hr (Nat.le_refl _) (by rfl) (pa_cons (pv 0) (pa_cons (pv 1) pa_nil))) pa_nil)) (by rfl))
    (pss_one (ps_ret (pe_tupF (StX.pa_star (pe_slice sl_tup (pv 0) po_none (po_some (pv 3))) (pa_cons (pv 1) (StX.pa_star (pe_slice sl_tup (pv 0) (po_some (pv 3)) (po_some (pv 2))) (StX.pa_star (pe_slice sl_tup (pv 0) (po_some (pe_op op_add (pv 2) pe_int)) po_none) pa_nil))))))), ?_⟩
  have hlt : l.idxOf p < l.length := spot_lt hp
  obtain ⟨hcl, _, hgs, _, _⟩ := lines_call l hm p hp
  have hgs : goal l p ≤ l.idxOf p := hgs
  obtain ⟨_, h5, _⟩ := lines_shape l hm
  have el : (l.map V.int).length = l.length := List.length_map _
  refine ⟨_, rfl, ⟨a, _, rfl, ha⟩, _, rfl, a, l, p, rfl, rfl, ha.sq, hp, ?_⟩
  refine ⟨_, rfl, _, rfl, a, l, p, rfl, ha, hp, _, _, rfl, ?_⟩
  -- *line[:new]
  refine ⟨_, rfl, _, rfl, _, rfl, a, _, rfl, ha.sq, by rw [HT.sIx_none, HT.sIx_nat, el]; omega, fun p1 n1 => ?_⟩
  refine ⟨p1, _, rfl, .inl (SqT.of upd_same), _, rfl, ?_⟩
  have s1 : Same H (upd H p1 (.tup (cutV (l.map V.int) none (some ((goal l p : Nat) : Int))))) := same_new n1
  have ha1 := ha.same s1
  -- *line[new:old]
  refine ⟨_, rfl, _, rfl, _, rfl, _, rfl, _, rfl, a, _, rfl, ha1.sq, by rw [HT.sIx_nat, HT.sIx_nat, el]; omega, fun p2 n2 => ?_⟩
  refine ⟨p2, _, rfl, .inl (SqT.of upd_same), ?_⟩
  have s2 : Same H (upd _ p2 (.tup (cutV (l.map V.int) (some ((goal l p : Nat) : Int)) (some ((l.idxOf p : Nat) : Int))))) := same_keep s1 (s1.free n2)
  have ha2 := ha.same s2
  -- *line[old + 1:]
  have eo : (((l.idxOf p : Nat) : Int) + 1) = ((l.idxOf p + 1 : Nat) : Int) := by omega
  refine ⟨_, rfl, _, rfl, _, _, rfl, rfl, _, rfl, a, _, rfl, ha2.sq, by rw [eo, HT.sIx_none, HT.sIx_nat, el]; omega, fun p3 n3 => ?_⟩
  refine ⟨p3, _, rfl, .inl (SqT.of upd_same), ?_⟩
  have s3 : Same H (upd _ p3 (.tup (cutV (l.map V.int) (some (((l.idxOf p : Nat) : Int) + 1)) none))) := same_keep s2 (s2.free n3)
  have ec : cutV (l.map V.int) none (some ((goal l p : Nat) : Int)) ++ V.int p :: (cutV (l.map V.int) (some ((goal l p : Nat) : Int)) (some ((l.idxOf p : Nat) : Int)) ++ (cutV (l.map V.int) (some (((l.idxOf p : Nat) : Int) + 1)) none ++ [])) = (call l p).map V.int := by
    rw [eo, cut_to _ (by rw [el]; omega), cut_mid _ (by rw [el]; omega) hgs, cut_from _ (by rw [el]; omega)]
    unfold call spot
    simp only [List.map_append, List.map_take, List.map_drop, List.map_cons, List.append_nil]
  have ez : (cutV (l.map V.int) none (some ((goal l p : Nat) : Int)) ++ V.int p :: (cutV (l.map V.int) (some ((goal l p : Nat) : Int)) (some ((l.idxOf p : Nat) : Int)) ++ (cutV (l.map V.int) (some (((l.idxOf p : Nat) : Int) + 1)) none ++ []))).length ≤ sizeLine := by
    rw [ec, List.length_map]
    obtain ⟨_, z5, _⟩ := lines_shape _ hcl
    exact small (by omega)
  refine ⟨ez, fun p4 o4 d4 n4 => q _ p4 (same_keep s3 (s3.free n4)) (s3.free n4) ⟨o4, ?_, d4⟩⟩
  rw [upd_same]
  exact congrArg (fun z => some (HO.frz o4 (.tup z))) ec
end
end Ot
set_option Elab.async false
set_option linter.all false
set_option maxRecDepth 100000
set_option maxHeartbeats 4000000
namespace Ot
open PySem PySem.Spec PyProof.Rows L2 OtR
open C8 (Cal pe_c)
section
variable {P : Program} {w : World} {K : PySem.W.Frag} {mg : Str → Option Value} {base : Heap}
/-! ### movers_in -/
abbrev sMovers : Stmt := stm 13
theorem scMovers : FnScope ["line", "at"] ["line"] (defScope sMovers) := ⟨rfl, rfl, rfl, by decide +kernel, rfl, by decide +kernel, by decide +kernel⟩
def spMovers : Sp := fun vs H Q _ => ∃ (a : Addr) (l : List Int), vs = [.ref a] ∧ Tu H a l ∧ l ∈ lines ∧
  ∀ H' p, Same H H' → H p = none → Ls H' p (movers l) → Q (.ref p) H'
theorem movers_le {l : List Int} (hm : l ∈ lines) : (movers l).length ≤ 5 := by
  obtain ⟨_, h5, _⟩ := lines_shape l hm
  have e : (movers l).length = (rises l).length := (isort_perm _).length_eq
  rw [e]
  unfold rises
  rw [List.length_map]
  refine Nat.le_trans (List.length_filter_le _ _) ?_
  rw [List.length_range]
  omega
theorem cal_movers {f : Addr} {fd : FuncData} (D : Df K mg "movers_in" sMovers f fd) (B : Bt mg) : Cal P w K mg base 1 "movers_in" spMovers [] := by
  refine cal_of (ps := ["line"]) D (D.fn.ok scMovers (fun vs H Q E h => ?_) (fun cdv A outer s H vs Q E hr h => ?_)) (D.fn.binds fun _ _ _ _ _ _ us hl => match us, hl with | [_], _ => rfl)
  · obtain ⟨a, l, rfl, _⟩ := h
    rfl
  obtain ⟨a, l, rfl, hl, hm, q⟩ := h
  refine ⟨_, pss_one (ps_ret (pe_callB cr_sorted (by rfl) B.sorted (by decide +kernel) (pa_cons
    (pe_lc (own := [("at", 1)]) (g := gName 1) rfl scMovers.nd (pi_range2 (by rfl) B.range (pa_cons pe_int (pa_cons (pe_callB call_len_seq (by rfl) B.len PySem.boot_len (pa_cons (pv 0) pa_nil)) pa_nil)))
      (blkOk_by (N := ["line", "at"]) (sc := defScope sMovers) (by decide +kernel)) (fun _ _ _ _ _ => pg_name (i := 1) scMovers.nd rfl (Or.inl rfl))
      (fun _ _ _ _ _ => pts_one (pt_cmpR op_lt (pe_ix (r := rIxT K) ix_tup (pv 0) (pe_op op_sub (pv 1) pe_int) (fun _ _ => rfl)) (pe_ix (r := rIxT K) ix_tup (pv 0) (pv 1) (fun _ _ => rfl)) (nomark _)))
      (fun _ _ _ _ _ => pe_ix (r := rIxT K) ix_tup (pv 0) (pv 1) (fun _ _ => rfl))) pa_nil))), ?_⟩
  obtain ⟨h1, h5, _, hk⟩ := lines_shape l hm
  have el : (l.map V.int).length = l.length := List.length_map _
  refine ⟨_, rfl, a, _, rfl, .inr hl.sq, 1, _, rfl, ⟨by decide, by decide, by omega, by rw [el]; omega⟩, fun D nD => ?_⟩
  have en : (((l.map V.int).length : Int) - 1).toNat = l.length - 1 := by rw [el]; omega
  rw [en]
  have step : ∀ i : Nat, (((List.range (i + 1)).filter fun k => decide (l.getD k 0 < l.getD (k + 1) 0)).map fun k => l.getD (k + 1) 0) =
      (((List.range i).filter fun k => decide (l.getD k 0 < l.getD (k + 1) 0)).map fun k => l.getD (k + 1) 0) ++ (if l.getD i 0 < l.getD (i + 1) 0 then [l.getD (i + 1) 0] else []) := fun i => by
    rw [List.range_succ, List.filter_append, List.map_append]
    by_cases c : l.getD i 0 < l.getD (i + 1) 0
    · rw [if_pos c, List.filter_cons, if_pos (decide_eq_true c)]
      rfl
    · rw [if_neg c, List.filter_cons, if_neg (by rw [decide_eq_false c]; exact Bool.false_ne_true)]
      rfl
  refine lc_range (lo := 1) (n := l.length - 1) (fun i H3 => i ≤ 10 ∧ Same H H3 ∧ H3 D = some (.lst ((((List.range i).filter fun k => decide (l.getD k 0 < l.getD (k + 1) 0)).map fun k => l.getD (k + 1) 0).map V.int))) ⟨Nat.zero_le _, same_new nD, upd_same⟩ (fun i H3 hi ⟨h10, sm, eD⟩ => ?_) (fun H3 ⟨_, sm, eD⟩ => ?_)
  · have hT3 := (hl.same sm).sq (K := K)
    refine ⟨rfl, _, rfl, _, rfl, _, _, rfl, rfl, a, _, _, _, rfl, rfl, hT3, at_of (j := i) (by omega) (gi (by omega)), _, rfl, _, rfl, a, _, _, _, rfl, rfl, hT3, at_of (j := i + 1) (by omega) (gi (by omega)), _, _, rfl, rfl, _, rfl, ?_⟩
    refine ite2 (fun c => ?_) (fun c => ?_)
    · have c' : l.getD i 0 < l.getD (i + 1) 0 := of_decide_eq_true c
      refine ⟨_, rfl, _, rfl, a, _, _, _, rfl, rfl, hT3, at_of (j := i + 1) (by omega) (gi (by omega)), _, eD, ?_, by omega, same_keep sm nD, ?_⟩
      · rw [List.length_map, List.length_map]
        refine Nat.lt_of_le_of_lt (List.length_filter_le _ _) ?_
        rw [List.length_range]
        exact small1000 (by omega)
      · rw [upd_same, step, if_pos c', List.map_append]
        rfl
    · have c' : ¬ l.getD i 0 < l.getD (i + 1) 0 := fun z => c (decide_eq_true z)
      refine ⟨by omega, sm, ?_⟩
      rw [step, if_neg c', List.append_nil]
      exact eD
  · refine ⟨D, rises l, rfl, SqL.of eD, ?_, fun ns' p hp hs np => ?_⟩
    · have := movers_le hm
      have e : (movers l).length = (rises l).length := (isort_perm _).length_eq
      omega
    · rw [sort_eq hp hs]
      exact q _ p (same_keep sm (sm.free np)) (sm.free np) upd_same
end
end Ot
set_option Elab.async false
set_option linter.all false
set_option maxRecDepth 100000
set_option maxHeartbeats 4000000
namespace Ot
open PySem PySem.Spec PyProof.Rows L2 OtR
open C8 (Cal pe_c)
/-! ### data compared -/
theorem dp_all {K : PySem.W.Frag} {H : Hp} : ∀ l : List Int, DpAll K H (l.map V.int) (l.map PyData.int)
  | [] => .nil
  | x :: r => .cons (.int x) (dp_all r)
theorem dp_list {K : PySem.W.Frag} {H : Hp} {a : Addr} {l : List Int} (h : SqL K H a (l.map V.int)) : Dp K H (.ref a) (.list (l.map PyData.int)) := .lst h (dp_all l)
theorem dp_tup {K : PySem.W.Frag} {H : Hp} {a : Addr} {l : List Int} (h : SqT K H a (l.map V.int)) : Dp K H (.ref a) (.tuple (l.map PyData.int)) := .tup h (dp_all l)
theorem dp_nil {K : PySem.W.Frag} {H : Hp} {a : Addr} (h : SqL K H a []) : Dp K H (.ref a) (.list []) := .lst h .nil
theorem sh_list (l : List Int) : SeqAt.shaped (.list (l.map PyData.int)) = true := by
  first
    | exact PySem.W.ke_shaped_ints l
    | exact PyProof.Rows.ke_shaped_ints l
theorem lay_ints : ∀ l : List Int, PyData.canLayAll0 (l.map PyData.int) = true
  | [] => by simp [PyData.canLayAll0]
  | x :: r => by simp [PyData.canLayAll0, PyData.canLay0, lay_ints r]
theorem deep_ints : ∀ l : List Int, PyData.depthAll (l.map PyData.int) = 0
  | [] => by simp [PyData.depthAll]
  | x :: r => by simp [PyData.depthAll, PyData.depth, deep_ints r]
theorem sh_tup (l : List Int) : SeqAt.shaped (.tuple (l.map PyData.int)) = true := by
  unfold SeqAt.shaped
  simp [PyData.canLay0, lay_ints, PyData.depth, deep_ints]
theorem sh_nil : SeqAt.shaped (.list []) = true := sh_list []
theorem eqv_nil (ds : List PyData) : PyData.eqv (.list ds) (.list []) = ds.isEmpty := by
  cases ds <;> simp [PyData.eqv, PyData.eqvAll]
theorem eqv_ints : ∀ l m : List Int, PyData.eqvAll (l.map PyData.int) (m.map PyData.int) = decide (l = m)
  | [], [] => by simp [PyData.eqvAll]
  | [], _ :: _ => by simp [PyData.eqvAll]
  | _ :: _, [] => by simp [PyData.eqvAll]
  | x :: l, y :: m => by
    simp only [List.map_cons, PyData.eqvAll, PyData.eqv, eqv_ints l m, List.cons.injEq]
    by_cases c : x = y
    · subst c; simp
    · simp [c]
theorem eqv_tup (l m : List Int) : PyData.eqv (.tuple (l.map PyData.int)) (.tuple (m.map PyData.int)) = decide (l = m) := by
  simp only [PyData.eqv]
  exact eqv_ints l m
theorem runStep_le (p : Int) (s : Nat × List Int) (o : Int) {i : Nat} (h1 : s.1 ≤ i) (h2 : s.2.length ≤ i) : (runStep p s o).1 ≤ i + 1 ∧ (runStep p s o).2.length ≤ i + 1 := by
  unfold runStep
  split
  · exact ⟨by show s.1 ≤ i + 1; omega, by show (o :: s.2).length ≤ i + 1; rw [List.length_cons]; omega⟩
  · split
    · exact ⟨by omega, by omega⟩
    · exact ⟨by show s.1 + 1 ≤ i + 1; omega, by show ([] : List Int).length ≤ i + 1; simp⟩
theorem fold_next {α : Type} (f : α → Int → α) (a : α) {zs : List Int} {i : Nat} {z : Int} (h : zs[i]? = some z) : (zs.take (i + 1)).foldl f a = f ((zs.take i).foldl f a) z := by
  rw [List.take_add_one, h, List.foldl_append]
  rfl
section
variable {P : Program} {w : World} {K : PySem.W.Frag} {mg : Str → Option Value} {base : Heap}
/-! ### runs_in -/
abbrev sRuns : Stmt := stm 15
theorem scRuns : FnScope ["line", "person", "found", "now", "other"] ["line", "person"] (defScope sRuns) := ⟨rfl, rfl, rfl, by decide +kernel, rfl, by decide +kernel, by decide +kernel⟩
def spRuns : Sp := fun vs H Q _ => ∃ (a : Addr) (l : List Int) (p : Int), vs = [.ref a, .int p] ∧ Tu H a l ∧ p ∈ l ∧ l ∈ lines ∧
  ∀ H' r us, Same H H' → H r = none → H' r = some (.lst us) → us.length = runCount l p → Q (.ref r) H'
theorem cal_runs {f : Addr} {fd : FuncData} (D : Df K mg "runs_in" sRuns f fd) (B : Bt mg) : Cal P w K mg base 1 "runs_in" spRuns [] := by
  refine cal_of (ps := ["line", "person"]) D (D.fn.ok scRuns (fun vs H Q E h => ?_) (fun cdv A outer s H vs Q E hr h => ?_)) (D.fn.binds fun _ _ _ _ _ _ us hl => match us, hl with | [_, _], _ => rfl)
  · obtain ⟨a, l, p, rfl, _⟩ := h
    rfl
  obtain ⟨a, l, p, rfl, ha, hp, hm, q⟩ := h
  refine ⟨_, pss_cons (ps_par (i := 2) (j := 3) rfl scRuns.nd rfl rfl (by decide) rfl rfl (pa_cons (pe_lst pa_nil) (pa_cons (pe_lst pa_nil) pa_nil)) (by rfl))
    (pss_cons (ps_for PassesOwn.never rfl (pi_tup (pe_revT (pe_slice sl_tup (pv 0) po_none (po_some (pe_tidx (pv 0) (pv 1)))))) (pg_name (i := 4) scRuns.nd rfl (.inl rfl))
      (pss_one (ps_if (pt_cmpR op_lt (pv 4) (pv 1) (nomark _)) (pss_one (ps_expr (pe_bm PySem.F.plainAttrs_list PySem.F.slot_list_insert PySem.F.type_list_insert mt_insert (pv 3) (pa_cons pe_int (pa_cons (pv 4) pa_nil)))))
        (pss_one (ps_if (pt_cmpR (op_neD hr.units) (pv 3) (pe_lst pa_nil) (nomark _)) (pss_cons (ps_expr (pe_bm PySem.F.plainAttrs_list PySem.F.slot_list_append PySem.F.type_list_append mt_append (pv 2) (pa_cons (pe_callTy call_tuple_of (by rfl) B.tuple (by decide +kernel) (pa_cons (pv 3) pa_nil)) pa_nil)))
          (pss_one (ps_set (i := 3) scRuns.nd rfl (.inl rfl) (pe_lst pa_nil)))) pss_nil)))))
    (pss_one (ps_ret (pe_ifExp (pt_cmpR (op_neD hr.units) (pv 3) (pe_lst pa_nil) (nomark _)) (pe_op op_cat (pv 2) (pe_lst (pa_cons (pe_callTy call_tuple_of (by rfl) B.tuple (by decide +kernel) (pa_cons (pv 3) pa_nil)) pa_nil))) (pv 2))))), ?_⟩
  have hlt : l.idxOf p < l.length := spot_lt hp
  obtain ⟨_, h5, _⟩ := lines_shape l hm
  have el : (l.map V.int).length = l.length := List.length_map _
  -- found, now = [], []
  refine ⟨Nat.zero_le _, fun F nF => ⟨Nat.zero_le _, fun N nN => ⟨_, _, rfl, ?_⟩⟩⟩
  have s0 : Same H (upd (upd H F (.lst [])) N (.lst [])) := same_keep (same_new nF) ((same_new nF).free nN)
  have nF0 : F ≠ N := ne_of_none upd_same nN
  have eF0 : (upd (upd H F (.lst [])) N (.lst [])) F = some (.lst []) := by rw [upd_ne nF0, upd_same]
  have nN0 : H N = none := (same_new nF).free nN
  -- line[:line.index(person)][::-1]
  refine ⟨_, rfl, _, rfl, ⟨a, _, rfl, ha.same s0⟩, _, rfl, a, l, p, rfl, rfl, (ha.same s0).sq, hp, _, rfl, a, _, rfl, (ha.same s0).sq, by rw [HT.sIx_none, HT.sIx_nat, el]; omega, fun p1 n1 => ?_⟩
  refine ⟨p1, _, rfl, SqT.of upd_same, fun p2 n2 => ⟨p2, rfl, ⟨_, SqT.of upd_same⟩, ?_⟩⟩
  rw [cut_to _ (by rw [el]; omega)] at n2 ⊢
  have exs : ((l.map V.int).take (l.idxOf p)).reverse = ((l.take (spot l p)).reverse).map V.int := by
    rw [← List.map_take, ← List.map_reverse]
    rfl
  rw [exs]
  have hz : ((l.take (spot l p)).reverse).length ≤ 5 := by
    rw [List.length_reverse, List.length_take]
    omega
  have eR : runCount l p = runEnd (((l.take (spot l p)).reverse).foldl (runStep p) (0, [])) := rfl
  generalize ezs : (l.take (spot l p)).reverse = zs at hz eR ⊢
  have s1 := same_keep (o := .tup ((l.map V.int).take (l.idxOf p))) s0 (s0.free n1)
  have k1 : Same (upd (upd H F (.lst [])) N (.lst [])) (upd _ p1 (.tup ((l.map V.int).take (l.idxOf p)))) := same_new n1
  have k2 := same_keep (o := .tup (zs.map V.int)) k1 (k1.free n2)
  have s2 := same_keep (o := .tup (zs.map V.int)) s1 (s1.free n2)
  have eP : (upd (upd (upd (upd H F (.lst [])) N (.lst [])) p1 (.tup ((l.map V.int).take (l.idxOf p)))) p2 (.tup (zs.map V.int))) p2 = some (.tup (zs.map V.int)) := upd_same
  have eF := k2 _ _ eF0
  have eN := k2 N _ upd_same
  generalize (upd (upd (upd (upd H F (.lst [])) N (.lst [])) p1 (.tup ((l.map V.int).take (l.idxOf p)))) p2 (.tup (zs.map V.int))) = HB at s2 eP eF eN ⊢
  clear k1 k2 s1 s0 n1 n2 eF0 nN exs
  have ez : (zs.map V.int).length = zs.length := List.length_map _
  refine for_tup (xs := zs.map V.int) (fun i σ H3 => ∃ (N' : Addr) (us : List V) (y : Option V), σ = [some (.ref a), some (.int p), some (.ref F), some (.ref N'), y] ∧ Same H H3 ∧ H3 p2 = some (.tup (zs.map V.int)) ∧
      H3 F = some (.lst us) ∧ us.length = ((zs.take i).foldl (runStep p) (0, [])).1 ∧ H3 N' = some (.lst (((zs.take i).foldl (runStep p) (0, [])).2.map V.int)) ∧ F ≠ N' ∧ H N' = none ∧
      ((zs.take i).foldl (runStep p) (0, [])).1 ≤ i ∧ ((zs.take i).foldl (runStep p) (0, [])).2.length ≤ i)
    ⟨N, [], none, rfl, s2, eP, eF, rfl, eN, nF0, nN0, Nat.le_refl _, Nat.le_refl _⟩ (fun i σ H3 _ ⟨_, _, _, _, _, e, _⟩ => SqT.of e) (fun i x σ H3 hx Pv => ?_) (fun σ H3 Pv => ?_)
  · obtain ⟨N', us, y, rfl, sm, eP3, eF3, lu, eN3, nFN, nN', b1, b2⟩ := Pv
    have hi : i < zs.length := by
      have := (List.getElem?_eq_some_iff.mp hx).1
      rw [ez] at this
      exact this
    have hz2 : zs[i]? = some (zs.getD i 0) := by rw [List.getD_eq_getElem?_getD, List.getElem?_eq_getElem hi]; rfl
    rw [gi hi] at hx
    cases hx
    have nx := fold_next (runStep p) (0, ([] : List Int)) hz2
    obtain ⟨b1', b2'⟩ := runStep_le p _ (zs.getD i 0) b1 b2
    rw [← nx] at b1' b2'
    generalize (zs.take i).foldl (runStep p) (0, []) = st at *
    generalize zs.getD i 0 = z at *
    generalize (zs.take (i + 1)).foldl (runStep p) (0, []) = st' at *
    refine ⟨_, rfl, _, rfl, _, _, rfl, rfl, _, rfl, ite2 (fun c => ?_) (fun c => ?_)⟩
    · have c' : z < p := of_decide_eq_true c
      have e' : st' = (st.1, z :: st.2) := by rw [nx]; unfold runStep; rw [if_pos c']
      refine ⟨_, rfl, .inl ⟨rfl, _, SqL.of eN3⟩, _, rfl, N', _, 0, _, rfl, rfl, eN3, by rw [List.length_map]; exact small1000 (by omega), by decide, by decide, ?_⟩
      refine ⟨N', us, _, rfl, fun b o e => ?_, ?_, ?_, by rw [lu, e'], ?_, nFN, nN', b1', b2'⟩
      · rw [upd_ne (ne_of_none e nN')]; exact sm b o e
      · rw [upd_ne (ne_of eP3 eN3 (fun q => nomatch q))]; exact eP3
      · rw [upd_ne nFN]; exact eF3
      · rw [upd_same, e']; rfl
    · have c' : ¬ z < p := fun q => c (decide_eq_true q)
      refine ⟨_, rfl, Nat.zero_le _, fun Z nZ => ⟨_, _, dp_list (SqL.of (same_new nZ _ _ eN3)), dp_nil (SqL.of upd_same), sh_list _, sh_nil, _, rfl, ?_⟩⟩
      rw [eqv_nil]
      have kZ : Same H3 (upd H3 Z (.lst [])) := same_new nZ
      by_cases hn : st.2 = []
      · have e' : st' = st := by rw [nx]; unfold runStep; rw [if_neg c', if_pos hn]
        rw [hn]
        refine iteF ⟨N', us, _, rfl, sm.trans kZ, kZ _ _ eP3, kZ _ _ eF3, by rw [lu, e'], ?_, nFN, nN', b1', b2'⟩
        rw [e']
        exact kZ _ _ eN3
      · have e' : st' = (st.1 + 1, []) := by rw [nx]; unfold runStep; rw [if_neg c', if_neg hn]
        have hne : (st.2.map PyData.int).isEmpty = false := by
          cases h2 : st.2 with
          | nil => exact absurd h2 hn
          | cons _ _ => rfl
        rw [hne]
        refine iteT ?_
        -- found.append(tuple(now)); now = []
        refine ⟨_, rfl, .inl ⟨rfl, _, SqL.of (kZ _ _ eF3)⟩, _, rfl, N', _, rfl, .inl ⟨SqL.of (kZ _ _ eN3), fun T nT => ?_⟩⟩
        have kT := same_keep (o := .tup (st.2.map V.int)) kZ (kZ.free nT)
        refine ⟨F, us, _, rfl, rfl, kT _ _ eF3, small1000 (by omega), Nat.zero_le _, fun N2 nN2 => ?_⟩
        have nT3 : H3 T = none := kZ.free nT
        have nN23 : (upd (upd H3 Z (.lst [])) T (.tup (st.2.map V.int))) N2 = none := by
          have : N2 ≠ F := fun q => by rw [q, upd_same] at nN2; cases nN2
          rw [upd_ne this] at nN2
          exact nN2
        have nF2 : F ≠ N2 := ne_of_none (kT _ _ eF3) nN23
        refine ⟨N2, us ++ [V.ref T], _, rfl, fun b o e => ?_, ?_, ?_, by rw [List.length_append, lu, e']; rfl, ?_, nF2, sm.free (kT.free nN23), b1', b2'⟩
        · have hb : b ≠ F := fun q => by rw [q, nF] at e; cases e
          rw [upd_ne (ne_of_none (kT _ _ (sm b o e)) nN23), upd_ne hb]
          exact kT _ _ (sm b o e)
        · have hb : p2 ≠ F := ne_of eP3 eF3 (fun q => nomatch q)
          rw [upd_ne (ne_of_none (kT _ _ eP3) nN23), upd_ne hb]
          exact kT _ _ eP3
        · rw [upd_ne nF2, upd_same]
        · rw [upd_same, e']; rfl
  · obtain ⟨N', us, y, rfl, sm, eP3, eF3, lu, eN3, nFN, nN', b1, b2⟩ := Pv
    rw [ez, List.take_length] at lu eN3 b1 b2
    rw [eR] at q
    generalize List.foldl (runStep p) (0, []) zs = st at *
    refine ⟨_, rfl, Nat.zero_le _, fun Z nZ => ⟨_, _, dp_list (SqL.of (same_new nZ _ _ eN3)), dp_nil (SqL.of upd_same), sh_list _, sh_nil, _, rfl, ?_⟩⟩
    rw [eqv_nil]
    have kZ : Same H3 (upd H3 Z (.lst [])) := same_new nZ
    by_cases hn : st.2 = []
    · rw [hn]
      refine iteF ⟨_, rfl, q _ _ us (sm.trans kZ) nF (kZ _ _ eF3) ?_⟩
      unfold runEnd
      rw [if_pos hn]
      exact lu
    · have hne : (st.2.map PyData.int).isEmpty = false := by
        cases h2 : st.2 with
        | nil => exact absurd h2 hn
        | cons _ _ => rfl
      rw [hne]
      refine iteT ⟨_, rfl, _, rfl, N', _, rfl, .inl ⟨SqL.of (kZ _ _ eN3), fun T nT => ⟨by show 1 ≤ sizeLine; exact small (by omega), fun U nU => ?_⟩⟩⟩
      have kT := same_keep (o := .tup (st.2.map V.int)) kZ (kZ.free nT)
      have kU := same_keep (o := .lst [V.ref T]) kT (kT.free nU)
      refine ⟨F, U, us, _, rfl, rfl, kU _ _ eF3, upd_same, by show us.length + 1 ≤ sizeLine; exact small (by omega), fun W nW => ?_⟩
      refine q _ _ _ (sm.trans (same_keep (o := .lst (us ++ [V.ref T])) kU (kU.free nW))) ?_ upd_same ?_
      · exact sm.free (kU.free nW)
      · unfold runEnd
        rw [if_neg hn, List.length_append, lu]
        rfl
/-! ### counts_in -/
theorem tyes {σ : L2.St} {H : Hp} {A B : Hp → Prop} (h : A H) : tYes σ H (fun b H3 => if b = true then A H3 else B H3) := by
  show if true = true then A H else B H
  rw [if_pos rfl]
  exact h
def rLenK (K : PySem.W.Frag) : List V → Hp → VK → Prop := fun xs H Q => ∃ p ys, xs = [.ref p] ∧ (SqL K H p ys ∨ SqT K H p ys) ∧ Q (.int ys.length) H
abbrev sCnts : Stmt := stm 16
theorem scCnts : FnScope ["line", "person"] ["line"] (defScope sCnts) := ⟨rfl, rfl, rfl, by decide +kernel, rfl, by decide +kernel, by decide +kernel⟩
def spCnts : Sp := fun vs H Q _ => ∃ (a : Addr) (l : List Int), vs = [.ref a] ∧ Tu H a l ∧ l ∈ lines ∧
  ∀ H' r, Same H H' → H r = none → Ls H' r (counts l) → Q (.ref r) H'
theorem cal_cnts {f : Addr} {fd : FuncData} (D : Df K mg "counts_in" sCnts f fd) (B : Bt mg) (C : Cal P w K mg base 1 "runs_in" spRuns []) : Cal P w K mg base 2 "counts_in" spCnts [] := by
  refine cal_of (ps := ["line"]) D (D.fn.ok scCnts (fun vs H Q E h => ?_) (fun cdv A outer s H vs Q E hr h => ?_)) (D.fn.binds fun _ _ _ _ _ _ us hl => match us, hl with | [_], _ => rfl)
  · obtain ⟨a, l, rfl, _⟩ := h
    rfl
  obtain ⟨a, l, rfl, hl, hm, q⟩ := h
  refine ⟨_, pss_one (ps_ret
    (pe_lc (own := [("person", 1)]) (g := gName 1) rfl scCnts.nd (pi_range1 (by rfl) B.range (pa_cons (pe_callB call_len_seq (by rfl) B.len PySem.boot_len (pa_cons (pv 0) pa_nil)) pa_nil))
      (blkOk_by (N := ["line", "person"]) (sc := defScope sCnts) (by decide +kernel)) (fun _ _ _ _ _ => pg_name (i := 1) scCnts.nd rfl (Or.inl rfl))
      (fun _ _ _ _ _ => pts_nil)
      (fun _ _ _ _ _ => pe_callB (r := rLenK K) call_len_seq (by rfl) B.len PySem.boot_len (pa_cons (pe_c C hr (by decide) (by rfl) (pa_cons (pv 0) (pa_cons (pv 1) pa_nil))) pa_nil)))), ?_⟩
  obtain ⟨h1, h5, _, hk⟩ := lines_shape l hm
  have el : (l.map V.int).length = l.length := List.length_map _
  refine ⟨_, rfl, a, _, rfl, .inr hl.sq, _, rfl, by omega, by rw [el]; omega, fun D nD => ?_⟩
  have en : ((l.map V.int).length : Int).toNat = l.length := by rw [el]; omega
  rw [en]
  have step : ∀ i : Nat, (((List.range (i + 1)).map fun (k : Nat) => ((runCount l (k : Int) : Nat) : Int))) =
      ((List.range i).map fun (k : Nat) => ((runCount l (k : Int) : Nat) : Int)) ++ [((runCount l (i : Int) : Nat) : Int)] := fun i => by
    rw [List.range_succ, List.map_append]
    rfl
  refine lc_range (lo := 0) (n := l.length) (fun i H3 => Same H H3 ∧ H3 D = some (.lst (((List.range i).map fun (k : Nat) => ((runCount l (k : Int) : Nat) : Int)).map V.int))) ⟨same_new nD, upd_same⟩ (fun i H3 hi ⟨sm, eD⟩ => ?_) (fun H3 ⟨sm, eD⟩ => q _ _ sm nD eD)
  refine ⟨rfl, ?_⟩
  refine tyes ?_
  refine ⟨_, rfl, _, rfl, ⟨a, l, _, rfl, hl.same sm, ?_, hm, fun H4 r us sm4 nr er lu => ?_⟩⟩
  · rw [Int.zero_add]
    exact (hk i (List.mem_range.mpr hi)).1
  · refine ⟨r, us, rfl, .inl (SqL.of er), _, sm4 _ _ eD, ?_, ?_⟩
    · rw [List.length_map, List.length_map, List.length_range]
      exact small1000 (by omega)
    · rw [Int.zero_add] at lu
      refine ⟨same_keep (sm.trans sm4) nD, ?_⟩
      rw [upd_same, step, List.map_append, lu]
      rfl
end
end Ot
set_option Elab.async false
set_option linter.all false
set_option maxRecDepth 100000
set_option maxHeartbeats 4000000
namespace Ot
open PySem PySem.Spec PyProof.Rows L2 OtR
open C8 (Cal pe_c)
theorem plain_mem {l : List Int} {p : Int} (h : p ∈ plain l) : p ∈ movers l := (List.mem_filter.mp h).1
theorem plain_le {l : List Int} (hm : l ∈ lines) : (plain l).length ≤ 5 := Nat.le_trans (List.length_filter_le _ _) (movers_le hm)
theorem head_mem {l : List Int} (h : l ≠ []) : l.headD 0 ∈ l := by
  cases l with
  | nil => exact absurd rfl h
  | cons x r => exact List.mem_cons_self
theorem head_at {l : List Int} (h : l ≠ []) : (l.map V.int)[0]? = some (V.int (l.headD 0)) := by
  cases l with
  | nil => exact absurd rfl h
  | cons x r => rfl
theorem filter_next (f : Int → Bool) {l : List Int} {i : Nat} {x : Int} (h : l[i]? = some x) : (l.take (i + 1)).filter f = (l.take i).filter f ++ (if f x = true then [x] else []) := by
  rw [List.take_add_one, h, List.filter_append]
  show _ ++ List.filter f [x] = _
  by_cases c : f x = true
  · rw [if_pos c, List.filter_cons, if_pos c]
    rfl
  · rw [if_neg c, List.filter_cons, if_neg c]
    rfl
theorem gv {l : List Int} {i : Nat} {x : V} (h : (l.map V.int)[i]? = some x) : ∃ z, l[i]? = some z ∧ x = V.int z := by
  rw [List.getElem?_map] at h
  cases e : l[i]? with
  | none => rw [e] at h; cases h
  | some z => rw [e] at h; exact ⟨z, rfl, by cases h; rfl⟩
theorem mem_gi {l : List Int} {i : Nat} {z : Int} (h : l[i]? = some z) : z ∈ l := List.mem_of_getElem? h
theorem rowF_len : ∀ n l, (rowF n l).length ≤ n
  | 0, _ => Nat.le_refl _
  | n + 1, l => by
    unfold rowF
    split
    · exact Nat.zero_le _
    · rw [List.length_cons]
      exact Nat.succ_le_succ (rowF_len n _)
theorem row_len (l : List Int) : (row l).length ≤ 12 := rowF_len 12 l
theorem dec_eqI (x y : Int) : decide (V.int x = V.int y) = decide (x = y) := by
  by_cases c : x = y
  · subst c; rw [decide_eq_true rfl, decide_eq_true rfl]
  · rw [decide_eq_false c, decide_eq_false (fun z => c (by cases z; rfl))]
section
variable {P : Program} {w : World} {K : PySem.W.Frag} {mg : Str → Option Value} {base : Heap}
/-! ### most_calls -/
abbrev sMost : Stmt := stm 18
theorem scMost : FnScope ["line"] ["line"] (defScope sMost) := ⟨rfl, rfl, rfl, by decide +kernel, rfl, by decide +kernel, by decide +kernel⟩
def spMost : Sp := fun vs H Q _ => ∃ (a : Addr) (l : List Int), vs = [.ref a] ∧ Tu H a l ∧ l ∈ lines ∧ ∀ H', Same H H' → Q (.int (rank l)) H'
theorem cal_most {f : Addr} {fd : FuncData} (D : Df K mg "most_calls" sMost f fd) (B : Bt mg) (C1 : Cal P w K mg base 3 "need_line" spNeed []) (C2 : Cal P w K mg base 2 "counts_in" spCnts []) : Cal P w K mg base 4 "most_calls" spMost [] := by
  refine cal_of (ps := ["line"]) D (D.fn.ok scMost (fun vs H Q E h => ?_) (fun cdv A outer s H vs Q E hr h => ?_)) (D.fn.binds fun _ _ _ _ _ _ us hl => match us, hl with | [_], _ => rfl)
  · obtain ⟨a, l, rfl, _⟩ := h
    rfl
  obtain ⟨a, l, rfl, hl, hm, q⟩ := h
  refine ⟨_, pss_cons (ps_expr (pe_c C1 hr (by decide) (by rfl) (pa_cons (pv 0) pa_nil)))
    (pss_one (ps_ret (pe_callB (r := rSum K) (cr_sum (by rfl)) (by rfl) B.sum (by decide +kernel) (pa_cons (pe_c C2 hr (by decide) (by rfl) (pa_cons (pv 0) pa_nil)) pa_nil)))), ?_⟩
  refine ⟨_, rfl, a, l, rfl, hl, hm, fun H1 s1 => ?_⟩
  exact ⟨_, rfl, a, l, rfl, hl.same s1, hm, fun H2 r s2 nr er => ⟨r, _, rfl, SqL.of er, q _ (s1.trans s2)⟩⟩
/-! ### plain_in -/
abbrev sPlain : Stmt := stm 19
theorem scPlain : FnScope ["line", "whole", "person"] ["line"] (defScope sPlain) := ⟨rfl, rfl, rfl, by decide +kernel, rfl, by decide +kernel, by decide +kernel⟩
def spPlain : Sp := fun vs H Q _ => ∃ (a : Addr) (l : List Int), vs = [.ref a] ∧ Tu H a l ∧ l ∈ lines ∧ ∀ H' r, Same H H' → H r = none → Ls H' r (plain l) → Q (.ref r) H'
theorem cal_plain {f : Addr} {fd : FuncData} (D : Df K mg "plain_in" sPlain f fd) (B : Bt mg) (C1 : Cal P w K mg base 1 "movers_in" spMovers []) (C2 : Cal P w K mg base 2 "counts_in" spCnts []) (C3 : Cal P w K mg base 2 "call_in" spCall []) : Cal P w K mg base 3 "plain_in" spPlain [] := by
  refine cal_of (ps := ["line"]) D (D.fn.ok scPlain (fun vs H Q E h => ?_) (fun cdv A outer s H vs Q E hr h => ?_)) (D.fn.binds fun _ _ _ _ _ _ us hl => match us, hl with | [_], _ => rfl)
  · obtain ⟨a, l, rfl, _⟩ := h
    rfl
  obtain ⟨a, l, rfl, hl, hm, q⟩ := h
  refine ⟨_, pss_cons (ps_set (i := 1) scPlain.nd rfl (.inr rfl) (pe_callB (r := rSum K) (cr_sum (by rfl)) (by rfl) B.sum (by decide +kernel) (pa_cons (pe_c C2 hr (by decide) (by rfl) (pa_cons (pv 0) pa_nil)) pa_nil)))
    (pss_one (ps_ret (pe_lc (own := [("person", 2)]) (g := gName 2) rfl scPlain.nd (pi_list (pe_c C1 hr (by decide) (by rfl) (pa_cons (pv 0) pa_nil)))
      (blkOk_by (N := ["line", "whole", "person"]) (sc := defScope sPlain) (by decide +kernel)) (fun _ _ _ _ _ => pg_name (i := 2) scPlain.nd rfl (Or.inl rfl))
      (fun _ _ _ _ _ => pts_one (pt_cmpR op_eq (pe_callB (r := rSum K) (cr_sum (by rfl)) (by rfl) B.sum (by decide +kernel) (pa_cons (pe_c C2 hr (by decide) (by rfl) (pa_cons (pe_c C3 hr (by decide) (by rfl) (pa_cons (pv 0) (pa_cons (pv 2) pa_nil))) pa_nil)) pa_nil)) (pe_op op_sub (pv 1) pe_int) (nomark _)))
      (fun _ _ _ _ _ => pv 2)))), ?_⟩
  refine ⟨_, rfl, a, l, rfl, hl, hm, fun H1 r1 s1 n1 e1 => ⟨r1, _, rfl, SqL.of e1, ?_⟩⟩
  refine ⟨_, rfl, a, l, rfl, hl.same s1, hm, fun H2 p s2 np ep => ?_⟩
  refine ⟨p, rfl, ⟨_, SqL.of ep⟩, fun D nD => ?_⟩
  have hm5 := movers_le hm
  obtain ⟨_, hmv, _, _⟩ := lines_move l hm
  have s12 := s1.trans s2
  have em : ((movers l).map V.int).length = (movers l).length := List.length_map _
  refine lc_list (a := p) (xs := (movers l).map V.int) (fun i H3 => Same H2 H3 ∧ H3 D = some (.lst ((((movers l).take i).filter fun p => decide (rank (call l p) = rank l - 1)).map V.int))) ⟨same_new nD, upd_same⟩ (fun i H3 _ ⟨sm, _⟩ => SqL.of (sm _ _ ep)) (fun i x H3 hx ⟨sm, eD⟩ => ?_) (fun H3 ⟨sm, eD⟩ => ?_)
  · obtain ⟨z, hz, rfl⟩ := gv hx
    have hi : i < (movers l).length := (List.getElem?_eq_some_iff.mp hz).1
    obtain ⟨hzl, _⟩ := hmv z (mem_gi hz)
    obtain ⟨hcl, _⟩ := lines_call l hm z hzl
    have hn := filter_next (fun p => decide (rank (call l p) = rank l - 1)) hz
    refine ⟨rfl, _, rfl, _, rfl, a, l, z, rfl, hl.same (s12.trans sm), hzl, hm, fun H4 c s4 nc hc => ?_⟩
    refine ⟨c, _, rfl, hc, hcl, fun H5 r5 s5 n5 e5 => ⟨r5, _, rfl, SqL.of e5, ?_⟩⟩
    have s45 := s4.trans s5
    refine ⟨_, rfl, _, _, rfl, rfl, rfl, _, rfl, ?_⟩
    show if decide (V.int (rank (call l z)) = V.int (rank l - 1)) = true then _ else _
    rw [dec_eqI]
    refine ite2 (fun c => ?_) (fun c => ?_)
    · refine ⟨_, rfl, _, s45 _ _ eD, ?_, same_keep (sm.trans s45) nD, ?_⟩
      · rw [List.length_map]
        refine Nat.lt_of_le_of_lt (List.length_filter_le _ _) ?_
        rw [List.length_take]
        exact small1000 (by omega)
      · rw [upd_same, hn, if_pos c, List.map_append]
        rfl
    · refine ⟨sm.trans s45, ?_⟩
      rw [hn, if_neg c, List.append_nil]
      exact s45 _ _ eD
  · rw [em, List.take_length] at eD
    exact q _ _ (s12.trans sm) (s12.free nD) eD
/-! ### longest_row -/
abbrev sRow : Stmt := stm 20
theorem scRow : FnScope ["line", "row"] ["line"] (defScope sRow) := ⟨rfl, rfl, rfl, by decide +kernel, rfl, by decide +kernel, by decide +kernel⟩
def spRow : Sp := fun vs H Q _ => ∃ (a : Addr) (l : List Int), vs = [.ref a] ∧ Tu H a l ∧ l ∈ lines ∧ ∀ H' r, Same H H' → H' r = some (.tup ((row l).map V.int)) → Q (.ref r) H'
theorem cal_row {f : Addr} {fd : FuncData} (D : Df K mg "longest_row" sRow f fd) (B : Bt mg) (C0 : Cal P w K mg base 3 "need_line" spNeed []) (C1 : Cal P w K mg base 1 "movers_in" spMovers []) (C2 : Cal P w K mg base 3 "plain_in" spPlain []) (C3 : Cal P w K mg base 2 "call_in" spCall []) : Cal P w K mg base 4 "longest_row" spRow [] := by
  refine cal_of (ps := ["line"]) D (D.fn.ok scRow (fun vs H Q E h => ?_) (fun cdv A outer s H vs Q E hr h => ?_)) (D.fn.binds fun _ _ _ _ _ _ us hl => match us, hl with | [_], _ => rfl)
  · obtain ⟨a, l, rfl, _⟩ := h
    rfl
  obtain ⟨a, l, rfl, hl, hm, q⟩ := h
  refine ⟨_, pss_cons (ps_expr (pe_c C0 hr (by decide) (by rfl) (pa_cons (pv 0) pa_nil))) (pss_cons (ps_set (i := 1) scRow.nd rfl (.inl rfl) (pe_lst pa_nil))
    (pss_cons (ps_while PassesOwn.never (pt_cmpR (op_neD hr.units) (pe_c C1 hr (by decide) (by rfl) (pa_cons (pv 0) pa_nil)) (pe_lst pa_nil) (nomark _))
      (pss_cons (ps_expr (pe_bm PySem.F.plainAttrs_list PySem.F.slot_list_append PySem.F.type_list_append mt_append (pv 1) (pa_cons (pe_ix (r := rIxL K) ix_list (pe_c C2 hr (by decide) (by rfl) (pa_cons (pv 0) pa_nil)) pe_int (fun _ _ => rfl)) pa_nil)))
        (pss_one (ps_set (i := 0) scRow.nd rfl (.inl rfl) (pe_c C3 hr (by decide) (by rfl) (pa_cons (pv 0) (pa_cons (pe_ix (r := rIxL K) ix_list (pv 1) (pe_un un_neg pe_int) (fun _ _ => rfl)) pa_nil)))))))
    (pss_one (ps_ret (pe_callTy call_tuple_of (by rfl) B.tuple (by decide +kernel) (pa_cons (pv 1) pa_nil)))))), ?_⟩
  refine ⟨_, rfl, a, l, rfl, hl, hm, fun H1 s1 => ⟨Nat.zero_le _, fun R nR1 => ?_⟩⟩
  have nR := s1.free nR1
  refine ⟨fun m σ H' => ∃ (a' : Addr) (l' rw : List Int), m = (rank l').toNat ∧ σ = [some (.ref a'), some (.ref R)] ∧ Same H H' ∧ Ls H' R rw ∧ Tu H' a' l' ∧ l' ∈ lines ∧ rw ++ row l' = row l,
    ⟨_, a, l, [], rfl, rfl, same_keep s1 nR, upd_same, hl.same (same_keep s1 nR), hm, rfl⟩, ?_⟩
  rintro m σ H2 ⟨a', l', rw_, rfl, rfl, s2, eR, ha', hm', er⟩
  have hlen : rw_.length ≤ 12 := by
    have := congrArg List.length er
    rw [List.length_append] at this
    have := row_len l
    omega
  obtain ⟨_, hmv, r0, r6⟩ := lines_move l' hm'
  refine ⟨_, rfl, a', l', rfl, ha', hm', fun H3 p s3 np ep => ⟨Nat.zero_le _, fun Z nZ => ?_⟩⟩
  refine ⟨_, _, dp_list (SqL.of (same_new nZ _ _ ep)), dp_nil (SqL.of upd_same), sh_list _, sh_nil, _, rfl, ?_⟩
  rw [eqv_nil]
  have s3Z : Same H2 (upd H3 Z (.lst [])) := same_keep s3 (s3.free nZ)
  by_cases hn : movers l' = []
  · rw [hn]
    refine iteF ?_
    have e0 : row l' = [] := (lines_row0 l' hm' hn).1
    rw [e0, List.append_nil] at er
    subst er
    exact ⟨_, rfl, R, _, rfl, .inl ⟨SqL.of (s3Z _ _ eR), fun T nT => q _ T (same_keep (s2.trans s3Z) ((s2.trans s3Z).free nT)) upd_same⟩⟩
  · have hne : ((movers l').map PyData.int).isEmpty = false := by
      cases h2 : movers l' with
      | nil => exact absurd h2 hn
      | cons _ _ => rfl
    rw [hne]
    refine iteT ?_
    have hpl := lines_plain l' hm' hn
    obtain ⟨hzl, hlt⟩ := hmv _ (plain_mem (head_mem hpl))
    obtain ⟨hcl, _⟩ := lines_call l' hm' _ hzl
    obtain ⟨rc0, _⟩ := (lines_move _ hcl).2.2
    have erow := lines_row l' hm' hn
    refine ⟨fun σ' H' => ∃ (a2 : Addr), σ' = [some (.ref a2), some (.ref R)] ∧ Same H H' ∧ Ls H' R (rw_ ++ [(plain l').headD 0]) ∧ Tu H' a2 (call l' ((plain l').headD 0)), fun σ' H' ⟨a2, e1, e2, e3, e4⟩ => ⟨(rank (call l' ((plain l').headD 0))).toNat, ?_, a2, _, rw_ ++ [(plain l').headD 0], rfl, e1, e2, e3, e4, hcl, ?_⟩, ?_⟩
    · omega
    · rw [List.append_assoc, ← er, erow]
      rfl
    have hat := head_at hpl
    generalize hz : (plain l').headD 0 = z at *
    refine ⟨_, rfl, .inl ⟨rfl, _, SqL.of (s3Z _ _ eR)⟩, _, rfl, a', l', rfl, ha'.same s3Z, hm', fun H4 r s4 nr e4 => ?_⟩
    refine ⟨r, _, 0, _, rfl, rfl, SqL.of e4, at_of (j := 0) rfl hat, ?_⟩
    refine ⟨R, _, _, rfl, rfl, s4 _ _ (s3Z _ _ eR), ?_, ?_⟩
    · rw [List.length_map]
      exact small1000 (by omega)
    have s24 := s3Z.trans s4
    have hR : ∀ b o, H b = some o → b ≠ R := fun b o e z => by rw [z, nR] at e; cases e
    have sm5 : Same H (upd H4 R (.lst (rw_.map V.int ++ [V.int z]))) := fun b o e => by
      rw [upd_ne (hR b o e)]
      exact s24 _ _ (s2 b o e)
    have ha5 : Tu (upd H4 R (.lst (rw_.map V.int ++ [V.int z]))) a' l' := by
      obtain ⟨o, e, d⟩ := ha'
      refine ⟨o, ?_, d⟩
      have : a' ≠ R := ne_of e eR (fun q => nomatch q)
      rw [upd_ne this]
      exact s24 _ _ e
    refine ⟨_, rfl, _, rfl, _, rfl, R, _, _, _, rfl, rfl, SqL.of upd_same, atI_last _ _, ?_⟩
    refine ⟨a', l', z, rfl, ha5, hzl, hm', fun H6 c s6 nc hc => ⟨c, rfl, sm5.trans s6, ?_, hc⟩⟩
    show H6 R = _
    rw [s6 _ _ upd_same, List.map_append]
    rfl
end
end Ot
set_option Elab.async false
set_option linter.all false
set_option maxRecDepth 100000
set_option maxHeartbeats 4000000
namespace Ot
open PySem PySem.Spec PyProof.Rows L2 OtR
open C8 (Cal pe_c)
/-! ### the memory -/
theorem nodup_le : ∀ {l m : List (List Int)}, l.Nodup → (∀ x ∈ l, x ∈ m) → l.length ≤ m.length
  | [], m, _, _ => Nat.zero_le _
  | x :: r, m, h, hs => by
    obtain ⟨h1, h2⟩ := List.nodup_cons.mp h
    have hx : x ∈ m := hs x List.mem_cons_self
    have := nodup_le (m := m.erase x) h2 (fun y hy => by
      have hne : y ≠ x := fun e => h1 (e ▸ hy)
      exact (List.mem_erase_of_ne hne).mpr (hs y (List.mem_cons_of_mem _ hy)))
    rw [List.length_erase_of_mem hx] at this
    have hp : 0 < m.length := List.length_pos_of_mem hx
    rw [List.length_cons]
    omega
theorem lines_few : lines.length ≤ 200 := by decide +kernel
theorem putX_nodup {es : List En} (k : List Int) (b : Addr) (v : V) (h : (es.map (·.1)).Nodup) : ((putX es k b v).map (·.1)).Nodup := by
  unfold putX
  by_cases c : decide (k ∈ es.map (·.1)) = true
  · rw [if_pos c, List.map_map]
    have e : ((fun e : En => e.1) ∘ fun e : En => if e.1 = k then (e.1, e.2.1, v) else e) = fun e : En => e.1 := by
      funext e
      show (if e.1 = k then (e.1, e.2.1, v) else e).1 = e.1
      split <;> rfl
    rw [e]
    exact h
  · rw [if_neg c, List.map_append]
    refine List.nodup_append.mpr ⟨h, by simp, fun x hx y hy => ?_⟩
    have : y = k := List.mem_singleton.mp hy
    intro e
    exact c (decide_eq_true (by rw [← this, ← e]; exact hx))
/-- all but d stands -/
def Keep (d : Addr) (H H' : Hp) : Prop := ∀ b o, b ≠ d → H b = some o → H' b = some o
theorem Keep.of {d : Addr} {H H' : Hp} (h : Same H H') : Keep d H H' := fun b o _ e => h b o e
theorem Keep.trans {d : Addr} {H H1 H2 : Hp} (a : Keep d H H1) (b : Keep d H1 H2) : Keep d H H2 := fun c o n h => b c o n (a c o n h)
theorem Keep.tu {d a : Addr} {H H' : Hp} {F : Heap → Prop} {l : List Int} (hd : H d = some (.ext F)) (k : Keep d H H') (h : Tu H a l) : Tu H' a l := by
  obtain ⟨o, e, dn⟩ := h
  exact ⟨o, k _ _ (ne_of e hd (fun q => nomatch q)) e, dn⟩
theorem Keep.lst {d a : Addr} {H H' : Hp} {F : Heap → Prop} {xs : List V} (hd : H d = some (.ext F)) (k : Keep d H H') (e : H a = some (.lst xs)) : H' a = some (.lst xs) :=
  k _ _ (ne_of e hd (fun q => nomatch q)) e
/-- what is locked stands -/
def Fz (H H' : Hp) : Prop := ∀ b u x, H b = some (.frz u x) → H' b = some (.frz u x)
theorem Same.fz {H H' : Hp} (s : Same H H') : Fz H H' := fun b u x e => s b _ e
theorem Keep.fz {d : Addr} {H H' : Hp} {F : Heap → Prop} (hd : H d = some (.ext F)) (k : Keep d H H') : Fz H H' := fun b u x e => k _ _ (ne_of e hd (fun q => nomatch q)) e
theorem fz_upd {H : Hp} {a : Addr} {o o' : HO} (e : H a = some o) (h : ∀ u x, HO.frz u x ≠ o) : Fz H (upd H a o') := fun b u x eb => by
  rw [upd_ne (ne_of eb e (h u x))]
  exact eb
theorem Fz.tu {H H' : Hp} {a : Addr} {l : List Int} (k : Fz H H') (h : Tu H a l) : Tu H' a l := by
  obtain ⟨o, e, dn⟩ := h
  exact ⟨o, k _ _ _ e, dn⟩
def Stab (Val : Hp → List Int → V → Prop) : Prop := ∀ H H' l v, Fz H H' → Val H l v → Val H' l v
/-- the memory at d: lines as they stand, to what Val says -/
def Mem (P : Program) (w : World) (Val : Hp → List Int → V → Prop) (d : Addr) (H : Hp) : Prop :=
  ∃ es, H d = some (KD P w d es) ∧ (∀ e ∈ es, Tu H e.2.1 e.1 ∧ e.1 ∈ lines ∧ Val H e.1 e.2.2) ∧ (es.map (·.1)).Nodup
theorem Mem.ext {P : Program} {w : World} {Val : Hp → List Int → V → Prop} {d : Addr} {H : Hp} (m : Mem P w Val d H) : ∃ F, H d = some (.ext F) := let ⟨_, e, _⟩ := m; ⟨_, e⟩
theorem Mem.fz {P : Program} {w : World} {Val : Hp → List Int → V → Prop} {d : Addr} {H H' : Hp} (st : Stab Val) (m : Mem P w Val d H) (k : Fz H H') (hd : ∀ o, H d = some o → H' d = some o) : Mem P w Val d H' := by
  obtain ⟨es, e, h, nd⟩ := m
  exact ⟨es, hd _ e, fun x hx => ⟨k.tu (h x hx).1, (h x hx).2.1, st _ _ _ _ k (h x hx).2.2⟩, nd⟩
theorem Mem.same {P : Program} {w : World} {Val : Hp → List Int → V → Prop} {d : Addr} {H H' : Hp} (st : Stab Val) (m : Mem P w Val d H) (s : Same H H') : Mem P w Val d H' := m.fz st (Same.fz s) (fun o e => s d o e)
theorem Mem.len {Val : Hp → List Int → V → Prop} {H : Hp} {es : List En} (h : ∀ e ∈ es, Tu H e.2.1 e.1 ∧ e.1 ∈ lines ∧ Val H e.1 e.2.2) (nd : (es.map (·.1)).Nodup) : es.length ≤ 200 := by
  have := nodup_le nd (m := lines) (fun x hx => by
    obtain ⟨e, he, rfl⟩ := List.mem_map.mp hx
    exact (h e he).2.1)
  rw [List.length_map] at this
  exact Nat.le_trans this lines_few
theorem keep_upd {d : Addr} {H : Hp} {o : HO} : Keep d H (upd H d o) := fun b x n e => by
  rw [upd_ne n]
  exact e
theorem Mem.put {P : Program} {w : World} {Val : Hp → List Int → V → Prop} {d b : Addr} {H : Hp} {es : List En} {l : List Int} {v : V} (st : Stab Val) (e : H d = some (KD P w d es))
    (h : ∀ e ∈ es, Tu H e.2.1 e.1 ∧ e.1 ∈ lines ∧ Val H e.1 e.2.2) (nd : (es.map (·.1)).Nodup) (hb : Tu H b l) (hm : l ∈ lines) (hv : Val H l v) :
    (upd H d (KD P w d (putX es l b v))) d = some (KD P w d (putX es l b v)) ∧ (∀ e ∈ putX es l b v, Tu (upd H d (KD P w d (putX es l b v))) e.2.1 e.1 ∧ e.1 ∈ lines ∧ Val (upd H d (KD P w d (putX es l b v))) e.1 e.2.2) ∧ ((putX es l b v).map (·.1)).Nodup := by
  have kp : Fz H (upd H d (KD P w d (putX es l b v))) := fz_upd e (fun _ _ q => nomatch q)
  refine ⟨upd_same, fun x hx => ?_, putX_nodup l b v nd⟩
  have old : ∀ y ∈ es, Tu (upd H d (KD P w d (putX es l b v))) y.2.1 y.1 ∧ y.1 ∈ lines ∧ Val (upd H d (KD P w d (putX es l b v))) y.1 y.2.2 := fun y hy => ⟨kp.tu (h y hy).1, (h y hy).2.1, st _ _ _ _ kp (h y hy).2.2⟩
  have new : Val (upd H d (KD P w d (putX es l b v))) l v := st _ _ _ _ kp hv
  rcases putX_mem hx with rfl | hx | ⟨e1, e2, u, hu⟩
  · exact ⟨kp.tu hb, hm, new⟩
  · exact old x hx
  · rw [e1, e2]
    exact ⟨(old _ hu).1, hm, new⟩
theorem Mem.keys {K : PySem.W.Frag} {Val : Hp → List Int → V → Prop} {H : Hp} {es : List En} (h : ∀ e ∈ es, Tu H e.2.1 e.1 ∧ e.1 ∈ lines ∧ Val H e.1 e.2.2) : Keys K H es := fun x hx => (h x hx).1.sq
def valI : Hp → List Int → V → Prop := fun _ l v => v = .int (cnt l)
theorem stabI : Stab valI := fun _ _ _ _ _ h => h
theorem next_take {α β : Type} (f : α → β) {l : List α} {i : Nat} {x : α} (h : l[i]? = some x) : (l.take (i + 1)).map f = (l.take i).map f ++ [f x] := by
  rw [List.take_add_one, h, List.map_append]
  rfl
section
variable {P : Program} {w : World} {K : PySem.W.Frag} {mg : Str → Option Value} {base : Heap}
/-! ### longest_from -/
abbrev sLf : Stmt := stm 21
theorem scLf : FnScope ["line", "known", "person"] ["line", "known"] (defScope sLf) := ⟨rfl, rfl, rfl, by decide +kernel, rfl, by decide +kernel, by decide +kernel⟩
def spLf (P : Program) (w : World) (n : Nat) : Sp := fun vs H Q _ => ∃ (a d : Addr) (l : List Int), vs = [.ref a, .ref d] ∧ Tu H a l ∧ l ∈ lines ∧ (rank l).toNat < n ∧ Mem P w valI d H ∧
  ∀ H', Keep d H H' → Mem P w valI d H' → Q (.int (cnt l)) H'
theorem cal_lf {f : Addr} {fd : FuncData} (D : Df K mg "longest_from" sLf f fd) (B : Bt mg) (C1 : Cal P w K mg base 1 "movers_in" spMovers []) (C2 : Cal P w K mg base 3 "plain_in" spPlain []) (C3 : Cal P w K mg base 2 "call_in" spCall []) :
    ∀ n, Cal P w K mg base (4 + n) "longest_from" (spLf P w n) []
  | 0 => by
    refine cal_of (ps := ["line", "known"]) D (FnOk.mono (D.fn.ok (k := 3) scLf (fun vs H Q E h => ?_) (fun cdv A outer s H vs Q E hr h => ?_)) (Nat.le_refl _)) (D.fn.binds fun _ _ _ _ _ _ us hl => match us, hl with | [_, _], _ => rfl)
    · obtain ⟨a, d, l, rfl, _⟩ := h
      rfl
    · obtain ⟨a, d, l, rfl, _, _, h, _⟩ := h
      exact absurd h (Nat.not_lt_zero _)
  | n + 1 => by
    have R := cal_lf D B C1 C2 C3 n
    refine cal_of (ps := ["line", "known"]) D (D.fn.ok (k := 4 + n) scLf (fun vs H Q E h => ?_) (fun cdv A outer s H vs Q E hr h => ?_)) (D.fn.binds fun _ _ _ _ _ _ us hl => match us, hl with | [_, _], _ => rfl)
    · obtain ⟨a, d, l, rfl, _⟩ := h
      rfl
    obtain ⟨a, d, l, rfl, hl, hm, hn, hM, q⟩ := h
    refine ⟨_, pss_cons (ps_if (pt_cmpR (op_eqD hr.units) (pe_c C1 hr (by omega) (by rfl) (pa_cons (pv 0) pa_nil)) (pe_lst pa_nil) (nomark _)) (pss_one (ps_ret pe_int)) pss_nil)
      (pss_cons (ps_if (pt_cmp (pc_xnotin (hu_of hr) (pv 0) (pv 1))) (pss_one (ps_xput (hu_of hr) (pv 1) (pv 0) (pe_callB (r := rSum K) (cr_sum (by rfl)) (by rfl) B.sum (by decide +kernel) (pa_cons
        (pe_lc (own := [("person", 2)]) (g := gName 2) rfl scLf.nd (pi_list (pe_c C2 hr (by omega) (by rfl) (pa_cons (pv 0) pa_nil)))
          (blkOk_by (N := ["line", "known", "person"]) (sc := defScope sLf) (by decide +kernel)) (fun _ _ _ _ _ => pg_name (i := 2) scLf.nd rfl (Or.inl rfl)) (fun _ _ _ _ _ => pts_nil)
          (fun _ _ _ _ _ => pe_c R hr (by omega) (by rfl) (pa_cons (pe_c C3 hr (by omega) (by rfl) (pa_cons (pv 0) (pa_cons (pv 2) pa_nil))) (pa_cons (pv 1) pa_nil)))) pa_nil)) (by rfl))) pss_nil)
      (pss_one (ps_ret (pe_xget (hu_of hr) (pv 1) (pv 0) (by exact fun _ _ => rfl))))), ?_⟩
    obtain ⟨_, hmv, r0, r6⟩ := lines_move l hm
    refine ⟨_, rfl, a, l, rfl, hl, hm, fun H1 p s1 np ep => ⟨Nat.zero_le _, fun Z nZ => ?_⟩⟩
    refine ⟨_, _, dp_list (SqL.of (same_new nZ _ _ ep)), dp_nil (SqL.of upd_same), sh_list _, sh_nil, _, rfl, ?_⟩
    rw [eqv_nil]
    have s1Z : Same H (upd H1 Z (.lst [])) := same_keep s1 (s1.free nZ)
    generalize (upd H1 Z (.lst [])) = H2 at s1Z ⊢
    by_cases hne : movers l = []
    · rw [hne]
      refine iteT ?_
      have e0 : cnt l = 1 := (lines_row0 l hm hne).2.1
      rw [e0] at q
      exact q _ (Keep.of s1Z) (hM.same stabI s1Z)
    · have hne' : ((movers l).map PyData.int).isEmpty = false := by
        cases h2 : movers l with
        | nil => exact absurd h2 hne
        | cons _ _ => rfl
      rw [hne']
      refine iteF ?_
      have hl2 := hl.same s1Z
      obtain ⟨es, ed, hes, nd⟩ := hM.same stabI s1Z
      have fin : ∀ H4 es4, Keep d H H4 → H4 d = some (KD P w d es4) → (∀ e ∈ es4, Tu H4 e.2.1 e.1 ∧ e.1 ∈ lines ∧ valI H4 e.1 e.2.2) → (es4.map (·.1)).Nodup → l ∈ es4.map (·.1) → ∀ E : Ends, E.rt = Q →
          tRet (tXGet P w K (tVar 1) (tVar 0)) E (L2.start ["line", "known", "person"] [V.ref a, V.ref d]) H4 := by
        intro H4 es4 k4 e4 h4 n4 m4 E hE
        obtain ⟨F, hF⟩ := hM.ext
        refine ⟨_, rfl, _, rfl, d, a, es4, l, rfl, rfl, e4, Mem.keys h4, (Keep.tu hF k4 hl).sq, m4, fun x v hv => ?_⟩
        have := (h4 _ hv).2.2
        have e : v = .int (cnt l) := this
        rw [e, hE]
        exact q H4 k4 ⟨es4, e4, h4, n4⟩
      refine ⟨_, rfl, _, rfl, d, a, es, l, rfl, rfl, ed, Mem.keys hes, hl2.sq, _, rfl, ?_⟩
      by_cases hin : l ∈ es.map (·.1)
      · rw [decide_eq_true hin]
        exact iteF (fin _ es (Keep.of s1Z) ed hes nd hin _ rfl)
      · rw [decide_eq_false hin]
        refine iteT ?_
        refine ⟨_, rfl, a, l, rfl, hl2, hm, fun H3 b s3 nb eb => ⟨b, rfl, ⟨_, SqL.of eb⟩, fun L nL => ?_⟩⟩
        have sHL : Same H (upd H3 L (.lst [])) := same_keep (s1Z.trans s3) ((s1Z.trans s3).free nL)
        have kL : Same H3 (upd H3 L (.lst [])) := same_new nL
        have em : ((plain l).map V.int).length = (plain l).length := List.length_map _
        have p5 := plain_le hm
        have hM3 : Mem P w valI d (upd H3 L (.lst [])) := hM.same stabI sHL
        obtain ⟨F, hF⟩ := hM.ext
        have hL : L ≠ d := fun z => by
          have := (s1Z.trans s3) _ _ hF
          rw [← z, nL] at this
          cases this
        refine lc_list (a := b) (xs := (plain l).map V.int) (fun i H5 => Keep d H H5 ∧ Ls H5 b (plain l) ∧ Mem P w valI d H5 ∧ H5 L = some (.lst (((plain l).take i).map fun p => V.int (cnt (call l p)))))
          ⟨Keep.of sHL, kL _ _ eb, hM3, upd_same⟩ (fun i H5 _ ⟨_, e, _⟩ => SqL.of e) (fun i x H5 hx ⟨k5, e5, M5, eL⟩ => ?_) (fun H5 ⟨k5, e5, M5, eL⟩ => ?_)
        · obtain ⟨z, hz, rfl⟩ := gv hx
          have hi : i < (plain l).length := (List.getElem?_eq_some_iff.mp hz).1
          obtain ⟨hzl, hlt⟩ := hmv z (plain_mem (mem_gi hz))
          obtain ⟨hcl, _⟩ := lines_call l hm z hzl
          obtain ⟨rc0, _⟩ := (lines_move _ hcl).2.2
          refine ⟨rfl, ?_⟩
          refine tyes ?_
          refine ⟨_, rfl, _, rfl, a, l, z, rfl, Keep.tu hF k5 hl, hzl, hm, fun H6 c s6 nc hc => ⟨_, rfl, c, d, _, rfl, hc, hcl, by omega, M5.same stabI s6, fun H7 k7 M7 => ?_⟩⟩
          obtain ⟨F6, hF6⟩ := (M5.same stabI s6).ext
          refine ⟨_, Keep.lst hF6 k7 (s6 _ _ eL), ?_, ?_, ?_, ?_, ?_⟩
          · rw [List.length_map, List.length_take]
            exact small1000 (by omega)
          · intro y o hy hyo
            have hyL : y ≠ L := fun z => by
              have := (s1Z.trans s3).free nL
              rw [z, this] at hyo
              cases hyo
            rw [upd_ne hyL]
            exact k7 _ _ hy (s6 _ _ (k5 _ _ hy hyo))
          · have hbL : b ≠ L := ne_of_none eb nL
            show upd H7 L _ b = _
            rw [upd_ne hbL]
            exact Keep.lst hF6 k7 (s6 _ _ e5)
          · exact M7.fz stabI (fz_upd (Keep.lst hF6 k7 (s6 _ _ eL)) (fun _ _ q => nomatch q)) (fun o e => by rw [upd_ne (Ne.symm hL)]; exact e)
          · rw [upd_same, next_take _ hz]
        · rw [em, List.take_length] at eL
          obtain ⟨es5, ed5, h5, nd5⟩ := M5
          refine ⟨L, (plain l).map fun p => cnt (call l p), rfl, SqL.of (by rw [eL, List.map_map]; rfl), _, rfl, _, rfl, d, a, es5, l, rfl, rfl, ed5, Mem.keys h5, (Keep.tu hF k5 hl).sq, small1000 (by have := Mem.len h5 nd5; omega), ?_⟩
          rw [← lines_cnt l hm hne]
          obtain ⟨z1, z2, z3⟩ := Mem.put stabI ed5 h5 nd5 (Keep.tu hF k5 hl) hm (rfl : valI H5 l (V.int (cnt l)))
          exact fin _ _ (k5.trans keep_upd) z1 z2 z3 (putX_key _ _ _ _) _ rfl
end
end Ot
set_option Elab.async false
set_option linter.all false
set_option maxRecDepth 100000
set_option maxHeartbeats 4000000
namespace Ot
open PySem PySem.Spec PyProof.Rows L2 OtR
open C8 (Cal pe_c)
/-! ### dicts of ints -/
def kvI (d : List (Int × Int)) : List (L2.Key × V) := d.map fun kv => (Sum.inl kv.1, V.int kv.2)
theorem kvI_has (d : List (Int × Int)) (k : Int) : ((kvI d).any fun kv => decide (kv.1 = Sum.inl k)) = hasI d k := by
  unfold kvI hasI
  rw [List.any_map]
  congr 1
  funext kv
  show decide (Sum.inl kv.1 = (Sum.inl k : L2.Key)) = decide (kv.1 = k)
  by_cases c : kv.1 = k
  · rw [c, decide_eq_true rfl, decide_eq_true rfl]
  · rw [decide_eq_false c, decide_eq_false (fun z => c (by cases z; rfl))]
theorem kvI_put (d : List (Int × Int)) (k v : Int) : putK (kvI d) (Sum.inl k) (V.int v) = kvI (putI d k v) := by
  unfold putK putI
  rw [kvI_has]
  by_cases c : hasI d k = true
  · rw [if_pos c, if_pos c]
    unfold kvI
    rw [List.map_map, List.map_map]
    refine List.map_congr_left fun kv _ => ?_
    show (if Sum.inl kv.1 = (Sum.inl k : L2.Key) then _ else _) = _
    by_cases e : kv.1 = k
    · rw [if_pos (by rw [e])]
      show _ = ((Sum.inl (if kv.1 = k then (kv.1, v) else kv).1, V.int (if kv.1 = k then (kv.1, v) else kv).2) : L2.Key × V)
      rw [if_pos e]
    · rw [if_neg (fun z => e (by cases z; rfl))]
      show _ = ((Sum.inl (if kv.1 = k then (kv.1, v) else kv).1, V.int (if kv.1 = k then (kv.1, v) else kv).2) : L2.Key × V)
      rw [if_neg e]
  · rw [if_neg c, if_neg c]
    unfold kvI
    rw [List.map_append]
    rfl
theorem kvI_get : ∀ (d : List (Int × Int)) (k : Int), (valV (kvI d) (Sum.inl k)).getD (V.int 0) = V.int (getI d k)
  | [], _ => rfl
  | kv :: r, k => by
    show (valV ((Sum.inl kv.1, V.int kv.2) :: kvI r) (Sum.inl k)).getD (V.int 0) = V.int (if kv.1 = k then kv.2 else getI r k)
    by_cases c : kv.1 = k
    · rw [valV_pos (by show Sum.inl kv.1 = (Sum.inl k : L2.Key); rw [c]), if_pos c]
      rfl
    · rw [valV_neg (fun z => c (by cases z; rfl)), if_neg c]
      exact kvI_get r k
theorem putI_len (d : List (Int × Int)) (k v : Int) : (putI d k v).length ≤ d.length + 1 := by
  unfold putI
  split
  · rw [List.length_map]; omega
  · rw [List.length_append]; exact Nat.le_refl _
theorem addI_len : ∀ (x d : List (Int × Int)), (x.foldl addI d).length ≤ d.length + x.length
  | [], d => Nat.le_refl _
  | kv :: r, d => by
    have h1 := addI_len r (addI d kv)
    have h2 : (addI d kv).length ≤ d.length + 1 := putI_len _ _ _
    show (r.foldl addI (addI d kv)).length ≤ _
    rw [List.length_cons]
    omega
theorem fold_take {α β : Type} (f : α → β → α) (a : α) {zs : List β} {i : Nat} {z : β} (h : zs[i]? = some z) : (zs.take (i + 1)).foldl f a = f ((zs.take i).foldl f a) z := by
  rw [List.take_add_one, h, List.foldl_append]
  rfl
/-- what stands at a line in the memory of the counts -/
def valD : Hp → List Int → V → Prop := fun H l v => ∃ (r : Addr) (o : Obj), v = .ref r ∧ H r = some (.frz o (.dK (kvI (cf l))))
theorem stabD : Stab valD := fun _ _ _ _ k ⟨r, o, e, h⟩ => ⟨r, o, e, k _ _ _ h⟩
section
variable {P : Program} {w : World} {K : PySem.W.Frag} {mg : Str → Option Value} {base : Heap}
abbrev sCf : Stmt := stm 23
theorem scCf : FnScope ["line", "known", "found", "person", "many", "rows"] ["line", "known"] (defScope sCf) := ⟨rfl, rfl, rfl, by decide +kernel, rfl, by decide +kernel, by decide +kernel⟩
def spCf (P : Program) (w : World) (n : Nat) : Sp := fun vs H Q _ => ∃ (a d : Addr) (l : List Int), vs = [.ref a, .ref d] ∧ Tu H a l ∧ l ∈ lines ∧ (rank l).toNat < n ∧ Mem P w valD d H ∧
  ∀ H' v, Keep d H H' → Mem P w valD d H' → valD H' l v → Q v H'
theorem cal_cf {f : Addr} {fd : FuncData} (D : Df K mg "counts_from" sCf f fd) (B : Bt mg) (C1 : Cal P w K mg base 1 "movers_in" spMovers []) (C3 : Cal P w K mg base 2 "call_in" spCall []) :
    ∀ n, Cal P w K mg base (3 + n) "counts_from" (spCf P w n) []
  | 0 => by
    refine cal_of (ps := ["line", "known"]) D (FnOk.mono (D.fn.ok (k := 2) scCf (fun vs H Q E h => ?_) (fun cdv A outer s H vs Q E hr h => ?_)) (Nat.le_refl _)) (D.fn.binds fun _ _ _ _ _ _ us hl => match us, hl with | [_, _], _ => rfl)
    · obtain ⟨a, d, l, rfl, _⟩ := h
      rfl
    · obtain ⟨a, d, l, rfl, _, _, h, _⟩ := h
      exact absurd h (Nat.not_lt_zero _)
  | n + 1 => by
    have R := cal_cf D B C1 C3 n
    refine cal_of (ps := ["line", "known"]) D (D.fn.ok (k := 3 + n) scCf (fun vs H Q E h => ?_) (fun cdv A outer s H vs Q E hr h => ?_)) (D.fn.binds fun _ _ _ _ _ _ us hl => match us, hl with | [_, _], _ => rfl)
    · obtain ⟨a, d, l, rfl, _⟩ := h
      rfl
    obtain ⟨a, d, l, rfl, hl, hm, hn, hM, q⟩ := h
    refine ⟨_, pss_cons (ps_if (pt_cmpR (op_eqD hr.units) (pe_c C1 hr (by omega) (by rfl) (pa_cons (pv 0) pa_nil)) (pe_lst pa_nil) (nomark _)) (pss_one (ps_ret (pe_frz (pe_disp (pps_cons pe_int pe_int pps_nil) rfl rfl (by simp) (by simp))))) pss_nil)
      (pss_cons (ps_if (pt_cmp (pc_xnotin (hu_of hr) (pv 0) (pv 1)))
        (pss_cons (ps_set (i := 2) scCf.nd rfl (.inl rfl) pe_dnewK)
        (pss_cons (ps_for PassesOwn.never rfl (pi_list (pe_c C1 hr (by omega) (by rfl) (pa_cons (pv 0) pa_nil))) (pg_name (i := 3) scCf.nd rfl (.inl rfl))
          (pss_one (ps_for PassesOwn.never rfl (pi_items (pe_c R hr (by omega) (by rfl) (pa_cons (pe_c C3 hr (by omega) (by rfl) (pa_cons (pv 0) (pa_cons (pv 3) pa_nil))) (pa_cons (pv 1) pa_nil)))) (pg_tup rfl (pgs_cons (pg_name (i := 4) scCf.nd rfl (.inl rfl)) (pgs_cons (pg_name (i := 5) scCf.nd rfl (.inl rfl)) pgs_nil)))
            (pss_one (ps_dput (hu_of hr) (pv 2) (pe_op op_add (pv 4) pe_int) (pe_op op_add (pe_dget2 (hu_of hr) (pv 2) (pe_op op_add (pv 4) pe_int) pe_int ⟨rfl, rfl, rfl, rfl⟩) (pv 5)) (by rfl))))))
        (pss_one (ps_xput (hu_of hr) (pv 1) (pv 0) (pe_frz (pv 2)) (by rfl))))) pss_nil)
      (pss_one (ps_ret (pe_xget (hu_of hr) (pv 1) (pv 0) (by exact fun _ _ => rfl))))), ?_⟩
    obtain ⟨_, hmv, r0, r6⟩ := lines_move l hm
    refine ⟨_, rfl, a, l, rfl, hl, hm, fun H1 p s1 np ep => ⟨Nat.zero_le _, fun Z nZ => ?_⟩⟩
    refine ⟨_, _, dp_list (SqL.of (same_new nZ _ _ ep)), dp_nil (SqL.of upd_same), sh_list _, sh_nil, _, rfl, ?_⟩
    rw [eqv_nil]
    have s1Z : Same H (upd H1 Z (.lst [])) := same_keep s1 (s1.free nZ)
    generalize (upd H1 Z (.lst [])) = H2 at s1Z ⊢
    by_cases hne : movers l = []
    · rw [hne]
      refine iteT ?_
      have e0 : cf l = [(0, 1)] := (lines_row0 l hm hne).2.2.1
      refine fun r nr => ⟨upd_same, [(Sum.inl 0, V.int 1)], rfl, by show 1 ≤ 15; decide, ?_⟩
      refine ⟨r, kvI (cf l), rfl, .inr ⟨?_, fun od => ?_⟩⟩
      · rw [upd_same, e0]
        rfl
      · have sE : Same H2 (upd (upd (upd H2 r (.dK [])) r (.dK (mergeK [] [(Sum.inl 0, V.int 1)]))) r (.frz od (.dK (kvI (cf l))))) := fun b o e => by
          have hb := ne_of_none e nr
          rw [upd_ne hb, upd_ne hb, upd_ne hb]
          exact e
        exact q _ _ (Keep.of (s1Z.trans sE)) (hM.same stabD (s1Z.trans sE)) ⟨r, od, rfl, upd_same⟩
    · have hne' : ((movers l).map PyData.int).isEmpty = false := by
        cases h2 : movers l with
        | nil => exact absurd h2 hne
        | cons _ _ => rfl
      rw [hne']
      refine iteF ?_
      have hl2 := hl.same s1Z
      obtain ⟨es, ed, hes, nd⟩ := hM.same stabD s1Z
      have fin : ∀ H4 es4 y2 y3 y4 y5, Keep d H H4 → H4 d = some (KD P w d es4) → (∀ e ∈ es4, Tu H4 e.2.1 e.1 ∧ e.1 ∈ lines ∧ valD H4 e.1 e.2.2) → (es4.map (·.1)).Nodup → l ∈ es4.map (·.1) → ∀ E : Ends, E.rt = Q →
          tRet (tXGet P w K (tVar 1) (tVar 0)) E [some (V.ref a), some (V.ref d), y2, y3, y4, y5] H4 := by
        intro H4 es4 y2 y3 y4 y5 k4 e4 h4 n4 m4 E hE
        obtain ⟨F, hF⟩ := hM.ext
        refine ⟨_, rfl, _, rfl, d, a, es4, l, rfl, rfl, e4, Mem.keys h4, (Keep.tu hF k4 hl).sq, m4, fun x v hv => ?_⟩
        have := (h4 _ hv).2.2
        rw [hE]
        exact q H4 v k4 ⟨es4, e4, h4, n4⟩ this
      refine ⟨_, rfl, _, rfl, d, a, es, l, rfl, rfl, ed, Mem.keys hes, hl2.sq, _, rfl, ?_⟩
      by_cases hin : l ∈ es.map (·.1)
      · rw [decide_eq_true hin]
        exact iteF (fin _ es _ _ _ _ (Keep.of s1Z) ed hes nd hin _ rfl)
      · rw [decide_eq_false hin]
        refine iteT ?_
        refine fun F nF => ?_
        refine ⟨_, rfl, a, l, rfl, hl2.same (same_new nF), hm, fun H3 b s3 nb eb => ⟨b, rfl, ⟨_, SqL.of eb⟩, ?_⟩⟩
        have s23 : Same H2 H3 := (same_new nF).trans s3
        have eF3 : H3 F = some (.dK []) := s3 _ _ upd_same
        have em : ((movers l).map V.int).length = (movers l).length := List.length_map _
        have m5 := movers_le hm
        have nFH : H F = none := s1Z.free nF
        obtain ⟨G, hG⟩ := hM.ext
        have hFd : F ≠ d := fun z => by
          rw [z, hG] at nFH
          cases nFH
        refine for_list (xs := (movers l).map V.int) (fun i σ H5 => ∃ y3 y4 y5, σ = [some (V.ref a), some (V.ref d), some (V.ref F), y3, y4, y5] ∧ Keep d H H5 ∧ Ls H5 b (movers l) ∧ Mem P w valD d H5 ∧
            H5 F = some (.dK (kvI (((movers l).take i).foldl (fun d p => (cf (call l p)).foldl addI d) []))) ∧ (((movers l).take i).foldl (fun d p => (cf (call l p)).foldl addI d) []).length ≤ 12 * i)
          ⟨none, none, none, rfl, Keep.of (s1Z.trans s23), eb, hM.same stabD (s1Z.trans s23), eF3, Nat.zero_le _⟩ (fun i σ H5 _ ⟨_, _, _, _, _, e, _⟩ => SqL.of e) (fun i x σ H5 hx Pv => ?_) (fun σ H5 Pv => ?_)
        · obtain ⟨y3, y4, y5, rfl, k5, e5, M5, eF, lF⟩ := Pv
          obtain ⟨z, hz, rfl⟩ := gv hx
          have hi : i < (movers l).length := (List.getElem?_eq_some_iff.mp hz).1
          obtain ⟨hzl, hlt⟩ := hmv z (mem_gi hz)
          obtain ⟨hcl, _⟩ := lines_call l hm z hzl
          obtain ⟨rc0, _⟩ := (lines_move _ hcl).2.2
          obtain ⟨c12, _, _⟩ := lines_cfk _ hcl
          have hnx := fold_take (fun d p => (cf (call l p)).foldl addI d) [] hz
          generalize ((movers l).take i).foldl (fun d p => (cf (call l p)).foldl addI d) [] = D0 at *
          generalize ((movers l).take (i + 1)).foldl (fun d p => (cf (call l p)).foldl addI d) [] = D1 at *
          subst hnx
          refine ⟨_, rfl, _, rfl, a, l, z, rfl, Keep.tu hG k5 hl, hzl, hm, fun H6 c s6 nc hc => ⟨_, rfl, c, d, _, rfl, hc, hcl, by omega, M5.same stabD s6, fun H7 v k7 M7 hv => ?_⟩⟩
          obtain ⟨F6, hF6⟩ := (M5.same stabD s6).ext
          obtain ⟨r, o, rfl, er⟩ := hv
          have e67 : ∀ y x, y ≠ d → H5 y = some x → H7 y = some x := fun y x hy e => k7 _ _ hy (s6 _ _ e)
          refine ⟨r, o, _, rfl, er, ?_⟩
          have ek : (kvI (cf (call l z))).length = (cf (call l z)).length := List.length_map _
          refine for_it walk_items (fun j σ H8 => ∃ y4 y5, σ = [some (V.ref a), some (V.ref d), some (V.ref F), some (.int z), y4, y5] ∧ Keep d H H8 ∧ Ls H8 b (movers l) ∧ Mem P w valD d H8 ∧
            H8 r = some (.frz o (.dK (kvI (cf (call l z))))) ∧ H8 F = some (.dK (kvI (((cf (call l z)).take j).foldl addI D0))))
            ⟨_, _, rfl, fun y x hy e => e67 y x hy (k5 _ _ hy e), Keep.lst hF6 k7 (s6 _ _ e5), M7, er, e67 _ _ hFd eF⟩ (fun j σ H8 _ ⟨_, _, _, _, _, _, e, _⟩ => e) (fun j x σ H8 H9 hj Pv hy => ?_) (fun σ H8 Pv => ?_)
          · obtain ⟨y4, y5, rfl, k8, e8, M8, er8, eF8⟩ := Pv
            obtain ⟨T, x1, x2, rfl, nT, rfl, h1, h2⟩ := hy
            rw [ek] at hj
            obtain ⟨kv, hkv⟩ : ∃ kv, (cf (call l z))[j]? = some kv := ⟨_, List.getElem?_eq_getElem hj⟩
            have hkI : (kvI (cf (call l z)))[j]? = some (Sum.inl kv.1, V.int kv.2) := by
              unfold kvI
              rw [List.getElem?_map, hkv]
              rfl
            have h1 : ((kvI (cf (call l z)))[j]?).map (fun kv => kV kv.1) = some x1 := h1
            have h2 : ((kvI (cf (call l z)))[j]?).map Prod.snd = some x2 := h2
            rw [hkI] at h1 h2
            cases h1
            cases h2
            have hnx2 := fold_take addI D0 hkv
            have l8 : (((cf (call l z)).take j).foldl addI D0).length ≤ 12 * i + 12 := by
              have := addI_len ((cf (call l z)).take j) D0
              rw [List.length_take] at this
              omega
            generalize ((cf (call l z)).take j).foldl addI D0 = D2 at *
            generalize ((cf (call l z)).take (j + 1)).foldl addI D0 = D3 at *
            subst hnx2
            have sT : Same H8 (upd H8 T (.tup [kV (Sum.inl kv.1), V.int kv.2])) := same_new nT
            refine ⟨T, _, rfl, SqT.of upd_same, rfl, _, _, rfl, _, _, rfl, rfl, ?_⟩
            have eF9 := sT _ _ eF8
            refine ⟨_, rfl, F, rfl, .inl ⟨_, .inl eF9⟩, _, rfl, _, _, rfl, rfl, _, DGet.k (k := Sum.inl (kv.1 + 1)) eF9, ?_⟩
            rw [kvI_get]
            refine ⟨_, rfl, _, _, rfl, rfl, _, rfl, _, rfl, _, _, rfl, rfl, F, _, rfl, DPut.k (k := Sum.inl (kv.1 + 1)) eF9 ?_, ?_⟩
            · unfold kvI
              rw [List.length_map]
              exact small1000 (by omega)
            · rw [kvI_put]
              have kF : ∀ b o, b ≠ F → H8 b = some o → upd (upd H8 T (.tup [kV (Sum.inl kv.1), V.int kv.2])) F (.dK (kvI (putI D2 (kv.1 + 1) (getI D2 (kv.1 + 1) + kv.2)))) b = some o := fun b o hb e => by
                rw [upd_ne hb]
                exact sT _ _ e
              refine ⟨_, _, rfl, fun y o hy e => ?_, ?_, ?_, ?_, upd_same⟩
              · exact kF _ _ (ne_of_none e nFH) (k8 _ _ hy e)
              · exact kF _ _ (ne_of e8 eF8 (fun q => nomatch q)) e8
              · exact M8.fz stabD (fun y u x e => kF _ _ (ne_of e eF8 (fun q => nomatch q)) e) (fun o e => kF _ _ (Ne.symm hFd) e)
              · exact kF _ _ (ne_of er8 eF8 (fun q => nomatch q)) er8
          · obtain ⟨y4, y5, rfl, k8, e8, M8, er8, eF8⟩ := Pv
            rw [ek, List.take_length] at eF8
            refine ⟨_, y4, y5, rfl, k8, e8, M8, eF8, ?_⟩
            have := addI_len (cf (call l z)) D0
            omega
        · obtain ⟨y3, y4, y5, rfl, k5, e5, M5, eF, lF⟩ := Pv
          rw [em, List.take_length] at eF
          rw [← lines_cf l hm hne] at eF
          refine ⟨_, rfl, F, _, rfl, .inr ⟨eF, fun od => ?_⟩⟩
          have kF : ∀ b o, b ≠ F → H5 b = some o → upd H5 F (.frz od (.dK (kvI (cf l)))) b = some o := fun b o hb e => by
            rw [upd_ne hb]
            exact e
          have kH : Keep d H (upd H5 F (.frz od (.dK (kvI (cf l))))) := fun y o hy e => kF _ _ (ne_of_none e nFH) (k5 _ _ hy e)
          have M6 := M5.fz stabD (H' := upd H5 F (.frz od (.dK (kvI (cf l))))) (fun y u x e => kF _ _ (ne_of e eF (fun q => nomatch q)) e) (fun o e => kF _ _ (Ne.symm hFd) e)
          obtain ⟨es6, ed6, h6, nd6⟩ := M6
          refine ⟨_, rfl, _, rfl, d, a, es6, l, rfl, rfl, ed6, Mem.keys h6, (Keep.tu hG kH hl).sq, small1000 (by have := Mem.len h6 nd6; omega), ?_⟩
          obtain ⟨z1, z2, z3⟩ := Mem.put stabD ed6 h6 nd6 (Keep.tu hG kH hl) hm (⟨F, od, rfl, upd_same⟩ : valD _ l (V.ref F))
          exact fin _ _ _ _ _ _ (kH.trans keep_upd) z1 z2 z3 (putX_key _ _ _ _) _ rfl
end
end Ot
set_option Elab.async false
set_option linter.all false
set_option maxRecDepth 100000
set_option maxHeartbeats 4000000
namespace Ot
open PySem PySem.Spec PyProof.Rows L2 OtR
open C8 (Cal pe_c)
theorem keep_same {d : Addr} {H H' : Hp} {o : HO} (nd : H d = none) (k : Keep d (upd H d o) H') : Same H H' := fun b x e => by
  have hb := ne_of_none e nd
  exact k b x hb (by rw [upd_ne hb]; exact e)
theorem mem_new {P : Program} {w : World} {Val : Hp → List Int → V → Prop} {d : Addr} {H : Hp} : Mem P w Val d (upd H d (KD P w d [])) := ⟨[], upd_same, (fun _ h => absurd h List.not_mem_nil), List.nodup_nil⟩
def rowTab (l : List Int) : List Int := (List.range ((most (cf l)).toNat + 1)).map fun (k : Nat) => getI (cf l) (k : Int)
theorem kvI_keys (d : List (Int × Int)) : (kvI d).map (fun kv => kV kv.1) = (d.map (·.1)).map V.int := by
  unfold kvI
  rw [List.map_map, List.map_map]
  rfl
theorem kvI_vals (d : List (Int × Int)) : (kvI d).map (·.2) = (d.map (·.2)).map V.int := by
  unfold kvI
  rw [List.map_map, List.map_map]
  rfl
section
variable {P : Program} {w : World} {K : PySem.W.Frag} {mg : Str → Option Value} {base : Heap}
/-! ### count_longest -/
abbrev sCl : Stmt := stm 22
theorem scCl : FnScope ["line"] ["line"] (defScope sCl) := ⟨rfl, rfl, rfl, by decide +kernel, rfl, by decide +kernel, by decide +kernel⟩
def spCl : Sp := fun vs H Q _ => ∃ (a : Addr) (l : List Int), vs = [.ref a] ∧ Tu H a l ∧ l ∈ lines ∧ ∀ H', Same H H' → Q (.int (cnt l)) H'
theorem cal_cl {f : Addr} {fd : FuncData} (D : Df K mg "count_longest" sCl f fd) (C0 : Cal P w K mg base 3 "need_line" spNeed []) (C1 : Cal P w K mg base 11 "longest_from" (spLf P w 7) []) : Cal P w K mg base 12 "count_longest" spCl [] := by
  refine cal_of (ps := ["line"]) D (D.fn.ok scCl (fun vs H Q E h => ?_) (fun cdv A outer s H vs Q E hr h => ?_)) (D.fn.binds fun _ _ _ _ _ _ us hl => match us, hl with | [_], _ => rfl)
  · obtain ⟨a, l, rfl, _⟩ := h
    rfl
  obtain ⟨a, l, rfl, hl, hm, q⟩ := h
  refine ⟨_, pss_cons (ps_expr (pe_c C0 hr (by decide) (by rfl) (pa_cons (pv 0) pa_nil))) (pss_one (ps_ret (pe_c C1 hr (by decide) (by rfl) (pa_cons (pv 0) (pa_cons pe_xnew pa_nil))))), ?_⟩
  obtain ⟨_, _, r0, r6⟩ := lines_move l hm
  refine ⟨_, rfl, a, l, rfl, hl, hm, fun H1 s1 => ⟨_, rfl, fun d nd => ⟨a, d, l, rfl, hl.same (s1.trans (same_new nd)), hm, by omega, mem_new, fun H2 k2 _ => q H2 (s1.trans (keep_same nd k2))⟩⟩⟩
/-! ### row_counts -/
abbrev sRc : Stmt := stm 24
theorem scRc : FnScope ["line", "found", "many"] ["line"] (defScope sRc) := ⟨rfl, rfl, rfl, by decide +kernel, rfl, by decide +kernel, by decide +kernel⟩
def spRc : Sp := fun vs H Q _ => ∃ (a : Addr) (l : List Int), vs = [.ref a] ∧ Tu H a l ∧ l ∈ lines ∧ ∀ H' r, Same H H' → H' r = some (.tup ((rowTab l).map V.int)) → Q (.ref r) H'
theorem cal_rc {f : Addr} {fd : FuncData} (D : Df K mg "row_counts" sRc f fd) (B : Bt mg) (C0 : Cal P w K mg base 3 "need_line" spNeed []) (C1 : Cal P w K mg base 10 "counts_from" (spCf P w 7) []) : Cal P w K mg base 11 "row_counts" spRc [] := by
  refine cal_of (ps := ["line"]) D (D.fn.ok scRc (fun vs H Q E h => ?_) (fun cdv A outer s H vs Q E hr h => ?_)) (D.fn.binds fun _ _ _ _ _ _ us hl => match us, hl with | [_], _ => rfl)
  · obtain ⟨a, l, rfl, _⟩ := h
    rfl
  obtain ⟨a, l, rfl, hl, hm, q⟩ := h
  refine ⟨_, pss_cons (ps_expr (pe_c C0 hr (by decide) (by rfl) (pa_cons (pv 0) pa_nil))) (pss_cons (ps_set (i := 1) scRc.nd rfl (.inr rfl) (pe_c C1 hr (by decide) (by rfl) (pa_cons (pv 0) (pa_cons pe_xnew pa_nil))))
    (pss_one (ps_ret (pe_callTy call_tuple_of (by rfl) B.tuple (by decide +kernel) (pa_cons
      (pe_lc (own := [("many", 2)]) (g := gName 2) rfl scRc.nd (pi_range1 (by rfl) B.range (pa_cons (pe_op op_add (pe_callB (r := rMax K) (cr_max (by rfl)) (by rfl) B.max (by decide +kernel) (pa_cons (pe_callTy (call_listD (by rfl)) (by rfl) B.list (by decide +kernel) (pa_cons (pv 1) pa_nil)) pa_nil)) pe_int) pa_nil))
        (blkOk_by (N := ["line", "found", "many"]) (sc := defScope sRc) (by decide +kernel)) (fun _ _ _ _ _ => pg_name (i := 2) scRc.nd rfl (Or.inl rfl)) (fun _ _ _ _ _ => pts_nil)
        (fun _ _ _ _ _ => pe_dget2 (hu_of hr) (pv 1) (pv 2) pe_int ⟨rfl, rfl, rfl, rfl⟩)) pa_nil))))), ?_⟩
  obtain ⟨_, _, r0, r6⟩ := lines_move l hm
  obtain ⟨c12, cne, ck⟩ := lines_cfk l hm
  obtain ⟨mo1, mo2, mo3, mo4⟩ := lines_most l hm
  refine ⟨_, rfl, a, l, rfl, hl, hm, fun H1 s1 => ⟨_, rfl, fun d nd => ⟨a, d, l, rfl, hl.same (s1.trans (same_new nd)), hm, by omega, mem_new, fun H2 v k2 _ hv => ?_⟩⟩⟩
  obtain ⟨r, o, rfl, er⟩ := hv
  have s2 := s1.trans (keep_same nd k2)
  refine ⟨_, rfl, r, _, rfl, .inr ⟨o, er⟩, fun p np => ?_⟩
  refine ⟨p, (cf l).map (·.1), rfl, SqL.of (by rw [upd_same, kvI_keys]), ?_, fun m hmm hmx => ?_⟩
  · rw [List.length_map]
    exact List.length_pos_iff.mpr cne
  have em : m = most (cf l) := Int.le_antisymm (mo2 m hmm) (hmx _ mo1)
  subst em
  refine ⟨_, _, rfl, rfl, _, rfl, by omega, by omega, fun L nL => ?_⟩
  have en : (most (cf l) + 1).toNat = (most (cf l)).toNat + 1 := by omega
  rw [en]
  have s3 := same_keep (o := .lst []) (same_keep (o := .lst ((kvI (cf l)).map fun kv => kV kv.1)) s2 (s2.free np)) ((same_keep (o := .lst ((kvI (cf l)).map fun kv => kV kv.1)) s2 (s2.free np)).free nL)
  have kL : Same H2 (upd (upd H2 p (.lst ((kvI (cf l)).map fun kv => kV kv.1))) L (.lst [])) := (same_new np).trans (same_new nL)
  have nLH : H L = none := s2.free ((same_new np).free nL)
  refine lc_range (lo := 0) (n := (most (cf l)).toNat + 1) (fun i H3 => Same H H3 ∧ H3 r = some (.frz o (.dK (kvI (cf l)))) ∧ H3 L = some (.lst (((List.range i).map fun (k : Nat) => getI (cf l) (k : Int)).map V.int)))
    ⟨s3, kL _ _ er, upd_same⟩ (fun i H3 hi ⟨sm, e3, eL⟩ => ?_) (fun H3 ⟨sm, e3, eL⟩ => ?_)
  · refine ⟨rfl, ?_⟩
    refine tyes ?_
    refine ⟨_, rfl, r, rfl, .inl ⟨_, .inr ⟨o, e3⟩⟩, _, rfl, _, .inl ⟨kvI (cf l), Sum.inl (0 + (i : Int)), .inr ⟨o, e3⟩, rfl, rfl⟩, _, eL, ?_, ?_, ?_, ?_⟩
    · rw [List.length_map, List.length_map, List.length_range]
      exact small1000 (by omega)
    · exact same_keep sm nLH
    · rw [upd_ne (ne_of e3 eL (fun q => nomatch q))]
      exact e3
    · rw [upd_same, kvI_get, List.range_succ, List.map_append, List.map_append, Int.zero_add]
      rfl
  · refine ⟨L, _, rfl, .inl ⟨SqL.of eL, fun T nT => q _ T (same_keep sm (sm.free nT)) upd_same⟩⟩
/-! ### count_rows -/
abbrev sCr : Stmt := stm 25
theorem scCr : FnScope ["line"] ["line"] (defScope sCr) := ⟨rfl, rfl, rfl, by decide +kernel, rfl, by decide +kernel, by decide +kernel⟩
def spCr : Sp := fun vs H Q _ => ∃ (a : Addr) (l : List Int), vs = [.ref a] ∧ Tu H a l ∧ l ∈ lines ∧ ∀ H', Same H H' → Q (.int ((cf l).map (·.2)).sum) H'
theorem cal_cr {f : Addr} {fd : FuncData} (D : Df K mg "count_rows" sCr f fd) (B : Bt mg) (C0 : Cal P w K mg base 3 "need_line" spNeed []) (C1 : Cal P w K mg base 10 "counts_from" (spCf P w 7) []) : Cal P w K mg base 11 "count_rows" spCr [] := by
  refine cal_of (ps := ["line"]) D (D.fn.ok scCr (fun vs H Q E h => ?_) (fun cdv A outer s H vs Q E hr h => ?_)) (D.fn.binds fun _ _ _ _ _ _ us hl => match us, hl with | [_], _ => rfl)
  · obtain ⟨a, l, rfl, _⟩ := h
    rfl
  obtain ⟨a, l, rfl, hl, hm, q⟩ := h
  refine ⟨_, pss_cons (ps_expr (pe_c C0 hr (by decide) (by rfl) (pa_cons (pv 0) pa_nil))) (pss_one (ps_ret (pe_callB (r := rSum K) (cr_sum (by rfl)) (by rfl) B.sum (by decide +kernel) (pa_cons (pe_listVals (by rfl) (pe_c C1 hr (by decide) (by rfl) (pa_cons (pv 0) (pa_cons pe_xnew pa_nil))) (by rfl) B.list (by decide +kernel)) pa_nil)))), ?_⟩
  obtain ⟨_, _, r0, r6⟩ := lines_move l hm
  refine ⟨_, rfl, a, l, rfl, hl, hm, fun H1 s1 => ⟨_, rfl, fun d nd => ⟨a, d, l, rfl, hl.same (s1.trans (same_new nd)), hm, by omega, mem_new, fun H2 v k2 _ hv => ?_⟩⟩⟩
  obtain ⟨r, o, rfl, er⟩ := hv
  have s2 := s1.trans (keep_same nd k2)
  refine ⟨r, o, _, rfl, er, fun p np => ⟨p, (cf l).map (·.2), rfl, SqL.of ?_, q _ (same_keep s2 (s2.free np))⟩⟩
  rw [upd_same, kvI_vals]
end
end Ot
set_option Elab.async false
set_option linter.all false
set_option maxRecDepth 100000
set_option maxHeartbeats 4000000
namespace Ot
open PySem PySem.Spec PyProof.Rows L2 OtR
open C8 (Cal pe_c)
theorem seq_keep {K : PySem.W.Frag} {H H' : Hp} {R sc : Addr} {rs ns : List V} (k : Keep R H H') (hR : H R = some (.lst rs)) (hne : rs ≠ ns) (h : SqL K H sc ns) : SqL K H' sc ns := by
  rcases h with (h | ⟨o, h⟩) | h
  · exact .inl (.inl (k _ _ (ne_of h hR (fun q => hne (by cases q; rfl))) h))
  · exact .inl (.inr ⟨o, k _ _ (ne_of h hR (fun q => nomatch q)) h⟩)
  · exact .inr h
theorem row_ne {sc : Addr} {a b c : V} {ns : List Int} : [V.ref sc, a, b, c] ≠ ns.map V.int := by
  intro h
  cases ns with
  | nil => cases h
  | cons x r => injection h with h1 _; cases h1
/-- the law's row: the script, where it stands, a seed, what is left of a great number -/
def LRow (K : PySem.W.Frag) (H : Hp) (R sc : Addr) (ns : List Int) : Prop := ∃ (i s d : Int), H R = some (.lst [.ref sc, .int i, .int s, .int d]) ∧ SqL K H sc (ns.map V.int) ∧ 0 ≤ i
theorem LRow.same {K : PySem.W.Frag} {H H' : Hp} {R sc : Addr} {ns : List Int} (h : LRow K H R sc ns) (s : Same H H') : LRow K H' R sc ns := by
  obtain ⟨i, z, d, e, hs, h0⟩ := h
  exact ⟨i, z, d, s _ _ e, s.seq hs, h0⟩
section
variable {P : Program} {w : World} {K : PySem.W.Frag} {mg : Str → Option Value} {base : Heap}
/-! ### _law_taken -/
abbrev sTak : Stmt := stm 27
theorem scTak : FnScope ["_law_row", "_law_many", "_law_found", "_law_cell"] ["_law_row", "_law_many"] (defScope sTak) := ⟨rfl, rfl, rfl, by decide +kernel, rfl, by decide +kernel, by decide +kernel⟩
def spTak (K : PySem.W.Frag) : Sp := fun vs H Q _ => ∃ (R sc : Addr) (ns : List Int) (m : Int), vs = [.ref R, .int m] ∧ LRow K H R sc ns ∧ ns.length ≤ 63 ∧ 1 ≤ m ∧ m ≤ 5 ∧
  ∀ H' v, Keep R H H' → LRow K H' R sc ns → 0 ≤ v → v < m → Q (.int v) H'
theorem cal_tak {f : Addr} {fd : FuncData} (D : Df K mg "_law_taken" sTak f fd) (B : Bt mg) : Cal P w K mg base 1 "_law_taken" (spTak K) [] := by
  refine cal_of (ps := ["_law_row", "_law_many"]) D (D.fn.ok scTak (fun vs H Q E h => ?_) (fun cdv A outer s H vs Q E hr h => ?_)) (D.fn.binds fun _ _ _ _ _ _ us hl => match us, hl with | [_, _], _ => rfl)
  · obtain ⟨R, sc, ns, m, rfl, _⟩ := h
    rfl
  obtain ⟨R, sc, ns, m, rfl, ⟨i, z, d, eR, hS, h0⟩, h63, m1, m5, q⟩ := h
  have qq : ∀ H' (i' z' d' v : Int), Keep R H H' → H' R = some (.lst [.ref sc, .int i', .int z', .int d']) → 0 ≤ i' → Q (.int (v % m)) H' := fun H' i' z' d' v k e h0' =>
    q H' (v % m) k ⟨i', z', d', e, seq_keep k eR row_ne hS, h0'⟩ (Int.emod_nonneg _ (by omega)) (Int.emod_lt_of_pos _ (by omega))
  refine ⟨_, pss_cons (ps_if (pt_cmpR op_gt (pe_ix (r := rIxL K) ix_list (pv 0) pe_int (fun _ _ => rfl)) pe_int (nomark _))
      (pss_cons (ps_set (i := 2) scTak.nd rfl (.inl rfl) (pe_op op_mod (pe_callTy call_int1 (by rfl) B.int (by decide +kernel) (pa_cons (pe_ix (r := rIxL K) ix_list (pv 0) pe_int (fun _ _ => rfl)) pa_nil)) (pv 1)))
      (pss_cons (ps_asg (pe_op op_fdiv (pe_ix (r := rIxL K) ix_list (pv 0) pe_int (fun _ _ => rfl)) (pv 1)) (pg_sub (pv 0) pe_int set_list))
      (pss_one (ps_ret (pv 2))))) pss_nil)
    (pss_cons (ps_asg (pe_op op_add (pe_ix (r := rIxL K) ix_list (pv 0) pe_int (fun _ _ => rfl)) pe_int) (pg_sub (pv 0) pe_int set_list))
    (pss_cons (ps_if (pt_cmpR op_gt (pe_ix (r := rIxL K) ix_list (pv 0) pe_int (fun _ _ => rfl)) (pe_callB (r := rLenK K) call_len_seq (by rfl) B.len PySem.boot_len (pa_cons (pe_ix (r := rIxL K) ix_list (pv 0) pe_int (fun _ _ => rfl)) pa_nil)) (nomark _))
      (pss_cons (ps_asg (pe_op op_mod (pe_callTy call_int1 (by rfl) B.int (by decide +kernel) (pa_cons (pe_op op_add (pe_op op_mul (pe_ix (r := rIxL K) ix_list (pv 0) pe_int (fun _ _ => rfl)) pe_int) pe_int) pa_nil)) pe_int) (pg_sub (pv 0) pe_int set_list))
      (pss_one (ps_ret (pe_op op_mod (pe_callTy call_int1 (by rfl) B.int (by decide +kernel) (pa_cons (pe_op op_fdiv (pe_ix (r := rIxL K) ix_list (pv 0) pe_int (fun _ _ => rfl)) pe_int) pa_nil)) (pv 1))))) pss_nil)
    (pss_cons (ps_set (i := 3) scTak.nd rfl (.inl rfl) (pe_ix (r := rIxL K) ix_list (pe_ix (r := rIxL K) ix_list (pv 0) pe_int (fun _ _ => rfl)) (pe_op op_sub (pe_ix (r := rIxL K) ix_list (pv 0) pe_int (fun _ _ => rfl)) pe_int) (fun _ _ => rfl)))
    (pss_cons (ps_asg (pe_op op_mod (pe_callTy call_int1 (by rfl) B.int (by decide +kernel) (pa_cons (pe_op op_add (pe_op op_add (pe_op op_mul (pe_ix (r := rIxL K) ix_list (pv 0) pe_int (fun _ _ => rfl)) pe_int) (pv 3)) pe_int) pa_nil)) pe_int) (pg_sub (pv 0) pe_int set_list))
    (pss_cons (ps_if (pt_cmpR op_ge (pv 3) (pe_op op_pow pe_int pe_int) (nomark _)) (pss_one (ps_asg (pe_op op_fdiv (pv 3) (pv 1)) (pg_sub (pv 0) pe_int set_list))) pss_nil)
    (pss_one (ps_ret (pe_op op_mod (pe_callTy call_int1 (by rfl) B.int (by decide +kernel) (pa_cons (pv 3) pa_nil)) (pv 1))))))))), ?_⟩
  have es : (ns.map V.int).length = ns.length := List.length_map _
  refine ⟨_, rfl, R, _, 3, _, rfl, rfl, SqL.of eR, rfl, _, _, rfl, rfl, _, rfl, ite2 (fun c => ?_) (fun c => ?_)⟩
  · refine ⟨_, rfl, R, _, 3, _, rfl, rfl, SqL.of eR, rfl, .inl ⟨_, rfl, _, rfl, _, _, rfl, rfl, by omega, ?_⟩⟩
    refine ⟨_, rfl, R, _, 3, _, rfl, rfl, SqL.of eR, rfl, _, rfl, _, _, rfl, rfl, ⟨by omega, by omega⟩, _, rfl, R, _, 3, 3, rfl, rfl, eR, rfl, ?_⟩
    refine ⟨_, rfl, ?_⟩
    exact qq _ _ _ _ _ keep_upd upd_same h0
  · refine ⟨_, rfl, R, _, 1, _, rfl, rfl, SqL.of eR, rfl, _, _, rfl, rfl, _, rfl, R, _, 1, 1, rfl, rfl, eR, rfl, ?_⟩
    have e1 : (upd H R (.lst [.ref sc, .int (i + 1), .int z, .int d])) R = some (.lst [.ref sc, .int (i + 1), .int z, .int d]) := upd_same
    have k1 : Keep R H (upd H R (.lst [.ref sc, .int (i + 1), .int z, .int d])) := keep_upd
    show tSeq _ _ _ _ (upd H R (.lst [.ref sc, .int (i + 1), .int z, .int d]))
    generalize (upd H R (.lst [.ref sc, .int (i + 1), .int z, .int d])) = H1 at e1 k1 ⊢
    have hS1 := seq_keep k1 eR row_ne hS
    refine ⟨_, rfl, R, _, 1, _, rfl, rfl, SqL.of e1, rfl, _, rfl, R, _, 0, _, rfl, rfl, SqL.of e1, rfl, sc, _, rfl, .inl hS1, _, _, rfl, rfl, _, rfl, ite2 (fun c2 => ?_) (fun c2 => ?_)⟩
    · refine ⟨_, rfl, R, _, 2, _, rfl, rfl, SqL.of e1, rfl, _, _, rfl, rfl, .inr (by decide), _, _, rfl, rfl, .inl ⟨_, rfl, _, _, rfl, rfl, (show (0 : Int) < 2147483647 by decide), _, rfl, R, _, 2, 2, rfl, rfl, e1, rfl, ?_⟩⟩
      refine ⟨_, rfl, R, _, 2, _, rfl, rfl, SqL.of upd_same, rfl, _, _, rfl, rfl, ⟨by decide, by decide⟩, .inl ⟨_, rfl, _, rfl, _, _, rfl, rfl, by omega, ?_⟩⟩
      exact qq _ _ _ _ _ (k1.trans keep_upd) upd_same (by omega)
    · have c3 : ¬ (((ns.map V.int).length : Nat) : Int) < i + 1 := fun q => c2 (decide_eq_true q)
      rw [es] at c3
      obtain ⟨j, rfl⟩ : ∃ j : Nat, i = (j : Int) := ⟨i.toNat, by omega⟩
      have hj : j < ns.length := by omega
      refine ⟨_, rfl, R, _, 0, _, rfl, rfl, SqL.of e1, rfl, _, rfl, R, _, 1, _, rfl, rfl, SqL.of e1, rfl, _, _, rfl, rfl, sc, _, _, _, rfl, rfl, hS1, at_of (j := j) (by omega) (gi hj), ?_⟩
      generalize ns.getD j 0 = cl
      refine ⟨_, rfl, R, _, 2, _, rfl, rfl, SqL.of e1, rfl, _, _, rfl, rfl, .inr (by decide), _, rfl, _, _, rfl, rfl, _, _, rfl, rfl, .inl ⟨_, rfl, _, _, rfl, rfl, (show (0 : Int) < 2147483647 by decide), _, rfl, R, _, 2, 2, rfl, rfl, e1, rfl, ?_⟩⟩
      have k2 : Keep R H (upd H1 R (.lst [.ref sc, .int ((j : Int) + 1), .int ((z * 48271 + cl + 11) % 2147483647), .int d])) := k1.trans keep_upd
      refine ⟨_, rfl, _, _, rfl, rfl, ⟨by decide, by decide, by decide⟩, _, _, rfl, rfl, _, rfl, ite2 (fun c4 => ?_) (fun c4 => ?_)⟩
      · refine ⟨_, rfl, _, rfl, _, _, rfl, rfl, ⟨by omega, by omega⟩, _, rfl, R, _, 3, 3, rfl, rfl, upd_same, rfl, ?_⟩
        refine ⟨_, rfl, .inl ⟨_, rfl, _, rfl, _, _, rfl, rfl, by omega, ?_⟩⟩
        exact qq _ _ _ _ _ (k2.trans keep_upd) upd_same (by omega)
      · refine ⟨_, rfl, .inl ⟨_, rfl, _, rfl, _, _, rfl, rfl, by omega, ?_⟩⟩
        exact qq _ _ _ _ _ k2 upd_same (by omega)
end
end Ot
set_option Elab.async false
set_option linter.all false
set_option maxRecDepth 100000
set_option maxHeartbeats 4000000
namespace Ot
open PySem PySem.Spec PyProof.Rows L2 OtR
open C8 (Cal pe_c)
theorem rgV_upto (n : Nat) : rgV 0 ((n : Nat) : Int) = (upto n).map V.int := by
  unfold rgV upto
  rw [List.map_map, show ((n : Int) - 0).toNat = n by omega]
  refine List.map_congr_left fun i _ => ?_
  show V.int (0 + (i : Int)) = V.int (i : Int)
  rw [Int.zero_add]
theorem map_erase : ∀ (xs : List Int) (k : Nat), (xs.map V.int).eraseIdx k = (xs.eraseIdx k).map V.int
  | [], _ => rfl
  | _ :: _, 0 => rfl
  | x :: r, k + 1 => by
    show V.int x :: (r.map V.int).eraseIdx k = V.int x :: (r.eraseIdx k).map V.int
    rw [map_erase r k]
theorem taken_in {n : Nat} {f : List Int} (h1 : 1 ≤ n) (h5 : n ≤ 5) (h : f ∈ taken n (upto n) []) : f ∈ lines := by
  unfold lines
  refine List.mem_flatMap.mpr ⟨n, ?_, h⟩
  have : n = 1 ∨ n = 2 ∨ n = 3 ∨ n = 4 ∨ n = 5 := by omega
  rcases this with rfl | rfl | rfl | rfl | rfl <;> decide
theorem taken_step {m k : Nat} {xs f : List Int} (hk : k < xs.length) : ∀ r, r ∈ taken m (xs.eraseIdx k) (f ++ [xs.getD k 0]) → r ∈ taken (m + 1) xs f := fun r h =>
  List.mem_flatMap.mpr ⟨k, List.mem_range.mpr hk, h⟩
section
variable {P : Program} {w : World} {K : PySem.W.Frag} {mg : Str → Option Value} {base : Heap}
/-! ### _law_line -/
abbrev sLine : Stmt := stm 29
theorem scLine : FnScope ["_law_row", "_law_most", "_law_size", "_law_left", "_law_found", "_law_turn"] ["_law_row", "_law_most"] (defScope sLine) := ⟨rfl, rfl, rfl, by decide +kernel, rfl, by decide +kernel, by decide +kernel⟩
def spLine (K : PySem.W.Frag) : Sp := fun vs H Q _ => ∃ (R sc : Addr) (ns : List Int), vs = [.ref R, .int 5] ∧ LRow K H R sc ns ∧ ns.length ≤ 63 ∧
  ∀ H' a l, Keep R H H' → Tu H' a l → l ∈ lines → Q (.ref a) H'
theorem cal_line {f : Addr} {fd : FuncData} (D : Df K mg "_law_line" sLine f fd) (B : Bt mg) (C : Cal P w K mg base 1 "_law_taken" (spTak K) []) : Cal P w K mg base 2 "_law_line" (spLine K) [] := by
  refine cal_of (ps := ["_law_row", "_law_most"]) D (D.fn.ok scLine (fun vs H Q E h => ?_) (fun cdv A outer s H vs Q E hr h => ?_)) (D.fn.binds fun _ _ _ _ _ _ us hl => match us, hl with | [_, _], _ => rfl)
  · obtain ⟨R, sc, ns, rfl, _⟩ := h
    rfl
  obtain ⟨R, sc, ns, rfl, hR, h63, q⟩ := h
  refine ⟨_, pss_cons (ps_set (i := 2) scLine.nd rfl (.inl rfl) (pe_op op_add pe_int (pe_c C hr (by decide) (by rfl) (pa_cons (pv 0) (pa_cons (pv 1) pa_nil)))))
    (pss_cons (ps_par (i := 3) (j := 4) rfl scLine.nd rfl rfl (by decide) rfl rfl (pa_cons (pe_listRg (by rfl) (by rfl) B.list (prg_1 (by rfl) B.range (pv 2))) (pa_cons (pe_lst pa_nil) pa_nil)) (by rfl))
    (pss_cons (ps_for PassesOwn.never rfl (pi_range1 (by rfl) B.range (pa_cons (pv 2) pa_nil)) (pg_name (i := 5) scLine.nd rfl (.inl rfl))
      (pss_one (ps_expr (pe_bm PySem.F.plainAttrs_list PySem.F.slot_list_append PySem.F.type_list_append mt_append (pv 4) (pa_cons
        (pe_bm PySem.F.plainAttrs_list PySem.F.slot_list_pop PySem.F.type_list_pop mt_popAt (pv 3) (pa_cons (pe_c C hr (by decide) (by rfl) (pa_cons (pv 0) (pa_cons (pe_callB (r := rLenK K) call_len_seq (by rfl) B.len PySem.boot_len (pa_cons (pv 3) pa_nil)) pa_nil))) pa_nil)) pa_nil)))))
    (pss_one (ps_ret (pe_callTy call_tupF (by rfl) B.tuple (by decide +kernel) (pa_cons (pv 4) pa_nil)))))), ?_⟩
  refine ⟨_, rfl, _, rfl, R, sc, ns, 5, rfl, hR, h63, by decide, by decide, fun H1 v k1 hR1 v0 v5 => ⟨_, _, rfl, rfl, ?_⟩⟩
  obtain ⟨n, hn⟩ : ∃ n : Nat, 1 + v = (n : Int) := ⟨(1 + v).toNat, by omega⟩
  have hn1 : 1 ≤ n := by omega
  have hn5 : n ≤ 5 := by omega
  refine ⟨_, rfl, _, rfl, RgOk.of_le (by decide) (by omega) (by decide) (by omega), fun L nL => ⟨Nat.zero_le _, fun F nF => ⟨_, _, rfl, ?_⟩⟩⟩
  refine ⟨_, rfl, _, rfl, by omega, by omega, ?_⟩
  have en : (1 + v).toNat = n := by omega
  rw [hn, rgV_upto] at nF ⊢
  rw [show ((n : Nat) : Int).toNat = n by omega]
  have hRr := hR
  obtain ⟨i0, z0, d0, eR, hS0, _⟩ := hRr
  obtain ⟨i1, z1, d1, eR1, hS1, h01⟩ := hR1
  have nLR : L ≠ R := fun z => by rw [z, eR1] at nL; cases nL
  have kL : Same H1 (upd H1 L (.lst ((upto n).map V.int))) := same_new nL
  have kF : Same (upd H1 L (.lst ((upto n).map V.int))) (upd (upd H1 L (.lst ((upto n).map V.int))) F (.lst [])) := same_new nF
  have nFR : F ≠ R := fun z => by rw [z, kL _ _ eR1] at nF; cases nF
  have nLF : L ≠ F := fun z => by rw [← z, upd_same] at nF; cases nF
  have free : ∀ {b : Addr}, b ≠ R → H1 b = none → H b = none := fun {b} hb e => by
    cases c : H b with
    | none => rfl
    | some o => rw [k1 b o hb c] at e; cases e
  have nLH : H L = none := free nLR nL
  have nFH : H F = none := free nFR (kL.free nF)
  have up : (upto n).length = n := by unfold upto; rw [List.length_map, List.length_range]
  refine for_range (lo := 0) (n := n) (fun i σ H2 => ∃ (xs fs : List Int) (y : Option V), σ = [some (V.ref R), some (.int 5), some (.int (n : Int)), some (.ref L), some (.ref F), y] ∧ Keep R H H2 ∧ LRow K H2 R sc ns ∧
      H2 L = some (.lst (xs.map V.int)) ∧ H2 F = some (.lst (fs.map V.int)) ∧ xs.length = n - i ∧ fs.length = i ∧ ∀ r, r ∈ taken (n - i) xs fs → r ∈ taken n (upto n) [])
    ⟨upto n, [], none, by show [_, _, some (V.int (1 + v)), _, _, _] = _; rw [hn], k1.trans (Keep.of (kL.trans kF)), LRow.same ⟨i1, z1, d1, eR1, hS1, h01⟩ (kL.trans kF), kF _ _ upd_same, upd_same, up, rfl, fun r h => h⟩ (fun i σ H2 hi Pv => ?_) (fun σ H2 Pv => ?_)
  · obtain ⟨xs, fs, y, rfl, k2, hR2, eL, eF, lx, lf, sub⟩ := Pv
    have lV : (xs.map V.int).length = xs.length := List.length_map _
    refine ⟨_, rfl, .inl ⟨rfl, _, SqL.of eF⟩, _, rfl, .inl ⟨rfl, _, SqL.of eL⟩, _, rfl, _, rfl, L, _, rfl, .inl (SqL.of eL), R, sc, ns, ((xs.map V.int).length : Nat), rfl, hR2, h63, by omega, by omega, fun H3 v3 k3 hR3 v30 v3m => ?_⟩
    have hR3' := hR3
    obtain ⟨i3, z3, d3, eR3, _⟩ := hR3'
    obtain ⟨k, rfl⟩ : ∃ k : Nat, v3 = (k : Int) := ⟨v3.toNat, by omega⟩
    have hk : k < xs.length := by omega
    have eL3 := k3 _ _ nLR eL
    have eF3 := k3 _ _ nFR eF
    refine ⟨L, _, _, k, _, rfl, rfl, eL3, by omega, by omega, ?_, gi hk, ?_⟩
    · rw [seqIndex_of (by omega) (by omega)]
      rfl
    have eF4 : upd H3 L (.lst ((xs.map V.int).eraseIdx k)) F = some (.lst (fs.map V.int)) := by
      rw [upd_ne (Ne.symm nLF)]
      exact eF3
    refine ⟨F, _, _, rfl, rfl, eF4, ?_, ?_⟩
    · rw [List.length_map]
      exact small1000 (by omega)
    · have ekeep : ∀ b o, b ≠ L → b ≠ F → H3 b = some o → upd (upd H3 L (.lst ((xs.map V.int).eraseIdx k))) F (.lst (fs.map V.int ++ [V.int (xs.getD k 0)])) b = some o := fun b o h1 h2 e => by
        rw [upd_ne h2, upd_ne h1]
        exact e
      have kk : Keep R H (upd (upd H3 L (.lst ((xs.map V.int).eraseIdx k))) F (.lst (fs.map V.int ++ [V.int (xs.getD k 0)]))) := fun b o hb e =>
        ekeep _ _ (ne_of_none e nLH) (ne_of_none e nFH) (k3 _ _ hb (k2 _ _ hb e))
      refine ⟨xs.eraseIdx k, fs ++ [xs.getD k 0], _, rfl, kk, ?_, ?_, ?_, ?_, ?_, fun r hr => ?_⟩
      · obtain ⟨i4, z4, d4, eR4, hS4, h04⟩ := hR3
        exact ⟨i4, z4, d4, ekeep _ _ (Ne.symm nLR) (Ne.symm nFR) eR4, seq_keep kk eR row_ne hS0, h04⟩
      · rw [upd_ne nLF, upd_same, map_erase]
      · rw [upd_same, List.map_append]
        rfl
      · rw [List.length_eraseIdx, if_pos hk]
        omega
      · rw [List.length_append, lf]
        rfl
      · refine sub r ?_
        have e : n - i = (n - (i + 1)) + 1 := by omega
        rw [e]
        exact taken_step hk r hr
  · obtain ⟨xs, fs, y, rfl, k2, hR2, eL, eF, lx, lf, sub⟩ := Pv
    refine ⟨_, rfl, F, _, rfl, SqL.of eF, fun T o dn nT => ?_⟩
    refine q _ T fs (k2.trans (Keep.of (same_new nT))) (Kn.new dn) (taken_in hn1 hn5 (sub fs ?_))
    rw [Nat.sub_self]
    exact List.mem_singleton.mpr rfl
end
end Ot
set_option Elab.async false
set_option linter.all false
set_option maxRecDepth 100000
set_option maxHeartbeats 4000000
namespace Ot
open PySem PySem.Spec PyProof.Rows L2 OtR
open C8 (Cal pe_c)
theorem cat1 {K : PySem.W.Frag} {H : Hp} {a b : Addr} {xs ys : List V} {Q : VK} (ha : SqT K H a xs) (hb : Kn H b ys) (hy : ys ≠ []) (hz : xs.length + ys.length ≤ sizeLine) (q : ∀ H' r, Same H H' → Kn H' r (xs ++ ys) → Q (.ref r) H') : rCatF K (.ref a) (.ref b) H Q := by
  refine ⟨a, b, xs, ys, rfl, rfl, ha, hb.sq, hz, fun e => ?_, fun _ e => absurd e hy, fun _ _ p o d n => q _ p (same_new n) (Kn.new d)⟩
  subst e
  exact q H b (Same.refl _) hb
theorem cat2 {K : PySem.W.Frag} {H : Hp} {a b : Addr} {xs ys : List V} {Q : VK} (ha : Kn H a xs) (hb : SqT K H b ys) (hx : xs ≠ []) (hz : xs.length + ys.length ≤ sizeLine) (q : ∀ H' r, Same H H' → Kn H' r (xs ++ ys) → Q (.ref r) H') : rCatF K (.ref a) (.ref b) H Q := by
  refine ⟨a, b, xs, ys, rfl, rfl, ha.sq, hb, hz, fun e => absurd e hx, fun _ e => ?_, fun _ _ p o d n => q _ p (same_new n) (Kn.new d)⟩
  subst e
  refine q H a (Same.refl _) ?_
  rw [List.append_nil]
  exact ha
theorem last_at {l : List Int} (h : l ≠ []) : atI (l.map V.int) (-1) = some (V.int (l.getLastD 0)) := by
  have e : l = l.dropLast ++ [l.getLastD 0] := by
    cases l with
    | nil => exact absurd rfl h
    | cons x r =>
      rw [List.getLastD_cons]
      have := List.dropLast_concat_getLast (l := x :: r) (List.cons_ne_nil _ _)
      rw [List.getLast_eq_getLastD] at this
      exact this.symm
  rw [e, List.map_append]
  have := atI_last ((l.dropLast).map V.int) (V.int (l.getLastD 0))
  rw [List.getLastD_concat]
  exact this
theorem last_mem {l : List Int} (h : l ≠ []) : l.getLastD 0 ∈ l := by
  cases l with
  | nil => exact absurd rfl h
  | cons x r =>
    rw [List.getLastD_cons, ← List.getLast_eq_getLastD (List.cons_ne_nil x r)]
    exact List.getLast_mem _
theorem tall_nn {l : List Int} {p x : Int} (h : x ∈ tall l p) : 0 ≤ x := by
  obtain ⟨k, _, rfl⟩ := List.mem_map.mp h
  omega
section
variable {P : Program} {w : World} {K : PySem.W.Frag} {mg : Str → Option Value} {base : Heap}
/-! ### _law_call -/
abbrev sLca : Stmt := stm 30
theorem scLca : FnScope ["_law_line_here", "_law_person", "_law_old", "_law_tall", "_law_new", "_law_place"] ["_law_line_here", "_law_person"] (defScope sLca) := ⟨rfl, rfl, rfl, by decide +kernel, rfl, by decide +kernel, by decide +kernel⟩
def spLca : Sp := fun vs H Q _ => ∃ (a : Addr) (l : List Int) (p : Int), vs = [.ref a, .int p] ∧ Tu H a l ∧ p ∈ l ∧ l ∈ lines ∧
  ∀ H' r, Same H H' → Tu H' r (call l p) → Q (.ref r) H'
theorem cal_lca {f : Addr} {fd : FuncData} (D : Df K mg "_law_call" sLca f fd) (B : Bt mg) : Cal P w K mg base 1 "_law_call" spLca [] := by
  refine cal_of (ps := ["_law_line_here", "_law_person"]) D (D.fn.ok scLca (fun vs H Q E h => ?_) (fun cdv A outer s H vs Q E hr h => ?_)) (D.fn.binds fun _ _ _ _ _ _ us hl => match us, hl with | [_, _], _ => rfl)
  · obtain ⟨a, l, p, rfl, _⟩ := h
    rfl
  obtain ⟨a, l, p, rfl, ha, hp, hm, q⟩ := h
  refine ⟨_, pss_cons (ps_set (i := 2) scLca.nd rfl (.inl rfl) (pe_tidx (pv 0) (pv 1)))
    (pss_cons (ps_setLc (i := 3) (own := [("_law_place", 5)]) (g := gName 5) rfl scLca.nd rfl rfl (by rfl) (pi_range1 (by rfl) B.range (pa_cons (pv 2) pa_nil))
      (blkOk_by (N := ["_law_line_here", "_law_person", "_law_old", "_law_tall", "_law_new", "_law_place"]) (sc := defScope sLca) (by decide +kernel)) (fun _ _ _ _ _ => pg_name (i := 5) scLca.nd rfl (Or.inl rfl))
      (fun _ _ _ _ _ => pts_one (pt_cmpR op_gt (pe_ix (r := rIxT K) ix_tup (pv 0) (pv 5) (fun _ _ => rfl)) (pv 1) (nomark _))) (fun _ _ _ _ _ => pv 5))
    (pss_cons (ps_set (i := 4) scLca.nd rfl (.inl rfl) (pe_ifExp (pt_cmpR (op_neD hr.units) (pv 3) (pe_lst pa_nil) (nomark _)) (pe_op op_add (pe_ix (r := rIxL K) ix_list (pv 3) (pe_un un_neg pe_int) (fun _ _ => rfl)) pe_int) pe_int))
    (pss_one (ps_ret (pe_op op_catF (pe_op op_catF (pe_op op_catF (pe_slice sl_tup (pv 0) po_none (po_some (pv 4))) (pe_tupF (pa_cons (pv 1) pa_nil))) (pe_slice sl_tup (pv 0) (po_some (pv 4)) (po_some (pv 2)))) (pe_slice sl_tup (pv 0) (po_some (pe_op op_add (pv 2) pe_int)) po_none)))))), ?_⟩
  have hlt : l.idxOf p < l.length := spot_lt hp
  obtain ⟨hcl, hcL, hgs, hgL, _⟩ := lines_call l hm p hp
  have hgs : goal l p ≤ l.idxOf p := hgs
  obtain ⟨_, h5, _⟩ := lines_shape l hm
  have el : (l.map V.int).length = l.length := List.length_map _
  refine ⟨_, rfl, ⟨a, _, rfl, ha⟩, _, rfl, a, l, p, rfl, rfl, ha.sq, hp, ?_⟩
  refine ⟨_, rfl, _, rfl, by omega, by omega, fun D nD => ?_⟩
  have step : ∀ i : Nat, (((List.range (i + 1)).filter fun (k : Nat) => decide (p < l.getD k 0)).map fun (k : Nat) => (k : Int)) =
      (((List.range i).filter fun (k : Nat) => decide (p < l.getD k 0)).map fun (k : Nat) => (k : Int)) ++ (if p < l.getD i 0 then [(i : Int)] else []) := fun i => by
    rw [List.range_succ, List.filter_append, List.map_append]
    by_cases c : p < l.getD i 0
    · rw [if_pos c, List.filter_cons, if_pos (decide_eq_true c)]
      rfl
    · rw [if_neg c, List.filter_cons, if_neg (by rw [decide_eq_false c]; exact Bool.false_ne_true)]
      rfl
  rw [show ((l.idxOf p : Nat) : Int).toNat = l.idxOf p by omega]
  refine lc_range (lo := 0) (n := l.idxOf p) (fun i H3 => Same H H3 ∧ H3 D = some (.lst ((((List.range i).filter fun (k : Nat) => decide (p < l.getD k 0)).map fun (k : Nat) => (k : Int)).map V.int))) ⟨same_new nD, upd_same⟩ (fun i H3 hi ⟨sm, eD⟩ => ?_) (fun H3 ⟨sm, eD⟩ => ?_)
  · have hT3 := (ha.same sm).sq (K := K)
    refine ⟨rfl, _, rfl, _, rfl, a, _, _, _, rfl, rfl, hT3, at_of (j := i) (by omega) (gi (by omega)), _, rfl, _, _, rfl, rfl, _, rfl, ite2 (fun c => ?_) (fun c => ?_)⟩
    · have c' : p < l.getD i 0 := of_decide_eq_true c
      refine ⟨_, rfl, _, eD, ?_, same_keep sm nD, ?_⟩
      · rw [List.length_map, List.length_map]
        refine Nat.lt_of_le_of_lt (List.length_filter_le _ _) ?_
        rw [List.length_range]
        exact small1000 (by omega)
      · rw [upd_same, step, if_pos c', List.map_append, Int.zero_add]
        rfl
    · have c' : ¬ p < l.getD i 0 := fun z => c (decide_eq_true z)
      refine ⟨sm, ?_⟩
      rw [step, if_neg c', List.append_nil]
      exact eD
  have eT : H3 D = some (.lst ((tall l p).map V.int)) := eD
  -- the place
  have gg : (if tall l p = [] then (0 : Int) else (tall l p).getLastD 0 + 1) = ((goal l p : Nat) : Int) := by
    rw [← hgL]
    unfold goalL
    by_cases c : tall l p = []
    · rw [if_pos c, if_pos c]
      rfl
    · rw [if_neg c, if_neg c]
      have := tall_nn (last_mem c)
      omega
  have rest : ∀ H4, Same H H4 → ∀ E : Ends, E.rt = Q → tRet (tOp (rCatF K) (tOp (rCatF K) (tOp (rCatF K) (tSl (rSlT K) (tVar 0) tNoPart (tPart (tVar 4))) (tTupF (tCons (tVar 1) tNil))) (tSl (rSlT K) (tVar 0) (tPart (tVar 4)) (tPart (tVar 2)))) (tSl (rSlT K) (tVar 0) (tPart (tOp (rI0 fun i j => V.int (i + j)) (tVar 2) (tC (V.int 1)))) tNoPart)) E
      [some (V.ref a), some (V.int p), some (V.int ((l.idxOf p : Nat) : Int)), some (V.ref D), some (V.int ((goal l p : Nat) : Int)), none] H4 := by
    intro H4 s4 E hE
    have ha0 := ha.same s4
    -- line[:new]
    refine ⟨_, rfl, _, rfl, _, rfl, a, _, rfl, ha0.sq, by rw [HT.sIx_none, HT.sIx_nat, el]; omega, fun p1 n1 => ?_⟩
    rw [cut_to _ (by rw [el]; omega)]
    have k1 : Same H4 (upd H4 p1 (.tup ((l.map V.int).take (goal l p)))) := same_new n1
    -- (person,)
    refine ⟨_, rfl, small (by show 1 ≤ 1000; decide), fun p2 o2 d2 n2 => ?_⟩
    have k2 : Same (upd H4 p1 (.tup ((l.map V.int).take (goal l p)))) (upd (upd H4 p1 (.tup ((l.map V.int).take (goal l p)))) p2 (.frz o2 (.tup [V.int p]))) := same_new n2
    refine cat1 (xs := (l.map V.int).take (goal l p)) (ys := [V.int p]) (SqT.of (k2 _ _ upd_same)) (Kn.new d2) (List.cons_ne_nil _ _) (by rw [List.length_take]; exact small (by show min _ _ + 1 ≤ 1000; omega)) fun H5 r5 s5 e5 => ?_
    have s15 := k1.trans (k2.trans s5)
    -- line[new:old]
    refine ⟨_, rfl, _, rfl, _, rfl, _, rfl, _, rfl, a, _, rfl, (ha0.same s15).sq, by rw [HT.sIx_nat, HT.sIx_nat, el]; omega, fun p6 n6 => ?_⟩
    rw [cut_mid _ (by rw [el]; omega) hgs]
    have k6 : Same H5 (upd H5 p6 (.tup (((l.map V.int).drop (goal l p)).take (l.idxOf p - goal l p)))) := same_new n6
    refine cat2 (e5.same k6) (SqT.of upd_same) (by simp) (by simp only [List.length_append, List.length_take, List.length_drop, List.length_cons, List.length_nil, List.length_map]; exact small (by omega)) fun H7 r7 s7 e7 => ?_
    have s17 := s15.trans (k6.trans s7)
    -- line[old + 1:]
    have eo : (((l.idxOf p : Nat) : Int) + 1) = ((l.idxOf p + 1 : Nat) : Int) := by omega
    refine ⟨_, rfl, _, rfl, _, _, rfl, rfl, _, rfl, a, _, rfl, (ha0.same s17).sq, by rw [eo, HT.sIx_none, HT.sIx_nat, el]; omega, fun p8 n8 => ?_⟩
    rw [eo, cut_from _ (by rw [el]; omega)]
    have k8 : Same H7 (upd H7 p8 (.tup ((l.map V.int).drop (l.idxOf p + 1)))) := same_new n8
    refine cat2 (e7.same k8) (SqT.of upd_same) (by simp) (by simp only [List.length_append, List.length_take, List.length_drop, List.length_cons, List.length_nil, List.length_map]; exact small (by omega)) fun H9 r9 s9 e9 => ?_
    rw [hE]
    have s19 := s17.trans (k8.trans s9)
    refine q H9 r9 (s4.trans s19) ?_
    have ez : ((l.map V.int).take (goal l p) ++ [V.int p] ++ ((l.map V.int).drop (goal l p)).take (l.idxOf p - goal l p) ++ (l.map V.int).drop (l.idxOf p + 1)) = (call l p).map V.int := by
      unfold call spot
      simp only [List.map_append, List.map_take, List.map_drop, List.map_cons, List.append_assoc, List.cons_append, List.nil_append]
    show Kn H9 r9 _
    rw [← ez]
    exact e9
  refine ⟨_, rfl, Nat.zero_le _, fun Z nZ => ⟨_, _, dp_list (SqL.of (same_new nZ _ _ eT)), dp_nil (SqL.of upd_same), sh_list _, sh_nil, _, rfl, ?_⟩⟩
  rw [eqv_nil]
  have kZ : Same H3 (upd H3 Z (.lst [])) := same_new nZ
  by_cases hn : tall l p = []
  · rw [if_pos hn] at gg
    have e0 : (((tall l p).map PyData.int).isEmpty) = true := by rw [hn]; rfl
    rw [e0]
    refine iteF ?_
    have := rest _ (sm.trans kZ) { nx := fun x H' => Q V.non H', rt := Q } rfl
    rw [← gg] at this
    exact this
  · rw [if_neg hn] at gg
    have e0 : (((tall l p).map PyData.int).isEmpty) = false := by
      cases h2 : tall l p with
      | nil => exact absurd h2 hn
      | cons _ _ => rfl
    rw [e0]
    refine iteT ⟨_, rfl, _, rfl, D, _, _, _, rfl, rfl, SqL.of (kZ _ _ eT), last_at hn, _, _, rfl, rfl, ?_⟩
    have := rest _ (sm.trans kZ) { nx := fun x H' => Q V.non H', rt := Q } rfl
    rw [← gg] at this
    exact this
end
end Ot
set_option Elab.async false
set_option linter.all false
set_option maxRecDepth 100000
set_option maxHeartbeats 4000000
namespace Ot
open PySem PySem.Spec PyProof.Rows L2 OtR
open C8 (Cal pe_c)
section
variable {P : Program} {w : World} {K : PySem.W.Frag} {mg : Str → Option Value} {base : Heap}
/-! ### _law_movers -/
abbrev sLmv : Stmt := stm 31
theorem scLmv : FnScope ["_law_line_here", "_law_person"] ["_law_line_here"] (defScope sLmv) := ⟨rfl, rfl, rfl, by decide +kernel, rfl, by decide +kernel, by decide +kernel⟩
theorem cal_lmv {f : Addr} {fd : FuncData} (D : Df K mg "_law_movers" sLmv f fd) (B : Bt mg) (C : Cal P w K mg base 1 "_law_call" spLca []) : Cal P w K mg base 2 "_law_movers" spMovers [] := by
  refine cal_of (ps := ["_law_line_here"]) D (D.fn.ok scLmv (fun vs H Q E h => ?_) (fun cdv A outer s H vs Q E hr h => ?_)) (D.fn.binds fun _ _ _ _ _ _ us hl => match us, hl with | [_], _ => rfl)
  · obtain ⟨a, l, rfl, _⟩ := h
    rfl
  obtain ⟨a, l, rfl, hl, hm, q⟩ := h
  refine ⟨_, pss_one (ps_ret
    (pe_lc (own := [("_law_person", 1)]) (g := gName 1) (tt := tTest (tOp (rNeD K) (tCall spLca [] C8.E0 (tCons (tVar 0) (tCons (tVar 1) tNil))) (tVar 0))) rfl scLmv.nd (pi_range1 (by rfl) B.range (pa_cons (pe_callB call_len_seq (by rfl) B.len PySem.boot_len (pa_cons (pv 0) pa_nil)) pa_nil))
      (blkOk_by (N := ["_law_line_here", "_law_person"]) (sc := defScope sLmv) (by decide +kernel)) (fun _ _ _ _ _ => pg_name (i := 1) scLmv.nd rfl (Or.inl rfl))
      (fun _ _ _ _ _ => pts_one (pt_cmpR (op_neD hr.units) (pe_c C hr (by decide) (by rfl) (pa_cons (pv 0) (pa_cons (pv 1) pa_nil))) (pv 0) (nomark _)))
      (fun _ _ _ _ _ => pv 1))), ?_⟩
  obtain ⟨h1, h5, _, hk⟩ := lines_shape l hm
  obtain ⟨hL, _⟩ := lines_move l hm
  have el : (l.map V.int).length = l.length := List.length_map _
  refine ⟨_, rfl, a, _, rfl, .inr hl.sq, _, rfl, by omega, by rw [el]; omega, fun D nD => ?_⟩
  rw [show ((l.map V.int).length : Int).toNat = l.length by rw [el]; omega]
  have step : ∀ i : Nat, (((List.range (i + 1)).filter fun (k : Nat) => decide (callL l (k : Int) ≠ l)).map fun (k : Nat) => (k : Int)) =
      (((List.range i).filter fun (k : Nat) => decide (callL l (k : Int) ≠ l)).map fun (k : Nat) => (k : Int)) ++ (if callL l (i : Int) ≠ l then [(i : Int)] else []) := fun i => by
    rw [List.range_succ, List.filter_append, List.map_append]
    by_cases c : callL l (i : Int) ≠ l
    · rw [if_pos c, List.filter_cons, if_pos (decide_eq_true c)]
      rfl
    · rw [if_neg c, List.filter_cons, if_neg (by rw [decide_eq_false c]; exact Bool.false_ne_true)]
      rfl
  refine lc_range (lo := 0) (n := l.length) (fun i H3 => Same H H3 ∧ H3 D = some (.lst ((((List.range i).filter fun (k : Nat) => decide (callL l (k : Int) ≠ l)).map fun (k : Nat) => (k : Int)).map V.int))) ⟨same_new nD, upd_same⟩ (fun i H3 hi ⟨sm, eD⟩ => ?_) (fun H3 ⟨sm, eD⟩ => ?_)
  · have hil := (hk i (List.mem_range.mpr hi)).1
    obtain ⟨hcl, hcL, _⟩ := lines_call l hm _ hil
    refine ⟨rfl, _, rfl, _, rfl, ⟨a, l, (0 : Int) + (i : Int), rfl, hl.same sm, by rw [Int.zero_add]; exact hil, hm, fun H4 r s4 hr4 => ?_⟩⟩
    rw [Int.zero_add] at hr4
    refine ⟨_, rfl, _, _, dp_tup hr4.sq, dp_tup ((hl.same sm).same s4).sq, sh_tup _, sh_tup _, _, rfl, ?_⟩
    rw [eqv_tup, ← hcL]
    by_cases c : callL l (i : Int) = l
    · rw [decide_eq_true c]
      refine iteF ⟨sm.trans s4, ?_⟩
      rw [step, if_neg (fun z => z c), List.append_nil]
      exact s4 _ _ eD
    · rw [decide_eq_false c]
      refine iteT ⟨_, rfl, _, s4 _ _ eD, ?_, same_keep (sm.trans s4) nD, ?_⟩
      · rw [List.length_map, List.length_map]
        refine Nat.lt_of_le_of_lt (List.length_filter_le _ _) ?_
        rw [List.length_range]
        exact small1000 (by omega)
      · rw [upd_same, step, if_pos c, List.map_append, Int.zero_add]
        rfl
  · refine q _ _ sm nD ?_
    rw [← hL]
    exact eD
end
end Ot
set_option Elab.async false
set_option linter.all false
set_option maxRecDepth 100000
set_option maxHeartbeats 4000000
namespace Ot
open PySem PySem.Spec PyProof.Rows L2 OtR
open C8 (Cal pe_c)
theorem ty_tup {K : PySem.W.Frag} {H : Hp} {a : Addr} {xs : List V} (h : SqT K H a xs) : TyX K H (.ref a) (.type "tuple") := by
  rcases h with (h | ⟨o, h⟩) | ⟨o, _, _, h1, h2, _⟩
  · exact .base (.tup h)
  · exact .fTuple h
  · exact .kTuple h1 h2
theorem sq_same {K : PySem.W.Frag} {H H' : Hp} {a : Addr} {xs : List V} (s : Same H H') (h : SqT K H a xs) : SqT K H' a xs := by
  rcases h with (h | ⟨o, h⟩) | h
  · exact .inl (.inl (s _ _ h))
  · exact .inl (.inr ⟨o, s _ _ h⟩)
  · exact .inr h
theorem any_int {K : PySem.W.Frag} : PySem.W.kitAny K (.type "int") [.type "tuple", .type "list"] = some false :=
  kitAny_cons (b := false) (kit_ty (by decide +kernel)) (fun _ => kitAny_cons (b := false) (kit_ty (by decide +kernel)) (fun _ => kitAny_nil) (fun z => absurd z Bool.false_ne_true)) (fun z => absurd z Bool.false_ne_true)
theorem any_tup {K : PySem.W.Frag} : PySem.W.kitAny K (.type "tuple") [.type "tuple", .type "list"] = some true :=
  kitAny_cons (b := true) (kit_ty (by decide +kernel)) (fun z => absurd z.symm Bool.false_ne_true) (fun _ => rfl)
section
variable {P : Program} {w : World} {K : PySem.W.Frag} {mg : Str → Option Value} {base : Heap}
/-! ### _law_alike -/
abbrev sAl : Stmt := stm 28
theorem scAl : FnScope ["_law_found", "_law_due", "_law_k"] ["_law_found", "_law_due"] (defScope sAl) := ⟨rfl, rfl, rfl, by decide +kernel, rfl, by decide +kernel, by decide +kernel⟩
def spAl0 : Sp := fun vs H Q _ => ∃ i : Int, vs = [.int i, .int i] ∧ ∀ H', Same H H' → Q (.bl true) H'
def spAlT (K : PySem.W.Frag) : Sp := fun vs H Q _ => ∃ (a b : Addr) (l : List Int), vs = [.ref a, .ref b] ∧ SqT K H a (l.map V.int) ∧ SqT K H b (l.map V.int) ∧ l.length ≤ 100 ∧ ∀ H', Same H H' → Q (.bl true) H'
theorem cal_al0 {f : Addr} {fd : FuncData} (D : Df K mg "_law_alike" sAl f fd) (B : Bt mg) : Cal P w K mg base 1 "_law_alike" spAl0 [] := by
  refine cal_of (ps := ["_law_found", "_law_due"]) D (D.fn.ok scAl (fun vs H Q E h => ?_) (fun cdv A outer s H vs Q E hr h => ?_)) (D.fn.binds fun _ _ _ _ _ _ us hl => match us, hl with | [_, _], _ => rfl)
  · obtain ⟨i, rfl, _⟩ := h
    rfl
  obtain ⟨i, rfl, q⟩ := h
  refine ⟨_, pss_cons (ps_if (pt_val (pe_callB call_isiT (by rfl) B.isi (by decide +kernel) (pa_cons (pv 1) (pa_cons (pe_tup (pa_cons (pe_bltn (v := .ty "tuple") (by rfl) B.tuple (by decide +kernel) rfl) (pa_cons (pe_bltn (v := .ty "list") (by rfl) B.list (by decide +kernel) rfl) pa_nil))) pa_nil)))) pss_never pss_nil)
    (pss_cons (ps_if (PW.pt (pw_or (pt_cmp (pc_isN (pv 1))) (pw_or1 (pt_val (pe_callB call_isi (by rfl) B.isi (by decide +kernel) (pa_cons (pv 1) (pa_cons (pe_bltn (v := .ty "str") (by rfl) B.str (by decide +kernel) rfl) pa_nil))))))) pss_never pss_nil)
    (pss_one (ps_ret (pe_and (pe_callB call_isi (by rfl) B.isi (by decide +kernel) (pa_cons (pv 0) (pa_cons (pe_bltn (v := .ty "int") (by rfl) B.int (by decide +kernel) rfl) pa_nil)))
      (pe_and (pe_cmpR op_eq (pe_callB call_isi (by rfl) B.isi (by decide +kernel) (pa_cons (pv 0) (pa_cons (pe_bltn (v := .ty "bool") (by rfl) B.bool (by decide +kernel) rfl) pa_nil))) (pe_callB call_isi (by rfl) B.isi (by decide +kernel) (pa_cons (pv 1) (pa_cons (pe_bltn (v := .ty "bool") (by rfl) B.bool (by decide +kernel) rfl) pa_nil))) (nomark _))
        (pe_one (pe_cmpR op_eq (pv 0) (pv 1) (nomark _)))))))), ?_⟩
  refine ⟨_, rfl, small (by show 2 ≤ 1000; decide), fun p np => ?_⟩
  have s1 : Same H (upd H p (.tup [.ty "tuple", .ty "list"])) := same_new np
  refine ⟨_, p, [.ty "tuple", .ty "list"], _, [.type "tuple", .type "list"], false, rfl, upd_same, .cons (.ty _) (.cons (.ty _) .nil), .base (.int i), any_int, false, rfl, iteF ?_⟩
  refine ⟨_, rfl, false, rfl, iteF ⟨_, rfl, _, _, _, _, false, rfl, .ty "str", .base (.int i), kit_ty (by decide +kernel), false, rfl, iteF ?_⟩⟩
  refine ⟨_, rfl, _, _, _, _, true, rfl, .ty "int", .base (.int i), kit_ty (by decide +kernel), true, rfl, iteT ?_⟩
  refine ⟨_, rfl, _, _, _, _, false, rfl, .ty "bool", .base (.int i), kit_ty (by decide +kernel), ⟨_, rfl, _, _, _, _, false, rfl, .ty "bool", .base (.int i), kit_ty (by decide +kernel), rfl, true, rfl, iteT ?_⟩⟩
  refine ⟨_, rfl, _, rfl, rfl, ?_⟩
  exact q_true rfl (q _ s1)
theorem cal_alt {f : Addr} {fd : FuncData} (D : Df K mg "_law_alike" sAl f fd) (B : Bt mg) (C : Cal P w K mg base 1 "_law_alike" spAl0 []) : Cal P w K mg base 2 "_law_alike" (spAlT K) [] := by
  refine cal_of (ps := ["_law_found", "_law_due"]) D (D.fn.ok scAl (fun vs H Q E h => ?_) (fun cdv A outer s H vs Q E hr h => ?_)) (D.fn.binds fun _ _ _ _ _ _ us hl => match us, hl with | [_, _], _ => rfl)
  · obtain ⟨a, b, l, rfl, _⟩ := h
    rfl
  obtain ⟨a, b, l, rfl, ha, hb, h100, q⟩ := h
  refine ⟨_, pss_cons (ps_if (pt_val (pe_callB call_isiT (by rfl) B.isi (by decide +kernel) (pa_cons (pv 1) (pa_cons (pe_tup (pa_cons (pe_bltn (v := .ty "tuple") (by rfl) B.tuple (by decide +kernel) rfl) (pa_cons (pe_bltn (v := .ty "list") (by rfl) B.list (by decide +kernel) rfl) pa_nil))) pa_nil))))
      (pss_cons (ps_if (PW.pt (pw_or (pt_not (pt_val (pe_callB call_isiT (by rfl) B.isi (by decide +kernel) (pa_cons (pv 0) (pa_cons (pe_tup (pa_cons (pe_bltn (v := .ty "tuple") (by rfl) B.tuple (by decide +kernel) rfl) (pa_cons (pe_bltn (v := .ty "list") (by rfl) B.list (by decide +kernel) rfl) pa_nil))) pa_nil)))))
          (pw_or1 (pt_cmpR op_ne (pe_callB call_isi (by rfl) B.isi (by decide +kernel) (pa_cons (pv 0) (pa_cons (pe_bltn (v := .ty "list") (by rfl) B.list (by decide +kernel) rfl) pa_nil))) (pe_callB call_isi (by rfl) B.isi (by decide +kernel) (pa_cons (pv 1) (pa_cons (pe_bltn (v := .ty "list") (by rfl) B.list (by decide +kernel) rfl) pa_nil))) (nomark _))))) pss_never pss_nil)
      (pss_cons (ps_if (pt_cmpR op_ne (pe_callB call_len_seq (by rfl) B.len PySem.boot_len (pa_cons (pv 0) pa_nil)) (pe_callB call_len_seq (by rfl) B.len PySem.boot_len (pa_cons (pv 1) pa_nil)) (nomark _)) pss_never pss_nil)
      (pss_one (ps_ret (pe_cmpR (op_eqD hr.units) (pe_lc (own := [("_law_k", 2)]) (g := gName 2) rfl scAl.nd (pi_range1 (by rfl) B.range (pa_cons (pe_callB call_len_seq (by rfl) B.len PySem.boot_len (pa_cons (pv 1) pa_nil)) pa_nil))
        (blkOk_by (N := ["_law_found", "_law_due", "_law_k"]) (sc := defScope sAl) (by decide +kernel)) (fun _ _ _ _ _ => pg_name (i := 2) scAl.nd rfl (Or.inl rfl))
        (fun _ _ _ _ _ => pts_one (pt_not (pt_val (pe_c C hr (by decide) (by rfl) (pa_cons (pe_ix (r := rIxT K) ix_tup (pv 0) (pv 2) (fun _ _ => rfl)) (pa_cons (pe_ix (r := rIxT K) ix_tup (pv 1) (pv 2) (fun _ _ => rfl)) pa_nil))))))
        (fun _ _ _ _ _ => pv 2)) (pe_lst pa_nil) (nomark _)))))) pss_nil) pss_never, ?_⟩
  refine ⟨_, rfl, small (by show 2 ≤ 1000; decide), fun p np => ?_⟩
  have s1 : Same H (upd H p (.tup [.ty "tuple", .ty "list"])) := same_new np
  refine ⟨_, p, [.ty "tuple", .ty "list"], _, [.type "tuple", .type "list"], true, rfl, upd_same, .cons (.ty _) (.cons (.ty _) .nil), ty_tup (sq_same s1 hb), any_tup, true, rfl, iteT ?_⟩
  have el : (l.map V.int).length = l.length := List.length_map _
  refine ⟨_, rfl, small (by show 2 ≤ 1000; decide), fun p2 np2 => ?_⟩
  have s2 : Same H (upd (upd H p (.tup [.ty "tuple", .ty "list"])) p2 (.tup [.ty "tuple", .ty "list"])) := same_keep s1 (s1.free np2)
  refine ⟨_, p2, [.ty "tuple", .ty "list"], _, [.type "tuple", .type "list"], true, rfl, upd_same, .cons (.ty _) (.cons (.ty _) .nil), ty_tup (sq_same s2 ha), any_tup, true, rfl, iteF ?_⟩
  refine ⟨_, rfl, _, _, _, _, false, rfl, .ty "list", ty_tup (sq_same s2 ha), kit_ty (by decide +kernel), ⟨_, rfl, _, _, _, _, false, rfl, .ty "list", ty_tup (sq_same s2 hb), kit_ty (by decide +kernel), rfl, _, rfl, iteF ?_⟩⟩
  refine ⟨_, rfl, a, _, rfl, .inr (sq_same s2 ha), _, rfl, b, _, rfl, .inr (sq_same s2 hb), rfl, _, rfl, ?_⟩
  rw [decide_eq_true (rfl : V.int ((l.map V.int).length : Nat) = V.int ((l.map V.int).length : Nat))]
  refine iteF ?_
  refine ⟨_, rfl, b, _, rfl, .inr (sq_same s2 hb), _, rfl, by omega, by rw [el]; omega, fun D nD => ?_⟩
  rw [show ((l.map V.int).length : Int).toNat = l.length by rw [el]; omega]
  refine lc_range (lo := 0) (n := l.length) (fun i H3 => Same H H3 ∧ H3 D = some (.lst [])) ⟨same_keep s2 (s2.free nD), upd_same⟩ (fun i H3 hi ⟨sm, eD⟩ => ?_) (fun H3 ⟨sm, eD⟩ => ?_)
  · refine ⟨rfl, _, rfl, _, rfl, a, _, _, _, rfl, rfl, sq_same sm ha, at_of (j := i) (by omega) (gi hi), _, rfl, _, rfl, b, _, _, _, rfl, rfl, sq_same sm hb, at_of (j := i) (by omega) (gi hi), _, rfl, fun H4 s4 => ⟨true, rfl, iteF ⟨sm.trans s4, s4 _ _ eD⟩⟩⟩
  · refine ⟨Nat.zero_le _, fun Z nZ => ⟨_, _, dp_nil (SqL.of (same_new nZ _ _ eD)), dp_nil (SqL.of upd_same), sh_nil, sh_nil, ?_⟩⟩
    rw [eqv_nil]
    exact q _ (same_keep sm (sm.free nZ))
end
end Ot
set_option Elab.async false
set_option linter.all false
set_option maxRecDepth 100000
set_option maxHeartbeats 4000000
namespace Ot
open PySem PySem.Spec PyProof.Rows L2 OtR
open C8 (Cal pe_c)
/-! ### lists side by side -/
def Al {α β : Type} (R : α → β → Prop) (xs : List α) (ys : List β) : Prop := xs.length = ys.length ∧ ∀ (i : Nat) (x : α) (y : β), xs[i]? = some x → ys[i]? = some y → R x y
theorem Al.nil {α β : Type} {R : α → β → Prop} : Al R [] [] := ⟨rfl, fun i x y h => by cases h⟩
theorem Al.mono {α β : Type} {R S : α → β → Prop} {xs : List α} {ys : List β} (h : Al R xs ys) (f : ∀ x y, R x y → S x y) : Al S xs ys := ⟨h.1, fun i x y a b => f x y (h.2 i x y a b)⟩
theorem Al.get {α β : Type} {R : α → β → Prop} {xs : List α} {ys : List β} (h : Al R xs ys) {i : Nat} {y : β} (e : ys[i]? = some y) : ∃ x, xs[i]? = some x ∧ R x y := by
  have hi : i < ys.length := (List.getElem?_eq_some_iff.mp e).1
  have hx : i < xs.length := by rw [h.1]; exact hi
  exact ⟨xs[i], List.getElem?_eq_getElem hx, h.2 i _ _ (List.getElem?_eq_getElem hx) e⟩
theorem Al.getL {α β : Type} {R : α → β → Prop} {xs : List α} {ys : List β} (h : Al R xs ys) {i : Nat} {x : α} (e : xs[i]? = some x) : ∃ y, ys[i]? = some y ∧ R x y := by
  have hi : i < xs.length := (List.getElem?_eq_some_iff.mp e).1
  have hx : i < ys.length := by rw [← h.1]; exact hi
  exact ⟨ys[i], List.getElem?_eq_getElem hx, h.2 i _ _ e (List.getElem?_eq_getElem hx)⟩
theorem Al.append {α β : Type} {R : α → β → Prop} {xs zs : List α} {ys ws : List β} (h : Al R xs ys) (g : Al R zs ws) : Al R (xs ++ zs) (ys ++ ws) := by
  refine ⟨by rw [List.length_append, List.length_append, h.1, g.1], fun i x y a b => ?_⟩
  by_cases c : i < xs.length
  · rw [List.getElem?_append_left c] at a
    rw [List.getElem?_append_left (by rw [← h.1]; exact c)] at b
    exact h.2 i x y a b
  · rw [List.getElem?_append_right (by omega)] at a
    rw [List.getElem?_append_right (by rw [← h.1]; omega), ← h.1] at b
    exact g.2 _ x y a b
theorem Al.one {α β : Type} {R : α → β → Prop} {x : α} {y : β} (h : R x y) : Al R [x] [y] := by
  refine ⟨rfl, fun i a b e1 e2 => ?_⟩
  match i with
  | 0 => cases e1; cases e2; exact h
  | _ + 1 => cases e1
theorem Al.mem {α β : Type} {R : α → β → Prop} {xs : List α} {ys : List β} (h : Al R xs ys) {x : α} (hx : x ∈ xs) : ∃ y ∈ ys, R x y := by
  obtain ⟨i, hi, e⟩ := List.mem_iff_getElem.mp hx
  obtain ⟨y, hy, r⟩ := h.getL (i := i) (x := x) (by rw [List.getElem?_eq_getElem hi, e])
  exact ⟨y, List.mem_of_getElem? hy, r⟩
theorem Al.memR {α β : Type} {R : α → β → Prop} {xs : List α} {ys : List β} (h : Al R xs ys) {y : β} (hy : y ∈ ys) : ∃ x ∈ xs, R x y := by
  obtain ⟨i, hi, e⟩ := List.mem_iff_getElem.mp hy
  obtain ⟨x, hx, r⟩ := h.get (i := i) (y := y) (by rw [List.getElem?_eq_getElem hi, e])
  exact ⟨x, List.mem_of_getElem? hx, r⟩
/-- a row: the calls so far, the line as it stands -/
def Cs (H : Hp) (c : Addr) (x : List Int) : Prop := Rd H c (.tup (x.map V.int))
theorem Cs.sq {K : PySem.W.Frag} {H : Hp} {c : Addr} {x : List Int} (h : Cs H c x) : SqT K H c (x.map V.int) := .inl h
theorem Cs.kn {H : Hp} {c : Addr} {x : List Int} (h : Tu H c x) : Cs H c x := let ⟨o, e, _⟩ := h; .inr ⟨o, e⟩
theorem map_int_inj : ∀ {a b : List Int}, a.map V.int = b.map V.int → a = b
  | [], [], _ => rfl
  | [], _ :: _, e => by cases e
  | _ :: _, [], e => by cases e
  | x :: xs, y :: ys, e => by
    injection e with e1 e2
    injection e1 with e3
    rw [e3, map_int_inj (a := xs) (b := ys) e2]
theorem Cs.uniq {H : Hp} {c : Addr} {x y : List Int} (h : Cs H c x) (g : Cs H c y) : x = y := by
  rcases h with h | ⟨o, h⟩ <;> rcases g with g | ⟨u, g⟩
  · rw [h] at g
    injection g with g
    injection g with g
    exact map_int_inj g
  · rw [h] at g; cases g
  · rw [h] at g; cases g
  · rw [h] at g
    injection g with g
    injection g with _ g
    injection g with g
    exact map_int_inj g
def Pr (H : Hp) (p : Addr) (r : Rw) : Prop := ∃ c h, H p = some (.tup [.ref c, .ref h]) ∧ Cs H c r.1 ∧ Tu H h r.2
theorem Cs.same {H H' : Hp} (s : Same H H') (p : Addr) (r : List Int) (h : Cs H p r) : Cs H' p r := by
  rcases h with h | ⟨o, h⟩
  · exact .inl (s _ _ h)
  · exact .inr ⟨o, s _ _ h⟩
theorem Pr.same {H H' : Hp} (s : Same H H') (p : Addr) (r : Rw) (h : Pr H p r) : Pr H' p r := by
  obtain ⟨c, t, e, h1, h2⟩ := h
  exact ⟨c, t, s _ _ e, Cs.same s _ _ h1, h2.same s⟩
/-- all stands but one list -/
theorem Cs.keep {H H' : Hp} {d : Addr} {zs : List V} (hd : H d = some (.lst zs)) (k : Keep d H H') (p : Addr) (r : List Int) (h : Cs H p r) : Cs H' p r := by
  rcases h with h | ⟨o, h⟩
  · exact .inl (k _ _ (ne_of h hd (fun q => nomatch q)) h)
  · exact .inr ⟨o, k _ _ (ne_of h hd (fun q => nomatch q)) h⟩
theorem tu_keep {H H' : Hp} {d a : Addr} {zs : List V} {l : List Int} (hd : H d = some (.lst zs)) (k : Keep d H H') (h : Tu H a l) : Tu H' a l := by
  obtain ⟨o, e, dn⟩ := h
  exact ⟨o, k _ _ (ne_of e hd (fun q => nomatch q)) e, dn⟩
theorem Pr.keep {H H' : Hp} {d : Addr} {zs : List V} (hd : H d = some (.lst zs)) (k : Keep d H H') (p : Addr) (r : Rw) (h : Pr H p r) : Pr H' p r := by
  obtain ⟨c, t, e, h1, h2⟩ := h
  exact ⟨c, t, k _ _ (ne_of e hd (fun q => nomatch q)) e, Cs.keep hd k _ _ h1, tu_keep hd k h2⟩
theorem rg {ps : List Addr} {i : Nat} {x : V} (h : (ps.map V.ref)[i]? = some x) : ∃ p, ps[i]? = some p ∧ x = V.ref p := by
  rw [List.getElem?_map] at h
  cases e : ps[i]? with
  | none => rw [e] at h; cases h
  | some z => rw [e] at h; exact ⟨z, rfl, by cases h; rfl⟩
/-! ### data of rows -/
def dC (x : List Int) : PyData := .tuple (x.map PyData.int)
def dR (r : Rw) : PyData := .tuple [dC r.1, dC r.2]
theorem layC : ∀ xs : List (List Int), PyData.canLayAll0 (xs.map dC) = true
  | [] => by simp [PyData.canLayAll0]
  | x :: r => by simp [PyData.canLayAll0, PyData.canLay0, dC, lay_ints, layC r]
theorem depC (x : List Int) : PyData.depth (dC x) ≤ 1 := by
  unfold dC
  simp [PyData.depth, deep_ints]
theorem depR (x : Rw) : PyData.depth (dR x) ≤ 2 := by
  have h1 := depC x.1
  have h2 := depC x.2
  unfold dR
  simp only [PyData.depth, PyData.depthAll]
  omega
theorem deepC : ∀ xs : List (List Int), PyData.depthAll (xs.map dC) ≤ 1
  | [] => by simp [PyData.depthAll]
  | x :: r => by
    have h1 := deepC r
    have h2 := depC x
    simp only [List.map_cons, PyData.depthAll]
    omega
theorem deepR : ∀ xs : List Rw, PyData.depthAll (xs.map dR) ≤ 2
  | [] => by simp [PyData.depthAll]
  | x :: r => by
    have h1 := deepR r
    have h2 := depR x
    simp only [List.map_cons, PyData.depthAll]
    omega
theorem sh_C (xs : List (List Int)) : SeqAt.shaped (.list (xs.map dC)) = true := by
  have h := deepC xs
  unfold SeqAt.shaped
  refine Bool.and_eq_true_iff.mpr ⟨by simp only [PyData.canLay0]; exact layC xs, decide_eq_true ?_⟩
  simp only [PyData.depth]
  omega
theorem layR : ∀ xs : List Rw, PyData.canLayAll0 (xs.map dR) = true
  | [] => by simp [PyData.canLayAll0]
  | x :: r => by simp [PyData.canLayAll0, PyData.canLay0, dR, dC, lay_ints, layR r]
theorem sh_R (xs : List Rw) : SeqAt.shaped (.list (xs.map dR)) = true := by
  have h := deepR xs
  unfold SeqAt.shaped
  refine Bool.and_eq_true_iff.mpr ⟨by simp only [PyData.canLay0]; exact layR xs, decide_eq_true ?_⟩
  simp only [PyData.depth]
  omega
theorem dpAll_of {α : Type} {K : PySem.W.Frag} {H : Hp} {R : Addr → α → Prop} {g : α → PyData} (f : ∀ p x, R p x → Dp K H (.ref p) (g x)) : ∀ (ps : List Addr) (xs : List α), Al R ps xs → DpAll K H (ps.map V.ref) (xs.map g)
  | [], [], _ => .nil
  | [], _ :: _, h => by cases h.1
  | _ :: _, [], h => by cases h.1
  | p :: ps, x :: xs, h => .cons (f p x (h.2 0 p x rfl rfl)) (dpAll_of f ps xs ⟨Nat.succ.inj h.1, fun i a b e1 e2 => h.2 (i + 1) a b e1 e2⟩)
theorem dp_cs {K : PySem.W.Frag} {H : Hp} {a : Addr} {cs : List Addr} {xs : List (List Int)} (h : H a = some (.lst (cs.map V.ref))) (r : Al (Cs H) cs xs) : Dp K H (.ref a) (.list (xs.map dC)) :=
  .lst (SqL.of h) (dpAll_of (fun p x hx => dp_tup hx.sq) cs xs r)
theorem dp_rs {K : PySem.W.Frag} {H : Hp} {a : Addr} {ps : List Addr} {rs : List Rw} (h : H a = some (.lst (ps.map V.ref))) (r : Al (Pr H) ps rs) : Dp K H (.ref a) (.list (rs.map dR)) :=
  .lst (SqL.of h) (dpAll_of (fun p x hx => let ⟨_, _, e, h1, h2⟩ := hx; .tup (SqT.of e) (.cons (dp_tup h1.sq) (.cons (dp_tup h2.sq) .nil))) ps rs r)
/-! ### the ends in order -/
theorem code_eq (B : Int) : ∀ l, TS.code B l = codeM B l
  | [] => rfl
  | d :: r => by
    show d * B ^ r.length + TS.code B r = d * B ^ r.length + codeM B r
    rw [code_eq B r]
def stepR (r : Rw) : List Rw := (movers r.2).map fun p => (r.1 ++ [p], call r.2 p)
theorem later_eq (rs : List Rw) : later rs = rs.flatMap stepR := rfl
theorem ends_next {rs : List Rw} {i : Nat} {r : Rw} (h : rs[i]? = some r) : ends (rs.take (i + 1)) = ends (rs.take i) ++ (if movers r.2 = [] then [r.1] else []) := by
  unfold ends
  rw [List.take_add_one, h, List.filter_append, List.map_append]
  show _ ++ (List.filter _ [r]).map _ = _
  by_cases c : movers r.2 = []
  · rw [if_pos c, List.filter_cons, if_pos (decide_eq_true c)]
    rfl
  · rw [if_neg c, List.filter_cons, if_neg (by rw [decide_eq_false c]; exact Bool.false_ne_true)]
    rfl
theorem flat_next {rs : List Rw} {i : Nat} {r : Rw} (h : rs[i]? = some r) : (rs.take (i + 1)).flatMap stepR = (rs.take i).flatMap stepR ++ stepR r := by
  rw [List.take_add_one, h, List.flatMap_append]
  show _ ++ [r].flatMap stepR = _
  rw [List.flatMap_cons, List.flatMap_nil, List.append_nil]
theorem flat_le : ∀ {rs : List Rw}, (∀ r ∈ rs, r.2 ∈ lines) → (rs.flatMap stepR).length ≤ 5 * rs.length
  | [], _ => Nat.le_refl _
  | r :: rs, h => by
    have h1 := movers_le (h r List.mem_cons_self)
    have h2 := flat_le (rs := rs) (fun x hx => h x (List.mem_cons_of_mem _ hx))
    rw [List.flatMap_cons, List.length_append, List.length_cons]
    have h3 : (stepR r).length = (movers r.2).length := List.length_map _
    omega
theorem ends_le (rs : List Rw) : (ends rs).length ≤ rs.length := by
  unfold ends
  rw [List.length_map]
  exact List.length_filter_le _ _
theorem ends_of {rs : List Rw} {x : List Int} (h : x ∈ ends rs) : ∃ r ∈ rs, r.1 = x := by
  unfold ends at h
  obtain ⟨r, hr, e⟩ := List.mem_map.mp h
  exact ⟨r, (List.mem_filter.mp hr).1, e⟩
theorem sortE {K : PySem.W.Frag} {H : Hp} {a : Addr} {cs : List Addr} {xs : List (List Int)} {k : Nat} {Q : VK} (h : H a = some (.lst (cs.map V.ref))) (r : Al (Cs H) cs xs) (h64 : xs.length < 64)
    (hx : ∀ x ∈ xs, x.length = k ∧ ∀ m ∈ x, 0 ≤ m ∧ m < 5) (h0 : k = 0 → xs.length ≤ 1)
    (q : ∀ p ys, H p = none → ys.Perm (cs.map V.ref) → (∀ y0 rest, ys = y0 :: rest → ∃ c0 x0, y0 = V.ref c0 ∧ x0 ∈ xs ∧ Cs H c0 x0 ∧ ∀ x ∈ xs, codeM 5 x0 ≤ codeM 5 x) → Q (.ref p) (upd H p (.lst ys))) : rSortX K 5 [.ref a] H Q := by
  have el : (cs.map V.ref).length = xs.length := by rw [List.length_map]; exact r.1
  by_cases hk : k = 0
  · have h1 := h0 hk
    refine .inl ⟨a, _, rfl, SqL.of h, by rw [el]; exact h1, fun p np => q p _ np (List.Perm.refl _) fun y0 rest e => ?_⟩
    have hm : y0 ∈ cs.map V.ref := by rw [e]; exact List.mem_cons_self
    obtain ⟨c0, hc0, rfl⟩ := List.mem_map.mp hm
    obtain ⟨x0, hx0, rx⟩ := r.mem hc0
    refine ⟨c0, x0, rfl, hx0, rx, fun x hx => ?_⟩
    have : x = x0 := by
      match xs, h1, hx, hx0 with
      | [z], _, h1, h2 => rw [List.mem_singleton.mp h1, List.mem_singleton.mp h2]
      | [], _, h1, _ => cases h1
    rw [this]
    exact Int.le_refl _
  · refine .inr ⟨k, by omega, a, _, rfl, SqL.of h, by rw [el]; exact h64, fun x hx' => ?_, fun ys p pm pw np => q p ys np pm fun y0 rest e => ?_⟩
    · obtain ⟨c0, hc0, rfl⟩ := List.mem_map.mp hx'
      obtain ⟨x0, hx0, rx⟩ := r.mem hc0
      exact ⟨x0, ⟨c0, rfl, rx.sq⟩, (hx x0 hx0).1, (hx x0 hx0).2⟩
    · have hm : y0 ∈ cs.map V.ref := pm.mem_iff.mp (by rw [e]; exact List.mem_cons_self)
      obtain ⟨c0, hc0, rfl⟩ := List.mem_map.mp hm
      obtain ⟨x0, hx0, rx⟩ := r.mem hc0
      refine ⟨c0, x0, rfl, hx0, rx, fun x hx => ?_⟩
      obtain ⟨c, hc, rc⟩ := r.memR hx
      have hin : V.ref c ∈ ys := pm.mem_iff.mpr (List.mem_map.mpr ⟨c, hc, rfl⟩)
      rw [e] at hin pw
      rcases List.mem_cons.mp hin with z | z
      · injection z with z
        subst z
        rw [rx.uniq rc]
        exact Int.le_refl _
      · have := (List.pairwise_cons.mp pw).1 _ z x0 x ⟨c0, rfl, rx.sq⟩ ⟨c, rfl, rc.sq⟩
        rw [code_eq, code_eq] at this
        exact this
end Ot
namespace Ot
open PySem PySem.Spec PyProof.Rows L2 OtR
theorem tnil {σ : L2.St} {H : Hp} {Q : List V → Hp → Prop} (h : Q [] H) : tNil σ H Q := h
theorem refsOf {H : Hp} : ∀ {ys : List V}, (∀ y ∈ ys, ∃ c x, y = V.ref c ∧ Cs H c x) → ∃ cs xs, ys = cs.map V.ref ∧ Al (Cs H) cs xs
  | [], _ => ⟨[], [], rfl, Al.nil⟩
  | y :: r, h => by
    obtain ⟨cs, xs, e, al⟩ := refsOf (ys := r) (fun z hz => h z (List.mem_cons_of_mem _ hz))
    obtain ⟨c, x, rfl, hc⟩ := h y List.mem_cons_self
    exact ⟨c :: cs, x :: xs, by rw [e]; rfl, Al.append (Al.one hc) al⟩
theorem if_last {K : PySem.W.Frag} {σ : L2.St} {H : Hp} {Q : VK} {E La : Addr} {ys : List V} (h9 : σ[9]? = some (some (V.ref E))) (h5 : σ[5]? = some (some (V.ref La))) (eE : H E = some (.lst ys)) (hy : ∀ y ∈ ys, ∃ c x, y = V.ref c ∧ Cs H c x)
    (q : ∀ Z La', H Z = none → (ys ≠ [] → La' = E) → Q (V.ref La') (upd H Z (.lst []))) : tIf (tTest (tOp (rNeD K) (tVar 9) (tLst tNil))) (tVar 9) (tVar 5) σ H Q := by
  obtain ⟨cs, xs, e, al⟩ := refsOf hy
  refine ⟨_, h9, Nat.zero_le _, fun Z nZ => ⟨_, _, dp_cs (K := K) (by rw [same_new nZ _ _ eE, e]) (al.mono (fun c x h => Cs.same (same_new nZ) c x h)), dp_nil (SqL.of upd_same), sh_C xs, sh_nil, _, rfl, ?_⟩⟩
  rw [eqv_nil]
  by_cases c : ys = []
  · have h0 : xs = [] := by
      have h1 := al.1
      rw [c] at e
      have : cs = [] := List.map_eq_nil_iff.mp e.symm
      rw [this] at h1
      exact List.length_eq_zero_iff.mp h1.symm
    rw [h0]
    exact iteF ⟨_, h5, q Z La nZ (fun z => absurd c z)⟩
  · have h0 : (xs.map dC).isEmpty = false := by
      cases xs with
      | nil =>
        have : cs = [] := List.length_eq_zero_iff.mp al.1
        rw [this] at e
        exact absurd e c
      | cons _ _ => rfl
    rw [h0]
    exact iteT ⟨_, h9, q Z E nZ (fun _ => rfl)⟩
end Ot
set_option Elab.async false
set_option linter.all false
set_option maxRecDepth 100000
set_option maxHeartbeats 8000000
namespace Ot
open PySem PySem.Spec PyProof.Rows L2 OtR
open C8 (Cal pe_c)
section
variable {P : Program} {w : World} {K : PySem.W.Frag} {mg : Str → Option Value} {base : Heap}
abbrev sLaw : Stmt := stm 32
abbrev nLaw : List Str := ["_law_script", "_law_row", "_law_line_here", "_law_rows", "_law_counts", "_law_last", "_law_turn", "_law_calls", "_law_here", "_law_ends", "_law_later", "_law_person"]
theorem scLaw : FnScope nLaw ["_law_script"] (defScope sLaw) := ⟨rfl, rfl, rfl, by decide +kernel, rfl, by decide +kernel, by decide +kernel⟩
def spLaw (K : PySem.W.Frag) : Sp := fun vs H Q _ => ∃ (a : Addr) (ns : List Int), vs = [.ref a] ∧ SqL K H a (ns.map V.int) ∧ ns.length ≤ 63 ∧ ∀ H', Q (.bl true) H'
abbrev iLaw : Nat → Stmt := fun i => (defBody sLaw).getD i (.Pass ⟨0, 0, 0, 0⟩)
theorem ok_law {f : Addr} {fd : FuncData} (D : Df K mg "law" sLaw f fd) (B : Bt mg)
    (Cli : Cal P w K mg base 2 "_law_line" (spLine K) []) (Cmv : Cal P w K mg base 2 "_law_movers" spMovers []) (Cca : Cal P w K mg base 1 "_law_call" spLca [])
    (Ca0 : Cal P w K mg base 1 "_law_alike" spAl0 []) (CaT : Cal P w K mg base 2 "_law_alike" (spAlT K) [])
    (Crc : Cal P w K mg base 11 "row_counts" spRc []) (Ccr : Cal P w K mg base 11 "count_rows" spCr []) (Cmc : Cal P w K mg base 4 "most_calls" spMost [])
    (Clr : Cal P w K mg base 4 "longest_row" spRow []) (Ccl : Cal P w K mg base 12 "count_longest" spCl []) :
    FnOk P w K mg base CX0 13 f fd ["_law_script"] (spLaw K) := by
  refine D.fn.ok scLaw (fun vs H Q E h => ?_) (fun cdv A outer s H vs Q E hr h => ?_)
  · obtain ⟨a, ns, rfl, _⟩ := h
    rfl
  obtain ⟨a, ns, rfl, hS, h63, q⟩ := h
  refine ⟨_, pss_cons (ps_set (i := 1) scLaw.nd rfl (.inl rfl) (pe_lst (pa_cons (pv 0) (pa_cons pe_int (pa_cons pe_int (pa_cons pe_int pa_nil))))))
    (pss_cons (ps_set (i := 2) scLaw.nd rfl (.inl rfl) (pe_c Cli hr (by decide) (by rfl) (pa_cons (pv 1) (pa_cons pe_int pa_nil))))
    (pss_cons (ps_par3 (i := 3) (j := 4) (l := 5) rfl scLaw.nd rfl rfl rfl (by decide) (by decide) (by decide) rfl rfl rfl
      (pa_cons (pe_lst (pa_cons (pe_tup (pa_cons (pe_tup pa_nil) (pa_cons (pv 2) pa_nil))) pa_nil)) (pa_cons (pe_lst pa_nil) (pa_cons (pe_lst pa_nil) pa_nil))) (by rfl))
    (pss_cons (ps_for PassesOwn.never rfl (pi_range1 (by rfl) B.range (pa_cons pe_int pa_nil)) (pg_name (i := 6) scLaw.nd rfl (.inl rfl))
      (pss_cons (ps_set (i := 9) scLaw.nd rfl (.inl rfl) (pe_callB (cr_sortX (B := 5)) (by rfl) B.sorted (by decide +kernel) (pa_cons
          (pe_lc (own := [("_law_calls", 7), ("_law_here", 8)]) (g := gTup K 2 (gCons (gName 7) (gCons (gName 8) gNil))) (tt := tTest (tOp (rEqD K) (tCall spMovers [] C8.E0 (tCons (tVar 8) tNil)) (tLst tNil))) (te := tVar 7) rfl scLaw.nd (pi_list (pv 3))
            (blkOk_by (N := nLaw) (sc := defScope sLaw) (by decide +kernel)) (fun _ _ _ _ _ => pg_tup rfl (pgs_cons (pg_name (i := 7) scLaw.nd rfl (Or.inl rfl)) (pgs_cons (pg_name (i := 8) scLaw.nd rfl (Or.inl rfl)) pgs_nil)))
            (fun _ _ _ _ _ => pts_one (pt_cmpR (op_eqD hr.units) (pe_c Cmv hr (by decide) (by rfl) (pa_cons (pv 8) pa_nil)) (pe_lst pa_nil) (nomark _)))
            (fun _ _ _ _ _ => pv 7)) pa_nil)))
      (pss_cons (ps_expr (pe_bm PySem.F.plainAttrs_list PySem.F.slot_list_append PySem.F.type_list_append mt_append (pv 4) (pa_cons (pe_callB call_len_seq (by rfl) B.len PySem.boot_len (pa_cons (pv 9) pa_nil)) pa_nil)))
      (pss_cons (ps_set (i := 5) scLaw.nd rfl (.inl rfl) (pe_ifExp (pt_cmpR (op_neD hr.units) (pv 9) (pe_lst pa_nil) (nomark _)) (pv 9) (pv 5)))
      (pss_cons (ps_set (i := 10) scLaw.nd rfl (.inl rfl) (pe_lst pa_nil))
      (pss_cons (ps_for PassesOwn.never rfl (pi_list (pv 3)) (pg_tup rfl (pgs_cons (pg_name (i := 7) scLaw.nd rfl (.inr rfl)) (pgs_cons (pg_name (i := 8) scLaw.nd rfl (.inr rfl)) pgs_nil)))
        (pss_one (ps_set (i := 10) scLaw.nd rfl (.inl rfl) (pe_op op_cat (pv 10)
          (pe_lc (own := [("_law_person", 11)]) (g := gName 11) (tt := tYes) (te := tTup (tCons (tOp (rCatF K) (tVar 7) (tTupF (tCons (tVar 11) tNil))) (tCons (tCall spLca [] C8.E0 (tCons (tVar 8) (tCons (tVar 11) tNil))) tNil))) rfl scLaw.nd (pi_list (pe_c Cmv hr (by decide) (by rfl) (pa_cons (pv 8) pa_nil)))
            (blkOk_by (N := nLaw) (sc := defScope sLaw) (by decide +kernel)) (fun _ _ _ _ _ => pg_name (i := 11) scLaw.nd rfl (Or.inl rfl)) (fun _ _ _ _ _ => pts_nil)
            (fun _ _ _ _ _ => pe_tup (pa_cons (pe_op op_catF (pv 7) (pe_tupF (pa_cons (pv 11) pa_nil))) (pa_cons (pe_c Cca hr (by decide) (by rfl) (pa_cons (pv 8) (pa_cons (pv 11) pa_nil))) pa_nil))))))))
      (pss_cons (ps_set (i := 3) scLaw.nd rfl (.inl rfl) (pv 10))
      (pss_one (ps_if (PW.pt (pw_or (pt_cmpR (op_eqD hr.units) (pv 3) (pe_lst pa_nil) (nomark _)) (pw_or1 (pt_cmpR op_gt (pe_callB call_len_seq (by rfl) B.len PySem.boot_len (pa_cons (pv 3) pa_nil)) pe_int (nomark _))))) (pss_one ps_break) pss_nil)))))))))
    (pss_cons (ps_if (pt_cmpR op_gt (pe_callB call_len_seq (by rfl) B.len PySem.boot_len (pa_cons (pv 3) pa_nil)) pe_int (nomark _)) pss_never pss_nil)
    (pss_cons (ps_if (PW.pt (pw_or (pt_not (pt_val (pe_c CaT hr (by decide) (by rfl) (pa_cons (pe_c Crc hr (by decide) (by rfl) (pa_cons (pv 2) pa_nil)) (pa_cons (pe_callTy call_tuple_of (by rfl) B.tuple (by decide +kernel) (pa_cons (pv 4) pa_nil)) pa_nil)))))
        (pw_or1 (pt_not (pt_val (pe_c Ca0 hr (by decide) (by rfl) (pa_cons (pe_c Ccr hr (by decide) (by rfl) (pa_cons (pv 2) pa_nil)) (pa_cons (pe_callB (cr_sum (by rfl)) (by rfl) B.sum (by decide +kernel) (pa_cons (pv 4) pa_nil)) pa_nil)))))))) pss_never pss_nil)
    (pss_cons (ps_if (PW.pt (pw_or (pt_not (pt_val (pe_c Ca0 hr (by decide) (by rfl) (pa_cons (pe_c Cmc hr (by decide) (by rfl) (pa_cons (pv 2) pa_nil)) (pa_cons (pe_op op_sub (pe_callB call_len_seq (by rfl) B.len PySem.boot_len (pa_cons (pv 4) pa_nil)) pe_int) pa_nil)))))
        (pw_or1 (pt_not (pt_val (pe_c CaT hr (by decide) (by rfl) (pa_cons (pe_c Clr hr (by decide) (by rfl) (pa_cons (pv 2) pa_nil)) (pa_cons (pe_ix ix_list (pv 5) pe_int (fun _ _ => rfl)) pa_nil)))))))) pss_never pss_nil)
    (pss_one (ps_ret (pe_c Ca0 hr (by decide) (by rfl) (pa_cons (pe_c Ccl hr (by decide) (by rfl) (pa_cons (pv 2) pa_nil)) (pa_cons (pe_callB call_len_seq (by rfl) B.len PySem.boot_len (pa_cons (pv 5) pa_nil)) pa_nil))))))))))), ?_⟩
  refine ⟨_, rfl, small (by show 4 ≤ 1000; decide), fun R nR => ?_⟩
  refine ⟨_, rfl, R, a, ns, rfl, ⟨0, 9511, 0, upd_same, (same_new nR).seq hS, by decide⟩, h63, fun H1 L l k1 hL hm => ?_⟩
  refine ⟨Nat.zero_le _, fun c0 nc0 => ⟨_, rfl, small (by show 2 ≤ 1000; decide), fun p0 np0 => ⟨small (by show 1 ≤ 1000; decide), fun Rw0 nRw => ⟨Nat.zero_le _, fun Cn nCn => ⟨Nat.zero_le _, fun La0 nLa => ⟨_, _, _, rfl, ?_⟩⟩⟩⟩⟩⟩
  have t1 : Same H1 (upd H1 c0 (.tup [])) := same_new nc0
  have t2 : Same (upd H1 c0 (.tup [])) (upd (upd H1 c0 (.tup [])) p0 (.tup [.ref c0, .ref L])) := same_new np0
  have t3 := same_new (H := (upd (upd H1 c0 (.tup [])) p0 (.tup [.ref c0, .ref L]))) (o := .lst [.ref p0]) nRw
  have t4 := same_new (o := .lst []) nCn
  have t5 := same_new (o := .lst []) nLa
  have c35 := t3.trans (t4.trans t5)
  refine ⟨_, rfl, by decide, by decide, ?_⟩
  rw [show (12 : Int).toNat = 12 from rfl]
  have hRC : Rw0 ≠ Cn := ne_of_none upd_same nCn
  have pr0 : Al (Pr _) [p0] (rowsAt l 0) := Al.one (R := Pr _) (x := p0) (y := (([], l) : Rw)) ⟨c0, L, c35 _ _ upd_same, Cs.same (t2.trans c35) _ _ (.inl upd_same), hL.same (t1.trans (t2.trans c35))⟩
  have l0 := hL.same (t1.trans (t2.trans c35))
  have r0 := (t4.trans t5) _ _ (upd_same (H := (upd (upd H1 c0 (.tup [])) p0 (.tup [.ref c0, .ref L]))) (a := Rw0) (o := .lst [.ref p0]))
  have n0 := t5 Cn _ upd_same
  refine for_range (lo := 0) (n := 12) (fun t σ H3 => t ≤ turns l ∧ ∃ (Rw La : Addr) (ps : List Addr) (y6 y7 y8 y9 y10 : Option V), σ = [some (V.ref a), some (V.ref R), some (V.ref L), some (V.ref Rw), some (V.ref Cn), some (V.ref La), y6, y7, y8, y9, y10, none] ∧
      Tu H3 L l ∧ H3 Rw = some (.lst (ps.map V.ref)) ∧ Al (Pr H3) ps (rowsAt l t) ∧ H3 Cn = some (.lst ((countsAt l t).map V.int)) ∧ Rw ≠ Cn)
    ⟨Nat.zero_le _, Rw0, La0, [p0], none, none, none, none, none, rfl, l0, r0, pr0, n0, hRC⟩ (fun t σ H3 ht Pv => ?_) (fun σ H3 Pv => ?_)
  · obtain ⟨hle, Rw, La, ps, y6, y7, y8, y9, y10, rfl, hL3, eRw, alP, eCn, hRC3⟩ := Pv
    obtain ⟨hr24, hrr, hrn⟩ := lines_rows l hm t (List.mem_range.mpr ht)
    -- the ends
    refine ⟨_, rfl, Rw, rfl, ⟨_, SqL.of eRw⟩, fun D nD => ?_⟩
    have ep : (ps.map V.ref).length = ps.length := List.length_map _
    refine lc_list (a := Rw) (xs := ps.map V.ref) (fun i H4 => Same H3 H4 ∧ ∃ cs : List Addr, H4 D = some (.lst (cs.map V.ref)) ∧ Al (Cs H4) cs (ends ((rowsAt l t).take i)))
      ⟨same_new nD, [], upd_same, Al.nil⟩ (fun i H4 _ ⟨sm, _⟩ => SqL.of (sm _ _ eRw)) (fun i x H4 hx ⟨sm, cs, eD, alC⟩ => ?_) (fun H4 ⟨sm, cs, eD, alC⟩ => ?_)
    · obtain ⟨p, hp, rfl⟩ := rg hx
      obtain ⟨r, hri, c, h, epp, hc, hh⟩ := alP.getL hp
      have hrm := List.mem_of_getElem? hri
      obtain ⟨hrl, hrk, hrb⟩ := hrr r hrm
      have hi : i < (rowsAt l t).length := (List.getElem?_eq_some_iff.mp hri).1
      refine ⟨p, _, rfl, SqT.of (sm _ _ epp), rfl, _, _, rfl, _, _, rfl, rfl, rfl, ?_⟩
      refine ⟨_, rfl, h, r.2, rfl, hh.same sm, hrl, fun H5 m s5 nm em => ⟨Nat.zero_le _, fun Z nZ => ⟨_, _, dp_list (SqL.of (same_new nZ _ _ em)), dp_nil (SqL.of upd_same), sh_list _, sh_nil, _, rfl, ?_⟩⟩⟩
      rw [eqv_nil]
      have s45 : Same H4 (upd H5 Z (.lst [])) := same_keep s5 (s5.free nZ)
      generalize (upd H5 Z (.lst [])) = H6 at s45 ⊢
      have en := ends_next hri
      by_cases hmv : movers r.2 = []
      · rw [if_pos hmv] at en
        rw [hmv]
        have lcs : cs.length ≤ 24 := by
          have h1 := alC.1
          have h2 := ends_le ((rowsAt l t).take i)
          rw [List.length_take] at h2
          omega
        refine iteT ⟨_, rfl, _, s45 _ _ eD, ?_, ?_⟩
        · rw [List.length_map]
          exact small1000 (by omega)
        · refine ⟨same_keep (sm.trans s45) nD, cs ++ [c], ?_, ?_⟩
          · rw [upd_same, List.map_append]
            rfl
          · rw [en]
            have kD : Keep D H6 (upd H6 D (.lst (cs.map V.ref ++ [V.ref c]))) := keep_upd
            exact Al.append (alC.mono fun p x q => Cs.keep (s45 _ _ eD) kD _ _ (Cs.same s45 _ _ q)) (Al.one (Cs.keep (s45 _ _ eD) kD _ _ (Cs.same (sm.trans s45) _ _ hc)))
      · rw [if_neg hmv, List.append_nil] at en
        have hne : ((movers r.2).map PyData.int).isEmpty = false := by
          cases h2 : movers r.2 with
          | nil => exact absurd h2 hmv
          | cons _ _ => rfl
        rw [hne]
        refine iteF ⟨sm.trans s45, cs, s45 _ _ eD, ?_⟩
        rw [en]
        exact alC.mono fun p x q => Cs.same s45 _ _ q
    rw [ep, alP.1, List.take_length] at alC
    have hx : ∀ x ∈ ends (rowsAt l t), x.length = t ∧ ∀ m ∈ x, 0 ≤ m ∧ m < 5 := fun x hx => by
      obtain ⟨r, hr, rfl⟩ := ends_of hx
      exact ⟨(hrr r hr).2.1, (hrr r hr).2.2⟩
    have hel := ends_le (rowsAt l t)
    have h0 : t = 0 → (ends (rowsAt l t)).length ≤ 1 := fun e => by
      subst e
      exact hel
    refine tnil ?_
    show rSortX K 5 [V.ref D] H4 _
    refine sortE (K := K) eD alC (by omega) hx h0 fun E ys nE pm hd => ?_
    have sHE : Same H3 (upd H4 E (.lst ys)) := same_keep sm (sm.free nE)
    have eE : (upd H4 E (.lst ys)) E = some (.lst ys) := upd_same
    have kE : Same H4 (upd H4 E (.lst ys)) := same_new nE
    have nEH : H3 E = none := sm.free nE
    have ly : ys.length = (ends (rowsAt l t)).length := by
      have := pm.length_eq
      rw [List.length_map] at this
      rw [this]
      exact alC.1
    have hys : ∀ y ∈ ys, ∃ c x, y = V.ref c ∧ Cs (upd H4 E (.lst ys)) c x := fun y hy => by
      obtain ⟨c, hc, rfl⟩ := List.mem_map.mp (pm.mem_iff.mp hy)
      obtain ⟨x, _, hx⟩ := alC.mem hc
      exact ⟨c, x, rfl, Cs.same kE _ _ hx⟩
    have hd5 : ∀ y0 rest, ys = y0 :: rest → ∃ c0 x0, y0 = V.ref c0 ∧ x0 ∈ ends (rowsAt l t) ∧ Cs (upd H4 E (.lst ys)) c0 x0 ∧ ∀ x ∈ ends (rowsAt l t), codeM 5 x0 ≤ codeM 5 x := fun y0 rest e => by
      obtain ⟨c0, x0, e1, e2, e3, e4⟩ := hd y0 rest e
      exact ⟨c0, x0, e1, e2, Cs.same kE _ _ e3, e4⟩
    generalize (upd H4 E (.lst ys)) = H5 at sHE eE hys hd5 ⊢
    clear kE hd nE eD alC sm pm nD
    -- their number
    have nEC : E ≠ Cn := fun z => by rw [z, eCn] at nEH; cases nEH
    have eCn5 := sHE _ _ eCn
    have lC : (countsAt l t).length = t := by unfold countsAt; rw [List.length_map, List.length_range]
    refine ⟨_, rfl, .inl ⟨rfl, _, SqL.of eCn5⟩, _, rfl, E, ys, rfl, .inl (SqL.of eE), Cn, _, _, rfl, rfl, eCn5, ?_, ?_⟩
    · rw [List.length_map]
      exact small1000 (by omega)
    have kC : Keep Cn H5 (upd H5 Cn (.lst ((countsAt l t).map V.int ++ [V.int (ys.length : Nat)]))) := keep_upd
    have eCn6 : (upd H5 Cn (.lst ((countsAt l t).map V.int ++ [V.int (ys.length : Nat)]))) Cn = some (.lst ((countsAt l (t + 1)).map V.int)) := by
      rw [upd_same, ly]
      unfold countsAt
      rw [List.range_succ, List.map_append, List.map_append]
      rfl
    generalize (upd H5 Cn (.lst ((countsAt l t).map V.int ++ [V.int (ys.length : Nat)]))) = H6 at kC eCn6 ⊢
    have eE6 := kC _ _ nEC eE
    have eRw6 := kC _ _ hRC3 (sHE _ _ eRw)
    have alP6 := alP.mono fun p r h => Pr.keep eCn5 kC _ _ (Pr.same sHE _ _ h)
    have hL6 := tu_keep eCn5 kC (hL3.same sHE)
    have hys6 : ∀ y ∈ ys, ∃ c x, y = V.ref c ∧ Cs H6 c x := fun y hy => let ⟨c, x, e, h⟩ := hys y hy; ⟨c, x, e, Cs.keep eCn5 kC _ _ h⟩
    have hd6 : ∀ y0 rest, ys = y0 :: rest → ∃ c0 x0, y0 = V.ref c0 ∧ x0 ∈ ends (rowsAt l t) ∧ Cs H6 c0 x0 ∧ ∀ x ∈ ends (rowsAt l t), codeM 5 x0 ≤ codeM 5 x := fun y0 rest e => by
      obtain ⟨c0, x0, e1, e2, e3, e4⟩ := hd5 y0 rest e
      exact ⟨c0, x0, e1, e2, Cs.keep eCn5 kC _ _ e3, e4⟩
    clear hys hd5 kC eE eCn5
    -- the last that is not empty
    refine if_last (K := K) rfl rfl eE6 hys6 fun Z La' nZ hLa => ?_
    -- later
    refine ⟨Nat.zero_le _, fun Lt nLt => ?_⟩
    have s68 : Same H6 (upd (upd H6 Z (.lst [])) Lt (.lst [])) := (same_new nZ).trans (same_new nLt)
    have hLtC : Lt ≠ Cn := fun z => by rw [z, same_new nZ _ _ eCn6] at nLt; cases nLt
    have eLt : (upd (upd H6 Z (.lst [])) Lt (.lst [])) Lt = some (.lst (([] : List Addr).map V.ref)) := upd_same
    generalize (upd (upd H6 Z (.lst [])) Lt (.lst [])) = H8 at s68 eLt ⊢
    have eRw8 := s68 _ _ eRw6
    have alP8 := alP6.mono fun p r h => Pr.same s68 _ _ h
    refine ⟨_, rfl, Rw, rfl, ⟨_, SqL.of eRw8⟩, ?_⟩
    refine for_list (xs := ps.map V.ref) (fun j σ H' => ∃ (y7 y8 : Option V) (Lj : Addr) (qs : List Addr), σ = [some (V.ref a), some (V.ref R), some (V.ref L), some (V.ref Rw), some (V.ref Cn), some (V.ref La'), some (.int (0 + (t : Int))), y7, y8, some (V.ref E), some (V.ref Lj), none] ∧
        Same H8 H' ∧ H' Lj = some (.lst (qs.map V.ref)) ∧ Al (Pr H') qs (((rowsAt l t).take j).flatMap stepR) ∧ Lj ≠ Cn)
      ⟨y7, y8, Lt, [], rfl, Same.refl _, eLt, Al.nil, hLtC⟩ (fun j σ H' _ ⟨_, _, _, _, _, s, _⟩ => SqL.of (s _ _ eRw8)) (fun j x σ H' hx Pv => ?_) (fun σ H' Pv => ?_)
    · obtain ⟨y7, y8, Lj, qs, rfl, s8, eLj, alQ, hLC⟩ := Pv
      obtain ⟨p, hp, rfl⟩ := rg hx
      obtain ⟨r, hri, c, h, epp, hc, hh⟩ := alP8.getL hp
      have hrm := List.mem_of_getElem? hri
      obtain ⟨hrl, hrk, hrb⟩ := hrr r hrm
      have hj : j < (rowsAt l t).length := (List.getElem?_eq_some_iff.mp hri).1
      have fn := flat_next hri
      have lq : qs.length ≤ 5 * 24 := by
        have h1 := alQ.1
        have h2 := flat_le (rs := (rowsAt l t).take j) (fun x hx => (hrr x (List.mem_of_mem_take hx)).1)
        rw [List.length_take] at h2
        omega
      have m5 := movers_le hrl
      refine ⟨p, _, rfl, SqT.of (s8 _ _ epp), rfl, _, _, rfl, _, _, rfl, rfl, ?_⟩
      refine ⟨_, rfl, _, rfl, h, r.2, rfl, hh.same s8, hrl, fun H9 m s9 nm em => ⟨m, rfl, ⟨_, SqL.of em⟩, fun D nD => ?_⟩⟩
      have s89 := s8.trans s9
      have hmv := (lines_move _ hrl).2.1
      have ls : (stepR r).length = (movers r.2).length := List.length_map _
      have lm : ((movers r.2).map V.int).length = (movers r.2).length := List.length_map _
      refine lc_list (a := m) (xs := (movers r.2).map V.int) (fun i H10 => Same H9 H10 ∧ ∃ qs' : List Addr, H10 D = some (.lst (qs'.map V.ref)) ∧ Al (Pr H10) qs' ((stepR r).take i))
        ⟨same_new nD, [], upd_same, by rw [List.take_zero]; exact Al.nil⟩ (fun i H10 _ ⟨s, _⟩ => SqL.of (s _ _ em)) (fun i x H10 hx ⟨s10, qs', eD, alS⟩ => ?_) (fun H10 ⟨s10, qs', eD, alS⟩ => ?_)
      · obtain ⟨z, hz, rfl⟩ := gv hx
        have hi : i < (movers r.2).length := (List.getElem?_eq_some_iff.mp hz).1
        obtain ⟨hzl, _⟩ := hmv z (mem_gi hz)
        have hsz : (stepR r)[i]? = some (r.1 ++ [z], call r.2 z) := by
          unfold stepR
          rw [List.getElem?_map, hz]
          rfl
        have s8a := s89.trans s10
        have lqs : qs'.length ≤ 5 := by
          have h1 := alS.1
          rw [List.length_take] at h1
          omega
        refine ⟨rfl, ?_⟩
        refine tyes ?_
        refine ⟨_, rfl, _, rfl, small (by show 1 ≤ 1000; decide), fun p2 o2 d2 n2 => ?_⟩
        have s2 : Same H10 (upd H10 p2 (.frz o2 (.tup [V.int z]))) := same_new n2
        refine cat1 (xs := r.1.map V.int) (ys := [V.int z]) (Cs.sq (Cs.same (s8a.trans s2) _ _ hc)) (Kn.new d2) (List.cons_ne_nil _ _) ?_ fun H11 c' s11 hc' => ?_
        · rw [List.length_map, hrk]
          exact small (by show t + 1 ≤ 1000; omega)
        have s211 := s2.trans s11
        refine ⟨_, rfl, _, rfl, h, r.2, z, rfl, hh.same (s8a.trans s211), hzl, hrl, fun H12 h' s12 hh' => ⟨small (by show 2 ≤ 1000; decide), fun T nT => ?_⟩⟩
        have sT : Same H12 (upd H12 T (.tup [.ref c', .ref h'])) := same_new nT
        have eT : (upd H12 T (.tup [.ref c', .ref h'])) T = some (.tup [.ref c', .ref h']) := upd_same
        generalize (upd H12 T (.tup [.ref c', .ref h'])) = H13 at sT eT ⊢
        have sA := s211.trans (s12.trans sT)
        refine ⟨_, sA _ _ eD, ?_, ?_⟩
        · rw [List.length_map]
          exact small1000 (by omega)
        · refine ⟨same_keep (s10.trans sA) nD, qs' ++ [T], ?_, ?_⟩
          · rw [upd_same, List.map_append]
            rfl
          · have kD : Keep D H13 (upd H13 D (.lst (qs'.map V.ref ++ [V.ref T]))) := keep_upd
            have eD13 := sA _ _ eD
            rw [List.take_add_one, hsz]
            refine Al.append (alS.mono fun p x q => Pr.keep eD13 kD _ _ (Pr.same sA _ _ q)) (Al.one (Pr.keep eD13 kD _ _ ⟨c', h', eT, ?_, hh'.same sT⟩))
            refine Cs.same (s12.trans sT) _ _ (Cs.kn ?_)
            show Kn H11 c' ((r.1 ++ [z]).map V.int)
            rw [List.map_append]
            exact hc'
      · rw [lm, ← ls, List.take_length] at alS
        have lqs : qs'.length ≤ 5 := by
          have h1 := alS.1
          omega
        have s810 := s9.trans s10
        refine ⟨Lj, D, _, _, rfl, rfl, s810 _ _ eLj, eD, ?_, fun N nN => ?_⟩
        · rw [List.length_map, List.length_map]
          exact small (by omega)
        · have sN := same_new (o := .lst (qs.map V.ref ++ qs'.map V.ref)) nN
          refine ⟨_, _, N, qs ++ qs', rfl, (s8.trans s810).trans sN, ?_, ?_, fun z => ?_⟩
          · rw [upd_same, List.map_append]
          · rw [fn]
            exact Al.append (alQ.mono fun p x q => Pr.same (s810.trans sN) _ _ q) (alS.mono fun p x q => Pr.same sN _ _ q)
          · rw [z, s810 _ _ (s8 _ _ (s68 _ _ eCn6))] at nN
            cases nN
    · obtain ⟨y7, y8, Lj, qs, rfl, s8, eLj, alQ, hLC⟩ := Pv
      rw [ep, alP.1, List.take_length, ← later_eq] at alQ
      have alQ : Al (Pr H') qs (rowsAt l (t + 1)) := alQ
      have hL8 := (hL6.same s68).same s8
      have eCn8 := s8 _ _ (s68 _ _ eCn6)
      have eE8 := s8 _ _ (s68 _ _ eE6)
      have s6' := s68.trans s8
      refine ⟨_, rfl, ?_⟩
      refine ⟨_, rfl, Nat.zero_le _, fun Z2 nZ2 => ⟨_, _, dp_rs (K := K) (same_new nZ2 _ _ eLj) (alQ.mono fun p x h => Pr.same (same_new nZ2) _ _ h), dp_nil (SqL.of upd_same), sh_R _, sh_nil, _, rfl, ?_⟩⟩
      rw [eqv_nil]
      have sZ : Same H' (upd H' Z2 (.lst [])) := same_new nZ2
      generalize (upd H' Z2 (.lst [])) = H9 at sZ ⊢
      have eLj9 := sZ _ _ eLj
      have eCn9 := sZ _ _ eCn8
      have eE9 := sZ _ _ eE8
      have hL9 := hL8.same sZ
      by_cases hend : rowsAt l (t + 1) = []
      · have ht2 : turns l ≤ t := hrn.mp hend
        have htt : t = turns l := by omega
        have e0 : ((rowsAt l (t + 1)).map dR).isEmpty = true := by rw [hend]; rfl
        rw [e0]
        refine iteT (iteT ?_)
        -- behind the loop
        obtain ⟨le1, le2, le3⟩ := lines_end l hm
        have lq0 : (qs.map V.ref).length = 0 := by
          rw [List.length_map, alQ.1, hend]
          rfl
        refine ⟨_, rfl, Lj, _, rfl, .inl (SqL.of eLj9), _, _, rfl, rfl, _, rfl, ?_⟩
        rw [lq0]
        refine iteF ?_
        subst htt
        have f1 := lines_law1 l hm
        have f2 := lines_law2 l hm
        have f3 := lines_law3 l hm
        obtain ⟨f4, f4'⟩ := lines_law4 l hm
        have f5 := lines_law5 l hm
        have lC1 : (countsAt l (turns l + 1)).length = turns l + 1 := by unfold countsAt; rw [List.length_map, List.length_range]
        have hne : ys ≠ [] := fun z => by
          have h1 : (ends (rowsAt l (turns l))).length = 0 := by rw [← ly, z]; rfl
          rw [List.length_eq_zero_iff.mp h1] at f4
          exact absurd f4 List.not_mem_nil
        have hLaE := hLa hne
        subst hLaE
        -- row_counts
        refine ⟨_, rfl, L, l, rfl, hL9, hm, fun Ha r sa ea => ?_⟩
        refine ⟨_, rfl, Cn, _, rfl, .inl ⟨SqL.of (sa _ _ eCn9), fun T nT => ?_⟩⟩
        have sT : Same Ha (upd Ha T (.tup ((countsAt l (turns l + 1)).map V.int))) := same_new nT
        refine ⟨r, T, countsAt l (turns l + 1), rfl, SqT.of (sT _ _ (by rw [ea, ← f1]; rfl)), SqT.of upd_same, by omega, fun Hb sb => ⟨true, rfl, iteF ?_⟩⟩
        have s9b := sa.trans (sT.trans sb)
        -- count_rows
        refine ⟨_, rfl, L, l, rfl, hL9.same s9b, hm, fun Hc sc => ⟨_, rfl, Cn, countsAt l (turns l + 1), rfl, SqL.of (sc _ _ (s9b _ _ eCn9)), ⟨(countsAt l (turns l + 1)).sum, by rw [f2]; rfl, fun Hd sd => ⟨true, rfl, iteF ?_⟩⟩⟩⟩
        have s9d := s9b.trans (sc.trans sd)
        -- most_calls
        refine ⟨_, rfl, L, l, rfl, hL9.same s9d, hm, fun He se => ⟨_, rfl, Cn, _, rfl, .inl (SqL.of (se _ _ (s9d _ _ eCn9))), _, _, rfl, rfl, ⟨rank l, by
          have e : ((((countsAt l (turns l + 1)).map V.int).length : Nat) : Int) - 1 = rank l := by rw [f3, List.length_map]
          show [V.int (rank l), V.int (((((countsAt l (turns l + 1)).map V.int).length : Nat) : Int) - 1)] = _
          rw [e], fun Hf sf => ⟨true, rfl, iteF ?_⟩⟩⟩⟩
        have s9f := s9d.trans (se.trans sf)
        -- longest_row
        refine ⟨_, rfl, L, l, rfl, hL9.same s9f, hm, fun Hg rg' sg eg => ?_⟩
        have s9g := s9f.trans sg
        obtain ⟨y0, rest, ey⟩ : ∃ y0 rest, ys = y0 :: rest := by
          cases ys with
          | nil => exact absurd rfl hne
          | cons y r => exact ⟨y, r, rfl⟩
        obtain ⟨c0, x0, rfl, hx0, hc0, hmin⟩ := hd6 y0 rest ey
        have ex : x0 = row l := (f4' x0 hx0).2 (Int.le_antisymm (hmin _ f4) (f4' x0 hx0).1)
        subst ex
        have eE10 := s9g _ _ eE9
        refine ⟨_, rfl, La', _, 0, _, rfl, rfl, SqL.of eE10, at_of (j := 0) rfl (by rw [ey]; rfl), ?_⟩
        have hc10 := Cs.same (s6'.trans (sZ.trans s9g)) _ _ hc0
        refine ⟨rg', c0, row l, rfl, SqT.of eg, hc10.sq, by have := row_len l; omega, fun Hh sh => ⟨true, rfl, iteF ?_⟩⟩
        -- count_longest
        refine ⟨_, rfl, L, l, rfl, hL9.same (s9g.trans sh), hm, fun Hi si => ⟨_, rfl, La', ys, rfl, .inl (SqL.of (si _ _ (sh _ _ eE10))), ⟨cnt l, by rw [show ((ys.length : Nat) : Int) = cnt l by rw [f5, ly]]; rfl, fun Hj _ => q Hj⟩⟩⟩
      · have e0 : ((rowsAt l (t + 1)).map dR).isEmpty = false := by
          cases h2 : rowsAt l (t + 1) with
          | nil => exact absurd h2 hend
          | cons _ _ => rfl
        rw [e0]
        refine iteF ?_
        have ht2 : ¬ turns l ≤ t := fun z => hend (hrn.mpr z)
        have l24 : (rowsAt l (t + 1)).length ≤ 24 := (lines_rows l hm (t + 1) (List.mem_range.mpr (by have := (lines_end l hm).2.2; omega))).1
        refine ⟨_, rfl, Lj, _, rfl, .inl (SqL.of eLj9), _, _, rfl, rfl, _, rfl, ?_⟩
        rw [decide_eq_false (by rw [List.length_map, alQ.1]; omega : ¬ (4000 : Int) < (((qs.map V.ref).length : Nat) : Int))]
        refine iteF ?_
        exact ⟨by omega, Lj, La', qs, _, _, _, _, _, rfl, hL9, eLj9, alQ.mono (fun p x h => Pr.same sZ _ _ h), eCn9, hLC⟩
  · obtain ⟨hle, _⟩ := Pv
    have := (lines_end l hm).2.2
    omega
end
end Ot
set_option Elab.async false
set_option linter.all false
set_option maxRecDepth 100000
set_option maxHeartbeats 4000000
namespace Ot
open PySem PySem.Spec PyProof.Rows L2 OtR
open C8 (Cal pe_c)
/-! ### what the top has written -/
theorem all_mk {l : PySem.W.OpenLaw} {w : World} {K : PySem.W.Frag} {h : Heap} {mg : Str → Option Value} {fa f1 f2 f3 f4 f5 f6 f7 f8 f9 f10 f11 f12 f13 f14 f15 f16 f17 f18 f19 f20 f21 f22 f23 : Addr} (X : K.In h) (G : h.Ns mainGlobals mg) (hfa : mg "law" = some (.ref fa))
    {od1 an1 od2 an2 od3 an3 od4 an4 od5 an5 od6 an6 od7 an7 od8 an8 od9 an9 od10 an10 od11 an11 od12 an12 od13 an13 od14 an14 od15 an15 od16 an16 od17 an17 od18 an18 od19 an19 od20 an20 od21 an21 od22 an22 od23 an23 : Option Addr} {sl1 sl2 sl3 sl4 sl5 sl6 sl7 sl8 sl9 sl10 sl11 sl12 sl13 sl14 sl15 sl16 sl17 sl18 sl19 sl20 sl21 sl22 sl23 : Array (Option Value)} {oc1 kV1 dc1 pm1 cd1 ct1 oc2 kV2 dc2 pm2 cd2 ct2 oc3 kV3 dc3 pm3 cd3 ct3 oc4 kV4 dc4 pm4 cd4 ct4 oc5 kV5 dc5 pm5 cd5 ct5 oc6 kV6 dc6 pm6 cd6 ct6 oc7 kV7 dc7 pm7 cd7 ct7 oc8 kV8 dc8 pm8 cd8 ct8 oc9 kV9 dc9 pm9 cd9 ct9 oc10 kV10 dc10 pm10 cd10 ct10 oc11 kV11 dc11 pm11 cd11 ct11 oc12 kV12 dc12 pm12 cd12 ct12 oc13 kV13 dc13 pm13 cd13 ct13 oc14 kV14 dc14 pm14 cd14 ct14 oc15 kV15 dc15 pm15 cd15 ct15 oc16 kV16 dc16 pm16 cd16 ct16 oc17 kV17 dc17 pm17 cd17 ct17 oc18 kV18 dc18 pm18 cd18 ct18 oc19 kV19 dc19 pm19 cd19 ct19 oc20 kV20 dc20 pm20 cd20 ct20 oc21 kV21 dc21 pm21 cd21 ct21 oc22 kV22 dc22 pm22 cd22 ct22 oc23 kV23 dc23 pm23 cd23 ct23 : Value} {t8 : Tok}
    (a1 : PySem.W.nsIn K mainGlobals "is_integer" = some (some (.ref f1))) (l1 : K.lookup f1 = some ⟨oc1, od1, .func (PySem.W.fnOf "is_integer" "is_integer" (defArgs sIsInt) (defBody sIsInt) (defScope sIsInt) .none kV1 dc1 pm1 an1 cd1 ct1), sl1⟩) (c1 : PySem.W.codeIn K cd1 "is_integer" = true) (k1 : PySem.W.keepIn K (.ref f1) = true)
    (a2 : PySem.W.nsIn K mainGlobals "is_in" = some (some (.ref f2))) (l2 : K.lookup f2 = some ⟨oc2, od2, .func (PySem.W.fnOf "is_in" "is_in" (defArgs sIsIn) (defBody sIsIn) (defScope sIsIn) .none kV2 dc2 pm2 an2 cd2 ct2), sl2⟩) (c2 : PySem.W.codeIn K cd2 "is_in" = true) (k2 : PySem.W.keepIn K (.ref f2) = true)
    (a3 : PySem.W.nsIn K mainGlobals "is_list" = some (some (.ref f3))) (l3 : K.lookup f3 = some ⟨oc3, od3, .func (PySem.W.fnOf "is_list" "is_list" (defArgs sIsList) (defBody sIsList) (defScope sIsList) .none kV3 dc3 pm3 an3 cd3 ct3), sl3⟩) (c3 : PySem.W.codeIn K cd3 "is_list" = true) (k3 : PySem.W.keepIn K (.ref f3) = true)
    (a4 : PySem.W.nsIn K mainGlobals "need_line" = some (some (.ref f4))) (l4 : K.lookup f4 = some ⟨oc4, od4, .func (PySem.W.fnOf "need_line" "need_line" (defArgs sNeed) (defBody sNeed) (defScope sNeed) .none kV4 dc4 pm4 an4 cd4 ct4), sl4⟩) (c4 : PySem.W.codeIn K cd4 "need_line" = true) (k4 : PySem.W.keepIn K (.ref f4) = true)
    (a5 : PySem.W.nsIn K mainGlobals "goal_in" = some (some (.ref f5))) (l5 : K.lookup f5 = some ⟨oc5, od5, .func (PySem.W.fnOf "goal_in" "goal_in" (defArgs sGoal) (defBody sGoal) (defScope sGoal) .none kV5 dc5 pm5 an5 cd5 ct5), sl5⟩) (c5 : PySem.W.codeIn K cd5 "goal_in" = true) (k5 : PySem.W.keepIn K (.ref f5) = true)
    (a6 : PySem.W.nsIn K mainGlobals "call_in" = some (some (.ref f6))) (l6 : K.lookup f6 = some ⟨oc6, od6, .func (PySem.W.fnOf "call_in" "call_in" (defArgs sCall) (defBody sCall) (defScope sCall) .none kV6 dc6 pm6 an6 cd6 ct6), sl6⟩) (c6 : PySem.W.codeIn K cd6 "call_in" = true) (k6 : PySem.W.keepIn K (.ref f6) = true)
    (a7 : PySem.W.nsIn K mainGlobals "movers_in" = some (some (.ref f7))) (l7 : K.lookup f7 = some ⟨oc7, od7, .func (PySem.W.fnOf "movers_in" "movers_in" (defArgs sMovers) (defBody sMovers) (defScope sMovers) .none kV7 dc7 pm7 an7 cd7 ct7), sl7⟩) (c7 : PySem.W.codeIn K cd7 "movers_in" = true) (k7 : PySem.W.keepIn K (.ref f7) = true)
    (a8 : PySem.W.nsIn K mainGlobals "runs_in" = some (some (.ref f8))) (l8 : K.lookup f8 = some ⟨oc8, od8, .func (PySem.W.fnOf "runs_in" "runs_in" (defArgs sRuns) (defBody sRuns) (defScope sRuns) .none kV8 dc8 pm8 an8 cd8 ct8), sl8⟩) (c8 : PySem.W.codeIn K cd8 "runs_in" = true) (k8 : PySem.W.keepIn K (.ref f8) = true)
    (a9 : PySem.W.nsIn K mainGlobals "counts_in" = some (some (.ref f9))) (l9 : K.lookup f9 = some ⟨oc9, od9, .func (PySem.W.fnOf "counts_in" "counts_in" (defArgs sCnts) (defBody sCnts) (defScope sCnts) .none kV9 dc9 pm9 an9 cd9 ct9), sl9⟩) (c9 : PySem.W.codeIn K cd9 "counts_in" = true) (k9 : PySem.W.keepIn K (.ref f9) = true)
    (a10 : PySem.W.nsIn K mainGlobals "most_calls" = some (some (.ref f10))) (l10 : K.lookup f10 = some ⟨oc10, od10, .func (PySem.W.fnOf "most_calls" "most_calls" (defArgs sMost) (defBody sMost) (defScope sMost) .none kV10 dc10 pm10 an10 cd10 ct10), sl10⟩) (c10 : PySem.W.codeIn K cd10 "most_calls" = true) (k10 : PySem.W.keepIn K (.ref f10) = true)
    (a11 : PySem.W.nsIn K mainGlobals "plain_in" = some (some (.ref f11))) (l11 : K.lookup f11 = some ⟨oc11, od11, .func (PySem.W.fnOf "plain_in" "plain_in" (defArgs sPlain) (defBody sPlain) (defScope sPlain) .none kV11 dc11 pm11 an11 cd11 ct11), sl11⟩) (c11 : PySem.W.codeIn K cd11 "plain_in" = true) (k11 : PySem.W.keepIn K (.ref f11) = true)
    (a12 : PySem.W.nsIn K mainGlobals "longest_row" = some (some (.ref f12))) (l12 : K.lookup f12 = some ⟨oc12, od12, .func (PySem.W.fnOf "longest_row" "longest_row" (defArgs sRow) (defBody sRow) (defScope sRow) .none kV12 dc12 pm12 an12 cd12 ct12), sl12⟩) (c12 : PySem.W.codeIn K cd12 "longest_row" = true) (k12 : PySem.W.keepIn K (.ref f12) = true)
    (a13 : PySem.W.nsIn K mainGlobals "longest_from" = some (some (.ref f13))) (l13 : K.lookup f13 = some ⟨oc13, od13, .func (PySem.W.fnOf "longest_from" "longest_from" (defArgs sLf) (defBody sLf) (defScope sLf) .none kV13 dc13 pm13 an13 cd13 ct13), sl13⟩) (c13 : PySem.W.codeIn K cd13 "longest_from" = true) (k13 : PySem.W.keepIn K (.ref f13) = true)
    (a14 : PySem.W.nsIn K mainGlobals "count_longest" = some (some (.ref f14))) (l14 : K.lookup f14 = some ⟨oc14, od14, .func (PySem.W.fnOf "count_longest" "count_longest" (defArgs sCl) (defBody sCl) (defScope sCl) .none kV14 dc14 pm14 an14 cd14 ct14), sl14⟩) (c14 : PySem.W.codeIn K cd14 "count_longest" = true) (k14 : PySem.W.keepIn K (.ref f14) = true)
    (a15 : PySem.W.nsIn K mainGlobals "counts_from" = some (some (.ref f15))) (l15 : K.lookup f15 = some ⟨oc15, od15, .func (PySem.W.fnOf "counts_from" "counts_from" (defArgs sCf) (defBody sCf) (defScope sCf) .none kV15 dc15 pm15 an15 cd15 ct15), sl15⟩) (c15 : PySem.W.codeIn K cd15 "counts_from" = true) (k15 : PySem.W.keepIn K (.ref f15) = true)
    (a16 : PySem.W.nsIn K mainGlobals "row_counts" = some (some (.ref f16))) (l16 : K.lookup f16 = some ⟨oc16, od16, .func (PySem.W.fnOf "row_counts" "row_counts" (defArgs sRc) (defBody sRc) (defScope sRc) .none kV16 dc16 pm16 an16 cd16 ct16), sl16⟩) (c16 : PySem.W.codeIn K cd16 "row_counts" = true) (k16 : PySem.W.keepIn K (.ref f16) = true)
    (a17 : PySem.W.nsIn K mainGlobals "count_rows" = some (some (.ref f17))) (l17 : K.lookup f17 = some ⟨oc17, od17, .func (PySem.W.fnOf "count_rows" "count_rows" (defArgs sCr) (defBody sCr) (defScope sCr) .none kV17 dc17 pm17 an17 cd17 ct17), sl17⟩) (c17 : PySem.W.codeIn K cd17 "count_rows" = true) (k17 : PySem.W.keepIn K (.ref f17) = true)
    (a18 : PySem.W.nsIn K mainGlobals "_law_taken" = some (some (.ref f18))) (l18 : K.lookup f18 = some ⟨oc18, od18, .func (PySem.W.fnOf "_law_taken" "_law_taken" (defArgs sTak) (defBody sTak) (defScope sTak) .none kV18 dc18 pm18 an18 cd18 ct18), sl18⟩) (c18 : PySem.W.codeIn K cd18 "_law_taken" = true) (k18 : PySem.W.keepIn K (.ref f18) = true)
    (a19 : PySem.W.nsIn K mainGlobals "_law_alike" = some (some (.ref f19))) (l19 : K.lookup f19 = some ⟨oc19, od19, .func (PySem.W.fnOf "_law_alike" "_law_alike" (defArgs sAl) (defBody sAl) (defScope sAl) .none kV19 dc19 pm19 an19 cd19 ct19), sl19⟩) (c19 : PySem.W.codeIn K cd19 "_law_alike" = true) (k19 : PySem.W.keepIn K (.ref f19) = true)
    (a20 : PySem.W.nsIn K mainGlobals "_law_line" = some (some (.ref f20))) (l20 : K.lookup f20 = some ⟨oc20, od20, .func (PySem.W.fnOf "_law_line" "_law_line" (defArgs sLine) (defBody sLine) (defScope sLine) .none kV20 dc20 pm20 an20 cd20 ct20), sl20⟩) (c20 : PySem.W.codeIn K cd20 "_law_line" = true) (k20 : PySem.W.keepIn K (.ref f20) = true)
    (a21 : PySem.W.nsIn K mainGlobals "_law_call" = some (some (.ref f21))) (l21 : K.lookup f21 = some ⟨oc21, od21, .func (PySem.W.fnOf "_law_call" "_law_call" (defArgs sLca) (defBody sLca) (defScope sLca) .none kV21 dc21 pm21 an21 cd21 ct21), sl21⟩) (c21 : PySem.W.codeIn K cd21 "_law_call" = true) (k21 : PySem.W.keepIn K (.ref f21) = true)
    (a22 : PySem.W.nsIn K mainGlobals "_law_movers" = some (some (.ref f22))) (l22 : K.lookup f22 = some ⟨oc22, od22, .func (PySem.W.fnOf "_law_movers" "_law_movers" (defArgs sLmv) (defBody sLmv) (defScope sLmv) .none kV22 dc22 pm22 an22 cd22 ct22), sl22⟩) (c22 : PySem.W.codeIn K cd22 "_law_movers" = true) (k22 : PySem.W.keepIn K (.ref f22) = true)
    (a23 : PySem.W.nsIn K mainGlobals "law" = some (some (.ref f23))) (l23 : K.lookup f23 = some ⟨oc23, od23, .func (PySem.W.fnOf "law" "law" (defArgs sLaw) (defBody sLaw) (defScope sLaw) .none kV23 dc23 pm23 an23 cd23 ct23), sl23⟩) (c23 : PySem.W.codeIn K cd23 "law" = true) (k23 : PySem.W.keepIn K (.ref f23) = true)
    (m8 : PySem.W.nsIn K mainGlobals "MOST_PEOPLE" = some (some (.int 8 t8)))
    (z1 : PySem.W.nsIn K mainGlobals "len" = some none) (z2 : PySem.W.nsIn K mainGlobals "range" = some none) (z3 : PySem.W.nsIn K mainGlobals "sorted" = some none) (z4 : PySem.W.nsIn K mainGlobals "enumerate" = some none) (z5 : PySem.W.nsIn K mainGlobals "isinstance" = some none) (z6 : PySem.W.nsIn K mainGlobals "int" = some none) (z7 : PySem.W.nsIn K mainGlobals "bool" = some none) (z8 : PySem.W.nsIn K mainGlobals "tuple" = some none) (z9 : PySem.W.nsIn K mainGlobals "list" = some none) (z10 : PySem.W.nsIn K mainGlobals "str" = some none) (z11 : PySem.W.nsIn K mainGlobals "sum" = some none) (z12 : PySem.W.nsIn K mainGlobals "max" = some none) :
    ∃ fd : FuncData, (∀ (s : Shared) (v : Value), BindsTo s fd ⟨[v], []⟩ [("_law_script", v)]) ∧ ∀ base : Heap, K.In base → base.Ns mainGlobals mg → FnOk l.prog w K mg base CX0 13 fa fd ["_law_script"] (spLaw K) := by
  have e := hfa.symm.trans (PySem.W.mg_of X G a23)
  cases e
  have D1 : Df K mg "is_integer" sIsInt f1 _ := ⟨fun_mk (st := sIsInt) l1 c1 k1, PySem.W.mg_of X G a1⟩
  have D2 : Df K mg "is_in" sIsIn f2 _ := ⟨fun_mk (st := sIsIn) l2 c2 k2, PySem.W.mg_of X G a2⟩
  have D3 : Df K mg "is_list" sIsList f3 _ := ⟨fun_mk (st := sIsList) l3 c3 k3, PySem.W.mg_of X G a3⟩
  have D4 : Df K mg "need_line" sNeed f4 _ := ⟨fun_mk (st := sNeed) l4 c4 k4, PySem.W.mg_of X G a4⟩
  have D5 : Df K mg "goal_in" sGoal f5 _ := ⟨fun_mk (st := sGoal) l5 c5 k5, PySem.W.mg_of X G a5⟩
  have D6 : Df K mg "call_in" sCall f6 _ := ⟨fun_mk (st := sCall) l6 c6 k6, PySem.W.mg_of X G a6⟩
  have D7 : Df K mg "movers_in" sMovers f7 _ := ⟨fun_mk (st := sMovers) l7 c7 k7, PySem.W.mg_of X G a7⟩
  have D8 : Df K mg "runs_in" sRuns f8 _ := ⟨fun_mk (st := sRuns) l8 c8 k8, PySem.W.mg_of X G a8⟩
  have D9 : Df K mg "counts_in" sCnts f9 _ := ⟨fun_mk (st := sCnts) l9 c9 k9, PySem.W.mg_of X G a9⟩
  have D10 : Df K mg "most_calls" sMost f10 _ := ⟨fun_mk (st := sMost) l10 c10 k10, PySem.W.mg_of X G a10⟩
  have D11 : Df K mg "plain_in" sPlain f11 _ := ⟨fun_mk (st := sPlain) l11 c11 k11, PySem.W.mg_of X G a11⟩
  have D12 : Df K mg "longest_row" sRow f12 _ := ⟨fun_mk (st := sRow) l12 c12 k12, PySem.W.mg_of X G a12⟩
  have D13 : Df K mg "longest_from" sLf f13 _ := ⟨fun_mk (st := sLf) l13 c13 k13, PySem.W.mg_of X G a13⟩
  have D14 : Df K mg "count_longest" sCl f14 _ := ⟨fun_mk (st := sCl) l14 c14 k14, PySem.W.mg_of X G a14⟩
  have D15 : Df K mg "counts_from" sCf f15 _ := ⟨fun_mk (st := sCf) l15 c15 k15, PySem.W.mg_of X G a15⟩
  have D16 : Df K mg "row_counts" sRc f16 _ := ⟨fun_mk (st := sRc) l16 c16 k16, PySem.W.mg_of X G a16⟩
  have D17 : Df K mg "count_rows" sCr f17 _ := ⟨fun_mk (st := sCr) l17 c17 k17, PySem.W.mg_of X G a17⟩
  have D18 : Df K mg "_law_taken" sTak f18 _ := ⟨fun_mk (st := sTak) l18 c18 k18, PySem.W.mg_of X G a18⟩
  have D19 : Df K mg "_law_alike" sAl f19 _ := ⟨fun_mk (st := sAl) l19 c19 k19, PySem.W.mg_of X G a19⟩
  have D20 : Df K mg "_law_line" sLine f20 _ := ⟨fun_mk (st := sLine) l20 c20 k20, PySem.W.mg_of X G a20⟩
  have D21 : Df K mg "_law_call" sLca f21 _ := ⟨fun_mk (st := sLca) l21 c21 k21, PySem.W.mg_of X G a21⟩
  have D22 : Df K mg "_law_movers" sLmv f22 _ := ⟨fun_mk (st := sLmv) l22 c22 k22, PySem.W.mg_of X G a22⟩
  have D23 : Df K mg "law" sLaw fa _ := ⟨fun_mk (st := sLaw) l23 c23 k23, PySem.W.mg_of X G a23⟩
  have B : Bt mg := ⟨PySem.W.mg_none_of X G z1, PySem.W.mg_none_of X G z2, PySem.W.mg_none_of X G z3, PySem.W.mg_none_of X G z4, PySem.W.mg_none_of X G z5, PySem.W.mg_none_of X G z6, PySem.W.mg_none_of X G z7, PySem.W.mg_none_of X G z8, PySem.W.mg_none_of X G z9, PySem.W.mg_none_of X G z10, PySem.W.mg_none_of X G z11, PySem.W.mg_none_of X G z12⟩
  have m := PySem.W.mg_of X G m8
  refine ⟨PySem.W.fnOf "law" "law" (defArgs sLaw) (defBody sLaw) (defScope sLaw) .none kV23 dc23 pm23 an23 cd23 ct23, fun s v => .of_eq rfl, fun base _ _ => ?_⟩
  have e1 := cal_isint (P := l.prog) (w := w) (base := base) D1 B
  have e2 := cal_isin (P := l.prog) (w := w) (base := base) D2 e1
  have e3 := cal_islist (P := l.prog) (w := w) (base := base) D3 B
  have e4 := cal_need (P := l.prog) (w := w) (base := base) D4 B e3 e2 m
  have e5 := cal_goal (P := l.prog) (w := w) (base := base) D5
  have e6 := cal_call (P := l.prog) (w := w) (base := base) D6 e5
  have e7 := cal_movers (P := l.prog) (w := w) (base := base) D7 B
  have e8 := cal_runs (P := l.prog) (w := w) (base := base) D8 B
  have e9 := cal_cnts (P := l.prog) (w := w) (base := base) D9 B e8
  have e10 := cal_most (P := l.prog) (w := w) (base := base) D10 B e4 e9
  have e11 := cal_plain (P := l.prog) (w := w) (base := base) D11 B e7 e9 e6
  have e12 := cal_row (P := l.prog) (w := w) (base := base) D12 B e4 e7 e11 e6
  have e13 := cal_lf (P := l.prog) (w := w) (base := base) D13 B e7 e11 e6 7
  have e14 := cal_cl (P := l.prog) (w := w) (base := base) D14 e4 e13
  have e15 := cal_cf (P := l.prog) (w := w) (base := base) D15 B e7 e6 7
  have e16 := cal_rc (P := l.prog) (w := w) (base := base) D16 B e4 e15
  have e17 := cal_cr (P := l.prog) (w := w) (base := base) D17 B e4 e15
  have e18 := cal_tak (P := l.prog) (w := w) (base := base) D18 B
  have e19 := cal_al0 (P := l.prog) (w := w) (base := base) D19 B
  have e19b := cal_alt (P := l.prog) (w := w) (base := base) D19 B e19
  have e20 := cal_line (P := l.prog) (w := w) (base := base) D20 B e18
  have e21 := cal_lca (P := l.prog) (w := w) (base := base) D21 B
  have e22 := cal_lmv (P := l.prog) (w := w) (base := base) D22 B e21
  exact ok_law D23 B e20 e22 e21 e19 e19b e16 e17 e10 e12 e14
end Ot
open PySem PySem.W PyProof.Rows
set_option maxHeartbeats 0 in
theorem PySem.Challenge.cw_overtake_k11_whole_longest_rows_holds : PySem.Challenge.rw_overtake_k11_whole_longest_rows.Holds := by
  w_on; o_law; k_head; (case hw => w_witness2)
  k_fill
  refine L2.walk_of (l := PySem.Challenge.rw_overtake_k11_whole_longest_rows) (n := 63) (k := 13) (x := "_law_script") (CX := fun _ => L2.CX0) (sp := fun w => Ot.spLaw _) rfl (by decide) rfl ⟨rfl, by decide, by decide⟩ (fun w h Y => PySem.W.kIn_of Y) ?F (fun _ _ a ns hl _ hS => ⟨a, ns, rfl, hS, hl, fun _ => rfl⟩) (fun _ _ _ _ _ h => h)
  case F =>
    intro w mg fa h KX G hmg
    refine' Ot.all_mk KX G hmg ?a1 ?l1 ?c1 ?k1 ?a2 ?l2 ?c2 ?k2 ?a3 ?l3 ?c3 ?k3 ?a4 ?l4 ?c4 ?k4 ?a5 ?l5 ?c5 ?k5 ?a6 ?l6 ?c6 ?k6 ?a7 ?l7 ?c7 ?k7 ?a8 ?l8 ?c8 ?k8 ?a9 ?l9 ?c9 ?k9 ?a10 ?l10 ?c10 ?k10 ?a11 ?l11 ?c11 ?k11 ?a12 ?l12 ?c12 ?k12 ?a13 ?l13 ?c13 ?k13 ?a14 ?l14 ?c14 ?k14 ?a15 ?l15 ?c15 ?k15 ?a16 ?l16 ?c16 ?k16 ?a17 ?l17 ?c17 ?k17 ?a18 ?l18 ?c18 ?k18 ?a19 ?l19 ?c19 ?k19 ?a20 ?l20 ?c20 ?k20 ?a21 ?l21 ?c21 ?k21 ?a22 ?l22 ?c22 ?k22 ?a23 ?l23 ?c23 ?k23 ?m8 ?z1 ?z2 ?z3 ?z4 ?z5 ?z6 ?z7 ?z8 ?z9 ?z10 ?z11 ?z12
    (case a1 => k_is)
    (case l1 => k_is)
    (case c1 => k_is)
    (case k1 => k_is)
    (case a2 => k_is)
    (case l2 => k_is)
    (case c2 => k_is)
    (case k2 => k_is)
    (case a3 => k_is)
    (case l3 => k_is)
    (case c3 => k_is)
    (case k3 => k_is)
    (case a4 => k_is)
    (case l4 => k_is)
    (case c4 => k_is)
    (case k4 => k_is)
    (case a5 => k_is)
    (case l5 => k_is)
    (case c5 => k_is)
    (case k5 => k_is)
    (case a6 => k_is)
    (case l6 => k_is)
    (case c6 => k_is)
    (case k6 => k_is)
    (case a7 => k_is)
    (case l7 => k_is)
    (case c7 => k_is)
    (case k7 => k_is)
    (case a8 => k_is)
    (case l8 => k_is)
    (case c8 => k_is)
    (case k8 => k_is)
    (case a9 => k_is)
    (case l9 => k_is)
    (case c9 => k_is)
    (case k9 => k_is)
    (case a10 => k_is)
    (case l10 => k_is)
    (case c10 => k_is)
    (case k10 => k_is)
    (case a11 => k_is)
    (case l11 => k_is)
    (case c11 => k_is)
    (case k11 => k_is)
    (case a12 => k_is)
    (case l12 => k_is)
    (case c12 => k_is)
    (case k12 => k_is)
    (case a13 => k_is)
    (case l13 => k_is)
    (case c13 => k_is)
    (case k13 => k_is)
    (case a14 => k_is)
    (case l14 => k_is)
    (case c14 => k_is)
    (case k14 => k_is)
    (case a15 => k_is)
    (case l15 => k_is)
    (case c15 => k_is)
    (case k15 => k_is)
    (case a16 => k_is)
    (case l16 => k_is)
    (case c16 => k_is)
    (case k16 => k_is)
    (case a17 => k_is)
    (case l17 => k_is)
    (case c17 => k_is)
    (case k17 => k_is)
    (case a18 => k_is)
    (case l18 => k_is)
    (case c18 => k_is)
    (case k18 => k_is)
    (case a19 => k_is)
    (case l19 => k_is)
    (case c19 => k_is)
    (case k19 => k_is)
    (case a20 => k_is)
    (case l20 => k_is)
    (case c20 => k_is)
    (case k20 => k_is)
    (case a21 => k_is)
    (case l21 => k_is)
    (case c21 => k_is)
    (case k21 => k_is)
    (case a22 => k_is)
    (case l22 => k_is)
    (case c22 => k_is)
    (case k22 => k_is)
    (case a23 => k_is)
    (case l23 => k_is)
    (case c23 => k_is)
    (case k23 => k_is)
    (case m8 => k_is)
    (case z1 => k_is)
    (case z2 => k_is)
    (case z3 => k_is)
    (case z4 => k_is)
    (case z5 => k_is)
    (case z6 => k_is)
    (case z7 => k_is)
    (case z8 => k_is)
    (case z9 => k_is)
    (case z10 => k_is)
    (case z11 => k_is)
    (case z12 => k_is)
