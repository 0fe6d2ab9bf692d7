import PyProof.Rows.All
import Wide.All
import OpenK.AllK
import Wide.FinOn
import HandS.TupMul
import HandS.Zip
import PyProof.ReprReads
import KE.DataEq
import PyProof.Rows.Walk
import KE.SortData
import KE.DataMinMax
import HandS.ForMost
import HandS.Exc
import HandS.ExcOwn
import HandS.TryOnly
import HandS.WordsExc
import HandS.Wide
import HandS.EndBits
import HandS.TupAny
import HandS.FStr
import HandS.RaiseMore
import HandS.Lambda
import HandS.ExcCtx
import HandS.HotCalls
import HandS.ExcIs
import HandS.Sort
import HandS.TupLe
import HandS.Conv
import PyProof.ReprLen
import KE.DataCmp
import KE.SortKeyHeap
import KE.KNestM
import PyProof.ExcBaseAll.ValueError
import HandS.Dict
import HandS.Style
import KE.DatumMoreOrd
import KE.BitLaws
import PySem.Challenge.RW_allwatched_k49_whole_watchers_that_may_f
set_option Elab.async false
set_option linter.all false
set_option maxRecDepth 100000
set_option maxHeartbeats 2000000
/-! DsP: ahead of Ds: words that the layer lacks. -/
namespace Dl
open PySem PySem.Spec PyProof.Rows L2
set_option autoImplicit false
/-! ### (..) * k -/
theorem tuple_mul_same (l : Addr) (items : Array Value) (n : Nat) (dd : Option Addr) (sl : Array (Option Value)) (x : Int) (u : Tok) (c0 : (decide (x < -(2 ^ 63)) || decide (x ≥ 2 ^ 63)) = false) (c1 : (items.isEmpty || x == 1) = true) :
    Meets (Builtin.«tuple.__mul__» ⟨[.ref l, .int x u], []⟩) (fun _ R s => s.heap.get? l = some { cls := .type "tuple", dict := dd, data := .seq items n, slots := sl } ∧ R (.ok (.ret (Value.ref l))) s) :=
  .of_wp fun prog w A R s h => by
    obtain ⟨hp, g, d, tk, os⟩ := s
    obtain ⟨hl, h⟩ := h
    have f1 := AutoSeq1.idx_int
    wp_walk using wpAny_loadPart' hl
    rw [c0, if_neg Bool.false_ne_true]
    wp_walk using wpAny_loadPart' hl
    exact ⟨_, rfl, h⟩
theorem tuple_mul_none (l : Addr) (items : Array Value) (n : Nat) (dd : Option Addr) (sl : Array (Option Value)) (x : Int) (u : Tok) (c0 : (decide (x < -(2 ^ 63)) || decide (x ≥ 2 ^ 63)) = false) (c1 : (items.isEmpty || x == 1) = false) (c2 : (decide (x ≤ 0) || items.isEmpty) = true) :
    Meets (Builtin.«tuple.__mul__» ⟨[.ref l, .int x u], []⟩) (fun _ R s => s.heap.get? l = some { cls := .type "tuple", dict := dd, data := .seq items n, slots := sl } ∧ R (.ok (.ret (Value.ref s.heap.objs.size))) { s with heap := s.heap.push { cls := Value.type "tuple", data := Data.seq #[] } }) :=
  .of_wp fun prog w A R s h => by
    obtain ⟨hp, g, d, tk, os⟩ := s
    obtain ⟨hl, h⟩ := h
    have f1 := AutoSeq1.idx_int
    wp_walk using wpAny_loadPart' hl
    rw [c0, if_neg Bool.false_ne_true]
    wp_walk using wpAny_loadPart' hl
    exact ⟨_, rfl, h⟩

/-- (..) * k, any k -/
def rRepTX (K : PySem.W.Frag) : R2 := fun x y H Q => ∃ (l : Addr) (k : Int) (xs : List V), x = .ref l ∧ y = .int k ∧ SqT K H l xs ∧ -1000 ≤ k ∧ k * xs.length ≤ 1000000 ∧ k ≤ 1000000 ∧
  ((xs.isEmpty || k == 1) = true ∧ Q (.ref l) H ∨ (xs.isEmpty || k == 1) = false ∧ ∀ p, H p = none → Q (.ref p) (upd H p (.tup (List.replicate k.toNat xs).flatten)))
theorem op_repTX {X : Cx} : OpR X (binaryOp .Mult) (rRepTX X.K) := by
  intro pins s σ H x y v u Q I rx ry h
  obtain ⟨l, k, xs, rfl, rfl, hT, h1, h2, h3, q⟩ := h
  cases rx
  obtain ⟨t, rfl⟩ := ry
  obtain ⟨its, r, ⟨⟨cls, dd, data, sl⟩, ho, hc, n, hd⟩, hs⟩ := I.tuple hT
  simp only at hc hd
  subst hc hd
  have len : its.length = xs.length := r.length.symm
  have emp : its.toArray.isEmpty = xs.isEmpty := by
    cases its with
    | nil => cases xs with
      | nil => rfl
      | cons a b => cases len
    | cons a b => cases xs with
      | nil => cases len
      | cons a b => rfl
  have c0 : (decide (k < -(2 ^ 63)) || decide (k ≥ 2 ^ 63)) = false := by
    rw [decide_eq_false (by omega), decide_eq_false (by omega)] <;> rfl
  rcases q with ⟨c1, q⟩ | ⟨c1, q⟩
  · have c1' : (its.toArray.isEmpty || k == 1) = true := by rw [emp]; exact c1
    exact wpAny_binaryOp_repeat_ref (T := "tuple") (U := "int") (by decide) ⟨_, ho, rfl⟩ (fun s' => typeIs_int s' k t) noFill_tuple_mul F.fills_int_mul F.slot_int_rmul repeat_tuple F.slot_int_index.lookup
      (call_meets F.slot_int_rmul (typeIs_int s k t) F.entry_int_rmul (F.args_int_rmul_2 _ _) (int_rmul_tuple k t l its.toArray n dd sl)
        ⟨ho, rfl, ⟨_, ho, rfl⟩, call_meets F.slot_tuple_mul ⟨_, ho, rfl⟩ F.entry_tuple_mul (F.args_tuple_mul_2 _ _) (tuple_mul_same l its.toArray n dd sl k t c0 c1') ⟨ho, .ref l, H, I, rfl, q⟩⟩)
  · have c1' : (its.toArray.isEmpty || k == 1) = false := by rw [emp]; exact c1
    have hne : xs.isEmpty = false := by simpa using (Bool.or_eq_false_iff.mp c1).1
    by_cases hk : k ≤ 0
    · have c2 : (decide (k ≤ 0) || its.toArray.isEmpty) = true := by rw [decide_eq_true hk, Bool.true_or]
      have e0 : (List.replicate k.toNat xs).flatten = [] := by
        have : k.toNat = 0 := by omega
        rw [this]; rfl
      refine wpAny_binaryOp_repeat_ref (T := "tuple") (U := "int") (by decide) ⟨_, ho, rfl⟩ (fun s' => typeIs_int s' k t) noFill_tuple_mul F.fills_int_mul F.slot_int_rmul repeat_tuple F.slot_int_index.lookup
        (call_meets F.slot_int_rmul (typeIs_int s k t) F.entry_int_rmul (F.args_int_rmul_2 _ _) (int_rmul_tuple k t l its.toArray n dd sl)
          ⟨ho, rfl, ⟨_, ho, rfl⟩, call_meets F.slot_tuple_mul ⟨_, ho, rfl⟩ F.entry_tuple_mul (F.args_tuple_mul_2 _ _) (tuple_mul_none l its.toArray n dd sl k t c0 c1' c2) ⟨ho, ?_⟩⟩)
      refine ⟨.ref s.heap.objs.size, _, I.laid (t' := s.toks) (o := .tup []) (fun b ob e => Heap.get?_push_of_some _ e) (Nat.le_refl _) ⟨Nat.zero_le _, [], .nil, IsTup.new _ _⟩, rfl, ?_⟩
      have z := q _ (I.hok.fresh (Nat.le_refl s.heap.objs.size))
      rw [e0] at z
      exact z
    · have c2 : (decide (k ≤ 0) || its.toArray.isEmpty) = false := by rw [decide_eq_false hk, emp, hne]; rfl
      have sz : its.toArray.size = xs.length := by rw [List.size_toArray, len]
      have hm : ((its.toArray.size : Nat) : Int) * k ≤ 1000000 := by rw [sz, Int.mul_comm]; exact h2
      have small : k.toNat * xs.length ≤ 1000000 := by
        have e : ((k.toNat * xs.length : Nat) : Int) = k * xs.length := by rw [Int.natCast_mul, Int.toNat_of_nonneg (by omega)]
        omega
      have flen : (List.replicate k.toNat its).flatten.length ≤ sizeLine := by
        rw [lm_len_rep_flat, len, sizeLine_eq]; omega
      have c4 : Builtin.Tuple.tupleTooMany (((its.toArray.size : Nat) : Int) * k) = false := by
        unfold Builtin.Tuple.tupleTooMany
        rw [sizeLine_eq]
        exact decide_eq_false (by omega)
      refine wpAny_binaryOp_repeat_ref (T := "tuple") (U := "int") (by decide) ⟨_, ho, rfl⟩ (fun s' => typeIs_int s' k t) noFill_tuple_mul F.fills_int_mul F.slot_int_rmul repeat_tuple F.slot_int_index.lookup
        (call_meets F.slot_int_rmul (typeIs_int s k t) F.entry_int_rmul (F.args_int_rmul_2 _ _) (int_rmul_tuple k t l its.toArray n dd sl)
          ⟨ho, rfl, ⟨_, ho, rfl⟩, call_meets F.slot_tuple_mul ⟨_, ho, rfl⟩ F.entry_tuple_mul (F.args_tuple_mul_2 _ _) (tuple_mulW l its.toArray n dd sl k t c0 c1' c2 (by omega) c4 (by rw [size_rep, List.size_toArray]; exact flen)) ⟨ho, ?_⟩⟩)
      rw [size_rep]
      exact ⟨.ref s.heap.objs.size, _, I.laid (t' := s.toks) (o := .tup (List.replicate k.toNat xs).flatten) (fun b ob e => Heap.get?_push_of_some _ e) (Nat.le_refl _) ⟨by rw [lm_len_rep_flat, sizeLine_eq]; omega, _, r.rep k.toNat, IsTup.new _ _⟩, rfl, q _ (I.hok.fresh (Nat.le_refl _))⟩
end Dl
set_option maxRecDepth 100000
set_option maxHeartbeats 1000000
/-! DsQ: zip of two rows, each a list or a tuple. -/
namespace ZQ
open PySem PySem.Spec PyProof.Rows L2 RZ
set_option autoImplicit false
/-- of which kind a row is -/
inductive Kd | l | t
def Kd.it : Kd → Heap → Addr → Addr → Nat → Prop
  | .l => Heap.IsListIter
  | .t => Heap.IsTupleIter
def Kd.sq : Kd → Heap → Addr → Array Value → Prop
  | .l => Heap.IsList
  | .t => Heap.IsTuple
def Kd.nm : Kd → String
  | .l => "list_iterator"
  | .t => "tuple_iterator"
section
variable {k : Kd} {h h' : Heap} {a b l : Addr} {i : Nat} {its : Array Value}
theorem it_ext (x : k.it h a l i) (hs : Heap.ExtBut b h h') (n : a ≠ b) : k.it h' a l i := by
  cases k with
  | l => exact Heap.IsListIter.extBut x hs n
  | t => exact Heap.IsTupleIter.extBut x hs n
theorem sq_ext (x : k.sq h a its) (hs : Heap.ExtBut b h h') (n : a ≠ b) : k.sq h' a its := by
  cases k with
  | l => exact Heap.IsList.extBut x hs n
  | t => exact Heap.IsTuple.extBut x hs n
theorem it_at (x : k.it h a l i) (e : ∀ o, h.get? a = some o → h'.get? a = some o) : k.it h' a l i := by
  cases k with
  | l => exact Heap.IsListIter.at x e
  | t => exact Heap.IsTupleIter.at x e
theorem it_obj (x : k.it h a l i) : ∃ o, h.get? a = some o ∧ ∀ v, o.data ≠ .cell v := by
  cases k with
  | l => obtain ⟨o, e, _, d⟩ := x; exact ⟨o, e, fun v q => by rw [d] at q; cases q⟩
  | t => obtain ⟨o, e, _, d⟩ := x; exact ⟨o, e, fun v q => by rw [d] at q; cases q⟩
end
section
variable {prog : Program} {w : World} {A : Around} {E : Value → Shared → Prop} {s : Shared} {k : Kd}
theorem next_item {it l : Addr} {i : Nat} {items : Array Value} {x : Value} {Q : Value → Shared → Prop} (hit : k.it s.heap it l i) (hl : k.sq s.heap l items) (hx : items[i]? = some x)
    (hQ : ∀ h', k.it h' it l (i + 1) → Heap.SameBut it s.heap h' → Q x { s with heap := h' }) : wpAny (model prog w) A (Builtin.SmallTypes.nextOf (.ref it)) Q E s := by
  cases k with
  | l => exact wpAny_nextOf_list_item hit hl hx hQ
  | t => exact nextOf_tuple_item hit hl hx hQ
theorem next_end {it l : Addr} {i : Nat} {items : Array Value} {Q : Value → Shared → Prop} (hh : A.handled = none) (hit : k.it s.heap it l i) (hl : k.sq s.heap l items) (hx : items[i]? = none)
    (hE : ∀ h' e, Heap.ExtBut it s.heap h' → (∃ o, h'.get? e = some o ∧ o.cls = .type "StopIteration") → E (.ref e) { s with heap := h' }) : wpAny (model prog w) A (Builtin.SmallTypes.nextOf (.ref it)) Q E s := by
  cases k with
  | l => exact wpAny_nextOf_list_end hh hit hl hx hE
  | t => exact nextOf_tuple_end hh hit hl hx hE
end
section
variable {prog : Program} {w : World} {A : Around} {E : Value → Shared → Prop} {s : Shared} {ka kb : Kd} {z TI TO i1 i2 l1 l2 : Addr} {k1 k2 : Nat} {xs ys : Array Value} {a b : Value}
/-- one more pair -/
theorem zip_item {x y : Value} {Q : Value → Shared → Prop} (D : ZipApart z TI TO i1 i2 l1 l2) (hz : IsZip s.heap z TI TO .none) (hTI : IsPair s.heap TI (.ref i1) (.ref i2)) (hTO : IsPair s.heap TO a b)
    (h1 : ka.it s.heap i1 l1 k1) (h2 : kb.it s.heap i2 l2 k2) (hl1 : ka.sq s.heap l1 xs) (hl2 : kb.sq s.heap l2 ys) (hx : xs[k1]? = some x) (hy : ys[k2]? = some y)
    (hQ : ∀ h', IsZip h' z TI TO (rawInt s.heap.objs.size) → IsPair h' TO x y → ka.it h' i1 l1 (k1 + 1) → kb.it h' i2 l2 (k2 + 1) → IsPair h' s.heap.objs.size x y → h'.objs.size = s.heap.objs.size + 1 →
      (∀ c o, c ≠ z → c ≠ TO → c ≠ i1 → c ≠ i2 → s.heap.get? c = some o → h'.get? c = some o) → Q (.ref s.heap.objs.size) { s with heap := h' }) :
    wpAny (model prog w) A (Builtin.«zip.__next__» ⟨[.ref z], []⟩) (fun fin s' => ∃ v, fin = .done (.ret v) ∧ Q v s') E s := by
  show wpAny _ _ (field (.ref z) 2 >>= _) _ _ _
  refine wpAny_bind (wpAny_field hz rfl (x := .bool false) rfl ?_)
  show wpAny _ _ (field (.ref z) 3 >>= _) _ _ _
  refine wpAny_bind (wpAny_field hz rfl (x := .ref TI) rfl (wpAny_bind (wpAny_seqItems hTI rfl ?_)))
  show wpAny _ _ (Builtin.SmallTypes.ownedTupleIsFree (.ref z) >>= _) _ _ _
  unfold Builtin.SmallTypes.ownedTupleIsFree
  refine wpAny_bind (wpAny_bind (wpAny_field hz rfl (x := .none) rfl (wpAny_pure ?_)))
  simp only [if_true]
  refine wpAny_bind (wpAny_rule (wpAny_bind (wpAny_field hz rfl (x := .ref TO) rfl (wpAny_bind (wpAny_setField_rec hz (by simp) fun hA zA sA => ?_)))))
  have zA : IsZip hA z TI TO .ellipsis := zA
  have eA := sA.extBut
  simp only [List.zipIdx_cons, List.zipIdx_nil, List.forIn_cons, List.forIn_nil]
  refine wpAny_bind (wpAny_bind (wpAny_bind (wpAny_onRaise ?_)))
  show wpAny _ _ (Builtin.SmallTypes.nextOf (.ref i1) >>= _) _ _ _
  refine wpAny_bind (next_item (it_ext h1 eA D.i1z) (sq_ext hl1 eA D.l1z) hx fun hB iB sB => wpAny_pure ?_)
  have eB := sB.extBut
  refine wpAny_bind (wpAny_seqItems (eB _ _ D.TOi1 (eA _ _ D.TOz hTO)) rfl (wpAny_bind (wpAny_updateSeq_pair (eB _ _ D.TOi1 (eA _ _ D.TOz hTO)) fun hC pC sC => wpAny_bind (wpAny_letGo (wpAny_pure ?_)))))
  have pC : IsPair hC TO x b := pC
  have eC := sC.extBut
  refine wpAny_bind (wpAny_bind (wpAny_onRaise ?_))
  show wpAny _ _ (Builtin.SmallTypes.nextOf (.ref i2) >>= _) _ _ _
  refine wpAny_bind (next_item (it_ext (it_ext (it_ext h2 eA D.i2z) eB D.i12.symm) eC D.TOi2.symm) (sq_ext (sq_ext (sq_ext hl2 eA D.l2z) eB D.l2i1) eC D.l2TO) hy fun hD iD sD => wpAny_pure ?_)
  have eD := sD.extBut
  refine wpAny_bind (wpAny_seqItems (eD _ _ D.TOi2 pC) rfl (wpAny_bind (wpAny_updateSeq_pair (eD _ _ D.TOi2 pC) fun hE pE sE => wpAny_bind (wpAny_letGo (wpAny_pure (wpAny_pure ?_))))))
  have pE : IsPair hE TO x y := pE
  have eE := sE.extBut
  have size : hE.objs.size = s.heap.objs.size := by rw [sE.1, sD.1, sC.1, sB.1, sA.1]
  have zE : IsZip hE z TI TO .ellipsis := eE _ _ D.TOz.symm (eD _ _ D.i2z.symm (eC _ _ D.TOz.symm (eB _ _ D.i1z.symm zA)))
  have same : ∀ c o, c ≠ z → c ≠ TO → c ≠ i1 → c ≠ i2 → s.heap.get? c = some o → hE.get? c = some o := fun c o n1 n2 n3 n4 e => eE _ _ n2 (eD _ _ n4 (eC _ _ n2 (eB _ _ n3 (eA _ _ n1 e))))
  have j1 : ka.it hE i1 l1 (k1 + 1) := it_ext (it_ext (it_ext iB eC D.TOi1.symm) eD D.i12) eE D.TOi1.symm
  have j2 : kb.it hE i2 l2 (k2 + 1) := it_ext iD eE D.TOi2.symm
  have zl : z < hE.objs.size := Heap.lt_size zE
  refine wpAny_bind (wpAny_seqItems pE rfl (wpAny_bind (wpAny_newTuple ?_)))
  show wpAny _ _ (Builtin.SmallTypes.ownedTupleHandOut (.ref z) (.ref hE.objs.size) >>= _) _ _ _
  unfold Builtin.SmallTypes.ownedTupleHandOut
  have zF : IsZip (hE.push { cls := .type "tuple", data := .seq #[x, y] }) z TI TO .ellipsis := Heap.get?_push_of_some _ zE
  refine wpAny_bind (wpAny_bind (wpAny_setField_rec zF (by simp) fun hG zG sG => ?_))
  have zG : IsZip hG z TI TO (rawInt hE.objs.size) := zG
  refine wpAny_setField_rec zG (by simp) fun hH zH sH => ?_
  have zH : IsZip hH z TI TO (rawInt hE.objs.size) := zH
  have up : ∀ c o, c ≠ z → hE.get? c = some o → hH.get? c = some o := fun c o n e => sH.extBut _ _ n (sG.extBut _ _ n (Heap.get?_push_of_some _ e))
  have tH : IsPair hH hE.objs.size x y := sH.extBut _ _ (Nat.ne_of_gt zl) (sG.extBut _ _ (Nat.ne_of_gt zl) (Heap.get?_push_size _ rfl))
  have size2 : hH.objs.size = hE.objs.size + 1 := by rw [sH.1, sG.1, Heap.size_push]
  rw [size] at zH tH size2
  refine wpAny_pure ⟨_, rfl, ?_⟩
  show Q (.ref hE.objs.size) _
  rw [size]
  exact hQ hH zH (up _ _ D.TOz pE) (it_at j1 fun o e => up _ o D.i1z e) (it_at j2 fun o e => up _ o D.i2z e) tH size2 fun c o n1 n2 n3 n4 e => up c o n1 (same c o n1 n2 n3 n4 e)
/-- no pair any more -/
theorem zip_end {Q : Fin → Shared → Prop} (hh : A.handled = none) (D : ZipApart z TI TO i1 i2 l1 l2) (hz : IsZip s.heap z TI TO .none) (hTI : IsPair s.heap TI (.ref i1) (.ref i2)) (hTO : IsPair s.heap TO a b)
    (h1 : ka.it s.heap i1 l1 k1) (h2 : kb.it s.heap i2 l2 k2) (hl1 : ka.sq s.heap l1 xs) (hl2 : kb.sq s.heap l2 ys) (hend : xs[k1]? = none ∨ ys[k2]? = none)
    (hE : ∀ h' e, (∀ c o, c ≠ z → c ≠ TO → c ≠ i1 → c ≠ i2 → s.heap.get? c = some o → h'.get? c = some o) → (∃ o, h'.get? e = some o ∧ o.cls = .type "StopIteration") → E (.ref e) { s with heap := h' }) :
    wpAny (model prog w) A (Builtin.«zip.__next__» ⟨[.ref z], []⟩) Q E s := by
  show wpAny _ _ (field (.ref z) 2 >>= _) _ _ _
  refine wpAny_bind (wpAny_field hz rfl (x := .bool false) rfl ?_)
  show wpAny _ _ (field (.ref z) 3 >>= _) _ _ _
  refine wpAny_bind (wpAny_field hz rfl (x := .ref TI) rfl (wpAny_bind (wpAny_seqItems hTI rfl ?_)))
  show wpAny _ _ (Builtin.SmallTypes.ownedTupleIsFree (.ref z) >>= _) _ _ _
  unfold Builtin.SmallTypes.ownedTupleIsFree
  refine wpAny_bind (wpAny_bind (wpAny_field hz rfl (x := .none) rfl (wpAny_pure ?_)))
  simp only [if_true]
  refine wpAny_bind (wpAny_rule (wpAny_bind (wpAny_field hz rfl (x := .ref TO) rfl (wpAny_bind (wpAny_setField_rec hz (by simp) fun hA zA sA => ?_)))))
  have zA : IsZip hA z TI TO .ellipsis := zA
  have eA := sA.extBut
  simp only [List.zipIdx_cons, List.zipIdx_nil, List.forIn_cons, List.forIn_nil]
  refine wpAny_bind (wpAny_bind (wpAny_bind (wpAny_onRaise ?_)))
  show wpAny _ _ (Builtin.SmallTypes.nextOf (.ref i1) >>= _) _ _ _
  have out : ∀ {h : Heap} {e : Addr}, IsZip h z TI TO .ellipsis → (∃ o, h.get? e = some o ∧ o.cls = .type "StopIteration") → e ≠ z := fun hz ⟨o, ho, hc⟩ n => by
    subst n; rw [hz] at ho; cases ho; simp at hc
  cases hx : xs[k1]? with
  | none =>
    refine wpAny_bind (next_end hh (it_ext h1 eA D.i1z) (sq_ext hl1 eA D.l1z) hx fun hB e eB he => ?_)
    have zB : IsZip hB z TI TO .ellipsis := eB _ _ D.i1z.symm zA
    have n := out zB he
    obtain ⟨oe, hoe, hce⟩ := he
    exact wpAny_setField_rec zB (by simp) fun hC _ sC => hE hC e (fun c o n1 _ n3 _ q => sC.extBut _ _ n1 (eB _ _ n3 (eA _ _ n1 q))) ⟨oe, sC.extBut _ _ n hoe, hce⟩
  | some x =>
    have hy : ys[k2]? = none := by
      rcases hend with h | h
      · rw [hx] at h; cases h
      · exact h
    refine wpAny_bind (next_item (it_ext h1 eA D.i1z) (sq_ext hl1 eA D.l1z) hx fun hB iB sB => wpAny_pure ?_)
    have eB := sB.extBut
    refine wpAny_bind (wpAny_seqItems (eB _ _ D.TOi1 (eA _ _ D.TOz hTO)) rfl (wpAny_bind (wpAny_updateSeq_pair (eB _ _ D.TOi1 (eA _ _ D.TOz hTO)) fun hC pC sC => wpAny_bind (wpAny_letGo (wpAny_pure ?_)))))
    have eC := sC.extBut
    refine wpAny_bind (wpAny_bind (wpAny_onRaise ?_))
    show wpAny _ _ (Builtin.SmallTypes.nextOf (.ref i2) >>= _) _ _ _
    refine wpAny_bind (next_end hh (it_ext (it_ext (it_ext h2 eA D.i2z) eB D.i12.symm) eC D.TOi2.symm) (sq_ext (sq_ext (sq_ext hl2 eA D.l2z) eB D.l2i1) eC D.l2TO) hy fun hD e eD he => ?_)
    have zD : IsZip hD z TI TO .ellipsis := eD _ _ D.i2z.symm (eC _ _ D.TOz.symm (eB _ _ D.i1z.symm zA))
    have n := out zD he
    obtain ⟨oe, hoe, hce⟩ := he
    exact wpAny_setField_rec zD (by simp) fun hF _ sF => hE hF e (fun c o n1 n2 n3 n4 q => sF.extBut _ _ n1 (eD _ _ n4 (eC _ _ n2 (eB _ _ n3 (eA _ _ n1 q))))) ⟨oe, sF.extBut _ _ n hoe, hce⟩
theorem pyNext_item {x y : Value} {Q : Option Value → Shared → Prop} (D : ZipApart z TI TO i1 i2 l1 l2) (hz : IsZip s.heap z TI TO .none) (hTI : IsPair s.heap TI (.ref i1) (.ref i2)) (hTO : IsPair s.heap TO a b)
    (h1 : ka.it s.heap i1 l1 k1) (h2 : kb.it s.heap i2 l2 k2) (hl1 : ka.sq s.heap l1 xs) (hl2 : kb.sq s.heap l2 ys) (hx : xs[k1]? = some x) (hy : ys[k2]? = some y)
    (hQ : ∀ h', IsZip h' z TI TO (rawInt s.heap.objs.size) → IsPair h' TO x y → ka.it h' i1 l1 (k1 + 1) → kb.it h' i2 l2 (k2 + 1) → IsPair h' s.heap.objs.size x y → h'.objs.size = s.heap.objs.size + 1 →
      (∀ c o, c ≠ z → c ≠ TO → c ≠ i1 → c ≠ i2 → s.heap.get? c = some o → h'.get? c = some o) → Q (some (.ref s.heap.objs.size)) { s with heap := h' }) :
    wpAny (model prog w) A (pyNext (.ref z)) Q E s := by
  have hT : s.TypeIs (.ref z) "zip" := ⟨_, hz, rfl⟩
  unfold pyNext
  exact wpAny_bind (wpAny_attempt (wpAny_callSpecial?_slot (name := Str.ofString "__next__") hT F.slot_zip_next (wpAny_call_entry F.slot_zip_next hT F.entry_zip_next
    (zip_item D hz hTI hTO h1 h2 hl1 hl2 hx hy fun h' a1 a2 a3 a4 a5 a6 a7 => wpAny_pure (hQ h' a1 a2 a3 a4 a5 a6 a7)) (F.args_zip_next_1 _))))
theorem pyNext_end {Q : Option Value → Shared → Prop} (hh : A.handled = none) (D : ZipApart z TI TO i1 i2 l1 l2) (hz : IsZip s.heap z TI TO .none) (hTI : IsPair s.heap TI (.ref i1) (.ref i2)) (hTO : IsPair s.heap TO a b)
    (h1 : ka.it s.heap i1 l1 k1) (h2 : kb.it s.heap i2 l2 k2) (hl1 : ka.sq s.heap l1 xs) (hl2 : kb.sq s.heap l2 ys) (hend : xs[k1]? = none ∨ ys[k2]? = none)
    (hQ : ∀ h', (∀ c o, c ≠ z → c ≠ TO → c ≠ i1 → c ≠ i2 → s.heap.get? c = some o → h'.get? c = some o) → Q none { s with heap := h' }) : wpAny (model prog w) A (pyNext (.ref z)) Q E s := by
  have hT : s.TypeIs (.ref z) "zip" := ⟨_, hz, rfl⟩
  unfold pyNext
  refine wpAny_bind (wpAny_attempt (wpAny_callSpecial?_slot (name := Str.ofString "__next__") hT F.slot_zip_next (wpAny_call_entry F.slot_zip_next hT F.entry_zip_next
    (zip_end hh D hz hTI hTO h1 h2 hl1 hl2 hend fun h' e hk he => ?_) (F.args_zip_next_1 _))))
  obtain ⟨o, ho, hc⟩ := he
  exact wpAny_bind (wpAny_isInstance (T := "StopIteration") (b := true) ⟨o, ho, hc⟩ isSubtype_stop (wpAny_pure (hQ _ hk)))
end
section
variable (ka kb : Kd)
abbrev zq1 (h : Heap) (l1 : Addr) : Heap := h.push { cls := .type ka.nm, data := .fields #[.ref l1, .int 0 0] }
abbrev zq2 (h : Heap) (l1 l2 : Addr) : Heap := (zq1 ka h l1).push { cls := .type kb.nm, data := .fields #[.ref l2, .int 0 0] }
abbrev zq3 (h : Heap) (l1 l2 : Addr) : Heap := (zq2 ka kb h l1 l2).push { cls := .type "tuple", data := .seq #[.ref h.objs.size, .ref (zq1 ka h l1).objs.size] }
abbrev zq4 (h : Heap) (l1 l2 : Addr) : Heap := (zq3 ka kb h l1 l2).push { cls := .type "tuple", data := .seq #[.none, .none] }
abbrev zq5 (h : Heap) (l1 l2 : Addr) : Heap := (zq4 ka kb h l1 l2).push { cls := .type "zip", data := .fields #[.none, .bool false, .bool false, .ref (zq2 ka kb h l1 l2).objs.size, .ref (zq3 ka kb h l1 l2).objs.size] }
theorem sq_push {k : Kd} {h : Heap} {a : Addr} {its : Array Value} (x : k.sq h a its) (o : Obj) : k.sq (h.push o) a its := by
  cases k with
  | l => exact Heap.IsList.push x o
  | t => exact Heap.IsTuple.push x o
theorem meets_new (l1 l2 : Addr) (xs ys : Array Value) : Meets (Builtin.«zip.__new__» ⟨[.type "zip", .ref l1, .ref l2], []⟩) (fun _ R s => ka.sq s.heap l1 xs ∧ kb.sq s.heap l2 ys ∧
    R (.ok (.ret (.ref (zq4 ka kb s.heap l1 l2).objs.size))) { s with heap := zq5 ka kb s.heap l1 l2 }) :=
  match ka, kb with
  | .l, .l => meets_zip_new l1 l2 xs ys
  | .t, .t => meets_zipT_new l1 l2 xs ys
  | .l, .t => .of_wp fun prog w A R s h => by
    obtain ⟨hp, g, d, tk, os⟩ := s
    obtain ⟨hl1, hl2, h⟩ := h
    have hsub := sub_zip
    have hL1 : Heap.IsList (Shared.heap ⟨hp, g, d, tk, os⟩) l1 xs := hl1
    have hL2 : Heap.IsTuple (Shared.heap ⟨hp.push { cls := .type "list_iterator", data := .fields #[.ref l1, .int 0 0] }, g, d, tk, os⟩) l2 ys := Heap.IsTuple.push hl2 _
    wp_walk using wpAny_pyIter_list hL1, wpAny_pyIter_tuple hL2
    exact ⟨_, rfl, h⟩
  | .t, .l => .of_wp fun prog w A R s h => by
    obtain ⟨hp, g, d, tk, os⟩ := s
    obtain ⟨hl1, hl2, h⟩ := h
    have hsub := sub_zip
    have hL1 : Heap.IsTuple (Shared.heap ⟨hp, g, d, tk, os⟩) l1 xs := hl1
    have hL2 : Heap.IsList (Shared.heap ⟨hp.push { cls := .type "tuple_iterator", data := .fields #[.ref l1, .int 0 0] }, g, d, tk, os⟩) l2 ys := Heap.IsList.push hl2 _
    wp_walk using wpAny_pyIter_tuple hL1, wpAny_pyIter_list hL2
    exact ⟨_, rfl, h⟩
end
section
variable {prog : Program} {w : World} {A : Around} {E : Value → Shared → Prop} {s : Shared} {ka kb : Kd}
theorem it_new (k : Kd) {h : Heap} {a l : Addr} (e : h.get? a = some { cls := .type k.nm, data := .fields #[.ref l, .int 0 0] }) : k.it h a l 0 := by
  cases k with
  | l => exact ⟨_, e, rfl, rfl⟩
  | t => exact ⟨_, e, rfl, rfl⟩
theorem call_zip {l1 l2 : Addr} {xs ys : Array Value} {Q : Value → Shared → Prop} (hl1 : ka.sq s.heap l1 xs) (hl2 : kb.sq s.heap l2 ys)
    (h : ∀ h', IsZip h' (s.heap.objs.size + 4) (s.heap.objs.size + 2) (s.heap.objs.size + 3) .none → IsPair h' (s.heap.objs.size + 2) (.ref s.heap.objs.size) (.ref (s.heap.objs.size + 1)) →
      IsPair h' (s.heap.objs.size + 3) .none .none → ka.it h' s.heap.objs.size l1 0 → kb.it h' (s.heap.objs.size + 1) l2 0 →
      (∀ c o, s.heap.get? c = some o → h'.get? c = some o) → Q (.ref (s.heap.objs.size + 4)) { s with heap := h' }) :
    wpAny (model prog w) A (call (.type "zip") [.ref l1, .ref l2]) Q E s := by
  refine callType_new F.called_zip (by decide) (F.typeCall_zip_2 _ _) (F.newCall_zip_2 _ _) (fun obj => F.args_object_init_3 obj _ _) F.entry_zip_new (meets_new ka kb l1 l2 xs ys) ⟨hl1, hl2, ?_⟩
  have n1 : (zq1 ka s.heap l1).objs.size = s.heap.objs.size + 1 := Heap.size_push ..
  have n2 : (zq2 ka kb s.heap l1 l2).objs.size = s.heap.objs.size + 2 := by rw [Heap.size_push, n1]
  have n3 : (zq3 ka kb s.heap l1 l2).objs.size = s.heap.objs.size + 3 := by rw [Heap.size_push, n2]
  have n4 : (zq4 ka kb s.heap l1 l2).objs.size = s.heap.objs.size + 4 := by rw [Heap.size_push, n3]
  have up5 : ∀ {c o}, (zq4 ka kb s.heap l1 l2).get? c = some o → (zq5 ka kb s.heap l1 l2).get? c = some o := fun e => Heap.get?_push_of_some _ e
  have up4 : ∀ {c o}, (zq3 ka kb s.heap l1 l2).get? c = some o → (zq5 ka kb s.heap l1 l2).get? c = some o := fun e => up5 (Heap.get?_push_of_some _ e)
  have up3 : ∀ {c o}, (zq2 ka kb s.heap l1 l2).get? c = some o → (zq5 ka kb s.heap l1 l2).get? c = some o := fun e => up4 (Heap.get?_push_of_some _ e)
  have up2 : ∀ {c o}, (zq1 ka s.heap l1).get? c = some o → (zq5 ka kb s.heap l1 l2).get? c = some o := fun e => up3 (Heap.get?_push_of_some _ e)
  have e5 : (zq5 ka kb s.heap l1 l2).get? (zq4 ka kb s.heap l1 l2).objs.size = some _ := Heap.get?_push_size _ rfl
  have e4 : (zq5 ka kb s.heap l1 l2).get? (zq3 ka kb s.heap l1 l2).objs.size = some _ := up5 (Heap.get?_push_size _ rfl)
  have e3 : (zq5 ka kb s.heap l1 l2).get? (zq2 ka kb s.heap l1 l2).objs.size = some _ := up4 (Heap.get?_push_size _ rfl)
  have e2 : (zq5 ka kb s.heap l1 l2).get? (zq1 ka s.heap l1).objs.size = some _ := up3 (Heap.get?_push_size _ rfl)
  have e1 : (zq5 ka kb s.heap l1 l2).get? s.heap.objs.size = some _ := up2 (Heap.get?_push_size _ rfl)
  show _ ∧ _
  rw [n2, n3, n4] at e5
  rw [n3] at e4
  rw [n1, n2] at e3
  rw [n1] at e2
  rw [n4]
  exact ⟨⟨_, e5, rfl⟩, h _ e5 e3 e4 (it_new ka e1) (it_new kb e2) fun c o q => up2 (Heap.get?_push_of_some _ q)⟩
end
/-! ### as an iterator of the readings -/
def Kd.row : Kd → PySem.W.Frag → Hp → Addr → List V → Prop
  | .l => SqL
  | .t => SqT
def ItzK (ka kb : Kd) (K : PySem.W.Frag) (a b : Addr) : It :=
  ⟨fun i H => ∃ (xs ys : List V) (x y : V), ka.row K H a xs ∧ kb.row K H b ys ∧ xs[i]? = some x ∧ ys[i]? = some y,
    fun i H v H' => ∃ T x y, v = .ref T ∧ H T = none ∧ H' = upd H T (.tup [x, y]) ∧ (∀ xs, ka.row K H a xs → xs[i]? = some x) ∧ ∀ ys, kb.row K H b ys → ys[i]? = some y,
    fun i H => ∃ xs ys : List V, ka.row K H a xs ∧ kb.row K H b ys ∧ (xs.length ≤ i ∨ ys.length ≤ i)⟩
theorem row_in {X : Cx} {pins : List (Addr × PySem.Obj)} {σ : L2.St} {H : Hp} {s : Shared} {k : Kd} {a : Addr} {xs : List V} (I : Inv X pins σ H s) (h : k.row X.K H a xs) : ∃ its : List Value, Vals xs its ∧ k.sq s.heap a its.toArray ∧ a < s.heap.objs.size := by
  cases k with
  | l => obtain ⟨its, rv, p, _⟩ := I.list h; exact ⟨its, rv, p.isList, p.lt⟩
  | t => obtain ⟨its, rv, p, _⟩ := I.tuple h; obtain ⟨o, ho, _⟩ := id p; exact ⟨its, rv, p, Heap.lt_size ho⟩
theorem row_inj {X : Cx} {pins : List (Addr × PySem.Obj)} {σ : L2.St} {H : Hp} {s : Shared} {k : Kd} {a : Addr} {xs ys : List V} (I : Inv X pins σ H s) (h : k.row X.K H a xs) (h2 : k.row X.K H a ys) : xs = ys := by
  cases k with
  | l => exact I.list_inj h h2
  | t => exact I.tuple_inj h h2
theorem turn_zipK {P : Program} {w : World} {K : PySem.W.Frag} {ka kb : Kd} {elts : List Expr} {kk : Nat} {tpos : Pos} {a b z TI TO i1 i2 : Addr} (D : ZipApart z TI TO i1 i2 a b) :
    Turn P w K (.Tuple elts kk tpos) (ItzK ka kb K a b) [z, TI, TO, i1, i2] z (fun i h => IsZip h z TI TO .none ∧ IsPair h TI (.ref i1) (.ref i2) ∧ (∃ x y, IsPair h TO x y) ∧ ka.it h i1 a i ∧ kb.it h i2 b i) where
  mem := by simp
  obj := fun i h st c hc => by
    obtain ⟨hz, hTI, ⟨x, y, hTO⟩, j1, j2⟩ := st
    simp only [List.mem_cons, List.not_mem_nil, or_false] at hc
    rcases hc with rfl | rfl | rfl | rfl | rfl
    · exact ⟨_, hz, fun v q => nomatch q⟩
    · exact ⟨_, hTI, fun v q => nomatch q⟩
    · exact ⟨_, hTO, fun v q => nomatch q⟩
    · exact it_obj j1
    · exact it_obj j2
  keep := fun i h h' st k => by
    obtain ⟨hz, hTI, ⟨x, y, hTO⟩, j1, j2⟩ := st
    exact ⟨k z (by simp) _ hz, k TI (by simp) _ hTI, ⟨x, y, k TO (by simp) _ hTO⟩, it_at j1 fun o q => k i1 (by simp) o q, it_at j2 fun o q => k i2 (by simp) o q⟩
  item := by
    intro X hP hw hK hc i pins s σ H E I hf st hg
    subst hP hw hK
    obtain ⟨hz, hTI, ⟨x0, y0, hTO⟩, j1, j2⟩ := st
    obtain ⟨xs, ys, x, y, hqx, hqy, hx, hy⟩ := hg
    obtain ⟨its, rv, p, _⟩ := row_in I hqx
    obtain ⟨its2, rv2, p2, _⟩ := row_in I hqy
    obtain ⟨u, hu, ru⟩ := rv.get hx
    obtain ⟨u2, hu2, ru2⟩ := rv2.get hy
    have zl : z < s.heap.objs.size := Heap.lt_size hz
    have old : ∀ c ∈ [z, TI, TO, i1, i2], c < s.heap.objs.size := fun c hc => by
      simp only [List.mem_cons, List.not_mem_nil, or_false] at hc
      rcases hc with rfl | rfl | rfl | rfl | rfl
      · exact zl
      · exact Heap.lt_size hTI
      · exact Heap.lt_size hTO
      · obtain ⟨_, e, _⟩ := it_obj j1; exact Heap.lt_size e
      · obtain ⟨_, e, _⟩ := it_obj j2; exact Heap.lt_size e
    refine pyNext_item D hz hTI hTO j1 j2 p p2 (x := u) (y := u2) (by simpa using hu) (by simpa using hu2) fun h' z' TO' j1' j2' hT hsz hk => ?_
    refine ⟨_, rfl, wpAny_letOwnedTupleGo_zip (s := { s with heap := h' }) z' fun h'' z'' sb => ?_⟩
    have hT2 : h''.get? s.heap.objs.size = some { cls := .type "tuple", data := .seq #[u, u2] } := (sb.2 _ (Nat.ne_of_gt zl)).trans hT
    have new : ObjOk X.prog X.w (upd H s.heap.objs.size (.tup [x, y])) h'' s.heap.objs.size (.tup [x, y]) := ⟨by show 2 ≤ sizeLine; decide, [u, u2], .cons ru (.cons ru2 .nil), ⟨_, hT2, rfl, _, rfl⟩⟩
    have I1 : Inv X pins σ (upd H s.heap.objs.size (.tup [x, y])) { s with heap := h'' } := I.turnedNew (t' := s.toks) (ch := [z, TI, TO, i1, i2]) (fun c o hb q => by
      simp only [List.mem_cons, List.not_mem_nil, or_false, not_or] at hb
      exact (sb.2 c hb.1).trans (hk c o hb.1 hb.2.2.1 hb.2.2.2.1 hb.2.2.2.2 q)) hf (Nat.le_refl _) new
    refine ⟨.ref s.heap.objs.size, _, I1, rfl, ⟨_, x, y, rfl, I.hok.fresh (Nat.le_refl _), rfl, fun l hl => by rw [row_inj I hl hqx]; exact hx, fun l hl => by rw [row_inj I hl hqy]; exact hy⟩, ⟨z'', (sb.2 _ D.TIz).trans (hk _ _ D.TIz D.TITO D.TIi1 D.TIi2 hTI), ⟨u, u2, (sb.2 _ D.TOz).trans TO'⟩, it_at j1' fun o q => (sb.2 _ D.i1z).trans q, it_at j2' fun o q => (sb.2 _ D.i2z).trans q⟩, fun c hcm => ?_⟩
    rw [upd_ne (Nat.ne_of_lt (old c hcm))]
    exact (hf c hcm).1
  done := by
    intro X hP hw hK hc i pins s σ H E I hf st hg
    subst hP hw hK
    obtain ⟨hz, hTI, ⟨x0, y0, hTO⟩, j1, j2⟩ := st
    obtain ⟨xs, ys, hqx, hqy, hend⟩ := hg
    obtain ⟨its, rv, p, _⟩ := row_in I hqx
    obtain ⟨its2, rv2, p2, _⟩ := row_in I hqy
    have n1 := rv.length
    have n2 := rv2.length
    have he : its.toArray[i]? = none ∨ its2.toArray[i]? = none := hend.imp (fun q => by simp; omega) (fun q => by simp; omega)
    exact pyNext_end (I.ok.hd hc) D hz hTI hTO j1 j2 p p2 he fun h' hk => ⟨rfl, I.turnedL (t' := s.toks) (ch := [z, TI, TO, i1, i2]) (fun c o hb q => by
      simp only [List.mem_cons, List.not_mem_nil, or_false, not_or] at hb
      exact hk c o hb.1 hb.2.2.1 hb.2.2.2.1 hb.2.2.2.2 q) hf⟩
  self := fun A i s Q E st h => wpAny_pyIter_zip st.1 h
def iZipK (K : PySem.W.Frag) (ta : TA) : L2.TI := fun σ H R => ta σ H fun vs H1 => ∃ a b xs ys ka kb, vs = [.ref a, .ref b] ∧ Kd.row ka K H1 a xs ∧ Kd.row kb K H1 b ys ∧ R (ItzK ka kb K a b) H1
theorem pi_zipK {X : Cx} {e e2 : Expr} {ta : TA} {p pos tpos : Pos} {elts : List Expr} {kk : Nat} (hg : Gl X "zip") (hm : X.mg "zip" = none) (ha : PA X [e, e2] ta)
    (hs : starEach [e, e2] X.env = (false, eval e X.env) :: starEach [e2] X.env := by rfl) (hpl : (backTo pos (starEach [e2] X.env)).any (·.1) = false := by rfl) :
    PI X (.Tuple elts kk tpos) (.Call (.Name "zip" p) [e, e2] [] pos) (iZipK X.K ta) := by
  refine ⟨fun pins s σ H R I h => ?_⟩
  refine Call_ (ld_blt I hg hm PyProof.Rows.boot_zip (PyProof.Rows.callWith_type1 (thn (ha.run pos pins s σ H _ I h) fun us s1 ⟨vs, H1, I1, r1, q1⟩ => ?_) hs hpl))
  obtain ⟨a, b, xs, ys, ka, kb, rfl, hqx, hqy, q⟩ := q1
  cases r1 with
  | cons r rr =>
    cases rr with
    | cons r' rr =>
      cases rr
      cases r
      cases r'
      obtain ⟨its, rv, p1, la⟩ := row_in I1 hqx
      obtain ⟨its2, rv2, p2, lb⟩ := row_in I1 hqy
      refine call_zip p1 p2 fun h' hz hTI hTO j1 j2 hk => wpAny_pyIter_zip hz ?_
      have I2 : Inv X pins σ H1 { s1 with heap := h' } := I1.kept (t' := s1.toks) hk
      refine ⟨s1.heap.objs.size + 4, [s1.heap.objs.size + 4, s1.heap.objs.size + 2, s1.heap.objs.size + 3, s1.heap.objs.size, s1.heap.objs.size + 1], _, _, H1, rfl, I2, turn_zipK (PySem.W.ktu_apart s1.heap.objs.size a b la lb), ⟨hz, hTI, ⟨_, _, hTO⟩, j1, j2⟩, fun c hcm => ?_, q⟩
      have hle : s1.heap.objs.size ≤ c := by
        simp only [List.mem_cons, List.not_mem_nil, or_false] at hcm
        rcases hcm with rfl | rfl | rfl | rfl | rfl <;> omega
      exact I1.fpOk hle (I1.hok.fresh hle)
end ZQ
/-! Dl: a language of data. What a piece of the program asks and gives, over plain data (PyData): no heap, no addresses.
    A slot holds data that nobody changes any more (sh), a list or dict of the frame's own that it may change (ow), or one that its caller lent it (bo). -/
namespace Dl
open PySem
set_option autoImplicit false
abbrev D := PyData
/-- the script: a list that is only read -/
def scrD (ds : List D) : D := .dict [(.none, .list ds)]
inductive EV where
  | sh (d : D) | ow (d : D) | bo (d : D)
abbrev Env := List (Option EV)
def EV.dat : EV → D
  | .sh d => d | .ow d => d | .bo d => d
/-- the errors of the program -/
inductive Exc where
  | refused | large | missing | form (line : Int) | broken (name : Str)
abbrev E0d : Exc → Prop := fun _ => False
abbrev KE := D → Bool → Env → Prop
abbrev WE := Env → KE → Prop
abbrev WT := Env → (Bool → Env → Prop) → Prop
abbrev WA := Env → (List D → Env → Prop) → Prop
abbrev WI := Env → (List D → Env → Prop) → Prop
structure Po where
  nx : Env → Prop
  rt : KE
  bk : Env → Prop := fun _ => False
  ct : Env → Prop := fun _ => False
abbrev WS := Po → Env → Prop
abbrev WG := D → Bool → Env → (Env → Prop) → Prop
/-- a def: arguments, what is wanted of its answer (with what lent objects are now), of its error -/
abbrev Con := List D → (D → Bool → List D → Prop) → (Exc → Prop) → Prop
abbrev O1 := D → (D → Bool → Prop) → Prop
abbrev O2 := D → D → (D → Bool → Prop) → Prop
abbrev LIM : Nat := 16777216

/-! ### expressions -/
def rdE (ρ : Env) (i : Nat) : Option D := match ρ[i]? with
  | some (some e) => some e.dat
  | _ => none
def wC (d : D) : WE := fun ρ Q => Q d false ρ
/-- a name, its object handed on: it is changed no more -/
def wV (i : Nat) : WE := fun ρ Q => match ρ[i]? with
  | some (some (.sh d)) => Q d false ρ
  | some (some (.ow d)) => Q d false (ρ.set i (some (.sh d)))
  | _ => False
def wO (o : O1) (a : WE) : WE := fun ρ Q => a ρ fun d _ ρ1 => o d fun r f => Q r f ρ1
/-- .. of a name, only looked at -/
def wOP (o : O1) (i : Nat) : WE := fun ρ Q => match rdE ρ i with
  | some d => o d fun r f => Q r f ρ
  | none => False
def wB (o : O2) (a b : WE) : WE := fun ρ Q => a ρ fun d _ ρ1 => b ρ1 fun e _ ρ2 => o d e fun r f => Q r f ρ2
def wBL (o : O2) (i : Nat) (b : WE) : WE := fun ρ Q => (rdE ρ i).isSome = true ∧ b ρ fun e _ ρ1 => match rdE ρ1 i with
  | some d => o d e fun r f => Q r f ρ1
  | none => False
def wBR (o : O2) (a : WE) (i : Nat) : WE := fun ρ Q => a ρ fun d _ ρ1 => match rdE ρ1 i with
  | some e => o d e fun r f => Q r f ρ1
  | none => False
def wBB (o : O2) (i j : Nat) : WE := fun ρ Q => match rdE ρ i, rdE ρ j with
  | some d, some e => o d e fun r f => Q r f ρ
  | _, _ => False
def wNil : WA := fun ρ Q => Q [] ρ
def wCons (a : WE) (t : WA) : WA := fun ρ Q => a ρ fun d _ ρ1 => t ρ1 fun ds ρ2 => Q (d :: ds) ρ2
def wTup (t : WA) : WE := fun ρ Q => t ρ fun ds ρ1 => ds.length ≤ LIM ∧ Q (.tuple ds) false ρ1
def wLst (t : WA) : WE := fun ρ Q => t ρ fun ds ρ1 => ds.length ≤ LIM ∧ Q (.list ds) true ρ1
/-- a built-in over evaluated arguments -/
abbrev OA := List D → (D → Bool → Prop) → Prop
def wF (o : OA) (t : WA) : WE := fun ρ Q => t ρ fun ds ρ1 => o ds fun r f => Q r f ρ1
def wCall (C : Con) (E : Exc → Prop) (t : WA) : WE := fun ρ Q => t ρ fun ds ρ1 => C ds (fun r f _ => Q r f ρ1) E
/-- the first argument is slot i's object, lent -/
def wCallB (C : Con) (E : Exc → Prop) (i : Nat) (t : WA) : WE := fun ρ Q => (rdE ρ i).isSome = true ∧ t ρ fun ds ρ1 => match ρ1[i]? with
  | some (some (.ow d)) => C (d :: ds) (fun r f bs => ∃ d', bs = [d'] ∧ Q r f (ρ1.set i (some (.ow d')))) E
  | some (some (.bo d)) => C (d :: ds) (fun r f bs => ∃ d', bs = [d'] ∧ Q r f (ρ1.set i (some (.bo d')))) E
  | _ => False
/-! ### told: what a lambda's body gives, or the name of its error -/
def excName : Exc → Str
  | .refused => Str.ofString "refused"
  | .large => Str.ofString "large"
  | .missing => Str.ofString "missing"
  | .form _ => Str.ofString "form"
  | .broken _ => Str.ofString "broken"
/-- slot i's object is changed no more -/
def fzE (ρ : Env) (i : Nat) : Env := match ρ[i]? with
  | some (some (.ow d)) => ρ.set i (some (.sh d))
  | _ => ρ
def fzL (ρ : Env) : List Nat → Env
  | [] => ρ
  | i :: is => fzL (fzE ρ i) is
/-- what the lambda may look at -/
def hideE (ρ : Env) : Env := ρ.map fun e => match e with
  | some (.sh d) => some (.sh d)
  | _ => none
/-- told(lambda: body); cs: the slots that the body reads -/
def wTold (cs : List Nat) (fw : (Exc → Prop) → WE) : WE := fun ρ Q => fw (fun x => Q (.tuple [.str (excName x)]) false (fzL ρ cs)) (hideE (fzL ρ cs)) fun d _ _ => Q (.tuple [.str (Str.ofString "told"), d]) false (fzL ρ cs)
/-! ### tests -/
def wTv (e : WE) : WT := fun ρ Q => e ρ fun d _ ρ1 => ∃ b, d = .bool b ∧ Q b ρ1
def wAnd (a b : WT) : WT := fun ρ Q => a ρ fun c ρ1 => (c = true → b ρ1 Q) ∧ (c = false → Q false ρ1)
def wOr (a b : WT) : WT := fun ρ Q => a ρ fun c ρ1 => (c = true → Q true ρ1) ∧ (c = false → b ρ1 Q)
def wNot (a : WT) : WT := fun ρ Q => a ρ fun c ρ1 => Q (!c) ρ1
def wAndV (a b : WE) : WE := fun ρ Q => a ρ fun d _ ρ1 => ∃ c, d = .bool c ∧ (c = true → b ρ1 Q) ∧ (c = false → Q (.bool false) false ρ1)
def wOrV (a b : WE) : WE := fun ρ Q => a ρ fun d _ ρ1 => ∃ c, d = .bool c ∧ (c = true → Q (.bool true) false ρ1) ∧ (c = false → b ρ1 Q)
def wNotV (a : WE) : WE := fun ρ Q => a ρ fun d _ ρ1 => ∃ c, d = .bool c ∧ Q (.bool (!c)) false ρ1
def wIf (t : WT) (a b : WE) : WE := fun ρ Q => t ρ fun c ρ1 => (c = true → a ρ1 Q) ∧ (c = false → b ρ1 Q)
/-- a op b op' c -/
def wChain (o o' : O2) (a b c : WE) : WE := fun ρ Q => a ρ fun d _ ρ1 => b ρ1 fun e _ ρ2 => o d e fun r _ => ∃ k, r = .bool k ∧
  (k = true → c ρ2 fun g _ ρ3 => o' e g fun r' f' => Q r' f' ρ3) ∧ (k = false → Q (.bool false) false ρ2)
/-! ### statements -/
def wNext : WS := fun P ρ => P.nx ρ
def wSeq (s t : WS) : WS := fun P ρ => s { P with nx := t P } ρ
def wBreak : WS := fun P ρ => P.bk ρ
def wCont : WS := fun P ρ => P.ct ρ
def wDrop (e : WE) : WS := fun P ρ => e ρ fun _ _ ρ1 => P.nx ρ1
def wRet (e : WE) : WS := fun P ρ => e ρ P.rt
def wRetV (i : Nat) : WS := fun P ρ => match ρ[i]? with
  | some (some (.sh d)) => P.rt d false ρ
  | some (some (.ow d)) => P.rt d true (ρ.set i none)
  | _ => False
def wRetN : WS := fun P ρ => P.rt .none false ρ
def wIfS (t : WT) (a b : WS) : WS := fun P ρ => t ρ fun c ρ1 => (c = true → a P ρ1) ∧ (c = false → b P ρ1)
def wNever : WS := fun _ _ => False
def wRaise (E : Exc → Prop) (x : Exc) : WS := fun _ _ => E x
/-! ### targets -/
def setE (ρ : Env) (i : Nat) (d : D) (f : Bool) : Env := ρ.set i (some (if f then .ow d else .sh d))
def free (ρ : Env) (i : Nat) : Prop := match ρ[i]? with
  | some (some (.bo _)) => False
  | some _ => True
  | none => False
def gN (i : Nat) : WG := fun d f ρ Q => free ρ i ∧ Q (setE ρ i d f)
abbrev WGs := List D → Env → (Env → Prop) → Prop
def gNil : WGs := fun ds ρ Q => ds = [] ∧ Q ρ
def gCons (g : WG) (r : WGs) : WGs := fun ds ρ Q => ∃ d t, ds = d :: t ∧ g d false ρ fun ρ1 => r t ρ1 Q
def gTup (n : Nat) (r : WGs) : WG := fun d _ ρ Q => ∃ ds, d = .tuple ds ∧ ds.length = n ∧ r ds ρ Q
/-- the place of an index in a sequence of n -/
def ixD (n : Nat) (i : Int) : Option Nat := if 0 ≤ i then (if i < n then some i.toNat else none) else if -(n : Int) ≤ i then some (i + n).toNat else none
/-- x[e] = value -/
def gIx (x : Nat) (e : WE) : WG := fun d _ ρ Q => (rdE ρ x).isSome = true ∧ e ρ fun di _ ρ1 => ∃ xs i j, di = .int i ∧
  ((ρ1[x]? = some (some (.ow (.list xs))) ∧ ixD xs.length i = some j ∧ Q (ρ1.set x (some (.ow (.list (xs.set j d)))))) ∨
   (ρ1[x]? = some (some (.bo (.list xs))) ∧ ixD xs.length i = some j ∧ Q (ρ1.set x (some (.bo (.list (xs.set j d)))))))
def wAsg (e : WE) (g : WG) : WS := fun P ρ => e ρ fun d f ρ1 => g d f ρ1 P.nx
def wPar (i j : Nat) (a b : WE) : WS := fun P ρ => a ρ fun d _ ρ1 => b ρ1 fun e _ ρ2 => free ρ2 i ∧ free ρ2 j ∧ P.nx (setE (setE ρ2 i d false) j e false)
def isL (ρ : Env) (x : Nat) : Prop := match rdE ρ x with
  | some (.list _) => True
  | _ => False
/-- x.append(e) -/
def wApp (x : Nat) (e : WE) : WS := fun P ρ => isL ρ x ∧ e ρ fun d _ ρ1 => ∃ xs, xs.length < LIM ∧
  ((ρ1[x]? = some (some (.ow (.list xs))) ∧ P.nx (ρ1.set x (some (.ow (.list (xs ++ [d])))))) ∨
   (ρ1[x]? = some (some (.bo (.list xs))) ∧ P.nx (ρ1.set x (some (.bo (.list (xs ++ [d])))))))
/-! ### loops -/
def forGo (g : WG) (body : WS) (P : Po) : List D → Env → Prop
  | [], ρ => P.nx ρ
  | x :: xs, ρ => g x false ρ fun ρ1 => body { P with nx := forGo g body P xs, ct := forGo g body P xs, bk := P.nx } ρ1
def wFor (it : WI) (g : WG) (body : WS) : WS := fun P ρ => it ρ fun xs ρ1 => forGo g body P xs ρ1
def wWhile (t : WT) (body : WS) : WS := fun P ρ => ∃ W : Nat → Env → Prop, (∃ m, W m ρ) ∧ ∀ m ρ1, W m ρ1 → t ρ1 fun b ρ2 =>
  (b = true → body { P with nx := fun ρ3 => ∃ m', m' < m ∧ W m' ρ3, ct := fun ρ3 => ∃ m', m' < m ∧ W m' ρ3, bk := P.nx } ρ2) ∧ (b = false → P.nx ρ2)
/-! ### what is walked -/
def itS (e : WE) : WI := fun ρ Q => e ρ fun d _ ρ1 => ∃ xs, (d = .list xs ∨ d = .tuple xs) ∧ Q xs ρ1
def rangeL (lo : Int) (n : Nat) : List D := (List.range n).map fun k => .int (lo + (k : Nat))
def itR1 (e : WE) : WI := fun ρ Q => e ρ fun d _ ρ1 => ∃ n : Int, d = .int n ∧ -4611686018427387904 ≤ n ∧ n < 4611686018427387904 ∧ Q (rangeL 0 n.toNat) ρ1
def itR2 (a b : WE) : WI := fun ρ Q => a ρ fun d _ ρ1 => b ρ1 fun e _ ρ2 => ∃ m n : Int, d = .int m ∧ e = .int n ∧
  (-4611686018427387904 ≤ m ∧ m < 4611686018427387904 ∧ -4611686018427387904 ≤ n ∧ n < 4611686018427387904) ∧ Q (rangeL m (n - m).toNat) ρ2
/-! ### comprehensions -/
def wipeE (ρ : Env) : List Nat → Env
  | [] => ρ
  | v :: vs => (wipeE ρ vs).set v none
def backE (ρ0 ρ : Env) : List Nat → Env
  | [] => ρ
  | v :: vs => (backE ρ0 ρ vs).set v (ρ0[v]?.getD none)
def lcGo (g : WG) (t : WT) (e : WE) (vs : List Nat) (Q : List D → Env → Prop) : List D → List D → Env → Prop
  | [], acc, ρ => Q acc ρ
  | x :: xs, acc, ρ => g x false ρ fun ρ1 => t ρ1 fun b ρ2 =>
    (b = true → e ρ2 fun d _ ρ3 => lcGo g t e vs Q xs (acc ++ [d]) (wipeE ρ3 vs)) ∧ (b = false → lcGo g t e vs Q xs acc (wipeE ρ2 vs))
def tYes : WT := fun ρ Q => Q true ρ
def frees (ρ : Env) : List Nat → Prop
  | [] => True
  | v :: vs => free ρ v ∧ frees ρ vs
def wLc (it : WI) (g : WG) (t : WT) (e : WE) (vs : List Nat) : WE := fun ρ Q => it ρ fun xs ρ1 => xs.length ≤ LIM ∧ frees ρ1 vs ∧
  lcGo g t e vs (fun acc ρ2 => Q (.list acc) true (backE ρ1 ρ2 vs)) xs [] (wipeE ρ1 vs)
/-! ### operations on data -/
def mulOk (i j : Int) : Prop := (-18446744073709551616 < i ∧ i < 18446744073709551616) ∨ (-18446744073709551616 < j ∧ j < 18446744073709551616) ∨ i.natAbs.log2 + j.natAbs.log2 < 1000000
def oAdd : O2 := fun d e Q => match d, e with
  | .int i, .int j => Q (.int (i + j)) false
  | .str x, .str y => x.length + y.length ≤ LIM ∧ Q (.str (x ++ y)) false
  | .list xs, .list ys => xs.length + ys.length ≤ LIM ∧ Q (.list (xs ++ ys)) true
  | .tuple xs, .tuple ys => xs.length + ys.length ≤ LIM ∧ Q (.tuple (xs ++ ys)) false
  | _, _ => False
def oSub : O2 := fun d e Q => match d, e with
  | .int i, .int j => Q (.int (i - j)) false
  | _, _ => False
def oMul : O2 := fun d e Q => match d, e with
  | .int i, .int j => mulOk i j ∧ Q (.int (i * j)) false
  | .list xs, .int k => -9223372036854775808 ≤ k ∧ k < 9223372036854775808 ∧ xs.length * k.toNat ≤ LIM ∧ Q (.list (List.replicate k.toNat xs).flatten) true
  | .tuple xs, .int k => (-1000 ≤ k ∧ k * xs.length ≤ 1000000 ∧ k ≤ 1000000) ∧ Q (.tuple (List.replicate k.toNat xs).flatten) false
  | _, _ => False
def oFdiv : O2 := fun d e Q => match d, e with
  | .int i, .int j => j ≠ 0 ∧ j.natAbs.log2 < 9000 ∧ Q (.int (i.fdiv j)) false
  | _, _ => False
def oMod : O2 := fun d e Q => match d, e with
  | .int i, .int j => j ≠ 0 ∧ Q (.int (i.fmod j)) false
  | _, _ => False
def oPow : O2 := fun d e Q => match d, e with
  | .int i, .int j => (0 ≤ j ∧ j ≤ 1000000 ∧ i.natAbs < 18446744073709551616) ∧ Q (.int (i ^ j.toNat)) false
  | _, _ => False
def oShl : O2 := fun d e Q => match d, e with
  | .int i, .int j => (0 ≤ j ∧ j ≤ 1000000 ∧ i.natAbs < 18446744073709551616) ∧ Q (.int (i * 2 ^ j.toNat)) false
  | _, _ => False
def oShr : O2 := fun d e Q => match d, e with
  | .int i, .int j => 0 ≤ j ∧ Q (.int (i / 2 ^ j.toNat)) false
  | _, _ => False
def oNeg : O1 := fun d Q => match d with
  | .int i => Q (.int (-i)) false
  | _ => False
/-- data that may be compared, shown: no dict within, not too deep -/
def tame (d : D) : Prop := d.plain = true ∧ d.depth ≤ 50
def oEq : O2 := fun d e Q => tame d ∧ tame e ∧ Q (.bool (PyData.eqv d e)) false
def oNe : O2 := fun d e Q => tame d ∧ tame e ∧ Q (.bool (!PyData.eqv d e)) false
def oLt : O2 := fun d e Q => match d, e with
  | .int i, .int j => Q (.bool (decide (i < j))) false
  | _, _ => False
def oLe : O2 := fun d e Q => match d, e with
  | .int i, .int j => Q (.bool (decide (i ≤ j))) false
  | _, _ => False
def oGt : O2 := fun d e Q => match d, e with
  | .int i, .int j => Q (.bool (decide (j < i))) false
  | _, _ => False
def oGe : O2 := fun d e Q => match d, e with
  | .int i, .int j => Q (.bool (decide (j ≤ i))) false
  | _, _ => False
def atD {α : Type} (xs : List α) (i : Int) : Option α := (ixD xs.length i).bind fun j => xs[j]?
def oIx : O2 := fun d e Q => match d, e with
  | .list xs, .int i => ∃ x, atD xs i = some x ∧ Q x false
  | .tuple xs, .int i => ∃ x, atD xs i = some x ∧ Q x false
  | .str z, .int i => z.length ≤ LIM ∧ ∃ c, atD z.cps.toList i = some c ∧ Q (.str ⟨#[c]⟩) false
  | _, _ => False
def oLen : O1 := fun d Q => match d with
  | .list xs => Q (.int xs.length) false
  | .dict [(.none, .list xs)] => Q (.int xs.length) false
  | .tuple xs => Q (.int xs.length) false
  | .str z => z.length ≤ LIM ∧ Q (.int z.length) false
  | _ => False
def oAbs : O1 := fun d Q => match d with
  | .int i => Q (.int (if i < 0 then -i else i)) false
  | _ => False
def oInt : O1 := fun d Q => match d with
  | .int i => Q (.int i) false
  | .bool b => Q (.int (if b then 1 else 0)) false
  | _ => False
def oMax2 : O2 := fun d e Q => match d, e with
  | .int i, .int j => Q (.int (if j > i then j else i)) false
  | _, _ => False
def oMin2 : O2 := fun d e Q => match d, e with
  | .int i, .int j => Q (.int (if j < i then j else i)) false
  | _, _ => False
def txt (i : Int) : Str := Str.ofString (toString i)
def oStr : O1 := fun d Q => match d with
  | .int i => i.natAbs.log2 < 1920 ∧ Q (.str (txt i)) false
  | .str x => Q (.str x) false
  | _ => False
def oRepr : O1 := fun d Q => match d with
  | .list xs => (tame (.list xs) ∧ PyData.showable (.list xs) = true ∧ (PyData.shown (.list xs)).length ≤ LIM) ∧ Q (.str (PyData.shown (.list xs))) false
  | _ => False
/-- a part of an f-string -/
def oFmt : O1 := fun d Q => match d with
  | .int i => i.natAbs.log2 < 1920 ∧ Q (.str (txt i)) false
  | .str x => x.length ≤ LIM ∧ Q (.str x) false
  | _ => False
def fsGo : List WE → Str → Env → (Str → Env → Prop) → Prop
  | [], acc, ρ, Q => Q acc ρ
  | e :: es, acc, ρ, Q => e ρ fun d _ ρ1 => ∃ y : Str, d = .str y ∧ (acc ++ y).length ≤ LIM ∧ fsGo es (acc ++ y) ρ1 Q
def wFs (es : List WE) : WE := fun ρ Q => fsGo es Str.empty ρ fun z ρ1 => Q (.str z) false ρ1
/-! #### more operations -/
def oI2 (f : Int → Int → Int) : O2 := fun d e Q => match d, e with
  | .int i, .int j => Q (.int (f i j)) false
  | _, _ => False
abbrev oAnd : O2 := oI2 Builtin.bitAnd
abbrev oOr : O2 := oI2 Builtin.bitOr
abbrev oXor : O2 := oI2 Builtin.bitXor
def oInv : O1 := fun d Q => match d with
  | .int i => Q (.int (Builtin.bitNot i)) false
  | _ => False
/-- the items of a list, a tuple -/
def seqD : D → Option (List D)
  | .list xs => some xs
  | .tuple xs => some xs
  | _ => none
def oAll : O1 := fun d Q => ∃ bs : List Bool, d = .list (bs.map PyData.bool) ∧ Q (.bool (bs.all id)) false
def oAny : O1 := fun d Q => ∃ bs : List Bool, d = .list (bs.map PyData.bool) ∧ Q (.bool (bs.any id)) false
def oSum : O1 := fun d Q => ∃ ns : List Int, (d = .list (ns.map PyData.int) ∨ d = .tuple (ns.map PyData.int)) ∧ Q (.int ns.sum) false
/-- x in s, x not in s -/
def oIn : O2 := fun d e Q => ∃ xs, (e = .list xs ∨ e = .tuple xs) ∧ tame d ∧ tame e ∧ Q (.bool (xs.any fun z => PyData.eqv z d)) false
def oNotIn : O2 := fun d e Q => ∃ xs, (e = .list xs ∨ e = .tuple xs) ∧ tame d ∧ tame e ∧ Q (.bool (!xs.any fun z => PyData.eqv z d)) false
def oTuple : O1 := fun d Q => ∃ xs, (d = .list xs ∨ d = .tuple xs) ∧ Q (.tuple xs) false
def oList : O1 := fun d Q => ∃ xs, (d = .list xs ∨ d = .tuple xs) ∧ Q (.list xs) true
def oMin : O1 := fun d Q => ∃ x xs, (d = .list (x :: xs) ∨ d = .tuple (x :: xs)) ∧ tame d ∧ PySem.W.AlikeAll (x :: xs) ∧ Q (PySem.W.minD x xs) false
def oMax : O1 := fun d Q => ∃ x xs, (d = .list (x :: xs) ∨ d = .tuple (x :: xs)) ∧ tame d ∧ PySem.W.AlikeAll (x :: xs) ∧ Q (PySem.W.maxD x xs) false
def sortD (xs : List D) : List D := xs.mergeSort (PySem.W.dataLe false id)
def oSorted : O1 := fun d Q => ∃ xs, d = .list xs ∧ tame d ∧ PySem.W.AllAlike xs ∧ PySem.W.Sortable xs ∧ Q (.list (sortD xs)) true
/-- x is None -/
def isNo : D → Bool
  | .none => true
  | _ => false
def oIsN : O2 := fun d e Q => e = .none ∧ Q (.bool (isNo d)) false
def oNotN : O2 := fun d e Q => e = .none ∧ Q (.bool (!isNo d)) false
/-! #### parts of a sequence -/
abbrev WP := Env → (Option Int → Env → Prop) → Prop
def pN : WP := fun ρ Q => Q none ρ
def pS (e : WE) : WP := fun ρ Q => e ρ fun d _ ρ1 => ∃ i, d = .int i ∧ Q (some i) ρ1
/-- where a bound of a slice lies in a sequence of n -/
def cutIx (n dflt : Nat) : Option Int → Nat
  | none => dflt
  | some i => if i < 0 then (i + n).toNat else min i.toNat n
def cutD (xs : List D) (lo hi : Option Int) : List D := (xs.drop (cutIx xs.length 0 lo)).take (cutIx xs.length xs.length hi - cutIx xs.length 0 lo)
def oCut (lo hi : Option Int) : O1 := fun d Q => match d with
  | .list xs => Q (.list (cutD xs lo hi)) true
  | .dict [(.none, .list xs)] => Q (.list (cutD xs lo hi)) true
  | .tuple xs => Q (.tuple (cutD xs lo hi)) false
  | _ => False
def wSl (a : WE) (lo hi : WP) : WE := fun ρ Q => a ρ fun d _ ρ1 => lo ρ1 fun l ρ2 => hi ρ2 fun h ρ3 => oCut l h d fun r f => Q r f ρ3
/-! #### two walked together -/
def zipD : List D → List D → List D
  | x :: xs, y :: ys => .tuple [x, y] :: zipD xs ys
  | _, _ => []
def itZ (a b : WE) : WI := fun ρ Q => a ρ fun d _ ρ1 => b ρ1 fun e _ ρ2 => ∃ xs ys, ((d = .list xs ∨ d = .tuple xs) ∧ (e = .list ys ∨ e = .tuple ys)) ∧ Q (zipD xs ys) ρ2
def enumD : Nat → List D → List D
  | _, [] => []
  | k, x :: xs => .tuple [.int (k : Nat), x] :: enumD (k + 1) xs
def itE (a : WE) : WI := fun ρ Q => a ρ fun d _ ρ1 => ∃ xs, d = .list xs ∧ Q (enumD 0 xs) ρ1
/-! ### a def's frame -/
def startE (bs : List Bool) : List D → Nat → Env
  | [], n => List.replicate n none
  | d :: ds, n => some (if bs.headD false then .bo d else .sh d) :: startE bs.tail ds n
def lent (ρ : Env) : List D := ρ.filterMap fun e => match e with
  | some (.bo d) => some d
  | _ => none
/-- the body's reading keeps the promise C: m other names behind the parameters -/
def Keeps (C : Con) (bs : List Bool) (m : Nat) (w : (Exc → Prop) → WS) : Prop := ∀ ds Q E, C ds Q E →
  ds.length = bs.length ∧ w E { nx := fun ρ => Q .none false (lent ρ), rt := fun r f ρ => Q r f (lent ρ) } (startE bs ds m)
/-- the promise of a law: true of every script -/
def lawC (B : List Int → Prop) : Con := fun ds Q _ => ∃ ns : List Int, ds = [scrD (ns.map PyData.int)] ∧ B ns ∧ ∀ f, Q (.bool true) f []
theorem lawC_len {B : List Int → Prop} : ∀ ds Q E, lawC B ds Q E → ds.length = 1 := fun ds Q E h => by
  obtain ⟨ns, rfl, _⟩ := h
  rfl
end Dl
set_option maxRecDepth 100000
set_option maxHeartbeats 1000000
/-! Ds: the language of data is true of the model: each of its words stands for a piece of syntax, over the hand layer's judgements. -/
namespace Dl
open PySem PySem.Spec L2
set_option autoImplicit false

/-! ### data in a heap -/
def keyD : Key → D
  | .inl i => .int i
  | .inr x => .str x
mutual
inductive At (K : PySem.W.Frag) (F : Hp) : V → D → Prop
  | non : At K F .non .none
  | bl (b : Bool) : At K F (.bl b) (.bool b)
  | int (i : Int) : At K F (.int i) (.int i)
  | str (x : Str) : At K F (.str x) (.str x)
  | lst {a : Addr} {xs : List V} {ds : List D} : F a = some (.lst xs) → AtL K F xs ds → ds.length ≤ LIM → At K F (.ref a) (.list ds)
  | scr {a : Addr} {xs : List V} {ds : List D} : SqL K F a xs → AtL K F xs ds → ds.length ≤ LIM → At K F (.ref a) (scrD ds)
  | tup {a : Addr} {xs : List V} {ds : List D} : SqT K F a xs → AtL K F xs ds → ds.length ≤ LIM → At K F (.ref a) (.tuple ds)
  | dK {a : Addr} {kv : List (Key × V)} {ks vs : List D} : F a = some (.dK kv) → ks = kv.map (fun p => keyD p.1) → AtL K F (kv.map (·.2)) vs → At K F (.ref a) (.dict (ks.zip vs))
  | dT {a : Addr} {kv : List (List Key × V)} {ks vs : List D} : F a = some (.dT kv) → ks = kv.map (fun p => .tuple (p.1.map keyD)) → AtL K F (kv.map (·.2)) vs → At K F (.ref a) (.dict (ks.zip vs))
inductive AtL (K : PySem.W.Frag) (F : Hp) : List V → List D → Prop
  | nil : AtL K F [] []
  | cons {v : V} {vs : List V} {d : D} {ds : List D} : At K F v d → AtL K F vs ds → AtL K F (v :: vs) (d :: ds)
end
abbrev Sub (F F' : Hp) : Prop := ∀ a o, F a = some o → F' a = some o
theorem Sub.refl (F : Hp) : Sub F F := fun _ _ h => h
theorem Sub.trans {F F1 F2 : Hp} (x : Sub F F1) (y : Sub F1 F2) : Sub F F2 := fun a o h => y a o (x a o h)
theorem Sub.seqL {K : PySem.W.Frag} {F F' : Hp} {a : Addr} {xs : List V} (e : Sub F F') (h : SqL K F a xs) : SqL K F' a xs := by
  rcases h with (h | ⟨o, h⟩) | h
  · exact .inl (.inl (e _ _ h))
  · exact .inl (.inr ⟨o, e _ _ h⟩)
  · exact .inr h
theorem Sub.seqT {K : PySem.W.Frag} {F F' : Hp} {a : Addr} {xs : List V} (e : Sub F F') (h : SqT K F a xs) : SqT K F' a xs := by
  rcases h with (h | ⟨o, h⟩) | h
  · exact .inl (.inl (e _ _ h))
  · exact .inl (.inr ⟨o, e _ _ h⟩)
  · exact .inr h
/-- no table of code objects -/
abbrev NT (o : HO) : Prop := ∀ ps : Array Value, o ≠ .tbl ps
open Classical in
noncomputable def noTab (H : Hp) : Hp := fun a => if ∃ ps, H a = some (.tbl ps) then none else H a
theorem noTab_nt {H : Hp} {a : Addr} {o : HO} (e : H a = some o) (n : NT o) : noTab H a = some o := by
  unfold noTab
  rw [if_neg]
  · exact e
  · rintro ⟨ps, z⟩; rw [e] at z; cases z; exact n _ rfl
theorem noTab_sub (H : Hp) : Sub (noTab H) H := fun a o e => by
  unfold noTab at e
  split at e
  · cases e
  · exact e
theorem noTab_ft (H : Hp) : ∀ a ps, noTab H a ≠ some (.tbl ps) := fun a ps e => by
  have e' := noTab_sub H a _ e
  unfold noTab at e
  rw [if_pos ⟨ps, e'⟩] at e
  cases e
theorem Tabs_sub {T : List (Addr × Str)} {H H' : Hp} (t : LamX.Tabs T H) (e : Sub H H') : LamX.Tabs T H' := t.ext e
section
variable {K : PySem.W.Frag} {F F' H H' : Hp}
mutual
theorem At.mono (e : Sub F F') : ∀ {v : V} {d : D}, At K F v d → At K F' v d
  | _, _, .non => .non
  | _, _, .bl b => .bl b
  | _, _, .int i => .int i
  | _, _, .str x => .str x
  | _, _, .lst s h l => .lst (e _ _ s) (h.mono e) l
  | _, _, .scr s h l => .scr (e.seqL s) (h.mono e) l
  | _, _, .tup s h l => .tup (e.seqT s) (h.mono e) l
  | _, _, .dK s k h => .dK (e _ _ s) k (h.mono e)
  | _, _, .dT s k h => .dT (e _ _ s) k (h.mono e)
theorem AtL.mono (e : Sub F F') : ∀ {vs : List V} {ds : List D}, AtL K F vs ds → AtL K F' vs ds
  | _, _, .nil => .nil
  | _, _, .cons h t => .cons (h.mono e) (t.mono e)
end
theorem AtL.length : ∀ {vs : List V} {ds : List D}, AtL K F vs ds → vs.length = ds.length
  | _, _, .nil => rfl
  | _, _, .cons _ t => congrArg (· + 1) t.length
theorem AtL.get : ∀ {vs : List V} {ds : List D} {i : Nat} {v : V}, AtL K F vs ds → vs[i]? = some v → ∃ d, ds[i]? = some d ∧ At K F v d
  | _, _, _, _, .nil, h => by simp at h
  | _, _, 0, _, .cons h _, e => by simp at e; subst e; exact ⟨_, rfl, h⟩
  | _, _, i + 1, _, .cons _ t, e => by simpa using AtL.get (i := i) t (by simpa using e)
theorem AtL.getD : ∀ {vs : List V} {ds : List D} {i : Nat} {d : D}, AtL K F vs ds → ds[i]? = some d → ∃ v, vs[i]? = some v ∧ At K F v d
  | _, _, _, _, .nil, h => by simp at h
  | _, _, 0, _, .cons h _, e => by simp at e; subst e; exact ⟨_, rfl, h⟩
  | _, _, i + 1, _, .cons _ t, e => by simpa using AtL.getD (i := i) t (by simpa using e)
theorem AtL.append : ∀ {vs us : List V} {ds es : List D}, AtL K F vs ds → AtL K F us es → AtL K F (vs ++ us) (ds ++ es)
  | _, _, _, _, .nil, s => s
  | _, _, _, _, .cons h t, s => .cons h (t.append s)
theorem AtL.take : ∀ {vs : List V} {ds : List D} (n : Nat), AtL K F vs ds → AtL K F (vs.take n) (ds.take n)
  | _, _, 0, _ => .nil
  | _, _, _ + 1, .nil => .nil
  | _, _, n + 1, .cons h t => .cons h (t.take n)
theorem AtL.drop : ∀ {vs : List V} {ds : List D} (n : Nat), AtL K F vs ds → AtL K F (vs.drop n) (ds.drop n)
  | _, _, 0, r => r
  | _, _, _ + 1, .nil => .nil
  | _, _, n + 1, .cons _ t => t.drop n
theorem AtL.set {v : V} {d : D} (r : At K F v d) : ∀ {vs : List V} {ds : List D} (i : Nat), AtL K F vs ds → AtL K F (vs.set i v) (ds.set i d)
  | _, _, _, .nil => .nil
  | _, _, 0, .cons _ t => .cons r t
  | _, _, i + 1, .cons q t => .cons q (t.set r i)
theorem AtL.ints : ∀ {vs : List V} {ns : List Int}, AtL K F vs (ns.map PyData.int) → vs = ns.map V.int
  | _, [], .nil => rfl
  | _, n :: ns, .cons h t => by
    cases h
    exact congrArg _ t.ints
theorem AtL.bools : ∀ {vs : List V} {ns : List Bool}, AtL K F vs (ns.map PyData.bool) → vs = ns.map V.bl
  | _, [], .nil => rfl
  | _, n :: ns, .cons h t => by
    cases h
    exact congrArg _ t.bools
theorem AtL.strs : ∀ {vs : List V} {ns : List Str}, AtL K F vs (ns.map PyData.str) → vs = ns.map V.str
  | _, [], .nil => rfl
  | _, n :: ns, .cons h t => by
    cases h
    exact congrArg _ t.strs
theorem AtL.ofInts : ∀ ns : List Int, AtL K F (ns.map V.int) (ns.map PyData.int)
  | [] => .nil
  | n :: ns => .cons (.int n) (.ofInts ns)
theorem AtL.ofStrs : ∀ ns : List Str, AtL K F (ns.map V.str) (ns.map PyData.str)
  | [] => .nil
  | n :: ns => .cons (.str n) (.ofStrs ns)

/-- a changeable object that is nobody else's -/
def Ow (K : PySem.W.Frag) (F H : Hp) (a : Addr) : D → Prop
  | .list ds => ∃ xs, H a = some (.lst xs) ∧ AtL K F xs ds ∧ ds.length ≤ LIM
  | .dict kvs => (∃ (kv : List (Key × V)) (ks vs : List D), H a = some (.dK kv) ∧ ks = kv.map (fun p => keyD p.1) ∧ AtL K F (kv.map (·.2)) vs ∧ kvs = ks.zip vs) ∨
      ∃ (kv : List (List Key × V)) (ks vs : List D), H a = some (.dT kv) ∧ ks = kv.map (fun p => .tuple (p.1.map keyD)) ∧ AtL K F (kv.map (·.2)) vs ∧ kvs = ks.zip vs
  | _ => False
theorem Ow.ne {a : Addr} {d : D} (h : Ow K F H a d) : H a ≠ none := by
  cases d with
  | list ds => obtain ⟨xs, e, _⟩ := h; rw [e]; exact fun z => nomatch z
  | dict kvs =>
    rcases h with ⟨kv, _, _, e, _⟩ | ⟨kv, _, _, e, _⟩ <;> (rw [e]; exact fun z => nomatch z)
  | none => exact h.elim
  | bool b => exact h.elim
  | int i => exact h.elim
  | str x => exact h.elim
  | tuple xs => exact h.elim
theorem Ow.mono {a : Addr} {d : D} (e : Sub F F') (hh : ∀ o, H a = some o → H' a = some o) (h : Ow K F H a d) : Ow K F' H' a d := by
  cases d with
  | list ds => obtain ⟨xs, q, t, l⟩ := h; exact ⟨xs, hh _ q, t.mono e, l⟩
  | dict kvs =>
    rcases h with ⟨kv, ks, vs, q, k, t, z⟩ | ⟨kv, ks, vs, q, k, t, z⟩
    · exact .inl ⟨kv, ks, vs, hh _ q, k, t.mono e, z⟩
    · exact .inr ⟨kv, ks, vs, hh _ q, k, t.mono e, z⟩
  | none => exact h.elim
  | bool b => exact h.elim
  | int i => exact h.elim
  | str x => exact h.elim
  | tuple xs => exact h.elim
/-- it is handed on: nobody changes it any more -/
theorem Ow.plainO {a : Addr} {d : D} (h : Ow K F H a d) : ∃ o, H a = Option.some o ∧ NT o ∧ ∀ c q, o ≠ LamX.CodeO c q := by
  cases d with
  | list ds => obtain ⟨xs, e, _⟩ := h; exact ⟨_, e, fun ps z => (nomatch z), fun c q z => by unfold LamX.CodeO at z; cases z⟩
  | dict kvs =>
    rcases h with ⟨kv, _, _, e, _⟩ | ⟨kv, _, _, e, _⟩ <;> exact ⟨_, e, fun ps z => (nomatch z), fun c q z => by unfold LamX.CodeO at z; cases z⟩
  | none => exact h.elim
  | bool b => exact h.elim
  | int i => exact h.elim
  | str x => exact h.elim
  | tuple xs => exact h.elim
theorem Ow.nnt {a : Addr} {d : D} (h : Ow K F H a d) : noTab H a ≠ none := by
  obtain ⟨o, e, n, _⟩ := h.plainO
  rw [noTab_nt e n]
  exact fun z => nomatch z
theorem noTab_none {a : Addr} (h : H a = Option.none) : noTab H a = Option.none := by
  unfold noTab
  split
  · rfl
  · exact h
theorem Ow.nt {a : Addr} {d : D} {o : HO} (h : Ow K F H a d) (e : H a = Option.some o) : NT o := by
  obtain ⟨o', e', n, _⟩ := h.plainO
  rw [e] at e'; cases e'
  exact n
/-- an object that is neither a table nor a code object is changed -/
theorem Tabs_upd {T : List (Addr × Str)} {a : Addr} {o o' : HO} (e : H a = Option.some o) (n : NT o) (n' : ∀ c q, o ≠ LamX.CodeO c q) (t : LamX.Tabs T H) : LamX.Tabs T (upd H a o') := by
  intro p hp
  obtain ⟨ps, h1, h2, h3⟩ := t p hp
  refine ⟨ps, ?_, h2, fun pos cv hc => ?_⟩
  · rw [upd_ne]
    · exact h1
    · intro z; rw [z, e] at h1; cases h1; exact n _ rfl
  · obtain ⟨c, e1, e2⟩ := h3 pos cv hc
    refine ⟨c, e1, ?_⟩
    rw [upd_ne]
    · exact e2
    · intro z; rw [z, e] at e2; cases e2; exact n' _ _ rfl
theorem Ow.freeze {a : Addr} {d : D} (h : Ow K F H a d) (n : F a = Option.none) : ∃ o, H a = Option.some o ∧ Sub F (upd F a o) ∧ At K (upd F a o) (.ref a) d := by
  have sub : ∀ o, Sub F (upd F a o) := fun o b u e => by rw [upd_ne (ne_of_none e n)]; exact e
  cases d with
  | list ds => obtain ⟨xs, q, t, l⟩ := h; exact ⟨_, q, sub _, .lst upd_same (t.mono (sub _)) l⟩
  | dict kvs =>
    rcases h with ⟨kv, ks, vs, q, k, t, z⟩ | ⟨kv, ks, vs, q, k, t, z⟩
    · subst z; exact ⟨_, q, sub _, .dK upd_same k (t.mono (sub _))⟩
    · subst z; exact ⟨_, q, sub _, .dT upd_same k (t.mono (sub _))⟩
  | none => exact h.elim
  | bool b => exact h.elim
  | int i => exact h.elim
  | str x => exact h.elim
  | tuple xs => exact h.elim
end

/-! ### the ground of a def's run, and the state over it -/
/-- H0, F0: what was tracked, what was fixed, at the entry; b: the lent objects by slot -/
structure Gm where
  H0 : Hp
  F0 : Hp
  b : Nat → Option Addr
  T : List (Addr × Str)
  nt : ∀ a o, H0 a = some o → NT o
def Gm.fr (G : Gm) (H : Hp) : Prop := (∀ a o, G.H0 a = some o → (∀ i, G.b i ≠ some a) → H a = some o) ∧ LamX.Tabs G.T H
def Sl (K : PySem.W.Frag) (G : Gm) (F H : Hp) (i : Nat) (v : V) : EV → Prop
  | .sh d => At K F v d
  | .ow d => ∃ a, v = .ref a ∧ F a = none ∧ Ow K F H a d ∧ G.H0 a = none
  | .bo d => ∃ a, v = .ref a ∧ F a = none ∧ Ow K F H a d ∧ G.b i = some a
structure Rl (K : PySem.W.Frag) (G : Gm) (ρ : Env) (F : Hp) (σ : L2.St) (H : Hp) : Prop where
  len : σ.length = ρ.length
  sub : Sub F H
  mono : Sub G.F0 F
  fr : G.fr H
  nw : ∀ a o, G.H0 a = some o → G.F0 a = none → F a = none
  bh : ∀ i a, G.b i = some a → H a ≠ none ∧ G.H0 a ≠ none
  bi : ∀ i j a, G.b i = some a → G.b j = some a → i = j
  bs : ∀ (i : Nat) (a : Addr), G.b i = some a → ∃ d, ρ[i]? = some (some (EV.bo d))
  sl : ∀ (i : Nat) (e : EV), ρ[i]? = some (some e) → ∃ v, σ[i]? = some (some v) ∧ Sl K G F H i v e
  inj : ∀ (i j : Nat) (a : Addr) (d e : D), ρ[i]? = some (some (EV.ow d)) → ρ[j]? = some (some (EV.ow e)) → σ[i]? = some (some (V.ref a)) → σ[j]? = some (some (V.ref a)) → i = j
  ft : ∀ a ps, F a ≠ some (.tbl ps)
/-- the heap grows -/
structure Gr (F H F' H' : Hp) : Prop where
  hh : Sub H H'
  ff : Sub F F'
  fh : Sub F' H'
  nw : ∀ a, H a ≠ none → F' a = F a
  ft : ∀ a ps, F' a = some (.tbl ps) → F a = some (.tbl ps)
/-- the heap grows, the tables too -/
structure Gw (T : List (Addr × Str)) (F H F' H' : Hp) : Prop where
  hh : ∀ a o, NT o → H a = some o → H' a = some o
  ff : Sub F F'
  fh : Sub F' H'
  nw : ∀ a o, NT o → H a = some o → F' a = F a
  ft : ∀ a ps, F' a = some (.tbl ps) → F a = some (.tbl ps)
  tb : LamX.Tabs T H → LamX.Tabs T H'
theorem Gr.w {T : List (Addr × Str)} {F H F' H' : Hp} (g : Gr F H F' H') : Gw T F H F' H' := ⟨fun a o _ e => g.hh a o e, g.ff, g.fh, fun a o _ e => g.nw a (by rw [e]; exact fun z => nomatch z), g.ft, fun t => Tabs_sub t g.hh⟩
theorem Gr.same {F H : Hp} (s : Sub F H) : Gr F H F H := ⟨Sub.refl _, Sub.refl _, s, fun _ _ => rfl, fun _ _ h => h⟩
/-- a new object that is fixed from the start -/
theorem Gr.new {F H : Hp} {p : Addr} {o : HO} (s : Sub F H) (n : H p = none) (nt : NT o := by intro ps h; cases h) : Gr F H (upd F p o) (upd H p o) := by
  have fn : F p = none := by
    cases e : F p with
    | none => rfl
    | some u => rw [s p u e] at n; cases n
  refine ⟨fun a u e => by rw [upd_ne (ne_of_none e n)]; exact e, fun a u e => by rw [upd_ne (ne_of_none e fn)]; exact e, fun a u e => ?_, fun a h => ?_, fun a ps e => ?_⟩
  · by_cases q : a = p
    · subst q; rw [upd_same] at e ⊢; exact e
    · rw [upd_ne q] at e ⊢; exact s a u e
  · rw [upd_ne]; intro q; exact h (q ▸ n)
  · by_cases q : a = p
    · subst q; rw [upd_same] at e; exact absurd (Option.some.inj e) (nt ps)
    · rw [upd_ne q] at e; exact e
/-- a new object that may be changed -/
theorem Gr.own {F H : Hp} {p : Addr} {o : HO} (s : Sub F H) (n : H p = none) : Gr F H F (upd H p o) :=
  ⟨fun a u e => by rw [upd_ne (ne_of_none e n)]; exact e, Sub.refl _, fun a u e => by rw [upd_ne (ne_of_none (s a u e) n)]; exact s a u e, fun _ _ => rfl, fun _ _ h => h⟩
theorem Gr.trans {F H F1 H1 F2 H2 : Hp} (x : Gr F H F1 H1) (y : Gr F1 H1 F2 H2) : Gr F H F2 H2 :=
  ⟨x.hh.trans y.hh, x.ff.trans y.ff, y.fh, fun a h => by
    have h1 : H1 a ≠ none := by
      cases e : H a with
      | none => exact absurd e h
      | some o => rw [x.hh a o e]; exact fun z => nomatch z
    rw [y.nw a h1, x.nw a h], fun a ps h => x.ft a ps (y.ft a ps h)⟩
section
variable {K : PySem.W.Frag} {G : Gm} {ρ : Env} {F F' H H' : Hp} {σ : L2.St}
theorem sub_none {F H : Hp} (s : Sub F H) {a : Addr} (h : H a = none) : F a = none := by
  cases e : F a with
  | none => rfl
  | some u => rw [s a u e] at h; cases h
theorem Rl.h0 (R : Rl K G ρ F σ H) {a : Addr} (h : H a = none) : G.H0 a = none := by
  cases e : G.H0 a with
  | none => rfl
  | some o =>
    have : ∀ i, G.b i ≠ some a := fun i q => (R.bh i a q).1 h
    rw [R.fr.1 a o e this] at h; cases h
theorem Rl.h0n (R : Rl K G ρ F σ H) {a : Addr} (h : noTab H a = none) : G.H0 a = none := by
  cases z : G.H0 a with
  | none => rfl
  | some u =>
    by_cases b : ∃ i, G.b i = some a
    · obtain ⟨i, hb⟩ := b
      obtain ⟨d, hd⟩ := R.bs i a hb
      obtain ⟨v, _, a', rfl, _, w, hb'⟩ := R.sl i _ hd
      rw [hb] at hb'; cases hb'
      exact absurd h w.nnt
    · rw [noTab_nt (R.fr.1 a u z fun i hi => b ⟨i, hi⟩) (G.nt a u z)] at h; cases h
theorem Rl.growW (R : Rl K G ρ F σ H) (g : Gw G.T F H F' H') : Rl K G ρ F' σ H' := by
  have kp : ∀ {a : Addr} {d : D}, Ow K F H a d → F' a = F a ∧ H' a ≠ none := fun {a d} w => by
    obtain ⟨o, e, n, _⟩ := w.plainO
    exact ⟨g.nw a o n e, by rw [g.hh a o n e]; exact fun z => nomatch z⟩
  refine ⟨R.len, g.fh, R.mono.trans g.ff, ⟨fun a o e n => g.hh _ _ (G.nt a o e) (R.fr.1 a o e n), g.tb R.fr.2⟩, fun a o e n => ?_, fun i a e => ⟨?_, (R.bh i a e).2⟩, R.bi, R.bs, fun i e q => ?_, R.inj, fun a ps e => R.ft a ps (g.ft a ps e)⟩
  · have f := R.nw a o e n
    by_cases b : ∃ i, G.b i = some a
    · obtain ⟨i, hb⟩ := b
      obtain ⟨d, hd⟩ := R.bs i a hb
      obtain ⟨v, _, a', rfl, _, w, hb'⟩ := R.sl i _ hd
      rw [hb] at hb'; cases hb'
      rw [(kp w).1]; exact f
    · rw [g.nw a o (G.nt a o e) (R.fr.1 a o e fun i z => b ⟨i, z⟩)]; exact f
  · obtain ⟨d, hd⟩ := R.bs i a e
    obtain ⟨v, _, a', rfl, _, w, hb'⟩ := R.sl i _ hd
    rw [e] at hb'; cases hb'
    exact (kp w).2
  · obtain ⟨v, hv, s⟩ := R.sl i e q
    refine ⟨v, hv, ?_⟩
    cases e with
    | sh d => exact At.mono g.ff s
    | ow d =>
      obtain ⟨a, rfl, f, o, z⟩ := s
      exact ⟨a, rfl, by rw [(kp o).1]; exact f, o.mono g.ff (fun u e => g.hh _ _ (o.nt e) e), z⟩
    | bo d =>
      obtain ⟨a, rfl, f, o, z⟩ := s
      exact ⟨a, rfl, by rw [(kp o).1]; exact f, o.mono g.ff (fun u e => g.hh _ _ (o.nt e) e), z⟩
theorem Rl.grow (R : Rl K G ρ F σ H) (g : Gr F H F' H') : Rl K G ρ F' σ H' := R.growW g.w
theorem ft_upd {F : Hp} {a : Addr} {o : HO} (h : ∀ a ps, F a ≠ some (.tbl ps)) (nt : NT o) : ∀ b ps, upd F a o b ≠ some (.tbl ps) := fun b ps e => by
  by_cases q : b = a
  · subst q; rw [upd_same] at e; exact nt ps (Option.some.inj e)
  · rw [upd_ne q] at e; exact h b ps e
/-- more is fixed: an object that no slot holds -/
theorem Rl.fix (R : Rl K G ρ F σ H) {p : Addr} {o : HO} (hp : H p = some o) (nt : NT o) (n0 : G.H0 p = none) (nf : F p = none)
    (no : ∀ (i : Nat) (d : D), ρ[i]? = some (some (EV.ow d)) → σ[i]? ≠ some (some (V.ref p))) : Rl K G ρ (upd F p o) σ H := by
  have sub : Sub F (upd F p o) := fun a u e => by rw [upd_ne (ne_of_none e nf)]; exact e
  refine ⟨R.len, fun a u e => ?_, R.mono.trans sub, R.fr, fun a u e n => ?_, R.bh, R.bi, R.bs, fun i e q => ?_, R.inj, ft_upd R.ft nt⟩
  · by_cases q : a = p
    · subst q; rw [upd_same] at e; rw [hp]; exact e
    · rw [upd_ne q] at e; exact R.sub a u e
  · rw [upd_ne]
    · exact R.nw a u e n
    · rintro rfl; rw [n0] at e; cases e
  · obtain ⟨v, hv, s⟩ := R.sl i e q
    refine ⟨v, hv, ?_⟩
    cases e with
    | sh d => exact At.mono sub s
    | ow d =>
      obtain ⟨a, rfl, f, w, z⟩ := s
      refine ⟨a, rfl, ?_, w.mono sub (fun u e => e), z⟩
      rw [upd_ne]
      · exact f
      · rintro rfl; exact no i d q hv
    | bo d =>
      obtain ⟨a, rfl, f, w, z⟩ := s
      refine ⟨a, rfl, ?_, w.mono sub (fun u e => e), z⟩
      rw [upd_ne]
      · exact f
      · rintro rfl; exact (R.bh i a z).2 n0

/-- what an expression has given: a new object of nobody's (f), or what stays as it is -/
def Res (K : PySem.W.Frag) (G : Gm) (ρ : Env) (F : Hp) (σ : L2.St) (H : Hp) (f : Bool) (d : D) (v : V) : Prop :=
  if f = true then ∃ p, v = .ref p ∧ F p = none ∧ Ow K F H p d ∧ G.H0 p = none ∧ ∀ (i : Nat) (e : D), ρ[i]? = some (some (EV.ow e)) → σ[i]? ≠ some (some (V.ref p)) else At K F v d
theorem Res.at {v : V} {d : D} (h : At K F v d) : Res K G ρ F σ H false d v := by
  unfold Res
  rw [if_neg Bool.false_ne_true]
  exact h
theorem Res.fix {f : Bool} {d : D} {v : V} (R : Rl K G ρ F σ H) (r : Res K G ρ F σ H f d v) : ∃ F', Rl K G ρ F' σ H ∧ Sub F F' ∧ At K F' v d := by
  cases f with
  | false =>
    unfold Res at r
    rw [if_neg Bool.false_ne_true] at r
    exact ⟨F, R, Sub.refl _, r⟩
  | true =>
    unfold Res at r
    rw [if_pos rfl] at r
    obtain ⟨p, rfl, fp, o, n0, no⟩ := r
    obtain ⟨u, hu, s, a⟩ := o.freeze fp
    exact ⟨_, R.fix hu (o.nt hu) n0 fp no, s, a⟩
/-- a new object -/
theorem Res.new {d : D} {p : Addr} {o : HO} (R : Rl K G ρ F σ H) (n : H p = none) (w : Ow K F (upd H p o) p d) :
    Rl K G ρ F σ (upd H p o) ∧ Res K G ρ F σ (upd H p o) true d (.ref p) := by
  refine ⟨R.grow (Gr.own R.sub n), ?_⟩
  unfold Res
  rw [if_pos rfl]
  refine ⟨p, rfl, sub_none R.sub n, w, R.h0 n, fun i e q z => ?_⟩
  obtain ⟨v, hv, a, rfl, _, w', _⟩ := R.sl i _ q
  rw [hv] at z; cases z
  exact w'.ne n
end

/-! ### judgements -/
/-- how an error lies: its class, its own dict, the heap -/
structure EAT where
  ea : Exc → Value → Option Addr → Hp → Prop
  T : List (Addr × Str)
def XA (EA : EAT) (E : Exc → Prop) (EH : XK) (G : Gm) : Prop := G.T = EA.T ∧ ∀ x, E x → ∀ c d H', EA.ea x c d H' → G.fr H' → EH c d H'
def SimE (K : PySem.W.Frag) (EA : EAT) (E : Exc → Prop) (EH : XK) (te : TE) (w : WE) : Prop := ∀ (G : Gm), XA EA E EH G → ∀ (ρ : Env) (F : Hp) (σ : L2.St) (H : Hp), Rl K G ρ F σ H → ∀ (Qd : KE) (Q : VK), w ρ Qd →
  (∀ d f ρ' v F' H', Qd d f ρ' → Rl K G ρ' F' σ H' → Sub F F' → Res K G ρ' F' σ H' f d v → Q v H') → te σ H Q
def SimA (K : PySem.W.Frag) (EA : EAT) (E : Exc → Prop) (EH : XK) (ta : TA) (w : WA) : Prop := ∀ (G : Gm), XA EA E EH G → ∀ (ρ : Env) (F : Hp) (σ : L2.St) (H : Hp), Rl K G ρ F σ H → ∀ (Qd : List D → Env → Prop) (Q : List V → Hp → Prop), w ρ Qd →
  (∀ ds ρ' vs F' H', Qd ds ρ' → Rl K G ρ' F' σ H' → Sub F F' → AtL K F' vs ds → Q vs H') → ta σ H Q
def SimT (K : PySem.W.Frag) (EA : EAT) (E : Exc → Prop) (EH : XK) (tt : TT) (w : WT) : Prop := ∀ (G : Gm), XA EA E EH G → ∀ (ρ : Env) (F : Hp) (σ : L2.St) (H : Hp), Rl K G ρ F σ H → ∀ (Qd : Bool → Env → Prop) (Q : Bool → Hp → Prop), w ρ Qd →
  (∀ b ρ' F' H', Qd b ρ' → Rl K G ρ' F' σ H' → Sub F F' → Q b H') → tt σ H Q
/-- what stands behind a statement -/
structure Lands (K : PySem.W.Frag) (G : Gm) (P : Po) (Dn : Ends) : Prop where
  nx : ∀ ρ F σ H, P.nx ρ → Rl K G ρ F σ H → Dn.nx σ H
  rt : ∀ d f ρ v F σ H, P.rt d f ρ → Rl K G ρ F σ H → Res K G ρ F σ H f d v → Dn.rt v H
  bk : ∀ ρ F σ H, P.bk ρ → Rl K G ρ F σ H → Dn.bk σ H
  ct : ∀ ρ F σ H, P.ct ρ → Rl K G ρ F σ H → Dn.ct σ H
def SimS (K : PySem.W.Frag) (EA : EAT) (E : Exc → Prop) (EH : XK) (ts : TS) (w : WS) : Prop := ∀ (G : Gm), XA EA E EH G → ∀ (ρ : Env) (F : Hp) (σ : L2.St) (H : Hp), Rl K G ρ F σ H → ∀ (P : Po) (Dn : Ends), w P ρ → Lands K G P Dn → ts Dn σ H
def SimG (K : PySem.W.Frag) (EA : EAT) (E : Exc → Prop) (EH : XK) (tg : TG) (w : WG) : Prop := ∀ (G : Gm), XA EA E EH G → ∀ (ρ : Env) (F : Hp) (σ : L2.St) (H : Hp), Rl K G ρ F σ H → ∀ (d : D) (f : Bool) (v : V) (Qd : Env → Prop) (Q : L2.St → Hp → Prop), Res K G ρ F σ H f d v → w d f ρ Qd →
  (∀ ρ' F' σ' H', Qd ρ' → Rl K G ρ' F' σ' H' → Sub F F' → Q σ' H') → tg v σ H Q
def SimGs (K : PySem.W.Frag) (EA : EAT) (E : Exc → Prop) (EH : XK) (tg : TGs) (w : WGs) : Prop := ∀ (G : Gm), XA EA E EH G → ∀ (ρ : Env) (F : Hp) (σ : L2.St) (H : Hp), Rl K G ρ F σ H → ∀ (ds : List D) (vs : List V) (Qd : Env → Prop) (Q : L2.St → Hp → Prop), AtL K F vs ds → w ds ρ Qd →
  (∀ ρ' F' σ' H', Qd ρ' → Rl K G ρ' F' σ' H' → Sub F F' → Q σ' H') → tg vs σ H Q
/-- what a loop walks: the items are fixed -/
def Walks (K : PySem.W.Frag) (F : Hp) (ds : List D) (J : It) : Prop :=
  (∀ i H, Sub F H → i < ds.length → J.go i H) ∧ (∀ i H, Sub F H → ds.length ≤ i → J.stop i H) ∧
  ∀ i H x H', Sub F H → J.yld i H x H' → ∀ d, ds[i]? = some d → ∀ F1, Sub F F1 → Sub F1 H → ∃ F2, Gr F1 H F2 H' ∧ At K F2 x d
def SimI (K : PySem.W.Frag) (EA : EAT) (E : Exc → Prop) (EH : XK) (ti : TI) (w : WI) : Prop := ∀ (G : Gm), XA EA E EH G → ∀ (ρ : Env) (F : Hp) (σ : L2.St) (H : Hp), Rl K G ρ F σ H → ∀ (Qd : List D → Env → Prop) (R : It → Hp → Prop), w ρ Qd →
  (∀ ds ρ' F' H' J, Qd ds ρ' → Rl K G ρ' F' σ H' → Sub F F' → Walks K F' ds J → R J H') → ti σ H R
structure DE (X : Cx) (EA : EAT) (E : Exc → Prop) (EH : XK) (e : Expr) (w : WE) : Prop where
  ex : ∃ te, PE X e te ∧ SimE X.K EA E EH te w
structure DA (X : Cx) (EA : EAT) (E : Exc → Prop) (EH : XK) (es : List Expr) (w : WA) : Prop where
  ex : ∃ ta, PA X es ta ∧ SimA X.K EA E EH ta w
structure DT (X : Cx) (EA : EAT) (E : Exc → Prop) (EH : XK) (e : Expr) (w : WT) : Prop where
  ex : ∃ tt, PT X e tt ∧ SimT X.K EA E EH tt w
structure DW (X : Cx) (EA : EAT) (E : Exc → Prop) (EH : XK) (e : Expr) (w : WT) : Prop where
  ex : ∃ tt, PW X e tt ∧ SimT X.K EA E EH tt w
structure DTs (X : Cx) (EA : EAT) (E : Exc → Prop) (EH : XK) (es : List Expr) (w : WT) : Prop where
  ex : ∃ tt, PTs X es tt ∧ SimT X.K EA E EH tt w
structure DS (X : Cx) (EA : EAT) (E : Exc → Prop) (EH : XK) (st : Stmt) (w : WS) : Prop where
  ex : ∃ ts, PS X st ts ∧ SimS X.K EA E EH ts w
structure DSs (X : Cx) (EA : EAT) (E : Exc → Prop) (EH : XK) (st : List Stmt) (w : WS) : Prop where
  ex : ∃ ts, PSs X st ts ∧ SimS X.K EA E EH ts w
structure DG (X : Cx) (EA : EAT) (E : Exc → Prop) (EH : XK) (e : Expr) (w : WG) : Prop where
  ex : ∃ tg, PG X e tg ∧ SimG X.K EA E EH tg w
structure DGs (X : Cx) (EA : EAT) (E : Exc → Prop) (EH : XK) (es : List Expr) (w : WGs) : Prop where
  ex : ∃ tg, PGs X es tg ∧ SimGs X.K EA E EH tg w
structure DI (X : Cx) (EA : EAT) (E : Exc → Prop) (EH : XK) (tg e : Expr) (w : WI) : Prop where
  ex : ∃ ti, PI X tg e ti ∧ SimI X.K EA E EH ti w

section
variable {K : PySem.W.Frag} {EA : EAT} {E : Exc → Prop} {EH : XK} {G : Gm} {ρ : Env} {F H : Hp} {σ : L2.St} {te ta tb tc : TE} {w wa wb wc : WE} {Q : VK}
/-- used once more: what it has given is fixed -/
theorem SimE.run (s : SimE K EA E EH te w) (xa : XA EA E EH G) (R : Rl K G ρ F σ H) {Qd : D → Env → Prop} (h : w ρ fun d _ ρ1 => Qd d ρ1)
    (k : ∀ d ρ' v F' H', Qd d ρ' → Rl K G ρ' F' σ H' → Sub F F' → At K F' v d → Q v H') : te σ H Q :=
  s G xa ρ F σ H R _ Q h fun d f ρ' v F' H' q R' sf r => by
    obtain ⟨F2, R2, s2, a⟩ := r.fix R'
    exact k d ρ' v F2 H' q R2 (sf.trans s2) a
/-- what a value shows now -/
inductive Pk (K : PySem.W.Frag) (F H : Hp) : V → D → Prop
  | at {v : V} {d : D} : At K F v d → Pk K F H v d
  | ow {a : Addr} {d : D} : Ow K F H a d → F a = none → Pk K F H (.ref a) d
theorem Pk.list {v : V} {ds : List D} (sub : Sub F H) (p : Pk K F H v (.list ds)) : ∃ a xs, v = .ref a ∧ H a = some (.lst xs) ∧ AtL K F xs ds ∧ ds.length ≤ LIM := by
  cases p with
  | «at» h => cases h with | lst s t l => exact ⟨_, _, rfl, sub _ _ s, t, l⟩
  | ow h f => obtain ⟨xs, e, t, l⟩ := h; exact ⟨_, xs, rfl, e, t, l⟩
theorem Pk.tuple {v : V} {ds : List D} (sub : Sub F H) (p : Pk K F H v (.tuple ds)) : At K F v (.tuple ds) ∧ ∃ a xs, v = .ref a ∧ SqT K H a xs ∧ AtL K F xs ds ∧ ds.length ≤ LIM := by
  cases p with
  | «at» h =>
    have h' := h
    cases h with | tup s t l => exact ⟨h', _, _, rfl, sub.seqT s, t, l⟩
  | ow h f => exact h.elim
theorem Pk.int {v : V} {i : Int} (p : Pk K F H v (.int i)) : v = .int i := by
  cases p with
  | «at» h => cases h; rfl
  | ow h f => exact h.elim
theorem Pk.str {v : V} {i : Str} (p : Pk K F H v (.str i)) : v = .str i := by
  cases p with
  | «at» h => cases h; rfl
  | ow h f => exact h.elim
theorem Pk.bool {v : V} {i : Bool} (p : Pk K F H v (.bool i)) : v = .bl i := by
  cases p with
  | «at» h => cases h; rfl
  | ow h f => exact h.elim
theorem Pk.non {v : V} (p : Pk K F H v .none) : v = .non := by
  cases p with
  | «at» h => cases h; rfl
  | ow h f => exact h.elim
theorem Rl.pk {i : Nat} {d : D} (R : Rl K G ρ F σ H) (h : rdE ρ i = some d) : ∃ v, σ[i]? = some (some v) ∧ Pk K F H v d := by
  unfold rdE at h
  split at h
  · rename_i e he
    cases h
    obtain ⟨v, hv, s⟩ := R.sl i e he
    refine ⟨v, hv, ?_⟩
    cases e with
    | sh d => exact .at s
    | ow d => obtain ⟨a, rfl, f, o, _⟩ := s; exact .ow o f
    | bo d => obtain ⟨a, rfl, f, o, _⟩ := s; exact .ow o f
  · cases h
/-- what an operation gives over the heap it leaves -/
def New (K : PySem.W.Frag) (H F' H' : Hp) (f : Bool) (x : D) (z : V) : Prop :=
  (f = false → At K F' z x) ∧ (f = true → ∃ p, z = .ref p ∧ noTab H p = none ∧ F' p = none ∧ Ow K F' H' p x)
theorem New.at {F' H' : Hp} {x : D} {z : V} (h : At K F' z x) : New K H F' H' false x z := ⟨fun _ => h, fun z => nomatch z⟩
theorem New.resW {F' H' : Hp} {x : D} {z : V} {f : Bool} (R : Rl K G ρ F σ H) (g : Gw G.T F H F' H') (n : New K H F' H' f x z) : Res K G ρ F' σ H' f x z := by
  unfold Res
  cases f with
  | false => rw [if_neg Bool.false_ne_true]; exact n.1 rfl
  | true =>
    rw [if_pos rfl]
    obtain ⟨p, rfl, hn, fn, o⟩ := n.2 rfl
    refine ⟨p, rfl, fn, o, R.h0n hn, fun i e q z => ?_⟩
    obtain ⟨v, hv, a, rfl, _, w', _⟩ := R.sl i _ q
    rw [hv] at z; cases z
    exact w'.nnt hn
theorem New.res {F' H' : Hp} {x : D} {z : V} {f : Bool} (R : Rl K G ρ F σ H) (g : Gr F H F' H') (n : New K H F' H' f x z) : Res K G ρ F' σ H' f x z := n.resW R g.w
def SimV1 (K : PySem.W.Frag) (r : V → Hp → VK → Prop) (o : O1) : Prop := ∀ (F H : Hp) (v : V) (d : D) (Qd : D → Bool → Prop) (Q : VK), Sub F H → Pk K F H v d → o d Qd →
  (∀ x f z F' H', Qd x f → Gr F H F' H' → New K H F' H' f x z → Q z H') → r v H Q
def SimV2 (K : PySem.W.Frag) (r : R2) (o : O2) : Prop := ∀ (F H : Hp) (v u : V) (d e : D) (Qd : D → Bool → Prop) (Q : VK), Sub F H → Pk K F H v d → Pk K F H u e → o d e Qd →
  (∀ x f z F' H', Qd x f → Gr F H F' H' → New K H F' H' f x z → Q z H') → r v u H Q
theorem SimV2.or {r r' : R2} {o : O2} (h : ∀ (F H : Hp) (v u : V) (d e : D) (Qd : D → Bool → Prop) (Q : VK), Sub F H → Pk K F H v d → Pk K F H u e → o d e Qd →
  (∀ x f z F' H', Qd x f → Gr F H F' H' → New K H F' H' f x z → Q z H') → r v u H Q ∨ r' v u H Q) : SimV2 K (fun x y H Q => r x y H Q ∨ r' x y H Q) o := h

/-! #### names, constants -/
theorem sim_v {i : Nat} : SimE K EA E EH (tVar i) (wV i) := fun G xa ρ F σ H R Qd Q h k => by
  unfold wV at h
  split at h
  · rename_i d he
    obtain ⟨v, hv, s⟩ := R.sl i _ he
    exact ⟨v, hv, k d false ρ v F H h R (Sub.refl _) (Res.at s)⟩
  · rename_i d he
    obtain ⟨v, hv, s⟩ := R.sl i _ he
    obtain ⟨a, rfl, f, o, z⟩ := s
    obtain ⟨u, hu, sb, at_⟩ := o.freeze f
    have hi : i < ρ.length := (List.getElem?_eq_some_iff.mp he).1
    refine ⟨.ref a, hv, k d false _ _ (upd F a u) H h ?_ sb (Res.at at_)⟩
    have ne : ∀ {j : Nat}, j ≠ i → (ρ.set i (some (EV.sh d)))[j]? = ρ[j]? := fun {j} n => List.getElem?_set_ne (Ne.symm n)
    have eq : (ρ.set i (some (EV.sh d)))[i]? = some (some (EV.sh d)) := List.getElem?_set_self hi
    refine ⟨by rw [List.length_set]; exact R.len, fun b o e => ?_, R.mono.trans sb, R.fr, fun b o e n => ?_, R.bh, R.bi, fun j b e => ?_, fun j e q => ?_, fun j l b d1 d2 q1 q2 s1 s2 => ?_, ft_upd R.ft (o.nt hu)⟩
    · by_cases q : b = a
      · subst q; rw [upd_same] at e; rw [hu]; exact e
      · rw [upd_ne q] at e; exact R.sub b o e
    · rw [upd_ne]
      · exact R.nw b o e n
      · rintro rfl; rw [z] at e; cases e
    · obtain ⟨d', q⟩ := R.bs j b e
      have n : j ≠ i := by rintro rfl; rw [he] at q; cases q
      exact ⟨d', by rw [ne n]; exact q⟩
    · by_cases n : j = i
      · subst n
        rw [eq] at q; cases q
        exact ⟨_, hv, at_⟩
      · rw [ne n] at q
        obtain ⟨v', hv', s'⟩ := R.sl j e q
        refine ⟨v', hv', ?_⟩
        cases e with
        | sh d' => exact At.mono sb s'
        | ow d' =>
          obtain ⟨a', rfl, f', o', z'⟩ := s'
          refine ⟨a', rfl, ?_, o'.mono sb (fun _ e => e), z'⟩
          rw [upd_ne]
          · exact f'
          · rintro rfl; exact n (R.inj j i _ d' d q he hv' hv)
        | bo d' =>
          obtain ⟨a', rfl, f', o', z'⟩ := s'
          refine ⟨a', rfl, ?_, o'.mono sb (fun _ e => e), z'⟩
          rw [upd_ne]
          · exact f'
          · rintro rfl; exact (R.bh j a' z').2 z
    · have n1 : j ≠ i := by rintro rfl; rw [eq] at q1; cases q1
      have n2 : l ≠ i := by rintro rfl; rw [eq] at q2; cases q2
      rw [ne n1] at q1
      rw [ne n2] at q2
      exact R.inj j l b d1 d2 q1 q2 s1 s2
  · exact h.elim
theorem sim_c {v : V} {d : D} (h : ∀ K F, At K F v d) : SimE K EA E EH (tC v) (wC d) := fun G xa ρ F σ H R Qd Q q k => k d false ρ v F H q R (Sub.refl _) (Res.at (h _ _))
/-! #### operations -/
theorem sim_o {r : V → Hp → VK → Prop} {o : O1} (sa : SimE K EA E EH ta wa) (so : SimV1 K r o) : SimE K EA E EH (fun σ H Q => ta σ H fun x H1 => r x H1 Q) (wO o wa) := fun G xa ρ F σ H R Qd Q h k =>
  sa.run xa R (Qd := fun d ρ1 => o d fun r f => Qd r f ρ1) h fun d ρ1 v F1 H1 h1 R1 s1 a1 =>
    so F1 H1 v d _ Q R1.sub (.at a1) h1 fun x f z F2 H2 q g n => k x f ρ1 z F2 H2 q (R1.grow g) (s1.trans g.ff) (n.res R1 g)
theorem sim_oP {r : V → Hp → VK → Prop} {o : O1} {i : Nat} (so : SimV1 K r o) : SimE K EA E EH (fun σ H Q => tVar i σ H fun x H1 => r x H1 Q) (wOP o i) := fun G xa ρ F σ H R Qd Q h k => by
  unfold wOP at h
  split at h
  · rename_i d hd
    obtain ⟨v, hv, p⟩ := R.pk hd
    exact ⟨v, hv, so F H v d _ Q R.sub p h fun x f z F2 H2 q g n => k x f ρ z F2 H2 q (R.grow g) g.ff (n.res R g)⟩
  · exact h.elim
theorem sim_b {r : R2} {o : O2} (sa : SimE K EA E EH ta wa) (sb : SimE K EA E EH tb wb) (so : SimV2 K r o) : SimE K EA E EH (fun σ H Q => ta σ H fun x H1 => tb σ H1 fun y H2 => r x y H2 Q) (wB o wa wb) := fun G xa ρ F σ H R Qd Q h k =>
  sa.run xa R (Qd := fun d ρ1 => wb ρ1 fun e _ ρ2 => o d e fun r f => Qd r f ρ2) h fun d ρ1 v F1 H1 h1 R1 s1 a1 =>
    sb.run xa R1 (Qd := fun e ρ2 => o d e fun r f => Qd r f ρ2) h1 fun e ρ2 u F2 H2 h2 R2 s2 a2 =>
      so F2 H2 v u d e _ Q R2.sub (.at (a1.mono s2)) (.at a2) h2 fun x f z F3 H3 q g n => k x f ρ2 z F3 H3 q (R2.grow g) ((s1.trans s2).trans g.ff) (n.res R2 g)
theorem sim_bL {r : R2} {o : O2} {i : Nat} (sb : SimE K EA E EH tb wb) (so : SimV2 K r o) : SimE K EA E EH (fun σ H Q => tVar i σ H fun x H1 => tb σ H1 fun y H2 => r x y H2 Q) (wBL o i wb) := fun G xa ρ F σ H R Qd Q h k => by
  obtain ⟨hi, h⟩ := h
  obtain ⟨d0, hd0⟩ := Option.isSome_iff_exists.mp hi
  obtain ⟨v, hv, _⟩ := R.pk hd0
  refine ⟨v, hv, sb.run xa R (Qd := fun e ρ1 => match rdE ρ1 i with
    | some d => o d e fun r f => Qd r f ρ1
    | none => False) h fun e ρ1 u F1 H1 h1 R1 s1 a1 => ?_⟩
  split at h1
  · rename_i d hd
    obtain ⟨v', hv', p⟩ := R1.pk hd
    rw [hv] at hv'; cases hv'
    exact so F1 H1 v u d e _ Q R1.sub p (.at a1) h1 fun x f z F3 H3 q g n => k x f ρ1 z F3 H3 q (R1.grow g) (s1.trans g.ff) (n.res R1 g)
  · exact h1.elim
theorem sim_bR {r : R2} {o : O2} {i : Nat} (sa : SimE K EA E EH ta wa) (so : SimV2 K r o) : SimE K EA E EH (fun σ H Q => ta σ H fun x H1 => tVar i σ H1 fun y H2 => r x y H2 Q) (wBR o wa i) := fun G xa ρ F σ H R Qd Q h k => by
  refine sa.run xa R (Qd := fun d ρ1 => match rdE ρ1 i with
    | some e => o d e fun r f => Qd r f ρ1
    | none => False) h fun d ρ1 v F1 H1 h1 R1 s1 a1 => ?_
  split at h1
  · rename_i e he
    obtain ⟨u, hu, p⟩ := R1.pk he
    exact ⟨u, hu, so F1 H1 v u d e _ Q R1.sub (.at a1) p h1 fun x f z F3 H3 q g n => k x f ρ1 z F3 H3 q (R1.grow g) (s1.trans g.ff) (n.res R1 g)⟩
  · exact h1.elim
theorem sim_bB {r : R2} {o : O2} {i j : Nat} (so : SimV2 K r o) : SimE K EA E EH (fun σ H Q => tVar i σ H fun x H1 => tVar j σ H1 fun y H2 => r x y H2 Q) (wBB o i j) := fun G xa ρ F σ H R Qd Q h k => by
  unfold wBB at h
  split at h
  · rename_i d e hd he
    obtain ⟨v, hv, p⟩ := R.pk hd
    obtain ⟨u, hu, q⟩ := R.pk he
    exact ⟨v, hv, u, hu, so F H v u d e _ Q R.sub p q h fun x f z F3 H3 q g n => k x f ρ z F3 H3 q (R.grow g) g.ff (n.res R g)⟩
  · exact h.elim
/-! #### argument lists, displays -/
theorem sim_nil : SimA K EA E EH tNil wNil := fun G xa ρ F σ H R Qd Q h k => k [] ρ [] F H h R (Sub.refl _) .nil
theorem sim_cons {tr : TA} {wr : WA} (sa : SimE K EA E EH ta wa) (sr : SimA K EA E EH tr wr) : SimA K EA E EH (tCons ta tr) (wCons wa wr) := fun G xa ρ F σ H R Qd Q h k =>
  sa.run xa R (Qd := fun d ρ1 => wr ρ1 fun ds ρ2 => Qd (d :: ds) ρ2) h fun d ρ1 v F1 H1 h1 R1 s1 a1 =>
    sr G xa ρ1 F1 σ H1 R1 _ _ h1 fun ds ρ2 vs F2 H2 q R2 s2 a2 => k (d :: ds) ρ2 (v :: vs) F2 H2 q R2 (s1.trans s2) (.cons (a1.mono s2) a2)
theorem sim_tup {tr : TA} {wr : WA} (sr : SimA K EA E EH tr wr) : SimE K EA E EH (tTup tr) (wTup wr) := fun G xa ρ F σ H R Qd Q h k =>
  sr G xa ρ F σ H R _ _ h fun ds ρ1 vs F1 H1 h1 R1 s1 a1 => by
    have hl : vs.length ≤ sizeLine := by rw [a1.length]; exact h1.1
    refine ⟨hl, fun p hp => ?_⟩
    have g := Gr.new (o := .tup vs) R1.sub hp
    exact k _ false ρ1 (.ref p) _ _ h1.2 (R1.grow g) (s1.trans g.ff) (Res.at (.tup (.inl (.inl upd_same)) (a1.mono g.ff) h1.1))
theorem sim_lst {tr : TA} {wr : WA} (sr : SimA K EA E EH tr wr) : SimE K EA E EH (tLst tr) (wLst wr) := fun G xa ρ F σ H R Qd Q h k =>
  sr G xa ρ F σ H R _ _ h fun ds ρ1 vs F1 H1 h1 R1 s1 a1 => by
    have hl : vs.length ≤ sizeLine := by rw [a1.length]; exact h1.1
    refine ⟨hl, fun p hp => ?_⟩
    obtain ⟨R2, r2⟩ := Res.new (d := .list ds) (o := .lst vs) R1 hp ⟨vs, upd_same, a1, h1.1⟩
    exact k _ true ρ1 (.ref p) F1 _ h1.2 R2 s1 r2
/-- a built-in over its arguments -/
def SimF (K : PySem.W.Frag) (r : List V → Hp → VK → Prop) (o : OA) : Prop := ∀ (F H : Hp) (vs : List V) (ds : List D) (Qd : D → Bool → Prop) (Q : VK), Sub F H → AtL K F vs ds → o ds Qd →
  (∀ x f z F' H', Qd x f → Gr F H F' H' → New K H F' H' f x z → Q z H') → r vs H Q
theorem sim_f {r : List V → Hp → VK → Prop} {o : OA} {tr : TA} {wr : WA} (sr : SimA K EA E EH tr wr) (so : SimF K r o) : SimE K EA E EH (tCB r tr) (wF o wr) := fun G xa ρ F σ H R Qd Q h k =>
  sr G xa ρ F σ H R _ _ h fun ds ρ1 vs F1 H1 h1 R1 s1 a1 => so F1 H1 vs ds _ Q R1.sub a1 h1 fun x f z F2 H2 q g n => k x f ρ1 z F2 H2 q (R1.grow g) (s1.trans g.ff) (n.res R1 g)
/-! #### tests -/
theorem sim_tv (sa : SimE K EA E EH ta wa) : SimT K EA E EH (tB ta) (wTv wa) := fun G xa ρ F σ H R Qd Q h k =>
  sa G xa ρ F σ H R _ _ h fun d f ρ1 v F1 H1 h1 R1 s1 r1 => by
    obtain ⟨b, rfl, q⟩ := h1
    refine ⟨b, ?_, k b ρ1 F1 H1 q R1 s1⟩
    cases f with
    | false =>
      unfold Res at r1
      rw [if_neg Bool.false_ne_true] at r1
      cases r1; rfl
    | true =>
      unfold Res at r1
      rw [if_pos rfl] at r1
      obtain ⟨p, _, _, o, _⟩ := r1
      exact o.elim
variable {tt tu : TT} {wt wu : WT}
theorem sim_and (st : SimT K EA E EH tt wt) (su : SimT K EA E EH tu wu) : SimT K EA E EH (tAnd tt tu) (wAnd wt wu) := fun G xa ρ F σ H R Qd Q h k =>
  st G xa ρ F σ H R _ _ h fun c ρ1 F1 H1 h1 R1 s1 => by
    cases c with
    | true =>
      rw [if_pos rfl]
      exact su G xa ρ1 F1 σ H1 R1 _ _ (h1.1 rfl) fun b ρ2 F2 H2 q R2 s2 => k b ρ2 F2 H2 q R2 (s1.trans s2)
    | false =>
      rw [if_neg Bool.false_ne_true]
      exact k false ρ1 F1 H1 (h1.2 rfl) R1 s1
theorem sim_or (st : SimT K EA E EH tt wt) (su : SimT K EA E EH tu wu) : SimT K EA E EH (tOr tt tu) (wOr wt wu) := fun G xa ρ F σ H R Qd Q h k =>
  st G xa ρ F σ H R _ _ h fun c ρ1 F1 H1 h1 R1 s1 => by
    cases c with
    | true =>
      rw [if_pos rfl]
      exact k true ρ1 F1 H1 (h1.1 rfl) R1 s1
    | false =>
      rw [if_neg Bool.false_ne_true]
      exact su G xa ρ1 F1 σ H1 R1 _ _ (h1.2 rfl) fun b ρ2 F2 H2 q R2 s2 => k b ρ2 F2 H2 q R2 (s1.trans s2)
theorem sim_not (st : SimT K EA E EH tt wt) : SimT K EA E EH (tNot tt) (wNot wt) := fun G xa ρ F σ H R Qd Q h k =>
  st G xa ρ F σ H R _ _ h fun c ρ1 F1 H1 h1 R1 s1 => k (!c) ρ1 F1 H1 h1 R1 s1
theorem sim_if (st : SimT K EA E EH tt wt) (sa : SimE K EA E EH ta wa) (sb : SimE K EA E EH tb wb) : SimE K EA E EH (tIf tt ta tb) (wIf wt wa wb) := fun G xa ρ F σ H R Qd Q h k =>
  st G xa ρ F σ H R _ _ h fun c ρ1 F1 H1 h1 R1 s1 => by
    cases c with
    | true =>
      rw [if_pos rfl]
      exact sa G xa ρ1 F1 σ H1 R1 _ _ (h1.1 rfl) fun d f ρ2 v F2 H2 q R2 s2 r2 => k d f ρ2 v F2 H2 q R2 (s1.trans s2) r2
    | false =>
      rw [if_neg Bool.false_ne_true]
      exact sb G xa ρ1 F1 σ H1 R1 _ _ (h1.2 rfl) fun d f ρ2 v F2 H2 q R2 s2 r2 => k d f ρ2 v F2 H2 q R2 (s1.trans s2) r2
theorem Res.bool {v : V} {b f : Bool} (r : Res K G ρ F σ H f (.bool b) v) : v = .bl b := by
  cases f with
  | false =>
    unfold Res at r
    rw [if_neg Bool.false_ne_true] at r
    cases r; rfl
  | true =>
    unfold Res at r
    rw [if_pos rfl] at r
    obtain ⟨p, _, _, o, _⟩ := r
    exact o.elim
theorem sim_andV (sa : SimE K EA E EH ta wa) (sb : SimE K EA E EH tb wb) : SimE K EA E EH (tAndV ta tb) (wAndV wa wb) := fun G xa ρ F σ H R Qd Q h k =>
  sa G xa ρ F σ H R _ _ h fun d f ρ1 v F1 H1 h1 R1 s1 r1 => by
    obtain ⟨c, rfl, p, q⟩ := h1
    refine ⟨c, r1.bool, ?_⟩
    cases c with
    | true =>
      rw [if_pos rfl]
      exact sb G xa ρ1 F1 σ H1 R1 _ _ (p rfl) fun d f ρ2 v F2 H2 q R2 s2 r2 => k d f ρ2 v F2 H2 q R2 (s1.trans s2) r2
    | false =>
      rw [if_neg Bool.false_ne_true]
      exact k _ false ρ1 _ F1 H1 (q rfl) R1 s1 (Res.at (.bl false))
theorem sim_orV (sa : SimE K EA E EH ta wa) (sb : SimE K EA E EH tb wb) : SimE K EA E EH (tOrV ta tb) (wOrV wa wb) := fun G xa ρ F σ H R Qd Q h k =>
  sa G xa ρ F σ H R _ _ h fun d f ρ1 v F1 H1 h1 R1 s1 r1 => by
    obtain ⟨c, rfl, p, q⟩ := h1
    refine ⟨c, r1.bool, ?_⟩
    cases c with
    | true =>
      rw [if_pos rfl]
      exact k _ false ρ1 _ F1 H1 (p rfl) R1 s1 (Res.at (.bl true))
    | false =>
      rw [if_neg Bool.false_ne_true]
      exact sb G xa ρ1 F1 σ H1 R1 _ _ (q rfl) fun d f ρ2 v F2 H2 q R2 s2 r2 => k d f ρ2 v F2 H2 q R2 (s1.trans s2) r2
theorem sim_notV (sa : SimE K EA E EH ta wa) : SimE K EA E EH (tNotV ta) (wNotV wa) := fun G xa ρ F σ H R Qd Q h k =>
  sa G xa ρ F σ H R _ _ h fun d f ρ1 v F1 H1 h1 R1 s1 r1 => by
    obtain ⟨c, rfl, q⟩ := h1
    exact ⟨c, r1.bool, k _ false ρ1 _ F1 H1 q R1 s1 (Res.at (.bl _))⟩
theorem sim_chain {r r' : R2} {o o' : O2} (sa : SimE K EA E EH ta wa) (sb : SimE K EA E EH tb wb) (sc : SimE K EA E EH tc wc) (so : SimV2 K r o) (so' : SimV2 K r' o') : SimE K EA E EH (tChain r r' ta tb tc) (wChain o o' wa wb wc) := fun G xa ρ F σ H R Qd Q h k =>
  sa.run xa R (Qd := fun d ρ1 => wb ρ1 fun e _ ρ2 => o d e fun r _ => ∃ k, r = .bool k ∧ (k = true → wc ρ2 fun g _ ρ3 => o' e g fun r' f' => Qd r' f' ρ3) ∧ (k = false → Qd (.bool false) false ρ2)) h fun d ρ1 v F1 H1 h1 R1 s1 a1 =>
    sb.run xa R1 (Qd := fun e ρ2 => o d e fun r _ => ∃ k, r = .bool k ∧ (k = true → wc ρ2 fun g _ ρ3 => o' e g fun r' f' => Qd r' f' ρ3) ∧ (k = false → Qd (.bool false) false ρ2)) h1 fun e ρ2 u F2 H2 h2 R2 s2 a2 =>
      so F2 H2 v u d e _ _ R2.sub (.at (a1.mono s2)) (.at a2) h2 fun x f z F3 H3 q g n => by
        obtain ⟨c, rfl, p1, p2⟩ := q
        have R3 := R2.grow g
        refine ⟨c, (n.res R2 g).bool, ?_⟩
        cases c with
        | true =>
          rw [if_pos rfl]
          exact sc.run xa R3 (Qd := fun g ρ3 => o' e g fun r' f' => Qd r' f' ρ3) (p1 rfl) fun e4 ρ4 u4 F4 H4 h4 R4 s4 a4 =>
            so' F4 H4 u u4 e e4 _ Q R4.sub (.at ((a2.mono g.ff).mono s4)) (.at a4) h4 fun x f z F5 H5 q g5 n => k x f ρ4 z F5 H5 q (R4.grow g5) ((((s1.trans s2).trans g.ff).trans s4).trans g5.ff) (n.res R4 g5)
        | false =>
          rw [if_neg Bool.false_ne_true]
          exact k _ false ρ2 _ F3 H3 (p2 rfl) R3 ((s1.trans s2).trans g.ff) (Res.at (.bl false))
end

section
variable {K : PySem.W.Frag} {EA : EAT} {E : Exc → Prop} {EH : XK} {G : Gm} {ρ : Env} {F H : Hp} {σ : L2.St} {te ta tb tc : TE} {w wa wb wc : WE} {ts tu : TS} {ws wu : WS} {tt : TT} {wt : WT}
/-! #### statements -/
theorem sim_next : SimS K EA E EH tNext wNext := fun G xa ρ F σ H R P Dn h L => L.nx ρ F σ H h R
theorem sim_seq (s : SimS K EA E EH ts ws) (u : SimS K EA E EH tu wu) : SimS K EA E EH (tSeq ts tu) (wSeq ws wu) := fun G xa ρ F σ H R P Dn h L =>
  s G xa ρ F σ H R { P with nx := wu P } { Dn with nx := tu Dn } h ⟨fun ρ F σ H q R => u G xa ρ F σ H R P Dn q L, L.rt, L.bk, L.ct⟩
theorem sim_break : SimS K EA E EH tBreak wBreak := fun G xa ρ F σ H R P Dn h L => L.bk ρ F σ H h R
theorem sim_cont : SimS K EA E EH tCont wCont := fun G xa ρ F σ H R P Dn h L => L.ct ρ F σ H h R
theorem sim_drop (s : SimE K EA E EH te w) : SimS K EA E EH (tDrop te) (wDrop w) := fun G xa ρ F σ H R P Dn h L =>
  s G xa ρ F σ H R _ _ h fun d f ρ1 v F1 H1 q R1 _ _ => L.nx ρ1 F1 σ H1 q R1
theorem sim_ret (s : SimE K EA E EH te w) : SimS K EA E EH (tRet te) (wRet w) := fun G xa ρ F σ H R P Dn h L =>
  s G xa ρ F σ H R _ _ h fun d f ρ1 v F1 H1 q R1 _ r => L.rt d f ρ1 v F1 σ H1 q R1 r
theorem sim_retN : SimS K EA E EH tRetN wRetN := fun G xa ρ F σ H R P Dn h L => L.rt _ _ ρ _ F σ H h R (Res.at .non)
theorem sim_ifS (s : SimT K EA E EH tt wt) (a : SimS K EA E EH ts ws) (b : SimS K EA E EH tu wu) : SimS K EA E EH (tIfS tt ts tu) (wIfS wt ws wu) := fun G xa ρ F σ H R P Dn h L =>
  s G xa ρ F σ H R _ _ h fun c ρ1 F1 H1 q R1 _ => by
    cases c with
    | true => rw [if_pos rfl]; exact a G xa ρ1 F1 σ H1 R1 P Dn (q.1 rfl) L
    | false => rw [if_neg Bool.false_ne_true]; exact b G xa ρ1 F1 σ H1 R1 P Dn (q.2 rfl) L
theorem sim_never : SimS K EA E EH tNever wNever := fun G xa ρ F σ H R P Dn h L => h.elim
theorem sim_raise {x : Exc} {c : Value} (hx : ∀ H, EA.ea x c none H) : SimS K EA E EH (fun _ _ H => EH c none H) (wRaise E x) := fun G xa ρ F σ H R P Dn h L => xa.2 x h c none H (hx H) R.fr
/-! #### slots -/
theorem free_lt {i : Nat} (h : free ρ i) : i < ρ.length ∧ ∀ d, ρ[i]? ≠ some (some (EV.bo d)) := by
  unfold free at h
  split at h
  · exact h.elim
  · rename_i o n he
    exact ⟨(List.getElem?_eq_some_iff.mp he).1, fun d z => by rw [he] at z; cases z; exact n d rfl⟩
  · exact h.elim
theorem Rl.put {i : Nat} {d : D} {f : Bool} {v : V} (R : Rl K G ρ F σ H) (h : free ρ i) (r : Res K G ρ F σ H f d v) : Rl K G (setE ρ i d f) F (σ.set i (some v)) H := by
  obtain ⟨hi, hb⟩ := free_lt h
  have hi' : i < σ.length := by rw [R.len]; exact hi
  unfold setE
  generalize he : (if f = true then EV.ow d else EV.sh d) = e
  have eq : (ρ.set i (some e))[i]? = some (some e) := List.getElem?_set_self hi
  have eq' : (σ.set i (some v))[i]? = some (some v) := List.getElem?_set_self hi'
  have ne : ∀ {j : Nat}, j ≠ i → (ρ.set i (some e))[j]? = ρ[j]? := fun {j} n => List.getElem?_set_ne (Ne.symm n)
  have ne' : ∀ {j : Nat}, j ≠ i → (σ.set i (some v))[j]? = σ[j]? := fun {j} n => List.getElem?_set_ne (Ne.symm n)
  have own : ∀ {d' : D}, e = EV.ow d' → ∃ p, v = .ref p ∧ F p = none ∧ Ow K F H p d' ∧ G.H0 p = none ∧ ∀ (j : Nat) (e : D), ρ[j]? = some (some (EV.ow e)) → σ[j]? ≠ some (some (V.ref p)) := fun {d'} q => by
    cases f with
    | false => rw [if_neg Bool.false_ne_true] at he; rw [← he] at q; cases q
    | true =>
      rw [if_pos rfl] at he; rw [← he] at q; cases q
      unfold Res at r
      rw [if_pos rfl] at r
      exact r
  refine ⟨by rw [List.length_set, List.length_set]; exact R.len, R.sub, R.mono, R.fr, R.nw, R.bh, R.bi, fun j a q => ?_, fun j e' q => ?_, fun j l a d1 d2 q1 q2 s1 s2 => ?_, R.ft⟩
  · obtain ⟨d', q'⟩ := R.bs j a q
    have n : j ≠ i := by rintro rfl; exact hb d' q'
    exact ⟨d', by rw [ne n]; exact q'⟩
  · by_cases n : j = i
    · subst n
      rw [eq] at q; cases q
      refine ⟨v, eq', ?_⟩
      cases f with
      | false =>
        rw [if_neg Bool.false_ne_true] at he; subst he
        unfold Res at r
        rw [if_neg Bool.false_ne_true] at r
        exact r
      | true =>
        obtain ⟨p, e1, e2, e3, e4, _⟩ := own (d' := d) (by rw [← he, if_pos rfl])
        rw [if_pos rfl] at he; subst he
        exact ⟨p, e1, e2, e3, e4⟩
    · rw [ne n] at q
      rw [ne' n]
      exact R.sl j e' q
  · by_cases n1 : j = i
    · by_cases n2 : l = i
      · rw [n1, n2]
      · subst n1
        rw [eq] at q1; cases q1
        rw [eq'] at s1; cases s1
        rw [ne n2] at q2
        rw [ne' n2] at s2
        obtain ⟨p, e1, _, _, _, no⟩ := own rfl
        cases e1
        exact absurd s2 (no l d2 q2)
    · rw [ne n1] at q1
      rw [ne' n1] at s1
      by_cases n2 : l = i
      · subst n2
        rw [eq] at q2; cases q2
        rw [eq'] at s2; cases s2
        obtain ⟨p, e1, _, _, _, no⟩ := own rfl
        cases e1
        exact absurd s1 (no j d1 q1)
      · rw [ne n2] at q2
        rw [ne' n2] at s2
        exact R.inj j l a d1 d2 q1 q2 s1 s2
/-- a slot's own object is changed -/
theorem Rl.turn {i : Nat} {e e' : EV} {a : Addr} {o : HO} (R : Rl K G ρ F σ H) (he : ρ[i]? = some (some e)) (hs : σ[i]? = some (some (V.ref a))) (hk : (∃ d d', e = .ow d ∧ e' = .ow d') ∨ ∃ d d', e = .bo d ∧ e' = .bo d')
    (hw : Ow K F (upd H a o) a e'.dat) : Rl K G (ρ.set i (some e')) F σ (upd H a o) := by
  have hi : i < ρ.length := (List.getElem?_eq_some_iff.mp he).1
  obtain ⟨v, hv, s⟩ := R.sl i e he
  rw [hs] at hv; cases hv
  have fa : F a = none := by
    rcases hk with ⟨d, d', rfl, rfl⟩ | ⟨d, d', rfl, rfl⟩
    · obtain ⟨a', q, f, _⟩ := s; cases q; exact f
    · obtain ⟨a', q, f, _⟩ := s; cases q; exact f
  have eq : (ρ.set i (some e'))[i]? = some (some e') := List.getElem?_set_self hi
  have ne : ∀ {j : Nat}, j ≠ i → (ρ.set i (some e'))[j]? = ρ[j]? := fun {j} n => List.getElem?_set_ne (Ne.symm n)
  obtain ⟨oa, hoa, noa, noc⟩ : ∃ o, H a = Option.some o ∧ NT o ∧ ∀ c q, o ≠ LamX.CodeO c q := by
    rcases hk with ⟨d, d', rfl, rfl⟩ | ⟨d, d', rfl, rfl⟩
    · obtain ⟨a', q, _, w, _⟩ := s; cases q; exact w.plainO
    · obtain ⟨a', q, _, w, _⟩ := s; cases q; exact w.plainO
  refine ⟨by rw [List.length_set]; exact R.len, fun b u q => by rw [upd_ne (ne_of_none q fa)]; exact R.sub b u q, R.mono, ⟨fun b u q n => ?_, Tabs_upd hoa noa noc R.fr.2⟩, R.nw, fun j b q => ⟨?_, (R.bh j b q).2⟩, R.bi, fun j b q => ?_, fun j e2 q => ?_, fun j l b d1 d2 q1 q2 s1 s2 => ?_, R.ft⟩
  · rw [upd_ne]
    · exact R.fr.1 b u q n
    · rintro rfl
      rcases hk with ⟨d, d', rfl, rfl⟩ | ⟨d, d', rfl, rfl⟩
      · obtain ⟨a', z, _, _, h0⟩ := s; cases z; rw [h0] at q; cases q
      · obtain ⟨a', z, _, _, h0⟩ := s; cases z; exact n i h0
  · by_cases z : b = a
    · subst z; rw [upd_same]; exact fun z => nomatch z
    · rw [upd_ne z]; exact (R.bh j b q).1
  · obtain ⟨d0, q0⟩ := R.bs j b q
    by_cases n : j = i
    · subst n
      rcases hk with ⟨d, d', rfl, rfl⟩ | ⟨d, d', rfl, rfl⟩
      · rw [he] at q0; cases q0
      · exact ⟨d', eq⟩
    · exact ⟨d0, by rw [ne n]; exact q0⟩
  · by_cases n : j = i
    · subst n
      rw [eq] at q; cases q
      refine ⟨.ref a, hs, ?_⟩
      rcases hk with ⟨d, d', rfl, rfl⟩ | ⟨d, d', rfl, rfl⟩
      · obtain ⟨a', z, f, _, h0⟩ := s; cases z; exact ⟨a, rfl, f, hw, h0⟩
      · obtain ⟨a', z, f, _, h0⟩ := s; cases z; exact ⟨a, rfl, f, hw, h0⟩
    · rw [ne n] at q
      obtain ⟨v', hv', s'⟩ := R.sl j e2 q
      refine ⟨v', hv', ?_⟩
      have other : ∀ {a' : Addr}, a' ≠ a → ∀ u, H a' = some u → upd H a o a' = some u := fun {a'} n u q => by rw [upd_ne n]; exact q
      cases e2 with
      | sh d2 => exact s'
      | ow d2 =>
        obtain ⟨a', rfl, f', o', h0'⟩ := s'
        have na : a' ≠ a := by
          rintro rfl
          rcases hk with ⟨d, d', rfl, rfl⟩ | ⟨d, d', rfl, rfl⟩
          · exact n (R.inj j i _ d2 d q he hv' hs)
          · obtain ⟨a'', z, _, _, h0⟩ := s; cases z; exact (R.bh i _ h0).2 h0'
        exact ⟨a', rfl, f', o'.mono (Sub.refl _) (other na), h0'⟩
      | bo d2 =>
        obtain ⟨a', rfl, f', o', h0'⟩ := s'
        have na : a' ≠ a := by
          rintro rfl
          rcases hk with ⟨d, d', rfl, rfl⟩ | ⟨d, d', rfl, rfl⟩
          · obtain ⟨a'', z, _, _, h0⟩ := s; cases z; exact (R.bh j _ h0').2 h0
          · obtain ⟨a'', z, _, _, h0⟩ := s; cases z; exact n (R.bi j i _ h0' h0)
        exact ⟨a', rfl, f', o'.mono (Sub.refl _) (other na), h0'⟩
  · have nb : ∀ {j : Nat} {d1 : D}, (ρ.set i (some e'))[j]? = some (some (EV.ow d1)) → ∃ d0, ρ[j]? = some (some (EV.ow d0)) := fun {j d1} q => by
      by_cases n : j = i
      · subst n
        rw [eq] at q; cases q
        rcases hk with ⟨d, d', rfl, z⟩ | ⟨d, d', rfl, z⟩
        · exact ⟨d, he⟩
        · cases z
      · rw [ne n] at q; exact ⟨d1, q⟩
    obtain ⟨x1, y1⟩ := nb q1
    obtain ⟨x2, y2⟩ := nb q2
    exact R.inj j l b x1 x2 y1 y2 s1 s2
theorem sim_retV {i : Nat} : SimS K EA E EH (tRet (tVar i)) (wRetV i) := fun G xa ρ F σ H R P Dn h L => by
  unfold wRetV at h
  split at h
  · rename_i d he
    obtain ⟨v, hv, s⟩ := R.sl i _ he
    exact ⟨v, hv, L.rt d false ρ v F σ H h R (Res.at s)⟩
  · rename_i d he
    obtain ⟨v, hv, s⟩ := R.sl i _ he
    obtain ⟨a, rfl, f, o, h0⟩ := s
    have hi : i < ρ.length := (List.getElem?_eq_some_iff.mp he).1
    have eq : (ρ.set i none)[i]? = some none := List.getElem?_set_self hi
    have ne : ∀ {j : Nat}, j ≠ i → (ρ.set i none)[j]? = ρ[j]? := fun {j} n => List.getElem?_set_ne (Ne.symm n)
    have sm : ∀ {j : Nat} {e : EV}, (ρ.set i none)[j]? = some (some e) → ρ[j]? = some (some e) ∧ j ≠ i := fun {j e} q => by
      by_cases n : j = i
      · subst n; rw [eq] at q; cases q
      · rw [ne n] at q; exact ⟨q, n⟩
    refine ⟨.ref a, hv, L.rt d true _ _ F σ H h ⟨by rw [List.length_set]; exact R.len, R.sub, R.mono, R.fr, R.nw, R.bh, R.bi, fun j b q => ?_, fun j e q => R.sl j e (sm q).1, fun j l b d1 d2 q1 q2 => R.inj j l b d1 d2 (sm q1).1 (sm q2).1, R.ft⟩ ?_⟩
    · obtain ⟨d', q'⟩ := R.bs j b q
      have n : j ≠ i := by rintro rfl; rw [he] at q'; cases q'
      exact ⟨d', by rw [ne n]; exact q'⟩
    · unfold Res
      rw [if_pos rfl]
      refine ⟨a, rfl, f, o, h0, fun j e q z => ?_⟩
      obtain ⟨q', n⟩ := sm q
      exact n (R.inj j i a e d q' he z hv)
  · exact h.elim
/-! #### targets -/
theorem sim_gN {i : Nat} : SimG K EA E EH (gName i) (gN i) := fun G xa ρ F σ H R d f v Qd Q r h k => k _ F _ H h.2 (R.put h.1 r) (Sub.refl _)
theorem sim_gNil : SimGs K EA E EH L2.gNil gNil := fun G xa ρ F σ H R ds vs Qd Q a h k => by
  obtain ⟨rfl, q⟩ := h
  cases a
  exact ⟨rfl, k ρ F σ H q R (Sub.refl _)⟩
theorem At.res {v : V} {d : D} (h : At K F v d) : Res K G ρ F σ H false d v := Res.at h
end

/-! ### some objects more are not to be changed for a while -/
open Classical in
noncomputable def Gm.lock (G : Gm) (F H : Hp) (p : Addr → Prop) : Gm where
  H0 := fun a => if p a then noTab H a else G.H0 a
  F0 := F
  b := G.b
  T := G.T
  nt := fun a o e => by
    by_cases q : p a
    · rw [if_pos q] at e
      exact fun ps z => noTab_ft H a ps (z ▸ e)
    · rw [if_neg q] at e
      exact G.nt a o e
section
variable {K : PySem.W.Frag} {EA : EAT} {E : Exc → Prop} {EH : XK} {G : Gm} {ρ ρ' : Env} {F F' H H' : Hp} {σ σ' : L2.St} {p : Addr → Prop}
theorem lock_nt {a : Addr} (h : p a) : (G.lock F H p).H0 a = noTab H a := if_pos h
theorem lock_in {a : Addr} {o : HO} (h : p a) (e : H a = some o) (n : NT o) : (G.lock F H p).H0 a = some o := (lock_nt h).trans (noTab_nt e n)
theorem lock_out {a : Addr} (h : ¬ p a) : (G.lock F H p).H0 a = G.H0 a := if_neg h
theorem Rl.lockH (R : Rl K G ρ F σ H) {a : Addr} (h : (G.lock F H p).H0 a = none) : G.H0 a = none := by
  by_cases q : p a
  · rw [lock_nt q] at h
    exact R.h0n h
  · rw [lock_out q] at h; exact h
theorem Rl.lock (R : Rl K G ρ F σ H) (hp : ∀ (i : Nat) (d : D) (a : Addr), ρ[i]? = some (some (EV.ow d)) → σ[i]? = some (some (V.ref a)) → ¬ p a) : Rl K (G.lock F H p) ρ F σ H := by
  refine ⟨R.len, R.sub, Sub.refl _, ⟨fun a o e n => ?_, R.fr.2⟩, fun a o e n => n, fun i a e => ⟨(R.bh i a e).1, ?_⟩, R.bi, R.bs, fun i e q => ?_, R.inj, R.ft⟩
  · by_cases q : p a
    · rw [lock_nt q] at e; exact noTab_sub H a o e
    · rw [lock_out q] at e; exact R.fr.1 a o e n
  · by_cases q : p a
    · obtain ⟨d, hd⟩ := R.bs i a e
      obtain ⟨v, _, a', rfl, _, w, hb'⟩ := R.sl i _ hd
      rw [show G.b i = some a from e] at hb'; cases hb'
      obtain ⟨o, e1, n, _⟩ := w.plainO
      rw [lock_in q e1 n]; exact fun z => nomatch z
    · rw [lock_out q]; exact (R.bh i a e).2
  · obtain ⟨v, hv, s⟩ := R.sl i e q
    refine ⟨v, hv, ?_⟩
    cases e with
    | sh d => exact s
    | ow d =>
      obtain ⟨a, rfl, f, o, z⟩ := s
      exact ⟨a, rfl, f, o, by rw [lock_out (hp i d a q hv)]; exact z⟩
    | bo d => exact s
theorem Rl.unfr (R : Rl K G ρ F σ H) (h : (G.lock F H p).fr H') : G.fr H' := by
  refine ⟨fun a o e n => ?_, h.2⟩
  refine h.1 a o ?_ n
  by_cases q : p a
  · exact lock_in q (R.fr.1 a o e n) (G.nt a o e)
  · rw [lock_out q]; exact e
theorem Rl.unlock (R : Rl K G ρ F σ H) (R' : Rl K (G.lock F H p) ρ' F' σ' H') : Rl K G ρ' F' σ' H' := by
  refine ⟨R'.len, R'.sub, R.mono.trans R'.mono, R.unfr R'.fr, fun a o e n => ?_, fun i a e => ⟨(R'.bh i a e).1, (R.bh i a e).2⟩, R'.bi, R'.bs, fun i e q => ?_, R'.inj, R'.ft⟩
  · have f := R.nw a o e n
    by_cases q : p a
    · cases z : (G.lock F H p).H0 a with
      | none => rw [R.lockH z] at e; cases e
      | some u => exact R'.nw a u z f
    · exact R'.nw a o (by rw [lock_out q]; exact e) f
  · obtain ⟨v, hv, s⟩ := R'.sl i e q
    refine ⟨v, hv, ?_⟩
    cases e with
    | sh d => exact s
    | ow d =>
      obtain ⟨a, rfl, f, o, z⟩ := s
      exact ⟨a, rfl, f, o, R.lockH z⟩
    | bo d => exact s
theorem Rl.unres {f : Bool} {d : D} {v : V} (R : Rl K G ρ F σ H) (r : Res K (G.lock F H p) ρ' F' σ' H' f d v) : Res K G ρ' F' σ' H' f d v := by
  cases f with
  | false => exact r
  | true =>
    unfold Res at r ⊢
    rw [if_pos rfl] at r ⊢
    obtain ⟨a, e1, e2, e3, e4, e5⟩ := r
    exact ⟨a, e1, e2, e3, R.lockH e4, e5⟩
theorem XA.lock (xa : XA EA E EH G) (R : Rl K G ρ F σ H) : XA EA E EH (G.lock F H p) := ⟨xa.1, fun x hx c d H' ha hf => xa.2 x hx c d H' ha (R.unfr hf)⟩
/-- what is locked stays -/
theorem Rl.locked (R' : Rl K (G.lock F H p) ρ' F' σ' H') {a : Addr} {o : HO} (q : p a) (e : H a = some o) (nb : ∀ i, G.b i ≠ some a) (nt : NT o := by intro ps h; cases h) : H' a = some o := R'.fr.1 a o (lock_in q e nt) nb
theorem Rl.lockedF (R' : Rl K (G.lock F H p) ρ' F' σ' H') {a : Addr} (q : p a) (e : H a ≠ none) (nt : ∀ o, H a = some o → NT o) (f : F a = none) : F' a = none := by
  cases z : H a with
  | none => exact absurd z e
  | some o => exact R'.nw a o (lock_in q z (nt o z)) f
/-- no slot's own object is a locked one -/
theorem Rl.lockedO (R' : Rl K (G.lock F H p) ρ' F' σ' H') {a : Addr} (q : p a) (e : H a ≠ none) (nt : ∀ o, H a = some o → NT o) {i : Nat} {d : D} (h : ρ'[i]? = some (some (EV.ow d))) : σ'[i]? ≠ some (some (V.ref a)) := fun z => by
  obtain ⟨v, hv, a', rfl, _, _, n⟩ := R'.sl i _ h
  rw [hv] at z; cases z
  cases y : H a with
  | none => exact e y
  | some o =>
    rw [lock_in q y (nt o y)] at n
    cases n
end

section
variable {K : PySem.W.Frag} {EA : EAT} {E : Exc → Prop} {EH : XK} {G : Gm} {ρ : Env} {F H : Hp} {σ : L2.St} {te ta tb tc : TE} {w wa wb wc : WE} {ts tu : TS} {ws wu : WS} {tt : TT} {wt : WT} {tg : TG} {wg : WG} {tgs : TGs} {wgs : WGs} {ti : TI} {wi : WI}
theorem sim_gCons (s : SimG K EA E EH tg wg) (t : SimGs K EA E EH tgs wgs) : SimGs K EA E EH (L2.gCons tg tgs) (gCons wg wgs) := fun G xa ρ F σ H R ds vs Qd Q a h k => by
  obtain ⟨d, r, rfl, h⟩ := h
  cases a with
  | cons a1 a2 =>
    rename_i v us
    exact ⟨v, us, rfl, s G xa ρ F σ H R d false v _ _ (Res.at a1) h fun ρ1 F1 σ1 H1 q R1 s1 => t G xa ρ1 F1 σ1 H1 R1 r us Qd Q (a2.mono s1) q fun ρ2 F2 σ2 H2 q R2 s2 => k ρ2 F2 σ2 H2 q R2 (s1.trans s2)⟩
theorem sim_gTup {n : Nat} (t : SimGs K EA E EH tgs wgs) : SimG K EA E EH (L2.gTup K n tgs) (gTup n wgs) := fun G xa ρ F σ H R d f v Qd Q r h k => by
  obtain ⟨ds, rfl, hn, h⟩ := h
  obtain ⟨F1, R1, s1, a⟩ := r.fix R
  cases a with
  | tup s a l =>
    rename_i p us
    exact ⟨p, us, rfl, R1.sub.seqT s, by rw [a.length]; exact hn, t G xa ρ F1 σ H R1 ds us Qd Q a h fun ρ2 F2 σ2 H2 q R2 s2 => k ρ2 F2 σ2 H2 q R2 (s1.trans s2)⟩
theorem sim_asg (s : SimE K EA E EH te w) (g : SimG K EA E EH tg wg) : SimS K EA E EH (tAsg te tg) (wAsg w wg) := fun G xa ρ F σ H R P Dn h L =>
  s G xa ρ F σ H R _ _ h fun d f ρ1 v F1 H1 q R1 _ r => g G xa ρ1 F1 σ H1 R1 d f v P.nx Dn.nx r q fun ρ2 F2 σ2 H2 q R2 _ => L.nx ρ2 F2 σ2 H2 q R2
theorem sim_par {i j : Nat} (sa : SimE K EA E EH ta wa) (sb : SimE K EA E EH tb wb) : SimS K EA E EH (tPar i j (tCons ta (tCons tb tNil))) (wPar i j wa wb) := fun G xa ρ F σ H R P Dn h L =>
  sa.run xa R (Qd := fun d ρ1 => wb ρ1 fun e _ ρ2 => free ρ2 i ∧ free ρ2 j ∧ P.nx (setE (setE ρ2 i d false) j e false)) h fun d ρ1 v F1 H1 h1 R1 s1 a1 =>
    sb.run xa R1 (Qd := fun e ρ2 => free ρ2 i ∧ free ρ2 j ∧ P.nx (setE (setE ρ2 i d false) j e false)) h1 fun e ρ2 u F2 H2 h2 R2 s2 a2 => by
      refine ⟨v, u, rfl, L.nx _ F2 _ H2 h2.2.2 ((R2.put h2.1 (Res.at (a1.mono s2))).put ?_ (Res.at a2))⟩
      have h3 := h2.2.1
      unfold setE
      rw [if_neg Bool.false_ne_true]
      unfold free at h3 ⊢
      by_cases q : j = i
      · subst q
        rw [List.getElem?_set_self (free_lt h2.2.1).1]
        trivial
      · rw [List.getElem?_set_ne (Ne.symm q)]
        exact h3
/-- x[e] = value -/
theorem sim_gIx {x : Nat} (s : SimE K EA E EH te w) : SimG K EA E EH (gSub (tVar x) te rSetL) (gIx x w) := fun G xa ρ F σ H R d f v Qd Q r h k => by
  obtain ⟨F1, R1, s1, av⟩ := r.fix R
  obtain ⟨hx0, h⟩ := h
  obtain ⟨d0, hd0⟩ := Option.isSome_iff_exists.mp hx0
  obtain ⟨o, ho, _⟩ := R1.pk hd0
  refine ⟨o, ho, s.run xa R1 (Qd := fun di ρ1 => _) h fun di ρ1 u F2 H2 h2 R2 s2 a2 => ?_⟩
  obtain ⟨ds, i, j, rfl, h2⟩ := h2
  cases a2
  rcases h2 with ⟨he, hj, q⟩ | ⟨he, hj, q⟩
  · obtain ⟨o', ho', a, rfl, fa, hw, h0⟩ := R2.sl x _ he
    rw [ho] at ho'; cases ho'
    obtain ⟨xs, hx, al, ll⟩ := hw
    refine ⟨a, xs, i, j, rfl, rfl, hx, by rw [al.length]; exact hj, ?_⟩
    exact k _ F2 σ _ q (R2.turn (e' := .ow (.list (ds.set j d))) he ho (.inl ⟨_, _, rfl, rfl⟩) ⟨xs.set j v, upd_same, al.set (av.mono s2) j, by rw [List.length_set]; exact ll⟩) (s1.trans s2)
  · obtain ⟨o', ho', a, rfl, fa, hw, h0⟩ := R2.sl x _ he
    rw [ho] at ho'; cases ho'
    obtain ⟨xs, hx, al, ll⟩ := hw
    refine ⟨a, xs, i, j, rfl, rfl, hx, by rw [al.length]; exact hj, ?_⟩
    exact k _ F2 σ _ q (R2.turn (e' := .bo (.list (ds.set j d))) he ho (.inr ⟨_, _, rfl, rfl⟩) ⟨xs.set j v, upd_same, al.set (av.mono s2) j, by rw [List.length_set]; exact ll⟩) (s1.trans s2)
/-- x.append(e) -/
theorem sim_app {x : Nat} (s : SimE K EA E EH te w) : SimS K EA E EH (tDrop (tBM K "list" rAppend (tVar x) (tCons te tNil))) (wApp x w) := fun G xa ρ F σ H R P Dn h L => by
  obtain ⟨hx0, h⟩ := h
  obtain ⟨l0, hd0⟩ : ∃ l0, rdE ρ x = some (.list l0) := by
    unfold isL at hx0
    split at hx0
    · rename_i l0 e; exact ⟨l0, e⟩
    · exact hx0.elim
  obtain ⟨o, ho, pk⟩ := R.pk hd0
  have run : te σ H fun y H2 => rAppend o [y] H2 fun _ H1 => Dn.nx σ H1 := by
    refine s.run xa R (Qd := fun di ρ1 => _) h fun d ρ1 u F2 H2 h2 R2 s2 a2 => ?_
    obtain ⟨ds, hl, h2⟩ := h2
    rcases h2 with ⟨he, q⟩ | ⟨he, q⟩
    · obtain ⟨o', ho', a, rfl, fa, hw, h0⟩ := R2.sl x _ he
      rw [ho] at ho'; cases ho'
      obtain ⟨xs, hx, al, ll⟩ := hw
      refine ⟨a, xs, u, rfl, rfl, hx, by rw [al.length]; exact hl, ?_⟩
      exact L.nx _ F2 σ _ q (R2.turn (e' := .ow (.list (ds ++ [d]))) he ho (.inl ⟨_, _, rfl, rfl⟩) ⟨xs ++ [u], upd_same, al.append (.cons a2 .nil), by rw [List.length_append]; exact hl⟩)
    · obtain ⟨o', ho', a, rfl, fa, hw, h0⟩ := R2.sl x _ he
      rw [ho] at ho'; cases ho'
      obtain ⟨xs, hx, al, ll⟩ := hw
      refine ⟨a, xs, u, rfl, rfl, hx, by rw [al.length]; exact hl, ?_⟩
      exact L.nx _ F2 σ _ q (R2.turn (e' := .bo (.list (ds ++ [d]))) he ho (.inr ⟨_, _, rfl, rfl⟩) ⟨xs ++ [u], upd_same, al.append (.cons a2 .nil), by rw [List.length_append]; exact hl⟩)
  -- that it is a list is asked ahead of the argument
  have isl : tyV K "list" o H := by
    obtain ⟨a, xs, rfl, sq, _⟩ := pk.list R.sub
    exact .inl ⟨rfl, xs, .inl (.inl sq)⟩
  exact ⟨o, ho, isl, run⟩
/-! #### loops -/
theorem sim_for (si : SimI K EA E EH ti wi) (sg : SimG K EA E EH tg wg) (sb : SimS K EA E EH ts ws) : SimS K EA E EH (tFor ti tg ts) (wFor wi wg ws) := fun G xa ρ F σ H R P Dn h L =>
  si G xa ρ F σ H R _ _ h fun ds ρ1 F1 H1 J h1 R1 s1 wk => by
    obtain ⟨w1, w2, w3⟩ := wk
    refine ⟨fun i m σ' H' => ∃ ρ' F', Rl K G ρ' F' σ' H' ∧ Sub F1 F' ∧ i ≤ ds.length ∧ m = ds.length - i ∧ forGo wg ws P (ds.drop i) ρ', ⟨ds.length, ρ1, F1, R1, Sub.refl _, Nat.zero_le _, rfl, by rw [List.drop_zero]; exact h1⟩, ?_⟩
    rintro i m σ' H' ⟨ρ', F', R', s', hi, rfl, h'⟩
    by_cases hlt : i < ds.length
    · refine .inr ⟨w1 i H' (s'.trans R'.sub) hlt, fun σ2 H2 => ∃ ρ2 F2, Rl K G ρ2 F2 σ2 H2 ∧ Sub F1 F2 ∧ forGo wg ws P (ds.drop (i + 1)) ρ2, ?_, fun x H2 y => ?_⟩
      · rintro σ2 H2 ⟨ρ2, F2, R2, s2, h2⟩
        exact ⟨ds.length - (i + 1), by omega, ρ2, F2, R2, s2, hlt, rfl, h2⟩
      · obtain ⟨F2, g, a⟩ := w3 i H' x H2 (s'.trans R'.sub) y ds[i] (List.getElem?_eq_getElem hlt) F' s' R'.sub
        rw [List.drop_eq_getElem_cons hlt] at h'
        have R2 := R'.grow g
        refine sg G xa ρ' F2 σ' H2 R2 _ false x _ _ (Res.at a) h' fun ρ3 F3 σ3 H3 q R3 s3 => ?_
        have s4 : Sub F1 F3 := (s'.trans g.ff).trans s3
        have RL := R3.lock (p := fun _ => False) fun _ _ _ _ _ z => z
        have back : ∀ {ρ4 : Env} {F4 H4 : Hp} {σ4 : L2.St}, forGo wg ws P (ds.drop (i + 1)) ρ4 → Rl K (G.lock F3 H3 fun _ => False) ρ4 F4 σ4 H4 → ∃ ρ2 F2, Rl K G ρ2 F2 σ4 H4 ∧ Sub F1 F2 ∧ forGo wg ws P (ds.drop (i + 1)) ρ2 :=
          fun {ρ4 F4 H4 σ4} q4 R4 => ⟨ρ4, F4, R3.unlock R4, s4.trans R4.mono, q4⟩
        exact sb _ (xa.lock R3) ρ3 F3 σ3 H3 RL { P with nx := forGo wg ws P (ds.drop (i + 1)), ct := forGo wg ws P (ds.drop (i + 1)), bk := P.nx } _ q
          ⟨fun ρ4 F4 σ4 H4 q4 R4 => back q4 R4, fun d f ρ4 v F4 σ4 H4 q4 R4 r4 => L.rt d f ρ4 v F4 σ4 H4 q4 (R3.unlock R4) (R3.unres r4), fun ρ4 F4 σ4 H4 q4 R4 => L.nx ρ4 F4 σ4 H4 q4 (R3.unlock R4), fun ρ4 F4 σ4 H4 q4 R4 => back q4 R4⟩
    · have e : ds.drop i = [] := List.drop_eq_nil_iff.mpr (by omega)
      rw [e] at h'
      exact .inl ⟨w2 i H' (s'.trans R'.sub) (by omega), L.nx ρ' F' σ' H' h' R'⟩
theorem sim_while (st : SimT K EA E EH tt wt) (sb : SimS K EA E EH ts ws) : SimS K EA E EH (tWhile tt ts) (wWhile wt ws) := fun G xa ρ F σ H R P Dn h L => by
  obtain ⟨W, ⟨m0, h0⟩, step⟩ := h
  refine ⟨fun m σ' H' => ∃ ρ' F', Rl K G ρ' F' σ' H' ∧ W m ρ', ⟨m0, ρ, F, R, h0⟩, ?_⟩
  rintro m σ' H' ⟨ρ', F', R', h'⟩
  refine st G xa ρ' F' σ' H' R' _ _ (step m ρ' h') fun b ρ1 F1 H1 q R1 s1 => ?_
  cases b with
  | true =>
    rw [if_pos rfl]
    have back : ∀ {ρ4 : Env} {F4 H4 : Hp} {σ4 : L2.St}, (∃ m', m' < m ∧ W m' ρ4) → Rl K G ρ4 F4 σ4 H4 → ∃ m', m' < m ∧ ∃ ρ2 F2, Rl K G ρ2 F2 σ4 H4 ∧ W m' ρ2 := fun {ρ4 F4 H4 σ4} q4 R4 => by
      obtain ⟨m', lt, w⟩ := q4
      exact ⟨m', lt, ρ4, F4, R4, w⟩
    exact ⟨fun σ2 H2 => ∃ m', m' < m ∧ ∃ ρ2 F2, Rl K G ρ2 F2 σ2 H2 ∧ W m' ρ2, fun σ2 H2 z => z, sb G xa ρ1 F1 σ' H1 R1 _ _ (q.1 rfl)
      ⟨fun ρ4 F4 σ4 H4 q4 R4 => back q4 R4, L.rt, fun ρ4 F4 σ4 H4 q4 R4 => L.nx ρ4 F4 σ4 H4 q4 R4, fun ρ4 F4 σ4 H4 q4 R4 => back q4 R4⟩⟩
  | false =>
    rw [if_neg Bool.false_ne_true]
    exact L.nx ρ1 F1 σ' H1 (q.2 rfl) R1
/-! #### what is walked -/
theorem walks_list {a : Addr} {xs : List V} {ds : List D} (s : SqL K F a xs) (al : AtL K F xs ds) : Walks K F ds (Itl K a) := by
  refine ⟨fun i H e h => ?_, fun i H e h => ⟨xs, e.seqL s, by rw [al.length]; exact h⟩, fun i H x H' e y d hd F1 e1 e2 => ?_⟩
  · rw [← al.length] at h
    exact ⟨xs, xs[i], e.seqL s, List.getElem?_eq_getElem h⟩
  · obtain ⟨rfl, y⟩ := y
    obtain ⟨v, hv, av⟩ := al.getD hd
    have : some x = some v := (y xs (e.seqL s)).symm.trans hv
    cases this
    exact ⟨F1, Gr.same e2, av.mono e1⟩
theorem walks_tup {a : Addr} {xs : List V} {ds : List D} (s : SqT K F a xs) (al : AtL K F xs ds) : Walks K F ds (Itt K a) := by
  refine ⟨fun i H e h => ?_, fun i H e h => ⟨xs, e.seqT s, by rw [al.length]; exact h⟩, fun i H x H' e y d hd F1 e1 e2 => ?_⟩
  · rw [← al.length] at h
    exact ⟨xs, xs[i], e.seqT s, List.getElem?_eq_getElem h⟩
  · obtain ⟨rfl, y⟩ := y
    obtain ⟨v, hv, av⟩ := al.getD hd
    have : some x = some v := (y xs (e.seqT s)).symm.trans hv
    cases this
    exact ⟨F1, Gr.same e2, av.mono e1⟩
theorem walks_rng {lo : Int} {n : Nat} : Walks K F (rangeL lo n) (Itr lo n) := by
  have len : (rangeL lo n).length = n := by unfold rangeL; rw [List.length_map, List.length_range]
  refine ⟨fun i H e h => by rw [len] at h; exact h, fun i H e h => by rw [len] at h; exact h, fun i H x H' e y d hd F1 e1 e2 => ?_⟩
  obtain ⟨rfl, rfl⟩ := y
  have hi : i < n := by
    have h := (List.getElem?_eq_some_iff.mp hd).1
    rw [len] at h; exact h
  have q : (rangeL lo n)[i]? = some (.int (lo + (i : Nat))) := by
    unfold rangeL
    rw [List.getElem?_map, List.getElem?_range hi]
    rfl
  rw [q] at hd; cases hd
  exact ⟨F1, Gr.same e2, .int _⟩
/-- over a list or a tuple -/
def iSeq (K : PySem.W.Frag) (tl : TE) : TI := fun σ H R => tl σ H fun x H1 => ∃ a, x = .ref a ∧ (((∃ xs, SqL K H1 a xs) ∧ R (Itl K a) H1) ∨ ((∃ xs, SqT K H1 a xs) ∧ R (Itt K a) H1))
theorem sim_itS (s : SimE K EA E EH te w) : SimI K EA E EH (iSeq K te) (itS w) := fun G xa ρ F σ H R Qd Q h k =>
  s.run xa R (Qd := fun d ρ1 => ∃ xs, (d = .list xs ∨ d = .tuple xs) ∧ Qd xs ρ1) h fun d ρ1 v F1 H1 h1 R1 s1 a1 => by
    obtain ⟨ds, hd, q⟩ := h1
    rcases hd with rfl | rfl
    · cases a1 with
      | lst s al l => exact ⟨_, rfl, .inl ⟨⟨_, .inl (.inl (R1.sub _ _ s))⟩, k ds ρ1 F1 H1 _ q R1 s1 (walks_list (.inl (.inl s)) al)⟩⟩
    · cases a1 with
      | tup s al l => exact ⟨_, rfl, .inr ⟨⟨_, R1.sub.seqT s⟩, k ds ρ1 F1 H1 _ q R1 s1 (walks_tup s al)⟩⟩
theorem sim_itR1 (s : SimE K EA E EH te w) : SimI K EA E EH (iRng1 (tCons te tNil)) (itR1 w) := fun G xa ρ F σ H R Qd Q h k =>
  s.run xa R (Qd := fun d ρ1 => ∃ n : Int, d = .int n ∧ -4611686018427387904 ≤ n ∧ n < 4611686018427387904 ∧ Qd (rangeL 0 n.toNat) ρ1) h fun d ρ1 v F1 H1 h1 R1 s1 a1 => by
    obtain ⟨n, rfl, h1, h2, q⟩ := h1
    cases a1
    exact ⟨n, rfl, h1, h2, k _ ρ1 F1 H1 _ q R1 s1 walks_rng⟩
theorem sim_itR2 (sa : SimE K EA E EH ta wa) (sb : SimE K EA E EH tb wb) : SimI K EA E EH (iRng2 (tCons ta (tCons tb tNil))) (itR2 wa wb) := fun G xa ρ F σ H R Qd Q h k =>
  sa.run xa R (Qd := fun d ρ1 => wb ρ1 fun e _ ρ2 => ∃ m n : Int, d = .int m ∧ e = .int n ∧ (-4611686018427387904 ≤ m ∧ m < 4611686018427387904 ∧ -4611686018427387904 ≤ n ∧ n < 4611686018427387904) ∧ Qd (rangeL m (n - m).toNat) ρ2) h fun d ρ1 v F1 H1 h1 R1 s1 a1 =>
    sb.run xa R1 (Qd := fun e ρ2 => ∃ m n : Int, d = .int m ∧ e = .int n ∧ (-4611686018427387904 ≤ m ∧ m < 4611686018427387904 ∧ -4611686018427387904 ≤ n ∧ n < 4611686018427387904) ∧ Qd (rangeL m (n - m).toNat) ρ2) h1 fun e ρ2 u F2 H2 h2 R2 s2 a2 => by
      obtain ⟨m, n, rfl, rfl, b, q⟩ := h2
      cases a1
      cases a2
      exact ⟨m, n, rfl, b, k _ ρ2 F2 H2 _ q R2 (s1.trans s2) walks_rng⟩
end

/-! #### comprehensions -/
theorem wipe_get {vs : List Nat} {σ : L2.St} {j : Nat} : (wipe σ vs)[j]? = if j ∈ vs ∧ j < σ.length then some none else σ[j]? := by
  induction vs with
  | nil => simp [wipe]
  | cons v vs ih =>
    show ((wipe σ vs).set v none)[j]? = _
    by_cases e : v = j
    · subst e
      by_cases h : v < σ.length
      · rw [List.getElem?_set_self (by rw [wipe_length]; exact h), if_pos ⟨List.mem_cons_self, h⟩]
      · rw [if_neg fun z => h z.2, List.getElem?_eq_none (by rw [List.length_set, wipe_length]; omega), List.getElem?_eq_none (by omega)]
    · rw [List.getElem?_set_ne e, ih]
      by_cases h : j ∈ vs ∧ j < σ.length
      · rw [if_pos h, if_pos ⟨List.mem_cons_of_mem _ h.1, h.2⟩]
      · rw [if_neg h, if_neg]
        rintro ⟨h1, h2⟩
        rcases List.mem_cons.mp h1 with q | q
        · exact e q.symm
        · exact h ⟨q, h2⟩
theorem wipeE_length (ρ : Env) : ∀ vs : List Nat, (wipeE ρ vs).length = ρ.length
  | [] => rfl
  | v :: vs => by unfold wipeE; rw [List.length_set, wipeE_length ρ vs]
theorem wipeE_get {vs : List Nat} {ρ : Env} {j : Nat} : (wipeE ρ vs)[j]? = if j ∈ vs ∧ j < ρ.length then some none else ρ[j]? := by
  induction vs with
  | nil => simp [wipeE]
  | cons v vs ih =>
    show ((wipeE ρ vs).set v none)[j]? = _
    by_cases e : v = j
    · subst e
      by_cases h : v < ρ.length
      · rw [List.getElem?_set_self (by rw [wipeE_length]; exact h), if_pos ⟨List.mem_cons_self, h⟩]
      · rw [if_neg fun z => h z.2, List.getElem?_eq_none (by rw [List.length_set, wipeE_length]; omega), List.getElem?_eq_none (by omega)]
    · rw [List.getElem?_set_ne e, ih]
      by_cases h : j ∈ vs ∧ j < ρ.length
      · rw [if_pos h, if_pos ⟨List.mem_cons_of_mem _ h.1, h.2⟩]
      · rw [if_neg h, if_neg]
        rintro ⟨h1, h2⟩
        rcases List.mem_cons.mp h1 with q | q
        · exact e q.symm
        · exact h ⟨q, h2⟩
theorem backE_length (ρ0 ρ : Env) : ∀ vs : List Nat, (backE ρ0 ρ vs).length = ρ.length
  | [] => rfl
  | v :: vs => by unfold backE; rw [List.length_set, backE_length ρ0 ρ vs]
theorem backE_get {vs : List Nat} {ρ0 ρ : Env} {j : Nat} (hl : ρ0.length = ρ.length) : (backE ρ0 ρ vs)[j]? = if j ∈ vs then ρ0[j]? else ρ[j]? := by
  induction vs with
  | nil => simp [backE]
  | cons v vs ih =>
    show ((backE ρ0 ρ vs).set v (ρ0[v]?.getD none))[j]? = _
    by_cases e : v = j
    · subst e
      rw [if_pos List.mem_cons_self]
      by_cases h : v < ρ.length
      · rw [List.getElem?_set_self (by rw [backE_length]; exact h)]
        obtain ⟨x, hx⟩ : ∃ x, ρ0[v]? = some x := ⟨_, List.getElem?_eq_getElem (by omega)⟩
        rw [hx]; rfl
      · rw [List.getElem?_eq_none (by rw [List.length_set, backE_length]; omega), List.getElem?_eq_none (by omega)]
    · rw [List.getElem?_set_ne e, ih]
      by_cases h : j ∈ vs
      · rw [if_pos h, if_pos (List.mem_cons_of_mem _ h)]
      · rw [if_neg h, if_neg]
        intro h1
        rcases List.mem_cons.mp h1 with q | q
        · exact e q.symm
        · exact h q
theorem wipe_eq {vs : List Nat} {σ σ' : L2.St} (hl : σ'.length = σ.length) (h : ∀ j, j ∉ vs → σ'[j]? = σ[j]?) : wipe σ' vs = wipe σ vs := by
  apply List.ext_getElem?
  intro j
  rw [wipe_get, wipe_get, hl]
  by_cases q : j ∈ vs ∧ j < σ.length
  · rw [if_pos q, if_pos q]
  · rw [if_neg q, if_neg q]
    by_cases m : j ∈ vs
    · have : σ.length ≤ j := by
        apply Nat.le_of_not_lt
        exact fun z => q ⟨m, z⟩
      rw [List.getElem?_eq_none (by omega), List.getElem?_eq_none this]
    · exact h j m
theorem wipe_wipe {vs : List Nat} {σ : L2.St} : wipe (wipe σ vs) vs = wipe σ vs := wipe_eq (wipe_length _ _) fun j h => by
  rw [wipe_get, if_neg fun z => h z.1]
/-- a target that sets these slots alone -/
def Sets (tg : TG) (vs : List Nat) : Prop := ∀ v σ H Q, tg v σ H Q → tg v σ H fun σ' H' => wipe σ' vs = wipe σ vs ∧ Q σ' H'
def SetsL (tg : TGs) (vs : List Nat) : Prop := ∀ us σ H Q, tg us σ H Q → tg us σ H fun σ' H' => wipe σ' vs = wipe σ vs ∧ Q σ' H'
theorem sets_name {i : Nat} {vs : List Nat} (h : i ∈ vs) : Sets (gName i) vs := fun v σ H Q q => ⟨wipe_eq (by rw [List.length_set]) fun j hj => List.getElem?_set_ne (by rintro rfl; exact hj h), q⟩
theorem sets_nil {vs : List Nat} : SetsL L2.gNil vs := fun us σ H Q q => ⟨q.1, rfl, q.2⟩
/-- targets do no more for a weaker wish -/
def MonoG (tg : TG) : Prop := ∀ v σ H (Q Q' : L2.St → Hp → Prop), (∀ σ' H', Q σ' H' → Q' σ' H') → tg v σ H Q → tg v σ H Q'
def MonoGs (tg : TGs) : Prop := ∀ v σ H (Q Q' : L2.St → Hp → Prop), (∀ σ' H', Q σ' H' → Q' σ' H') → tg v σ H Q → tg v σ H Q'
theorem mono_name {i : Nat} : MonoG (gName i) := fun v σ H Q Q' h q => h _ _ q
theorem mono_nil : MonoGs L2.gNil := fun v σ H Q Q' h q => ⟨q.1, h _ _ q.2⟩
theorem mono_cons {tg : TG} {tgs : TGs} (m : MonoG tg) (ms : MonoGs tgs) : MonoGs (L2.gCons tg tgs) := fun vs σ H Q Q' h ⟨v, r, e, q⟩ => ⟨v, r, e, m _ _ _ _ _ (fun σ' H' q => ms _ _ _ _ _ h q) q⟩
theorem mono_tup {K : PySem.W.Frag} {n : Nat} {tgs : TGs} (ms : MonoGs tgs) : MonoG (L2.gTup K n tgs) := fun v σ H Q Q' h ⟨a, xs, e, s, l, q⟩ => ⟨a, xs, e, s, l, ms _ _ _ _ _ h q⟩
theorem sets_cons {tg : TG} {tgs : TGs} {vs : List Nat} (m : MonoG tg) (ms : MonoGs tgs) (s : Sets tg vs) (ss : SetsL tgs vs) : SetsL (L2.gCons tg tgs) vs := fun us σ H Q ⟨v, r, e, q⟩ =>
  ⟨v, r, e, m _ _ _ _ _ (fun σ' H' ⟨e1, q1⟩ => ms _ _ _ _ _ (fun σ2 H2 ⟨e2, q2⟩ => ⟨e2.trans e1, q2⟩) (ss _ _ _ _ q1)) (s _ _ _ _ q)⟩
theorem sets_tup {K : PySem.W.Frag} {n : Nat} {tgs : TGs} {vs : List Nat} (ss : SetsL tgs vs) : Sets (L2.gTup K n tgs) vs := fun v σ H Q ⟨a, xs, e, s, l, q⟩ => ⟨a, xs, e, s, l, ss _ _ _ _ q⟩
theorem frees_of {ρ : Env} : ∀ {vs : List Nat}, frees ρ vs → ∀ v ∈ vs, free ρ v
  | _ :: _, h, v, hv => by
    rcases List.mem_cons.mp hv with rfl | q
    · exact h.1
    · exact frees_of h.2 v q
section
variable {K : PySem.W.Frag} {EA : EAT} {E : Exc → Prop} {EH : XK} {G : Gm} {ρ ρ1 ρ' : Env} {F F1 F' H H1 : Hp} {σ : L2.St} {vs : List Nat}
theorem Rl.wiped (R : Rl K G ρ F σ H) (h : ∀ v ∈ vs, G.b v = none) : Rl K G (wipeE ρ vs) F (wipe σ vs) H := by
  have sm : ∀ {j : Nat} {e : EV}, (wipeE ρ vs)[j]? = some (some e) → ρ[j]? = some (some e) ∧ (L2.wipe σ vs)[j]? = σ[j]? := fun {j e} q => by
    rw [wipeE_get] at q
    by_cases m : j ∈ vs ∧ j < ρ.length
    · rw [if_pos m] at q; cases q
    · rw [if_neg m] at q
      refine ⟨q, ?_⟩
      rw [wipe_get, R.len, if_neg m]
  refine ⟨by rw [wipeE_length, wipe_length]; exact R.len, R.sub, R.mono, R.fr, R.nw, R.bh, R.bi, fun i a e => ?_, fun i e q => ?_, fun i j a d e q1 q2 s1 s2 => ?_, R.ft⟩
  · obtain ⟨d, q⟩ := R.bs i a e
    refine ⟨d, ?_⟩
    rw [wipeE_get, if_neg]
    · exact q
    · rintro ⟨z, _⟩; rw [h i z] at e; cases e
  · obtain ⟨q1, q2⟩ := sm q
    rw [q2]; exact R.sl i e q1
  · obtain ⟨p1, p2⟩ := sm q1
    obtain ⟨p3, p4⟩ := sm q2
    rw [p2] at s1
    rw [p4] at s2
    exact R.inj i j a d e p1 p3 s1 s2
/-- an object aside is changed -/
theorem Rl.side {a : Addr} {o u0 : HO} (R : Rl K G ρ F σ H) (hu : H a = some u0) (nu : NT u0) (nc : ∀ c q, u0 ≠ LamX.CodeO c q) (fa : F a = none) (h0 : G.H0 a = none) (no : ∀ (i : Nat) (d : D), ρ[i]? = some (some (EV.ow d)) → σ[i]? ≠ some (some (V.ref a))) : Rl K G ρ F σ (upd H a o) := by
  refine ⟨R.len, fun b u q => by rw [upd_ne (ne_of_none q fa)]; exact R.sub b u q, R.mono, ⟨fun b u q n => ?_, Tabs_upd hu nu nc R.fr.2⟩, R.nw, fun j b q => ⟨?_, (R.bh j b q).2⟩, R.bi, R.bs, fun j e q => ?_, R.inj, R.ft⟩
  · rw [upd_ne]
    · exact R.fr.1 b u q n
    · rintro rfl; rw [h0] at q; cases q
  · rw [upd_ne]
    · exact (R.bh j b q).1
    · rintro rfl; exact (R.bh j b q).2 h0
  · obtain ⟨v, hv, s⟩ := R.sl j e q
    refine ⟨v, hv, ?_⟩
    cases e with
    | sh d => exact s
    | ow d =>
      obtain ⟨c, rfl, f, w, z⟩ := s
      have n : c ≠ a := by rintro rfl; exact no j d q hv
      exact ⟨c, rfl, f, w.mono (Sub.refl _) (fun u e => by rw [upd_ne n]; exact e), z⟩
    | bo d =>
      obtain ⟨c, rfl, f, w, z⟩ := s
      have n : c ≠ a := by rintro rfl; exact (R.bh j c z).2 h0
      exact ⟨c, rfl, f, w.mono (Sub.refl _) (fun u e => by rw [upd_ne n]; exact e), z⟩
/-- behind the block: the wiped slots as they were -/
theorem Rl.comeback (R1 : Rl K G ρ1 F1 σ H1) (R' : Rl K G ρ' F' (wipe σ vs) H) (sf : Sub F1 F') (hl : ρ1.length = ρ'.length) (hb : ∀ v ∈ vs, G.b v = none)
    (keep : ∀ (i : Nat) (d : D) (a : Addr), i ∈ vs → ρ1[i]? = some (some (EV.ow d)) → σ[i]? = some (some (V.ref a)) → H a = H1 a ∧ F' a = none ∧ ∀ (j : Nat) (e : D), ρ'[j]? = some (some (EV.ow e)) → (L2.wipe σ vs)[j]? ≠ some (some (V.ref a))) :
    Rl K G (backE ρ1 ρ' vs) F' σ H := by
  have out : ∀ {j : Nat}, j ∉ vs → (L2.wipe σ vs)[j]? = σ[j]? := fun {j} h => by rw [wipe_get, if_neg fun z => h z.1]
  refine ⟨by rw [backE_length, ← hl]; exact R1.len, R'.sub, R'.mono, R'.fr, R'.nw, R'.bh, R'.bi, fun i a e => ?_, fun i e q => ?_, fun i j a d e q1 q2 s1 s2 => ?_, R'.ft⟩
  · obtain ⟨d, q⟩ := R'.bs i a e
    refine ⟨d, ?_⟩
    rw [backE_get hl, if_neg]
    · exact q
    · intro z; rw [hb i z] at e; cases e
  · rw [backE_get hl] at q
    by_cases m : i ∈ vs
    · rw [if_pos m] at q
      obtain ⟨v, hv, s⟩ := R1.sl i e q
      refine ⟨v, hv, ?_⟩
      cases e with
      | sh d => exact At.mono sf s
      | ow d =>
        obtain ⟨a, rfl, f, w, z⟩ := s
        obtain ⟨k1, k2, _⟩ := keep i d a m q hv
        exact ⟨a, rfl, k2, w.mono sf (fun u e => k1.trans e), z⟩
      | bo d =>
        obtain ⟨a, rfl, f, w, z⟩ := s
        rw [hb i m] at z; cases z
    · rw [if_neg m] at q
      rw [← out m]
      exact R'.sl i e q
  · rw [backE_get hl] at q1 q2
    by_cases m1 : i ∈ vs
    · rw [if_pos m1] at q1
      by_cases m2 : j ∈ vs
      · rw [if_pos m2] at q2
        exact R1.inj i j a d e q1 q2 s1 s2
      · rw [if_neg m2] at q2
        rw [← out m2] at s2
        exact absurd s2 ((keep i d a m1 q1 s1).2.2 j e q2)
    · rw [if_neg m1] at q1
      rw [← out m1] at s1
      by_cases m2 : j ∈ vs
      · rw [if_pos m2] at q2
        exact absurd s1 ((keep j e a m2 q2 s2).2.2 i d q1)
      · rw [if_neg m2] at q2
        rw [← out m2] at s2
        exact R'.inj i j a d e q1 q2 s1 s2
end
section
variable {K : PySem.W.Frag} {EA : EAT} {E E' : Exc → Prop} {EH EH' : XK} {ti : TI} {wi : WI} {tg : TG} {wg : WG} {tt : TT} {wt : WT} {te : TE} {w : WE} {vs : List Nat}
theorem sim_lc (si : SimI K EA E EH ti wi) (sg : SimG K EA E' EH' tg wg) (hs : Sets tg vs) (hm : MonoG tg) (st : SimT K EA E' EH' tt wt) (se : SimE K EA E' EH' te w) (hE : ∀ x, ¬ E' x) :
    SimE K EA E EH (tLc ti tg tt te vs) (wLc wi wg wt w vs) := fun G xa ρ F σ H R Qd Q h k =>
  si G xa ρ F σ H R _ _ h fun ds ρ1 F1 H1 J h1 R1 s1 wk D0 hD => by
    obtain ⟨hlim, hfr, h1⟩ := h1
    obtain ⟨w1, w2, w3⟩ := wk
    have hb : ∀ v ∈ vs, G.b v = none := fun v hv => by
      cases e : G.b v with
      | none => rfl
      | some a =>
        obtain ⟨d, q⟩ := R1.bs v a e
        exact absurd q ((free_lt (frees_of hfr v hv)).2 d)
    have nbD : ∀ i, G.b i ≠ some D0 := fun i e => (R1.bh i D0 e).1 hD
    have h0D : G.H0 D0 = none := R1.h0 hD
    have x0 : ∀ G' : Gm, G'.T = EA.T → XA EA E' EH' G' := fun G' e => ⟨e, fun x hx => (hE x hx).elim⟩
    let p : Addr → Prop := fun a => a = D0 ∨ ∃ (i : Nat) (d : D), i ∈ vs ∧ ρ1[i]? = some (some (EV.ow d)) ∧ σ[i]? = some (some (V.ref a))
    have pD : p D0 := .inl rfl
    have pOw : ∀ a, p a → a ≠ D0 → H1 a ≠ none ∧ F1 a = none ∧ G.H0 a = none ∧ ∀ o, H1 a = some o → NT o := fun a q n => by
      rcases q with q | ⟨i, d, hi, e, s⟩
      · exact absurd q n
      · obtain ⟨v, hv, a', rfl, f, o, z⟩ := R1.sl i _ e
        rw [s] at hv; cases hv
        exact ⟨o.ne, f, z, fun u e => o.nt e⟩
    have pNb : ∀ a, p a → ∀ i, G.b i ≠ some a := fun a q i e => by
      by_cases n : a = D0
      · subst n; exact nbD i e
      · exact (R1.bh i a e).2 (pOw a q n).2.2.1
    let S : Nat → Hp → Env → Hp → List V → List D → Prop := fun i H' ρ' F' acc ad => Rl K G ρ' F' (wipe σ vs) H' ∧ Sub F1 F' ∧ i ≤ ds.length ∧ H' D0 = some (.lst acc) ∧ AtL K F' acc ad ∧ ad.length ≤ i ∧ (∀ a, p a → F' a = none) ∧ (∀ a, p a → a ≠ D0 → H' a = H1 a) ∧
      (∀ (j : Nat) (d : D) (a : Addr), ρ'[j]? = some (some (EV.ow d)) → (wipe σ vs)[j]? = some (some (V.ref a)) → ¬ p a) ∧ ρ1.length = ρ'.length ∧ lcGo wg wt w vs (fun acc ρ2 => Qd (.list acc) true (backE ρ1 ρ2 vs)) (ds.drop i) ad ρ'
    refine ⟨fun i m H' => m = ds.length - i ∧ ∃ ρ' F' acc ad, S i H' ρ' F' acc ad, ⟨ds.length, rfl, wipeE ρ1 vs, F1, [], [], ?_⟩, ?_⟩
    · refine ⟨(R1.wiped hb).grow (Gr.own R1.sub hD), Sub.refl _, Nat.zero_le _, upd_same, .nil, Nat.le_refl _, fun a q => ?_, fun a q n => upd_ne n, fun j d a q s z => ?_, (wipeE_length _ _).symm, by rw [List.drop_zero]; exact h1⟩
      · by_cases n : a = D0
        · subst n; exact sub_none R1.sub hD
        · exact (pOw a q n).2.1
      · rw [wipeE_get] at q
        by_cases m : j ∈ vs ∧ j < ρ1.length
        · rw [if_pos m] at q; cases q
        · rw [if_neg m] at q
          have nj : j ∉ vs := fun z => m ⟨z, (List.getElem?_eq_some_iff.mp q).1⟩
          rw [wipe_get, if_neg fun z => nj z.1] at s
          rcases z with rfl | ⟨i, d', hi, e, s'⟩
          · obtain ⟨v, hv, a', rfl, f, o, z⟩ := R1.sl j _ q
            rw [s] at hv; cases hv
            exact o.ne hD
          · exact nj (R1.inj i j a d' d e q s' s ▸ hi)
    · rintro i m H' ⟨rfl, ρ', F', acc, ad, R', sf, hi, hacc, hal, hlen, hpF, hpH, hpo, hll, h'⟩
      by_cases hlt : i < ds.length
      · refine .inr ⟨w1 i H' (sf.trans R'.sub) hlt, fun H2 => ∃ ρ' F' acc ad, S (i + 1) H2 ρ' F' acc ad, fun H2 z => ⟨ds.length - (i + 1), by omega, rfl, z⟩, fun x H2 y => ?_⟩
        obtain ⟨F2, g, a⟩ := w3 i H' x H2 (sf.trans R'.sub) y ds[i] (List.getElem?_eq_getElem hlt) F' sf R'.sub
        rw [List.drop_eq_getElem_cons hlt] at h'
        have R2 := R'.grow g
        have RL := R2.lock (p := p) fun j d a q s => hpo j d a q s
        have pH2 : ∀ a, p a → H2 a ≠ none ∧ F2 a = none ∧ (a ≠ D0 → H2 a = H1 a) := fun a q => by
          have hn : H' a ≠ none := by
            by_cases n : a = D0
            · subst n; rw [hacc]; exact fun z => nomatch z
            · rw [hpH a q n]; exact (pOw a q n).1
          refine ⟨?_, by rw [g.nw a hn]; exact hpF a q, fun n => ?_⟩
          · cases e : H' a with
            | none => exact absurd e hn
            | some o => rw [g.hh a o e]; exact fun z => nomatch z
          · cases e : H1 a with
            | none => exact absurd e (pOw a q n).1
            | some o => exact g.hh a o ((hpH a q n).trans e)
        have hD2 : H2 D0 = some (.lst acc) := g.hh _ _ hacc
        -- behind the turn: what the next one begins with
        have fin : ∀ {ρ5 : Env} {F5 H5 : Hp} {σ5 : L2.St} {acc' : List V} {ad' : List D}, Rl K (G.lock F2 H2 p) ρ5 F5 σ5 H5 → L2.wipe σ5 vs = L2.wipe σ vs → AtL K F5 acc' ad' → ad'.length ≤ i + 1 →
            lcGo wg wt w vs (fun acc ρ2 => Qd (.list acc) true (backE ρ1 ρ2 vs)) (ds.drop (i + 1)) ad' (wipeE ρ5 vs) → ∀ H6, H6 D0 = some (.lst acc') → (∀ b, b ≠ D0 → H6 b = H5 b) → H6 = upd H5 D0 (.lst acc') → S (i + 1) H6 (wipeE ρ5 vs) F5 acc' ad' := fun {ρ5 F5 H5 σ5 acc' ad'} R5 ew al len5 q H6 e6 o6 u6 => by
          have pNT : ∀ a, p a → ∀ o, H2 a = some o → NT o := fun a q o e => by
            by_cases n : a = D0
            · subst n; rw [hD2] at e; cases e; exact fun ps z => nomatch z
            · exact (pOw a q n).2.2.2 o (((pH2 a q).2.2 n).symm.trans e)
          have pF5 : ∀ a, p a → F5 a = none := fun a q => R5.lockedF q (pH2 a q).1 (pNT a q) (pH2 a q).2.1
          have R5' := (R2.unlock R5).wiped hb
          rw [ew] at R5'
          have o5 : ∀ (j : Nat) (d : D) (a : Addr), (wipeE ρ5 vs)[j]? = some (some (EV.ow d)) → (L2.wipe σ vs)[j]? = some (some (V.ref a)) → ¬ p a := fun j d a q s z => by
            rw [wipeE_get] at q
            by_cases m : j ∈ vs ∧ j < ρ5.length
            · rw [if_pos m] at q; cases q
            · rw [if_neg m] at q
              have nj : j ∉ vs := fun z => m ⟨z, (List.getElem?_eq_some_iff.mp q).1⟩
              rw [← ew, wipe_get, if_neg fun z => nj z.1] at s
              exact R5.lockedO z (pH2 a z).1 (pNT a z) q s
          refine ⟨?_, ((sf.trans g.ff).trans R5.mono), hlt, e6, al, len5, pF5, fun a q n => ?_, o5, ?_, q⟩
          · rw [u6]
            exact R5'.side (R5.locked pD hD2 nbD) (fun ps z => nomatch z) (fun c q z => by unfold LamX.CodeO at z; cases z) (pF5 D0 pD) h0D fun j d q s => o5 j d D0 q s pD
          · rw [o6 a n]
            cases e : H2 a with
            | none => exact absurd e (pH2 a q).1
            | some o => rw [R5.locked q e (pNb a q) ((pOw a q n).2.2.2 o (((pH2 a q).2.2 n).symm.trans e)), ← e]; exact (pH2 a q).2.2 n
          · rw [wipeE_length, ← R5.len]
            have l1 := congrArg List.length ew
            rw [wipe_length, wipe_length] at l1
            rw [l1, ← R1.len]
        have main := hs x (L2.wipe σ vs) H2 _ (sg _ (x0 (G.lock F2 H2 p) xa.1) ρ' F2 (L2.wipe σ vs) H2 RL _ false x _ (fun σ3 H3 => L2.wipe σ3 vs = L2.wipe σ vs → tt σ3 H3 fun b H4 => if b = true then te σ3 H4 fun y H5 => ∃ acc, H5 D0 = some (.lst acc) ∧ acc.length < sizeLine ∧ ∃ ρ' F' acc2 ad, S (i + 1) (upd H5 D0 (.lst (acc ++ [y]))) ρ' F' acc2 ad else ∃ ρ' F' acc ad, S (i + 1) H4 ρ' F' acc ad) (Res.at a) h' fun ρ3 F3 σ3 H3 q R3 s3 ew => ?_)
        · rw [wipe_wipe] at main
          exact hm _ _ _ _ _ (fun σ' H' z => ⟨z.1, z.2 z.1⟩) main
        · refine st _ (x0 (G.lock F2 H2 p) xa.1) ρ3 F3 σ3 H3 R3 _ _ q fun b ρ4 F4 H4 q4 R4 s4 => ?_
          cases b with
          | true =>
            rw [if_pos rfl]
            refine se.run (x0 (G.lock F2 H2 p) xa.1) R4 (Qd := fun d ρ5 => lcGo wg wt w vs (fun acc ρ2 => Qd (.list acc) true (backE ρ1 ρ2 vs)) (ds.drop (i + 1)) (ad ++ [d]) (wipeE ρ5 vs)) (q4.1 rfl) fun d ρ5 v F5 H5 q5 R5 s5 a5 => ?_
            have hD5 : H5 D0 = some (.lst acc) := R5.locked pD hD2 nbD
            refine ⟨acc, hD5, ?_, wipeE ρ5 vs, F5, acc ++ [v], ad ++ [d], fin R5 ew ?_ ?_ q5 _ upd_same (fun b n => upd_ne n) rfl⟩
            · rw [hal.length]
              exact Nat.lt_of_le_of_lt hlen (Nat.lt_of_lt_of_le hlt hlim)
            · exact ((hal.mono g.ff).mono R5.mono).append (.cons a5 .nil)
            · rw [List.length_append]; exact Nat.add_le_add hlen (Nat.le_refl 1)
          | false =>
            rw [if_neg Bool.false_ne_true]
            have hD4 : H4 D0 = some (.lst acc) := R4.locked pD hD2 nbD
            refine ⟨wipeE ρ4 vs, F4, acc, ad, fin R4 ew ((hal.mono g.ff).mono R4.mono) (by omega) (q4.2 rfl) H4 hD4 (fun b n => rfl) ?_⟩
            funext b
            by_cases n : b = D0
            · subst n; rw [upd_same]; exact hD4
            · rw [upd_ne n]
      · have e : ds.drop i = [] := List.drop_eq_nil_iff.mpr (by omega)
        rw [e] at h'
        refine .inl ⟨w2 i H' (sf.trans R'.sub) (by omega), ?_⟩
        refine k _ true _ _ F' H' h' (R1.comeback R' sf hll hb fun j d a hj q s => ?_) (s1.trans sf) ?_
        · have pa : p a := .inr ⟨j, d, hj, q, s⟩
          have n : a ≠ D0 := by
            rintro rfl
            obtain ⟨v, hv, a', rfl, f, o, z⟩ := R1.sl j _ q
            rw [s] at hv; cases hv
            exact o.ne hD
          exact ⟨hpH a pa n, hpF a pa, fun l e q' s' => hpo l e a q' s' pa⟩
        · unfold Res
          rw [if_pos rfl]
          refine ⟨D0, rfl, hpF D0 pD, ⟨acc, hacc, hal, Nat.le_trans hlen (Nat.le_trans hi hlim)⟩, h0D, fun j e q s => ?_⟩
          rw [backE_get hll] at q
          by_cases m : j ∈ vs
          · rw [if_pos m] at q
            obtain ⟨v, hv, a', rfl, f, o, z⟩ := R1.sl j _ q
            rw [s] at hv; cases hv
            exact o.ne hD
          · rw [if_neg m] at q
            refine hpo j e D0 q ?_ pD
            rw [wipe_get, if_neg fun z => m z.1]
            exact s
end

/-! ### calls: promises where no repr is under way -/
open PyProof.Rows (envOfC)
structure FnG (P : Program) (w : World) (K : PySem.W.Frag) (mg : Str → Option Value) (base : Heap) (gr : Bool) (k : Nat) (f : Addr) (fd : FuncData) (ps : List Str) (sp : Sp) : Prop where
  len : ∀ vs H Q E, sp vs H Q E → vs.length = ps.length
  run : ∀ (A : Around) (outer : List PySem.Env) (s : Shared) (H : Hp) (args : Args) (us : List Value) (vs : List V) (Q : VK) (E : XK), Room k A → (gr = true → A.guards = some []) → Env0 P w K mg base A outer s H → BindsTo s fd args (ps.zip us) → Vals vs us → sp vs H Q E →
    codeAny (model P w) A (.call (.ref f) args) (CR (L2N.CX P w) outer P w H s Q E) s
theorem FnG.mono {P : Program} {w : World} {K : PySem.W.Frag} {mg : Str → Option Value} {base : Heap} {gr : Bool} {j k : Nat} {f : Addr} {fd : FuncData} {ps : List Str} {sp : Sp} (F : FnG P w K mg base gr j f fd ps sp) (h : j ≤ k) : FnG P w K mg base gr k f fd ps sp :=
  ⟨F.len, fun A outer s H args us vs Q E hr => F.run A outer s H args us vs Q E (hr.mono h)⟩
section
variable {P : Program} {w : World} {K : PySem.W.Frag} {mg : Str → Option Value} {base : Heap}
/-- a def by its body: as the layer's rule, the guards told -/
theorem fng_of {gr : Bool} {k : Nat} {f : Addr} {name qual : Str} {params : Arguments} {body : List Stmt} {scope : Scope} {dV kV doc pm cdv ct oc : Value} {an od : Option Addr} {osl : Array (Option Value)} {N ps : List Str} {sp : Sp}
    (lk : K.lookup f = some ⟨oc, od, .func (PySem.W.fnOf name qual params body scope dV kV doc pm an cdv ct), osl⟩) (hcd : PySem.W.codeIn K cdv qual = true) (S : FnScope N ps scope) (len : ∀ vs H Q E, sp vs H Q E → vs.length = ps.length)
    (hbody : ∀ (A : Around) (outer : List PySem.Env) (s : Shared) (H : Hp) (vs : List V) (Q : VK) (E : XK), Room k (A.deeper (envOfC qual scope s.heap.objs.size f cdv)) → (gr = true → A.guards = some []) → sp vs H Q E →
      ∃ t, PSs (cxOf (L2N.CX P w) P w K mg base N qual scope f cdv A outer s H E) body t ∧ t { nx := fun _ H' => Q .non H', rt := Q } (L2.start N vs) H) :
    FnG P w K mg base gr (k + 1) f (PySem.W.fnOf name qual params body scope dV kV doc pm an cdv ct) ps sp := by
  constructor
  · exact len
  intro A outer s H args us vs Q E room gd env0 bd rv want
  have vlen := len _ _ _ _ want
  have inK : K.In s.heap := env0.mod.kin.keeps fun b o e => (env0.bs b o e).1
  have unlim : s.heap.NoLimit := env0.mod.nolimit.keeps fun b o e => (env0.bs b o e).1
  have kinds : ∀ y ∈ ps.zip us, scope.names.lookup y.1 = some .local ∨ (scope.names.lookup y.1 = some .cell ∧ ((cellsFrom (s.heap.objs.size + 1) scope.names []).lookup y.1).isSome = true) := by
    intro y hy
    rcases S.par y.1 (List.of_mem_zip (a := y.1) (b := y.2) hy).1 with loc | cel
    · exact .inl loc
    · exact .inr ⟨cel, PySem.W.cellsFrom_some _ _ _ (.inl cel)⟩
  refine codeAny_call_function room.depth (inK _ _ lk) rfl S.co S.gen rfl (PySem.W.codeRec_of inK hcd) (bd _ _ _ _ ?_)
  refine wpAny_newFunctionEnv_cells S.kind kinds ?_
  rintro env rfl s1 inc
  refine ⟨unlim.keeps inc.toInCall.keep, codeAny_func ?_⟩
  obtain ⟨t, der, rd⟩ := hbody A outer s H vs Q E (room.deeper _) gd want
  have I := inv_start (CX := L2N.CX P w) (E := E) (cd := cdv) S room.hd env0 vlen rv inc
  refine wpAny_mono (der.run [] s1 (L2.start N vs) H _ I rd) ?_ fun e s' z => z
  intro fl s' z
  cases fl with
  | ret u =>
    obtain ⟨v, σ2, H2, J, rvu, q⟩ := z
    exact ⟨v, H2, J.os, J.bare, J.base, J.hok, rvu, q⟩
  | next =>
    obtain ⟨σ2, H2, J, q⟩ := z
    exact ⟨V.non, H2, J.os, J.bare, J.base, J.hok, rfl, q⟩
  | brk =>
    obtain ⟨_, _, _, q⟩ := z
    exact q.elim
  | cont =>
    obtain ⟨_, _, _, q⟩ := z
    exact q.elim
end
section
variable {X : Cx} {gr : Bool} {k : Nat} {f : Addr} {fd : FuncData} {ps : List Str} {sp : Sp} {E : XK} {x : Str} {p pos : Pos} {e : Expr} {es : List Expr} {t : TA}
theorem run_fng {pins : List (Addr × Obj)} {σ : L2.St} {H : Hp} {s : Shared} {Q : VK} {us : List Value} {vs : List V} (F : FnG X.prog X.w X.K X.mg X.base gr k f fd ps sp) (hr : Room k X.A) (gd : gr = true → X.A.guards = some []) (hb : Binds X.K fd ps []) (hx : Passes (L2N.CX X.prog X.w) X E)
    (I : Inv X pins σ H s) (r : Vals vs us) (h : sp vs H Q E) : wpAny (model X.prog X.w) X.A (call (.ref f) us) (EP X pins σ Q) X.xe s := by
  have many : (us ++ []).length = ps.length := by rw [List.append_nil, ← r.length]; exact F.len _ _ _ _ h
  have bound := hb s us I.kIn many
  rw [List.append_nil] at bound
  refine wpAny_call (codeAny_mono (F.run X.A X.stack s H ⟨us, []⟩ us vs Q E hr gd I.env0 bound r h) ?_)
  intro r' s' z
  cases r' with
  | error err => exact hx pins σ H s err s' I z
  | ok fl =>
    cases fl with
    | ret u => exact I.after z
    | next => exact z.elim
    | brk => exact z.elim
    | cont => exact z.elim
theorem pe_callG (F : FnG X.prog X.w X.K X.mg X.base gr k f fd ps sp) (hr : Room k X.A) (gd : gr = true → X.A.guards = some []) (hg : Gl X x) (hm : X.mg x = some (.ref f)) (hk : PySem.W.keepIn X.K (.ref f) = true) (hb : Binds X.K fd ps []) (hx : Passes (L2N.CX X.prog X.w) X E)
    (ha : PA X (e :: es) t) (hdb : (x == ("__debug__" : Str)) = false := by decide) (he : starEach (e :: es) X.env = (false, eval e X.env) :: starEach es X.env := by rfl) (hpl : (backTo pos (starEach es X.env)).any (·.1) = false := by rfl) :
    PE X (.Call (.Name x p) (e :: es) [] pos) (fun σ H Q => t σ H fun vs H1 => sp vs H1 Q E) := by
  constructor
  intro pins s σ H Q I h
  refine wpAny_Call_Name_kw (ld_glob I hg hm (PySem.W.callWith_K (h₀ := X.base) I.ok.mod.kin hk ?_ he hpl) hdb)
  refine thn (ha.run pos pins s σ H _ I h) ?_
  rintro us s1 ⟨vs, H1, I1, r, q⟩
  exact ⟨I1.kIn, run_fng F hr gd hb hx I1 r q⟩
theorem pe_callG0 (F : FnG X.prog X.w X.K X.mg X.base gr k f fd ps sp) (hr : Room k X.A) (gd : gr = true → X.A.guards = some []) (hg : Gl X x) (hm : X.mg x = some (.ref f)) (hk : PySem.W.keepIn X.K (.ref f) = true) (hb : Binds X.K fd ps []) (hx : Passes (L2N.CX X.prog X.w) X E)
    (hdb : (x == ("__debug__" : Str)) = false := by decide) : PE X (.Call (.Name x p) [] [] pos) (fun σ H Q => tNil σ H fun vs H1 => sp vs H1 Q E) := by
  constructor
  intro pins s σ H Q I h
  exact wpAny_Call_Name_kw (ld_glob I hg hm (PySem.W.callWith_K0 I.kIn hk (run_fng (us := []) F hr gd hb hx I .nil h)) hdb)
end

/-! ### a promise over data, as one over the heap -/
/-- arguments: fixed data, or lent objects (as: their places) -/
inductive ArgsB (K : PySem.W.Frag) (F H : Hp) : List Bool → List V → List D → List Addr → Prop
  | nil : ArgsB K F H [] [] [] []
  | da {bs : List Bool} {v : V} {vs : List V} {d : D} {ds : List D} {as : List Addr} : At K F v d → ArgsB K F H bs vs ds as → ArgsB K F H (false :: bs) (v :: vs) (d :: ds) as
  | bo {bs : List Bool} {a : Addr} {vs : List V} {d : D} {ds : List D} {as : List Addr} : F a = none → Ow K F H a d → a ∉ as → ArgsB K F H bs vs ds as → ArgsB K F H (true :: bs) (.ref a :: vs) (d :: ds) (a :: as)
/-- what a def leaves as it is: all but the lent objects; the tables grow -/
def Stay (T : List (Addr × Str)) (as : List Addr) (H H' : Hp) : Prop := (∀ a o, H a = some o → NT o → a ∉ as → H' a = some o) ∧ LamX.Tabs T H'
def spOf (K : PySem.W.Frag) (EA : EAT) (bs : List Bool) (C : Con) : Sp := fun vs H Q E => ∃ (F : Hp) (ds : List D) (as : List Addr) (Qd : D → Bool → List D → Prop) (Ed : Exc → Prop), Sub F H ∧ (∀ a ps, F a ≠ some (.tbl ps)) ∧ LamX.Tabs EA.T H ∧ ArgsB K F H bs vs ds as ∧ C ds Qd Ed ∧
  (∀ r f ls v F' H', Qd r f ls → Stay EA.T as H H' → (∀ a ps, F' a ≠ some (.tbl ps)) → Sub F F' → Sub F' H' → (∀ a o, NT o → H a = some o → F' a = F a) → Paired (fun a d => Ow K F' H' a d) as ls → New K H F' H' f r v → Q v H') ∧
  ∀ x, Ed x → ∀ c d H', EA.ea x c d H' → Stay EA.T as H H' → E c d H'
theorem ArgsB.lens {K : PySem.W.Frag} {F H : Hp} : ∀ {bs : List Bool} {vs : List V} {ds : List D} {as : List Addr}, ArgsB K F H bs vs ds as → vs.length = bs.length ∧ ds.length = bs.length
  | _, _, _, _, .nil => ⟨rfl, rfl⟩
  | _, _, _, _, .da _ t => ⟨congrArg (· + 1) t.lens.1, congrArg (· + 1) t.lens.2⟩
  | _, _, _, _, .bo _ _ _ t => ⟨congrArg (· + 1) t.lens.1, congrArg (· + 1) t.lens.2⟩
theorem ArgsB.all {K : PySem.W.Frag} {F H : Hp} : ∀ {vs : List V} {ds : List D}, AtL K F vs ds → ArgsB K F H (ds.map fun _ => false) vs ds []
  | _, _, .nil => .nil
  | _, _, .cons h t => .da h (.all t)
/-- the lent objects by slot -/
def bOf : List Bool → List V → Nat → Option Addr
  | true :: _, .ref a :: _, 0 => some a
  | _ :: bs, _ :: vs, i + 1 => bOf bs vs i
  | _, _, _ => none
section
variable {K : PySem.W.Frag} {F H : Hp}
theorem ArgsB.mem : ∀ {bs : List Bool} {vs : List V} {ds : List D} {as : List Addr} {i : Nat} {a : Addr}, ArgsB K F H bs vs ds as → bOf bs vs i = some a → a ∈ as ∧ F a = none ∧ H a ≠ none ∧ noTab H a ≠ none
  | _, _, _, _, _, _, .nil, e => by simp [bOf] at e
  | _, _, _, _, 0, _, .da _ _, e => by simp [bOf] at e
  | _, _, _, _, i + 1, _, .da (v := v) (bs := bs) (vs := vs) _ t, e => t.mem (i := i) (show bOf bs vs i = _ from by simpa [bOf] using e)
  | _, _, _, _, 0, _, .bo f o _ _, e => by
    simp only [bOf] at e
    cases e
    exact ⟨List.mem_cons_self, f, o.ne, o.nnt⟩
  | _, _, _, _, i + 1, _, .bo (bs := bs) (vs := vs) _ _ _ t, e => by
    obtain ⟨m, f, o⟩ := t.mem (i := i) (show bOf bs vs i = _ from by simpa [bOf] using e)
    exact ⟨List.mem_cons_of_mem _ m, f, o⟩
theorem ArgsB.inj : ∀ {bs : List Bool} {vs : List V} {ds : List D} {as : List Addr} {i j : Nat} {a : Addr}, ArgsB K F H bs vs ds as → bOf bs vs i = some a → bOf bs vs j = some a → i = j
  | _, _, _, _, _, _, _, .nil, e, _ => by simp [bOf] at e
  | _, _, _, _, 0, _, _, .da _ _, e, _ => by simp [bOf] at e
  | _, _, _, _, _ + 1, 0, _, .da _ _, _, e => by simp [bOf] at e
  | _, _, _, _, i + 1, j + 1, _, .da (bs := bs) (vs := vs) _ t, e, e' => congrArg (· + 1) (t.inj (i := i) (j := j) (by simpa [bOf] using e) (by simpa [bOf] using e'))
  | _, _, _, _, 0, 0, _, .bo _ _ _ _, _, _ => rfl
  | _, _, _, _, 0, j + 1, _, .bo (bs := bs) (vs := vs) f o n t, e, e' => by
    simp only [bOf] at e
    cases e
    exact absurd (t.mem (i := j) (by simpa [bOf] using e')).1 n
  | _, _, _, _, i + 1, 0, _, .bo (bs := bs) (vs := vs) f o n t, e, e' => by
    simp only [bOf] at e'
    cases e'
    exact absurd (t.mem (i := i) (by simpa [bOf] using e)).1 n
  | _, _, _, _, i + 1, j + 1, _, .bo (bs := bs) (vs := vs) f o n t, e, e' => congrArg (· + 1) (t.inj (i := i) (j := j) (by simpa [bOf] using e) (by simpa [bOf] using e'))
theorem ArgsB.has : ∀ {bs : List Bool} {vs : List V} {ds : List D} {as : List Addr} {a : Addr}, ArgsB K F H bs vs ds as → a ∈ as → ∃ i, bOf bs vs i = some a
  | _, _, _, _, _, .nil, h => by cases h
  | _, _, _, _, _, .da (bs := bs) (vs := vs) _ t, h => by
    obtain ⟨i, e⟩ := t.has h
    exact ⟨i + 1, by simpa [bOf] using e⟩
  | _, _, _, _, _, .bo (bs := bs) (vs := vs) _ _ _ t, h => by
    rcases List.mem_cons.mp h with rfl | h
    · exact ⟨0, by simp [bOf]⟩
    · obtain ⟨i, e⟩ := t.has h
      exact ⟨i + 1, by simpa [bOf] using e⟩
/-- the frame at the entry -/
theorem ArgsB.slots : ∀ {bs : List Bool} {vs : List V} {ds : List D} {as : List Addr} {m i : Nat} {e : EV}, ArgsB K F H bs vs ds as → (startE bs ds m)[i]? = some (some e) →
    ∃ v, (vs.map some ++ List.replicate m none)[i]? = some (some v) ∧ ((∃ d, e = .sh d ∧ At K F v d) ∨ ∃ d a, e = .bo d ∧ v = .ref a ∧ F a = none ∧ Ow K F H a d ∧ bOf bs vs i = some a)
  | _, _, _, _, m, i, e, .nil, h => by
    simp only [startE, List.getElem?_replicate] at h
    split at h <;> simp at h
  | _, _, _, _, m, 0, e, .da a t, h => by
    simp only [startE, List.headD_cons, Bool.false_eq_true, if_false, List.getElem?_cons_zero, Option.some.injEq] at h
    subst h
    exact ⟨_, by simp, .inl ⟨_, rfl, a⟩⟩
  | _, _, _, _, m, i + 1, e, .da (bs := bs) (vs := vs) a t, h => by
    simp only [startE, List.tail_cons, List.getElem?_cons_succ] at h
    obtain ⟨v, hv, q⟩ := t.slots h
    refine ⟨v, by simpa using hv, ?_⟩
    rcases q with q | ⟨d, a, q1, q2, q3, q4, q5⟩
    · exact .inl q
    · exact .inr ⟨d, a, q1, q2, q3, q4, by simpa [bOf] using q5⟩
  | _, _, _, _, m, 0, e, .bo f o n t, h => by
    simp only [startE, List.headD_cons, if_true, List.getElem?_cons_zero, Option.some.injEq] at h
    subst h
    exact ⟨_, by simp, .inr ⟨_, _, rfl, rfl, f, o, by simp [bOf]⟩⟩
  | _, _, _, _, m, i + 1, e, .bo (bs := bs) (vs := vs) f o n t, h => by
    simp only [startE, List.tail_cons, List.getElem?_cons_succ] at h
    obtain ⟨v, hv, q⟩ := t.slots h
    refine ⟨v, by simpa using hv, ?_⟩
    rcases q with q | ⟨d, a, q1, q2, q3, q4, q5⟩
    · exact .inl q
    · exact .inr ⟨d, a, q1, q2, q3, q4, by simpa [bOf] using q5⟩
theorem ArgsB.lentAt : ∀ {bs : List Bool} {vs : List V} {ds : List D} {as : List Addr} {m i : Nat} {a : Addr}, ArgsB K F H bs vs ds as → bOf bs vs i = some a → ∃ d, (startE bs ds m)[i]? = some (some (EV.bo d))
  | _, _, _, _, _, _, _, .nil, e => by simp [bOf] at e
  | _, _, _, _, _, 0, _, .da _ _, e => by simp [bOf] at e
  | _, _, _, _, m, i + 1, _, .da (bs := bs) (vs := vs) _ t, e => by
    obtain ⟨d, q⟩ := t.lentAt (m := m) (i := i) (by simpa [bOf] using e)
    exact ⟨d, by simpa [startE] using q⟩
  | _, _, _, _, _, 0, _, .bo (d := d) _ _ _ _, _ => ⟨d, by simp [startE]⟩
  | _, _, _, _, m, i + 1, _, .bo (bs := bs) (vs := vs) _ _ _ t, e => by
    obtain ⟨d, q⟩ := t.lentAt (m := m) (i := i) (by simpa [bOf] using e)
    exact ⟨d, by simpa [startE] using q⟩
theorem startE_length : ∀ (bs : List Bool) (ds : List D) (m : Nat), (startE bs ds m).length = ds.length + m
  | _, [], m => by simp [startE]
  | bs, d :: ds, m => by simp [startE, startE_length bs.tail ds m]; omega
/-- what the lent objects hold, in the order of the slots -/
theorem ArgsB.lentIs {F' H' : Hp} : ∀ {bs : List Bool} {vs : List V} {ds : List D} {as : List Addr} {ρ : Env}, ArgsB K F H bs vs ds as → (∀ i d, ρ[i]? = some (some (EV.bo d)) → ∃ a, bOf bs vs i = some a ∧ Ow K F' H' a d) → (∀ (i : Nat) (a : Addr), bOf bs vs i = some a → ∃ d, ρ[i]? = some (some (EV.bo d))) →
    Paired (fun a d => Ow K F' H' a d) as (lent ρ)
  | _, _, _, _, [], .nil, _, _ => .nil
  | _, _, _, _, e :: ρ, .nil, h1, h2 => by
    have e0 : lent (e :: ρ) = lent ρ := by
      unfold lent
      rw [List.filterMap_cons]
      split
      · rfl
      · rename_i b q
        split at q
        · cases q
          obtain ⟨a, z, _⟩ := h1 0 _ rfl
          simp [bOf] at z
        · cases q
    rw [e0]
    exact ArgsB.lentIs (ρ := ρ) (.nil) (fun i d q => by obtain ⟨a, z, _⟩ := h1 (i + 1) d q; simp [bOf] at z) fun i a z => by simp [bOf] at z
  | _, _, _, _, [], .da (bs := bs) (vs := vs) a t, h1, h2 => ArgsB.lentIs (ρ := []) t (fun i d q => by simp at q) fun i a z => by
    obtain ⟨d, q⟩ := h2 (i + 1) a (by simpa [bOf] using z)
    simp at q
  | _, _, _, _, e :: ρ, .da (bs := bs) (vs := vs) a t, h1, h2 => by
    have e0 : lent (e :: ρ) = lent ρ := by
      unfold lent
      rw [List.filterMap_cons]
      split
      · rfl
      · rename_i b q
        split at q
        · cases q
          obtain ⟨a, z, _⟩ := h1 0 _ rfl
          simp [bOf] at z
        · cases q
    rw [e0]
    exact ArgsB.lentIs (ρ := ρ) t (fun i d q => by obtain ⟨a, z, o⟩ := h1 (i + 1) d q; exact ⟨a, by simpa [bOf] using z, o⟩) fun i a z => by
      obtain ⟨d, q⟩ := h2 (i + 1) a (by simpa [bOf] using z)
      exact ⟨d, by simpa using q⟩
  | _, _, _, _, [], .bo (a := a) f o n t, h1, h2 => by
    obtain ⟨d, q⟩ := h2 0 a (by simp [bOf])
    simp at q
  | _, _, _, _, e :: ρ, .bo (bs := bs) (vs := vs) (a := a) f o n t, h1, h2 => by
    obtain ⟨d, q⟩ := h2 0 a (by simp [bOf])
    have q' : e = some (EV.bo d) := by simpa using q
    subst q'
    obtain ⟨a', z, w⟩ := h1 0 d rfl
    simp only [bOf] at z
    cases z
    have e0 : lent (some (EV.bo d) :: ρ) = d :: lent ρ := rfl
    rw [e0]
    refine .cons w (ArgsB.lentIs (ρ := ρ) t (fun i d q => by obtain ⟨a, z, o⟩ := h1 (i + 1) d q; exact ⟨a, by simpa [bOf] using z, o⟩) fun i a z => by
      obtain ⟨d, q⟩ := h2 (i + 1) a (by simpa [bOf] using z)
      exact ⟨d, by simpa using q⟩)
end

section
variable {P : Program} {w : World} {K : PySem.W.Frag} {mg : Str → Option Value} {base : Heap} {EA : EAT}
/-- a def whose code object is known -/
structure FunC (K : PySem.W.Frag) (x qual : Str) (st : Stmt) (f : Addr) (fd : FuncData) (c : Addr) : Prop where
  ex : ∃ (oc : Value) (od : Option Addr) (kV doc pm : Value) (an : Option Addr) (ct : Value) (osl : Array (Option Value)), fd = PySem.W.fnOf x qual (defArgs st) (defBody st) (defScope st) .none kV doc pm an (.ref c) ct ∧
    K.lookup f = some ⟨oc, od, .func fd, osl⟩ ∧ PySem.W.codeIn K (.ref c) qual = true
  kp : PySem.W.keepIn K (.ref f) = true
/-- a def keeps its promise over data, if its body's reading does -/
theorem FnG.core {gr : Bool} {x qual : Str} {st : Stmt} {f : Addr} {fd : FuncData} {N ps : List Str} {k m : Nat} {bs : List Bool} {C : Con} {wb : (Exc → Prop) → WS} {oc : Value} {od : Option Addr} {kV doc pm : Value} {an : Option Addr} {cdv ct : Value} {osl : Array (Option Value)}
    (efd : fd = PySem.W.fnOf x qual (defArgs st) (defBody st) (defScope st) .none kV doc pm an cdv ct) (lk0 : K.lookup f = some ⟨oc, od, .func fd, osl⟩) (hcd : PySem.W.codeIn K cdv qual = true) (S : FnScope N ps (defScope st)) (hN : N.length = bs.length + m) (hps : ps.length = bs.length) (hk : Keeps C bs m wb)
    (hd : ∀ (A : Around) (outer : List PySem.Env) (s : Shared) (H : Hp) (E : XK) (Ed : Exc → Prop), Room k (A.deeper (envOfC qual (defScope st) s.heap.objs.size f cdv)) → (gr = true → A.guards = some []) →
      DSs (cxOf (L2N.CX P w) P w K mg base N qual (defScope st) f cdv A outer s H E) EA Ed E (defBody st) (wb Ed)) : FnG P w K mg base gr (k + 1) f fd ps (spOf K EA bs C) := by
  subst efd
  have lk := lk0
  refine fng_of lk hcd S (fun vs H Q E h => ?_) fun A outer s H vs Q E hr gd h => ?_
  · obtain ⟨F0, ds, as, Qd, Ed, sub, ft0, tb0, args, c, _⟩ := h
    rw [hps]; exact args.lens.1
  obtain ⟨F0, ds, as, Qd, Ed, sub, ft0, tb0, args, c, post, exc⟩ := h
  obtain ⟨hl, hw⟩ := hk ds Qd Ed c
  obtain ⟨ts, der, sim⟩ := (hd A outer s H E Ed hr gd).ex
  refine ⟨ts, der, ?_⟩
  have vlen := args.lens.1
  have est : L2.start N vs = vs.map some ++ List.replicate m none := by
    unfold L2.start
    rw [vlen, hN, Nat.add_sub_cancel_left]
  let G : Gm := ⟨noTab H, F0, bOf bs vs, EA.T, fun a o e ps z => noTab_ft H a ps (z ▸ e)⟩
  have frame : ∀ {H' : Hp}, G.fr H' → Stay EA.T as H H' := fun fr => ⟨fun a o e nt n => fr.1 a o (noTab_nt e nt) fun i z => n (args.mem z).1, fr.2⟩
  have R0 : Rl K G (startE bs ds m) F0 (L2.start N vs) H := by
    refine ⟨?_, sub, Sub.refl _, ⟨fun a o e _ => noTab_sub H a o e, tb0⟩, fun a o e n => n, fun i a e => ⟨(args.mem e).2.2.1, (args.mem e).2.2.2⟩, fun i j a e e' => args.inj e e', fun i a e => args.lentAt e, fun i e q => ?_, fun i j a d e q1 q2 s1 s2 => ?_, ft0⟩
    · rw [startE_length, est, List.length_append, List.length_map, List.length_replicate, vlen, hl]
    · obtain ⟨v, hv, z⟩ := args.slots q
      rw [est]
      refine ⟨v, hv, ?_⟩
      rcases z with ⟨d, rfl, z⟩ | ⟨d, a, rfl, z1, z2, z3, z4⟩
      · exact z
      · exact ⟨a, z1, z2, z3, z4⟩
    · obtain ⟨v, hv, z⟩ := args.slots q1
      rcases z with ⟨d, z, _⟩ | ⟨d, a, z, _⟩ <;> cases z
  have nw : ∀ {ρ : Env} {F' : Hp} {σ : L2.St} {H' : Hp}, Rl K G ρ F' σ H' → ∀ a o, NT o → H a = some o → F' a = F0 a := fun {ρ F' σ H'} R a o nt z => by
    cases e : F0 a with
    | some u => exact R.mono a u e
    | none => exact R.nw a o (noTab_nt z nt) e
  have ls : ∀ {ρ : Env} {F' : Hp} {σ : L2.St} {H' : Hp}, Rl K G ρ F' σ H' → Paired (fun a d => Ow K F' H' a d) as (lent ρ) := fun {ρ F' σ H'} R =>
    args.lentIs (fun i d q => by
      obtain ⟨v, hv, a, _, _, o, b⟩ := R.sl i _ q
      exact ⟨a, b, o⟩) fun i a z => R.bs i a z
  refine sim G ⟨rfl, fun x hx c d H' ha fr => exc x hx c d H' ha (frame fr)⟩ _ F0 _ H R0 _ _ hw ⟨fun ρ F' σ H' q R => ?_, fun d fl ρ v F' σ H' q R r => ?_, fun ρ F' σ H' q R => q.elim, fun ρ F' σ H' q R => q.elim⟩
  · exact post _ false _ .non F' H' q (frame R.fr) R.ft R.mono R.sub (nw R) (ls R) (New.at .non)
  · refine post d fl _ v F' H' q (frame R.fr) R.ft R.mono R.sub (nw R) (ls R) ⟨fun e => ?_, fun e => ?_⟩
    · subst e
      unfold Res at r
      rw [if_neg Bool.false_ne_true] at r
      exact r
    · subst e
      unfold Res at r
      rw [if_pos rfl] at r
      obtain ⟨p, e1, e2, e3, e4, _⟩ := r
      exact ⟨p, e1, e4, e2, e3⟩
theorem FnG.of {gr : Bool} {x qual : Str} {st : Stmt} {f : Addr} {fd : FuncData} {N ps : List Str} {k m : Nat} {bs : List Bool} {C : Con} {wb : (Exc → Prop) → WS} (F : Fun K x qual st f fd) (S : FnScope N ps (defScope st)) (hN : N.length = bs.length + m) (hps : ps.length = bs.length) (hk : Keeps C bs m wb)
    (hd : ∀ (cdv : Value) (A : Around) (outer : List PySem.Env) (s : Shared) (H : Hp) (E : XK) (Ed : Exc → Prop), Room k (A.deeper (envOfC qual (defScope st) s.heap.objs.size f cdv)) → (gr = true → A.guards = some []) →
      DSs (cxOf (L2N.CX P w) P w K mg base N qual (defScope st) f cdv A outer s H E) EA Ed E (defBody st) (wb Ed)) : FnG P w K mg base gr (k + 1) f fd ps (spOf K EA bs C) := by
  obtain ⟨oc, od, kV, doc, pm, an, cdv, ct, osl, efd, lk, hcd⟩ := F.ex
  exact FnG.core efd lk hcd S hN hps hk fun A outer s H E Ed hr gd => hd cdv A outer s H E Ed hr gd
theorem FnG.ofC {gr : Bool} {x qual : Str} {st : Stmt} {f : Addr} {fd : FuncData} {N ps : List Str} {k m : Nat} {bs : List Bool} {C : Con} {wb : (Exc → Prop) → WS} {c : Addr} (F : FunC K x qual st f fd c) (S : FnScope N ps (defScope st)) (hN : N.length = bs.length + m) (hps : ps.length = bs.length) (hk : Keeps C bs m wb)
    (hd : ∀ (A : Around) (outer : List PySem.Env) (s : Shared) (H : Hp) (E : XK) (Ed : Exc → Prop), Room k (A.deeper (envOfC qual (defScope st) s.heap.objs.size f (.ref c))) → (gr = true → A.guards = some []) →
      DSs (cxOf (L2N.CX P w) P w K mg base N qual (defScope st) f (.ref c) A outer s H E) EA Ed E (defBody st) (wb Ed)) : FnG P w K mg base gr (k + 1) f fd ps (spOf K EA bs C) := by
  obtain ⟨oc, od, kV, doc, pm, an, ct, osl, efd, lk, hcd⟩ := F.ex
  exact FnG.core efd lk hcd S hN hps hk hd
end
section
variable {K : PySem.W.Frag} {EA : EAT} {E : Exc → Prop} {EH : XK} {tr : TA} {wr : WA} {C : Con}
theorem sim_call {n : Nat} (hC : ∀ ds Q E, C ds Q E → ds.length = n) (sr : SimA K EA E EH tr wr) : SimE K EA E EH (fun σ H Q => tr σ H fun vs H1 => spOf K EA (List.replicate n false) C vs H1 Q EH) (wCall C E wr) := fun G xa ρ F σ H R Qd Q h k =>
  sr G xa ρ F σ H R _ _ h fun ds ρ1 vs F1 H1 c R1 s1 a1 => by
    have e : List.replicate n false = ds.map fun _ => false := by rw [← hC _ _ _ c, List.map_const']
    rw [e]
    refine ⟨F1, ds, [], _, E, R1.sub, R1.ft, xa.1 ▸ R1.fr.2, ArgsB.all a1, c, fun r f ls v F' H' q hh ft ff fh nw pw nv => ?_, fun x hx c d H' ha fr => xa.2 x hx c d H' ha ?_⟩
    · have g : Gw G.T F1 H1 F' H' := ⟨fun a o nt e => hh.1 a o e nt List.not_mem_nil, ff, fh, nw, fun a ps e => absurd e (ft a ps), fun _ => xa.1 ▸ hh.2⟩
      exact k r f ρ1 v F' H' q (R1.growW g) (s1.trans ff) (nv.resW R1 g)
    · exact ⟨fun a o e n => fr.1 a o (R1.fr.1 a o e n) (G.nt a o e) List.not_mem_nil, xa.1 ▸ fr.2⟩
theorem sim_callB {i n : Nat} (hC : ∀ ds Q E, C ds Q E → ds.length = n + 1) (sr : SimA K EA E EH tr wr) : SimE K EA E EH (fun σ H Q => tCons (tVar i) tr σ H fun vs H1 => spOf K EA (true :: List.replicate n false) C vs H1 Q EH) (wCallB C E i wr) := fun G xa ρ F σ H R Qd Q h k => by
  obtain ⟨h0, h⟩ := h
  obtain ⟨d0, hd0⟩ := Option.isSome_iff_exists.mp h0
  obtain ⟨o, ho, _⟩ := R.pk hd0
  refine ⟨o, ho, sr G xa ρ F σ H R _ _ h fun ds ρ1 vs F1 H1 c R1 s1 a1 => ?_⟩
  -- the same for a slot's own object and for one that was lent to it
  have go : ∀ {e : EV} {d : D} (mk : D → EV), (mk = .ow ∨ mk = .bo) → e = mk d → ρ1[i]? = some (some e) → C (d :: ds) (fun r f bs => ∃ d', bs = [d'] ∧ Qd r f (ρ1.set i (some (mk d')))) E → spOf K EA (true :: List.replicate n false) C (o :: vs) H1 Q EH := fun {e d} mk hmk he hi c => by
    have el : List.replicate n false = ds.map fun _ => false := by
      have := hC _ _ _ c
      rw [List.length_cons] at this
      rw [← Nat.add_right_cancel this, List.map_const']
    rw [el]
    obtain ⟨a, rfl, fa, ow⟩ : ∃ a, o = .ref a ∧ F1 a = none ∧ Ow K F1 H1 a d := by
      obtain ⟨v, hv, s⟩ := R1.sl i _ hi
      rw [ho] at hv; cases hv
      rcases hmk with rfl | rfl
      · subst he; obtain ⟨a, e1, e2, e3, _⟩ := s; exact ⟨a, e1, e2, e3⟩
      · subst he; obtain ⟨a, e1, e2, e3, _⟩ := s; exact ⟨a, e1, e2, e3⟩
    refine ⟨F1, d :: ds, [a], _, E, R1.sub, R1.ft, xa.1 ▸ R1.fr.2, .bo fa ow List.not_mem_nil (ArgsB.all a1), c, fun r f ls v F' H' q hh ft ff fh nw pw nv => ?_, fun x hx c d H' ha fr => xa.2 x hx c d H' ha ⟨fun b o e n => ?_, xa.1 ▸ fr.2⟩⟩
    · obtain ⟨d', rfl, q⟩ := q
      cases pw with
      | cons w _ =>
        obtain ⟨u, hu, un, uc⟩ := w.plainO
        obtain ⟨u1, hu1, un1, uc1⟩ := ow.plainO
        have fa' : F' a = none := by rw [nw a u1 un1 hu1]; exact fa
        let Hm : Hp := fun b => if b = a then H1 b else H' b
        have hm : ∀ {b : Addr}, b ≠ a → Hm b = H' b := fun {b} n => if_neg n
        have hma : Hm a = H1 a := if_pos rfl
        have eM : Hm = upd H' a u1 := by
          funext b
          by_cases n : b = a
          · subst n; rw [upd_same, hma, hu1]
          · rw [upd_ne n, hm n]
        have g : Gw G.T F1 H1 F' Hm := by
          refine ⟨fun b o nt e => ?_, ff, fun b o e => ?_, nw, fun b ps e => absurd e (ft b ps), fun _ => by rw [eM]; exact Tabs_upd hu un uc (xa.1 ▸ hh.2)⟩
          · by_cases n : b = a
            · subst n; rw [hma]; exact e
            · rw [hm n]; exact hh.1 b o e nt (by simp [n])
          · rw [hm (ne_of_none e fa')]; exact fh b o e
        have eH : upd Hm a u = H' := by
          funext b
          by_cases n : b = a
          · subst n; rw [upd_same, hu]
          · rw [upd_ne n, hm n]
        have R2 : Rl K G (ρ1.set i (some (mk d'))) F' σ H' := by
          have := (R1.growW g).turn (e' := mk d') (o := u) hi ho (by
            rcases hmk with rfl | rfl
            · exact .inl ⟨d, d', he, rfl⟩
            · exact .inr ⟨d, d', he, rfl⟩) (by rw [eH]; rcases hmk with rfl | rfl <;> exact w)
          rw [eH] at this
          exact this
        refine k r f _ v F' H' q R2 (s1.trans ff) ?_
        unfold Res
        cases f with
        | false => rw [if_neg Bool.false_ne_true]; exact nv.1 rfl
        | true =>
          rw [if_pos rfl]
          obtain ⟨p, rfl, hn, fn, o'⟩ := nv.2 rfl
          refine ⟨p, rfl, fn, o', R1.h0n hn, fun j e q z => ?_⟩
          by_cases n : j = i
          · subst n
            rw [ho] at z; cases z
            exact ow.nnt hn
          · rw [List.getElem?_set_ne (Ne.symm n)] at q
            obtain ⟨v, hv, a, rfl, _, w', _⟩ := R1.sl j _ q
            rw [hv] at z; cases z
            exact w'.nnt hn
    · refine fr.1 b o (R1.fr.1 b o e n) (G.nt b o e) ?_
      intro z
      have z' : b = a := by simpa using z
      subst z'
      obtain ⟨v, hv, s⟩ := R1.sl i _ hi
      rw [ho] at hv; cases hv
      rcases hmk with rfl | rfl
      · subst he; obtain ⟨a, e1, e2, e3, e4⟩ := s; cases e1; rw [e4] at e; cases e
      · subst he; obtain ⟨a, e1, e2, e3, e4⟩ := s; cases e1; exact n i e4
  split at c
  · rename_i d he
    exact go (d := d) .ow (.inl rfl) rfl he c
  · rename_i d he
    exact go (d := d) .bo (.inr rfl) rfl he c
  · exact c.elim
end

/-! ### operations are what they are -/
section
variable {K : PySem.W.Frag} {F H : Hp}
mutual
theorem At.dp (sub : Sub F H) : ∀ {v : V} {d : D}, At K F v d → d.plain = true → Dp K H v d
  | _, _, .non, _ => .non
  | _, _, .bl b, _ => .bl b
  | _, _, .int i, _ => .int i
  | _, _, .str x, _ => .str x
  | _, _, .scr _ _ _, p => by simp [PyData.plain, scrD] at p
  | _, _, .lst s a _, p => .lst (.inl (.inl (sub _ _ s))) (a.dp sub (by simpa [PyData.plain] using p))
  | _, _, .tup s a _, p => .tup (sub.seqT s) (a.dp sub (by simpa [PyData.plain] using p))
  | _, _, .dK _ _ _, p => by simp [PyData.plain] at p
  | _, _, .dT _ _ _, p => by simp [PyData.plain] at p
theorem AtL.dp (sub : Sub F H) : ∀ {vs : List V} {ds : List D}, AtL K F vs ds → PyData.plainAll ds = true → DpAll K H vs ds
  | _, _, .nil, _ => .nil
  | _, _, .cons a t, p => by
    simp only [PyData.plainAll, Bool.and_eq_true] at p
    exact .cons (a.dp sub p.1) (t.dp sub p.2)
end
theorem Pk.dp {v : V} {d : D} (sub : Sub F H) (p : Pk K F H v d) (h : d.plain = true) : Dp K H v d := by
  cases p with
  | «at» a => exact a.dp sub h
  | ow o f =>
    cases d with
    | list ds =>
      obtain ⟨xs, e, a, l⟩ := o
      exact .lst (.inl (.inl e)) (a.dp sub (by simpa [PyData.plain] using h))
    | dict kvs => simp [PyData.plain] at h
    | none => exact o.elim
    | bool b => exact o.elim
    | int i => exact o.elim
    | str x => exact o.elim
    | tuple xs => exact o.elim
theorem plain_noDict : ∀ (d : D), d.plain = true → d.hasDict = false := by
  intro d
  exact PyData.rec (motive_1 := fun d => d.plain = true → d.hasDict = false) (motive_2 := fun ds => PyData.plainAll ds = true → PyData.hasDictAll ds = false) (motive_3 := fun _ => True) (motive_4 := fun _ => True)
    (fun _ => rfl) (fun _ _ => rfl) (fun _ _ => rfl) (fun _ _ => rfl) (fun xs ih h => by simp only [PyData.plain] at h; simp only [PyData.hasDict]; exact ih h) (fun xs ih h => by simp only [PyData.plain] at h; simp only [PyData.hasDict]; exact ih h) (fun _ _ h => by simp [PyData.plain] at h)
    (fun _ => rfl) (fun x xs i1 i2 h => by simp only [PyData.plainAll, Bool.and_eq_true] at h; simp only [PyData.hasDictAll, i1 h.1, i2 h.2, Bool.or_self]) trivial (fun _ _ _ _ => trivial) (fun _ _ _ _ => trivial) d
theorem simv1_int {r : V → Hp → VK → Prop} {o : O1} (h : ∀ (H : Hp) (i : Int) (Qd : D → Bool → Prop) (Q : VK), o (.int i) Qd → (∀ x z, (∀ F, At K F z x) → Qd x false → Q z H) → r (.int i) H Q) (hn : ∀ d Qd, o d Qd → ∃ i, d = .int i) : SimV1 K r o := fun F H v d Qd Q sub p ho k => by
  obtain ⟨i, rfl⟩ := hn d Qd ho
  rw [p.int]
  exact h H i Qd Q ho fun x z az q => k x false z F H q (Gr.same sub) (New.at (az F))
theorem simv2_int {r : R2} {o : O2} (h : ∀ (H : Hp) (i j : Int) (Qd : D → Bool → Prop) (Q : VK), o (.int i) (.int j) Qd → (∀ x z, (∀ F, At K F z x) → Qd x false → Q z H) → r (.int i) (.int j) H Q) (hn : ∀ d e Qd, o d e Qd → ∃ i j, d = .int i ∧ e = .int j) : SimV2 K r o := fun F H v u d e Qd Q sub p q ho k => by
  obtain ⟨i, j, rfl, rfl⟩ := hn d e Qd ho
  rw [p.int, q.int]
  exact h H i j Qd Q ho fun x z az q => k x false z F H q (Gr.same sub) (New.at (az F))
theorem sv_sub : SimV2 K (rI0 fun i j => .int (i - j)) oSub := simv2_int (fun H i j Qd Q ho k => ⟨i, j, rfl, rfl, k _ _ (fun _ => .int _) ho⟩) fun d e Qd h => by
  unfold oSub at h; split at h <;> first | exact ⟨_, _, rfl, rfl⟩ | exact h.elim
theorem sv_lt : SimV2 K (rI0 fun i j => .bl (decide (i < j))) oLt := simv2_int (fun H i j Qd Q ho k => ⟨i, j, rfl, rfl, k _ _ (fun _ => .bl _) ho⟩) fun d e Qd h => by
  unfold oLt at h; split at h <;> first | exact ⟨_, _, rfl, rfl⟩ | exact h.elim
theorem sv_le : SimV2 K (rI0 fun i j => .bl (decide (i ≤ j))) oLe := simv2_int (fun H i j Qd Q ho k => ⟨i, j, rfl, rfl, k _ _ (fun _ => .bl _) ho⟩) fun d e Qd h => by
  unfold oLe at h; split at h <;> first | exact ⟨_, _, rfl, rfl⟩ | exact h.elim
theorem sv_gt : SimV2 K (rI0 fun i j => .bl (decide (j < i))) oGt := simv2_int (fun H i j Qd Q ho k => ⟨i, j, rfl, rfl, k _ _ (fun _ => .bl _) ho⟩) fun d e Qd h => by
  unfold oGt at h; split at h <;> first | exact ⟨_, _, rfl, rfl⟩ | exact h.elim
theorem sv_ge : SimV2 K (rI0 fun i j => .bl (decide (j ≤ i))) oGe := simv2_int (fun H i j Qd Q ho k => ⟨i, j, rfl, rfl, k _ _ (fun _ => .bl _) ho⟩) fun d e Qd h => by
  unfold oGe at h; split at h <;> first | exact ⟨_, _, rfl, rfl⟩ | exact h.elim
theorem sv_pow : SimV2 K (rI CPow fun i j => .int (i ^ j.toNat)) oPow := simv2_int (fun H i j Qd Q ho k => ⟨i, j, rfl, rfl, ho.1, k _ _ (fun _ => .int _) ho.2⟩) fun d e Qd h => by
  unfold oPow at h; split at h <;> first | exact ⟨_, _, rfl, rfl⟩ | exact h.elim
theorem sv_shl : SimV2 K (rI CPow fun i j => .int (i * 2 ^ j.toNat)) oShl := simv2_int (fun H i j Qd Q ho k => ⟨i, j, rfl, rfl, ho.1, k _ _ (fun _ => .int _) ho.2⟩) fun d e Qd h => by
  unfold oShl at h; split at h <;> first | exact ⟨_, _, rfl, rfl⟩ | exact h.elim
theorem sv_shr : SimV2 K (rI (fun _ j => 0 ≤ j) fun i j => .int (i / 2 ^ j.toNat)) oShr := simv2_int (fun H i j Qd Q ho k => ⟨i, j, rfl, rfl, ho.1, k _ _ (fun _ => .int _) ho.2⟩) fun d e Qd h => by
  unfold oShr at h; split at h <;> first | exact ⟨_, _, rfl, rfl⟩ | exact h.elim
theorem sv_mod : SimV2 K (rI (fun _ j => j ≠ 0) fun i j => .int (i.fmod j)) oMod := simv2_int (fun H i j Qd Q ho k => ⟨i, j, rfl, rfl, ho.1, k _ _ (fun _ => .int _) ho.2⟩) fun d e Qd h => by
  unfold oMod at h; split at h <;> first | exact ⟨_, _, rfl, rfl⟩ | exact h.elim
/-- // of any sign, a divisor below 2 ^ 9000 -/
def CDivX (_ j : Int) : Prop := j ≠ 0 ∧ j.natAbs.log2 < 9000
theorem op_fdivX {X : Cx} : OpR X (binaryOp .FloorDiv) (rI CDivX fun i j => .int (i.fdiv j)) := opI fun i j _ _ _ _ _ hc q => PyProof.Rows.floordiv_int hc.1 q (.inl (PyProof.noPylong_of_log2 hc.2))
theorem sv_fdiv : SimV2 K (rI CDivX fun i j => .int (i.fdiv j)) oFdiv := simv2_int (fun H i j Qd Q ho k => ⟨i, j, rfl, rfl, ⟨ho.1, ho.2.1⟩, k _ _ (fun _ => .int _) ho.2.2⟩) fun d e Qd h => by
  unfold oFdiv at h; split at h <;> first | exact ⟨_, _, rfl, rfl⟩ | exact h.elim
theorem sv_max2 : SimV2 K (fun x y H Q => (fun xs H Q => ∃ i j, xs = [.int i, .int j] ∧ Q (.int (if j > i then j else i)) H) [x, y] H Q) oMax2 := simv2_int (fun H i j Qd Q ho k => ⟨i, j, rfl, k _ _ (fun _ => .int _) ho⟩) fun d e Qd h => by
  unfold oMax2 at h; split at h <;> first | exact ⟨_, _, rfl, rfl⟩ | exact h.elim
theorem sv_min2 : SimV2 K (fun x y H Q => (fun xs H Q => ∃ i j, xs = [.int i, .int j] ∧ Q (.int (if j < i then j else i)) H) [x, y] H Q) oMin2 := simv2_int (fun H i j Qd Q ho k => ⟨i, j, rfl, k _ _ (fun _ => .int _) ho⟩) fun d e Qd h => by
  unfold oMin2 at h; split at h <;> first | exact ⟨_, _, rfl, rfl⟩ | exact h.elim
theorem sv_abs : SimV1 K (fun x H Q => (fun xs H Q => ∃ i, xs = [.int i] ∧ Q (.int (if i < 0 then -i else i)) H) [x] H Q) oAbs := simv1_int (fun H i Qd Q ho k => ⟨i, rfl, k _ _ (fun _ => .int _) ho⟩) fun d Qd h => by
  unfold oAbs at h; split at h <;> first | exact ⟨_, rfl⟩ | exact h.elim
theorem sv_neg : SimV1 K (rU fun i => .int (-i)) oNeg := simv1_int (fun H i Qd Q ho k => ⟨i, rfl, k _ _ (fun _ => .int _) ho⟩) fun d Qd h => by
  unfold oNeg at h; split at h <;> first | exact ⟨_, rfl⟩ | exact h.elim
theorem sv_int : SimV1 K (fun x H Q => (fun xs H Q => (∃ i, xs = [.int i] ∧ Q (.int i) H) ∨ ∃ k, xs = [.bl k] ∧ Q (.int (if k then 1 else 0)) H) [x] H Q) oInt := fun F H v d Qd Q sub p ho k => by
  unfold oInt at ho
  split at ho
  · rw [p.int]; exact .inl ⟨_, rfl, k _ false _ F H ho (Gr.same sub) (New.at (.int _))⟩
  · rw [p.bool]; exact .inr ⟨_, rfl, k _ false _ F H ho (Gr.same sub) (New.at (.int _))⟩
  · exact ho.elim
theorem mulOk.ok {i j : Int} (h : mulOk i j) : CMul i j ∨ CMulW i j := by
  rcases h with h | h | h
  · exact .inl (.inl ⟨by omega, by omega⟩)
  · exact .inl (.inr ⟨by omega, by omega⟩)
  · exact .inr h
def rMulX (K : PySem.W.Frag) : R2 := fun x y H Q => rI CMul (fun i j => .int (i * j)) x y H Q ∨ rI CMulW (fun i j => .int (i * j)) x y H Q ∨ rRep x y H Q ∨ rRepTX K x y H Q
theorem op_mulX {X : Cx} : OpR X (binaryOp .Mult) (rMulX X.K) := OpR.or op_mul (OpR.or op_mulW (OpR.or op_rep op_repTX))
theorem AtL.flat {vs : List V} {ds : List D} (a : AtL K F vs ds) : ∀ n : Nat, AtL K F (List.replicate n vs).flatten (List.replicate n ds).flatten
  | 0 => .nil
  | n + 1 => by
    rw [List.replicate_succ, List.replicate_succ, List.flatten_cons, List.flatten_cons]
    exact a.append (a.flat n)
end

section
variable {K : PySem.W.Frag} {F H : Hp}
/-- a + b of ints, texts, lists, tuples -/
def rAddX (K : PySem.W.Frag) : R2 := fun x y H Q => rI0 (fun i j => .int (i + j)) x y H Q ∨ (∃ i j, x = .str i ∧ y = .str j ∧ i.length + j.length ≤ sizeLine ∧ Q (.str (i ++ j)) H) ∨ rCat x y H Q ∨ rCatA K x y H Q
theorem op_addX {X : Cx} : OpR X (binaryOp .Add) (rAddX X.K) := OpR.or op_add (OpR.or op_add_str (OpR.or op_cat op_catA))
theorem sv_add : SimV2 K (rAddX K) oAdd := fun F H v u d e Qd Q sub p q ho k => by
  unfold oAdd at ho
  split at ho
  · rw [p.int, q.int]
    exact .inl ⟨_, _, rfl, rfl, k _ false _ F H ho (Gr.same sub) (New.at (.int _))⟩
  · rw [p.str, q.str]
    exact .inr (.inl ⟨_, _, rfl, rfl, ho.1, k _ false _ F H ho.2 (Gr.same sub) (New.at (.str _))⟩)
  · obtain ⟨a, xs, rfl, ea, la, _⟩ := p.list sub
    obtain ⟨b, ys, rfl, eb, lb, _⟩ := q.list sub
    refine .inr (.inr (.inl ⟨a, b, xs, ys, rfl, rfl, ea, eb, by rw [la.length, lb.length]; exact ho.1, fun r hr => ?_⟩))
    exact k _ true _ F _ ho.2 (Gr.own sub hr) ⟨(fun z => nomatch z), fun _ => ⟨r, rfl, noTab_none hr, sub_none sub hr, xs ++ ys, upd_same, la.append lb, by rw [List.length_append]; exact ho.1⟩⟩
  · obtain ⟨ap, a, xs, rfl, ea, la, lx⟩ := p.tuple sub
    obtain ⟨aq, b, ys, rfl, eb, lb, ly⟩ := q.tuple sub
    refine .inr (.inr (.inr ⟨a, b, xs, ys, rfl, rfl, ea, eb, by rw [la.length, lb.length]; exact ho.1, fun e => ?_, fun _ e => ?_, fun _ _ r hr => ?_⟩))
    · subst e
      cases la
      exact k _ false _ F H ho.2 (Gr.same sub) (New.at aq)
    · subst e
      cases lb
      refine k _ false _ F H ho.2 (Gr.same sub) (New.at ?_)
      rw [List.append_nil]; exact ap
    · have g := Gr.new (o := .tup (xs ++ ys)) sub hr
      exact k _ false _ _ _ ho.2 g (New.at (.tup (.inl (.inl upd_same)) ((la.append lb).mono g.ff) (by rw [List.length_append]; exact ho.1)))
  · exact ho.elim
theorem sv_mul : SimV2 K (rMulX K) oMul := fun F H v u d e Qd Q sub p q ho k => by
  unfold oMul at ho
  split at ho
  · rw [p.int, q.int]
    rcases ho.1.ok with h | h
    · exact .inl ⟨_, _, rfl, rfl, h, k _ false _ F H ho.2 (Gr.same sub) (New.at (.int _))⟩
    · exact .inr (.inl ⟨_, _, rfl, rfl, h, k _ false _ F H ho.2 (Gr.same sub) (New.at (.int _))⟩)
  · obtain ⟨a, xs, rfl, ea, la, _⟩ := p.list sub
    obtain ⟨h1, h2, h3, h4⟩ := ho
    rw [q.int]
    refine .inr (.inr (.inl ⟨a, _, xs, rfl, rfl, ea, by omega, by omega, by rw [la.length]; exact h3, fun r hr => ?_⟩))
    refine k _ true _ F _ h4 (Gr.own sub hr) ⟨(fun z => nomatch z), fun _ => ⟨r, rfl, noTab_none hr, sub_none sub hr, _, upd_same, la.flat _, ?_⟩⟩
    rw [List.length_flatten, List.map_replicate, List.sum_replicate_nat, Nat.mul_comm]
    exact h3
  · rename_i xs kk
    obtain ⟨at', a, vs, rfl, st, l, z⟩ := p.tuple sub
    obtain ⟨⟨h1, h2, h3⟩, h4⟩ := ho
    rw [q.int]
    have ll := l.length
    refine .inr (.inr (.inr ⟨a, kk, vs, rfl, rfl, st, h1, by rw [ll]; exact h2, h3, ?_⟩))
    by_cases c : (vs.isEmpty || kk == 1) = true
    · refine .inl ⟨c, ?_⟩
      have same : (List.replicate kk.toNat xs).flatten = xs := by
        rcases Bool.or_eq_true_iff.mp c with c | c
        · have : xs = [] := List.eq_nil_of_length_eq_zero (by rw [← ll, List.isEmpty_iff.mp c]; rfl)
          subst this
          exact List.flatten_eq_nil_iff.mpr fun l hl => (List.mem_replicate.mp hl).2
        · have : kk = 1 := by simpa using c
          subst this
          simp
      rw [same] at h4
      exact k _ false _ F H h4 (Gr.same sub) (New.at at')
    · refine .inr ⟨by simpa using c, fun r hr => ?_⟩
      have g := Gr.new (o := .tup (List.replicate kk.toNat vs).flatten) sub hr
      have small : ((List.replicate kk.toNat xs).flatten).length ≤ LIM := by
        rw [List.length_flatten, List.map_replicate, List.sum_replicate_nat]
        show _ ≤ 16777216
        by_cases hk : 0 ≤ kk
        · have e : ((kk.toNat * xs.length : Nat) : Int) = kk * xs.length := by rw [Int.natCast_mul, Int.toNat_of_nonneg hk]
          omega
        · have : kk.toNat = 0 := by omega
          rw [this]; omega
      exact k _ false _ _ _ h4 g (New.at (.tup (.inl (.inl upd_same)) ((l.flat _).mono g.ff) small))
  · exact ho.elim
def rEqP (K : PySem.W.Frag) : R2 := fun x y H Q => ∃ d e, Dp K H x d ∧ Dp K H y e ∧ tame d ∧ tame e ∧ Q (.bl (PyData.eqv d e)) H
def rNeP (K : PySem.W.Frag) : R2 := fun x y H Q => ∃ d e, Dp K H x d ∧ Dp K H y e ∧ tame d ∧ tame e ∧ Q (.bl (!PyData.eqv d e)) H
theorem tame_room {A : Around} {d e : D} (hu : A.units + 64 < cLine) (h : tame d) : A.units + min d.depth e.depth < cLine := by
  have h1 := h.2
  have h2 := Nat.min_le_left d.depth e.depth
  omega
theorem op_eqP {X : Cx} (hu : X.A.units + 64 < cLine) : OpR X (compareOp .Eq) (rEqP X.K) := fun pins s σ H x y v u Q I rx ry h => by
  obtain ⟨d, e, hd, he, sd, se, q⟩ := h
  obtain ⟨as, r1⟩ := Dp.reads I d x v hd rx
  obtain ⟨bs, r2⟩ := Dp.reads I e y u he ry
  exact SeqAt.eq_plain r1 r2 sd.1 se.1 (tame_room hu sd) ⟨.bl _, H, I, rfl, q⟩
theorem op_neP {X : Cx} (hu : X.A.units + 64 < cLine) : OpR X (compareOp .NotEq) (rNeP X.K) := fun pins s σ H x y v u Q I rx ry h => by
  obtain ⟨d, e, hd, he, sd, se, q⟩ := h
  obtain ⟨as, r1⟩ := Dp.reads I d x v hd rx
  obtain ⟨bs, r2⟩ := Dp.reads I e y u he ry
  exact SeqAt.ne_plain r1 r2 sd.1 se.1 (tame_room hu sd) ⟨.bl _, H, I, rfl, q⟩
theorem sv_eq : SimV2 K (rEqP K) oEq := fun F H v u d e Qd Q sub p q ho k => ⟨d, e, p.dp sub ho.1.1, q.dp sub ho.2.1.1, ho.1, ho.2.1, k _ false _ F H ho.2.2 (Gr.same sub) (New.at (.bl _))⟩
theorem sv_ne : SimV2 K (rNeP K) oNe := fun F H v u d e Qd Q sub p q ho k => ⟨d, e, p.dp sub ho.1.1, q.dp sub ho.2.1.1, ho.1, ho.2.1, k _ false _ F H ho.2.2 (Gr.same sub) (New.at (.bl _))⟩
/-- a list, a tuple, a text at a place -/
def rIxX (K : PySem.W.Frag) : R2 := fun x y H Q => rIxL K x y H Q ∨ rIxT K x y H Q ∨ rIxS x y H Q
theorem ix_X {X : Cx} : IxR X (rIxX X.K) := IxR.or ix_list (IxR.or ix_tup ix_str)
theorem atD_of {vs : List V} {ds : List D} {i : Int} {d : D} (a : AtL K F vs ds) (h : atD ds i = some d) : ∃ v, atI vs i = some v ∧ At K F v d := by
  unfold atD at h
  unfold atI
  rw [a.length]
  have e : ixN ds.length i = ixD ds.length i := rfl
  rw [e]
  cases z : ixD ds.length i with
  | none => rw [z] at h; cases h
  | some j =>
    rw [z] at h
    exact a.getD h
theorem sv_ix : SimV2 K (rIxX K) oIx := fun F H v u d e Qd Q sub p q ho k => by
  unfold oIx at ho
  split at ho
  · obtain ⟨a, xs, rfl, ea, la, _⟩ := p.list sub
    obtain ⟨x, hx, h⟩ := ho
    obtain ⟨w, hw, aw⟩ := atD_of la hx
    rw [q.int]
    exact .inl ⟨a, xs, _, w, rfl, rfl, .inl (.inl ea), hw, k _ false _ F H h (Gr.same sub) (New.at aw)⟩
  · obtain ⟨_, a, xs, rfl, ea, la, _⟩ := p.tuple sub
    obtain ⟨x, hx, h⟩ := ho
    obtain ⟨w, hw, aw⟩ := atD_of la hx
    rw [q.int]
    exact .inr (.inl ⟨a, xs, _, w, rfl, rfl, ea, hw, k _ false _ F H h (Gr.same sub) (New.at aw)⟩)
  · obtain ⟨hl, c, hc, h⟩ := ho
    rw [p.str, q.int]
    exact .inr (.inr ⟨_, _, c, rfl, rfl, hl, hc, k _ false _ F H h (Gr.same sub) (New.at (.str _))⟩)
  · exact ho.elim
theorem Pk.scr {v : V} {ds : List D} (sub : Sub F H) (p : Pk K F H v (.dict [(.none, .list ds)])) : ∃ a xs, v = .ref a ∧ SqL K H a xs ∧ AtL K F xs ds ∧ ds.length ≤ LIM := by
  have bad1 : ∀ {kv : List (Key × V)} {ks vs : List D}, ks = kv.map (fun p => keyD p.1) → [((.none : D), PyData.list ds)] = ks.zip vs → False := fun {kv ks vs} e z => by
    subst e
    cases kv with
    | nil => simp at z
    | cons p r =>
      cases vs with
      | nil => simp at z
      | cons w ws =>
        simp only [List.map_cons, List.zip_cons_cons] at z
        injection z with z1 _
        injection z1 with z1 _
        obtain ⟨k, _⟩ := p
        cases k <;> cases z1
  have bad2 : ∀ {kv : List (List Key × V)} {ks vs : List D}, ks = kv.map (fun p => PyData.tuple (p.1.map keyD)) → [((.none : D), PyData.list ds)] = ks.zip vs → False := fun {kv ks vs} e z => by
    subst e
    cases kv with
    | nil => simp at z
    | cons p r =>
      cases vs with
      | nil => simp at z
      | cons w ws =>
        simp only [List.map_cons, List.zip_cons_cons] at z
        injection z with z1 _
        injection z1 with z1 _
        cases z1
  cases p with
  | «at» h =>
    generalize hd : PyData.dict [(PyData.none, PyData.list ds)] = d0 at h
    cases h with
    | scr s al l =>
      unfold scrD at hd
      injection hd with hd
      injection hd with hd _
      injection hd with _ hd
      injection hd with hd
      subst hd
      exact ⟨_, _, rfl, sub.seqL s, al, l⟩
    | dK s e al =>
      injection hd with hd
      exact (bad1 e hd).elim
    | dT s e al =>
      injection hd with hd
      exact (bad2 e hd).elim
    | _ => cases hd
  | ow o f =>
    rcases o with ⟨kv, ks, vs, _, e, _, z⟩ | ⟨kv, ks, vs, _, e, _, z⟩
    · exact (bad1 e z).elim
    · exact (bad2 e z).elim
theorem sv_len : SimV1 K (fun x H Q => (fun xs H Q => ∃ x n, xs = [x] ∧ LenV K x H n ∧ Q (.int n) H) [x] H Q) oLen := fun F H v d Qd Q sub p ho k => by
  unfold oLen at ho
  split at ho
  · obtain ⟨a, xs, rfl, ea, la, _⟩ := p.list sub
    refine ⟨_, _, rfl, .inl ⟨xs, .inl (.inl ea), rfl⟩, ?_⟩
    rw [la.length]
    exact k _ false _ F H ho (Gr.same sub) (New.at (.int _))
  · obtain ⟨a, xs, rfl, ea, la, _⟩ := p.scr sub
    refine ⟨_, _, rfl, .inl ⟨xs, ea, rfl⟩, ?_⟩
    rw [la.length]
    exact k _ false _ F H ho (Gr.same sub) (New.at (.int _))
  · obtain ⟨_, a, xs, rfl, ea, la, _⟩ := p.tuple sub
    refine ⟨_, _, rfl, .inr ⟨xs, ea, rfl⟩, ?_⟩
    rw [la.length]
    exact k _ false _ F H ho (Gr.same sub) (New.at (.int _))
  · rw [p.str]
    exact ⟨_, _, rfl, ⟨ho.1, rfl⟩, k _ false _ F H ho.2 (Gr.same sub) (New.at (.int _))⟩
  · exact ho.elim
/-- str of an int, of a text -/
theorem call_strX {X : Cx} : CallR X (.type "str") (fun xs H Q => (∃ i, xs = [.int i] ∧ i.natAbs.log2 < 1920 ∧ Q (.str (toString i)) H) ∨ ∃ a, xs = [.str a] ∧ Q (.str a) H) := CallR.or call_str_int SkE.call_str_str
theorem sv_str : SimV1 K (fun x H Q => (fun xs H Q => (∃ i, xs = [.int i] ∧ i.natAbs.log2 < 1920 ∧ Q (.str (toString i)) H) ∨ ∃ a, xs = [.str a] ∧ Q (.str a) H) [x] H Q) oStr := fun F H v d Qd Q sub p ho k => by
  unfold oStr at ho
  split at ho
  · rw [p.int]; exact .inl ⟨_, rfl, ho.1, k _ false _ F H ho.2 (Gr.same sub) (New.at (.str _))⟩
  · rw [p.str]; exact .inr ⟨_, rfl, k _ false _ F H ho (Gr.same sub) (New.at (.str _))⟩
  · exact ho.elim
theorem call_reprX {X : Cx} (gd : X.A.guards = some []) (hu : X.A.units + 64 < cLine) : CallR X (.builtin "repr") (fun xs H Q => ∃ a d, xs = [.ref a] ∧ Dp X.K H (.ref a) d ∧ tame d ∧ d.showable = true ∧ d.shown.length ≤ LIM ∧ Q (.str d.shown) H) := fun pins s σ H xs us Q I r h => by
  obtain ⟨a, d, rfl, hd, ht, hs, hl, q⟩ := h
  cases r with
  | cons r1 r2 =>
    cases r2
    cases r1
    obtain ⟨as, rd⟩ := Dp.reads I d _ _ hd rfl
    have h50 := ht.2
    exact repr_of_reads' rd hs (PyData.noDict_hsm (plain_noDict d ht.1)) gd (by omega) (fun _ _ e => e) (fun h' u tk hk => ⟨.str _, H, I.kept hk, ⟨_, rfl⟩, q⟩) hl
theorem sv_repr : SimV1 K (fun x H Q => (fun xs H Q => ∃ a d, xs = [V.ref a] ∧ Dp K H (.ref a) d ∧ tame d ∧ d.showable = true ∧ d.shown.length ≤ LIM ∧ Q (.str d.shown) H) [x] H Q) oRepr := fun F H v d Qd Q sub p ho k => by
  unfold oRepr at ho
  split at ho
  · obtain ⟨⟨h1, h2, h3⟩, h⟩ := ho
    have dp := p.dp sub h1.1
    obtain ⟨a, xs, rfl, ea, la, _⟩ := p.list sub
    exact ⟨a, _, rfl, dp, h1, h2, h3, k _ false _ F H h (Gr.same sub) (New.at (.str _))⟩
  · exact ho.elim
theorem sv_fmt : SimV1 K (fun x H Q => (∃ y : Str, x = .str y ∧ y.length ≤ sizeLine ∧ Q (.str y) H) ∨ ∃ i : Int, x = .int i ∧ i.natAbs.log2 < 1920 ∧ Q (.str (toString i)) H) oFmt := fun F H v d Qd Q sub p ho k => by
  unfold oFmt at ho
  split at ho
  · rw [p.int]; exact .inr ⟨_, rfl, ho.1, k _ false _ F H ho.2 (Gr.same sub) (New.at (.str _))⟩
  · rw [p.str]; exact .inl ⟨_, rfl, ho.1, k _ false _ F H ho.2 (Gr.same sub) (New.at (.str _))⟩
  · exact ho.elim
/-- a slice -/
def rCutX (K : PySem.W.Frag) : V → Option Int → Option Int → Hp → VK → Prop := fun x lo hi H Q => rSlL K x lo hi H Q ∨ rSlA K x lo hi H Q
theorem sl_X {X : Cx} : SlR X (rCutX X.K) := SlR.or sl_list sl_tupA
theorem cutV_at {vs : List V} {ds : List D} (a : AtL K F vs ds) (lo hi : Option Int) : AtL K F (cutV vs lo hi) (cutD ds lo hi) := by
  unfold cutV cutD
  rw [a.length]
  exact (a.drop _).take _
theorem cutD_len (ds : List D) (lo hi : Option Int) : (cutD ds lo hi).length ≤ ds.length := by
  unfold cutD
  rw [List.length_take, List.length_drop]
  omega
theorem cut_whole {ds : List D} {lo hi : Option Int} (e : HT.sIx ds.length 0 lo = 0 ∧ HT.sIx ds.length ds.length hi = ds.length) : cutD ds lo hi = ds := by
  have e1 : cutIx ds.length 0 lo = 0 := e.1
  have e2 : cutIx ds.length ds.length hi = ds.length := e.2
  unfold cutD
  rw [e1, e2]
  simp
theorem sv_cut {lo hi : Option Int} : SimV1 K (fun x H Q => rCutX K x lo hi H Q) (oCut lo hi) := fun F H v d Qd Q sub p ho k => by
  have lst : ∀ {a : Addr} {xs : List V} {ds : List D}, SqL K H a xs → AtL K F xs ds → ds.length ≤ LIM → Qd (.list (cutD ds lo hi)) true → rSlL K (.ref a) lo hi H Q := fun {a xs ds} ea la ll q => by
    refine ⟨a, xs, rfl, ea, fun r hr => ?_⟩
    exact k _ true _ F _ q (Gr.own sub hr) ⟨(fun z => nomatch z), fun _ => ⟨r, rfl, noTab_none hr, sub_none sub hr, _, upd_same, cutV_at la lo hi, Nat.le_trans (cutD_len _ _ _) ll⟩⟩
  unfold oCut at ho
  split at ho
  · obtain ⟨a, xs, rfl, ea, la, ll⟩ := p.list sub
    exact .inl (lst (.inl (.inl ea)) la ll ho)
  · obtain ⟨a, xs, rfl, ea, la, ll⟩ := p.scr sub
    exact .inl (lst ea la ll ho)
  · obtain ⟨ap, a, xs, rfl, ea, la, ll⟩ := p.tuple sub
    refine .inr ⟨a, xs, rfl, ea, fun e => ?_, fun _ r hr => ?_⟩
    · rw [la.length] at e
      rw [cut_whole e] at ho
      exact k _ false _ F H ho (Gr.same sub) (New.at ap)
    · have g := Gr.new (o := .tup (cutV xs lo hi)) sub hr
      exact k _ false _ _ _ ho g (New.at (.tup (.inl (.inl upd_same)) ((cutV_at la lo hi).mono g.ff) (Nat.le_trans (cutD_len _ _ _) ll)))
  · exact ho.elim
end

/-! ### the rules, by syntax -/
section
variable {X : Cx} {EA : EAT} {E : Exc → Prop} {EH : XK} {a b c e : Expr} {w wa wb wc : WE} {wt wu : WT} {pos p apos : Pos}
theorem de_v (i : Nat) {x : Str} (hN : X.N[i]? = some x := by rfl) (hv : Vis X.env.scope x := by first | exact Or.inl rfl | exact Or.inr (Or.inl rfl) | exact Or.inr (Or.inr rfl)) (hd : (x == ("__debug__" : Str)) = false := by decide) (hcd : (x == ("__classdict__" : Str)) = false := by decide) :
    DE X EA E EH (.Name x pos) (wV i) := ⟨_, pe_var hN hv hd hcd, sim_v⟩
theorem de_int {i : Int} {j : Nat} : DE X EA E EH (.Constant (.int i) j pos) (wC (.int i)) := ⟨_, pe_int, sim_c fun _ _ => .int _⟩
theorem de_bool {i : Bool} {j : Nat} : DE X EA E EH (.Constant (.bool i) j pos) (wC (.bool i)) := ⟨_, pe_bl, sim_c fun _ _ => .bl _⟩
theorem de_none {j : Nat} : DE X EA E EH (.Constant .none j pos) (wC .none) := ⟨_, pe_non, sim_c fun _ _ => .non⟩
theorem de_str {x : Str} {j : Nat} : DE X EA E EH (.Constant (.str x) j pos) (wC (.str x)) := ⟨_, pe_str, sim_c fun _ _ => .str _⟩
/-- what a name's own slot holds, looked at where the syntax stands as a name -/
structure DN (X : Cx) (e : Expr) (i : Nat) : Prop where
  ex : PE X e (tVar i)
theorem dn (i : Nat) {x : Str} (hN : X.N[i]? = some x := by rfl) (hv : Vis X.env.scope x := by first | exact Or.inl rfl | exact Or.inr (Or.inl rfl) | exact Or.inr (Or.inr rfl)) (hd : (x == ("__debug__" : Str)) = false := by decide) (hcd : (x == ("__classdict__" : Str)) = false := by decide) :
    DN X (.Name x pos) i := ⟨pe_var hN hv hd hcd⟩
/-! #### operators -/
variable {op : Operator} {r : R2} {o : O2} {i j : Nat}
theorem de_op (ho : OpR X (binaryOp op) r) (so : SimV2 X.K r o) (ha : DE X EA E EH a wa) (hb : DE X EA E EH b wb) : DE X EA E EH (.BinOp a op b pos) (wB o wa wb) := by
  obtain ⟨ta, pa, sa⟩ := ha.ex
  obtain ⟨tb, pb, sb⟩ := hb.ex
  exact ⟨_, pe_op ho pa pb, sim_b sa sb so⟩
theorem de_opL (ho : OpR X (binaryOp op) r) (so : SimV2 X.K r o) (ha : DN X a i) (hb : DE X EA E EH b wb) : DE X EA E EH (.BinOp a op b pos) (wBL o i wb) := by
  obtain ⟨tb, pb, sb⟩ := hb.ex
  exact ⟨_, pe_op ho ha.ex pb, sim_bL sb so⟩
theorem de_opR (ho : OpR X (binaryOp op) r) (so : SimV2 X.K r o) (ha : DE X EA E EH a wa) (hb : DN X b i) : DE X EA E EH (.BinOp a op b pos) (wBR o wa i) := by
  obtain ⟨ta, pa, sa⟩ := ha.ex
  exact ⟨_, pe_op ho pa hb.ex, sim_bR sa so⟩
theorem de_opB (ho : OpR X (binaryOp op) r) (so : SimV2 X.K r o) (ha : DN X a i) (hb : DN X b j) : DE X EA E EH (.BinOp a op b pos) (wBB o i j) := ⟨_, pe_op ho ha.ex hb.ex, sim_bB so⟩
variable {cop cop' : CmpOp} {r' : R2} {o' : O2}
theorem de_cmp (ho : OpR X (compareOp cop) r) (so : SimV2 X.K r o) (ha : DE X EA E EH a wa) (hb : DE X EA E EH b wb) (hm : behindInMarks cop b = false) : DE X EA E EH (.Compare a [cop] [b] pos) (wB o wa wb) := by
  obtain ⟨ta, pa, sa⟩ := ha.ex
  obtain ⟨tb, pb, sb⟩ := hb.ex
  exact ⟨_, pe_cmpR ho pa pb hm, sim_b sa sb so⟩
theorem de_cmpL (ho : OpR X (compareOp cop) r) (so : SimV2 X.K r o) (ha : DN X a i) (hb : DE X EA E EH b wb) (hm : behindInMarks cop b = false) : DE X EA E EH (.Compare a [cop] [b] pos) (wBL o i wb) := by
  obtain ⟨tb, pb, sb⟩ := hb.ex
  exact ⟨_, pe_cmpR ho ha.ex pb hm, sim_bL sb so⟩
theorem de_cmpR (ho : OpR X (compareOp cop) r) (so : SimV2 X.K r o) (ha : DE X EA E EH a wa) (hb : DN X b i) (hm : behindInMarks cop b = false) : DE X EA E EH (.Compare a [cop] [b] pos) (wBR o wa i) := by
  obtain ⟨ta, pa, sa⟩ := ha.ex
  exact ⟨_, pe_cmpR ho pa hb.ex hm, sim_bR sa so⟩
theorem de_cmpB (ho : OpR X (compareOp cop) r) (so : SimV2 X.K r o) (ha : DN X a i) (hb : DN X b j) (hm : behindInMarks cop b = false) : DE X EA E EH (.Compare a [cop] [b] pos) (wBB o i j) := ⟨_, pe_cmpR ho ha.ex hb.ex hm, sim_bB so⟩
theorem dt_cmp (ho : OpR X (compareOp cop) r) (so : SimV2 X.K r o) (ha : DE X EA E EH a wa) (hb : DE X EA E EH b wb) (hm : behindInMarks cop b = false) : DT X EA E EH (.Compare a [cop] [b] pos) (wTv (wB o wa wb)) := by
  obtain ⟨ta, pa, sa⟩ := ha.ex
  obtain ⟨tb, pb, sb⟩ := hb.ex
  exact ⟨_, pt_cmpR ho pa pb hm, sim_tv (sim_b sa sb so)⟩
theorem dt_cmpL (ho : OpR X (compareOp cop) r) (so : SimV2 X.K r o) (ha : DN X a i) (hb : DE X EA E EH b wb) (hm : behindInMarks cop b = false) : DT X EA E EH (.Compare a [cop] [b] pos) (wTv (wBL o i wb)) := by
  obtain ⟨tb, pb, sb⟩ := hb.ex
  exact ⟨_, pt_cmpR ho ha.ex pb hm, sim_tv (sim_bL sb so)⟩
theorem dt_cmpR (ho : OpR X (compareOp cop) r) (so : SimV2 X.K r o) (ha : DE X EA E EH a wa) (hb : DN X b i) (hm : behindInMarks cop b = false) : DT X EA E EH (.Compare a [cop] [b] pos) (wTv (wBR o wa i)) := by
  obtain ⟨ta, pa, sa⟩ := ha.ex
  exact ⟨_, pt_cmpR ho pa hb.ex hm, sim_tv (sim_bR sa so)⟩
theorem dt_cmpB (ho : OpR X (compareOp cop) r) (so : SimV2 X.K r o) (ha : DN X a i) (hb : DN X b j) (hm : behindInMarks cop b = false) : DT X EA E EH (.Compare a [cop] [b] pos) (wTv (wBB o i j)) := ⟨_, pt_cmpR ho ha.ex hb.ex hm, sim_tv (sim_bB so)⟩
theorem de_chain (ho : OpR X (compareOp cop) r) (so : SimV2 X.K r o) (ho' : OpR X (compareOp cop') r') (so' : SimV2 X.K r' o') (ha : DE X EA E EH a wa) (hb : DE X EA E EH b wb) (hc : DE X EA E EH c wc) (hm : lastMarks [cop, cop'] [b, c] = false := by with_unfolding_all rfl) :
    DE X EA E EH (.Compare a [cop, cop'] [b, c] pos) (wChain o o' wa wb wc) := by
  obtain ⟨ta, pa, sa⟩ := ha.ex
  obtain ⟨tb, pb, sb⟩ := hb.ex
  obtain ⟨tc, pc, sc⟩ := hc.ex
  exact ⟨_, pe_chain ho ho' pa pb pc hm, sim_chain sa sb sc so so'⟩
theorem dt_chain (ho : OpR X (compareOp cop) r) (so : SimV2 X.K r o) (ho' : OpR X (compareOp cop') r') (so' : SimV2 X.K r' o') (ha : DE X EA E EH a wa) (hb : DE X EA E EH b wb) (hc : DE X EA E EH c wc) (hm : lastMarks [cop, cop'] [b, c] = false := by with_unfolding_all rfl) :
    DT X EA E EH (.Compare a [cop, cop'] [b, c] pos) (wTv (wChain o o' wa wb wc)) := by
  obtain ⟨ta, pa, sa⟩ := ha.ex
  obtain ⟨tb, pb, sb⟩ := hb.ex
  obtain ⟨tc, pc, sc⟩ := hc.ex
  exact ⟨_, pt_chain ho ho' pa pb pc hm, sim_tv (sim_chain sa sb sc so so')⟩
variable {uop : UnaryOp} {ru : V → Hp → VK → Prop} {ou : O1}
theorem de_un (ho : UnR X (unaryOp uop) ru) (so : SimV1 X.K ru ou) (ha : DE X EA E EH a wa) : DE X EA E EH (.UnaryOp uop a pos) (wO ou wa) := by
  obtain ⟨ta, pa, sa⟩ := ha.ex
  exact ⟨_, pe_un ho pa, sim_o (ta := ta) (r := ru) sa so⟩
theorem de_ix (ha : DE X EA E EH a wa) (hb : DE X EA E EH b wb) (hs : PlainIx b := by exact fun _ _ => rfl) : DE X EA E EH (.Subscript a b pos) (wB oIx wa wb) := by
  obtain ⟨ta, pa, sa⟩ := ha.ex
  obtain ⟨tb, pb, sb⟩ := hb.ex
  exact ⟨_, pe_ix ix_X pa pb hs, sim_b sa sb sv_ix⟩
theorem de_ixN (ha : DN X a i) (hb : DE X EA E EH b wb) (hs : PlainIx b := by exact fun _ _ => rfl) : DE X EA E EH (.Subscript a b pos) (wBL oIx i wb) := by
  obtain ⟨tb, pb, sb⟩ := hb.ex
  exact ⟨_, pe_ix ix_X ha.ex pb hs, sim_bL sb sv_ix⟩
/-! #### argument lists, displays, built-ins -/
variable {es : List Expr} {wr : WA}
theorem da_nil : DA X EA E EH [] wNil := ⟨_, pa_nil, sim_nil⟩
theorem da_cons (ha : DE X EA E EH e w) (hr : DA X EA E EH es wr) (hs : starEach (e :: es) X.env = (false, eval e X.env) :: starEach es X.env := by rfl) : DA X EA E EH (e :: es) (wCons w wr) := by
  obtain ⟨ta, pa, sa⟩ := ha.ex
  obtain ⟨tr, pr, sr⟩ := hr.ex
  exact ⟨_, pa_cons pa pr hs, sim_cons sa sr⟩
theorem de_tup {k : Nat} (h : DA X EA E EH es wr) : DE X EA E EH (.Tuple es k pos) (wTup wr) := by
  obtain ⟨tr, pr, sr⟩ := h.ex
  exact ⟨_, pe_tup pr, sim_tup sr⟩
theorem de_lst (h : DA X EA E EH es wr) : DE X EA E EH (.List es pos) (wLst wr) := by
  obtain ⟨tr, pr, sr⟩ := h.ex
  exact ⟨_, pe_lst pr, sim_lst sr⟩
variable {x : Str} {id T : String} {rc : List V → Hp → VK → Prop} {oa : OA}
/-- f(a), f a built-in, by its one value -/
theorem de_b1 (hc : CallR X (.builtin id) rc) (so : SimV1 X.K (fun x H Q => rc [x] H Q) ou) (hg : Gl X x) (hm : X.mg x = none) (hv : bootBuiltins x = some (.builtin id)) (ha : DE X EA E EH a wa) (hn : x ≠ "__name__" := by decide) (hdb : (x == ("__debug__" : Str)) = false := by decide)
    (he : starEach [a] X.env = (false, eval a X.env) :: starEach [] X.env := by rfl) : DE X EA E EH (.Call (.Name x p) [a] [] pos) (wO ou wa) := by
  obtain ⟨ta, pa, sa⟩ := ha.ex
  exact ⟨_, pe_callB hc hg hm hv (pa_cons pa pa_nil he) hn hdb he rfl, sim_o (ta := ta) (r := fun x H Q => rc [x] H Q) sa so⟩
theorem de_b1N (hc : CallR X (.builtin id) rc) (so : SimV1 X.K (fun x H Q => rc [x] H Q) ou) (hg : Gl X x) (hm : X.mg x = none) (hv : bootBuiltins x = some (.builtin id)) (ha : DN X a i) (hn : x ≠ "__name__" := by decide) (hdb : (x == ("__debug__" : Str)) = false := by decide)
    (he : starEach [a] X.env = (false, eval a X.env) :: starEach [] X.env := by rfl) : DE X EA E EH (.Call (.Name x p) [a] [] pos) (wOP ou i) :=
  ⟨_, pe_callB hc hg hm hv (pa_cons ha.ex pa_nil he) hn hdb he rfl, sim_oP so⟩
theorem de_t1 (hc : CallR X (.type T) rc) (so : SimV1 X.K (fun x H Q => rc [x] H Q) ou) (hg : Gl X x) (hm : X.mg x = none) (hv : bootBuiltins x = some (.type T)) (ha : DE X EA E EH a wa) (hn : x ≠ "__name__" := by decide) (hdb : (x == ("__debug__" : Str)) = false := by decide)
    (he : starEach [a] X.env = (false, eval a X.env) :: starEach [] X.env := by rfl) : DE X EA E EH (.Call (.Name x p) [a] [] pos) (wO ou wa) := by
  obtain ⟨ta, pa, sa⟩ := ha.ex
  exact ⟨_, pe_callTy hc hg hm hv (pa_cons pa pa_nil he) hn hdb he rfl, sim_o (ta := ta) (r := fun x H Q => rc [x] H Q) sa so⟩
theorem de_t1N (hc : CallR X (.type T) rc) (so : SimV1 X.K (fun x H Q => rc [x] H Q) ou) (hg : Gl X x) (hm : X.mg x = none) (hv : bootBuiltins x = some (.type T)) (ha : DN X a i) (hn : x ≠ "__name__" := by decide) (hdb : (x == ("__debug__" : Str)) = false := by decide)
    (he : starEach [a] X.env = (false, eval a X.env) :: starEach [] X.env := by rfl) : DE X EA E EH (.Call (.Name x p) [a] [] pos) (wOP ou i) :=
  ⟨_, pe_callTy hc hg hm hv (pa_cons ha.ex pa_nil he) hn hdb he rfl, sim_oP so⟩
theorem de_b2 (hc : CallR X (.builtin id) rc) (so : SimV2 X.K (fun x y H Q => rc [x, y] H Q) o) (hg : Gl X x) (hm : X.mg x = none) (hv : bootBuiltins x = some (.builtin id)) (ha : DE X EA E EH a wa) (hb : DE X EA E EH b wb) (hn : x ≠ "__name__" := by decide) (hdb : (x == ("__debug__" : Str)) = false := by decide)
    (he : starEach [a, b] X.env = (false, eval a X.env) :: starEach [b] X.env := by rfl) (he2 : starEach [b] X.env = (false, eval b X.env) :: starEach [] X.env := by rfl) (hpl : (backTo pos (starEach [b] X.env)).any (·.1) = false := by rfl) : DE X EA E EH (.Call (.Name x p) [a, b] [] pos) (wB o wa wb) := by
  obtain ⟨ta, pa, sa⟩ := ha.ex
  obtain ⟨tb, pb, sb⟩ := hb.ex
  exact ⟨_, pe_callB hc hg hm hv (pa_cons pa (pa_cons pb pa_nil he2) he) hn hdb he hpl, sim_b sa sb so⟩
/-! #### calls of defs -/
variable {gr : Bool} {k n : Nat} {f : Addr} {fd : FuncData} {ps : List Str} {C : Con}
theorem de_call (hC : ∀ ds Q E, C ds Q E → ds.length = n) (F : FnG X.prog X.w X.K X.mg X.base gr k f fd ps (spOf X.K EA (List.replicate n false) C)) (hr : Room k X.A) (gd : gr = true → X.A.guards = some []) (hg : Gl X x) (hm : X.mg x = some (.ref f)) (hk : PySem.W.keepIn X.K (.ref f) = true) (hb : Binds X.K fd ps []) (hx : Passes (L2N.CX X.prog X.w) X EH)
    (ha : DA X EA E EH (e :: es) wr) (hdb : (x == ("__debug__" : Str)) = false := by decide) (he : starEach (e :: es) X.env = (false, eval e X.env) :: starEach es X.env := by rfl) (hpl : (backTo pos (starEach es X.env)).any (·.1) = false := by rfl) :
    DE X EA E EH (.Call (.Name x p) (e :: es) [] pos) (wCall C E wr) := by
  obtain ⟨tr, pr, sr⟩ := ha.ex
  exact ⟨_, pe_callG F hr gd hg hm hk hb hx pr hdb he hpl, sim_call hC sr⟩
theorem de_callB (hC : ∀ ds Q E, C ds Q E → ds.length = n + 1) (F : FnG X.prog X.w X.K X.mg X.base gr k f fd ps (spOf X.K EA (true :: List.replicate n false) C)) (hr : Room k X.A) (gd : gr = true → X.A.guards = some []) (hg : Gl X x) (hm : X.mg x = some (.ref f)) (hk : PySem.W.keepIn X.K (.ref f) = true) (hb : Binds X.K fd ps []) (hx : Passes (L2N.CX X.prog X.w) X EH)
    (ha : DN X e i) (hr' : DA X EA E EH es wr) (hdb : (x == ("__debug__" : Str)) = false := by decide) (he : starEach (e :: es) X.env = (false, eval e X.env) :: starEach es X.env := by rfl) (hpl : (backTo pos (starEach es X.env)).any (·.1) = false := by rfl) :
    DE X EA E EH (.Call (.Name x p) (e :: es) [] pos) (wCallB C E i wr) := by
  obtain ⟨tr, pr, sr⟩ := hr'.ex
  exact ⟨_, pe_callG F hr gd hg hm hk hb hx (pa_cons ha.ex pr he) hdb he hpl, sim_callB hC sr⟩
/-! #### and, or, not, if -/
theorem dt_v (h : DE X EA E EH e w) (he : ∀ whole, isTrue e X.env whole = (do let v ← whole; standAt e.pos; holding [v] (truthy v)) := by intro _; rfl) : DT X EA E EH e (wTv w) := by
  obtain ⟨te, pe, se⟩ := h.ex
  exact ⟨_, pt_val pe he, sim_tv se⟩
theorem dt_w (h : DW X EA E EH e wt) : DT X EA E EH e wt := by
  obtain ⟨tt, pt, st⟩ := h.ex
  exact ⟨_, pt.pt, st⟩
theorem dw_and1 (h : DT X EA E EH a wt) : DW X EA E EH (.BoolOp .And [a] pos) wt := by
  obtain ⟨tt, pt, st⟩ := h.ex
  exact ⟨_, pw_and1 pt, st⟩
theorem dw_and {rest : List Expr} (h : DT X EA E EH a wt) (hr : DW X EA E EH (.BoolOp .And (b :: rest) pos) wu) : DW X EA E EH (.BoolOp .And (a :: b :: rest) pos) (wAnd wt wu) := by
  obtain ⟨tt, pt, st⟩ := h.ex
  obtain ⟨tu, pu, su⟩ := hr.ex
  exact ⟨_, pw_and pt pu, sim_and st su⟩
theorem dw_or1 (h : DT X EA E EH a wt) : DW X EA E EH (.BoolOp .Or [a] pos) wt := by
  obtain ⟨tt, pt, st⟩ := h.ex
  exact ⟨_, pw_or1 pt, st⟩
theorem dw_or {rest : List Expr} (h : DT X EA E EH a wt) (hr : DW X EA E EH (.BoolOp .Or (b :: rest) pos) wu) : DW X EA E EH (.BoolOp .Or (a :: b :: rest) pos) (wOr wt wu) := by
  obtain ⟨tt, pt, st⟩ := h.ex
  obtain ⟨tu, pu, su⟩ := hr.ex
  exact ⟨_, pw_or pt pu, sim_or st su⟩
theorem dt_not (h : DT X EA E EH a wt) : DT X EA E EH (.UnaryOp .Not a pos) (wNot wt) := by
  obtain ⟨tt, pt, st⟩ := h.ex
  exact ⟨_, pt_not pt, sim_not st⟩
theorem de_one {bop : BoolOp} (h : DE X EA E EH a wa) : DE X EA E EH (.BoolOp bop [a] pos) wa := by
  obtain ⟨ta, pa, sa⟩ := h.ex
  exact ⟨_, pe_one pa, sa⟩
theorem de_and {rest : List Expr} (ha : DE X EA E EH a wa) (hb : DE X EA E EH (.BoolOp .And (b :: rest) pos) wb) : DE X EA E EH (.BoolOp .And (a :: b :: rest) pos) (wAndV wa wb) := by
  obtain ⟨ta, pa, sa⟩ := ha.ex
  obtain ⟨tb, pb, sb⟩ := hb.ex
  exact ⟨_, pe_and pa pb, sim_andV sa sb⟩
theorem de_or {rest : List Expr} (ha : DE X EA E EH a wa) (hb : DE X EA E EH (.BoolOp .Or (b :: rest) pos) wb) : DE X EA E EH (.BoolOp .Or (a :: b :: rest) pos) (wOrV wa wb) := by
  obtain ⟨ta, pa, sa⟩ := ha.ex
  obtain ⟨tb, pb, sb⟩ := hb.ex
  exact ⟨_, pe_or pa pb, sim_orV sa sb⟩
theorem de_not (ha : DE X EA E EH a wa) : DE X EA E EH (.UnaryOp .Not a pos) (wNotV wa) := by
  obtain ⟨ta, pa, sa⟩ := ha.ex
  exact ⟨_, pe_not pa, sim_notV sa⟩
theorem de_if (hc : DT X EA E EH c wt) (ha : DE X EA E EH a wa) (hb : DE X EA E EH b wb) : DE X EA E EH (.IfExp c a b pos) (wIf wt wa wb) := by
  obtain ⟨tt, pt, st⟩ := hc.ex
  obtain ⟨ta, pa, sa⟩ := ha.ex
  obtain ⟨tb, pb, sb⟩ := hb.ex
  exact ⟨_, pe_ifExp pt pa pb, sim_if st sa sb⟩
/-! #### slices, f-strings -/
def SimP (K : PySem.W.Frag) (EA : EAT) (E : Exc → Prop) (EH : XK) (tp : TO) (w : WP) : Prop := ∀ (G : Gm), XA EA E EH G → ∀ (ρ : Env) (F : Hp) (σ : L2.St) (H : Hp), Rl K G ρ F σ H → ∀ (Qd : Option Int → Env → Prop) (Q : Option Int → Hp → Prop), w ρ Qd →
  (∀ i ρ' F' H', Qd i ρ' → Rl K G ρ' F' σ H' → Sub F F' → Q i H') → tp σ H Q
structure DP (X : Cx) (EA : EAT) (E : Exc → Prop) (EH : XK) (e : Option Expr) (w : WP) : Prop where
  ex : ∃ t, PO X e t ∧ SimP X.K EA E EH t w
theorem dp_none : DP X EA E EH none pN := ⟨_, po_none, fun G xa ρ F σ H R Qd Q h k => k none ρ F H h R (Sub.refl _)⟩
theorem dp_some (h : DE X EA E EH e w) : DP X EA E EH (some e) (pS w) := by
  obtain ⟨te, pe, se⟩ := h.ex
  refine ⟨_, po_some pe, fun G xa ρ F σ H R Qd Q h k => se.run xa R (Qd := fun d ρ1 => ∃ i, d = .int i ∧ Qd (some i) ρ1) h fun d ρ1 v F1 H1 h1 R1 s1 a1 => ?_⟩
  obtain ⟨i, rfl, q⟩ := h1
  cases a1
  exact ⟨i, rfl, k _ ρ1 F1 H1 q R1 s1⟩
theorem de_slice {lo hi : Option Expr} {wl wh : WP} {p2 : Pos} (ha : DE X EA E EH a wa) (hl : DP X EA E EH lo wl) (hh : DP X EA E EH hi wh) : DE X EA E EH (.Subscript a (.Slice lo hi none p2) pos) (wSl wa wl wh) := by
  obtain ⟨ta, pa, sa⟩ := ha.ex
  obtain ⟨tl, pl, sl⟩ := hl.ex
  obtain ⟨th, ph, sh⟩ := hh.ex
  refine ⟨_, pe_slice sl_X pa pl ph, fun G xa ρ F σ H R Qd Q h k => ?_⟩
  refine sa.run xa R (Qd := fun d ρ1 => wl ρ1 fun l ρ2 => wh ρ2 fun h ρ3 => oCut l h d fun r f => Qd r f ρ3) h fun d ρ1 v F1 H1 h1 R1 s1 a1 => ?_
  refine sl G xa ρ1 F1 σ H1 R1 _ _ h1 fun l ρ2 F2 H2 h2 R2 s2 => ?_
  refine sh G xa ρ2 F2 σ H2 R2 _ _ h2 fun u ρ3 F3 H3 h3 R3 s3 => ?_
  exact sv_cut F3 H3 v d _ Q R3.sub (.at ((a1.mono s2).mono s3)) h3 fun x f z F4 H4 q g n => k x f ρ3 z F4 H4 q (R3.grow g) (((s1.trans s2).trans s3).trans g.ff) (n.res R3 g)
/-- the parts of an f-string -/
structure DJ (X : Cx) (EA : EAT) (E : Exc → Prop) (EH : XK) (es : List Expr) (ws : List WE) : Prop where
  ex : ∃ ts, PJ X es ts ∧ ∀ (G : Gm), XA EA E EH G → ∀ (ρ : Env) (F : Hp) (σ : L2.St) (H : Hp), Rl X.K G ρ F σ H → ∀ (acc : Str) (Qd : Str → Env → Prop) (Q : Str → Hp → Prop), fsGo ws acc ρ Qd →
    (∀ z ρ' F' H', Qd z ρ' → Rl X.K G ρ' F' σ H' → Sub F F' → Q z H') → tJs ts acc σ H Q
theorem dj_nil : DJ X EA E EH [] [] := ⟨[], .nil, fun G xa ρ F σ H R acc Qd Q h k => k acc ρ F H h R (Sub.refl _)⟩
theorem dj_cons {ws : List WE} (h : DE X EA E EH e w) (hr : DJ X EA E EH es ws) : DJ X EA E EH (e :: es) (w :: ws) := by
  obtain ⟨te, pe, se⟩ := h.ex
  obtain ⟨ts, pj, sj⟩ := hr.ex
  refine ⟨te :: ts, .cons pe pj, fun G xa ρ F σ H R acc Qd Q h k => ?_⟩
  refine se.run xa R (Qd := fun d ρ1 => ∃ y : Str, d = .str y ∧ (acc ++ y).length ≤ LIM ∧ fsGo ws (acc ++ y) ρ1 Qd) h fun d ρ1 v F1 H1 h1 R1 s1 a1 => ?_
  obtain ⟨y, rfl, hl, q⟩ := h1
  cases a1
  exact ⟨y, rfl, hl, sj G xa ρ1 F1 σ H1 R1 (acc ++ y) Qd Q q fun z ρ2 F2 H2 q R2 s2 => k z ρ2 F2 H2 q R2 (s1.trans s2)⟩
theorem de_fs {v1 v2 : Expr} {rest : List Expr} {ws : List WE} (h : DJ X EA E EH (v1 :: v2 :: rest) ws) : DE X EA E EH (.JoinedStr (v1 :: v2 :: rest) pos) (wFs ws) := by
  obtain ⟨ts, pj, sj⟩ := h.ex
  exact ⟨_, pe_joined pj, fun G xa ρ F σ H R Qd Q h k => sj G xa ρ F σ H R Str.empty _ _ h fun z ρ1 F1 H1 q R1 s1 => k _ false ρ1 _ F1 H1 q R1 s1 (Res.at (.str _))⟩
theorem de_fs1 (h : DE X EA E EH e w) : DE X EA E EH (.JoinedStr [e] pos) w := by
  obtain ⟨te, pe, se⟩ := h.ex
  exact ⟨_, pe_joined1 pe, se⟩
theorem de_fmt (h : DE X EA E EH e w) : DE X EA E EH (.FormattedValue e (-1) none pos) (wO oFmt w) := by
  obtain ⟨te, pe, se⟩ := h.ex
  exact ⟨_, pe_fmt pe, sim_o (ta := te) (r := fun x H Q => (∃ y : Str, x = .str y ∧ y.length ≤ sizeLine ∧ Q (.str y) H) ∨ ∃ i : Int, x = .int i ∧ i.natAbs.log2 < 1920 ∧ Q (.str (toString i)) H) se sv_fmt⟩
/-! #### what is walked -/
variable {tg : Expr}
theorem di_seq (h : DE X EA E EH e w) : DI X EA E EH tg e (itS w) := by
  obtain ⟨te, pe, se⟩ := h.ex
  refine ⟨_, ⟨fun pins s σ H R I h => ?_⟩, sim_itS se⟩
  refine thn (pe.run pins s σ H _ I h) fun v s1 ⟨x, H1, I1, r1, q1⟩ => ?_
  obtain ⟨a, rfl, q1⟩ := q1
  -- one of the layer's two walks, over the value that has come
  have lst : (∃ xs, SqL X.K H1 a xs) ∧ R (Itl X.K a) H1 → wpAny (model X.prog X.w) X.A (pyIter v) (PIE X pins σ tg R) X.xe s1 := fun q => by
    obtain ⟨⟨xs, hq⟩, q⟩ := q
    cases r1
    obtain ⟨its, rv, pl, hz⟩ := I1.list hq
    refine wpAny_pyIter_list pl.isList ?_
    refine ⟨s1.heap.objs.size, [s1.heap.objs.size], _, _, H1, rfl, I1.kept (t' := s1.toks) fun b o z => Heap.get?_push_of_some _ z, turn_list a _, ⟨_, Heap.get?_push_size _ rfl, rfl, rfl⟩, fun b hb => ?_, q⟩
    rw [List.mem_singleton.mp hb]
    exact I1.fpOk (Nat.le_refl _) (I1.hok.fresh (Nat.le_refl _))
  have tup : (∃ xs, SqT X.K H1 a xs) ∧ R (Itt X.K a) H1 → wpAny (model X.prog X.w) X.A (pyIter v) (PIE X pins σ tg R) X.xe s1 := fun q => by
    obtain ⟨⟨xs, hq⟩, q⟩ := q
    cases r1
    obtain ⟨its, rv, pl, hz⟩ := I1.tuple hq
    refine wpAny_pyIter_tuple (show s1.heap.IsTuple a its.toArray from pl) ?_
    refine ⟨s1.heap.objs.size, [s1.heap.objs.size], _, _, H1, rfl, I1.kept (t' := s1.toks) fun b o z => Heap.get?_push_of_some _ z, turn_tuple a _, ⟨_, Heap.get?_push_size _ rfl, rfl, rfl⟩, fun b hb => ?_, q⟩
    rw [List.mem_singleton.mp hb]
    exact I1.fpOk (Nat.le_refl _) (I1.hok.fresh (Nat.le_refl _))
  exact q1.elim lst tup
theorem di_r1 (hg : Gl X "range") (hm : X.mg "range" = none) (h : DE X EA E EH a wa) (hs : starEach [a] X.env = [(false, eval a X.env)] := by rfl) : DI X EA E EH tg (.Call (.Name "range" p) [a] [] pos) (itR1 wa) := by
  obtain ⟨ta, pa, sa⟩ := h.ex
  exact ⟨_, pi_range1 hg hm (pa_cons pa pa_nil hs) hs, sim_itR1 sa⟩
theorem di_r2 (hg : Gl X "range") (hm : X.mg "range" = none) (ha : DE X EA E EH a wa) (hb : DE X EA E EH b wb) (hs : starEach [a, b] X.env = [(false, eval a X.env), (false, eval b X.env)] := by rfl) (hs2 : starEach [b] X.env = [(false, eval b X.env)] := by rfl) :
    DI X EA E EH tg (.Call (.Name "range" p) [a, b] [] pos) (itR2 wa wb) := by
  obtain ⟨ta, pa, sa⟩ := ha.ex
  obtain ⟨tb, pb, sb⟩ := hb.ex
  exact ⟨_, pi_range2 hg hm (pa_cons pa (pa_cons pb pa_nil hs2) (by rw [hs, hs2])) hs hs2, sim_itR2 sa sb⟩
end

section
variable {X : Cx} {EA : EAT} {E : Exc → Prop} {EH : XK} {a b c e : Expr} {w wa wb wc : WE} {wt wu : WT} {ws wz : WS} {wg : WG} {wgs : WGs} {pos p apos : Pos} {st : Stmt} {sts body : List Stmt} {tg : Expr} {i j : Nat}
/-! #### targets -/
theorem dg_name (i : Nat) {x : Str} (hN : X.N.Nodup) (hi : X.N[i]? = some x := by rfl) (hx : Loc X.env.scope x := by first | exact Or.inl rfl | exact Or.inr rfl) (hf : X.fn x = true ∨ X.env.scope.names.lookup x = some .local := by first | exact .inl rfl | exact .inr rfl) : DG X EA E EH (.Name x pos) (gN i) :=
  ⟨_, pg_name hN hi hx hf, sim_gN⟩
theorem dgs_nil : DGs X EA E EH [] gNil := ⟨_, pgs_nil, sim_gNil⟩
theorem dgs_cons {es : List Expr} (h : DG X EA E EH e wg) (hr : DGs X EA E EH es wgs) (hs : (assignEach (e :: es) X.env).map (·.2) = assign e X.env :: (assignEach es X.env).map (·.2) := by rfl) : DGs X EA E EH (e :: es) (gCons wg wgs) := by
  obtain ⟨t, p, s⟩ := h.ex
  obtain ⟨t2, p2, s2⟩ := hr.ex
  exact ⟨_, pgs_cons p p2 hs, sim_gCons s s2⟩
theorem dg_tup {es : List Expr} {k n : Nat} (hc : X.calm = true) (h : DGs X EA E EH es wgs) (hn : (assignEach es X.env).length = n := by rfl) (hst : (assignEach es X.env).findIdx? (·.1) = none := by rfl) : DG X EA E EH (.Tuple es k pos) (gTup n wgs) := by
  obtain ⟨t, p, s⟩ := h.ex
  exact ⟨_, pg_tup hc p hn hst, sim_gTup s⟩
theorem dg_ix (ho : DN X a i) (h : DE X EA E EH b wb) (hq : ∀ v, assign (.Subscript a b pos) X.env v = (do
      let ov ← holding [v] (eval a X.env)
      let iv ← holding [v, ov] (eval b X.env)
      standAt pos
      holding [v, ov, iv] (setItem ov iv v)
      release [v, ov, iv] []) := by intro _; rfl) : DG X EA E EH (.Subscript a b pos) (gIx i wb) := by
  obtain ⟨tb, pb, sb⟩ := h.ex
  exact ⟨_, pg_sub ho.ex pb set_list hq, sim_gIx sb⟩
/-! #### statements -/
theorem dss_nil : DSs X EA E EH [] wNext := ⟨_, pss_nil, sim_next⟩
theorem dss_cons (h : DS X EA E EH st ws) (hr : DSs X EA E EH sts wz) : DSs X EA E EH (st :: sts) (wSeq ws wz) := by
  obtain ⟨t, p, s⟩ := h.ex
  obtain ⟨t2, p2, s2⟩ := hr.ex
  exact ⟨_, pss_cons p p2, sim_seq s s2⟩
theorem dss_one (h : DS X EA E EH st ws) : DSs X EA E EH [st] ws := by
  obtain ⟨t, p, s⟩ := h.ex
  exact ⟨_, pss_one p, s⟩
theorem ds_pass : DS X EA E EH (.Pass pos) wNext := ⟨_, ps_pass, sim_next⟩
theorem ds_break : DS X EA E EH (.Break pos) wBreak := ⟨_, ps_break, sim_break⟩
theorem ds_cont : DS X EA E EH (.Continue pos) wCont := ⟨_, ps_continue, sim_cont⟩
theorem ds_never : DS X EA E EH st wNever := ⟨_, ps_never, sim_never⟩
theorem ds_expr (h : DE X EA E EH e w) (hs : swapsWith e none pos.line X.env = pure false := by rfl) : DS X EA E EH (.Expr e pos) (wDrop w) := by
  obtain ⟨t, p, s⟩ := h.ex
  exact ⟨_, ps_expr p hs, sim_drop s⟩
theorem ds_ret (h : DE X EA E EH e w) : DS X EA E EH (.Return (some e) pos) (wRet w) := by
  obtain ⟨t, p, s⟩ := h.ex
  exact ⟨_, ps_ret p, sim_ret s⟩
theorem ds_retV (h : DN X e i) : DS X EA E EH (.Return (some e) pos) (wRetV i) := ⟨_, ps_ret h.ex, sim_retV⟩
theorem ds_retN : DS X EA E EH (.Return none pos) wRetN := ⟨_, ps_retN, sim_retN⟩
theorem ds_if {c : Expr} {s1 s2 : List Stmt} (hc : DT X EA E EH c wt) (ha : DSs X EA E EH s1 ws) (hb : DSs X EA E EH s2 wz) : DS X EA E EH (.If c s1 s2 pos) (wIfS wt ws wz) := by
  obtain ⟨t, p, s⟩ := hc.ex
  obtain ⟨ta, pa, sa⟩ := ha.ex
  obtain ⟨tb, pb, sb⟩ := hb.ex
  exact ⟨_, ps_if p pa pb, sim_ifS s sa sb⟩
theorem ds_asg (he : DE X EA E EH e w) (hg : DG X EA E EH tg wg) (hs : swapsWithSole [tg] e pos.line X.env = pure false := by rfl) (hw : swappedStores [tg] e X.env = pure none := by rfl) (h1 : (assignEach [tg] X.env).map (·.2) = [assign tg X.env] := by rfl) : DS X EA E EH (.Assign [tg] e pos) (wAsg w wg) := by
  obtain ⟨t, p, s⟩ := he.ex
  obtain ⟨t2, p2, s2⟩ := hg.ex
  exact ⟨_, ps_asg p p2 hs hw h1, sim_asg s s2⟩
theorem ds_set (i : Nat) {x : Str} {pos' : Pos} (he : DE X EA E EH e w) (hN : X.N.Nodup) (hi : X.N[i]? = some x := by rfl) (hx : Loc X.env.scope x := by first | exact Or.inl rfl | exact Or.inr rfl) (hs : swapsWith e (some (.Name x pos')) pos.line X.env = pure false := by rfl)
    (hf : X.fn x = true ∨ X.env.scope.names.lookup x = some .local := by first | exact .inl rfl | exact .inr rfl) : DS X EA E EH (.Assign [.Name x pos'] e pos) (wAsg w (gN i)) := by
  obtain ⟨t, p, s⟩ := he.ex
  exact ⟨_, ps_set hN hi hx p hs hf, sim_asg s sim_gN⟩
theorem ds_par (i j : Nat) {x y : Str} {px py pt : Pos} {kt k2 : Nat} {pt2 : Pos} (hc : X.calm = true) (hN : X.N.Nodup) (ha : DE X EA E EH a wa) (hb : DE X EA E EH b wb) (hij : i ≠ j) (hi : X.N[i]? = some x := by rfl) (hj : X.N[j]? = some y := by rfl)
    (hx : X.env.scope.names.lookup x = some .local := by rfl) (hy : X.env.scope.names.lookup y = some .local := by rfl) (h1 : starEach [a, b] X.env = (false, eval a X.env) :: starEach [b] X.env := by rfl) (h2 : starEach [b] X.env = (false, eval b X.env) :: starEach [] X.env := by rfl)
    (hw : swappedStores [.Tuple [.Name x px, .Name y py] kt pt] (.Tuple [a, b] k2 pt2) X.env = pure (some [x, y]) := by rfl) (hs : swapsWithSole [.Tuple [.Name x px, .Name y py] kt pt] (.Tuple [a, b] k2 pt2) pos.line X.env = pure false := by rfl) :
    DS X EA E EH (.Assign [.Tuple [.Name x px, .Name y py] kt pt] (.Tuple [a, b] k2 pt2) pos) (wPar i j wa wb) := by
  obtain ⟨ta, pa, sa⟩ := ha.ex
  obtain ⟨tb, pb, sb⟩ := hb.ex
  exact ⟨_, ps_par hc hN hi hj hij hx hy (pa_cons pa (pa_cons pb pa_nil h2) h1) hw hs, sim_par sa sb⟩
theorem ds_app {cpos : Pos} (ho : DN X a i) (h : DE X EA E EH e w) (hbase : attributeBase a "append" X.env (eval a X.env) = eval a X.env := by rfl)
    (hfew : ((backTo cpos (starEach [e] X.env)).all (fun x => !x.1) && (backToKw cpos (keywordEach [] X.env)).all (fun x => x.1.isSome) && decide ([e].length + ([] : List Keyword).length + (if ([] : List Keyword).isEmpty then 0 else 1) < 30)) = true := by rfl)
    (hline : (apos.endLine == cpos.line) = true := by rfl) (hs : starEach [e] X.env = (false, eval e X.env) :: starEach [] X.env := by rfl) (hsw : swapsWith (.Call (.Attribute a "append" apos) [e] [] cpos) none pos.line X.env = pure false := by rfl) :
    DS X EA E EH (.Expr (.Call (.Attribute a "append" apos) [e] [] cpos) pos) (wApp i w) := by
  obtain ⟨t, p, s⟩ := h.ex
  exact ⟨_, ps_expr (pe_bm PySem.F.plainAttrs_list PySem.F.slot_list_append PySem.F.type_list_append mt_append ho.ex (pa_cons p pa_nil hs) hbase hfew hline hs rfl) hsw, sim_app s⟩
theorem ds_raise {C : Addr} {bmB : List Value} {B newId initId : String} {x m : Str} {jj : Nat} {p2 : Pos} {xc : Exc} (hc : X.calm = true) (tk : L2N.Takes X fun cls d _ H => EH cls d H) (F : ExcBaseFacts B newId initId bmB) (q : PySem.W.excIn X.K C bmB newId = true) (gC : X.mg x = some (.ref C)) (kC : PySem.W.keepIn X.K (.ref C) = true) (r : L2.Raises X (.ref C)) (hg : Gl X x)
    (hx : ∀ H, EA.ea xc (.ref C) none H) (hdb : (x == ("__debug__" : Str)) = false := by decide) (hs : starEach [.Constant (.str m) jj p2] X.env = (false, eval (.Constant (.str m) jj p2) X.env) :: starEach [] X.env := by rfl) : DS X EA E EH (.Raise (some (.Call (.Name x p) [.Constant (.str m) jj p2] [] apos)) none pos) (wRaise E xc) :=
  ⟨_, L2N.ps_raise hc tk (L2N.pmk_own F q gC kC r hg hdb), sim_raise hx⟩
theorem ds_for {iter : Expr} {wi : WI} (hp : PassesOwn (model X.prog X.w) X.A X.env X.xe) (hc : X.calm = true) (hi : DI X EA E EH tg iter wi) (hg : DG X EA E EH tg wg) (hb : DSs X EA E EH body ws) (hs : ∀ x, foldedSetIterable iter X.env x = pure x := by intro _; rfl) : DS X EA E EH (.For tg iter body [] pos) (wFor wi wg ws) := by
  obtain ⟨t, p, s⟩ := hi.ex
  obtain ⟨t2, p2, s2⟩ := hg.ex
  obtain ⟨t3, p3, s3⟩ := hb.ex
  exact ⟨_, ps_for hp hc p p2 p3 hs, sim_for s s2 s3⟩
theorem ds_while {c : Expr} (hp : PassesOwn (model X.prog X.w) X.A X.env X.xe) (hc : DT X EA E EH c wt) (hb : DSs X EA E EH body ws) : DS X EA E EH (.While c body [] pos) (wWhile wt ws) := by
  obtain ⟨t, p, s⟩ := hc.ex
  obtain ⟨t2, p2, s2⟩ := hb.ex
  exact ⟨_, ps_while hp p p2, sim_while s s2⟩
/-! #### comprehensions -/
/-- a target of a comprehension: names of the block's own -/
structure DV (X : Cx) (EA : EAT) (e : Expr) (vs : List Nat) (tg : TG) (w : WG) : Prop where
  pg : PG X e tg
  sm : ∀ E EH, SimG X.K EA E EH tg w
  st : Sets tg vs
  mn : MonoG tg
structure DVs (X : Cx) (EA : EAT) (es : List Expr) (vs : List Nat) (tg : TGs) (w : WGs) : Prop where
  pg : PGs X es tg
  sm : ∀ E EH, SimGs X.K EA E EH tg w
  st : SetsL tg vs
  mn : MonoGs tg
theorem dv_name (i : Nat) {x : Str} {vs : List Nat} (hN : X.N.Nodup) (hi : X.N[i]? = some x := by rfl) (hx : Loc X.env.scope x := by first | exact Or.inl rfl | exact Or.inr rfl) (hf : X.fn x = true ∨ X.env.scope.names.lookup x = some .local := by first | exact .inl rfl | exact .inr rfl) (hv : i ∈ vs := by decide) : DV X EA (.Name x pos) vs (gName i) (gN i) :=
  ⟨pg_name hN hi hx hf, fun _ _ => sim_gN, sets_name hv, mono_name⟩
theorem dvs_nil {vs : List Nat} : DVs X EA [] vs L2.gNil gNil := ⟨pgs_nil, fun _ _ => sim_gNil, sets_nil, mono_nil⟩
theorem dvs_cons {es : List Expr} {vs : List Nat} {t : TG} {u : TGs} (h : DV X EA e vs t wg) (hr : DVs X EA es vs u wgs) (hs : (assignEach (e :: es) X.env).map (·.2) = assign e X.env :: (assignEach es X.env).map (·.2) := by rfl) : DVs X EA (e :: es) vs (L2.gCons t u) (gCons wg wgs) :=
  ⟨pgs_cons h.pg hr.pg hs, fun E EH => sim_gCons (h.sm E EH) (hr.sm E EH), sets_cons h.mn hr.mn h.st hr.st, mono_cons h.mn hr.mn⟩
theorem dv_tup {es : List Expr} {k n : Nat} {vs : List Nat} {u : TGs} (K : PySem.W.Frag) (hc : X.calm = true) (h : DVs X EA es vs u wgs) (hK : X.K = K := by rfl) (hn : (assignEach es X.env).length = n := by rfl) (hst : (assignEach es X.env).findIdx? (·.1) = none := by rfl) : DV X EA (.Tuple es k pos) vs (L2.gTup K n u) (gTup n wgs) := by
  subst hK
  exact ⟨pg_tup hc h.pg hn hst, fun E EH => sim_gTup (h.sm E EH), sets_tup h.st, mono_tup h.mn⟩
theorem dts_nil : DTs X EA E EH [] tYes := ⟨_, pts_nil, fun G xa ρ F σ H R Qd Q h k => k true ρ F H h R (Sub.refl _)⟩
theorem dts_one (h : DT X EA E EH c wt) : DTs X EA E EH [c] wt := by
  obtain ⟨t, p, s⟩ := h.ex
  exact ⟨_, pts_one p, s⟩
end
section
variable {X : Cx} {EA : EAT} {E : Exc → Prop} {EH : XK} {elt tg iter : Expr} {ifs : List Expr} {scope : Scope} {own : List (Str × Nat)} {pos spos py : Pos} {wi : WI} {wg : WG} {wt : WT} {w : WE} {g : TG}
/-- [elt for tg in iter if ..] -/
theorem de_lc (own : List (Str × Nat)) (hc : X.calm = true) (hN : X.N.Nodup) (hi : DI X EA E EH tg iter wi) (ok : BlkOk X.N X.env.scope scope own)
    (hg : ∀ (s : Shared) (H : Hp) (C : Addr) (cl : List (Str × Addr)) (fp : List Addr), DV (X.blk s H scope (compEnvC scope cl C X.env) fp) EA tg (own.map (·.2)) g wg)
    (ht : ∀ (s : Shared) (H : Hp) (C : Addr) (cl : List (Str × Addr)) (fp : List Addr), DTs (X.blk s H scope (compEnvC scope cl C X.env) fp) EA E0d E0 ifs wt)
    (he : ∀ (s : Shared) (H : Hp) (C : Addr) (cl : List (Str × Addr)) (fp : List Addr), DE (X.blk s H scope (compEnvC scope cl C X.env) fp) EA E0d E0 elt w)
    (hs : ∀ x, foldedSetIterable iter X.env x = pure x := by intro _; rfl) : ∃ tl, PE X (.ListComp elt [⟨tg, iter, ifs, 0⟩] scope pos) tl ∧ SimE X.K EA E EH tl (wLc wi wg wt w (own.map (·.2))) ∧
      ∀ {i : Nat} {y : Str} {spos py : Pos}, X.N[i]? = some y → X.env.scope.names.lookup y = some .local → swapsWith (.ListComp elt [⟨tg, iter, ifs, 0⟩] scope pos) (some (.Name y py)) spos.line X.env = pure true → PS X (.Assign [.Name y py] (.ListComp elt [⟨tg, iter, ifs, 0⟩] scope pos) spos) (tAsg tl (gName i)) := by
  obtain ⟨ti, pi, si⟩ := hi.ex
  -- the block's readings, one for all states in which it may begin
  let T : Shared → Hp → Addr → List (Str × Addr) → List Addr → TT := fun s H C cl fp => Classical.choose (ht s H C cl fp).ex
  let Te : Shared → Hp → Addr → List (Str × Addr) → List Addr → TE := fun s H C cl fp => Classical.choose (he s H C cl fp).ex
  let tt : TT := fun σ H Q => ∀ s H' C cl fp, T s H' C cl fp σ H Q
  let te : TE := fun σ H Q => ∀ s H' C cl fp, Te s H' C cl fp σ H Q
  have pt : ∀ (s : Shared) (H : Hp) (C : Addr) (cl : List (Str × Addr)) (fp : List Addr), PTs (X.blk s H scope (compEnvC scope cl C X.env) fp) ifs tt := fun s H C cl fp =>
    ⟨fun pins s' σ H' Q I h => (Classical.choose_spec (ht s H C cl fp).ex).1.run pins s' σ H' Q I (h s H C cl fp)⟩
  have pe : ∀ (s : Shared) (H : Hp) (C : Addr) (cl : List (Str × Addr)) (fp : List Addr), PE (X.blk s H scope (compEnvC scope cl C X.env) fp) elt te := fun s H C cl fp =>
    ⟨fun pins s' σ H' Q I h => (Classical.choose_spec (he s H C cl fp).ex).1.run pins s' σ H' Q I (h s H C cl fp)⟩
  have st : SimT X.K EA E0d E0 tt wt := fun G xa ρ F σ H R Qd Q h k s H' C cl fp => (Classical.choose_spec (ht s H' C cl fp).ex).2 G xa ρ F σ H R Qd Q h k
  have se : SimE X.K EA E0d E0 te w := fun G xa ρ F σ H R Qd Q h k s H' C cl fp => (Classical.choose_spec (he s H' C cl fp).ex).2 G xa ρ F σ H R Qd Q h k
  by_cases z : Nonempty Shared
  case neg => exact ⟨fun _ _ _ => True, ⟨fun _ s => absurd ⟨s⟩ z⟩, fun _ _ _ _ _ _ _ _ _ _ _ => trivial, fun _ _ _ => ⟨fun _ s => absurd ⟨s⟩ z⟩⟩
  have dv : (∀ E EH, SimG X.K EA E EH g wg) ∧ Sets g (own.map (·.2)) ∧ MonoG g := by
    obtain ⟨s⟩ := z
    have := hg s (fun _ => none) 0 [] []
    exact ⟨this.sm, this.st, this.mn⟩
  refine ⟨tLc ti g tt te (own.map (·.2)), pe_lc hc hN pi ok (fun s H C cl fp => (hg s H C cl fp).pg) pt pe hs, sim_lc si (dv.1 E0d E0) dv.2.1 dv.2.2 st se (fun _ z => z), fun {i y spos py} hy hl hsw => ?_⟩
  exact ps_setLc hc hN hy hl hsw pi ok (fun s H C cl fp => (hg s H C cl fp).pg) pt pe hs
theorem de_lcE (own : List (Str × Nat)) (hc : X.calm = true) (hN : X.N.Nodup) (hi : DI X EA E EH tg iter wi) (ok : BlkOk X.N X.env.scope scope own)
    (hg : ∀ (s : Shared) (H : Hp) (C : Addr) (cl : List (Str × Addr)) (fp : List Addr), DV (X.blk s H scope (compEnvC scope cl C X.env) fp) EA tg (own.map (·.2)) g wg)
    (ht : ∀ (s : Shared) (H : Hp) (C : Addr) (cl : List (Str × Addr)) (fp : List Addr), DTs (X.blk s H scope (compEnvC scope cl C X.env) fp) EA E0d E0 ifs wt)
    (he : ∀ (s : Shared) (H : Hp) (C : Addr) (cl : List (Str × Addr)) (fp : List Addr), DE (X.blk s H scope (compEnvC scope cl C X.env) fp) EA E0d E0 elt w)
    (hs : ∀ x, foldedSetIterable iter X.env x = pure x := by intro _; rfl) : DE X EA E EH (.ListComp elt [⟨tg, iter, ifs, 0⟩] scope pos) (wLc wi wg wt w (own.map (·.2))) := by
  obtain ⟨tl, p, s, _⟩ := de_lc (pos := pos) own hc hN hi ok hg ht he hs
  exact ⟨tl, p, s⟩
/-- y = [elt for tg in iter if ..], on one line, y a local -/
theorem ds_setLc (i : Nat) (own : List (Str × Nat)) {y : Str} (hc : X.calm = true) (hN : X.N.Nodup) (hi : DI X EA E EH tg iter wi) (ok : BlkOk X.N X.env.scope scope own)
    (hg : ∀ (s : Shared) (H : Hp) (C : Addr) (cl : List (Str × Addr)) (fp : List Addr), DV (X.blk s H scope (compEnvC scope cl C X.env) fp) EA tg (own.map (·.2)) g wg)
    (ht : ∀ (s : Shared) (H : Hp) (C : Addr) (cl : List (Str × Addr)) (fp : List Addr), DTs (X.blk s H scope (compEnvC scope cl C X.env) fp) EA E0d E0 ifs wt)
    (he : ∀ (s : Shared) (H : Hp) (C : Addr) (cl : List (Str × Addr)) (fp : List Addr), DE (X.blk s H scope (compEnvC scope cl C X.env) fp) EA E0d E0 elt w)
    (hsw : swapsWith (.ListComp elt [⟨tg, iter, ifs, 0⟩] scope pos) (some (.Name y py)) spos.line X.env = pure true) (hy : X.N[i]? = some y := by rfl) (hl : X.env.scope.names.lookup y = some .local := by rfl)
    (hs : ∀ x, foldedSetIterable iter X.env x = pure x := by intro _; rfl) : DS X EA E EH (.Assign [.Name y py] (.ListComp elt [⟨tg, iter, ifs, 0⟩] scope pos) spos) (wAsg (wLc wi wg wt w (own.map (·.2))) (gN i)) := by
  obtain ⟨tl, p, s, q⟩ := de_lc (pos := pos) own hc hN hi ok hg ht he hs
  exact ⟨_, q hy hl hsw, sim_asg s sim_gN⟩
end


section
variable {K : PySem.W.Frag} {F : Hp}
theorem zipD_get : ∀ {ds es : List D} {i : Nat} {d : D}, (zipD ds es)[i]? = some d → ∃ x y, ds[i]? = some x ∧ es[i]? = some y ∧ d = .tuple [x, y]
  | [], _, _, _, h => by simp [zipD] at h
  | _ :: _, [], _, _, h => by simp [zipD] at h
  | x :: ds, y :: es, 0, d, h => ⟨x, y, rfl, rfl, by simpa [zipD] using h.symm⟩
  | x :: ds, y :: es, i + 1, d, h => by
    simp only [zipD, List.getElem?_cons_succ] at h
    obtain ⟨a, b, h1, h2, h3⟩ := zipD_get h
    exact ⟨a, b, by simpa using h1, by simpa using h2, h3⟩
theorem zipD_len : ∀ (ds es : List D), (zipD ds es).length = min ds.length es.length
  | [], es => by simp [zipD]
  | x :: ds, [] => by simp [zipD]
  | x :: ds, y :: es => by simp [zipD, zipD_len ds es]
theorem row_ff {ka : ZQ.Kd} {F' : Hp} {a : Addr} {xs : List V} (e : Sub F F') (h : ka.row K F a xs) : ka.row K F' a xs := by
  cases ka with
  | l => exact Sub.seqL e h
  | t => exact Sub.seqT e h
theorem walks_zip {ka kb : ZQ.Kd} {a b : Addr} {xs ys : List V} {ds es : List D} (sa : ka.row K F a xs) (sb : kb.row K F b ys) (la : AtL K F xs ds) (lb : AtL K F ys es) : Walks K F (zipD ds es) (ZQ.ItzK ka kb K a b) := by
  refine ⟨fun i H e h => ?_, fun i H e h => ⟨xs, ys, row_ff e sa, row_ff e sb, ?_⟩, fun i H v H' e y d hd F1 e1 e2 => ?_⟩
  · rw [zipD_len] at h
    have h1 : i < xs.length := by rw [la.length]; omega
    have h2 : i < ys.length := by rw [lb.length]; omega
    exact ⟨xs, ys, xs[i], ys[i], row_ff e sa, row_ff e sb, List.getElem?_eq_getElem h1, List.getElem?_eq_getElem h2⟩
  · rw [zipD_len] at h
    rw [la.length, lb.length]; omega
  · obtain ⟨T, x, z, rfl, hT, rfl, fx, fz⟩ := y
    obtain ⟨dx, dz, h1, h2, rfl⟩ := zipD_get hd
    obtain ⟨vx, e3, ax⟩ := la.getD h1
    obtain ⟨vz, e4, az⟩ := lb.getD h2
    have q1 : some x = some vx := (fx xs (row_ff e sa)).symm.trans e3
    have q2 : some z = some vz := (fz ys (row_ff e sb)).symm.trans e4
    cases q1
    cases q2
    have g := Gr.new (o := .tup [x, z]) e2 hT
    exact ⟨_, g, .tup (.inl (.inl upd_same)) (.cons ((ax.mono e1).mono g.ff) (.cons ((az.mono e1).mono g.ff) .nil)) (by show 2 ≤ LIM; decide)⟩
theorem row_of {ds : List D} {d : D} {u : V} {H : Hp} (su : Sub F H) (h : d = .list ds ∨ d = .tuple ds) (a : At K F u d) : ∃ (ka : ZQ.Kd) (p : Addr) (xs : List V), u = .ref p ∧ ka.row K F p xs ∧ ka.row K H p xs ∧ AtL K F xs ds := by
  rcases h with rfl | rfl
  · cases a with
    | lst ea la _ => exact ⟨.l, _, _, rfl, .inl (.inl ea), su.seqL (.inl (.inl ea)), la⟩
  · cases a with
    | tup ea la _ => exact ⟨.t, _, _, rfl, ea, su.seqT ea, la⟩
end
section
variable {X : Cx} {EA : EAT} {E : Exc → Prop} {EH : XK} {a b : Expr} {wa wb : WE} {pos p tpos : Pos}
theorem di_zip {elts : List Expr} {kk : Nat} (hg : Gl X "zip") (hm : X.mg "zip" = none) (ha : DE X EA E EH a wa) (hb : DE X EA E EH b wb) (h1 : starEach [a, b] X.env = (false, eval a X.env) :: starEach [b] X.env := by rfl) (h2 : starEach [b] X.env = (false, eval b X.env) :: starEach [] X.env := by rfl) (hpl : (backTo pos (starEach [b] X.env)).any (·.1) = false := by rfl) :
    DI X EA E EH (.Tuple elts kk tpos) (.Call (.Name "zip" p) [a, b] [] pos) (itZ wa wb) := by
  obtain ⟨ta, pa, sa⟩ := ha.ex
  obtain ⟨tb, pb, sb⟩ := hb.ex
  refine ⟨_, ZQ.pi_zipK hg hm (pa_cons pa (pa_cons pb pa_nil h2) h1) h1 hpl, fun G xa ρ F σ H R Qd Q h k => ?_⟩
  refine sa.run xa R (Qd := fun d ρ1 => wb ρ1 fun e _ ρ2 => ∃ xs ys, ((d = .list xs ∨ d = .tuple xs) ∧ (e = .list ys ∨ e = .tuple ys)) ∧ Qd (zipD xs ys) ρ2) h fun d ρ1 v F1 H1 h1 R1 s1 a1 => ?_
  refine sb.run xa R1 (Qd := fun e ρ2 => ∃ xs ys, ((d = .list xs ∨ d = .tuple xs) ∧ (e = .list ys ∨ e = .tuple ys)) ∧ Qd (zipD xs ys) ρ2) h1 fun e ρ2 u F2 H2 h2 R2 s2 a2 => ?_
  obtain ⟨ds, es, ⟨hd, he⟩, q⟩ := h2
  obtain ⟨ka, pa, xs, rfl, ra, ra2, la⟩ := row_of R2.sub hd (a1.mono s2)
  obtain ⟨kb, pb, ys, rfl, rb, rb2, lb⟩ := row_of R2.sub he a2
  exact ⟨_, _, _, _, ka, kb, rfl, ra2, rb2, k _ ρ2 F2 H2 _ q R2 (s1.trans s2) (walks_zip ra rb la lb)⟩
end

/-! ### what a def's body may count on -/
section
variable {P : Program} {w : World} {K : PySem.W.Frag} {mg : Str → Option Value} {base : Heap} {N : List Str} {qual : Str} {scope : Scope} {f : Addr} {cd : Value} {A : Around} {outer : List PySem.Env} {s : Shared} {H : Hp} {E : XK}
theorem takesX : L2N.Takes (cxOf (L2N.CX P w) P w K mg base N qual scope f cd A outer s H E) (fun cls d _ H => E cls d H) := L2N.takes_of rfl rfl rfl rfl
theorem passX : Passes (L2N.CX P w) (cxOf (L2N.CX P w) P w K mg base N qual scope f cd A outer s H E) E := fun pins σ H s e s' I c => L2N.passes_call takesX (fun _ _ _ _ h => h) pins σ H s e s' I c
theorem ownX : PassesOwn (model P w) (cxOf (L2N.CX P w) P w K mg base N qual scope f cd A outer s H E).A (cxOf (L2N.CX P w) P w K mg base N qual scope f cd A outer s H E).env (cxOf (L2N.CX P w) P w K mg base N qual scope f cd A outer s H E).xe := L2.passes_of (K := fun e s'' => L2N.CX P w outer H s E e s'') rfl
end
/-! ### the law's own call -/
/-- what is tracked at the law's entry: the script, empty tables -/
def OnlyT (cs : List (Addr × Addr)) (H : Hp) : Prop := (∀ p ∈ cs, H p.2 = some (.tbl #[])) ∧ ∀ b, H b = none ∨ H b = some (.tbl #[]) ∨ ∃ o xs, H b = some (.frz o (.lst xs))
theorem noTab_sq {K : PySem.W.Frag} {H : Hp} {a : Addr} {xs : List V} (h : SqL K H a xs) : SqL K (noTab H) a xs := by
  rcases h with (h | ⟨o, h⟩) | h
  · exact .inl (.inl (noTab_nt h fun ps z => nomatch z))
  · exact .inl (.inr ⟨o, noTab_nt h fun ps z => nomatch z⟩)
  · exact .inr h
theorem sp_law {K : PySem.W.Frag} {EA : EAT} {B : List Int → Prop} {H : Hp} {a : Addr} {ns : List Int} {cs : List (Addr × Addr)} (hS : SqL K H a (ns.map V.int)) (hO : OnlyT cs H) (hT : ∀ p ∈ EA.T, ∃ c, (c, p.1) ∈ cs) (hl : ns.length ≤ LIM) (hB : B ns) : spOf K EA [false] (lawC B) [.ref a] H (fun v _ => v = .bl true) fun _ _ _ => False := by
  refine ⟨noTab H, [scrD (ns.map PyData.int)], [], fun r f ls => r = .bool true, fun _ => False, noTab_sub H, noTab_ft H, fun p hp => ?_, .da (.scr (noTab_sq hS) (.ofInts ns) (by rw [List.length_map]; exact hl)) .nil, ⟨ns, rfl, hB, fun f => rfl⟩, fun r f ls v F' H' q h1 h2 h3 h4 h5 h6 n => ?_, fun x z => z.elim⟩
  · obtain ⟨c, hc⟩ := hT p hp
    exact LamX.TabS.nil (hO.1 _ hc)
  subst q
  cases f with
  | false =>
    have := n.1 rfl
    cases this
    rfl
  | true =>
    obtain ⟨p, _, _, _, o⟩ := n.2 rfl
    exact o.elim
/-- what is known of the tables of code objects behind the top -/
structure TabH (K : PySem.W.Frag) (mg : Str → Option Value) (cs : List (Addr × Addr)) (h : Heap) : Prop where
  tab : ∀ p ∈ cs, h.get? p.2 = some { cls := .none, data := .fields #[] }
  out : ∀ p ∈ cs, K.lookup p.2 = none
  hd : ∀ p ∈ cs, PySem.W.CodeHd h p.1 p.2
theorem law_run {P : Program} {w : World} {K : PySem.W.Frag} {mg mb : Str → Option Value} {gr : Bool} {k : Nat} {fa a : Addr} {fd : FuncData} {x : Str} {sp : Sp} {s₁ : Shared} {vs : List Value} {ns : List Int} {cs : List (Addr × Addr)}
    (inK : K.In s₁.heap) (hns : s₁.heap.Ns mainGlobals mg) (hb : s₁.heap.Ns builtinsNs mb) (hbb : ∀ x : Str, x ≠ "__name__" → mb x = bootBuiltins x) (unlim : s₁.heap.NoLimit) (hg : s₁.gens = #[])
    (tabs : TabH K mg cs s₁.heap) (hbm : ∃ (bm : Addr) (ob : Obj), mg "__builtins__" = some (.ref bm) ∧ bm ≠ builtinsNs ∧ s₁.heap.get? bm = some ob ∧ ob.cls = .type "module" ∧ ob.dict = some builtinsNs ∧ ob.data = .plain)
    (ha : s₁.heap.get? a = some { cls := .type "list", data := .seq vs.toArray }) (hi : PyProof.Rows.IntsAre vs ns) (hl : ns.length ≤ sizeLine) (hr : Room k callerA) (gd : callerA.guards = some [])
    (F : ∀ base : Heap, K.In base → base.Ns mainGlobals mg → (∀ p ∈ cs, LamX.TabB base mg p.1 p.2) → FnG P w K mg base gr k fa fd [x] sp) (hbind : ∀ (s : Shared) (u : Value), BindsTo s fd ⟨[u], []⟩ [(x, u)])
    (hsp : ∀ H : Hp, OnlyT cs H → SqL K H a (ns.map V.int) → sp [.ref a] H (fun v _ => v = .bl true) fun _ _ _ => False) :
    codeAny (model P w) callerA (.call (.ref fa) ⟨[.ref a], []⟩) (fun r s' => r = .ok (.ret (.bool true)) ∧ OldK s₁.heap s'.heap ∧ s'.os = s₁.os ∧ PyProof.Rows.AllBare s'.gens) s₁ := by
  have rv := vals_ints hi
  have lenV := hi.length
  let tb : Addr → Prop := fun b => b ∈ cs.map (·.2)
  have tbl : ∀ {b : Addr}, tb b → ∃ p ∈ cs, p.2 = b := fun {b} h => List.mem_map.mp h
  have empty : ∀ {b : Addr}, tb b → s₁.heap.get? b = some { cls := .none, data := .fields #[] } := fun {b} h => by
    obtain ⟨p, hp, rfl⟩ := tbl h
    exact tabs.tab p hp
  have ap : ¬ tb a := fun h => by
    have z := empty h
    rw [ha] at z
    cases (show Data.seq vs.toArray _ = Data.fields #[] from congrArg Obj.data (Option.some.inj z))
  -- over an abstract heap that tracks the script, or nothing, and the tables
  have over : ∀ H : Hp, OnlyT cs H → SqL K H a (ns.map V.int) → HOk P w H s₁.heap → (∀ b, H b ≠ none → b = a ∨ tb b) → (H a ≠ none → K.lookup a = none) →
      codeAny (model P w) callerA (.call (.ref fa) ⟨[.ref a], []⟩) (fun r s' => r = .ok (.ret (.bool true)) ∧ OldK s₁.heap s'.heap ∧ s'.os = s₁.os ∧ PyProof.Rows.AllBare s'.gens) s₁ := by
    intro H only sq ok alone apart
    have free : ∀ {b : Addr} {o : Obj}, s₁.heap.get? b = some o → (∀ us n, o.data ≠ .seq us n) → o.data ≠ .fields #[] → H b = none := fun {b o} e n1 n2 => by
      cases q : H b with
      | none => rfl
      | some u =>
        rcases alone b (by rw [q]; exact fun z => nomatch z) with rfl | h
        · rw [ha] at e; cases e; exact absurd rfl (n1 _ _)
        · rw [empty h] at e; cases e; exact absurd rfl n2
    have below : ∀ {b : Addr} {m : Str → Option Value}, s₁.heap.Ns b m → (hidT s₁.heap H).Ns b m := by
      rintro b m ⟨o, es, ep, e, d, r⟩
      refine ⟨o, es, ep, hidT_get e (free e (fun us n z => ?_) fun z => ?_), d, r⟩
      · rw [d] at z; cases z
      · rw [d] at z; cases z
    have inB : K.In (hidT s₁.heap H) := fun b o e => hidT_get (inK b o e) (by
      cases q : H b with
      | none => rfl
      | some u =>
        rcases alone b (by rw [q]; exact fun z => nomatch z) with rfl | h
        · rw [apart (by rw [q]; exact fun z => nomatch z)] at e; cases e
        · obtain ⟨p, hp, rfl⟩ := tbl h
          rw [tabs.out p hp] at e; cases e)
    have md : Mod K mg (hidT s₁.heap H) := ⟨inB, below hns, ⟨mb, below hb, hbb⟩, by obtain ⟨mc, z1, z2⟩ := unlim; exact ⟨mc, below z1, z2⟩⟩
    have codes : ∀ p ∈ cs, LamX.TabB (hidT s₁.heap H) mg p.1 p.2 := by
      intro p hp
      have here := tabs.tab p hp
      constructor
      · obtain ⟨o, us, file, tf, flags, tg, inF, text, tt, e1, r1, r2, r3, rest⟩ := tabs.hd p hp
        refine ⟨o, us, file, tf, flags, tg, inF, text, tt, hidT_get e1 (free e1 (fun vs n z => ?_) fun z => ?_), r1, r2, r3, rest⟩
        · rw [r2] at z; cases z
        · rw [r2] at z; cases z; simp at r3
      · obtain ⟨bm, ob, b1, b2, b3, b4, b5, b6⟩ := hbm
        refine ⟨bm, ob, b1, b2, ?_, ?_, hidT_get b3 (free b3 (fun vs n z => ?_) fun z => ?_), b4, b5, b6⟩
        · rintro rfl
          obtain ⟨o, es, ep, e, d, _⟩ := hns
          rw [e] at b3; cases b3
          rw [d] at b6; cases b6
        · rintro rfl
          rw [here] at b3; cases b3; cases b6
        · rw [b6] at z; cases z
        · rw [b6] at z; cases z
      · intro z
        obtain ⟨o, es, ep, e, d, _⟩ := hns
        rw [z, here] at e; cases e; cases d
    have en : Env0 P w K mg (hidT s₁.heap H) callerA [] s₁ H := ⟨rfl, md, fun b o e => of_hidT e, Nat.le_of_eq (hidT_size _ _), trivial, fun b z => absurd (show b ∈ ([] : List Addr) from z) List.not_mem_nil, ok, .of_eq hg⟩
    refine codeAny_mono ((F _ inB (below hns) codes).run callerA [] s₁ H ⟨[.ref a], []⟩ [.ref a] [.ref a] _ _ hr (fun _ => gd) en (hbind s₁ (.ref a)) (.cons rfl .nil) (hsp H only sq)) ?_
    intro r s' z
    match r, z with
    | .error e, z =>
      obtain ⟨_, _, _, _, _, _, _, _, _, _, _, _, q⟩ := z
      exact q.elim
    | .ok .next, z => exact z.elim
    | .ok .brk, z => exact z.elim
    | .ok .cont, z => exact z.elim
    | .ok (.ret u), z =>
      obtain ⟨v, H', os, bare, un, ok', rvu, q⟩ := z
      have q' : v = .bl true := q
      subst q'
      have hu : u = Value.bool true := rvu
      subst hu
      have still : ∀ b o, ¬ tb b → s₁.heap.get? b = some o → s'.heap.get? b = some o := fun b o nt e => by
        cases q : H b with
        | none => exact un.keep b o e q (fun z => absurd (show b ∈ ([] : List Addr) from z) List.not_mem_nil) List.not_mem_nil
        | some u =>
          rcases alone b (by rw [q]; exact fun z => nomatch z) with rfl | h
          · rcases only.2 b with z | z | ⟨ob, xs, z⟩
            · rw [q] at z; cases z
            · have there : s₁.heap.get? b = some { cls := .none, data := .fields #[] } := ok b _ z
              rw [ha] at there
              cases there
            · have st := un.frzs b ob _ z
              obtain ⟨e1, _⟩ := ok b _ z
              obtain ⟨e2, _⟩ := ok' b _ st
              rw [e] at e1; cases e1
              exact e2
          · exact absurd h nt
      have more : ∀ p ∈ cs, ∃ ps : Array Value, s'.heap.get? p.2 = some { cls := .none, data := .fields ps } := fun p hp => by
        obtain ⟨ps, z⟩ := un.tbls p.2 #[] (only.1 p hp)
        exact ⟨_, ok' p.2 _ z⟩
      refine ⟨rfl, ⟨fun b o e => ?_, fun b o e => ?_⟩, os, bare⟩
      · by_cases h : tb b
        · obtain ⟨p, hp, rfl⟩ := tbl h
          obtain ⟨ps, hm⟩ := more p hp
          rw [tabs.tab p hp] at e; cases e
          exact .inr (.inl ⟨((tabs.hd p hp).tab (tabs.tab p hp)).isCodeTable, rfl, #[], ps, rfl, by rw [Array.empty_append]; exact hm⟩)
        · exact .inl (still b o h e)
      · by_cases h : tb b
        · obtain ⟨p, hp, rfl⟩ := tbl h
          obtain ⟨ps, hm⟩ := more p hp
          exact ⟨_, hm⟩
        · exact ⟨o, still b o h e⟩
  have tabOf : ∀ (g : Addr → Option HO), (∀ b, tb b → g b = some (.tbl #[])) → ∀ p ∈ cs, g p.2 = some (.tbl #[]) := fun g h p hp => h _ (List.mem_map.mpr ⟨p, hp, rfl⟩)
  by_cases hk : K.lookup a = none
  · let g : Hp := fun b => if b = a then some (HO.frz { cls := .type "list", data := .seq vs.toArray } (.lst (ns.map V.int))) else if b ∈ cs.map (·.2) then some (.tbl #[]) else none
    have ga : g a = some (HO.frz { cls := .type "list", data := .seq vs.toArray } (.lst (ns.map V.int))) := if_pos rfl
    have gt : ∀ b, tb b → g b = some (.tbl #[]) := fun b h => (if_neg (by rintro rfl; exact ap h)).trans (if_pos h)
    have gn : ∀ b, b ≠ a → ¬ tb b → g b = none := fun b n h => (if_neg n).trans (if_neg h)
    refine over g ⟨tabOf g gt, fun b => ?_⟩ (.inl (.inr ⟨_, ga⟩)) (fun b u z => ?_) (fun b z => ?_) fun _ => hk
    · by_cases q : b = a
      · subst q; exact .inr (.inr ⟨_, _, ga⟩)
      · by_cases h : tb b
        · exact .inr (.inl (gt b h))
        · exact .inl (gn b q h)
    · by_cases q : b = a
      · subst q
        rw [ga] at z
        cases z
        exact ⟨ha, by rw [List.length_map]; exact hl, vs, _, rv, ha⟩
      · by_cases h : tb b
        · rw [gt b h] at z; cases z; exact empty h
        · rw [gn b q h] at z; cases z
    · by_cases q : b = a
      · exact .inl q
      · by_cases h : tb b
        · exact .inr h
        · exact absurd (gn b q h) z
  · obtain ⟨o, ho⟩ := Option.ne_none_iff_exists'.mp hk
    have e := inK a o ho
    rw [ha] at e
    cases e
    let g : Hp := fun b => if b ∈ cs.map (·.2) then some (.tbl #[]) else none
    have gt : ∀ b, tb b → g b = some (.tbl #[]) := fun b h => if_pos h
    have gn : ∀ b, ¬ tb b → g b = none := fun b h => if_neg h
    refine over g ⟨tabOf g gt, fun b => ?_⟩ (.inr ⟨_, vs.toArray, _, ho, rfl, rfl, rfl, by rw [List.size_toArray, lenV]; exact hl, by simpa using rv⟩) (fun b u z => ?_) (fun b z => ?_) fun z => absurd (gn a ap) z
    · by_cases h : tb b
      · exact .inr (.inl (gt b h))
      · exact .inl (gn b h)
    · by_cases h : tb b
      · rw [gt b h] at z; cases z; exact empty h
      · rw [gn b h] at z; cases z
    · by_cases h : tb b
      · exact .inr h
      · exact absurd (gn b h) z
theorem walk_law {l : PySem.W.OpenLaw} {n k : Nat} {gr : Bool} {q : Program} {loose : List Str} {XP : (Str → Option Value) → Heap → Prop} {YP : World → Heap → Prop} {d : PySem.DefRec} {K : Params → PySem.W.Frag} {x : Str}
    (hn : l.most = some n) (hn2 : n ≤ sizeLine) (hdf : d.params.defaults = []) (hr : Room k callerA) (gd : callerA.guards = some [])
    (hY : ∀ (w : World) (h : Heap), YP w h → (K w.params).In h)
    (F : ∀ (w : World) (mg : Str → Option Value) (fa : Addr) (h : Heap), YP w h → (K w.params).In h → h.Ns mainGlobals mg → mg d.name = some (.ref fa) →
      ∃ (fd : FuncData) (cs : List (Addr × Addr)) (sp : Sp), TabH (K w.params) mg cs h ∧ (∀ (s : Shared) (u : Value), BindsTo s fd ⟨[u], []⟩ [(x, u)]) ∧
        (∀ (H : Hp) (a : Addr) (ns : List Int), ns.length ≤ n → (∀ z ∈ ns, Builtin.Int.intBits z ≤ 1048576) → OnlyT cs H → SqL (K w.params) H a (ns.map V.int) → sp [.ref a] H (fun v _ => v = .bl true) fun _ _ _ => False) ∧
        ∀ base : Heap, (K w.params).In base → base.Ns mainGlobals mg → (∀ p ∈ cs, LamX.TabB base mg p.1 p.2) → FnG l.prog w (K w.params) mg base gr k fa fd [x] sp) :
    PySem.W.WalkO q loose XP YP l.row.toRowW d [] (fun f vs => PySem.call f vs) := by
  refine Att.attach_callB hn hdf ?_
  intro w s₀ s₁ mg mb fa o pm cd doc a vs ns G Y ho hd hcd hmg hobj hints hlen hbits hg
  obtain ⟨fd, cs, sp, tabs, hb, hsp, hF⟩ := F w mg fa _ Y (hY w _ Y) G.T.g hmg
  exact law_run (hY w _ Y) G.T.g G.T.b G.T.builtins G.T.nolimit hg tabs G.T.bmain hobj hints (Nat.le_trans hlen hn2) hr gd hF hb fun H hO hS => hsp H a ns hlen hbits hO hS
end Dl
set_option maxRecDepth 100000
set_option maxHeartbeats 1000000
/-! DsX: more words of the language of data. -/
namespace Dl
open PySem PySem.Spec PyProof.Rows L2
set_option autoImplicit false
section
variable {K : PySem.W.Frag}
/-! ### bits -/
theorem sv_i2 {f : Int → Int → Int} : SimV2 K (rI0 fun i j => .int (f i j)) (oI2 f) := simv2_int (fun H i j Qd Q ho k => ⟨i, j, rfl, rfl, k _ _ (fun _ => .int _) ho⟩) fun d e Qd h => by
  unfold oI2 at h
  split at h
  · exact ⟨_, _, rfl, rfl⟩
  · exact h.elim
theorem sv_inv : SimV1 K (rU fun i => .int (Builtin.bitNot i)) oInv := simv1_int (fun H i Qd Q ho k => ⟨i, rfl, k _ _ (fun _ => .int _) ho⟩) fun d Qd h => by
  unfold oInv at h
  split at h
  · exact ⟨_, rfl⟩
  · exact h.elim
/-! ### all, any, sum -/
theorem Pk.seq {F H : Hp} {v : V} {xs : List D} {d : D} (sub : Sub F H) (p : Pk K F H v d) (h : d = .list xs ∨ d = .tuple xs) : ∃ a vs, v = .ref a ∧ AtL K F vs xs ∧ xs.length ≤ LIM ∧ ((d = .list xs ∧ H a = some (.lst vs)) ∨ (d = .tuple xs ∧ SqT K F a vs ∧ SqT K H a vs ∧ At K F v d)) := by
  rcases h with rfl | rfl
  · obtain ⟨a, vs, rfl, e, l, z⟩ := p.list sub
    exact ⟨a, vs, rfl, l, z, .inl ⟨rfl, e⟩⟩
  · cases p with
    | «at» h =>
      have h' := h
      cases h with
      | tup s t l => exact ⟨_, _, rfl, t, l, .inr ⟨rfl, s, sub.seqT s, h'⟩⟩
    | ow h _ => exact h.elim
theorem sv_all : SimV1 K (fun x H Q => rAll K [x] H Q) oAll := fun F H v d Qd Q sub p ho k => by
  obtain ⟨bs, rfl, q⟩ := ho
  obtain ⟨a, xs, rfl, e, l, _⟩ := p.list sub
  rw [l.bools] at e
  exact ⟨a, bs, rfl, .inl (.inl e), k _ false _ F H q (Gr.same sub) (New.at (.bl _))⟩
theorem sv_any : SimV1 K (fun x H Q => rAny K [x] H Q) oAny := fun F H v d Qd Q sub p ho k => by
  obtain ⟨bs, rfl, q⟩ := ho
  obtain ⟨a, xs, rfl, e, l, _⟩ := p.list sub
  rw [l.bools] at e
  exact ⟨a, bs, rfl, .inl (.inl e), k _ false _ F H q (Gr.same sub) (New.at (.bl _))⟩
/-! ### in, not in -/
def rInP (K : PySem.W.Frag) (neg : Bool) : R2 := fun x y H Q => ∃ d e xs, (e = .list xs ∨ e = .tuple xs) ∧ Dp K H x d ∧ Dp K H y e ∧ tame d ∧ tame e ∧ Q (.bl (neg != xs.any fun z => PyData.eqv z d)) H
theorem sv_in : SimV2 K (rInP K false) oIn := fun F H v u d e Qd Q sub p q ho k => by
  obtain ⟨xs, h, td, te, w⟩ := ho
  exact ⟨d, e, xs, h, p.dp sub td.1, q.dp sub te.1, td, te, k _ false _ F H (by simpa using w) (Gr.same sub) (New.at (.bl _))⟩
theorem sv_notIn : SimV2 K (rInP K true) oNotIn := fun F H v u d e Qd Q sub p q ho k => by
  obtain ⟨xs, h, td, te, w⟩ := ho
  exact ⟨d, e, xs, h, p.dp sub td.1, q.dp sub te.1, td, te, k _ false _ F H (by simpa using w) (Gr.same sub) (New.at (.bl _))⟩
theorem op_inP {X : Cx} (hu : X.A.units + 64 < cLine) : OpR X (compareOp .In) (rInP X.K false) := fun pins s σ H x y v u Q I rx ry h => by
  obtain ⟨d, e, xs, he, hd, hy, td, te, q⟩ := h
  obtain ⟨as, r1⟩ := Dp.reads I d x v hd rx
  obtain ⟨bs, r2⟩ := Dp.reads I e y u hy ry
  have h1 := td.2
  have h2 := te.2
  rcases he with rfl | rfl
  · have pl : PyData.plainAll xs = true := by simpa [PyData.plain] using te.1
    exact SeqAt.in_list_data r2 r1 pl td.1 (by omega) ⟨.bl _, H, I, rfl, by simpa using q⟩
  · have pl : PyData.plainAll xs = true := by simpa [PyData.plain] using te.1
    exact SeqAt.in_tuple_data r2 r1 pl td.1 (by omega) ⟨.bl _, H, I, rfl, by simpa using q⟩
theorem op_notInP {X : Cx} (hu : X.A.units + 64 < cLine) : OpR X (compareOp .NotIn) (rInP X.K true) := fun pins s σ H x y v u Q I rx ry h => by
  obtain ⟨d, e, xs, he, hd, hy, td, te, q⟩ := h
  obtain ⟨as, r1⟩ := Dp.reads I d x v hd rx
  obtain ⟨bs, r2⟩ := Dp.reads I e y u hy ry
  have h1 := td.2
  have h2 := te.2
  rcases he with rfl | rfl
  · have pl : PyData.plainAll xs = true := by simpa [PyData.plain] using te.1
    exact SeqAt.notIn_list_data r2 r1 pl td.1 (by omega) ⟨.bl _, H, I, rfl, by simpa using q⟩
  · have pl : PyData.plainAll xs = true := by simpa [PyData.plain] using te.1
    exact SeqAt.notIn_tuple_data r2 r1 pl td.1 (by omega) ⟨.bl _, H, I, rfl, by simpa using q⟩
/-! ### tuple(s), list(s) -/
def rTupX (K : PySem.W.Frag) : List V → Hp → VK → Prop := fun xs H Q => ∃ p ys, xs = [.ref p] ∧ ((SqL K H p ys ∧ ∀ l, H l = none → Q (.ref l) (upd H l (.tup ys))) ∨ (SqT K H p ys ∧ Q (.ref p) H))
theorem sv_tuple : SimV1 K (fun x H Q => rTupX K [x] H Q) oTuple := fun F H v d Qd Q sub p ho k => by
  obtain ⟨xs, h, q⟩ := ho
  obtain ⟨a, vs, rfl, l, z, h'⟩ := p.seq sub h
  rcases h' with ⟨rfl, e⟩ | ⟨rfl, _, st, at'⟩
  · refine ⟨a, vs, rfl, .inl ⟨.inl (.inl e), fun r hr => ?_⟩⟩
    have g := Gr.new (o := .tup vs) sub hr
    exact k _ false _ _ _ q g (New.at (.tup (.inl (.inl upd_same)) (l.mono g.ff) z))
  · exact ⟨a, vs, rfl, .inr ⟨st, k _ false _ F H q (Gr.same sub) (New.at at')⟩⟩
def rLstX (K : PySem.W.Frag) : List V → Hp → VK → Prop := fun xs H Q => ∃ p ys, xs = [.ref p] ∧ (SqL K H p ys ∨ SqT K H p ys) ∧ ∀ l, H l = none → Q (.ref l) (upd H l (.lst ys))
theorem sv_list : SimV1 K (fun x H Q => rLstX K [x] H Q) oList := fun F H v d Qd Q sub p ho k => by
  obtain ⟨xs, h, q⟩ := ho
  obtain ⟨a, vs, rfl, l, z, h'⟩ := p.seq sub h
  refine ⟨a, vs, rfl, ?_, fun r hr => ?_⟩
  · rcases h' with ⟨_, e⟩ | ⟨_, _, st, _⟩
    · exact .inl (.inl (.inl e))
    · exact .inr st
  · exact k _ true _ F _ q (Gr.own sub hr) ⟨(fun z => nomatch z), fun _ => ⟨r, rfl, noTab_none hr, sub_none sub hr, vs, upd_same, l, z⟩⟩
/-! ### x is None -/
def rIsNo (neg : Bool) : R2 := fun x y H Q => y = .non ∧ Q (.bl (neg != decide (x = .non))) H
theorem isNo_at {F H : Hp} {v : V} {d : D} (p : Pk K F H v d) : decide (v = V.non) = isNo d := by
  cases p with
  | «at» h => cases h <;> simp [isNo, scrD]
  | ow h _ =>
    cases d with
    | list ds => simp [isNo]
    | dict ds => simp [isNo]
    | none => exact h.elim
    | bool b => exact h.elim
    | int i => exact h.elim
    | str x => exact h.elim
    | tuple xs => exact h.elim
theorem sv_isN : SimV2 K (fun x y H Q => y = .non ∧ Q (.bl (decide (x = .non))) H) oIsN := fun F H v u d e Qd Q sub p q ho k => by
  obtain ⟨rfl, w⟩ := ho
  refine ⟨q.non, ?_⟩
  rw [isNo_at p]
  exact k _ false _ F H w (Gr.same sub) (New.at (.bl _))
theorem sv_notN : SimV2 K (fun x y H Q => y = .non ∧ Q (.bl (!decide (x = .non))) H) oNotN := fun F H v u d e Qd Q sub p q ho k => by
  obtain ⟨rfl, w⟩ := ho
  refine ⟨q.non, ?_⟩
  rw [isNo_at p]
  exact k _ false _ F H w (Gr.same sub) (New.at (.bl _))
/-! ### min, max of a list, a tuple of alike data -/
def rBest (K : PySem.W.Frag) (best : D → List D → D) : List V → Hp → VK → Prop := fun vs H Q => ∃ (a : Addr) (ys : List V) (x : D) (xs : List D), vs = [.ref a] ∧ (SqL K H a ys ∨ SqT K H a ys) ∧ DpAll K H ys (x :: xs) ∧ PyData.plainAll (x :: xs) = true ∧ PyData.depthAll (x :: xs) ≤ 50 ∧ PySem.W.AlikeAll (x :: xs) ∧
  ∀ (i : Nat) (y : V), ys[i]? = some y → (x :: xs)[i]? = some (best x xs) → Q y H
theorem readsAll_one {h : Heap} : ∀ {us : List Value} {ds : List D} {as : List Addr} {i : Nat} {u : Value}, ReadsAll h us ds as → us[i]? = some u → ∃ d bs, ds[i]? = some d ∧ Reads h u d bs
  | _, _, _, _, _, .nil, e => by simp at e
  | _, _, _, 0, _, .cons r _, e => by simp at e; subst e; exact ⟨_, _, rfl, r⟩
  | _, _, _, i + 1, _, .cons _ t, e => by simpa using readsAll_one (i := i) t (by simpa using e)
theorem dpAll_len {H : Hp} : ∀ {vs : List V} {ds : List D}, DpAll K H vs ds → vs.length = ds.length
  | _, _, .nil => rfl
  | _, _, .cons _ t => congrArg (· + 1) (dpAll_len t)
theorem plainAll_at : ∀ {ds : List D} {i : Nat} {d : D}, PyData.plainAll ds = true → ds[i]? = some d → d.plain = true
  | [], _, _, _, e => by simp at e
  | x :: xs, 0, _, h, e => by simp only [PyData.plainAll, Bool.and_eq_true] at h; simp at e; subst e; exact h.1
  | x :: xs, i + 1, _, h, e => by simp only [PyData.plainAll, Bool.and_eq_true] at h; exact plainAll_at (i := i) h.2 (by simpa using e)
theorem call_minX {X : Cx} (hc : X.calm = true) (hu : X.A.units + 64 < cLine) : CallR X (.builtin "min") (rBest X.K PySem.W.minD) := fun pins s σ H vs us Q I r h => by
  obtain ⟨a, ys, x, xs, rfl, hs, dp, pl, hd, al, q⟩ := h
  rw [Vals.ref1 r]
  have fin : ∀ {its : List Value} {as : List Addr}, Vals ys its → ReadsAll s.heap its (x :: xs) as → ∀ (i : Nat) v h' tk bs, its.toArray[i]? = some v → Reads h' v (PySem.W.minD x xs) bs → (∀ b o, s.heap.get? b = some o → h'.get? b = some o) → EP X pins σ Q v { s with heap := h', toks := tk } := by
    intro its as rv ra i v h' tk bs hv hr hk
    have hv' : its[i]? = some v := by simpa using hv
    obtain ⟨d, cs, e, rd⟩ := readsAll_one ra hv'
    have hl := rv.length
    have hi : i < ys.length := by rw [hl]; exact (List.getElem?_eq_some_iff.mp hv').1
    obtain ⟨v2, hv2, rel⟩ := rv.get (List.getElem?_eq_getElem hi)
    rw [hv'] at hv2; cases hv2
    have same : d = PySem.W.minD x xs := SeqAt.plain_unique d _ v _ _ (plainAll_at pl e) (Reads.keeps hk rd) hr
    exact ⟨ys[i], H, I.kept hk, rel, q i _ (List.getElem?_eq_getElem hi) (by rw [e, same])⟩
  rcases hs with hs | hs
  · obtain ⟨its, rv, pL, _⟩ := I.list hs
    obtain ⟨as, ra⟩ := Dp.readsAll I _ _ its dp rv
    exact PySem.W.min_list_data (vs := its.toArray) (I.ok.hd hc) pL.isList ra al (by omega) (fin rv ra)
  · obtain ⟨its, rv, pT, _⟩ := I.tuple hs
    obtain ⟨as, ra⟩ := Dp.readsAll I _ _ its dp rv
    exact PySem.W.min_tuple_data (vs := its.toArray) (I.ok.hd hc) pT ra al (by omega) (fin rv ra)
theorem call_maxX {X : Cx} (hc : X.calm = true) (hu : X.A.units + 64 < cLine) : CallR X (.builtin "max") (rBest X.K PySem.W.maxD) := fun pins s σ H vs us Q I r h => by
  obtain ⟨a, ys, x, xs, rfl, hs, dp, pl, hd, al, q⟩ := h
  rw [Vals.ref1 r]
  have fin : ∀ {its : List Value} {as : List Addr}, Vals ys its → ReadsAll s.heap its (x :: xs) as → ∀ (i : Nat) v h' tk bs, its.toArray[i]? = some v → Reads h' v (PySem.W.maxD x xs) bs → (∀ b o, s.heap.get? b = some o → h'.get? b = some o) → EP X pins σ Q v { s with heap := h', toks := tk } := by
    intro its as rv ra i v h' tk bs hv hr hk
    have hv' : its[i]? = some v := by simpa using hv
    obtain ⟨d, cs, e, rd⟩ := readsAll_one ra hv'
    have hl := rv.length
    have hi : i < ys.length := by rw [hl]; exact (List.getElem?_eq_some_iff.mp hv').1
    obtain ⟨v2, hv2, rel⟩ := rv.get (List.getElem?_eq_getElem hi)
    rw [hv'] at hv2; cases hv2
    have same : d = PySem.W.maxD x xs := SeqAt.plain_unique d _ v _ _ (plainAll_at pl e) (Reads.keeps hk rd) hr
    exact ⟨ys[i], H, I.kept hk, rel, q i _ (List.getElem?_eq_getElem hi) (by rw [e, same])⟩
  rcases hs with hs | hs
  · obtain ⟨its, rv, pL, _⟩ := I.list hs
    obtain ⟨as, ra⟩ := Dp.readsAll I _ _ its dp rv
    exact PySem.W.max_list_data (vs := its.toArray) (I.ok.hd hc) pL.isList ra al (by omega) (fin rv ra)
  · obtain ⟨its, rv, pT, _⟩ := I.tuple hs
    obtain ⟨as, ra⟩ := Dp.readsAll I _ _ its dp rv
    exact PySem.W.max_tuple_data (vs := its.toArray) (I.ok.hd hc) pT ra al (by omega) (fin rv ra)
theorem AtL.dpAll {F H : Hp} (sub : Sub F H) {vs : List V} {ds : List D} (h : AtL K F vs ds) (pl : PyData.plainAll ds = true) : DpAll K H vs ds := h.dp sub pl
theorem sv_best {best : D → List D → D} {o : O1} (ho' : ∀ d Qd, o d Qd → ∃ x xs, (d = .list (x :: xs) ∨ d = .tuple (x :: xs)) ∧ tame d ∧ PySem.W.AlikeAll (x :: xs) ∧ Qd (best x xs) false) : SimV1 K (fun x H Q => rBest K best [x] H Q) o := fun F H v d Qd Q sub p ho k => by
  obtain ⟨x, xs, h, td, al, q⟩ := ho' d Qd ho
  obtain ⟨a, vs, rfl, l, z, h'⟩ := p.seq sub h
  have pl : PyData.plainAll (x :: xs) = true := by
    rcases h with rfl | rfl
    · simpa [PyData.plain] using td.1
    · simpa [PyData.plain] using td.1
  have dd : PyData.depthAll (x :: xs) ≤ 50 := by
    have := td.2
    rcases h with rfl | rfl <;> simp only [PyData.depth] at this <;> omega
  refine ⟨a, vs, x, xs, rfl, ?_, l.dpAll sub pl, pl, dd, al, fun i y hy hb => ?_⟩
  · rcases h' with ⟨_, e⟩ | ⟨_, _, st, _⟩
    · exact .inl (.inl (.inl e))
    · exact .inr st
  · obtain ⟨d', e, a'⟩ := l.get hy
    rw [hb] at e; cases e
    exact k _ false y F H q (Gr.same sub) (New.at a')
theorem sv_min : SimV1 K (fun x H Q => rBest K PySem.W.minD [x] H Q) oMin := sv_best fun d Qd h => h
theorem sv_max : SimV1 K (fun x H Q => rBest K PySem.W.maxD [x] H Q) oMax := sv_best fun d Qd h => h
/-! ### sorted -/
abbrev pairSort (ys : List V) (ds : List D) : List (V × D) := (ys.zip ds).mergeSort (PySem.W.dataLe false fun b : V × D => b.2)
def rSortedX (K : PySem.W.Frag) : List V → Hp → VK → Prop := fun vs H Q => ∃ (a : Addr) (ys : List V) (ds : List D), vs = [.ref a] ∧ SqL K H a ys ∧ DpAll K H ys ds ∧ PyData.plainAll ds = true ∧ PyData.depthAll ds ≤ 50 ∧ PySem.W.AllAlike ds ∧ PySem.W.Sortable ds ∧ ys.length ≤ sizeLine ∧
  ∀ p, H p = none → Q (.ref p) (upd H p (.lst ((pairSort ys ds).map (·.1))))
theorem each_pairs {h : Heap} : ∀ {ys : List V} {its : List Value} {ds : List D} {as : List Addr}, Vals ys its → ReadsAll h its ds as → PySem.W.EachIs (fun v (b : V × D) => RelV b.1 v) its (ys.zip ds) ∧ PySem.W.EachIs (fun v (b : V × D) => ∃ as, Reads h v b.2 as) its (ys.zip ds)
  | _, _, _, _, .nil, .nil => ⟨.nil, .nil⟩
  | _, _, _, _, .cons r rs, .cons q qs => ⟨.cons r (each_pairs rs qs).1, .cons ⟨_, q⟩ (each_pairs rs qs).2⟩
theorem vals_pairs : ∀ {out : List Value} {bs : List (V × D)}, PySem.W.EachIs (fun v (b : V × D) => RelV b.1 v) out bs → Vals (bs.map (·.1)) out
  | _, _, .nil => .nil
  | _, _, .cons r rs => .cons r (vals_pairs rs)
theorem zip_snd : ∀ {ys : List V} {ds : List D}, ys.length = ds.length → (ys.zip ds).map (·.2) = ds
  | [], [], _ => rfl
  | _ :: ys, _ :: ds, h => congrArg _ (zip_snd (ys := ys) (ds := ds) (Nat.succ.inj h))
  | [], _ :: _, h => nomatch h
  | _ :: _, [], h => nomatch h
theorem depth_at : ∀ {ds : List D} {d : D}, d ∈ ds → d.depth ≤ PyData.depthAll ds
  | x :: xs, d, h => by
    rw [PyData.depthAll]
    rcases List.mem_cons.mp h with rfl | h
    · exact Nat.le_max_left _ _
    · exact Nat.le_trans (depth_at h) (Nat.le_max_right _ _)
theorem call_sortedX {X : Cx} (hu : X.A.units + 64 < cLine) : CallR X (.builtin "sorted") (rSortedX X.K) := fun pins s σ H vs us Q I r h => by
  obtain ⟨a, ys, ds, rfl, hs, dp, pl, hd, al, so, hl, q⟩ := h
  rw [Vals.ref1 r]
  obtain ⟨its, rv, pL, _⟩ := I.list hs
  obtain ⟨as, ra⟩ := Dp.readsAll I _ _ its dp rv
  obtain ⟨e1, e2⟩ := each_pairs rv ra
  have ll := dpAll_len dp
  have zs := zip_snd ll
  have zl : (ys.zip ds).length = ys.length := by rw [List.length_zip, ll, Nat.min_self]
  refine PySem.W.sorted_data (enc := fun b : V × D => b.2) (R := fun v b => RelV b.1 v) pL.isList e1 e2 (by rw [zs]; exact al) (by rw [zs]; exact so) (by rw [zl]; exact hl) (fun b hb => ?_) fun out ho e3 => ?_
  · have hm : b.2 ∈ ds := by rw [← zs]; exact List.mem_map.mpr ⟨b, hb, rfl⟩
    have := depth_at hm
    omega
  · obtain ⟨ep, he⟩ := sortedAll_at s.heap its (List.toArray out)
    have len : ((pairSort ys ds).map (·.1)).length ≤ sizeLine := by rw [List.length_map, List.length_mergeSort, zl]; exact hl
    exact ⟨.ref _, upd H (s.heap.objs.size + 1) (.lst ((pairSort ys ds).map (·.1))), I.laid (t' := s.toks) (fun _ _ => sortedAll_old) (Nat.le_succ _) ⟨len, out, ep, vals_pairs e3, he⟩, rfl, q _ (I.hok.fresh (Nat.le_succ _))⟩
theorem atL_pairs {F : Hp} : ∀ {bs : List (V × D)}, (∀ b ∈ bs, At K F b.1 b.2) → AtL K F (bs.map (·.1)) (bs.map (·.2))
  | [], _ => .nil
  | b :: bs, h => .cons (h b (List.mem_cons_self ..)) (atL_pairs fun c hc => h c (List.mem_cons_of_mem _ hc))
theorem AtL.zipAt {F : Hp} : ∀ {ys : List V} {ds : List D}, AtL K F ys ds → ∀ b ∈ ys.zip ds, At K F b.1 b.2
  | _, _, .nil, b, h => by simp at h
  | _, _, .cons r t, b, h => by
    rw [List.zip_cons_cons] at h
    rcases List.mem_cons.mp h with rfl | h
    · exact r
    · exact t.zipAt b h
theorem sv_sorted : SimV1 K (fun x H Q => rSortedX K [x] H Q) oSorted := fun F H v d Qd Q sub p ho k => by
  obtain ⟨ds, rfl, td, al, so, q⟩ := ho
  obtain ⟨a, ys, rfl, e, l, z⟩ := p.list sub
  have pl : PyData.plainAll ds = true := by simpa [PyData.plain] using td.1
  have dd : PyData.depthAll ds ≤ 50 := by
    have := td.2
    simp only [PyData.depth] at this
    omega
  refine ⟨a, ys, ds, rfl, .inl (.inl e), l.dpAll sub pl, pl, dd, al, so, by rw [l.length]; exact z, fun r hr => ?_⟩
  have e2 : (pairSort ys ds).map (·.2) = sortD ds := by
    have h := List.map_mergeSort (r := PySem.W.dataLe false fun b : V × D => b.2) (s := PySem.W.dataLe false id) (f := fun b : V × D => b.2) (l := ys.zip ds) (fun _ _ _ _ => rfl)
    rw [zip_snd l.length] at h
    exact h
  have la : AtL K F ((pairSort ys ds).map (·.1)) (sortD ds) := e2 ▸ atL_pairs fun b hb => l.zipAt b (List.mem_mergeSort.mp hb)
  exact k _ true _ F _ q (Gr.own sub hr) ⟨(fun z => nomatch z), fun _ => ⟨r, rfl, noTab_none hr, sub_none sub hr, _, upd_same, la, by unfold sortD; rw [List.length_mergeSort]; exact z⟩⟩
/-! ### sum of a list, a tuple of ints -/
theorem sum_tup {prog : Program} {w : World} {A : Around} {E : Value → Shared → Prop} {s : Shared} {l : Addr} {its : List Value} {ns : List Int} {Q : Value → Shared → Prop} (hh : A.handled = none) (hl : s.heap.IsTuple l its.toArray) (hi : IntsAre its ns)
    (h : ∀ h' tk t', (∀ b o, s.heap.get? b = some o → h'.get? b = some o) → Q (.int ns.sum t') { s with heap := h', toks := tk }) : wpAny (model prog w) A (call (.builtin "sum") [.ref l]) Q E s := by
  obtain ⟨xs, e⟩ := hi.allInts.items
  have hn : numsOf (intItems xs).toList = ns := by rw [← e]; exact hi.numsOf
  rw [nums_intItems] at hn
  rw [e] at hl
  have hlt : l < s.heap.objs.size := by
    obtain ⟨_, z, _⟩ := hl
    exact Heap.lt_size z
  refine call_sum_walkG (wpAny_pyIter_tuple hl ?_)
  refine ⟨_, _, _, _, _, _, numAt xs, rfl, Walks.tuple (A := A.in1) hh s.heap.objs.size l (Nat.ne_of_lt hlt) (intItems xs), ⟨⟨_, Heap.get?_push_size _ rfl, rfl, rfl⟩, hl.push _⟩, ?_, (fun _ _ => intItems_at), fun h' tk t' hk => ?_⟩
  · intro b hb
    rw [Heap.size_push]
    rcases List.mem_cons.mp hb with rfl | hb
    · exact Nat.lt_succ_self _
    · rw [List.mem_singleton.mp hb]; exact Nat.lt_succ_of_lt hlt
  · have z := h h' tk t' fun b o eb => hk b o (fun hb => absurd (Heap.lt_size eb) ((List.mem_singleton.mp hb) ▸ Nat.lt_irrefl _)) (Heap.get?_push_of_some _ eb)
    have e2 : preSum (numAt xs) (intItems xs).size = ns.sum := by
      rw [preSum_eq, List.take_of_length_le (by simp [intItems]), hn]
    rw [e2]
    exact z
def rSumX (K : PySem.W.Frag) : List V → Hp → VK → Prop := fun vs H Q => ∃ (a : Addr) (ns : List Int), vs = [V.ref a] ∧ (SqL K H a (ns.map V.int) ∨ SqT K H a (ns.map V.int)) ∧ Q (.int ns.sum) H
theorem call_sumX {X : Cx} (hc : X.calm = true) : CallR X (.builtin "sum") (rSumX X.K) := fun pins s σ H vs us Q I r h => by
  obtain ⟨a, ns, rfl, hs, q⟩ := h
  rw [Vals.ref1 r]
  rcases hs with hs | hs
  · obtain ⟨its, rv, hl, _⟩ := I.list hs
    exact sum_raw (I.ok.hd hc) hl.isList rv.ints fun h' tk t' hk => ⟨.int _, H, I.kept hk, ⟨_, rfl⟩, q⟩
  · obtain ⟨its, rv, hl, _⟩ := I.tuple hs
    exact sum_tup (I.ok.hd hc) hl rv.ints fun h' tk t' hk => ⟨.int _, H, I.kept hk, ⟨_, rfl⟩, q⟩
theorem sv_sum : SimV1 K (fun x H Q => rSumX K [x] H Q) oSum := fun F H v d Qd Q sub p ho k => by
  obtain ⟨ns, h, q⟩ := ho
  obtain ⟨a, vs, rfl, l, z, h'⟩ := p.seq sub h
  rw [l.ints] at h'
  refine ⟨a, ns, rfl, ?_, k _ false _ F H q (Gr.same sub) (New.at (.int _))⟩
  rcases h' with ⟨_, e⟩ | ⟨_, _, st, _⟩
  · exact .inl (.inl (.inl e))
  · exact .inr st
end
end Dl
set_option maxRecDepth 100000
set_option maxHeartbeats 1000000
/-! DsT: a law's told: a lambda handed to a def that tries it, and tells the errors. -/
namespace Dl
open PySem PySem.Spec PyProof.Rows L2
set_option autoImplicit false
/-! ### [.. for k in range(..) if ..] within an except suite -/
/-- the block's context: q is the handled exception's object -/
abbrev hblk (X : Cx) (s : Shared) (H : Hp) (scope : Scope) (ce : PySem.Env) (fp : List Addr) (q : Addr × Obj) : Cx := { X.blk s H scope ce fp with pn := [q] }
theorem hblk_in {X : Cx} {s s' : Shared} {H H' : Hp} {scope : Scope} {ce : PySem.Env} {fp : List Addr} {q : Addr × Obj} {pins : List (Addr × Obj)} {σ : L2.St} (I : Inv (X.blk s H scope ce fp) pins σ H' s')
    (hq : s'.heap.get? q.1 = some q.2 ∧ H' q.1 = none ∧ q.1 ≠ ce.locals ∧ q.1 ∉ frs X.stack ∧ ∀ v, q.2.data ≠ .cell v) : Inv (hblk X s H scope ce fp q) pins σ H' s' := by
  have o := I.ok
  refine ⟨⟨o.mod, o.kind, o.glob, o.blt, o.above, o.inj, o.has, o.cab, o.hd, o.frames, o.stk, o.exf, o.bs, o.bsz, o.noex, o.exfs, o.funs, o.frf⟩, I.os, I.bare, I.base, I.loc, I.cell, I.free, I.freeC, ?_, I.hok, I.len⟩
  intro r hr
  rcases List.mem_cons.mp (show r ∈ q :: pins from hr) with rfl | hr
  · exact hq
  · exact I.pin r (show r ∈ [] ++ pins from hr)
section
variable {X : Cx} {pins : List (Addr × Obj)} {s : Shared} {σ : L2.St} {H : Hp} {Q : VK} {elt tg iter : Expr} {ifs : List Expr} {scope : Scope} {own : List (Str × Nat)} {pos pos' : Pos} {wi : TI} {g : TG} {tt : TT} {te : TE} {use : Option (Value → Sem Unit)} {Qf : Value → Shared → Prop}
theorem hot_core {q : Addr × Obj} (hot : L2H.Hot1 X.A q) (hq : q ∈ X.pn) (nd : X.N.Nodup) (I : Inv X pins σ H s) (hi : L2H.PIH X tg iter wi) (ok : BlkOk X.N X.env.scope scope own)
    (hg : ∀ (s : Shared) (H : Hp) (C : Addr) (cl : List (Str × Addr)) (fp : List Addr), PG (hblk X s H scope (compEnvC scope cl C X.env) fp q) tg g)
    (ht : ∀ (s : Shared) (H : Hp) (C : Addr) (cl : List (Str × Addr)) (fp : List Addr), PTs (hblk X s H scope (compEnvC scope cl C X.env) fp q) ifs tt)
    (he : ∀ (s : Shared) (H : Hp) (C : Addr) (cl : List (Str × Addr)) (fp : List Addr), PE (hblk X s H scope (compEnvC scope cl C X.env) fp q) elt te)
    (hs : ∀ x, foldedSetIterable iter X.env x = pure x) (h : tLc wi g tt te (own.map (·.2)) σ H Q)
    (out : ∀ D C s' m H', Inv X pins σ H' s' → Q (.ref D) H' → s'.heap.Ns C m → FpOk X pins H' C → compPost (model X.prog X.w) X.A X.xe use Qf (.ref D) C (.ok .next) s') :
    wpAny (model X.prog X.w) X.A (comprehension (.ListComp elt [⟨tg, iter, ifs, 0⟩] scope pos) scope X.env pos' (newList []) false (eval iter X.env) use) Qf X.xe s := by
  have seen : ∀ y ∈ scope.names, y.2 = .free → ∃ c, X.env.cells.lookup y.1 = some c := by
    intro y hy e
    cases ok.free y hy e with
    | inl k => exact I.ok.has _ (.inl k)
    | inr k => exact I.ok.has _ (.inr k)
  refine wpAny_comprehension_free (use := use) rfl hs (closure_ok seen) ok.kind (fun y hy e => (ok.uniq y hy).trans (by rw [e])) ?_
  refine thn (hi.run pins s σ H _ I h) fun _ _ hx => thn hx ?_
  rintro _ s2 ⟨it, fp, tn, J, H2, rfl, I2, T, st2, f2, hD2⟩
  refine wpAny_newObj_type (newEnv_comp ?_) (Nat.zero_le sizeLine)
  obtain ⟨D, hD⟩ : ∃ D, D = s2.heap.objs.size := ⟨_, rfl⟩
  rw [← hD]
  have fresh : H2 D = none := I2.hok.fresh (Nat.le_of_eq hD.symm)
  obtain ⟨W, ⟨m0, start⟩, turn⟩ := hD2 D fresh
  have grown : ∀ b o, s2.heap.get? b = some o → (s2.heap.push { cls := .type "list", data := .seq ([] : List Value).toArray }).get? b = some o := fun b o e => Heap.get?_push_of_some _ e
  have I3 : Inv X pins σ (upd H2 D (.lst [])) { s2 with heap := s2.heap.push { cls := .type "list", data := .seq ([] : List Value).toArray } } :=
    I2.laid (t' := s2.toks) grown (Nat.le_of_eq hD.symm) ⟨Nat.zero_le _, [], 0, .nil, by rw [hD]; exact Heap.get?_push_size _ rfl⟩
  have low : ∀ b ∈ fp, b < s2.heap.objs.size := by
    intro b hb
    obtain ⟨o, e, _⟩ := T.obj _ _ st2 b hb
    exact Heap.lt_size e
  have f3 : ∀ b ∈ fp, FpOk X pins (upd H2 D (.lst [])) b ∧ b < (s2.heap.push { cls := .type "list", data := .seq ([] : List Value).toArray }).objs.size := by
    intro b hb
    constructor
    · refine ⟨?_, (f2 b hb).2⟩
      rw [upd_ne (show b ≠ D by rw [hD]; exact Nat.ne_of_lt (low b hb))]
      exact (f2 b hb).1
    · rw [Heap.size_push]; exact Nat.lt_succ_of_lt (low b hb)
  have st3 : tn 0 (s2.heap.push { cls := .type "list", data := .seq ([] : List Value).toArray }) := T.keep _ _ _ st2 fun b _ => grown b
  revert I3 f3 st3
  generalize hs3 : ({ s2 with heap := s2.heap.push { cls := .type "list", data := .seq ([] : List Value).toArray } } : Shared) = s3
  have e3 : s2.heap.push { cls := .type "list", data := .seq ([] : List Value).toArray } = s3.heap := by rw [← hs3]
  rw [e3]
  intro I3 f3 st3
  have K4 := block_start I3 ok nd f3
  generalize hcl : cellsFrom (s3.heap.objs.size + 1) scope.names (cloFrom X.env.cells scope.names []) = cl at K4
  have pg := hg s3 (upd H2 D (.lst [])) s3.heap.objs.size cl fp
  have pt := ht s3 (upd H2 D (.lst [])) s3.heap.objs.size cl fp
  have pe := he s3 (upd H2 D (.lst [])) s3.heap.objs.size cl fp
  have bare3 : ∀ b ∈ fp, (upd H2 D (.lst [])) b = none := fun b hb => (f3 b hb).1.1
  show codeAny _ _ (.compStart (.ListComp elt [⟨tg, iter, ifs, 0⟩] scope pos) 0 (.ref it) (.ref D) (compEnvC scope cl s3.heap.objs.size X.env)) (compPost (model X.prog X.w) X.A X.xe use Qf (.ref D) s3.heap.objs.size) { s3 with heap := pushCells (s3.heap.push { cls := .type "dict", data := .dict #[] }) scope.names }
  generalize hce : compEnvC scope cl s3.heap.objs.size X.env = ce at K4 pg pt pe ⊢
  have cL : ce.locals = s3.heap.objs.size := by rw [← hce]; rfl
  generalize hH3 : upd H2 D (.lst []) = H3 at I3 K4 pg pt pe start bare3 f3
  generalize hs4 : ({ s3 with heap := pushCells (s3.heap.push { cls := .type "dict", data := .dict #[] }) scope.names } : Shared) = s4 at K4 ⊢
  have kept4 : ∀ b o, s3.heap.get? b = some o → s4.heap.get? b = some o := fun b o e => by rw [← hs4]; exact pushCells_keeps _ _ _ _ (Heap.get?_push_of_some _ e)
  have st4 : tn 0 s4.heap := T.keep _ _ _ st3 fun b _ => kept4 b
  have I4 : Inv (hblk X s3 H3 scope ce fp q) [] (L2.wipe σ (own.map (·.2))) H3 s4 := by
    obtain ⟨q1, q2, q3, q4, q5⟩ := I3.pin q (List.mem_append_left _ hq)
    refine hblk_in K4 ⟨kept4 _ _ q1, q2, ?_, fun z => ?_, q5⟩
    · rw [cL]; exact Nat.ne_of_lt (Heap.lt_size q1)
    · rcases List.mem_cons.mp (I3.stkSub _ z) with z | z
      · exact q3 z
      · exact q4 z
  have hotB : L2H.HotC (hblk X s3 H3 scope ce fp q) := ⟨q, hot, List.mem_singleton.mpr rfl⟩
  have foot : ∀ {σ' : L2.St} {H' : Hp} {s' : Shared}, Inv (hblk X s3 H3 scope ce fp q) [] σ' H' s' → (∀ b ∈ fp, H' b = none) → ∀ b ∈ fp, FpOk (hblk X s3 H3 scope ce fp q) [] H' b := by
    intro σ' H' s' J hn b hb
    refine ⟨hn b hb, (J.ok.exf b hb).1, J.ok.exfs b hb, .inl hb, fun x c e => (J.ok.exf b hb).2 x c e, fun p hp => ?_⟩
    have e : p = q := by simpa using (show p ∈ [q] ++ [] from hp)
    subst e
    exact (f3 b hb).1.2.2.2.2.2 p (List.mem_append_left _ hq)
  have round : codeAny (model X.prog X.w) X.A (.compLoop (.ListComp elt [⟨tg, iter, ifs, 0⟩] scope pos) 0 (.ref it) (.ref D) ce) (compPost (model X.prog X.w) X.A X.xe use Qf (.ref D) s3.heap.objs.size) s4 := by
    refine compLoop_any (fun n s' => ∃ i H', Inv (hblk X s3 H3 scope ce fp q) [] (L2.wipe σ (own.map (·.2))) H' s' ∧ tn i s'.heap ∧ (∀ b ∈ fp, H' b = none) ∧ W i n H') ?_ m0 ⟨0, H3, I4, st4, bare3, start⟩
    rintro n s5 ⟨i, H5, I5, st5, n5, w5⟩
    cases turn i n H5 w5 with
    | inl stop =>
      refine thnF (T.done (hblk X s3 H3 scope ce fp q) rfl rfl rfl hotB i [] s5 _ H5 (fun _ _ => False) I5 (foot I5 n5) st5 stop.1) ?_
      rintro r s6 ⟨rfl, I6⟩
      have back : Inv X pins σ H5 s6 := I3.call' (ch := fp) I6.os I6.base I6.hok I6.bare fun b hb => by
        obtain ⟨x, _⟩ := f3 b hb
        exact ⟨x.2.2.2.1, x.2.1, x.2.2.2.2.1, x.2.2.2.2.2⟩
      have no : H5 s3.heap.objs.size = none := cL ▸ I6.free
      obtain ⟨m, hn, _⟩ := I6.loc
      exact out D s3.heap.objs.size s6 m H5 back stop.2 (cL ▸ hn) (I3.fpOk (Nat.le_refl _) no)
    | inr go =>
      obtain ⟨go, Nx, hNx, step⟩ := go
      refine thnF (T.item (hblk X s3 H3 scope ce fp q) rfl rfl rfl hotB i [] s5 _ H5 (fun _ _ => False) I5 (foot I5 n5) st5 go) ?_
      rintro r s6 ⟨u, rfl, h6⟩
      refine thnF h6 ?_
      rintro _ s7 ⟨x, H7, I7, r7, y7, st7, n7⟩
      have P7 := I7.pinned (foot I7 n7) (T.obj _ _ st7)
      refine thnF (pg.run _ s7 _ H7 x u _ P7 r7 (step x H7 y7)) ?_
      rintro _ s8 ⟨σ8, H8, I8, hw8, q8⟩
      refine thnF (pt.run _ s8 σ8 H8 _ I8 q8) ?_
      rintro b s9 ⟨H9, I9, q9⟩
      have again : ∀ {s' : Shared} {H' : Hp}, Inv (hblk X s3 H3 scope ce fp q) ([] ++ pinsAt fp s7.heap) σ8 H' s' → Nx H' → ∃ m, m < n ∧ ∃ i H', Inv (hblk X s3 H3 scope ce fp q) [] (L2.wipe σ (own.map (·.2))) H' s' ∧ tn i s'.heap ∧ (∀ b ∈ fp, H' b = none) ∧ W i m H' := by
        intro s' H' J nx
        obtain ⟨m', hm, w'⟩ := hNx H' nx
        have pin' : ∀ b ∈ fp, ∀ o, s7.heap.get? b = some o → s'.heap.get? b = some o ∧ H' b = none := by
          intro b hb o e
          obtain ⟨z1, z2, _⟩ := J.pin (b, o) (List.mem_append_right _ (List.mem_append_right _ (mem_pinsAt hb e)))
          exact ⟨z1, z2⟩
        have len : (L2.wipe σ (own.map (·.2))).length = σ8.length := (congrArg List.length hw8).symm.trans (wipe_length _ _)
        refine ⟨m', hm, i + 1, H', (J.unpinned (pins := [])).weak len ?_, T.keep _ _ _ st7 fun b hb o e => (pin' b hb o e).1, ?_, w'⟩
        · intro j v e
          exact (wipe_some (hw8 ▸ e)).1
        · intro b hb
          obtain ⟨o, e, _⟩ := T.obj _ _ st7 b hb
          exact (pin' b hb o e).2
      match b, q9 with
      | false, q9 => exact again I9 q9
      | true, q9 =>
        refine thnF (pe.run _ s9 σ8 H9 _ I9 q9) ?_
        rintro z s10 ⟨yv, H10, I10, r10, acc, hD10, hz10, nx⟩
        exact app_ok (X := hblk X s3 H3 scope ce fp q) I10 hD10 hz10 r10 fun s11 I11 => again I11 nx
  exact codeAny_compStart_list round (T.self X.A 0 _ _ _ st4 round)
/-- y = [.. for .. in range(..) if ..] there, y a local -/
theorem ps_setHot {i : Nat} {y : Str} {py spos : Pos} {q : Addr × Obj} (hot : L2H.Hot1 X.A q) (hq : q ∈ X.pn) (nd : X.N.Nodup) (hy : X.N[i]? = some y) (hyl : X.env.scope.names.lookup y = some .local)
    (hsw : swapsWith (.ListComp elt [⟨tg, iter, ifs, 0⟩] scope pos) (some (.Name y py)) spos.line X.env = pure true) (hi : L2H.PIH X tg iter wi) (ok : BlkOk X.N X.env.scope scope own)
    (hg : ∀ (s : Shared) (H : Hp) (C : Addr) (cl : List (Str × Addr)) (fp : List Addr), PG (hblk X s H scope (compEnvC scope cl C X.env) fp q) tg g)
    (ht : ∀ (s : Shared) (H : Hp) (C : Addr) (cl : List (Str × Addr)) (fp : List Addr), PTs (hblk X s H scope (compEnvC scope cl C X.env) fp q) ifs tt)
    (he : ∀ (s : Shared) (H : Hp) (C : Addr) (cl : List (Str × Addr)) (fp : List Addr), PE (hblk X s H scope (compEnvC scope cl C X.env) fp q) elt te)
    (hs : ∀ x, foldedSetIterable iter X.env x = pure x := by intro _; rfl) :
    PS X (.Assign [.Name y py] (.ListComp elt [⟨tg, iter, ifs, 0⟩] scope pos) spos) (tAsg (tLc wi g tt te (own.map (·.2))) (gName i)) := by
  constructor
  intro pins s σ H D I h
  rw [exec_Assign_Name_used _ _ _ _ hsw]
  refine wpAny_bind (wpAny_standAt (wpAny_bind ?_))
  have want : tLc wi g tt te (own.map (·.2)) σ H (fun x H1 => gName i x σ H1 D.nx) := h
  have run := hot_core (Qf := fun _ s' => SP X pins D .next s') (use := some (assign (.Name y py) X.env)) (pos := pos) (pos' := firstIterPos [⟨tg, iter, ifs, 0⟩] pos) hot hq nd I hi ok hg ht he hs want ?_
  · exact wpAny_bind (thn run fun _ s' hq => wpAny_pure (wpAny_pure hq))
  intro L C s' m H' I' goal hn f
  show wpAny _ _ (assign (.Name y py) X.env (.ref L)) _ _ _
  refine wpAny_assign_Name (store_ok2 (v := V.ref L) I' nd hy (.inl hyl) rfl ?_ (.inr hyl))
  rintro s2 I2 ⟨a, sb, ha⟩
  obtain ⟨f0, f1, f2, f3, f4, f5⟩ := f
  have apart : C ≠ a := by
    cases ha with
    | inl z => rw [z]; exact f1
    | inr z => exact fun e => f4 y a z e.symm
  refine ⟨m, hn.sameBut sb apart, fun h3 sb3 => ⟨_, H', ?_, goal⟩⟩
  exact I2.turned (t' := s2.toks) (fun b o hb e => (sb3.2 b hb).trans e) f0 f1 f3 f4 f5
end

/-! ### a lambda without parameters, handed to a def that calls it -/
open LamX
theorem passN {X : Cx} : Passes (L2N.CX X.prog X.w) X (fun _ _ _ => False) := fun pins σ H s e s' I c => by
  obtain ⟨_, _, _, _, _, _, _, _, _, _, _, _, z⟩ := c
  exact z.elim
/-- the lambda's body, its errors told with their context -/
abbrev lcx (X : Cx) (A : Around) (outer : List PySem.Env) (s : Shared) (H : Hp) (E : XK) (scope : Scope) (f c' : Addr) : Cx :=
  { lamCx X A outer s H E scope f c' with
    xe := fun e s' => wpAny (model X.prog X.w) (A.deeper (lamEnv X scope s.heap.objs.size f c')) (leaving (lamEnv X scope s.heap.objs.size f c') e) (fun _ s'' => L2N.CX X.prog X.w outer H s E e s'') (fun e' s'' => L2N.CX X.prog X.w outer H s E e' s'') s' }
theorem lcx_in {X : Cx} {A : Around} {outer : List PySem.Env} {s s1 : Shared} {H H1 : Hp} {E : XK} {scope : Scope} {f c' : Addr} {pins : List (Addr × Obj)} {σ : L2.St} (I : Inv (lamCx X A outer s H E scope f c') pins σ H1 s1) : Inv (lcx X A outer s H E scope f c') pins σ H1 s1 := by
  have o := I.ok
  exact ⟨⟨o.mod, o.kind, o.glob, o.blt, o.above, o.inj, o.has, o.cab, o.hd, o.frames, o.stk, o.exf, o.bs, o.bsz, o.noex, o.exfs, o.funs, o.frf⟩, I.os, I.bare, I.base, I.loc, I.cell, I.free, I.freeC, I.pin, I.hok, I.len⟩
section
variable {X : Cx} {A : Around} {outer : List PySem.Env} {s : Shared} {H : Hp} {E : XK} {scope : Scope} {f c' : Addr}
theorem lcx_takes : L2N.Takes (lcx X A outer s H E scope f c') (fun cls d _ H => E cls d H) := L2N.takes_of rfl rfl rfl rfl
theorem lcx_pass : Passes (L2N.CX X.prog X.w) (lcx X A outer s H E scope f c') E := fun pins σ H' s' e s2 I c => L2N.passes_call lcx_takes (fun _ _ _ _ h => h) pins σ H' s' e s2 I c
end
section
variable {X : Cx} {pins : List (Addr × Obj)} {σ : L2.St} {H HZ : Hp} {s s1 : Shared}
/-- x(), where x holds the lambda -/
theorem pe_actN {Eg : XK} {Ng : List Str} {qg : Str} {sg : Scope} {g f c' : Addr} {cdg pm ctv : Value} {params : Arguments} {body : Expr} {scope : Scope} {k i : Nat} {a : Str} {pn : List (Addr × Obj)} {xe : Value → Shared → Prop} {W : WX} {E : XK} {tb : TE} {p1 p2 : Pos}
    (I : Inv X pins σ H s) (L : LamS X.env.scope scope) (hf : s.heap.get? f = some (PySem.W.kla_obj "<lambda>" (X.env.qual ++ "<lambda>") params body scope (cloFrom X.env.cells scope.names []) pm c' ctv)) (hfn : H f = none) (hfr : f ∉ frs X.stack)
    (hbind : bindArgs (PySem.W.kla_fn "<lambda>" (X.env.qual ++ "<lambda>") params body scope (cloFrom X.env.cells scope.names []) pm (.ref c') ctv) ⟨[], []⟩ = pure [])
    (tk : L2N.Takes ((cxOf (L2N.CX X.prog X.w) X.prog X.w X.K X.mg X.base Ng qg sg g cdg X.A X.stack s H Eg).tr pn xe) W) (hW : ∀ (cls : Value) (d : Option Addr) (σ' : L2.St) (H' : Hp), σ'.length = Ng.length → E cls d H' → W cls d σ' H') (hr : Room (k + 1) (X.A.deeper (envOfC qg sg s.heap.objs.size g cdg)))
    (hbody : ∀ (A : Around) (outer : List PySem.Env) (s : Shared) (H : Hp), Room k (A.deeper (lamEnv X scope s.heap.objs.size f c')) → PE (lcx X A outer s H E scope f c') body tb)
    (hN : Ng[i]? = some a) (hv : Vis sg a) (hd : (a == ("__debug__" : Str)) = false := by decide) (hcd : (a == ("__classdict__" : Str)) = false := by decide) :
    PE ((cxOf (L2N.CX X.prog X.w) X.prog X.w X.K X.mg X.base Ng qg sg g cdg X.A X.stack s H Eg).tr pn xe) (.Call (.Name a p1) [] [] p2)
      (fun σZ HZ Q => σZ[i]? = some (some (.ref f)) ∧ HZ c' = some (CodeO c' (X.env.qual ++ "<lambda>")) ∧ tb σ HZ Q) := by
  constructor
  rintro pZ sZ σZ HZ Q IZ ⟨slot, code, want⟩
  have name := (pe_var (pos := p1) (i := i) hN hv hd hcd).run pZ sZ σZ HZ (fun v H1 => v = .ref f ∧ H1 = HZ) IZ ⟨.ref f, slot, rfl, rfl⟩
  refine wpAny_Call_Name_kw (thn name ?_)
  rintro u s1 ⟨v, H1, I1, r1, rfl, rfl⟩
  obtain rfl : u = Value.ref f := r1
  have there := I1.base.keep f _ hf hfn hfr (fun z => nomatch (show f ∈ ([] : List Addr) from z))
  refine PySem.W.callWith_F0 ⟨_, _, _, _, there⟩ ?_
  have un : Un (frs X.stack) [] H H1 s.heap s1.heap := I1.base
  obtain ⟨⟨oc, vs, t, e1, e2, e3⟩, _⟩ := I1.hok c' _ code
  have ran : codeAny (model X.prog X.w) (X.A.deeper (envOfC qg sg s.heap.objs.size g cdg)) (.call (.ref f) ⟨[], []⟩) (CR (L2N.CX X.prog X.w) (envOfC qg sg s.heap.objs.size g cdg :: X.stack) X.prog X.w H1 s1 Q E) s1 := by
    refine PySem.W.kla_callFunE hr.depth there rfl L.co L.gen rfl ⟨c', oc, vs, t, rfl, e1, e2, e3⟩ ?_
    rw [hbind]
    refine wpAny_pure (wpAny_newFunctionEnv (fun y hy => (L.own y hy).2) (fun y hy => nomatch hy) (fun h₁ hns hsb => ⟨I1.nolimit.fresh _ hsb, ?_⟩) L.kind)
    have kept : ∀ b o, s1.heap.get? b = some o → h₁.get? b = some o := fun b o e => hsb.extBut b o (Nat.ne_of_lt (Heap.lt_size e)) (Heap.get?_push_of_some _ e)
    have J := lcx_in (lam_start2 (A := X.A.deeper (envOfC qg sg s.heap.objs.size g cdg)) (E := E) (f := f) (c' := c') (tk := s1.toks + ([] : List (Str × Value)).length) I L I1.env0 hr.hd un hns kept)
    show codeAny _ _ (.expr body (lamEnv X scope s1.heap.objs.size f c')) _ _
    refine PySem.W.kla_codeExpr (wpAny_mono ((hbody _ _ s1 H1 (hr.deeper _)).run [] _ _ H1 Q J want) ?_ fun e s' hq => hq)
    rintro v s' ⟨w', H', J', rv, q⟩
    exact ⟨w', H', J'.os, J'.bare, J'.base, J'.hok, rv, q⟩
  refine wpAny_call (codeAny_mono ran ?_)
  intro r s' hq
  match r, hq with
  | .error e, hq => exact tk e s' (L2N.XE.of_call I1 (fun cls d H2 h => hW cls d σZ H2 I1.len h) hq)
  | .ok (.ret u), hq => exact I1.after hq
  | .ok .next, hq => exact hq.elim
  | .ok .brk, hq => exact hq.elim
  | .ok .cont, hq => exact hq.elim
end

abbrev noE : XK := fun _ _ _ => False
/-- the def that calls what it got: a calls it; TT: what it makes of the lambda's reading -/
def GivesN (X : Cx) (Ng : List Str) (x : Str) (sg : Scope) (g : Addr) (cdg : Value) (bg : List Stmt) (a : Str) (q : Str) (TT : (XK → Hp → VK → Prop) → Hp → VK → Prop) : Prop :=
  ∀ (f c' : Addr) (s : Shared) (H : Hp) (Q : VK) (tl : XK → Hp → VK → Prop),
    (∀ (W : WX) (pn : List (Addr × Obj)) (xe : Value → Shared → Prop) (E : XK) (p1 p2 : Pos), L2N.Takes ((cxOf (L2N.CX X.prog X.w) X.prog X.w X.K X.mg X.base Ng x sg g cdg X.A X.stack s H noE).tr pn xe) W → (∀ (cls : Value) (d : Option Addr) (σ' : L2.St) (H' : Hp), σ'.length = Ng.length → E cls d H' → W cls d σ' H') →
      PE ((cxOf (L2N.CX X.prog X.w) X.prog X.w X.K X.mg X.base Ng x sg g cdg X.A X.stack s H noE).tr pn xe) (.Call (.Name a p1) [] [] p2) (fun σZ HZ Q => σZ[0]? = some (some (.ref f)) ∧ HZ c' = some (CodeO c' q) ∧ tl E HZ Q)) →
    H c' = some (CodeO c' q) → TT tl H Q →
    ∃ t, PSs (cxOf (L2N.CX X.prog X.w) X.prog X.w X.K X.mg X.base Ng x sg g cdg X.A X.stack s H noE) bg t ∧ t { nx := fun _ H' => Q .non H', rt := Q } (L2.start Ng [.ref f]) H
section
variable {X : Cx}
theorem pe_lamN {T : List (Addr × Str)} {TT : (XK → Hp → VK → Prop) → Hp → VK → Prop} {x a : Str} {g c P : Addr} {k : Nat} {pg : Arguments} {bg : List Stmt} {sg : Scope} {dV kV doc pm cdv ct oc : Value} {an od : Option Addr} {osl : Array (Option Value)} {Ng : List Str}
    {params : Arguments} {body : Expr} {scope : Scope} {t : XK → TE} {p lpos pos : Pos} (hg : Gl X x) (hm : X.mg x = some (.ref g)) (hk : PySem.W.keepIn X.K (.ref g) = true)
    (lk : X.K.lookup g = some ⟨oc, od, .func (PySem.W.fnOf x x pg bg sg dV kV doc pm an cdv ct), osl⟩) (hcg : PySem.W.codeIn X.K cdv x = true) (hb : L2.Binds X.K (PySem.W.fnOf x x pg bg sg dV kV doc pm an cdv ct) [a] []) (Sg : FnScope Ng [a] sg) (hNg : Ng[0]? = some a) (hva : Vis sg a)
    (hG : GivesN X Ng x sg g cdv bg a (X.env.qual ++ "<lambda>") TT)
    (TB : TabB X.base X.mg c P) (hcode : X.env.code = .ref c) (hmT : (P, X.env.qual ++ "<lambda>") ∈ T) (hu : ∀ p ∈ T, p.1 = P → p.2 = X.env.qual ++ "<lambda>") (hr : Room (k + 2) X.A) (L : LamS X.env.scope scope) (hdef : defaultsOf params X.env = ([], []))
    (hbind : ∀ (q : Str) (cl : List (Str × Addr)) (pm cv ctv : Value), bindArgs (PySem.W.kla_fn "<lambda>" q params body scope cl pm cv ctv) ⟨[], []⟩ = pure [])
    (hbody : ∀ (A : Around) (outer : List PySem.Env) (s : Shared) (H : Hp) (E : XK) (f c' : Addr), Room k (A.deeper (lamEnv X scope s.heap.objs.size f c')) → PE (lcx X A outer s H E scope f c') body (t E))
    (hdb : (x == ("__debug__" : Str)) = false := by decide) (hd : (a == ("__debug__" : Str)) = false := by decide) (hcd : (a == ("__classdict__" : Str)) = false := by decide) :
    PE X (.Call (.Name x p) [.Lambda params body scope lpos] [] pos) (tLam T TT t) := by
  constructor
  rintro pins s σ H Q I ⟨tabs, want⟩
  refine wpAny_Call_Name_kw (ld_glob I hg hm (PySem.W.callWith_K (h₀ := X.base) I.ok.mod.kin hk ?_ (by rfl) (by rfl)) hdb)
  show wpAny _ _ (spliced ((false, eval (.Lambda params body scope lpos) X.env) :: backTo pos (starEach [] X.env))) _ _ s
  refine Calls.spliced_cons (lam_make2 I TB hcode hmT hu tabs hdef (L.has I.ok) ?_)
  intro f c' pm' ctv H1 s' I1 eN T1 hf hfn hfr hco
  refine Calls.spliced_nil ⟨I1.kIn, ?_⟩
  have ran : codeAny (model X.prog X.w) X.A (.call (.ref g) ⟨[.ref f], []⟩) (CR (L2N.CX X.prog X.w) X.stack X.prog X.w H1 s' Q noE) s' :=
    run_ofS (N := Ng) (ps := [a]) (us := [.ref f]) (vs := [.ref f]) lk hcg Sg hr I1.env0 (hb s' [.ref f] I1.kIn rfl) (.cons rfl .nil) rfl fun hr' =>
      hG f c' s' H1 Q (fun E H' Q' => t E σ H' Q') (fun W pn xe E p1 p2 tk hW => pe_actN (i := 0) I1 L hf hfn hfr (hbind _ _ _ _ _) tk hW hr' (fun A outer s H hr2 => hbody A outer s H E f c' hr2) hNg hva hd hcd) hco (want H1 eN T1)
  refine wpAny_call (codeAny_mono ran ?_)
  intro r s2 hq
  match r, hq with
  | .error e, hq => exact passN pins σ H1 s' e s2 I1 hq
  | .ok (.ret u), hq => exact I1.after hq
  | .ok .next, hq => exact hq.elim
  | .ok .brk, hq => exact hq.elim
  | .ok .cont, hq => exact hq.elim
end
end Dl
set_option maxRecDepth 100000
/-! Dw: small facts for reading what Dl's readings ask. -/
namespace Dl
open PySem
set_option autoImplicit false
theorem atD0 {α : Type} (x : α) (xs : List α) : atD (x :: xs) 0 = some x := by
  unfold atD ixD
  simp
theorem atD1 {α : Type} (x y : α) (xs : List α) : atD (x :: y :: xs) 1 = some y := by
  unfold atD ixD
  simp [show (1 : Int) < (xs.length : Int) + 1 + 1 by omega]
theorem atD2 {α : Type} (x y z : α) (xs : List α) : atD (x :: y :: z :: xs) 2 = some z := by
  unfold atD ixD
  simp [show (2 : Int) < (xs.length : Int) + 1 + 1 + 1 by omega]
theorem atD_nat {α : Type} (xs : List α) (k : Nat) : atD xs (k : Int) = xs[k]? := by
  unfold atD ixD
  simp
  by_cases h : k < xs.length
  · simp [h]
  · simp [h]
theorem ixD0 (n : Nat) : ixD (n + 1) 0 = some 0 := by
  unfold ixD
  simp
theorem ixD1 (n : Nat) : ixD (n + 1 + 1) 1 = some 1 := by
  unfold ixD
  simp
  omega
theorem ixD_nat (n k : Nat) (h : k < n) : ixD n (k : Int) = some k := by
  unfold ixD
  simp [h]
theorem tame_none : tame .none := ⟨rfl, Nat.zero_le _⟩
theorem tame_int (i : Int) : tame (.int i) := ⟨rfl, Nat.zero_le _⟩
theorem tame_str (i : Str) : tame (.str i) := ⟨rfl, Nat.zero_le _⟩
theorem tame_bool (i : Bool) : tame (.bool i) := ⟨rfl, Nat.zero_le _⟩
theorem eqv_int (i j : Int) : PyData.eqv (.int i) (.int j) = decide (i = j) := by
  simp only [PyData.eqv]; exact Bool.beq_eq_decide_eq i j
theorem lent_nil : lent [] = [] := rfl
theorem lent_none (ρ : Env) : lent (none :: ρ) = lent ρ := rfl
theorem lent_sh (d : D) (ρ : Env) : lent (some (.sh d) :: ρ) = lent ρ := rfl
theorem lent_ow (d : D) (ρ : Env) : lent (some (.ow d) :: ρ) = lent ρ := rfl
theorem lent_bo (d : D) (ρ : Env) : lent (some (.bo d) :: ρ) = d :: lent ρ := rfl
theorem setE_t (ρ : Env) (i : Nat) (d : D) : setE ρ i d true = ρ.set i (some (.ow d)) := rfl
theorem setE_f (ρ : Env) (i : Nat) (d : D) : setE ρ i d false = ρ.set i (some (.sh d)) := rfl
theorem free_sh (d : D) (ρ : Env) : free (some (.sh d) :: ρ) 0 = True := rfl
theorem free_ow (d : D) (ρ : Env) : free (some (.ow d) :: ρ) 0 = True := rfl
theorem free_none (ρ : Env) : free (none :: ρ) 0 = True := rfl
theorem free_s (x : Option EV) (ρ : Env) (n : Nat) : free (x :: ρ) (n + 1) = free ρ n := rfl
theorem rdE_0 (e : EV) (ρ : Env) : rdE (some e :: ρ) 0 = some e.dat := rfl
theorem rdE_s (x : Option EV) (ρ : Env) (n : Nat) : rdE (x :: ρ) (n + 1) = rdE ρ n := rfl
theorem rangeL_zero (lo : Int) : rangeL lo 0 = [] := rfl
theorem rangeL_succ (lo : Int) (n : Nat) : rangeL lo (n + 1) = .int lo :: rangeL (lo + 1) n := by
  unfold rangeL
  rw [List.range_succ_eq_map]
  simp only [List.map_cons, List.map_map]
  congr 1
  · simp
  · apply List.map_congr_left
    intro k _
    simp only [Function.comp]
    congr 1
    omega
theorem rangeL_length (lo : Int) (n : Nat) : (rangeL lo n).length = n := by
  unfold rangeL
  simp
/-! ### data that shows in at most n signs, no deeper than k -/
def Sd (k n : Nat) (d : D) : Prop := d.plain = true ∧ d.depth ≤ k ∧ d.showable = true ∧ d.shown.length ≤ n
def SdA (k n : Nat) (xs : List D) : Prop := PyData.plainAll xs = true ∧ PyData.depthAll xs ≤ k ∧ PyData.showableAll xs = true ∧ ((PyData.shownAll xs).map (·.length)).sum + 2 * xs.length ≤ n
theorem Sd_mono {k n k' n' : Nat} {d : D} (h : Sd k n d) (hk : k ≤ k') (hn : n ≤ n') : Sd k' n' d := ⟨h.1, Nat.le_trans h.2.1 hk, h.2.2.1, Nat.le_trans h.2.2.2 hn⟩
theorem SdA_mono {k n k' n' : Nat} {d : List D} (h : SdA k n d) (hk : k ≤ k') (hn : n ≤ n') : SdA k' n' d := ⟨h.1, Nat.le_trans h.2.1 hk, h.2.2.1, Nat.le_trans h.2.2.2 hn⟩
theorem log2_lt_of {n k : Nat} (h : n < 2 ^ k) (hk : 0 < k) : n.log2 < k := by
  by_cases h0 : n = 0
  · subst h0
    simpa using hk
  · exact (Nat.log2_lt h0).mpr h
theorem txt_len {i : Int} {m : Nat} (h : i.natAbs < 2 ^ m) (h0 : 0 < m) : (txt i).length ≤ m + 1 := by
  have h1 := int_text_length_le h0 (log2_lt_of h h0)
  unfold txt
  rwa [ofString_length]
theorem Sd_int {i : Int} {m : Nat} (h : i.natAbs < 2 ^ m) (h0 : 0 < m) (h1 : m ≤ 1920) : Sd 0 (m + 1) (.int i) := by
  refine ⟨rfl, Nat.le_refl _, ?_, ?_⟩
  · simp only [PyData.showable, decide_eq_true_eq]
    exact Nat.lt_of_lt_of_le (log2_lt_of h h0) h1
  · exact txt_len h h0
theorem Sd_bool (b : Bool) : Sd 0 5 (.bool b) := ⟨rfl, Nat.le_refl _, rfl, by cases b <;> decide⟩
theorem Sd_none : Sd 0 4 .none := ⟨rfl, Nat.le_refl _, rfl, by decide⟩
theorem Sd_str {x : Str} {n : Nat} (h : ∀ c ∈ x.cps.toList, c < 16 ^ 8) (hn : x.length ≤ n) : Sd 0 (10 * n + 2) (.str x) := by
  refine ⟨rfl, Nat.le_refl _, rfl, ?_⟩
  have e := StrLaws.reprText_len x h
  simp only [PyData.shown]
  omega
theorem SdA_nil (k : Nat) : SdA k 0 [] := ⟨rfl, Nat.zero_le _, rfl, Nat.le_refl _⟩
theorem SdA_cons {k n m : Nat} {x : D} {xs : List D} (h : Sd k n x) (ht : SdA k m xs) : SdA k (n + m + 2) (x :: xs) := by
  obtain ⟨a, b, c, d⟩ := h
  obtain ⟨a', b', c', d'⟩ := ht
  refine ⟨by simp [PyData.plainAll, a, a'], by simp [PyData.depthAll]; omega, by simp [PyData.showableAll, c, c'], ?_⟩
  simp only [PyData.shownAll, List.map_cons, List.sum_cons, List.length_cons]
  omega
theorem SdA_all {k n : Nat} : ∀ {xs : List D}, (∀ x ∈ xs, Sd k n x) → SdA k ((n + 2) * xs.length) xs
  | [], _ => SdA_nil k
  | x :: xs, h => by
    have h1 := SdA_cons (h x (List.mem_cons_self ..)) (SdA_all fun y hy => h y (List.mem_cons_of_mem _ hy))
    refine SdA_mono h1 (Nat.le_refl _) ?_
    rw [List.length_cons, Nat.mul_add, Nat.mul_one]
    omega
theorem Sd_list {k n : Nat} {xs : List D} (h : SdA k n xs) : Sd (k + 1) (n + 3) (.list xs) := by
  obtain ⟨a, b, c, d⟩ := h
  refine ⟨by simp [PyData.plain, a], by simp [PyData.depth]; omega, by simp [PyData.showable, c], ?_⟩
  have h2 := listText_len_le (PyData.shownAll xs)
  have h3 := PyData.shownAll_length xs
  simp only [PyData.shown]
  omega
theorem Sd_tuple {k n : Nat} {xs : List D} (h : SdA k n xs) : Sd (k + 1) (n + 3) (.tuple xs) := by
  obtain ⟨a, b, c, d⟩ := h
  refine ⟨by simp [PyData.plain, a], by simp [PyData.depth]; omega, by simp [PyData.showable, c], ?_⟩
  have h2 := tupleText_len_le (PyData.shownAll xs)
  have h3 := PyData.shownAll_length xs
  simp only [PyData.shown]
  omega
/-- what _law_same needs -/
theorem same_ok {a : D} (h : Sd 40 1000000 a) : (tame (.list [a]) ∧ PyData.showable (.list [a]) = true ∧ (PyData.shown (.list [a])).length ≤ LIM) := by
  have h1 := Sd_list (SdA_cons h (SdA_nil 40))
  exact ⟨⟨h1.1, Nat.le_trans h1.2.1 (by omega)⟩, h1.2.2.1, Nat.le_trans h1.2.2.2 (by decide)⟩
theorem eqv_str_self (x : Str) : PyData.eqv (.str x) (.str x) = true := SeqAt.eqv_refl_plain _ rfl
def shortL (ds : List D) : Prop := ds.length ≤ LIM
def inR (n : Int) : Prop := -4611686018427387904 ≤ n ∧ n < 4611686018427387904
def getE (ρ : Env) (v : Nat) : Option EV := ρ[v]?.getD none
def repOk (xs : List D) (k : Int) : Prop := -9223372036854775808 ≤ k ∧ k < 9223372036854775808 ∧ xs.length * k.toNat ≤ LIM
def fdivOk (j : Int) : Prop := j ≠ 0 ∧ j.natAbs.log2 < 9000
def powOk (i j : Int) : Prop := 0 ≤ j ∧ j ≤ 1000000 ∧ i.natAbs < 18446744073709551616
def shOk (i : Int) : Prop := i.natAbs.log2 < 1920
/-! ### readings unrolled from the outside; Held parts are left for later -/
inductive Dep (p : Prop) : Type where
  | mk
/-- p, which simp does not enter -/
@[reducible] def Hold (p : Prop) (_ : Dep p) : Prop := p
theorem forGo_rule {g : WG} {body : WS} {P : Po} (I : List D → Env → Prop) (h0 : ∀ ρ, I [] ρ → P.nx ρ)
    (hs : ∀ x xs ρ (K : Env → Prop), (∀ ρ', I xs ρ' → K ρ') → I (x :: xs) ρ → g x false ρ fun ρ1 => body { P with nx := K, ct := K, bk := P.nx } ρ1) :
    ∀ xs ρ, I xs ρ → forGo g body P xs ρ
  | [], ρ, h => h0 ρ h
  | x :: xs, ρ, h => hs x xs ρ (forGo g body P xs) (fun ρ' h' => forGo_rule I h0 hs xs ρ' h') h
theorem lcGo_rule {g : WG} {t : WT} {e : WE} {vs : List Nat} {Q : List D → Env → Prop} (I : List D → List D → Env → Prop) (h0 : ∀ acc ρ, I [] acc ρ → Q acc ρ)
    (hs : ∀ x xs acc ρ (K : List D → Env → Prop), (∀ acc' ρ', I xs acc' ρ' → K acc' ρ') → I (x :: xs) acc ρ → g x false ρ fun ρ1 => t ρ1 fun b ρ2 =>
      Hold ((b = true → e ρ2 fun d _ ρ3 => K (acc ++ [d]) (wipeE ρ3 vs)) ∧ (b = false → K acc (wipeE ρ2 vs))) .mk) :
    ∀ xs acc ρ, I xs acc ρ → lcGo g t e vs Q xs acc ρ
  | [], acc, ρ, h => h0 acc ρ h
  | x :: xs, acc, ρ, h => hs x xs acc ρ (lcGo g t e vs Q xs) (fun acc' ρ' h' => lcGo_rule I h0 hs xs acc' ρ' h') h
theorem wWhile_rule {t : WT} {body : WS} {P : Po} {ρ : Env} (W : Nat → Env → Prop) (m : Nat) (h0 : W m ρ)
    (hs : ∀ m ρ1 (K : Env → Prop), (∀ m' ρ3, m' < m → W m' ρ3 → K ρ3) → W m ρ1 → t ρ1 fun b ρ2 =>
      Hold ((b = true → body { P with nx := K, ct := K, bk := P.nx } ρ2) ∧ (b = false → P.nx ρ2)) .mk) : wWhile t body P ρ :=
  ⟨W, ⟨m, h0⟩, fun m ρ1 h => hs m ρ1 _ (fun m' ρ3 hm hw => ⟨m', hm, hw⟩) h⟩
theorem Hold.of {p : Prop} {h : Dep p} (x : p) : Hold p h := x
def rdK (ρ : Env) (i : Nat) (k : D → Prop) : Prop := match rdE ρ i with
  | some d => k d
  | none => False
theorem rdK_0 (e : EV) (ρ : Env) (k : D → Prop) : rdK (some e :: ρ) 0 k = k e.dat := rfl
theorem rdK_s (x : Option EV) (ρ : Env) (n : Nat) (k : D → Prop) : rdK (x :: ρ) (n + 1) k = rdK ρ n k := rfl
theorem dat_sh (d : D) : (EV.sh d).dat = d := rfl
theorem dat_ow (d : D) : (EV.ow d).dat = d := rfl
theorem dat_bo (d : D) : (EV.bo d).dat = d := rfl
theorem wV_sh (d : D) (ρ : Env) (Q : KE) : wV 0 (some (.sh d) :: ρ) Q = Q d false (some (.sh d) :: ρ) := rfl
theorem wV_ow (d : D) (ρ : Env) (Q : KE) : wV 0 (some (.ow d) :: ρ) Q = Q d false (some (.sh d) :: ρ) := rfl
theorem wV_s (n : Nat) (x : Option EV) (ρ : Env) (Q : KE) : wV (n + 1) (x :: ρ) Q = wV n ρ fun d f ρ' => Q d f (x :: ρ') := by
  simp only [wV, List.getElem?_cons_succ, List.set_cons_succ]
theorem wC_h (d : D) (ρ : Env) (Q : KE) : wC d ρ Q = Q d false ρ := rfl
theorem wO_h (o : O1) (a : WE) (ρ : Env) (Q : KE) : wO o a ρ Q = a ρ fun d _ ρ1 => o d fun r f => Q r f ρ1 := rfl
theorem wOP_h (o : O1) (i : Nat) (ρ : Env) (Q : KE) : wOP o i ρ Q = rdK ρ i fun d => o d fun r f => Q r f ρ := rfl
theorem wB_h (o : O2) (a b : WE) (ρ : Env) (Q : KE) : wB o a b ρ Q = a ρ fun d _ ρ1 => b ρ1 fun e _ ρ2 => o d e fun r f => Q r f ρ2 := rfl
theorem isS_h (ρ : Env) (i : Nat) : ((rdE ρ i).isSome = true) = rdK ρ i fun _ => True := by
  unfold rdK
  cases rdE ρ i <;> simp
def sureK (ρ : Env) (i : Nat) (p : Prop) : Prop := (rdE ρ i).isSome = true ∧ p
theorem sureK_0 (e : EV) (ρ : Env) (p : Prop) : sureK (some e :: ρ) 0 p = p := by simp [sureK, rdE_0]
theorem sureK_s (x : Option EV) (ρ : Env) (n : Nat) (p : Prop) : sureK (x :: ρ) (n + 1) p = sureK ρ n p := rfl
theorem wBL_h (o : O2) (i : Nat) (b : WE) (ρ : Env) (Q : KE) : wBL o i b ρ Q = sureK ρ i (b ρ fun e _ ρ1 => rdK ρ1 i fun d => o d e fun r f => Q r f ρ1) := rfl
theorem wBR_h (o : O2) (a : WE) (i : Nat) (ρ : Env) (Q : KE) : wBR o a i ρ Q = a ρ fun d _ ρ1 => rdK ρ1 i fun e => o d e fun r f => Q r f ρ1 := rfl
theorem wBB_h (o : O2) (i j : Nat) (ρ : Env) (Q : KE) : wBB o i j ρ Q = rdK ρ i fun d => rdK ρ j fun e => o d e fun r f => Q r f ρ := by
  unfold wBB rdK
  cases rdE ρ i <;> cases rdE ρ j <;> rfl
theorem wNil_h (ρ : Env) (Q : List D → Env → Prop) : wNil ρ Q = Q [] ρ := rfl
theorem wCons_h (a : WE) (t : WA) (ρ : Env) (Q : List D → Env → Prop) : wCons a t ρ Q = a ρ fun d _ ρ1 => t ρ1 fun ds ρ2 => Q (d :: ds) ρ2 := rfl
@[reducible] def shortK (ds : List D) (p : Prop) : Prop := shortL ds ∧ p
theorem wTup_h (t : WA) (ρ : Env) (Q : KE) : wTup t ρ Q = t ρ fun ds ρ1 => shortK ds (Q (.tuple ds) false ρ1) := rfl
theorem wLst_h (t : WA) (ρ : Env) (Q : KE) : wLst t ρ Q = t ρ fun ds ρ1 => shortK ds (Q (.list ds) true ρ1) := rfl
theorem wF_h (o : OA) (t : WA) (ρ : Env) (Q : KE) : wF o t ρ Q = t ρ fun ds ρ1 => o ds fun r f => Q r f ρ1 := rfl
theorem wCall_h (C : Con) (E : Exc → Prop) (t : WA) (ρ : Env) (Q : KE) : wCall C E t ρ Q = t ρ fun ds ρ1 => Hold (C ds (fun r f _ => Q r f ρ1) E) .mk := rfl
/-- a lent object: what it is, what it becomes -/
def lendK (C : Con) (E : Exc → Prop) (ds : List D) (ρ : Env) (i : Nat) (Q : KE) : Prop := match ρ[i]? with
  | some (some (.ow d)) => C (d :: ds) (fun r f bs => ∃ d', bs = [d'] ∧ Q r f (ρ.set i (some (.ow d')))) E
  | some (some (.bo d)) => C (d :: ds) (fun r f bs => ∃ d', bs = [d'] ∧ Q r f (ρ.set i (some (.bo d')))) E
  | _ => False
theorem lendK_ow (C : Con) (E : Exc → Prop) (ds : List D) (d : D) (ρ : Env) (Q : KE) : lendK C E ds (some (.ow d) :: ρ) 0 Q = Hold (C (d :: ds) (fun r f bs => ∃ d', bs = [d'] ∧ Q r f (some (.ow d') :: ρ)) E) .mk := rfl
theorem lendK_bo (C : Con) (E : Exc → Prop) (ds : List D) (d : D) (ρ : Env) (Q : KE) : lendK C E ds (some (.bo d) :: ρ) 0 Q = Hold (C (d :: ds) (fun r f bs => ∃ d', bs = [d'] ∧ Q r f (some (.bo d') :: ρ)) E) .mk := rfl
theorem lendK_s (C : Con) (E : Exc → Prop) (ds : List D) (x : Option EV) (ρ : Env) (n : Nat) (Q : KE) : lendK C E ds (x :: ρ) (n + 1) Q = lendK C E ds ρ n (fun d f ρ' => Q d f (x :: ρ')) := by
  simp only [lendK, List.getElem?_cons_succ, List.set_cons_succ]
theorem wCallB_h (C : Con) (E : Exc → Prop) (i : Nat) (t : WA) (ρ : Env) (Q : KE) : wCallB C E i t ρ Q = sureK ρ i (t ρ fun ds ρ1 => lendK C E ds ρ1 i Q) := rfl
theorem exB (x : Bool) (p : Bool → Prop) : Hold (∃ b, PyData.bool x = .bool b ∧ p b) .mk = p x := by simp [Hold]
theorem exI (x : Int) (p : Int → Prop) : Hold (∃ b, PyData.int x = .int b ∧ p b) .mk = p x := by simp [Hold]
theorem exS (x : Str) (p : Str → Prop) : Hold (∃ b, PyData.str x = .str b ∧ p b) .mk = p x := by simp [Hold]
theorem exT (x : List D) (p : List D → Prop) : Hold (∃ b, PyData.tuple x = .tuple b ∧ p b) .mk = p x := by simp [Hold]
theorem exL (x : List D) (p : List D → Prop) : Hold (∃ b, PyData.list x = .list b ∧ p b) .mk = p x := by simp [Hold]
theorem exC (x : D) (xs : List D) (p : D → List D → Prop) : Hold (∃ d t, x :: xs = d :: t ∧ p d t) .mk = p x xs := by
  unfold Hold
  simp only [List.cons.injEq]
  exact propext ⟨fun ⟨_, _, ⟨a, b⟩, h⟩ => by subst a; subst b; exact h, fun h => ⟨_, _, ⟨rfl, rfl⟩, h⟩⟩
theorem exD (x : D) (p : D → Prop) : (∃ d, [x] = [d] ∧ p d) = p x := by simp
theorem exLL (x : List D) (p : List D → Prop) : Hold (∃ b, (PyData.list x = .list b ∨ PyData.list x = .tuple b) ∧ p b) .mk = p x := by simp [Hold]
theorem exLT (x : List D) (p : List D → Prop) : Hold (∃ b, (PyData.tuple x = .list b ∨ PyData.tuple x = .tuple b) ∧ p b) .mk = p x := by simp [Hold]
theorem exAt0 (x : D) (xs : List D) (p : D → Prop) : Hold (∃ z, atD (x :: xs) 0 = some z ∧ p z) .mk = p x := by simp [Hold, atD0]
theorem exAt1 (x y : D) (xs : List D) (p : D → Prop) : Hold (∃ z, atD (x :: y :: xs) 1 = some z ∧ p z) .mk = p y := by simp [Hold, atD1]
theorem exAt2 (x y u : D) (xs : List D) (p : D → Prop) : Hold (∃ z, atD (x :: y :: u :: xs) 2 = some z ∧ p z) .mk = p u := by simp [Hold, atD2]
theorem wTv_h (e : WE) (ρ : Env) (Q : Bool → Env → Prop) : wTv e ρ Q = e ρ fun d _ ρ1 => Hold (∃ b, d = .bool b ∧ Q b ρ1) .mk := rfl
theorem wAnd_h (a b : WT) (ρ : Env) (Q : Bool → Env → Prop) : wAnd a b ρ Q = a ρ fun c ρ1 => Hold ((c = true → b ρ1 Q) ∧ (c = false → Q false ρ1)) .mk := rfl
theorem wOr_h (a b : WT) (ρ : Env) (Q : Bool → Env → Prop) : wOr a b ρ Q = a ρ fun c ρ1 => Hold ((c = true → Q true ρ1) ∧ (c = false → b ρ1 Q)) .mk := rfl
theorem wNot_h (a : WT) (ρ : Env) (Q : Bool → Env → Prop) : wNot a ρ Q = a ρ fun c ρ1 => Q (!c) ρ1 := rfl
theorem wAndV_h (a b : WE) (ρ : Env) (Q : KE) : wAndV a b ρ Q = a ρ fun d _ ρ1 => Hold (∃ c, d = .bool c ∧ Hold ((c = true → b ρ1 Q) ∧ (c = false → Q (.bool false) false ρ1)) .mk) .mk := rfl
theorem wOrV_h (a b : WE) (ρ : Env) (Q : KE) : wOrV a b ρ Q = a ρ fun d _ ρ1 => Hold (∃ c, d = .bool c ∧ Hold ((c = true → Q (.bool true) false ρ1) ∧ (c = false → b ρ1 Q)) .mk) .mk := rfl
theorem wNotV_h (a : WE) (ρ : Env) (Q : KE) : wNotV a ρ Q = a ρ fun d _ ρ1 => Hold (∃ c, d = .bool c ∧ Q (.bool (!c)) false ρ1) .mk := rfl
theorem wIf_h (t : WT) (a b : WE) (ρ : Env) (Q : KE) : wIf t a b ρ Q = t ρ fun c ρ1 => Hold ((c = true → a ρ1 Q) ∧ (c = false → b ρ1 Q)) .mk := rfl
theorem wChain_h (o o' : O2) (a b c : WE) (ρ : Env) (Q : KE) : wChain o o' a b c ρ Q = a ρ fun d _ ρ1 => b ρ1 fun e _ ρ2 => o d e fun r _ => Hold (∃ k, r = .bool k ∧
  Hold ((k = true → c ρ2 fun g _ ρ3 => o' e g fun r' f' => Q r' f' ρ3) ∧ (k = false → Q (.bool false) false ρ2)) .mk) .mk := rfl
theorem wIfS_h (t : WT) (a b : WS) (P : Po) (ρ : Env) : wIfS t a b P ρ = t ρ fun c ρ1 => Hold ((c = true → a P ρ1) ∧ (c = false → b P ρ1)) .mk := rfl
theorem br_t (A B : Prop) : Hold ((true = true → A) ∧ (true = false → B)) .mk = A := by simp [Hold]
theorem br_f (A B : Prop) : Hold ((false = true → A) ∧ (false = false → B)) .mk = B := by simp [Hold]
theorem br_nt (A B : Prop) : Hold (((!true) = true → A) ∧ ((!true) = false → B)) .mk = B := by simp [Hold]
theorem br_nf (A B : Prop) : Hold (((!false) = true → A) ∧ ((!false) = false → B)) .mk = A := by simp [Hold]
theorem br {c : Prop} [Decidable c] {A B : Prop} (h : c → A) (h' : ¬ c → B) : Hold ((decide c = true → A) ∧ (decide c = false → B)) .mk :=
  ⟨fun x => h (of_decide_eq_true x), fun x => h' (of_decide_eq_false x)⟩
theorem brn {c : Prop} [Decidable c] {A B : Prop} (h : ¬ c → A) (h' : c → B) : Hold (((!decide c) = true → A) ∧ ((!decide c) = false → B)) .mk :=
  ⟨fun x => h (by simpa using x), fun x => h' (by simpa using x)⟩
theorem wNext_h (P : Po) (ρ : Env) : wNext P ρ = P.nx ρ := rfl
theorem wSeq_h (s t : WS) (P : Po) (ρ : Env) : wSeq s t P ρ = s { P with nx := t P } ρ := rfl
theorem wBreak_h (P : Po) (ρ : Env) : wBreak P ρ = P.bk ρ := rfl
theorem wCont_h (P : Po) (ρ : Env) : wCont P ρ = P.ct ρ := rfl
theorem wDrop_h (e : WE) (P : Po) (ρ : Env) : wDrop e P ρ = e ρ fun _ _ ρ1 => P.nx ρ1 := rfl
theorem wRet_h (e : WE) (P : Po) (ρ : Env) : wRet e P ρ = e ρ P.rt := rfl
def retK (ρ : Env) (i : Nat) (Q : KE) : Prop := match ρ[i]? with
  | some (some (.sh d)) => Q d false ρ
  | some (some (.ow d)) => Q d true (ρ.set i none)
  | _ => False
theorem wRetV_h (i : Nat) (P : Po) (ρ : Env) : wRetV i P ρ = retK ρ i P.rt := rfl
theorem retK_sh (d : D) (ρ : Env) (Q : KE) : retK (some (.sh d) :: ρ) 0 Q = Q d false (some (.sh d) :: ρ) := rfl
theorem retK_ow (d : D) (ρ : Env) (Q : KE) : retK (some (.ow d) :: ρ) 0 Q = Q d true (none :: ρ) := rfl
theorem retK_s (x : Option EV) (ρ : Env) (n : Nat) (Q : KE) : retK (x :: ρ) (n + 1) Q = retK ρ n fun d f ρ' => Q d f (x :: ρ') := by
  simp only [retK, List.getElem?_cons_succ, List.set_cons_succ]
theorem wRetN_h (P : Po) (ρ : Env) : wRetN P ρ = P.rt .none false ρ := rfl
theorem wNever_h (P : Po) (ρ : Env) : wNever P ρ = False := rfl
theorem wRaise_h (E : Exc → Prop) (x : Exc) (P : Po) (ρ : Env) : wRaise E x P ρ = E x := rfl
def gK (ρ : Env) (i : Nat) (d : D) (f : Bool) (Q : Env → Prop) : Prop := free ρ i ∧ Q (setE ρ i d f)
theorem gN_h (i : Nat) (d : D) (f : Bool) (ρ : Env) (Q : Env → Prop) : gN i d f ρ Q = gK ρ i d f Q := rfl
theorem gK_nt (d : D) (ρ : Env) (Q : Env → Prop) : gK (none :: ρ) 0 d true Q = Q (some (.ow d) :: ρ) := by simp [gK, free, setE]
theorem gK_nf (d : D) (ρ : Env) (Q : Env → Prop) : gK (none :: ρ) 0 d false Q = Q (some (.sh d) :: ρ) := by simp [gK, free, setE]
theorem gK_st (x d : D) (ρ : Env) (Q : Env → Prop) : gK (some (.sh x) :: ρ) 0 d true Q = Q (some (.ow d) :: ρ) := by simp [gK, free, setE]
theorem gK_sf (x d : D) (ρ : Env) (Q : Env → Prop) : gK (some (.sh x) :: ρ) 0 d false Q = Q (some (.sh d) :: ρ) := by simp [gK, free, setE]
theorem gK_ot (x d : D) (ρ : Env) (Q : Env → Prop) : gK (some (.ow x) :: ρ) 0 d true Q = Q (some (.ow d) :: ρ) := by simp [gK, free, setE]
theorem gK_of (x d : D) (ρ : Env) (Q : Env → Prop) : gK (some (.ow x) :: ρ) 0 d false Q = Q (some (.sh d) :: ρ) := by simp [gK, free, setE]
theorem gK_gt (o : Option D) (d : D) (ρ : Env) (Q : Env → Prop) : gK (Option.map EV.sh o :: ρ) 0 d true Q = Q (some (.ow d) :: ρ) := by cases o <;> simp [gK, free, setE]
theorem gK_gf (o : Option D) (d : D) (ρ : Env) (Q : Env → Prop) : gK (Option.map EV.sh o :: ρ) 0 d false Q = Q (some (.sh d) :: ρ) := by cases o <;> simp [gK, free, setE]
theorem gK_s (x : Option EV) (ρ : Env) (n : Nat) (d : D) (f : Bool) (Q : Env → Prop) : gK (x :: ρ) (n + 1) d f Q = gK ρ n d f fun ρ' => Q (x :: ρ') := by
  simp only [gK, free_s, setE, List.set_cons_succ]
theorem gNil_h (ds : List D) (ρ : Env) (Q : Env → Prop) : gNil ds ρ Q = (ds = [] ∧ Q ρ) := rfl
theorem gCons_h (g : WG) (r : WGs) (ds : List D) (ρ : Env) (Q : Env → Prop) : gCons g r ds ρ Q = Hold (∃ d t, ds = d :: t ∧ g d false ρ fun ρ1 => r t ρ1 Q) .mk := rfl
theorem gTup_h (n : Nat) (r : WGs) (d : D) (f : Bool) (ρ : Env) (Q : Env → Prop) : gTup n r d f ρ Q = Hold (∃ ds, d = .tuple ds ∧ ds.length = n ∧ r ds ρ Q) .mk := rfl
def ixK (ρ : Env) (x : Nat) (i : Int) (d : D) (K : Env → Prop) : Prop := ∃ xs j,
  ((ρ[x]? = some (some (.ow (.list xs))) ∧ ixD xs.length i = some j ∧ K (ρ.set x (some (.ow (.list (xs.set j d)))))) ∨
   (ρ[x]? = some (some (.bo (.list xs))) ∧ ixD xs.length i = some j ∧ K (ρ.set x (some (.bo (.list (xs.set j d)))))))
theorem gIx_h (x : Nat) (e : WE) (d : D) (f : Bool) (ρ : Env) (Q : Env → Prop) : gIx x e d f ρ Q = sureK ρ x (e ρ fun di _ ρ1 => Hold (∃ i, di = .int i ∧ ixK ρ1 x i d Q) .mk) := by
  unfold gIx ixK sureK Hold
  congr 1
  congr 1
  funext di _ ρ1
  apply propext
  constructor
  · rintro ⟨xs, i, j, h, h'⟩
    exact ⟨i, h, xs, j, h'⟩
  · rintro ⟨i, h, xs, j, h'⟩
    exact ⟨xs, i, j, h, h'⟩
theorem ixK_s (x : Option EV) (ρ : Env) (n : Nat) (i : Int) (d : D) (K : Env → Prop) : ixK (x :: ρ) (n + 1) i d K = ixK ρ n i d fun ρ' => K (x :: ρ') := by
  simp only [ixK, List.getElem?_cons_succ, List.set_cons_succ]
theorem ixK_ow (xs : List D) (ρ : Env) (i : Int) (d : D) (K : Env → Prop) : ixK (some (.ow (.list xs)) :: ρ) 0 i d K = Hold (∃ j, ixD xs.length i = some j ∧ K (some (.ow (.list (xs.set j d))) :: ρ)) .mk := by
  simp only [Hold, ixK, List.getElem?_cons_zero, List.set_cons_zero, Option.some.injEq, EV.ow.injEq, PyData.list.injEq, reduceCtorEq, false_and, or_false]
  apply propext
  constructor
  · rintro ⟨_, j, rfl, h⟩
    exact ⟨j, h⟩
  · rintro ⟨j, h⟩
    exact ⟨_, j, rfl, h⟩
theorem ixK_bo (xs : List D) (ρ : Env) (i : Int) (d : D) (K : Env → Prop) : ixK (some (.bo (.list xs)) :: ρ) 0 i d K = Hold (∃ j, ixD xs.length i = some j ∧ K (some (.bo (.list (xs.set j d))) :: ρ)) .mk := by
  simp only [Hold, ixK, List.getElem?_cons_zero, List.set_cons_zero, Option.some.injEq, EV.bo.injEq, PyData.list.injEq, reduceCtorEq, false_and, false_or]
  apply propext
  constructor
  · rintro ⟨_, j, rfl, h⟩
    exact ⟨j, h⟩
  · rintro ⟨j, h⟩
    exact ⟨_, j, rfl, h⟩
theorem exIx0 (n : Nat) (p : Nat → Prop) : Hold (∃ j, ixD (n + 1) 0 = some j ∧ p j) .mk = p 0 := by simp [Hold, ixD0]
theorem exIx1 (n : Nat) (p : Nat → Prop) : Hold (∃ j, ixD (n + 1 + 1) 1 = some j ∧ p j) .mk = p 1 := by simp [Hold, ixD1]
theorem wAsg_h (e : WE) (g : WG) (P : Po) (ρ : Env) : wAsg e g P ρ = e ρ fun d f ρ1 => g d f ρ1 P.nx := rfl
theorem wPar_h (i j : Nat) (a b : WE) (P : Po) (ρ : Env) : wPar i j a b P ρ = a ρ fun d _ ρ1 => b ρ1 fun e _ ρ2 => gK ρ2 i d false fun ρ3 => gK ρ3 j e false P.nx := by
  unfold wPar gK
  congr 1
  funext d _ ρ1
  congr 1
  funext e _ ρ2
  apply propext
  by_cases hij : i = j
  · subst hij
    constructor
    · rintro ⟨h1, h2, h3⟩
      refine ⟨h1, ?_, h3⟩
      unfold free at h1 ⊢
      unfold setE
      by_cases hl : i < ρ2.length
      · simp [hl]
      · rw [List.getElem?_eq_none (by omega)] at h1
        exact h1.elim
    · rintro ⟨h1, h2, h3⟩
      exact ⟨h1, h1, h3⟩
  · have e1 : free (setE ρ2 i d false) j = free ρ2 j := by
      unfold free setE
      rw [List.getElem?_set_ne hij]
    show _ ↔ free ρ2 i ∧ free (setE ρ2 i d false) j ∧ _
    rw [e1]
def appK (ρ : Env) (x : Nat) (d : D) (K : Env → Prop) : Prop := ∃ xs, xs.length < LIM ∧
  ((ρ[x]? = some (some (.ow (.list xs))) ∧ K (ρ.set x (some (.ow (.list (xs ++ [d])))))) ∨
   (ρ[x]? = some (some (.bo (.list xs))) ∧ K (ρ.set x (some (.bo (.list (xs ++ [d])))))))
theorem isL_ow (xs : List D) (ρ : Env) : isL (some (.ow (.list xs)) :: ρ) 0 = True := rfl
theorem isL_bo (xs : List D) (ρ : Env) : isL (some (.bo (.list xs)) :: ρ) 0 = True := rfl
theorem isL_s (x : Option EV) (ρ : Env) (n : Nat) : isL (x :: ρ) (n + 1) = isL ρ n := rfl
def sureL (ρ : Env) (i : Nat) (p : Prop) : Prop := isL ρ i ∧ p
theorem sureL_ow (xs : List D) (ρ : Env) (p : Prop) : sureL (some (.ow (.list xs)) :: ρ) 0 p = p := by simp [sureL, isL_ow]
theorem sureL_bo (xs : List D) (ρ : Env) (p : Prop) : sureL (some (.bo (.list xs)) :: ρ) 0 p = p := by simp [sureL, isL_bo]
theorem sureL_s (x : Option EV) (ρ : Env) (n : Nat) (p : Prop) : sureL (x :: ρ) (n + 1) p = sureL ρ n p := rfl
theorem wApp_h (x : Nat) (e : WE) (P : Po) (ρ : Env) : wApp x e P ρ = sureL ρ x (e ρ fun d _ ρ1 => appK ρ1 x d P.nx) := rfl
theorem appK_s (x : Option EV) (ρ : Env) (n : Nat) (d : D) (K : Env → Prop) : appK (x :: ρ) (n + 1) d K = appK ρ n d fun ρ' => K (x :: ρ') := by
  simp only [appK, List.getElem?_cons_succ, List.set_cons_succ]
theorem appK_ow (xs : List D) (ρ : Env) (d : D) (K : Env → Prop) : appK (some (.ow (.list xs)) :: ρ) 0 d K = (xs.length < LIM ∧ K (some (.ow (.list (xs ++ [d]))) :: ρ)) := by
  simp only [appK, List.getElem?_cons_zero, List.set_cons_zero, Option.some.injEq, EV.ow.injEq, PyData.list.injEq, reduceCtorEq, false_and, or_false]
  apply propext
  constructor
  · rintro ⟨_, l, rfl, h⟩
    exact ⟨l, h⟩
  · rintro ⟨l, h⟩
    exact ⟨_, l, rfl, h⟩
theorem appK_bo (xs : List D) (ρ : Env) (d : D) (K : Env → Prop) : appK (some (.bo (.list xs)) :: ρ) 0 d K = (xs.length < LIM ∧ K (some (.bo (.list (xs ++ [d]))) :: ρ)) := by
  simp only [appK, List.getElem?_cons_zero, List.set_cons_zero, Option.some.injEq, EV.bo.injEq, PyData.list.injEq, reduceCtorEq, false_and, false_or]
  apply propext
  constructor
  · rintro ⟨_, l, rfl, h⟩
    exact ⟨l, h⟩
  · rintro ⟨l, h⟩
    exact ⟨_, l, rfl, h⟩
theorem wFor_h (it : WI) (g : WG) (body : WS) (P : Po) (ρ : Env) : wFor it g body P ρ = it ρ fun xs ρ1 => Hold (forGo g body P xs ρ1) .mk := rfl
theorem itS_h (e : WE) (ρ : Env) (Q : List D → Env → Prop) : itS e ρ Q = e ρ fun d _ ρ1 => Hold (∃ xs, (d = .list xs ∨ d = .tuple xs) ∧ Q xs ρ1) .mk := rfl
theorem itR1_h (e : WE) (ρ : Env) (Q : List D → Env → Prop) : itR1 e ρ Q = e ρ fun d _ ρ1 => Hold (∃ n : Int, d = .int n ∧ inR n ∧ Q (rangeL 0 n.toNat) ρ1) .mk := by
  unfold itR1 inR Hold
  simp only [and_assoc]
theorem itR2_h (a b : WE) (ρ : Env) (Q : List D → Env → Prop) : itR2 a b ρ Q = a ρ fun d _ ρ1 => b ρ1 fun e _ ρ2 => Hold (∃ m : Int, d = .int m ∧ Hold (∃ n : Int, e = .int n ∧ inR m ∧ inR n ∧ Q (rangeL m (n - m).toNat) ρ2) .mk) .mk := by
  unfold itR2 inR Hold
  congr 1
  funext d _ ρ1
  congr 1
  funext e _ ρ2
  apply propext
  constructor
  · rintro ⟨m, n, h1, h2, h3, h4⟩
    exact ⟨m, h1, n, h2, ⟨h3.1, h3.2.1⟩, ⟨h3.2.2.1, h3.2.2.2⟩, h4⟩
  · rintro ⟨m, h1, n, h2, h3, h4, h5⟩
    exact ⟨m, n, h1, h2, ⟨h3.1, h3.2, h4.1, h4.2⟩, h5⟩
theorem itZ_h (a b : WE) (ρ : Env) (Q : List D → Env → Prop) : itZ a b ρ Q = a ρ fun d _ ρ1 => b ρ1 fun e _ ρ2 => Hold (∃ xs ys, ((d = .list xs ∨ d = .tuple xs) ∧ (e = .list ys ∨ e = .tuple ys)) ∧ Q (zipD xs ys) ρ2) .mk := rfl
theorem exZL (x y : List D) (p : List D → List D → Prop) : Hold (∃ b c, ((PyData.list x = .list b ∨ PyData.list x = .tuple b) ∧ (PyData.list y = .list c ∨ PyData.list y = .tuple c)) ∧ p b c) .mk = p x y := by
  unfold Hold
  apply propext
  constructor
  · rintro ⟨b, c, ⟨h1 | h1, h2 | h2⟩, h⟩
    · cases h1; cases h2; exact h
    · cases h2
    · cases h1
    · cases h1
  · exact fun h => ⟨x, y, ⟨.inl rfl, .inl rfl⟩, h⟩
theorem tYes_h (ρ : Env) (Q : Bool → Env → Prop) : tYes ρ Q = Q true ρ := rfl
theorem frees_nil (ρ : Env) : frees ρ [] = True := rfl
theorem frees_cons (ρ : Env) (v : Nat) (vs : List Nat) : frees ρ (v :: vs) = (free ρ v ∧ frees ρ vs) := rfl
theorem wipe_nil (ρ : Env) : wipeE ρ [] = ρ := rfl
theorem wipe_cons (ρ : Env) (v : Nat) (vs : List Nat) : wipeE ρ (v :: vs) = (wipeE ρ vs).set v none := rfl
theorem back_nil (ρ0 ρ : Env) : backE ρ0 ρ [] = ρ := rfl
theorem back_cons (ρ0 ρ : Env) (v : Nat) (vs : List Nat) : backE ρ0 ρ (v :: vs) = (backE ρ0 ρ vs).set v (getE ρ0 v) := rfl
theorem getE_0 (x : Option EV) (ρ : Env) : getE (x :: ρ) 0 = x := rfl
theorem getE_s (x : Option EV) (ρ : Env) (n : Nat) : getE (x :: ρ) (n + 1) = getE ρ n := rfl
def putK (ρ : Env) (v : Nat) (e : Option EV) (k : Env → Prop) : Prop := k (ρ.set v e)
theorem putK_0 (x e : Option EV) (ρ : Env) (k : Env → Prop) : putK (x :: ρ) 0 e k = k (e :: ρ) := rfl
theorem putK_s (x e : Option EV) (ρ : Env) (n : Nat) (k : Env → Prop) : putK (x :: ρ) (n + 1) e k = putK ρ n e fun ρ' => k (x :: ρ') := rfl
def getK (ρ : Env) (v : Nat) (k : Option EV → Prop) : Prop := k (getE ρ v)
theorem getK_0 (x : Option EV) (ρ : Env) (k : Option EV → Prop) : getK (x :: ρ) 0 k = k x := rfl
theorem getK_s (x : Option EV) (ρ : Env) (n : Nat) (k : Option EV → Prop) : getK (x :: ρ) (n + 1) k = getK ρ n k := rfl
def backK (ρ0 ρ : Env) (vs : List Nat) (k : Env → Prop) : Prop := k (backE ρ0 ρ vs)
theorem backK_nil (ρ0 ρ : Env) (k : Env → Prop) : backK ρ0 ρ [] k = k ρ := rfl
theorem backK_cons (ρ0 ρ : Env) (v : Nat) (vs : List Nat) (k : Env → Prop) : backK ρ0 ρ (v :: vs) k = backK ρ0 ρ vs fun ρ' => getK ρ0 v fun e => putK ρ' v e k := rfl
def wipeK (ρ : Env) (vs : List Nat) (k : Env → Prop) : Prop := k (wipeE ρ vs)
theorem wipeK_nil (ρ : Env) (k : Env → Prop) : wipeK ρ [] k = k ρ := rfl
theorem wipeK_cons (ρ : Env) (v : Nat) (vs : List Nat) (k : Env → Prop) : wipeK ρ (v :: vs) k = wipeK ρ vs fun ρ' => putK ρ' v none k := rfl
theorem wLc_h (it : WI) (g : WG) (t : WT) (e : WE) (vs : List Nat) (ρ : Env) (Q : KE) : wLc it g t e vs ρ Q = it ρ fun xs ρ1 => shortL xs ∧ frees ρ1 vs ∧
  wipeK ρ1 vs fun ρ0 => Hold (lcGo g t e vs (fun acc ρ2 => backK ρ1 ρ2 vs fun ρ3 => Q (.list acc) true ρ3) xs [] ρ0) .mk := rfl
theorem wSl_h (a : WE) (lo hi : WP) (ρ : Env) (Q : KE) : wSl a lo hi ρ Q = a ρ fun d _ ρ1 => lo ρ1 fun l ρ2 => hi ρ2 fun h ρ3 => oCut l h d fun r f => Q r f ρ3 := rfl
theorem pN_h (ρ : Env) (Q : Option Int → Env → Prop) : pN ρ Q = Q none ρ := rfl
theorem pS_h (e : WE) (ρ : Env) (Q : Option Int → Env → Prop) : pS e ρ Q = e ρ fun d _ ρ1 => Hold (∃ i, d = .int i ∧ Q (some i) ρ1) .mk := rfl
theorem wFs_h (es : List WE) (ρ : Env) (Q : KE) : wFs es ρ Q = fsGo es Str.empty ρ fun z ρ1 => Q (.str z) false ρ1 := rfl
theorem fs_nil (acc : Str) (ρ : Env) (Q : Str → Env → Prop) : fsGo [] acc ρ Q = Q acc ρ := rfl
theorem fs_cons (e : WE) (es : List WE) (acc : Str) (ρ : Env) (Q : Str → Env → Prop) : fsGo (e :: es) acc ρ Q = e ρ fun d _ ρ1 => Hold (∃ y : Str, d = .str y ∧ (acc ++ y).length ≤ LIM ∧ fsGo es (acc ++ y) ρ1 Q) .mk := rfl
/-! operations -/
theorem oAdd_i (i j : Int) (Q : D → Bool → Prop) : oAdd (.int i) (.int j) Q = Q (.int (i + j)) false := rfl
theorem oAdd_s (i j : Str) (Q : D → Bool → Prop) : oAdd (.str i) (.str j) Q = (i.length + j.length ≤ LIM ∧ Q (.str (i ++ j)) false) := rfl
theorem oAdd_l (i j : List D) (Q : D → Bool → Prop) : oAdd (.list i) (.list j) Q = (i.length + j.length ≤ LIM ∧ Q (.list (i ++ j)) true) := rfl
theorem oAdd_t (i j : List D) (Q : D → Bool → Prop) : oAdd (.tuple i) (.tuple j) Q = (i.length + j.length ≤ LIM ∧ Q (.tuple (i ++ j)) false) := rfl
theorem oSub_i (i j : Int) (Q : D → Bool → Prop) : oSub (.int i) (.int j) Q = Q (.int (i - j)) false := rfl
theorem oMul_i (i j : Int) (Q : D → Bool → Prop) : oMul (.int i) (.int j) Q = (mulOk i j ∧ Q (.int (i * j)) false) := rfl
theorem oMul_l (xs : List D) (k : Int) (Q : D → Bool → Prop) : oMul (.list xs) (.int k) Q = (repOk xs k ∧ Q (.list (List.replicate k.toNat xs).flatten) true) := by
  unfold oMul repOk
  simp only [and_assoc]
theorem oFdiv_i (i j : Int) (Q : D → Bool → Prop) : oFdiv (.int i) (.int j) Q = (fdivOk j ∧ Q (.int (i.fdiv j)) false) := by
  unfold oFdiv fdivOk
  simp only [and_assoc]
theorem oMod_i (i j : Int) (Q : D → Bool → Prop) : oMod (.int i) (.int j) Q = (j ≠ 0 ∧ Q (.int (i.fmod j)) false) := rfl
theorem oPow_i (i j : Int) (Q : D → Bool → Prop) : oPow (.int i) (.int j) Q = (powOk i j ∧ Q (.int (i ^ j.toNat)) false) := rfl
theorem oNeg_i (i : Int) (Q : D → Bool → Prop) : oNeg (.int i) Q = Q (.int (-i)) false := rfl
theorem oEq_h (d e : D) (Q : D → Bool → Prop) : oEq d e Q = (tame d ∧ tame e ∧ Q (.bool (PyData.eqv d e)) false) := rfl
theorem oNe_h (d e : D) (Q : D → Bool → Prop) : oNe d e Q = (tame d ∧ tame e ∧ Q (.bool (!PyData.eqv d e)) false) := rfl
theorem oEq_i (i j : Int) (Q : D → Bool → Prop) : oEq (.int i) (.int j) Q = Q (.bool (decide (i = j))) false := by
  simp only [oEq, tame_int, true_and, eqv_int]
theorem oNe_i (i j : Int) (Q : D → Bool → Prop) : oNe (.int i) (.int j) Q = Q (.bool (!decide (i = j))) false := by
  simp only [oNe, tame_int, true_and, eqv_int]
theorem oLt_i (i j : Int) (Q : D → Bool → Prop) : oLt (.int i) (.int j) Q = Q (.bool (decide (i < j))) false := rfl
theorem oLe_i (i j : Int) (Q : D → Bool → Prop) : oLe (.int i) (.int j) Q = Q (.bool (decide (i ≤ j))) false := rfl
theorem oGt_i (i j : Int) (Q : D → Bool → Prop) : oGt (.int i) (.int j) Q = Q (.bool (decide (j < i))) false := rfl
theorem oGe_i (i j : Int) (Q : D → Bool → Prop) : oGe (.int i) (.int j) Q = Q (.bool (decide (j ≤ i))) false := rfl
theorem oIx_l (xs : List D) (i : Int) (Q : D → Bool → Prop) : oIx (.list xs) (.int i) Q = Hold (∃ x, atD xs i = some x ∧ Q x false) .mk := rfl
theorem oIx_t (xs : List D) (i : Int) (Q : D → Bool → Prop) : oIx (.tuple xs) (.int i) Q = Hold (∃ x, atD xs i = some x ∧ Q x false) .mk := rfl
theorem oLen_l (xs : List D) (Q : D → Bool → Prop) : oLen (.list xs) Q = Q (.int xs.length) false := rfl
theorem oLen_t (xs : List D) (Q : D → Bool → Prop) : oLen (.tuple xs) Q = Q (.int xs.length) false := rfl
theorem oLen_scr (xs : List D) (Q : D → Bool → Prop) : oLen (scrD xs) Q = Q (.int xs.length) false := rfl
theorem oAbs_i (i : Int) (Q : D → Bool → Prop) : oAbs (.int i) Q = Q (.int (if i < 0 then -i else i)) false := rfl
theorem oInt_i (i : Int) (Q : D → Bool → Prop) : oInt (.int i) Q = Q (.int i) false := rfl
theorem oInt_b (b : Bool) (Q : D → Bool → Prop) : oInt (.bool b) Q = Q (.int (if b then 1 else 0)) false := rfl
theorem oMax2_i (i j : Int) (Q : D → Bool → Prop) : oMax2 (.int i) (.int j) Q = Q (.int (if j > i then j else i)) false := rfl
theorem oMin2_i (i j : Int) (Q : D → Bool → Prop) : oMin2 (.int i) (.int j) Q = Q (.int (if j < i then j else i)) false := rfl
theorem oStr_i (i : Int) (Q : D → Bool → Prop) : oStr (.int i) Q = (shOk i ∧ Q (.str (txt i)) false) := rfl
theorem oStr_s (x : Str) (Q : D → Bool → Prop) : oStr (.str x) Q = Q (.str x) false := rfl
theorem oFmt_i (i : Int) (Q : D → Bool → Prop) : oFmt (.int i) Q = (shOk i ∧ Q (.str (txt i)) false) := rfl
theorem oFmt_s (x : Str) (Q : D → Bool → Prop) : oFmt (.str x) Q = (x.length ≤ LIM ∧ Q (.str x) false) := rfl
theorem oCut_l (lo hi : Option Int) (xs : List D) (Q : D → Bool → Prop) : oCut lo hi (.list xs) Q = Q (.list (cutD xs lo hi)) true := rfl
theorem oCut_t (lo hi : Option Int) (xs : List D) (Q : D → Bool → Prop) : oCut lo hi (.tuple xs) Q = Q (.tuple (cutD xs lo hi)) false := rfl
theorem oCut_scr (lo hi : Option Int) (xs : List D) (Q : D → Bool → Prop) : oCut lo hi (scrD xs) Q = Q (.list (cutD xs lo hi)) true := rfl
theorem startE_nil (bs : List Bool) (n : Nat) : startE bs [] n = List.replicate n none := rfl
theorem startE_f (bs : List Bool) (d : D) (ds : List D) (n : Nat) : startE (false :: bs) (d :: ds) n = some (.sh d) :: startE bs ds n := rfl
theorem startE_t (bs : List Bool) (d : D) (ds : List D) (n : Nat) : startE (true :: bs) (d :: ds) n = some (.bo d) :: startE bs ds n := rfl
theorem shortK_nil (p : Prop) : shortK [] p = p := by simp [shortK, shortL, LIM]
theorem shortK_c1 (a : D) (p : Prop) : shortK [a] p = p := by simp [shortK, shortL, LIM]
theorem shortK_c2 (a b : D) (p : Prop) : shortK [a, b] p = p := by simp [shortK, shortL, LIM]
theorem shortK_c3 (a b c : D) (p : Prop) : shortK [a, b, c] p = p := by simp [shortK, shortL, LIM]
theorem shortK_c4 (a b c d : D) (p : Prop) : shortK [a, b, c, d] p = p := by simp [shortK, shortL, LIM]
theorem shortK_c5 (a b c d e : D) (p : Prop) : shortK [a, b, c, d, e] p = p := by simp [shortK, shortL, LIM]
theorem shortK_c6 (a b c d e f : D) (p : Prop) : shortK [a, b, c, d, e, f] p = p := by simp [shortK, shortL, LIM]
/-- a slot that holds nothing, or data nobody looks at -/
abbrev gb (o : Option D) : Option EV := o.map EV.sh
theorem free_g (o : Option D) (ρ : Env) : free (Option.map EV.sh o :: ρ) 0 = True := by cases o <;> rfl
theorem lent_g (o : Option D) (ρ : Env) : lent (Option.map EV.sh o :: ρ) = lent ρ := by cases o <;> rfl
theorem mem_cut {xs : List D} {lo hi : Option Int} {x : D} (h : x ∈ cutD xs lo hi) : x ∈ xs := List.mem_of_mem_drop (List.mem_of_mem_take h)
theorem atD_mem {α : Type} {xs : List α} {i : Int} (h0 : 0 ≤ i) (h1 : i < xs.length) : ∃ x ∈ xs, atD xs i = some x := by
  obtain ⟨k, rfl⟩ := Int.eq_ofNat_of_zero_le h0
  rw [atD_nat]
  have hk : k < xs.length := by omega
  exact ⟨xs[k], List.getElem_mem hk, List.getElem?_eq_getElem hk⟩
def reprOk (xs : List D) : Prop := tame (.list xs) ∧ PyData.showable (.list xs) = true ∧ (PyData.shown (.list xs)).length ≤ LIM
theorem oRepr_l (xs : List D) (Q : D → Bool → Prop) : oRepr (.list xs) Q = (reprOk xs ∧ Q (.str (PyData.shown (.list xs))) false) := rfl
theorem oEq_s (x y : Str) (Q : D → Bool → Prop) : oEq (.str x) (.str y) Q = Q (.bool (PyData.eqv (.str x) (.str y))) false := by
  simp only [oEq, tame_str, true_and]
theorem oNe_s (x y : Str) (Q : D → Bool → Prop) : oNe (.str x) (.str y) Q = Q (.bool (!PyData.eqv (.str x) (.str y))) false := by
  simp only [oNe, tame_str, true_and]
end Dl
set_option maxRecDepth 100000
set_option maxHeartbeats 1000000
/-! DsU: told: try: return ('told', call()) except WatchError as e: the error's name. -/
namespace Dl
open PySem PySem.Spec PyProof.Rows L2 LamX
set_option autoImplicit false
/-! ### the classes of errors -/
/-- where the classes lie: NotAllowed, TooLarge, Missing, BadForm, Broken, WatchError -/
structure Errs where
  n : Addr
  l : Addr
  m : Addr
  f : Addr
  b : Addr
  w : Addr
def Errs.at (r : Errs) : Exc → Option Addr
  | .refused => some r.n
  | .large => some r.l
  | .missing => some r.m
  | _ => none
def excBits : Exc → List Bool
  | .refused => [true, false, false, false, false]
  | .large => [false, true, false, false, false]
  | .missing => [false, false, true, false, false]
  | .form _ => [false, false, false, true, false]
  | .broken _ => [false, false, false, false, true]
/-- what is asked of the class C of the error x -/
structure ErrOk (K : PySem.W.Frag) (r : Errs) (bits : List Bool) (C : Addr) : Prop where
  exc : ExcC K C
  ex : PySem.W.exmOne K (.ref C) (.ref r.w) = some true
  k1 : PySem.W.kitOne K (.ref C) (.ref r.n) = bits[0]?
  k2 : PySem.W.kitOne K (.ref C) (.ref r.l) = bits[1]?
  k3 : PySem.W.kitOne K (.ref C) (.ref r.m) = bits[2]?
  k4 : PySem.W.kitOne K (.ref C) (.ref r.f) = bits[3]?
  k5 : PySem.W.kitOne K (.ref C) (.ref r.b) = bits[4]?
structure ErrsIn (K : PySem.W.Frag) (mg : Str → Option Value) (r : Errs) : Prop where
  gn : mg "NotAllowed" = some (.ref r.n)
  gl : mg "TooLarge" = some (.ref r.l)
  gm : mg "Missing" = some (.ref r.m)
  gf : mg "BadForm" = some (.ref r.f)
  gb : mg "Broken" = some (.ref r.b)
  gw : mg "WatchError" = some (.ref r.w)
  ok : ∀ x C, r.at x = some C → ErrOk K r (excBits x) C
/-- the heap goes on, the tables too -/
def Quiet (T : List (Addr × Str)) (H H' : Hp) : Prop := (∀ a o, NT o → H a = some o → H' a = some o) ∧ Tabs T H'
/-- what told does with an error: it tells its name -/
def ToldE (T : List (Addr × Str)) (K : PySem.W.Frag) (r : Errs) (Q : VK) : XK := fun cls d H' => d = none ∧ ∃ x C, r.at x = some C ∧ cls = .ref C ∧ Tabs T H' ∧
  ∀ v F' H'', Quiet T H' H'' → Sub F' H'' → (∀ a ps, F' a ≠ some (.tbl ps)) → (∀ a o, NT o → H' a = some o → F' a = none) → At K F' v (.tuple [.str (excName x)]) → Q v H''
def TTold (T : List (Addr × Str)) (K : PySem.W.Frag) (r : Errs) : (XK → Hp → VK → Prop) → Hp → VK → Prop := fun tl H Q =>
  tl (ToldE T K r Q) H (fun v H' => (2 : Nat) ≤ sizeLine ∧ ∀ p, H' p = none → Q (.ref p) (upd H' p (.tup [.str (Str.ofString "told"), v])))
/-- names = [[..][k] for k in range(5) if kinds[k]]; return ([..][..],) -/
def wToldS : WS :=
  wSeq (wAsg (wLc (itR1 (wC (.int 5))) (gN 4) (wTv (wBL oIx 2 (wV 4))) (wB oIx (wLst (wCons (wC (.str (Str.ofString "refused"))) (wCons (wC (.str (Str.ofString "large"))) (wCons (wC (.str (Str.ofString "missing"))) (wCons (wC (.str (Str.ofString "form"))) (wCons (wC (.str (Str.ofString "broken"))) wNil)))))) (wV 4)) [4]) (gN 3))
    (wRet (wTup (wCons (wB oIx (wLst (wCons (wC (.str (Str.ofString "odd"))) (wCons (wB oIx (wB oAdd (wV 3) (wLst (wCons (wC (.str (Str.ofString ""))) wNil))) (wC (.int 0))) wNil))) (wO oInt (wB oEq (wOP oLen 3) (wC (.int 1))))) wNil)))
theorem told_reads (x : Exc) (P : Po) (h : ∀ ρ, P.rt (.tuple [.str (excName x)]) false ρ) : wToldS P [none, none, some (.ow (.list ((excBits x).map PyData.bool))), none, none] := by
  have at3 : ∀ (a b c d : D) (l : List D), atD (a :: b :: c :: d :: l) 3 = some d := fun a b c d l => atD_nat (a :: b :: c :: d :: l) 3
  have at4 : ∀ (a b c d e : D) (l : List D), atD (a :: b :: c :: d :: e :: l) 4 = some e := fun a b c d e l => atD_nat (a :: b :: c :: d :: e :: l) 4
  have r5 : rangeL 0 5 = [.int 0, .int 1, .int 2, .int 3, .int 4] := rfl
  cases x <;>
    simp [wToldS, wSeq, wAsg, wLc, itR1, wC, lcGo, gN, Dl.free, setE, wTv, wBL, wV, oIx, rdE, EV.dat, wB, wLst, wCons, wNil, excBits, excName, frees, wipeE, backE, wRet, wTup, oAdd, wO, wOP, oLen, oEq, oInt, tame_int, eqv_int, r5, atD0, atD1, atD2, at3, at4, LIM] <;>
    exact h _

theorem AtL.ofBools {K : PySem.W.Frag} {F : Hp} : ∀ ns : List Bool, AtL K F (ns.map V.bl) (ns.map PyData.bool)
  | [] => .nil
  | n :: ns => .cons (.bl n) (.ofBools ns)
theorem takesF {X : Cx} : L2N.Takes X (fun _ _ _ _ => False) := fun u s' h => by
  obtain ⟨_, _, _, _, _, _, _, _, _, _, _, _, _, _, _, _, z⟩ := h
  exact z.elim
/-- the slots of told: call, e, kinds, names, k -/
abbrev toldN : List Str := ["call", "e", "kinds", "names", "k"]
/-- kinds = [isinstance(e, ..), ..] -/
abbrev kindsS (p7 p8 p9 pe1 pe2 pe3 pe4 pe5 pn1 pn2 pn3 pn4 pn5 pi1 pi2 pi3 pi4 pi5 pc1 pc2 pc3 pc4 pc5 : Pos) : Stmt :=
  .Assign [.Name "kinds" p7] (.List [.Call (.Name "isinstance" pi1) [.Name "e" pe1, .Name "NotAllowed" pn1] [] pc1, .Call (.Name "isinstance" pi2) [.Name "e" pe2, .Name "TooLarge" pn2] [] pc2, .Call (.Name "isinstance" pi3) [.Name "e" pe3, .Name "Missing" pn3] [] pc3,
            .Call (.Name "isinstance" pi4) [.Name "e" pe4, .Name "BadForm" pn4] [] pc4, .Call (.Name "isinstance" pi5) [.Name "e" pe5, .Name "Broken" pn5] [] pc5] p8) p9
section
variable {X : Cx} {T : List (Addr × Str)} {r : Errs} {x q : Str} {sg : Scope} {g : Addr} {cdg : Value}
/-- the errors' suite: kinds, then what is read in wToldS -/
def suiteT (K : PySem.W.Frag) (r : Errs) (a : Addr) (cls : Value) (d : Option Addr) (ts : TS) : TS := fun D σ H => d = none ∧ ∃ x C, r.at x = some C ∧ cls = .ref C ∧ σ[1]? = some (some (.ref a)) ∧
  ∀ p, H p = none → ts D (σ.set 2 (some (.ref p))) (upd H p (.lst ((excBits x).map V.bl)))
theorem told_gives {sts : List Stmt} {j0 kt : Nat} {p1 p2 p3 p4 p5 p6 p7 p8 p9 p10 p11 : Pos} {pe1 pe2 pe3 pe4 pe5 pn1 pn2 pn3 pn4 pn5 pi1 pi2 pi3 pi4 pi5 pc1 pc2 pc3 pc4 pc5 : Pos}
    (R : ErrsIn X.K X.mg r) (nb : X.mg "isinstance" = none) (S : FnScope toldN ["call"] sg)
    (h1 : sg.names.lookup ("e" : Str) = some .local) (h2 : sg.names.lookup ("kinds" : Str) = some .cell) (gw : sg.names.lookup ("WatchError" : Str) = some .globalImplicit) (gi : sg.names.lookup ("isinstance" : Str) = some .globalImplicit)
    (g1 : sg.names.lookup ("NotAllowed" : Str) = some .globalImplicit) (g2 : sg.names.lookup ("TooLarge" : Str) = some .globalImplicit) (g3 : sg.names.lookup ("Missing" : Str) = some .globalImplicit) (g4 : sg.names.lookup ("BadForm" : Str) = some .globalImplicit) (g5 : sg.names.lookup ("Broken" : Str) = some .globalImplicit)
    (hS : ∀ (s : Shared) (H : Hp) (a : Addr) (oe : Obj) (cls : Value) (d : Option Addr) (pn : List (Addr × Obj)), L2N.Zn cls d oe → (∃ vs, oe.data = .fields vs) →
      DSs ((cxOf (L2N.CX X.prog X.w) X.prog X.w X.K X.mg X.base toldN x sg g cdg X.A X.stack s H noE).suite a ((a, oe) :: pn)) ⟨fun _ _ _ _ => False, T⟩ E0d noE sts wToldS) :
    GivesN X toldN x sg g cdg
      [.Try [.Return (some (.Tuple [.Constant (.str (Str.ofString "told")) j0 p1, .Call (.Name "call" p2) [] [] p3] kt p4)) p5]
        [.ExceptHandler (some (.Name "WatchError" p6)) (some "e")
          (kindsS p7 p8 p9 pe1 pe2 pe3 pe4 pe5 pn1 pn2 pn3 pn4 pn5 pi1 pi2 pi3 pi4 pi5 pc1 pc2 pc3 pc4 pc5 :: sts) p10] [] [] p11] "call" q (TTold T X.K r) := by
  intro f c' s H Q tl act code want
  let X0 : Cx := cxOf (L2N.CX X.prog X.w) X.prog X.w X.K X.mg X.base toldN x sg g cdg X.A X.stack s H noE
  let rest : Addr → Value → Option Addr → TS := fun a cls d D σ H' => ∀ (oe : Obj) (pn : List (Addr × Obj)) (hz : L2N.Zn cls d oe) (hv : ∃ vs, oe.data = .fields vs), (hS s H a oe cls d pn hz hv).ex.choose D σ H'
  have suite : ∀ (a : Addr) (oe : Obj) (cls : Value) (d : Option Addr) (pn : List (Addr × Obj)), L2N.Zn cls d oe → (∃ vs, oe.data = .fields vs) → PSs (X0.suite a ((a, oe) :: pn)) (kindsS p7 p8 p9 pe1 pe2 pe3 pe4 pe5 pn1 pn2 pn3 pn4 pn5 pi1 pi2 pi3 pi4 pi5 pc1 pc2 pc3 pc4 pc5 :: sts) (suiteT X.K r a cls d (rest a cls d)) := by
    intro a oe cls d pn hz hv
    constructor
    rintro pins s' σ H' D I ⟨rfl, x, C, hx, rfl, slot, h⟩
    have ok := R.ok x C hx
    have one : ∀ {nm : Str} {C' : Addr} {b : Bool} {pa pb pc pd : Pos}, X.mg nm = some (.ref C') → sg.names.lookup nm = some .globalImplicit → PySem.W.kitOne X.K (.ref C) (.ref C') = some b → (nm == ("__debug__" : Str)) = false →
        PE (X0.suite a ((a, oe) :: pn)) (.Call (.Name "isinstance" pa) [.Name "e" pb, .Name nm pc] [] pd) (fun σ H Q => σ[1]? = some (some (.ref a)) ∧ Q (.bl b) H) := fun {nm C' b pa pb pc pd} hm hl hk hd => by
      have base : PE (X0.suite a ((a, oe) :: pn)) (.Call (.Name "isinstance" pa) [.Name "e" pb, .Name nm pc] [] pd) _ :=
        pe_callB (call_isE ok.exc hz.zc hv) gi nb (by decide +kernel) (pa_cons (pe_var (i := 1) rfl (.inl h1)) (pa_cons (pe_glob (v := .ref C') hl hm rfl hd) pa_nil))
      refine ⟨fun pins s σ H Q I ⟨sl, q⟩ => base.run pins s σ H Q I ⟨.ref a, sl, .ref C', .ref C', b, rfl, fun u h => h, hk, q⟩⟩
    obtain ⟨b1, b2, b3, b4, b5, eb⟩ : ∃ b1 b2 b3 b4 b5, excBits x = [b1, b2, b3, b4, b5] := by cases x <;> exact ⟨_, _, _, _, _, rfl⟩
    have ok' := ok
    rw [eb] at ok'
    have all := pss_cons (ps_set (X := X0.suite a ((a, oe) :: pn)) (i := 2) (x := "kinds") (pos := p9) (pos' := p7) S.nd rfl (.inr h2) (pe_lst (pos := p8)
      (pa_cons (one (pa := pi1) (pb := pe1) (pc := pn1) (pd := pc1) R.gn g1 ok'.k1 (by decide)) (pa_cons (one (pa := pi2) (pb := pe2) (pc := pn2) (pd := pc2) R.gl g2 ok'.k2 (by decide)) (pa_cons (one (pa := pi3) (pb := pe3) (pc := pn3) (pd := pc3) R.gm g3 ok'.k3 (by decide))
        (pa_cons (one (pa := pi4) (pb := pe4) (pc := pn4) (pd := pc4) R.gf g4 ok'.k4 (by decide)) (pa_cons (one (pa := pi5) (pb := pe5) (pc := pn5) (pd := pc5) R.gb g5 ok'.k5 (by decide)) pa_nil)))))) rfl (.inl rfl)) (hS s H a oe (.ref C) none pn hz hv).ex.choose_spec.1
    refine all.run pins s' σ H' D I ⟨slot, slot, slot, slot, slot, (by decide : (5 : Nat) ≤ sizeLine), fun p hp => ?_⟩
    have z := h p hp oe pn hz hv
    rw [eb] at z
    exact z
  have body : ∀ (W : WX) (pn : List (Addr × Obj)) (xe : Value → Shared → Prop), L2N.Takes (X0.tr pn xe) W → PassesOwn (model X0.prog X0.w) X0.A X0.env xe →
      PSs (X0.tr pn xe) [.Return (some (.Tuple [.Constant (.str (Str.ofString "told")) j0 p1, .Call (.Name "call" p2) [] [] p3] kt p4)) p5]
        (fun D σ H' => ∃ Ech : XK, (∀ (cls : Value) (d : Option Addr) (σ' : L2.St) (H2 : Hp), σ'.length = toldN.length → Ech cls d H2 → W cls d σ' H2) ∧ σ[0]? = some (some (.ref f)) ∧ H' c' = some (CodeO c' q) ∧
          tl Ech H' (fun v H1 => (2 : Nat) ≤ sizeLine ∧ ∀ p, H1 p = none → D.rt (.ref p) (upd H1 p (.tup [.str (Str.ofString "told"), v])))) := by
    intro W pn xe tk _
    constructor
    rintro pins s' σ H' D I ⟨Ech, hW, e1, e2, e3⟩
    have made := pss_one (ps_ret (pos := p5) (pe_tup (x1 := kt) (pos := p4) (pa_cons (pe_str (j := j0) (pos := p1) (x := Str.ofString "told")) (pa_cons (act W pn xe Ech p2 p3 tk hW) pa_nil))))
    exact made.run pins s' σ H' D I ⟨e1, e2, e3⟩
  have tried := pss_one (L2N.ps_try_as (X := X0) (x := "WatchError") (n := "e") (c := .ref r.w) (i := 1) (np := p6) (pos := p11) (pos' := p10) (Wout := fun _ _ _ _ => False) rfl rfl S.nd rfl h1 ⟨gw, by decide, .inl R.gw⟩ takesF body suite)
  refine ⟨_, tried, ToldE T X.K r Q, ?_, rfl, code, want⟩
  rintro cls d σ' H2 hl ⟨rfl, x, C, hx, rfl, tabs, fin⟩
  refine ⟨true, (R.ok x C hx).ex, fun _ a ha => ⟨rfl, x, C, hx, rfl, List.getElem?_set_self (by rw [hl]; decide), fun p hp oe pn hz hv => ?_⟩, fun z => nomatch z⟩
  have np : ∀ {b : Addr} {o : HO}, H2 b = some o → upd H2 p (.lst ((excBits x).map V.bl)) b = some o := fun {b o} e => by rw [upd_ne (ne_of_none e hp)]; exact e
  have len5 : σ'.length = 5 := hl
  have R0 : Rl X.K { H0 := noTab H2, F0 := fun _ => none, b := fun _ => none, T := T, nt := fun a o e ps z => noTab_ft H2 a ps (z ▸ e) } [none, none, some (.ow (.list ((excBits x).map PyData.bool))), none, none] (fun _ => none) ((σ'.set 1 (some (.ref a))).set 2 (some (.ref p))) (upd H2 p (.lst ((excBits x).map V.bl))) := by
    refine ⟨by rw [List.length_set, List.length_set, len5]; rfl, (fun _ _ e => nomatch e), (fun _ _ e => nomatch e), ⟨fun b o e _ => np (noTab_sub H2 b o e), Tabs_sub tabs fun b o e => np e⟩, fun _ _ _ _ => rfl, (fun _ _ e => nomatch e), (fun _ _ _ e => nomatch e), (fun _ _ e => nomatch e), fun i e he => ?_, fun i j b d e h1 h2 _ _ => ?_, (fun _ _ e => nomatch e)⟩
    · have i2 : i = 2 ∧ e = .ow (.list ((excBits x).map PyData.bool)) := by
        match i, he with
        | 0, he => cases he
        | 1, he => cases he
        | 2, he => cases he; exact ⟨rfl, rfl⟩
        | 3, he => cases he
        | 4, he => cases he
        | i + 5, he => simp at he
      obtain ⟨rfl, rfl⟩ := i2
      exact ⟨.ref p, List.getElem?_set_self (by rw [List.length_set, len5]; decide), p, rfl, rfl, ⟨_, upd_same, AtL.ofBools _, by cases x <;> exact (by decide : (5 : Nat) ≤ LIM)⟩, noTab_none hp⟩
    · have two : ∀ {i : Nat} {d : D}, ([none, none, some (.ow (.list ((excBits x).map PyData.bool))), none, none] : Dl.Env)[i]? = some (some (.ow d)) → i = 2 := fun {i d} he => by
        match i, he with
        | 0, he => cases he
        | 1, he => cases he
        | 2, _ => rfl
        | 3, he => cases he
        | 4, he => cases he
        | i + 5, he => simp at he
      rw [two h1, two h2]
  have sim := (hS s H a oe (.ref C) none pn hz hv).ex.choose_spec.2
  refine sim _ ⟨rfl, fun _ z => z.elim⟩ _ _ _ _ R0 { nx := fun _ => False, rt := fun d f _ => d = .tuple [.str (excName x)] ∧ f = false } _ (told_reads x _ fun _ => ⟨rfl, rfl⟩) ⟨fun _ _ _ _ z => z.elim, fun d fl ρ v F' σ2 H3 hd R' res => ?_, fun _ _ _ _ z => z.elim, fun _ _ _ _ z => z.elim⟩
  obtain ⟨rfl, rfl⟩ := hd
  refine fin v F' H3 ⟨fun b o nt e => R'.fr.1 b o (noTab_nt e nt) (fun _ z => nomatch z), R'.fr.2⟩ R'.sub R'.ft (fun b o nt e => R'.nw b o (noTab_nt e nt) rfl) (by unfold Res at res; rw [if_neg Bool.false_ne_true] at res; exact res)
end

/-! ### told's reading -/
section
variable {K : PySem.W.Frag} {EA : EAT} {E : Exc → Prop} {EH : XK} {G : Gm} {ρ : Dl.Env} {F F1 H H1 : Hp} {σ : L2.St}
theorem Rl.fz1 (R : Rl K G ρ F σ H) (i : Nat) : ∃ F', Rl K G (fzE ρ i) F' σ H ∧ Sub F F' := by
  unfold fzE
  split
  · rename_i d he
    have XAt : XA ⟨fun _ _ _ _ => False, G.T⟩ E0d noE G := ⟨rfl, fun _ z => z.elim⟩
    have key := sim_v (K := K) (i := i) G XAt ρ F σ H R (fun _ _ ρ' => ρ' = ρ.set i (some (.sh d))) (fun _ H' => H' = H → ∃ F', Rl K G (ρ.set i (some (.sh d))) F' σ H ∧ Sub F F') (by unfold wV; rw [he]) ?_
    · obtain ⟨v, _, q⟩ := key
      exact q rfl
    · rintro d' f ρ' v F' H' rfl R' sf _ rfl
      exact ⟨F', R', sf⟩
  · exact ⟨F, R, Sub.refl _⟩
theorem Rl.fzs : ∀ (cs : List Nat) {ρ : Dl.Env} {F : Hp}, Rl K G ρ F σ H → ∃ F', Rl K G (fzL ρ cs) F' σ H ∧ Sub F F'
  | [], _, F, R => ⟨F, R, Sub.refl _⟩
  | i :: cs, _, _, R => by
    obtain ⟨F1, R1, s1⟩ := R.fz1 i
    obtain ⟨F2, R2, s2⟩ := Rl.fzs cs R1
    exact ⟨F2, R2, s1.trans s2⟩
/-- within the lambda: all is locked -/
noncomputable def Gm.shut (G : Gm) (F H : Hp) : Gm := ⟨noTab H, F, fun _ => none, G.T, fun a o e ps z => noTab_ft H a ps (z ▸ e)⟩
theorem hideE_get {ρ : Dl.Env} {i : Nat} {e : EV} (h : (hideE ρ)[i]? = some (some e)) : ∃ d, e = .sh d ∧ ρ[i]? = some (some (.sh d)) := by
  unfold hideE at h
  rw [List.getElem?_map] at h
  cases q : ρ[i]? with
  | none => rw [q] at h; cases h
  | some o =>
    rw [q] at h
    match o, h with
    | some (.sh d), h => cases h; exact ⟨d, rfl, rfl⟩
    | some (.ow d), h => cases h
    | some (.bo d), h => cases h
    | none, h => cases h
theorem Rl.shut (R : Rl K G ρ F σ H) : Rl K (G.shut F H) (hideE ρ) F σ H := by
  refine ⟨by unfold hideE; rw [List.length_map]; exact R.len, R.sub, Sub.refl _, ⟨fun a o e _ => noTab_sub H a o e, R.fr.2⟩, fun a o _ n => n, (fun _ _ e => nomatch e), (fun _ _ _ e => nomatch e), (fun _ _ e => nomatch e), fun i e he => ?_, fun i j a d e h _ _ _ => ?_, R.ft⟩
  · obtain ⟨d, rfl, h⟩ := hideE_get he
    exact R.sl i _ h
  · obtain ⟨_, z, _⟩ := hideE_get h
    cases z
/-- behind it -/
theorem Rl.reopen {F2 H2 : Hp} (R : Rl K G ρ F σ H) (fr : (G.shut F H).fr H2) (s1 : Sub F F2) (s2 : Sub F2 H2) (nw : ∀ a o, NT o → H a = some o → F2 a = F a) (ft : ∀ a ps, F2 a ≠ some (.tbl ps)) : Rl K G ρ F2 σ H2 :=
  R.growW ⟨fun a o nt e => fr.1 a o (noTab_nt e nt) (fun _ z => nomatch z), s1, s2, nw, fun a ps e => absurd e (ft a ps), fun _ => fr.2⟩
theorem shut_nw {ρ' : Dl.Env} {F2 H2 : Hp} (R' : Rl K (G.shut F H) ρ' F2 σ H2) : ∀ a o, NT o → H a = some o → F2 a = F a := fun a o nt e => by
  cases z : F a with
  | some u => exact R'.mono a u z
  | none => exact R'.nw a o (noTab_nt e nt) z
theorem sim_told {r : Errs} {T : List (Addr × Str)} {t : XK → TE} {fw : (Exc → Prop) → WE} {cs : List Nat} (hT : EA.T = T) (hEA : ∀ x c d H', EA.ea x c d H' → d = none ∧ ∃ C, r.at x = some C ∧ c = .ref C)
    (st : ∀ (Ed : Exc → Prop) (Eh : XK), SimE K EA Ed Eh (t Eh) (fw Ed)) : SimE K EA E EH (tLam T (TTold T K r) t) (wTold cs fw) := by
  intro G xa ρ F0 σ H0 R0 Qd Q h k
  subst hT
  have gT := xa.1
  refine ⟨gT ▸ R0.fr.2, fun H1 ext tabs => ?_⟩
  obtain ⟨F, R, sF⟩ := R0.fzs cs
  have R1 : Rl K G (fzL ρ cs) F σ H1 := R.growW ⟨fun a o nt e => ext a o e nt, Sub.refl _, fun a o e => ext a o (R.sub a o e) (fun ps z => R.ft a ps (z ▸ e)), fun _ _ _ _ => rfl, fun _ _ e => e, fun _ => gT ▸ tabs⟩
  have fin : ∀ (d : D) (v : V) (F2 F3 H2 H3 : Hp), (G.shut F H1).fr H2 → Sub F F2 → Sub F2 H2 → (∀ a o, NT o → H1 a = some o → F2 a = F a) → (∀ a ps, F2 a ≠ some (.tbl ps)) → Gw G.T F2 H2 F3 H3 → At K F3 v d → Qd d false (fzL ρ cs) → Q v H3 := by
    intro d v F2 F3 H2 H3 fr s1 s2 nw ft g a q
    have R2 := R1.reopen fr s1 s2 nw ft
    exact k d false _ v F3 H3 q (R2.growW g) ((sF.trans s1).trans g.ff) (Res.at a)
  have inner := st (fun x => Qd (.tuple [.str (excName x)]) false (fzL ρ cs)) (ToldE EA.T K r Q)
  refine SimE.run (Qd := fun d _ => Qd (.tuple [.str (Str.ofString "told"), d]) false (fzL ρ cs)) inner (G := G.shut F H1) ⟨gT, fun x hx c d H' ha fr => ?_⟩ R1.shut h fun d ρ' v F2 H2 q R' s2 a2 => ?_
  · obtain ⟨hd, C, hC, hc⟩ := hEA x c d H' ha
    refine ⟨hd, x, C, hC, hc, gT ▸ fr.2, fun v F' H'' quiet sub ft new at' => ?_⟩
    have apart : ∀ a o, F a = some o → F' a = none := fun a o e => new a o (fun ps z => R.ft a ps (z ▸ e)) (fr.1 a o (noTab_nt (R1.sub a o e) (fun ps z => R.ft a ps (z ▸ e))) (fun _ z => nomatch z))
    let F3 : Hp := fun a => match F a with
      | some o => some o
      | none => F' a
    have f1 : Sub F F3 := fun a o e => by show (match F a with | some o => some o | none => F' a) = _; rw [e]
    have f2 : Sub F' F3 := fun a o e => by
      show (match F a with | some o => some o | none => F' a) = _
      cases z : F a with
      | none => exact e
      | some u => rw [apart a u z] at e; cases e
    have sH : Sub F H' := fun a o e => fr.1 a o (noTab_nt (R1.sub a o e) (fun ps z => R.ft a ps (z ▸ e))) (fun _ z => nomatch z)
    refine fin _ v F F3 H' H'' fr (Sub.refl _) sH (fun _ _ _ _ => rfl) R.ft ⟨quiet.1, f1, fun a o e => ?_, fun a o nt e => ?_, fun a ps e => ?_, fun _ => gT ▸ quiet.2⟩ (at'.mono f2) hx
    · have e' : (match F a with | some o => some o | none => F' a) = some o := e
      cases z : F a with
      | none => rw [z] at e'; exact sub a o e'
      | some w => rw [z] at e'; cases e'; exact quiet.1 a o (fun ps y => R.ft a ps (y ▸ z)) (sH a o z)
    · show (match F a with | some o => some o | none => F' a) = F a
      cases z : F a with
      | none => exact new a o nt e
      | some u => rfl
    · have e' : (match F a with | some o => some o | none => F' a) = some (.tbl ps) := e
      cases z : F a with
      | none => rw [z] at e'; exact absurd e' (ft a ps)
      | some u => rw [z] at e'; exact e'
  · refine ⟨by decide, fun p hp => ?_⟩
    have g := Gr.new (o := .tup [.str (Str.ofString "told"), v]) R'.sub hp
    exact fin _ (.ref p) F2 _ H2 _ R'.fr R'.mono R'.sub (shut_nw R') R'.ft g.w (.tup (.inl (.inl upd_same)) (.cons (.str _) (.cons (a2.mono g.ff) .nil)) (by show (2 : Nat) ≤ 16777216; decide)) q
end

/-- told(lambda: body) -/
theorem de_told {X : Cx} {EA : EAT} {E : Exc → Prop} {EH : XK} {r : Errs} {x : Str} {st : Stmt} {g c P : Addr} {d : FuncData} {k : Nat} {params : Arguments} {body : Expr} {scope : Scope} {fw : (Exc → Prop) → WE} {p lpos pos : Pos} (cs : List Nat)
    (Fd : Fun X.K x x st g d) (hm : X.mg x = some (.ref g)) (hb : L2.Binds X.K d ["call"] []) (S : FnScope toldN ["call"] (defScope st))
    (hG : ∀ cdv, GivesN X toldN x (defScope st) g cdv (defBody st) "call" (X.env.qual ++ "<lambda>") (TTold EA.T X.K r))
    (TB : TabB X.base X.mg c P) (hcode : X.env.code = .ref c) (hmT : (P, X.env.qual ++ "<lambda>") ∈ EA.T) (hu : ∀ p ∈ EA.T, p.1 = P → p.2 = X.env.qual ++ "<lambda>") (hr : Room (k + 2) X.A)
    (hEA : ∀ x c d H', EA.ea x c d H' → d = none ∧ ∃ C, r.at x = some C ∧ c = .ref C)
    (hbody : ∀ (A : Around) (outer : List PySem.Env) (s : Shared) (H : Hp) (f c' : Addr) (Eh : XK) (Ed : Exc → Prop), Room k (A.deeper (lamEnv X scope s.heap.objs.size f c')) → Passes (L2N.CX (lcx X A outer s H Eh scope f c').prog (lcx X A outer s H Eh scope f c').w) (lcx X A outer s H Eh scope f c') Eh → DE (lcx X A outer s H Eh scope f c') EA Ed Eh body (fw Ed))
    (L : LamS X.env.scope scope) (hg : Gl X x := by rfl) (hdef : defaultsOf params X.env = ([], []) := by rfl)
    (hbind : ∀ (q : Str) (cl : List (Str × Addr)) (pm cv ctv : Value), bindArgs (PySem.W.kla_fn "<lambda>" q params body scope cl pm cv ctv) ⟨[], []⟩ = pure [] := by intros; rfl)
    (hdb : (x == ("__debug__" : Str)) = false := by decide) : DE X EA E EH (.Call (.Name x p) [.Lambda params body scope lpos] [] pos) (wTold cs fw) := by
  obtain ⟨oc, od, kV, doc, pm, an, cdv, ct, osl, rfl, lk, hcd⟩ := Fd.ex
  let t : XK → TE := fun Eh σ H Q => ∃ Ed : Exc → Prop, ∀ (A : Around) (outer : List PySem.Env) (s : Shared) (H0 : Hp) (f c' : Addr) (h : Room k (A.deeper (lamEnv X scope s.heap.objs.size f c'))), (hbody A outer s H0 f c' Eh Ed h (lcx_pass (X := X) (A := A) (outer := outer) (s := s) (H := H0) (E := Eh) (scope := scope) (f := f) (c' := c'))).ex.choose σ H Q
  refine ⟨tLam EA.T (TTold EA.T X.K r) t, ?_, ?_⟩
  · refine pe_lamN hg hm Fd.kp lk hcd hb S rfl ?_ (hG cdv) TB hcode hmT hu hr L hdef hbind (fun A outer s H Eh f c' h => ⟨fun pins s' σ H' Q I q => ?_⟩) hdb
    · rcases S.par "call" List.mem_cons_self with q | q
      · exact .inl q
      · exact .inr (.inl q)
    · obtain ⟨Ed, q⟩ := q
      exact (hbody A outer s H f c' Eh Ed h (lcx_pass (X := X) (A := A) (outer := outer) (s := s) (H := H) (E := Eh) (scope := scope) (f := f) (c' := c'))).ex.choose_spec.1.run pins s' σ H' Q I (q A outer s H f c' h)
  · exact sim_told rfl hEA fun Ed Eh G xa ρ F σ H R Qd Q h kk => ⟨Ed, fun A outer s H0 f c' hr' => (hbody A outer s H0 f c' Eh Ed hr' (lcx_pass (X := X) (A := A) (outer := outer) (s := s) (H := H0) (E := Eh) (scope := scope) (f := f) (c' := c'))).ex.choose_spec.2 G xa ρ F σ H R Qd Q h kk⟩

section
variable {X : Cx} {EA : EAT} {E : Exc → Prop} {EH : XK} {elt tg iter : Expr} {ifs : List Expr} {scope : Scope} {pos spos py : Pos} {wi : WI} {wg : WG} {wt : WT} {w : WE} {g : TG}
/-- what is walked within an except suite -/
structure DIH (X : Cx) (EA : EAT) (E : Exc → Prop) (EH : XK) (tg e : Expr) (w : WI) : Prop where
  ex : ∃ ti, L2H.PIH X tg e ti ∧ SimI X.K EA E EH ti w
theorem dih_r1 {a : Expr} {wa : WE} {p : Pos} (hg : Gl X "range") (hm : X.mg "range" = none) (h : DE X EA E EH a wa) (hs : starEach [a] X.env = [(false, eval a X.env)] := by rfl) : DIH X EA E EH tg (.Call (.Name "range" p) [a] [] pos) (itR1 wa) := by
  obtain ⟨ta, pa, sa⟩ := h.ex
  exact ⟨_, L2H.pi_range1H hg hm (pa_cons pa pa_nil hs) hs, sim_itR1 sa⟩
theorem ds_setHot (i : Nat) (own : List (Str × Nat)) {y : Str} {q : Addr × Obj} (hot : L2H.Hot1 X.A q) (hq : q ∈ X.pn) (nd : X.N.Nodup) (hi : DIH X EA E EH tg iter wi) (ok : BlkOk X.N X.env.scope scope own)
    (hg : ∀ (s : Shared) (H : Hp) (C : Addr) (cl : List (Str × Addr)) (fp : List Addr), DV (hblk X s H scope (compEnvC scope cl C X.env) fp q) EA tg (own.map (·.2)) g wg)
    (ht : ∀ (s : Shared) (H : Hp) (C : Addr) (cl : List (Str × Addr)) (fp : List Addr), DTs (hblk X s H scope (compEnvC scope cl C X.env) fp q) EA E0d noE ifs wt)
    (he : ∀ (s : Shared) (H : Hp) (C : Addr) (cl : List (Str × Addr)) (fp : List Addr), DE (hblk X s H scope (compEnvC scope cl C X.env) fp q) EA E0d noE elt w)
    (hsw : swapsWith (.ListComp elt [⟨tg, iter, ifs, 0⟩] scope pos) (some (.Name y py)) spos.line X.env = pure true) (hyl : X.env.scope.names.lookup y = some .local := by rfl) (hy : X.N[i]? = some y := by rfl) (hs : ∀ x, foldedSetIterable iter X.env x = pure x := by intro _; rfl) :
    DS X EA E EH (.Assign [.Name y py] (.ListComp elt [⟨tg, iter, ifs, 0⟩] scope pos) spos) (wAsg (wLc wi wg wt w (own.map (·.2))) (gN i)) := by
  obtain ⟨ti, pi, si⟩ := hi.ex
  let tt : TT := fun σ H Q => ∀ s H' C cl fp, (ht s H' C cl fp).ex.choose σ H Q
  let te : TE := fun σ H Q => ∀ s H' C cl fp, (he s H' C cl fp).ex.choose σ H Q
  have pt : ∀ (s : Shared) (H : Hp) (C : Addr) (cl : List (Str × Addr)) (fp : List Addr), PTs (hblk X s H scope (compEnvC scope cl C X.env) fp q) ifs tt := fun s H C cl fp =>
    ⟨fun pins s' σ H' Q I h => (ht s H C cl fp).ex.choose_spec.1.run pins s' σ H' Q I (h s H C cl fp)⟩
  have pe : ∀ (s : Shared) (H : Hp) (C : Addr) (cl : List (Str × Addr)) (fp : List Addr), PE (hblk X s H scope (compEnvC scope cl C X.env) fp q) elt te := fun s H C cl fp =>
    ⟨fun pins s' σ H' Q I h => (he s H C cl fp).ex.choose_spec.1.run pins s' σ H' Q I (h s H C cl fp)⟩
  have st : SimT X.K EA E0d noE tt wt := fun G xa ρ F σ H R Qd Q h k s H' C cl fp => (ht s H' C cl fp).ex.choose_spec.2 G xa ρ F σ H R Qd Q h k
  have se : SimE X.K EA E0d noE te w := fun G xa ρ F σ H R Qd Q h k s H' C cl fp => (he s H' C cl fp).ex.choose_spec.2 G xa ρ F σ H R Qd Q h k
  by_cases z : Nonempty Shared
  · have dv : (∀ E EH, SimG X.K EA E EH g wg) ∧ Sets g (own.map (·.2)) ∧ MonoG g := by
      obtain ⟨s⟩ := z
      have := hg s (fun _ => none) 0 [] []
      exact ⟨this.sm, this.st, this.mn⟩
    exact ⟨_, ps_setHot hot hq nd hy hyl hsw pi ok (fun s H C cl fp => (hg s H C cl fp).pg) pt pe hs, sim_asg (sim_lc si (dv.1 E0d noE) dv.2.1 dv.2.2 st se (fun _ z => z)) sim_gN⟩
  · exact ⟨fun _ _ _ => True, ⟨fun _ s => absurd ⟨s⟩ z⟩, fun _ _ _ _ _ _ _ _ _ _ _ => trivial⟩
/-- the suite's exception is the one that is handled -/
theorem hot_suite {X : Cx} {a : Addr} {oe : Obj} {cls : Value} {d : Option Addr} {pn : List (Addr × Obj)} (hz : L2N.Zn cls d oe) (hv : ∃ vs, oe.data = .fields vs) : L2H.Hot1 (X.suite a ((a, oe) :: pn)).A (a, oe) := by
  obtain ⟨vs, e⟩ := hv
  exact ⟨rfl, vs, e, hz.2.2 vs e⟩
end
end Dl
set_option maxRecDepth 100000
/-! Sh: the data language as plain functions. R: what a piece gives (a value, an error of the program, or bad: not known here);
    SE, ST, SI, SG, SJ: such a function tells what a reading of Dl asks. gen2.py prints the functions and the proofs. -/
namespace Dl
open PySem
set_option autoImplicit false
inductive R (α : Type) : Type where
  | ok (a : α) | err (x : Exc) | bad
namespace R
def bind {α β : Type} (m : R α) (k : α → R β) : R β := match m with
  | .ok a => k a
  | .err x => .err x
  | .bad => .bad
/-- no error is allowed here -/
def nerr {α : Type} (m : R α) : R α := match m with
  | .ok a => .ok a
  | _ => .bad
end R
open R
def ev {α : Type} (m : R α) (Q : α → Prop) (E : Exc → Prop) : Prop := match m with
  | .ok a => Q a
  | .err x => E x
  | .bad => False
section
variable {α β : Type} {m : R α} {k : α → R β} {Q Q' : α → Prop} {E : Exc → Prop}
theorem ev_bind {Q : β → Prop} (h : ev (m.bind k) Q E) : ev m (fun a => ev (k a) Q E) E := by cases m <;> exact h
theorem ev_mono (h : ev m Q E) (w : ∀ a, Q a → Q' a) : ev m Q' E := by
  cases m with
  | ok a => exact w a h
  | err x => exact h
  | bad => exact h
theorem ev_nerr (h : ev m.nerr Q E) : ev m Q E0d := by
  cases m with
  | ok a => exact h
  | err x => exact h.elim
  | bad => exact h
theorem ok_bind (a : α) (k : α → R β) : (R.ok a).bind k = k a := (rfl)
theorem err_bind (x : Exc) (k : α → R β) : (R.err x : R α).bind k = .err x := (rfl)
theorem bad_bind (k : α → R β) : (R.bad : R α).bind k = .bad := (rfl)
theorem ok_nerr (a : α) : (R.ok a).nerr = .ok a := (rfl)
end
/-! ### what is known of a frame -/
inductive SV where
  | no | sh (d : D) | ow (d : D) | bo (d : D) | an
def fit : SV → Option EV → Prop
  | .no, o => o = none
  | .sh d, o => o = some (.sh d)
  | .ow d, o => o = some (.ow d)
  | .bo d, o => o = some (.bo d)
  | .an, o => ∀ d, o ≠ some (.bo d)
abbrev Fr := List SV
inductive Fits : Fr → Env → Prop
  | nil : Fits [] []
  | cons {s : SV} {o : Option EV} {Γ : Fr} {ρ : Env} : fit s o → Fits Γ ρ → Fits (s :: Γ) (o :: ρ)
theorem Fits.get : ∀ {Γ : Fr} {ρ : Env} {i : Nat} {s : SV}, Fits Γ ρ → Γ[i]? = some s → ∃ o, ρ[i]? = some o ∧ fit s o
  | [], _, _, _, h, e => by simp at e
  | s :: Γ, o :: ρ, 0, t, .cons h hs, e => by simp at e; subst e; exact ⟨o, rfl, h⟩
  | s :: Γ, o :: ρ, i + 1, t, .cons h hs, e => by simpa using Fits.get (i := i) hs (by simpa using e)
theorem Fits.set : ∀ {Γ : Fr} {ρ : Env} (i : Nat) {s : SV} {o : Option EV}, Fits Γ ρ → fit s o → Fits (Γ.set i s) (ρ.set i o)
  | [], _, _, _, _, .nil, _ => .nil
  | _ :: _, _ :: _, 0, _, _, .cons _ hs, f => .cons f hs
  | _ :: _, _ :: _, i + 1, _, _, .cons h hs, f => .cons h (hs.set i f)
theorem Fits.len : ∀ {Γ : Fr} {ρ : Env}, Fits Γ ρ → ρ.length = Γ.length
  | _, _, .nil => rfl
  | _, _, .cons _ t => congrArg (· + 1) t.len
theorem Fits.sh {Γ : Fr} {ρ : Env} {i : Nat} {d : D} (h : Fits Γ ρ) (e : Γ[i]? = some (.sh d)) : ρ[i]? = some (some (.sh d)) := by
  obtain ⟨o, h1, h2⟩ := h.get e
  rw [h1, h2]
theorem Fits.ow {Γ : Fr} {ρ : Env} {i : Nat} {d : D} (h : Fits Γ ρ) (e : Γ[i]? = some (.ow d)) : ρ[i]? = some (some (.ow d)) := by
  obtain ⟨o, h1, h2⟩ := h.get e
  rw [h1, h2]
theorem Fits.bo {Γ : Fr} {ρ : Env} {i : Nat} {d : D} (h : Fits Γ ρ) (e : Γ[i]? = some (.bo d)) : ρ[i]? = some (some (.bo d)) := by
  obtain ⟨o, h1, h2⟩ := h.get e
  rw [h1, h2]
def SV.dat : SV → Option D
  | .sh d => some d
  | .ow d => some d
  | .bo d => some d
  | _ => none
/-- what slot i shows -/
def Fr.at (Γ : Fr) (i : Nat) : Option D := match Γ[i]? with
  | some s => s.dat
  | none => none
theorem Fits.rd {Γ : Fr} {ρ : Env} {i : Nat} {d : D} (h : Fits Γ ρ) (e : Fr.at Γ i = some d) : rdE ρ i = some d := by
  unfold Fr.at at e
  split at e
  · rename_i s hs
    obtain ⟨o, h1, h2⟩ := h.get hs
    unfold rdE
    rw [h1]
    cases s with
    | no => cases e
    | an => cases e
    | sh d => cases e; rw [h2]; rfl
    | ow d => cases e; rw [h2]; rfl
    | bo d => cases e; rw [h2]; rfl
  · cases e
def SV.fr : SV → Bool
  | .bo _ => false
  | _ => true
/-- slot i may be given to -/
def Fr.ok (Γ : Fr) (i : Nat) : Bool := match Γ[i]? with
  | some s => s.fr
  | none => false
theorem Fits.free {Γ : Fr} {ρ : Env} {i : Nat} (h : Fits Γ ρ) (e : Fr.ok Γ i = true) : Dl.free ρ i := by
  unfold Fr.ok at e
  split at e
  · rename_i s hs
    obtain ⟨o, h1, h2⟩ := h.get hs
    unfold Dl.free
    rw [h1]
    cases s with
    | no => rw [h2]; trivial
    | sh d => rw [h2]; trivial
    | ow d => rw [h2]; trivial
    | bo d => cases e
    | an =>
      cases o with
      | none => trivial
      | some v =>
        cases v with
        | sh d => trivial
        | ow d => trivial
        | bo d => exact absurd rfl (h2 d)
  · cases e
def lentΓ : Fr → List D
  | [] => []
  | .bo d :: Γ => d :: lentΓ Γ
  | _ :: Γ => lentΓ Γ
theorem Fits.lent : ∀ {Γ : Fr} {ρ : Env}, Fits Γ ρ → Dl.lent ρ = lentΓ Γ
  | _, _, .nil => rfl
  | s :: Γ, o :: ρ, .cons h t => by
    have := t.lent
    cases s with
    | no => rw [h]; exact this
    | sh d => rw [h]; exact this
    | ow d => rw [h]; exact this
    | bo d =>
      rw [h]
      show d :: Dl.lent ρ = d :: lentΓ Γ
      rw [this]
    | an =>
      cases o with
      | none => exact this
      | some v =>
        cases v with
        | sh d => exact this
        | ow d => exact this
        | bo d => exact absurd rfl (h d)
/-- less is known -/
inductive Le : Fr → Fr → Prop
  | e : Le [] []
  | s {x : SV} {Γ Γ' : Fr} : Le Γ Γ' → Le (x :: Γ) (x :: Γ')
  | n {Γ Γ' : Fr} : Le Γ Γ' → Le (.no :: Γ) (.an :: Γ')
  | h {d : D} {Γ Γ' : Fr} : Le Γ Γ' → Le (.sh d :: Γ) (.an :: Γ')
  | o {d : D} {Γ Γ' : Fr} : Le Γ Γ' → Le (.ow d :: Γ) (.an :: Γ')
theorem Le.fits : ∀ {Γ Γ' : Fr} {ρ : Env}, Le Γ Γ' → Fits Γ ρ → Fits Γ' ρ
  | _, _, _, .e, f => f
  | _, _, _, .s l, .cons z t => .cons z (l.fits t)
  | _, _, _, .n l, .cons z t => .cons (fun d e => by rw [z] at e; cases e) (l.fits t)
  | _, _, _, .h l, .cons z t => .cons (fun d e => by rw [z] at e; cases e) (l.fits t)
  | _, _, _, .o l, .cons z t => .cons (fun d e => by rw [z] at e; cases e) (l.fits t)
/-! ### freezing -/
def wFz (e : WE) : WE := fun ρ Q => e ρ fun d _ ρ1 => Q d false ρ1
def wPre (is : List Nat) (s : WS) : WS := fun P ρ => s P (fzL ρ is)
def wFzN (is : List Nat) : WS := fun P ρ => P.nx (fzL ρ is)
def fz1 (Γ : Fr) (i : Nat) : Fr := match Γ[i]? with
  | some (.ow d) => Γ.set i (.sh d)
  | _ => Γ
def fzG (Γ : Fr) : List Nat → Fr
  | [] => Γ
  | i :: is => fzG (fz1 Γ i) is
/-- slot i's kind is known -/
def SV.sure : SV → Bool
  | .an => false
  | _ => true
def Fr.sures (Γ : Fr) (is : List Nat) : Bool := is.all fun i => match Γ[i]? with
  | some s => s.sure
  | none => false
theorem Fits.fz1 {Γ : Fr} {ρ : Env} {i : Nat} (h : Fits Γ ρ) (hs : Fr.sures Γ [i] = true) : Fits (Dl.fz1 Γ i) (fzE ρ i) := by
  cases e : Γ[i]? with
  | none => simp [Fr.sures, e] at hs
  | some s =>
    obtain ⟨o, h1, h2⟩ := h.get e
    cases s with
    | ow d =>
      have e1 : Dl.fz1 Γ i = Γ.set i (.sh d) := by unfold Dl.fz1; rw [e]
      have e2 : fzE ρ i = ρ.set i (some (.sh d)) := by unfold fzE; rw [h1, h2]
      rw [e1, e2]; exact h.set i rfl
    | an => simp [Fr.sures, e, SV.sure] at hs
    | no =>
      have e1 : Dl.fz1 Γ i = Γ := by unfold Dl.fz1; rw [e]
      have e2 : fzE ρ i = ρ := by unfold fzE; rw [h1, h2]
      rw [e1, e2]; exact h
    | sh d =>
      have e1 : Dl.fz1 Γ i = Γ := by unfold Dl.fz1; rw [e]
      have e2 : fzE ρ i = ρ := by unfold fzE; rw [h1, h2]
      rw [e1, e2]; exact h
    | bo d =>
      have e1 : Dl.fz1 Γ i = Γ := by unfold Dl.fz1; rw [e]
      have e2 : fzE ρ i = ρ := by unfold fzE; rw [h1, h2]
      rw [e1, e2]; exact h
inductive Fzs : Fr → List Nat → Fr → Prop
  | nil {Γ : Fr} : Fzs Γ [] Γ
  | cons {Γ Γ' : Fr} {i : Nat} {is : List Nat} : Fr.sures Γ [i] = true → Fzs (Dl.fz1 Γ i) is Γ' → Fzs Γ (i :: is) Γ'
theorem Fzs.fits : ∀ {Γ Γ' : Fr} {is : List Nat} {ρ : Env}, Fzs Γ is Γ' → Fits Γ ρ → Fits Γ' (fzL ρ is)
  | _, _, _, _, .nil, h => h
  | _, _, _, _, .cons s t, h => t.fits (h.fz1 s)
/-! ### judgements -/
def SE (E : Exc → Prop) (w : WE) (Γ : Fr) (m : R D) : Prop := ∀ ρ Q, Fits Γ ρ → ev m (fun d => ∀ f ρ', Fits Γ ρ' → Q d f ρ') E → w ρ Q
def SEF (E : Exc → Prop) (w : WE) (Γ : Fr) (m : R D) : Prop := ∀ ρ Q, Fits Γ ρ → ev m (fun d => ∀ ρ', Fits Γ ρ' → Q d true ρ') E → w ρ Q
def SA (E : Exc → Prop) (w : WA) (Γ : Fr) (m : R (List D)) : Prop := ∀ ρ Q, Fits Γ ρ → ev m (fun ds => ∀ ρ', Fits Γ ρ' → Q ds ρ') E → w ρ Q
def ST (E : Exc → Prop) (w : WT) (Γ : Fr) (m : R Bool) : Prop := ∀ ρ Q, Fits Γ ρ → ev m (fun b => ∀ ρ', Fits Γ ρ' → Q b ρ') E → w ρ Q
def SI (E : Exc → Prop) (w : WI) (Γ : Fr) (m : R (List D)) : Prop := ∀ ρ Q, Fits Γ ρ → ev m (fun ds => ∀ ρ', Fits Γ ρ' → Q ds ρ') E → w ρ Q
/-- .. with a state that it changes -/
abbrev RS (α : Type) := D → R (α × D)
def YE (E : Exc → Prop) (w : WE) (Γ : D → Fr) (m : RS D) : Prop := ∀ s ρ Q, Fits (Γ s) ρ → ev (m s) (fun p => ∀ f ρ', Fits (Γ p.2) ρ' → Q p.1 f ρ') E → w ρ Q
def YEF (E : Exc → Prop) (w : WE) (Γ : D → Fr) (m : RS D) : Prop := ∀ s ρ Q, Fits (Γ s) ρ → ev (m s) (fun p => ∀ ρ', Fits (Γ p.2) ρ' → Q p.1 true ρ') E → w ρ Q
def YA (E : Exc → Prop) (w : WA) (Γ : D → Fr) (m : RS (List D)) : Prop := ∀ s ρ Q, Fits (Γ s) ρ → ev (m s) (fun p => ∀ ρ', Fits (Γ p.2) ρ' → Q p.1 ρ') E → w ρ Q
def YT (E : Exc → Prop) (w : WT) (Γ : D → Fr) (m : RS Bool) : Prop := ∀ s ρ Q, Fits (Γ s) ρ → ev (m s) (fun p => ∀ ρ', Fits (Γ p.2) ρ' → Q p.1 ρ') E → w ρ Q
def YI (E : Exc → Prop) (w : WI) (Γ : D → Fr) (m : RS (List D)) : Prop := ∀ s ρ Q, Fits (Γ s) ρ → ev (m s) (fun p => ∀ ρ', Fits (Γ p.2) ρ' → Q p.1 ρ') E → w ρ Q
/-- both kinds -/
def SG (E : Exc → Prop) (w : WE) (Γ : Fr) {α : Type} (m : R α) (v : α → D) (Γ' : α → Fr) : Prop := ∀ ρ Q, Fits Γ ρ → ev m (fun a => ∀ f ρ', Fits (Γ' a) ρ' → Q (v a) f ρ') E → w ρ Q
def SGF (E : Exc → Prop) (w : WE) (Γ : Fr) {α : Type} (m : R α) (v : α → D) (Γ' : α → Fr) : Prop := ∀ ρ Q, Fits Γ ρ → ev m (fun a => ∀ ρ', Fits (Γ' a) ρ' → Q (v a) true ρ') E → w ρ Q
def SGT (E : Exc → Prop) (w : WT) (Γ : Fr) {α : Type} (m : R α) (v : α → Bool) (Γ' : α → Fr) : Prop := ∀ ρ Q, Fits Γ ρ → ev m (fun a => ∀ ρ', Fits (Γ' a) ρ' → Q (v a) ρ') E → w ρ Q
def SGI (E : Exc → Prop) (w : WI) (Γ : Fr) {α : Type} (m : R α) (v : α → List D) (Γ' : α → Fr) : Prop := ∀ ρ Q, Fits Γ ρ → ev m (fun a => ∀ ρ', Fits (Γ' a) ρ' → Q (v a) ρ') E → w ρ Q
section
variable {E : Exc → Prop} {w wa wb wc : WE} {Γ : Fr} {Γf : D → Fr} {m ma mb mc : R D} {xm xa xb : RS D}
theorem SE.g (h : SE E w Γ m) : SG E w Γ m (fun d => d) (fun _ => Γ) := h
theorem SEF.g (h : SEF E w Γ m) : SGF E w Γ m (fun d => d) (fun _ => Γ) := h
theorem SEF.e (h : SEF E w Γ m) : SE E w Γ m := fun ρ Q f q => h ρ Q f (ev_mono q fun d q ρ' => q true ρ')
theorem ST.g {w : WT} {m : R Bool} (h : ST E w Γ m) : SGT E w Γ m (fun d => d) (fun _ => Γ) := h
theorem SI.g {w : WI} {m : R (List D)} (h : SI E w Γ m) : SGI E w Γ m (fun d => d) (fun _ => Γ) := h
theorem YE.g (h : YE E w Γf xm) (s : D) : SG E w (Γf s) (xm s) (fun p => p.1) (fun p => Γf p.2) := h s
theorem YEF.g (h : YEF E w Γf xm) (s : D) : SGF E w (Γf s) (xm s) (fun p => p.1) (fun p => Γf p.2) := h s
theorem YEF.e (h : YEF E w Γf xm) : YE E w Γf xm := fun s ρ Q f q => h s ρ Q f (ev_mono q fun d q ρ' => q true ρ')
theorem YT.g {w : WT} {m : RS Bool} (h : YT E w Γf m) (s : D) : SGT E w (Γf s) (m s) (fun p => p.1) (fun p => Γf p.2) := h s
theorem YI.g {w : WI} {m : RS (List D)} (h : YI E w Γf m) (s : D) : SGI E w (Γf s) (m s) (fun p => p.1) (fun p => Γf p.2) := h s
theorem SE.fz (h : SE E w Γ m) : SE E (wFz w) Γ m := fun ρ Q f q => h ρ (fun d _ ρ1 => Q d false ρ1) f (ev_mono q fun d q f ρ' => q false ρ')
def ls {α : Type} (m : R α) : RS α := fun s => m.bind fun d => .ok (d, s)
theorem SE.ls (h : ∀ s, SE E w (Γf s) m) : YE E w Γf (Dl.ls m) := fun s ρ Q f q => h s ρ Q f (ev_bind q)
theorem ST.ls {w : WT} {m : R Bool} (h : ∀ s, ST E w (Γf s) m) : YT E w Γf (Dl.ls m) := fun s ρ Q f q => h s ρ Q f (ev_bind q)
/-! ### expressions -/
theorem se_c {d : D} : SE E (wC d) Γ (.ok d) := fun ρ Q f q => q false ρ f
theorem se_v (i : Nat) {d : D} (e : Γ[i]? = some (.sh d)) : SE E (wV i) Γ (.ok d) := fun ρ Q f q => by
  have z : (match ρ[i]? with | some (some (.sh d)) => Q d false ρ | some (some (.ow d)) => Q d false (ρ.set i (some (.sh d))) | _ => False) := by
    rw [f.sh e]; exact q false ρ f
  exact z
/-- an operation and its plain function -/
def SO1 (o : O1) (g : D → R D) : Prop := ∀ d Q E, ev (g d) (fun r => ∀ f, Q r f) E → o d Q
def SO1F (o : O1) (g : D → R D) : Prop := ∀ d Q E, ev (g d) (fun r => Q r true) E → o d Q
def SO2 (o : O2) (g : D → D → R D) : Prop := ∀ d e Q E, ev (g d e) (fun r => ∀ f, Q r f) E → o d e Q
def SO2F (o : O2) (g : D → D → R D) : Prop := ∀ d e Q E, ev (g d e) (fun r => Q r true) E → o d e Q
def A1 (g : D → R D) (a : R D) : R D := a.bind g
def A2 (g : D → D → R D) (a b : R D) : R D := a.bind fun x => b.bind fun y => g x y
def A3 (g : D → D → D → R D) (a b c : R D) : R D := a.bind fun x => b.bind fun y => c.bind fun z => g x y z
def A4 (g : D → D → D → D → R D) (a b c d : R D) : R D := a.bind fun x => b.bind fun y => c.bind fun z => d.bind fun u => g x y z u
def A5 (g : D → D → D → D → D → R D) (a b c d e : R D) : R D := a.bind fun x => b.bind fun y => c.bind fun z => d.bind fun u => e.bind fun v => g x y z u v
def A6 (g : D → D → D → D → D → D → R D) (a b c d e f : R D) : R D := a.bind fun x => b.bind fun y => c.bind fun z => d.bind fun u => e.bind fun v => f.bind fun t => g x y z u v t
theorem se_o {o : O1} {g : D → R D} (so : SO1 o g) (ha : SE E wa Γ ma) : SE E (wO o wa) Γ (A1 g ma) := fun ρ Q f q =>
  ha ρ _ f (ev_mono (ev_bind q) fun d q _ ρ1 f1 => so d _ E (ev_mono q fun r q f => q f ρ1 f1))
theorem sef_o {o : O1} {g : D → R D} (so : SO1F o g) (ha : SE E wa Γ ma) : SEF E (wO o wa) Γ (A1 g ma) := fun ρ Q f q =>
  ha ρ _ f (ev_mono (ev_bind q) fun d q _ ρ1 f1 => so d _ E (ev_mono q fun r q => q ρ1 f1))
theorem se_op {o : O1} {g : D → R D} (so : SO1 o g) (i : Nat) {d : D} (e : Fr.at Γ i = some d) : SE E (wOP o i) Γ (g d) := fun ρ Q f q => by
  unfold wOP
  rw [f.rd e]
  exact so d _ E (ev_mono q fun r q f' => q f' ρ f)
theorem sef_op {o : O1} {g : D → R D} (so : SO1F o g) (i : Nat) {d : D} (e : Fr.at Γ i = some d) : SEF E (wOP o i) Γ (g d) := fun ρ Q f q => by
  unfold wOP
  rw [f.rd e]
  exact so d _ E (ev_mono q fun r q => q ρ f)
theorem se_b {o : O2} {g : D → D → R D} (so : SO2 o g) (ha : SE E wa Γ ma) (hb : SE E wb Γ mb) : SE E (wB o wa wb) Γ (A2 g ma mb) := fun ρ Q f q =>
  ha ρ _ f (ev_mono (ev_bind q) fun d q _ ρ1 f1 => hb ρ1 _ f1 (ev_mono (ev_bind q) fun e q _ ρ2 f2 => so d e _ E (ev_mono q fun r q f => q f ρ2 f2)))
theorem sef_b {o : O2} {g : D → D → R D} (so : SO2F o g) (ha : SE E wa Γ ma) (hb : SE E wb Γ mb) : SEF E (wB o wa wb) Γ (A2 g ma mb) := fun ρ Q f q =>
  ha ρ _ f (ev_mono (ev_bind q) fun d q _ ρ1 f1 => hb ρ1 _ f1 (ev_mono (ev_bind q) fun e q _ ρ2 f2 => so d e _ E (ev_mono q fun r q => q ρ2 f2)))
theorem se_bl {o : O2} {g : D → D → R D} (so : SO2 o g) (i : Nat) {d : D} (e : Fr.at Γ i = some d) (hb : SE E wb Γ mb) : SE E (wBL o i wb) Γ (A2 g (.ok d) mb) := fun ρ Q f q =>
  ⟨by rw [f.rd e]; rfl, hb ρ _ f (ev_mono (ev_bind q) fun e' q _ ρ2 f2 => by rw [f2.rd e]; exact so d e' _ E (ev_mono q fun r q f => q f ρ2 f2))⟩
theorem sef_bl {o : O2} {g : D → D → R D} (so : SO2F o g) (i : Nat) {d : D} (e : Fr.at Γ i = some d) (hb : SE E wb Γ mb) : SEF E (wBL o i wb) Γ (A2 g (.ok d) mb) := fun ρ Q f q =>
  ⟨by rw [f.rd e]; rfl, hb ρ _ f (ev_mono (ev_bind q) fun e' q _ ρ2 f2 => by rw [f2.rd e]; exact so d e' _ E (ev_mono q fun r q => q ρ2 f2))⟩
theorem se_br {o : O2} {g : D → D → R D} (so : SO2 o g) (ha : SE E wa Γ ma) (i : Nat) {d : D} (e : Fr.at Γ i = some d) : SE E (wBR o wa i) Γ (A2 g ma (.ok d)) := fun ρ Q f q =>
  ha ρ _ f (ev_mono (ev_bind q) fun e' q _ ρ2 f2 => by rw [f2.rd e]; exact so e' d _ E (ev_mono q fun r q f => q f ρ2 f2))
theorem sef_br {o : O2} {g : D → D → R D} (so : SO2F o g) (ha : SE E wa Γ ma) (i : Nat) {d : D} (e : Fr.at Γ i = some d) : SEF E (wBR o wa i) Γ (A2 g ma (.ok d)) := fun ρ Q f q =>
  ha ρ _ f (ev_mono (ev_bind q) fun e' q _ ρ2 f2 => by rw [f2.rd e]; exact so e' d _ E (ev_mono q fun r q => q ρ2 f2))
theorem se_bb {o : O2} {g : D → D → R D} (so : SO2 o g) (i j : Nat) {d d' : D} (e : Fr.at Γ i = some d) (e' : Fr.at Γ j = some d') : SE E (wBB o i j) Γ (A2 g (.ok d) (.ok d')) := fun ρ Q f q => by
  unfold wBB
  rw [f.rd e, f.rd e']
  exact so d d' _ E (ev_mono q fun r q f' => q f' ρ f)
theorem sef_bb {o : O2} {g : D → D → R D} (so : SO2F o g) (i j : Nat) {d d' : D} (e : Fr.at Γ i = some d) (e' : Fr.at Γ j = some d') : SEF E (wBB o i j) Γ (A2 g (.ok d) (.ok d')) := fun ρ Q f q => by
  unfold wBB
  rw [f.rd e, f.rd e']
  exact so d d' _ E (ev_mono q fun r q => q ρ f)
/-! argument lists -/
def consM {α : Type} (a : R α) (t : R (List α)) : R (List α) := a.bind fun x => t.bind fun xs => .ok (x :: xs)
theorem sa_nil : SA E wNil Γ (.ok []) := fun ρ Q f q => q ρ f
theorem sa_cons {t : WA} {mt : R (List D)} (ha : SE E wa Γ ma) (ht : SA E t Γ mt) : SA E (wCons wa t) Γ (consM ma mt) := fun ρ Q f q =>
  ha ρ _ f (ev_mono (ev_bind q) fun d q _ ρ1 f1 => ht ρ1 _ f1 (ev_mono (ev_bind q) fun ds q ρ2 f2 => q ρ2 f2))
def tupM (m : R (List D)) : R D := m.bind fun ds => if ds.length ≤ LIM then .ok (.tuple ds) else .bad
def lstM (m : R (List D)) : R D := m.bind fun ds => if ds.length ≤ LIM then .ok (.list ds) else .bad
theorem se_tup {t : WA} {mt : R (List D)} (ht : SA E t Γ mt) : SE E (wTup t) Γ (tupM mt) := fun ρ Q f q =>
  ht ρ _ f (ev_mono (ev_bind q) fun ds q ρ1 f1 => by
    by_cases h : ds.length ≤ LIM
    · rw [if_pos h] at q; exact ⟨h, q false ρ1 f1⟩
    · rw [if_neg h] at q; exact q.elim)
theorem sef_lst {t : WA} {mt : R (List D)} (ht : SA E t Γ mt) : SEF E (wLst t) Γ (lstM mt) := fun ρ Q f q =>
  ht ρ _ f (ev_mono (ev_bind q) fun ds q ρ1 f1 => by
    by_cases h : ds.length ≤ LIM
    · rw [if_pos h] at q; exact ⟨h, q ρ1 f1⟩
    · rw [if_neg h] at q; exact q.elim)
/-! calls -/
def con0 (fr : Bool) (py : R D) : Con := fun ds Q E => ds = [] ∧ ev py (fun d => Q d fr []) E
def con1 (fr : Bool) (py : D → R D) : Con := fun ds Q E => ∃ a, ds = [a] ∧ ev (py a) (fun d => Q d fr []) E
def con2 (fr : Bool) (py : D → D → R D) : Con := fun ds Q E => ∃ a b, ds = [a, b] ∧ ev (py a b) (fun d => Q d fr []) E
def con3 (fr : Bool) (py : D → D → D → R D) : Con := fun ds Q E => ∃ a b c, ds = [a, b, c] ∧ ev (py a b c) (fun d => Q d fr []) E
def con4 (fr : Bool) (py : D → D → D → D → R D) : Con := fun ds Q E => ∃ a b c d, ds = [a, b, c, d] ∧ ev (py a b c d) (fun d => Q d fr []) E
def con5 (fr : Bool) (py : D → D → D → D → D → R D) : Con := fun ds Q E => ∃ a b c d e, ds = [a, b, c, d, e] ∧ ev (py a b c d e) (fun d => Q d fr []) E
def con6 (fr : Bool) (py : D → D → D → D → D → D → R D) : Con := fun ds Q E => ∃ a b c d e f, ds = [a, b, c, d, e, f] ∧ ev (py a b c d e f) (fun d => Q d fr []) E
/-- the first argument is lent -/
def lcon1 (fr : Bool) (py : D → R (D × D)) : Con := fun ds Q E => ∃ s, ds = [s] ∧ ev (py s) (fun p => Q p.1 fr [p.2]) E
def lcon2 (fr : Bool) (py : D → D → R (D × D)) : Con := fun ds Q E => ∃ s a, ds = [s, a] ∧ ev (py s a) (fun p => Q p.1 fr [p.2]) E
def lcon3 (fr : Bool) (py : D → D → D → R (D × D)) : Con := fun ds Q E => ∃ s a b, ds = [s, a, b] ∧ ev (py s a b) (fun p => Q p.1 fr [p.2]) E
def lcon4 (fr : Bool) (py : D → D → D → D → R (D × D)) : Con := fun ds Q E => ∃ s a b c, ds = [s, a, b, c] ∧ ev (py s a b c) (fun p => Q p.1 fr [p.2]) E
def lcon5 (fr : Bool) (py : D → D → D → D → D → R (D × D)) : Con := fun ds Q E => ∃ s a b c d, ds = [s, a, b, c, d] ∧ ev (py s a b c d) (fun p => Q p.1 fr [p.2]) E
theorem c0_len {fr : Bool} {py : R D} : ∀ ds Q E, con0 fr py ds Q E → ds.length = 0 := fun _ _ _ ⟨h, _⟩ => by subst h; rfl
theorem c1_len {fr : Bool} {py : D → R D} : ∀ ds Q E, con1 fr py ds Q E → ds.length = 1 := fun _ _ _ ⟨_, h, _⟩ => by subst h; rfl
theorem c2_len {fr : Bool} {py : D → D → R D} : ∀ ds Q E, con2 fr py ds Q E → ds.length = 2 := fun _ _ _ ⟨_, _, h, _⟩ => by subst h; rfl
theorem c3_len {fr : Bool} {py : D → D → D → R D} : ∀ ds Q E, con3 fr py ds Q E → ds.length = 3 := fun _ _ _ ⟨_, _, _, h, _⟩ => by subst h; rfl
theorem c4_len {fr : Bool} {py : D → D → D → D → R D} : ∀ ds Q E, con4 fr py ds Q E → ds.length = 4 := fun _ _ _ ⟨_, _, _, _, h, _⟩ => by subst h; rfl
theorem c5_len {fr : Bool} {py : D → D → D → D → D → R D} : ∀ ds Q E, con5 fr py ds Q E → ds.length = 5 := fun _ _ _ ⟨_, _, _, _, _, h, _⟩ => by subst h; rfl
theorem c6_len {fr : Bool} {py : D → D → D → D → D → D → R D} : ∀ ds Q E, con6 fr py ds Q E → ds.length = 6 := fun _ _ _ ⟨_, _, _, _, _, _, h, _⟩ => by subst h; rfl
theorem l1_len {fr : Bool} {py : D → R (D × D)} : ∀ ds Q E, lcon1 fr py ds Q E → ds.length = 1 := fun _ _ _ ⟨_, h, _⟩ => by subst h; rfl
theorem l2_len {fr : Bool} {py : D → D → R (D × D)} : ∀ ds Q E, lcon2 fr py ds Q E → ds.length = 2 := fun _ _ _ ⟨_, _, h, _⟩ => by subst h; rfl
theorem l3_len {fr : Bool} {py : D → D → D → R (D × D)} : ∀ ds Q E, lcon3 fr py ds Q E → ds.length = 3 := fun _ _ _ ⟨_, _, _, h, _⟩ => by subst h; rfl
theorem l4_len {fr : Bool} {py : D → D → D → D → R (D × D)} : ∀ ds Q E, lcon4 fr py ds Q E → ds.length = 4 := fun _ _ _ ⟨_, _, _, _, h, _⟩ => by subst h; rfl
theorem l5_len {fr : Bool} {py : D → D → D → D → D → R (D × D)} : ∀ ds Q E, lcon5 fr py ds Q E → ds.length = 5 := fun _ _ _ ⟨_, _, _, _, _, h, _⟩ => by subst h; rfl
theorem con_mono0 {fr : Bool} {m : R D} {ρ1 : Env} {Q : KE} {E : Exc → Prop} (q : ev m (fun d => ∀ f ρ', Fits Γ ρ' → Q d f ρ') E) (f1 : Fits Γ ρ1) : ev m (fun d => Q d fr ρ1) E := ev_mono q fun d q => q fr ρ1 f1
theorem con_mono1 {m : R D} {ρ1 : Env} {Q : KE} {E : Exc → Prop} (q : ev m (fun d => ∀ ρ', Fits Γ ρ' → Q d true ρ') E) (f1 : Fits Γ ρ1) : ev m (fun d => Q d true ρ1) E := ev_mono q fun d q => q ρ1 f1
section
variable {fr : Bool} {md me mf : R D} {wd we wf : WE}
theorem se_call0 {py : R D} : SE E (wCall (con0 fr py) E wNil) Γ py := fun ρ Q f q => ⟨rfl, con_mono0 q f⟩
theorem sef_call0 {py : R D} : SEF E (wCall (con0 true py) E wNil) Γ py := fun ρ Q f q => ⟨rfl, con_mono1 q f⟩
theorem se_call1 {py : D → R D} (ha : SE E wa Γ ma) : SE E (wCall (con1 fr py) E (wCons wa wNil)) Γ (A1 py ma) := fun ρ Q f q =>
  ha ρ _ f (ev_mono (ev_bind q) fun d q _ ρ1 f1 => ⟨_, rfl, con_mono0 q f1⟩)
theorem sef_call1 {py : D → R D} (ha : SE E wa Γ ma) : SEF E (wCall (con1 true py) E (wCons wa wNil)) Γ (A1 py ma) := fun ρ Q f q =>
  ha ρ _ f (ev_mono (ev_bind q) fun d q _ ρ1 f1 => ⟨_, rfl, con_mono1 q f1⟩)
theorem se_call2 {py : D → D → R D} (ha : SE E wa Γ ma) (hb : SE E wb Γ mb) : SE E (wCall (con2 fr py) E (wCons wa (wCons wb wNil))) Γ (A2 py ma mb) := fun ρ Q f q =>
  ha ρ _ f (ev_mono (ev_bind q) fun d q _ ρ1 f1 => hb ρ1 _ f1 (ev_mono (ev_bind q) fun d q _ ρ1 f1 => ⟨_, _, rfl, con_mono0 q f1⟩))
theorem sef_call2 {py : D → D → R D} (ha : SE E wa Γ ma) (hb : SE E wb Γ mb) : SEF E (wCall (con2 true py) E (wCons wa (wCons wb wNil))) Γ (A2 py ma mb) := fun ρ Q f q =>
  ha ρ _ f (ev_mono (ev_bind q) fun d q _ ρ1 f1 => hb ρ1 _ f1 (ev_mono (ev_bind q) fun d q _ ρ1 f1 => ⟨_, _, rfl, con_mono1 q f1⟩))
theorem se_call3 {py : D → D → D → R D} (ha : SE E wa Γ ma) (hb : SE E wb Γ mb) (hc : SE E wc Γ mc) : SE E (wCall (con3 fr py) E (wCons wa (wCons wb (wCons wc wNil)))) Γ (A3 py ma mb mc) := fun ρ Q f q =>
  ha ρ _ f (ev_mono (ev_bind q) fun d q _ ρ1 f1 => hb ρ1 _ f1 (ev_mono (ev_bind q) fun d q _ ρ1 f1 => hc ρ1 _ f1 (ev_mono (ev_bind q) fun d q _ ρ1 f1 => ⟨_, _, _, rfl, con_mono0 q f1⟩)))
theorem sef_call3 {py : D → D → D → R D} (ha : SE E wa Γ ma) (hb : SE E wb Γ mb) (hc : SE E wc Γ mc) : SEF E (wCall (con3 true py) E (wCons wa (wCons wb (wCons wc wNil)))) Γ (A3 py ma mb mc) := fun ρ Q f q =>
  ha ρ _ f (ev_mono (ev_bind q) fun d q _ ρ1 f1 => hb ρ1 _ f1 (ev_mono (ev_bind q) fun d q _ ρ1 f1 => hc ρ1 _ f1 (ev_mono (ev_bind q) fun d q _ ρ1 f1 => ⟨_, _, _, rfl, con_mono1 q f1⟩)))
theorem se_call4 {py : D → D → D → D → R D} (ha : SE E wa Γ ma) (hb : SE E wb Γ mb) (hc : SE E wc Γ mc) (hd : SE E wd Γ md) : SE E (wCall (con4 fr py) E (wCons wa (wCons wb (wCons wc (wCons wd wNil))))) Γ (A4 py ma mb mc md) := fun ρ Q f q =>
  ha ρ _ f (ev_mono (ev_bind q) fun d q _ ρ1 f1 => hb ρ1 _ f1 (ev_mono (ev_bind q) fun d q _ ρ1 f1 => hc ρ1 _ f1 (ev_mono (ev_bind q) fun d q _ ρ1 f1 => hd ρ1 _ f1 (ev_mono (ev_bind q) fun d q _ ρ1 f1 => ⟨_, _, _, _, rfl, con_mono0 q f1⟩))))
theorem sef_call4 {py : D → D → D → D → R D} (ha : SE E wa Γ ma) (hb : SE E wb Γ mb) (hc : SE E wc Γ mc) (hd : SE E wd Γ md) : SEF E (wCall (con4 true py) E (wCons wa (wCons wb (wCons wc (wCons wd wNil))))) Γ (A4 py ma mb mc md) := fun ρ Q f q =>
  ha ρ _ f (ev_mono (ev_bind q) fun d q _ ρ1 f1 => hb ρ1 _ f1 (ev_mono (ev_bind q) fun d q _ ρ1 f1 => hc ρ1 _ f1 (ev_mono (ev_bind q) fun d q _ ρ1 f1 => hd ρ1 _ f1 (ev_mono (ev_bind q) fun d q _ ρ1 f1 => ⟨_, _, _, _, rfl, con_mono1 q f1⟩))))
theorem se_call5 {py : D → D → D → D → D → R D} (ha : SE E wa Γ ma) (hb : SE E wb Γ mb) (hc : SE E wc Γ mc) (hd : SE E wd Γ md) (he : SE E we Γ me) : SE E (wCall (con5 fr py) E (wCons wa (wCons wb (wCons wc (wCons wd (wCons we wNil)))))) Γ (A5 py ma mb mc md me) := fun ρ Q f q =>
  ha ρ _ f (ev_mono (ev_bind q) fun d q _ ρ1 f1 => hb ρ1 _ f1 (ev_mono (ev_bind q) fun d q _ ρ1 f1 => hc ρ1 _ f1 (ev_mono (ev_bind q) fun d q _ ρ1 f1 => hd ρ1 _ f1 (ev_mono (ev_bind q) fun d q _ ρ1 f1 => he ρ1 _ f1 (ev_mono (ev_bind q) fun d q _ ρ1 f1 => ⟨_, _, _, _, _, rfl, con_mono0 q f1⟩)))))
theorem sef_call5 {py : D → D → D → D → D → R D} (ha : SE E wa Γ ma) (hb : SE E wb Γ mb) (hc : SE E wc Γ mc) (hd : SE E wd Γ md) (he : SE E we Γ me) : SEF E (wCall (con5 true py) E (wCons wa (wCons wb (wCons wc (wCons wd (wCons we wNil)))))) Γ (A5 py ma mb mc md me) := fun ρ Q f q =>
  ha ρ _ f (ev_mono (ev_bind q) fun d q _ ρ1 f1 => hb ρ1 _ f1 (ev_mono (ev_bind q) fun d q _ ρ1 f1 => hc ρ1 _ f1 (ev_mono (ev_bind q) fun d q _ ρ1 f1 => hd ρ1 _ f1 (ev_mono (ev_bind q) fun d q _ ρ1 f1 => he ρ1 _ f1 (ev_mono (ev_bind q) fun d q _ ρ1 f1 => ⟨_, _, _, _, _, rfl, con_mono1 q f1⟩)))))
theorem se_call6 {py : D → D → D → D → D → D → R D} (ha : SE E wa Γ ma) (hb : SE E wb Γ mb) (hc : SE E wc Γ mc) (hd : SE E wd Γ md) (he : SE E we Γ me) (hf : SE E wf Γ mf) : SE E (wCall (con6 fr py) E (wCons wa (wCons wb (wCons wc (wCons wd (wCons we (wCons wf wNil))))))) Γ (A6 py ma mb mc md me mf) := fun ρ Q f q =>
  ha ρ _ f (ev_mono (ev_bind q) fun d q _ ρ1 f1 => hb ρ1 _ f1 (ev_mono (ev_bind q) fun d q _ ρ1 f1 => hc ρ1 _ f1 (ev_mono (ev_bind q) fun d q _ ρ1 f1 => hd ρ1 _ f1 (ev_mono (ev_bind q) fun d q _ ρ1 f1 => he ρ1 _ f1 (ev_mono (ev_bind q) fun d q _ ρ1 f1 => hf ρ1 _ f1 (ev_mono (ev_bind q) fun d q _ ρ1 f1 => ⟨_, _, _, _, _, _, rfl, con_mono0 q f1⟩))))))
end
/-! told -/
def toldM (m : R D) : R D := match m with
  | .ok d => .ok (.tuple [.str (Str.ofString "told"), d])
  | .err x => .ok (.tuple [.str (excName x)])
  | .bad => .bad
def hide1 : SV → SV
  | .sh d => .sh d
  | .an => .an
  | _ => .no
theorem Fits.hide : ∀ {Γ : Fr} {ρ : Env}, Fits Γ ρ → Fits (Γ.map hide1) (hideE ρ)
  | _, _, .nil => .nil
  | s :: Γ, o :: ρ, .cons h t => by
    refine .cons ?_ t.hide
    cases s with
    | no => rw [h]; rfl
    | sh d => rw [h]; rfl
    | ow d => rw [h]; rfl
    | bo d => rw [h]; rfl
    | an =>
      intro d
      cases o with
      | none => exact fun e => nomatch e
      | some v => cases v <;> exact fun e => nomatch e
theorem se_told {fw : (Exc → Prop) → WE} {mi : R D} (h : ∀ E', SE E' (fw E') (Γ.map hide1) mi) : SE E (wTold [] fw) Γ (toldM mi) := fun ρ Q f q => by
  unfold wTold
  refine h _ (hideE ρ) _ f.hide ?_
  cases mi with
  | ok d => exact fun _ _ _ => q false ρ f
  | err x => exact q false ρ f
  | bad => exact q
/-! tests -/
def asB : D → R Bool
  | .bool b => .ok b
  | _ => .bad
def tvM (m : R D) : R Bool := m.bind asB
def andM (a b : R Bool) : R Bool := a.bind fun c => if c then b else .ok false
def orM (a b : R Bool) : R Bool := a.bind fun c => if c then .ok true else b
def notM (a : R Bool) : R Bool := a.bind fun c => .ok (!c)
def boM (a : R Bool) : R D := a.bind fun c => .ok (.bool c)
theorem st_tv (h : SE E w Γ m) : ST E (wTv w) Γ (tvM m) := fun ρ Q f q => h ρ _ f (ev_mono (ev_bind q) fun d q _ ρ1 f1 => by
  cases d <;> first | exact ⟨_, rfl, q ρ1 f1⟩ | exact q.elim)
section
variable {ta tb : WT} {na nb : R Bool}
theorem st_and (ha : ST E ta Γ na) (hb : ST E tb Γ nb) : ST E (wAnd ta tb) Γ (andM na nb) := fun ρ Q f q => ha ρ _ f (ev_mono (ev_bind q) fun c q ρ1 f1 => by
  cases c with
  | true => exact ⟨fun _ => hb ρ1 _ f1 q, (fun e => nomatch e)⟩
  | false => exact ⟨(fun e => nomatch e), fun _ => q ρ1 f1⟩)
theorem st_or (ha : ST E ta Γ na) (hb : ST E tb Γ nb) : ST E (wOr ta tb) Γ (orM na nb) := fun ρ Q f q => ha ρ _ f (ev_mono (ev_bind q) fun c q ρ1 f1 => by
  cases c with
  | false => exact ⟨(fun e => nomatch e), fun _ => hb ρ1 _ f1 q⟩
  | true => exact ⟨fun _ => q ρ1 f1, (fun e => nomatch e)⟩)
theorem st_not (ha : ST E ta Γ na) : ST E (wNot ta) Γ (notM na) := fun ρ Q f q => ha ρ _ f (ev_mono (ev_bind q) fun c q ρ1 f1 => q ρ1 f1)
theorem st_yes : ST E tYes Γ (.ok true) := fun ρ Q f q => q ρ f
/-- values of tests -/
def andV (a b : R D) : R D := (tvM a).bind fun c => if c then b else .ok (.bool false)
def orV (a b : R D) : R D := (tvM a).bind fun c => if c then .ok (.bool true) else b
def notV (a : R D) : R D := (tvM a).bind fun c => .ok (.bool (!c))
theorem ev_tv {α : Type} {m : R D} {k : Bool → R α} {Q : α → Prop} (q : ev ((tvM m).bind k) Q E) : ev m (fun d => ∃ c, d = .bool c ∧ ev (k c) Q E) E := by
  cases m with
  | ok d => cases d <;> first | exact ⟨_, rfl, q⟩ | exact q.elim
  | err x => exact q
  | bad => exact q
theorem se_and (ha : SE E wa Γ ma) (hb : SE E wb Γ mb) : SE E (wAndV wa wb) Γ (andV ma mb) := fun ρ Q f q => ha ρ _ f (ev_mono (ev_tv q) fun d q _ ρ1 f1 => by
  obtain ⟨c, rfl, q⟩ := q
  cases c with
  | true => exact ⟨true, rfl, fun _ => hb ρ1 _ f1 q, (fun e => nomatch e)⟩
  | false => exact ⟨false, rfl, (fun e => nomatch e), fun _ => q false ρ1 f1⟩)
theorem se_or (ha : SE E wa Γ ma) (hb : SE E wb Γ mb) : SE E (wOrV wa wb) Γ (orV ma mb) := fun ρ Q f q => ha ρ _ f (ev_mono (ev_tv q) fun d q _ ρ1 f1 => by
  obtain ⟨c, rfl, q⟩ := q
  cases c with
  | false => exact ⟨false, rfl, (fun e => nomatch e), fun _ => hb ρ1 _ f1 q⟩
  | true => exact ⟨true, rfl, fun _ => q false ρ1 f1, (fun e => nomatch e)⟩)
theorem se_not (ha : SE E wa Γ ma) : SE E (wNotV wa) Γ (notV ma) := fun ρ Q f q => ha ρ _ f (ev_mono (ev_tv q) fun d q _ ρ1 f1 => by
  obtain ⟨c, rfl, q⟩ := q
  exact ⟨c, rfl, q false ρ1 f1⟩)
def ifM {α : Type} (t : R Bool) (a b : R α) : R α := t.bind fun c => if c then a else b
theorem se_if (ht : ST E ta Γ na) (ha : SE E wa Γ ma) (hb : SE E wb Γ mb) : SE E (wIf ta wa wb) Γ (ifM na ma mb) := fun ρ Q f q => ht ρ _ f (ev_mono (ev_bind q) fun c q ρ1 f1 => by
  cases c with
  | true => exact ⟨fun _ => ha ρ1 _ f1 q, (fun e => nomatch e)⟩
  | false => exact ⟨(fun e => nomatch e), fun _ => hb ρ1 _ f1 q⟩)
end
/-- a op b op' c -/
def chainM (o o' : D → D → R D) (a b c : R D) : R D := a.bind fun x => b.bind fun y => (tvM (o x y)).bind fun k => if k then c.bind fun z => o' y z else .ok (.bool false)
theorem se_chain {o o' : O2} {g g' : D → D → R D} (so : SO2 o g) (so' : SO2 o' g') (ha : SE E wa Γ ma) (hb : SE E wb Γ mb) (hc : SE E wc Γ mc) : SE E (wChain o o' wa wb wc) Γ (chainM g g' ma mb mc) := fun ρ Q f q =>
  ha ρ _ f (ev_mono (ev_bind q) fun d q _ ρ1 f1 => hb ρ1 _ f1 (ev_mono (ev_bind q) fun e q _ ρ2 f2 => so d e _ E (ev_mono (ev_tv q) fun r q _ => by
    obtain ⟨k, rfl, q⟩ := q
    cases k with
    | true => exact ⟨true, rfl, fun _ => hc ρ2 _ f2 (ev_mono (ev_bind q) fun g q _ ρ3 f3 => so' e g _ E (ev_mono q fun r q f => q f ρ3 f3)), (fun e => nomatch e)⟩
    | false => exact ⟨false, rfl, (fun e => nomatch e), fun _ => q false ρ2 f2⟩)))
end
end Dl
set_option maxRecDepth 100000
/-! Sj: comprehensions, what is walked, statements, loops: as plain functions. -/
namespace Dl
open PySem R
set_option autoImplicit false
/-! ### targets -/
def Tg (g : WG) (Γ : Fr) {β : Type} (sp : D → Option β) (up : β → Fr) : Prop := ∀ x b ρ (Q : Env → Prop), Fits Γ ρ → sp x = some b → (∀ ρ', Fits (up b) ρ' → Q ρ') → g x false ρ Q
def Tgs (g : WGs) (Γ : Fr) {β : Type} (sp : List D → Option β) (up : β → Fr) : Prop := ∀ xs b ρ (Q : Env → Prop), Fits Γ ρ → sp xs = some b → (∀ ρ', Fits (up b) ρ' → Q ρ') → g xs ρ Q
theorem tg_n (i : Nat) {Γ : Fr} (h : Fr.ok Γ i = true) : Tg (gN i) Γ (fun x => some x) (fun x => Γ.set i (.sh x)) := fun x b ρ Q f e k => by
  cases e
  exact ⟨f.free h, k _ (f.set i rfl)⟩
def un0 : List D → Option Unit
  | [] => some ()
  | _ => none
def unC {β γ : Type} (s : D → Option β) (t : List D → Option γ) : List D → Option (β × γ)
  | x :: xs => match s x, t xs with
    | some a, some b => some (a, b)
    | _, _ => none
  | _ => none
def un1 {β : Type} (s : D → Option β) : List D → Option β
  | [x] => s x
  | _ => none
def unT {β : Type} (n : Nat) (s : List D → Option β) : D → Option β
  | .tuple ds => if ds.length = n then s ds else none
  | _ => none
theorem tgs_1 {g : WG} {Γ : Fr} {β : Type} {sp : D → Option β} {up : β → Fr} (h : Tg g Γ sp up) : Tgs (gCons g gNil) Γ (un1 sp) up := fun xs b ρ Q f e k => by
  match xs, e with
  | [x], e => exact ⟨x, [], rfl, h x b ρ _ f e fun ρ' f' => ⟨rfl, k ρ' f'⟩⟩
theorem tgs_c {g : WG} {r : WGs} {Γ : Fr} {β γ : Type} {sp : D → Option β} {up : β → Fr} {tp : List D → Option γ} {uq : β → γ → Fr} (h : Tg g Γ sp up) (hr : ∀ b, Tgs r (up b) tp (uq b)) : Tgs (gCons g r) Γ (unC sp tp) (fun p => uq p.1 p.2) := fun xs b ρ Q f e k => by
  match xs, e with
  | x :: xs, e =>
    simp only [unC] at e
    split at e
    · rename_i a c ha hc
      cases e
      exact ⟨x, xs, rfl, h x a ρ _ f ha fun ρ' f' => hr a xs c ρ' _ f' hc k⟩
    · cases e
theorem tg_t {n : Nat} {r : WGs} {Γ : Fr} {β : Type} {sp : List D → Option β} {up : β → Fr} (h : Tgs r Γ sp up) : Tg (gTup n r) Γ (unT n sp) up := fun x b ρ Q f e k => by
  cases x with
  | tuple ds =>
    simp only [unT] at e
    split at e
    · rename_i hn
      exact ⟨ds, rfl, hn, h ds b ρ Q f e k⟩
    · cases e
  | _ => cases e
abbrev pr2 : D → Option (D × D) := unT 2 (unC (fun x => some x) (un1 fun x => some x))
abbrev pr3 : D → Option (D × D × D) := unT 3 (unC (fun x => some x) (unC (fun x => some x) (un1 fun x => some x)))
abbrev pr4 : D → Option (D × D × D × D) := unT 4 (unC (fun x => some x) (unC (fun x => some x) (unC (fun x => some x) (un1 fun x => some x))))
def unS {α β : Type} (sp : D → Option β) (x : D) (k : β → R α) : R α := match sp x with
  | some b => k b
  | none => .bad
/-! ### what is walked -/
def seqM (m : R D) : R (List D) := m.bind fun d => match seqD d with
  | some xs => .ok xs
  | none => .bad
instance (n : Int) : Decidable (inR n) := inferInstanceAs (Decidable (_ ∧ _))
def rng1 (d : D) : R (List D) := match d with
  | .int n => if inR n then .ok (rangeL 0 n.toNat) else .bad
  | _ => .bad
def rng2 (d e : D) : R (List D) := match d, e with
  | .int m, .int n => if inR m ∧ inR n then .ok (rangeL m (n - m).toNat) else .bad
  | _, _ => .bad
def zip2 (d e : D) : R (List D) := match d, e with
  | .list xs, .list ys => .ok (zipD xs ys)
  | .tuple xs, .tuple ys => .ok (zipD xs ys)
  | .list xs, .tuple ys => .ok (zipD xs ys)
  | .tuple xs, .list ys => .ok (zipD xs ys)
  | _, _ => .bad
def enum1 (d : D) : R (List D) := match d with
  | .list xs => .ok (enumD 0 xs)
  | _ => .bad
section
variable {E : Exc → Prop} {wa wb : WE} {Γ : Fr} {Γf : D → Fr} {ma mb : R D} {xa xb : RS D}
theorem seq_ev {d : D} {Q : List D → Prop} (q : ev (match seqD d with | some xs => R.ok xs | none => R.bad) Q E) : ∃ xs, (d = .list xs ∨ d = .tuple xs) ∧ Q xs := by
  cases d with
  | list xs => exact ⟨xs, .inl rfl, q⟩
  | tuple xs => exact ⟨xs, .inr rfl, q⟩
  | _ => exact q.elim
theorem si_s (ha : SE E wa Γ ma) : SI E (itS wa) Γ (seqM ma) := fun ρ Q f q => ha ρ _ f (ev_mono (ev_bind q) fun d q _ ρ1 f1 => by
  obtain ⟨xs, h, q⟩ := seq_ev q
  exact ⟨xs, h, q ρ1 f1⟩)
theorem rng1_ev {d : D} {Q : List D → Prop} (q : ev (rng1 d) Q E) : ∃ n : Int, d = .int n ∧ inR n ∧ Q (rangeL 0 n.toNat) := by
  cases d with
  | int n =>
    simp only [rng1] at q
    by_cases h : inR n
    · rw [if_pos h] at q; exact ⟨n, rfl, h, q⟩
    · rw [if_neg h] at q; exact q.elim
  | _ => exact q.elim
theorem si_r1 (ha : SE E wa Γ ma) : SI E (itR1 wa) Γ (ma.bind rng1) := fun ρ Q f q => ha ρ _ f (ev_mono (ev_bind q) fun d q _ ρ1 f1 => by
  obtain ⟨n, rfl, h, q⟩ := rng1_ev q
  exact ⟨n, rfl, h.1, h.2, q ρ1 f1⟩)
theorem rng2_ev {d e : D} {Q : List D → Prop} (q : ev (rng2 d e) Q E) : ∃ m n : Int, d = .int m ∧ e = .int n ∧ (-4611686018427387904 ≤ m ∧ m < 4611686018427387904 ∧ -4611686018427387904 ≤ n ∧ n < 4611686018427387904) ∧ Q (rangeL m (n - m).toNat) := by
  cases d with
  | int m =>
    cases e with
    | int n =>
      simp only [rng2] at q
      by_cases h : inR m ∧ inR n
      · rw [if_pos h] at q; exact ⟨m, n, rfl, rfl, ⟨h.1.1, h.1.2, h.2.1, h.2.2⟩, q⟩
      · rw [if_neg h] at q; exact q.elim
    | _ => exact q.elim
  | _ => exact q.elim
theorem si_r2 (ha : SE E wa Γ ma) (hb : SE E wb Γ mb) : SI E (itR2 wa wb) Γ (ma.bind fun x => mb.bind fun y => rng2 x y) := fun ρ Q f q => ha ρ _ f (ev_mono (ev_bind q) fun d q _ ρ1 f1 => hb ρ1 _ f1 (ev_mono (ev_bind q) fun d q _ ρ1 f1 => by
  obtain ⟨m, n, rfl, rfl, h, q⟩ := rng2_ev q
  exact ⟨m, n, rfl, rfl, h, q ρ1 f1⟩))
theorem zip2_ev {d e : D} {Q : List D → Prop} (q : ev (zip2 d e) Q E) : ∃ xs ys, ((d = .list xs ∨ d = .tuple xs) ∧ (e = .list ys ∨ e = .tuple ys)) ∧ Q (zipD xs ys) := by
  cases d with
  | list xs => cases e with
    | list ys => exact ⟨xs, ys, ⟨.inl rfl, .inl rfl⟩, q⟩
    | tuple ys => exact ⟨xs, ys, ⟨.inl rfl, .inr rfl⟩, q⟩
    | _ => exact q.elim
  | tuple xs => cases e with
    | list ys => exact ⟨xs, ys, ⟨.inr rfl, .inl rfl⟩, q⟩
    | tuple ys => exact ⟨xs, ys, ⟨.inr rfl, .inr rfl⟩, q⟩
    | _ => exact q.elim
  | _ => exact q.elim
theorem si_z (ha : SE E wa Γ ma) (hb : SE E wb Γ mb) : SI E (itZ wa wb) Γ (ma.bind fun x => mb.bind fun y => zip2 x y) := fun ρ Q f q => ha ρ _ f (ev_mono (ev_bind q) fun d q _ ρ1 f1 => hb ρ1 _ f1 (ev_mono (ev_bind q) fun d q _ ρ1 f1 => by
  obtain ⟨xs, ys, h, q⟩ := zip2_ev q
  exact ⟨xs, ys, h, q ρ1 f1⟩))
theorem si_e (ha : SE E wa Γ ma) : SI E (itE wa) Γ (ma.bind enum1) := fun ρ Q f q => ha ρ _ f (ev_mono (ev_bind q) fun d q _ ρ1 f1 => by
  cases d with
  | list xs => exact ⟨xs, rfl, q ρ1 f1⟩
  | _ => exact q.elim)
theorem SI.ls {w : WI} {m : R (List D)} (h : ∀ s, SI E w (Γf s) m) : YI E w Γf (Dl.ls m) := fun s ρ Q f q => h s ρ Q f (ev_bind q)
theorem yi_r1 (ha : YE E wa Γf xa) : YI E (itR1 wa) Γf (fun s => (xa s).bind fun p => (rng1 p.1).bind fun xs => .ok (xs, p.2)) := fun s ρ Q f q => ha s ρ _ f (ev_mono (ev_bind q) fun d q _ ρ1 f1 => by
  obtain ⟨n, e, h, q⟩ := rng1_ev (ev_bind q)
  exact ⟨n, e, h.1, h.2, q ρ1 f1⟩)
theorem yi_r2 (ha : YE E wa Γf xa) (hb : YE E wb Γf xb) : YI E (itR2 wa wb) Γf (fun s => (xa s).bind fun p => (xb p.2).bind fun r => (rng2 p.1 r.1).bind fun xs => .ok (xs, r.2)) := fun s ρ Q f q => ha s ρ _ f (ev_mono (ev_bind q) fun d q _ ρ1 f1 => hb _ ρ1 _ f1 (ev_mono (ev_bind q) fun d q _ ρ1 f1 => by
  obtain ⟨m, n, e1, e2, h, q⟩ := rng2_ev (ev_bind q)
  exact ⟨m, n, e1, e2, h, q ρ1 f1⟩))
theorem yi_s (ha : YE E wa Γf xa) : YI E (itS wa) Γf (fun s => (xa s).bind fun p => (seqM (.ok p.1)).bind fun xs => .ok (xs, p.2)) := fun s ρ Q f q => ha s ρ _ f (ev_mono (ev_bind q) fun d q _ ρ1 f1 => by
  obtain ⟨xs, h, q⟩ := seq_ev (ev_bind q)
  exact ⟨xs, h, q ρ1 f1⟩)
end
/-! ### comprehensions -/
def wipeG (Γ : Fr) : List Nat → Fr
  | [] => Γ
  | v :: vs => (wipeG Γ vs).set v .no
def backG (Γ0 Γ : Fr) : List Nat → Fr
  | [] => Γ
  | v :: vs => (backG Γ0 Γ vs).set v (Γ0[v]?.getD .no)
def Fr.oks (Γ : Fr) (vs : List Nat) : Bool := vs.all fun v => Fr.ok Γ v
theorem Fits.wipe {Γ : Fr} {ρ : Env} (h : Fits Γ ρ) : ∀ vs, Fits (wipeG Γ vs) (wipeE ρ vs)
  | [] => h
  | v :: vs => (h.wipe vs).set v rfl
theorem fit_get {Γ : Fr} {ρ : Env} (h : Fits Γ ρ) (v : Nat) : fit (Γ[v]?.getD .no) (ρ[v]?.getD none) := by
  cases e : Γ[v]? with
  | none =>
    have : ρ[v]? = none := by rw [List.getElem?_eq_none_iff] at e ⊢; rw [h.len]; exact e
    rw [this]; rfl
  | some s =>
    obtain ⟨o, h1, h2⟩ := h.get e
    rw [h1]; exact h2
theorem Fits.back {Γ0 Γ : Fr} {ρ0 ρ : Env} (h0 : Fits Γ0 ρ0) (h : Fits Γ ρ) : ∀ vs, Fits (backG Γ0 Γ vs) (backE ρ0 ρ vs)
  | [] => h
  | v :: vs => (h0.back h vs).set v (fit_get h0 v)
theorem Fits.frees {Γ : Fr} {ρ : Env} (h : Fits Γ ρ) : ∀ {vs : List Nat}, Fr.oks Γ vs = true → Dl.frees ρ vs
  | [], _ => trivial
  | v :: vs, e => by
    simp only [Fr.oks, List.all_cons, Bool.and_eq_true] at e
    exact ⟨h.free e.1, h.frees (vs := vs) e.2⟩
def lcF {β : Type} (sp : D → Option β) (mt : β → R Bool) (me : β → R D) : List D → R (List D)
  | [] => .ok []
  | x :: xs => unS sp x fun b => (mt b).bind fun c => if c then (me b).bind fun d => (lcF sp mt me xs).bind fun ds => .ok (d :: ds) else lcF sp mt me xs
def lcM {β : Type} (mi : R (List D)) (sp : D → Option β) (mt : β → R Bool) (me : β → R D) : R D :=
  mi.bind fun xs => if xs.length ≤ LIM then (lcF sp mt me xs).nerr.bind fun ds => .ok (.list ds) else .bad
/-- .. the state handed on -/
def lcFs {β : Type} (sp : D → Option β) (mt : β → RS Bool) (me : β → RS D) : List D → RS (List D)
  | [], s => .ok ([], s)
  | x :: xs, s => unS sp x fun b => (mt b s).bind fun c => if c.1 then (me b c.2).bind fun d => (lcFs sp mt me xs d.2).bind fun ds => .ok (d.1 :: ds.1, ds.2) else lcFs sp mt me xs c.2
def lcMs {β : Type} (mi : RS (List D)) (sp : D → Option β) (mt : β → RS Bool) (me : β → RS D) : RS D := fun s =>
  (mi s).bind fun xs => if xs.1.length ≤ LIM then (lcFs sp mt me xs.1 xs.2).nerr.bind fun ds => .ok (.list ds.1, ds.2) else .bad
section
variable {E : Exc → Prop} {it : WI} {g : WG} {t : WT} {e : WE} {vs : List Nat} {Γ Γw : Fr} {Γf Γwf : D → Fr} {β : Type} {sp : D → Option β} {up : β → Fr} {upf : β → D → Fr}
theorem unS_ev {α : Type} {x : D} {k : β → R α} {Q : α → Prop} (q : ev (unS sp x k) Q E) : ∃ b, sp x = some b ∧ ev (k b) Q E := by
  unfold unS at q
  split at q
  · rename_i b hb; exact ⟨b, hb, q⟩
  · exact q.elim
theorem lc_go {mt : β → R Bool} {me : β → R D} (hg : Tg g Γw sp up) (ht : ∀ b, ST E0d t (up b) (mt b)) (he : ∀ b, SE E0d e (up b) (me b)) (hv : ∀ b, wipeG (up b) vs = Γw) (Q : List D → Env → Prop) :
    ∀ xs acc ρ, Fits Γw ρ → ev (lcF sp mt me xs) (fun ds => ∀ ρ', Fits Γw ρ' → Q (acc ++ ds) ρ') E0d → lcGo g t e vs Q xs acc ρ
  | [], acc, ρ, f, q => by show Q acc ρ; simpa using q ρ f
  | x :: xs, acc, ρ, f, q => by
    obtain ⟨b, hb, q⟩ := unS_ev q
    refine hg x b ρ _ f hb fun ρ1 f1 => ht b ρ1 _ f1 (ev_mono (ev_bind q) fun c q ρ2 f2 => ?_)
    cases c with
    | true =>
      refine ⟨fun _ => he b ρ2 _ f2 (ev_mono (ev_bind q) fun d q _ ρ3 f3 => ?_), fun z => nomatch z⟩
      exact lc_go hg ht he hv Q xs (acc ++ [d]) _ (hv b ▸ f3.wipe vs) (ev_mono (ev_bind q) fun ds q ρ' f' => by simpa using q ρ' f')
    | false => exact ⟨(fun z => nomatch z), fun _ => lc_go hg ht he hv Q xs acc _ (hv b ▸ f2.wipe vs) q⟩
theorem sef_lc {mi : R (List D)} {mt : β → R Bool} {me : β → R D} (hi : SI E it Γ mi) (hw : wipeG Γ vs = Γw) (hb : backG Γ Γw vs = Γ) (hf : Fr.oks Γ vs = true) (hg : Tg g Γw sp up) (ht : ∀ b, ST E0d t (up b) (mt b)) (he : ∀ b, SE E0d e (up b) (me b)) (hv : ∀ b, wipeG (up b) vs = Γw) :
    SEF E (wLc it g t e vs) Γ (lcM mi sp mt me) := fun ρ Q f q => hi ρ _ f (ev_mono (ev_bind q) fun xs q ρ1 f1 => by
  by_cases hl : xs.length ≤ LIM
  · rw [if_pos hl] at q
    refine ⟨hl, f1.frees hf, lc_go hg ht he hv _ xs [] _ (hw ▸ f1.wipe vs) (ev_mono (ev_nerr (ev_bind q)) fun ds q ρ' f' => ?_)⟩
    exact q _ (hb ▸ f1.back f' vs)
  · rw [if_neg hl] at q; exact q.elim)
theorem lcs_go {mt : β → RS Bool} {me : β → RS D} (hg : ∀ s, Tg g (Γwf s) sp (fun b => upf b s)) (ht : ∀ b, YT E0d t (upf b) (mt b)) (he : ∀ b, YE E0d e (upf b) (me b)) (hv : ∀ b s, wipeG (upf b s) vs = Γwf s) (Q : List D → Env → Prop) :
    ∀ xs acc s ρ, Fits (Γwf s) ρ → ev (lcFs sp mt me xs s) (fun ds => ∀ ρ', Fits (Γwf ds.2) ρ' → Q (acc ++ ds.1) ρ') E0d → lcGo g t e vs Q xs acc ρ
  | [], acc, s, ρ, f, q => by show Q acc ρ; simpa using q ρ f
  | x :: xs, acc, s, ρ, f, q => by
    obtain ⟨b, hb, q⟩ := unS_ev q
    refine hg s x b ρ _ f hb fun ρ1 f1 => ht b s ρ1 _ f1 (ev_mono (ev_bind q) fun c q ρ2 f2 => ?_)
    obtain ⟨c, s2⟩ := c
    cases c with
    | true =>
      refine ⟨fun _ => he b s2 ρ2 _ f2 (ev_mono (ev_bind q) fun d q _ ρ3 f3 => ?_), fun z => nomatch z⟩
      exact lcs_go hg ht he hv Q xs (acc ++ [d.1]) d.2 _ (hv b d.2 ▸ f3.wipe vs) (ev_mono (ev_bind q) fun ds q ρ' f' => by simpa using q ρ' f')
    | false => exact ⟨(fun z => nomatch z), fun _ => lcs_go hg ht he hv Q xs acc s2 _ (hv b s2 ▸ f2.wipe vs) q⟩
theorem yef_lc {mi : RS (List D)} {mt : β → RS Bool} {me : β → RS D} (hi : YI E it Γf mi) (hw : ∀ s, wipeG (Γf s) vs = Γwf s) (hb : ∀ s s', backG (Γf s) (Γwf s') vs = Γf s') (hf : ∀ s, Fr.oks (Γf s) vs = true) (hg : ∀ s, Tg g (Γwf s) sp (fun b => upf b s)) (ht : ∀ b, YT E0d t (upf b) (mt b)) (he : ∀ b, YE E0d e (upf b) (me b)) (hv : ∀ b s, wipeG (upf b s) vs = Γwf s) :
    YEF E (wLc it g t e vs) Γf (lcMs mi sp mt me) := fun s ρ Q f q => hi s ρ _ f (ev_mono (ev_bind q) fun xs q ρ1 f1 => by
  by_cases hl : xs.1.length ≤ LIM
  · rw [if_pos hl] at q
    refine ⟨hl, f1.frees (hf _), lcs_go hg ht he hv _ xs.1 [] xs.2 _ (hw xs.2 ▸ f1.wipe vs) (ev_mono (ev_nerr (ev_bind q)) fun ds q ρ' f' => ?_)⟩
    exact q _ (hb xs.2 ds.2 ▸ f1.back f' vs)
  · rw [if_neg hl] at q; exact q.elim)
end
/-! ### expressions that change a state -/
/-- slot i lends the state -/
def LentAt (Γf : D → Fr) (i : Nat) : Prop := ((∀ s, (Γf s)[i]? = some (.ow s)) ∧ ∀ s s', (Γf s).set i (.ow s') = Γf s') ∨ ((∀ s, (Γf s)[i]? = some (.bo s)) ∧ ∀ s s', (Γf s).set i (.bo s') = Γf s')
section
variable {E : Exc → Prop} {w wa wb wc wd : WE} {Γf : D → Fr} {ma mb : R D} {xa xb xc xd : RS D} {ta tb : WT} {na nb : RS Bool}
theorem LentAt.rd {i : Nat} (L : LentAt Γf i) (s : D) {ρ : Env} (f : Fits (Γf s) ρ) : (rdE ρ i).isSome = true := by
  rcases L with ⟨h, _⟩ | ⟨h, _⟩
  · rw [f.rd (d := s) (by unfold Fr.at; rw [h s]; rfl)]; rfl
  · rw [f.rd (d := s) (by unfold Fr.at; rw [h s]; rfl)]; rfl
theorem lent_go {i : Nat} (L : LentAt Γf i) {C : Con} {ds : List D} {s : D} {ρ1 : Env} {Q : KE} {m : R (D × D)} {fr : Bool} (f : Fits (Γf s) ρ1)
    (hC : ∀ Qc, ev m (fun p => Qc p.1 fr [p.2]) E → C (s :: ds) Qc E) (q : ev m (fun p => ∀ ρ', Fits (Γf p.2) ρ' → Q p.1 fr ρ') E) :
    match ρ1[i]? with
  | some (some (.ow d)) => C (d :: ds) (fun r f bs => ∃ d', bs = [d'] ∧ Q r f (ρ1.set i (some (.ow d')))) E
  | some (some (.bo d)) => C (d :: ds) (fun r f bs => ∃ d', bs = [d'] ∧ Q r f (ρ1.set i (some (.bo d')))) E
  | _ => False := by
  rcases L with ⟨h, hs⟩ | ⟨h, hs⟩
  · rw [f.ow (h s)]
    exact hC _ (ev_mono q fun p q => ⟨p.2, rfl, q _ (hs s p.2 ▸ f.set i rfl)⟩)
  · rw [f.bo (h s)]
    exact hC _ (ev_mono q fun p q => ⟨p.2, rfl, q _ (hs s p.2 ▸ f.set i rfl)⟩)
def Ln1 (py : D → R (D × D)) : RS D := fun s => py s
def Ln2 (py : D → D → R (D × D)) (a : RS D) : RS D := fun s => (a s).bind fun p => py p.2 p.1
def Ln3 (py : D → D → D → R (D × D)) (a b : RS D) : RS D := fun s => (a s).bind fun p => (b p.2).bind fun r => py r.2 p.1 r.1
def Ln4 (py : D → D → D → D → R (D × D)) (a b c : RS D) : RS D := fun s => (a s).bind fun p => (b p.2).bind fun r => (c r.2).bind fun t => py t.2 p.1 r.1 t.1
theorem ye_l1 {fr : Bool} {py : D → R (D × D)} (i : Nat) (L : LentAt Γf i) : YE E (wCallB (lcon1 fr py) E i wNil) Γf (Ln1 py) := fun s ρ Q f q =>
  ⟨L.rd s f, lent_go L f (fun Qc q => ⟨_, rfl, q⟩) (ev_mono q fun p q ρ' f' => q fr ρ' f')⟩
theorem yef_l1 {py : D → R (D × D)} (i : Nat) (L : LentAt Γf i) : YEF E (wCallB (lcon1 true py) E i wNil) Γf (Ln1 py) := fun s ρ Q f q =>
  ⟨L.rd s f, lent_go L f (fun Qc q => ⟨_, rfl, q⟩) q⟩
theorem ye_l2 {fr : Bool} {py : D → D → R (D × D)} (i : Nat) (L : LentAt Γf i) (ha : YE E wa Γf xa) : YE E (wCallB (lcon2 fr py) E i (wCons wa wNil)) Γf (Ln2 py xa) := fun s ρ Q f q =>
  ⟨L.rd s f, ha s ρ _ f (ev_mono (ev_bind q) fun p q _ ρ1 f1 => lent_go L f1 (fun Qc q => ⟨_, _, rfl, q⟩) (ev_mono q fun p q ρ' f' => q fr ρ' f'))⟩
theorem yef_l2 {py : D → D → R (D × D)} (i : Nat) (L : LentAt Γf i) (ha : YE E wa Γf xa) : YEF E (wCallB (lcon2 true py) E i (wCons wa wNil)) Γf (Ln2 py xa) := fun s ρ Q f q =>
  ⟨L.rd s f, ha s ρ _ f (ev_mono (ev_bind q) fun p q _ ρ1 f1 => lent_go L f1 (fun Qc q => ⟨_, _, rfl, q⟩) q)⟩
theorem ye_l3 {fr : Bool} {py : D → D → D → R (D × D)} (i : Nat) (L : LentAt Γf i) (ha : YE E wa Γf xa) (hb : YE E wb Γf xb) : YE E (wCallB (lcon3 fr py) E i (wCons wa (wCons wb wNil))) Γf (Ln3 py xa xb) := fun s ρ Q f q =>
  ⟨L.rd s f, ha s ρ _ f (ev_mono (ev_bind q) fun p q _ ρ1 f1 => hb _ ρ1 _ f1 (ev_mono (ev_bind q) fun p q _ ρ1 f1 => lent_go L f1 (fun Qc q => ⟨_, _, _, rfl, q⟩) (ev_mono q fun p q ρ' f' => q fr ρ' f')))⟩
theorem ye_l4 {fr : Bool} {py : D → D → D → D → R (D × D)} (i : Nat) (L : LentAt Γf i) (ha : YE E wa Γf xa) (hb : YE E wb Γf xb) (hc : YE E wc Γf xc) : YE E (wCallB (lcon4 fr py) E i (wCons wa (wCons wb (wCons wc wNil)))) Γf (Ln4 py xa xb xc) := fun s ρ Q f q =>
  ⟨L.rd s f, ha s ρ _ f (ev_mono (ev_bind q) fun p q _ ρ1 f1 => hb _ ρ1 _ f1 (ev_mono (ev_bind q) fun p q _ ρ1 f1 => hc _ ρ1 _ f1 (ev_mono (ev_bind q) fun p q _ ρ1 f1 => lent_go L f1 (fun Qc q => ⟨_, _, _, _, rfl, q⟩) (ev_mono q fun p q ρ' f' => q fr ρ' f'))))⟩
def X1 (g : D → R D) (a : RS D) : RS D := fun s => (a s).bind fun p => (g p.1).bind fun r => .ok (r, p.2)
def X2 (g : D → D → R D) (a b : RS D) : RS D := fun s => (a s).bind fun p => (b p.2).bind fun q => (g p.1 q.1).bind fun r => .ok (r, q.2)
def X3 (g : D → D → D → R D) (a b c : RS D) : RS D := fun s => (a s).bind fun p => (b p.2).bind fun q => (c q.2).bind fun t => (g p.1 q.1 t.1).bind fun r => .ok (r, t.2)
theorem ye_o {o : O1} {g : D → R D} (so : SO1 o g) (ha : YE E wa Γf xa) : YE E (wO o wa) Γf (X1 g xa) := fun s ρ Q f q =>
  ha s ρ _ f (ev_mono (ev_bind q) fun d q _ ρ1 f1 => so d.1 _ E (ev_mono (ev_bind q) fun r q f => q f ρ1 f1))
theorem yef_o {o : O1} {g : D → R D} (so : SO1F o g) (ha : YE E wa Γf xa) : YEF E (wO o wa) Γf (X1 g xa) := fun s ρ Q f q =>
  ha s ρ _ f (ev_mono (ev_bind q) fun d q _ ρ1 f1 => so d.1 _ E (ev_mono (ev_bind q) fun r q => q ρ1 f1))
theorem ye_b {o : O2} {g : D → D → R D} (so : SO2 o g) (ha : YE E wa Γf xa) (hb : YE E wb Γf xb) : YE E (wB o wa wb) Γf (X2 g xa xb) := fun s ρ Q f q =>
  ha s ρ _ f (ev_mono (ev_bind q) fun d q _ ρ1 f1 => hb _ ρ1 _ f1 (ev_mono (ev_bind q) fun e q _ ρ2 f2 => so d.1 e.1 _ E (ev_mono (ev_bind q) fun r q f => q f ρ2 f2)))
theorem yef_b {o : O2} {g : D → D → R D} (so : SO2F o g) (ha : YE E wa Γf xa) (hb : YE E wb Γf xb) : YEF E (wB o wa wb) Γf (X2 g xa xb) := fun s ρ Q f q =>
  ha s ρ _ f (ev_mono (ev_bind q) fun d q _ ρ1 f1 => hb _ ρ1 _ f1 (ev_mono (ev_bind q) fun e q _ ρ2 f2 => so d.1 e.1 _ E (ev_mono (ev_bind q) fun r q => q ρ2 f2)))
/-- a slot that is looked at ahead of, and shown behind, the other side -/
def X2l (g : D → D → R D) (d : D → D) (b : RS D) : RS D := fun s => (b s).bind fun q => (g (d q.2) q.1).bind fun r => .ok (r, q.2)
theorem ye_bl {o : O2} {g : D → D → R D} (so : SO2 o g) (i : Nat) {d : D → D} (e : ∀ s, Fr.at (Γf s) i = some (d s)) (hb : YE E wb Γf xb) : YE E (wBL o i wb) Γf (X2l g d xb) := fun s ρ Q f q =>
  ⟨by rw [f.rd (e s)]; rfl, hb s ρ _ f (ev_mono (ev_bind q) fun e' q _ ρ2 f2 => by rw [f2.rd (e e'.2)]; exact so _ e'.1 _ E (ev_mono (ev_bind q) fun r q f => q f ρ2 f2))⟩
theorem ye_br {o : O2} {g : D → D → R D} (so : SO2 o g) (ha : YE E wa Γf xa) (i : Nat) {d : D → D} (e : ∀ s, Fr.at (Γf s) i = some (d s)) : YE E (wBR o wa i) Γf (fun s => (xa s).bind fun p => (g p.1 (d p.2)).bind fun r => .ok (r, p.2)) := fun s ρ Q f q =>
  ha s ρ _ f (ev_mono (ev_bind q) fun e' q _ ρ2 f2 => by rw [f2.rd (e e'.2)]; exact so e'.1 _ _ E (ev_mono (ev_bind q) fun r q f => q f ρ2 f2))
def consX {α : Type} (a : RS α) (t : RS (List α)) : RS (List α) := fun s => (a s).bind fun x => (t x.2).bind fun xs => .ok (x.1 :: xs.1, xs.2)
theorem ya_nil : YA E wNil Γf (fun s => .ok ([], s)) := fun s ρ Q f q => q ρ f
theorem ya_cons {t : WA} {mt : RS (List D)} (ha : YE E wa Γf xa) (ht : YA E t Γf mt) : YA E (wCons wa t) Γf (consX xa mt) := fun s ρ Q f q =>
  ha s ρ _ f (ev_mono (ev_bind q) fun d q _ ρ1 f1 => ht _ ρ1 _ f1 (ev_mono (ev_bind q) fun ds q ρ2 f2 => q ρ2 f2))
def tupX (m : RS (List D)) : RS D := fun s => (m s).bind fun ds => if ds.1.length ≤ LIM then .ok (.tuple ds.1, ds.2) else .bad
def lstX (m : RS (List D)) : RS D := fun s => (m s).bind fun ds => if ds.1.length ≤ LIM then .ok (.list ds.1, ds.2) else .bad
theorem ye_tup {t : WA} {mt : RS (List D)} (ht : YA E t Γf mt) : YE E (wTup t) Γf (tupX mt) := fun s ρ Q f q =>
  ht s ρ _ f (ev_mono (ev_bind q) fun ds q ρ1 f1 => by
    by_cases h : ds.1.length ≤ LIM
    · rw [if_pos h] at q; exact ⟨h, q false ρ1 f1⟩
    · rw [if_neg h] at q; exact q.elim)
theorem yef_lst {t : WA} {mt : RS (List D)} (ht : YA E t Γf mt) : YEF E (wLst t) Γf (lstX mt) := fun s ρ Q f q =>
  ht s ρ _ f (ev_mono (ev_bind q) fun ds q ρ1 f1 => by
    by_cases h : ds.1.length ≤ LIM
    · rw [if_pos h] at q; exact ⟨h, q ρ1 f1⟩
    · rw [if_neg h] at q; exact q.elim)
theorem ye_call1 {fr : Bool} {py : D → R D} (ha : YE E wa Γf xa) : YE E (wCall (con1 fr py) E (wCons wa wNil)) Γf (X1 py xa) := fun s ρ Q f q =>
  ha s ρ _ f (ev_mono (ev_bind q) fun d q _ ρ1 f1 => ⟨_, rfl, ev_mono (ev_bind q) fun r q => q fr ρ1 f1⟩)
theorem ye_call2 {fr : Bool} {py : D → D → R D} (ha : YE E wa Γf xa) (hb : YE E wb Γf xb) : YE E (wCall (con2 fr py) E (wCons wa (wCons wb wNil))) Γf (X2 py xa xb) := fun s ρ Q f q =>
  ha s ρ _ f (ev_mono (ev_bind q) fun d q _ ρ1 f1 => hb _ ρ1 _ f1 (ev_mono (ev_bind q) fun d q _ ρ1 f1 => ⟨_, _, rfl, ev_mono (ev_bind q) fun r q => q fr ρ1 f1⟩))
theorem ye_call3 {fr : Bool} {py : D → D → D → R D} (ha : YE E wa Γf xa) (hb : YE E wb Γf xb) (hc : YE E wc Γf xc) : YE E (wCall (con3 fr py) E (wCons wa (wCons wb (wCons wc wNil)))) Γf (X3 py xa xb xc) := fun s ρ Q f q =>
  ha s ρ _ f (ev_mono (ev_bind q) fun d q _ ρ1 f1 => hb _ ρ1 _ f1 (ev_mono (ev_bind q) fun d q _ ρ1 f1 => hc _ ρ1 _ f1 (ev_mono (ev_bind q) fun d q _ ρ1 f1 => ⟨_, _, _, rfl, ev_mono (ev_bind q) fun r q => q fr ρ1 f1⟩)))
def tvX (m : RS D) : RS Bool := fun s => (m s).bind fun p => (asB p.1).bind fun b => .ok (b, p.2)
theorem asB_ev {α : Type} {d : D} {k : Bool → R α} {Q : α → Prop} (q : ev ((asB d).bind k) Q E) : ∃ b, d = .bool b ∧ ev (k b) Q E := by
  cases d <;> first | exact ⟨_, rfl, q⟩ | exact q.elim
theorem yt_tv (h : YE E w Γf xa) : YT E (wTv w) Γf (tvX xa) := fun s ρ Q f q => h s ρ _ f (ev_mono (ev_bind q) fun d q _ ρ1 f1 => by
  obtain ⟨b, e, q⟩ := asB_ev q
  exact ⟨b, e, q ρ1 f1⟩)
def andX (a b : RS Bool) : RS Bool := fun s => (a s).bind fun c => if c.1 then b c.2 else .ok (false, c.2)
def orX (a b : RS Bool) : RS Bool := fun s => (a s).bind fun c => if c.1 then .ok (true, c.2) else b c.2
def notX (a : RS Bool) : RS Bool := fun s => (a s).bind fun c => .ok (!c.1, c.2)
theorem yt_and (ha : YT E ta Γf na) (hb : YT E tb Γf nb) : YT E (wAnd ta tb) Γf (andX na nb) := fun s ρ Q f q => ha s ρ _ f (ev_mono (ev_bind q) fun c q ρ1 f1 => by
  obtain ⟨c, s2⟩ := c
  cases c with
  | true => exact ⟨fun _ => hb s2 ρ1 _ f1 q, (fun e => nomatch e)⟩
  | false => exact ⟨(fun e => nomatch e), fun _ => q ρ1 f1⟩)
theorem yt_or (ha : YT E ta Γf na) (hb : YT E tb Γf nb) : YT E (wOr ta tb) Γf (orX na nb) := fun s ρ Q f q => ha s ρ _ f (ev_mono (ev_bind q) fun c q ρ1 f1 => by
  obtain ⟨c, s2⟩ := c
  cases c with
  | false => exact ⟨(fun e => nomatch e), fun _ => hb s2 ρ1 _ f1 q⟩
  | true => exact ⟨fun _ => q ρ1 f1, (fun e => nomatch e)⟩)
theorem yt_not (ha : YT E ta Γf na) : YT E (wNot ta) Γf (notX na) := fun s ρ Q f q => ha s ρ _ f (ev_mono (ev_bind q) fun c q ρ1 f1 => q ρ1 f1)
def andVX (a b : RS D) : RS D := fun s => (tvX a s).bind fun c => if c.1 then b c.2 else .ok (.bool false, c.2)
def orVX (a b : RS D) : RS D := fun s => (tvX a s).bind fun c => if c.1 then .ok (.bool true, c.2) else b c.2
theorem ev_tvx {α : Type} {s : D} {m : RS D} {k : Bool × D → R α} {Q : α → Prop} (q : ev ((tvX m s).bind k) Q E) : ev (m s) (fun p => ∃ c, p.1 = .bool c ∧ ev (k (c, p.2)) Q E) E := by
  have q' := ev_bind q
  unfold tvX at q'
  refine ev_mono (ev_bind q') fun p q => ?_
  obtain ⟨b, e, q⟩ := asB_ev q
  exact ⟨b, e, q⟩
theorem ye_and (ha : YE E wa Γf xa) (hb : YE E wb Γf xb) : YE E (wAndV wa wb) Γf (andVX xa xb) := fun s ρ Q f q => ha s ρ _ f (ev_mono (ev_tvx q) fun d q _ ρ1 f1 => by
  obtain ⟨c, e, q⟩ := q
  cases c with
  | true => exact ⟨true, e, fun _ => hb _ ρ1 _ f1 q, (fun e => nomatch e)⟩
  | false => exact ⟨false, e, (fun e => nomatch e), fun _ => q false ρ1 f1⟩)
theorem ye_or (ha : YE E wa Γf xa) (hb : YE E wb Γf xb) : YE E (wOrV wa wb) Γf (orVX xa xb) := fun s ρ Q f q => ha s ρ _ f (ev_mono (ev_tvx q) fun d q _ ρ1 f1 => by
  obtain ⟨c, e, q⟩ := q
  cases c with
  | false => exact ⟨false, e, (fun e => nomatch e), fun _ => hb _ ρ1 _ f1 q⟩
  | true => exact ⟨true, e, fun _ => q false ρ1 f1, (fun e => nomatch e)⟩)
def ifX (t : RS Bool) (a b : RS D) : RS D := fun s => (t s).bind fun c => if c.1 then a c.2 else b c.2
theorem ye_if (ht : YT E ta Γf na) (ha : YE E wa Γf xa) (hb : YE E wb Γf xb) : YE E (wIf ta wa wb) Γf (ifX na xa xb) := fun s ρ Q f q => ht s ρ _ f (ev_mono (ev_bind q) fun c q ρ1 f1 => by
  obtain ⟨c, s2⟩ := c
  cases c with
  | true => exact ⟨fun _ => ha _ ρ1 _ f1 q, (fun e => nomatch e)⟩
  | false => exact ⟨(fun e => nomatch e), fun _ => hb _ ρ1 _ f1 q⟩)
end
end Dl
set_option maxRecDepth 100000
/-! Sk: statements and loops as plain functions. -/
namespace Dl
open PySem R
set_option autoImplicit false
/-- how a piece of statements ends -/
inductive Ctl (σ τ : Type) : Type where
  | nx (a : σ) | bk (a : σ) | ct (a : σ) | rt (r : τ)
/-- what is wanted of statements: m's ends stand for P's -/
def SJ (E : Exc → Prop) (s : WS) (Γ : Fr) {α : Type} (m : R α) (K : Po → α → Prop) : Prop := ∀ ρ P, Fits Γ ρ → ev m (K P) E → s P ρ
/-- they go on -/
def KN {σ : Type} (Γn : σ → Fr) : Po → σ → Prop := fun P a => ∀ ρ', Fits (Γn a) ρ' → P.nx ρ'
/-- they return; pk: what is returned, what the lent objects are then -/
def KT {τ : Type} (pk : τ → D × List D) (fr : Bool) : Po → τ → Prop := fun P r => (∀ ρ', lent ρ' = (pk r).2 → P.rt (pk r).1 fr ρ') ∧ (fr = false → ∀ ρ', (pk r).1 = .none → lent ρ' = (pk r).2 → P.nx ρ')
def KC {σ τ : Type} (Γn : σ → Fr) (pk : τ → D × List D) (fr : Bool) : Po → Ctl σ τ → Prop := fun P c => match c with
  | .nx a => ∀ ρ', Fits (Γn a) ρ' → P.nx ρ'
  | .bk a => ∀ ρ', Fits (Γn a) ρ' → P.bk ρ'
  | .ct a => ∀ ρ', Fits (Γn a) ρ' → P.ct ρ'
  | .rt r => ∀ ρ', lent ρ' = (pk r).2 → P.rt (pk r).1 fr ρ'
/-- behind statements stands more: K speaks of the returns alone there -/
def pk0 (d : D) : D × List D := (d, [])
def pk1 (p : D × D) : D × List D := (p.1, [p.2])
def pkN (e : Empty) : D × List D := e.elim
section
variable {E : Exc → Prop} {s s1 s2 rest : WS} {w wa wb : WE} {wt : WT} {wi : WI} {g : WG} {Γ Γ' Γ2 : Fr} {α β γ σ σ' τ : Type} {K : Po → γ → Prop} {m : R α} {v : α → D} {Γ1 : α → Fr} {k : α → R γ}
theorem sj_pre {is : List Nat} {m : R γ} (h : Fzs Γ is Γ') (hs : SJ E s Γ' m K) : SJ E (wPre is s) Γ m K := fun ρ P f q => hs _ P (h.fits f) q
/-- the end of a block -/
theorem sj_n {a : σ} {Γn : σ → Fr} (h : Le Γ (Γn a)) : SJ E wNext Γ (.ok a) (KN Γn) := fun ρ P f q => q ρ (h.fits f)
theorem sj_nz {is : List Nat} {a : σ} {Γn : σ → Fr} (hz : Fzs Γ is Γ') (h : Le Γ' (Γn a)) : SJ E (wFzN is) Γ (.ok a) (KN Γn) := fun ρ P f q => q _ (h.fits (hz.fits f))
theorem sj_cn {a : σ} {Γn : σ → Fr} {pk : τ → D × List D} {fr : Bool} (h : Le Γ (Γn a)) : SJ E wNext Γ (.ok (.nx a)) (KC Γn pk fr) := fun ρ P f q => q ρ (h.fits f)
theorem sj_cnz {is : List Nat} {a : σ} {Γn : σ → Fr} {pk : τ → D × List D} {fr : Bool} (hz : Fzs Γ is Γ') (h : Le Γ' (Γn a)) : SJ E (wFzN is) Γ (.ok (.nx a)) (KC Γn pk fr) := fun ρ P f q => q _ (h.fits (hz.fits f))
theorem sj_tn {r : τ} {pk : τ → D × List D} (h0 : (pk r).1 = .none) (h : lentΓ Γ = (pk r).2) : SJ E wNext Γ (.ok r) (KT pk false) := fun ρ P f q => q.2 rfl ρ h0 (f.lent.trans h)
theorem sj_bk {a : σ} {Γn : σ → Fr} {pk : τ → D × List D} {fr : Bool} (h : Le Γ (Γn a)) : SJ E (wSeq wBreak rest) Γ (.ok (.bk a)) (KC Γn pk fr) := fun ρ P f q => q ρ (h.fits f)
theorem sj_ct {a : σ} {Γn : σ → Fr} {pk : τ → D × List D} {fr : Bool} (h : Le Γ (Γn a)) : SJ E (wSeq wCont rest) Γ (.ok (.ct a)) (KC Γn pk fr) := fun ρ P f q => q ρ (h.fits f)
theorem sj_bkz {is : List Nat} {a : σ} {Γn : σ → Fr} {pk : τ → D × List D} {fr : Bool} (hz : Fzs Γ is Γ') (h : Le Γ' (Γn a)) : SJ E (wSeq (wPre is wBreak) rest) Γ (.ok (.bk a)) (KC Γn pk fr) := fun ρ P f q => q _ (h.fits (hz.fits f))
theorem sj_ctz {is : List Nat} {a : σ} {Γn : σ → Fr} {pk : τ → D × List D} {fr : Bool} (hz : Fzs Γ is Γ') (h : Le Γ' (Γn a)) : SJ E (wSeq (wPre is wCont) rest) Γ (.ok (.ct a)) (KC Γn pk fr) := fun ρ P f q => q _ (h.fits (hz.fits f))
/-- pass -/
theorem sj_next {m : R γ} (h : SJ E rest Γ m K) : SJ E (wSeq wNext rest) Γ m K := fun ρ P f q => h ρ P f q
theorem sj_nextz {is : List Nat} {m : R γ} (h : Fzs Γ is Γ') (hs : SJ E rest Γ' m K) : SJ E (wSeq (wFzN is) rest) Γ m K := fun ρ P f q => hs _ P (h.fits f) q
theorem sj_as {m : R γ} (h : SJ E (wSeq s1 (wSeq s2 rest)) Γ m K) : SJ E (wSeq (wSeq s1 s2) rest) Γ m K := h
theorem sj_seqpre {is : List Nat} {m : R γ} (h : Fzs Γ is Γ') (hs : SJ E (wSeq s rest) Γ' m K) : SJ E (wSeq (wPre is s) rest) Γ m K := fun ρ P f q => hs _ P (h.fits f) q
theorem sj_raise {x : Exc} : SJ E (wSeq (wRaise E x) rest) Γ (.err x : R γ) K := fun ρ P f q => q
theorem sj_set (i : Nat) (he : SG E w Γ m v Γ1) (ho : ∀ a, Fr.ok (Γ1 a) i = true) (hr : ∀ a, SJ E rest ((Γ1 a).set i (.sh (v a))) (k a) K) : SJ E (wSeq (wAsg (wFz w) (gN i)) rest) Γ (m.bind k) K := fun ρ P f q =>
  he ρ (fun d _ ρ1 => gN i d false ρ1 (rest P)) f (ev_mono (ev_bind q) fun a q _ ρ1 f1 => ⟨f1.free (ho a), hr a _ P (f1.set i rfl) q⟩)
theorem sj_setF (i : Nat) (he : SGF E w Γ m v Γ1) (ho : ∀ a, Fr.ok (Γ1 a) i = true) (hr : ∀ a, SJ E rest ((Γ1 a).set i (.ow (v a))) (k a) K) : SJ E (wSeq (wAsg w (gN i)) rest) Γ (m.bind k) K := fun ρ P f q =>
  he ρ _ f (ev_mono (ev_bind q) fun a q ρ1 f1 => ⟨f1.free (ho a), hr a _ P (f1.set i rfl) q⟩)
theorem sj_asg {sp : D → Option β} {up : α → β → Fr} {k : α → β → R γ} (he : SG E w Γ m v Γ1) (hg : ∀ a, Tg g (Γ1 a) sp (up a)) (hr : ∀ a b, SJ E rest (up a b) (k a b) K) : SJ E (wSeq (wAsg (wFz w) g) rest) Γ (m.bind fun a => unS sp (v a) (k a)) K := fun ρ P f q =>
  he ρ (fun d _ ρ1 => g d false ρ1 (rest P)) f (ev_mono (ev_bind q) fun a q _ ρ1 f1 => by
    obtain ⟨b, hb, q⟩ := unS_ev q
    exact hg a _ b ρ1 _ f1 hb fun ρ' f' => hr a b ρ' P f' q)
theorem sj_par (i j : Nat) {m2 : α → R β} {v2 : β → D} {Γ2 : α → β → Fr} {k : α → β → R γ} (ha : SG E wa Γ m v Γ1) (hb : ∀ a, SG E wb (Γ1 a) (m2 a) v2 (Γ2 a)) (hi : ∀ a b, Fr.ok (Γ2 a b) i = true) (hj : ∀ a b, Fr.ok (Γ2 a b) j = true) (hr : ∀ a b, SJ E rest (((Γ2 a b).set i (.sh (v a))).set j (.sh (v2 b))) (k a b) K) :
    SJ E (wSeq (wPar i j wa wb) rest) Γ (m.bind fun a => (m2 a).bind fun b => k a b) K := fun ρ P f q =>
  ha ρ _ f (ev_mono (ev_bind q) fun a q _ ρ1 f1 => hb a ρ1 _ f1 (ev_mono (ev_bind q) fun b q _ ρ2 f2 => ⟨f2.free (hi a b), f2.free (hj a b), hr a b _ P ((f2.set i (s := .sh (v a)) (o := some (.sh (v a))) rfl).set j (s := .sh (v2 b)) (o := some (.sh (v2 b))) rfl) q⟩))
theorem sj_drop (he : SG E w Γ m v Γ1) (hr : ∀ a, SJ E rest (Γ1 a) (k a) K) : SJ E (wSeq (wDrop w) rest) Γ (m.bind k) K := fun ρ P f q =>
  he ρ _ f (ev_mono (ev_bind q) fun a q _ ρ1 f1 => hr a ρ1 P f1 q)
/-- x.append(e) -/
def isLM (d : D) : R Unit := match d with
  | .list _ => .ok ()
  | _ => .bad
def apL (d x : D) : R D := match d with
  | .list xs => if xs.length < LIM then .ok (.list (xs ++ [x])) else .bad
  | _ => .bad
theorem isLM_ev {α : Type} {d : D} {k : R α} {Q : α → Prop} (q : ev ((isLM d).bind fun _ => k) Q E) : (∃ xs, d = .list xs) ∧ ev k Q E := by
  cases d <;> first | exact ⟨⟨_, rfl⟩, q⟩ | exact q.elim
theorem apL_ev {α : Type} {d x : D} {k : D → R α} {Q : α → Prop} (q : ev ((apL d x).bind k) Q E) : ∃ xs, d = .list xs ∧ xs.length < LIM ∧ ev (k (.list (xs ++ [x]))) Q E := by
  cases d with
  | list xs =>
    simp only [apL] at q
    by_cases h : xs.length < LIM
    · rw [if_pos h] at q; exact ⟨xs, rfl, h, q⟩
    · rw [if_neg h] at q; exact q.elim
  | _ => exact q.elim
theorem sj_app (i : Nat) {d : D} {c : α → D} {k : α → D → R γ} (e0 : Γ[i]? = some (.ow d)) (he : SG E w Γ m v Γ1) (e1 : ∀ a, (Γ1 a)[i]? = some (.ow (c a))) (hr : ∀ a d', SJ E rest ((Γ1 a).set i (.ow d')) (k a d') K) :
    SJ E (wSeq (wApp i w) rest) Γ ((isLM d).bind fun _ => m.bind fun a => (apL (c a) (v a)).bind (k a)) K := fun ρ P f q => by
  obtain ⟨⟨xs, rfl⟩, q⟩ := isLM_ev q
  refine ⟨by unfold isL; rw [f.rd (d := .list xs) (by unfold Fr.at; rw [e0]; rfl)]; trivial, he ρ _ f (ev_mono (ev_bind q) fun a q _ ρ1 f1 => ?_)⟩
  obtain ⟨ys, hy, hl, q⟩ := apL_ev q
  exact ⟨ys, hl, .inl ⟨by rw [f1.ow (e1 a), hy], hr a _ _ P (f1.set i rfl) q⟩⟩
theorem sj_appB (i : Nat) {d : D} {c : α → D} {k : α → D → R γ} (e0 : Γ[i]? = some (.bo d)) (he : SG E w Γ m v Γ1) (e1 : ∀ a, (Γ1 a)[i]? = some (.bo (c a))) (hr : ∀ a d', SJ E rest ((Γ1 a).set i (.bo d')) (k a d') K) :
    SJ E (wSeq (wApp i w) rest) Γ ((isLM d).bind fun _ => m.bind fun a => (apL (c a) (v a)).bind (k a)) K := fun ρ P f q => by
  obtain ⟨⟨xs, rfl⟩, q⟩ := isLM_ev q
  refine ⟨by unfold isL; rw [f.rd (d := .list xs) (by unfold Fr.at; rw [e0]; rfl)]; trivial, he ρ _ f (ev_mono (ev_bind q) fun a q _ ρ1 f1 => ?_)⟩
  obtain ⟨ys, hy, hl, q⟩ := apL_ev q
  exact ⟨ys, hl, .inr ⟨by rw [f1.bo (e1 a), hy], hr a _ _ P (f1.set i rfl) q⟩⟩
/-- x[e] = value -/
def setI (d i x : D) : R D := match d, i with
  | .list xs, .int n => match ixD xs.length n with
    | some j => .ok (.list (xs.set j x))
    | none => .bad
  | _, _ => .bad
theorem setI_ev {α : Type} {d i x : D} {k : D → R α} {Q : α → Prop} (q : ev ((setI d i x).bind k) Q E) : ∃ xs n j, d = .list xs ∧ i = .int n ∧ ixD xs.length n = some j ∧ ev (k (.list (xs.set j x))) Q E := by
  cases d with
  | list xs => cases i with
    | int n =>
      simp only [setI] at q
      cases h : ixD xs.length n with
      | some j => rw [h] at q; exact ⟨xs, n, j, rfl, rfl, h, q⟩
      | none => rw [h] at q; exact q.elim
    | _ => exact q.elim
  | _ => exact q.elim
theorem sj_idx (i : Nat) {d : α → D} {mi : R D} {k : α → D → R γ} (he : SG E w Γ m v Γ1) (e1 : ∀ a, (Γ1 a)[i]? = some (.ow (d a))) (hi : ∀ a, SE E wb (Γ1 a) mi) (hr : ∀ a d', SJ E rest ((Γ1 a).set i (.ow d')) (k a d') K) :
    SJ E (wSeq (wAsg w (gIx i wb)) rest) Γ (m.bind fun a => mi.bind fun x => (setI (d a) x (v a)).bind (k a)) K := fun ρ P f q =>
  he ρ _ f (ev_mono (ev_bind q) fun a q _ ρ1 f1 => ⟨by rw [f1.rd (d := d a) (by unfold Fr.at; rw [e1 a]; rfl)]; rfl, hi a ρ1 _ f1 (ev_mono (ev_bind q) fun x q _ ρ2 f2 => by
    obtain ⟨xs, n, j, hx, hn, hj, q⟩ := setI_ev q
    exact ⟨xs, n, j, hn, .inl ⟨by rw [f2.ow (e1 a), hx], hj, hr a _ _ P (f2.set i rfl) q⟩⟩)⟩)
theorem sj_idxB (i : Nat) {d : α → D} {mi : R D} {k : α → D → R γ} (he : SG E w Γ m v Γ1) (e1 : ∀ a, (Γ1 a)[i]? = some (.bo (d a))) (hi : ∀ a, SE E wb (Γ1 a) mi) (hr : ∀ a d', SJ E rest ((Γ1 a).set i (.bo d')) (k a d') K) :
    SJ E (wSeq (wAsg w (gIx i wb)) rest) Γ (m.bind fun a => mi.bind fun x => (setI (d a) x (v a)).bind (k a)) K := fun ρ P f q =>
  he ρ _ f (ev_mono (ev_bind q) fun a q _ ρ1 f1 => ⟨by rw [f1.rd (d := d a) (by unfold Fr.at; rw [e1 a]; rfl)]; rfl, hi a ρ1 _ f1 (ev_mono (ev_bind q) fun x q _ ρ2 f2 => by
    obtain ⟨xs, n, j, hx, hn, hj, q⟩ := setI_ev q
    exact ⟨xs, n, j, hn, .inr ⟨by rw [f2.bo (e1 a), hx], hj, hr a _ _ P (f2.set i rfl) q⟩⟩)⟩)
/-! returns -/
theorem sj_ret0 {m : R D} (he : SE E w Γ m) (hl : lentΓ Γ = []) : SJ E (wSeq (wRet (wFz w)) rest) Γ m (KT pk0 false) := fun ρ P f q =>
  he ρ (fun d _ ρ1 => P.rt d false ρ1) f (ev_mono q fun d q _ ρ1 f1 => q.1 ρ1 (f1.lent.trans hl))
theorem sj_ret0F {m : R D} (he : SEF E w Γ m) (hl : lentΓ Γ = []) : SJ E (wSeq (wRet w) rest) Γ m (KT pk0 true) := fun ρ P f q =>
  he ρ _ f (ev_mono q fun d q ρ1 f1 => q.1 ρ1 (f1.lent.trans hl))
theorem sj_ret (pk : τ → D × List D) (r : α → τ) (he : SG E w Γ m v Γ1) (hl : ∀ a, pk (r a) = (v a, lentΓ (Γ1 a))) : SJ E (wSeq (wRet (wFz w)) rest) Γ (m.bind fun a => .ok (r a)) (KT pk false) := fun ρ P f q =>
  he ρ (fun d _ ρ1 => P.rt d false ρ1) f (ev_mono (ev_bind q) fun a q _ ρ1 f1 => by
    have z := q.1 ρ1 (f1.lent.trans (by rw [hl a]))
    rw [hl a] at z; exact z)
theorem sj_retF (pk : τ → D × List D) (r : α → τ) (he : SGF E w Γ m v Γ1) (hl : ∀ a, pk (r a) = (v a, lentΓ (Γ1 a))) : SJ E (wSeq (wRet w) rest) Γ (m.bind fun a => .ok (r a)) (KT pk true) := fun ρ P f q =>
  he ρ _ f (ev_mono (ev_bind q) fun a q ρ1 f1 => by
    have z := q.1 ρ1 (f1.lent.trans (by rw [hl a]))
    rw [hl a] at z; exact z)
theorem sj_retO (i : Nat) {d : D} {pk : τ → D × List D} {r : τ} (e : Γ[i]? = some (.ow d)) (hl : pk r = (d, lentΓ (Γ.set i .no))) : SJ E (wSeq (wRetV i) rest) Γ (.ok r) (KT pk true) := fun ρ P f q => by
  show wRetV i _ ρ
  unfold wRetV
  rw [f.ow e]
  have z := q.1 (ρ.set i none) ((f.set i (s := .no) rfl).lent.trans (by rw [hl]))
  rw [hl] at z; exact z
theorem sj_retN {r : τ} {pk : τ → D × List D} (hl : pk r = (.none, lentΓ Γ)) : SJ E (wSeq wRetN rest) Γ (.ok r) (KT pk false) := fun ρ P f q => by
  have z := q.1 ρ (f.lent.trans (by rw [hl]))
  rw [hl] at z; exact z
/-- within a loop -/
theorem sj_cret {Γn : σ → Fr} (pk : τ → D × List D) (r : α → τ) (he : SG E w Γ m v Γ1) (hl : ∀ a, pk (r a) = (v a, lentΓ (Γ1 a))) : SJ E (wSeq (wRet (wFz w)) rest) Γ (m.bind fun a => .ok (.rt (r a))) (KC Γn pk false) := fun ρ P f q =>
  he ρ (fun d _ ρ1 => P.rt d false ρ1) f (ev_mono (ev_bind q) fun a q _ ρ1 f1 => by
    have z := q ρ1 (f1.lent.trans (by rw [hl a]))
    rw [hl a] at z; exact z)
theorem sj_cretF {Γn : σ → Fr} (pk : τ → D × List D) (r : α → τ) (he : SGF E w Γ m v Γ1) (hl : ∀ a, pk (r a) = (v a, lentΓ (Γ1 a))) : SJ E (wSeq (wRet w) rest) Γ (m.bind fun a => .ok (.rt (r a))) (KC Γn pk true) := fun ρ P f q =>
  he ρ _ f (ev_mono (ev_bind q) fun a q ρ1 f1 => by
    have z := q ρ1 (f1.lent.trans (by rw [hl a]))
    rw [hl a] at z; exact z)
theorem sj_cretO (i : Nat) {Γn : σ → Fr} {d : D} {pk : τ → D × List D} {r : τ} (e : Γ[i]? = some (.ow d)) (hl : pk r = (d, lentΓ (Γ.set i .no))) : SJ E (wSeq (wRetV i) rest) Γ (.ok (.rt r)) (KC Γn pk true) := fun ρ P f q => by
  show wRetV i _ ρ
  unfold wRetV
  rw [f.ow e]
  have z := q (ρ.set i none) ((f.set i (s := .no) rfl).lent.trans (by rw [hl]))
  rw [hl] at z; exact z
theorem sj_cretN {Γn : σ → Fr} {r : τ} {pk : τ → D × List D} (hl : pk r = (.none, lentΓ Γ)) : SJ E (wSeq wRetN rest) Γ (.ok (.rt r)) (KC Γn pk false) := fun ρ P f q => by
  have z := q ρ (f.lent.trans (by rw [hl]))
  rw [hl] at z; exact z
/-! branches -/
def ifT (b : Bool) (x y : R γ) : R γ := if b then x else y
/-- the rest stands behind each -/
theorem sj_if {vb : α → Bool} {ka kb : α → R γ} (ht : SGT E wt Γ m vb Γ1) (ha : ∀ a, SJ E (wSeq s1 rest) (Γ1 a) (ka a) K) (hb : ∀ a, SJ E (wSeq s2 rest) (Γ1 a) (kb a) K) : SJ E (wSeq (wIfS wt s1 s2) rest) Γ (m.bind fun a => ifT (vb a) (ka a) (kb a)) K := fun ρ P f q =>
  ht ρ _ f (ev_mono (ev_bind q) fun a q ρ1 f1 => by
    cases hc : vb a with
    | true => rw [hc] at q; exact ⟨fun _ => ha a ρ1 P f1 q, (fun e => nomatch e)⟩
    | false => rw [hc] at q; exact ⟨(fun e => nomatch e), fun _ => hb a ρ1 P f1 q⟩)
/-- both meet again -/
theorem sj_ifj {vb : α → Bool} {ka kb : α → R σ} {k : σ → R γ} (Γj : σ → Fr) (ht : SGT E wt Γ m vb Γ1) (ha : ∀ a, SJ E s1 (Γ1 a) (ka a) (KN Γj)) (hb : ∀ a, SJ E s2 (Γ1 a) (kb a) (KN Γj)) (hr : ∀ a, SJ E rest (Γj a) (k a) K) :
    SJ E (wSeq (wIfS wt s1 s2) rest) Γ ((m.bind fun a => ifT (vb a) (ka a) (kb a)).bind k) K := fun ρ P f q =>
  ht ρ _ f (ev_mono (ev_bind (ev_bind q)) fun a q ρ1 f1 => by
    have go : ∀ c : σ, ev (k c) (K P) E → KN Γj { P with nx := rest P } c := fun c q ρ' f' => hr c ρ' P f' q
    cases hc : vb a with
    | true => rw [hc] at q; exact ⟨fun _ => ha a ρ1 _ f1 (ev_mono q go), (fun e => nomatch e)⟩
    | false => rw [hc] at q; exact ⟨(fun e => nomatch e), fun _ => hb a ρ1 _ f1 (ev_mono q go)⟩)
/-! loops -/
def forF (sp : D → Option β) (f : σ → β → R σ) : List D → σ → R σ
  | [], a => .ok a
  | x :: xs, a => unS sp x fun b => (f a b).bind fun a' => forF sp f xs a'
def forC (sp : D → Option β) (f : σ → β → R (Ctl σ τ)) : List D → σ → R (Ctl σ τ)
  | [], a => .ok (.nx a)
  | x :: xs, a => unS sp x fun b => (f a b).bind fun c => match c with
    | .nx a' => forC sp f xs a'
    | .ct a' => forC sp f xs a'
    | .bk a' => .ok (.nx a')
    | .rt r => .ok (.rt r)
theorem forF_go {Γh : σ → Fr} {sp : D → Option β} {up : σ → β → Fr} {f : σ → β → R σ} {body : WS} {P : Po} (hg : ∀ a, Tg g (Γh a) sp (up a)) (hb : ∀ a b, SJ E body (up a b) (f a b) (KN Γh)) :
    ∀ xs a ρ, Fits (Γh a) ρ → ev (forF sp f xs a) (fun a' => ∀ ρ', Fits (Γh a') ρ' → P.nx ρ') E → forGo g body P xs ρ
  | [], a, ρ, h, q => q ρ h
  | x :: xs, a, ρ, h, q => by
    obtain ⟨b, hx, q⟩ := unS_ev q
    exact hg a x b ρ _ h hx fun ρ1 f1 => hb a b ρ1 _ f1 (ev_mono (ev_bind q) fun a' q ρ' f' => forF_go hg hb xs a' ρ' f' q)
theorem sj_for {mi : R α} {vl : α → List D} {Γh : σ → Fr} {sp : D → Option β} {up : σ → β → Fr} {f : σ → β → R σ} {body : WS} {k : σ → R γ} (a0 : α → σ) (hi : SGI E wi Γ mi vl Γ1) (h0 : ∀ a, Le (Γ1 a) (Γh (a0 a))) (hg : ∀ a, Tg g (Γh a) sp (up a)) (hb : ∀ a b, SJ E body (up a b) (f a b) (KN Γh)) (hr : ∀ a, SJ E rest (Γh a) (k a) K) :
    SJ E (wSeq (wFor wi g body) rest) Γ (mi.bind fun x => (forF sp f (vl x) (a0 x)).bind k) K := fun ρ P h q =>
  hi ρ _ h (ev_mono (ev_bind q) fun x q ρ1 f1 => forF_go hg hb (vl x) (a0 x) ρ1 ((h0 x).fits f1) (ev_mono (ev_bind q) fun a q ρ' f' => hr a ρ' P f' q))
theorem forC_go {Γh : σ → Fr} {pk : τ → D × List D} {fr : Bool} {sp : D → Option β} {up : σ → β → Fr} {f : σ → β → R (Ctl σ τ)} {body : WS} {P : Po} (hg : ∀ a, Tg g (Γh a) sp (up a)) (hb : ∀ a b, SJ E body (up a b) (f a b) (KC Γh pk fr)) :
    ∀ xs a ρ, Fits (Γh a) ρ → ev (forC sp f xs a) (fun c => match c with
      | .rt r => ∀ ρ', lent ρ' = (pk r).2 → P.rt (pk r).1 fr ρ'
      | .nx a' => ∀ ρ', Fits (Γh a') ρ' → P.nx ρ'
      | _ => True) E → forGo g body P xs ρ
  | [], a, ρ, h, q => q ρ h
  | x :: xs, a, ρ, h, q => by
    obtain ⟨b, hx, q⟩ := unS_ev q
    refine hg a x b ρ _ h hx fun ρ1 f1 => hb a b ρ1 _ f1 (ev_mono (ev_bind q) fun c q => ?_)
    cases c with
    | nx a' => exact fun ρ' f' => forC_go hg hb xs a' ρ' f' q
    | ct a' => exact fun ρ' f' => forC_go hg hb xs a' ρ' f' q
    | bk a' => exact q
    | rt r => exact q
/-- what a loop that may return gives -/
def bindC (c : R (Ctl σ τ)) (inj : τ → γ) (k : σ → R γ) : R γ := c.bind fun x => match x with
  | .nx a => k a
  | .rt r => .ok (inj r)
  | _ => .bad
/-- K tells returns as pk does -/
def Inj (K : Po → γ → Prop) (inj : τ → γ) (pk : τ → D × List D) (fr : Bool) : Prop := ∀ P r, K P (inj r) → ∀ ρ', lent ρ' = (pk r).2 → P.rt (pk r).1 fr ρ'
theorem inj_t {pk : τ → D × List D} {fr : Bool} : Inj (KT pk fr) (fun r => r) pk fr := fun P r h => h.1
theorem inj_c {Γn : σ → Fr} {pk : τ → D × List D} {fr : Bool} : Inj (KC Γn pk fr) (fun r => .rt r) pk fr := fun P r h => h
theorem inj_e {fr : Bool} : Inj K (fun r : Empty => r.elim) pkN fr := fun P r h => r.elim
theorem bindC_ev {Γh : σ → Fr} {pk : τ → D × List D} {fr : Bool} {inj : τ → γ} {k : σ → R γ} {P : Po} (hj : Inj K inj pk fr) (hr : ∀ a, SJ E rest (Γh a) (k a) K) {c : R (Ctl σ τ)} (q : ev (bindC c inj k) (K P) E) : ev c (fun c => match c with
      | .rt r => ∀ ρ', lent ρ' = (pk r).2 → P.rt (pk r).1 fr ρ'
      | .nx a' => ∀ ρ', Fits (Γh a') ρ' → rest P ρ'
      | _ => True) E := ev_mono (ev_bind q) fun c q => by
  cases c with
  | nx a => exact fun ρ' f' => hr a ρ' P f' q
  | rt r => exact hj P r q
  | bk a => trivial
  | ct a => trivial
theorem sj_forC {mi : R α} {vl : α → List D} {Γh : σ → Fr} {pk : τ → D × List D} {fr : Bool} {inj : τ → γ} {sp : D → Option β} {up : σ → β → Fr} {f : σ → β → R (Ctl σ τ)} {body : WS} {k : σ → R γ} (a0 : α → σ) (hj : Inj K inj pk fr) (hi : SGI E wi Γ mi vl Γ1) (h0 : ∀ a, Le (Γ1 a) (Γh (a0 a))) (hg : ∀ a, Tg g (Γh a) sp (up a))
    (hb : ∀ a b, SJ E body (up a b) (f a b) (KC Γh pk fr)) (hr : ∀ a, SJ E rest (Γh a) (k a) K) : SJ E (wSeq (wFor wi g body) rest) Γ (mi.bind fun x => bindC (forC sp f (vl x) (a0 x)) inj k) K := fun ρ P h q =>
  hi ρ _ h (ev_mono (ev_bind q) fun x q ρ1 f1 => forC_go hg hb (vl x) (a0 x) ρ1 ((h0 x).fits f1) (bindC_ev hj hr q))
def FUEL : Nat := 1000000
/-- a while, of so many turns at most -/
def whileM (mt : σ → R Bool) (f : σ → R (Ctl σ τ)) : Nat → σ → R (Ctl σ τ)
  | 0, _ => .bad
  | n + 1, a => (mt a).bind fun c => if c then (f a).bind fun r => match r with
      | .nx a' => whileM mt f n a'
      | .ct a' => whileM mt f n a'
      | .bk a' => .ok (.nx a')
      | .rt r => .ok (.rt r)
    else .ok (.nx a)
theorem sj_while {Γh : σ → Fr} {pk : τ → D × List D} {fr : Bool} {inj : τ → γ} {mt : σ → R Bool} {f : σ → R (Ctl σ τ)} {body : WS} {k : σ → R γ} (n : Nat) (a0 : σ) (hj : Inj K inj pk fr) (h0 : Le Γ (Γh a0)) (ht : ∀ a, ST E wt (Γh a) (mt a)) (hb : ∀ a, SJ E body (Γh a) (f a) (KC Γh pk fr)) (hr : ∀ a, SJ E rest (Γh a) (k a) K) :
    SJ E (wSeq (wWhile wt body) rest) Γ (bindC (whileM mt f n a0) inj k) K := fun ρ P h q => by
  have q1 := bindC_ev (P := P) hj hr q
  refine ⟨fun n ρ => ∃ a, Fits (Γh a) ρ ∧ ev (whileM mt f n a) (fun c => match c with
      | .rt r => ∀ ρ', lent ρ' = (pk r).2 → P.rt (pk r).1 fr ρ'
      | .nx a' => ∀ ρ', Fits (Γh a') ρ' → rest P ρ'
      | _ => True) E, ⟨n, a0, h0.fits h, q1⟩, ?_⟩
  rintro n ρ1 ⟨a, f1, q⟩
  cases n with
  | zero => exact q.elim
  | succ n =>
    refine ht a ρ1 _ f1 (ev_mono (ev_bind q) fun c q ρ2 f2 => ?_)
    cases c with
    | false => exact ⟨(fun e => nomatch e), fun _ => q ρ2 f2⟩
    | true =>
      refine ⟨fun _ => hb a ρ2 _ f2 (ev_mono (ev_bind q) fun r q => ?_), (fun e => nomatch e)⟩
      cases r with
      | nx a' => exact fun ρ' f' => ⟨n, Nat.lt_succ_self n, a', f', q⟩
      | ct a' => exact fun ρ' f' => ⟨n, Nat.lt_succ_self n, a', f', q⟩
      | bk a' => exact q
      | rt r => exact q
end
/-! ### a def -/
def inΓ (bs : List Bool) : List D → Nat → Fr
  | [], n => List.replicate n .no
  | d :: ds, n => (if bs.headD false then .bo d else .sh d) :: inΓ bs.tail ds n
theorem fits_start : ∀ (bs : List Bool) (ds : List D) (n : Nat), Fits (inΓ bs ds n) (startE bs ds n)
  | bs, [], n => by
    show Fits (List.replicate n .no) (List.replicate n none)
    induction n with
    | zero => exact .nil
    | succ n ih => exact .cons rfl ih
  | bs, d :: ds, n => by
    refine .cons ?_ (fits_start bs.tail ds n)
    cases bs.headD false <;> rfl
section
variable {wf : (Exc → Prop) → WS} {fr : Bool} {bs : List Bool} {m : Nat}
theorem KT.of {τ : Type} {pk : τ → D × List D} {fr : Bool} {Q : D → Bool → List D → Prop} {r : τ} (q : Q (pk r).1 fr (pk r).2) : KT pk fr { nx := fun ρ => Q .none false (lent ρ), rt := fun r f ρ => Q r f (lent ρ) } r := by
  refine ⟨fun ρ' h => by show Q _ _ (lent ρ'); rw [h]; exact q, fun hf ρ' h0 h => ?_⟩
  show Q _ _ (lent ρ')
  rw [h, ← h0]
  subst hf
  exact q
theorem keeps0 {py : R D} (h : ∀ E, SJ E (wf E) (inΓ [] [] m) py (KT pk0 fr)) : Keeps (con0 fr py) [] m wf := fun ds Q E c => by
  obtain ⟨rfl, q⟩ := c
  exact ⟨rfl, h E _ _ (fits_start _ _ _) (ev_mono q fun d q => KT.of q)⟩
theorem keeps1 {py : D → R D} (h : ∀ E a, SJ E (wf E) (inΓ [false] [a] m) (py a) (KT pk0 fr)) : Keeps (con1 fr py) [false] m wf := fun ds Q E c => by
  obtain ⟨a, rfl, q⟩ := c
  exact ⟨rfl, h E a _ _ (fits_start _ _ _) (ev_mono q fun d q => KT.of q)⟩
theorem keeps2 {py : D → D → R D} (h : ∀ E a b, SJ E (wf E) (inΓ [false, false] [a, b] m) (py a b) (KT pk0 fr)) : Keeps (con2 fr py) [false, false] m wf := fun ds Q E c => by
  obtain ⟨a, b, rfl, q⟩ := c
  exact ⟨rfl, h E a b _ _ (fits_start _ _ _) (ev_mono q fun d q => KT.of q)⟩
theorem keeps3 {py : D → D → D → R D} (h : ∀ E a b c, SJ E (wf E) (inΓ [false, false, false] [a, b, c] m) (py a b c) (KT pk0 fr)) : Keeps (con3 fr py) [false, false, false] m wf := fun ds Q E c => by
  obtain ⟨a, b, c, rfl, q⟩ := c
  exact ⟨rfl, h E a b c _ _ (fits_start _ _ _) (ev_mono q fun d q => KT.of q)⟩
theorem keeps4 {py : D → D → D → D → R D} (h : ∀ E a b c d, SJ E (wf E) (inΓ [false, false, false, false] [a, b, c, d] m) (py a b c d) (KT pk0 fr)) : Keeps (con4 fr py) [false, false, false, false] m wf := fun ds Q E c => by
  obtain ⟨a, b, c, d, rfl, q⟩ := c
  exact ⟨rfl, h E a b c d _ _ (fits_start _ _ _) (ev_mono q fun d q => KT.of q)⟩
theorem keeps5 {py : D → D → D → D → D → R D} (h : ∀ E a b c d e, SJ E (wf E) (inΓ [false, false, false, false, false] [a, b, c, d, e] m) (py a b c d e) (KT pk0 fr)) : Keeps (con5 fr py) [false, false, false, false, false] m wf := fun ds Q E c => by
  obtain ⟨a, b, c, d, e, rfl, q⟩ := c
  exact ⟨rfl, h E a b c d e _ _ (fits_start _ _ _) (ev_mono q fun d q => KT.of q)⟩
theorem keeps6 {py : D → D → D → D → D → D → R D} (h : ∀ E a b c d e f, SJ E (wf E) (inΓ [false, false, false, false, false, false] [a, b, c, d, e, f] m) (py a b c d e f) (KT pk0 fr)) : Keeps (con6 fr py) [false, false, false, false, false, false] m wf := fun ds Q E c => by
  obtain ⟨a, b, c, d, e, f, rfl, q⟩ := c
  exact ⟨rfl, h E a b c d e f _ _ (fits_start _ _ _) (ev_mono q fun d q => KT.of q)⟩
theorem lkeeps1 {py : D → R (D × D)} (h : ∀ E s, SJ E (wf E) (inΓ [true] [s] m) (py s) (KT pk1 fr)) : Keeps (lcon1 fr py) [true] m wf := fun ds Q E c => by
  obtain ⟨s, rfl, q⟩ := c
  exact ⟨rfl, h E s _ _ (fits_start _ _ _) (ev_mono q fun d q => KT.of q)⟩
theorem lkeeps2 {py : D → D → R (D × D)} (h : ∀ E s a, SJ E (wf E) (inΓ [true, false] [s, a] m) (py s a) (KT pk1 fr)) : Keeps (lcon2 fr py) [true, false] m wf := fun ds Q E c => by
  obtain ⟨s, a, rfl, q⟩ := c
  exact ⟨rfl, h E s a _ _ (fits_start _ _ _) (ev_mono q fun d q => KT.of q)⟩
theorem lkeeps3 {py : D → D → D → R (D × D)} (h : ∀ E s a b, SJ E (wf E) (inΓ [true, false, false] [s, a, b] m) (py s a b) (KT pk1 fr)) : Keeps (lcon3 fr py) [true, false, false] m wf := fun ds Q E c => by
  obtain ⟨s, a, b, rfl, q⟩ := c
  exact ⟨rfl, h E s a b _ _ (fits_start _ _ _) (ev_mono q fun d q => KT.of q)⟩
theorem lkeeps4 {py : D → D → D → D → R (D × D)} (h : ∀ E s a b c, SJ E (wf E) (inΓ [true, false, false, false] [s, a, b, c] m) (py s a b c) (KT pk1 fr)) : Keeps (lcon4 fr py) [true, false, false, false] m wf := fun ds Q E c => by
  obtain ⟨s, a, b, c, rfl, q⟩ := c
  exact ⟨rfl, h E s a b c _ _ (fits_start _ _ _) (ev_mono q fun d q => KT.of q)⟩
end
end Dl
set_option maxRecDepth 100000
/-! So: the operations on data as plain functions. -/
namespace Dl
open PySem R
set_option autoImplicit false
instance (d : D) : Decidable (tame d) := inferInstanceAs (Decidable (_ ∧ _))
instance (i j : Int) : Decidable (mulOk i j) := inferInstanceAs (Decidable (_ ∨ _ ∨ _))
instance (i j : Int) : Decidable (powOk i j) := inferInstanceAs (Decidable (_ ∧ _ ∧ _))
instance (j : Int) : Decidable (fdivOk j) := inferInstanceAs (Decidable (_ ∧ _))
instance (i : Int) : Decidable (shOk i) := inferInstanceAs (Decidable (_ < _))
instance (xs : List D) (k : Int) : Decidable (repOk xs k) := inferInstanceAs (Decidable (_ ∧ _ ∧ _))
def guardR {α : Type} (p : Prop) [Decidable p] (m : R α) : R α := if p then m else .bad
theorem guard_ev {α : Type} {p : Prop} [Decidable p] {m : R α} {Q : α → Prop} {E : Exc → Prop} (q : ev (guardR p m) Q E) : p ∧ ev m Q E := by
  unfold guardR at q
  split at q
  · exact ⟨‹p›, q⟩
  · exact q.elim
theorem guard_ok {α : Type} {p : Prop} [Decidable p] (m : R α) (h : p) : guardR p m = m := if_pos h
def oLtX : O2 := fun d e Q => (∃ i j, d = .int i ∧ e = .int j ∧ Q (.bool (decide (i < j))) false) ∨ (isNo d = false ∧ tame d ∧ tame e ∧ PySem.W.alike d e = true ∧ Q (.bool (PySem.W.dataLt d e)) false)
def addM : D → D → R D
  | .int i, .int j => .ok (.int (i + j))
  | .str x, .str y => guardR (x.length + y.length ≤ LIM) (.ok (.str (x ++ y)))
  | .list xs, .list ys => guardR (xs.length + ys.length ≤ LIM) (.ok (.list (xs ++ ys)))
  | .tuple xs, .tuple ys => guardR (xs.length + ys.length ≤ LIM) (.ok (.tuple (xs ++ ys)))
  | _, _ => .bad
theorem so_add : SO2 oAdd addM := fun d e Q E q => by
  unfold addM at q
  split at q
  · exact q _
  · obtain ⟨h, q⟩ := guard_ev q; exact ⟨h, q _⟩
  · obtain ⟨h, q⟩ := guard_ev q; exact ⟨h, q _⟩
  · obtain ⟨h, q⟩ := guard_ev q; exact ⟨h, q _⟩
  · exact q.elim
def addL : D → D → R D
  | .list xs, .list ys => guardR (xs.length + ys.length ≤ LIM) (.ok (.list (xs ++ ys)))
  | _, _ => .bad
theorem so_addF : SO2F oAdd addL := fun d e Q E q => by
  unfold addL at q
  split at q
  · obtain ⟨h, q⟩ := guard_ev q; exact ⟨h, q⟩
  · exact q.elim
def subM : D → D → R D
  | .int i, .int j => .ok (.int (i - j))
  | _, _ => .bad
theorem so_sub : SO2 oSub subM := fun d e Q E q => by
  unfold subM at q
  split at q
  · exact q _
  · exact q.elim
def mulM : D → D → R D
  | .int i, .int j => guardR (mulOk i j) (.ok (.int (i * j)))
  | .list xs, .int k => guardR (repOk xs k) (.ok (.list (List.replicate k.toNat xs).flatten))
  | .tuple xs, .int k => guardR (-1000 ≤ k ∧ k * xs.length ≤ 1000000 ∧ k ≤ 1000000) (.ok (.tuple (List.replicate k.toNat xs).flatten))
  | _, _ => .bad
theorem so_mul : SO2 oMul mulM := fun d e Q E q => by
  unfold mulM at q
  split at q
  · obtain ⟨h, q⟩ := guard_ev q; exact ⟨h, q _⟩
  · obtain ⟨h, q⟩ := guard_ev q; exact ⟨h.1, h.2.1, h.2.2, q _⟩
  · obtain ⟨h, q⟩ := guard_ev q; exact ⟨h, q _⟩
  · exact q.elim
def mulL : D → D → R D
  | .list xs, .int k => guardR (repOk xs k) (.ok (.list (List.replicate k.toNat xs).flatten))
  | _, _ => .bad
theorem so_mulF : SO2F oMul mulL := fun d e Q E q => by
  unfold mulL at q
  split at q
  · obtain ⟨h, q⟩ := guard_ev q; exact ⟨h.1, h.2.1, h.2.2, q⟩
  · exact q.elim
def fdivM : D → D → R D
  | .int i, .int j => guardR (fdivOk j) (.ok (.int (i.fdiv j)))
  | _, _ => .bad
theorem so_fdiv : SO2 oFdiv fdivM := fun d e Q E q => by
  unfold fdivM at q
  split at q
  · obtain ⟨h, q⟩ := guard_ev q; exact ⟨h.1, h.2, q _⟩
  · exact q.elim
def modM : D → D → R D
  | .int i, .int j => guardR (j ≠ 0) (.ok (.int (i.fmod j)))
  | _, _ => .bad
theorem so_mod : SO2 oMod modM := fun d e Q E q => by
  unfold modM at q
  split at q
  · obtain ⟨h, q⟩ := guard_ev q; exact ⟨h, q _⟩
  · exact q.elim
def powM : D → D → R D
  | .int i, .int j => guardR (powOk i j) (.ok (.int (i ^ j.toNat)))
  | _, _ => .bad
theorem so_pow : SO2 oPow powM := fun d e Q E q => by
  unfold powM at q
  split at q
  · obtain ⟨h, q⟩ := guard_ev q; exact ⟨h, q _⟩
  · exact q.elim
def shlM : D → D → R D
  | .int i, .int j => guardR (powOk i j) (.ok (.int (i * 2 ^ j.toNat)))
  | _, _ => .bad
theorem so_shl : SO2 oShl shlM := fun d e Q E q => by
  unfold shlM at q
  split at q
  · obtain ⟨h, q⟩ := guard_ev q; exact ⟨⟨h.1, h.2.1, h.2.2⟩, q _⟩
  · exact q.elim
def shrM : D → D → R D
  | .int i, .int j => guardR (0 ≤ j) (.ok (.int (i / 2 ^ j.toNat)))
  | _, _ => .bad
theorem so_shr : SO2 oShr shrM := fun d e Q E q => by
  unfold shrM at q
  split at q
  · obtain ⟨h, q⟩ := guard_ev q; exact ⟨h, q _⟩
  · exact q.elim
def i2M (f : Int → Int → Int) : D → D → R D
  | .int i, .int j => .ok (.int (f i j))
  | _, _ => .bad
theorem so_i2 {f : Int → Int → Int} : SO2 (oI2 f) (i2M f) := fun d e Q E q => by
  unfold i2M at q
  split at q
  · exact q _
  · exact q.elim
def bandM : D → D → R D := i2M Builtin.bitAnd
def borM : D → D → R D := i2M Builtin.bitOr
def bxorM : D → D → R D := i2M Builtin.bitXor
theorem so_band : SO2 oAnd bandM := so_i2
theorem so_bor : SO2 oOr borM := so_i2
theorem so_bxor : SO2 oXor bxorM := so_i2
def negM : D → R D
  | .int i => .ok (.int (-i))
  | _ => .bad
theorem so_neg : SO1 oNeg negM := fun d Q E q => by
  unfold negM at q
  split at q
  · exact q _
  · exact q.elim
def invM : D → R D
  | .int i => .ok (.int (Builtin.bitNot i))
  | _ => .bad
theorem so_inv : SO1 oInv invM := fun d Q E q => by
  unfold invM at q
  split at q
  · exact q _
  · exact q.elim
def eqM (d e : D) : R D := guardR (tame d ∧ tame e) (.ok (.bool (PyData.eqv d e)))
theorem so_eq : SO2 oEq eqM := fun d e Q E q => by
  obtain ⟨h, q⟩ := guard_ev q; exact ⟨h.1, h.2, q _⟩
def neM (d e : D) : R D := guardR (tame d ∧ tame e) (.ok (.bool (!PyData.eqv d e)))
theorem so_ne : SO2 oNe neM := fun d e Q E q => by
  obtain ⟨h, q⟩ := guard_ev q; exact ⟨h.1, h.2, q _⟩
def ltM : D → D → R D
  | .int i, .int j => .ok (.bool (decide (i < j)))
  | d, e => guardR (isNo d = false ∧ tame d ∧ tame e ∧ PySem.W.alike d e = true) (.ok (.bool (PySem.W.dataLt d e)))
theorem so_lt : SO2 oLtX ltM := fun d e Q E q => by
  unfold ltM at q
  split at q
  · exact .inl ⟨_, _, rfl, rfl, q _⟩
  · obtain ⟨h, q⟩ := guard_ev q; exact .inr ⟨h.1, h.2.1, h.2.2.1, h.2.2.2, q _⟩
def leM : D → D → R D
  | .int i, .int j => .ok (.bool (decide (i ≤ j)))
  | _, _ => .bad
theorem so_le : SO2 oLe leM := fun d e Q E q => by
  unfold leM at q
  split at q
  · exact q _
  · exact q.elim
def gtM : D → D → R D
  | .int i, .int j => .ok (.bool (decide (j < i)))
  | _, _ => .bad
theorem so_gt : SO2 oGt gtM := fun d e Q E q => by
  unfold gtM at q
  split at q
  · exact q _
  · exact q.elim
def geM : D → D → R D
  | .int i, .int j => .ok (.bool (decide (j ≤ i)))
  | _, _ => .bad
theorem so_ge : SO2 oGe geM := fun d e Q E q => by
  unfold geM at q
  split at q
  · exact q _
  · exact q.elim
def optR {α : Type} : Option α → R α
  | some a => .ok a
  | none => .bad
theorem opt_ev {α : Type} {o : Option α} {Q : α → Prop} {E : Exc → Prop} (q : ev (optR o) Q E) : ∃ a, o = some a ∧ Q a := by
  cases o with
  | some a => exact ⟨a, rfl, q⟩
  | none => exact q.elim
def ixM : D → D → R D
  | .list xs, .int i => optR (atD xs i)
  | .tuple xs, .int i => optR (atD xs i)
  | _, _ => .bad
theorem so_ix : SO2 oIx ixM := fun d e Q E q => by
  unfold ixM at q
  split at q
  · obtain ⟨x, h, q⟩ := opt_ev q; exact ⟨x, h, q _⟩
  · obtain ⟨x, h, q⟩ := opt_ev q; exact ⟨x, h, q _⟩
  · exact q.elim
def lenM : D → R D
  | .list xs => .ok (.int xs.length)
  | .tuple xs => .ok (.int xs.length)
  | .dict [(.none, .list xs)] => .ok (.int xs.length)
  | .str z => guardR (z.length ≤ LIM) (.ok (.int z.length))
  | _ => .bad
theorem so_len : SO1 oLen lenM := fun d Q E q => by
  unfold lenM at q
  split at q
  · exact q _
  · exact q _
  · exact q _
  · obtain ⟨h, q⟩ := guard_ev q; exact ⟨h, q _⟩
  · exact q.elim
def absM : D → R D
  | .int i => .ok (.int (if i < 0 then -i else i))
  | _ => .bad
theorem so_abs : SO1 oAbs absM := fun d Q E q => by
  unfold absM at q
  split at q
  · exact q _
  · exact q.elim
def intM : D → R D
  | .int i => .ok (.int i)
  | .bool b => .ok (.int (if b then 1 else 0))
  | _ => .bad
theorem so_int : SO1 oInt intM := fun d Q E q => by
  unfold intM at q
  split at q
  · exact q _
  · exact q _
  · exact q.elim
def max2M : D → D → R D
  | .int i, .int j => .ok (.int (if j > i then j else i))
  | _, _ => .bad
theorem so_max2 : SO2 oMax2 max2M := fun d e Q E q => by
  unfold max2M at q
  split at q
  · exact q _
  · exact q.elim
def min2M : D → D → R D
  | .int i, .int j => .ok (.int (if j < i then j else i))
  | _, _ => .bad
theorem so_min2 : SO2 oMin2 min2M := fun d e Q E q => by
  unfold min2M at q
  split at q
  · exact q _
  · exact q.elim
instance (xs : List D) : Decidable (reprOk xs) := inferInstanceAs (Decidable (_ ∧ _ ∧ _))
def reprM : D → R D
  | .list xs => guardR (reprOk xs) (.ok (.str (PyData.shown (.list xs))))
  | _ => .bad
theorem so_repr : SO1 oRepr reprM := fun d Q E q => by
  unfold reprM at q
  split at q
  · obtain ⟨h, q⟩ := guard_ev q; exact ⟨h, q _⟩
  · exact q.elim
def strM : D → R D
  | .int i => guardR (shOk i) (.ok (.str (txt i)))
  | .str x => .ok (.str x)
  | _ => .bad
theorem so_str : SO1 oStr strM := fun d Q E q => by
  unfold strM at q
  split at q
  · obtain ⟨h, q⟩ := guard_ev q; exact ⟨h, q _⟩
  · exact q _
  · exact q.elim
def boolsOf : List D → Option (List Bool)
  | [] => some []
  | .bool b :: xs => (boolsOf xs).map (b :: ·)
  | _ => none
theorem boolsOf_eq : ∀ {xs : List D} {bs : List Bool}, boolsOf xs = some bs → xs = bs.map .bool
  | [], bs, h => by cases h; rfl
  | x :: xs, bs, h => by
    cases x with
    | bool b =>
      simp only [boolsOf, Option.map_eq_some_iff] at h
      obtain ⟨cs, hc, rfl⟩ := h
      rw [boolsOf_eq hc]; rfl
    | _ => cases h
theorem boolsOf_map : ∀ bs : List Bool, boolsOf (bs.map .bool) = some bs
  | [] => rfl
  | b :: bs => by simp [boolsOf, boolsOf_map bs]
def intsOf : List D → Option (List Int)
  | [] => some []
  | .int b :: xs => (intsOf xs).map (b :: ·)
  | _ => none
theorem intsOf_eq : ∀ {xs : List D} {bs : List Int}, intsOf xs = some bs → xs = bs.map .int
  | [], bs, h => by cases h; rfl
  | x :: xs, bs, h => by
    cases x with
    | int b =>
      simp only [intsOf, Option.map_eq_some_iff] at h
      obtain ⟨cs, hc, rfl⟩ := h
      rw [intsOf_eq hc]; rfl
    | _ => cases h
theorem intsOf_map : ∀ bs : List Int, intsOf (bs.map .int) = some bs
  | [] => rfl
  | b :: bs => by simp [intsOf, intsOf_map bs]
def allM : D → R D
  | .list xs => (optR (boolsOf xs)).bind fun bs => .ok (.bool (bs.all id))
  | _ => .bad
def anyM : D → R D
  | .list xs => (optR (boolsOf xs)).bind fun bs => .ok (.bool (bs.any id))
  | _ => .bad
theorem so_all : SO1 oAll allM := fun d Q E q => by
  unfold allM at q
  split at q
  · obtain ⟨bs, h, q⟩ := opt_ev (ev_bind q); exact ⟨bs, by rw [boolsOf_eq h], q _⟩
  · exact q.elim
theorem so_any : SO1 oAny anyM := fun d Q E q => by
  unfold anyM at q
  split at q
  · obtain ⟨bs, h, q⟩ := opt_ev (ev_bind q); exact ⟨bs, by rw [boolsOf_eq h], q _⟩
  · exact q.elim
def sumM (d : D) : R D := (optR (seqD d)).bind fun xs => (optR (intsOf xs)).bind fun ns => .ok (.int ns.sum)
theorem seqD_eq {d : D} {xs : List D} (h : seqD d = some xs) : d = .list xs ∨ d = .tuple xs := by
  cases d with
  | list ys => cases h; exact .inl rfl
  | tuple ys => cases h; exact .inr rfl
  | _ => cases h
theorem so_sum : SO1 oSum sumM := fun d Q E q => by
  obtain ⟨xs, h, q⟩ := opt_ev (ev_bind q)
  obtain ⟨ns, h2, q⟩ := opt_ev (ev_bind q)
  refine ⟨ns, ?_, q _⟩
  rw [← intsOf_eq h2]; exact seqD_eq h
def inM (d e : D) : R D := (optR (seqD e)).bind fun xs => guardR (tame d ∧ tame e) (.ok (.bool (xs.any fun z => PyData.eqv z d)))
theorem so_in : SO2 oIn inM := fun d e Q E q => by
  obtain ⟨xs, h, q⟩ := opt_ev (ev_bind q)
  obtain ⟨h2, q⟩ := guard_ev q
  exact ⟨xs, seqD_eq h, h2.1, h2.2, q _⟩
def ninM (d e : D) : R D := (optR (seqD e)).bind fun xs => guardR (tame d ∧ tame e) (.ok (.bool (!xs.any fun z => PyData.eqv z d)))
theorem so_nin : SO2 oNotIn ninM := fun d e Q E q => by
  obtain ⟨xs, h, q⟩ := opt_ev (ev_bind q)
  obtain ⟨h2, q⟩ := guard_ev q
  exact ⟨xs, seqD_eq h, h2.1, h2.2, q _⟩
def tupleM (d : D) : R D := (optR (seqD d)).bind fun xs => .ok (.tuple xs)
theorem so_tuple : SO1 oTuple tupleM := fun d Q E q => by
  obtain ⟨xs, h, q⟩ := opt_ev (ev_bind q)
  exact ⟨xs, seqD_eq h, q _⟩
def listM (d : D) : R D := (optR (seqD d)).bind fun xs => .ok (.list xs)
theorem so_list : SO1F oList listM := fun d Q E q => by
  obtain ⟨xs, h, q⟩ := opt_ev (ev_bind q)
  exact ⟨xs, seqD_eq h, q⟩
def allAlikeB (xs : List D) : Bool := xs.all fun x => xs.all fun y => PySem.W.alike x y
theorem allAlikeB_of {xs : List D} (h : allAlikeB xs = true) : PySem.W.AllAlike xs := fun x hx y hy => by
  simp only [allAlikeB, List.all_eq_true] at h
  exact h x hx y hy
def alikeAllB (xs : List D) : Bool := allAlikeB xs && xs.all fun x => !isNo x
theorem alikeAllB_of {xs : List D} (h : alikeAllB xs = true) : PySem.W.AlikeAll xs := by
  simp only [alikeAllB, Bool.and_eq_true] at h
  refine ⟨fun x hx y hy => allAlikeB_of h.1 x hx y hy, fun x hx e => ?_⟩
  have := (List.all_eq_true.mp h.2) x hx
  rw [e] at this
  cases this
def isTup1 : D → Bool
  | .tuple (_ :: _) => true
  | _ => false
def isTup : D → Bool
  | .tuple _ => true
  | _ => false
def sortableB (xs : List D) : Bool := (xs.all isTup1) || xs.all fun x => !isNo x && !isTup x
theorem sortableB_of {xs : List D} (h : sortableB xs = true) : PySem.W.Sortable xs := by
  simp only [sortableB, Bool.or_eq_true, List.all_eq_true] at h
  rcases h with h | h
  · refine .inl fun d hd => ?_
    have z := h d hd
    match d, z with
    | .tuple (x :: r), _ => exact ⟨x, r, rfl⟩
  · refine .inr fun d hd => ?_
    have z := h d hd
    simp only [Bool.and_eq_true, Bool.not_eq_true'] at z
    refine ⟨fun e => ?_, fun ys e => ?_⟩
    · rw [e] at z; cases z.1
    · rw [e] at z; cases z.2
def minM (d : D) : R D := (optR (seqD d)).bind fun xs => match xs with
  | [] => .bad
  | x :: xs => guardR (tame d ∧ alikeAllB (x :: xs) = true) (.ok (PySem.W.minD x xs))
theorem so_min : SO1 oMin minM := fun d Q E q => by
  obtain ⟨xs, h, q⟩ := opt_ev (ev_bind q)
  cases xs with
  | nil => exact q.elim
  | cons x xs =>
    obtain ⟨h2, q⟩ := guard_ev q
    exact ⟨x, xs, seqD_eq h, h2.1, alikeAllB_of h2.2, q _⟩
def maxM (d : D) : R D := (optR (seqD d)).bind fun xs => match xs with
  | [] => .bad
  | x :: xs => guardR (tame d ∧ alikeAllB (x :: xs) = true) (.ok (PySem.W.maxD x xs))
theorem so_max : SO1 oMax maxM := fun d Q E q => by
  obtain ⟨xs, h, q⟩ := opt_ev (ev_bind q)
  cases xs with
  | nil => exact q.elim
  | cons x xs =>
    obtain ⟨h2, q⟩ := guard_ev q
    exact ⟨x, xs, seqD_eq h, h2.1, alikeAllB_of h2.2, q _⟩
def sortedM : D → R D
  | .list xs => guardR (tame (.list xs) ∧ allAlikeB xs = true ∧ sortableB xs = true) (.ok (.list (sortD xs)))
  | _ => .bad
theorem so_sorted : SO1F oSorted sortedM := fun d Q E q => by
  unfold sortedM at q
  split at q
  · obtain ⟨h, q⟩ := guard_ev q
    exact ⟨_, rfl, h.1, allAlikeB_of h.2.1, sortableB_of h.2.2, q⟩
  · exact q.elim
/-- sorted(x, key=lambda row: (len(row), row)), over tuples -/
def keyLR : D → D
  | .tuple xs => .tuple [.int xs.length, .tuple xs]
  | d => d
def isInt : D → Bool
  | .int _ => true
  | _ => false
/-- a tuple of ints -/
def isTupI : D → Bool
  | .tuple xs => xs.all isInt
  | _ => false
def oSortLR : O1 := fun d Q => ∃ xs, d = .list xs ∧ xs.all isTupI = true ∧ Q (.list (xs.mergeSort (PySem.W.dataLe false keyLR))) true
def sortLRM : D → R D
  | .list xs => guardR (xs.all isTupI = true) (.ok (.list (xs.mergeSort (PySem.W.dataLe false keyLR))))
  | _ => .bad
theorem so_sortLR : SO1F oSortLR sortLRM := fun d Q E q => by
  unfold sortLRM at q
  split at q
  · obtain ⟨h, q⟩ := guard_ev q
    exact ⟨_, rfl, h, q⟩
  · exact q.elim
def isNM (d e : D) : R D := if isNo e then .ok (.bool (isNo d)) else .bad
theorem isNo_eq {e : D} (h : isNo e = true) : e = .none := by cases e <;> first | rfl | cases h
theorem so_isN : SO2 oIsN isNM := fun d e Q E q => by
  unfold isNM at q
  split at q
  · exact ⟨isNo_eq ‹_›, q _⟩
  · exact q.elim
def notNM (d e : D) : R D := if isNo e then .ok (.bool (!isNo d)) else .bad
theorem so_notN : SO2 oNotN notNM := fun d e Q E q => by
  unfold notNM at q
  split at q
  · exact ⟨isNo_eq ‹_›, q _⟩
  · exact q.elim
def cutM (lo hi : Option Int) : D → R D
  | .list xs => .ok (.list (cutD xs lo hi))
  | .tuple xs => .ok (.tuple (cutD xs lo hi))
  | .dict [(.none, .list xs)] => .ok (.list (cutD xs lo hi))
  | _ => .bad
def cutL (lo hi : Option Int) : D → R D
  | .list xs => .ok (.list (cutD xs lo hi))
  | .dict [(.none, .list xs)] => .ok (.list (cutD xs lo hi))
  | _ => .bad
theorem cut_ev {lo hi : Option Int} {d : D} {Q : D → Bool → Prop} {E : Exc → Prop} (q : ev (cutM lo hi d) (fun r => ∀ f, Q r f) E) : oCut lo hi d Q := by
  unfold cutM at q
  split at q
  · exact q _
  · exact q _
  · exact q _
  · exact q.elim
theorem cutL_ev {lo hi : Option Int} {d : D} {Q : D → Bool → Prop} {E : Exc → Prop} (q : ev (cutL lo hi d) (fun r => Q r true) E) : oCut lo hi d Q := by
  unfold cutL at q
  split at q
  · exact q
  · exact q
  · exact q.elim
/-! parts of a sequence -/
def SP (E : Exc → Prop) (w : WP) (Γ : Fr) (m : R (Option Int)) : Prop := ∀ ρ Q, Fits Γ ρ → ev m (fun b => ∀ ρ', Fits Γ ρ' → Q b ρ') E → w ρ Q
def asI : D → R (Option Int)
  | .int i => .ok (some i)
  | _ => .bad
section
variable {E : Exc → Prop} {w wa wb : WE} {wl wh : WP} {Γ : Fr} {m ma : R D} {ml mh : R (Option Int)}
theorem sp_n : SP E pN Γ (.ok none) := fun ρ Q f q => q ρ f
theorem sp_s (h : SE E w Γ m) : SP E (pS w) Γ (m.bind asI) := fun ρ Q f q => h ρ _ f (ev_mono (ev_bind q) fun d q _ ρ1 f1 => by
  cases d <;> first | exact ⟨_, rfl, q ρ1 f1⟩ | exact q.elim)
def slM (ma : R D) (ml mh : R (Option Int)) : R D := ma.bind fun d => ml.bind fun l => mh.bind fun h => cutM l h d
def slL (ma : R D) (ml mh : R (Option Int)) : R D := ma.bind fun d => ml.bind fun l => mh.bind fun h => cutL l h d
theorem se_sl (ha : SE E wa Γ ma) (hl : SP E wl Γ ml) (hh : SP E wh Γ mh) : SE E (wSl wa wl wh) Γ (slM ma ml mh) := fun ρ Q f q =>
  ha ρ _ f (ev_mono (ev_bind q) fun d q _ ρ1 f1 => hl ρ1 _ f1 (ev_mono (ev_bind q) fun l q ρ2 f2 => hh ρ2 _ f2 (ev_mono (ev_bind q) fun h q ρ3 f3 => cut_ev (ev_mono q fun r q f => q f ρ3 f3))))
theorem sef_sl (ha : SE E wa Γ ma) (hl : SP E wl Γ ml) (hh : SP E wh Γ mh) : SEF E (wSl wa wl wh) Γ (slL ma ml mh) := fun ρ Q f q =>
  ha ρ _ f (ev_mono (ev_bind q) fun d q _ ρ1 f1 => hl ρ1 _ f1 (ev_mono (ev_bind q) fun l q ρ2 f2 => hh ρ2 _ f2 (ev_mono (ev_bind q) fun h q ρ3 f3 => cutL_ev (ev_mono q fun r q => q ρ3 f3))))
end

abbrev bitsB (n : Nat) (ns : List Int) : Prop := ns.length ≤ n ∧ ∀ z ∈ ns, Builtin.Int.intBits z ≤ 1048576
end Dl
set_option maxRecDepth 100000
set_option maxHeartbeats 1000000
/-! DsV: more words: freezing, < of data, enumerate, chains of three, module constants. -/
namespace Dl
open PySem PySem.Spec PyProof.Rows L2
set_option autoImplicit false
/-! ### freezing -/
section
variable {K : PySem.W.Frag} {EA : EAT} {E : Exc → Prop} {EH : XK} {te : TE} {w : WE} {ts : TS} {ws : WS}
theorem sim_fz (s : SimE K EA E EH te w) : SimE K EA E EH te (wFz w) := fun G xa ρ F σ H R Qd Q h k =>
  s.run xa R (Qd := fun d ρ1 => Qd d false ρ1) h fun d ρ' v F' H' q R' sf a => k d false ρ' v F' H' q R' sf (Res.at a)
theorem sim_pre (is : List Nat) (s : SimS K EA E EH ts ws) : SimS K EA E EH ts (wPre is ws) := fun G xa ρ F σ H R P Dn h L => by
  obtain ⟨F', R', _⟩ := R.fzs is
  exact s G xa _ F' σ H R' P Dn h L
theorem sim_fzN (is : List Nat) : SimS K EA E EH tNext (wFzN is) := fun G xa ρ F σ H R P Dn h L => by
  obtain ⟨F', R', _⟩ := R.fzs is
  exact L.nx _ F' σ H h R'
variable {X : Cx} {e : Expr} {st : Stmt}
theorem de_fz (h : DE X EA E EH e w) : DE X EA E EH e (wFz w) := by
  obtain ⟨t, p, s⟩ := h.ex
  exact ⟨t, p, sim_fz s⟩
theorem ds_pre (is : List Nat) (h : DS X EA E EH st ws) : DS X EA E EH st (wPre is ws) := by
  obtain ⟨t, p, s⟩ := h.ex
  exact ⟨t, p, sim_pre is s⟩
theorem dss_nz (is : List Nat) : DSs X EA E EH [] (wFzN is) := ⟨_, pss_nil, sim_fzN is⟩
end
/-! ### < of data -/
def rLtP (K : PySem.W.Frag) : R2 := fun x y H Q => ∃ d e, Dp K H x d ∧ Dp K H y e ∧ isNo d = false ∧ tame d ∧ tame e ∧ PySem.W.alike d e = true ∧ Q (.bl (PySem.W.dataLt d e)) H
theorem op_ltP {X : Cx} (hu : X.A.units + 64 < cLine) : OpR X (compareOp .Lt) (rLtP X.K) := fun pins s σ H x y v u Q I rx ry h => by
  obtain ⟨d, e, hd, he, hn, sd, se, al, q⟩ := h
  obtain ⟨as, r1⟩ := Dp.reads I d x v hd rx
  obtain ⟨bs, r2⟩ := Dp.reads I e y u he ry
  exact PySem.W.lt_data r1 r2 al (fun z => by rw [z] at hn; cases hn) (tame_room hu sd) ⟨.bl _, H, I, rfl, q⟩
def rLtX (K : PySem.W.Frag) : R2 := fun x y H Q => (rI0 fun i j => .bl (decide (i < j))) x y H Q ∨ rLtP K x y H Q
theorem op_ltX {X : Cx} (hu : X.A.units + 64 < cLine) : OpR X (compareOp .Lt) (rLtX X.K) := OpR.or op_lt (op_ltP hu)
theorem sv_ltX {K : PySem.W.Frag} : SimV2 K (rLtX K) oLtX := fun F H v u d e Qd Q sub p q ho k => by
  rcases ho with ⟨i, j, rfl, rfl, h⟩ | ⟨hn, sd, se, al, h⟩
  · exact .inl (sv_lt F H v u (.int i) (.int j) Qd Q sub p q h k)
  · exact .inr ⟨d, e, p.dp sub sd.1, q.dp sub se.1, hn, sd, se, al, k _ false _ F H h (Gr.same sub) (New.at (.bl _))⟩
/-! ### enumerate -/
theorem enumD_get : ∀ {ds : List D} {k i : Nat} {d : D}, (enumD k ds)[i]? = some d → ∃ x, ds[i]? = some x ∧ d = .tuple [.int ((k + i : Nat) : Int), x]
  | [], _, _, _, h => by simp [enumD] at h
  | x :: ds, k, 0, d, h => ⟨x, rfl, by simpa [enumD] using h.symm⟩
  | x :: ds, k, i + 1, d, h => by
    simp only [enumD, List.getElem?_cons_succ] at h
    obtain ⟨y, h1, h2⟩ := enumD_get h
    exact ⟨y, by simpa using h1, by rw [h2, show k + 1 + i = k + (i + 1) by omega]⟩
theorem enumD_len : ∀ (k : Nat) (ds : List D), (enumD k ds).length = ds.length
  | _, [] => rfl
  | k, x :: ds => by simp [enumD, enumD_len (k + 1) ds]
section
variable {K : PySem.W.Frag} {F : Hp}
theorem walks_enum {a : Addr} {xs : List V} {ds : List D} (sa : SqL K F a xs) (la : AtL K F xs ds) : Walks K F (enumD 0 ds) (Ite K a) := by
  refine ⟨fun i H e h => ?_, fun i H e h => ⟨xs, e.seqL sa, ?_⟩, fun i H v H' e y d hd F1 e1 e2 => ?_⟩
  · rw [enumD_len] at h
    have h1 : i < xs.length := by rw [la.length]; omega
    exact ⟨xs, xs[i], e.seqL sa, List.getElem?_eq_getElem h1⟩
  · rw [enumD_len] at h
    rw [la.length]; omega
  · obtain ⟨T, x, rfl, hT, rfl, fx⟩ := y
    obtain ⟨dx, h1, rfl⟩ := enumD_get hd
    obtain ⟨vx, e3, ax⟩ := la.getD h1
    have q1 : some x = some vx := (fx xs (e.seqL sa)).symm.trans e3
    cases q1
    have g := Gr.new (o := .tup [.int ((i : Nat) : Int), x]) e2 hT
    rw [Nat.zero_add]
    exact ⟨_, g, .tup (.inl (.inl upd_same)) (.cons (.int _) (.cons ((ax.mono e1).mono g.ff) .nil)) (by show 2 ≤ LIM; decide)⟩
end
section
variable {X : Cx} {EA : EAT} {E : Exc → Prop} {EH : XK} {a : Expr} {wa : WE} {pos p tpos : Pos}
theorem di_enum {elts : List Expr} {kk : Nat} (hg : Gl X "enumerate") (hm : X.mg "enumerate" = none) (ha : DE X EA E EH a wa) (hs : starEach [a] X.env = [(false, eval a X.env)] := by rfl) :
    DI X EA E EH (.Tuple elts kk tpos) (.Call (.Name "enumerate" p) [a] [] pos) (itE wa) := by
  obtain ⟨ta, pa, sa⟩ := ha.ex
  refine ⟨_, pi_enum hg hm (pa_cons pa pa_nil hs) hs, fun G xa ρ F σ H R Qd Q h k => ?_⟩
  refine sa.run xa R (Qd := fun d ρ1 => ∃ xs, d = .list xs ∧ Qd (enumD 0 xs) ρ1) h fun d ρ1 v F1 H1 h1 R1 s1 a1 => ?_
  obtain ⟨ds, rfl, q⟩ := h1
  cases a1 with
  | lst ea la _ => exact ⟨_, _, rfl, .inl (.inl (R1.sub _ _ ea)), k _ ρ1 F1 H1 _ q R1 s1 (walks_enum (.inl (.inl ea)) la)⟩
end
/-! ### y = [..], not changed any more -/
section
variable {X : Cx} {EA : EAT} {E : Exc → Prop} {EH : XK} {elt tg iter : Expr} {ifs : List Expr} {scope : Scope} {pos spos py : Pos} {wi : WI} {wg : WG} {wt : WT} {w : WE} {g : TG}
theorem ds_setLcZ (i : Nat) (own : List (Str × Nat)) {y : Str} (hc : X.calm = true) (hN : X.N.Nodup) (hi : DI X EA E EH tg iter wi) (ok : BlkOk X.N X.env.scope scope own)
    (hg : ∀ (s : Shared) (H : Hp) (C : Addr) (cl : List (Str × Addr)) (fp : List Addr), DV (X.blk s H scope (compEnvC scope cl C X.env) fp) EA tg (own.map (·.2)) g wg)
    (ht : ∀ (s : Shared) (H : Hp) (C : Addr) (cl : List (Str × Addr)) (fp : List Addr), DTs (X.blk s H scope (compEnvC scope cl C X.env) fp) EA E0d E0 ifs wt)
    (he : ∀ (s : Shared) (H : Hp) (C : Addr) (cl : List (Str × Addr)) (fp : List Addr), DE (X.blk s H scope (compEnvC scope cl C X.env) fp) EA E0d E0 elt w)
    (hsw : swapsWith (.ListComp elt [⟨tg, iter, ifs, 0⟩] scope pos) (some (.Name y py)) spos.line X.env = pure true) (hy : X.N[i]? = some y := by rfl) (hl : X.env.scope.names.lookup y = some .local := by rfl)
    (hs : ∀ x, foldedSetIterable iter X.env x = pure x := by intro _; rfl) : DS X EA E EH (.Assign [.Name y py] (.ListComp elt [⟨tg, iter, ifs, 0⟩] scope pos) spos) (wAsg (wFz (wLc wi wg wt w (own.map (·.2)))) (gN i)) := by
  obtain ⟨tl, p, s, q⟩ := de_lc (pos := pos) own hc hN hi ok hg ht he hs
  exact ⟨_, q hy hl hsw, sim_asg (sim_fz s) sim_gN⟩
end
/-! ### a op b op' c op'' d -/
def wChain3 (o o' o'' : O2) (a b c e : WE) : WE := fun ρ Q => a ρ fun x _ ρ1 => b ρ1 fun y _ ρ2 => o x y fun r _ => ∃ k, r = .bool k ∧
  (k = true → c ρ2 fun z _ ρ3 => o' y z fun r' _ => ∃ k', r' = .bool k' ∧ (k' = true → e ρ3 fun u _ ρ4 => o'' z u fun r'' f'' => Q r'' f'' ρ4) ∧ (k' = false → Q (.bool false) false ρ3)) ∧ (k = false → Q (.bool false) false ρ2)
def tChain3 (r r' r'' : R2) (ta tb tc td : TE) : TE := fun σ H Q => ta σ H fun x H1 => tb σ H1 fun y H2 => r x y H2 fun z H3 => ∃ k, z = .bl k ∧
  (if k = true then tc σ H3 fun w' H4 => r' y w' H4 fun z' H5 => ∃ k', z' = .bl k' ∧ (if k' = true then td σ H5 fun w'' H6 => r'' w' w'' H6 Q else Q (.bl false) H5) else Q (.bl false) H3)
section
variable {K : PySem.W.Frag} {EA : EAT} {E : Exc → Prop} {EH : XK} {ta tb tc td : TE} {wa wb wc wd : WE} {r r' r'' : R2} {o o' o'' : O2}
theorem sim_chain3 (sa : SimE K EA E EH ta wa) (sb : SimE K EA E EH tb wb) (sc : SimE K EA E EH tc wc) (sd : SimE K EA E EH td wd) (so : SimV2 K r o) (so' : SimV2 K r' o') (so'' : SimV2 K r'' o'') : SimE K EA E EH (tChain3 r r' r'' ta tb tc td) (wChain3 o o' o'' wa wb wc wd) := fun G xa ρ F σ H R Qd Q h k =>
  sa.run xa R (Qd := fun d ρ1 => wb ρ1 fun y _ ρ2 => o d y fun r _ => ∃ k, r = .bool k ∧ (k = true → wc ρ2 fun z _ ρ3 => o' y z fun r' _ => ∃ k', r' = .bool k' ∧ (k' = true → wd ρ3 fun u _ ρ4 => o'' z u fun r'' f'' => Qd r'' f'' ρ4) ∧ (k' = false → Qd (.bool false) false ρ3)) ∧ (k = false → Qd (.bool false) false ρ2)) h fun d ρ1 v F1 H1 h1 R1 s1 a1 =>
    sb.run xa R1 (Qd := fun y ρ2 => o d y fun r _ => ∃ k, r = .bool k ∧ (k = true → wc ρ2 fun z _ ρ3 => o' y z fun r' _ => ∃ k', r' = .bool k' ∧ (k' = true → wd ρ3 fun u _ ρ4 => o'' z u fun r'' f'' => Qd r'' f'' ρ4) ∧ (k' = false → Qd (.bool false) false ρ3)) ∧ (k = false → Qd (.bool false) false ρ2)) h1 fun e ρ2 u F2 H2 h2 R2 s2 a2 =>
      so F2 H2 v u d e _ _ R2.sub (.at (a1.mono s2)) (.at a2) h2 fun x f z F3 H3 q g n => by
        obtain ⟨c, rfl, p1, p2⟩ := q
        have R3 := R2.grow g
        refine ⟨c, (n.res R2 g).bool, ?_⟩
        cases c with
        | false =>
          rw [if_neg Bool.false_ne_true]
          exact k _ false ρ2 _ F3 H3 (p2 rfl) R3 ((s1.trans s2).trans g.ff) (Res.at (.bl false))
        | true =>
          rw [if_pos rfl]
          refine sc.run xa R3 (Qd := fun z ρ3 => o' e z fun r' _ => ∃ k', r' = .bool k' ∧ (k' = true → wd ρ3 fun u _ ρ4 => o'' z u fun r'' f'' => Qd r'' f'' ρ4) ∧ (k' = false → Qd (.bool false) false ρ3)) (p1 rfl) fun e4 ρ4 u4 F4 H4 h4 R4 s4 a4 =>
            so' F4 H4 u u4 e e4 _ _ R4.sub (.at ((a2.mono g.ff).mono s4)) (.at a4) h4 fun x f z F5 H5 q g5 n => ?_
          obtain ⟨c, rfl, p1, p2⟩ := q
          have R5 := R4.grow g5
          have s15 := (((s1.trans s2).trans g.ff).trans s4).trans g5.ff
          refine ⟨c, (n.res R4 g5).bool, ?_⟩
          cases c with
          | false =>
            rw [if_neg Bool.false_ne_true]
            exact k _ false ρ4 _ F5 H5 (p2 rfl) R5 s15 (Res.at (.bl false))
          | true =>
            rw [if_pos rfl]
            exact sd.run xa R5 (Qd := fun g ρ3 => o'' e4 g fun r' f' => Qd r' f' ρ3) (p1 rfl) fun e6 ρ6 u6 F6 H6 h6 R6 s6 a6 =>
              so'' F6 H6 u4 u6 e4 e6 _ Q R6.sub (.at ((a4.mono g5.ff).mono s6)) (.at a6) h6 fun x f z F7 H7 q g7 n => k x f ρ6 z F7 H7 q (R6.grow g7) ((s15.trans s6).trans g7.ff) (n.res R6 g7)
end
section
variable {X : Cx} {EA : EAT} {E : Exc → Prop} {EH : XK} {a b c e : Expr} {wa wb wc we : WE} {pos : Pos} {op op' op'' : CmpOp} {r r' r'' : R2} {o o' o'' : O2}
theorem pe_chain3 {ta tb tc td : TE} (ho : OpR X (compareOp op) r) (ho' : OpR X (compareOp op') r') (ho'' : OpR X (compareOp op'') r'') (ha : PE X a ta) (hb : PE X b tb) (hc : PE X c tc) (hd : PE X e td)
    (hm : lastMarks [op, op', op''] [b, c, e] = false := by with_unfolding_all rfl) : PE X (.Compare a [op, op', op''] [b, c, e] pos) (tChain3 r r' r'' ta tb tc td) := by
  refine ⟨fun pins s σ H Q I h => ?_⟩
  refine Compare_chain (thn (ha.run pins s σ H _ I h) fun v s1 ⟨x, H1, I1, r1, q1⟩ => chain_link (thn (hb.run pins s1 σ H1 _ I1 q1) fun u s2 ⟨y, H2, I2, r2, q2⟩ =>
    thn (ho pins s2 σ H2 x y v u _ I2 r1 r2 q2) fun d s3 ⟨z, H3, I3, r3, k, e3, q3⟩ => ?_)) hm
  subst e3
  cases r3
  refine wpAny_truthy_bool ?_
  cases k with
  | false => exact ite_ff ⟨.bl false, H3, I3, rfl, q3⟩
  | true =>
    refine ite_tt (chain_link (thn (hc.run pins s3 σ H3 _ I3 q3) fun w' s4 ⟨z', H4, I4, r4, q4⟩ => thn (ho' pins s4 σ H4 y z' u w' _ I4 r2 r4 q4) fun d s5 ⟨z5, H5, I5, r5, k, e5, q5⟩ => ?_))
    subst e5
    cases r5
    refine wpAny_truthy_bool ?_
    cases k with
    | false => exact ite_ff ⟨.bl false, H5, I5, rfl, q5⟩
    | true => exact ite_tt (chain_last (thn (hd.run pins s5 σ H5 _ I5 q5) fun w'' s6 ⟨z6, H6, I6, r6, q6⟩ => ho'' pins s6 σ H6 z' z6 w' w'' Q I6 r4 r6 q6))
theorem de_chain3 (ho : OpR X (compareOp op) r) (so : SimV2 X.K r o) (ho' : OpR X (compareOp op') r') (so' : SimV2 X.K r' o') (ho'' : OpR X (compareOp op'') r'') (so'' : SimV2 X.K r'' o'') (ha : DE X EA E EH a wa) (hb : DE X EA E EH b wb) (hc : DE X EA E EH c wc) (hd : DE X EA E EH e we)
    (hm : lastMarks [op, op', op''] [b, c, e] = false := by with_unfolding_all rfl) : DE X EA E EH (.Compare a [op, op', op''] [b, c, e] pos) (wChain3 o o' o'' wa wb wc we) := by
  obtain ⟨ta, pa, sa⟩ := ha.ex
  obtain ⟨tb, pb, sb⟩ := hb.ex
  obtain ⟨tc, pc, sc⟩ := hc.ex
  obtain ⟨td, pd, sd⟩ := hd.ex
  exact ⟨_, pe_chain3 ho ho' ho'' pa pb pc pd hm, sim_chain3 sa sb sc sd so so' so''⟩
/-! ### a constant of the module -/
theorem de_glob {x : Str} {v : V} {u : Value} {d : D} {p : Pos} (hg : Gl X x) (hm : X.mg x = some u) (r : RelV v u) (ha : ∀ F : Hp, At X.K F v d) (hd : (x == ("__debug__" : Str)) = false := by decide) : DE X EA E EH (.Name x p) (wC d) :=
  ⟨_, pe_glob hg hm r hd, fun G xa ρ F σ H R Qd Q h k => k d false ρ v F H h R (Sub.refl F) (Res.at (ha F))⟩
end
/-- chains as plain functions -/
def chain3M (o o' o'' : D → D → R D) (a b c d : R D) : R D := a.bind fun x => b.bind fun y => (tvM (o x y)).bind fun k => if k then c.bind fun z => (tvM (o' y z)).bind fun k => if k then d.bind fun u => o'' z u else .ok (.bool false) else .ok (.bool false)
theorem se_chain3 {E : Exc → Prop} {Γ : Fr} {wa wb wc wd : WE} {ma mb mc md : R D} {o o' o'' : O2} {g g' g'' : D → D → R D} (so : SO2 o g) (so' : SO2 o' g') (so'' : SO2 o'' g'') (ha : SE E wa Γ ma) (hb : SE E wb Γ mb) (hc : SE E wc Γ mc) (hd : SE E wd Γ md) :
    SE E (wChain3 o o' o'' wa wb wc wd) Γ (chain3M g g' g'' ma mb mc md) := fun ρ Q f q =>
  ha ρ _ f (ev_mono (ev_bind q) fun d q _ ρ1 f1 => hb ρ1 _ f1 (ev_mono (ev_bind q) fun e q _ ρ2 f2 => so d e _ E (ev_mono (ev_tv q) fun r q _ => by
    obtain ⟨k, rfl, q⟩ := q
    cases k with
    | false => exact ⟨false, rfl, (fun e => nomatch e), fun _ => q false ρ2 f2⟩
    | true =>
      refine ⟨true, rfl, fun _ => hc ρ2 _ f2 (ev_mono (ev_bind q) fun g q _ ρ3 f3 => so' e g _ E (ev_mono (ev_tv q) fun r q _ => ?_)), (fun e => nomatch e)⟩
      obtain ⟨k, rfl, q⟩ := q
      cases k with
      | false => exact ⟨false, rfl, (fun e => nomatch e), fun _ => q false ρ3 f3⟩
      | true => exact ⟨true, rfl, fun _ => hd ρ3 _ f3 (ev_mono (ev_bind q) fun u q _ ρ4 f4 => so'' g u _ E (ev_mono q fun r q f => q f ρ4 f4)), (fun e => nomatch e)⟩)))
end Dl
set_option maxRecDepth 100000
set_option maxHeartbeats 1000000
/-! DsW: sorted(x, key=lambda row: (len(row), row)). -/
namespace Dl
open PySem PySem.Spec PyProof.Rows L2 LamX
set_option autoImplicit false
abbrev bodyLR (p1 p2 p3 p4 p5 : Pos) (k : Nat) : Expr := .Tuple [.Call (.Name "len" p1) [.Name "row" p2] [] p3, .Name "row" p4] k p5
theorem call_LR {P : Program} {w : World} {A : Around} {s : Shared} {f c' l : Addr} {qual : Str} {params : Arguments} {scope : Scope} {cl : List (Str × Addr)} {pm ctv : Value} {mg mb : Str → Option Value} {ds : List D} {items : Array Value} {p1 p2 p3 p4 p5 : Pos} {k : Nat}
    (hroom : A.depth < recursionLimit) (ho : s.heap.get? f = some (PySem.W.kla_obj "<lambda>" qual params (bodyLR p1 p2 p3 p4 p5 k) scope cl pm c' ctv)) (hcd : s.heap.CodeRec (.ref c') qual) (hlim : s.heap.NoLimit)
    (hg : s.heap.Ns mainGlobals mg) (hb : s.heap.Ns builtinsNs mb) (hmg : mg "len" = none) (hmb : mb "len" = bootBuiltins "len")
    (ht : IsTup s.heap l items) (hz : (items.size : Int) < 2 ^ 63) (r : Reads s.heap (.ref l) (.tuple ds) []) (hsz : items.size = ds.length)
    (hbind : bindArgs (PySem.W.kla_fn "<lambda>" qual params (bodyLR p1 p2 p3 p4 p5 k) scope cl pm (.ref c') ctv) ⟨[Value.ref l], []⟩ = pure [(("row" : Str), Value.ref l)])
    (hrow : scope.names.lookup ("row" : Str) = some .local) (hlen : scope.names.lookup ("len" : Str) = some .globalImplicit) (hco : scope.isCoroutine = false) (hgen : scope.isGenerator = false) (hk : scope.kind = .function) (hcell : ∀ x ∈ scope.names, x.2 ≠ .cell) :
    wpAny (model P w) A (call (.ref f) [Value.ref l]) (PySem.W.KeyPure (.tuple [.int ds.length, .tuple ds]) s) (fun _ _ => False) s := by
  have ran : codeAny (model P w) A (.call (.ref f) ⟨[Value.ref l], []⟩) (fun r s' => ∃ v, r = .ok (.ret v) ∧ PySem.W.KeyPure (.tuple [.int ds.length, .tuple ds]) s v s') s := by
    refine PySem.W.kla_callFunE hroom ho rfl hco hgen rfl hcd ?_
    rw [hbind]
    refine wpAny_pure (wpAny_newFunctionEnv hcell (fun y hy => by
      rcases List.mem_singleton.mp hy with rfl
      exact hrow) (fun h₁ hns hsb => ⟨hlim.fresh _ hsb, ?_⟩) hk)
    have kept : ∀ b o, s.heap.get? b = some o → h₁.get? b = some o := fun b o e => hsb.extBut b o (Nat.ne_of_lt (Heap.lt_size e)) (Heap.get?_push_of_some _ e)
    refine PySem.W.kla_codeExpr ?_
    have row : ∀ {Q : Value → Shared → Prop} {E : Value → Shared → Prop} {tk : Nat} {p : Pos} {A' : Around}, Q (.ref l) { s with heap := h₁, toks := tk } → wpAny (model P w) A' (eval (.Name "row" p) (PySem.W.envX qual scope s.heap.objs.size f (.ref c') cl)) Q E { s with heap := h₁, toks := tk } := fun {Q E tk p A'} h =>
      wpAny_Name (wpAny_loadName_local hk hrow hns (by simp) h) (by decide)
    refine wpAny_Tuple_spliced (Calls.spliced_cons ?_)
    refine wpAny_Call_Name_kw (Calls.Name_function_global hk hlen (Calls.loadGlobal_builtin (hg.keeps kept) hmg (hb.keeps kept) (hmb.trans rfl) ?_) (by decide))
    refine PyProof.Rows.callWith_builtin1 (Calls.spliced_cons (row (Calls.spliced_nil ?_))) rfl rfl
    refine len_tuple (ht.keeps kept) hz ?_
    refine Calls.spliced_cons (row (Calls.spliced_nil ?_))
    have kept2 : ∀ b o, s.heap.get? b = some o → (h₁.push { cls := .type "tuple", data := .seq #[Value.int items.size (s.toks + 1 + 1), Value.ref l] }).get? b = some o := fun b o e => Heap.get?_push_of_some _ (kept b o e)
    refine ⟨by show 2 ≤ sizeLine; decide, _, rfl, _, _, rfl, fun b o e => Heap.get?_push_of_some _ (kept b o e), ?_⟩
    refine .tuple (Heap.get?_push_size _ rfl) rfl rfl ?_
    rw [← hsz]
    exact .cons (as := []) (.int _ _) (.cons (as := []) (bs := []) (PyProof.Rows.Reads.keeps (fun b o e => Heap.get?_push_of_some _ (kept b o e)) r) .nil)
  refine wpAny_call (codeAny_mono ran ?_)
  rintro r s' ⟨v, rfl, h⟩
  exact h
theorem reads_ints {h : Heap} : ∀ {vs : List Value} {ds : List D} {as : List Addr}, ReadsAll h vs ds as → ds.all isInt = true → as = []
  | _, _, _, .nil, _ => rfl
  | _, _, _, .cons (d := d) r rs, e => by
    simp only [List.all_cons, Bool.and_eq_true] at e
    have := reads_ints rs e.2
    subst this
    cases d with
    | int i => cases r; rfl
    | _ => exact absurd e.1 (by simp [isInt])
theorem alike_isInts : ∀ {xs ys : List D}, xs.all isInt = true → ys.all isInt = true → PySem.W.alikeAll xs ys = true
  | [], _, _, _ => by simp [PySem.W.alikeAll]
  | _ :: _, [], _, _ => by simp [PySem.W.alikeAll]
  | x :: xs, y :: ys, h, h' => by
    simp only [List.all_cons, Bool.and_eq_true] at h h'
    rw [PySem.W.alikeAll, alike_isInts h.2 h'.2]
    cases x with
    | int i => cases y with
      | int j => rfl
      | _ => exact absurd h'.1 (by simp [isInt])
    | _ => exact absurd h.1 (by simp [isInt])
theorem depth_isInts : ∀ {xs : List D}, xs.all isInt = true → PyData.depthAll xs = 0 ∧ PyData.plainAll xs = true
  | [], _ => ⟨rfl, rfl⟩
  | x :: xs, h => by
    simp only [List.all_cons, Bool.and_eq_true] at h
    obtain ⟨h1, h2⟩ := depth_isInts h.2
    cases x with
    | int i => simp [PyData.depthAll, PyData.plainAll, PyData.depth, PyData.plain, h1, h2]
    | _ => exact absurd h.1 (by simp [isInt])
theorem isTupI_eq {d : D} (h : isTupI d = true) : ∃ xs, d = .tuple xs ∧ xs.all isInt = true := by
  cases d with
  | tuple xs => exact ⟨xs, rfl, h⟩
  | _ => cases h
theorem each_both {α β : Type} {R S : α → β → Prop} : ∀ {vs : List α} {bs : List β}, PySem.W.EachIs R vs bs → PySem.W.EachIs S vs bs → PySem.W.EachIs (fun v b => R v b ∧ S v b) vs bs
  | _, _, .nil, .nil => .nil
  | _, _, .cons h t, .cons h2 t2 => .cons ⟨h, h2⟩ (each_both t t2)
theorem each_fst {α β : Type} {R S : α → β → Prop} : ∀ {vs : List α} {bs : List β}, PySem.W.EachIs (fun v b => R v b ∧ S v b) vs bs → PySem.W.EachIs R vs bs
  | _, _, .nil => .nil
  | _, _, .cons h t => .cons h.1 (each_fst t)
abbrev pairLR (ys : List V) (ds : List D) : List (V × D) := (ys.zip ds).mergeSort (PySem.W.dataLe false fun b : V × D => keyLR b.2)
def rSortLR (K : PySem.W.Frag) : V → Hp → VK → Prop := fun v H Q => ∃ (a : Addr) (ys : List V) (ds : List D), v = .ref a ∧ SqL K H a ys ∧ DpAll K H ys ds ∧ ds.all isTupI = true ∧ (∀ d ∈ ds, ∀ xs, d = .tuple xs → xs.length ≤ LIM) ∧ ys.length ≤ sizeLine ∧
  ∀ p, H p = none → Q (.ref p) (upd H p (.lst ((pairLR ys ds).map (·.1))))
/-- the def whose expression it is makes the lambda -/
def tSortLR (T : List (Addr × Str)) (K : PySem.W.Frag) (ta : TE) : TE := fun σ H Q => ta σ H fun v H1 => Tabs T H1 ∧ ∀ H2, ExtN H1 H2 → Tabs T H2 → rSortLR K v H2 Q
theorem pe_sortLR {X : Cx} {T : List (Addr × Str)} {c P : Addr} {a : Expr} {ta : TE} {params : Arguments} {scope : Scope} {p pos kpos lpos p1 p2 p3 p4 p5 : Pos} {k : Nat} (hgs : Gl X "sorted") (hms : X.mg "sorted" = none) (hml : X.mg "len" = none) (hc : X.calm = true) (hu : X.A.units + 64 < cLine) (ha : PE X a ta)
    (TB : TabB X.base X.mg c P) (hcode : X.env.code = .ref c) (hmT : (P, X.env.qual ++ "<lambda>") ∈ T) (huT : ∀ p ∈ T, p.1 = P → p.2 = X.env.qual ++ "<lambda>") (hr : Room 2 X.A)
    (hdef : defaultsOf params X.env = ([], [])) (hfree : ∀ y ∈ scope.names, y.2 ≠ .free)
    (hbind : ∀ (q : Str) (cl : List (Str × Addr)) (pm cv ctv : Value) (v : Value), bindArgs (PySem.W.kla_fn "<lambda>" q params (bodyLR p1 p2 p3 p4 p5 k) scope cl pm cv ctv) ⟨[v], []⟩ = pure [(("row" : Str), v)])
    (hrow : scope.names.lookup ("row" : Str) = some .local) (hlen : scope.names.lookup ("len" : Str) = some .globalImplicit) (hco : scope.isCoroutine = false) (hgen : scope.isGenerator = false) (hk : scope.kind = .function) (hcell : ∀ x ∈ scope.names, x.2 ≠ .cell)
    (na : starEach [a] X.env = (false, eval a X.env) :: starEach [] X.env := by rfl) :
    PE X (.Call (.Name "sorted" p) [a] [⟨some "key", .Lambda params (bodyLR p1 p2 p3 p4 p5 k) scope lpos, kpos⟩] pos) (tSortLR T X.K ta) := by
  refine ⟨fun pins s σ H Q I h => ?_⟩
  refine wpAny_Call_Name_kw (ld_blt I hgs hms (by decide +kernel : bootBuiltins "sorted" = some (.builtin "sorted")) ?_)
  refine PyProof.Rows.callWith_kw (thn ((pa_cons ha pa_nil na).run pos pins s σ H (fun vs H1 => match vs with
    | [v] => Tabs T H1 ∧ ∀ H2, ExtN H1 H2 → Tabs T H2 → rSortLR X.K v H2 Q
    | _ => False) I h) fun us s1 ⟨vs, H1, I1, r1, q1⟩ => ?_) (by rw [na]; rfl) (by rw [na]; rfl) (by rfl) (by rfl)
  obtain ⟨v, rfl⟩ : ∃ v, vs = [v] := by
    match vs, q1 with
    | [v], _ => exact ⟨v, rfl⟩
  obtain ⟨tabs, want⟩ : Tabs T H1 ∧ ∀ H2, ExtN H1 H2 → Tabs T H2 → rSortLR X.K v H2 Q := q1
  show wpAny _ _ (evalAll ((do let v ← eval (.Lambda params (bodyLR p1 p2 p3 p4 p5 k) scope lpos) X.env; standAt pos; pure v) :: [])) _ _ s1
  refine wpAny_evalAll_cons (wpAny_bind (lam_make2 I1 TB hcode hmT huT tabs hdef (fun y hy h => absurd h (hfree y hy)) fun f c' pm ctv H2 s2 I2 eN T2 hf hfn hfr hco' => wpAny_bind (wpAny_standAt (wpAny_pure (wpAny_evalAll_nil ?_)))))
  obtain ⟨l, ys, ds, rfl, hs, dp, al, small, hl, q⟩ := want H2 eN T2
  rw [Vals.ref1 r1]
  obtain ⟨its, rv, pL, _⟩ := I2.list hs
  obtain ⟨as, ra⟩ := Dp.readsAll I2 _ _ its dp rv
  obtain ⟨e1, e2⟩ := each_pairs rv ra
  have ll := dpAll_len dp
  have zs := zip_snd ll
  have zl : (ys.zip ds).length = ys.length := by rw [List.length_zip, ll, Nat.min_self]
  have isT : ∀ b ∈ ys.zip ds, ∃ xs, b.2 = .tuple xs ∧ xs.all isInt = true ∧ xs.length ≤ LIM := fun b hb => by
    have hm : b.2 ∈ ds := by rw [← zs]; exact List.mem_map.mpr ⟨b, hb, rfl⟩
    obtain ⟨xs, e, h⟩ := isTupI_eq ((List.all_eq_true.mp al) _ hm)
    exact ⟨xs, e, h, small _ hm _ e⟩
  have e3 : PySem.W.EachIs (fun v (b : V × D) => RelV b.1 v ∧ ∃ as, Reads s2.heap v b.2 as) its (ys.zip ds) := by
    exact each_both e1 e2
  refine PySem.W.sorted_key_data (f := .ref f) (kw := [(Str.ofString "key", .ref f)]) (b := false) (fun b : V × D => keyLR b.2) pL.isList e3 ?_ ?_ (by rw [zl]; exact hl) ?_ (PyProof.Rows.ksk_s1 _ _) (fun x => PyProof.Rows.ksk_l1 _ _) (fun x => PyProof.Rows.ksk_t1 _ _) ?_ ?_
  · intro d hd d' hd'
    obtain ⟨b, hb, rfl⟩ := List.mem_map.mp hd
    obtain ⟨b', hb', rfl⟩ := List.mem_map.mp hd'
    obtain ⟨xs, e, h, _⟩ := isT b hb
    obtain ⟨xs', e', h', _⟩ := isT b' hb'
    rw [e, e']
    simp [keyLR, PySem.W.alike, PySem.W.alikeAll, alike_isInts h h']
  · refine .inl fun d hd => ?_
    obtain ⟨b, hb, rfl⟩ := List.mem_map.mp hd
    obtain ⟨xs, e, h, _⟩ := isT b hb
    rw [e]
    exact ⟨_, _, rfl⟩
  · intro b hb
    obtain ⟨xs, e, h, _⟩ := isT b hb
    rw [e]
    have := (depth_isInts h).1
    simp [keyLR, PyData.depth, PyData.depthAll, this]
    omega
  · rintro v b ⟨_, as, rd⟩ hb h tk kp
    obtain ⟨xs, e, hi, hx⟩ := isT b hb
    rw [e] at rd ⊢
    cases rd with
    | tuple g1 g2 g3 g4 =>
      have ea := reads_ints g4 hi
      subst ea
      have len := PySem.SeqAt.ReadsAll.length _ _ _ g4
      rw [Array.length_toList] at len
      have eb : ∀ {b : Addr} {o : Obj}, X.base.get? b = some o → h.get? b = some o := fun {b o} e => kp b o (I2.bk b o e)
      obtain ⟨⟨oc, vs2, t2, c1, c2, c3⟩, _⟩ := I2.hok c' _ hco'
      obtain ⟨mb, mb1, mb2⟩ := I2.mod.blt
      refine call_LR (mg := X.mg) (mb := mb) (s := { s2 with heap := h, toks := tk }) ?_ (kp _ _ hf) ?_ ?_ ?_ ?_ hml ?_ ⟨_, kp _ _ g1, g2, _, g3⟩ ?_ (PyProof.Rows.Reads.keeps kp (.tuple g1 g2 g3 g4)) ?_ (hbind _ _ _ _ _ _) hrow hlen hco hgen hk hcell
      · exact hr.depth
      · exact ⟨c', oc, vs2, t2, rfl, kp _ _ c1, c2, c3⟩
      · exact I2.nolimit.keeps kp
      · exact I2.mod.glob.keeps fun b o e => eb e
      · exact mb1.keeps fun b o e => eb e
      · exact mb2 "len" (by decide)
      · have : xs.length ≤ 16777216 := hx
        omega
      · exact len
  · intro out n h' tk kp fr at' ol ek
    have len : ((pairLR ys ds).map (·.1)).length ≤ sizeLine := by rw [List.length_map, List.length_mergeSort, zl]; exact hl
    exact ⟨.ref _, upd H2 (s2.heap.objs.size + 1) (.lst ((pairLR ys ds).map (·.1))), I2.laid (t' := tk) kp (Nat.le_succ _) ⟨len, out, n, vals_pairs (each_fst ek), at'⟩, rfl, q _ (I2.hok.fresh (Nat.le_succ _))⟩
theorem sv_sortLR {K : PySem.W.Frag} : SimV1 K (rSortLR K) oSortLR := fun F H v d Qd Q sub p ho k => by
  obtain ⟨ds, rfl, al, q⟩ := ho
  obtain ⟨a, ys, rfl, e, l, z⟩ := p.list sub
  have pl : ∀ {ds : List D}, ds.all isTupI = true → PyData.plainAll ds = true := fun {ds} h => by
    induction ds with
    | nil => rfl
    | cons d ds ih =>
      simp only [List.all_cons, Bool.and_eq_true] at h
      obtain ⟨xs, rfl, hx⟩ := isTupI_eq h.1
      simp [PyData.plainAll, PyData.plain, (depth_isInts hx).2, ih h.2]
  refine ⟨a, ys, ds, rfl, .inl (.inl e), l.dpAll sub (pl al), al, fun d hd xs hx => ?_, by rw [l.length]; exact z, fun r hr => ?_⟩
  · subst hx
    obtain ⟨i, hi⟩ := List.getElem?_of_mem hd
    obtain ⟨u, _, au⟩ := l.getD hi
    cases au with
    | tup _ _ h => exact h
  have e2 : (pairLR ys ds).map (·.2) = ds.mergeSort (PySem.W.dataLe false keyLR) := by
    have h := List.map_mergeSort (r := PySem.W.dataLe false fun b : V × D => keyLR b.2) (s := PySem.W.dataLe false keyLR) (f := fun b : V × D => b.2) (l := ys.zip ds) (fun _ _ _ _ => rfl)
    rw [zip_snd l.length] at h
    exact h
  have la : AtL K F ((pairLR ys ds).map (·.1)) (ds.mergeSort (PySem.W.dataLe false keyLR)) := e2 ▸ atL_pairs fun b hb => l.zipAt b (List.mem_mergeSort.mp hb)
  exact k _ true _ F _ q (Gr.own sub hr) ⟨(fun z => nomatch z), fun _ => ⟨r, rfl, noTab_none hr, sub_none sub hr, _, upd_same, la, by rw [List.length_mergeSort]; exact z⟩⟩
theorem sim_sortLR {K : PySem.W.Frag} {EA : EAT} {E : Exc → Prop} {EH : XK} {ta : TE} {w : WE} (s : SimE K EA E EH ta w) : SimE K EA E EH (tSortLR EA.T K ta) (wO oSortLR w) := fun G xa ρ F σ H R Qd Q h k =>
  s.run xa R (Qd := fun d ρ1 => oSortLR d fun r f => Qd r f ρ1) h fun d ρ1 v F1 H1 h1 R1 s1 a1 => by
    have gT := xa.1
    refine ⟨gT ▸ R1.fr.2, fun H2 ext tabs => ?_⟩
    have R2 : Rl K G ρ1 F1 σ H2 := R1.growW ⟨fun a o nt e => ext a o e nt, Sub.refl _, fun a o e => ext a o (R1.sub a o e) (fun ps z => R1.ft a ps (z ▸ e)), fun _ _ _ _ => rfl, fun _ _ e => e, fun _ => gT ▸ tabs⟩
    exact sv_sortLR F1 H2 v d _ Q R2.sub (.at a1) h1 fun x f z F3 H3 q g n => k x f ρ1 z F3 H3 q (R2.grow g) (s1.trans g.ff) (n.res R2 g)
theorem de_sortLR {X : Cx} {EA : EAT} {E : Exc → Prop} {EH : XK} {c P : Addr} {a : Expr} {w : WE} {params : Arguments} {scope : Scope} {p pos kpos lpos p1 p2 p3 p4 p5 : Pos} {k : Nat} (hms : X.mg "sorted" = none) (hml : X.mg "len" = none) (hc : X.calm = true) (hu : X.A.units + 64 < cLine)
    (TB : TabB X.base X.mg c P) (hcode : X.env.code = .ref c) (hmT : (P, X.env.qual ++ "<lambda>") ∈ EA.T) (huT : ∀ p ∈ EA.T, p.1 = P → p.2 = X.env.qual ++ "<lambda>") (hr : Room 2 X.A) (ha : DE X EA E EH a w)
    (hgs : Gl X "sorted" := by rfl) (hdef : defaultsOf params X.env = ([], []) := by rfl) (hfree : ∀ y ∈ scope.names, y.2 ≠ .free := by decide +kernel)
    (hbind : ∀ (q : Str) (cl : List (Str × Addr)) (pm cv ctv : Value) (v : Value), bindArgs (PySem.W.kla_fn "<lambda>" q params (bodyLR p1 p2 p3 p4 p5 k) scope cl pm cv ctv) ⟨[v], []⟩ = pure [(("row" : Str), v)] := by intros; rfl)
    (hrow : scope.names.lookup ("row" : Str) = some .local := by rfl) (hlen : scope.names.lookup ("len" : Str) = some .globalImplicit := by rfl) (hco : scope.isCoroutine = false := by rfl) (hgen : scope.isGenerator = false := by rfl) (hk : scope.kind = .function := by rfl) (hcell : ∀ x ∈ scope.names, x.2 ≠ .cell := by decide +kernel)
    (na : starEach [a] X.env = (false, eval a X.env) :: starEach [] X.env := by rfl) :
    DE X EA E EH (.Call (.Name "sorted" p) [a] [⟨some "key", .Lambda params (bodyLR p1 p2 p3 p4 p5 k) scope lpos, kpos⟩] pos) (wO oSortLR w) := by
  obtain ⟨t, pa, sa⟩ := ha.ex
  exact ⟨_, pe_sortLR hgs hms hml hc hu pa TB hcode hmT huT hr hdef hfree hbind hrow hlen hco hgen hk hcell na, sim_sortLR sa⟩
end Dl
set_option maxRecDepth 100000
set_option maxHeartbeats 1000000
/-! DsZ: what the top leaves; the end. -/
namespace Dl
open PySem PySem.Spec PyProof.Rows L2 LamX
set_option autoImplicit false
/-- constants of the module -/
def constV : Value → Option (V × D)
  | .none => some (.non, .none)
  | .bool b => some (.bl b, .bool b)
  | .int i _ => some (.int i, .int i)
  | .str x _ => some (.str x, .str x)
  | _ => none
def constVs : List Value → Option (List (V × D))
  | [] => some []
  | v :: vs => match constV v, constVs vs with
    | some p, some ps => some (p :: ps)
    | _, _ => none
theorem constV_rel {K : PySem.W.Frag} {F : Hp} {u : Value} {p : V × D} (h : constV u = some p) : RelV p.1 u ∧ At K F p.1 p.2 := by
  cases u with
  | none => cases h; exact ⟨rfl, .non⟩
  | bool b => cases h; exact ⟨rfl, .bl _⟩
  | int i t => cases h; exact ⟨⟨_, rfl⟩, .int _⟩
  | str x t => cases h; exact ⟨⟨_, rfl⟩, .str _⟩
  | _ => cases h
theorem constVs_rel {K : PySem.W.Frag} {F : Hp} : ∀ {us : List Value} {ps : List (V × D)}, constVs us = some ps → Vals (ps.map (·.1)) us ∧ AtL K F (ps.map (·.1)) (ps.map (·.2))
  | [], _, h => by cases h; exact ⟨.nil, .nil⟩
  | u :: us, ps, h => by
    unfold constVs at h
    split at h
    · rename_i p qs h1 h2
      cases h
      obtain ⟨a, b⟩ := constV_rel (K := K) (F := F) h1
      obtain ⟨c, d⟩ := constVs_rel (K := K) (F := F) h2
      exact ⟨.cons a c, .cons b d⟩
    · cases h
/-- a constant x of the module is d -/
structure Cst (K : PySem.W.Frag) (mg : Str → Option Value) (x : Str) (d : D) : Prop where
  ex : ∃ (v : V) (u : Value), mg x = some u ∧ RelV v u ∧ ∀ F : Hp, At K F v d
theorem cst_atom {K : PySem.W.Frag} {h : Heap} {mg : Str → Option Value} {x : Str} {u : Value} {p : V × D} (X : K.In h) (G : h.Ns mainGlobals mg) (a : PySem.W.nsIn K mainGlobals x = some (some u)) (c : constV u = some p) : Cst K mg x p.2 :=
  ⟨p.1, u, PySem.W.mg_of X G a, (constV_rel (K := K) (F := fun _ => none) c).1, fun F => (constV_rel c).2⟩
theorem cst_tup {K : PySem.W.Frag} {h : Heap} {mg : Str → Option Value} {x : Str} {t : Addr} {od : Option Addr} {its : Array Value} {n : Nat} {sl : Array (Option Value)} {ps : List (V × D)} (X : K.In h) (G : h.Ns mainGlobals mg) (a : PySem.W.nsIn K mainGlobals x = some (some (.ref t)))
    (l : K.lookup t = some ⟨.type "tuple", od, .seq its n, sl⟩) (c : constVs its.toList = some ps) (hs : its.size ≤ 1000) : Cst K mg x (.tuple (ps.map (·.2))) := by
  refine ⟨.ref t, _, PySem.W.mg_of X G a, rfl, fun F => ?_⟩
  obtain ⟨c1, c2⟩ := constVs_rel (K := K) (F := F) c
  have e : ps.length = its.size := by simpa using c1.length
  exact .tup (.inr ⟨_, its, n, l, rfl, rfl, Nat.le_trans hs (by decide), c1⟩) c2 (by rw [List.length_map, e]; exact Nat.le_trans hs (by decide))
theorem de_cst {X : Cx} {EA : EAT} {E : Exc → Prop} {EH : XK} {x : Str} {d : D} {p : Pos} (hg : Gl X x) (h : Cst X.K X.mg x d) (hd : (x == ("__debug__" : Str)) = false := by decide) : DE X EA E EH (.Name x p) (wC d) := by
  obtain ⟨v, u, a, b, c⟩ := h.ex
  exact de_glob hg a b c hd
/-- a class of errors -/
structure XT1 (K : PySem.W.Frag) (C : Addr) : Prop where
  q : PySem.W.excIn K C [.type "ValueError", .type "Exception", .type "BaseException", .type "object"] "ValueError.__new__" = true
  k : PySem.W.keepIn K (.ref C) = true
  b : PySem.W.subIn K (.ref C) (.type "BaseException") = some true
  t : PySem.W.typeIn K (.ref C) = some (.type "type")
def EAof (r : Errs) (T : List (Addr × Str)) : EAT := ⟨fun x c d _ => d = none ∧ ∃ C, r.at x = some C ∧ c = .ref C, T⟩
theorem nogd {p : Prop} : false = true → p := fun h => nomatch h
theorem raise_ok {X : Cx} {EA : EAT} {E : Exc → Prop} {EH : XK} {C : Addr} {x m : Str} {jj : Nat} {p2 p apos pos : Pos} {xc : Exc} (hc : X.calm = true) (tk : L2N.Takes X fun cls d _ H => EH cls d H) (T : XT1 X.K C) (gC : X.mg x = some (.ref C)) (hg : Gl X x)
    (hx : ∀ H, EA.ea xc (.ref C) none H) (hdb : (x == ("__debug__" : Str)) = false := by decide) (hs : starEach [.Constant (.str m) jj p2] X.env = (false, eval (.Constant (.str m) jj p2) X.env) :: starEach [] X.env := by rfl) :
    DS X EA E EH (.Raise (some (.Call (.Name x p) [.Constant (.str m) jj p2] [] apos)) none pos) (wRaise E xc) :=
  ds_raise hc tk F.excBase_ValueError T.q gC T.k (raises_own T.b T.t) hg hx hdb hs
theorem de_call0 {X : Cx} {EA : EAT} {E : Exc → Prop} {EH : XK} {gr : Bool} {k : Nat} {f : Addr} {fd : FuncData} {x : Str} {p pos : Pos} {C : Con} (hC : ∀ ds Q E, C ds Q E → ds.length = 0) (F : FnG X.prog X.w X.K X.mg X.base gr k f fd [] (spOf X.K EA (List.replicate 0 false) C)) (hr : Room k X.A) (gd : gr = true → X.A.guards = some []) (hg : Gl X x) (hm : X.mg x = some (.ref f)) (hk : PySem.W.keepIn X.K (.ref f) = true) (hb : Binds X.K fd [] []) (hx : Passes (L2N.CX X.prog X.w) X EH)
    (hdb : (x == ("__debug__" : Str)) = false := by decide) : DE X EA E EH (.Call (.Name x p) [] [] pos) (wCall C E wNil) :=
  ⟨_, pe_callG0 F hr gd hg hm hk hb hx hdb, sim_call hC sim_nil⟩
theorem keeps_law {wf : (Exc → Prop) → WS} {m : Nat} {py : D → R D} {B : List Int → Prop} (k : Keeps (con1 false py) [false] m wf) (h : ∀ ns, B ns → py (scrD (ns.map PyData.int)) = .ok (.bool true)) : Keeps (lawC B) [false] m wf := fun ds Q E ⟨ns, e, b, q⟩ =>
  k ds Q E ⟨_, e, by rw [h ns b]; exact q false⟩

end Dl
set_option maxRecDepth 100000
/-! Bp: plain functions that several laws share, printed by mkbase.py. -/
namespace Py
open PySem Dl
set_option autoImplicit false
/-- _law_stream(script) -/
def py__law_stream (x_script : D) : R D :=
  ((lstM (R.ok [])).bind fun v1 => ((seqM (slM (R.ok x_script) (R.ok none) ((R.ok (PyData.int 63)).bind asI))).bind fun xs2 => (forF (fun x_ => some x_) (fun (a3 : D) (b4 : D) => ((A1 absM (A1 intM (R.ok b4))).bind fun v5 => ((tvM (A2 geM (R.ok v5) (A2 powM (R.ok (PyData.int 10)) (R.ok (PyData.int 18))))).bind fun c6 => ifT c6 (((R.ok (PyData.int 60)).bind rng1).bind fun xs7 => bindC (forC (τ := Empty) (fun x_ => some x_) (fun (a8 : D × D) (b9 : D) => ((isLM a8.1).bind fun _ => (A2 modM (A1 intM (R.ok a8.2)) (R.ok (PyData.int 1009))).bind fun v10 => (apL a8.1 v10).bind fun v11 => ((A2 fdivM (R.ok a8.2) (R.ok (PyData.int 1009))).bind fun v12 => ((tvM (A2 eqM (R.ok v12) (R.ok (PyData.int 0)))).bind fun c13 => ifT c13 (R.ok (.bk (v11, v12))) (R.ok (.nx (v11, v12))))))) xs7 (a3, v5)) (fun r_ : Empty => r_.elim) fun (s14 : D × D) => (R.ok s14.1)) ((A2 modM (A1 intM (R.ok v5)) (R.ok (PyData.int 2147483647))).bind fun v15 => (((R.ok (PyData.int 10)).bind rng1).bind fun xs16 => (forF (fun x_ => some x_) (fun (a17 : D × D) (b18 : D) => ((A2 modM (A1 intM (A2 addM (A2 addM (A2 mulM (R.ok a17.2) (R.ok (PyData.int 48271))) (A2 mulM (R.ok (PyData.int 7)) (R.ok b18))) (R.ok (PyData.int 11)))) (R.ok (PyData.int 2147483647))).bind fun v19 => ((isLM a17.1).bind fun _ => (A2 modM (A2 modM (A1 intM (A2 addM (A2 mulM (R.ok v19) (R.ok (PyData.int 69621))) (R.ok b18))) (R.ok (PyData.int 2147483629))) (R.ok (PyData.int 1009))).bind fun v20 => (apL a17.1 v20).bind fun v21 => (R.ok (v21, v19))))) xs16 (a3, v15)).bind fun (s22 : D × D) => (R.ok s22.1)))))) xs2 v1).bind fun (s23 : D) => (((tvM (A2 eqM (lenM s23) (R.ok (PyData.int 0)))).bind fun c24 => ifT c24 ((isLM s23).bind fun _ => (R.ok (PyData.int 0)).bind fun v25 => (apL s23 v25).bind fun v26 => (R.ok v26)) (R.ok s23)).bind fun (s27 : D) => (R.ok s27))))
/-- _law_next(state, many) -/
def py__law_next (x_state : D) (x_many : D) : R (D × D) :=
  ((A2 addM (A2 ixM (R.ok x_state) (R.ok (PyData.int 1))) (R.ok (PyData.int 1))).bind fun v1 => (R.ok (PyData.int 1)).bind fun v2 => (setI x_state v2 v1).bind fun v3 => ((A2 fdivM (A2 ixM (R.ok v3) (R.ok (PyData.int 1))) (A1 lenM (A2 ixM (R.ok v3) (R.ok (PyData.int 0))))).bind fun v4 => ((A2 modM (A1 intM (A2 addM (A2 addM (A2 ixM (A2 ixM (R.ok v3) (R.ok (PyData.int 0))) (A2 modM (A2 ixM (R.ok v3) (R.ok (PyData.int 1))) (A1 lenM (A2 ixM (R.ok v3) (R.ok (PyData.int 0)))))) (A2 mulM (R.ok v4) (R.ok (PyData.int 389)))) (A2 mulM (A2 mulM (A2 ixM (R.ok v3) (R.ok (PyData.int 1))) (R.ok v4)) (R.ok (PyData.int 17))))) (R.ok x_many)).bind fun v5 => R.ok (v5, v3))))
/-- _law_graph(state, most) -/
def py__law_graph (x_state : D) (x_most : D) : R (D × D) :=
  (((X2 addM (ls (R.ok (PyData.int 1))) (Ln2 py__law_next (ls (R.ok x_most)))) x_state).bind fun v1 => (((Ln2 py__law_next (ls (R.ok (PyData.int 5)))) v1.2).bind fun v2 => ((lstM (R.ok [])).bind fun v3 => (((R.ok v1.1).bind rng1).bind fun xs4 => (forF (fun x_ => some x_) (fun (a5 : D × D) (b6 : D) => (((A2 addM (R.ok b6) (R.ok (PyData.int 1))).bind fun x_ => (R.ok v1.1).bind fun y_ => rng2 x_ y_).bind fun xs7 => (forF (fun x_ => some x_) (fun (a8 : D × D) (b9 : D) => (((tvM (A2 eqM (R.ok v2.1) (R.ok (PyData.int 0)))).bind fun c10 => ifT c10 ((orV (A2 eqM (R.ok b9) (A2 addM (R.ok b6) (R.ok (PyData.int 1)))) (andV (A2 eqM (R.ok b6) (R.ok (PyData.int 0))) (A2 eqM (R.ok b9) (A2 subM (R.ok v1.1) (R.ok (PyData.int 1)))))).bind fun v11 => (R.ok (a8.1, v11))) ((tvM (A2 eqM (R.ok v2.1) (R.ok (PyData.int 1)))).bind fun c12 => ifT c12 (((orVX (ls (A2 eqM (R.ok b9) (A2 addM (R.ok b6) (R.ok (PyData.int 1))))) (X2 eqM (Ln2 py__law_next (ls (R.ok (PyData.int 3)))) (ls (R.ok (PyData.int 0))))) a8.1).bind fun v13 => (R.ok (v13.2, v13.1))) ((tvM (A2 eqM (R.ok v2.1) (R.ok (PyData.int 2)))).bind fun c14 => ifT c14 (((orVX (ls (A2 eqM (R.ok b6) (R.ok (PyData.int 0)))) (X2 eqM (Ln2 py__law_next (ls (R.ok (PyData.int 4)))) (ls (R.ok (PyData.int 0))))) a8.1).bind fun v15 => (R.ok (v15.2, v15.1))) (((X2 eqM (Ln2 py__law_next (ls (R.ok (PyData.int 2)))) (ls (R.ok (PyData.int 0)))) a8.1).bind fun v16 => (R.ok (v16.2, v16.1)))))).bind fun (s17 : D × D) => ((tvM (R.ok s17.2)).bind fun c18 => ifT c18 ((isLM a8.2).bind fun _ => (tupM (consM (R.ok b6) (consM (R.ok b9) (R.ok [])))).bind fun v19 => (apL a8.2 v19).bind fun v20 => (R.ok (s17.1, v20))) (R.ok (s17.1, a8.2))))) xs7 (a5.1, a5.2)).bind fun (s21 : D × D) => (R.ok (s21.1, s21.2)))) xs4 (v2.2, v3)).bind fun (s22 : D × D) => ((tupM (consM (R.ok v1.1) (consM (A1 tupleM (R.ok s22.2)) (R.ok [])))).bind fun v23 => R.ok (v23, s22.1))))))
/-- _law_seen(graph) -/
def py__law_seen (x_graph : D) : R D :=
  (lcM ((A2 ixM (R.ok x_graph) (R.ok (PyData.int 0))).bind rng1) (fun x_ => some x_) (fun (b1 : D) => (R.ok true)) (fun (b1 : D) => (lcM ((A2 ixM (R.ok x_graph) (R.ok (PyData.int 0))).bind rng1) (fun x_ => some x_) (fun (b2 : D) => (orM (tvM (A2 eqM (R.ok b2) (R.ok b1))) (tvM (A2 inM (tupM (consM (A2 min2M (R.ok b1) (R.ok b2)) (consM (A2 max2M (R.ok b1) (R.ok b2)) (R.ok [])))) (A2 ixM (R.ok x_graph) (R.ok (PyData.int 1))))))) (fun (b2 : D) => (R.ok b2)))))
/-- check_graph(graph) -/
def py_check_graph (x_graph : D) : R D :=
  ((orM (tvM (A2 neM (A1 lenM (R.ok x_graph)) (R.ok (PyData.int 2)))) (notM (tvM (chainM leM leM (R.ok (PyData.int 1)) (A2 ixM (R.ok x_graph) (R.ok (PyData.int 0))) (R.ok (PyData.int 8)))))).bind fun c1 => ifT c1 (.err .refused) ((notM (tvM (A1 allM (lcM (seqM (A2 ixM (R.ok x_graph) (R.ok (PyData.int 1)))) (fun x_ => some x_) (fun (b2 : D) => (R.ok true)) (fun (b2 : D) => (andV (A2 eqM (A1 lenM (R.ok b2)) (R.ok (PyData.int 2))) (chain3M leM ltM ltM (R.ok (PyData.int 0)) (A2 ixM (R.ok b2) (R.ok (PyData.int 0))) (A2 ixM (R.ok b2) (R.ok (PyData.int 1))) (A2 ixM (R.ok x_graph) (R.ok (PyData.int 0)))))))))).bind fun c3 => ifT c3 (.err .refused) ((notM (tvM (A1 allM (lcM ((A2 ixM (R.ok x_graph) (R.ok (PyData.int 1))).bind fun x_ => (slM (A2 ixM (R.ok x_graph) (R.ok (PyData.int 1))) ((R.ok (PyData.int 1)).bind asI) (R.ok none)).bind fun y_ => zip2 x_ y_) pr2 (fun (b4 : D × D) => (R.ok true)) (fun (b4 : D × D) => (A2 ltM (R.ok b4.1) (R.ok b4.2))))))).bind fun c5 => ifT c5 (.err .refused) (R.ok PyData.none))))
/-- near_masks(graph) -/
def py_near_masks (x_graph : D) : R D :=
  ((A2 mulL (lstM (consM (R.ok (PyData.int 0)) (R.ok []))) (A2 ixM (R.ok x_graph) (R.ok (PyData.int 0)))).bind fun v1 => ((seqM (A2 ixM (R.ok x_graph) (R.ok (PyData.int 1)))).bind fun xs2 => (forF pr2 (fun (a3 : D) (b4 : D × D) => ((A2 borM (A2 ixM (R.ok a3) (R.ok b4.1)) (A2 shlM (R.ok (PyData.int 1)) (R.ok b4.2))).bind fun v5 => (R.ok b4.1).bind fun v6 => (setI a3 v6 v5).bind fun v7 => ((A2 borM (A2 ixM (R.ok v7) (R.ok b4.2)) (A2 shlM (R.ok (PyData.int 1)) (R.ok b4.1))).bind fun v8 => (R.ok b4.2).bind fun v9 => (setI v7 v9 v8).bind fun v10 => (R.ok v10)))) xs2 v1).bind fun (s11 : D) => (R.ok s11)))
/-- seen_masks(graph) -/
def py_seen_masks (x_graph : D) : R D :=
  (lcM ((A1 py_near_masks (R.ok x_graph)).bind enum1) pr2 (fun (b1 : D × D) => (R.ok true)) (fun (b1 : D × D) => (A2 borM (R.ok b1.2) (A2 shlM (R.ok (PyData.int 1)) (R.ok b1.1)))))
/-- _law_same(told, due) -/
def py__law_same (x_told : D) (x_due : D) : R D :=
  (A2 eqM (A1 reprM (lstM (consM (R.ok x_told) (R.ok [])))) (A1 reprM (lstM (consM (R.ok x_due) (R.ok [])))))
/-- check_place(graph, place) -/
def py_check_place (x_graph : D) (x_place : D) : R D :=
  ((A1 py_check_graph (R.ok x_graph)).bind fun v1 => ((notM (tvM (chainM leM ltM (R.ok (PyData.int 0)) (R.ok x_place) (A2 ixM (R.ok x_graph) (R.ok (PyData.int 0)))))).bind fun c2 => ifT c2 (.err .refused) (R.ok PyData.none)))
/-- _law_sets(many) -/
def py__law_sets (x_many : D) : R D :=
  ((lstM (consM (tupM (R.ok [])) (R.ok []))).bind fun v1 => (((R.ok x_many).bind rng1).bind fun xs2 => (forF (fun x_ => some x_) (fun (a3 : D) (b4 : D) => ((A2 addM (R.ok a3) (lcM (seqM (R.ok a3)) (fun x_ => some x_) (fun (b5 : D) => (R.ok true)) (fun (b5 : D) => (A2 addM (R.ok b5) (tupM (consM (R.ok b4) (R.ok []))))))).bind fun v6 => (R.ok v6))) xs2 v1).bind fun (s7 : D) => (A1 sortLRM (R.ok s7))))
/-- _law_all_seen(seen, places) -/
def py__law_all_seen (x_seen : D) (x_places : D) : R D :=
  (A2 eqM (A1 lenM (lcM (seqM (R.ok x_seen)) (fun x_ => some x_) (fun (b1 : D) => (tvM (A2 eqM (A1 lenM (lcM (seqM (R.ok b1)) (fun x_ => some x_) (fun (b2 : D) => (tvM (A2 inM (R.ok b2) (R.ok x_places)))) (fun (b2 : D) => (R.ok b2)))) (R.ok (PyData.int 0))))) (fun (b1 : D) => (R.ok b1)))) (R.ok (PyData.int 0)))
/-- check_way(graph, way) -/
def py_check_way (x_graph : D) (x_way : D) : R D :=
  ((A1 py_check_graph (R.ok x_graph)).bind fun v1 => ((tvM (A2 ninM (R.ok x_way) (R.ok (PyData.tuple [(PyData.str (Str.ofString "one")), (PyData.str (Str.ofString "all"))])))).bind fun c2 => ifT c2 (.err .refused) (R.ok PyData.none)))
/-- members(mask) -/
def py_members (x_mask : D) : R D :=
  (A1 tupleM (lcM ((R.ok (PyData.int 8)).bind rng1) (fun x_ => some x_) (fun (b1 : D) => (tvM (A2 eqM (A2 bandM (A2 shrM (R.ok x_mask) (R.ok b1)) (R.ok (PyData.int 1))) (R.ok (PyData.int 1))))) (fun (b1 : D) => (R.ok b1))))
/-- size(mask) -/
def py_size (x_mask : D) : R D :=
  (A1 lenM (A1 py_members (R.ok x_mask)))
/-- masks_by_size(many) -/
def py_masks_by_size (x_many : D) : R D :=
  ((lcM ((A2 shlM (R.ok (PyData.int 1)) (R.ok x_many)).bind rng1) (fun x_ => some x_) (fun (b1 : D) => (R.ok true)) (fun (b1 : D) => (tupM (consM (A1 py_size (R.ok b1)) (consM (A1 py_members (R.ok b1)) (consM (R.ok b1) (R.ok []))))))).bind fun v2 => (lcM (seqM (A1 sortedM (R.ok v2))) pr3 (fun (b3 : D × D × D) => (R.ok true)) (fun (b3 : D × D × D) => (R.ok b3.2.2))))
/-- check_places(graph, places) -/
def py_check_places (x_graph : D) (x_places : D) : R D :=
  ((A1 py_check_graph (R.ok x_graph)).bind fun v1 => ((notM (tvM (A1 allM (lcM (seqM (R.ok x_places)) (fun x_ => some x_) (fun (b2 : D) => (R.ok true)) (fun (b2 : D) => (chainM leM ltM (R.ok (PyData.int 0)) (R.ok b2) (A2 ixM (R.ok x_graph) (R.ok (PyData.int 0))))))))).bind fun c3 => ifT c3 (.err .refused) ((notM (tvM (A1 allM (lcM ((R.ok x_places).bind fun x_ => (slM (R.ok x_places) ((R.ok (PyData.int 1)).bind asI) (R.ok none)).bind fun y_ => zip2 x_ y_) pr2 (fun (b4 : D × D) => (R.ok true)) (fun (b4 : D × D) => (A2 ltM (R.ok b4.1) (R.ok b4.2))))))).bind fun c5 => ifT c5 (.err .refused) (R.ok PyData.none))))
/-- mask_of(places) -/
def py_mask_of (x_places : D) : R D :=
  (A1 sumM (lcM (seqM (R.ok x_places)) (fun x_ => some x_) (fun (b1 : D) => (R.ok true)) (fun (b1 : D) => (A2 shlM (R.ok (PyData.int 1)) (R.ok b1)))))
/-- _law_bad_graphs() -/
def py__law_bad_graphs : R D :=
  (lstM (consM (tupM (consM (R.ok (PyData.int 0)) (consM (tupM (R.ok [])) (R.ok [])))) (consM (tupM (consM (R.ok (PyData.int 9)) (consM (tupM (R.ok [])) (R.ok [])))) (consM (tupM (consM (R.ok (PyData.int 2)) (consM (tupM (consM (tupM (consM (R.ok (PyData.int 1)) (consM (R.ok (PyData.int 0)) (R.ok [])))) (R.ok []))) (R.ok [])))) (consM (tupM (consM (R.ok (PyData.int 2)) (consM (tupM (consM (tupM (consM (R.ok (PyData.int 0)) (consM (R.ok (PyData.int 2)) (R.ok [])))) (R.ok []))) (R.ok [])))) (consM (tupM (consM (R.ok (PyData.int 3)) (consM (tupM (consM (tupM (consM (R.ok (PyData.int 0)) (consM (R.ok (PyData.int 2)) (R.ok [])))) (consM (tupM (consM (R.ok (PyData.int 0)) (consM (R.ok (PyData.int 1)) (R.ok [])))) (R.ok [])))) (R.ok [])))) (consM (tupM (consM (R.ok (PyData.int 2)) (consM (tupM (consM (tupM (consM (R.ok (PyData.int 0)) (consM (R.ok (PyData.int 1)) (R.ok [])))) (consM (tupM (consM (R.ok (PyData.int 0)) (consM (R.ok (PyData.int 1)) (R.ok [])))) (R.ok [])))) (R.ok [])))) (consM (tupM (consM (R.ok (PyData.int 2)) (consM (tupM (consM (tupM (consM (R.ok (PyData.int 0)) (consM (R.ok (PyData.int 0)) (R.ok [])))) (R.ok []))) (R.ok [])))) (consM (tupM (consM (R.ok (PyData.int 1)) (consM (tupM (consM (tupM (consM (R.ok (PyData.int 0)) (R.ok []))) (R.ok []))) (R.ok [])))) (R.ok []))))))))))
/-- known_far(graph, place) -/
def py_known_far (x_graph : D) (x_place : D) : R D :=
  ((A1 py_near_masks (R.ok x_graph)).bind fun v1 => ((A2 mulL (lstM (consM (A1 negM (R.ok (PyData.int 1))) (R.ok []))) (A2 ixM (R.ok x_graph) (R.ok (PyData.int 0)))).bind fun v2 => ((R.ok (PyData.int 0)).bind fun v3 => (R.ok x_place).bind fun v4 => (setI v2 v4 v3).bind fun v5 => ((lstM (consM (R.ok x_place) (R.ok []))).bind fun v6 => ((R.ok (PyData.int 0)).bind fun v7 => (bindC (whileM (τ := Empty) (fun (a8 : D × D × D) => (tvM (A2 ltM (R.ok a8.2.2) (lenM a8.2.1)))) (fun (a8 : D × D × D) => ((seqM (A1 py_members (A2 ixM (R.ok v1) (A2 ixM (R.ok a8.2.1) (R.ok a8.2.2))))).bind fun xs10 => (forF (fun x_ => some x_) (fun (a11 : D × D) (b12 : D) => ((tvM (A2 eqM (A2 ixM (R.ok a11.1) (R.ok b12)) (A1 negM (R.ok (PyData.int 1))))).bind fun c13 => ifT c13 ((A2 addM (A2 ixM (R.ok a11.1) (A2 ixM (R.ok a11.2) (R.ok a8.2.2))) (R.ok (PyData.int 1))).bind fun v14 => (R.ok b12).bind fun v15 => (setI a11.1 v15 v14).bind fun v16 => ((isLM a11.2).bind fun _ => (R.ok b12).bind fun v17 => (apL a11.2 v17).bind fun v18 => (R.ok (v16, v18)))) (R.ok (a11.1, a11.2)))) xs10 (a8.1, a8.2.1)).bind fun (s19 : D × D) => ((A2 addM (R.ok a8.2.2) (R.ok (PyData.int 1))).bind fun v20 => (R.ok (.nx (s19.1, s19.2, v20)))))) FUEL (v5, v6, v7)) (fun r_ : Empty => r_.elim) fun (s21 : D × D × D) => (R.ok s21.1)))))))
/-- hangs_together(graph) -/
def py_hangs_together (x_graph : D) : R D :=
  ((A1 py_check_graph (R.ok x_graph)).bind fun v1 => (A2 ninM (A1 negM (R.ok (PyData.int 1))) (A2 py_known_far (R.ok x_graph) (R.ok (PyData.int 0)))))
/-- _law_far(graph, start) -/
def py__law_far (x_graph : D) (x_start : D) : R D :=
  ((A1 py__law_seen (R.ok x_graph)).bind fun v1 => ((A2 mulL (lstM (consM (A1 negM (R.ok (PyData.int 1))) (R.ok []))) (A2 ixM (R.ok x_graph) (R.ok (PyData.int 0)))).bind fun v2 => ((R.ok (PyData.int 0)).bind fun v3 => (R.ok x_start).bind fun v4 => (setI v2 v4 v3).bind fun v5 => ((lstM (consM (R.ok x_start) (R.ok []))).bind fun v6 => (((A2 ixM (R.ok x_graph) (R.ok (PyData.int 0))).bind rng1).bind fun xs7 => (forF (fun x_ => some x_) (fun (a8 : D × D) (b9 : D) => ((lstM (R.ok [])).bind fun v10 => ((seqM (R.ok a8.2)).bind fun xs11 => (forF (fun x_ => some x_) (fun (a12 : D × D) (b13 : D) => ((seqM (A2 ixM (R.ok v1) (R.ok b13))).bind fun xs14 => (forF (fun x_ => some x_) (fun (a15 : D × D) (b16 : D) => ((tvM (A2 eqM (A2 ixM (R.ok a15.1) (R.ok b16)) (A1 negM (R.ok (PyData.int 1))))).bind fun c17 => ifT c17 ((A2 addM (R.ok b9) (R.ok (PyData.int 1))).bind fun v18 => (R.ok b16).bind fun v19 => (setI a15.1 v19 v18).bind fun v20 => ((isLM a15.2).bind fun _ => (R.ok b16).bind fun v21 => (apL a15.2 v21).bind fun v22 => (R.ok (v20, v22)))) (R.ok (a15.1, a15.2)))) xs14 (a12.1, a12.2)).bind fun (s23 : D × D) => (R.ok (s23.1, s23.2)))) xs11 (a8.1, v10)).bind fun (s24 : D × D) => ((R.ok s24.2).bind fun v25 => (R.ok (s24.1, v25)))))) xs7 (v5, v6)).bind fun (s26 : D × D) => (R.ok s26.1))))))
/-- _law_together(graph) -/
def py__law_together (x_graph : D) : R D :=
  (A2 ninM (A1 negM (R.ok (PyData.int 1))) (A2 py__law_far (R.ok x_graph) (R.ok (PyData.int 0))))
/-- _law_block(state) -/
def py__law_block (x_state : D) : R (D × D) :=
  (((X2 addM (ls (R.ok (PyData.int 1))) (Ln2 py__law_next (X2 ixM (ls (lstM (consM (R.ok (PyData.int 2)) (consM (R.ok (PyData.int 3)) (R.ok []))))) (Ln2 py__law_next (ls (R.ok (PyData.int 2))))))) x_state).bind fun v1 => ((lstM (R.ok [])).bind fun v2 => (((R.ok v1.1).bind rng1).bind fun xs3 => (forF (fun x_ => some x_) (fun (a4 : D × D) (b5 : D) => (((X2 addM (ls (R.ok a4.2)) (lcMs (ls ((A2 addM (R.ok b5) (R.ok (PyData.int 1))).bind fun x_ => (R.ok v1.1).bind fun y_ => rng2 x_ y_)) (fun x_ => some x_) (fun (b6 : D) => (tvX (X2 eqM (Ln2 py__law_next (ls (R.ok (PyData.int 2)))) (ls (R.ok (PyData.int 0)))))) (fun (b6 : D) => (ls (tupM (consM (R.ok b5) (consM (R.ok b6) (R.ok [])))))))) a4.1).bind fun v7 => (R.ok (v7.2, v7.1)))) xs3 (v1.2, v2)).bind fun (s8 : D × D) => ((lstM (R.ok [])).bind fun v9 => (((R.ok v1.1).bind rng1).bind fun xs10 => (forF (fun x_ => some x_) (fun (a11 : D × D) (b12 : D) => (((X2 addM (ls (R.ok a11.2)) (lcMs (ls ((R.ok v1.1).bind rng1)) (fun x_ => some x_) (fun (b13 : D) => (tvX (X2 ixM (lstX (consX (ls (A2 eqM (R.ok b12) (R.ok b13))) (consX (X2 eqM (Ln2 py__law_next (ls (R.ok (PyData.int 3)))) (ls (R.ok (PyData.int 0)))) (fun z_ => R.ok ([], z_))))) (Ln2 py__law_next (ls (R.ok (PyData.int 2))))))) (fun (b13 : D) => (ls (tupM (consM (R.ok b12) (consM (R.ok b13) (R.ok [])))))))) a11.1).bind fun v14 => (R.ok (v14.2, v14.1)))) xs10 (s8.1, v9)).bind fun (s15 : D × D) => ((tupM (consM (R.ok v1.1) (consM (A1 tupleM (R.ok s8.2)) (consM (A1 tupleM (R.ok s15.2)) (R.ok []))))).bind fun v16 => R.ok (v16, s15.1)))))))
/-- check_block(block) -/
def py_check_block (x_block : D) : R D :=
  ((orM (tvM (A2 neM (A1 lenM (R.ok x_block)) (R.ok (PyData.int 3)))) (notM (tvM (chainM leM leM (R.ok (PyData.int 1)) (A2 ixM (R.ok x_block) (R.ok (PyData.int 0))) (R.ok (PyData.int 3)))))).bind fun c1 => ifT c1 (.err .refused) ((R.ok x_block).bind fun v2 => unS pr3 v2 fun (b3 : D × D × D) => ((notM (tvM (A1 allM (lcM (seqM (R.ok b3.2.1)) (fun x_ => some x_) (fun (b4 : D) => (R.ok true)) (fun (b4 : D) => (andV (A2 eqM (A1 lenM (R.ok b4)) (R.ok (PyData.int 2))) (chain3M leM ltM ltM (R.ok (PyData.int 0)) (A2 ixM (R.ok b4) (R.ok (PyData.int 0))) (A2 ixM (R.ok b4) (R.ok (PyData.int 1))) (R.ok b3.1)))))))).bind fun c5 => ifT c5 (.err .refused) ((notM (tvM (A1 allM (lcM (seqM (R.ok b3.2.2)) (fun x_ => some x_) (fun (b6 : D) => (R.ok true)) (fun (b6 : D) => (andV (A2 eqM (A1 lenM (R.ok b6)) (R.ok (PyData.int 2))) (andV (chainM leM ltM (R.ok (PyData.int 0)) (A2 ixM (R.ok b6) (R.ok (PyData.int 0))) (R.ok b3.1)) (chainM leM ltM (R.ok (PyData.int 0)) (A2 ixM (R.ok b6) (R.ok (PyData.int 1))) (R.ok b3.1))))))))).bind fun c7 => ifT c7 (.err .refused) ((seqM (tupM (consM (R.ok b3.2.1) (consM (R.ok b3.2.2) (R.ok []))))).bind fun xs8 => (forF (fun x_ => some x_) (fun (a9 : Unit) (b10 : D) => ((notM (tvM (A1 allM (lcM ((R.ok b10).bind fun x_ => (slM (R.ok b10) ((R.ok (PyData.int 1)).bind asI) (R.ok none)).bind fun y_ => zip2 x_ y_) pr2 (fun (b11 : D × D) => (R.ok true)) (fun (b11 : D × D) => (A2 ltM (R.ok b11.1) (R.ok b11.2))))))).bind fun c12 => ifT c12 (.err .refused) (R.ok ()))) xs8 ()).bind fun (s13 : Unit) => (R.ok PyData.none))))))
/-- check_length(block, length, least) -/
def py_check_length (x_block : D) (x_length : D) (x_least : D) : R D :=
  ((A1 py_check_block (R.ok x_block)).bind fun v1 => ((notM (tvM (chainM leM leM (R.ok x_least) (R.ok x_length) (R.ok (PyData.int 2000))))).bind fun c2 => ifT c2 (.err .refused) (R.ok PyData.none)))
/-- sees_all(rows, mask) -/
def py_sees_all (x_rows : D) (x_mask : D) : R D :=
  (A1 allM (lcM (seqM (R.ok x_rows)) (fun x_ => some x_) (fun (b1 : D) => (R.ok true)) (fun (b1 : D) => (A2 neM (A2 bandM (R.ok b1) (R.ok x_mask)) (R.ok (PyData.int 0))))))
end Py
set_option maxRecDepth 100000
set_option maxHeartbeats 1000000
/-! DsD: dicts: displays, what stands at a key. -/
namespace Dl
open PySem PySem.Spec L2 PyProof.Rows
set_option autoImplicit false
/-- a key of a dict as one of the model's keys -/
def keyOf : D → Option Key
  | .int i => some (.inl i)
  | .str x => some (.inr x)
  | _ => none
theorem keyOf_d (k : Key) : keyOf (keyD k) = some k := by cases k <;> rfl
theorem keyOf_eq {d : D} {k : Key} (h : keyOf d = some k) : d = keyD k := by
  cases d <;> simp [keyOf] at h <;> subst h <;> rfl
/-- what a dict with keys ints and texts holds at a key -/
def lookK (kvs : List (D × D)) (k : Key) : Option D := (kvs.find? fun p => decide (keyOf p.1 = some k)).map (·.2)
/-- d[k], and all that oIx takes -/
def oIxD : O2 := fun d e Q => match d with
  | .dict kvs => ∃ k v, keyOf e = some k ∧ lookK kvs k = some v ∧ Q v false
  | _ => oIx d e Q
/-- {k: v, ..}: keys that are written so -/
def wDct (ks : List Key) (t : WA) : WE := fun ρ Q => t ρ fun ds ρ1 => Q (.dict ((ks.map keyD).zip ds)) true ρ1
section
variable {K : PySem.W.Frag} {F H : Hp}
theorem lookK_at : ∀ {kv : List (Key × V)} {vs : List D} {k : Key} {d : D}, AtL K F (kv.map (·.2)) vs → lookK ((kv.map fun p => keyD p.1).zip vs) k = some d → ∃ v, valV kv k = some v ∧ At K F v d
  | [], _, k, d, _, h => by simp [lookK] at h
  | p :: kv, [], k, d, a, h => by simp [lookK] at h
  | p :: kv, v :: vs, k, d, a, h => by
    cases a with
    | cons a1 a2 =>
      unfold lookK valV at *
      rw [List.map_cons, List.zip_cons_cons, List.find?_cons] at h
      rw [List.find?_cons]
      simp only [keyOf_d, Option.some.injEq] at h
      by_cases e : p.1 = k
      · simp [e] at h ⊢
        subst h; exact a1
      · simp only [e, decide_false] at h ⊢
        exact lookK_at a2 h
theorem Pk.dict {v : V} {kvs : List (D × D)} (p : Pk K F H v (.dict kvs)) (sub : Sub F H) (nl : ∀ xs, kvs ≠ [(.none, .list xs)]) :
    ∃ a, v = .ref a ∧ ((∃ (kv : List (Key × V)) (vs : List D), H a = some (.dK kv) ∧ AtL K F (kv.map (·.2)) vs ∧ kvs = (kv.map fun p => keyD p.1).zip vs) ∨
      ∃ (kv : List (List Key × V)) (vs : List D), H a = some (.dT kv) ∧ AtL K F (kv.map (·.2)) vs ∧ kvs = (kv.map fun p => PyData.tuple (p.1.map keyD)).zip vs) := by
  rcases p with h | ⟨o, f⟩
  · generalize hd : PyData.dict kvs = d at h
    cases h with
    | scr s l z => cases hd; exact absurd rfl (nl _)
    | dK s k l => cases hd; subst k; exact ⟨_, rfl, .inl ⟨_, _, sub _ _ s, l, rfl⟩⟩
    | dT s k l => cases hd; subst k; exact ⟨_, rfl, .inr ⟨_, _, sub _ _ s, l, rfl⟩⟩
    | _ => cases hd
  · rcases o with ⟨kv, ks, vs, q, k, t, z⟩ | ⟨kv, ks, vs, q, k, t, z⟩
    · subst k; exact ⟨_, rfl, .inl ⟨kv, vs, q, t, z⟩⟩
    · subst k; exact ⟨_, rfl, .inr ⟨kv, vs, q, t, z⟩⟩
/-- an entry of a dict -/
def rIxDK (K : PySem.W.Frag) : R2 := fun x y H Q => (∃ a v, x = .ref a ∧ DGet H a y (some v) ∧ Q v H) ∨ rIxX K x y H Q
theorem ix_dK {X : Cx} (hu : X.A.units + 1 < cLine) : IxR X (rIxDK X.K) := by
  refine IxR.or ?_ ix_X
  intro value slice pins s σ H x y v u Q I rx ry h hs
  obtain ⟨a, z, rfl, g, q⟩ := h
  obtain rfl : v = Value.ref a := rx
  have hT := dict_typeIs I g
  unfold subscriptTail
  refine wpAny_bind ?_
  rw [getitemInPython_of_ne hT.not_modules]
  refine wpAny_bind (wpAny_specialOf hT PySem.F.slot_dict_getitem.lookup ?_)
  have fin : wpAny (model X.prog X.w) X.A (subscripted slice false (.ref a) u) (fun r s₃ => wpAny (model X.prog X.w) X.A (letTemporaryGo value (.ref a) r >>= fun _ => pure r) (EP X pins σ Q) X.xe s₃) X.xe s := by
    rw [hs]
    exact wpAny_operating (d_getItem hu I g ry fun w' s3 I3 rw' => wpAny_bind (wpAny_letTemporaryGo (wpAny_pure ⟨z, H, I3, rw', q⟩)))
  first
    | exact wpAny_pure (wpAny_bind fin)
    | exact wpAny_bind (wpAny_pure (wpAny_bind fin))
    | exact wpAny_bind fin
theorem sv_ixD : SimV2 K (rIxDK K) oIxD := fun F H v u d e Qd Q sub p q ho k => by
  unfold oIxD at ho
  split at ho
  · rename_i kvs
    obtain ⟨key, w, hk, hl, hq⟩ := ho
    have he := keyOf_eq hk
    subst he
    have nl : ∀ xs, kvs ≠ [(.none, .list xs)] := fun xs e => by subst e; simp [lookK, keyOf] at hl
    have hu : u = kV key := by
      cases key with
      | inl i => exact q.int
      | inr x => exact q.str
    obtain ⟨a, rfl, ⟨kv, vs, ea, l, rfl⟩ | ⟨kv, vs, ea, l, rfl⟩⟩ := p.dict sub nl
    · obtain ⟨z, hz, az⟩ := lookK_at l hl
      refine .inl ⟨a, z, rfl, ?_, k _ false _ F H hq (Gr.same sub) (New.at az)⟩
      rw [hu, ← hz]
      exact DGet.k ea
    · exfalso
      unfold lookK at hl
      rw [Option.map_eq_some_iff] at hl
      obtain ⟨p, hp, _⟩ := hl
      have h1 := List.find?_some hp
      have h2 := List.mem_of_find?_eq_some hp
      have h3 := (List.of_mem_zip h2).1
      simp only [List.mem_map] at h3
      obtain ⟨z, _, hz⟩ := h3
      rw [← hz] at h1
      simp [keyOf] at h1
  · exact .inr (sv_ix F H v u _ e Qd Q sub p q ho k)
end
section
variable {X : Cx} {EA : EAT} {E : Exc → Prop} {EH : XK} {a b e : Expr} {wa wb w : WE} {i : Nat} {pos : Pos}
theorem de_ixD (hu : X.A.units + 64 < cLine) (ha : DE X EA E EH a wa) (hb : DE X EA E EH b wb) (hs : PlainIx b := by exact fun _ _ => rfl) : DE X EA E EH (.Subscript a b pos) (wB oIxD wa wb) := by
  obtain ⟨ta, pa, sa⟩ := ha.ex
  obtain ⟨tb, pb, sb⟩ := hb.ex
  exact ⟨_, pe_ix (ix_dK (by omega)) pa pb hs, sim_b sa sb sv_ixD⟩
theorem de_ixDN (hu : X.A.units + 64 < cLine) (ha : DN X a i) (hb : DE X EA E EH b wb) (hs : PlainIx b := by exact fun _ _ => rfl) : DE X EA E EH (.Subscript a b pos) (wBL oIxD i wb) := by
  obtain ⟨tb, pb, sb⟩ := hb.ex
  exact ⟨_, pe_ix (ix_dK (by omega)) ha.ex pb hs, sim_bL sb sv_ixD⟩
/-! #### displays -/
def SimPs (K : PySem.W.Frag) (EA : EAT) (E : Exc → Prop) (EH : XK) (trs : List (TE × TE)) (ks : List Key) (w : WA) : Prop := ∀ (G : Gm), XA EA E EH G → ∀ (ρ : Env) (F : Hp) (σ : L2.St) (H : Hp), Rl K G ρ F σ H → ∀ (Qd : List D → Env → Prop) (Q : List (V × V) → Hp → Prop), w ρ Qd →
  (∀ ds ρ' vs F' H', Qd ds ρ' → Rl K G ρ' F' σ H' → Sub F F' → AtL K F' vs ds → vs.length = ks.length → Q ((ks.zip vs).map fun p => (kV p.1, p.2)) H') → tPairs trs σ H Q
structure DPs (X : Cx) (EA : EAT) (E : Exc → Prop) (EH : XK) (pos : Pos) (keys : List (Option Expr)) (values : List Expr) (ks : List Key) (w : WA) : Prop where
  ex : ∃ trs, PPs X pos keys values trs ∧ SimPs X.K EA E EH trs ks w
theorem dps_nil : DPs X EA E EH pos [] [] [] wNil := ⟨[], pps_nil, fun G xa ρ F σ H R Qd Q h k => k [] ρ [] F H h R (Sub.refl _) .nil rfl⟩
theorem dps_cons {kx : Expr} {k : Key} {keys : List (Option Expr)} {values : List Expr} {ks : List Key} {t : WA} (hk : PE X kx (tC (kV k))) (hv : DE X EA E EH e w) (hr : DPs X EA E EH pos keys values ks t) :
    DPs X EA E EH pos (some kx :: keys) (e :: values) (k :: ks) (wCons w t) := by
  obtain ⟨te, pe, se⟩ := hv.ex
  obtain ⟨trs, pr, sr⟩ := hr.ex
  refine ⟨_, pps_cons hk pe pr, fun G xa ρ F σ H R Qd Q h k' => ?_⟩
  show tPairs _ σ H Q
  refine se.run xa R (Qd := fun d ρ1 => t ρ1 fun ds ρ2 => Qd (d :: ds) ρ2) h fun d ρ1 v F1 H1 h1 R1 s1 a1 => ?_
  refine sr G xa ρ1 F1 σ H1 R1 _ _ h1 fun ds ρ2 vs F2 H2 q R2 s2 a2 hl => ?_
  exact k' (d :: ds) ρ2 (v :: vs) F2 H2 q R2 (s1.trans s2) (.cons (a1.mono s2) a2) (by rw [List.length_cons, List.length_cons, hl])
theorem putK_newD {kvs : List (Key × V)} {k : Key} {v : V} (h : k ∉ kvs.map (·.1)) : L2.putK kvs k v = kvs ++ [(k, v)] := by
  unfold L2.putK
  rw [if_neg]
  intro z
  rw [List.any_eq_true] at z
  obtain ⟨p, hp, e⟩ := z
  exact h (List.mem_map.mpr ⟨p, hp, of_decide_eq_true e⟩)
theorem mergeK_new : ∀ (more kvs : List (Key × V)), (more.map (·.1)).Nodup → (∀ p ∈ more, p.1 ∉ kvs.map (·.1)) → mergeK kvs more = kvs ++ more
  | [], kvs, _, _ => (List.append_nil _).symm
  | p :: more, kvs, n, h => by
    rw [List.map_cons, List.nodup_cons] at n
    show mergeK (L2.putK kvs p.1 p.2) more = _
    rw [putK_newD (h p List.mem_cons_self), mergeK_new more _ n.2 fun q hq z => ?_, List.append_assoc]
    · rfl
    · rw [List.map_append, List.mem_append] at z
      rcases z with z | z
      · exact h q (List.mem_cons_of_mem _ hq) z
      · simp at z
        exact n.1 (z ▸ List.mem_map.mpr ⟨q, hq, rfl⟩)
open Classical in
theorem de_dct {keys : List (Option Expr)} {values : List Expr} {ks : List Key} {t : WA} (h : DPs X EA E EH pos keys values ks t) (nd : ks.Nodup := by decide) (hall : keys.all (·.isSome) = true := by rfl) (hl : keys.length = values.length := by rfl) (h0 : keys ≠ [] := by exact fun z => nomatch z)
    (h15 : keys.length ≤ 15 := by decide) (h15' : ks.length ≤ 15 := by decide) : DE X EA E EH (.Dict keys values pos) (wDct ks t) := by
  obtain ⟨trs, pr, sr⟩ := h.ex
  refine ⟨_, pe_disp pr hall hl h0 h15, fun G xa ρ F σ H R Qd Q h k => ?_⟩
  intro p hp
  have nb : ∀ i, G.b i ≠ some p := fun i e => (R.bh i p e).1 hp
  have hF : F p = none := sub_none R.sub hp
  have R1 : Rl X.K G ρ F σ (upd H p (.dK [])) := R.grow (Gr.own R.sub hp)
  have hP : (upd H p (.dK [])) p = some (.dK []) := upd_same
  have hPn : (upd H p (.dK [])) p ≠ none := by rw [hP]; exact fun z => nomatch z
  have hPt : ∀ o, (upd H p (.dK [])) p = some o → NT o := fun o e => by rw [hP] at e; cases e; exact fun ps z => nomatch z
  have L : Rl X.K (G.lock F (upd H p (.dK [])) (· = p)) ρ F σ (upd H p (.dK [])) := R1.lock fun i d a e s z => by
    subst z
    obtain ⟨v, hv, a', rfl, _, w', _⟩ := R.sl i _ e
    rw [s] at hv; cases hv
    exact w'.ne hp
  refine sr _ (xa.lock R1) ρ F σ _ L _ _ h fun ds ρ' vs F' H' q R' sf a hlen => ?_
  have eP : H' p = some (.dK []) := R'.locked rfl hP nb
  have fP : F' p = none := R'.lockedF rfl hPn hPt hF
  have oP : ∀ {i : Nat} {d : D}, ρ'[i]? = some (some (EV.ow d)) → σ[i]? ≠ some (some (V.ref p)) := fun {i d} e => R'.lockedO rfl hPn hPt e
  have R2 : Rl X.K G ρ' F' σ H' := R1.unlock R'
  have hm : mergeK [] (ks.zip vs) = ks.zip vs := by
    have e1 : (ks.zip vs).map (·.1) = ks := List.map_fst_zip (by omega)
    rw [mergeK_new _ _ (by rw [e1]; exact nd) (fun _ _ z => by simp at z)]
    rfl
  refine ⟨eP, ks.zip vs, rfl, by rw [List.length_zip]; omega, ?_⟩
  rw [hm]
  have nt : NT (.dK []) := fun ps z => nomatch z
  have R3 : Rl X.K G ρ' F' σ (upd H' p (.dK (ks.zip vs))) := by
    refine ⟨R2.len, fun b o e => ?_, R2.mono, ⟨fun b o e n => ?_, Tabs_upd eP nt (fun c q z => by unfold LamX.CodeO at z; cases z) R2.fr.2⟩, R2.nw, fun i b e => ⟨?_, (R2.bh i b e).2⟩, R2.bi, R2.bs, fun i e q => ?_, R2.inj, R2.ft⟩
    · by_cases z : b = p
      · subst z; rw [fP] at e; cases e
      · rw [upd_ne z]; exact R2.sub b o e
    · by_cases z : b = p
      · subst z; rw [R.h0 hp] at e; cases e
      · rw [upd_ne z]; exact R2.fr.1 b o e n
    · by_cases z : b = p
      · subst z; exact absurd e (nb i)
      · rw [upd_ne z]; exact (R2.bh i b e).1
    · obtain ⟨v, hv, s⟩ := R2.sl i e q
      refine ⟨v, hv, ?_⟩
      cases e with
      | sh d => exact s
      | ow d =>
        obtain ⟨b, rfl, f, o, z⟩ := s
        have ne : b ≠ p := by rintro rfl; exact oP q hv
        exact ⟨b, rfl, f, o.mono (Sub.refl _) (fun u e => by rw [upd_ne ne]; exact e), z⟩
      | bo d =>
        obtain ⟨b, rfl, f, o, z⟩ := s
        have ne : b ≠ p := by rintro rfl; exact nb i z
        exact ⟨b, rfl, f, o.mono (Sub.refl _) (fun u e => by rw [upd_ne ne]; exact e), z⟩
  refine k _ true ρ' (.ref p) F' _ q R3 sf ?_
  unfold Res
  rw [if_pos rfl]
  refine ⟨p, rfl, fP, .inl ⟨ks.zip vs, ks.map keyD, ds, upd_same, ?_, ?_, rfl⟩, R.h0 hp, fun i e z => oP z⟩
  · rw [show (fun p : Key × V => keyD p.1) = keyD ∘ Prod.fst from rfl, ← List.map_map, List.map_fst_zip (by omega)]
  · rw [List.map_snd_zip (by omega)]; exact a
end
/-! #### as plain functions -/
section
open R
variable {E : Exc → Prop} {Γ : Fr}
def ixDM : D → D → R D
  | .dict kvs, e => (optR (keyOf e)).bind fun k => optR (lookK kvs k)
  | d, e => ixM d e
theorem so_ixD : SO2 oIxD ixDM := fun d e Q E q => by
  unfold ixDM at q
  unfold oIxD
  split at q
  · have q := ev_bind q
    obtain ⟨k, hk, q⟩ := opt_ev q
    obtain ⟨v, hv, q⟩ := opt_ev q
    exact ⟨k, v, hk, hv, q _⟩
  · rename_i h1
    split
    · rename_i kvs; exact absurd rfl (h1 kvs)
    · exact so_ix _ _ _ _ q
def dctM (ks : List Key) (m : R (List D)) : R D := m.bind fun ds => .ok (.dict ((ks.map keyD).zip ds))
theorem sef_dct {ks : List Key} {t : WA} {mt : R (List D)} (ht : SA E t Γ mt) : SEF E (wDct ks t) Γ (dctM ks mt) := fun ρ Q f q =>
  ht ρ _ f (ev_mono (ev_bind q) fun ds q ρ1 f1 => q ρ1 f1)
end
end Dl
set_option maxRecDepth 100000
set_option maxHeartbeats 1000000
/-! DsM: several names at once, some of them with new objects that the frame may change. -/
namespace Dl
open PySem PySem.Spec L2 PyProof.Rows
set_option autoImplicit false
abbrev WM := Env → (List (D × Bool) → Env → Prop) → Prop
def wmNil : WM := fun ρ Q => Q [] ρ
def wmCons (a : WE) (t : WM) : WM := fun ρ Q => a ρ fun d f ρ1 => t ρ1 fun ds ρ2 => Q ((d, f) :: ds) ρ2
def putL (ρ : Env) : List Nat → List (D × Bool) → Env
  | i :: is, p :: ds => putL (setE ρ i p.1 p.2) is ds
  | _, _ => ρ
def wMul (is : List Nat) (t : WM) : WS := fun P ρ => t ρ fun ds ρ1 => ds.length = is.length ∧ frees ρ1 is ∧ P.nx (putL ρ1 is ds)
section
variable {K : PySem.W.Frag} {EA : EAT} {E : Exc → Prop} {EH : XK} {G : Gm} {ρ : Env} {F H : Hp} {σ : L2.St} {ta : TE} {tr : TA} {w : WE} {t : WM}
/-- several results, the new ones apart -/
def ResL (K : PySem.W.Frag) (G : Gm) (ρ : Env) (F : Hp) (σ : L2.St) (H : Hp) : List (D × Bool) → List V → Prop
  | [], [] => True
  | p :: ds, v :: vs => Res K G ρ F σ H p.2 p.1 v ∧ (p.2 = true → ∀ q ∈ ds.zip vs, q.1.2 = true → q.2 ≠ v) ∧ ResL K G ρ F σ H ds vs
  | _, _ => False
theorem ResL.len : ∀ {ds : List (D × Bool)} {vs : List V}, ResL K G ρ F σ H ds vs → vs.length = ds.length
  | [], [], _ => rfl
  | _ :: _, _ :: _, h => congrArg (· + 1) h.2.2.len
  | [], _ :: _, h => h.elim
  | _ :: _, [], h => h.elim
theorem ResL.fresh : ∀ {ds : List (D × Bool)} {vs : List V}, ResL K G ρ F σ H ds vs → ∀ q ∈ ds.zip vs, q.1.2 = true → ∃ p, q.2 = .ref p ∧ G.H0 p = none
  | [], [], _, q, h, _ => by simp at h
  | p :: ds, v :: vs, h, q, hq, e => by
    rw [List.zip_cons_cons] at hq
    rcases List.mem_cons.mp hq with rfl | hq
    · have r := h.1
      unfold Res at r
      rw [if_pos e] at r
      obtain ⟨a, rfl, _, _, n, _⟩ := r
      exact ⟨a, rfl, n⟩
    · exact h.2.2.fresh q hq e
def SimM (K : PySem.W.Frag) (EA : EAT) (E : Exc → Prop) (EH : XK) (ta : TA) (w : WM) : Prop := ∀ (G : Gm), XA EA E EH G → ∀ (ρ : Env) (F : Hp) (σ : L2.St) (H : Hp), Rl K G ρ F σ H → ∀ (Qd : List (D × Bool) → Env → Prop) (Q : List V → Hp → Prop), w ρ Qd →
  (∀ ds ρ' vs F' H', Qd ds ρ' → Rl K G ρ' F' σ H' → Sub F F' → ResL K G ρ' F' σ H' ds vs → Q vs H') → ta σ H Q
theorem sim_mnil : SimM K EA E EH tNil wmNil := fun G xa ρ F σ H R Qd Q h k => k [] ρ [] F H h R (Sub.refl _) trivial
theorem ResL.unlock {ρ' : Env} {F' H' : Hp} {p : Addr → Prop} (R : Rl K G ρ F σ H) : ∀ {ds : List (D × Bool)} {vs : List V}, ResL K (G.lock F H p) ρ' F' σ H' ds vs → ResL K G ρ' F' σ H' ds vs
  | [], [], _ => trivial
  | _ :: _, _ :: _, h => ⟨R.unres h.1, h.2.1, h.2.2.unlock R⟩
  | [], _ :: _, h => h.elim
  | _ :: _, [], h => h.elim
open Classical in
theorem sim_mcons (sa : SimE K EA E EH ta w) (sr : SimM K EA E EH tr t) : SimM K EA E EH (tCons ta tr) (wmCons w t) := fun G xa ρ F σ H R Qd Q h k =>
  sa G xa ρ F σ H R _ _ h fun d f ρ1 v F1 H1 h1 R1 s1 r1 => by
    cases f with
    | false =>
      refine sr G xa ρ1 F1 σ H1 R1 _ _ h1 fun ds ρ2 vs F2 H2 q R2 s2 a2 => k _ ρ2 (v :: vs) F2 H2 q R2 (s1.trans s2) ⟨?_, (by intro z; cases z), a2⟩
      unfold Res at r1
      rw [if_neg Bool.false_ne_true] at r1
      exact Res.at (r1.mono s2)
    | true =>
      have r1' := r1
      unfold Res at r1
      rw [if_pos rfl] at r1
      obtain ⟨p, rfl, fp, o, n0, no⟩ := r1
      have nb : ∀ i, G.b i ≠ some p := fun i e => (R1.bh i p e).2 n0
      obtain ⟨u, hu, hnt, _⟩ := o.plainO
      have hPn : H1 p ≠ none := by rw [hu]; exact fun z => nomatch z
      have hPt : ∀ o, H1 p = some o → NT o := fun o' e => by rw [hu] at e; cases e; exact hnt
      have L : Rl K (G.lock F1 H1 (· = p)) ρ1 F1 σ H1 := R1.lock fun i d' a e s z => by subst z; exact no i d' e s
      refine sr _ (xa.lock R1) ρ1 F1 σ H1 L _ _ h1 fun ds ρ2 vs F2 H2 q R2 s2 a2 => ?_
      have eP : H2 p = some u := R2.locked rfl hu nb hnt
      have fP : F2 p = none := R2.lockedF rfl hPn hPt fp
      have oP : ∀ {i : Nat} {d : D}, ρ2[i]? = some (some (EV.ow d)) → σ[i]? ≠ some (some (V.ref p)) := fun {i d} e => R2.lockedO rfl hPn hPt e
      refine k ((d, true) :: ds) ρ2 (.ref p :: vs) F2 H2 q (R1.unlock R2) (s1.trans s2) ⟨?_, fun _ z hz hzt e => ?_, a2.unlock R1⟩
      · unfold Res
        rw [if_pos rfl]
        exact ⟨p, rfl, fP, o.mono s2 (fun o' e => by rw [hu] at e; cases e; exact eP), n0, fun i e z => oP z⟩
      · obtain ⟨a, ha, hn⟩ := a2.fresh z hz hzt
        rw [ha] at e; cases e
        have hz : (G.lock F1 H1 (· = p)).H0 p = some u := lock_in rfl hu hnt
        rw [hz] at hn; cases hn
theorem frees_put {i : Nat} {d : D} {f : Bool} : ∀ {is : List Nat} {ρ : Env}, i ∉ is → frees ρ is → frees (setE ρ i d f) is
  | [], _, _, _ => trivial
  | j :: is, ρ, hi, h => by
    refine ⟨?_, frees_put (fun z => hi (List.mem_cons_of_mem _ z)) h.2⟩
    have hj := h.1
    have ne : i ≠ j := fun e => hi (e ▸ List.mem_cons_self)
    unfold setE free at *
    rw [List.getElem?_set_ne ne]
    exact hj
theorem Res.put {i : Nat} {d e : D} {f g : Bool} {u v : V} (R : Rl K G ρ F σ H) (h : free ρ i) (r : Res K G ρ F σ H g e u) (hd : f = true → g = true → u ≠ v) : Res K G (setE ρ i d f) F (σ.set i (some v)) H g e u := by
  cases g with
  | false => exact r
  | true =>
    unfold Res at r ⊢
    rw [if_pos rfl] at r ⊢
    obtain ⟨p, rfl, fp, o, n0, no⟩ := r
    refine ⟨p, rfl, fp, o, n0, fun j e' q z => ?_⟩
    obtain ⟨hi, _⟩ := free_lt h
    have hi' : i < σ.length := by rw [R.len]; exact hi
    unfold setE at q
    by_cases ej : i = j
    · subst ej
      rw [List.getElem?_set_self hi] at q
      rw [List.getElem?_set_self hi'] at z
      cases f with
      | false => cases q
      | true => cases z; exact hd rfl rfl rfl
    · rw [List.getElem?_set_ne ej] at q z
      exact no j e' q z
theorem ResL.put {i : Nat} {d : D} {f : Bool} {v : V} (R : Rl K G ρ F σ H) (h : free ρ i) : ∀ {ds : List (D × Bool)} {vs : List V}, (f = true → ∀ q ∈ ds.zip vs, q.1.2 = true → q.2 ≠ v) → ResL K G ρ F σ H ds vs → ResL K G (setE ρ i d f) F (σ.set i (some v)) H ds vs
  | [], [], _, _ => trivial
  | p :: ds, u :: us, hd, r => ⟨r.1.put R h fun e g => hd e (p, u) (by rw [List.zip_cons_cons]; exact List.mem_cons_self) g, r.2.1, r.2.2.put R h fun e q hq => hd e q (by rw [List.zip_cons_cons]; exact List.mem_cons_of_mem _ hq)⟩
  | [], _ :: _, _, r => r.elim
  | _ :: _, [], _, r => r.elim
theorem Res.grown {H' : Hp} {d : D} {f : Bool} {v : V} (g : Gr F H F H') (r : Res K G ρ F σ H f d v) : Res K G ρ F σ H' f d v := by
  cases f with
  | false => exact r
  | true =>
    unfold Res at r ⊢
    rw [if_pos rfl] at r ⊢
    obtain ⟨p, rfl, fp, o, n0, no⟩ := r
    exact ⟨p, rfl, fp, o.mono (Sub.refl _) (fun o e => g.hh _ _ e), n0, no⟩
theorem ResL.grown {H' : Hp} (g : Gr F H F H') : ∀ {ds : List (D × Bool)} {vs : List V}, ResL K G ρ F σ H ds vs → ResL K G ρ F σ H' ds vs
  | [], [], _ => trivial
  | _ :: _, _ :: _, r => ⟨r.1.grown g, r.2.1, r.2.2.grown g⟩
  | [], _ :: _, r => r.elim
  | _ :: _, [], r => r.elim
def putV (σ : L2.St) : List Nat → List V → L2.St
  | i :: is, v :: vs => putV (σ.set i (some v)) is vs
  | _, _ => σ
theorem ResL.puts : ∀ {is : List Nat} {ρ : Env} {σ : L2.St} {ds : List (D × Bool)} {vs : List V}, is.Nodup → ds.length = is.length → Rl K G ρ F σ H → frees ρ is → ResL K G ρ F σ H ds vs → Rl K G (putL ρ is ds) F (putV σ is vs) H
  | [], _, _, [], [], _, _, R, _, _ => R
  | i :: is, ρ, σ, p :: ds, v :: vs, n, l, R, h, r => by
    rw [List.nodup_cons] at n
    show Rl K G (putL (setE ρ i p.1 p.2) is ds) F (putV (σ.set i (some v)) is vs) H
    exact ResL.puts n.2 (by simpa using l) (R.put h.1 r.1) (frees_put n.1 h.2) (r.2.2.put R h.1 r.2.1)
  | [], _, _, _ :: _, _, _, l, _, _, _ => by simp at l
  | _ :: _, _, _, [], _, _, l, _, _, _ => by simp at l
  | _ :: _, _, _, _ :: _, [], _, _, _, _, r => r.elim
  | [], _, _, [], _ :: _, _, _, _, _, r => r.elim
end
section
variable {X : Cx} {EA : EAT} {E : Exc → Prop} {EH : XK} {a b c e : Expr} {w : WE} {es : List Expr} {t : WM} {pos : Pos}
structure DMs (X : Cx) (EA : EAT) (E : Exc → Prop) (EH : XK) (es : List Expr) (w : WM) : Prop where
  ex : ∃ ta, PA X es ta ∧ SimM X.K EA E EH ta w
theorem dm_nil : DMs X EA E EH [] wmNil := ⟨_, pa_nil, sim_mnil⟩
theorem dm_cons (ha : DE X EA E EH e w) (hr : DMs X EA E EH es t) (hs : starEach (e :: es) X.env = (false, eval e X.env) :: starEach es X.env := by rfl) : DMs X EA E EH (e :: es) (wmCons w t) := by
  obtain ⟨ta, pa, sa⟩ := ha.ex
  obtain ⟨tr, pr, sr⟩ := hr.ex
  exact ⟨_, pa_cons pa pr hs, sim_mcons sa sr⟩
theorem ds_mul2 (i j : Nat) {x y : Str} {px py pt : Pos} {kt k2 : Nat} {pt2 : Pos} (hc : X.calm = true) (hN : X.N.Nodup) (h : DMs X EA E EH [a, b] t) (hij : i ≠ j) (hi : X.N[i]? = some x := by rfl) (hj : X.N[j]? = some y := by rfl)
    (hx : X.env.scope.names.lookup x = some .local := by rfl) (hy : X.env.scope.names.lookup y = some .local := by rfl)
    (hw : swappedStores [.Tuple [.Name x px, .Name y py] kt pt] (.Tuple [a, b] k2 pt2) X.env = pure (some [x, y]) := by rfl) (hs : swapsWithSole [.Tuple [.Name x px, .Name y py] kt pt] (.Tuple [a, b] k2 pt2) pos.line X.env = pure false := by rfl) :
    DS X EA E EH (.Assign [.Tuple [.Name x px, .Name y py] kt pt] (.Tuple [a, b] k2 pt2) pos) (wMul [i, j] t) := by
  obtain ⟨ta, pa, sa⟩ := h.ex
  refine ⟨_, ps_par hc hN hi hj hij hx hy pa hw hs, fun G xa ρ F σ H R P Dn h L => ?_⟩
  refine sa G xa ρ F σ H R _ _ h fun ds ρ1 vs F1 H1 h1 R1 s1 r1 => ?_
  obtain ⟨hl, hf, q⟩ := h1
  have hv := r1.len
  match vs, hv with
  | [v, u], _ => exact ⟨v, u, rfl, L.nx _ F1 _ H1 q (ResL.puts (by simp; exact hij) hl R1 hf r1)⟩
  | [], hv => rw [hl] at hv; simp at hv
  | [_], hv => rw [hl] at hv; simp at hv
  | _ :: _ :: _ :: _, hv => rw [hl] at hv; simp at hv
theorem ds_mul3 (i j l : Nat) {x y z : Str} {px py pz pt : Pos} {kt k2 : Nat} {pt2 : Pos} (hc : X.calm = true) (hN : X.N.Nodup) (h : DMs X EA E EH [a, b, c] t) (hij : i ≠ j) (hil : i ≠ l) (hjl : j ≠ l) (hi : X.N[i]? = some x := by rfl) (hj : X.N[j]? = some y := by rfl) (hl : X.N[l]? = some z := by rfl)
    (hx : X.env.scope.names.lookup x = some .local := by rfl) (hy : X.env.scope.names.lookup y = some .local := by rfl) (hz : X.env.scope.names.lookup z = some .local := by rfl)
    (hw : swappedStores [.Tuple [.Name x px, .Name y py, .Name z pz] kt pt] (.Tuple [a, b, c] k2 pt2) X.env = pure (some [x, y, z]) := by rfl) (hs : swapsWithSole [.Tuple [.Name x px, .Name y py, .Name z pz] kt pt] (.Tuple [a, b, c] k2 pt2) pos.line X.env = pure false := by rfl) :
    DS X EA E EH (.Assign [.Tuple [.Name x px, .Name y py, .Name z pz] kt pt] (.Tuple [a, b, c] k2 pt2) pos) (wMul [i, j, l] t) := by
  obtain ⟨ta, pa, sa⟩ := h.ex
  refine ⟨_, ps_par3 hc hN hi hj hl hij hil hjl hx hy hz pa hw hs, fun G xa ρ F σ H R P Dn h L => ?_⟩
  refine sa G xa ρ F σ H R _ _ h fun ds ρ1 vs F1 H1 h1 R1 s1 r1 => ?_
  obtain ⟨hl, hf, q⟩ := h1
  have hv := r1.len
  match vs, hv with
  | [v, u, o], _ => exact ⟨v, u, o, rfl, L.nx _ F1 _ H1 q (ResL.puts (by simp; exact ⟨⟨hij, hil⟩, hjl⟩) hl R1 hf r1)⟩
  | [], hv => rw [hl] at hv; simp at hv
  | [_], hv => rw [hl] at hv; simp at hv
  | [_, _], hv => rw [hl] at hv; simp at hv
  | _ :: _ :: _ :: _ :: _, hv => rw [hl] at hv; simp at hv
/-- names as targets -/
def gNames : List Nat → TGs
  | [] => L2.gNil
  | i :: is => L2.gCons (gName i) (gNames is)
theorem gNames_run : ∀ {is : List Nat} {vs : List V} {σ : L2.St} {H : Hp} {Q : L2.St → Hp → Prop}, vs.length = is.length → Q (putV σ is vs) H → gNames is vs σ H Q
  | [], [], _, _, _, _, q => ⟨rfl, q⟩
  | i :: is, v :: vs, σ, H, Q, l, q => ⟨v, vs, rfl, gNames_run (by simpa using l) q⟩
  | [], _ :: _, _, _, _, l, _ => by simp at l
  | _ :: _, [], _, _, _, l, _ => by simp at l
theorem ds_unp (is : List Nat) {ts : List Expr} {kt k2 n : Nat} {pt pt2 : Pos} (hc : X.calm = true) (nd : is.Nodup) (h : DMs X EA E EH es t) (hp : PGs X ts (gNames is)) (hln : is.length = n) (hn : (assignEach ts X.env).length = n := by rfl) (hst : (assignEach ts X.env).findIdx? (·.1) = none := by rfl)
    (hlim : n ≤ 100) (hs : swapsWithSole [.Tuple ts kt pt] (.Tuple es k2 pt2) pos.line X.env = pure false := by rfl) (hw : swappedStores [.Tuple ts kt pt] (.Tuple es k2 pt2) X.env = pure none := by rfl) (h1 : (assignEach [.Tuple ts kt pt] X.env).map (·.2) = [assign (.Tuple ts kt pt) X.env] := by rfl) :
    DS X EA E EH (.Assign [.Tuple ts kt pt] (.Tuple es k2 pt2) pos) (wMul is t) := by
  obtain ⟨ta, pa, sa⟩ := h.ex
  refine ⟨_, ps_asg (pe_tup pa) (pg_tup hc hp hn hst) hs hw h1, fun G xa ρ F σ H R P Dn h L => ?_⟩
  refine sa G xa ρ F σ H R _ _ h fun ds ρ1 vs F1 H1 h1 R1 s1 r1 => ?_
  obtain ⟨hl, hf, q⟩ := h1
  have hv := r1.len
  refine ⟨by show _ ≤ sizeLine; rw [sizeLine_eq]; omega, fun p hp => ⟨p, vs, rfl, .inl (.inl upd_same), by omega, ?_⟩⟩
  have g : Gr F1 H1 F1 (upd H1 p (.tup vs)) := Gr.own R1.sub hp
  have r2 : ResL X.K G ρ1 F1 σ (upd H1 p (.tup vs)) ds vs := r1.grown g
  exact gNames_run (by omega) (L.nx _ F1 _ _ q (ResL.puts nd hl (R1.grow g) hf r2))
structure PNs (X : Cx) (es : List Expr) (is : List Nat) : Prop where
  pg : PGs X es (gNames is)
theorem pns_nil : PNs X [] [] := ⟨pgs_nil⟩
theorem pns_cons {x : Str} {i : Nat} {is : List Nat} {p : Pos} (hN : X.N.Nodup) (hr : PNs X es is) (hi : X.N[i]? = some x := by rfl) (hx : Loc X.env.scope x := by first | exact Or.inl rfl | exact Or.inr rfl) (hf : X.fn x = true ∨ X.env.scope.names.lookup x = some .local := by first | exact .inl rfl | exact .inr rfl)
    (h1 : (assignEach (.Name x p :: es) X.env).map (·.2) = assign (.Name x p) X.env :: (assignEach es X.env).map (·.2) := by rfl) : PNs X (.Name x p :: es) (i :: is) := ⟨pgs_cons (pg_name hN hi hx hf) hr.pg h1⟩
end
/-! #### as plain functions -/
section
open R
variable {γ : Type} {E : Exc → Prop} {Γ : Fr} {K : Po → γ → Prop} {rest : WS} {wa wb wc wd : WE} {ma mb mc md : R D}
def SEb (f : Bool) (E : Exc → Prop) (w : WE) (Γ : Fr) (m : R D) : Prop := ∀ ρ Q, Fits Γ ρ → ev m (fun d => ∀ ρ', Fits Γ ρ' → Q d f ρ') E → w ρ Q
theorem SE.b {w : WE} {m : R D} (h : SE E w Γ m) : SEb false E (wFz w) Γ m := fun ρ Q f q => h ρ (fun d _ ρ1 => Q d false ρ1) f (ev_mono q fun d q f ρ' => q ρ')
theorem SEF.b {w : WE} {m : R D} (h : SEF E w Γ m) : SEb true E w Γ m := h
def svF (f : Bool) (d : D) : SV := if f then .ow d else .sh d
theorem fit_svF (f : Bool) (d : D) : fit (svF f d) (some (if f then .ow d else .sh d)) := by cases f <;> rfl
theorem sj_mul2 (i j : Nat) {fa fb : Bool} {k : D → D → R γ} (ha : SEb fa E wa Γ ma) (hb : SEb fb E wb Γ mb) (hi : Fr.ok Γ i = true) (hj : Fr.ok Γ j = true)
    (hr : ∀ a b, SJ E rest ((Γ.set i (svF fa a)).set j (svF fb b)) (k a b) K) : SJ E (wSeq (wMul [i, j] (wmCons wa (wmCons wb wmNil))) rest) Γ (ma.bind fun a => mb.bind fun b => k a b) K := fun ρ P f q =>
  ha ρ _ f (ev_mono (ev_bind q) fun a q ρ1 f1 => hb ρ1 _ f1 (ev_mono (ev_bind q) fun b q ρ2 f2 => ⟨rfl, ⟨f2.free hi, f2.free hj, trivial⟩, hr a b _ P ((f2.set i (fit_svF fa a)).set j (fit_svF fb b)) q⟩))
theorem sj_mul3 (i j l : Nat) {fa fb fc : Bool} {k : D → D → D → R γ} (ha : SEb fa E wa Γ ma) (hb : SEb fb E wb Γ mb) (hc : SEb fc E wc Γ mc) (hi : Fr.ok Γ i = true) (hj : Fr.ok Γ j = true) (hl : Fr.ok Γ l = true)
    (hr : ∀ a b c, SJ E rest (((Γ.set i (svF fa a)).set j (svF fb b)).set l (svF fc c)) (k a b c) K) : SJ E (wSeq (wMul [i, j, l] (wmCons wa (wmCons wb (wmCons wc wmNil)))) rest) Γ (ma.bind fun a => mb.bind fun b => mc.bind fun c => k a b c) K := fun ρ P f q =>
  ha ρ _ f (ev_mono (ev_bind q) fun a q ρ1 f1 => hb ρ1 _ f1 (ev_mono (ev_bind q) fun b q ρ2 f2 => hc ρ2 _ f2 (ev_mono (ev_bind q) fun c q ρ3 f3 => ⟨rfl, ⟨f3.free hi, f3.free hj, f3.free hl, trivial⟩, hr a b c _ P (((f3.set i (fit_svF fa a)).set j (fit_svF fb b)).set l (fit_svF fc c)) q⟩)))
theorem sj_mul4 (i j l n : Nat) {fa fb fc fd : Bool} {k : D → D → D → D → R γ} (ha : SEb fa E wa Γ ma) (hb : SEb fb E wb Γ mb) (hc : SEb fc E wc Γ mc) (hd : SEb fd E wd Γ md) (hi : Fr.ok Γ i = true) (hj : Fr.ok Γ j = true) (hl : Fr.ok Γ l = true) (hn : Fr.ok Γ n = true)
    (hr : ∀ a b c d, SJ E rest ((((Γ.set i (svF fa a)).set j (svF fb b)).set l (svF fc c)).set n (svF fd d)) (k a b c d) K) : SJ E (wSeq (wMul [i, j, l, n] (wmCons wa (wmCons wb (wmCons wc (wmCons wd wmNil))))) rest) Γ (ma.bind fun a => mb.bind fun b => mc.bind fun c => md.bind fun d => k a b c d) K := fun ρ P f q =>
  ha ρ _ f (ev_mono (ev_bind q) fun a q ρ1 f1 => hb ρ1 _ f1 (ev_mono (ev_bind q) fun b q ρ2 f2 => hc ρ2 _ f2 (ev_mono (ev_bind q) fun c q ρ3 f3 => hd ρ3 _ f3 (ev_mono (ev_bind q) fun d q ρ4 f4 => ⟨rfl, ⟨f4.free hi, f4.free hj, f4.free hl, f4.free hn, trivial⟩, hr a b c d _ P ((((f4.set i (fit_svF fa a)).set j (fit_svF fb b)).set l (fit_svF fc c)).set n (fit_svF fd d)) q⟩))))
end
end Dl
set_option maxRecDepth 100000
/-! K49p: the defs as plain functions, printed by gen2.py. -/
namespace Py
open PySem Dl
set_option autoImplicit false
/-- _law_often(seen, places, fold) -/
def py__law_often (x_seen : D) (x_places : D) (x_fold : D) : R D :=
  (A2 eqM (A1 lenM (lcM (seqM (R.ok x_seen)) (fun x_ => some x_) (fun (b1 : D) => (tvM (A2 ltM (A1 lenM (lcM (seqM (R.ok b1)) (fun x_ => some x_) (fun (b2 : D) => (tvM (A2 inM (R.ok b2) (R.ok x_places)))) (fun (b2 : D) => (R.ok b2)))) (R.ok x_fold)))) (fun (b1 : D) => (R.ok b1)))) (R.ok (PyData.int 0)))
/-- check_fold(graph, fold) -/
def py_check_fold (x_graph : D) (x_fold : D) : R D :=
  ((A1 py_check_graph (R.ok x_graph)).bind fun v1 => ((notM (tvM (chainM leM leM (R.ok (PyData.int 1)) (R.ok x_fold) (R.ok (PyData.int 3))))).bind fun c2 => ifT c2 (.err .refused) (R.ok PyData.none)))
/-- sees_often(rows, mask, fold) -/
def py_sees_often (x_rows : D) (x_mask : D) (x_fold : D) : R D :=
  (A1 allM (lcM (seqM (R.ok x_rows)) (fun x_ => some x_) (fun (b1 : D) => (R.ok true)) (fun (b1 : D) => (A2 geM (A1 py_size (A2 bandM (R.ok b1) (R.ok x_mask))) (R.ok x_fold)))))
/-- fewest_often(graph, fold) -/
def py_fewest_often (x_graph : D) (x_fold : D) : R D :=
  ((A2 py_check_fold (R.ok x_graph) (R.ok x_fold)).bind fun v1 => ((A1 py_seen_masks (R.ok x_graph)).bind fun v2 => ((seqM (A1 py_masks_by_size (A2 ixM (R.ok x_graph) (R.ok (PyData.int 0))))).bind fun xs3 => bindC (forC (τ := D) (fun x_ => some x_) (fun (a4 : Unit) (b5 : D) => ((tvM (A3 py_sees_often (R.ok v2) (R.ok b5) (R.ok x_fold))).bind fun c6 => ifT c6 ((A1 py_members (R.ok b5)).bind fun v7 => R.ok (.rt v7)) (R.ok (.nx ())))) xs3 ()) (fun r_ => r_) fun (s8 : Unit) => (.err .missing))))
/-- watch_often(graph, fold, places) -/
def py_watch_often (x_graph : D) (x_fold : D) (x_places : D) : R D :=
  ((A2 py_check_fold (R.ok x_graph) (R.ok x_fold)).bind fun v1 => ((A2 py_check_places (R.ok x_graph) (R.ok x_places)).bind fun v2 => (A3 py_sees_often (A1 py_seen_masks (R.ok x_graph)) (A1 py_mask_of (R.ok x_places)) (R.ok x_fold))))
/-- outlasts(graph, places, failing) -/
def py_outlasts (x_graph : D) (x_places : D) (x_failing : D) : R D :=
  ((A1 py_check_graph (R.ok x_graph)).bind fun v1 => ((A2 py_check_places (R.ok x_graph) (R.ok x_places)).bind fun v2 => ((notM (tvM (chainM leM leM (R.ok (PyData.int 0)) (R.ok x_failing) (A1 lenM (R.ok x_places))))).bind fun c3 => ifT c3 (.err .refused) (A3 py_sees_often (A1 py_seen_masks (R.ok x_graph)) (A1 py_mask_of (R.ok x_places)) (A2 addM (R.ok x_failing) (R.ok (PyData.int 1)))))))
/-- chance_kept(graph, places, failing) -/
def py_chance_kept (x_graph : D) (x_places : D) (x_failing : D) : R D :=
  ((A1 py_check_graph (R.ok x_graph)).bind fun v1 => ((A2 py_check_places (R.ok x_graph) (R.ok x_places)).bind fun v2 => ((notM (tvM (chainM leM leM (R.ok (PyData.int 0)) (R.ok x_failing) (A1 lenM (R.ok x_places))))).bind fun c3 => ifT c3 (.err .refused) ((tupM (consM (A1 py_seen_masks (R.ok x_graph)) (consM (A1 py_mask_of (R.ok x_places)) (R.ok [])))).bind fun v4 => unS pr2 v4 fun (b5 : D × D) => ((lcM ((A2 shlM (R.ok (PyData.int 1)) (A2 ixM (R.ok x_graph) (R.ok (PyData.int 0)))).bind rng1) (fun x_ => some x_) (fun (b6 : D) => (andM (tvM (A2 eqM (A2 bandM (R.ok b6) (A1 invM (R.ok b5.2))) (R.ok (PyData.int 0)))) (tvM (A2 eqM (A1 py_size (R.ok b6)) (R.ok x_failing))))) (fun (b6 : D) => (R.ok b6))).bind fun v7 => (tupM (consM (A1 lenM (lcM (seqM (R.ok v7)) (fun x_ => some x_) (fun (b8 : D) => (tvM (A3 py_sees_often (R.ok b5.1) (A2 bandM (R.ok b5.2) (A1 invM (R.ok b8))) (R.ok (PyData.int 1))))) (fun (b8 : D) => (R.ok b8)))) (consM (A1 lenM (R.ok v7)) (R.ok [])))))))))
/-- weakest(graph, places) -/
def py_weakest (x_graph : D) (x_places : D) : R D :=
  ((A1 py_check_graph (R.ok x_graph)).bind fun v1 => ((A2 py_check_places (R.ok x_graph) (R.ok x_places)).bind fun v2 => ((A1 py_mask_of (R.ok x_places)).bind fun v3 => ((lcM (seqM (A1 py_seen_masks (R.ok x_graph))) (fun x_ => some x_) (fun (b4 : D) => (R.ok true)) (fun (b4 : D) => (A1 py_members (A2 bandM (R.ok b4) (R.ok v3))))).bind fun v5 => ((A1 minM (lcM (seqM (R.ok v5)) (fun x_ => some x_) (fun (b6 : D) => (R.ok true)) (fun (b6 : D) => (A1 lenM (R.ok b6))))).bind fun v7 => (tupM (consM (R.ok v7) (consM (A1 minM (lcM (seqM (R.ok v5)) (fun x_ => some x_) (fun (b8 : D) => (tvM (A2 eqM (A1 lenM (R.ok b8)) (R.ok v7)))) (fun (b8 : D) => (R.ok b8)))) (R.ok [])))))))))
/-- least_sets(graph) -/
def py_least_sets (x_graph : D) : R D :=
  ((A1 py_check_graph (R.ok x_graph)).bind fun v1 => ((A1 py_seen_masks (R.ok x_graph)).bind fun v2 => (lstM (R.ok [])).bind fun v3 => (((A2 shlM (R.ok (PyData.int 1)) (A2 ixM (R.ok x_graph) (R.ok (PyData.int 0)))).bind rng1).bind fun xs4 => (forF (fun x_ => some x_) (fun (a5 : D) (b6 : D) => ((tvM (A3 py_sees_often (R.ok v2) (R.ok b6) (R.ok (PyData.int 1)))).bind fun c7 => ifT c7 ((notM (tvM (A1 anyM (lcM (seqM (A1 py_members (R.ok b6))) (fun x_ => some x_) (fun (b8 : D) => (R.ok true)) (fun (b8 : D) => (A3 py_sees_often (R.ok v2) (A2 bxorM (R.ok b6) (A2 shlM (R.ok (PyData.int 1)) (R.ok b8))) (R.ok (PyData.int 1)))))))).bind fun c9 => ifT c9 ((isLM a5).bind fun _ => (A1 py_members (R.ok b6)).bind fun v10 => (apL a5 v10).bind fun v11 => (R.ok v11)) (R.ok a5)) (R.ok a5))) xs4 v3).bind fun (s12 : D) => (A1 sortedM (R.ok s12)))))
/-- in_all(graph) -/
def py_in_all (x_graph : D) : R D :=
  ((A1 py_least_sets (R.ok x_graph)).bind fun v1 => (lcM ((A2 ixM (R.ok x_graph) (R.ok (PyData.int 0))).bind rng1) (fun x_ => some x_) (fun (b2 : D) => (tvM (A1 allM (lcM (seqM (R.ok v1)) (fun x_ => some x_) (fun (b3 : D) => (R.ok true)) (fun (b3 : D) => (A2 inM (R.ok b2) (R.ok b3))))))) (fun (b2 : D) => (R.ok b2))))
/-- most_needed(graph) -/
def py_most_needed (x_graph : D) : R D :=
  ((A1 py_least_sets (R.ok x_graph)).bind fun v1 => ((A1 maxM (lcM (seqM (R.ok v1)) (fun x_ => some x_) (fun (b2 : D) => (R.ok true)) (fun (b2 : D) => (A1 lenM (R.ok b2))))).bind fun v3 => (tupM (consM (R.ok v3) (consM (A2 ixM (lcM (seqM (R.ok v1)) (fun x_ => some x_) (fun (b4 : D) => (tvM (A2 eqM (A1 lenM (R.ok b4)) (R.ok v3)))) (fun (b4 : D) => (R.ok b4))) (R.ok (PyData.int 0))) (R.ok []))))))
/-- count_sets(graph, many) -/
def py_count_sets (x_graph : D) (x_many : D) : R D :=
  ((A1 py_check_graph (R.ok x_graph)).bind fun v1 => ((notM (tvM (chainM leM leM (R.ok (PyData.int 0)) (R.ok x_many) (A2 ixM (R.ok x_graph) (R.ok (PyData.int 0)))))).bind fun c2 => ifT c2 (.err .refused) ((A1 py_seen_masks (R.ok x_graph)).bind fun v3 => (A1 lenM (lcM ((A2 shlM (R.ok (PyData.int 1)) (A2 ixM (R.ok x_graph) (R.ok (PyData.int 0)))).bind rng1) (fun x_ => some x_) (fun (b4 : D) => (andM (tvM (A2 eqM (A1 py_size (R.ok b4)) (R.ok x_many))) (tvM (A3 py_sees_often (R.ok v3) (R.ok b4) (R.ok (PyData.int 1)))))) (fun (b4 : D) => (R.ok b4)))))))
/-- all_counts(graph) -/
def py_all_counts (x_graph : D) : R D :=
  ((A1 py_check_graph (R.ok x_graph)).bind fun v1 => ((A1 py_seen_masks (R.ok x_graph)).bind fun v2 => (A2 mulL (lstM (consM (R.ok (PyData.int 0)) (R.ok []))) (A2 addM (A2 ixM (R.ok x_graph) (R.ok (PyData.int 0))) (R.ok (PyData.int 1)))).bind fun v3 => (((A2 shlM (R.ok (PyData.int 1)) (A2 ixM (R.ok x_graph) (R.ok (PyData.int 0)))).bind rng1).bind fun xs4 => (forF (fun x_ => some x_) (fun (a5 : D) (b6 : D) => ((tvM (A3 py_sees_often (R.ok v2) (R.ok b6) (R.ok (PyData.int 1)))).bind fun c7 => ifT c7 ((A2 addM (A2 ixM (R.ok a5) (A1 py_size (R.ok b6))) (R.ok (PyData.int 1))).bind fun v8 => (A1 py_size (R.ok b6)).bind fun v9 => (setI a5 v9 v8).bind fun v10 => (R.ok v10)) (R.ok a5))) xs4 v3).bind fun (s11 : D) => (A1 tupleM (R.ok s11)))))
/-- law(script) -/
def py_law (x_script : D) : R D :=
  ((lstM (consM (A1 py__law_stream (R.ok x_script)) (consM (R.ok (PyData.int 0)) (R.ok [])))).bind fun v1 => (((R.ok (PyData.int 2)).bind rng1).bind fun xs2 => bindC (forC (τ := D) (fun x_ => some x_) (fun (a3 : D) (b4 : D) => (((Ln2 py__law_graph (ls (R.ok (PyData.int 7)))) a3).bind fun v5 => ((A2 ixM (R.ok v5.1) (R.ok (PyData.int 0))).bind fun v6 => ((A1 py__law_seen (R.ok v5.1)).bind fun v7 => ((A1 py__law_sets (R.ok v6)).bind fun v8 => ((lcM (seqM (R.ok v8)) (fun x_ => some x_) (fun (b9 : D) => (tvM (A2 py__law_all_seen (R.ok v7) (R.ok b9)))) (fun (b9 : D) => (R.ok b9))).bind fun v10 => ((seqM (lstM (consM (R.ok (PyData.int 1)) (consM (R.ok (PyData.int 2)) (consM (R.ok (PyData.int 3)) (R.ok [])))))).bind fun xs11 => bindC (forC (τ := D) (fun x_ => some x_) (fun (a12 : Unit) (b13 : D) => ((lcM (seqM (R.ok v8)) (fun x_ => some x_) (fun (b14 : D) => (tvM (A3 py__law_often (R.ok v7) (R.ok b14) (R.ok b13)))) (fun (b14 : D) => (R.ok b14))).bind fun v15 => ((notM (tvM (A2 py__law_same (toldM (A2 py_fewest_often (R.ok v5.1) (R.ok b13))) (A2 ixM (lstM (consM (tupM (consM (R.ok (PyData.str (Str.ofString "told"))) (consM (A2 ixM (A2 addM (R.ok v15) (lstM (consM (R.ok (PyData.int 0)) (R.ok [])))) (R.ok (PyData.int 0))) (R.ok [])))) (consM (tupM (consM (R.ok (PyData.str (Str.ofString "missing"))) (R.ok []))) (R.ok [])))) (A1 intM (A2 eqM (R.ok v15) (lstM (R.ok [])))))))).bind fun c16 => ifT c16 ((R.ok (PyData.bool false)).bind fun v17 => R.ok (.rt v17)) (R.ok (.nx ()))))) xs11 ()) .rt fun (s18 : Unit) => (((R.ok (PyData.int 4)).bind rng1).bind fun xs19 => bindC (forC (τ := D) (fun x_ => some x_) (fun (a20 : D) (b21 : D) => (((X2 ixM (lstX (consX (X2l ixM (fun _ => v8) (Ln2 py__law_next (ls (A1 lenM (R.ok v8))))) (consX (X2l ixM (fun _ => v10) (Ln2 py__law_next (ls (A1 lenM (R.ok v10))))) (fun z_ => R.ok ([], z_))))) (Ln2 py__law_next (ls (R.ok (PyData.int 2))))) a20).bind fun v22 => (((Ln2 py__law_next (ls (A2 addM (A1 lenM (R.ok v22.1)) (R.ok (PyData.int 1))))) v22.2).bind fun v23 => ((lcM (seqM (R.ok v8)) (fun x_ => some x_) (fun (b24 : D) => (andM (tvM (A2 eqM (A1 lenM (R.ok b24)) (R.ok v23.1))) (tvM (A2 eqM (A1 lenM (lcM (seqM (R.ok b24)) (fun x_ => some x_) (fun (b25 : D) => (tvM (A2 ninM (R.ok b25) (R.ok v22.1)))) (fun (b25 : D) => (R.ok b25)))) (R.ok (PyData.int 0)))))) (fun (b24 : D) => (R.ok b24))).bind fun v26 => ((lcM (seqM (R.ok v26)) (fun x_ => some x_) (fun (b27 : D) => (tvM (A2 inM (A1 tupleM (lcM (seqM (R.ok v22.1)) (fun x_ => some x_) (fun (b28 : D) => (tvM (A2 ninM (R.ok b28) (R.ok b27)))) (fun (b28 : D) => (R.ok b28)))) (R.ok v10)))) (fun (b27 : D) => (R.ok b27))).bind fun v29 => (((X2 addM (ls (R.ok (PyData.int 1))) (Ln2 py__law_next (ls (R.ok (PyData.int 3))))) v23.2).bind fun v30 => ((lcM (seqM (R.ok v7)) (fun x_ => some x_) (fun (b31 : D) => (R.ok true)) (fun (b31 : D) => (A1 tupleM (lcM (seqM (R.ok b31)) (fun x_ => some x_) (fun (b32 : D) => (tvM (A2 inM (R.ok b32) (R.ok v22.1)))) (fun (b32 : D) => (R.ok b32)))))).bind fun v33 => ((A1 minM (lcM (seqM (R.ok v33)) (fun x_ => some x_) (fun (b34 : D) => (R.ok true)) (fun (b34 : D) => (A1 lenM (R.ok b34))))).bind fun v35 => ((lstM (consM (A3 py_watch_often (R.ok v5.1) (R.ok v30.1) (R.ok v22.1)) (consM (A3 py_outlasts (R.ok v5.1) (R.ok v22.1) (R.ok v23.1)) (consM (A3 py_chance_kept (R.ok v5.1) (R.ok v22.1) (R.ok v23.1)) (consM (A2 py_weakest (R.ok v5.1) (R.ok v22.1)) (R.ok [])))))).bind fun v36 => ((notM (tvM (A2 py__law_same (R.ok v36) (lstM (consM (A3 py__law_often (R.ok v7) (R.ok v22.1) (R.ok v30.1)) (consM (A2 eqM (A1 lenM (R.ok v29)) (A1 lenM (R.ok v26))) (consM (tupM (consM (A1 lenM (R.ok v29)) (consM (A1 lenM (R.ok v26)) (R.ok [])))) (consM (tupM (consM (R.ok v35) (consM (A1 minM (lcM (seqM (R.ok v33)) (fun x_ => some x_) (fun (b37 : D) => (tvM (A2 eqM (A1 lenM (R.ok b37)) (R.ok v35)))) (fun (b37 : D) => (R.ok b37)))) (R.ok [])))) (R.ok []))))))))).bind fun c38 => ifT c38 ((R.ok (PyData.bool false)).bind fun v39 => R.ok (.rt v39)) (R.ok (.nx v30.2)))))))))))) xs19 v5.2) .rt fun (s40 : D) => ((lstM (R.ok [])).bind fun v41 => ((seqM (R.ok v10)).bind fun xs42 => (forF (fun x_ => some x_) (fun (a43 : D) (b44 : D) => ((lcM (seqM (R.ok b44)) (fun x_ => some x_) (fun (b45 : D) => (R.ok true)) (fun (b45 : D) => (A1 tupleM (lcM (seqM (R.ok b44)) (fun x_ => some x_) (fun (b46 : D) => (tvM (A2 neM (R.ok b46) (R.ok b45)))) (fun (b46 : D) => (R.ok b46)))))).bind fun v47 => ((tvM (A2 eqM (A1 lenM (lcM (seqM (R.ok v47)) (fun x_ => some x_) (fun (b48 : D) => (tvM (A2 inM (R.ok b48) (R.ok v10)))) (fun (b48 : D) => (R.ok b48)))) (R.ok (PyData.int 0)))).bind fun c49 => ifT c49 ((isLM a43).bind fun _ => (R.ok b44).bind fun v50 => (apL a43 v50).bind fun v51 => (R.ok v51)) (R.ok a43)))) xs42 v41).bind fun (s52 : D) => ((A1 maxM (lcM (seqM (R.ok s52)) (fun x_ => some x_) (fun (b53 : D) => (R.ok true)) (fun (b53 : D) => (A1 lenM (R.ok b53))))).bind fun v54 => ((lcM ((R.ok v6).bind rng1) (fun x_ => some x_) (fun (b55 : D) => (tvM (A2 eqM (A1 lenM (lcM (seqM (R.ok s52)) (fun x_ => some x_) (fun (b56 : D) => (tvM (A2 ninM (R.ok b55) (R.ok b56)))) (fun (b56 : D) => (R.ok b56)))) (R.ok (PyData.int 0))))) (fun (b55 : D) => (R.ok b55))).bind fun v57 => ((notM (tvM (A2 py__law_same (lstM (consM (A1 py_least_sets (R.ok v5.1)) (consM (A1 py_in_all (R.ok v5.1)) (consM (A1 py_most_needed (R.ok v5.1)) (R.ok []))))) (lstM (consM (A1 sortedM (R.ok s52)) (consM (R.ok v57) (consM (tupM (consM (R.ok v54) (consM (A2 ixM (lcM (seqM (A1 sortedM (R.ok s52))) (fun x_ => some x_) (fun (b58 : D) => (tvM (A2 eqM (A1 lenM (R.ok b58)) (R.ok v54)))) (fun (b58 : D) => (R.ok b58))) (R.ok (PyData.int 0))) (R.ok [])))) (R.ok [])))))))).bind fun c59 => ifT c59 ((R.ok (PyData.bool false)).bind fun v60 => R.ok (.rt v60)) ((lcM ((A2 addM (R.ok v6) (R.ok (PyData.int 1))).bind rng1) (fun x_ => some x_) (fun (b61 : D) => (R.ok true)) (fun (b61 : D) => (A1 lenM (lcM (seqM (R.ok v10)) (fun x_ => some x_) (fun (b62 : D) => (tvM (A2 eqM (A1 lenM (R.ok b62)) (R.ok b61)))) (fun (b62 : D) => (R.ok b62)))))).bind fun v63 => (((Ln2 py__law_next (ls (A2 addM (R.ok v6) (R.ok (PyData.int 1))))) s40).bind fun v64 => ((notM (tvM (A2 py__law_same (lstM (consM (A2 py_count_sets (R.ok v5.1) (R.ok v64.1)) (consM (A1 py_all_counts (R.ok v5.1)) (R.ok [])))) (lstM (consM (A2 ixM (R.ok v63) (R.ok v64.1)) (consM (A1 tupleM (R.ok v63)) (R.ok []))))))).bind fun c65 => ifT c65 ((R.ok (PyData.bool false)).bind fun v66 => R.ok (.rt v66)) ((seqM py__law_bad_graphs).bind fun xs67 => bindC (forC (τ := D) (fun x_ => some x_) (fun (a68 : Unit) (b69 : D) => ((lstM (consM (toldM (A1 py_least_sets (R.ok b69))) (consM (toldM (A1 py_all_counts (R.ok b69))) (consM (toldM (A2 py_fewest_often (R.ok b69) (R.ok (PyData.int 1)))) (R.ok []))))).bind fun v70 => ((tvM (A2 neM (R.ok v70) (A2 mulM (lstM (consM (tupM (consM (R.ok (PyData.str (Str.ofString "refused"))) (R.ok []))) (R.ok []))) (R.ok (PyData.int 3))))).bind fun c71 => ifT c71 ((R.ok (PyData.bool false)).bind fun v72 => R.ok (.rt v72)) (R.ok (.nx ()))))) xs67 ()) .rt fun (s73 : Unit) => ((lstM (consM (toldM (A3 py_watch_often (R.ok v5.1) (R.ok (PyData.int 0)) (tupM (consM (R.ok (PyData.int 0)) (R.ok []))))) (consM (toldM (A2 py_fewest_often (R.ok v5.1) (R.ok (PyData.int 4)))) (consM (toldM (A3 py_outlasts (R.ok v5.1) (tupM (consM (R.ok (PyData.int 0)) (R.ok []))) (R.ok (PyData.int 2)))) (consM (toldM (A2 py_weakest (R.ok v5.1) (tupM (consM (R.ok v6) (R.ok []))))) (consM (toldM (A3 py_chance_kept (R.ok v5.1) (tupM (consM (R.ok (PyData.int 0)) (consM (R.ok (PyData.int 0)) (R.ok [])))) (R.ok (PyData.int 0)))) (consM (toldM (A2 py_count_sets (R.ok v5.1) (A2 addM (R.ok v6) (R.ok (PyData.int 1))))) (R.ok [])))))))).bind fun v74 => ((tvM (A2 neM (R.ok v74) (A2 mulM (lstM (consM (tupM (consM (R.ok (PyData.str (Str.ofString "refused"))) (R.ok []))) (R.ok []))) (R.ok (PyData.int 6))))).bind fun c75 => ifT c75 ((R.ok (PyData.bool false)).bind fun v76 => R.ok (.rt v76)) (R.ok (.nx v64.2))))))))))))))))))))) xs2 v1) (fun r_ => r_) fun (s77 : D) => (A2 eqM (R.ok (PyData.int 3)) (R.ok (PyData.int 3)))))
end Py
set_option maxRecDepth 100000
set_option maxHeartbeats 4000000
/-! K49w: the readings of the defs, and that the plain functions tell them, printed by gen2.py. -/
namespace K49
open PySem Dl Py
/-- _law_stream(script): 0=script 1=numbers 2=cell 3=rest 4=k 5=stirred -/
def wf__law_stream (E : Exc → Prop) : WS :=
    (wSeq (wAsg (wLst wNil) (gN 1))
    (wSeq (wFor (itS (wSl (wV 0) pN (pS (wC (PyData.int 63))))) (gN 2) (wSeq (wAsg (wFz (wO oAbs (wO oInt (wV 2)))) (gN 3))
    (wSeq (wIfS (wTv (wB oGe (wV 3) (wB oPow (wC (PyData.int 10)) (wC (PyData.int 18))))) (wSeq (wFor (itR1 (wC (PyData.int 60))) (gN 4) (wSeq (wApp 1 (wB oMod (wO oInt (wV 3)) (wC (PyData.int 1009))))
    (wSeq (wAsg (wFz (wB oFdiv (wV 3) (wC (PyData.int 1009)))) (gN 3))
    (wSeq (wIfS (wTv (wB oEq (wV 3) (wC (PyData.int 0)))) (wSeq wBreak
    wNext) wNext)
    wNext))))
    wNext) (wSeq (wAsg (wFz (wB oMod (wO oInt (wV 3)) (wC (PyData.int 2147483647)))) (gN 5))
    (wSeq (wFor (itR1 (wC (PyData.int 10))) (gN 4) (wSeq (wAsg (wFz (wB oMod (wO oInt (wB oAdd (wB oAdd (wB oMul (wV 5) (wC (PyData.int 48271))) (wB oMul (wC (PyData.int 7)) (wV 4))) (wC (PyData.int 11)))) (wC (PyData.int 2147483647)))) (gN 5))
    (wSeq (wApp 1 (wB oMod (wB oMod (wO oInt (wB oAdd (wB oMul (wV 5) (wC (PyData.int 69621))) (wV 4))) (wC (PyData.int 2147483629))) (wC (PyData.int 1009))))
    wNext)))
    wNext)))
    wNext)))
    (wSeq (wIfS (wTv (wB oEq (wOP oLen 1) (wC (PyData.int 0)))) (wSeq (wApp 1 (wC (PyData.int 0)))
    wNext) wNext)
    (wSeq (wPre [1] (wRet (wFz (wV 1))))
    wNext))))
theorem k__law_stream : Keeps (con1 false py__law_stream) [false] 5 wf__law_stream := keeps1 fun E x_script => (sj_setF 1 (SEF.g (sef_lst sa_nil)) (fun _ => rfl) fun v1 => (sj_for (Γh := (fun (a3 : D) => [.sh x_script, .ow a3, .an, .an, .an, .an])) (fun xs2 => v1) (SI.g (si_s (se_sl (se_v 0 rfl) sp_n (sp_s se_c)))) (fun _ => (.s (.s (.n (.n (.n (.n .e))))))) (fun _ => (tg_n 2 rfl)) (fun a3 b4 => (sj_set 3 (SE.g (se_o so_abs (se_o so_int (se_v 2 rfl)))) (fun _ => rfl) fun v5 => (sj_if (ST.g (st_tv (se_b so_ge (se_v 3 rfl) (se_b so_pow se_c se_c)))) (fun c6 => (sj_as (sj_forC (Γh := (fun (a8 : D × D) => [.sh x_script, .ow a8.1, .sh b4, .sh a8.2, .an, .an])) (pk := pkN) (fun xs7 => (a3, v5)) (inj_e (fr := false)) (SI.g (si_r1 se_c)) (fun _ => (.s (.s (.s (.s (.s (.s .e))))))) (fun _ => (tg_n 4 rfl)) (fun a8 b9 => (sj_app 1 rfl (SE.g (se_b so_mod (se_o so_int (se_v 3 rfl)) se_c)) (fun _ => rfl) fun v10 v11 => (sj_set 3 (SE.g (se_b so_fdiv (se_v 3 rfl) se_c)) (fun _ => rfl) fun v12 => (sj_if (ST.g (st_tv (se_b so_eq (se_v 3 rfl) se_c))) (fun c13 => (sj_as (sj_bk (.s (.s (.s (.s (.h (.s .e))))))))) fun c13 => (sj_next (sj_cn (.s (.s (.s (.s (.h (.s .e)))))))))))) fun s14 => (sj_next (sj_n (.s (.s (.h (.h (.s (.s .e))))))))))) fun c6 => (sj_as (sj_set 5 (SE.g (se_b so_mod (se_o so_int (se_v 3 rfl)) se_c)) (fun _ => rfl) fun v15 => (sj_as (sj_for (Γh := (fun (a17 : D × D) => [.sh x_script, .ow a17.1, .sh b4, .sh v5, .an, .sh a17.2])) (fun xs16 => (a3, v15)) (SI.g (si_r1 se_c)) (fun _ => (.s (.s (.s (.s (.s (.s .e))))))) (fun _ => (tg_n 4 rfl)) (fun a17 b18 => (sj_set 5 (SE.g (se_b so_mod (se_o so_int (se_b so_add (se_b so_add (se_b so_mul (se_v 5 rfl) se_c) (se_b so_mul se_c (se_v 4 rfl))) se_c)) se_c)) (fun _ => rfl) fun v19 => (sj_app 1 rfl (SE.g (se_b so_mod (se_b so_mod (se_o so_int (se_b so_add (se_b so_mul (se_v 5 rfl) se_c) (se_v 4 rfl))) se_c) se_c)) (fun _ => rfl) fun v20 v21 => (sj_n (.s (.s (.s (.s (.h (.s .e)))))))))) fun s22 => (sj_next (sj_n (.s (.s (.h (.h (.s (.h .e))))))))))))))) fun s23 => (sj_ifj (fun (s27 : D) => [.sh x_script, .ow s27, .an, .an, .an, .an]) (ST.g (st_tv (se_b so_eq (se_op so_len 1 rfl) se_c))) (fun c24 => (sj_app 1 rfl (SE.g se_c) (fun _ => rfl) fun v25 v26 => (sj_n (.s (.s (.s (.s (.s (.s .e))))))))) (fun c24 => (sj_n (.s (.s (.s (.s (.s (.s .e)))))))) fun s27 => (sj_seqpre (.cons rfl .nil) (sj_ret0 (se_v 1 rfl) rfl)))))
/-- _law_next(state, many): 0=state 1=many 2=turn -/
def wf__law_next (E : Exc → Prop) : WS :=
    (wSeq (wAsg (wB oAdd (wBL oIx 0 (wC (PyData.int 1))) (wC (PyData.int 1))) (gIx 0 (wC (PyData.int 1))))
    (wSeq (wAsg (wFz (wB oFdiv (wBL oIx 0 (wC (PyData.int 1))) (wO oLen (wBL oIx 0 (wC (PyData.int 0)))))) (gN 2))
    (wSeq (wRet (wFz (wB oMod (wO oInt (wB oAdd (wB oAdd (wB oIx (wBL oIx 0 (wC (PyData.int 0))) (wB oMod (wBL oIx 0 (wC (PyData.int 1))) (wO oLen (wBL oIx 0 (wC (PyData.int 0)))))) (wB oMul (wV 2) (wC (PyData.int 389)))) (wB oMul (wB oMul (wBL oIx 0 (wC (PyData.int 1))) (wV 2)) (wC (PyData.int 17))))) (wV 1))))
    wNext)))
theorem k__law_next : Keeps (lcon2 false py__law_next) [true, false] 1 wf__law_next := lkeeps2 fun E x_state x_many => (sj_idxB 0 (SE.g (se_b so_add (se_bl so_ix 0 rfl se_c) se_c)) (fun _ => rfl) (fun v1 => se_c) fun v1 v3 => (sj_set 2 (SE.g (se_b so_fdiv (se_bl so_ix 0 rfl se_c) (se_o so_len (se_bl so_ix 0 rfl se_c)))) (fun _ => rfl) fun v4 => (sj_ret pk1 (fun v5 => (v5, v3)) (SE.g (se_b so_mod (se_o so_int (se_b so_add (se_b so_add (se_b so_ix (se_bl so_ix 0 rfl se_c) (se_b so_mod (se_bl so_ix 0 rfl se_c) (se_o so_len (se_bl so_ix 0 rfl se_c)))) (se_b so_mul (se_v 2 rfl) se_c)) (se_b so_mul (se_b so_mul (se_bl so_ix 0 rfl se_c) (se_v 2 rfl)) se_c))) (se_v 1 rfl))) (fun _ => rfl))))
/-- _law_graph(state, most): 0=state 1=most 2=many 3=pick 4=edges 5=one 6=other 7=good -/
def wf__law_graph (E : Exc → Prop) : WS :=
    (wSeq (wAsg (wFz (wB oAdd (wC (PyData.int 1)) (wCallB (lcon2 false py__law_next) E 0 (wCons (wV 1) wNil)))) (gN 2))
    (wSeq (wAsg (wFz (wCallB (lcon2 false py__law_next) E 0 (wCons (wC (PyData.int 5)) wNil))) (gN 3))
    (wSeq (wAsg (wLst wNil) (gN 4))
    (wSeq (wFor (itR1 (wV 2)) (gN 5) (wSeq (wFor (itR2 (wB oAdd (wV 5) (wC (PyData.int 1))) (wV 2)) (gN 6) (wSeq (wIfS (wTv (wB oEq (wV 3) (wC (PyData.int 0)))) (wSeq (wAsg (wFz (wOrV (wB oEq (wV 6) (wB oAdd (wV 5) (wC (PyData.int 1)))) (wAndV (wB oEq (wV 5) (wC (PyData.int 0))) (wB oEq (wV 6) (wB oSub (wV 2) (wC (PyData.int 1))))))) (gN 7))
    wNext) (wSeq (wIfS (wTv (wB oEq (wV 3) (wC (PyData.int 1)))) (wSeq (wAsg (wFz (wOrV (wB oEq (wV 6) (wB oAdd (wV 5) (wC (PyData.int 1)))) (wB oEq (wCallB (lcon2 false py__law_next) E 0 (wCons (wC (PyData.int 3)) wNil)) (wC (PyData.int 0))))) (gN 7))
    wNext) (wSeq (wIfS (wTv (wB oEq (wV 3) (wC (PyData.int 2)))) (wSeq (wAsg (wFz (wOrV (wB oEq (wV 5) (wC (PyData.int 0))) (wB oEq (wCallB (lcon2 false py__law_next) E 0 (wCons (wC (PyData.int 4)) wNil)) (wC (PyData.int 0))))) (gN 7))
    wNext) (wSeq (wAsg (wFz (wB oEq (wCallB (lcon2 false py__law_next) E 0 (wCons (wC (PyData.int 2)) wNil)) (wC (PyData.int 0)))) (gN 7))
    wNext))
    wNext))
    wNext))
    (wSeq (wIfS (wTv (wV 7)) (wSeq (wApp 4 (wTup (wCons (wV 5) (wCons (wV 6) wNil))))
    wNext) wNext)
    wNext)))
    wNext))
    (wSeq (wPre [4] (wRet (wFz (wTup (wCons (wV 2) (wCons (wO oTuple (wV 4)) wNil))))))
    wNext)))))
theorem k__law_graph : Keeps (lcon2 false py__law_graph) [true, false] 6 wf__law_graph := lkeeps2 fun E x_state x_most => (sj_set 2 (YE.g (Γf := (fun z_ => [.bo z_, .sh x_most, .no, .no, .no, .no, .no, .no])) (ye_b so_add (SE.ls fun _ => se_c) (ye_l2 0 (.inr ⟨fun _ => rfl, fun _ _ => rfl⟩) (SE.ls fun _ => (se_v 1 rfl)))) x_state) (fun _ => rfl) fun v1 => (sj_set 3 (YE.g (Γf := (fun z_ => [.bo z_, .sh x_most, .sh v1.1, .no, .no, .no, .no, .no])) (ye_l2 0 (.inr ⟨fun _ => rfl, fun _ _ => rfl⟩) (SE.ls fun _ => se_c)) v1.2) (fun _ => rfl) fun v2 => (sj_setF 4 (SEF.g (sef_lst sa_nil)) (fun _ => rfl) fun v3 => (sj_for (Γh := (fun (a5 : D × D) => [.bo a5.1, .sh x_most, .sh v1.1, .sh v2.1, .ow a5.2, .an, .an, .an])) (fun xs4 => (v2.2, v3)) (SI.g (si_r1 (se_v 2 rfl))) (fun _ => (.s (.s (.s (.s (.s (.n (.n (.n .e))))))))) (fun _ => (tg_n 5 rfl)) (fun a5 b6 => (sj_for (Γh := (fun (a8 : D × D) => [.bo a8.1, .sh x_most, .sh v1.1, .sh v2.1, .ow a8.2, .sh b6, .an, .an])) (fun xs7 => (a5.1, a5.2)) (SI.g (si_r2 (se_b so_add (se_v 5 rfl) se_c) (se_v 2 rfl))) (fun _ => (.s (.s (.s (.s (.s (.s (.s (.s .e))))))))) (fun _ => (tg_n 6 rfl)) (fun a8 b9 => (sj_ifj (fun (s17 : D × D) => [.bo s17.1, .sh x_most, .sh v1.1, .sh v2.1, .ow a8.2, .sh b6, .sh b9, .sh s17.2]) (ST.g (st_tv (se_b so_eq (se_v 3 rfl) se_c))) (fun c10 => (sj_set 7 (SE.g (se_or (se_b so_eq (se_v 6 rfl) (se_b so_add (se_v 5 rfl) se_c)) (se_and (se_b so_eq (se_v 5 rfl) se_c) (se_b so_eq (se_v 6 rfl) (se_b so_sub (se_v 2 rfl) se_c))))) (fun _ => rfl) fun v11 => (sj_n (.s (.s (.s (.s (.s (.s (.s (.s .e))))))))))) (fun c10 => (sj_if (ST.g (st_tv (se_b so_eq (se_v 3 rfl) se_c))) (fun c12 => (sj_as (sj_set 7 (YE.g (Γf := (fun z_ => [.bo z_, .sh x_most, .sh v1.1, .sh v2.1, .ow a8.2, .sh b6, .sh b9, .an])) (ye_or (SE.ls fun _ => (se_b so_eq (se_v 6 rfl) (se_b so_add (se_v 5 rfl) se_c))) (ye_b so_eq (ye_l2 0 (.inr ⟨fun _ => rfl, fun _ _ => rfl⟩) (SE.ls fun _ => se_c)) (SE.ls fun _ => se_c))) a8.1) (fun _ => rfl) fun v13 => (sj_next (sj_n (.s (.s (.s (.s (.s (.s (.s (.s .e))))))))))))) fun c12 => (sj_as (sj_if (ST.g (st_tv (se_b so_eq (se_v 3 rfl) se_c))) (fun c14 => (sj_as (sj_set 7 (YE.g (Γf := (fun z_ => [.bo z_, .sh x_most, .sh v1.1, .sh v2.1, .ow a8.2, .sh b6, .sh b9, .an])) (ye_or (SE.ls fun _ => (se_b so_eq (se_v 5 rfl) se_c)) (ye_b so_eq (ye_l2 0 (.inr ⟨fun _ => rfl, fun _ _ => rfl⟩) (SE.ls fun _ => se_c)) (SE.ls fun _ => se_c))) a8.1) (fun _ => rfl) fun v15 => (sj_next (sj_next (sj_n (.s (.s (.s (.s (.s (.s (.s (.s .e)))))))))))))) fun c14 => (sj_as (sj_set 7 (YE.g (Γf := (fun z_ => [.bo z_, .sh x_most, .sh v1.1, .sh v2.1, .ow a8.2, .sh b6, .sh b9, .an])) (ye_b so_eq (ye_l2 0 (.inr ⟨fun _ => rfl, fun _ _ => rfl⟩) (SE.ls fun _ => se_c)) (SE.ls fun _ => se_c)) a8.1) (fun _ => rfl) fun v16 => (sj_next (sj_next (sj_n (.s (.s (.s (.s (.s (.s (.s (.s .e))))))))))))))))) fun s17 => (sj_if (ST.g (st_tv (se_v 7 rfl))) (fun c18 => (sj_as (sj_app 4 rfl (SE.g (se_tup (sa_cons (se_v 5 rfl) (sa_cons (se_v 6 rfl) sa_nil)))) (fun _ => rfl) fun v19 v20 => (sj_next (sj_n (.s (.s (.s (.s (.s (.s (.h (.h .e))))))))))))) fun c18 => (sj_next (sj_n (.s (.s (.s (.s (.s (.s (.h (.h .e))))))))))))) fun s21 => (sj_n (.s (.s (.s (.s (.s (.h (.s (.s .e))))))))))) fun s22 => (sj_seqpre (.cons rfl .nil) (sj_ret pk1 (fun v23 => (v23, s22.1)) (SE.g (se_tup (sa_cons (se_v 2 rfl) (sa_cons (se_o so_tuple (se_v 4 rfl)) sa_nil)))) (fun _ => rfl)))))))
/-- _law_seen(graph): 0=graph 1=place 2=other -/
def wf__law_seen (E : Exc → Prop) : WS :=
    (wSeq (wRet (wFz (wLc (itR1 (wBL oIx 0 (wC (PyData.int 0)))) (gN 1) tYes (wLc (itR1 (wBL oIx 0 (wC (PyData.int 0)))) (gN 2) (wOr (wTv (wB oEq (wV 2) (wV 1))) (wTv (wB oIn (wTup (wCons (wB oMin2 (wV 1) (wV 2)) (wCons (wB oMax2 (wV 1) (wV 2)) wNil))) (wBL oIx 0 (wC (PyData.int 1)))))) (wV 2) [2]) [1])))
    wNext)
theorem k__law_seen : Keeps (con1 false py__law_seen) [false] 2 wf__law_seen := keeps1 fun E x_graph => (sj_ret0 (sef_lc (β := D) (si_r1 (se_bl so_ix 0 rfl se_c)) rfl rfl rfl (tg_n 1 rfl) (fun b1 => st_yes) (fun b1 => (sef_lc (β := D) (si_r1 (se_bl so_ix 0 rfl se_c)) rfl rfl rfl (tg_n 2 rfl) (fun b2 => (st_or (st_tv (se_b so_eq (se_v 2 rfl) (se_v 1 rfl))) (st_tv (se_b so_in (se_tup (sa_cons (se_b so_min2 (se_v 1 rfl) (se_v 2 rfl)) (sa_cons (se_b so_max2 (se_v 1 rfl) (se_v 2 rfl)) sa_nil))) (se_bl so_ix 0 rfl se_c))))) (fun b2 => (se_v 2 rfl)) (fun _ => rfl)).e) (fun _ => rfl)).e rfl)
/-- _law_sets(many): 0=many 1=found 2=place 3=row -/
def wf__law_sets (E : Exc → Prop) : WS :=
    (wSeq (wAsg (wFz (wLst (wCons (wTup wNil) wNil))) (gN 1))
    (wSeq (wFor (itR1 (wV 0)) (gN 2) (wSeq (wAsg (wFz (wB oAdd (wV 1) (wLc (itS (wV 1)) (gN 3) tYes (wB oAdd (wV 3) (wTup (wCons (wV 2) wNil))) [3]))) (gN 1))
    wNext))
    (wSeq (wRet (wFz (wO oSortLR (wV 1))))
    wNext)))
theorem k__law_sets : Keeps (con1 false py__law_sets) [false] 3 wf__law_sets := keeps1 fun E x_many => (sj_set 1 (SE.g (sef_lst (sa_cons (se_tup sa_nil) sa_nil)).e) (fun _ => rfl) fun v1 => (sj_for (Γh := (fun (a3 : D) => [.sh x_many, .sh a3, .an, .no])) (fun xs2 => v1) (SI.g (si_r1 (se_v 0 rfl))) (fun _ => (.s (.s (.n (.s .e))))) (fun _ => (tg_n 2 rfl)) (fun a3 b4 => (sj_set 1 (SE.g (se_b so_add (se_v 1 rfl) (sef_lc (β := D) (si_s (se_v 1 rfl)) rfl rfl rfl (tg_n 3 rfl) (fun b5 => st_yes) (fun b5 => (se_b so_add (se_v 3 rfl) (se_tup (sa_cons (se_v 2 rfl) sa_nil)))) (fun _ => rfl)).e)) (fun _ => rfl) fun v6 => (sj_n (.s (.s (.h (.s .e))))))) fun s7 => (sj_ret0 (sef_o so_sortLR (se_v 1 rfl)).e rfl)))
/-- _law_all_seen(seen, places): 0=seen 1=places 2=row 3=one -/
def wf__law_all_seen (E : Exc → Prop) : WS :=
    (wSeq (wRet (wFz (wB oEq (wO oLen (wLc (itS (wV 0)) (gN 2) (wTv (wB oEq (wO oLen (wLc (itS (wV 2)) (gN 3) (wTv (wB oIn (wV 3) (wV 1))) (wV 3) [3])) (wC (PyData.int 0)))) (wV 2) [2])) (wC (PyData.int 0)))))
    wNext)
theorem k__law_all_seen : Keeps (con2 false py__law_all_seen) [false, false] 2 wf__law_all_seen := keeps2 fun E x_seen x_places => (sj_ret0 (se_b so_eq (se_o so_len (sef_lc (β := D) (si_s (se_v 0 rfl)) rfl rfl rfl (tg_n 2 rfl) (fun b1 => (st_tv (se_b so_eq (se_o so_len (sef_lc (β := D) (si_s (se_v 2 rfl)) rfl rfl rfl (tg_n 3 rfl) (fun b2 => (st_tv (se_b so_in (se_v 3 rfl) (se_v 1 rfl)))) (fun b2 => (se_v 3 rfl)) (fun _ => rfl)).e) se_c))) (fun b1 => (se_v 2 rfl)) (fun _ => rfl)).e) se_c) rfl)
/-- _law_often(seen, places, fold): 0=seen 1=places 2=fold 3=row 4=one -/
def wf__law_often (E : Exc → Prop) : WS :=
    (wSeq (wRet (wFz (wB oEq (wO oLen (wLc (itS (wV 0)) (gN 3) (wTv (wB oLtX (wO oLen (wLc (itS (wV 3)) (gN 4) (wTv (wB oIn (wV 4) (wV 1))) (wV 4) [4])) (wV 2))) (wV 3) [3])) (wC (PyData.int 0)))))
    wNext)
theorem k__law_often : Keeps (con3 false py__law_often) [false, false, false] 2 wf__law_often := keeps3 fun E x_seen x_places x_fold => (sj_ret0 (se_b so_eq (se_o so_len (sef_lc (β := D) (si_s (se_v 0 rfl)) rfl rfl rfl (tg_n 3 rfl) (fun b1 => (st_tv (se_b so_lt (se_o so_len (sef_lc (β := D) (si_s (se_v 3 rfl)) rfl rfl rfl (tg_n 4 rfl) (fun b2 => (st_tv (se_b so_in (se_v 4 rfl) (se_v 1 rfl)))) (fun b2 => (se_v 4 rfl)) (fun _ => rfl)).e) (se_v 2 rfl)))) (fun b1 => (se_v 3 rfl)) (fun _ => rfl)).e) se_c) rfl)
/-- _law_same(told, due): 0=told 1=due -/
def wf__law_same (E : Exc → Prop) : WS :=
    (wSeq (wRet (wFz (wB oEq (wO oRepr (wLst (wCons (wV 0) wNil))) (wO oRepr (wLst (wCons (wV 1) wNil))))))
    wNext)
theorem k__law_same : Keeps (con2 false py__law_same) [false, false] 0 wf__law_same := keeps2 fun E x_told x_due => (sj_ret0 (se_b so_eq (se_o so_repr (sef_lst (sa_cons (se_v 0 rfl) sa_nil)).e) (se_o so_repr (sef_lst (sa_cons (se_v 1 rfl) sa_nil)).e)) rfl)
/-- check_graph(graph): 0=graph 1=edge 2=one 3=other -/
def wf_check_graph (E : Exc → Prop) : WS :=
    (wSeq (wIfS (wOr (wTv (wB oNe (wO oLen (wV 0)) (wC (PyData.int 2)))) (wNot (wTv (wChain oLe oLe (wC (PyData.int 1)) (wBL oIx 0 (wC (PyData.int 0))) (wC (PyData.int 8)))))) (wSeq (wRaise E .refused)
    wNext) wNext)
    (wSeq (wIfS (wNot (wTv (wO oAll (wLc (itS (wBL oIx 0 (wC (PyData.int 1)))) (gN 1) tYes (wAndV (wB oEq (wO oLen (wV 1)) (wC (PyData.int 2))) (wChain3 oLe oLtX oLtX (wC (PyData.int 0)) (wBL oIx 1 (wC (PyData.int 0))) (wBL oIx 1 (wC (PyData.int 1))) (wBL oIx 0 (wC (PyData.int 0))))) [1])))) (wSeq (wRaise E .refused)
    wNext) wNext)
    (wSeq (wIfS (wNot (wTv (wO oAll (wLc (itZ (wBL oIx 0 (wC (PyData.int 1))) (wSl (wBL oIx 0 (wC (PyData.int 1))) (pS (wC (PyData.int 1))) pN)) (gTup 2 (gCons (gN 2) (gCons (gN 3) gNil))) tYes (wB oLtX (wV 2) (wV 3)) [2, 3])))) (wSeq (wRaise E .refused)
    wNext) wNext)
    wNext)))
theorem k_check_graph : Keeps (con1 false py_check_graph) [false] 3 wf_check_graph := keeps1 fun E x_graph => (sj_if (ST.g (st_or (st_tv (se_b so_ne (se_o so_len (se_v 0 rfl)) se_c)) (st_not (st_tv (se_chain so_le so_le se_c (se_bl so_ix 0 rfl se_c) se_c))))) (fun c1 => (sj_as sj_raise)) fun c1 => (sj_next (sj_if (ST.g (st_not (st_tv (se_o so_all (sef_lc (β := D) (si_s (se_bl so_ix 0 rfl se_c)) rfl rfl rfl (tg_n 1 rfl) (fun b2 => st_yes) (fun b2 => (se_and (se_b so_eq (se_o so_len (se_v 1 rfl)) se_c) (se_chain3 so_le so_lt so_lt se_c (se_bl so_ix 1 rfl se_c) (se_bl so_ix 1 rfl se_c) (se_bl so_ix 0 rfl se_c)))) (fun _ => rfl)).e)))) (fun c3 => (sj_as sj_raise)) fun c3 => (sj_next (sj_if (ST.g (st_not (st_tv (se_o so_all (sef_lc (β := D × D) (si_z (se_bl so_ix 0 rfl se_c) (se_sl (se_bl so_ix 0 rfl se_c) (sp_s se_c) sp_n)) rfl rfl rfl (tg_t (tgs_c (tg_n 2 rfl) fun _ => (tgs_1 (tg_n 3 rfl)))) (fun b4 => st_yes) (fun b4 => (se_b so_lt (se_v 2 rfl) (se_v 3 rfl))) (fun _ => rfl)).e)))) (fun c5 => (sj_as sj_raise)) fun c5 => (sj_next (sj_tn rfl rfl)))))))
/-- check_fold(graph, fold): 0=graph 1=fold -/
def wf_check_fold (E : Exc → Prop) : WS :=
    (wSeq (wDrop (wCall (con1 false py_check_graph) E (wCons (wV 0) wNil)))
    (wSeq (wIfS (wNot (wTv (wChain oLe oLe (wC (PyData.int 1)) (wV 1) (wC (PyData.int 3))))) (wSeq (wRaise E .refused)
    wNext) wNext)
    wNext))
theorem k_check_fold : Keeps (con2 false py_check_fold) [false, false] 0 wf_check_fold := keeps2 fun E x_graph x_fold => (sj_drop (SE.g (se_call1 (se_v 0 rfl))) fun v1 => (sj_if (ST.g (st_not (st_tv (se_chain so_le so_le se_c (se_v 1 rfl) se_c)))) (fun c2 => (sj_as sj_raise)) fun c2 => (sj_next (sj_tn rfl rfl))))
/-- near_masks(graph): 0=graph 1=found 2=one 3=other -/
def wf_near_masks (E : Exc → Prop) : WS :=
    (wSeq (wAsg (wB oMul (wLst (wCons (wC (PyData.int 0)) wNil)) (wBL oIx 0 (wC (PyData.int 0)))) (gN 1))
    (wSeq (wFor (itS (wBL oIx 0 (wC (PyData.int 1)))) (gTup 2 (gCons (gN 2) (gCons (gN 3) gNil))) (wSeq (wAsg (wB oOr (wBL oIx 1 (wV 2)) (wB oShl (wC (PyData.int 1)) (wV 3))) (gIx 1 (wV 2)))
    (wSeq (wAsg (wB oOr (wBL oIx 1 (wV 3)) (wB oShl (wC (PyData.int 1)) (wV 2))) (gIx 1 (wV 3)))
    wNext)))
    (wSeq (wPre [1] (wRet (wFz (wV 1))))
    wNext)))
theorem k_near_masks : Keeps (con1 false py_near_masks) [false] 3 wf_near_masks := keeps1 fun E x_graph => (sj_setF 1 (SEF.g (sef_b so_mulF (sef_lst (sa_cons se_c sa_nil)).e (se_bl so_ix 0 rfl se_c))) (fun _ => rfl) fun v1 => (sj_for (Γh := (fun (a3 : D) => [.sh x_graph, .ow a3, .an, .an])) (fun xs2 => v1) (SI.g (si_s (se_bl so_ix 0 rfl se_c))) (fun _ => (.s (.s (.n (.n .e))))) (fun _ => (tg_t (tgs_c (tg_n 2 rfl) fun _ => (tgs_1 (tg_n 3 rfl))))) (fun a3 b4 => (sj_idx 1 (SE.g (se_b so_bor (se_bl so_ix 1 rfl (se_v 2 rfl)) (se_b so_shl se_c (se_v 3 rfl)))) (fun _ => rfl) (fun v5 => (se_v 2 rfl)) fun v5 v7 => (sj_idx 1 (SE.g (se_b so_bor (se_bl so_ix 1 rfl (se_v 3 rfl)) (se_b so_shl se_c (se_v 2 rfl)))) (fun _ => rfl) (fun v8 => (se_v 3 rfl)) fun v8 v10 => (sj_n (.s (.s (.h (.h .e)))))))) fun s11 => (sj_seqpre (.cons rfl .nil) (sj_ret0 (se_v 1 rfl) rfl))))
/-- seen_masks(graph): 0=graph 1=place 2=near -/
def wf_seen_masks (E : Exc → Prop) : WS :=
    (wSeq (wRet (wFz (wLc (itE (wCall (con1 false py_near_masks) E (wCons (wV 0) wNil))) (gTup 2 (gCons (gN 1) (gCons (gN 2) gNil))) tYes (wB oOr (wV 2) (wB oShl (wC (PyData.int 1)) (wV 1))) [1, 2])))
    wNext)
theorem k_seen_masks : Keeps (con1 false py_seen_masks) [false] 2 wf_seen_masks := keeps1 fun E x_graph => (sj_ret0 (sef_lc (β := D × D) (si_e (se_call1 (se_v 0 rfl))) rfl rfl rfl (tg_t (tgs_c (tg_n 1 rfl) fun _ => (tgs_1 (tg_n 2 rfl)))) (fun b1 => st_yes) (fun b1 => (se_b so_bor (se_v 2 rfl) (se_b so_shl se_c (se_v 1 rfl)))) (fun _ => rfl)).e rfl)
/-- members(mask): 0=mask 1=place -/
def wf_members (E : Exc → Prop) : WS :=
    (wSeq (wRet (wFz (wO oTuple (wLc (itR1 (wC (PyData.int 8))) (gN 1) (wTv (wB oEq (wB oAnd (wB oShr (wV 0) (wV 1)) (wC (PyData.int 1))) (wC (PyData.int 1)))) (wV 1) [1]))))
    wNext)
theorem k_members : Keeps (con1 false py_members) [false] 1 wf_members := keeps1 fun E x_mask => (sj_ret0 (se_o so_tuple (sef_lc (β := D) (si_r1 se_c) rfl rfl rfl (tg_n 1 rfl) (fun b1 => (st_tv (se_b so_eq (se_b so_band (se_b so_shr (se_v 0 rfl) (se_v 1 rfl)) se_c) se_c))) (fun b1 => (se_v 1 rfl)) (fun _ => rfl)).e) rfl)
/-- size(mask): 0=mask -/
def wf_size (E : Exc → Prop) : WS :=
    (wSeq (wRet (wFz (wO oLen (wCall (con1 false py_members) E (wCons (wV 0) wNil)))))
    wNext)
theorem k_size : Keeps (con1 false py_size) [false] 0 wf_size := keeps1 fun E x_mask => (sj_ret0 (se_o so_len (se_call1 (se_v 0 rfl))) rfl)
/-- masks_by_size(many): 0=many 1=rows 2=mask 3=_ -/
def wf_masks_by_size (E : Exc → Prop) : WS :=
    (wSeq (wAsg (wFz (wLc (itR1 (wB oShl (wC (PyData.int 1)) (wV 0))) (gN 2) tYes (wTup (wCons (wCall (con1 false py_size) E0d (wCons (wV 2) wNil)) (wCons (wCall (con1 false py_members) E0d (wCons (wV 2) wNil)) (wCons (wV 2) wNil)))) [2])) (gN 1))
    (wSeq (wRet (wFz (wLc (itS (wO oSorted (wV 1))) (gTup 3 (gCons (gN 3) (gCons (gN 3) (gCons (gN 2) gNil)))) tYes (wV 2) [3, 2])))
    wNext))
theorem k_masks_by_size : Keeps (con1 false py_masks_by_size) [false] 3 wf_masks_by_size := keeps1 fun E x_many => (sj_set 1 (SE.g (sef_lc (β := D) (si_r1 (se_b so_shl se_c (se_v 0 rfl))) rfl rfl rfl (tg_n 2 rfl) (fun b1 => st_yes) (fun b1 => (se_tup (sa_cons (se_call1 (se_v 2 rfl)) (sa_cons (se_call1 (se_v 2 rfl)) (sa_cons (se_v 2 rfl) sa_nil))))) (fun _ => rfl)).e) (fun _ => rfl) fun v2 => (sj_ret0 (sef_lc (β := D × D × D) (si_s (sef_o so_sorted (se_v 1 rfl)).e) rfl rfl rfl (tg_t (tgs_c (tg_n 3 rfl) fun _ => (tgs_c (tg_n 3 rfl) fun _ => (tgs_1 (tg_n 2 rfl))))) (fun b3 => st_yes) (fun b3 => (se_v 2 rfl)) (fun _ => rfl)).e rfl))
/-- sees_often(rows, mask, fold): 0=rows 1=mask 2=fold 3=row -/
def wf_sees_often (E : Exc → Prop) : WS :=
    (wSeq (wRet (wFz (wO oAll (wLc (itS (wV 0)) (gN 3) tYes (wB oGe (wCall (con1 false py_size) E0d (wCons (wB oAnd (wV 3) (wV 1)) wNil)) (wV 2)) [3]))))
    wNext)
theorem k_sees_often : Keeps (con3 false py_sees_often) [false, false, false] 1 wf_sees_often := keeps3 fun E x_rows x_mask x_fold => (sj_ret0 (se_o so_all (sef_lc (β := D) (si_s (se_v 0 rfl)) rfl rfl rfl (tg_n 3 rfl) (fun b1 => st_yes) (fun b1 => (se_b so_ge (se_call1 (se_b so_band (se_v 3 rfl) (se_v 1 rfl))) (se_v 2 rfl))) (fun _ => rfl)).e) rfl)
/-- fewest_often(graph, fold): 0=graph 1=fold 2=rows 3=mask -/
def wf_fewest_often (E : Exc → Prop) : WS :=
    (wSeq (wDrop (wCall (con2 false py_check_fold) E (wCons (wV 0) (wCons (wV 1) wNil))))
    (wSeq (wAsg (wFz (wCall (con1 false py_seen_masks) E (wCons (wV 0) wNil))) (gN 2))
    (wSeq (wFor (itS (wCall (con1 false py_masks_by_size) E (wCons (wBL oIx 0 (wC (PyData.int 0))) wNil))) (gN 3) (wSeq (wIfS (wTv (wCall (con3 false py_sees_often) E (wCons (wV 2) (wCons (wV 3) (wCons (wV 1) wNil))))) (wSeq (wRet (wFz (wCall (con1 false py_members) E (wCons (wV 3) wNil))))
    wNext) wNext)
    wNext))
    (wSeq (wRaise E .missing)
    wNext))))
theorem k_fewest_often : Keeps (con2 false py_fewest_often) [false, false] 2 wf_fewest_often := keeps2 fun E x_graph x_fold => (sj_drop (SE.g (se_call2 (se_v 0 rfl) (se_v 1 rfl))) fun v1 => (sj_set 2 (SE.g (se_call1 (se_v 0 rfl))) (fun _ => rfl) fun v2 => (sj_forC (Γh := (fun (a4 : Unit) => [.sh x_graph, .sh x_fold, .sh v2, .an])) (pk := pk0) (fun xs3 => ()) inj_t (SI.g (si_s (se_call1 (se_bl so_ix 0 rfl se_c)))) (fun _ => (.s (.s (.s (.n .e))))) (fun _ => (tg_n 3 rfl)) (fun a4 b5 => (sj_if (ST.g (st_tv (se_call3 (se_v 2 rfl) (se_v 3 rfl) (se_v 1 rfl)))) (fun c6 => (sj_as (sj_cret pk0 (fun v7 => v7) (SE.g (se_call1 (se_v 3 rfl))) (fun _ => rfl)))) fun c6 => (sj_next (sj_cn (.s (.s (.s (.h .e)))))))) fun s8 => sj_raise)))
/-- check_places(graph, places): 0=graph 1=places 2=place 3=one 4=other -/
def wf_check_places (E : Exc → Prop) : WS :=
    (wSeq (wDrop (wCall (con1 false py_check_graph) E (wCons (wV 0) wNil)))
    (wSeq (wIfS (wNot (wTv (wO oAll (wLc (itS (wV 1)) (gN 2) tYes (wChain oLe oLtX (wC (PyData.int 0)) (wV 2) (wBL oIx 0 (wC (PyData.int 0)))) [2])))) (wSeq (wRaise E .refused)
    wNext) wNext)
    (wSeq (wIfS (wNot (wTv (wO oAll (wLc (itZ (wV 1) (wSl (wV 1) (pS (wC (PyData.int 1))) pN)) (gTup 2 (gCons (gN 3) (gCons (gN 4) gNil))) tYes (wB oLtX (wV 3) (wV 4)) [3, 4])))) (wSeq (wRaise E .refused)
    wNext) wNext)
    wNext)))
theorem k_check_places : Keeps (con2 false py_check_places) [false, false] 3 wf_check_places := keeps2 fun E x_graph x_places => (sj_drop (SE.g (se_call1 (se_v 0 rfl))) fun v1 => (sj_if (ST.g (st_not (st_tv (se_o so_all (sef_lc (β := D) (si_s (se_v 1 rfl)) rfl rfl rfl (tg_n 2 rfl) (fun b2 => st_yes) (fun b2 => (se_chain so_le so_lt se_c (se_v 2 rfl) (se_bl so_ix 0 rfl se_c))) (fun _ => rfl)).e)))) (fun c3 => (sj_as sj_raise)) fun c3 => (sj_next (sj_if (ST.g (st_not (st_tv (se_o so_all (sef_lc (β := D × D) (si_z (se_v 1 rfl) (se_sl (se_v 1 rfl) (sp_s se_c) sp_n)) rfl rfl rfl (tg_t (tgs_c (tg_n 3 rfl) fun _ => (tgs_1 (tg_n 4 rfl)))) (fun b4 => st_yes) (fun b4 => (se_b so_lt (se_v 3 rfl) (se_v 4 rfl))) (fun _ => rfl)).e)))) (fun c5 => (sj_as sj_raise)) fun c5 => (sj_next (sj_tn rfl rfl))))))
/-- mask_of(places): 0=places 1=place -/
def wf_mask_of (E : Exc → Prop) : WS :=
    (wSeq (wRet (wFz (wO oSum (wLc (itS (wV 0)) (gN 1) tYes (wB oShl (wC (PyData.int 1)) (wV 1)) [1]))))
    wNext)
theorem k_mask_of : Keeps (con1 false py_mask_of) [false] 1 wf_mask_of := keeps1 fun E x_places => (sj_ret0 (se_o so_sum (sef_lc (β := D) (si_s (se_v 0 rfl)) rfl rfl rfl (tg_n 1 rfl) (fun b1 => st_yes) (fun b1 => (se_b so_shl se_c (se_v 1 rfl))) (fun _ => rfl)).e) rfl)
/-- watch_often(graph, fold, places): 0=graph 1=fold 2=places -/
def wf_watch_often (E : Exc → Prop) : WS :=
    (wSeq (wDrop (wCall (con2 false py_check_fold) E (wCons (wV 0) (wCons (wV 1) wNil))))
    (wSeq (wDrop (wCall (con2 false py_check_places) E (wCons (wV 0) (wCons (wV 2) wNil))))
    (wSeq (wRet (wFz (wCall (con3 false py_sees_often) E (wCons (wCall (con1 false py_seen_masks) E (wCons (wV 0) wNil)) (wCons (wCall (con1 false py_mask_of) E (wCons (wV 2) wNil)) (wCons (wV 1) wNil))))))
    wNext)))
theorem k_watch_often : Keeps (con3 false py_watch_often) [false, false, false] 0 wf_watch_often := keeps3 fun E x_graph x_fold x_places => (sj_drop (SE.g (se_call2 (se_v 0 rfl) (se_v 1 rfl))) fun v1 => (sj_drop (SE.g (se_call2 (se_v 0 rfl) (se_v 2 rfl))) fun v2 => (sj_ret0 (se_call3 (se_call1 (se_v 0 rfl)) (se_call1 (se_v 2 rfl)) (se_v 1 rfl)) rfl)))
/-- outlasts(graph, places, failing): 0=graph 1=places 2=failing -/
def wf_outlasts (E : Exc → Prop) : WS :=
    (wSeq (wDrop (wCall (con1 false py_check_graph) E (wCons (wV 0) wNil)))
    (wSeq (wDrop (wCall (con2 false py_check_places) E (wCons (wV 0) (wCons (wV 1) wNil))))
    (wSeq (wIfS (wNot (wTv (wChain oLe oLe (wC (PyData.int 0)) (wV 2) (wO oLen (wV 1))))) (wSeq (wRaise E .refused)
    wNext) wNext)
    (wSeq (wRet (wFz (wCall (con3 false py_sees_often) E (wCons (wCall (con1 false py_seen_masks) E (wCons (wV 0) wNil)) (wCons (wCall (con1 false py_mask_of) E (wCons (wV 1) wNil)) (wCons (wB oAdd (wV 2) (wC (PyData.int 1))) wNil))))))
    wNext))))
theorem k_outlasts : Keeps (con3 false py_outlasts) [false, false, false] 0 wf_outlasts := keeps3 fun E x_graph x_places x_failing => (sj_drop (SE.g (se_call1 (se_v 0 rfl))) fun v1 => (sj_drop (SE.g (se_call2 (se_v 0 rfl) (se_v 1 rfl))) fun v2 => (sj_if (ST.g (st_not (st_tv (se_chain so_le so_le se_c (se_v 2 rfl) (se_o so_len (se_v 1 rfl)))))) (fun c3 => (sj_as sj_raise)) fun c3 => (sj_next (sj_ret0 (se_call3 (se_call1 (se_v 0 rfl)) (se_call1 (se_v 1 rfl)) (se_b so_add (se_v 2 rfl) se_c)) rfl)))))
/-- chance_kept(graph, places, failing): 0=graph 1=places 2=failing 3=rows 4=whole 5=sets 6=mask -/
def wf_chance_kept (E : Exc → Prop) : WS :=
    (wSeq (wDrop (wCall (con1 false py_check_graph) E (wCons (wV 0) wNil)))
    (wSeq (wDrop (wCall (con2 false py_check_places) E (wCons (wV 0) (wCons (wV 1) wNil))))
    (wSeq (wIfS (wNot (wTv (wChain oLe oLe (wC (PyData.int 0)) (wV 2) (wO oLen (wV 1))))) (wSeq (wRaise E .refused)
    wNext) wNext)
    (wSeq (wAsg (wFz (wTup (wCons (wCall (con1 false py_seen_masks) E (wCons (wV 0) wNil)) (wCons (wCall (con1 false py_mask_of) E (wCons (wV 1) wNil)) wNil)))) (gTup 2 (gCons (gN 3) (gCons (gN 4) gNil))))
    (wSeq (wAsg (wFz (wLc (itR1 (wB oShl (wC (PyData.int 1)) (wBL oIx 0 (wC (PyData.int 0))))) (gN 6) (wAnd (wTv (wB oEq (wB oAnd (wV 6) (wO oInv (wV 4))) (wC (PyData.int 0)))) (wTv (wB oEq (wCall (con1 false py_size) E0d (wCons (wV 6) wNil)) (wV 2)))) (wV 6) [6])) (gN 5))
    (wSeq (wRet (wFz (wTup (wCons (wO oLen (wLc (itS (wV 5)) (gN 6) (wTv (wCall (con3 false py_sees_often) E0d (wCons (wV 3) (wCons (wB oAnd (wV 4) (wO oInv (wV 6))) (wCons (wC (PyData.int 1)) wNil))))) (wV 6) [6])) (wCons (wO oLen (wV 5)) wNil)))))
    wNext))))))
theorem k_chance_kept : Keeps (con3 false py_chance_kept) [false, false, false] 4 wf_chance_kept := keeps3 fun E x_graph x_places x_failing => (sj_drop (SE.g (se_call1 (se_v 0 rfl))) fun v1 => (sj_drop (SE.g (se_call2 (se_v 0 rfl) (se_v 1 rfl))) fun v2 => (sj_if (ST.g (st_not (st_tv (se_chain so_le so_le se_c (se_v 2 rfl) (se_o so_len (se_v 1 rfl)))))) (fun c3 => (sj_as sj_raise)) fun c3 => (sj_next (sj_asg (SE.g (se_tup (sa_cons (se_call1 (se_v 0 rfl)) (sa_cons (se_call1 (se_v 1 rfl)) sa_nil)))) (fun _ => (tg_t (tgs_c (tg_n 3 rfl) fun _ => (tgs_1 (tg_n 4 rfl))))) fun v4 b5 => (sj_set 5 (SE.g (sef_lc (β := D) (si_r1 (se_b so_shl se_c (se_bl so_ix 0 rfl se_c))) rfl rfl rfl (tg_n 6 rfl) (fun b6 => (st_and (st_tv (se_b so_eq (se_b so_band (se_v 6 rfl) (se_o so_inv (se_v 4 rfl))) se_c)) (st_tv (se_b so_eq (se_call1 (se_v 6 rfl)) (se_v 2 rfl))))) (fun b6 => (se_v 6 rfl)) (fun _ => rfl)).e) (fun _ => rfl) fun v7 => (sj_ret0 (se_tup (sa_cons (se_o so_len (sef_lc (β := D) (si_s (se_v 5 rfl)) rfl rfl rfl (tg_n 6 rfl) (fun b8 => (st_tv (se_call3 (se_v 3 rfl) (se_b so_band (se_v 4 rfl) (se_o so_inv (se_v 6 rfl))) se_c))) (fun b8 => (se_v 6 rfl)) (fun _ => rfl)).e) (sa_cons (se_o so_len (se_v 5 rfl)) sa_nil))) rfl)))))))
/-- weakest(graph, places): 0=graph 1=places 2=mask 3=rows 4=least 5=row -/
def wf_weakest (E : Exc → Prop) : WS :=
    (wSeq (wDrop (wCall (con1 false py_check_graph) E (wCons (wV 0) wNil)))
    (wSeq (wDrop (wCall (con2 false py_check_places) E (wCons (wV 0) (wCons (wV 1) wNil))))
    (wSeq (wAsg (wFz (wCall (con1 false py_mask_of) E (wCons (wV 1) wNil))) (gN 2))
    (wSeq (wAsg (wFz (wLc (itS (wCall (con1 false py_seen_masks) E (wCons (wV 0) wNil))) (gN 5) tYes (wCall (con1 false py_members) E0d (wCons (wB oAnd (wV 5) (wV 2)) wNil)) [5])) (gN 3))
    (wSeq (wAsg (wFz (wO oMin (wLc (itS (wV 3)) (gN 5) tYes (wO oLen (wV 5)) [5]))) (gN 4))
    (wSeq (wRet (wFz (wTup (wCons (wV 4) (wCons (wO oMin (wLc (itS (wV 3)) (gN 5) (wTv (wB oEq (wO oLen (wV 5)) (wV 4))) (wV 5) [5])) wNil)))))
    wNext))))))
theorem k_weakest : Keeps (con2 false py_weakest) [false, false] 4 wf_weakest := keeps2 fun E x_graph x_places => (sj_drop (SE.g (se_call1 (se_v 0 rfl))) fun v1 => (sj_drop (SE.g (se_call2 (se_v 0 rfl) (se_v 1 rfl))) fun v2 => (sj_set 2 (SE.g (se_call1 (se_v 1 rfl))) (fun _ => rfl) fun v3 => (sj_set 3 (SE.g (sef_lc (β := D) (si_s (se_call1 (se_v 0 rfl))) rfl rfl rfl (tg_n 5 rfl) (fun b4 => st_yes) (fun b4 => (se_call1 (se_b so_band (se_v 5 rfl) (se_v 2 rfl)))) (fun _ => rfl)).e) (fun _ => rfl) fun v5 => (sj_set 4 (SE.g (se_o so_min (sef_lc (β := D) (si_s (se_v 3 rfl)) rfl rfl rfl (tg_n 5 rfl) (fun b6 => st_yes) (fun b6 => (se_o so_len (se_v 5 rfl))) (fun _ => rfl)).e)) (fun _ => rfl) fun v7 => (sj_ret0 (se_tup (sa_cons (se_v 4 rfl) (sa_cons (se_o so_min (sef_lc (β := D) (si_s (se_v 3 rfl)) rfl rfl rfl (tg_n 5 rfl) (fun b8 => (st_tv (se_b so_eq (se_o so_len (se_v 5 rfl)) (se_v 4 rfl)))) (fun b8 => (se_v 5 rfl)) (fun _ => rfl)).e) sa_nil))) rfl))))))
/-- least_sets(graph): 0=graph 1=rows 2=found 3=mask 4=place -/
def wf_least_sets (E : Exc → Prop) : WS :=
    (wSeq (wDrop (wCall (con1 false py_check_graph) E (wCons (wV 0) wNil)))
    (wSeq (wMul [1, 2] (wmCons (wFz (wCall (con1 false py_seen_masks) E (wCons (wV 0) wNil))) (wmCons (wLst wNil) wmNil)))
    (wSeq (wFor (itR1 (wB oShl (wC (PyData.int 1)) (wBL oIx 0 (wC (PyData.int 0))))) (gN 3) (wSeq (wIfS (wTv (wCall (con3 false py_sees_often) E (wCons (wV 1) (wCons (wV 3) (wCons (wC (PyData.int 1)) wNil))))) (wSeq (wIfS (wNot (wTv (wO oAny (wLc (itS (wCall (con1 false py_members) E (wCons (wV 3) wNil))) (gN 4) tYes (wCall (con3 false py_sees_often) E0d (wCons (wV 1) (wCons (wB oXor (wV 3) (wB oShl (wC (PyData.int 1)) (wV 4))) (wCons (wC (PyData.int 1)) wNil)))) [4])))) (wSeq (wApp 2 (wCall (con1 false py_members) E (wCons (wV 3) wNil)))
    wNext) wNext)
    wNext) wNext)
    wNext))
    (wSeq (wPre [2] (wRet (wFz (wO oSorted (wV 2)))))
    wNext))))
theorem k_least_sets : Keeps (con1 false py_least_sets) [false] 4 wf_least_sets := keeps1 fun E x_graph => (sj_drop (SE.g (se_call1 (se_v 0 rfl))) fun v1 => (sj_mul2 1 2 (SE.b (se_call1 (se_v 0 rfl))) (SEF.b (sef_lst sa_nil)) rfl rfl fun v2 v3 => (sj_for (Γh := (fun (a5 : D) => [.sh x_graph, .sh v2, .ow a5, .an, .no])) (fun xs4 => v3) (SI.g (si_r1 (se_b so_shl se_c (se_bl so_ix 0 rfl se_c)))) (fun _ => (.s (.s (.s (.n (.s .e)))))) (fun _ => (tg_n 3 rfl)) (fun a5 b6 => (sj_if (ST.g (st_tv (se_call3 (se_v 1 rfl) (se_v 3 rfl) se_c))) (fun c7 => (sj_as (sj_if (ST.g (st_not (st_tv (se_o so_any (sef_lc (β := D) (si_s (se_call1 (se_v 3 rfl))) rfl rfl rfl (tg_n 4 rfl) (fun b8 => st_yes) (fun b8 => (se_call3 (se_v 1 rfl) (se_b so_bxor (se_v 3 rfl) (se_b so_shl se_c (se_v 4 rfl))) se_c)) (fun _ => rfl)).e)))) (fun c9 => (sj_as (sj_app 2 rfl (SE.g (se_call1 (se_v 3 rfl))) (fun _ => rfl) fun v10 v11 => (sj_next (sj_next (sj_n (.s (.s (.s (.h (.s .e))))))))))) fun c9 => (sj_next (sj_next (sj_n (.s (.s (.s (.h (.s .e))))))))))) fun c7 => (sj_next (sj_n (.s (.s (.s (.h (.s .e))))))))) fun s12 => (sj_seqpre (.cons rfl .nil) (sj_ret0 (sef_o so_sorted (se_v 2 rfl)).e rfl)))))
/-- in_all(graph): 0=graph 1=sets 2=place 3=row -/
def wf_in_all (E : Exc → Prop) : WS :=
    (wSeq (wAsg (wFz (wCall (con1 false py_least_sets) E (wCons (wV 0) wNil))) (gN 1))
    (wSeq (wRet (wFz (wLc (itR1 (wBL oIx 0 (wC (PyData.int 0)))) (gN 2) (wTv (wO oAll (wLc (itS (wV 1)) (gN 3) tYes (wB oIn (wV 2) (wV 3)) [3]))) (wV 2) [2])))
    wNext))
theorem k_in_all : Keeps (con1 false py_in_all) [false] 3 wf_in_all := keeps1 fun E x_graph => (sj_set 1 (SE.g (se_call1 (se_v 0 rfl))) (fun _ => rfl) fun v1 => (sj_ret0 (sef_lc (β := D) (si_r1 (se_bl so_ix 0 rfl se_c)) rfl rfl rfl (tg_n 2 rfl) (fun b2 => (st_tv (se_o so_all (sef_lc (β := D) (si_s (se_v 1 rfl)) rfl rfl rfl (tg_n 3 rfl) (fun b3 => st_yes) (fun b3 => (se_b so_in (se_v 2 rfl) (se_v 3 rfl))) (fun _ => rfl)).e))) (fun b2 => (se_v 2 rfl)) (fun _ => rfl)).e rfl))
/-- most_needed(graph): 0=graph 1=sets 2=most 3=row -/
def wf_most_needed (E : Exc → Prop) : WS :=
    (wSeq (wAsg (wFz (wCall (con1 false py_least_sets) E (wCons (wV 0) wNil))) (gN 1))
    (wSeq (wAsg (wFz (wO oMax (wLc (itS (wV 1)) (gN 3) tYes (wO oLen (wV 3)) [3]))) (gN 2))
    (wSeq (wRet (wFz (wTup (wCons (wV 2) (wCons (wB oIx (wLc (itS (wV 1)) (gN 3) (wTv (wB oEq (wO oLen (wV 3)) (wV 2))) (wV 3) [3]) (wC (PyData.int 0))) wNil)))))
    wNext)))
theorem k_most_needed : Keeps (con1 false py_most_needed) [false] 3 wf_most_needed := keeps1 fun E x_graph => (sj_set 1 (SE.g (se_call1 (se_v 0 rfl))) (fun _ => rfl) fun v1 => (sj_set 2 (SE.g (se_o so_max (sef_lc (β := D) (si_s (se_v 1 rfl)) rfl rfl rfl (tg_n 3 rfl) (fun b2 => st_yes) (fun b2 => (se_o so_len (se_v 3 rfl))) (fun _ => rfl)).e)) (fun _ => rfl) fun v3 => (sj_ret0 (se_tup (sa_cons (se_v 2 rfl) (sa_cons (se_b so_ix (sef_lc (β := D) (si_s (se_v 1 rfl)) rfl rfl rfl (tg_n 3 rfl) (fun b4 => (st_tv (se_b so_eq (se_o so_len (se_v 3 rfl)) (se_v 2 rfl)))) (fun b4 => (se_v 3 rfl)) (fun _ => rfl)).e se_c) sa_nil))) rfl)))
/-- count_sets(graph, many): 0=graph 1=many 2=rows 3=mask -/
def wf_count_sets (E : Exc → Prop) : WS :=
    (wSeq (wDrop (wCall (con1 false py_check_graph) E (wCons (wV 0) wNil)))
    (wSeq (wIfS (wNot (wTv (wChain oLe oLe (wC (PyData.int 0)) (wV 1) (wBL oIx 0 (wC (PyData.int 0)))))) (wSeq (wRaise E .refused)
    wNext) wNext)
    (wSeq (wAsg (wFz (wCall (con1 false py_seen_masks) E (wCons (wV 0) wNil))) (gN 2))
    (wSeq (wRet (wFz (wO oLen (wLc (itR1 (wB oShl (wC (PyData.int 1)) (wBL oIx 0 (wC (PyData.int 0))))) (gN 3) (wAnd (wTv (wB oEq (wCall (con1 false py_size) E0d (wCons (wV 3) wNil)) (wV 1))) (wTv (wCall (con3 false py_sees_often) E0d (wCons (wV 2) (wCons (wV 3) (wCons (wC (PyData.int 1)) wNil)))))) (wV 3) [3]))))
    wNext))))
theorem k_count_sets : Keeps (con2 false py_count_sets) [false, false] 2 wf_count_sets := keeps2 fun E x_graph x_many => (sj_drop (SE.g (se_call1 (se_v 0 rfl))) fun v1 => (sj_if (ST.g (st_not (st_tv (se_chain so_le so_le se_c (se_v 1 rfl) (se_bl so_ix 0 rfl se_c))))) (fun c2 => (sj_as sj_raise)) fun c2 => (sj_next (sj_set 2 (SE.g (se_call1 (se_v 0 rfl))) (fun _ => rfl) fun v3 => (sj_ret0 (se_o so_len (sef_lc (β := D) (si_r1 (se_b so_shl se_c (se_bl so_ix 0 rfl se_c))) rfl rfl rfl (tg_n 3 rfl) (fun b4 => (st_and (st_tv (se_b so_eq (se_call1 (se_v 3 rfl)) (se_v 1 rfl))) (st_tv (se_call3 (se_v 2 rfl) (se_v 3 rfl) se_c)))) (fun b4 => (se_v 3 rfl)) (fun _ => rfl)).e) rfl)))))
/-- all_counts(graph): 0=graph 1=rows 2=found 3=mask -/
def wf_all_counts (E : Exc → Prop) : WS :=
    (wSeq (wDrop (wCall (con1 false py_check_graph) E (wCons (wV 0) wNil)))
    (wSeq (wMul [1, 2] (wmCons (wFz (wCall (con1 false py_seen_masks) E (wCons (wV 0) wNil))) (wmCons (wB oMul (wLst (wCons (wC (PyData.int 0)) wNil)) (wB oAdd (wBL oIx 0 (wC (PyData.int 0))) (wC (PyData.int 1)))) wmNil)))
    (wSeq (wFor (itR1 (wB oShl (wC (PyData.int 1)) (wBL oIx 0 (wC (PyData.int 0))))) (gN 3) (wSeq (wIfS (wTv (wCall (con3 false py_sees_often) E (wCons (wV 1) (wCons (wV 3) (wCons (wC (PyData.int 1)) wNil))))) (wSeq (wAsg (wB oAdd (wBL oIx 2 (wCall (con1 false py_size) E (wCons (wV 3) wNil))) (wC (PyData.int 1))) (gIx 2 (wCall (con1 false py_size) E (wCons (wV 3) wNil))))
    wNext) wNext)
    wNext))
    (wSeq (wPre [2] (wRet (wFz (wO oTuple (wV 2)))))
    wNext))))
theorem k_all_counts : Keeps (con1 false py_all_counts) [false] 3 wf_all_counts := keeps1 fun E x_graph => (sj_drop (SE.g (se_call1 (se_v 0 rfl))) fun v1 => (sj_mul2 1 2 (SE.b (se_call1 (se_v 0 rfl))) (SEF.b (sef_b so_mulF (sef_lst (sa_cons se_c sa_nil)).e (se_b so_add (se_bl so_ix 0 rfl se_c) se_c))) rfl rfl fun v2 v3 => (sj_for (Γh := (fun (a5 : D) => [.sh x_graph, .sh v2, .ow a5, .an])) (fun xs4 => v3) (SI.g (si_r1 (se_b so_shl se_c (se_bl so_ix 0 rfl se_c)))) (fun _ => (.s (.s (.s (.n .e))))) (fun _ => (tg_n 3 rfl)) (fun a5 b6 => (sj_if (ST.g (st_tv (se_call3 (se_v 1 rfl) (se_v 3 rfl) se_c))) (fun c7 => (sj_as (sj_idx 2 (SE.g (se_b so_add (se_bl so_ix 2 rfl (se_call1 (se_v 3 rfl))) se_c)) (fun _ => rfl) (fun v8 => (se_call1 (se_v 3 rfl))) fun v8 v10 => (sj_next (sj_n (.s (.s (.s (.h .e))))))))) fun c7 => (sj_next (sj_n (.s (.s (.s (.h .e)))))))) fun s11 => (sj_seqpre (.cons rfl .nil) (sj_ret0 (se_o so_tuple (se_v 2 rfl)) rfl)))))
/-- _law_bad_graphs():  -/
def wf__law_bad_graphs (E : Exc → Prop) : WS :=
    (wSeq (wRet (wFz (wLst (wCons (wTup (wCons (wC (PyData.int 0)) (wCons (wTup wNil) wNil))) (wCons (wTup (wCons (wC (PyData.int 9)) (wCons (wTup wNil) wNil))) (wCons (wTup (wCons (wC (PyData.int 2)) (wCons (wTup (wCons (wTup (wCons (wC (PyData.int 1)) (wCons (wC (PyData.int 0)) wNil))) wNil)) wNil))) (wCons (wTup (wCons (wC (PyData.int 2)) (wCons (wTup (wCons (wTup (wCons (wC (PyData.int 0)) (wCons (wC (PyData.int 2)) wNil))) wNil)) wNil))) (wCons (wTup (wCons (wC (PyData.int 3)) (wCons (wTup (wCons (wTup (wCons (wC (PyData.int 0)) (wCons (wC (PyData.int 2)) wNil))) (wCons (wTup (wCons (wC (PyData.int 0)) (wCons (wC (PyData.int 1)) wNil))) wNil))) wNil))) (wCons (wTup (wCons (wC (PyData.int 2)) (wCons (wTup (wCons (wTup (wCons (wC (PyData.int 0)) (wCons (wC (PyData.int 1)) wNil))) (wCons (wTup (wCons (wC (PyData.int 0)) (wCons (wC (PyData.int 1)) wNil))) wNil))) wNil))) (wCons (wTup (wCons (wC (PyData.int 2)) (wCons (wTup (wCons (wTup (wCons (wC (PyData.int 0)) (wCons (wC (PyData.int 0)) wNil))) wNil)) wNil))) (wCons (wTup (wCons (wC (PyData.int 1)) (wCons (wTup (wCons (wTup (wCons (wC (PyData.int 0)) wNil)) wNil)) wNil))) wNil)))))))))))
    wNext)
theorem k__law_bad_graphs : Keeps (con0 false py__law_bad_graphs) [] 0 wf__law_bad_graphs := keeps0 fun E  => (sj_ret0 (sef_lst (sa_cons (se_tup (sa_cons se_c (sa_cons (se_tup sa_nil) sa_nil))) (sa_cons (se_tup (sa_cons se_c (sa_cons (se_tup sa_nil) sa_nil))) (sa_cons (se_tup (sa_cons se_c (sa_cons (se_tup (sa_cons (se_tup (sa_cons se_c (sa_cons se_c sa_nil))) sa_nil)) sa_nil))) (sa_cons (se_tup (sa_cons se_c (sa_cons (se_tup (sa_cons (se_tup (sa_cons se_c (sa_cons se_c sa_nil))) sa_nil)) sa_nil))) (sa_cons (se_tup (sa_cons se_c (sa_cons (se_tup (sa_cons (se_tup (sa_cons se_c (sa_cons se_c sa_nil))) (sa_cons (se_tup (sa_cons se_c (sa_cons se_c sa_nil))) sa_nil))) sa_nil))) (sa_cons (se_tup (sa_cons se_c (sa_cons (se_tup (sa_cons (se_tup (sa_cons se_c (sa_cons se_c sa_nil))) (sa_cons (se_tup (sa_cons se_c (sa_cons se_c sa_nil))) sa_nil))) sa_nil))) (sa_cons (se_tup (sa_cons se_c (sa_cons (se_tup (sa_cons (se_tup (sa_cons se_c (sa_cons se_c sa_nil))) sa_nil)) sa_nil))) (sa_cons (se_tup (sa_cons se_c (sa_cons (se_tup (sa_cons (se_tup (sa_cons se_c sa_nil)) sa_nil)) sa_nil))) sa_nil))))))))).e rfl)
/-- law(script): 0=script 1=state 2=turn 3=graph 4=many 5=seen 6=sets 7=good 8=fold 9=k 10=small 11=places 12=most 13=every 14=counts 15=size_v 16=none 17=odd 18=rows 19=failing 20=lost 21=kept 22=own 23=least 24=told 25=lesser 26=place 27=row 28=out 29=one -/
def wf_law (E : Exc → Prop) : WS :=
    (wSeq (wAsg (wLst (wCons (wCall (con1 false py__law_stream) E (wCons (wV 0) wNil)) (wCons (wC (PyData.int 0)) wNil))) (gN 1))
    (wSeq (wFor (itR1 (wC (PyData.int 2))) (gN 2) (wSeq (wAsg (wFz (wCallB (lcon2 false py__law_graph) E 1 (wCons (wC (PyData.int 7)) wNil))) (gN 3))
    (wSeq (wAsg (wFz (wBL oIx 3 (wC (PyData.int 0)))) (gN 4))
    (wSeq (wAsg (wFz (wCall (con1 false py__law_seen) E (wCons (wV 3) wNil))) (gN 5))
    (wSeq (wAsg (wFz (wCall (con1 false py__law_sets) E (wCons (wV 4) wNil))) (gN 6))
    (wSeq (wAsg (wFz (wLc (itS (wV 6)) (gN 11) (wTv (wCall (con2 false py__law_all_seen) E0d (wCons (wV 5) (wCons (wV 11) wNil)))) (wV 11) [11])) (gN 7))
    (wSeq (wFor (itS (wLst (wCons (wC (PyData.int 1)) (wCons (wC (PyData.int 2)) (wCons (wC (PyData.int 3)) wNil))))) (gN 8) (wSeq (wAsg (wFz (wLc (itS (wV 6)) (gN 11) (wTv (wCall (con3 false py__law_often) E0d (wCons (wV 5) (wCons (wV 11) (wCons (wV 8) wNil))))) (wV 11) [11])) (gN 18))
    (wSeq (wIfS (wNot (wTv (wCall (con2 false py__law_same) E (wCons (wTold [] (fun E => (wCall (con2 false py_fewest_often) E (wCons (wV 3) (wCons (wV 8) wNil))))) (wCons (wB oIx (wLst (wCons (wTup (wCons (wC (PyData.str (Str.ofString "told"))) (wCons (wB oIx (wB oAdd (wV 18) (wLst (wCons (wC (PyData.int 0)) wNil))) (wC (PyData.int 0))) wNil))) (wCons (wTup (wCons (wC (PyData.str (Str.ofString "missing"))) wNil)) wNil))) (wO oInt (wB oEq (wV 18) (wLst wNil)))) wNil))))) (wSeq (wRet (wFz (wC (PyData.bool false))))
    wNext) wNext)
    wNext)))
    (wSeq (wFor (itR1 (wC (PyData.int 4))) (gN 9) (wSeq (wAsg (wFz (wB oIx (wLst (wCons (wBL oIx 6 (wCallB (lcon2 false py__law_next) E 1 (wCons (wO oLen (wV 6)) wNil))) (wCons (wBL oIx 7 (wCallB (lcon2 false py__law_next) E 1 (wCons (wO oLen (wV 7)) wNil))) wNil))) (wCallB (lcon2 false py__law_next) E 1 (wCons (wC (PyData.int 2)) wNil)))) (gN 11))
    (wSeq (wAsg (wFz (wCallB (lcon2 false py__law_next) E 1 (wCons (wB oAdd (wO oLen (wV 11)) (wC (PyData.int 1))) wNil))) (gN 19))
    (wSeq (wAsg (wFz (wLc (itS (wV 6)) (gN 27) (wAnd (wTv (wB oEq (wO oLen (wV 27)) (wV 19))) (wTv (wB oEq (wO oLen (wLc (itS (wV 27)) (gN 29) (wTv (wB oNotIn (wV 29) (wV 11))) (wV 29) [29])) (wC (PyData.int 0))))) (wV 27) [27])) (gN 20))
    (wSeq (wAsg (wFz (wLc (itS (wV 20)) (gN 27) (wTv (wB oIn (wO oTuple (wLc (itS (wV 11)) (gN 29) (wTv (wB oNotIn (wV 29) (wV 27))) (wV 29) [29])) (wV 7))) (wV 27) [27])) (gN 21))
    (wSeq (wAsg (wFz (wB oAdd (wC (PyData.int 1)) (wCallB (lcon2 false py__law_next) E 1 (wCons (wC (PyData.int 3)) wNil)))) (gN 8))
    (wSeq (wAsg (wFz (wLc (itS (wV 5)) (gN 27) tYes (wO oTuple (wLc (itS (wV 27)) (gN 29) (wTv (wB oIn (wV 29) (wV 11))) (wV 29) [29])) [27])) (gN 22))
    (wSeq (wAsg (wFz (wO oMin (wLc (itS (wV 22)) (gN 27) tYes (wO oLen (wV 27)) [27]))) (gN 23))
    (wSeq (wAsg (wFz (wLst (wCons (wCall (con3 false py_watch_often) E (wCons (wV 3) (wCons (wV 8) (wCons (wV 11) wNil)))) (wCons (wCall (con3 false py_outlasts) E (wCons (wV 3) (wCons (wV 11) (wCons (wV 19) wNil)))) (wCons (wCall (con3 false py_chance_kept) E (wCons (wV 3) (wCons (wV 11) (wCons (wV 19) wNil)))) (wCons (wCall (con2 false py_weakest) E (wCons (wV 3) (wCons (wV 11) wNil))) wNil)))))) (gN 24))
    (wSeq (wIfS (wNot (wTv (wCall (con2 false py__law_same) E (wCons (wV 24) (wCons (wLst (wCons (wCall (con3 false py__law_often) E (wCons (wV 5) (wCons (wV 11) (wCons (wV 8) wNil)))) (wCons (wB oEq (wO oLen (wV 21)) (wO oLen (wV 20))) (wCons (wTup (wCons (wO oLen (wV 21)) (wCons (wO oLen (wV 20)) wNil))) (wCons (wTup (wCons (wV 23) (wCons (wO oMin (wLc (itS (wV 22)) (gN 27) (wTv (wB oEq (wO oLen (wV 27)) (wV 23))) (wV 27) [27])) wNil))) wNil))))) wNil))))) (wSeq (wRet (wFz (wC (PyData.bool false))))
    wNext) wNext)
    wNext))))))))))
    (wSeq (wAsg (wLst wNil) (gN 10))
    (wSeq (wFor (itS (wV 7)) (gN 11) (wSeq (wAsg (wFz (wLc (itS (wV 11)) (gN 28) tYes (wO oTuple (wLc (itS (wV 11)) (gN 29) (wTv (wB oNe (wV 29) (wV 28))) (wV 29) [29])) [28])) (gN 25))
    (wSeq (wIfS (wTv (wB oEq (wO oLen (wLc (itS (wV 25)) (gN 27) (wTv (wB oIn (wV 27) (wV 7))) (wV 27) [27])) (wC (PyData.int 0)))) (wSeq (wApp 10 (wV 11))
    wNext) wNext)
    wNext)))
    (wSeq (wPre [10] (wAsg (wFz (wO oMax (wLc (itS (wV 10)) (gN 11) tYes (wO oLen (wV 11)) [11]))) (gN 12)))
    (wSeq (wPre [10] (wAsg (wFz (wLc (itR1 (wV 4)) (gN 26) (wTv (wB oEq (wO oLen (wLc (itS (wV 10)) (gN 27) (wTv (wB oNotIn (wV 26) (wV 27))) (wV 27) [27])) (wC (PyData.int 0)))) (wV 26) [26])) (gN 13)))
    (wSeq (wPre [10] (wIfS (wNot (wTv (wCall (con2 false py__law_same) E (wCons (wLst (wCons (wCall (con1 false py_least_sets) E (wCons (wV 3) wNil)) (wCons (wCall (con1 false py_in_all) E (wCons (wV 3) wNil)) (wCons (wCall (con1 false py_most_needed) E (wCons (wV 3) wNil)) wNil)))) (wCons (wLst (wCons (wO oSorted (wV 10)) (wCons (wV 13) (wCons (wTup (wCons (wV 12) (wCons (wB oIx (wLc (itS (wO oSorted (wV 10))) (gN 27) (wTv (wB oEq (wO oLen (wV 27)) (wV 12))) (wV 27) [27]) (wC (PyData.int 0))) wNil))) wNil)))) wNil))))) (wSeq (wRet (wFz (wC (PyData.bool false))))
    wNext) wNext))
    (wSeq (wAsg (wFz (wLc (itR1 (wB oAdd (wV 4) (wC (PyData.int 1)))) (gN 15) tYes (wO oLen (wLc (itS (wV 7)) (gN 11) (wTv (wB oEq (wO oLen (wV 11)) (wV 15))) (wV 11) [11])) [15])) (gN 14))
    (wSeq (wAsg (wFz (wCallB (lcon2 false py__law_next) E 1 (wCons (wB oAdd (wV 4) (wC (PyData.int 1))) wNil))) (gN 15))
    (wSeq (wIfS (wNot (wTv (wCall (con2 false py__law_same) E (wCons (wLst (wCons (wCall (con2 false py_count_sets) E (wCons (wV 3) (wCons (wV 15) wNil))) (wCons (wCall (con1 false py_all_counts) E (wCons (wV 3) wNil)) wNil))) (wCons (wLst (wCons (wBL oIx 14 (wV 15)) (wCons (wO oTuple (wV 14)) wNil))) wNil))))) (wSeq (wRet (wFz (wC (PyData.bool false))))
    wNext) wNext)
    (wSeq (wFor (itS (wCall (con0 false py__law_bad_graphs) E wNil)) (gN 16) (wSeq (wAsg (wFz (wLst (wCons (wTold [] (fun E => (wCall (con1 false py_least_sets) E (wCons (wV 16) wNil)))) (wCons (wTold [] (fun E => (wCall (con1 false py_all_counts) E (wCons (wV 16) wNil)))) (wCons (wTold [] (fun E => (wCall (con2 false py_fewest_often) E (wCons (wV 16) (wCons (wC (PyData.int 1)) wNil))))) wNil))))) (gN 17))
    (wSeq (wIfS (wTv (wB oNe (wV 17) (wB oMul (wLst (wCons (wTup (wCons (wC (PyData.str (Str.ofString "refused"))) wNil)) wNil)) (wC (PyData.int 3))))) (wSeq (wRet (wFz (wC (PyData.bool false))))
    wNext) wNext)
    wNext)))
    (wSeq (wAsg (wFz (wLst (wCons (wTold [] (fun E => (wCall (con3 false py_watch_often) E (wCons (wV 3) (wCons (wC (PyData.int 0)) (wCons (wTup (wCons (wC (PyData.int 0)) wNil)) wNil)))))) (wCons (wTold [] (fun E => (wCall (con2 false py_fewest_often) E (wCons (wV 3) (wCons (wC (PyData.int 4)) wNil))))) (wCons (wTold [] (fun E => (wCall (con3 false py_outlasts) E (wCons (wV 3) (wCons (wTup (wCons (wC (PyData.int 0)) wNil)) (wCons (wC (PyData.int 2)) wNil)))))) (wCons (wTold [] (fun E => (wCall (con2 false py_weakest) E (wCons (wV 3) (wCons (wTup (wCons (wV 4) wNil)) wNil))))) (wCons (wTold [] (fun E => (wCall (con3 false py_chance_kept) E (wCons (wV 3) (wCons (wTup (wCons (wC (PyData.int 0)) (wCons (wC (PyData.int 0)) wNil))) (wCons (wC (PyData.int 0)) wNil)))))) (wCons (wTold [] (fun E => (wCall (con2 false py_count_sets) E (wCons (wV 3) (wCons (wB oAdd (wV 4) (wC (PyData.int 1))) wNil))))) wNil)))))))) (gN 17))
    (wSeq (wIfS (wTv (wB oNe (wV 17) (wB oMul (wLst (wCons (wTup (wCons (wC (PyData.str (Str.ofString "refused"))) wNil)) wNil)) (wC (PyData.int 6))))) (wSeq (wRet (wFz (wC (PyData.bool false))))
    wNext) wNext)
    wNext)))))))))))))))))))
    (wSeq (wRet (wFz (wB oEq (wC (PyData.int 3)) (wC (PyData.int 3)))))
    wNext)))
theorem k_law : Keeps (con1 false py_law) [false] 29 wf_law := keeps1 fun E x_script => (sj_setF 1 (SEF.g (sef_lst (sa_cons (se_call1 (se_v 0 rfl)) (sa_cons se_c sa_nil)))) (fun _ => rfl) fun v1 => (sj_forC (Γh := (fun (a3 : D) => [.sh x_script, .ow a3, .an, .an, .an, .an, .an, .an, .an, .an, .an, .an, .an, .an, .an, .an, .an, .an, .an, .an, .an, .an, .an, .an, .an, .an, .no, .no, .no, .no])) (pk := pk0) (fun xs2 => v1) inj_t (SI.g (si_r1 se_c)) (fun _ => (.s (.s (.n (.n (.n (.n (.n (.n (.n (.n (.n (.n (.n (.n (.n (.n (.n (.n (.n (.n (.n (.n (.n (.n (.n (.n (.s (.s (.s (.s .e))))))))))))))))))))))))))))))) (fun _ => (tg_n 2 rfl)) (fun a3 b4 => (sj_set 3 (YE.g (Γf := (fun z_ => [.sh x_script, .ow z_, .sh b4, .an, .an, .an, .an, .an, .an, .an, .an, .an, .an, .an, .an, .an, .an, .an, .an, .an, .an, .an, .an, .an, .an, .an, .no, .no, .no, .no])) (ye_l2 1 (.inl ⟨fun _ => rfl, fun _ _ => rfl⟩) (SE.ls fun _ => se_c)) a3) (fun _ => rfl) fun v5 => (sj_set 4 (SE.g (se_bl so_ix 3 rfl se_c)) (fun _ => rfl) fun v6 => (sj_set 5 (SE.g (se_call1 (se_v 3 rfl))) (fun _ => rfl) fun v7 => (sj_set 6 (SE.g (se_call1 (se_v 4 rfl))) (fun _ => rfl) fun v8 => (sj_set 7 (SE.g (sef_lc (β := D) (si_s (se_v 6 rfl)) rfl rfl rfl (tg_n 11 rfl) (fun b9 => (st_tv (se_call2 (se_v 5 rfl) (se_v 11 rfl)))) (fun b9 => (se_v 11 rfl)) (fun _ => rfl)).e) (fun _ => rfl) fun v10 => (sj_forC (Γh := (fun (a12 : Unit) => [.sh x_script, .ow v5.2, .sh b4, .sh v5.1, .sh v6, .sh v7, .sh v8, .sh v10, .an, .an, .an, .an, .an, .an, .an, .an, .an, .an, .an, .an, .an, .an, .an, .an, .an, .an, .no, .no, .no, .no])) (pk := pk0) (fun xs11 => ()) inj_c (SI.g (si_s (sef_lst (sa_cons se_c (sa_cons se_c (sa_cons se_c sa_nil)))).e)) (fun _ => (.s (.s (.s (.s (.s (.s (.s (.s (.s (.s (.s (.s (.s (.s (.s (.s (.s (.s (.s (.s (.s (.s (.s (.s (.s (.s (.s (.s (.s (.s .e))))))))))))))))))))))))))))))) (fun _ => (tg_n 8 rfl)) (fun a12 b13 => (sj_set 18 (SE.g (sef_lc (β := D) (si_s (se_v 6 rfl)) rfl rfl rfl (tg_n 11 rfl) (fun b14 => (st_tv (se_call3 (se_v 5 rfl) (se_v 11 rfl) (se_v 8 rfl)))) (fun b14 => (se_v 11 rfl)) (fun _ => rfl)).e) (fun _ => rfl) fun v15 => (sj_if (ST.g (st_not (st_tv (se_call2 (se_told fun E => (se_call2 (se_v 3 rfl) (se_v 8 rfl))) (se_b so_ix (sef_lst (sa_cons (se_tup (sa_cons se_c (sa_cons (se_b so_ix (se_b so_add (se_v 18 rfl) (sef_lst (sa_cons se_c sa_nil)).e) se_c) sa_nil))) (sa_cons (se_tup (sa_cons se_c sa_nil)) sa_nil))).e (se_o so_int (se_b so_eq (se_v 18 rfl) (sef_lst sa_nil).e))))))) (fun c16 => (sj_as (sj_cret pk0 (fun v17 => v17) (SE.g se_c) (fun _ => rfl)))) fun c16 => (sj_next (sj_cn (.s (.s (.s (.s (.s (.s (.s (.s (.h (.s (.s (.s (.s (.s (.s (.s (.s (.s (.h (.s (.s (.s (.s (.s (.s (.s (.s (.s (.s (.s .e))))))))))))))))))))))))))))))))))) fun s18 => (sj_forC (Γh := (fun (a20 : D) => [.sh x_script, .ow a20, .sh b4, .sh v5.1, .sh v6, .sh v7, .sh v8, .sh v10, .an, .an, .an, .an, .an, .an, .an, .an, .an, .an, .an, .an, .an, .an, .an, .an, .an, .an, .no, .no, .no, .no])) (pk := pk0) (fun xs19 => v5.2) inj_c (SI.g (si_r1 se_c)) (fun _ => (.s (.s (.s (.s (.s (.s (.s (.s (.s (.s (.s (.s (.s (.s (.s (.s (.s (.s (.s (.s (.s (.s (.s (.s (.s (.s (.s (.s (.s (.s .e))))))))))))))))))))))))))))))) (fun _ => (tg_n 9 rfl)) (fun a20 b21 => (sj_set 11 (YE.g (Γf := (fun z_ => [.sh x_script, .ow z_, .sh b4, .sh v5.1, .sh v6, .sh v7, .sh v8, .sh v10, .an, .sh b21, .an, .an, .an, .an, .an, .an, .an, .an, .an, .an, .an, .an, .an, .an, .an, .an, .no, .no, .no, .no])) (ye_b so_ix (yef_lst (ya_cons (ye_bl so_ix 6 (fun _ => rfl) (ye_l2 1 (.inl ⟨fun _ => rfl, fun _ _ => rfl⟩) (SE.ls fun _ => (se_o so_len (se_v 6 rfl))))) (ya_cons (ye_bl so_ix 7 (fun _ => rfl) (ye_l2 1 (.inl ⟨fun _ => rfl, fun _ _ => rfl⟩) (SE.ls fun _ => (se_o so_len (se_v 7 rfl))))) ya_nil))).e (ye_l2 1 (.inl ⟨fun _ => rfl, fun _ _ => rfl⟩) (SE.ls fun _ => se_c))) a20) (fun _ => rfl) fun v22 => (sj_set 19 (YE.g (Γf := (fun z_ => [.sh x_script, .ow z_, .sh b4, .sh v5.1, .sh v6, .sh v7, .sh v8, .sh v10, .an, .sh b21, .an, .sh v22.1, .an, .an, .an, .an, .an, .an, .an, .an, .an, .an, .an, .an, .an, .an, .no, .no, .no, .no])) (ye_l2 1 (.inl ⟨fun _ => rfl, fun _ _ => rfl⟩) (SE.ls fun _ => (se_b so_add (se_o so_len (se_v 11 rfl)) se_c))) v22.2) (fun _ => rfl) fun v23 => (sj_set 20 (SE.g (sef_lc (β := D) (si_s (se_v 6 rfl)) rfl rfl rfl (tg_n 27 rfl) (fun b24 => (st_and (st_tv (se_b so_eq (se_o so_len (se_v 27 rfl)) (se_v 19 rfl))) (st_tv (se_b so_eq (se_o so_len (sef_lc (β := D) (si_s (se_v 27 rfl)) rfl rfl rfl (tg_n 29 rfl) (fun b25 => (st_tv (se_b so_nin (se_v 29 rfl) (se_v 11 rfl)))) (fun b25 => (se_v 29 rfl)) (fun _ => rfl)).e) se_c)))) (fun b24 => (se_v 27 rfl)) (fun _ => rfl)).e) (fun _ => rfl) fun v26 => (sj_set 21 (SE.g (sef_lc (β := D) (si_s (se_v 20 rfl)) rfl rfl rfl (tg_n 27 rfl) (fun b27 => (st_tv (se_b so_in (se_o so_tuple (sef_lc (β := D) (si_s (se_v 11 rfl)) rfl rfl rfl (tg_n 29 rfl) (fun b28 => (st_tv (se_b so_nin (se_v 29 rfl) (se_v 27 rfl)))) (fun b28 => (se_v 29 rfl)) (fun _ => rfl)).e) (se_v 7 rfl)))) (fun b27 => (se_v 27 rfl)) (fun _ => rfl)).e) (fun _ => rfl) fun v29 => (sj_set 8 (YE.g (Γf := (fun z_ => [.sh x_script, .ow z_, .sh b4, .sh v5.1, .sh v6, .sh v7, .sh v8, .sh v10, .an, .sh b21, .an, .sh v22.1, .an, .an, .an, .an, .an, .an, .an, .sh v23.1, .sh v26, .sh v29, .an, .an, .an, .an, .no, .no, .no, .no])) (ye_b so_add (SE.ls fun _ => se_c) (ye_l2 1 (.inl ⟨fun _ => rfl, fun _ _ => rfl⟩) (SE.ls fun _ => se_c))) v23.2) (fun _ => rfl) fun v30 => (sj_set 22 (SE.g (sef_lc (β := D) (si_s (se_v 5 rfl)) rfl rfl rfl (tg_n 27 rfl) (fun b31 => st_yes) (fun b31 => (se_o so_tuple (sef_lc (β := D) (si_s (se_v 27 rfl)) rfl rfl rfl (tg_n 29 rfl) (fun b32 => (st_tv (se_b so_in (se_v 29 rfl) (se_v 11 rfl)))) (fun b32 => (se_v 29 rfl)) (fun _ => rfl)).e)) (fun _ => rfl)).e) (fun _ => rfl) fun v33 => (sj_set 23 (SE.g (se_o so_min (sef_lc (β := D) (si_s (se_v 22 rfl)) rfl rfl rfl (tg_n 27 rfl) (fun b34 => st_yes) (fun b34 => (se_o so_len (se_v 27 rfl))) (fun _ => rfl)).e)) (fun _ => rfl) fun v35 => (sj_set 24 (SE.g (sef_lst (sa_cons (se_call3 (se_v 3 rfl) (se_v 8 rfl) (se_v 11 rfl)) (sa_cons (se_call3 (se_v 3 rfl) (se_v 11 rfl) (se_v 19 rfl)) (sa_cons (se_call3 (se_v 3 rfl) (se_v 11 rfl) (se_v 19 rfl)) (sa_cons (se_call2 (se_v 3 rfl) (se_v 11 rfl)) sa_nil))))).e) (fun _ => rfl) fun v36 => (sj_if (ST.g (st_not (st_tv (se_call2 (se_v 24 rfl) (sef_lst (sa_cons (se_call3 (se_v 5 rfl) (se_v 11 rfl) (se_v 8 rfl)) (sa_cons (se_b so_eq (se_o so_len (se_v 21 rfl)) (se_o so_len (se_v 20 rfl))) (sa_cons (se_tup (sa_cons (se_o so_len (se_v 21 rfl)) (sa_cons (se_o so_len (se_v 20 rfl)) sa_nil))) (sa_cons (se_tup (sa_cons (se_v 23 rfl) (sa_cons (se_o so_min (sef_lc (β := D) (si_s (se_v 22 rfl)) rfl rfl rfl (tg_n 27 rfl) (fun b37 => (st_tv (se_b so_eq (se_o so_len (se_v 27 rfl)) (se_v 23 rfl)))) (fun b37 => (se_v 27 rfl)) (fun _ => rfl)).e) sa_nil))) sa_nil))))).e)))) (fun c38 => (sj_as (sj_cret pk0 (fun v39 => v39) (SE.g se_c) (fun _ => rfl)))) fun c38 => (sj_next (sj_cn (.s (.s (.s (.s (.s (.s (.s (.s (.h (.h (.s (.h (.s (.s (.s (.s (.s (.s (.s (.h (.h (.h (.h (.h (.h (.s (.s (.s (.s (.s .e)))))))))))))))))))))))))))))))))))))))))) fun s40 => (sj_setF 10 (SEF.g (sef_lst sa_nil)) (fun _ => rfl) fun v41 => (sj_for (Γh := (fun (a43 : D) => [.sh x_script, .ow s40, .sh b4, .sh v5.1, .sh v6, .sh v7, .sh v8, .sh v10, .an, .an, .ow a43, .an, .an, .an, .an, .an, .an, .an, .an, .an, .an, .an, .an, .an, .an, .an, .no, .no, .no, .no])) (fun xs42 => v41) (SI.g (si_s (se_v 7 rfl))) (fun _ => (.s (.s (.s (.s (.s (.s (.s (.s (.s (.s (.s (.s (.s (.s (.s (.s (.s (.s (.s (.s (.s (.s (.s (.s (.s (.s (.s (.s (.s (.s .e))))))))))))))))))))))))))))))) (fun _ => (tg_n 11 rfl)) (fun a43 b44 => (sj_set 25 (SE.g (sef_lc (β := D) (si_s (se_v 11 rfl)) rfl rfl rfl (tg_n 28 rfl) (fun b45 => st_yes) (fun b45 => (se_o so_tuple (sef_lc (β := D) (si_s (se_v 11 rfl)) rfl rfl rfl (tg_n 29 rfl) (fun b46 => (st_tv (se_b so_ne (se_v 29 rfl) (se_v 28 rfl)))) (fun b46 => (se_v 29 rfl)) (fun _ => rfl)).e)) (fun _ => rfl)).e) (fun _ => rfl) fun v47 => (sj_if (ST.g (st_tv (se_b so_eq (se_o so_len (sef_lc (β := D) (si_s (se_v 25 rfl)) rfl rfl rfl (tg_n 27 rfl) (fun b48 => (st_tv (se_b so_in (se_v 27 rfl) (se_v 7 rfl)))) (fun b48 => (se_v 27 rfl)) (fun _ => rfl)).e) se_c))) (fun c49 => (sj_as (sj_app 10 rfl (SE.g (se_v 11 rfl)) (fun _ => rfl) fun v50 v51 => (sj_next (sj_n (.s (.s (.s (.s (.s (.s (.s (.s (.s (.s (.s (.h (.s (.s (.s (.s (.s (.s (.s (.s (.s (.s (.s (.s (.s (.h (.s (.s (.s (.s .e))))))))))))))))))))))))))))))))))) fun c49 => (sj_next (sj_n (.s (.s (.s (.s (.s (.s (.s (.s (.s (.s (.s (.h (.s (.s (.s (.s (.s (.s (.s (.s (.s (.s (.s (.s (.s (.h (.s (.s (.s (.s .e))))))))))))))))))))))))))))))))))) fun s52 => (sj_seqpre (.cons rfl .nil) (sj_set 12 (SE.g (se_o so_max (sef_lc (β := D) (si_s (se_v 10 rfl)) rfl rfl rfl (tg_n 11 rfl) (fun b53 => st_yes) (fun b53 => (se_o so_len (se_v 11 rfl))) (fun _ => rfl)).e)) (fun _ => rfl) fun v54 => (sj_seqpre (.cons rfl .nil) (sj_set 13 (SE.g (sef_lc (β := D) (si_r1 (se_v 4 rfl)) rfl rfl rfl (tg_n 26 rfl) (fun b55 => (st_tv (se_b so_eq (se_o so_len (sef_lc (β := D) (si_s (se_v 10 rfl)) rfl rfl rfl (tg_n 27 rfl) (fun b56 => (st_tv (se_b so_nin (se_v 26 rfl) (se_v 27 rfl)))) (fun b56 => (se_v 27 rfl)) (fun _ => rfl)).e) se_c))) (fun b55 => (se_v 26 rfl)) (fun _ => rfl)).e) (fun _ => rfl) fun v57 => (sj_seqpre (.cons rfl .nil) (sj_if (ST.g (st_not (st_tv (se_call2 (sef_lst (sa_cons (se_call1 (se_v 3 rfl)) (sa_cons (se_call1 (se_v 3 rfl)) (sa_cons (se_call1 (se_v 3 rfl)) sa_nil)))).e (sef_lst (sa_cons (sef_o so_sorted (se_v 10 rfl)).e (sa_cons (se_v 13 rfl) (sa_cons (se_tup (sa_cons (se_v 12 rfl) (sa_cons (se_b so_ix (sef_lc (β := D) (si_s (sef_o so_sorted (se_v 10 rfl)).e) rfl rfl rfl (tg_n 27 rfl) (fun b58 => (st_tv (se_b so_eq (se_o so_len (se_v 27 rfl)) (se_v 12 rfl)))) (fun b58 => (se_v 27 rfl)) (fun _ => rfl)).e se_c) sa_nil))) sa_nil)))).e)))) (fun c59 => (sj_as (sj_cret pk0 (fun v60 => v60) (SE.g se_c) (fun _ => rfl)))) fun c59 => (sj_next (sj_set 14 (SE.g (sef_lc (β := D) (si_r1 (se_b so_add (se_v 4 rfl) se_c)) rfl rfl rfl (tg_n 15 rfl) (fun b61 => st_yes) (fun b61 => (se_o so_len (sef_lc (β := D) (si_s (se_v 7 rfl)) rfl rfl rfl (tg_n 11 rfl) (fun b62 => (st_tv (se_b so_eq (se_o so_len (se_v 11 rfl)) (se_v 15 rfl)))) (fun b62 => (se_v 11 rfl)) (fun _ => rfl)).e)) (fun _ => rfl)).e) (fun _ => rfl) fun v63 => (sj_set 15 (YE.g (Γf := (fun z_ => [.sh x_script, .ow z_, .sh b4, .sh v5.1, .sh v6, .sh v7, .sh v8, .sh v10, .an, .an, .sh s52, .an, .sh v54, .sh v57, .sh v63, .an, .an, .an, .an, .an, .an, .an, .an, .an, .an, .an, .no, .no, .no, .no])) (ye_l2 1 (.inl ⟨fun _ => rfl, fun _ _ => rfl⟩) (SE.ls fun _ => (se_b so_add (se_v 4 rfl) se_c))) s40) (fun _ => rfl) fun v64 => (sj_if (ST.g (st_not (st_tv (se_call2 (sef_lst (sa_cons (se_call2 (se_v 3 rfl) (se_v 15 rfl)) (sa_cons (se_call1 (se_v 3 rfl)) sa_nil))).e (sef_lst (sa_cons (se_bl so_ix 14 rfl (se_v 15 rfl)) (sa_cons (se_o so_tuple (se_v 14 rfl)) sa_nil))).e)))) (fun c65 => (sj_as (sj_cret pk0 (fun v66 => v66) (SE.g se_c) (fun _ => rfl)))) fun c65 => (sj_next (sj_forC (Γh := (fun (a68 : Unit) => [.sh x_script, .ow v64.2, .sh b4, .sh v5.1, .sh v6, .sh v7, .sh v8, .sh v10, .an, .an, .sh s52, .an, .sh v54, .sh v57, .sh v63, .sh v64.1, .an, .an, .an, .an, .an, .an, .an, .an, .an, .an, .no, .no, .no, .no])) (pk := pk0) (fun xs67 => ()) inj_c (SI.g (si_s se_call0)) (fun _ => (.s (.s (.s (.s (.s (.s (.s (.s (.s (.s (.s (.s (.s (.s (.s (.s (.s (.s (.s (.s (.s (.s (.s (.s (.s (.s (.s (.s (.s (.s .e))))))))))))))))))))))))))))))) (fun _ => (tg_n 16 rfl)) (fun a68 b69 => (sj_set 17 (SE.g (sef_lst (sa_cons (se_told fun E => (se_call1 (se_v 16 rfl))) (sa_cons (se_told fun E => (se_call1 (se_v 16 rfl))) (sa_cons (se_told fun E => (se_call2 (se_v 16 rfl) se_c)) sa_nil)))).e) (fun _ => rfl) fun v70 => (sj_if (ST.g (st_tv (se_b so_ne (se_v 17 rfl) (se_b so_mul (sef_lst (sa_cons (se_tup (sa_cons se_c sa_nil)) sa_nil)).e se_c)))) (fun c71 => (sj_as (sj_cret pk0 (fun v72 => v72) (SE.g se_c) (fun _ => rfl)))) fun c71 => (sj_next (sj_cn (.s (.s (.s (.s (.s (.s (.s (.s (.s (.s (.s (.s (.s (.s (.s (.s (.h (.h (.s (.s (.s (.s (.s (.s (.s (.s (.s (.s (.s (.s .e))))))))))))))))))))))))))))))))))) fun s73 => (sj_set 17 (SE.g (sef_lst (sa_cons (se_told fun E => (se_call3 (se_v 3 rfl) se_c (se_tup (sa_cons se_c sa_nil)))) (sa_cons (se_told fun E => (se_call2 (se_v 3 rfl) se_c)) (sa_cons (se_told fun E => (se_call3 (se_v 3 rfl) (se_tup (sa_cons se_c sa_nil)) se_c)) (sa_cons (se_told fun E => (se_call2 (se_v 3 rfl) (se_tup (sa_cons (se_v 4 rfl) sa_nil)))) (sa_cons (se_told fun E => (se_call3 (se_v 3 rfl) (se_tup (sa_cons se_c (sa_cons se_c sa_nil))) se_c)) (sa_cons (se_told fun E => (se_call2 (se_v 3 rfl) (se_b so_add (se_v 4 rfl) se_c))) sa_nil))))))).e) (fun _ => rfl) fun v74 => (sj_if (ST.g (st_tv (se_b so_ne (se_v 17 rfl) (se_b so_mul (sef_lst (sa_cons (se_tup (sa_cons se_c sa_nil)) sa_nil)).e se_c)))) (fun c75 => (sj_as (sj_cret pk0 (fun v76 => v76) (SE.g se_c) (fun _ => rfl)))) fun c75 => (sj_next (sj_cn (.s (.s (.h (.h (.h (.h (.h (.h (.s (.s (.h (.s (.h (.h (.h (.h (.s (.h (.s (.s (.s (.s (.s (.s (.s (.s (.s (.s (.s (.s .e)))))))))))))))))))))))))))))))))))))))))))))))))))))))) fun s77 => (sj_ret0 (se_b so_eq se_c se_c) rfl)))
end K49
set_option maxRecDepth 100000
/-! Be: plain functions evaluated: binds from the left, comprehensions, loops. -/
namespace Dl
open PySem R
set_option autoImplicit false
section
variable {α β γ σ τ : Type}
theorem ifT_t (x y : R γ) : ifT true x y = x := (rfl)
theorem ifT_f (x y : R γ) : ifT false x y = y := (rfl)
theorem bindC_nx (a : σ) (inj : τ → γ) (k : σ → R γ) : bindC (R.ok (.nx a)) inj k = k a := (rfl)
theorem bindC_rt (r : τ) (inj : τ → γ) (k : σ → R γ) : bindC (R.ok (.rt r) : R (Ctl σ τ)) inj k = .ok (inj r) := (rfl)
theorem bindC_err (x : Exc) (inj : τ → γ) (k : σ → R γ) : bindC (R.err x : R (Ctl σ τ)) inj k = .err x := (rfl)
theorem A1_ok (g : D → R D) (a : D) : A1 g (.ok a) = g a := (rfl)
theorem A2_ok (g : D → D → R D) (a b : D) : A2 g (.ok a) (.ok b) = g a b := (rfl)
theorem A3_ok (g : D → D → D → R D) (a b c : D) : A3 g (.ok a) (.ok b) (.ok c) = g a b c := (rfl)
theorem A4_ok (g : D → D → D → D → R D) (a b c d : D) : A4 g (.ok a) (.ok b) (.ok c) (.ok d) = g a b c d := (rfl)
theorem A5_ok (g : D → D → D → D → D → R D) (a b c d e : D) : A5 g (.ok a) (.ok b) (.ok c) (.ok d) (.ok e) = g a b c d e := (rfl)
theorem A6_ok (g : D → D → D → D → D → D → R D) (a b c d e f : D) : A6 g (.ok a) (.ok b) (.ok c) (.ok d) (.ok e) (.ok f) = g a b c d e f := (rfl)
theorem A1_err (g : D → R D) (x : Exc) : A1 g (.err x) = .err x := (rfl)
theorem A2_err (g : D → D → R D) (x : Exc) (b : R D) : A2 g (.err x) b = .err x := (rfl)
theorem A2_err2 (g : D → D → R D) (a : D) (x : Exc) : A2 g (.ok a) (.err x) = .err x := (rfl)
theorem consM_ok (a : α) (t : List α) : consM (.ok a) (.ok t) = .ok (a :: t) := (rfl)
theorem tvM_b (b : Bool) : tvM (.ok (.bool b)) = .ok b := (rfl)
theorem andM_t (b : R Bool) : andM (.ok true) b = b := (rfl)
theorem andM_f (b : R Bool) : andM (.ok false) b = .ok false := (rfl)
theorem orM_t (b : R Bool) : orM (.ok true) b = .ok true := (rfl)
theorem orM_f (b : R Bool) : orM (.ok false) b = b := (rfl)
theorem notM_b (b : Bool) : notM (.ok b) = .ok (!b) := (rfl)
theorem notV_b (b : Bool) : notV (.ok (.bool b)) = .ok (.bool (!b)) := (rfl)
theorem andV_b (a : Bool) (b : R D) : andV (.ok (.bool a)) b = if a then b else .ok (.bool false) := (rfl)
theorem orV_b (a : Bool) (b : R D) : orV (.ok (.bool a)) b = if a then .ok (.bool true) else b := (rfl)
theorem andV_bb (a b : Bool) : andV (.ok (.bool a)) (.ok (.bool b)) = .ok (.bool (a && b)) := by cases a <;> rfl
theorem orV_bb (a b : Bool) : orV (.ok (.bool a)) (.ok (.bool b)) = .ok (.bool (a || b)) := by cases a <;> rfl
theorem andM_bb (a b : Bool) : andM (.ok a) (.ok b) = .ok (a && b) := by cases a <;> rfl
theorem orM_bb (a b : Bool) : orM (.ok a) (.ok b) = .ok (a || b) := by cases a <;> rfl
theorem ifM_b (b : Bool) (x y : R γ) : ifM (.ok b) x y = if b then x else y := (rfl)
theorem chain_ok (o o' : D → D → R D) (a b c : D) : chainM o o' (.ok a) (.ok b) (.ok c) = (tvM (o a b)).bind fun k => if k then o' b c else .ok (.bool false) := (rfl)
theorem chain3_ok (o o' o'' : D → D → R D) (a b c d : D) : chain3M o o' o'' (.ok a) (.ok b) (.ok c) (.ok d) = (tvM (o a b)).bind fun k => if k then (tvM (o' b c)).bind fun k => if k then o'' c d else .ok (.bool false) else .ok (.bool false) := (rfl)
theorem tupM_ok (ds : List D) (h : ds.length ≤ LIM) : tupM (.ok ds) = .ok (.tuple ds) := (if_pos h)
theorem lstM_ok (ds : List D) (h : ds.length ≤ LIM) : lstM (.ok ds) = .ok (.list ds) := (if_pos h)
theorem tup1 (a : D) : tupM (.ok [a]) = .ok (.tuple [a]) := tupM_ok [a] (show 1 ≤ 16777216 by decide)
theorem tup2 (a b : D) : tupM (.ok [a, b]) = .ok (.tuple [a, b]) := tupM_ok [a, b] (show 2 ≤ 16777216 by decide)
theorem tup3 (a b c : D) : tupM (.ok [a, b, c]) = .ok (.tuple [a, b, c]) := tupM_ok [a, b, c] (show 3 ≤ 16777216 by decide)
theorem tup4 (a b c d : D) : tupM (.ok [a, b, c, d]) = .ok (.tuple [a, b, c, d]) := tupM_ok [a, b, c, d] (show 4 ≤ 16777216 by decide)
theorem tup0 : tupM (.ok []) = .ok (.tuple []) := tupM_ok [] (show 0 ≤ 16777216 by decide)
theorem lst0 : lstM (.ok []) = .ok (.list []) := lstM_ok [] (show 0 ≤ 16777216 by decide)
theorem lst1 (a : D) : lstM (.ok [a]) = .ok (.list [a]) := lstM_ok [a] (show 1 ≤ 16777216 by decide)
theorem lst2 (a b : D) : lstM (.ok [a, b]) = .ok (.list [a, b]) := lstM_ok [a, b] (show 2 ≤ 16777216 by decide)
theorem lst3 (a b c : D) : lstM (.ok [a, b, c]) = .ok (.list [a, b, c]) := lstM_ok [a, b, c] (show 3 ≤ 16777216 by decide)
theorem lst4 (a b c d : D) : lstM (.ok [a, b, c, d]) = .ok (.list [a, b, c, d]) := lstM_ok [a, b, c, d] (show 4 ≤ 16777216 by decide)
theorem lst5 (a b c d e : D) : lstM (.ok [a, b, c, d, e]) = .ok (.list [a, b, c, d, e]) := lstM_ok [a, b, c, d, e] (show 5 ≤ 16777216 by decide)
theorem lst6 (a b c d e f : D) : lstM (.ok [a, b, c, d, e, f]) = .ok (.list [a, b, c, d, e, f]) := lstM_ok [a, b, c, d, e, f] (show 6 ≤ 16777216 by decide)
theorem seqM_l (xs : List D) : seqM (.ok (.list xs)) = .ok xs := (rfl)
theorem seqM_t (xs : List D) : seqM (.ok (.tuple xs)) = .ok xs := (rfl)
theorem told_ok (d : D) : toldM (.ok d) = .ok (.tuple [.str (Str.ofString "told"), d]) := (rfl)
theorem told_err (x : Exc) : toldM (.err x) = .ok (.tuple [.str (excName x)]) := (rfl)
/-! operations on atoms -/
theorem add_i (i j : Int) : addM (.int i) (.int j) = .ok (.int (i + j)) := (rfl)
theorem sub_i (i j : Int) : subM (.int i) (.int j) = .ok (.int (i - j)) := (rfl)
theorem mul_i (i j : Int) (h : mulOk i j) : mulM (.int i) (.int j) = .ok (.int (i * j)) := (if_pos h)
theorem fdiv_i (i j : Int) (h : fdivOk j) : fdivM (.int i) (.int j) = .ok (.int (i.fdiv j)) := (if_pos h)
theorem mod_i (i j : Int) (h : j ≠ 0) : modM (.int i) (.int j) = .ok (.int (i.fmod j)) := (if_pos h)
theorem neg_i (i : Int) : negM (.int i) = .ok (.int (-i)) := (rfl)
theorem int_i (i : Int) : intM (.int i) = .ok (.int i) := (rfl)
theorem int_b (b : Bool) : intM (.bool b) = .ok (.int (if b then 1 else 0)) := (rfl)
theorem eq_i (i j : Int) : eqM (.int i) (.int j) = .ok (.bool (decide (i = j))) := by
  unfold eqM; rw [guard_ok _ ⟨tame_int i, tame_int j⟩, eqv_int]
theorem ne_i (i j : Int) : neM (.int i) (.int j) = .ok (.bool (!decide (i = j))) := by
  unfold neM; rw [guard_ok _ ⟨tame_int i, tame_int j⟩, eqv_int]
theorem lt_i (i j : Int) : ltM (.int i) (.int j) = .ok (.bool (decide (i < j))) := (rfl)
theorem le_i (i j : Int) : leM (.int i) (.int j) = .ok (.bool (decide (i ≤ j))) := (rfl)
theorem gt_i (i j : Int) : gtM (.int i) (.int j) = .ok (.bool (decide (j < i))) := (rfl)
theorem ge_i (i j : Int) : geM (.int i) (.int j) = .ok (.bool (decide (j ≤ i))) := (rfl)
theorem len_l (xs : List D) : lenM (.list xs) = .ok (.int xs.length) := (rfl)
theorem len_t (xs : List D) : lenM (.tuple xs) = .ok (.int xs.length) := (rfl)
theorem ix_l (xs : List D) (i : Int) : ixM (.list xs) (.int i) = optR (atD xs i) := (rfl)
theorem ix_t (xs : List D) (i : Int) : ixM (.tuple xs) (.int i) = optR (atD xs i) := (rfl)
theorem opt_some (a : α) : optR (some a) = .ok a := (rfl)
theorem min2_i (i j : Int) : min2M (.int i) (.int j) = .ok (.int (if j < i then j else i)) := (rfl)
theorem max2_i (i j : Int) : max2M (.int i) (.int j) = .ok (.int (if j > i then j else i)) := (rfl)
theorem tuple_l (xs : List D) : tupleM (.list xs) = .ok (.tuple xs) := (rfl)
theorem tuple_t (xs : List D) : tupleM (.tuple xs) = .ok (.tuple xs) := (rfl)
theorem list_l (xs : List D) : listM (.list xs) = .ok (.list xs) := (rfl)
theorem list_t (xs : List D) : listM (.tuple xs) = .ok (.list xs) := (rfl)
theorem all_b (bs : List Bool) : allM (.list (bs.map .bool)) = .ok (.bool (bs.all id)) := by
  show (optR (boolsOf (bs.map .bool))).bind _ = _
  rw [boolsOf_map]; rfl
theorem any_b (bs : List Bool) : anyM (.list (bs.map .bool)) = .ok (.bool (bs.any id)) := by
  show (optR (boolsOf (bs.map .bool))).bind _ = _
  rw [boolsOf_map]; rfl
theorem sum_l (ns : List Int) : sumM (.list (ns.map .int)) = .ok (.int ns.sum) := by
  show (optR (intsOf (ns.map .int))).bind _ = _
  rw [intsOf_map]; rfl
theorem sum_t (ns : List Int) : sumM (.tuple (ns.map .int)) = .ok (.int ns.sum) := by
  show (optR (intsOf (ns.map .int))).bind _ = _
  rw [intsOf_map]; rfl
theorem isLM_l (xs : List D) : isLM (.list xs) = .ok () := (rfl)
theorem apL_l (xs : List D) (d : D) (h : xs.length < LIM) : apL (.list xs) d = .ok (.list (xs ++ [d])) := (if_pos h)
theorem add_l (xs ys : List D) (h : xs.length + ys.length ≤ LIM) : addM (.list xs) (.list ys) = .ok (.list (xs ++ ys)) := (if_pos h)
theorem add_t (xs ys : List D) (h : xs.length + ys.length ≤ LIM) : addM (.tuple xs) (.tuple ys) = .ok (.tuple (xs ++ ys)) := (if_pos h)
theorem setI_l (xs : List D) (k : Nat) (d : D) (h : k < xs.length) : setI (.list xs) (.int k) d = .ok (.list (xs.set k d)) := by
  show (match ixD xs.length (k : Int) with | some j => R.ok (PyData.list (xs.set j d)) | none => R.bad) = _
  rw [ixD_nat _ _ h]
theorem rng1_n (n : Nat) (h : n ≤ 1000000) : rng1 (.int n) = .ok (rangeL 0 n) := by
  show guardR _ _ = _
  unfold guardR
  rw [if_pos (by unfold inR; omega)]
  simp
theorem rng2_n (m n : Nat) (h : m ≤ 1000000) (h' : n ≤ 1000000) : rng2 (.int m) (.int n) = .ok (rangeL m (n - m)) := by
  show guardR _ _ = _
  unfold guardR
  rw [if_pos (by unfold inR; omega)]
  congr 2
  omega
/-! ### comprehensions -/
theorem lcF_eq {ι : Type} {enc : ι → D} {sp : D → Option β} {mt : β → R Bool} {me : β → R D} (bo : ι → β) (p : ι → Bool) (f : ι → D) : ∀ (ys : List ι), (∀ y ∈ ys, sp (enc y) = some (bo y)) → (∀ y ∈ ys, mt (bo y) = .ok (p y)) → (∀ y ∈ ys, p y = true → me (bo y) = .ok (f y)) →
    lcF sp mt me (ys.map enc) = .ok ((ys.filter p).map f)
  | [], _, _, _ => rfl
  | y :: ys, hs, ht, he => by
    have ih := lcF_eq bo p f ys (fun z hz => hs z (List.mem_cons_of_mem _ hz)) (fun z hz => ht z (List.mem_cons_of_mem _ hz)) (fun z hz => he z (List.mem_cons_of_mem _ hz))
    rw [List.map_cons]
    unfold lcF unS
    rw [hs y List.mem_cons_self]
    show (mt (bo y)).bind _ = _
    rw [ht y List.mem_cons_self, ok_bind]
    cases hp : p y with
    | true => rw [if_pos rfl, he y List.mem_cons_self hp, ok_bind, ih, ok_bind, List.filter_cons_of_pos hp]; rfl
    | false => rw [if_neg Bool.false_ne_true, ih, List.filter_cons_of_neg (by rw [hp]; exact Bool.false_ne_true)]
/-- [f for y in ys if p], over what ys encode -/
theorem lc_eq {ι : Type} {enc : ι → D} {sp : D → Option β} {mt : β → R Bool} {me : β → R D} (bo : ι → β) (p : ι → Bool) (f : ι → D) {ys : List ι} (hl : ys.length ≤ LIM) (hs : ∀ y ∈ ys, sp (enc y) = some (bo y)) (ht : ∀ y ∈ ys, mt (bo y) = .ok (p y)) (he : ∀ y ∈ ys, p y = true → me (bo y) = .ok (f y)) :
    lcM (.ok (ys.map enc)) sp mt me = .ok (.list ((ys.filter p).map f)) := by
  unfold lcM
  rw [ok_bind, if_pos (by rw [List.length_map]; exact hl), lcF_eq bo p f ys hs ht he]
  rfl
theorem lc_map {ι : Type} {enc : ι → D} {sp : D → Option β} {me : β → R D} (bo : ι → β) (f : ι → D) {ys : List ι} (hl : ys.length ≤ LIM) (hs : ∀ y ∈ ys, sp (enc y) = some (bo y)) (he : ∀ y ∈ ys, me (bo y) = .ok (f y)) :
    lcM (.ok (ys.map enc)) sp (fun _ => .ok true) me = .ok (.list (ys.map f)) := by
  rw [lc_eq bo (fun _ => true) f hl hs (fun _ _ => rfl) fun y hy _ => he y hy]
  congr 3
  exact List.filter_eq_self.mpr fun _ _ => rfl
/-! ### loops -/
theorem forF_inv {ι : Type} {enc : ι → D} {sp : D → Option β} {f : σ → β → R σ} (bo : ι → β) (I : List ι → σ → Prop) (ys : List ι) (hs : ∀ y ∈ ys, sp (enc y) = some (bo y)) (h : ∀ don y rest a, ys = don ++ y :: rest → I don a → ∃ a', f a (bo y) = .ok a' ∧ I (don ++ [y]) a') :
    ∀ {a : σ}, I [] a → ∃ a', forF sp f (ys.map enc) a = .ok a' ∧ I ys a' := by
  have go : ∀ (rest don : List ι) (a : σ), ys = don ++ rest → I don a → ∃ a', forF sp f (rest.map enc) a = .ok a' ∧ I ys a' := by
    intro rest
    induction rest with
    | nil => intro don a e i; exact ⟨a, rfl, by rw [e, List.append_nil]; exact i⟩
    | cons y rest ih =>
      intro don a e i
      obtain ⟨a', e1, i1⟩ := h don y rest a e i
      obtain ⟨a2, e2, i2⟩ := ih (don ++ [y]) a' (by rw [e, List.append_assoc]; rfl) i1
      refine ⟨a2, ?_, i2⟩
      rw [List.map_cons]
      unfold forF unS
      rw [hs y (by rw [e]; simp)]
      show (f a (bo y)).bind _ = _
      rw [e1, ok_bind, e2]
  exact fun {a} i => go ys [] a rfl i
theorem forF_bind {ι ρ : Type} {enc : ι → D} {sp : D → Option β} {f : σ → β → R σ} {k : σ → R ρ} {r : R ρ} {a : σ} (bo : ι → β) (I : List ι → σ → Prop) (ys : List ι) (hs : ∀ y ∈ ys, sp (enc y) = some (bo y)) (i : I [] a) (h : ∀ don y rest a, ys = don ++ y :: rest → I don a → ∃ a', f a (bo y) = .ok a' ∧ I (don ++ [y]) a')
    (hk : ∀ a', I ys a' → k a' = r) : (forF sp f (ys.map enc) a).bind k = r := by
  obtain ⟨a', e, i'⟩ := forF_inv bo I ys hs h i
  rw [e, ok_bind]
  exact hk a' i'
/-- .. whose state encodes a plain one -/
theorem forF_eq {ι ς : Type} {enc : ι → D} {sp : D → Option β} {f : σ → β → R σ} (bo : ι → β) (es : ς → σ) (step : ς → ι → ς) (I : ς → Prop) (ys : List ι) (hs : ∀ y ∈ ys, sp (enc y) = some (bo y)) (h : ∀ y ∈ ys, ∀ s, I s → f (es s) (bo y) = .ok (es (step s y)) ∧ I (step s y)) :
    ∀ {s : ς}, I s → forF sp f (ys.map enc) (es s) = .ok (es (ys.foldl step s)) ∧ I (ys.foldl step s) := by
  induction ys with
  | nil => exact fun i => ⟨rfl, i⟩
  | cons y ys ih =>
    intro s i
    obtain ⟨e1, i1⟩ := h y List.mem_cons_self s i
    obtain ⟨e2, i2⟩ := ih (fun z hz => hs z (List.mem_cons_of_mem _ hz)) (fun z hz => h z (List.mem_cons_of_mem _ hz)) i1
    refine ⟨?_, i2⟩
    rw [List.map_cons]
    unfold forF unS
    rw [hs y List.mem_cons_self]
    show (f (es s) (bo y)).bind _ = _
    rw [e1, ok_bind]
    exact e2
/-- a loop that goes on, or returns: the first that returns -/
theorem forC_inv {ι : Type} {enc : ι → D} {sp : D → Option β} {f : σ → β → R (Ctl σ τ)} (bo : ι → β) (I : List ι → σ → Prop) (Z : R (Ctl σ τ) → Prop) (ys : List ι) (hs : ∀ y ∈ ys, sp (enc y) = some (bo y))
    (h : ∀ don y rest a, ys = don ++ y :: rest → I don a → (∃ a', (f a (bo y) = .ok (.nx a') ∨ f a (bo y) = .ok (.ct a')) ∧ I (don ++ [y]) a') ∨ (∃ a', f a (bo y) = .ok (.bk a') ∧ Z (.ok (.nx a'))) ∨ (∃ r, f a (bo y) = .ok (.rt r) ∧ Z (.ok (.rt r))) ∨ ∃ x, f a (bo y) = .err x ∧ Z (.err x)) (hz : ∀ a, I ys a → Z (.ok (.nx a))) :
    ∀ {a : σ}, I [] a → Z (forC sp f (ys.map enc) a) := by
  have go : ∀ (rest don : List ι) (a : σ), ys = don ++ rest → I don a → Z (forC sp f (rest.map enc) a) := by
    intro rest
    induction rest with
    | nil => intro don a e i; exact hz a (by rw [e, List.append_nil]; exact i)
    | cons y rest ih =>
      intro don a e i
      rw [List.map_cons]
      unfold forC unS
      rw [hs y (by rw [e]; simp)]
      show Z ((f a (bo y)).bind _)
      rcases h don y rest a e i with ⟨a', e1 | e1, i1⟩ | ⟨a', e1, z⟩ | ⟨r, e1, z⟩ | ⟨x, e1, z⟩
      · rw [e1, ok_bind]; exact ih (don ++ [y]) a' (by rw [e, List.append_assoc]; rfl) i1
      · rw [e1, ok_bind]; exact ih (don ++ [y]) a' (by rw [e, List.append_assoc]; rfl) i1
      · rw [e1, ok_bind]; exact z
      · rw [e1, ok_bind]; exact z
      · rw [e1]; exact z
  exact fun {a} i => go ys [] a rfl i
/-! ### what a piece gives, when it need not be told to the letter -/
variable {E : Exc → Prop}
theorem ev_b {m : R α} {k : α → R β} {Q : β → Prop} (h : ev m (fun a => ev (k a) Q E) E) : ev (m.bind k) Q E := by cases m <;> exact h
theorem ev_ok {a : α} {Q : α → Prop} (h : Q a) : ev (R.ok a) Q E := h
theorem ev_get {m : R α} {Q : α → Prop} (h : ev m Q E0d) : ∃ a, m = .ok a ∧ Q a := by
  cases m with
  | ok a => exact ⟨a, rfl, h⟩
  | err x => exact h.elim
  | bad => exact h.elim
theorem ev_forF {ι : Type} {enc : ι → D} {sp : D → Option β} {f : σ → β → R σ} {Q : σ → Prop} {a : σ} (bo : ι → β) (I : List ι → σ → Prop) (ys : List ι) (hs : ∀ y ∈ ys, sp (enc y) = some (bo y)) (i : I [] a)
    (h : ∀ don y rest a, ys = don ++ y :: rest → I don a → ev (f a (bo y)) (I (don ++ [y])) E) (hk : ∀ a', I ys a' → Q a') : ev (forF sp f (ys.map enc) a) Q E := by
  have go : ∀ (rest don : List ι) (a : σ), ys = don ++ rest → I don a → ev (forF sp f (rest.map enc) a) Q E := by
    intro rest
    induction rest with
    | nil => intro don a e i; exact hk a (by rw [e, List.append_nil]; exact i)
    | cons y rest ih =>
      intro don a e i
      rw [List.map_cons]
      unfold forF unS
      rw [hs y (by rw [e]; simp)]
      exact ev_b (ev_mono (h don y rest a e i) fun a' i' => ih (don ++ [y]) a' (by rw [e, List.append_assoc]; rfl) i')
  exact go ys [] a rfl i
theorem ev_forC {ι : Type} {enc : ι → D} {sp : D → Option β} {f : σ → β → R (Ctl σ τ)} {Q : Ctl σ τ → Prop} {a : σ} (bo : ι → β) (I : List ι → σ → Prop) (ys : List ι) (hs : ∀ y ∈ ys, sp (enc y) = some (bo y)) (i : I [] a)
    (h : ∀ don y rest a, ys = don ++ y :: rest → I don a → ev (f a (bo y)) (fun c => match c with
      | .nx a' => I (don ++ [y]) a'
      | .ct a' => I (don ++ [y]) a'
      | .bk a' => Q (.nx a')
      | .rt r => Q (.rt r)) E) (hk : ∀ a', I ys a' → Q (.nx a')) : ev (forC sp f (ys.map enc) a) Q E := by
  have go : ∀ (rest don : List ι) (a : σ), ys = don ++ rest → I don a → ev (forC sp f (rest.map enc) a) Q E := by
    intro rest
    induction rest with
    | nil => intro don a e i; exact hk a (by rw [e, List.append_nil]; exact i)
    | cons y rest ih =>
      intro don a e i
      rw [List.map_cons]
      unfold forC unS
      rw [hs y (by rw [e]; simp)]
      refine ev_b (ev_mono (h don y rest a e i) fun c q => ?_)
      cases c with
      | nx a' => exact ih (don ++ [y]) a' (by rw [e, List.append_assoc]; rfl) q
      | ct a' => exact ih (don ++ [y]) a' (by rw [e, List.append_assoc]; rfl) q
      | bk a' => exact q
      | rt r => exact q
  exact go ys [] a rfl i
theorem ev_bindC {c : R (Ctl σ τ)} {inj : τ → γ} {k : σ → R γ} {Q : γ → Prop} (h : ev c (fun c => match c with
      | .nx a => ev (k a) Q E
      | .rt r => Q (inj r)
      | _ => False) E) : ev (bindC c inj k) Q E := ev_b (ev_mono h fun c q => by
  cases c with
  | nx a => exact q
  | rt r => exact q
  | bk a => exact q.elim
  | ct a => exact q.elim)
end
end Dl
set_option maxRecDepth 100000
/-! Bd: the operations that compare, over data with a Lean type (KE.Datum). -/
namespace Dl
open PySem R PySem.W
set_option autoImplicit false
section
variable {α : Type} [DecidableEq α] [Datum α]
theorem tame_d (a : α) (h : Datum.depth α ≤ 50) : tame (Datum.toD a) := ⟨Datum.plain a, Nat.le_trans (Datum.depth_le a) h⟩
theorem eq_d (a b : α) (h : Datum.depth α ≤ 50) : eqM (Datum.toD a) (Datum.toD b) = .ok (.bool (decide (a = b))) := by
  unfold eqM; rw [guard_ok _ ⟨tame_d a h, tame_d b h⟩, Datum.eqv]
theorem ne_d (a b : α) (h : Datum.depth α ≤ 50) : neM (Datum.toD a) (Datum.toD b) = .ok (.bool (!decide (a = b))) := by
  unfold neM; rw [guard_ok _ ⟨tame_d a h, tame_d b h⟩, Datum.eqv]
theorem in_l (a : α) (xs : List α) (h : Datum.depth α ≤ 49) : inM (Datum.toD a) (.list (xs.map Datum.toD)) = .ok (.bool (decide (a ∈ xs))) := by
  show (optR (some (xs.map Datum.toD))).bind _ = _
  rw [opt_some, ok_bind, guard_ok _ ⟨tame_d a (by omega), tame_d xs (by show Datum.depth α + 1 ≤ 50; omega)⟩, any_datum]
theorem in_t (a : α) (xs : List α) (h : Datum.depth α ≤ 49) : inM (Datum.toD a) (.tuple (xs.map Datum.toD)) = .ok (.bool (decide (a ∈ xs))) := by
  show (optR (some (xs.map Datum.toD))).bind _ = _
  rw [opt_some, ok_bind, guard_ok _ ⟨tame_d a (by omega), tame_d (⟨xs⟩ : Tup α) (by show Datum.depth α + 1 ≤ 50; omega)⟩, any_datum]
theorem nin_l (a : α) (xs : List α) (h : Datum.depth α ≤ 49) : ninM (Datum.toD a) (.list (xs.map Datum.toD)) = .ok (.bool (!decide (a ∈ xs))) := by
  show (optR (some (xs.map Datum.toD))).bind _ = _
  rw [opt_some, ok_bind, guard_ok _ ⟨tame_d a (by omega), tame_d xs (by show Datum.depth α + 1 ≤ 50; omega)⟩, any_datum]
theorem nin_t (a : α) (xs : List α) (h : Datum.depth α ≤ 49) : ninM (Datum.toD a) (.tuple (xs.map Datum.toD)) = .ok (.bool (!decide (a ∈ xs))) := by
  show (optR (some (xs.map Datum.toD))).bind _ = _
  rw [opt_some, ok_bind, guard_ok _ ⟨tame_d a (by omega), tame_d (⟨xs⟩ : Tup α) (by show Datum.depth α + 1 ≤ 50; omega)⟩, any_datum]
end
section
variable {α : Type} [DecidableEq α] [DatumOrd α]
theorem allAlike_d (xs : List α) : allAlikeB (xs.map Datum.toD) = true := by
  unfold allAlikeB
  rw [List.all_eq_true]
  intro d hd
  rw [List.all_eq_true]
  intro e he
  obtain ⟨x, _, rfl⟩ := List.mem_map.mp hd
  obtain ⟨y, _, rfl⟩ := List.mem_map.mp he
  exact DatumOrd.alike x y
theorem alikeAll_d (xs : List α) : alikeAllB (xs.map Datum.toD) = true := by
  unfold alikeAllB
  rw [allAlike_d, Bool.true_and]
  simp only [List.all_map, List.all_eq_true]
  intro x _
  have := DatumOrd.notNone x
  show (!isNo (Datum.toD x)) = true
  cases e : Datum.toD x <;> first | rfl | exact absurd e this
theorem min_l (x : α) (xs : List α) (h : Datum.depth α ≤ 49) : minM (.list ((x :: xs).map Datum.toD)) = .ok (Datum.toD (minOf x xs)) := by
  show (optR (some ((x :: xs).map Datum.toD))).bind _ = _
  rw [opt_some, ok_bind]
  show guardR (tame (Datum.toD (x :: xs)) ∧ alikeAllB ((x :: xs).map Datum.toD) = true) _ = _
  rw [guard_ok _ ⟨tame_d (x :: xs) (by show Datum.depth α + 1 ≤ 50; omega), alikeAll_d _⟩, minD_map]
theorem max_l (x : α) (xs : List α) (h : Datum.depth α ≤ 49) : maxM (.list ((x :: xs).map Datum.toD)) = .ok (Datum.toD (maxOf x xs)) := by
  show (optR (some ((x :: xs).map Datum.toD))).bind _ = _
  rw [opt_some, ok_bind]
  show guardR (tame (Datum.toD (x :: xs)) ∧ alikeAllB ((x :: xs).map Datum.toD) = true) _ = _
  rw [guard_ok _ ⟨tame_d (x :: xs) (by show Datum.depth α + 1 ≤ 50; omega), alikeAll_d _⟩, maxD_map]
/-- the order by which sorted goes -/
def leD (a b : α) : Bool := !DatumOrd.lt b a
theorem leD_eq : dataLe false (fun a : α => Datum.toD a) = leD := by
  funext a b
  show (!dataLt (Datum.toD b) (Datum.toD a)) = _
  rw [DatumOrd.lt_eq]
  rfl
theorem sorted_d (xs : List α) (h : Datum.depth α ≤ 49) (hs : sortableB (xs.map Datum.toD) = true) : sortedM (.list (xs.map Datum.toD)) = .ok (.list ((xs.mergeSort leD).map Datum.toD)) := by
  show guardR (tame (Datum.toD xs) ∧ _ ∧ _) _ = _
  rw [guard_ok _ ⟨tame_d xs (by show Datum.depth α + 1 ≤ 50; omega), allAlike_d xs, hs⟩]
  congr 2
  unfold sortD
  rw [← leD_eq]
  exact (List.map_mergeSort (r := dataLe false fun a : α => Datum.toD a) (s := dataLe false id) (f := Datum.toD) (fun _ _ _ _ => rfl)).symm
end
/-- < of data, as an order -/
theorem dataLt_irrefl (d : PyData) : dataLt d d = false := dataLt_self d
end Dl
set_option maxRecDepth 100000
/-! Bb: graphs of few places, masks, sets: what the shared defs compute. -/
namespace Bb
open PySem Dl Py R
set_option autoImplicit false
local macro_rules | `(tactic| walk_at "ev") => `(tactic| try simp only [ok_bind, err_bind, ifT_t, ifT_f, bindC_nx, bindC_rt, bindC_err, A1_ok, A2_ok, A3_ok, A4_ok, A5_ok, A6_ok, A1_err, A2_err, A2_err2, consM_ok, tvM_b, andM_t, andM_f, orM_t, orM_f, notM_b, notV_b, andV_b, orV_b, ifM_b, chain_ok, chain3_ok, tup0, tup1, tup2, tup3, tup4, lst0, lst1, lst2, lst3, lst4, lst5, lst6, seqM_l, seqM_t, told_ok, told_err, add_i, sub_i, neg_i, int_i, int_b, eq_i, ne_i, lt_i, le_i, gt_i, ge_i, len_l, len_t, ix_l, ix_t, opt_some, min2_i, max2_i, tuple_l, tuple_t, list_l, list_t, isLM_l, atD0, atD1, atD2, if_true, if_false, Bool.not_true, Bool.not_false, X1, X2, X3, X2l, Ln1, Ln2, Ln3, Ln4, ls, consX, tupX, lstX, tvX, andX, orX, notX, andVX, orVX, ifX, asB, Bool.false_eq_true, ↓reduceIte])
abbrev eN (n : Nat) : D := .int n
def tN (xs : List Nat) : D := .tuple (xs.map eN)
def lN (xs : List Nat) : D := .list (xs.map eN)
def eE (p : Nat × Nat) : D := .tuple [eN p.1, eN p.2]
theorem range0 (n : Nat) : rangeL 0 n = (List.range n).map eN := by unfold rangeL; simp
theorem range1 (m n : Nat) : rangeL m n = (List.range' m n).map eN := by
  unfold rangeL
  rw [List.range'_eq_map_range, List.map_map]
  apply List.map_congr_left
  intro k _
  simp
theorem small {n k : Nat} (h : n ≤ k) (hk : k ≤ 16777216 := by decide) : n ≤ LIM := Nat.le_trans h hk
/-! ### bits -/
theorem bitNot2 (a : Int) : Builtin.bitNot (Builtin.bitNot a) = a := by unfold Builtin.bitNot; omega
theorem bitAnd_n (a b : Nat) : Builtin.bitAnd (a : Int) (b : Int) = ((a &&& b : Nat) : Int) := by
  unfold Builtin.bitAnd
  simp
theorem bitOr_n (a b : Nat) : Builtin.bitOr (a : Int) (b : Int) = ((a ||| b : Nat) : Int) := by
  unfold Builtin.bitOr Builtin.bitAnd
  have h1 : ∀ x : Nat, ¬ (0 ≤ Builtin.bitNot (x : Int)) := fun x => by unfold Builtin.bitNot; omega
  simp only [h1, decide_false, bitNot2]
  simp
theorem band_n (a b : Nat) : bandM (eN a) (eN b) = .ok (eN (a &&& b)) := by
  show R.ok (PyData.int (Builtin.bitAnd a b)) = _
  rw [bitAnd_n]
theorem bor_n (a b : Nat) : borM (eN a) (eN b) = .ok (eN (a ||| b)) := by
  show R.ok (PyData.int (Builtin.bitOr a b)) = _
  rw [bitOr_n]
theorem shr_n (a k : Nat) : shrM (eN a) (eN k) = .ok (eN (a >>> k)) := by
  show guardR (0 ≤ (k : Int)) (R.ok (PyData.int ((a : Int) / 2 ^ (k : Int).toNat))) = _
  rw [guard_ok _ (by omega), Int.toNat_natCast, Nat.shiftRight_eq_div_pow]
  congr 2
theorem shl_n (k : Nat) (h : k ≤ 1000) : shlM (.int 1) (eN k) = .ok (eN (2 ^ k)) := by
  show guardR (powOk 1 k) (R.ok (PyData.int (1 * 2 ^ (k : Int).toNat))) = _
  rw [guard_ok _ (by unfold powOk; omega), Int.toNat_natCast, Int.one_mul]
  congr 2
/-- the places of a mask -/
def mem (m : Nat) : List Nat := (List.range 8).filter m.testBit
def sz (m : Nat) : Nat := (mem m).length
theorem members_eq (m : Nat) : py_members (eN m) = .ok (tN (mem m)) := by
  unfold py_members
  walk_at "ev"
  rw [show rng1 (.int 8) = .ok (rangeL 0 8) from rng1_n 8 (by decide), range0]
  rw [lc_eq (enc := eN) eN m.testBit eN (by decide) (fun _ _ => rfl) (fun k _ => ?_) (fun _ _ _ => rfl)]
  · rfl
  · walk_at "ev"
    rw [shr_n]
    walk_at "ev"
    rw [show (PyData.int 1) = eN 1 from rfl, band_n]
    walk_at "ev"
    congr 1
    rw [Nat.testBit_eq_decide_div_mod_eq, Nat.and_one_is_mod, Nat.shiftRight_eq_div_pow]
    apply decide_eq_decide.mpr
    omega
theorem size_eq (m : Nat) : py_size (eN m) = .ok (eN (sz m)) := by
  unfold py_size
  walk_at "ev"
  rw [members_eq]
  unfold tN
  walk_at "ev"
  rw [List.length_map]
  rfl
/-- the mask of some places -/
def msk (xs : List Nat) : Nat := xs.foldl (fun a j => a ||| 2 ^ j) 0
theorem msk_go (xs : List Nat) (a j : Nat) : (xs.foldl (fun a j => a ||| 2 ^ j) a).testBit j = (a.testBit j || decide (j ∈ xs)) := by
  induction xs generalizing a with
  | nil => simp
  | cons x xs ih =>
    rw [List.foldl_cons, ih, Nat.testBit_or, Nat.testBit_two_pow]
    simp only [List.mem_cons, Bool.decide_or, Bool.or_assoc]
    congr 2
    apply decide_eq_decide.mpr
    exact eq_comm
theorem msk_bit (xs : List Nat) (j : Nat) : (msk xs).testBit j = decide (j ∈ xs) := by
  unfold msk
  rw [msk_go]
  simp
theorem filter_range {n m : Nat} (h : n ≤ m) (p : Nat → Bool) : (List.range m).filter (fun j => decide (j < n) && p j) = (List.range n).filter p := by
  obtain ⟨k, rfl⟩ := Nat.exists_eq_add_of_le h
  rw [List.range_add, List.filter_append]
  have h2 : ((List.range k).map (n + ·)).filter (fun j => decide (j < n) && p j) = [] := by
    rw [List.filter_eq_nil_iff]
    intro a ha
    simp only [List.mem_map] at ha
    obtain ⟨b, _, rfl⟩ := ha
    rw [decide_eq_false (by omega)]
    simp
  rw [h2, List.append_nil]
  apply List.filter_congr
  intro a ha
  simp [List.mem_range.mp ha]
theorem mem_msk {n : Nat} (h : n ≤ 8) (p : Nat → Bool) : mem (msk ((List.range n).filter p)) = (List.range n).filter p := by
  unfold mem
  rw [← filter_range h p]
  apply List.filter_congr
  intro j hj
  rw [msk_bit]
  have h8 := List.mem_range.mp hj
  simp [List.mem_filter, h8]
theorem mem_bit (m j : Nat) : j ∈ mem m ↔ j < 8 ∧ m.testBit j = true := by
  unfold mem
  simp
theorem msk_mem {m : Nat} (h : m < 256) : msk (mem m) = m := by
  apply Nat.eq_of_testBit_eq
  intro j
  rw [msk_bit]
  by_cases hj : j < 8
  · cases e : m.testBit j with
    | true => simp [mem_bit, hj, e]
    | false => simp [mem_bit, hj, e]
  · rw [Nat.testBit_lt_two_pow (Nat.lt_of_lt_of_le h (Nat.pow_le_pow_right (by decide) (by omega) : 2 ^ 8 ≤ 2 ^ j))]
    simp [mem_bit, hj]
theorem mem_inj {a b : Nat} (ha : a < 256) (hb : b < 256) (h : mem a = mem b) : a = b := by
  rw [← msk_mem ha, ← msk_mem hb, h]
theorem maskOf_eq (xs : List Nat) (h : ∀ x ∈ xs, x < 64) (hl : xs.length ≤ 1000) : py_mask_of (tN xs) = .ok (.int ((xs.map (2 ^ ·)).sum : Nat)) := by
  unfold py_mask_of tN
  walk_at "ev"
  rw [lc_map (enc := eN) eN (fun x => eN (2 ^ x)) (small hl) (fun _ _ => rfl) (fun x hx => ?_)]
  · walk_at "ev"
    rw [show (xs.map fun x => eN (2 ^ x)) = (xs.map fun x => ((2 ^ x : Nat) : Int)).map PyData.int from by rw [List.map_map]; rfl, sum_l]
    congr 2
    clear h hl
    induction xs with
    | nil => rfl
    | cons x xs ih => rw [List.map_cons, List.sum_cons, ih, List.map_cons, List.sum_cons]; exact (Int.natCast_add _ _).symm
  · walk_at "ev"
    exact shl_n x (by have := h x hx; omega)
/-! ### graphs -/
structure Gr where
  n : Nat
  adj : Nat → Nat → Bool
  lo : 1 ≤ n
  hi : n ≤ 8
/-- all pairs, in their order -/
def pairs (n : Nat) : List (Nat × Nat) := (List.range n).flatMap fun i => (List.range' (i + 1) (n - (i + 1))).map fun j => (i, j)
def Gr.es (G : Gr) : List (Nat × Nat) := (pairs G.n).filter fun p => G.adj p.1 p.2
def Gr.enc (G : Gr) : D := .tuple [eN G.n, .tuple (G.es.map eE)]
/-- joined -/
def Gr.jn (G : Gr) (i j : Nat) : Bool := if i < j then G.adj i j else if j < i then G.adj j i else false
def Gr.sees (G : Gr) (i j : Nat) : Bool := (j == i) || G.jn i j
/-- whom i sees -/
def Gr.row (G : Gr) (i : Nat) : List Nat := (List.range G.n).filter (G.sees i)
def Gr.nr (G : Gr) (i : Nat) : List Nat := (List.range G.n).filter (G.jn i)
theorem mem_pairs {n i j : Nat} : (i, j) ∈ pairs n ↔ i < j ∧ j < n := by
  unfold pairs
  simp only [List.mem_flatMap, List.mem_range, List.mem_map, List.mem_range'_1, Prod.mk.injEq]
  constructor
  · rintro ⟨a, ha, b, hb, rfl, rfl⟩; omega
  · intro h; exact ⟨i, by omega, j, by omega, rfl, rfl⟩
theorem mem_es {G : Gr} {i j : Nat} : (i, j) ∈ G.es ↔ i < j ∧ j < G.n ∧ G.adj i j = true := by
  unfold Gr.es
  rw [List.mem_filter, mem_pairs, and_assoc]
theorem pairs_len {n : Nat} (h : n ≤ 8) : (pairs n).length ≤ 28 := by
  have : ∀ n ≤ 8, (pairs n).length ≤ 28 := by decide
  exact this n h
theorem es_len (G : Gr) : G.es.length ≤ 28 := Nat.le_trans (List.length_filter_le _ _) (pairs_len G.hi)
theorem jn_comm (G : Gr) (i j : Nat) : G.jn i j = G.jn j i := by
  unfold Gr.jn
  by_cases h1 : i < j
  · simp [h1, Nat.not_lt_of_lt h1]
  · by_cases h2 : j < i
    · simp [h1, h2]
    · simp [h1, h2]
theorem sees_comm (G : Gr) (i j : Nat) : G.sees i j = G.sees j i := by
  unfold Gr.sees
  rw [jn_comm, Bool.beq_comm]
theorem jn_edge (G : Gr) {i j : Nat} (hi : i < G.n) (hj : j < G.n) : G.jn i j = G.es.any fun p => (p.1 == i && p.2 == j) || (p.2 == i && p.1 == j) := by
  rw [Bool.eq_iff_iff, List.any_eq_true]
  constructor
  · intro h
    unfold Gr.jn at h
    by_cases h1 : i < j
    · rw [if_pos h1] at h
      exact ⟨(i, j), mem_es.mpr ⟨h1, hj, h⟩, by simp⟩
    · rw [if_neg h1] at h
      by_cases h2 : j < i
      · rw [if_pos h2] at h
        exact ⟨(j, i), mem_es.mpr ⟨h2, hi, h⟩, by simp⟩
      · rw [if_neg h2] at h; cases h
  · rintro ⟨⟨a, b⟩, hm, h⟩
    obtain ⟨h1, h2, h3⟩ := mem_es.mp hm
    simp only [Bool.or_eq_true, Bool.and_eq_true, beq_iff_eq] at h
    unfold Gr.jn
    rcases h with ⟨rfl, rfl⟩ | ⟨rfl, rfl⟩
    · rw [if_pos h1]; exact h3
    · rw [if_neg (by omega), if_pos h1]; exact h3
/-- the items of a graph -/
theorem ixD_0 {a : D} {xs : List D} : ixM (.tuple (a :: xs)) (.int 0) = .ok a := by
  show optR (atD (a :: xs) 0) = _
  rw [atD0]; rfl
theorem ixD_1 {a b : D} {xs : List D} : ixM (.tuple (a :: b :: xs)) (.int 1) = .ok b := by
  show optR (atD (a :: b :: xs) 1) = _
  rw [atD1]; rfl
theorem pr2_e (a b : D) : pr2 (.tuple [a, b]) = some (a, b) := (rfl)
theorem pr3_e (a b c : D) : pr3 (.tuple [a, b, c]) = some (a, b, c) := (rfl)
theorem ixN_l (xs : List D) (k : Nat) (h : k < xs.length) : ixM (.list xs) (eN k) = .ok xs[k] := by
  show optR (atD xs (k : Int)) = _
  rw [atD_nat, List.getElem?_eq_getElem h]; rfl
theorem ixN_t (xs : List D) (k : Nat) (h : k < xs.length) : ixM (.tuple xs) (eN k) = .ok xs[k] := by
  show optR (atD xs (k : Int)) = _
  rw [atD_nat, List.getElem?_eq_getElem h]; rfl
/-- rows over the places -/
def rowD (n : Nat) (f : Nat → D) : D := .list ((List.range n).map f)
theorem ix_row {n k : Nat} (f : Nat → D) (h : k < n) : ixM (rowD n f) (eN k) = .ok (f k) := by
  unfold rowD
  rw [ixN_l _ _ (by simpa using h)]
  simp
theorem set_row {n k : Nat} (f : Nat → D) (d : D) (h : k < n) : setI (rowD n f) (eN k) d = .ok (rowD n fun i => if i = k then d else f i) := by
  unfold rowD
  rw [setI_l _ _ _ (by simpa using h)]
  congr 2
  apply List.ext_getElem
  · simp
  · intro i h1 h2
    rw [List.getElem_set]
    simp only [List.getElem_map, List.getElem_range]
    by_cases e : k = i
    · rw [if_pos e, if_pos e.symm]
    · rw [if_neg e, if_neg (fun z => e z.symm)]
theorem rep_row (d : D) {n : Nat} (h : n ≤ 1000) : mulL (.list [d]) (eN n) = .ok (rowD n fun _ => d) := by
  show guardR (repOk [d] n) (R.ok (PyData.list (List.replicate (n : Int).toNat [d]).flatten)) = _
  rw [guard_ok _ (by unfold repOk LIM; simp; omega), Int.toNat_natCast]
  unfold rowD
  congr 2
  clear h
  induction n with
  | zero => rfl
  | succ n ih => rw [List.replicate_succ', List.flatten_append, ih, List.range_succ, List.map_append]; rfl
theorem near_eq (G : Gr) : py_near_masks G.enc = .ok (rowD G.n fun i => eN (msk (G.nr i))) := by
  have hi := G.hi
  unfold py_near_masks Gr.enc
  walk_at "ev"
  rw [rep_row _ (by omega)]
  walk_at "ev"
  refine forF_bind (enc := eE) (fun p => (eN p.1, eN p.2)) (fun don a => ∃ f : Nat → Nat, a = rowD G.n (fun i => eN (f i)) ∧ ∀ i j, (f i).testBit j = don.any fun p => (p.1 == i && p.2 == j) || (p.2 == i && p.1 == j)) G.es (fun _ _ => rfl) ⟨fun _ => 0, rfl, fun i j => by simp⟩ ?_ ?_
  · rintro don ⟨a, b⟩ rest s hsplit ⟨f, rfl, hf⟩
    have hm : (a, b) ∈ G.es := by rw [hsplit]; simp
    obtain ⟨h1, h2, _⟩ := mem_es.mp hm
    refine ⟨_, ?_, fun i => if i = b then f b ||| 2 ^ a else if i = a then f a ||| 2 ^ b else f i, rfl, ?_⟩
    · walk_at "ev"
      rw [ix_row _ (by omega), shl_n b (by omega)]
      walk_at "ev"
      rw [bor_n]
      walk_at "ev"
      rw [set_row _ _ (by omega)]
      walk_at "ev"
      rw [ix_row _ (by omega), shl_n a (by omega), if_neg (by omega)]
      walk_at "ev"
      rw [bor_n]
      walk_at "ev"
      rw [set_row _ _ (by omega)]
      walk_at "ev"
      congr 2
      funext i
      by_cases e1 : i = b
      · simp [e1]
      · by_cases e2 : i = a
        · subst e2
          simp [e1]
        · simp [e1, e2]
    · intro i j
      rw [List.any_append, ← hf]
      simp only [List.any_cons, List.any_nil, Bool.or_false]
      by_cases e1 : i = b
      · subst e1
        rw [if_pos rfl, Nat.testBit_or, Nat.testBit_two_pow]
        have e0 : (a == i) = false := by simp; omega
        rw [e0]
        simp
        congr 1
      · rw [if_neg e1]
        by_cases e2 : i = a
        · subst e2
          rw [if_pos rfl, Nat.testBit_or, Nat.testBit_two_pow]
          have e0 : (b == i) = false := by simp; omega
          rw [e0]
          simp
          congr 1
        · rw [if_neg e2]
          simp [show ¬ a = i from fun z => e2 z.symm, show ¬ b = i from fun z => e1 z.symm]
  · rintro a' ⟨f, rfl, hf⟩
    walk_at "ev"
    congr 1
    unfold rowD
    congr 1
    apply List.map_congr_left
    intro i hi
    have hi := List.mem_range.mp hi
    congr 2
    apply Nat.eq_of_testBit_eq
    intro j
    rw [hf, msk_bit]
    by_cases hj : j < G.n
    · rw [← jn_edge G hi hj]
      simp [Gr.nr, List.mem_filter, hj]
    · have : (G.es.any fun p => (p.1 == i && p.2 == j) || (p.2 == i && p.1 == j)) = false := by
        rw [List.any_eq_false]
        rintro ⟨a, b⟩ hm
        obtain ⟨h1, h2, _⟩ := mem_es.mp hm
        simp
        omega
      rw [this]
      simp [Gr.nr, List.mem_filter, hj]
theorem enumD_map {ι : Type} (f : ι → D) : ∀ (k : Nat) (xs : List ι), enumD k (xs.map f) = (xs.zipIdx k).map fun p => .tuple [eN p.2, f p.1]
  | _, [] => rfl
  | k, x :: xs => by
    rw [List.map_cons, enumD, enumD_map f (k + 1) xs, List.zipIdx_cons, List.map_cons]
theorem enumD_range (n : Nat) (f : Nat → D) : enumD 0 ((List.range n).map f) = (List.range n).map fun i => .tuple [eN i, f i] := by
  rw [enumD_map]
  apply List.ext_getElem
  · simp
  · intro i h1 h2
    simp
theorem seen_eq (G : Gr) : py_seen_masks G.enc = .ok (rowD G.n fun i => eN (msk (G.row i))) := by
  have hi := G.hi
  unfold py_seen_masks
  walk_at "ev"
  rw [near_eq]
  unfold rowD
  walk_at "ev"
  rw [show enum1 (.list ((List.range G.n).map fun i => eN (msk (G.nr i)))) = .ok (enumD 0 ((List.range G.n).map fun i => eN (msk (G.nr i)))) from rfl, enumD_range]
  rw [lc_map (enc := fun i => PyData.tuple [eN i, eN (msk (G.nr i))]) (fun i => (eN i, eN (msk (G.nr i)))) (fun i => eN (msk (G.row i))) (small (k := 8) (by simp; omega)) (fun _ _ => rfl) (fun i h => ?_)]
  have h := List.mem_range.mp h
  walk_at "ev"
  rw [shl_n i (by omega)]
  walk_at "ev"
  rw [bor_n]
  congr 3
  apply Nat.eq_of_testBit_eq
  intro j
  rw [Nat.testBit_or, msk_bit, msk_bit, Nat.testBit_two_pow]
  simp only [Gr.nr, Gr.row, Gr.sees, List.mem_filter, List.mem_range]
  by_cases e : j = i
  · subst e; simp [h]
  · simp [e, show ¬ i = j from fun z => e z.symm]
/-! ### all sets of places, fewer places first, then by their places -/
def keyM (m : Nat) : D := .tuple [eN (sz m), tN (mem m)]
def leM (a b : Nat) : Bool := PySem.W.dataLe false keyM a b
def order (n : Nat) : List Nat := (List.range (2 ^ n)).mergeSort leM
theorem order_perm (n : Nat) : (order n).Perm (List.range (2 ^ n)) := List.mergeSort_perm _ _
theorem mem_order {n m : Nat} : m ∈ order n ↔ m < 2 ^ n := by
  unfold order
  rw [List.mem_mergeSort, List.mem_range]
theorem order_len (n : Nat) : (order n).length = 2 ^ n := by
  unfold order
  rw [List.length_mergeSort, List.length_range]
theorem pow_le {n : Nat} (h : n ≤ 8) : 2 ^ n ≤ 256 := Nat.pow_le_pow_right (by decide) h
theorem order_lt {n m : Nat} (hn : n ≤ 8) (h : m ∈ order n) : m < 256 := Nat.lt_of_lt_of_le (mem_order.mp h) (pow_le hn)
/-- the sets in the order in which the law builds them -/
theorem sets_step (n : Nat) (h : n < 8) : (List.range (2 ^ n)).map mem ++ ((List.range (2 ^ n)).map mem).map (· ++ [n]) = (List.range (2 ^ (n + 1))).map mem := by
  have : ∀ n < 8, (List.range (2 ^ n)).map mem ++ ((List.range (2 ^ n)).map mem).map (· ++ [n]) = (List.range (2 ^ (n + 1))).map mem := by decide +kernel
  exact this n h
open PySem.W in
def tI (m : Nat) : Tup Int := ⟨(mem m).map fun j : Nat => (j : Int)⟩
open PySem.W in
theorem tI_d (m : Nat) : Datum.toD (tI m) = tN (mem m) := by
  show PyData.tuple (((mem m).map fun j : Nat => (j : Int)).map PyData.int) = _
  rw [List.map_map]; rfl
open PySem.W in
theorem keyM_d (m : Nat) : keyM m = Datum.toD (((sz m : Nat) : Int), tI m) := by
  show _ = PyData.tuple [.int _, Datum.toD (tI m)]
  rw [tI_d]; rfl
theorem tI_inj {a b : Nat} (ha : a < 256) (hb : b < 256) (h : tI a = tI b) : a = b := by
  have h2 := congrArg PySem.W.Tup.items h
  apply mem_inj ha hb
  have h3 : ((mem a).map fun j : Nat => (j : Int)).map Int.toNat = ((mem b).map fun j : Nat => (j : Int)).map Int.toNat := congrArg _ h2
  have hf : (Int.toNat ∘ fun j : Nat => (j : Int)) = id := by funext j; simp
  rw [List.map_map, List.map_map, hf, List.map_id, List.map_id] at h3
  exact h3
theorem range_split {n k : Nat} {don rest : List Nat} (h : List.range n = don ++ k :: rest) : k = don.length ∧ k < n := by
  have h1 : (List.range n)[don.length]? = some k := by rw [h]; simp
  have hl : don.length < n := by
    have := congrArg List.length h
    simp at this; omega
  rw [List.getElem?_range hl] at h1
  cases h1
  exact ⟨rfl, hl⟩
theorem isTupI_tN (xs : List Nat) : isTupI (tN xs) = true := by
  show (xs.map eN).all isInt = true
  simp [isInt]
theorem keyLR_tN (m : Nat) : keyLR (tN (mem m)) = keyM m := by
  show PyData.tuple [.int ((mem m).map eN).length, _] = _
  rw [List.length_map]; rfl
theorem sets_eq {n : Nat} (hn : n ≤ 8) : py__law_sets (eN n) = .ok (.list ((order n).map fun m => tN (mem m))) := by
  unfold py__law_sets
  walk_at "ev"
  rw [rng1_n n (by omega), range0]
  walk_at "ev"
  refine forF_bind (enc := eN) eN (fun don a => a = .list ((List.range (2 ^ don.length)).map fun m => tN (mem m))) _ (fun _ _ => rfl) ?_ ?_ ?_
  · rfl
  · rintro don k rest a hs rfl
    obtain ⟨rfl, hk⟩ := range_split hs
    have h2 := pow_le (show don.length ≤ 8 by omega)
    refine ⟨_, ?_, rfl⟩
    walk_at "ev"
    rw [lc_map (enc := fun m => tN (mem m)) (fun m => tN (mem m)) (fun m => tN (mem m ++ [don.length])) (small (k := 256) (by simpa using h2)) (fun _ _ => rfl) (fun m _ => ?_)]
    · walk_at "ev"
      rw [add_l _ _ (by simp only [List.length_map, List.length_range]; exact small (k := 512) (by omega))]
      walk_at "ev"
      congr 2
      have := congrArg (List.map tN) (sets_step don.length (by omega))
      simp only [List.map_append, List.map_map] at this
      rw [List.length_append]
      exact this
    · unfold tN
      walk_at "ev"
      have : (mem m).length ≤ 8 := by unfold mem; exact Nat.le_trans (List.length_filter_le _ _) (by simp)
      rw [add_t _ _ (by simp only [List.length_map, List.length_cons, List.length_nil]; exact small (k := 10) (by omega)), List.map_append]
      rfl
  · rintro a rfl
    rw [List.length_range]
    walk_at "ev"
    show guardR _ _ = _
    rw [guard_ok _ (by rw [List.all_map]; exact List.all_eq_true.mpr fun m _ => isTupI_tN _)]
    congr 2
    unfold order
    exact (List.map_mergeSort (r := leM) (s := PySem.W.dataLe false keyLR) (f := fun m => tN (mem m)) (fun a _ b _ => by
      show _ = PySem.W.dataLe false (fun m => keyLR (tN (mem m))) a b
      unfold leM
      congr 1
      funext m
      exact (keyLR_tN m).symm)).symm
open PySem.W in
theorem masks_eq {n : Nat} (hn : n ≤ 8) : py_masks_by_size (eN n) = .ok (.list ((order n).map eN)) := by
  have h2 := pow_le hn
  unfold py_masks_by_size
  walk_at "ev"
  rw [shl_n n (by omega)]
  walk_at "ev"
  rw [rng1_n _ (by omega), range0]
  let row : Nat → T3 Int (Tup Int) Int := fun m => ⟨(sz m : Nat), tI m, (m : Nat)⟩
  have er : ∀ m, Datum.toD (row m) = .tuple [eN (sz m), tN (mem m), eN m] := fun m => by
    show PyData.tuple [.int _, Datum.toD (tI m), .int _] = _
    rw [tI_d]
  rw [lc_map (enc := eN) eN (fun m => Datum.toD (row m)) (small (k := 256) (by simpa using h2)) (fun _ _ => rfl) (fun m _ => ?_)]
  · walk_at "ev"
    rw [show ((List.range (2 ^ n)).map fun m => Datum.toD (row m)) = ((List.range (2 ^ n)).map row).map Datum.toD from by rw [List.map_map]; rfl]
    rw [sorted_d _ (by decide) (by
      unfold sortableB
      rw [Bool.or_eq_true]
      left
      rw [List.all_map]
      exact List.all_eq_true.mpr fun r _ => rfl)]
    walk_at "ev"
    have e1 : ((List.range (2 ^ n)).map row).mergeSort leD = (order n).map row := by
      unfold order
      refine (List.map_mergeSort (r := leM) (s := leD) (f := row) (fun a ha b hb => ?_)).symm
      have ha := Nat.lt_of_lt_of_le (List.mem_range.mp ha) h2
      have hb := Nat.lt_of_lt_of_le (List.mem_range.mp hb) h2
      show (!dataLt (keyM b) (keyM a)) = !DatumOrd.lt (row b) (row a)
      rw [keyM_d, keyM_d, DatumOrd.lt_eq]
      congr 1
      show (if ((sz b : Nat) : Int) = (sz a : Nat) then DatumOrd.lt (tI b) (tI a) else _) = (if ((sz b : Nat) : Int) = (sz a : Nat) then (if tI b = tI a then DatumOrd.lt ((b : Nat) : Int) (a : Nat) else DatumOrd.lt (tI b) (tI a)) else _)
      by_cases h1 : ((sz b : Nat) : Int) = (sz a : Nat)
      · rw [if_pos h1, if_pos h1]
        by_cases h2 : tI b = tI a
        · rw [if_pos h2]
          have := tI_inj hb ha h2
          subst this
          rw [← DatumOrd.lt_eq, ← DatumOrd.lt_eq, dataLt_self, dataLt_self]
        · rw [if_neg h2]
      · rw [if_neg h1, if_neg h1]
    rw [e1, List.map_map]
    rw [lc_map (enc := Datum.toD ∘ row) (fun m => (eN (sz m), tN (mem m), eN m)) eN (small (k := 256) (by rw [order_len]; exact h2)) (fun m _ => by
      show pr3 (Datum.toD (row m)) = _
      rw [er]; rfl) (fun m _ => rfl)]
  · walk_at "ev"
    rw [size_eq, members_eq]
    walk_at "ev"
    rw [er]
end Bb
set_option maxRecDepth 100000
/-! Bg: graphs checked; the law's own graphs, its drawing. -/
namespace Bb
open PySem Dl Py R PySem.W
set_option autoImplicit false
local macro_rules | `(tactic| walk_at "ev") => `(tactic| try simp only [ok_bind, err_bind, ifT_t, ifT_f, bindC_nx, bindC_rt, bindC_err, A1_ok, A2_ok, A3_ok, A4_ok, A5_ok, A6_ok, A1_err, A2_err, A2_err2, consM_ok, tvM_b, andM_t, andM_f, orM_t, orM_f, notM_b, notV_b, andV_b, orV_b, ifM_b, chain_ok, chain3_ok, tup0, tup1, tup2, tup3, tup4, lst0, lst1, lst2, lst3, lst4, lst5, lst6, seqM_l, seqM_t, told_ok, told_err, add_i, sub_i, neg_i, int_i, int_b, eq_i, ne_i, lt_i, le_i, gt_i, ge_i, len_l, len_t, ix_l, ix_t, opt_some, min2_i, max2_i, tuple_l, tuple_t, list_l, list_t, isLM_l, atD0, atD1, atD2, if_true, if_false, Bool.not_true, Bool.not_false, X1, X2, X3, X2l, Ln1, Ln2, Ln3, Ln4, ls, consX, tupX, lstX, tvX, andX, orX, notX, andVX, orVX, ifX, asB, Bool.false_eq_true, ↓reduceIte])
theorem min2_n (i j : Nat) : min2M (eN i) (eN j) = .ok (eN (min i j)) := by
  rw [min2_i]
  congr 2
  by_cases h : (j : Int) < i
  · rw [if_pos h]; omega
  · rw [if_neg h]; omega
theorem max2_n (i j : Nat) : max2M (eN i) (eN j) = .ok (eN (max i j)) := by
  rw [max2_i]
  congr 2
  by_cases h : (j : Int) > i
  · rw [if_pos h]; omega
  · rw [if_neg h]; omega
theorem eq_n (i j : Nat) : eqM (eN i) (eN j) = .ok (.bool (i == j)) := by
  rw [eq_i]
  congr 2
  rw [Bool.beq_eq_decide_eq]
  exact decide_eq_decide.mpr Int.ofNat_inj
/-- a pair of places, as data -/
def eP (p : Nat × Nat) : Int × Int := (p.1, p.2)
theorem eE_d (p : Nat × Nat) : eE p = Datum.toD (eP p) := rfl
open PySem.W in
theorem in_es (G : Gr) (i j : Nat) : inM (.tuple [eN i, eN j]) (.tuple (G.es.map eE)) = .ok (.bool (decide ((i, j) ∈ G.es))) := by
  have h := in_t (eP (i, j)) (G.es.map eP) (by decide)
  rw [List.map_map] at h
  rw [show (PyData.tuple [eN i, eN j]) = Datum.toD (eP (i, j)) from rfl, show G.es.map eE = G.es.map (Datum.toD ∘ eP) from rfl, h]
  congr 2
  apply decide_eq_decide.mpr
  constructor
  · intro h
    obtain ⟨⟨a, b⟩, hm, e⟩ := List.mem_map.mp h
    have e1 := congrArg Prod.fst e
    have e2 := congrArg Prod.snd e
    simp only [eP] at e1 e2
    have : a = i := by omega
    have : b = j := by omega
    subst_vars
    exact hm
  · exact fun h => List.mem_map.mpr ⟨_, h, rfl⟩
theorem jn_mem (G : Gr) {i j : Nat} (hi : i < G.n) (hj : j < G.n) (h : i ≠ j) : decide ((min i j, max i j) ∈ G.es) = G.jn i j := by
  rw [Bool.eq_iff_iff, decide_eq_true_eq, mem_es]
  unfold Gr.jn
  by_cases h1 : i < j
  · rw [if_pos h1, Nat.min_eq_left (by omega), Nat.max_eq_right (by omega)]
    simp [h1, hj]
  · have h2 : j < i := by omega
    rw [if_neg h1, if_pos h2, Nat.min_eq_right (by omega), Nat.max_eq_left (by omega)]
    simp [h2, hi]
theorem lawSeen_eq (G : Gr) : py__law_seen G.enc = .ok (rowD G.n fun i => lN (G.row i)) := by
  have hi := G.hi
  unfold py__law_seen Gr.enc
  walk_at "ev"
  rw [rng1_n G.n (by omega), range0]
  rw [lc_map (enc := eN) eN (fun i => lN (G.row i)) (small (k := 8) (by simpa using hi)) (fun _ _ => rfl) (fun i hi' => ?_)]
  · rfl
  have hi' := List.mem_range.mp hi'
  rw [lc_eq (enc := eN) eN (G.sees i) eN (small (k := 8) (by simpa using hi)) (fun _ _ => rfl) (fun j hj => ?_) (fun _ _ _ => rfl)]
  · rfl
  have hj := List.mem_range.mp hj
  rw [min2_n, max2_n]
  walk_at "ev"
  rw [in_es]
  walk_at "ev"
  rw [orM_bb]
  congr 1
  unfold Gr.sees
  by_cases e : j = i
  · subst e; simp
  · rw [← jn_mem G hi' hj (fun z => e z.symm)]
    congr 1
    rw [Bool.beq_eq_decide_eq]
    exact decide_eq_decide.mpr Int.ofNat_inj
open PySem.W in
theorem allSeen_eq {ι : Type} (rows : List ι) (f : ι → List Nat) (xs : List Nat) (h1 : rows.length ≤ 1000) (h2 : ∀ r ∈ rows, (f r).length ≤ 1000) : py__law_all_seen (.list (rows.map fun r => lN (f r))) (tN xs) = .ok (.bool (rows.all fun r => (f r).any fun j => decide (j ∈ xs))) := by
  unfold py__law_all_seen
  walk_at "ev"
  have inx : ∀ j : Nat, inM (eN j) (tN xs) = .ok (.bool (decide (j ∈ xs))) := fun j => by
    have h := in_t (j : Int) (xs.map fun j : Nat => (j : Int)) (by decide)
    rw [List.map_map] at h
    refine h.trans ?_
    congr 2
    apply decide_eq_decide.mpr
    simp only [List.mem_map]
    exact ⟨fun ⟨a, h', e⟩ => by have : a = j := by omega
                                subst this; exact h', fun h => ⟨j, h, rfl⟩⟩
  rw [lc_eq (enc := fun r => lN (f r)) (fun r => lN (f r)) (fun r => !(f r).any fun j => decide (j ∈ xs)) (fun r => lN (f r)) (small h1) (fun _ _ => rfl) (fun r hr => ?_) (fun _ _ _ => rfl)]
  · walk_at "ev"
    rw [List.length_map]
    congr 2
    rw [Bool.eq_iff_iff, decide_eq_true_eq, List.all_eq_true]
    constructor
    · intro h r hr
      have : (rows.filter fun r => !(f r).any fun j => decide (j ∈ xs)) = [] := List.eq_nil_of_length_eq_zero (by omega)
      rw [List.filter_eq_nil_iff] at this
      simpa using this r hr
    · intro h
      have : (rows.filter fun r => !(f r).any fun j => decide (j ∈ xs)) = [] := by
        rw [List.filter_eq_nil_iff]
        intro r hr
        rw [h r hr]; simp
      rw [this]; rfl
  · unfold lN
    walk_at "ev"
    rw [lc_eq (enc := eN) eN (fun j => decide (j ∈ xs)) eN (small (h2 r hr)) (fun _ _ => rfl) (fun j _ => ?_) (fun _ _ _ => rfl)]
    · walk_at "ev"
      rw [List.length_map]
      congr 1
      rw [Bool.eq_iff_iff, decide_eq_true_eq]
      simp
    · rw [inx]
      walk_at "ev"
/-! ### check_graph -/
theorem orM_cases {a : Bool} {b : R Bool} (h : a = false) : orM (.ok a) b = b := by subst h; rfl
def ltP (p q : Nat × Nat) : Bool := decide (p.1 < q.1 ∨ (p.1 = q.1 ∧ p.2 < q.2))
theorem pairs_asc {n : Nat} (h : n ≤ 8) : (pairs n).Pairwise fun p q => ltP p q = true := by
  have : ∀ n ≤ 8, (pairs n).Pairwise fun p q => ltP p q = true := by decide
  exact this n h
theorem es_asc (G : Gr) : G.es.Pairwise fun p q => ltP p q = true := (pairs_asc G.hi).filter _
theorem lt_e (p q : Nat × Nat) : ltM (eE p) (eE q) = .ok (.bool (ltP p q)) := by
  show guardR _ _ = _
  have t1 : tame (eE p) := tame_d (eP p) (by decide)
  have t2 : tame (eE q) := tame_d (eP q) (by decide)
  rw [guard_ok _ ⟨rfl, t1, t2, rfl⟩]
  have := DatumOrd.lt_eq (eP p) (eP q)
  rw [show dataLt (eE p) (eE q) = DatumOrd.lt (eP p) (eP q) from this]
  congr 2
  show (if (eP p).1 = (eP q).1 then decide ((eP p).2 < (eP q).2) else decide ((eP p).1 < (eP q).1)) = _
  unfold ltP eP
  by_cases h : p.1 = q.1
  · simp [h]
  · have : ¬ ((p.1 : Int) = q.1) := by omega
    rw [if_neg this]
    apply decide_eq_decide.mpr
    simp only [h, false_and, or_false]
    omega
theorem zipD_map {ι : Type} (f : ι → D) : ∀ xs ys : List ι, zipD (xs.map f) (ys.map f) = (xs.zip ys).map fun p => .tuple [f p.1, f p.2]
  | [], _ => rfl
  | _ :: _, [] => rfl
  | x :: xs, y :: ys => by rw [List.map_cons, List.map_cons, zipD, zipD_map f xs ys]; rfl
theorem pairwise_zip {ι : Type} {r : ι → ι → Prop} : ∀ {xs : List ι}, xs.Pairwise r → ∀ p ∈ xs.zip xs.tail, r p.1 p.2
  | [], _, p, h => by simp at h
  | [x], _, p, h => by simp at h
  | x :: y :: xs, hp, p, h => by
    rw [List.tail_cons, List.zip_cons_cons] at h
    rcases List.mem_cons.mp h with rfl | h
    · exact (List.pairwise_cons.mp hp).1 y List.mem_cons_self
    · exact pairwise_zip (List.pairwise_cons.mp hp).2 p h
theorem cut1 (xs : List D) : cutD xs (some 1) none = xs.tail := by
  unfold cutD cutIx
  cases xs with
  | nil => rfl
  | cons x xs => simp
theorem slM_t (xs : List D) : slM (.ok (.tuple xs)) (asI (PyData.int 1)) (.ok none) = .ok (.tuple (cutD xs (some 1) none)) := (rfl)
theorem zip2_t (xs ys : List D) : zip2 (.tuple xs) (.tuple ys) = .ok (zipD xs ys) := (rfl)
theorem zip2_l (xs ys : List D) : zip2 (.list xs) (.list ys) = .ok (zipD xs ys) := (rfl)
theorem allTrue {ι : Type} (xs : List ι) : allM (.list (xs.map fun _ => PyData.bool true)) = .ok (.bool true) := by
  rw [show (xs.map fun _ => PyData.bool true) = (xs.map fun _ => true).map PyData.bool from by rw [List.map_map]; rfl, all_b]
  congr 2
  simp
theorem check_eq (G : Gr) : py_check_graph G.enc = .ok .none := by
  have hi := G.hi
  have lo := G.lo
  unfold py_check_graph Gr.enc
  walk_at "ev"
  simp only [List.length_cons, List.length_nil]
  rw [show (decide ((1 : Int) ≤ G.n)) = true from decide_eq_true (by omega)]
  walk_at "ev"
  rw [show (decide ((G.n : Int) ≤ 8)) = true from decide_eq_true (by omega)]
  rw [show (decide (((0 + 1 + 1 : Nat) : Int) = 2)) = true from by decide]
  walk_at "ev"
  rw [lc_map (enc := eE) eE (fun _ => .bool true) (small (es_len G)) (fun _ _ => rfl) (fun p hp => ?_)]
  · walk_at "ev"
    rw [allTrue]
    walk_at "ev"
    rw [slM_t, ok_bind, zip2_t, cut1, ← List.map_tail, zipD_map]
    rw [lc_map (enc := fun p : (Nat × Nat) × (Nat × Nat) => PyData.tuple [eE p.1, eE p.2]) (fun p => (eE p.1, eE p.2)) (fun _ => .bool true) (small (k := 28) (by have := es_len G; simp [List.length_zip]; omega)) (fun _ _ => rfl) (fun p hp => ?_)]
    · walk_at "ev"
      rw [allTrue]
      walk_at "ev"
    · walk_at "ev"
      rw [lt_e, pairwise_zip (es_asc G) p hp]
  · obtain ⟨a, b⟩ := p
    obtain ⟨h1, h2, _⟩ := mem_es.mp hp
    unfold eE
    walk_at "ev"
    have g0 : (0 : Int) ≤ a := by omega
    have g1 : (a : Int) < b := by omega
    have g2 : (b : Int) < G.n := by omega
    simp [g1, g2]
end Bb
set_option maxRecDepth 100000
/-! Bs: the law's drawing: its stream of numbers, its graphs. -/
namespace Bb
open PySem Dl Py R PySem.W
set_option autoImplicit false
local macro_rules | `(tactic| walk_at "ev") => `(tactic| try simp only [ok_bind, err_bind, ifT_t, ifT_f, bindC_nx, bindC_rt, bindC_err, A1_ok, A2_ok, A3_ok, A4_ok, A5_ok, A6_ok, A1_err, A2_err, A2_err2, consM_ok, tvM_b, andM_t, andM_f, orM_t, orM_f, notM_b, notV_b, andV_b, orV_b, ifM_b, chain_ok, chain3_ok, tup0, tup1, tup2, tup3, tup4, lst0, lst1, lst2, lst3, lst4, lst5, lst6, seqM_l, seqM_t, told_ok, told_err, add_i, sub_i, neg_i, int_i, int_b, eq_i, ne_i, lt_i, le_i, gt_i, ge_i, len_l, len_t, ix_l, ix_t, opt_some, min2_i, max2_i, tuple_l, tuple_t, list_l, list_t, isLM_l, atD0, atD1, atD2, if_true, if_false, Bool.not_true, Bool.not_false, X1, X2, X3, X2l, Ln1, Ln2, Ln3, Ln4, ls, consX, tupX, lstX, tvX, andX, orX, notX, andVX, orVX, ifX, asB, Bool.false_eq_true, ↓reduceIte])
/-- the state of a law's drawing, good for b more draws -/
def stD (ms : List Int) (c : Int) : D := .list [.list (ms.map PyData.int), .int c]
def StB (b : Nat) (d : D) : Prop := ∃ (ms : List Int) (c : Nat), d = stD ms c ∧ ms ≠ [] ∧ ms.length ≤ 10000 ∧ (∀ n ∈ ms, 0 ≤ n ∧ n < 1009) ∧ c + b ≤ 1000000000
theorem StB.mono {b c : Nat} {d : D} (h : StB b d) (l : c ≤ b) : StB c d := by
  obtain ⟨ms, k, e, h1, h2, h3, h4⟩ := h
  exact ⟨ms, k, e, h1, h2, h3, by omega⟩
theorem log2_lt {n k : Nat} (h : n < 2 ^ k) (hk : 0 < k) : n.log2 < k := log2_lt_of h hk
theorem next_eq {b : Nat} {d : D} {many : Nat} (h : StB (b + 1) d) (hm : 0 < many) : ∃ r d', py__law_next d (eN many) = .ok (eN r, d') ∧ StB b d' ∧ r < many := by
  obtain ⟨ms, c, rfl, h1, h2, h3, h4⟩ := h
  have hl : 0 < ms.length := List.length_pos_iff.mpr h1
  let t : Int := ((c : Int) + 1).fdiv ms.length
  have ht0 : 0 ≤ t := Int.fdiv_nonneg (by omega) (by omega)
  have ht1 : t ≤ c + 1 := by
    show ((c : Int) + 1).fdiv _ ≤ _
    rw [Int.fdiv_eq_ediv_of_nonneg _ (by omega)]
    exact Int.ediv_le_self _ (by omega)
  let k : Int := ((c : Int) + 1).fmod ms.length
  have hk0 : 0 ≤ k := Int.fmod_nonneg_of_pos _ (by omega)
  have hk1 : k < ms.length := Int.fmod_lt_of_pos _ (by omega)
  obtain ⟨kn, hkn⟩ := Int.eq_ofNat_of_zero_le hk0
  have hkl : kn < ms.length := by omega
  let z : Int := ms[kn]
  let r : Int := (z + t * 389 + ((c : Int) + 1) * t * 17).fmod many
  have hr0 : 0 ≤ r := Int.fmod_nonneg_of_pos _ (by omega)
  have hr1 : r < many := Int.fmod_lt_of_pos _ (by omega)
  obtain ⟨rn, hrn⟩ := Int.eq_ofNat_of_zero_le hr0
  refine ⟨rn, stD ms (c + 1), ?_, ⟨ms, c + 1, rfl, h1, h2, h3, by omega⟩, by omega⟩
  unfold py__law_next stD
  walk_at "ev"
  rw [show setI (.list [.list (ms.map PyData.int), .int (c : Int)]) (.int 1) (.int ((c : Int) + 1)) = .ok (.list [.list (ms.map PyData.int), .int ((c : Int) + 1)]) from setI_l [.list (ms.map PyData.int), .int (c : Int)] 1 _ (by show 1 < 2; decide)]
  walk_at "ev"
  rw [List.length_map, fdiv_i _ _ ⟨by omega, Nat.lt_trans (log2_lt (k := 14) (by show (ms.length : Int).natAbs < 2 ^ 14; rw [Int.natAbs_natCast]; omega) (by decide)) (by decide)⟩]
  walk_at "ev"
  rw [mod_i _ _ (by omega)]
  walk_at "ev"
  rw [show atD (ms.map PyData.int) (((c : Int) + 1).fmod ms.length) = some (.int z) from by
    show atD _ k = _
    rw [hkn]
    show atD _ ((kn : Nat) : Int) = _
    rw [atD_nat, List.getElem?_map, List.getElem?_eq_getElem hkl]; rfl]
  walk_at "ev"
  rw [mul_i _ _ (.inr (.inl ⟨by decide, by decide⟩)), mul_i _ _ (.inl ⟨by omega, by omega⟩)]
  walk_at "ev"
  rw [mul_i _ _ (.inr (.inl ⟨by decide, by decide⟩))]
  walk_at "ev"
  rw [mod_i _ _ (by omega)]
  walk_at "ev"
  congr 3
/-! ### the stream -/
def okN (ms : List Int) : Prop := ∀ m ∈ ms, 0 ≤ m ∧ m < 1009
theorem okN_app {ms : List Int} {m : Int} (h : okN ms) (h0 : 0 ≤ m) (h1 : m < 1009) : okN (ms ++ [m]) := by
  intro x hx
  rcases List.mem_append.mp hx with hx | hx
  · exact h x hx
  · rw [List.mem_singleton.mp hx]; exact ⟨h0, h1⟩
def lI (ms : List Int) : D := .list (ms.map PyData.int)
theorem apL_I (ms : List Int) (m : Int) (h : ms.length < 16777216) : apL (lI ms) (.int m) = .ok (lI (ms ++ [m])) := by
  unfold lI
  rw [apL_l _ _ (by rw [List.length_map]; exact h), List.map_append]; rfl
theorem rngL (n : Nat) (h : n ≤ 1000000) : rng1 (.int (OfNat.ofNat n : Nat)) = .ok ((List.range n).map eN) := by
  rw [← range0]; exact rng1_n n h
theorem absm (a : Int) : (if a < 0 then -a else a) = (a.natAbs : Int) := by split <;> omega
theorem abs_i (a : Int) : absM (.int a) = .ok (.int (a.natAbs : Int)) := by
  show R.ok (PyData.int (if a < 0 then -a else a)) = _
  rw [absm]
theorem stream_eq (ns : List Int) (hl : ns.length ≤ 63) : ∃ ms, py__law_stream (scrD (ns.map PyData.int)) = .ok (lI ms) ∧ ms ≠ [] ∧ ms.length ≤ 10000 ∧ okN ms := by
  suffices h : ev (py__law_stream (scrD (ns.map PyData.int))) (fun d => ∃ ms, d = lI ms ∧ ms ≠ [] ∧ ms.length ≤ 10000 ∧ okN ms) E0d by
    obtain ⟨d, e, ms, rfl, h⟩ := ev_get h
    exact ⟨ms, e, h⟩
  unfold py__law_stream
  walk_at "ev"
  rw [show slM (.ok (scrD (ns.map PyData.int))) (.ok none) (asI (PyData.int 63)) = .ok (.list (cutD (ns.map PyData.int) none (some 63))) from rfl]
  rw [show cutD (ns.map PyData.int) none (some 63) = ((ns.drop (cutIx (ns.map PyData.int).length 0 none)).take (cutIx (ns.map PyData.int).length (ns.map PyData.int).length (some 63) - cutIx (ns.map PyData.int).length 0 none)).map PyData.int from by
    unfold cutD; rw [List.map_take, List.map_drop]]
  generalize hc : (ns.drop (cutIx (ns.map PyData.int).length 0 none)).take (cutIx (ns.map PyData.int).length (ns.map PyData.int).length (some 63) - cutIx (ns.map PyData.int).length 0 none) = zs
  have hz : zs.length ≤ 63 := by
    rw [← hc, List.length_take, List.length_drop]; omega
  walk_at "ev"
  refine ev_b (ev_forF (enc := PyData.int) PyData.int (fun don a => ∃ ms, a = lI ms ∧ okN ms ∧ ms.length ≤ 60 * don.length) zs (fun _ _ => rfl) ⟨[], rfl, fun _ h => by simp at h, by simp⟩ ?_ ?_)
  · rintro don z rest a hs ⟨ms, rfl, hm, hn⟩
    have hd : don.length < 63 := by
      have := congrArg List.length hs
      simp at this; omega
    rw [List.length_append, List.length_singleton]
    walk_at "ev"
    rw [abs_i]
    walk_at "ev"
    rw [show powM (.int 10) (.int 18) = .ok (.int (10 ^ 18)) from guard_ok _ (by unfold powOk; decide)]
    walk_at "ev"
    rw [show rng1 (.int 60) = .ok ((List.range 60).map eN) from rngL 60 (by decide), show rng1 (.int 10) = .ok ((List.range 10).map eN) from rngL 10 (by decide)]
    walk_at "ev"
    cases hb : decide ((10 : Int) ^ 18 ≤ (z.natAbs : Int)) with
    | true =>
      walk_at "ev"
      refine ev_bindC (ev_forC (enc := eN) eN (fun d2 a => ∃ (ms' : List Int) (r : Int), a = (lI ms', .int r) ∧ okN ms' ∧ 0 ≤ r ∧ ms'.length ≤ ms.length + d2.length) (List.range 60) (fun _ _ => rfl) ⟨ms, z.natAbs, rfl, hm, by omega, by simp⟩ ?_ ?_)
      · rintro d2 k rest2 a hs2 ⟨ms', r, rfl, hm', h0, hn'⟩
        have hd2 : d2.length < 60 := by
          have := congrArg List.length hs2
          simp at this; omega
        have e1 := Int.fmod_nonneg_of_pos r (b := 1009) (by decide)
        have e2 := Int.fmod_lt_of_pos r (b := 1009) (by decide)
        have e3 : 0 ≤ r.fdiv 1009 := Int.fdiv_nonneg h0 (by decide)
        have hm2 := okN_app hm' e1 e2
        have z2 : ∃ (ms'' : List Int) (r' : Int), (lI (ms' ++ [r.fmod 1009]), PyData.int (r.fdiv 1009)) = (lI ms'', PyData.int r') ∧ okN ms'' ∧ 0 ≤ r' ∧ ms''.length ≤ ms.length + (d2 ++ [k]).length := ⟨_, _, rfl, hm2, e3, by simp; omega⟩
        unfold lI
        walk_at "ev"
        rw [mod_i _ _ (by decide), fdiv_i _ _ ⟨by decide, by decide⟩]
        walk_at "ev"
        rw [show apL (.list (ms'.map PyData.int)) (.int (r.fmod 1009)) = .ok (lI (ms' ++ [r.fmod 1009])) from apL_I ms' _ (by omega)]
        walk_at "ev"
        cases decide (r.fdiv 1009 = 0) with
        | true =>
          walk_at "ev"
          exact ⟨_, rfl, hm2, by simp; omega⟩
        | false =>
          walk_at "ev"
          exact z2
      · rintro a ⟨ms', r, rfl, hm', h0, hn'⟩
        exact ⟨ms', rfl, hm', by simp at hn'; omega⟩
    | false =>
      walk_at "ev"
      rw [mod_i _ _ (by decide)]
      walk_at "ev"
      refine ev_b (ev_forF (enc := eN) eN (fun d2 a => ∃ (ms' : List Int) (t : Int), a = (lI ms', .int t) ∧ okN ms' ∧ 0 ≤ t ∧ t < 2147483647 ∧ ms'.length ≤ ms.length + d2.length) (List.range 10) (fun _ _ => rfl) ⟨ms, _, rfl, hm, Int.fmod_nonneg_of_pos _ (by decide), Int.fmod_lt_of_pos _ (by decide), by simp⟩ ?_ ?_)
      · rintro d2 k rest2 a hs2 ⟨ms', t, rfl, hm', h0, h1, hn'⟩
        have hd2 : d2.length < 10 := by
          have := congrArg List.length hs2
          simp at this; omega
        have hk : k < 10 := List.mem_range.mp (by rw [hs2]; simp)
        unfold lI
        walk_at "ev"
        rw [mul_i _ _ (.inl ⟨by omega, by omega⟩), mul_i _ _ (.inl ⟨by decide, by decide⟩)]
        walk_at "ev"
        rw [mod_i _ _ (by decide)]
        walk_at "ev"
        generalize hu : (t * 48271 + 7 * (k : Int) + 11).fmod 2147483647 = u
        have u0 : 0 ≤ u := by rw [← hu]; exact Int.fmod_nonneg_of_pos _ (by decide)
        have u1 : u < 2147483647 := by rw [← hu]; exact Int.fmod_lt_of_pos _ (by decide)
        rw [mul_i _ _ (.inl ⟨by omega, by omega⟩)]
        walk_at "ev"
        rw [mod_i _ _ (by decide)]
        walk_at "ev"
        rw [mod_i _ _ (by decide)]
        walk_at "ev"
        generalize hv : ((u * 69621 + (k : Int)).fmod 2147483629).fmod 1009 = v
        have v0 : 0 ≤ v := by rw [← hv]; exact Int.fmod_nonneg_of_pos _ (by decide)
        have v1 : v < 1009 := by rw [← hv]; exact Int.fmod_lt_of_pos _ (by decide)
        rw [show apL (.list (ms'.map PyData.int)) (.int v) = .ok (lI (ms' ++ [v])) from apL_I ms' _ (by omega)]
        walk_at "ev"
        exact ⟨_, _, rfl, okN_app hm' v0 v1, u0, u1, by simp; omega⟩
      · rintro a ⟨ms', t, rfl, hm', h0, h1, hn'⟩
        exact ⟨ms', rfl, hm', by simp at hn'; omega⟩
  · rintro a ⟨ms, rfl, hm, hn⟩
    unfold lI
    walk_at "ev"
    rw [List.length_map]
    by_cases h0 : ms.length = 0
    · rw [show (decide ((ms.length : Int) = 0)) = true from decide_eq_true (by omega)]
      walk_at "ev"
      have e : ms = [] := List.eq_nil_of_length_eq_zero h0
      subst e
      exact ⟨[0], rfl, by simp, by simp, fun m hm => by simp at hm; omega⟩
    · rw [show (decide ((ms.length : Int) = 0)) = false from decide_eq_false (by omega)]
      walk_at "ev"
      exact ⟨ms, rfl, fun e => h0 (by rw [e]; rfl), by omega, hm⟩
end Bb
set_option maxRecDepth 100000
/-! Bh: the law's graphs. -/
namespace Bb
open PySem Dl Py R PySem.W
set_option autoImplicit false
local macro_rules | `(tactic| walk_at "ev") => `(tactic| try simp only [ok_bind, err_bind, ifT_t, ifT_f, bindC_nx, bindC_rt, bindC_err, A1_ok, A2_ok, A3_ok, A4_ok, A5_ok, A6_ok, A1_err, A2_err, A2_err2, consM_ok, tvM_b, andM_t, andM_f, orM_t, orM_f, notM_b, notV_b, andV_b, orV_b, ifM_b, chain_ok, chain3_ok, tup0, tup1, tup2, tup3, tup4, lst0, lst1, lst2, lst3, lst4, lst5, lst6, seqM_l, seqM_t, told_ok, told_err, add_i, sub_i, neg_i, int_i, int_b, eq_i, ne_i, lt_i, le_i, gt_i, ge_i, len_l, len_t, ix_l, ix_t, opt_some, min2_i, max2_i, tuple_l, tuple_t, list_l, list_t, isLM_l, atD0, atD1, atD2, if_true, if_false, Bool.not_true, Bool.not_false, X1, X2, X3, X2l, Ln1, Ln2, Ln3, Ln4, ls, consX, tupX, lstX, tvX, andX, orX, notX, andVX, orVX, ifX, asB, Bool.false_eq_true, ↓reduceIte])
theorem draw {b : Nat} {d : D} {m : Nat} (h : StB (b + 1) d) (hm : 0 < m) : ev (py__law_next d (eN m)) (fun p => ∃ r, p.1 = eN r ∧ r < m ∧ StB b p.2) E0d := by
  obtain ⟨r, d', e, h1, h2⟩ := next_eq h hm
  rw [e]
  exact ⟨r, rfl, h2, h1⟩
theorem evD {b : Nat} {d : D} {k : Int} {Q : D × D → Prop} (m : Nat) (hk : k = m) (h : StB (b + 1) d) (hm : 0 < m) (w : ∀ r d', r < m → StB b d' → Q (eN r, d')) : ev (py__law_next d (.int k)) Q E0d := by
  subst hk
  refine ev_mono (draw h hm) ?_
  rintro ⟨_, d'⟩ ⟨r, rfl, hr, hd⟩
  exact w r d' hr hd
theorem sub_filter {ι : Type} [DecidableEq ι] : ∀ {l1 l2 : List ι}, l1.Sublist l2 → l2.Nodup → l1 = l2.filter fun x => decide (x ∈ l1)
  | _, _, .slnil, _ => rfl
  | l1, x :: l2, .cons _ h, n => by
    have n' := List.nodup_cons.mp n
    rw [List.filter_cons_of_neg (by simpa using fun z => n'.1 (h.subset z))]
    exact sub_filter h n'.2
  | x :: l1, _ :: l2, .cons_cons _ h, n => by
    have n' := List.nodup_cons.mp n
    rw [List.filter_cons_of_pos (by simp)]
    congr 1
    conv => lhs; rw [sub_filter h n'.2]
    apply List.filter_congr
    intro y hy
    have : y ≠ x := fun z => n'.1 (z ▸ hy)
    simp [this]
theorem pairs_nodup {n : Nat} (h : n ≤ 8) : (pairs n).Nodup := (pairs_asc h).imp fun {p q} hl e => by
  subst e
  simp [ltP] at hl
/-- a graph of some of the pairs -/
def grOf (n : Nat) (es : List (Nat × Nat)) (lo : 1 ≤ n) (hi : n ≤ 8) : Gr := ⟨n, fun i j => decide ((i, j) ∈ es), lo, hi⟩
theorem grOf_es {n : Nat} {es : List (Nat × Nat)} (lo : 1 ≤ n) (hi : n ≤ 8) (h : es.Sublist (pairs n)) : (grOf n es lo hi).es = es :=
  Eq.trans (List.filter_congr fun p _ => decide_eq_decide.mpr Iff.rfl) (sub_filter h (pairs_nodup hi)).symm
theorem apE (es : List (Nat × Nat)) (p : Nat × Nat) (h : es.length < 16777216) : apL (.list (es.map eE)) (eE p) = .ok (.list ((es ++ [p]).map eE)) := by
  rw [apL_l _ _ (by rw [List.length_map]; exact h), List.map_append]; rfl
def rowP (n i : Nat) : List (Nat × Nat) := (List.range' (i + 1) (n - (i + 1))).map fun j => (i, j)
def graphI (n b : Nat) (don : List Nat) (a : D × D) : Prop := ∃ es : List (Nat × Nat), a.2 = .list (es.map eE) ∧ es.Sublist (don.flatMap (rowP n)) ∧ StB (b + 28 - (don.flatMap (rowP n)).length) a.1
theorem graphI0 {n b : Nat} {d : D} (h : StB (b + 28) d) : graphI n b [] (d, .list []) := ⟨[], rfl, List.Sublist.slnil, h⟩
theorem pre_len {n i : Nat} {don rest : List Nat} (h : n ≤ 8) (hs : List.range n = don ++ i :: rest) : (don.flatMap (rowP n)).length + (rowP n i).length ≤ 28 := by
  have h1 : (pairs n) = don.flatMap (rowP n) ++ (rowP n i ++ rest.flatMap (rowP n)) := by
    show (List.range n).flatMap (rowP n) = _
    rw [hs, List.flatMap_append, List.flatMap_cons]
  have h2 := pairs_len h
  rw [h1, List.length_append, List.length_append] at h2
  omega
def rowI (n b : Nat) (don : List Nat) (i : Nat) (don2 : List Nat) (a : D × D) : Prop := ∃ es : List (Nat × Nat), a.2 = .list (es.map eE) ∧ es.Sublist (don.flatMap (rowP n) ++ don2.map fun j => (i, j)) ∧ StB (b + 28 - ((don.flatMap (rowP n)).length + don2.length)) a.1
theorem rowI0 {n b i : Nat} {don : List Nat} {d : D} {es : List (Nat × Nat)} (h1 : es.Sublist (don.flatMap (rowP n))) (h : StB (b + 28 - (don.flatMap (rowP n)).length) d) : rowI n b don i [] (d, .list (es.map eE)) := ⟨es, rfl, by simpa using h1, h⟩
theorem rowI1 {n b i j : Nat} {don don2 : List Nat} {d : D} {es : List (Nat × Nat)} (h1 : es.Sublist (don.flatMap (rowP n) ++ don2.map fun j => (i, j))) (h : StB (b + 28 - ((don.flatMap (rowP n)).length + (don2.length + 1))) d) (c : Bool) : ev (ifT c (.ok (d, .list ((es ++ [(i, j)]).map eE))) (.ok (d, .list (es.map eE)))) (rowI n b don i (don2 ++ [j])) E0d := by
  have h : StB (b + 28 - ((don.flatMap (rowP n)).length + (don2 ++ [j]).length)) d := by rw [List.length_append, List.length_singleton]; exact h
  cases c with
  | true => exact ⟨_, rfl, by rw [List.map_append, ← List.append_assoc]; exact h1.append (List.Sublist.refl _), h⟩
  | false => exact ⟨_, rfl, by rw [List.map_append, ← List.append_assoc]; exact h1.trans (List.sublist_append_left _ _), h⟩
theorem graph_eq {b : Nat} {d : D} {most : Nat} (h : StB (b + 30) d) (h1 : 1 ≤ most) (h8 : most ≤ 8) : ∃ (G : Gr) (d' : D), py__law_graph d (eN most) = .ok (G.enc, d') ∧ StB b d' ∧ G.n ≤ most := by
  suffices h : ev (py__law_graph d (eN most)) (fun p => ∃ G : Gr, p.1 = G.enc ∧ StB b p.2 ∧ G.n ≤ most) E0d by
    obtain ⟨⟨g, d'⟩, e, G, rfl, h⟩ := ev_get h
    exact ⟨G, d', e, h⟩
  unfold py__law_graph
  walk_at "ev"
  refine ev_b (ev_b (ev_mono (draw h (by omega)) ?_))
  rintro ⟨_, d1⟩ ⟨r, rfl, hr, hd1⟩
  walk_at "ev"
  rw [show PyData.int (1 + (r : Int)) = eN (r + 1) from by congr 1; omega]
  generalize hn : r + 1 = n at *
  have lo : 1 ≤ n := by omega
  have hi : n ≤ 8 := by omega
  refine ev_ok ?_
  have hd1 : StB (b + 29) d1 := hd1
  show ev _ _ _
  refine ev_b (evD 5 rfl hd1 (by omega) fun pick d2 hp hd2 => ?_)
  walk_at "ev"
  rw [rng1_n n (by omega), range0]
  walk_at "ev"
  refine ev_b (ev_forF (enc := eN) eN (graphI n b) (List.range n) (fun _ _ => rfl) (graphI0 hd2) ?_ ?_)
  · intro don i rest s hs hI
    have hin : i < n := List.mem_range.mp (by rw [hs]; simp)
    have hlen : (don.flatMap (rowP n)).length + (rowP n i).length ≤ 28 := pre_len hi hs
    walk_at "ev"
    rw [show rng2 (.int ((i : Int) + 1)) (eN n) = .ok ((List.range' (i + 1) (n - (i + 1))).map eN) from by
      rw [← range1, ← rng2_n (i + 1) n (by omega) (by omega)]; rfl]
    walk_at "ev"
    refine hI.elim fun es hI => ?_
    have e2 : s = (s.1, .list (es.map eE)) := Prod.ext rfl hI.1
    rw [e2]
    refine ev_b (ev_forF (enc := eN) eN (rowI n b don i) (List.range' (i + 1) (n - (i + 1))) (fun _ _ => rfl) (rowI0 hI.2.1 hI.2.2) ?_ ?_)
    · intro don2 j rest2 s2 hs2 hJ
      refine hJ.elim fun es2 hJ => ?_
      have e3 : s2 = (s2.1, .list (es2.map eE)) := Prod.ext rfl hJ.1
      have hj : j < n := by
        have := List.mem_range'_1.mp (show j ∈ List.range' (i + 1) (n - (i + 1)) by rw [hs2]; simp)
        omega
      have hl2 : don2.length + 1 ≤ (rowP n i).length := by
        have := congrArg List.length hs2
        unfold rowP
        rw [List.length_map, this]
        simp
      have hst : StB (b + 28 - ((don.flatMap (rowP n)).length + (don2.length + 1)) + 1) s2.1 := hJ.2.2.mono (by omega)
      generalize s2.1 = s3 at *
      subst e3
      walk_at "ev"
      refine ev_b (ev_mono (Q := fun p : D × D => ∃ (c : Bool) (s' : D), p = (s', .bool c) ∧ StB (b + 28 - ((don.flatMap (rowP n)).length + (don2.length + 1))) s') ?_ ?_)
      · have now : ∀ (c : Bool), ∃ (c' : Bool) (s' : D), (s3, PyData.bool c) = (s', .bool c') ∧ StB (b + 28 - ((don.flatMap (rowP n)).length + (don2.length + 1))) s' := fun c => ⟨c, s3, rfl, hst.mono (by omega)⟩
        have drw : ∀ (m : Nat) (k : Int), k = m → 0 < m → ev (((py__law_next s3 (.int k)).bind fun p => (eqM p.1 (.int 0)).bind fun d => R.ok (d, p.2)).bind fun v : D × D => R.ok (v.2, v.1)) (fun p : D × D => ∃ (c : Bool) (s' : D), p = (s', .bool c) ∧ StB (b + 28 - ((don.flatMap (rowP n)).length + (don2.length + 1))) s') E0d := by
          intro m k hk hm
          refine ev_b (ev_b (evD m hk hst hm fun r s4 _ hs4 => ?_))
          walk_at "ev"
          exact ⟨_, _, rfl, hs4⟩
        cases hb : decide ((pick : Int) = 0) with
        | true =>
          walk_at "ev"
          cases hb1 : decide ((j : Int) = i + 1) with
          | true => exact now _
          | false =>
            cases hb2 : decide ((i : Int) = 0) with
            | true => exact now _
            | false => exact now _
        | false =>
          walk_at "ev"
          cases hb : decide ((pick : Int) = 1) with
          | true =>
            walk_at "ev"
            cases hb1 : decide ((j : Int) = i + 1) with
            | true => exact now _
            | false => exact drw 3 _ rfl (by decide)
          | false =>
            walk_at "ev"
            cases hb : decide ((pick : Int) = 2) with
            | true =>
              walk_at "ev"
              cases hb1 : decide ((i : Int) = 0) with
              | true => exact now _
              | false => exact drw 4 _ rfl (by decide)
            | false => exact drw 2 _ rfl (by decide)
      · intro p hp
        refine hp.elim fun c hp => hp.elim fun s4 hp => ?_
        rw [hp.1, show PyData.tuple [eN i, eN j] = eE (i, j) from rfl, apE es2 (i, j) (by
          have := hJ.2.1.length_le
          rw [List.length_append, List.length_map] at this
          omega)]
        exact rowI1 hJ.2.1 hp.2 c
    · intro s2 hJ
      refine hJ.elim fun es2 hJ => ?_
      walk_at "ev"
      refine ⟨es2, hJ.1, ?_, hJ.2.2.mono ?_⟩
      · rw [List.flatMap_append]
        simpa [rowP] using hJ.2.1
      · rw [List.flatMap_append]
        simp [rowP]
  · intro s hI
    have hl : ((List.range n).flatMap (rowP n)).length ≤ 28 := pairs_len hi
    refine hI.elim fun es hI => ?_
    have e2 : s = (s.1, .list (es.map eE)) := Prod.ext rfl hI.1
    rw [e2]
    walk_at "ev"
    refine ⟨grOf n es lo hi, ?_, hI.2.2.mono (by omega), by show n ≤ most; omega⟩
    show PyData.tuple _ = PyData.tuple [eN n, .tuple ((grOf n es lo hi).es.map eE)]
    rw [grOf_es lo hi hI.2.1]
end Bb
set_option maxRecDepth 100000
/-! Br: _law_same at one and the same datum. -/
namespace Bb
open PySem Dl Py R
set_option autoImplicit false
local macro_rules | `(tactic| walk_at "ev") => `(tactic| try simp only [ok_bind, err_bind, ifT_t, ifT_f, bindC_nx, bindC_rt, bindC_err, A1_ok, A2_ok, A3_ok, A4_ok, A5_ok, A6_ok, A1_err, A2_err, A2_err2, consM_ok, tvM_b, andM_t, andM_f, orM_t, orM_f, notM_b, notV_b, andV_b, orV_b, ifM_b, chain_ok, chain3_ok, tup0, tup1, tup2, tup3, tup4, lst0, lst1, lst2, lst3, lst4, lst5, lst6, seqM_l, seqM_t, told_ok, told_err, add_i, sub_i, neg_i, int_i, int_b, eq_i, ne_i, lt_i, le_i, gt_i, ge_i, len_l, len_t, ix_l, ix_t, opt_some, min2_i, max2_i, tuple_l, tuple_t, list_l, list_t, isLM_l, atD0, atD1, atD2, if_true, if_false, Bool.not_true, Bool.not_false, X1, X2, X3, X2l, Ln1, Ln2, Ln3, Ln4, ls, consX, tupX, lstX, tvX, andX, orX, notX, andVX, orVX, ifX, asB, Bool.false_eq_true, ↓reduceIte])
theorem same_self {d : D} (h : Sd 40 1000000 d) : py__law_same d d = .ok (.bool true) := by
  have e : reprM (.list [d]) = .ok (.str (PyData.shown (.list [d]))) := guard_ok _ (same_ok h)
  unfold py__law_same
  walk_at "ev"
  rw [e]
  walk_at "ev"
  unfold eqM
  rw [guard_ok _ ⟨⟨rfl, Nat.zero_le _⟩, ⟨rfl, Nat.zero_le _⟩⟩, eqv_str_self]
end Bb
set_option maxRecDepth 100000
/-! Bx: the graphs that are none. -/
namespace Bb
open PySem Dl Py R
set_option autoImplicit false
local macro_rules | `(tactic| walk_at "ev") => `(tactic| try simp only [ok_bind, err_bind, ifT_t, ifT_f, bindC_nx, bindC_rt, bindC_err, A1_ok, A2_ok, A3_ok, A4_ok, A5_ok, A6_ok, A1_err, A2_err, A2_err2, consM_ok, tvM_b, andM_t, andM_f, orM_t, orM_f, notM_b, notV_b, andV_b, orV_b, ifM_b, chain_ok, chain3_ok, tup0, tup1, tup2, tup3, tup4, lst0, lst1, lst2, lst3, lst4, lst5, lst6, seqM_l, seqM_t, told_ok, told_err, add_i, sub_i, neg_i, int_i, int_b, eq_i, ne_i, lt_i, le_i, gt_i, ge_i, len_l, len_t, ix_l, ix_t, opt_some, min2_i, max2_i, tuple_l, tuple_t, list_l, list_t, isLM_l, atD0, atD1, atD2, if_true, if_false, Bool.not_true, Bool.not_false, X1, X2, X3, X2l, Ln1, Ln2, Ln3, Ln4, ls, consX, tupX, lstX, tvX, andX, orX, notX, andVX, orVX, ifX, asB, Bool.false_eq_true, ↓reduceIte])
def eG (n : Int) (es : List (List Int)) : D := .tuple [.int n, .tuple (es.map fun e => .tuple (e.map .int))]
def bads : List D := [eG 0 [], eG 9 [], eG 2 [[1, 0]], eG 2 [[0, 2]], eG 3 [[0, 2], [0, 1]], eG 2 [[0, 1], [0, 1]], eG 2 [[0, 0]], eG 1 [[0]]]
theorem bads_eq : py__law_bad_graphs = .ok (.list bads) := by
  unfold py__law_bad_graphs
  walk_at "ev"
  rfl
def eL (e : List Int) : D := .tuple (e.map .int)
theorem eG_e (n : Int) (es : List (List Int)) : eG n es = .tuple [.int n, .tuple (es.map eL)] := rfl
theorem len2 (a b : D) : decide ((([a, b].length : Nat) : Int) = 2) = true := rfl
theorem bad_n {n : Int} {es : List (List Int)} (h : n < 1 ∨ 8 < n) : py_check_graph (eG n es) = .err .refused := by
  unfold py_check_graph eG
  walk_at "ev"
  rw [len2]
  by_cases h1 : 1 ≤ n
  · rw [decide_eq_true h1, decide_eq_false (by omega : ¬ n ≤ 8)]
    walk_at "ev"
  · rw [decide_eq_false h1]
    walk_at "ev"
def okE (n : Int) : List Int → Bool
  | [a, b] => decide (0 ≤ a) && decide (a < b) && decide (b < n)
  | _ => false
theorem okE_eq (n : Int) (e : List Int) : andV (A2 eqM (lenM (eL e)) (.ok (.int 2))) (chain3M Dl.leM ltM ltM (.ok (.int 0)) (ixM (eL e) (.int 0)) (ixM (eL e) (.int 1)) (.ok (.int n))) = .ok (.bool (okE n e)) := by
  unfold eL
  walk_at "ev"
  rw [List.length_map]
  match e with
  | [a, b] =>
    rw [show decide ((([a, b].length : Nat) : Int) = 2) = true from rfl]
    walk_at "ev"
    rw [List.map_cons, List.map_cons, atD0, atD1]
    walk_at "ev"
    unfold okE
    cases h1 : decide (0 ≤ a) with
    | false =>
      walk_at "ev"
      rw [h1]; rfl
    | true =>
      walk_at "ev"
      cases h2 : decide (a < b) with
      | false =>
        walk_at "ev"
        rw [h1]; rfl
      | true =>
        walk_at "ev"
        rw [h1]; rfl
  | [] => rfl
  | [_] => rfl
  | a :: b :: c :: r =>
    rw [show decide (((a :: b :: c :: r).length : Int) = 2) = false from decide_eq_false (by simp; omega)]
    walk_at "ev"
    rfl
theorem bad_e {n : Int} {es : List (List Int)} (h0 : 1 ≤ n) (h8 : n ≤ 8) (hl : es.length ≤ 100) (h : es.all (okE n) = false) : py_check_graph (eG n es) = .err .refused := by
  unfold py_check_graph
  rw [eG_e]
  walk_at "ev"
  rw [len2, decide_eq_true h0, decide_eq_true h8]
  walk_at "ev"
  rw [lc_map (enc := eL) eL (fun e => .bool (okE n e)) (small hl) (fun _ _ => rfl) (fun e _ => okE_eq n e)]
  walk_at "ev"
  rw [show (es.map fun e => PyData.bool (okE n e)) = (es.map (okE n)).map PyData.bool from by rw [List.map_map]; rfl, all_b, List.all_map, show (es.all (id ∘ okE n)) = false from h]
  walk_at "ev"
def ltL : List Int → List Int → Bool
  | [a, b], [c, d] => if a = c then decide (b < d) else decide (a < c)
  | _, _ => false
open PySem.W in
theorem ltL_eq (a b c d : Int) : ltM (eL [a, b]) (eL [c, d]) = .ok (.bool (ltL [a, b] [c, d])) := by
  show guardR _ _ = _
  have t1 : tame (eL [a, b]) := tame_d ((a, b) : Int × Int) (by decide)
  have t2 : tame (eL [c, d]) := tame_d ((c, d) : Int × Int) (by decide)
  rw [guard_ok _ ⟨rfl, t1, t2, rfl⟩]
  have := DatumOrd.lt_eq ((a, b) : Int × Int) (c, d)
  rw [show dataLt (eL [a, b]) (eL [c, d]) = DatumOrd.lt ((a, b) : Int × Int) (c, d) from this]
  rfl
theorem bad_o {n a b c d : Int} (h0 : 1 ≤ n) (h8 : n ≤ 8) (h : [[a, b], [c, d]].all (okE n) = true) (ho : ltL [a, b] [c, d] = false) : py_check_graph (eG n [[a, b], [c, d]]) = .err .refused := by
  unfold py_check_graph
  rw [eG_e]
  walk_at "ev"
  rw [len2, decide_eq_true h0, decide_eq_true h8]
  walk_at "ev"
  rw [lc_map (enc := eL) eL (fun e => .bool (okE n e)) (small (k := 2) (Nat.le_refl _)) (fun _ _ => rfl) (fun e _ => okE_eq n e)]
  walk_at "ev"
  rw [show ([[a, b], [c, d]].map fun e => PyData.bool (okE n e)) = ([[a, b], [c, d]].map (okE n)).map PyData.bool from by rw [List.map_map]; rfl, all_b, List.all_map, show ([[a, b], [c, d]].all (id ∘ okE n)) = true from h]
  walk_at "ev"
  rw [slM_t, ok_bind, zip2_t, cut1, ← List.map_tail, zipD_map]
  rw [lc_map (enc := fun p : List Int × List Int => PyData.tuple [eL p.1, eL p.2]) (fun p => (eL p.1, eL p.2)) (fun p => .bool (ltL p.1 p.2)) (small (k := 1) (Nat.le_refl _)) (fun _ _ => rfl) (fun p hp => ?_)]
  · walk_at "ev"
    rw [show (([[a, b], [c, d]].zip [[a, b], [c, d]].tail).map fun p => PyData.bool (ltL p.1 p.2)) = [ltL [a, b] [c, d]].map PyData.bool from rfl, ho, all_b]
    walk_at "ev"
    rfl
  · simp at hp
    subst hp
    exact ltL_eq a b c d
theorem bads_bad : ∀ g ∈ bads, py_check_graph g = .err .refused := by
  intro g hg
  simp only [bads, List.mem_cons, List.not_mem_nil, or_false] at hg
  rcases hg with rfl | rfl | rfl | rfl | rfl | rfl | rfl | rfl
  · exact bad_n (by decide)
  · exact bad_n (by decide)
  · exact bad_e (by decide) (by decide) (by decide) (by decide)
  · exact bad_e (by decide) (by decide) (by decide) (by decide)
  · exact bad_o (by decide) (by decide) (by decide) (by decide)
  · exact bad_o (by decide) (by decide) (by decide) (by decide)
  · exact bad_e (by decide) (by decide) (by decide) (by decide)
  · exact bad_e (by decide) (by decide) (by decide) (by decide)
/-! refused calls -/
def ref : D := .tuple [.str (Str.ofString "refused")]
theorem told_ref : toldM (.err .refused) = .ok ref := (rfl)
theorem ref_rep (k : Nat) : (List.replicate k [ref]).flatten = List.replicate k ref := by
  induction k with
  | zero => rfl
  | succ k ih => rw [List.replicate_succ, List.flatten_cons, ih, List.replicate_succ]; rfl
theorem refs_eq (k : Nat) (h : k ≤ 100) : mulM (.list [.tuple [.str (Str.ofString "refused")]]) (.int (k : Int)) = .ok (.list (List.replicate k ref)) := by
  show guardR _ _ = _
  rw [guard_ok _ (by unfold repOk LIM; simp; omega), Int.toNat_natCast]
  show R.ok (PyData.list (List.replicate k [ref]).flatten) = _
  rw [ref_rep]
open PySem.W in
theorem ne_refs (k : Nat) : neM (.list (List.replicate k ref)) (.list (List.replicate k ref)) = .ok (.bool false) := by
  have h := ne_d (List.replicate k (⟨[Str.ofString "refused"]⟩ : Tup Str)) (List.replicate k (⟨[Str.ofString "refused"]⟩ : Tup Str)) (by decide)
  have e : Datum.toD (List.replicate k (⟨[Str.ofString "refused"]⟩ : Tup Str)) = .list (List.replicate k ref) := by
    show PyData.list ((List.replicate k (⟨[Str.ofString "refused"]⟩ : Tup Str)).map Datum.toD) = _
    rw [List.map_replicate]; rfl
  rw [e] at h
  rw [h, decide_eq_true rfl]; rfl
theorem forC_all {τ : Type} {f : Unit → D → R (Ctl Unit τ)} : ∀ (gs : List D), (∀ g ∈ gs, f () g = .ok (.nx ())) → forC (fun x_ => some x_) f gs () = .ok (.nx ())
  | [], _ => rfl
  | g :: gs, h => by
    unfold forC unS
    show (f () g).bind _ = _
    rw [h g List.mem_cons_self]
    exact forC_all gs fun k hk => h k (List.mem_cons_of_mem _ hk)
theorem bads_loop {τ : Type} {f : Unit → D → R (Ctl Unit τ)} (h : ∀ g, py_check_graph g = .err .refused → f () g = .ok (.nx ())) : forC (fun x_ => some x_) f bads () = .ok (.nx ()) :=
  forC_all bads fun g hg => h g (bads_bad g hg)
/-- rows of refused calls are as they are due -/
theorem ref3 {γ : Type} {m1 m2 m3 : R D} {x y : R γ} (h1 : m1 = .err .refused) (h2 : m2 = .err .refused) (h3 : m3 = .err .refused) :
    ((lstM (consM (toldM m1) (consM (toldM m2) (consM (toldM m3) (R.ok []))))).bind fun v => (tvM (A2 neM (.ok v) (mulM (.list [.tuple [.str (Str.ofString "refused")]]) (.int 3)))).bind fun c => ifT c x y) = y := by
  subst h1 h2 h3
  rw [told_ref]
  walk_at "ev"
  rw [show mulM (.list [.tuple [.str (Str.ofString "refused")]]) (.int 3) = _ from refs_eq 3 (by decide)]
  walk_at "ev"
  rw [show [ref, ref, ref] = List.replicate 3 ref from rfl, ne_refs]
  walk_at "ev"
theorem ref4 {γ : Type} {m1 m2 m3 m4 : R D} {x y : R γ} (h1 : m1 = .err .refused) (h2 : m2 = .err .refused) (h3 : m3 = .err .refused) (h4 : m4 = .err .refused) :
    ((lstM (consM (toldM m1) (consM (toldM m2) (consM (toldM m3) (consM (toldM m4) (R.ok [])))))).bind fun v => (tvM (A2 neM (.ok v) (mulM (.list [.tuple [.str (Str.ofString "refused")]]) (.int 4)))).bind fun c => ifT c x y) = y := by
  subst h1 h2 h3 h4
  rw [told_ref]
  walk_at "ev"
  rw [show mulM (.list [.tuple [.str (Str.ofString "refused")]]) (.int 4) = _ from refs_eq 4 (by decide)]
  walk_at "ev"
  rw [show [ref, ref, ref, ref] = List.replicate 4 ref from rfl, ne_refs]
  walk_at "ev"
end Bb
set_option maxRecDepth 100000
/-! Bk: masks and places: friends, tests of places, what is first found. -/
namespace Bb
open PySem Dl Py R PySem.W
set_option autoImplicit false
local macro_rules | `(tactic| walk_at "ev") => `(tactic| try simp only [ok_bind, err_bind, ifT_t, ifT_f, bindC_nx, bindC_rt, bindC_err, A1_ok, A2_ok, A3_ok, A4_ok, A5_ok, A6_ok, A1_err, A2_err, A2_err2, consM_ok, tvM_b, andM_t, andM_f, orM_t, orM_f, notM_b, notV_b, andV_b, orV_b, ifM_b, chain_ok, chain3_ok, tup0, tup1, tup2, tup3, tup4, lst0, lst1, lst2, lst3, lst4, lst5, lst6, seqM_l, seqM_t, told_ok, told_err, add_i, sub_i, neg_i, int_i, int_b, eq_i, ne_i, lt_i, le_i, gt_i, ge_i, len_l, len_t, ix_l, ix_t, opt_some, min2_i, max2_i, tuple_l, tuple_t, list_l, list_t, isLM_l, atD0, atD1, atD2, if_true, if_false, Bool.not_true, Bool.not_false, X1, X2, X3, X2l, Ln1, Ln2, Ln3, Ln4, ls, consX, tupX, lstX, tvX, andX, orX, notX, andVX, orVX, ifX, asB, Bool.false_eq_true, ↓reduceIte])
theorem ifl1 {α : Type} {a : D} {x y : α} : (if [a].length ≤ LIM then x else y) = x := if_pos (show 1 ≤ 16777216 by decide)
theorem ifl2 {α : Type} {a b : D} {x y : α} : (if [a, b].length ≤ LIM then x else y) = x := if_pos (show 2 ≤ 16777216 by decide)
theorem ifl3 {α : Type} {a b c : D} {x y : α} : (if [a, b, c].length ≤ LIM then x else y) = x := if_pos (show 3 ≤ 16777216 by decide)
theorem ifl4 {α : Type} {a b c d : D} {x y : α} : (if [a, b, c, d].length ≤ LIM then x else y) = x := if_pos (show 4 ≤ 16777216 by decide)
theorem seqM_tN (xs : List Nat) : seqM (.ok (tN xs)) = .ok (xs.map eN) := (rfl)
theorem seqM_lN (xs : List Nat) : seqM (.ok (lN xs)) = .ok (xs.map eN) := (rfl)
theorem exN_m : excName .missing = Str.ofString "missing" := (rfl)
theorem exN_r : excName .refused = Str.ofString "refused" := (rfl)
theorem exN_l : excName .large = Str.ofString "large" := (rfl)
theorem ixG0 (G : Gr) : ixM G.enc (.int 0) = .ok (eN G.n) := ixD_0
theorem ixG1 (G : Gr) : ixM G.enc (.int 1) = .ok (.tuple (G.es.map eE)) := ixD_1
/-! ### bits -/
theorem sub_and_bit (a m j : Nat) : (a - (a &&& m)).testBit j = (a.testBit j && !m.testBit j) := by
  induction j generalizing a m with
  | zero =>
    have h := Nat.testBit_and a m 0
    have l : a &&& m ≤ a := Nat.and_le_left
    rw [Nat.testBit_zero, Nat.testBit_zero, Nat.testBit_zero] at *
    rw [Bool.eq_iff_iff] at *
    simp only [decide_eq_true_eq, Bool.and_eq_true, Bool.not_eq_true', decide_eq_false_iff_not] at *
    omega
  | succ j ih =>
    rw [Nat.testBit_succ, Nat.testBit_succ, Nat.testBit_succ, ← ih]
    congr 1
    have l : a &&& m ≤ a := Nat.and_le_left
    have h1 : (a &&& m) / 2 = a / 2 &&& m / 2 := Nat.and_div_two
    have h := Nat.testBit_and a m 0
    rw [Nat.testBit_zero, Nat.testBit_zero, Nat.testBit_zero, Bool.eq_iff_iff] at h
    simp only [decide_eq_true_eq, Bool.and_eq_true] at h
    omega
theorem band1 (a : Nat) : bandM (eN a) (.int 1) = .ok (eN (a &&& 1)) := band_n a 1
theorem and1_0 (m i : Nat) : decide (((m >>> i &&& 1 : Nat) : Int) = 0) = !m.testBit i := by
  rw [Nat.testBit_eq_decide_div_mod_eq, Nat.and_one_is_mod, Nat.shiftRight_eq_div_pow, ← decide_not]
  apply decide_eq_decide.mpr
  omega
theorem and1_1 (m i : Nat) : decide (((m >>> i &&& 1 : Nat) : Int) = 1) = m.testBit i := by
  rw [Nat.testBit_eq_decide_div_mod_eq, Nat.and_one_is_mod, Nat.shiftRight_eq_div_pow]
  apply decide_eq_decide.mpr
  omega
theorem inv_n (m : Nat) : invM (eN m) = .ok (.int (Builtin.bitNot m)) := (rfl)
theorem bandInv_n (a m : Nat) : bandM (eN a) (.int (Builtin.bitNot m)) = .ok (eN (a - (a &&& m))) := by
  show R.ok (PyData.int (Builtin.bitAnd a (Builtin.bitNot m))) = _
  have h1 : ¬ (0 ≤ Builtin.bitNot (m : Int)) := by unfold Builtin.bitNot; omega
  unfold Builtin.bitAnd
  simp only [h1, decide_false, bitNot2]
  have l : a &&& m ≤ a := Nat.and_le_left
  simp
  omega
theorem bxor_n (a b : Nat) : bxorM (eN a) (eN b) = .ok (eN (a ^^^ b)) := by
  show R.ok (PyData.int (Builtin.bitXor a b)) = _
  rw [PyProof.Rows.bitXor_and, bitAnd_n]
  congr 2
  have key : ∀ a b : Nat, (a ^^^ b) + 2 * (a &&& b) = a + b := by
    intro a
    induction a using Nat.strongRecOn with
    | ind a ih =>
      intro b
      by_cases h0 : a = 0
      · subst h0; simp
      · have h := ih (a / 2) (by omega) (b / 2)
        have h1 : (a &&& b) / 2 = a / 2 &&& b / 2 := Nat.and_div_two
        have h2 : (a ^^^ b) / 2 = a / 2 ^^^ b / 2 := Nat.xor_div_two
        have h3 := Nat.testBit_and a b 0
        have h4 := Nat.testBit_xor a b 0
        rw [Nat.testBit_zero, Nat.testBit_zero, Nat.testBit_zero, Bool.eq_iff_iff] at h3 h4
        simp only [decide_eq_true_eq, Bool.and_eq_true, bne_iff_ne, ne_eq, decide_eq_decide] at h3 h4
        omega
  have := key a b
  omega
theorem sz_msk {n : Nat} (h : n ≤ 8) (p q : Nat → Bool) : sz (msk ((List.range n).filter p) &&& (msk ((List.range n).filter q))) = ((List.range n).filter fun j => p j && q j).length := by
  unfold sz mem
  congr 1
  rw [← filter_range h fun j => p j && q j]
  apply List.filter_congr
  intro j _
  rw [Nat.testBit_and, msk_bit, msk_bit]
  simp only [List.mem_filter, List.mem_range]
  by_cases hj : j < n <;> simp [hj]
theorem sz_and {n : Nat} (h : n ≤ 8) (p : Nat → Bool) (m : Nat) : sz (msk ((List.range n).filter p) &&& m) = (((List.range n).filter p).filter m.testBit).length := by
  unfold sz mem
  congr 1
  rw [List.filter_filter, ← filter_range h fun j => m.testBit j && p j]
  apply List.filter_congr
  intro j _
  rw [Nat.testBit_and, msk_bit]
  simp only [List.mem_filter, List.mem_range]
  by_cases hj : j < n <;> simp [hj, Bool.and_comm]
theorem sz_sub {n : Nat} (h : n ≤ 8) (p : Nat → Bool) (m : Nat) : sz (msk ((List.range n).filter p) - (msk ((List.range n).filter p) &&& m)) = (((List.range n).filter p).filter fun j => !m.testBit j).length := by
  unfold sz mem
  congr 1
  rw [List.filter_filter, ← filter_range h fun j => !m.testBit j && p j]
  apply List.filter_congr
  intro j _
  rw [sub_and_bit, msk_bit]
  simp only [List.mem_filter, List.mem_range]
  by_cases hj : j < n <;> simp [hj, Bool.and_comm]
/-- some place of a row stands in a mask -/
theorem and_ne {n : Nat} (h : n ≤ 8) (p : Nat → Bool) (m : Nat) : (msk ((List.range n).filter p) &&& m ≠ 0) ↔ ∃ j < n, p j = true ∧ m.testBit j = true := by
  constructor
  · intro hz
    obtain ⟨j, hj⟩ := Nat.exists_testBit_of_ne_zero hz
    rw [Nat.testBit_and, msk_bit] at hj
    simp only [Bool.and_eq_true, decide_eq_true_eq, List.mem_filter, List.mem_range] at hj
    exact ⟨j, hj.1.1, hj.1.2, hj.2⟩
  · rintro ⟨j, h1, h2, h3⟩ e
    have : (msk ((List.range n).filter p) &&& m).testBit j = true := by
      rw [Nat.testBit_and, msk_bit]
      simp [h1, h2, h3]
    rw [e] at this
    simp at this
theorem mem_lt {m n j : Nat} (hm : m < 2 ^ n) (h : j ∈ mem m) : j < n := by
  have h2 := ((mem_bit m j).mp h).2
  by_cases hj : j < n
  · exact hj
  · rw [Nat.testBit_lt_two_pow (Nat.lt_of_lt_of_le hm (Nat.pow_le_pow_right (by decide) (by omega)))] at h2
    cases h2
theorem mem_sorted (m : Nat) : (mem m).Pairwise (· < ·) := (List.pairwise_lt_range (n := 8)).filter _
theorem mem_len (m : Nat) : (mem m).length ≤ 8 := by unfold mem; exact Nat.le_trans (List.length_filter_le _ _) (by simp)
theorem mem_nodup (m : Nat) : (mem m).Nodup := (mem_sorted m).imp fun h => Nat.ne_of_lt h
theorem lt256 {m n : Nat} (hn : n ≤ 8) (hm : m < 2 ^ n) : m < 256 := Nat.lt_of_lt_of_le hm (pow_le hn)
/-- the places of a mask, told by bits below n -/
theorem mem_n {m n : Nat} (hn : n ≤ 8) (hm : m < 2 ^ n) : mem m = (List.range n).filter m.testBit := by
  unfold mem
  rw [← filter_range hn]
  apply List.filter_congr
  intro j _
  by_cases hj : j < n
  · simp [hj]
  · rw [Nat.testBit_lt_two_pow (Nat.lt_of_lt_of_le hm (Nat.pow_le_pow_right (by decide) (by omega)))]
    simp
theorem msk_lt {n : Nat} (hn : n ≤ 8) (p : Nat → Bool) : msk ((List.range n).filter p) < 2 ^ n := by
  apply Nat.lt_pow_two_of_testBit
  intro j hj
  rw [msk_bit]
  simp only [List.mem_filter, List.mem_range, decide_eq_false_iff_not]
  omega
/-- a mask less one place -/
theorem xor_lt {m n j : Nat} (hm : m < 2 ^ n) (hj : j < n) : m ^^^ 2 ^ j < 2 ^ n := Nat.xor_lt_two_pow hm (Nat.pow_lt_pow_right (by decide) hj)
theorem xor_bit (m j k : Nat) : (m ^^^ 2 ^ j).testBit k = (m.testBit k != decide (j = k)) := by
  rw [Nat.testBit_xor, Nat.testBit_two_pow]
theorem mem_del {m j : Nat} (h : j ∈ mem m) : mem (m ^^^ 2 ^ j) = (mem m).filter fun k => decide (k ≠ j) := by
  unfold mem at *
  rw [List.filter_filter]
  apply List.filter_congr
  intro k _
  rw [xor_bit]
  have hb := (List.mem_filter.mp h).2
  by_cases e : j = k
  · subst e; simp [hb]
  · have e' : ¬ k = j := fun z => e z.symm
    simp [e, e']
/-! ### sets of places as data -/
theorem mask_sum : ∀ m < 256, ((mem m).map (2 ^ ·)).sum = m := by decide +kernel
theorem maskOf_mem {m : Nat} (h : m < 256) : py_mask_of (tN (mem m)) = .ok (eN m) := by
  rw [maskOf_eq _ (fun x hx => by have := ((mem_bit m x).mp hx).1; omega) (by have := mem_len m; omega), mask_sum m h]
theorem inN (j m : Nat) (h : j < 8) : inM (eN j) (tN (mem m)) = .ok (.bool (m.testBit j)) := by
  have h2 := in_t (j : Int) ((mem m).map fun j : Nat => (j : Int)) (by decide)
  rw [List.map_map] at h2
  refine (show inM (eN j) (tN (mem m)) = _ from h2).trans ?_
  congr 2
  rw [Bool.eq_iff_iff, decide_eq_true_eq]
  simp only [List.mem_map, mem_bit]
  constructor
  · rintro ⟨a, ⟨_, h'⟩, e⟩
    have : a = j := by omega
    subst this; exact h'
  · exact fun h' => ⟨j, ⟨h, h'⟩, rfl⟩
theorem ninN (j m : Nat) (h : j < 8) : ninM (eN j) (tN (mem m)) = .ok (.bool (!m.testBit j)) := by
  have h2 := nin_t (j : Int) ((mem m).map fun j : Nat => (j : Int)) (by decide)
  rw [List.map_map] at h2
  refine (show ninM (eN j) (tN (mem m)) = _ from h2).trans ?_
  congr 3
  rw [Bool.eq_iff_iff, decide_eq_true_eq]
  simp only [List.mem_map, mem_bit]
  constructor
  · rintro ⟨a, ⟨_, h'⟩, e⟩
    have : a = j := by omega
    subst this; exact h'
  · exact fun h' => ⟨j, ⟨h, h'⟩, rfl⟩
abbrev eM (m : Nat) : D := tN (mem m)
theorem eM_d (m : Nat) : Datum.toD (tI m) = eM m := tI_d m
theorem map_eM (ms : List Nat) : ms.map eM = (ms.map tI).map Datum.toD := by
  rw [List.map_map]
  exact List.map_congr_left fun m _ => (tI_d m).symm
theorem in_tI {m : Nat} {ms : List Nat} (hm : m < 256) (hs : ∀ k ∈ ms, k < 256) : decide (tI m ∈ ms.map tI) = decide (m ∈ ms) := by
  apply decide_eq_decide.mpr
  rw [List.mem_map]
  constructor
  · rintro ⟨k, hk, e⟩
    rw [← tI_inj (hs k hk) hm e]; exact hk
  · exact fun h => ⟨m, h, rfl⟩
theorem inSets {m : Nat} {ms : List Nat} (hm : m < 256) (hs : ∀ k ∈ ms, k < 256) : inM (eM m) (.list (ms.map eM)) = .ok (.bool (decide (m ∈ ms))) := by
  rw [map_eM, ← eM_d, in_l _ _ (by decide), in_tI hm hs]
theorem ninSets {m : Nat} {ms : List Nat} (hm : m < 256) (hs : ∀ k ∈ ms, k < 256) : ninM (eM m) (.list (ms.map eM)) = .ok (.bool (!decide (m ∈ ms))) := by
  rw [map_eM, ← eM_d, nin_l _ _ (by decide), in_tI hm hs]
theorem eqSets {a b : Nat} (ha : a < 256) (hb : b < 256) : eqM (eM a) (eM b) = .ok (.bool (decide (a = b))) := by
  rw [← eM_d, ← eM_d, eq_d _ _ (by decide)]
  congr 2
  apply decide_eq_decide.mpr
  exact ⟨tI_inj ha hb, fun e => by rw [e]⟩
theorem eq_empty {a : Nat} (ha : a < 256) : eqM (eM a) (.tuple []) = .ok (.bool (decide (a = 0))) := eqSets (b := 0) ha (by decide)
theorem lenM_eM (m : Nat) : lenM (eM m) = .ok (eN (sz m)) := by
  show lenM (.tuple _) = _
  rw [len_t, List.length_map]; rfl
/-! ### check_places -/
theorem places_ok (G : Gr) {xs : List Nat} (h : ∀ x ∈ xs, x < G.n) (hs : xs.Pairwise (· < ·)) (hl : xs.length ≤ 1000) : py_check_places G.enc (tN xs) = .ok .none := by
  unfold py_check_places
  walk_at "ev"
  rw [check_eq]
  unfold tN
  walk_at "ev"
  rw [lc_map (enc := eN) eN (fun _ => .bool true) (small hl) (fun _ _ => rfl) (fun p hp => ?_)]
  · walk_at "ev"
    rw [allTrue]
    walk_at "ev"
    rw [slM_t, ok_bind, zip2_t, cut1, ← List.map_tail, zipD_map]
    rw [lc_map (enc := fun p : Nat × Nat => PyData.tuple [eN p.1, eN p.2]) (fun p => (eN p.1, eN p.2)) (fun _ => .bool true) (small (k := 1000) (by simp [List.length_zip]; omega)) (fun _ _ => rfl) (fun p hp => ?_)]
    · walk_at "ev"
      rw [allTrue]
      walk_at "ev"
    · have := pairwise_zip hs p hp
      walk_at "ev"
      rw [decide_eq_true (by omega)]
  · have := h p hp
    rw [show ixM G.enc (.int 0) = .ok (eN G.n) from ixD_0]
    walk_at "ev"
    rw [show decide ((0 : Int) ≤ p) = true from decide_eq_true (by omega), decide_eq_true (by omega)]
    walk_at "ev"
theorem places_mem (G : Gr) {m : Nat} (h : m < 2 ^ G.n) : py_check_places G.enc (eM m) = .ok .none := places_ok G (fun x hx => mem_lt h hx) (mem_sorted m) (by have := mem_len m; omega)
theorem places_badG {g d : D} (h : py_check_graph g = .err .refused) : py_check_places g d = .err .refused := by
  unfold py_check_places
  rw [A1_ok, h, err_bind]
/-- a place too great -/
theorem places_out (G : Gr) {xs : List Nat} (h : xs.all (fun x => decide (x < G.n)) = false) (hl : xs.length ≤ 1000) : py_check_places G.enc (tN xs) = .err .refused := by
  unfold py_check_places
  walk_at "ev"
  rw [check_eq]
  unfold tN
  walk_at "ev"
  rw [lc_map (enc := eN) eN (fun x => .bool (decide (x < G.n))) (small hl) (fun _ _ => rfl) (fun p hp => ?_)]
  · walk_at "ev"
    rw [show (xs.map fun x => PyData.bool (decide (x < G.n))) = (xs.map fun x => decide (x < G.n)).map PyData.bool from by rw [List.map_map]; rfl, all_b, List.all_map]
    rw [show xs.all (id ∘ fun x => decide (x < G.n)) = false from h]
    walk_at "ev"
  · rw [show ixM G.enc (.int 0) = .ok (eN G.n) from ixD_0]
    walk_at "ev"
    rw [show decide ((0 : Int) ≤ p) = true from decide_eq_true (by omega)]
    walk_at "ev"
    congr 2
    exact decide_eq_decide.mpr (by omega)
/-- places not ascending: one twice -/
theorem places_twice (G : Gr) : py_check_places G.enc (tN [0, 0]) = .err .refused := by
  have lo := G.lo
  unfold py_check_places
  walk_at "ev"
  rw [check_eq]
  unfold tN
  walk_at "ev"
  rw [lc_map (enc := eN) eN (fun _ => .bool true) (small (k := 2) (Nat.le_refl _)) (fun _ _ => rfl) (fun p hp => ?_)]
  · walk_at "ev"
    rw [allTrue]
    walk_at "ev"
    rw [slM_t, ok_bind, zip2_t, cut1, ← List.map_tail, zipD_map]
    rw [lc_map (enc := fun p : Nat × Nat => PyData.tuple [eN p.1, eN p.2]) (fun p => (eN p.1, eN p.2)) (fun _ => .bool false) (small (k := 1) (Nat.le_refl _)) (fun _ _ => rfl) (fun p hp => ?_)]
    · walk_at "ev"
      rw [show ((([0, 0] : List Nat).zip ([0, 0] : List Nat).tail).map fun _ => PyData.bool false) = [false].map PyData.bool from rfl, all_b]
      walk_at "ev"
      rfl
    · simp at hp
      subst hp
      rfl
  · have : p = 0 := by simpa using hp
    subst this
    rw [show ixM G.enc (.int 0) = .ok (eN G.n) from ixD_0]
    walk_at "ev"
    rw [show decide ((0 : Int) ≤ ((0 : Nat) : Int)) = true from rfl, decide_eq_true (by omega)]
    walk_at "ev"
def seenD (G : Gr) : D := rowD G.n fun i => lN (G.row i)
theorem lenSeen (G : Gr) : lenM (seenD G) = .ok (eN G.n) := by unfold seenD rowD; rw [len_l, List.length_map, List.length_range]
/-! ### what is first found -/
theorem forC_find {ι : Type} {enc : ι → D} {f : Unit → D → R (Ctl Unit D)} {g : ι → Bool} {out : ι → D} : ∀ (ms : List ι), (∀ m ∈ ms, f () (enc m) = if g m then .ok (.rt (out m)) else .ok (.nx ())) →
    forC (fun x_ => some x_) f (ms.map enc) () = match ms.filter g with | [] => .ok (.nx ()) | m :: _ => .ok (.rt (out m))
  | [], _ => rfl
  | m :: ms, h => by
    rw [List.map_cons]
    unfold forC unS
    show (f () (enc m)).bind _ = _
    rw [h m List.mem_cons_self]
    cases e : g m with
    | true => rw [List.filter_cons_of_pos e]; rfl
    | false =>
      rw [List.filter_cons_of_neg (by simp [e])]
      exact forC_find ms fun k hk => h k (List.mem_cons_of_mem _ hk)
/-- a loop that ends at the first that is not so -/
theorem forC_all_b {ι β : Type} {enc : ι → D} {sp : D → Option β} {bo : ι → β} {f : Unit → β → R (Ctl Unit D)} {g : ι → Bool} {d : D} : ∀ (ms : List ι), (∀ m ∈ ms, sp (enc m) = some (bo m)) → (∀ m ∈ ms, f () (bo m) = if g m then .ok (.nx ()) else .ok (.rt d)) →
    forC sp f (ms.map enc) () = if ms.all g then .ok (.nx ()) else .ok (.rt d)
  | [], _, _ => rfl
  | m :: ms, hs, h => by
    rw [List.map_cons]
    unfold forC unS
    rw [hs m List.mem_cons_self]
    show (f () (bo m)).bind _ = _
    rw [h m List.mem_cons_self]
    cases e : g m with
    | true =>
      rw [List.all_cons, e, Bool.true_and]
      exact forC_all_b ms (fun k hk => hs k (List.mem_cons_of_mem _ hk)) fun k hk => h k (List.mem_cons_of_mem _ hk)
    | false => rw [List.all_cons, e, Bool.false_and]; rfl
theorem full_bit {n j : Nat} (h : j < n) : (2 ^ n - 1).testBit j = true := by rw [Nat.testBit_two_pow_sub_one]; exact decide_eq_true h
theorem full_mem {n : Nat} : 2 ^ n - 1 ∈ order n := mem_order.mpr (by have := Nat.two_pow_pos n; omega)
theorem range_len_le {n : Nat} (hn : n ≤ 8) (p : Nat → Bool) : ((List.range n).filter p).length ≤ 8 := Nat.le_trans (List.length_filter_le _ _) (by simpa using hn)
theorem len_order {n : Nat} (p : Nat → Bool) : ((List.range (2 ^ n)).filter p).length = ((order n).filter p).length := ((order_perm n).filter p).length_eq.symm
end Bb
set_option maxRecDepth 100000
/-! Bz: sizes of what is shown. El: an item of a list that the law compares; Em: a part of such an item. -/
namespace Bb
open PySem Dl Py R PySem.W
set_option autoImplicit false
def El (d : D) : Prop := Sd 30 100000 d
def Em (d : D) : Prop := Sd 25 90000 d
def Ee (d : D) : Prop := Sd 20 300 d
theorem Em.l {d : D} (h : Em d) : El d := Sd_mono h (by decide) (by decide)
theorem Ee.m {d : D} (h : Ee d) : Em d := Sd_mono h (by decide) (by decide)
theorem Ee.l {d : D} (h : Ee d) : El d := h.m.l
theorem Ee_int {i : Int} (h : i.natAbs < 2 ^ 100) : Ee (.int i) := Sd_mono (Sd_int (m := 100) h (by decide) (by decide)) (by decide) (by decide)
theorem Ee_n {n : Nat} (h : n < 2 ^ 100) : Ee (eN n) := Ee_int (by omega)
theorem Ee_bool (b : Bool) : Ee (.bool b) := Sd_mono (Sd_bool b) (by decide) (by decide)
theorem Ee_none : Ee .none := Sd_mono Sd_none (by decide) (by decide)
theorem Sd_nats {k : Nat} {xs : List Nat} (hx : ∀ x ∈ xs, x < 2 ^ 20) (hk : k ≤ 1) : ∀ d ∈ xs.map eN, Sd k 21 d := fun d hd => by
  obtain ⟨x, h, rfl⟩ := List.mem_map.mp hd
  have := hx x h
  exact Sd_mono (Sd_int (m := 20) (by omega) (by decide) (by decide)) (by omega) (by decide)
theorem Ee_tN {xs : List Nat} (hx : ∀ x ∈ xs, x < 2 ^ 20) (hl : xs.length ≤ 12) : Ee (tN xs) := by
  have h2 := Sd_tuple (SdA_all (Sd_nats (k := 0) hx (by decide)))
  rw [List.length_map] at h2
  exact Sd_mono h2 (by decide) (by omega)
theorem Ee_lN {xs : List Nat} (hx : ∀ x ∈ xs, x < 2 ^ 20) (hl : xs.length ≤ 12) : Ee (lN xs) := by
  have h2 := Sd_list (SdA_all (Sd_nats (k := 0) hx (by decide)))
  rw [List.length_map] at h2
  exact Sd_mono h2 (by decide) (by omega)
theorem Em_lN {xs : List Nat} (hx : ∀ x ∈ xs, x < 2 ^ 20) (hl : xs.length ≤ 3000) : Em (lN xs) := by
  have h2 := Sd_list (SdA_all (Sd_nats (k := 0) hx (by decide)))
  rw [List.length_map] at h2
  exact Sd_mono h2 (by decide) (by omega)
theorem Em_tN {xs : List Nat} (hx : ∀ x ∈ xs, x < 2 ^ 20) (hl : xs.length ≤ 3000) : Em (tN xs) := by
  have h2 := Sd_tuple (SdA_all (Sd_nats (k := 0) hx (by decide)))
  rw [List.length_map] at h2
  exact Sd_mono h2 (by decide) (by omega)
theorem Ee_mem (m : Nat) : Ee (eM m) := Ee_tN (fun x hx => by have := ((mem_bit m x).mp hx).1; omega) (by have := mem_len m; omega)
theorem Em_list {xs : List D} (h : ∀ d ∈ xs, Ee d) (hl : xs.length ≤ 290) : Em (.list xs) := by
  have h2 := Sd_list (SdA_all h)
  exact Sd_mono h2 (by decide) (by omega)
theorem Em_tuple {xs : List D} (h : ∀ d ∈ xs, Ee d) (hl : xs.length ≤ 290) : Em (.tuple xs) := by
  have h2 := Sd_tuple (SdA_all h)
  exact Sd_mono h2 (by decide) (by omega)
theorem Em_sets {ms : List Nat} (hl : ms.length ≤ 290) : Em (.list (ms.map eM)) := Em_list (fun d hd => by
  obtain ⟨m, _, rfl⟩ := List.mem_map.mp hd
  exact Ee_mem m) (by rw [List.length_map]; exact hl)
theorem Sd_told {k n : Nat} {d : D} (h : Sd k n d) : Sd (k + 1) (n + 100) (.tuple [.str (Str.ofString "told"), d]) := by
  have s1 : Sd 0 42 (.str (Str.ofString "told")) := Sd_str (n := 4) (by decide) (by decide)
  exact Sd_mono (Sd_tuple (SdA_cons (Sd_mono s1 (Nat.zero_le k) (Nat.le_refl _)) (SdA_cons h (SdA_nil k)))) (Nat.le_refl _) (by omega)
theorem Em.told {d : D} (h : Em d) : El (.tuple [.str (Str.ofString "told"), d]) := Sd_mono (Sd_told h) (by decide) (by decide)
theorem Ee.told {d : D} (h : Ee d) : Em (.tuple [.str (Str.ofString "told"), d]) := Sd_mono (Sd_told h) (by decide) (by decide)
theorem Em_missing : Em (.tuple [.str (Str.ofString "missing")]) := by
  have s1 : Sd 0 72 (.str (Str.ofString "missing")) := Sd_str (n := 7) (by decide) (by decide)
  exact Sd_mono (Sd_tuple (SdA_cons s1 (SdA_nil 0))) (by decide) (by decide)
theorem Em_refused : Em (.tuple [.str (Str.ofString "refused")]) := by
  have s1 : Sd 0 72 (.str (Str.ofString "refused")) := Sd_str (n := 7) (by decide) (by decide)
  exact Sd_mono (Sd_tuple (SdA_cons s1 (SdA_nil 0))) (by decide) (by decide)
theorem Em_large : Em (.tuple [.str (Str.ofString "large")]) := by
  have s1 : Sd 0 52 (.str (Str.ofString "large")) := Sd_str (n := 5) (by decide) (by decide)
  exact Sd_mono (Sd_tuple (SdA_cons s1 (SdA_nil 0))) (by decide) (by decide)
theorem Em_tup2 {a b : D} (ha : Ee a) (hb : Ee b) : Em (.tuple [a, b]) := Em_tuple (by simp; exact ⟨ha, hb⟩) (by simp)
theorem Ee_pair {a b : Nat} (ha : a < 2 ^ 20) (hb : b < 2 ^ 20) : Ee (.tuple [eN a, eN b]) := Ee_tN (xs := [a, b]) (by simp; exact ⟨ha, hb⟩) (by simp)
theorem El_tup2 {a b : D} (ha : Em a) (hb : Em b) (h : Sd 30 90000 (.tuple [a, b]) := by assumption) : El (.tuple [a, b]) := Sd_mono h (by decide) (by decide)
/-- compared as they are -/
theorem same_l {d : D} (h : El d) : py__law_same d d = .ok (.bool true) := same_self (Sd_mono h (by decide) (by decide))
theorem same2 {a b : D} (ha : El a) (hb : El b) : py__law_same (.list [a, b]) (.list [a, b]) = .ok (.bool true) :=
  same_self (Sd_mono (Sd_list (SdA_cons ha (SdA_cons hb (SdA_nil 30)))) (by decide) (by decide))
theorem same3 {a b c : D} (ha : El a) (hb : El b) (hc : El c) : py__law_same (.list [a, b, c]) (.list [a, b, c]) = .ok (.bool true) :=
  same_self (Sd_mono (Sd_list (SdA_cons ha (SdA_cons hb (SdA_cons hc (SdA_nil 30))))) (by decide) (by decide))
theorem same4 {a b c d : D} (ha : El a) (hb : El b) (hc : El c) (hd : El d) : py__law_same (.list [a, b, c, d]) (.list [a, b, c, d]) = .ok (.bool true) :=
  same_self (Sd_mono (Sd_list (SdA_cons ha (SdA_cons hb (SdA_cons hc (SdA_cons hd (SdA_nil 30)))))) (by decide) (by decide))
theorem same5 {a b c d e : D} (ha : El a) (hb : El b) (hc : El c) (hd : El d) (he : El e) : py__law_same (.list [a, b, c, d, e]) (.list [a, b, c, d, e]) = .ok (.bool true) :=
  same_self (Sd_mono (Sd_list (SdA_cons ha (SdA_cons hb (SdA_cons hc (SdA_cons hd (SdA_cons he (SdA_nil 30))))))) (by decide) (by decide))
theorem same6 {a b c d e f : D} (ha : El a) (hb : El b) (hc : El c) (hd : El d) (he : El e) (hf : El f) : py__law_same (.list [a, b, c, d, e, f]) (.list [a, b, c, d, e, f]) = .ok (.bool true) :=
  same_self (Sd_mono (Sd_list (SdA_cons ha (SdA_cons hb (SdA_cons hc (SdA_cons hd (SdA_cons he (SdA_cons hf (SdA_nil 30)))))))) (by decide) (by decide))
end Bb
/-! Bo: the order of data with a Lean type is total: min, sorted do not look at how the items lie. -/
namespace Dl
open PySem R PySem.W
set_option autoImplicit false
class TotD (α : Type) [DecidableEq α] [DatumOrd α] : Prop where
  irr : ∀ a : α, DatumOrd.lt a a = false
  tr : ∀ a b c : α, DatumOrd.lt a b = true → DatumOrd.lt b c = true → DatumOrd.lt a c = true
  tri : ∀ a b : α, DatumOrd.lt a b = true ∨ a = b ∨ DatumOrd.lt b a = true
instance : TotD Int where
  irr a := by show decide _ = _; simp
  tr a b c h1 h2 := by
    have h1 : a < b := of_decide_eq_true h1
    have h2 : b < c := of_decide_eq_true h2
    exact decide_eq_true (Int.lt_trans h1 h2)
  tri a b := by
    rcases Int.lt_trichotomy a b with h | h | h
    · exact .inl (decide_eq_true h)
    · exact .inr (.inl h)
    · exact .inr (.inr (decide_eq_true h))
section
variable {α β : Type} [DecidableEq α] [DatumOrd α] [TotD α] [DecidableEq β] [DatumOrd β] [TotD β]
theorem listLt_irr : ∀ a : List α, listLt a a = false
  | [] => rfl
  | x :: a => by rw [listLt, if_pos rfl]; exact listLt_irr a
theorem listLt_tr : ∀ a b c : List α, listLt a b = true → listLt b c = true → listLt a c = true
  | [], [], _, h, _ => by cases h
  | [], _ :: _, [], _, h => by cases h
  | [], _ :: _, _ :: _, _, _ => rfl
  | _ :: _, [], _, h, _ => by cases h
  | _ :: _, _ :: _, [], _, h => by cases h
  | x :: a, y :: b, z :: c, h1, h2 => by
    rw [listLt] at h1 h2 ⊢
    by_cases e1 : x = y
    · subst e1
      rw [if_pos rfl] at h1
      by_cases e2 : x = z
      · subst e2
        rw [if_pos rfl] at h2 ⊢
        exact listLt_tr a b c h1 h2
      · rw [if_neg e2] at h2 ⊢
        exact h2
    · rw [if_neg e1] at h1
      by_cases e2 : y = z
      · subst e2
        rw [if_neg e1]
        exact h1
      · rw [if_neg e2] at h2
        have h3 := TotD.tr _ _ _ h1 h2
        by_cases e3 : x = z
        · subst e3
          rw [TotD.irr] at h3; cases h3
        · rw [if_neg e3]; exact h3
theorem listLt_tri : ∀ a b : List α, listLt a b = true ∨ a = b ∨ listLt b a = true
  | [], [] => .inr (.inl rfl)
  | [], _ :: _ => .inl rfl
  | _ :: _, [] => .inr (.inr rfl)
  | x :: a, y :: b => by
    rw [listLt, listLt]
    by_cases e : x = y
    · subst e
      rw [if_pos rfl, if_pos rfl]
      rcases listLt_tri a b with h | h | h
      · exact .inl h
      · exact .inr (.inl (by rw [h]))
      · exact .inr (.inr h)
    · rw [if_neg e, if_neg (fun z => e z.symm)]
      rcases TotD.tri x y with h | h | h
      · exact .inl h
      · exact absurd h e
      · exact .inr (.inr h)
instance : TotD (List α) := ⟨listLt_irr, listLt_tr, listLt_tri⟩
instance : TotD (Tup α) := ⟨fun a => listLt_irr a.items, fun a b c => listLt_tr a.items b.items c.items, fun a b => by
  rcases listLt_tri a.items b.items with h | h | h
  · exact .inl h
  · exact .inr (.inl (by cases a; cases b; cases h; rfl))
  · exact .inr (.inr h)⟩
instance : TotD (α × β) := ⟨fun a => by
    show (if a.1 = a.1 then DatumOrd.lt a.2 a.2 else DatumOrd.lt a.1 a.1) = false
    rw [if_pos rfl, TotD.irr], fun a b c h1 h2 => by
    obtain ⟨x, a⟩ := a
    obtain ⟨y, b⟩ := b
    obtain ⟨z, c⟩ := c
    change (if x = y then DatumOrd.lt a b else DatumOrd.lt x y) = true at h1
    change (if y = z then DatumOrd.lt b c else DatumOrd.lt y z) = true at h2
    show (if x = z then DatumOrd.lt a c else DatumOrd.lt x z) = true
    by_cases e1 : x = y
    · subst e1
      rw [if_pos rfl] at h1
      by_cases e2 : x = z
      · subst e2
        rw [if_pos rfl] at h2 ⊢
        exact TotD.tr _ _ _ h1 h2
      · rw [if_neg e2] at h2 ⊢
        exact h2
    · rw [if_neg e1] at h1
      by_cases e2 : y = z
      · subst e2
        rw [if_neg e1]
        exact h1
      · rw [if_neg e2] at h2
        have h3 := TotD.tr _ _ _ h1 h2
        by_cases e3 : x = z
        · subst e3
          rw [TotD.irr] at h3; cases h3
        · rw [if_neg e3]; exact h3, fun a b => by
    obtain ⟨x, a⟩ := a
    obtain ⟨y, b⟩ := b
    show (if x = y then DatumOrd.lt a b else DatumOrd.lt x y) = true ∨ _ ∨ (if y = x then DatumOrd.lt b a else DatumOrd.lt y x) = true
    by_cases e : x = y
    · subst e
      rw [if_pos rfl, if_pos rfl]
      rcases TotD.tri a b with h | h | h
      · exact .inl h
      · exact .inr (.inl (by rw [h]))
      · exact .inr (.inr h)
    · rw [if_neg e, if_neg (fun z => e z.symm)]
      rcases TotD.tri x y with h | h | h
      · exact .inl h
      · exact absurd h e
      · exact .inr (.inr h)⟩
theorem lt_asym {a b : α} (h : DatumOrd.lt a b = true) : DatumOrd.lt b a = false := by
  cases e : DatumOrd.lt b a with
  | false => rfl
  | true => have := TotD.tr _ _ _ h e; rw [TotD.irr] at this; cases this
theorem eq_of_nlt {a b : α} (h : DatumOrd.lt a b = false) (h2 : DatumOrd.lt b a = false) : a = b := by
  rcases TotD.tri a b with e | e | e
  · rw [h] at e; cases e
  · exact e
  · rw [h2] at e; cases e
theorem min_go : ∀ (xs : List α) (x : α), (minOf x xs = x ∨ minOf x xs ∈ xs) ∧ (DatumOrd.lt x (minOf x xs) = false) ∧ ∀ y ∈ xs, DatumOrd.lt y (minOf x xs) = false
  | [], x => ⟨.inl rfl, TotD.irr x, by simp⟩
  | y :: xs, x => by
    have e : minOf x (y :: xs) = minOf (if DatumOrd.lt y x = true then y else x) xs := rfl
    rw [e]
    by_cases h : DatumOrd.lt y x = true
    · rw [if_pos h]
      obtain ⟨h1, h2, h3⟩ := min_go xs y
      refine ⟨.inr (h1.elim (fun e => by rw [e]; simp) fun m => List.mem_cons_of_mem _ m), ?_, fun z hz => ?_⟩
      · cases e : DatumOrd.lt x (minOf y xs) with
        | false => rfl
        | true => have := TotD.tr _ _ _ h e; rw [h2] at this; cases this
      · rcases List.mem_cons.mp hz with rfl | hz
        · exact h2
        · exact h3 z hz
    · rw [if_neg h]
      obtain ⟨h1, h2, h3⟩ := min_go xs x
      refine ⟨h1.imp id fun m => List.mem_cons_of_mem _ m, h2, fun z hz => ?_⟩
      rcases List.mem_cons.mp hz with rfl | hz
      · cases e : DatumOrd.lt z (minOf x xs) with
        | false => rfl
        | true =>
          rcases TotD.tri z x with q | q | q
          · exact absurd q h
          · rw [q, h2] at e; cases e
          · have := TotD.tr _ _ _ q e; rw [h2] at this; cases this
      · exact h3 z hz
theorem min_mem (x : α) (xs : List α) : minOf x xs ∈ x :: xs := by
  rcases (min_go xs x).1 with h | h
  · rw [h]; simp
  · exact List.mem_cons_of_mem _ h
theorem min_le {x y : α} {xs : List α} (h : y ∈ x :: xs) : DatumOrd.lt y (minOf x xs) = false := by
  rcases List.mem_cons.mp h with rfl | h
  · exact (min_go xs y).2.1
  · exact (min_go xs x).2.2 y h
theorem min_same {x y : α} {xs ys : List α} (h : ∀ z, z ∈ x :: xs ↔ z ∈ y :: ys) : minOf x xs = minOf y ys :=
  eq_of_nlt (min_le ((h _).mp (min_mem x xs))) (min_le ((h _).mpr (min_mem y ys))) |>.symm |> fun e => by
    first | exact e | exact e.symm
/-- least items are told by what they are -/
theorem min_is {x m : α} {xs : List α} (hm : m ∈ x :: xs) (h : ∀ y ∈ x :: xs, DatumOrd.lt y m = false) : minOf x xs = m :=
  eq_of_nlt (h _ (min_mem x xs)) (min_le hm)
theorem leD_total (a b : α) : (leD a b || leD b a) = true := by
  unfold leD
  cases e : DatumOrd.lt b a with
  | false => rfl
  | true => rw [lt_asym e]; rfl
theorem leD_trans (a b c : α) (h1 : leD a b = true) (h2 : leD b c = true) : leD a c = true := by
  unfold leD at *
  cases e : DatumOrd.lt c a with
  | false => rfl
  | true =>
    have h1 : DatumOrd.lt b a = false := by simpa using h1
    have h2 : DatumOrd.lt c b = false := by simpa using h2
    rcases TotD.tri b c with q | q | q
    · have := TotD.tr _ _ _ q e; rw [h1] at this; cases this
    · rw [q, e] at h1; cases h1
    · rw [h2] at q; cases q
theorem leD_anti {a b : α} (h1 : leD a b = true) (h2 : leD b a = true) : a = b := by
  unfold leD at *
  exact eq_of_nlt (by simpa using h2) (by simpa using h1)
/-- two rows in order with the same items are one -/
theorem sorted_same {ι : Type} {le : ι → ι → Bool} (anti : ∀ a b, le a b = true → le b a = true → a = b) : ∀ {l1 l2 : List ι}, l1.Perm l2 → l1.Pairwise (fun a b => le a b = true) → l2.Pairwise (fun a b => le a b = true) → l1 = l2 := by
  intro l1 l2 p h1 h2
  exact p.eq_of_pairwise (fun a b _ _ x y => anti a b x y) h1 h2
theorem sort_same {ι : Type} {le : ι → ι → Bool} (anti : ∀ a b, le a b = true → le b a = true → a = b) (tr : ∀ a b c, le a b = true → le b c = true → le a c = true) (tot : ∀ a b, (le a b || le b a) = true) {l1 l2 : List ι} (p : l1.Perm l2) : l1.mergeSort le = l2.mergeSort le :=
  sorted_same anti (((List.mergeSort_perm l1 le).trans p).trans (List.mergeSort_perm l2 le).symm) (List.pairwise_mergeSort tr tot l1) (List.pairwise_mergeSort tr tot l2)
theorem sort_filter {ι : Type} {le : ι → ι → Bool} (anti : ∀ a b, le a b = true → le b a = true → a = b) (tr : ∀ a b c, le a b = true → le b c = true → le a c = true) (tot : ∀ a b, (le a b || le b a) = true) (l : List ι) (p : ι → Bool) : (l.mergeSort le).filter p = (l.filter p).mergeSort le :=
  sorted_same anti (((List.mergeSort_perm l le).filter p).trans (List.mergeSort_perm _ le).symm) ((List.pairwise_mergeSort tr tot l).filter p) (List.pairwise_mergeSort tr tot _)
end
end Dl
set_option maxRecDepth 100000
/-! Bm: rows of places, what sees all. -/
namespace Bb
open PySem Dl Py R PySem.W
set_option autoImplicit false
local macro_rules | `(tactic| walk_at "ev") => `(tactic| try simp only [ok_bind, err_bind, ifT_t, ifT_f, bindC_nx, bindC_rt, bindC_err, A1_ok, A2_ok, A3_ok, A4_ok, A5_ok, A6_ok, A1_err, A2_err, A2_err2, consM_ok, tvM_b, andM_t, andM_f, orM_t, orM_f, notM_b, notV_b, andV_b, orV_b, ifM_b, chain_ok, chain3_ok, tup0, tup1, tup2, tup3, tup4, lst0, lst1, lst2, lst3, lst4, lst5, lst6, seqM_l, seqM_t, told_ok, told_err, add_i, sub_i, neg_i, int_i, int_b, eq_i, ne_i, lt_i, le_i, gt_i, ge_i, len_l, len_t, ix_l, ix_t, opt_some, min2_i, max2_i, tuple_l, tuple_t, list_l, list_t, isLM_l, atD0, atD1, atD2, if_true, if_false, Bool.not_true, Bool.not_false, X1, X2, X3, X2l, Ln1, Ln2, Ln3, Ln4, ls, consX, tupX, lstX, tvX, andX, orX, notX, andVX, orVX, ifX, asB, Bool.false_eq_true, ↓reduceIte])
theorem filter_one {p : Nat → Bool} {i : Nat} : ∀ {l : List Nat}, l.Nodup → i ∈ l → p i = false → (l.filter fun j => (j == i) || p j).length = (l.filter p).length + 1
  | [], _, h, _ => by simp at h
  | x :: l, n, h, hp => by
    rw [List.nodup_cons] at n
    by_cases e : x = i
    · subst e
      rw [List.filter_cons_of_pos (by simp), List.filter_cons_of_neg (by simp [hp]), List.length_cons]
      congr 2
      apply List.filter_congr
      intro j hj
      have : (j == x) = false := by
        rw [beq_eq_false_iff_ne]; rintro rfl; exact n.1 hj
      rw [this, Bool.false_or]
    · have hm : i ∈ l := (List.mem_cons.mp h).resolve_left fun z => e z.symm
      have ih := filter_one n.2 hm hp
      have e2 : (x == i) = false := by rw [beq_eq_false_iff_ne]; exact e
      by_cases hx : p x = true
      · rw [List.filter_cons_of_pos (by rw [e2, hx]; rfl), List.filter_cons_of_pos hx, List.length_cons, List.length_cons, ih]
      · rw [List.filter_cons_of_neg (by rw [e2]; simpa using hx), List.filter_cons_of_neg hx, ih]
theorem jn_self (G : Gr) (i : Nat) : G.jn i i = false := by simp [Gr.jn]
theorem row_nr {G : Gr} {i : Nat} (h : i < G.n) : (G.row i).length = (G.nr i).length + 1 := filter_one List.nodup_range (List.mem_range.mpr h) (jn_self G i)
theorem filter_split {ι : Type} (l : List ι) (p : ι → Bool) : l.length = (l.filter p).length + (l.filter fun x => !p x).length := by
  induction l with
  | nil => rfl
  | cons x l ih =>
    rw [List.length_cons, ih]
    cases e : p x with
    | true => rw [List.filter_cons_of_pos e, List.filter_cons_of_neg (by simp [e]), List.length_cons]; omega
    | false => rw [List.filter_cons_of_neg (by simp [e]), List.filter_cons_of_pos (by simp [e]), List.length_cons]; omega
theorem len0 {ι : Type} (xs : List ι) (p : ι → Bool) (f : ι → D) : decide ((((xs.filter p).map f).length : Int) = 0) = xs.all fun x => !p x := by
  rw [List.length_map, Bool.eq_iff_iff, decide_eq_true_eq, List.all_eq_true]
  constructor
  · intro h x hx
    have h0 : xs.filter p = [] := List.eq_nil_of_length_eq_zero (by omega)
    rw [List.filter_eq_nil_iff] at h0
    simpa using h0 x hx
  · intro h
    have h0 : xs.filter p = [] := by
      rw [List.filter_eq_nil_iff]
      intro x hx
      simpa using h x hx
    rw [h0]; rfl
theorem row_len8 (G : Gr) (i : Nat) : (G.row i).length ≤ 8 := range_len_le G.hi _
theorem nr_lt {G : Gr} {i j : Nat} (h : j ∈ G.nr i) : j < G.n := List.mem_range.mp (List.mem_filter.mp h).1
theorem order_len8 {n : Nat} (h : n ≤ 8) : (order n).length ≤ 256 := by rw [order_len]; exact pow_le h
def sees (G : Gr) (m : Nat) : Bool := (List.range G.n).all fun i => (G.row i).any m.testBit
theorem sees_full (G : Gr) : sees G (2 ^ G.n - 1) = true := List.all_eq_true.mpr fun i hi => List.any_eq_true.mpr ⟨i, List.mem_filter.mpr ⟨hi, by simp [Gr.sees]⟩, full_bit (List.mem_range.mp hi)⟩
theorem seesM_eq (G : Gr) (m : Nat) : lcM (.ok ((List.range G.n).map fun i => eN (msk (G.row i)))) (fun x_ => some x_) (fun _ => .ok true) (fun b => A2 neM (bandM b (eN m)) (.ok (.int 0))) = .ok (.list (((List.range G.n).map fun i => (G.row i).any m.testBit).map PyData.bool)) := by
  have hi := G.hi
  rw [lc_map (enc := fun i => eN (msk (G.row i))) (fun i => eN (msk (G.row i))) (fun i => .bool ((G.row i).any m.testBit)) (small (k := 8) (by simpa using hi)) (fun _ _ => rfl) (fun i hi' => ?_)]
  · rw [List.map_map]; rfl
  · rw [band_n]
    walk_at "ev"
    congr 2
    rw [Bool.eq_iff_iff, List.any_eq_true]
    have h := and_ne hi (G.sees i) m
    simp only [Bool.not_eq_true', decide_eq_false_iff_not]
    constructor
    · intro hz
      obtain ⟨j, h1, h2, h3⟩ := h.mp (fun z => hz (by unfold Gr.row; rw [z]; rfl))
      exact ⟨j, List.mem_filter.mpr ⟨List.mem_range.mpr h1, h2⟩, h3⟩
    · rintro ⟨j, h1, h3⟩ hz
      refine h.mpr ⟨j, List.mem_range.mp (List.mem_filter.mp h1).1, (List.mem_filter.mp h1).2, h3⟩ ?_
      unfold Gr.row at hz
      omega
theorem lawSees_eq (G : Gr) {m : Nat} : py__law_all_seen (seenD G) (eM m) = .ok (.bool (sees G m)) := by
  have hi := G.hi
  rw [show seenD G = .list ((List.range G.n).map fun r => lN (G.row r)) from rfl, allSeen_eq (List.range G.n) G.row (mem m) (by simp; omega) (fun r _ => by have := row_len8 G r; omega)]
  congr 2
  unfold sees
  rw [Bool.eq_iff_iff]
  simp only [List.all_eq_true, List.any_eq_true, decide_eq_true_eq]
  constructor
  · intro h r hr
    obtain ⟨j, h1, h2⟩ := h r hr
    exact ⟨j, h1, ((mem_bit m j).mp h2).2⟩
  · intro h r hr
    obtain ⟨j, h1, h2⟩ := h r hr
    exact ⟨j, h1, (mem_bit m j).mpr ⟨by have := List.mem_range.mp (List.mem_filter.mp h1).1; omega, h2⟩⟩
theorem order256 {G : Gr} {m : Nat} (h : m ∈ order G.n) : m < 256 := order_lt G.hi h
theorem sets_eM {n : Nat} (hn : n ≤ 8) : py__law_sets (eN n) = .ok (.list ((order n).map eM)) := sets_eq hn
theorem order_ne (n : Nat) : order n ≠ [] := fun z => by
  have h := order_len n
  have := Nat.two_pow_pos n
  rw [z] at h; simp at h; omega
/-- a draw out of a row that is not empty -/
theorem pick {b : Nat} {d : D} {ι : Type} (f : ι → D) (ms : List ι) (h : StB (b + 1) d) (hm : ms ≠ []) : ∃ x ∈ ms, ∃ r d', py__law_next d (.int (ms.length : Int)) = .ok (eN r, d') ∧ atD (ms.map f) (r : Int) = some (f x) ∧ StB b d' := by
  have hl : 0 < ms.length := List.length_pos_iff.mpr hm
  obtain ⟨r, d', e, h1, h2⟩ := next_eq h hl
  exact ⟨ms[r], List.getElem_mem h2, r, d', e, by rw [atD_nat, List.getElem?_map, List.getElem?_eq_getElem h2]; rfl, h1⟩
/-- one of two -/
theorem pick2 {b : Nat} {d : D} (x y : D) (h : StB (b + 1) d) : ∃ r d', py__law_next d (.int 2) = .ok (eN r, d') ∧ (atD [x, y] (r : Int) = some x ∨ atD [x, y] (r : Int) = some y) ∧ StB b d' := by
  obtain ⟨r, d', e, h1, h2⟩ := next_eq h (show 0 < 2 by decide)
  refine ⟨r, d', e, ?_, h1⟩
  match r, h2 with
  | 0, _ => exact .inl rfl
  | 1, _ => exact .inr rfl
end Bb
set_option maxRecDepth 100000
/-! Bn: rows of refused calls; sorted sets. -/
namespace Bb
open PySem Dl Py R PySem.W
set_option autoImplicit false
local macro_rules | `(tactic| walk_at "ev") => `(tactic| try simp only [ok_bind, err_bind, ifT_t, ifT_f, bindC_nx, bindC_rt, bindC_err, A1_ok, A2_ok, A3_ok, A4_ok, A5_ok, A6_ok, A1_err, A2_err, A2_err2, consM_ok, tvM_b, andM_t, andM_f, orM_t, orM_f, notM_b, notV_b, andV_b, orV_b, ifM_b, chain_ok, chain3_ok, tup0, tup1, tup2, tup3, tup4, lst0, lst1, lst2, lst3, lst4, lst5, lst6, seqM_l, seqM_t, told_ok, told_err, add_i, sub_i, neg_i, int_i, int_b, eq_i, ne_i, lt_i, le_i, gt_i, ge_i, len_l, len_t, ix_l, ix_t, opt_some, min2_i, max2_i, tuple_l, tuple_t, list_l, list_t, isLM_l, atD0, atD1, atD2, if_true, if_false, Bool.not_true, Bool.not_false, X1, X2, X3, X2l, Ln1, Ln2, Ln3, Ln4, ls, consX, tupX, lstX, tvX, andX, orX, notX, andVX, orVX, ifX, asB, Bool.false_eq_true, ↓reduceIte, ifl1, ifl2, ifl3, ifl4, seqM_tN, seqM_lN, exN_m, exN_r, exN_l, ixG0, ixG1, check_eq, members_eq, size_eq, band_n, bor_n, bxor_n, shr_n, inv_n, bandInv_n, band1, lenM_eM, List.length_map])
abbrev refD : D := .tuple [.str (Str.ofString "refused")]
theorem lst_1 (a0 : D) : lstM (.ok [a0]) = .ok (.list [a0]) := lstM_ok _ (show 1 ≤ 16777216 by decide)
theorem ref1 {γ : Type} {m1 : R D} {x y : R γ} (h1 : m1 = .err .refused) :
    ((lstM (consM (toldM m1) (R.ok []))).bind fun v => (tvM (A2 neM (.ok v) (mulM (.list [.tuple [.str (Str.ofString "refused")]]) (.int 1)))).bind fun c => ifT c x y) = y := by
  subst h1
  rw [told_ref]
  walk_at "ev"
  try rw [lst_1]
  walk_at "ev"
  rw [show mulM (.list [.tuple [.str (Str.ofString "refused")]]) (.int 1) = _ from refs_eq 1 (by decide)]
  walk_at "ev"
  rw [show [ref] = List.replicate 1 ref from rfl, ne_refs]
  walk_at "ev"
theorem lst_2 (a0 a1 : D) : lstM (.ok [a0, a1]) = .ok (.list [a0, a1]) := lstM_ok _ (show 2 ≤ 16777216 by decide)
theorem ref2 {γ : Type} {m1 m2 : R D} {x y : R γ} (h1 : m1 = .err .refused) (h2 : m2 = .err .refused) :
    ((lstM (consM (toldM m1) (consM (toldM m2) (R.ok [])))).bind fun v => (tvM (A2 neM (.ok v) (mulM (.list [.tuple [.str (Str.ofString "refused")]]) (.int 2)))).bind fun c => ifT c x y) = y := by
  subst h1 h2
  rw [told_ref]
  walk_at "ev"
  try rw [lst_2]
  walk_at "ev"
  rw [show mulM (.list [.tuple [.str (Str.ofString "refused")]]) (.int 2) = _ from refs_eq 2 (by decide)]
  walk_at "ev"
  rw [show [ref, ref] = List.replicate 2 ref from rfl, ne_refs]
  walk_at "ev"
theorem lst_5 (a0 a1 a2 a3 a4 : D) : lstM (.ok [a0, a1, a2, a3, a4]) = .ok (.list [a0, a1, a2, a3, a4]) := lstM_ok _ (show 5 ≤ 16777216 by decide)
theorem ref5 {γ : Type} {m1 m2 m3 m4 m5 : R D} {x y : R γ} (h1 : m1 = .err .refused) (h2 : m2 = .err .refused) (h3 : m3 = .err .refused) (h4 : m4 = .err .refused) (h5 : m5 = .err .refused) :
    ((lstM (consM (toldM m1) (consM (toldM m2) (consM (toldM m3) (consM (toldM m4) (consM (toldM m5) (R.ok []))))))).bind fun v => (tvM (A2 neM (.ok v) (mulM (.list [.tuple [.str (Str.ofString "refused")]]) (.int 5)))).bind fun c => ifT c x y) = y := by
  subst h1 h2 h3 h4 h5
  rw [told_ref]
  walk_at "ev"
  try rw [lst_5]
  walk_at "ev"
  rw [show mulM (.list [.tuple [.str (Str.ofString "refused")]]) (.int 5) = _ from refs_eq 5 (by decide)]
  walk_at "ev"
  rw [show [ref, ref, ref, ref, ref] = List.replicate 5 ref from rfl, ne_refs]
  walk_at "ev"
theorem lst_6 (a0 a1 a2 a3 a4 a5 : D) : lstM (.ok [a0, a1, a2, a3, a4, a5]) = .ok (.list [a0, a1, a2, a3, a4, a5]) := lstM_ok _ (show 6 ≤ 16777216 by decide)
theorem ref6 {γ : Type} {m1 m2 m3 m4 m5 m6 : R D} {x y : R γ} (h1 : m1 = .err .refused) (h2 : m2 = .err .refused) (h3 : m3 = .err .refused) (h4 : m4 = .err .refused) (h5 : m5 = .err .refused) (h6 : m6 = .err .refused) :
    ((lstM (consM (toldM m1) (consM (toldM m2) (consM (toldM m3) (consM (toldM m4) (consM (toldM m5) (consM (toldM m6) (R.ok [])))))))).bind fun v => (tvM (A2 neM (.ok v) (mulM (.list [.tuple [.str (Str.ofString "refused")]]) (.int 6)))).bind fun c => ifT c x y) = y := by
  subst h1 h2 h3 h4 h5 h6
  rw [told_ref]
  walk_at "ev"
  try rw [lst_6]
  walk_at "ev"
  rw [show mulM (.list [.tuple [.str (Str.ofString "refused")]]) (.int 6) = _ from refs_eq 6 (by decide)]
  walk_at "ev"
  rw [show [ref, ref, ref, ref, ref, ref] = List.replicate 6 ref from rfl, ne_refs]
  walk_at "ev"
theorem lst_7 (a0 a1 a2 a3 a4 a5 a6 : D) : lstM (.ok [a0, a1, a2, a3, a4, a5, a6]) = .ok (.list [a0, a1, a2, a3, a4, a5, a6]) := lstM_ok _ (show 7 ≤ 16777216 by decide)
theorem ref7 {γ : Type} {m1 m2 m3 m4 m5 m6 m7 : R D} {x y : R γ} (h1 : m1 = .err .refused) (h2 : m2 = .err .refused) (h3 : m3 = .err .refused) (h4 : m4 = .err .refused) (h5 : m5 = .err .refused) (h6 : m6 = .err .refused) (h7 : m7 = .err .refused) :
    ((lstM (consM (toldM m1) (consM (toldM m2) (consM (toldM m3) (consM (toldM m4) (consM (toldM m5) (consM (toldM m6) (consM (toldM m7) (R.ok []))))))))).bind fun v => (tvM (A2 neM (.ok v) (mulM (.list [.tuple [.str (Str.ofString "refused")]]) (.int 7)))).bind fun c => ifT c x y) = y := by
  subst h1 h2 h3 h4 h5 h6 h7
  rw [told_ref]
  walk_at "ev"
  try rw [lst_7]
  walk_at "ev"
  rw [show mulM (.list [.tuple [.str (Str.ofString "refused")]]) (.int 7) = _ from refs_eq 7 (by decide)]
  walk_at "ev"
  rw [show [ref, ref, ref, ref, ref, ref, ref] = List.replicate 7 ref from rfl, ne_refs]
  walk_at "ev"
theorem lst_8 (a0 a1 a2 a3 a4 a5 a6 a7 : D) : lstM (.ok [a0, a1, a2, a3, a4, a5, a6, a7]) = .ok (.list [a0, a1, a2, a3, a4, a5, a6, a7]) := lstM_ok _ (show 8 ≤ 16777216 by decide)
theorem ref8 {γ : Type} {m1 m2 m3 m4 m5 m6 m7 m8 : R D} {x y : R γ} (h1 : m1 = .err .refused) (h2 : m2 = .err .refused) (h3 : m3 = .err .refused) (h4 : m4 = .err .refused) (h5 : m5 = .err .refused) (h6 : m6 = .err .refused) (h7 : m7 = .err .refused) (h8 : m8 = .err .refused) :
    ((lstM (consM (toldM m1) (consM (toldM m2) (consM (toldM m3) (consM (toldM m4) (consM (toldM m5) (consM (toldM m6) (consM (toldM m7) (consM (toldM m8) (R.ok [])))))))))).bind fun v => (tvM (A2 neM (.ok v) (mulM (.list [.tuple [.str (Str.ofString "refused")]]) (.int 8)))).bind fun c => ifT c x y) = y := by
  subst h1 h2 h3 h4 h5 h6 h7 h8
  rw [told_ref]
  walk_at "ev"
  try rw [lst_8]
  walk_at "ev"
  rw [show mulM (.list [.tuple [.str (Str.ofString "refused")]]) (.int 8) = _ from refs_eq 8 (by decide)]
  walk_at "ev"
  rw [show [ref, ref, ref, ref, ref, ref, ref, ref] = List.replicate 8 ref from rfl, ne_refs]
  walk_at "ev"
theorem lst_9 (a0 a1 a2 a3 a4 a5 a6 a7 a8 : D) : lstM (.ok [a0, a1, a2, a3, a4, a5, a6, a7, a8]) = .ok (.list [a0, a1, a2, a3, a4, a5, a6, a7, a8]) := lstM_ok _ (show 9 ≤ 16777216 by decide)
theorem ref9 {γ : Type} {m1 m2 m3 m4 m5 m6 m7 m8 m9 : R D} {x y : R γ} (h1 : m1 = .err .refused) (h2 : m2 = .err .refused) (h3 : m3 = .err .refused) (h4 : m4 = .err .refused) (h5 : m5 = .err .refused) (h6 : m6 = .err .refused) (h7 : m7 = .err .refused) (h8 : m8 = .err .refused) (h9 : m9 = .err .refused) :
    ((lstM (consM (toldM m1) (consM (toldM m2) (consM (toldM m3) (consM (toldM m4) (consM (toldM m5) (consM (toldM m6) (consM (toldM m7) (consM (toldM m8) (consM (toldM m9) (R.ok []))))))))))).bind fun v => (tvM (A2 neM (.ok v) (mulM (.list [.tuple [.str (Str.ofString "refused")]]) (.int 9)))).bind fun c => ifT c x y) = y := by
  subst h1 h2 h3 h4 h5 h6 h7 h8 h9
  rw [told_ref]
  walk_at "ev"
  try rw [lst_9]
  walk_at "ev"
  rw [show mulM (.list [.tuple [.str (Str.ofString "refused")]]) (.int 9) = _ from refs_eq 9 (by decide)]
  walk_at "ev"
  rw [show [ref, ref, ref, ref, ref, ref, ref, ref, ref] = List.replicate 9 ref from rfl, ne_refs]
  walk_at "ev"
theorem lst_10 (a0 a1 a2 a3 a4 a5 a6 a7 a8 a9 : D) : lstM (.ok [a0, a1, a2, a3, a4, a5, a6, a7, a8, a9]) = .ok (.list [a0, a1, a2, a3, a4, a5, a6, a7, a8, a9]) := lstM_ok _ (show 10 ≤ 16777216 by decide)
theorem ref10 {γ : Type} {m1 m2 m3 m4 m5 m6 m7 m8 m9 m10 : R D} {x y : R γ} (h1 : m1 = .err .refused) (h2 : m2 = .err .refused) (h3 : m3 = .err .refused) (h4 : m4 = .err .refused) (h5 : m5 = .err .refused) (h6 : m6 = .err .refused) (h7 : m7 = .err .refused) (h8 : m8 = .err .refused) (h9 : m9 = .err .refused) (h10 : m10 = .err .refused) :
    ((lstM (consM (toldM m1) (consM (toldM m2) (consM (toldM m3) (consM (toldM m4) (consM (toldM m5) (consM (toldM m6) (consM (toldM m7) (consM (toldM m8) (consM (toldM m9) (consM (toldM m10) (R.ok [])))))))))))).bind fun v => (tvM (A2 neM (.ok v) (mulM (.list [.tuple [.str (Str.ofString "refused")]]) (.int 10)))).bind fun c => ifT c x y) = y := by
  subst h1 h2 h3 h4 h5 h6 h7 h8 h9 h10
  rw [told_ref]
  walk_at "ev"
  try rw [lst_10]
  walk_at "ev"
  rw [show mulM (.list [.tuple [.str (Str.ofString "refused")]]) (.int 10) = _ from refs_eq 10 (by decide)]
  walk_at "ev"
  rw [show [ref, ref, ref, ref, ref, ref, ref, ref, ref, ref] = List.replicate 10 ref from rfl, ne_refs]
  walk_at "ev"
/-! ### sorted sets -/
def lex (a b : Nat) : Bool := leD (tI a) (tI b)
def sortM (ms : List Nat) : List Nat := ms.mergeSort lex
theorem sortM_perm (ms : List Nat) : (sortM ms).Perm ms := List.mergeSort_perm _ _
theorem sortM_map (ms : List Nat) : (ms.map tI).mergeSort leD = (sortM ms).map tI :=
  (List.map_mergeSort (r := lex) (s := leD) (f := tI) (fun _ _ _ _ => rfl)).symm
theorem sortedM_eM (ms : List Nat) (h0 : ∀ m ∈ ms, m ≠ 0 ∧ m < 256) : sortedM (.list (ms.map eM)) = .ok (.list ((sortM ms).map eM)) := by
  rw [map_eM, sorted_d _ (by decide) (by
    unfold sortableB
    rw [Bool.or_eq_true]
    left
    rw [List.all_map, List.all_map]
    refine List.all_eq_true.mpr fun r hr => ?_
    show isTup1 (Datum.toD (tI r)) = true
    rw [eM_d]
    cases e : mem r with
    | nil => exact absurd (mem_inj (h0 r hr).2 (show 0 < 256 by decide) (e.trans rfl)) (h0 r hr).1
    | cons x xs => unfold eM tN; rw [e]; rfl), sortM_map, ← map_eM]
theorem sortM_same {a b : List Nat} (p : a.Perm b) (h : ∀ m ∈ a, m < 256) : sortM a = sortM b := by
  have e : (sortM a).map tI = (sortM b).map tI := by
    rw [← sortM_map, ← sortM_map]
    exact sort_same (fun _ _ => leD_anti) leD_trans leD_total (p.map _)
  have h2 : ∀ (x y : List Nat), (∀ m ∈ x, m < 256) → (∀ m ∈ y, m < 256) → x.map tI = y.map tI → x = y := by
    intro x
    induction x with
    | nil => intro y _ _ e; cases y with
      | nil => rfl
      | cons _ _ => simp at e
    | cons m x ih =>
      intro y hx hy e
      cases y with
      | nil => simp at e
      | cons k y =>
        rw [List.map_cons, List.map_cons] at e
        injection e with e1 e2
        rw [tI_inj (hx m List.mem_cons_self) (hy k List.mem_cons_self) e1, ih y (fun z hz => hx z (List.mem_cons_of_mem _ hz)) (fun z hz => hy z (List.mem_cons_of_mem _ hz)) e2]
  exact h2 _ _ (fun m hm => h m ((sortM_perm a).subset hm)) (fun m hm => h m (p.symm.subset ((sortM_perm b).subset hm))) e
end Bb
set_option maxRecDepth 100000
/-! K49a: watchers that may fail: seen so often. -/
namespace K49
open PySem Dl Py R Bb PySem.W
set_option autoImplicit false
local macro_rules | `(tactic| walk_at "ev") => `(tactic| try simp only [ok_bind, err_bind, ifT_t, ifT_f, bindC_nx, bindC_rt, bindC_err, A1_ok, A2_ok, A3_ok, A4_ok, A5_ok, A6_ok, A1_err, A2_err, A2_err2, consM_ok, tvM_b, andM_t, andM_f, orM_t, orM_f, notM_b, notV_b, andV_b, orV_b, ifM_b, chain_ok, chain3_ok, tup0, tup1, tup2, tup3, tup4, lst0, lst1, lst2, lst3, lst4, lst5, lst6, seqM_l, seqM_t, told_ok, told_err, add_i, sub_i, neg_i, int_i, int_b, eq_i, ne_i, lt_i, le_i, gt_i, ge_i, len_l, len_t, ix_l, ix_t, opt_some, min2_i, max2_i, tuple_l, tuple_t, list_l, list_t, isLM_l, atD0, atD1, atD2, if_true, if_false, Bool.not_true, Bool.not_false, X1, X2, X3, X2l, Ln1, Ln2, Ln3, Ln4, ls, consX, tupX, lstX, tvX, andX, orX, notX, andVX, orVX, ifX, asB, Bool.false_eq_true, ↓reduceIte, ifl1, ifl2, ifl3, ifl4, seqM_tN, seqM_lN, exN_m, exN_r, exN_l, ixG0, ixG1, check_eq, members_eq, size_eq, band_n, bor_n, bxor_n, shr_n, inv_n, bandInv_n, band1, lenM_eM, List.length_map])
def cnt (G : Gr) (m i : Nat) : Nat := ((G.row i).filter m.testBit).length
def so (G : Gr) (k m : Nat) : Bool := (List.range G.n).all fun i => decide (k ≤ cnt G m i)
def smD (G : Gr) : D := rowD G.n fun i => eN (msk (G.row i))
theorem cnt_eq (G : Gr) (m i : Nat) : sz (msk (G.row i) &&& m) = cnt G m i := sz_and G.hi _ m
theorem often_eq (G : Gr) (m k : Nat) : py_sees_often (smD G) (eN m) (eN k) = .ok (.bool (so G k m)) := by
  have hi := G.hi
  unfold py_sees_often smD rowD
  walk_at "ev"
  rw [lc_map (enc := fun i => eN (msk (G.row i))) (fun i => eN (msk (G.row i))) (fun i => .bool (decide (k ≤ cnt G m i))) (small (k := 8) (by simpa using hi)) (fun _ _ => rfl) (fun i hi' => ?_)]
  · walk_at "ev"
    rw [show ((List.range G.n).map fun i => PyData.bool (decide (k ≤ cnt G m i))) = ((List.range G.n).map fun i => decide (k ≤ cnt G m i)).map PyData.bool from by rw [List.map_map]; rfl, all_b, List.all_map]
    rfl
  · walk_at "ev"
    rw [cnt_eq]
    congr 2
    exact decide_eq_decide.mpr (by omega)
theorem so1 (G : Gr) (m : Nat) : so G 1 m = sees G m := by
  unfold so sees
  congr 1
  funext i
  unfold cnt
  rw [Bool.eq_iff_iff, decide_eq_true_eq, List.any_eq_true]
  constructor
  · intro h
    cases e : (G.row i).filter m.testBit with
    | nil => rw [e] at h; simp at h
    | cons x xs =>
      have := List.mem_filter.mp (show x ∈ (G.row i).filter m.testBit by rw [e]; exact List.mem_cons_self)
      exact ⟨x, this⟩
  · rintro ⟨x, h1, h2⟩
    exact List.length_pos_iff.mpr (List.ne_nil_of_mem (List.mem_filter.mpr ⟨h1, h2⟩))
theorem row_lt {G : Gr} {i j : Nat} (h : j ∈ G.row i) : j < G.n := List.mem_range.mp (List.mem_filter.mp h).1
theorem lawOften_eq (G : Gr) (m k : Nat) : py__law_often (seenD G) (eM m) (eN k) = .ok (.bool (so G k m)) := by
  have hi := G.hi
  unfold py__law_often seenD rowD
  walk_at "ev"
  rw [lc_eq (enc := fun r => lN (G.row r)) (fun r => lN (G.row r)) (fun r => decide (cnt G m r < k)) (fun r => lN (G.row r)) (small (k := 8) (by simpa using hi)) (fun _ _ => rfl) (fun r hr => ?_) (fun _ _ _ => rfl)]
  · walk_at "ev"
    congr 2
    rw [Bool.eq_iff_iff, decide_eq_true_eq]
    unfold so
    rw [List.all_eq_true]
    constructor
    · intro h r hr
      have h0 : (List.range G.n).filter (fun r => decide (cnt G m r < k)) = [] := List.eq_nil_of_length_eq_zero (by omega)
      rw [List.filter_eq_nil_iff] at h0
      have := h0 r hr
      simp at this
      simpa using this
    · intro h
      have h0 : (List.range G.n).filter (fun r => decide (cnt G m r < k)) = [] := by
        rw [List.filter_eq_nil_iff]
        intro r hr
        have := h r hr
        simp at this ⊢
        exact this
      rw [h0]; rfl
  · unfold lN
    walk_at "ev"
    rw [lc_eq (enc := eN) eN m.testBit eN (small (k := 8) (row_len8 G r)) (fun _ _ => rfl) (fun j hj => by rw [inN j m (by have := row_lt hj; omega)]; rfl) (fun _ _ _ => rfl)]
    walk_at "ev"
    congr 2
    show (((cnt G m r : Nat) : Int) < k) = (cnt G m r < k)
    exact propext (by omega)
theorem fold_ok (G : Gr) {k : Nat} (h : 1 ≤ k ∧ k ≤ 3) : py_check_fold G.enc (eN k) = .ok .none := by
  unfold py_check_fold
  walk_at "ev"
  rw [decide_eq_true (by omega : (1 : Int) ≤ k), decide_eq_true (by omega : (k : Int) ≤ 3)]
  walk_at "ev"
theorem fold_bad (G : Gr) {k : Nat} (h : ¬ (1 ≤ k ∧ k ≤ 3)) : py_check_fold G.enc (eN k) = .err .refused := by
  unfold py_check_fold
  walk_at "ev"
  by_cases h1 : 1 ≤ k
  · rw [decide_eq_true (by omega : (1 : Int) ≤ k), decide_eq_false (by omega : ¬ (k : Int) ≤ 3)]
    walk_at "ev"
  · rw [decide_eq_false (by omega : ¬ (1 : Int) ≤ k)]
    walk_at "ev"
theorem fold_badG {g d : D} (h : py_check_graph g = .err .refused) : py_check_fold g d = .err .refused := by
  unfold py_check_fold
  rw [A1_ok, h, err_bind]
def rows (G : Gr) (k : Nat) : List Nat := (order G.n).filter (so G k)
def few (G : Gr) (k : Nat) : R D := match rows G k with
  | [] => .err .missing
  | m :: _ => .ok (eM m)
theorem fewest_eq (G : Gr) {k : Nat} (h : 1 ≤ k ∧ k ≤ 3) : py_fewest_often G.enc (eN k) = few G k := by
  have hi := G.hi
  unfold py_fewest_often
  walk_at "ev"
  rw [fold_ok G h, seen_eq]
  walk_at "ev"
  rw [masks_eq hi]
  walk_at "ev"
  rw [forC_find (g := so G k) (out := eM) (order G.n) (fun m hm => ?_)]
  · unfold few rows
    cases (order G.n).filter (so G k) <;> rfl
  · rw [show rowD G.n (fun i => eN (msk (G.row i))) = smD G from rfl, often_eq]
    walk_at "ev"
    cases so G k m <;> rfl
theorem watch_eq (G : Gr) {k m : Nat} (h : 1 ≤ k ∧ k ≤ 3) (hm : m < 2 ^ G.n) : py_watch_often G.enc (eN k) (eM m) = .ok (.bool (so G k m)) := by
  unfold py_watch_often
  walk_at "ev"
  rw [fold_ok G h, places_mem G hm, seen_eq, maskOf_mem (lt256 G.hi hm)]
  walk_at "ev"
  exact often_eq G m k
/-! ### failing ones -/
def sub (m r : Nat) : Nat := m - (m &&& r)
theorem sub_bit (m r j : Nat) : (sub m r).testBit j = (m.testBit j && !r.testBit j) := sub_and_bit m r j
theorem sub_lt {G : Gr} {m r : Nat} (h : m < 2 ^ G.n) : sub m r < 2 ^ G.n := Nat.lt_of_le_of_lt (Nat.sub_le _ _) h
theorem mem_sub (m r : Nat) : mem (sub m r) = (mem m).filter fun j => !r.testBit j := by
  unfold mem
  rw [List.filter_filter]
  apply List.filter_congr
  intro j _
  rw [sub_bit, Bool.and_comm]
/-- r are some of m -/
def ins (m r : Nat) : Bool := decide (r - (r &&& m) = 0)
theorem ins_iff {m r : Nat} : ins m r = true ↔ ∀ j, r.testBit j = true → m.testBit j = true := by
  unfold ins
  rw [decide_eq_true_eq]
  constructor
  · intro h j hj
    have := sub_and_bit r m j
    rw [h, Nat.zero_testBit, hj] at this
    simpa using this.symm
  · intro h
    apply Nat.eq_of_testBit_eq
    intro j
    rw [sub_and_bit, Nat.zero_testBit]
    cases hr : r.testBit j with
    | false => rfl
    | true => rw [h j hr]; rfl
def lostP (m f r : Nat) : Bool := ins m r && decide (sz r = f)
theorem out_eq (G : Gr) {m f : Nat} (hm : m < 2 ^ G.n) (hf : f ≤ sz m) : py_outlasts G.enc (eM m) (eN f) = .ok (.bool (so G (f + 1) m)) := by
  unfold py_outlasts
  walk_at "ev"
  rw [places_mem G hm, seen_eq, maskOf_mem (lt256 G.hi hm)]
  walk_at "ev"
  rw [decide_eq_true (by omega : (0 : Int) ≤ f), decide_eq_true (by omega : (f : Int) ≤ sz m)]
  walk_at "ev"
  exact often_eq G m (f + 1)
def lostL (G : Gr) (m f : Nat) : List Nat := (order G.n).filter (lostP m f)
def keptL (G : Gr) (m f : Nat) : List Nat := (lostL G m f).filter fun r => so G 1 (sub m r)
theorem chance_eq (G : Gr) {m f : Nat} (hm : m < 2 ^ G.n) (hf : f ≤ sz m) : py_chance_kept G.enc (eM m) (eN f) = .ok (.tuple [eN (keptL G m f).length, eN (lostL G m f).length]) := by
  have hi := G.hi
  have h256 := pow_le hi
  unfold py_chance_kept
  walk_at "ev"
  rw [places_mem G hm, seen_eq, maskOf_mem (lt256 G.hi hm)]
  walk_at "ev"
  rw [decide_eq_true (by omega : (0 : Int) ≤ f), decide_eq_true (by omega : (f : Int) ≤ sz m)]
  walk_at "ev"
  rw [show unS (β := D × D) pr2 (PyData.tuple [rowD G.n fun i => eN (msk (G.row i)), eN m]) = fun k => k (smD G, eN m) from rfl]
  walk_at "ev"
  rw [shl_n _ (by omega)]
  walk_at "ev"
  rw [rng1_n _ (by omega), range0]
  rw [lc_eq (enc := eN) eN (lostP m f) eN (small (k := 256) (by simpa using h256)) (fun _ _ => rfl) (fun r hr => ?_) (fun m hm _ => rfl)]
  · walk_at "ev"
    rw [lc_eq (enc := eN) eN (fun r => so G 1 (sub m r)) eN (small (k := 256) (Nat.le_trans (List.length_filter_le _ _) (by simpa using h256))) (fun _ _ => rfl) (fun r hr => ?_) (fun m hm _ => rfl)]
    · walk_at "ev"
      rw [List.filter_filter, len_order, len_order]
      unfold keptL lostL
      rw [List.filter_filter]
    · walk_at "ev"
      rw [show (.int 1 : D) = eN 1 from rfl]
      exact (congrArg (fun x => tvM x) (often_eq G (sub m r) 1)).trans rfl
  · walk_at "ev"
    unfold lostP ins
    rw [andM_bb]
    congr 2
    · exact decide_eq_decide.mpr (by omega)
    · exact decide_eq_decide.mpr (by omega)
/-- so many fail -/
theorem sz_msk_list {L : List Nat} (h : ∀ x ∈ L, x < 8) (n : L.Nodup) : sz (msk L) = L.length := by
  unfold sz
  have p : (mem (msk L)).Perm L := by
    refine (List.perm_ext_iff_of_nodup (mem_nodup _) n).mpr fun x => ?_
    rw [mem_bit, msk_bit, decide_eq_true_eq]
    exact ⟨fun z => z.2, fun z => ⟨h x z, z⟩⟩
  exact p.length_eq
theorem cnt_split (G : Gr) (m r i : Nat) : cnt G m i = cnt G (sub m r) i + ((G.row i).filter fun j => m.testBit j && r.testBit j).length := by
  unfold cnt
  have h := filter_split ((G.row i).filter m.testBit) (fun j => !r.testBit j)
  rw [List.filter_filter, List.filter_filter] at h
  rw [h]
  congr 2
  · apply List.filter_congr
    intro j _
    rw [sub_bit, Bool.and_comm]
  · apply List.filter_congr
    intro j _
    cases m.testBit j <;> cases r.testBit j <;> rfl
theorem row_in_sz {G : Gr} (m r i : Nat) : ((G.row i).filter fun j => m.testBit j && r.testBit j).length ≤ sz r := by
  have hi := G.hi
  unfold sz mem Gr.row
  rw [List.filter_filter]
  have s : ((List.range G.n).filter fun j => (m.testBit j && r.testBit j) && G.sees i j).Sublist ((List.range 8).filter r.testBit) := by
    have e1 : ((List.range G.n).filter fun j => (m.testBit j && r.testBit j) && G.sees i j) = (((List.range G.n).filter r.testBit).filter fun j => m.testBit j && G.sees i j) := by
      rw [List.filter_filter]
      apply List.filter_congr
      intro j _
      cases m.testBit j <;> cases r.testBit j <;> cases G.sees i j <;> rfl
    rw [e1]
    refine List.filter_sublist.trans ?_
    rw [← filter_range hi r.testBit]
    have e2 : ((List.range 8).filter fun j => decide (j < G.n) && r.testBit j) = (((List.range 8).filter r.testBit).filter fun j => decide (j < G.n)) := by
      rw [List.filter_filter]
    rw [e2]
    exact List.filter_sublist
  exact s.length_le
theorem lasts (G : Gr) {m f : Nat} (hm : m < 2 ^ G.n) (hf : f ≤ sz m) : so G (f + 1) m = decide ((keptL G m f).length = (lostL G m f).length) := by
  have hi := G.hi
  rw [Bool.eq_iff_iff, decide_eq_true_eq]
  unfold keptL
  rw [List.length_filter_eq_length_iff]
  constructor
  · intro h r hr
    have hr2 := (List.mem_filter.mp hr).2
    unfold lostP at hr2
    rw [Bool.and_eq_true, decide_eq_true_eq] at hr2
    unfold so at h ⊢
    rw [List.all_eq_true] at h ⊢
    intro i hi'
    have h1 := of_decide_eq_true (h i hi')
    have h2 := cnt_split G m r i
    have h3 := row_in_sz (G := G) m r i
    exact decide_eq_true (by omega)
  · intro h
    unfold so
    rw [List.all_eq_true]
    intro i hi'
    apply decide_eq_true
    apply Classical.byContradiction
    intro hc
    -- all watchers of i fail
    let A := (mem m).filter fun j => G.sees i j
    let B := (mem m).filter fun j => !G.sees i j
    have hA : A.length = cnt G m i := by
      show ((mem m).filter fun j => G.sees i j).length = _
      unfold cnt Gr.row
      rw [mem_n hi hm, List.filter_filter, List.filter_filter]
      congr 1
      apply List.filter_congr
      intro j _
      exact Bool.and_comm _ _
    have hAB : (A ++ B).Perm (mem m) := List.filter_append_perm _ _
    let L := (A ++ B).take f
    have hl : (A ++ B).length = sz m := hAB.length_eq
    have hL : L.length = f := by rw [List.length_take, hl]; omega
    have hsub : ∀ x ∈ L, x ∈ mem m := fun x hx => hAB.subset (List.mem_of_mem_take hx)
    have hnd : L.Nodup := (hAB.nodup_iff.mpr (mem_nodup m)).sublist (List.take_sublist _ _)
    have hAL : ∀ x ∈ A, x ∈ L := fun x hx => by
      show x ∈ (A ++ B).take f
      rw [List.take_append]
      refine List.mem_append_left _ ?_
      rw [List.take_of_length_le (by omega)]
      exact hx
    have hr := h (msk L) (List.mem_filter.mpr ⟨mem_order.mpr (Nat.lt_pow_two_of_testBit _ fun j hj => by
      rw [msk_bit, decide_eq_false_iff_not]
      intro z
      have := mem_lt hm (hsub j z)
      omega), by
      unfold lostP
      rw [Bool.and_eq_true, decide_eq_true_eq, sz_msk_list (fun x hx => ((mem_bit m x).mp (hsub x hx)).1) hnd]
      refine ⟨ins_iff.mpr fun j hj => ?_, hL⟩
      rw [msk_bit, decide_eq_true_eq] at hj
      exact ((mem_bit m j).mp (hsub j hj)).2⟩)
    unfold so at hr
    rw [List.all_eq_true] at hr
    have h1 := of_decide_eq_true (hr i hi')
    have h0 : cnt G (sub m (msk L)) i = 0 := by
      unfold cnt
      rw [List.length_eq_zero_iff, List.filter_eq_nil_iff]
      intro j hj hb
      rw [sub_bit, msk_bit, Bool.and_eq_true] at hb
      have hjm : j ∈ mem m := (mem_bit m j).mpr ⟨by have := row_lt hj; omega, hb.1⟩
      have := hAL j (List.mem_filter.mpr ⟨hjm, (List.mem_filter.mp hj).2⟩)
      rw [decide_eq_true this] at hb
      simp at hb
    omega
end K49
set_option maxRecDepth 100000
/-! K49b: the weakest, the least sets, the counts. -/
namespace K49
open PySem Dl Py R Bb PySem.W
set_option autoImplicit false
local macro_rules | `(tactic| walk_at "ev") => `(tactic| try simp only [ok_bind, err_bind, ifT_t, ifT_f, bindC_nx, bindC_rt, bindC_err, A1_ok, A2_ok, A3_ok, A4_ok, A5_ok, A6_ok, A1_err, A2_err, A2_err2, consM_ok, tvM_b, andM_t, andM_f, orM_t, orM_f, notM_b, notV_b, andV_b, orV_b, ifM_b, chain_ok, chain3_ok, tup0, tup1, tup2, tup3, tup4, lst0, lst1, lst2, lst3, lst4, lst5, lst6, seqM_l, seqM_t, told_ok, told_err, add_i, sub_i, neg_i, int_i, int_b, eq_i, ne_i, lt_i, le_i, gt_i, ge_i, len_l, len_t, ix_l, ix_t, opt_some, min2_i, max2_i, tuple_l, tuple_t, list_l, list_t, isLM_l, atD0, atD1, atD2, if_true, if_false, Bool.not_true, Bool.not_false, X1, X2, X3, X2l, Ln1, Ln2, Ln3, Ln4, ls, consX, tupX, lstX, tvX, andX, orX, notX, andVX, orVX, ifX, asB, Bool.false_eq_true, ↓reduceIte, ifl1, ifl2, ifl3, ifl4, seqM_tN, seqM_lN, exN_m, exN_r, exN_l, ixG0, ixG1, check_eq, members_eq, size_eq, band_n, bor_n, bxor_n, shr_n, inv_n, bandInv_n, band1, lenM_eM, List.length_map])
/-! ### the weakest -/
def wm (G : Gr) (m i : Nat) : Nat := msk (G.row i) &&& m
theorem wm_lt (G : Gr) {m : Nat} (hm : m < 2 ^ G.n) (i : Nat) : wm G m i < 256 := Nat.lt_of_le_of_lt Nat.and_le_right (lt256 G.hi hm)
def wl (G : Gr) (m : Nat) : List Nat := (List.range G.n).map (wm G m)
def wk (G : Gr) (m : Nat) : R D := (minM (.list ((wl G m).map fun r => eN (sz r)))).bind fun v => tupM (consM (.ok v) (consM (A1 minM (lcM (.ok ((wl G m).map eM)) (fun x_ => some x_) (fun b8 => tvM (A2 eqM (lenM b8) (.ok v))) (fun b8 => .ok b8))) (.ok [])))
theorem wl_len (G : Gr) (m : Nat) : (wl G m).length ≤ 8 := by unfold wl; simp; exact G.hi
theorem weak_eq (G : Gr) {m : Nat} (hm : m < 2 ^ G.n) : py_weakest G.enc (eM m) = wk G m := by
  have hi := G.hi
  unfold py_weakest
  walk_at "ev"
  rw [places_mem G hm, seen_eq, maskOf_mem (lt256 G.hi hm)]
  unfold rowD
  walk_at "ev"
  rw [lc_map (enc := fun i => eN (msk (G.row i))) (fun i => eN (msk (G.row i))) (fun i => eM (wm G m i)) (small (k := 8) (by simpa using hi)) (fun _ _ => rfl) (fun i hi' => by walk_at "ev"; rfl)]
  walk_at "ev"
  rw [show ((List.range G.n).map fun i => eM (wm G m i)) = (wl G m).map eM from by unfold wl; rw [List.map_map]; rfl]
  rw [lc_map (enc := eM) eM (fun r => eN (sz r)) (small (wl_len G m)) (fun _ _ => rfl) (fun r hr => by walk_at "ev")]
  rfl
theorem ints_map {ι : Type} (f : ι → Nat) (xs : List ι) : (xs.map fun x => eN (f x)) = (xs.map fun x => (f x : Int)).map Datum.toD := by rw [List.map_map]; rfl
/-- what the weakest gives is a datum of few signs -/
theorem wk_ok (G : Gr) {m : Nat} (hm : m < 2 ^ G.n) : ∃ v d, minM (.list ((wl G m).map fun r => eN (sz r))) = .ok v ∧ tupM (consM (.ok v) (consM (A1 minM (lcM (.ok ((wl G m).map eM)) (fun x_ => some x_) (fun b8 => tvM (A2 eqM (lenM b8) (.ok v))) (fun b8 => .ok b8))) (.ok []))) = .ok d ∧ Em d := by
  have lo := G.lo
  have hne : ∃ r rs, wl G m = r :: rs := by
    cases e : wl G m with
    | nil =>
      have : (wl G m).length = G.n := by unfold wl; simp
      rw [e] at this; simp at this; omega
    | cons r rs => exact ⟨r, rs, rfl⟩
  obtain ⟨r, rs, e⟩ := hne
  have hmin : minM (.list ((wl G m).map fun r => eN (sz r))) = .ok (Datum.toD (minOf (sz r : Int) (rs.map fun x => (sz x : Int)))) := by
    rw [ints_map, e, List.map_cons, min_l _ _ (by decide)]
  have hmem := min_mem (sz r : Int) (rs.map fun x => (sz x : Int))
  generalize minOf (sz r : Int) (rs.map fun x => (sz x : Int)) = v at *
  have hv : ∃ r0 ∈ wl G m, (sz r0 : Int) = v := by
    rw [e]
    rcases List.mem_cons.mp hmem with h | h
    · exact ⟨r, List.mem_cons_self, h.symm⟩
    · obtain ⟨x, hx, hh⟩ := List.mem_map.mp h
      exact ⟨x, List.mem_cons_of_mem _ hx, hh⟩
  refine ⟨.int v, ?_⟩
  rw [lc_eq (enc := eM) eM (fun r => decide ((sz r : Int) = v)) eM (small (wl_len G m)) (fun _ _ => rfl) (fun r hr => by walk_at "ev") (fun r hr _ => rfl)]
  obtain ⟨r0, h0, h1⟩ := hv
  have hm0 : r0 ∈ (wl G m).filter fun r => decide ((sz r : Int) = v) := List.mem_filter.mpr ⟨h0, decide_eq_true h1⟩
  cases e2 : (wl G m).filter fun r => decide ((sz r : Int) = v) with
  | nil => rw [e2] at hm0; simp at hm0
  | cons y ys =>
    walk_at "ev"
    rw [map_eM, List.map_cons, min_l _ _ (by decide)]
    walk_at "ev"
    refine ⟨_, hmin, rfl, Em_tup2 (by rw [← h1]; exact Ee_n (by have := mem_len r0; unfold sz; omega)) ?_⟩
    have := min_mem (tI y) (ys.map tI)
    rw [← List.map_cons] at this
    obtain ⟨z, _, hz⟩ := List.mem_map.mp this
    rw [← hz, eM_d]
    exact Ee_mem z
/-! ### the least sets -/
def lst (G : Gr) (m : Nat) : Bool := so G 1 m && !(mem m).any fun p => so G 1 (m ^^^ 2 ^ p)
def lsO (G : Gr) : List Nat := (order G.n).filter (lst G)
theorem so0 (G : Gr) : so G 1 0 = false := by
  have lo := G.lo
  cases e : so G 1 0 with
  | false => rfl
  | true =>
    unfold so at e
    rw [List.all_eq_true] at e
    have := of_decide_eq_true (e 0 (List.mem_range.mpr lo))
    have h0 : (G.row 0).filter (0 : Nat).testBit = [] := by rw [List.filter_eq_nil_iff]; intro j _; simp
    unfold cnt at this
    rw [h0] at this
    simp at this
theorem lst_ok {G : Gr} {m : Nat} (h : m ∈ lsO G) : m ≠ 0 ∧ m < 256 := by
  have h2 := List.mem_filter.mp h
  refine ⟨?_, lt256 G.hi (mem_order.mp h2.1)⟩
  rintro rfl
  have h3 := h2.2
  unfold lst at h3
  rw [so0] at h3
  simp at h3
def lsS (G : Gr) : List Nat := sortM (lsO G)
theorem lsS_len (G : Gr) : (lsS G).length ≤ 256 := by
  unfold lsS
  rw [(sortM_perm _).length_eq]
  exact Nat.le_trans (List.length_filter_le _ _) (order_len8 G.hi)
theorem lsS_ok {G : Gr} {m : Nat} (h : m ∈ lsS G) : m ≠ 0 ∧ m < 256 := lst_ok ((sortM_perm _).subset h)
theorem least_eq (G : Gr) : py_least_sets G.enc = .ok (.list ((lsS G).map eM)) := by
  have hi := G.hi
  have h256 := pow_le hi
  unfold py_least_sets
  walk_at "ev"
  rw [seen_eq]
  walk_at "ev"
  rw [shl_n _ (by omega)]
  walk_at "ev"
  rw [rng1_n _ (by omega), range0]
  walk_at "ev"
  refine forF_bind (enc := eN) eN (fun don a => a = .list ((don.filter (lst G)).map eM)) _ (fun _ _ => rfl) rfl ?_ ?_
  · rintro don m rest a hs rfl
    obtain ⟨rfl, hm⟩ := range_split hs
    have hlen : (don.filter (lst G)).length ≤ 256 := Nat.le_trans (List.length_filter_le _ _) (by omega)
    refine ⟨_, ?_, rfl⟩
    generalize don.length = m at *
    rw [show (.int 1 : D) = eN 1 from rfl, show rowD G.n (fun i => eN (msk (G.row i))) = smD G from rfl, often_eq]
    walk_at "ev"
    rw [lc_map (enc := eN) eN (fun p => .bool (so G 1 (m ^^^ 2 ^ p))) (small (k := 8) (mem_len m)) (fun _ _ => rfl) (fun p hp => ?_)]
    · walk_at "ev"
      rw [show ((mem m).map fun p => PyData.bool (so G 1 (m ^^^ 2 ^ p))) = ((mem m).map fun p => so G 1 (m ^^^ 2 ^ p)).map PyData.bool from by rw [List.map_map]; rfl, any_b, List.any_map]
      walk_at "ev"
      rw [List.filter_append, List.map_append]
      have el : lst G m = (so G 1 m && !(mem m).any (id ∘ fun p => so G 1 (m ^^^ 2 ^ p))) := rfl
      cases h1 : so G 1 m with
      | false =>
        rw [h1, Bool.false_and] at el
        walk_at "ev"
        rw [List.filter_cons_of_neg (by simp [el])]
        simp
      | true =>
        rw [h1, Bool.true_and] at el
        cases h2 : (mem m).any (id ∘ fun p => so G 1 (m ^^^ 2 ^ p)) with
        | true =>
          rw [h2] at el
          walk_at "ev"
          rw [List.filter_cons_of_neg (by simp [el])]
          simp
        | false =>
          rw [h2] at el
          walk_at "ev"
          rw [apL_l _ _ (by rw [List.length_map]; exact small (k := 257) (by omega))]
          walk_at "ev"
          rw [List.filter_cons_of_pos el]
          rfl
    · have hp8 := ((mem_bit m p).mp hp).1
      rw [show (eN 1 : D) = .int 1 from rfl, shl_n p (by omega)]
      walk_at "ev"
      exact often_eq G (m ^^^ 2 ^ p) 1
  · rintro a rfl
    walk_at "ev"
    have hp : ((List.range (2 ^ G.n)).filter (lst G)).Perm (lsO G) := ((order_perm G.n).filter _).symm
    rw [sortedM_eM _ fun m hm => lst_ok (hp.subset hm), sortM_same hp fun m hm => (lst_ok (hp.subset hm)).2]
    rfl
/-- a least set there is -/
theorem least_ex (G : Gr) : ∃ m, m ∈ lsO G := by
  have hi := G.hi
  have key : ∀ (k m : Nat), m < 2 ^ G.n → sz m ≤ k → so G 1 m = true → ∃ r, r < 2 ^ G.n ∧ lst G r = true := by
    intro k
    induction k with
    | zero =>
      intro m hm hk hs
      have : mem m = [] := List.eq_nil_of_length_eq_zero (by unfold sz at hk; omega)
      exact ⟨m, hm, by unfold lst; rw [hs, this]; rfl⟩
    | succ k ih =>
      intro m hm hk hs
      cases ha : (mem m).any fun p => so G 1 (m ^^^ 2 ^ p) with
      | false => exact ⟨m, hm, by unfold lst; rw [hs, ha]; rfl⟩
      | true =>
        obtain ⟨p, hp, hps⟩ := List.any_eq_true.mp ha
        refine ih _ (xor_lt hm (mem_lt hm hp)) ?_ hps
        unfold sz at hk ⊢
        rw [mem_del hp]
        have h1 := filter_split (mem m) fun k => decide (k ≠ p)
        have h2 : 0 < ((mem m).filter fun x => !decide (x ≠ p)).length := List.length_pos_iff.mpr (List.ne_nil_of_mem (List.mem_filter.mpr ⟨hp, by simp⟩))
        omega
  have hf : so G 1 (2 ^ G.n - 1) = true := by rw [so1]; exact sees_full G
  obtain ⟨r, h1, h2⟩ := key 8 _ (by have := Nat.two_pow_pos G.n; omega) (mem_len _) hf
  exact ⟨r, List.mem_filter.mpr ⟨mem_order.mpr h1, h2⟩⟩
def inAll (G : Gr) : List Nat := (List.range G.n).filter fun p => (lsS G).all fun m => m.testBit p
theorem inAll_eq (G : Gr) : py_in_all G.enc = .ok (lN (inAll G)) := by
  have hi := G.hi
  unfold py_in_all
  walk_at "ev"
  rw [least_eq]
  walk_at "ev"
  rw [rng1_n _ (by omega), range0]
  rw [lc_eq (enc := eN) eN (fun p => (lsS G).all fun m => m.testBit p) eN (small (k := 8) (by simpa using hi)) (fun _ _ => rfl) (fun p hp => ?_) (fun _ _ _ => rfl)]
  · rfl
  · have hp := List.mem_range.mp hp
    rw [lc_map (enc := eM) eM (fun m => .bool (m.testBit p)) (small (lsS_len G)) (fun _ _ => rfl) (fun m _ => inN p m (by omega))]
    walk_at "ev"
    rw [show ((lsS G).map fun m => PyData.bool (m.testBit p)) = ((lsS G).map fun m => m.testBit p).map PyData.bool from by rw [List.map_map]; rfl, all_b, List.all_map]
    rfl
end K49
set_option maxRecDepth 100000
/-! K49c: the counts, the most that are needed. -/
namespace K49
open PySem Dl Py R Bb PySem.W
set_option autoImplicit false
local macro_rules | `(tactic| walk_at "ev") => `(tactic| try simp only [ok_bind, err_bind, ifT_t, ifT_f, bindC_nx, bindC_rt, bindC_err, A1_ok, A2_ok, A3_ok, A4_ok, A5_ok, A6_ok, A1_err, A2_err, A2_err2, consM_ok, tvM_b, andM_t, andM_f, orM_t, orM_f, notM_b, notV_b, andV_b, orV_b, ifM_b, chain_ok, chain3_ok, tup0, tup1, tup2, tup3, tup4, lst0, lst1, lst2, lst3, lst4, lst5, lst6, seqM_l, seqM_t, told_ok, told_err, add_i, sub_i, neg_i, int_i, int_b, eq_i, ne_i, lt_i, le_i, gt_i, ge_i, len_l, len_t, ix_l, ix_t, opt_some, min2_i, max2_i, tuple_l, tuple_t, list_l, list_t, isLM_l, atD0, atD1, atD2, if_true, if_false, Bool.not_true, Bool.not_false, X1, X2, X3, X2l, Ln1, Ln2, Ln3, Ln4, ls, consX, tupX, lstX, tvX, andX, orX, notX, andVX, orVX, ifX, asB, Bool.false_eq_true, ↓reduceIte, ifl1, ifl2, ifl3, ifl4, seqM_tN, seqM_lN, exN_m, exN_r, exN_l, ixG0, ixG1, check_eq, members_eq, size_eq, band_n, bor_n, bxor_n, shr_n, inv_n, bandInv_n, band1, lenM_eM, List.length_map])
def cS (G : Gr) (k : Nat) : Nat := ((order G.n).filter fun m => decide (sz m = k) && so G 1 m).length
theorem cS_le (G : Gr) (k : Nat) : cS G k ≤ 256 := Nat.le_trans (List.length_filter_le _ _) (order_len8 G.hi)
theorem count_eq (G : Gr) {k : Nat} (hk : k ≤ G.n) : py_count_sets G.enc (eN k) = .ok (eN (cS G k)) := by
  have hi := G.hi
  have h256 := pow_le hi
  unfold py_count_sets
  walk_at "ev"
  rw [decide_eq_true (by omega : (0 : Int) ≤ k), decide_eq_true (by omega : (k : Int) ≤ G.n), seen_eq]
  walk_at "ev"
  rw [shl_n _ (by omega)]
  walk_at "ev"
  rw [rng1_n _ (by omega), range0]
  rw [lc_eq (enc := eN) eN (fun m => decide (sz m = k) && so G 1 m) eN (small (k := 256) (by simpa using h256)) (fun _ _ => rfl) (fun m hm => ?_) (fun m hm _ => rfl)]
  · walk_at "ev"
    rw [len_order]; rfl
  · walk_at "ev"
    rw [show rowD G.n (fun i => eN (msk (G.row i))) = smD G from rfl, show (.int 1 : D) = eN 1 from rfl, often_eq]
    walk_at "ev"
    rw [andM_bb]
    congr 2
    exact decide_eq_decide.mpr (by omega)
theorem count_bad (G : Gr) {k : Nat} (hk : G.n < k) : py_count_sets G.enc (eN k) = .err .refused := by
  unfold py_count_sets
  walk_at "ev"
  rw [decide_eq_true (by omega : (0 : Int) ≤ k), decide_eq_false (by omega : ¬ (k : Int) ≤ G.n)]
  walk_at "ev"
theorem mem_len_n {m n : Nat} (hn : n ≤ 8) (hm : m < 2 ^ n) : sz m ≤ n := by
  unfold sz
  rw [mem_n hn hm]
  exact Nat.le_trans (List.length_filter_le _ _) (by simp)
theorem counts_eq (G : Gr) : py_all_counts G.enc = .ok (.tuple ((List.range (G.n + 1)).map fun k => eN (cS G k))) := by
  have hi := G.hi
  have h256 := pow_le hi
  unfold py_all_counts
  walk_at "ev"
  rw [seen_eq]
  walk_at "ev"
  rw [show (.int ((G.n : Int) + 1) : D) = eN (G.n + 1) from rfl, rep_row _ (by omega), shl_n _ (by omega)]
  walk_at "ev"
  rw [rng1_n _ (by omega), range0]
  walk_at "ev"
  refine forF_bind (enc := eN) eN (fun don a => a = rowD (G.n + 1) fun k => eN ((don.filter fun m => decide (sz m = k) && so G 1 m).length)) _ (fun _ _ => rfl) rfl ?_ ?_
  · rintro don m rest a hs rfl
    obtain ⟨rfl, hm⟩ := range_split hs
    have hd : don.length ≤ 256 := by omega
    generalize hmm : don.length = m at *
    have hsz := mem_len_n hi hm
    refine ⟨rowD (G.n + 1) fun k => eN (((don ++ [m]).filter fun m => decide (sz m = k) && so G 1 m).length), ?_, rfl⟩
    rw [show rowD G.n (fun i => eN (msk (G.row i))) = smD G from rfl, show py_sees_often (smD G) (eN m) (.int 1) = _ from often_eq G m 1]
    walk_at "ev"
    cases h1 : so G 1 m with
    | false =>
      walk_at "ev"
      congr 2
      funext k
      rw [List.filter_append, List.filter_cons_of_neg (by simp [h1])]
      simp
    | true =>
      walk_at "ev"
      rw [ix_row _ (by omega)]
      walk_at "ev"
      rw [show (.int (((don.filter fun x => decide (sz x = sz m) && so G 1 x).length : Int) + 1) : D) = eN ((don.filter fun x => decide (sz x = sz m) && so G 1 x).length + 1) from rfl, set_row _ _ (by omega)]
      walk_at "ev"
      congr 2
      funext k
      rw [List.filter_append, List.length_append]
      by_cases e : k = sz m
      · subst e
        rw [if_pos rfl, List.filter_cons_of_pos (by simp [h1])]
        simp
      · rw [if_neg e, List.filter_cons_of_neg (by simp; intro z; exact absurd z.symm e)]
        simp
  · rintro a rfl
    unfold rowD
    walk_at "ev"
    congr 2
    apply List.map_congr_left
    intro k _
    unfold cS
    rw [len_order]
/-! ### the most that are needed -/
theorem max_of (x : Int) (xs : List Int) : maxOf x xs ∈ x :: xs ∧ ∀ y ∈ x :: xs, y ≤ maxOf x xs := by
  induction xs generalizing x with
  | nil => exact ⟨List.mem_cons_self, fun y hy => by simp at hy; subst hy; exact Int.le_refl _⟩
  | cons z xs ih =>
    have e : maxOf x (z :: xs) = maxOf (if DatumOrd.lt x z = true then z else x) xs := rfl
    rw [e]
    by_cases h : DatumOrd.lt x z = true
    · rw [if_pos h]
      have h' : x < z := of_decide_eq_true h
      obtain ⟨h1, h2⟩ := ih z
      refine ⟨List.mem_cons_of_mem _ h1, fun y hy => ?_⟩
      rcases List.mem_cons.mp hy with rfl | hy
      · have := h2 z List.mem_cons_self; omega
      · exact h2 y hy
    · rw [if_neg h]
      have h' : ¬ x < z := fun q => h (decide_eq_true q)
      obtain ⟨h1, h2⟩ := ih x
      refine ⟨?_, fun y hy => ?_⟩
      · rcases List.mem_cons.mp h1 with e | e
        · rw [e]; exact List.mem_cons_self
        · exact List.mem_cons_of_mem _ (List.mem_cons_of_mem _ e)
      · rcases List.mem_cons.mp hy with rfl | hy
        · exact h2 y List.mem_cons_self
        · rcases List.mem_cons.mp hy with rfl | hy
          · have := h2 x List.mem_cons_self; omega
          · exact h2 y (List.mem_cons_of_mem _ hy)
/-- the greatest size -/
theorem maxSz {ms : List Nat} (h : ms ≠ []) : ∃ k : Nat, maxM (.list (ms.map fun m => eN (sz m))) = .ok (eN k) ∧ (∃ m ∈ ms, sz m = k) ∧ ∀ m ∈ ms, sz m ≤ k := by
  cases ms with
  | nil => exact absurd rfl h
  | cons x xs =>
    have e : maxM (.list ((x :: xs).map fun m => eN (sz m))) = .ok (Datum.toD (maxOf (sz x : Int) (xs.map fun x => (sz x : Int)))) := by
      rw [ints_map, List.map_cons, max_l _ _ (by decide)]
    obtain ⟨h1, h2⟩ := max_of (sz x : Int) (xs.map fun x => (sz x : Int))
    rw [← List.map_cons (f := fun x => (sz x : Int))] at h1 h2
    obtain ⟨m, hm, hk⟩ := List.mem_map.mp h1
    refine ⟨sz m, by rw [e, ← hk]; rfl, ⟨m, hm, rfl⟩, fun y hy => ?_⟩
    have := h2 _ (List.mem_map_of_mem hy)
    rw [← hk] at this
    omega
theorem lsS_ne (G : Gr) : lsS G ≠ [] := by
  obtain ⟨m, hm⟩ := least_ex G
  intro e
  have := (sortM_perm (lsO G)).symm.subset hm
  rw [show sortM (lsO G) = lsS G from rfl, e] at this
  simp at this
theorem mostN_eq (G : Gr) : ∃ (k m : Nat) (ms : List Nat), (∃ m ∈ lsS G, sz m = k) ∧ (∀ m ∈ lsS G, sz m ≤ k) ∧ (lsS G).filter (fun m => decide (sz m = k)) = m :: ms ∧ py_most_needed G.enc = .ok (.tuple [eN k, eM m]) := by
  obtain ⟨k, e, ⟨m0, hm0, hk⟩, hle⟩ := maxSz (lsS_ne G)
  have hm : m0 ∈ (lsS G).filter fun m => decide (sz m = k) := List.mem_filter.mpr ⟨hm0, decide_eq_true hk⟩
  cases hc : (lsS G).filter fun m => decide (sz m = k) with
  | nil => rw [hc] at hm; simp at hm
  | cons m ms =>
    refine ⟨k, m, ms, ⟨m0, hm0, hk⟩, hle, hc, ?_⟩
    unfold py_most_needed
    walk_at "ev"
    rw [least_eq]
    walk_at "ev"
    rw [lc_map (enc := eM) eM (fun m => eN (sz m)) (small (lsS_len G)) (fun _ _ => rfl) (fun m _ => by walk_at "ev"), A1_ok, e]
    walk_at "ev"
    rw [lc_eq (enc := eM) eM (fun m => decide (sz m = k)) eM (small (lsS_len G)) (fun _ _ => rfl) (fun m _ => by
      walk_at "ev"
      congr 1
      exact decide_eq_decide.mpr (by omega)) (fun _ _ _ => rfl), hc]
    walk_at "ev"
    rw [List.map_cons, atD0]
    walk_at "ev"
end K49
set_option maxRecDepth 100000
/-! K49k: the law's rows. -/
namespace K49
open PySem Dl Py R Bb PySem.W
set_option autoImplicit false
local macro_rules | `(tactic| walk_at "ev") => `(tactic| try simp only [ok_bind, err_bind, ifT_t, ifT_f, bindC_nx, bindC_rt, bindC_err, A1_ok, A2_ok, A3_ok, A4_ok, A5_ok, A6_ok, A1_err, A2_err, A2_err2, consM_ok, tvM_b, andM_t, andM_f, orM_t, orM_f, notM_b, notV_b, andV_b, orV_b, ifM_b, chain_ok, chain3_ok, tup0, tup1, tup2, tup3, tup4, lst0, lst1, lst2, lst3, lst4, lst5, lst6, seqM_l, seqM_t, told_ok, told_err, add_i, sub_i, neg_i, int_i, int_b, eq_i, ne_i, lt_i, le_i, gt_i, ge_i, len_l, len_t, ix_l, ix_t, opt_some, min2_i, max2_i, tuple_l, tuple_t, list_l, list_t, isLM_l, atD0, atD1, atD2, if_true, if_false, Bool.not_true, Bool.not_false, X1, X2, X3, X2l, Ln1, Ln2, Ln3, Ln4, ls, consX, tupX, lstX, tvX, andX, orX, notX, andVX, orVX, ifX, asB, Bool.false_eq_true, ↓reduceIte, ifl1, ifl2, ifl3, ifl4, seqM_tN, seqM_lN, exN_m, exN_r, exN_l, ixG0, ixG1, check_eq, members_eq, size_eq, band_n, bor_n, bxor_n, shr_n, inv_n, bandInv_n, band1, lenM_eM, List.length_map])
theorem eq_nil (ms : List Nat) : eqM (.list (ms.map eM)) (.list []) = .ok (.bool (decide (ms = []))) := by
  rw [map_eM]
  refine (eq_d (ms.map tI) [] (by decide)).trans ?_
  congr 2
  exact decide_eq_decide.mpr (by simp)
theorem rows_lt {G : Gr} {k m : Nat} (h : m ∈ rows G k) : m < 2 ^ G.n := mem_order.mp (List.mem_filter.mp h).1
theorem rows_len (G : Gr) (k : Nat) : (rows G k).length ≤ 256 := Nat.le_trans (List.length_filter_le _ _) (order_len8 G.hi)
theorem in_rows {G : Gr} {m : Nat} (h : m < 2 ^ G.n) : inM (eM m) (.list ((rows G 1).map eM)) = .ok (.bool (so G 1 m)) := by
  rw [inSets (lt256 G.hi h) (fun j hj => lt256 G.hi (rows_lt hj))]
  congr 2
  rw [Bool.eq_iff_iff, decide_eq_true_eq]
  exact ⟨fun h => (List.mem_filter.mp h).2, fun hs => List.mem_filter.mpr ⟨mem_order.mpr h, hs⟩⟩
theorem fold_same (G : Gr) {k : Nat} (h : 1 ≤ k ∧ k ≤ 3) : A2 py__law_same (toldM (py_fewest_often G.enc (eN k)))
    (A2 ixM (lstM (consM (tupM (consM (.ok (PyData.str (Str.ofString "told"))) (consM (A2 ixM (addM (.list ((rows G k).map eM)) (PyData.list [PyData.int 0])) (.ok (PyData.int 0))) (.ok [])))) (.ok [PyData.tuple [PyData.str (Str.ofString "missing")]])))
      (A1 intM (eqM (.list ((rows G k).map eM)) (PyData.list [])))) = .ok (.bool true) := by
  rw [fewest_eq G h, eq_nil, add_l _ _ (by rw [List.length_map]; exact small (k := 300) (by have := rows_len G k; simp; omega))]
  unfold few
  cases hr : rows G k with
  | nil =>
    walk_at "ev"
    exact same_l Em_missing.l
  | cons m ms =>
    walk_at "ev"
    rw [List.map_cons, List.cons_append, atD0]
    walk_at "ev"
    rw [decide_eq_false (by simp : ¬ (m :: ms = []))]
    walk_at "ev"
    exact same_l (Ee_mem m).told.l
theorem lost_lc (G : Gr) {m f : Nat} (hm : m < 2 ^ G.n) : lcM (.ok ((order G.n).map eM)) (fun x_ => some x_) (fun b24 => andM (tvM (A2 eqM (lenM b24) (.ok (eN f)))) (tvM (A2 eqM (A1 lenM (lcM (seqM (.ok b24)) (fun x_ => some x_) (fun b25 => tvM (ninM b25 (eM m))) fun b9 => .ok b9)) (.ok (PyData.int 0))))) (fun b9 => .ok b9) = .ok (.list ((lostL G m f).map eM)) := by
  have hi := G.hi
  rw [lc_eq (enc := eM) eM (lostP m f) eM (small (order_len8 hi)) (fun _ _ => rfl) (fun r hr => ?_) (fun m hm _ => rfl)]
  · rfl
  · walk_at "ev"
    rw [lc_eq (enc := eN) eN (fun j => !m.testBit j) eN (small (k := 8) (mem_len r)) (fun _ _ => rfl) (fun j hj => by rw [ninN j m ((mem_bit r j).mp hj).1]; rfl) (fun m hm _ => rfl)]
    walk_at "ev"
    rw [andM_bb]
    congr 1
    unfold lostP
    rw [Bool.and_comm]
    congr 1
    · rw [Bool.eq_iff_iff, decide_eq_true_eq, ins_iff]
      constructor
      · intro h j hj
        have h0 : (mem r).filter (fun j => !m.testBit j) = [] := List.eq_nil_of_length_eq_zero (by omega)
        rw [List.filter_eq_nil_iff] at h0
        have hj8 : j < 8 := by
          have hr8 := order256 hr
          by_cases q : j < 8
          · exact q
          · rw [Nat.testBit_lt_two_pow (Nat.lt_of_lt_of_le hr8 (Nat.pow_le_pow_right (by decide) (by omega) : 2 ^ 8 ≤ 2 ^ j))] at hj
            cases hj
        simpa using h0 j ((mem_bit r j).mpr ⟨hj8, hj⟩)
      · intro h
        have h0 : (mem r).filter (fun j => !m.testBit j) = [] := by
          rw [List.filter_eq_nil_iff]
          intro j hj
          simp [h j ((mem_bit r j).mp hj).2]
        rw [h0]; rfl
    · exact decide_eq_decide.mpr (by omega)
theorem lost_len (G : Gr) (m f : Nat) : (lostL G m f).length ≤ 256 := Nat.le_trans (List.length_filter_le _ _) (order_len8 G.hi)
theorem kept_lc (G : Gr) {m f : Nat} (hm : m < 2 ^ G.n) : lcM (.ok ((lostL G m f).map eM)) (fun x_ => some x_) (fun b27 => tvM (A2 inM (A1 tupleM (lcM (.ok ((mem m).map eN)) (fun x_ => some x_) (fun b28 => tvM (ninM b28 b27)) fun b9 => .ok b9)) (.ok (.list ((rows G 1).map eM))))) (fun b9 => .ok b9) = .ok (.list ((keptL G m f).map eM)) := by
  have hi := G.hi
  rw [lc_eq (enc := eM) eM (fun r => so G 1 (sub m r)) eM (small (lost_len G m f)) (fun _ _ => rfl) (fun r hr => ?_) (fun m hm _ => rfl)]
  · rfl
  · rw [lc_eq (enc := eN) eN (fun j => !r.testBit j) eN (small (k := 8) (mem_len m)) (fun _ _ => rfl) (fun j hj => by rw [ninN j r ((mem_bit m j).mp hj).1]; rfl) (fun m hm _ => rfl)]
    walk_at "ev"
    rw [← mem_sub, show PyData.tuple ((mem (sub m r)).map eN) = eM (sub m r) from rfl, in_rows (sub_lt hm)]
    walk_at "ev"
theorem mem_and {n : Nat} (h : n ≤ 8) (p : Nat → Bool) (m : Nat) : mem (msk ((List.range n).filter p) &&& m) = ((List.range n).filter p).filter m.testBit := by
  unfold mem
  rw [List.filter_filter, ← filter_range h fun j => m.testBit j && p j]
  apply List.filter_congr
  intro j _
  rw [Nat.testBit_and, msk_bit]
  simp only [List.mem_filter, List.mem_range]
  by_cases hj : j < n <;> simp [hj, Bool.and_comm]
theorem own_lc (G : Gr) {m : Nat} (hm : m < 2 ^ G.n) : lcM (seqM (.ok (seenD G))) (fun x_ => some x_) (fun _ => .ok true) (fun b31 => A1 tupleM (lcM (seqM (.ok b31)) (fun x_ => some x_) (fun b32 => tvM (inM b32 (eM m))) fun b9 => .ok b9)) = .ok (.list ((wl G m).map eM)) := by
  have hi := G.hi
  unfold seenD rowD
  walk_at "ev"
  rw [lc_map (enc := fun i => lN (G.row i)) (fun i => lN (G.row i)) (fun i => eM (wm G m i)) (small (k := 8) (by simpa using hi)) (fun _ _ => rfl) (fun i hi' => ?_)]
  · unfold wl; rw [List.map_map]; rfl
  · walk_at "ev"
    rw [lc_eq (enc := eN) eN m.testBit eN (small (k := 8) (row_len8 G i)) (fun _ _ => rfl) (fun j hj => by rw [inN j m (by have := row_lt hj; omega)]; rfl) (fun m hm _ => rfl)]
    walk_at "ev"
    rw [show (G.row i).filter m.testBit = mem (wm G m i) from (mem_and hi _ m).symm]
    rfl
def mnl (G : Gr) (m : Nat) : Bool := !(mem m).any fun p => so G 1 (m ^^^ 2 ^ p)
theorem lsO_eq (G : Gr) : (rows G 1).filter (mnl G) = lsO G := by
  unfold rows lsO
  rw [List.filter_filter]
  apply List.filter_congr
  intro m _
  exact Bool.and_comm _ _
theorem small_lc (G : Gr) {don : List Nat} {m : Nat} (hm : m < 2 ^ G.n) (hl : don.length < 300) :
    ((lcM (.ok ((mem m).map eN)) (fun x_ => some x_) (fun _ => .ok true) (fun b39 => A1 tupleM (lcM (.ok ((mem m).map eN)) (fun x_ => some x_) (fun b40 => tvM (neM b40 b39)) fun b9 => .ok b9))).bind fun v41 =>
      (tvM (A2 eqM (A1 lenM (lcM (seqM (.ok v41)) (fun x_ => some x_) (fun b42 => tvM (inM b42 (.list ((rows G 1).map eM)))) fun b9 => .ok b9)) (.ok (PyData.int 0)))).bind fun c43 =>
        ifT c43 ((isLM (.list ((don.filter (mnl G)).map eM))).bind fun _ => (apL (.list ((don.filter (mnl G)).map eM)) (eM m)).bind fun b9 => .ok b9) (.ok (.list ((don.filter (mnl G)).map eM)))) = .ok (.list (((don ++ [m]).filter (mnl G)).map eM)) := by
  have hi := G.hi
  rw [lc_map (enc := eN) eN (fun p => eM (m ^^^ 2 ^ p)) (small (k := 8) (mem_len m)) (fun _ _ => rfl) (fun p hp => ?_)]
  · walk_at "ev"
    rw [show ((mem m).map fun p => eM (m ^^^ 2 ^ p)) = ((mem m).map fun p => m ^^^ 2 ^ p).map eM from by rw [List.map_map]; rfl]
    rw [lc_eq (enc := eM) eM (so G 1) eM (small (k := 8) (by rw [List.length_map]; exact mem_len m)) (fun _ _ => rfl) (fun r hr => by
      obtain ⟨p, hp, rfl⟩ := List.mem_map.mp hr
      rw [in_rows (xor_lt hm (mem_lt hm hp))]; rfl) (fun m hm _ => rfl)]
    walk_at "ev"
    have e : decide ((((((mem m).map fun p => m ^^^ 2 ^ p).filter (so G 1)).length : Nat) : Int) = 0) = mnl G m := by
      unfold mnl
      rw [Bool.eq_iff_iff, decide_eq_true_eq]
      simp only [Bool.not_eq_true', List.any_eq_false, Bool.not_eq_true]
      constructor
      · intro h p hp
        have h0 : ((mem m).map fun p => m ^^^ 2 ^ p).filter (so G 1) = [] := List.eq_nil_of_length_eq_zero (by omega)
        rw [List.filter_eq_nil_iff] at h0
        simpa using h0 _ (List.mem_map_of_mem hp)
      · intro h
        have h0 : ((mem m).map fun p => m ^^^ 2 ^ p).filter (so G 1) = [] := by
          rw [List.filter_eq_nil_iff]
          intro r hr
          obtain ⟨p, hp, rfl⟩ := List.mem_map.mp hr
          simp [h p hp]
        rw [h0]; rfl
    rw [e]
    have hd : (don.filter (mnl G)).length ≤ 300 := Nat.le_trans (List.length_filter_le _ _) (by omega)
    rw [List.filter_append, List.map_append]
    cases hw : mnl G m with
    | true =>
      walk_at "ev"
      rw [apL_l _ _ (by rw [List.length_map]; exact small (k := 301) (by omega))]
      walk_at "ev"
      rw [List.filter_cons_of_pos hw]
      rfl
    | false =>
      walk_at "ev"
      rw [List.filter_cons_of_neg (by simp only [hw]; decide)]
      simp
  · rw [lc_eq (enc := eN) eN (fun q => decide (q ≠ p)) eN (small (k := 8) (mem_len m)) (fun _ _ => rfl) (fun q hq => ?_) (fun m hm _ => rfl)]
    · rw [← mem_del hp]
      rfl
    · walk_at "ev"
      congr 1
      rw [← decide_not]
      exact decide_eq_decide.mpr (by omega)
end K49
set_option maxRecDepth 100000
/-! K49m: the law's value. -/
namespace K49
open PySem Dl Py R Bb PySem.W
set_option autoImplicit false
local macro_rules | `(tactic| walk_at "ev") => `(tactic| try simp only [ok_bind, err_bind, ifT_t, ifT_f, bindC_nx, bindC_rt, bindC_err, A1_ok, A2_ok, A3_ok, A4_ok, A5_ok, A6_ok, A1_err, A2_err, A2_err2, consM_ok, tvM_b, andM_t, andM_f, orM_t, orM_f, notM_b, notV_b, andV_b, orV_b, ifM_b, chain_ok, chain3_ok, tup0, tup1, tup2, tup3, tup4, lst0, lst1, lst2, lst3, lst4, lst5, lst6, seqM_l, seqM_t, told_ok, told_err, add_i, sub_i, neg_i, int_i, int_b, eq_i, ne_i, lt_i, le_i, gt_i, ge_i, len_l, len_t, ix_l, ix_t, opt_some, min2_i, max2_i, tuple_l, tuple_t, list_l, list_t, isLM_l, atD0, atD1, atD2, if_true, if_false, Bool.not_true, Bool.not_false, X1, X2, X3, X2l, Ln1, Ln2, Ln3, Ln4, ls, consX, tupX, lstX, tvX, andX, orX, notX, andVX, orVX, ifX, asB, Bool.false_eq_true, ↓reduceIte, ifl1, ifl2, ifl3, ifl4, seqM_tN, seqM_lN, exN_m, exN_r, exN_l, ixG0, ixG1, check_eq, members_eq, size_eq, band_n, bor_n, bxor_n, shr_n, inv_n, bandInv_n, band1, lenM_eM, List.length_map])
theorem r_least {g : D} (h : py_check_graph g = .err .refused) : py_least_sets g = .err .refused := by
  unfold py_least_sets
  rw [A1_ok, h, err_bind]
theorem r_counts {g : D} (h : py_check_graph g = .err .refused) : py_all_counts g = .err .refused := by
  unfold py_all_counts
  rw [A1_ok, h, err_bind]
theorem r_fewest {g d : D} (h : py_check_fold g d = .err .refused) : py_fewest_often g d = .err .refused := by
  unfold py_fewest_often
  rw [A2_ok, h, err_bind]
theorem r_watch {g d p : D} (h : py_check_fold g d = .err .refused) : py_watch_often g d p = .err .refused := by
  unfold py_watch_often
  rw [A2_ok, h, err_bind]
theorem r_weakP {G : Gr} {p : D} (h : py_check_places G.enc p = .err .refused) : py_weakest G.enc p = .err .refused := by
  unfold py_weakest
  walk_at "ev"
  rw [h]
  walk_at "ev"
theorem r_chanceP {G : Gr} {p f : D} (h : py_check_places G.enc p = .err .refused) : py_chance_kept G.enc p f = .err .refused := by
  unfold py_chance_kept
  walk_at "ev"
  rw [h]
  walk_at "ev"
theorem r_out (G : Gr) {m f : Nat} (hm : m < 2 ^ G.n) (hf : sz m < f) : py_outlasts G.enc (eM m) (eN f) = .err .refused := by
  unfold py_outlasts
  walk_at "ev"
  rw [places_mem G hm]
  walk_at "ev"
  rw [decide_eq_true (by omega : (0 : Int) ≤ f), decide_eq_false (by omega : ¬ (f : Int) ≤ sz m)]
  walk_at "ev"
theorem every_lc (G : Gr) : lcM (.ok ((List.range G.n).map eN)) (fun x_ => some x_) (fun b55 => tvM (A2 eqM (A1 lenM (lcM (.ok ((lsO G).map eM)) (fun x_ => some x_) (fun b56 => tvM (ninM b55 b56)) fun b9 => .ok b9)) (.ok (PyData.int 0)))) (fun b9 => .ok b9) = .ok (lN (inAll G)) := by
  have hi := G.hi
  have hlo : (lsO G).length ≤ 256 := Nat.le_trans (List.length_filter_le _ _) (order_len8 hi)
  rw [lc_eq (enc := eN) eN (fun p => (lsS G).all fun m => m.testBit p) eN (small (k := 8) (by simpa using hi)) (fun _ _ => rfl) (fun p hp => ?_) (fun _ _ _ => rfl)]
  · rfl
  · have hp := List.mem_range.mp hp
    rw [lc_eq (enc := eM) eM (fun m => !m.testBit p) eM (small hlo) (fun _ _ => rfl) (fun m _ => by rw [ninN p m (by omega)]; rfl) (fun _ _ _ => rfl)]
    walk_at "ev"
    congr 1
    unfold lsS
    rw [(sortM_perm (lsO G)).all_eq, Bool.eq_iff_iff, decide_eq_true_eq, List.all_eq_true]
    constructor
    · intro h m hm
      have h0 : (lsO G).filter (fun m => !m.testBit p) = [] := List.eq_nil_of_length_eq_zero (by omega)
      rw [List.filter_eq_nil_iff] at h0
      simpa using h0 m hm
    · intro h
      have h0 : (lsO G).filter (fun m => !m.testBit p) = [] := by
        rw [List.filter_eq_nil_iff]
        intro m hm
        simp [h m hm]
      rw [h0]; rfl
theorem counts_lc (G : Gr) : lcM (.ok ((List.range (G.n + 1)).map eN)) (fun x_ => some x_) (fun _ => .ok true) (fun b61 => A1 lenM (lcM (.ok ((rows G 1).map eM)) (fun x_ => some x_) (fun b62 => tvM (A2 eqM (lenM b62) (.ok b61))) fun b9 => .ok b9)) = .ok (rowD (G.n + 1) fun k => eN (cS G k)) := by
  have hi := G.hi
  rw [lc_map (enc := eN) eN (fun k => eN (cS G k)) (small (k := 9) (by simp; omega)) (fun _ _ => rfl) (fun k hk => ?_)]
  · rfl
  · rw [lc_eq (enc := eM) eM (fun m => decide (sz m = k)) eM (small (rows_len G 1)) (fun _ _ => rfl) (fun m _ => by
      walk_at "ev"
      congr 1
      exact decide_eq_decide.mpr (by omega)) (fun _ _ _ => rfl)]
    walk_at "ev"
    unfold cS rows
    rw [List.filter_filter]
theorem law_true : ∀ ns, bitsB 63 ns → py_law (scrD (ns.map PyData.int)) = .ok (.bool true) := by
  intro ns hb
  suffices h : ev (py_law (scrD (ns.map PyData.int))) (fun d => d = .bool true) E0d by
    obtain ⟨d, e, rfl⟩ := ev_get h
    exact e
  obtain ⟨ms, es, h1, h2, h3⟩ := stream_eq ns hb.1
  unfold py_law
  walk_at "ev"
  rw [es]
  walk_at "ev"
  rw [show rng1 (.int 2) = .ok ((List.range 2).map eN) from rngL 2 (by decide)]
  walk_at "ev"
  refine ev_bindC (ev_forC (enc := eN) eN (fun don a => StB (1000 - 100 * don.length) a) (List.range 2) (fun _ _ => rfl) ⟨ms, 0, rfl, h1, h2, h3, by simp⟩ ?_ ?_)
  · intro don t rest a hs hst
    have hd : don.length < 2 := by
      have := congrArg List.length hs
      simp at this; omega
    obtain ⟨G, d1, e1, hst1, h7⟩ := graph_eq (b := 1000 - 100 * don.length - 30) (most := 7) (hst.mono (by omega)) (by decide) (by decide)
    have hi := G.hi
    have lo := G.lo
    walk_at "ev"
    rw [show PyData.int 7 = eN 7 from rfl, e1]
    walk_at "ev"
    rw [lawSeen_eq, show (rowD G.n fun i => lN (G.row i)) = seenD G from rfl]
    walk_at "ev"
    rw [sets_eM hi]
    walk_at "ev"
    rw [lc_eq (enc := eM) eM (so G 1) eM (small (order_len8 hi)) (fun _ _ => rfl) (fun m hm => by rw [lawSees_eq, so1]; rfl) (fun m hm _ => rfl)]
    walk_at "ev"
    rw [show (order G.n).filter (so G 1) = rows G 1 from rfl]
    rw [show [PyData.int 1, .int 2, .int 3] = ([1, 2, 3] : List Nat).map eN from rfl]
    refine ev_bindC (ev_forC (enc := eN) eN (fun _ _ => True) [1, 2, 3] (fun _ _ => rfl) trivial ?_ ?_)
    · intro don0 k rest0 _ hs0 _
      have hk : 1 ≤ k ∧ k ≤ 3 := by
        have : k ∈ ([1, 2, 3] : List Nat) := by rw [hs0]; simp
        simp at this; omega
      rw [lc_eq (enc := eM) eM (so G k) eM (small (order_len8 hi)) (fun _ _ => rfl) (fun m hm => by rw [lawOften_eq]; rfl) (fun m hm _ => rfl), ok_bind]
      rw [show (order G.n).filter (so G k) = rows G k from rfl, fold_same G hk]
      walk_at "ev"
      trivial
    · intro _ _
      show ev _ _ _
      rw [show rng1 (.int 4) = .ok ((List.range 4).map eN) from rngL 4 (by decide)]
      walk_at "ev"
      refine ev_bindC (ev_forC (enc := eN) eN (fun don3 a => StB (1000 - 100 * don.length - 30 - 5 * don3.length) a) (List.range 4) (fun _ _ => rfl) (by simpa using hst1) ?_ ?_)
      · intro don3 k3 rest3 a3 hs3 hst3
        have hd3 : don3.length < 4 := by
          have := congrArg List.length hs3
          simp at this; omega
        rw [List.length_append, List.length_singleton]
        have hne : rows G 1 ≠ [] := List.ne_nil_of_mem (List.mem_filter.mpr ⟨full_mem, by rw [so1]; exact sees_full G⟩)
        obtain ⟨x1, hx1, q1, a4, n1, i1, hst4⟩ := pick (b := 1000 - 100 * don.length - 30 - 5 * don3.length - 1) eM (order G.n) (hst3.mono (by omega)) (order_ne _)
        obtain ⟨x2, hx2, q2, a5, n2, i2, hst5⟩ := pick (b := 1000 - 100 * don.length - 30 - 5 * don3.length - 2) eM (rows G 1) (hst4.mono (by omega)) hne
        obtain ⟨q3, a6, n3, i3, hst6⟩ := pick2 (b := 1000 - 100 * don.length - 30 - 5 * don3.length - 3) (eM x1) (eM x2) (hst5.mono (by omega))
        obtain ⟨m, hm, i3'⟩ : ∃ m < 2 ^ G.n, atD [eM x1, eM x2] (q3 : Int) = some (eM m) := i3.elim (fun e => ⟨x1, mem_order.mp hx1, e⟩) (fun e => ⟨x2, rows_lt hx2, e⟩)
        obtain ⟨f, a7, n4, hst7, hf⟩ := next_eq (b := 1000 - 100 * don.length - 30 - 5 * don3.length - 4) (many := sz m + 1) (hst6.mono (by omega)) (by omega)
        obtain ⟨g, a8, n5, hst8, hg⟩ := next_eq (b := 1000 - 100 * don.length - 30 - 5 * (don3.length + 1)) (many := 3) (hst7.mono (by omega)) (by omega)
        walk_at "ev"
        rw [n1]
        walk_at "ev"
        rw [i1]
        walk_at "ev"
        rw [n2]
        walk_at "ev"
        rw [i2]
        walk_at "ev"
        rw [n3]
        walk_at "ev"
        rw [i3']
        walk_at "ev"
        rw [show (.int ((sz m : Int) + 1) : D) = eN (sz m + 1) from rfl, n4]
        walk_at "ev"
        rw [lost_lc G hm]
        walk_at "ev"
        rw [kept_lc G hm]
        walk_at "ev"
        rw [show (.int 3 : D) = eN 3 from rfl, n5]
        walk_at "ev"
        rw [show (.int (1 + (g : Int)) : D) = eN (1 + g) from rfl, own_lc G hm]
        walk_at "ev"
        rw [lc_map (enc := eM) eM (fun r => eN (sz r)) (small (wl_len G m)) (fun _ _ => rfl) (fun r hr => by walk_at "ev")]
        obtain ⟨v, d, ev1, ev2, hdd⟩ := wk_ok G hm
        rw [A1_ok, ev1]
        walk_at "ev"
        rw [watch_eq G (by omega) hm, out_eq G hm (by omega), chance_eq G hm (by omega), weak_eq G hm, lawOften_eq]
        unfold wk
        rw [ev1, ok_bind, ev2, lasts G hm (by omega)]
        walk_at "ev"
        rw [show decide ((((keptL G m f).length : Nat) : Int) = ((lostL G m f).length : Nat)) = decide ((keptL G m f).length = (lostL G m f).length) from decide_eq_decide.mpr Int.ofNat_inj]
        have l1 := lost_len G m f
        have l2 : (keptL G m f).length ≤ 256 := Nat.le_trans (List.length_filter_le _ _) l1
        rw [same4 (Ee_bool _).l (Ee_bool _).l (Ee_pair (by omega) (by omega)).l hdd.l]
        walk_at "ev"
        exact hst8
      · intro a3 hst3
        show ev _ _ _
        refine ev_b (ev_forF (enc := eM) eM (fun don a => a = .list ((don.filter (mnl G)).map eM)) (rows G 1) (fun _ _ => rfl) rfl ?_ ?_)
        · intro don4 m rest4 a4 hs4 ha
          subst ha
          have h300 : don4.length < 300 := by
            have h9 := congrArg List.length hs4
            have := rows_len G 1
            rw [List.length_append, List.length_cons] at h9
            omega
          have hm : m < 2 ^ G.n := rows_lt (k := 1) (by rw [hs4]; simp)
          have := small_lc G hm h300
          rw [show seqM (.ok (eM m)) = .ok ((mem m).map eN) from rfl, this]
          rfl
        · intro a4 ha
          subst ha
          rw [lsO_eq]
          have hlo : (lsO G).length ≤ 256 := Nat.le_trans (List.length_filter_le _ _) (order_len8 hi)
          walk_at "ev"
          rw [lc_map (enc := eM) eM (fun r => eN (sz r)) (small hlo) (fun _ _ => rfl) (fun r hr => by walk_at "ev")]
          have hlne : lsO G ≠ [] := fun z => by
            obtain ⟨r, hr⟩ := least_ex G
            rw [z] at hr; simp at hr
          obtain ⟨k1, ek1, ⟨m1, hm1, hk1⟩, hle1⟩ := maxSz hlne
          obtain ⟨k2, m2, ms2, ⟨m3, hm3, hk2⟩, hle2, hf2, emost⟩ := mostN_eq G
          have hk : k1 = k2 := by
            have hA := hle1 m3 ((sortM_perm _).subset hm3)
            have hB := hle2 m1 ((sortM_perm _).symm.subset hm1)
            omega
          subst hk
          rw [A1_ok, ek1]
          walk_at "ev"
          rw [rng1_n G.n (by omega), range0]
          walk_at "ev"
          rw [every_lc, least_eq, inAll_eq, emost, sortedM_eM _ (fun m hm => lst_ok hm), show sortM (lsO G) = lsS G from rfl]
          walk_at "ev"
          rw [lc_eq (enc := eM) eM (fun m => decide (sz m = k1)) eM (small (lsS_len G)) (fun _ _ => rfl) (fun m _ => by
            walk_at "ev"
            congr 1
            exact decide_eq_decide.mpr (by omega)) (fun _ _ _ => rfl), hf2]
          walk_at "ev"
          rw [List.map_cons, atD0]
          walk_at "ev"
          have hsl := lsS_len G
          have hk8 : k1 ≤ 8 := by rw [← hk1]; exact mem_len m1
          have e1 : El (.list ((lsS G).map eM)) := (Em_sets (by omega)).l
          have e2 : Ee (lN (inAll G)) := Ee_lN (fun x hx => by have := List.mem_range.mp (List.mem_filter.mp hx).1; omega) (Nat.le_trans (List.length_filter_le _ _) (by simp; omega))
          have e3 : El (.tuple [eN k1, eM m2]) := (Em_tup2 (Ee_n (by omega)) (Ee_mem m2)).l
          rw [same3 e1 e2.l e3]
          walk_at "ev"
          rw [show (.int ((G.n : Int) + 1) : D) = eN (G.n + 1) from rfl, rng1_n (G.n + 1) (by omega), range0, counts_lc]
          walk_at "ev"
          obtain ⟨c, a5, n5, hst5, hc⟩ := next_eq (b := 1000 - 100 * don.length - 30 - 5 * 4 - 1) (many := G.n + 1) (hst3.mono (by rw [List.length_range]; omega)) (by omega)
          rw [n5]
          walk_at "ev"
          have hcs : Em (.tuple ((List.range (G.n + 1)).map fun k => eN (cS G k))) := Em_tuple (fun d hd => by
            obtain ⟨k, _, rfl⟩ := List.mem_map.mp hd
            exact Ee_n (by have := cS_le G k; omega)) (by simp; omega)
          rw [count_eq G (by omega), counts_eq, show ixM (rowD (G.n + 1) fun k => eN (cS G k)) (eN c) = .ok (eN (cS G c)) from ix_row _ hc]
          unfold rowD
          walk_at "ev"
          rw [same2 (Ee_n (by have := cS_le G c; omega)).l hcs.l]
          walk_at "ev"
          rw [bads_eq, seqM_l, ok_bind, bads_loop fun g hg => ref3 (r_least hg) (r_counts hg) (r_fewest (fold_badG hg)), bindC_nx]
          have b1 : py_watch_often G.enc (PyData.int 0) (PyData.tuple [PyData.int 0]) = _ := r_watch (fold_bad G (k := 0) (by decide))
          have b2 : py_fewest_often G.enc (PyData.int 4) = _ := r_fewest (fold_bad G (k := 4) (by decide))
          have b3 : py_outlasts G.enc (PyData.tuple [PyData.int 0]) (PyData.int 2) = _ := r_out G (m := 1) (f := 2) (Nat.one_lt_two_pow (by omega)) (by decide)
          have b4 : py_weakest G.enc (PyData.tuple [eN G.n]) = _ := r_weakP (places_out G (xs := [G.n]) (by simp) (by simp))
          have b5 : py_chance_kept G.enc (PyData.tuple [PyData.int 0, PyData.int 0]) (PyData.int 0) = _ := r_chanceP (places_twice G)
          have b6 : py_count_sets G.enc (eN (G.n + 1)) = _ := count_bad G (by omega)
          rw [ref6 b1 b2 b3 b4 b5 b6]
          show StB _ _
          refine hst5.mono ?_
          rw [List.length_append, List.length_singleton]
          omega
  · intro a _
    walk_at "ev"
    rfl
end K49
set_option maxRecDepth 100000
set_option maxHeartbeats 4000000
/-! K49d: the derivations, printed by gen2.py. -/
namespace K49
open PySem PySem.Spec L2 Dl Py LamX
def topS (i : Nat) : Stmt := PySem.Challenge.pw_allwatched_k49_whole_watchers_that_may_f.main.body.getD i (.Pass ⟨0, 0, 0, 0⟩)
abbrev s__law_stream : Stmt := topS 33
abbrev N__law_stream : List Str := ["script", "numbers", "cell", "rest", "k", "stirred"]
theorem sc__law_stream : FnScope N__law_stream ["script"] (defScope s__law_stream) := ⟨rfl, rfl, rfl, by decide +kernel, rfl, by decide +kernel, by decide +kernel⟩
abbrev s__law_next : Stmt := topS 34
abbrev N__law_next : List Str := ["state", "many", "turn"]
theorem sc__law_next : FnScope N__law_next ["state", "many"] (defScope s__law_next) := ⟨rfl, rfl, rfl, by decide +kernel, rfl, by decide +kernel, by decide +kernel⟩
abbrev s__law_graph : Stmt := topS 36
abbrev N__law_graph : List Str := ["state", "most", "many", "pick", "edges", "one", "other", "good"]
theorem sc__law_graph : FnScope N__law_graph ["state", "most"] (defScope s__law_graph) := ⟨rfl, rfl, rfl, by decide +kernel, rfl, by decide +kernel, by decide +kernel⟩
abbrev s__law_seen : Stmt := topS 37
abbrev N__law_seen : List Str := ["graph", "place", "other"]
theorem sc__law_seen : FnScope N__law_seen ["graph"] (defScope s__law_seen) := ⟨rfl, rfl, rfl, by decide +kernel, rfl, by decide +kernel, by decide +kernel⟩
abbrev s__law_sets : Stmt := topS 38
abbrev N__law_sets : List Str := ["many", "found", "place", "row"]
theorem sc__law_sets : FnScope N__law_sets ["many"] (defScope s__law_sets) := ⟨rfl, rfl, rfl, by decide +kernel, rfl, by decide +kernel, by decide +kernel⟩
abbrev s__law_all_seen : Stmt := topS 39
abbrev N__law_all_seen : List Str := ["seen", "places", "row", "one"]
theorem sc__law_all_seen : FnScope N__law_all_seen ["seen", "places"] (defScope s__law_all_seen) := ⟨rfl, rfl, rfl, by decide +kernel, rfl, by decide +kernel, by decide +kernel⟩
abbrev s__law_often : Stmt := topS 43
abbrev N__law_often : List Str := ["seen", "places", "fold", "row", "one"]
theorem sc__law_often : FnScope N__law_often ["seen", "places", "fold"] (defScope s__law_often) := ⟨rfl, rfl, rfl, by decide +kernel, rfl, by decide +kernel, by decide +kernel⟩
abbrev s__law_same : Stmt := topS 32
abbrev N__law_same : List Str := ["told", "due"]
theorem sc__law_same : FnScope N__law_same ["told", "due"] (defScope s__law_same) := ⟨rfl, rfl, rfl, by decide +kernel, rfl, by decide +kernel, by decide +kernel⟩
abbrev s_check_graph : Stmt := topS 9
abbrev N_check_graph : List Str := ["graph", "edge", "one", "other"]
theorem sc_check_graph : FnScope N_check_graph ["graph"] (defScope s_check_graph) := ⟨rfl, rfl, rfl, by decide +kernel, rfl, by decide +kernel, by decide +kernel⟩
abbrev s_check_fold : Stmt := topS 19
abbrev N_check_fold : List Str := ["graph", "fold"]
theorem sc_check_fold : FnScope N_check_fold ["graph", "fold"] (defScope s_check_fold) := ⟨rfl, rfl, rfl, by decide +kernel, rfl, by decide +kernel, by decide +kernel⟩
abbrev s_near_masks : Stmt := topS 14
abbrev N_near_masks : List Str := ["graph", "found", "one", "other"]
theorem sc_near_masks : FnScope N_near_masks ["graph"] (defScope s_near_masks) := ⟨rfl, rfl, rfl, by decide +kernel, rfl, by decide +kernel, by decide +kernel⟩
abbrev s_seen_masks : Stmt := topS 15
abbrev N_seen_masks : List Str := ["graph", "place", "near"]
theorem sc_seen_masks : FnScope N_seen_masks ["graph"] (defScope s_seen_masks) := ⟨rfl, rfl, rfl, by decide +kernel, rfl, by decide +kernel, by decide +kernel⟩
abbrev s_members : Stmt := topS 12
abbrev N_members : List Str := ["mask", "place"]
theorem sc_members : FnScope N_members ["mask"] (defScope s_members) := ⟨rfl, rfl, rfl, by decide +kernel, rfl, by decide +kernel, by decide +kernel⟩
abbrev s_size : Stmt := topS 13
abbrev N_size : List Str := ["mask"]
theorem sc_size : FnScope N_size ["mask"] (defScope s_size) := ⟨rfl, rfl, rfl, by decide +kernel, rfl, by decide +kernel, by decide +kernel⟩
abbrev s_masks_by_size : Stmt := topS 16
abbrev N_masks_by_size : List Str := ["many", "rows", "mask", "_"]
theorem sc_masks_by_size : FnScope N_masks_by_size ["many"] (defScope s_masks_by_size) := ⟨rfl, rfl, rfl, by decide +kernel, rfl, by decide +kernel, by decide +kernel⟩
abbrev s_sees_often : Stmt := topS 20
abbrev N_sees_often : List Str := ["rows", "mask", "fold", "row"]
theorem sc_sees_often : FnScope N_sees_often ["rows", "mask", "fold"] (defScope s_sees_often) := ⟨rfl, rfl, rfl, by decide +kernel, rfl, by decide +kernel, by decide +kernel⟩
abbrev s_fewest_often : Stmt := topS 22
abbrev N_fewest_often : List Str := ["graph", "fold", "rows", "mask"]
theorem sc_fewest_often : FnScope N_fewest_often ["graph", "fold"] (defScope s_fewest_often) := ⟨rfl, rfl, rfl, by decide +kernel, rfl, by decide +kernel, by decide +kernel⟩
abbrev s_check_places : Stmt := topS 10
abbrev N_check_places : List Str := ["graph", "places", "place", "one", "other"]
theorem sc_check_places : FnScope N_check_places ["graph", "places"] (defScope s_check_places) := ⟨rfl, rfl, rfl, by decide +kernel, rfl, by decide +kernel, by decide +kernel⟩
abbrev s_mask_of : Stmt := topS 11
abbrev N_mask_of : List Str := ["places", "place"]
theorem sc_mask_of : FnScope N_mask_of ["places"] (defScope s_mask_of) := ⟨rfl, rfl, rfl, by decide +kernel, rfl, by decide +kernel, by decide +kernel⟩
abbrev s_watch_often : Stmt := topS 21
abbrev N_watch_often : List Str := ["graph", "fold", "places"]
theorem sc_watch_often : FnScope N_watch_often ["graph", "fold", "places"] (defScope s_watch_often) := ⟨rfl, rfl, rfl, by decide +kernel, rfl, by decide +kernel, by decide +kernel⟩
abbrev s_outlasts : Stmt := topS 23
abbrev N_outlasts : List Str := ["graph", "places", "failing"]
theorem sc_outlasts : FnScope N_outlasts ["graph", "places", "failing"] (defScope s_outlasts) := ⟨rfl, rfl, rfl, by decide +kernel, rfl, by decide +kernel, by decide +kernel⟩
abbrev s_chance_kept : Stmt := topS 30
abbrev N_chance_kept : List Str := ["graph", "places", "failing", "rows", "whole", "sets", "mask"]
theorem sc_chance_kept : FnScope N_chance_kept ["graph", "places", "failing"] (defScope s_chance_kept) := ⟨rfl, rfl, rfl, by decide +kernel, rfl, by decide +kernel, by decide +kernel⟩
abbrev s_weakest : Stmt := topS 24
abbrev N_weakest : List Str := ["graph", "places", "mask", "rows", "least", "row"]
theorem sc_weakest : FnScope N_weakest ["graph", "places"] (defScope s_weakest) := ⟨rfl, rfl, rfl, by decide +kernel, rfl, by decide +kernel, by decide +kernel⟩
abbrev s_least_sets : Stmt := topS 25
abbrev N_least_sets : List Str := ["graph", "rows", "found", "mask", "place"]
theorem sc_least_sets : FnScope N_least_sets ["graph"] (defScope s_least_sets) := ⟨rfl, rfl, rfl, by decide +kernel, rfl, by decide +kernel, by decide +kernel⟩
abbrev s_in_all : Stmt := topS 26
abbrev N_in_all : List Str := ["graph", "sets", "place", "row"]
theorem sc_in_all : FnScope N_in_all ["graph"] (defScope s_in_all) := ⟨rfl, rfl, rfl, by decide +kernel, rfl, by decide +kernel, by decide +kernel⟩
abbrev s_most_needed : Stmt := topS 27
abbrev N_most_needed : List Str := ["graph", "sets", "most", "row"]
theorem sc_most_needed : FnScope N_most_needed ["graph"] (defScope s_most_needed) := ⟨rfl, rfl, rfl, by decide +kernel, rfl, by decide +kernel, by decide +kernel⟩
abbrev s_count_sets : Stmt := topS 28
abbrev N_count_sets : List Str := ["graph", "many", "rows", "mask"]
theorem sc_count_sets : FnScope N_count_sets ["graph", "many"] (defScope s_count_sets) := ⟨rfl, rfl, rfl, by decide +kernel, rfl, by decide +kernel, by decide +kernel⟩
abbrev s_all_counts : Stmt := topS 29
abbrev N_all_counts : List Str := ["graph", "rows", "found", "mask"]
theorem sc_all_counts : FnScope N_all_counts ["graph"] (defScope s_all_counts) := ⟨rfl, rfl, rfl, by decide +kernel, rfl, by decide +kernel, by decide +kernel⟩
abbrev s__law_bad_graphs : Stmt := topS 42
abbrev N__law_bad_graphs : List Str := []
theorem sc__law_bad_graphs : FnScope N__law_bad_graphs [] (defScope s__law_bad_graphs) := ⟨rfl, rfl, rfl, by decide +kernel, rfl, by decide +kernel, by decide +kernel⟩
abbrev s_law : Stmt := topS 44
abbrev N_law : List Str := ["script", "state", "turn", "graph", "many", "seen", "sets", "good", "fold", "k", "small", "places", "most", "every", "counts", "size_v", "none", "odd", "rows", "failing", "lost", "kept", "own", "least", "told", "lesser", "place", "row", "out", "one"]
theorem sc_law : FnScope N_law ["script"] (defScope s_law) := ⟨rfl, rfl, rfl, by decide +kernel, rfl, by decide +kernel, by decide +kernel⟩
abbrev s__law_told : Stmt := topS 35
abbrev N__law_told : List Str := ["call", "e", "kinds", "names", "k"]
theorem sc__law_told : FnScope N__law_told ["call"] (defScope s__law_told) := ⟨rfl, rfl, rfl, by decide +kernel, rfl, by decide +kernel, by decide +kernel⟩
/-- the tables of code objects -/
def TT : List (Addr × Str) := [(259, (("_law_sets" : Str) ++ ".<locals>.") ++ "<lambda>"), (295, (("law" : Str) ++ ".<locals>.") ++ "<lambda>")]
abbrev csT : List (Addr × Addr) := [(261, 259), (297, 295)]
theorem mem__law_sets : (259, (("_law_sets" : Str) ++ ".<locals>.") ++ "<lambda>") ∈ TT := .head _
theorem uniq__law_sets : ∀ p ∈ TT, p.1 = 259 → p.2 = (("_law_sets" : Str) ++ ".<locals>.") ++ "<lambda>" := by
  intro p hp e
  unfold TT at hp
  simp only [List.mem_cons, List.not_mem_nil, or_false] at hp
  rcases hp with rfl | rfl <;> first | exact absurd e (by decide) | rfl
theorem mem_law : (295, (("law" : Str) ++ ".<locals>.") ++ "<lambda>") ∈ TT := .tail _ (.head _)
theorem uniq_law : ∀ p ∈ TT, p.1 = 295 → p.2 = (("law" : Str) ++ ".<locals>.") ++ "<lambda>" := by
  intro p hp e
  unfold TT at hp
  simp only [List.mem_cons, List.not_mem_nil, or_false] at hp
  rcases hp with rfl | rfl <;> first | exact absurd e (by decide) | rfl
structure TBs (base : Heap) (mg : Str → Option Value) : Prop where
  b__law_sets : TabB base mg 261 259
  b_law : TabB base mg 297 295
/-- what the top leaves -/
structure Tops (K : PySem.W.Frag) (mg : Str → Option Value) where
  f__law_stream : Addr
  d__law_stream : FuncData
  F__law_stream : Fun K "_law_stream" "_law_stream" s__law_stream f__law_stream d__law_stream
  g__law_stream : mg "_law_stream" = some (.ref f__law_stream)
  b__law_stream : Binds K d__law_stream ["script"] []
  f__law_next : Addr
  d__law_next : FuncData
  F__law_next : Fun K "_law_next" "_law_next" s__law_next f__law_next d__law_next
  g__law_next : mg "_law_next" = some (.ref f__law_next)
  b__law_next : Binds K d__law_next ["state", "many"] []
  f__law_graph : Addr
  d__law_graph : FuncData
  F__law_graph : Fun K "_law_graph" "_law_graph" s__law_graph f__law_graph d__law_graph
  g__law_graph : mg "_law_graph" = some (.ref f__law_graph)
  b__law_graph : Binds K d__law_graph ["state", "most"] []
  f__law_seen : Addr
  d__law_seen : FuncData
  F__law_seen : Fun K "_law_seen" "_law_seen" s__law_seen f__law_seen d__law_seen
  g__law_seen : mg "_law_seen" = some (.ref f__law_seen)
  b__law_seen : Binds K d__law_seen ["graph"] []
  f__law_sets : Addr
  d__law_sets : FuncData
  F__law_sets : FunC K "_law_sets" "_law_sets" s__law_sets f__law_sets d__law_sets 261
  g__law_sets : mg "_law_sets" = some (.ref f__law_sets)
  b__law_sets : Binds K d__law_sets ["many"] []
  f__law_all_seen : Addr
  d__law_all_seen : FuncData
  F__law_all_seen : Fun K "_law_all_seen" "_law_all_seen" s__law_all_seen f__law_all_seen d__law_all_seen
  g__law_all_seen : mg "_law_all_seen" = some (.ref f__law_all_seen)
  b__law_all_seen : Binds K d__law_all_seen ["seen", "places"] []
  f__law_often : Addr
  d__law_often : FuncData
  F__law_often : Fun K "_law_often" "_law_often" s__law_often f__law_often d__law_often
  g__law_often : mg "_law_often" = some (.ref f__law_often)
  b__law_often : Binds K d__law_often ["seen", "places", "fold"] []
  f__law_same : Addr
  d__law_same : FuncData
  F__law_same : Fun K "_law_same" "_law_same" s__law_same f__law_same d__law_same
  g__law_same : mg "_law_same" = some (.ref f__law_same)
  b__law_same : Binds K d__law_same ["told", "due"] []
  f_check_graph : Addr
  d_check_graph : FuncData
  F_check_graph : Fun K "check_graph" "check_graph" s_check_graph f_check_graph d_check_graph
  g_check_graph : mg "check_graph" = some (.ref f_check_graph)
  b_check_graph : Binds K d_check_graph ["graph"] []
  f_check_fold : Addr
  d_check_fold : FuncData
  F_check_fold : Fun K "check_fold" "check_fold" s_check_fold f_check_fold d_check_fold
  g_check_fold : mg "check_fold" = some (.ref f_check_fold)
  b_check_fold : Binds K d_check_fold ["graph", "fold"] []
  f_near_masks : Addr
  d_near_masks : FuncData
  F_near_masks : Fun K "near_masks" "near_masks" s_near_masks f_near_masks d_near_masks
  g_near_masks : mg "near_masks" = some (.ref f_near_masks)
  b_near_masks : Binds K d_near_masks ["graph"] []
  f_seen_masks : Addr
  d_seen_masks : FuncData
  F_seen_masks : Fun K "seen_masks" "seen_masks" s_seen_masks f_seen_masks d_seen_masks
  g_seen_masks : mg "seen_masks" = some (.ref f_seen_masks)
  b_seen_masks : Binds K d_seen_masks ["graph"] []
  f_members : Addr
  d_members : FuncData
  F_members : Fun K "members" "members" s_members f_members d_members
  g_members : mg "members" = some (.ref f_members)
  b_members : Binds K d_members ["mask"] []
  f_size : Addr
  d_size : FuncData
  F_size : Fun K "size" "size" s_size f_size d_size
  g_size : mg "size" = some (.ref f_size)
  b_size : Binds K d_size ["mask"] []
  f_masks_by_size : Addr
  d_masks_by_size : FuncData
  F_masks_by_size : Fun K "masks_by_size" "masks_by_size" s_masks_by_size f_masks_by_size d_masks_by_size
  g_masks_by_size : mg "masks_by_size" = some (.ref f_masks_by_size)
  b_masks_by_size : Binds K d_masks_by_size ["many"] []
  f_sees_often : Addr
  d_sees_often : FuncData
  F_sees_often : Fun K "sees_often" "sees_often" s_sees_often f_sees_often d_sees_often
  g_sees_often : mg "sees_often" = some (.ref f_sees_often)
  b_sees_often : Binds K d_sees_often ["rows", "mask", "fold"] []
  f_fewest_often : Addr
  d_fewest_often : FuncData
  F_fewest_often : Fun K "fewest_often" "fewest_often" s_fewest_often f_fewest_often d_fewest_often
  g_fewest_often : mg "fewest_often" = some (.ref f_fewest_often)
  b_fewest_often : Binds K d_fewest_often ["graph", "fold"] []
  f_check_places : Addr
  d_check_places : FuncData
  F_check_places : Fun K "check_places" "check_places" s_check_places f_check_places d_check_places
  g_check_places : mg "check_places" = some (.ref f_check_places)
  b_check_places : Binds K d_check_places ["graph", "places"] []
  f_mask_of : Addr
  d_mask_of : FuncData
  F_mask_of : Fun K "mask_of" "mask_of" s_mask_of f_mask_of d_mask_of
  g_mask_of : mg "mask_of" = some (.ref f_mask_of)
  b_mask_of : Binds K d_mask_of ["places"] []
  f_watch_often : Addr
  d_watch_often : FuncData
  F_watch_often : Fun K "watch_often" "watch_often" s_watch_often f_watch_often d_watch_often
  g_watch_often : mg "watch_often" = some (.ref f_watch_often)
  b_watch_often : Binds K d_watch_often ["graph", "fold", "places"] []
  f_outlasts : Addr
  d_outlasts : FuncData
  F_outlasts : Fun K "outlasts" "outlasts" s_outlasts f_outlasts d_outlasts
  g_outlasts : mg "outlasts" = some (.ref f_outlasts)
  b_outlasts : Binds K d_outlasts ["graph", "places", "failing"] []
  f_chance_kept : Addr
  d_chance_kept : FuncData
  F_chance_kept : Fun K "chance_kept" "chance_kept" s_chance_kept f_chance_kept d_chance_kept
  g_chance_kept : mg "chance_kept" = some (.ref f_chance_kept)
  b_chance_kept : Binds K d_chance_kept ["graph", "places", "failing"] []
  f_weakest : Addr
  d_weakest : FuncData
  F_weakest : Fun K "weakest" "weakest" s_weakest f_weakest d_weakest
  g_weakest : mg "weakest" = some (.ref f_weakest)
  b_weakest : Binds K d_weakest ["graph", "places"] []
  f_least_sets : Addr
  d_least_sets : FuncData
  F_least_sets : Fun K "least_sets" "least_sets" s_least_sets f_least_sets d_least_sets
  g_least_sets : mg "least_sets" = some (.ref f_least_sets)
  b_least_sets : Binds K d_least_sets ["graph"] []
  f_in_all : Addr
  d_in_all : FuncData
  F_in_all : Fun K "in_all" "in_all" s_in_all f_in_all d_in_all
  g_in_all : mg "in_all" = some (.ref f_in_all)
  b_in_all : Binds K d_in_all ["graph"] []
  f_most_needed : Addr
  d_most_needed : FuncData
  F_most_needed : Fun K "most_needed" "most_needed" s_most_needed f_most_needed d_most_needed
  g_most_needed : mg "most_needed" = some (.ref f_most_needed)
  b_most_needed : Binds K d_most_needed ["graph"] []
  f_count_sets : Addr
  d_count_sets : FuncData
  F_count_sets : Fun K "count_sets" "count_sets" s_count_sets f_count_sets d_count_sets
  g_count_sets : mg "count_sets" = some (.ref f_count_sets)
  b_count_sets : Binds K d_count_sets ["graph", "many"] []
  f_all_counts : Addr
  d_all_counts : FuncData
  F_all_counts : Fun K "all_counts" "all_counts" s_all_counts f_all_counts d_all_counts
  g_all_counts : mg "all_counts" = some (.ref f_all_counts)
  b_all_counts : Binds K d_all_counts ["graph"] []
  f__law_bad_graphs : Addr
  d__law_bad_graphs : FuncData
  F__law_bad_graphs : Fun K "_law_bad_graphs" "_law_bad_graphs" s__law_bad_graphs f__law_bad_graphs d__law_bad_graphs
  g__law_bad_graphs : mg "_law_bad_graphs" = some (.ref f__law_bad_graphs)
  b__law_bad_graphs : Binds K d__law_bad_graphs [] []
  f_law : Addr
  d_law : FuncData
  F_law : FunC K "law" "law" s_law f_law d_law 297
  g_law : mg "law" = some (.ref f_law)
  b_law : Binds K d_law ["script"] []
  f__law_told : Addr
  d__law_told : FuncData
  F__law_told : Fun K "_law_told" "_law_told" s__law_told f__law_told d__law_told
  g__law_told : mg "_law_told" = some (.ref f__law_told)
  b__law_told : Binds K d__law_told ["call"] []
  n_abs : mg "abs" = none
  n_int : mg "int" = none
  n_range : mg "range" = none
  n_len : mg "len" = none
  n_tuple : mg "tuple" = none
  n_min : mg "min" = none
  n_max : mg "max" = none
  n_sorted : mg "sorted" = none
  n_repr : mg "repr" = none
  n_all : mg "all" = none
  n_zip : mg "zip" = none
  n_enumerate : mg "enumerate" = none
  n_sum : mg "sum" = none
  n_any : mg "any" = none
  n_isinstance : mg "isinstance" = none
  c_MAX_PLACES : Cst K mg "MAX_PLACES" (PyData.int 8)
  c_MAX_FOLD : Cst K mg "MAX_FOLD" (PyData.int 3)
  R : Errs
  RI : ErrsIn K mg R
  x_NotAllowed : XT1 K R.n
  x_Missing : XT1 K R.m
section
variable {X : Cx} {q : Str}
theorem gives {K : PySem.W.Frag} {mg : Str → Option Value} (T : Tops K mg) (cdv : Value) (hr : Room 2 X.A) (hK : X.K = K := by rfl) (hm : X.mg = mg := by rfl) : GivesN X toldN "_law_told" (defScope s__law_told) T.f__law_told cdv (defBody s__law_told) "call" q (TTold TT K T.R) :=
  by
    subst hK hm
    refine Dl.told_gives T.RI T.n_isinstance sc__law_told rfl rfl rfl rfl rfl rfl rfl rfl rfl ?_
    intro s H a oe cls d pn hz hv
    exact dss_cons (ds_setHot 3 [("k", 4)] (hot_suite hz hv) (List.mem_cons_self) sc__law_told.nd (dih_r1 rfl T.n_range de_int) (blkOk_by (own := [("k", 4)]) (N := toldN) (sc := defScope s__law_told) (by decide +kernel)) (fun _ _ _ _ _ => dv_name 4 sc__law_told.nd) (fun _ _ _ _ _ => dts_one (dt_v (de_ixN (dn 2) (de_v 4)))) (fun _ _ _ _ _ => de_ix (de_lst (da_cons de_str (da_cons de_str (da_cons de_str (da_cons de_str (da_cons de_str da_nil)))))) (de_v 4)) (sw_true rfl rfl rfl (by decide +kernel)))
      (dss_one (ds_ret (de_tup (da_cons (de_ix (de_lst (da_cons de_str (da_cons (de_ix (de_op op_addX sv_add (de_v 3) (de_lst (da_cons de_str da_nil))) de_int) da_nil))) (de_t1 call_int1 sv_int rfl T.n_int (by decide +kernel) (de_cmp (op_eqP (by have h0 := hr.units; have h1 := hr.un; show X.A.units + 3 + 64 < cLine; omega)) sv_eq (de_b1N call_len sv_len rfl T.n_len (by decide +kernel) (dn 3)) de_int (nomark _)))) da_nil))))
end
section
variable {P : Program} {w : World} {K : PySem.W.Frag} {mg : Str → Option Value} {base : Heap}
theorem fn__law_stream (T : Tops K mg) (B : TBs base mg) : FnG P w K mg base false 1 T.f__law_stream T.d__law_stream ["script"] (spOf K (EAof T.R TT) [false] (con1 false py__law_stream)) :=
  FnG.of (N := N__law_stream) (m := 5) (wb := wf__law_stream) T.F__law_stream sc__law_stream rfl rfl k__law_stream fun cdv A outer s H E Ed hr gd =>
    have hu := hr.units
    (dss_cons (ds_set 1 (de_lst da_nil) sc__law_stream.nd)
    (dss_cons (ds_for ownX rfl (di_seq (de_slice (de_v 0) dp_none (dp_some de_int))) (dg_name 2 sc__law_stream.nd) (dss_cons (ds_set 3 (de_fz (de_b1 call_abs sv_abs rfl T.n_abs (by decide +kernel) (de_t1 call_int1 sv_int rfl T.n_int (by decide +kernel) (de_v 2)))) sc__law_stream.nd)
    (dss_cons (ds_if (dt_cmp op_ge sv_ge (de_v 3) (de_op op_pow sv_pow de_int de_int) (by with_unfolding_all rfl)) (dss_cons (ds_for ownX rfl (di_r1 rfl T.n_range de_int) (dg_name 4 sc__law_stream.nd) (dss_cons (ds_app (dn 1) (de_op op_modN sv_mod (de_t1 call_int1 sv_int rfl T.n_int (by decide +kernel) (de_v 3)) de_int))
    (dss_cons (ds_set 3 (de_fz (de_op op_fdivX sv_fdiv (de_v 3) de_int)) sc__law_stream.nd)
    (dss_cons (ds_if (dt_cmp (op_eqP hu) sv_eq (de_v 3) de_int (by with_unfolding_all rfl)) (dss_cons ds_break
    dss_nil) dss_nil)
    dss_nil))))
    dss_nil) (dss_cons (ds_set 5 (de_fz (de_op op_modN sv_mod (de_t1 call_int1 sv_int rfl T.n_int (by decide +kernel) (de_v 3)) de_int)) sc__law_stream.nd)
    (dss_cons (ds_for ownX rfl (di_r1 rfl T.n_range de_int) (dg_name 4 sc__law_stream.nd) (dss_cons (ds_set 5 (de_fz (de_op op_modN sv_mod (de_t1 call_int1 sv_int rfl T.n_int (by decide +kernel) (de_op op_addX sv_add (de_op op_addX sv_add (de_op op_mulX sv_mul (de_v 5) de_int) (de_op op_mulX sv_mul de_int (de_v 4))) de_int)) de_int)) sc__law_stream.nd)
    (dss_cons (ds_app (dn 1) (de_op op_modN sv_mod (de_op op_modN sv_mod (de_t1 call_int1 sv_int rfl T.n_int (by decide +kernel) (de_op op_addX sv_add (de_op op_mulX sv_mul (de_v 5) de_int) (de_v 4))) de_int) de_int))
    dss_nil)))
    dss_nil)))
    dss_nil)))
    (dss_cons (ds_if (dt_cmp (op_eqP hu) sv_eq (de_b1N call_len sv_len rfl T.n_len (by decide +kernel) (dn 1)) de_int (by with_unfolding_all rfl)) (dss_cons (ds_app (dn 1) de_int)
    dss_nil) dss_nil)
    (dss_cons (ds_pre [1] (ds_ret (de_fz (de_v 1))))
    dss_nil))))
theorem fn__law_next (T : Tops K mg) (B : TBs base mg) : FnG P w K mg base false 1 T.f__law_next T.d__law_next ["state", "many"] (spOf K (EAof T.R TT) [true, false] (lcon2 false py__law_next)) :=
  FnG.of (N := N__law_next) (m := 1) (wb := wf__law_next) T.F__law_next sc__law_next rfl rfl k__law_next fun cdv A outer s H E Ed hr gd =>
    have hu := hr.units
    (dss_cons (ds_asg (de_op op_addX sv_add (de_ixN (dn 0) de_int) de_int) (dg_ix (dn 0) de_int))
    (dss_cons (ds_set 2 (de_fz (de_op op_fdivX sv_fdiv (de_ixN (dn 0) de_int) (de_b1 call_len sv_len rfl T.n_len (by decide +kernel) (de_ixN (dn 0) de_int)))) sc__law_next.nd)
    (dss_cons (ds_ret (de_fz (de_op op_modN sv_mod (de_t1 call_int1 sv_int rfl T.n_int (by decide +kernel) (de_op op_addX sv_add (de_op op_addX sv_add (de_ix (de_ixN (dn 0) de_int) (de_op op_modN sv_mod (de_ixN (dn 0) de_int) (de_b1 call_len sv_len rfl T.n_len (by decide +kernel) (de_ixN (dn 0) de_int)))) (de_op op_mulX sv_mul (de_v 2) de_int)) (de_op op_mulX sv_mul (de_op op_mulX sv_mul (de_ixN (dn 0) de_int) (de_v 2)) de_int))) (de_v 1))))
    dss_nil)))
theorem fn__law_graph (T : Tops K mg) (B : TBs base mg) : FnG P w K mg base false 2 T.f__law_graph T.d__law_graph ["state", "most"] (spOf K (EAof T.R TT) [true, false] (lcon2 false py__law_graph)) :=
  FnG.of (N := N__law_graph) (m := 6) (wb := wf__law_graph) T.F__law_graph sc__law_graph rfl rfl k__law_graph fun cdv A outer s H E Ed hr gd =>
    have hu := hr.units
    (dss_cons (ds_set 2 (de_fz (de_op op_addX sv_add de_int (de_callB l2_len (fn__law_next T B) (hr.mono (by decide)) nogd rfl T.g__law_next T.F__law_next.kp T.b__law_next passX (dn 0) (da_cons (de_v 1) da_nil)))) sc__law_graph.nd)
    (dss_cons (ds_set 3 (de_fz (de_callB l2_len (fn__law_next T B) (hr.mono (by decide)) nogd rfl T.g__law_next T.F__law_next.kp T.b__law_next passX (dn 0) (da_cons de_int da_nil))) sc__law_graph.nd)
    (dss_cons (ds_set 4 (de_lst da_nil) sc__law_graph.nd)
    (dss_cons (ds_for ownX rfl (di_r1 rfl T.n_range (de_v 2)) (dg_name 5 sc__law_graph.nd) (dss_cons (ds_for ownX rfl (di_r2 rfl T.n_range (de_op op_addX sv_add (de_v 5) de_int) (de_v 2)) (dg_name 6 sc__law_graph.nd) (dss_cons (ds_if (dt_cmp (op_eqP hu) sv_eq (de_v 3) de_int (by with_unfolding_all rfl)) (dss_cons (ds_set 7 (de_fz (de_or (de_cmp (op_eqP hu) sv_eq (de_v 6) (de_op op_addX sv_add (de_v 5) de_int) (by with_unfolding_all rfl)) (de_one (de_and (de_cmp (op_eqP hu) sv_eq (de_v 5) de_int (by with_unfolding_all rfl)) (de_one (de_cmp (op_eqP hu) sv_eq (de_v 6) (de_op op_sub sv_sub (de_v 2) de_int) (by with_unfolding_all rfl))))))) sc__law_graph.nd)
    dss_nil) (dss_cons (ds_if (dt_cmp (op_eqP hu) sv_eq (de_v 3) de_int (by with_unfolding_all rfl)) (dss_cons (ds_set 7 (de_fz (de_or (de_cmp (op_eqP hu) sv_eq (de_v 6) (de_op op_addX sv_add (de_v 5) de_int) (by with_unfolding_all rfl)) (de_one (de_cmp (op_eqP hu) sv_eq (de_callB l2_len (fn__law_next T B) (hr.mono (by decide)) nogd rfl T.g__law_next T.F__law_next.kp T.b__law_next passX (dn 0) (da_cons de_int da_nil)) de_int (by with_unfolding_all rfl))))) sc__law_graph.nd)
    dss_nil) (dss_cons (ds_if (dt_cmp (op_eqP hu) sv_eq (de_v 3) de_int (by with_unfolding_all rfl)) (dss_cons (ds_set 7 (de_fz (de_or (de_cmp (op_eqP hu) sv_eq (de_v 5) de_int (by with_unfolding_all rfl)) (de_one (de_cmp (op_eqP hu) sv_eq (de_callB l2_len (fn__law_next T B) (hr.mono (by decide)) nogd rfl T.g__law_next T.F__law_next.kp T.b__law_next passX (dn 0) (da_cons de_int da_nil)) de_int (by with_unfolding_all rfl))))) sc__law_graph.nd)
    dss_nil) (dss_cons (ds_set 7 (de_fz (de_cmp (op_eqP hu) sv_eq (de_callB l2_len (fn__law_next T B) (hr.mono (by decide)) nogd rfl T.g__law_next T.F__law_next.kp T.b__law_next passX (dn 0) (da_cons de_int da_nil)) de_int (by with_unfolding_all rfl))) sc__law_graph.nd)
    dss_nil))
    dss_nil))
    dss_nil))
    (dss_cons (ds_if (dt_v (de_v 7)) (dss_cons (ds_app (dn 4) (de_tup (da_cons (de_v 5) (da_cons (de_v 6) da_nil))))
    dss_nil) dss_nil)
    dss_nil)))
    dss_nil))
    (dss_cons (ds_pre [4] (ds_ret (de_fz (de_tup (da_cons (de_v 2) (da_cons (de_t1 call_tuple_of sv_tuple rfl T.n_tuple (by decide +kernel) (de_v 4)) da_nil))))))
    dss_nil)))))
theorem fn__law_seen (T : Tops K mg) (B : TBs base mg) : FnG P w K mg base false 1 T.f__law_seen T.d__law_seen ["graph"] (spOf K (EAof T.R TT) [false] (con1 false py__law_seen)) :=
  FnG.of (N := N__law_seen) (m := 2) (wb := wf__law_seen) T.F__law_seen sc__law_seen rfl rfl k__law_seen fun cdv A outer s H E Ed hr gd =>
    have hu := hr.units
    (dss_cons (ds_ret (de_fz (de_lcE [("place", 1)] rfl sc__law_seen.nd (di_r1 rfl T.n_range (de_ixN (dn 0) de_int)) (blkOk_by (own := [("place", 1)]) (N := N__law_seen) (sc := defScope s__law_seen) (by decide +kernel)) (fun _ _ _ _ _ => (dv_name 1 sc__law_seen.nd)) (fun _ _ _ _ _ => dts_nil) (fun _ _ _ _ _ => (de_lcE [("other", 2)] rfl sc__law_seen.nd (di_r1 rfl T.n_range (de_ixN (dn 0) de_int)) (by refine blkOk_by (N := N__law_seen) (own := [("other", 2)]) ?_; kernel_rfl) (fun _ _ _ _ _ => (dv_name 2 sc__law_seen.nd)) (fun _ _ _ _ _ => (dts_one (dt_w (dw_or (dt_cmp (op_eqP hu) sv_eq (de_v 2) (de_v 1) (by with_unfolding_all rfl)) (dw_or1 (dt_cmp (op_inP hu) sv_in (de_tup (da_cons (de_b2 (call_min2 rfl) sv_min2 rfl T.n_min (by decide +kernel) (de_v 1) (de_v 2)) (da_cons (de_b2 (call_max2 rfl) sv_max2 rfl T.n_max (by decide +kernel) (de_v 1) (de_v 2)) da_nil))) (de_ixN (dn 0) de_int) (by with_unfolding_all rfl))))))) (fun _ _ _ _ _ => (de_v 2)))))))
    dss_nil)
theorem fn__law_sets (T : Tops K mg) (B : TBs base mg) : FnG P w K mg base false 4 T.f__law_sets T.d__law_sets ["many"] (spOf K (EAof T.R TT) [false] (con1 false py__law_sets)) :=
  FnG.ofC (N := N__law_sets) (m := 3) (wb := wf__law_sets) T.F__law_sets sc__law_sets rfl rfl k__law_sets fun A outer s H E Ed hr gd =>
    have hu := hr.units
    (dss_cons (ds_set 1 (de_fz (de_lst (da_cons (de_tup da_nil) da_nil))) sc__law_sets.nd)
    (dss_cons (ds_for ownX rfl (di_r1 rfl T.n_range (de_v 0)) (dg_name 2 sc__law_sets.nd) (dss_cons (ds_set 1 (de_fz (de_op op_addX sv_add (de_v 1) (de_lcE [("row", 3)] rfl sc__law_sets.nd (di_seq (de_v 1)) (blkOk_by (own := [("row", 3)]) (N := N__law_sets) (sc := defScope s__law_sets) (by decide +kernel)) (fun _ _ _ _ _ => (dv_name 3 sc__law_sets.nd)) (fun _ _ _ _ _ => dts_nil) (fun _ _ _ _ _ => (de_op op_addX sv_add (de_v 3) (de_tup (da_cons (de_v 2) da_nil))))))) sc__law_sets.nd)
    dss_nil))
    (dss_cons (ds_ret (de_fz (de_sortLR T.n_sorted T.n_len rfl hu B.b__law_sets rfl mem__law_sets uniq__law_sets (hr.mono (by decide)) (de_v 1))))
    dss_nil)))
theorem fn__law_all_seen (T : Tops K mg) (B : TBs base mg) : FnG P w K mg base false 1 T.f__law_all_seen T.d__law_all_seen ["seen", "places"] (spOf K (EAof T.R TT) [false, false] (con2 false py__law_all_seen)) :=
  FnG.of (N := N__law_all_seen) (m := 2) (wb := wf__law_all_seen) T.F__law_all_seen sc__law_all_seen rfl rfl k__law_all_seen fun cdv A outer s H E Ed hr gd =>
    have hu := hr.units
    (dss_cons (ds_ret (de_fz (de_cmp (op_eqP hu) sv_eq (de_b1 call_len sv_len rfl T.n_len (by decide +kernel) (de_lcE [("row", 2)] rfl sc__law_all_seen.nd (di_seq (de_v 0)) (blkOk_by (own := [("row", 2)]) (N := N__law_all_seen) (sc := defScope s__law_all_seen) (by decide +kernel)) (fun _ _ _ _ _ => (dv_name 2 sc__law_all_seen.nd)) (fun _ _ _ _ _ => (dts_one (dt_cmp (op_eqP hu) sv_eq (de_b1 call_len sv_len rfl T.n_len (by decide +kernel) (de_lcE [("one", 3)] rfl sc__law_all_seen.nd (di_seq (de_v 2)) (by refine blkOk_by (N := N__law_all_seen) (own := [("one", 3)]) ?_; kernel_rfl) (fun _ _ _ _ _ => (dv_name 3 sc__law_all_seen.nd)) (fun _ _ _ _ _ => (dts_one (dt_cmp (op_inP hu) sv_in (de_v 3) (de_v 1) (by with_unfolding_all rfl)))) (fun _ _ _ _ _ => (de_v 3)))) de_int (by with_unfolding_all rfl)))) (fun _ _ _ _ _ => (de_v 2)))) de_int (by with_unfolding_all rfl))))
    dss_nil)
theorem fn__law_often (T : Tops K mg) (B : TBs base mg) : FnG P w K mg base false 1 T.f__law_often T.d__law_often ["seen", "places", "fold"] (spOf K (EAof T.R TT) [false, false, false] (con3 false py__law_often)) :=
  FnG.of (N := N__law_often) (m := 2) (wb := wf__law_often) T.F__law_often sc__law_often rfl rfl k__law_often fun cdv A outer s H E Ed hr gd =>
    have hu := hr.units
    (dss_cons (ds_ret (de_fz (de_cmp (op_eqP hu) sv_eq (de_b1 call_len sv_len rfl T.n_len (by decide +kernel) (de_lcE [("row", 3)] rfl sc__law_often.nd (di_seq (de_v 0)) (blkOk_by (own := [("row", 3)]) (N := N__law_often) (sc := defScope s__law_often) (by decide +kernel)) (fun _ _ _ _ _ => (dv_name 3 sc__law_often.nd)) (fun _ _ _ _ _ => (dts_one (dt_cmp (op_ltX hu) sv_ltX (de_b1 call_len sv_len rfl T.n_len (by decide +kernel) (de_lcE [("one", 4)] rfl sc__law_often.nd (di_seq (de_v 3)) (by refine blkOk_by (N := N__law_often) (own := [("one", 4)]) ?_; kernel_rfl) (fun _ _ _ _ _ => (dv_name 4 sc__law_often.nd)) (fun _ _ _ _ _ => (dts_one (dt_cmp (op_inP hu) sv_in (de_v 4) (de_v 1) (by with_unfolding_all rfl)))) (fun _ _ _ _ _ => (de_v 4)))) (de_v 2) (by with_unfolding_all rfl)))) (fun _ _ _ _ _ => (de_v 3)))) de_int (by with_unfolding_all rfl))))
    dss_nil)
theorem fn__law_same (T : Tops K mg) (B : TBs base mg) : FnG P w K mg base true 1 T.f__law_same T.d__law_same ["told", "due"] (spOf K (EAof T.R TT) [false, false] (con2 false py__law_same)) :=
  FnG.of (N := N__law_same) (m := 0) (wb := wf__law_same) T.F__law_same sc__law_same rfl rfl k__law_same fun cdv A outer s H E Ed hr gd =>
    have hu := hr.units
    (dss_cons (ds_ret (de_fz (de_cmp (op_eqP hu) sv_eq (de_b1 (call_reprX (gd rfl) hu) sv_repr rfl T.n_repr (by decide +kernel) (de_lst (da_cons (de_v 0) da_nil))) (de_b1 (call_reprX (gd rfl) hu) sv_repr rfl T.n_repr (by decide +kernel) (de_lst (da_cons (de_v 1) da_nil))) (by with_unfolding_all rfl))))
    dss_nil)
theorem fn_check_graph (T : Tops K mg) (B : TBs base mg) : FnG P w K mg base false 1 T.f_check_graph T.d_check_graph ["graph"] (spOf K (EAof T.R TT) [false] (con1 false py_check_graph)) :=
  FnG.of (N := N_check_graph) (m := 3) (wb := wf_check_graph) T.F_check_graph sc_check_graph rfl rfl k_check_graph fun cdv A outer s H E Ed hr gd =>
    have hu := hr.units
    (dss_cons (ds_if (dt_w (dw_or (dt_cmp (op_neP hu) sv_ne (de_b1 call_len sv_len rfl T.n_len (by decide +kernel) (de_v 0)) de_int (by with_unfolding_all rfl)) (dw_or1 (dt_not (dt_chain op_le sv_le op_le sv_le de_int (de_ixN (dn 0) de_int) (de_cst rfl T.c_MAX_PLACES)))))) (dss_cons (raise_ok rfl takesX T.x_NotAllowed T.RI.gn rfl fun _ => ⟨rfl, _, rfl, rfl⟩)
    dss_nil) dss_nil)
    (dss_cons (ds_if (dt_not (dt_v (de_b1 (cr_all rfl) sv_all rfl T.n_all (by decide +kernel) (de_lcE [("edge", 1)] rfl sc_check_graph.nd (di_seq (de_ixN (dn 0) de_int)) (blkOk_by (own := [("edge", 1)]) (N := N_check_graph) (sc := defScope s_check_graph) (by decide +kernel)) (fun _ _ _ _ _ => (dv_name 1 sc_check_graph.nd)) (fun _ _ _ _ _ => dts_nil) (fun _ _ _ _ _ => (de_and (de_cmp (op_eqP hu) sv_eq (de_b1 call_len sv_len rfl T.n_len (by decide +kernel) (de_v 1)) de_int (by with_unfolding_all rfl)) (de_one (de_chain3 op_le sv_le (op_ltX hu) sv_ltX (op_ltX hu) sv_ltX de_int (de_ixN (dn 1) de_int) (de_ixN (dn 1) de_int) (de_ixN (dn 0) de_int))))))))) (dss_cons (raise_ok rfl takesX T.x_NotAllowed T.RI.gn rfl fun _ => ⟨rfl, _, rfl, rfl⟩)
    dss_nil) dss_nil)
    (dss_cons (ds_if (dt_not (dt_v (de_b1 (cr_all rfl) sv_all rfl T.n_all (by decide +kernel) (de_lcE [("one", 2), ("other", 3)] rfl sc_check_graph.nd (di_zip rfl T.n_zip (de_ixN (dn 0) de_int) (de_slice (de_ixN (dn 0) de_int) (dp_some de_int) dp_none)) (blkOk_by (own := [("one", 2), ("other", 3)]) (N := N_check_graph) (sc := defScope s_check_graph) (by decide +kernel)) (fun _ _ _ _ _ => (dv_tup K rfl (dvs_cons (dv_name 2 sc_check_graph.nd) (dvs_cons (dv_name 3 sc_check_graph.nd) dvs_nil)))) (fun _ _ _ _ _ => dts_nil) (fun _ _ _ _ _ => (de_cmp (op_ltX hu) sv_ltX (de_v 2) (de_v 3) (by with_unfolding_all rfl))))))) (dss_cons (raise_ok rfl takesX T.x_NotAllowed T.RI.gn rfl fun _ => ⟨rfl, _, rfl, rfl⟩)
    dss_nil) dss_nil)
    dss_nil)))
theorem fn_check_fold (T : Tops K mg) (B : TBs base mg) : FnG P w K mg base false 2 T.f_check_fold T.d_check_fold ["graph", "fold"] (spOf K (EAof T.R TT) [false, false] (con2 false py_check_fold)) :=
  FnG.of (N := N_check_fold) (m := 0) (wb := wf_check_fold) T.F_check_fold sc_check_fold rfl rfl k_check_fold fun cdv A outer s H E Ed hr gd =>
    have hu := hr.units
    (dss_cons (ds_expr (de_call c1_len (fn_check_graph T B) (hr.mono (by decide)) nogd rfl T.g_check_graph T.F_check_graph.kp T.b_check_graph passX (da_cons (de_v 0) da_nil)))
    (dss_cons (ds_if (dt_not (dt_chain op_le sv_le op_le sv_le de_int (de_v 1) (de_cst rfl T.c_MAX_FOLD))) (dss_cons (raise_ok rfl takesX T.x_NotAllowed T.RI.gn rfl fun _ => ⟨rfl, _, rfl, rfl⟩)
    dss_nil) dss_nil)
    dss_nil))
theorem fn_near_masks (T : Tops K mg) (B : TBs base mg) : FnG P w K mg base false 1 T.f_near_masks T.d_near_masks ["graph"] (spOf K (EAof T.R TT) [false] (con1 false py_near_masks)) :=
  FnG.of (N := N_near_masks) (m := 3) (wb := wf_near_masks) T.F_near_masks sc_near_masks rfl rfl k_near_masks fun cdv A outer s H E Ed hr gd =>
    have hu := hr.units
    (dss_cons (ds_set 1 (de_op op_mulX sv_mul (de_lst (da_cons de_int da_nil)) (de_ixN (dn 0) de_int)) sc_near_masks.nd)
    (dss_cons (ds_for ownX rfl (di_seq (de_ixN (dn 0) de_int)) (dg_tup rfl (dgs_cons (dg_name 2 sc_near_masks.nd) (dgs_cons (dg_name 3 sc_near_masks.nd) dgs_nil))) (dss_cons (ds_asg (de_op op_or sv_i2 (de_ixN (dn 1) (de_v 2)) (de_op op_shl sv_shl de_int (de_v 3))) (dg_ix (dn 1) (de_v 2)))
    (dss_cons (ds_asg (de_op op_or sv_i2 (de_ixN (dn 1) (de_v 3)) (de_op op_shl sv_shl de_int (de_v 2))) (dg_ix (dn 1) (de_v 3)))
    dss_nil)))
    (dss_cons (ds_pre [1] (ds_ret (de_fz (de_v 1))))
    dss_nil)))
theorem fn_seen_masks (T : Tops K mg) (B : TBs base mg) : FnG P w K mg base false 2 T.f_seen_masks T.d_seen_masks ["graph"] (spOf K (EAof T.R TT) [false] (con1 false py_seen_masks)) :=
  FnG.of (N := N_seen_masks) (m := 2) (wb := wf_seen_masks) T.F_seen_masks sc_seen_masks rfl rfl k_seen_masks fun cdv A outer s H E Ed hr gd =>
    have hu := hr.units
    (dss_cons (ds_ret (de_fz (de_lcE [("place", 1), ("near", 2)] rfl sc_seen_masks.nd (di_enum rfl T.n_enumerate (de_call c1_len (fn_near_masks T B) (hr.mono (by decide)) nogd rfl T.g_near_masks T.F_near_masks.kp T.b_near_masks passX (da_cons (de_v 0) da_nil))) (blkOk_by (own := [("place", 1), ("near", 2)]) (N := N_seen_masks) (sc := defScope s_seen_masks) (by decide +kernel)) (fun _ _ _ _ _ => (dv_tup K rfl (dvs_cons (dv_name 1 sc_seen_masks.nd) (dvs_cons (dv_name 2 sc_seen_masks.nd) dvs_nil)))) (fun _ _ _ _ _ => dts_nil) (fun _ _ _ _ _ => (de_op op_or sv_i2 (de_v 2) (de_op op_shl sv_shl de_int (de_v 1)))))))
    dss_nil)
theorem fn_members (T : Tops K mg) (B : TBs base mg) : FnG P w K mg base false 1 T.f_members T.d_members ["mask"] (spOf K (EAof T.R TT) [false] (con1 false py_members)) :=
  FnG.of (N := N_members) (m := 1) (wb := wf_members) T.F_members sc_members rfl rfl k_members fun cdv A outer s H E Ed hr gd =>
    have hu := hr.units
    (dss_cons (ds_ret (de_fz (de_t1 call_tuple_of sv_tuple rfl T.n_tuple (by decide +kernel) (de_lcE [("place", 1)] rfl sc_members.nd (di_r1 rfl T.n_range (de_cst rfl T.c_MAX_PLACES)) (blkOk_by (own := [("place", 1)]) (N := N_members) (sc := defScope s_members) (by decide +kernel)) (fun _ _ _ _ _ => (dv_name 1 sc_members.nd)) (fun _ _ _ _ _ => (dts_one (dt_cmp (op_eqP hu) sv_eq (de_op op_and sv_i2 (de_op op_shr sv_shr (de_v 0) (de_v 1)) de_int) de_int (by with_unfolding_all rfl)))) (fun _ _ _ _ _ => (de_v 1))))))
    dss_nil)
theorem fn_size (T : Tops K mg) (B : TBs base mg) : FnG P w K mg base false 2 T.f_size T.d_size ["mask"] (spOf K (EAof T.R TT) [false] (con1 false py_size)) :=
  FnG.of (N := N_size) (m := 0) (wb := wf_size) T.F_size sc_size rfl rfl k_size fun cdv A outer s H E Ed hr gd =>
    have hu := hr.units
    (dss_cons (ds_ret (de_fz (de_b1 call_len sv_len rfl T.n_len (by decide +kernel) (de_call c1_len (fn_members T B) (hr.mono (by decide)) nogd rfl T.g_members T.F_members.kp T.b_members passX (da_cons (de_v 0) da_nil)))))
    dss_nil)
theorem fn_masks_by_size (T : Tops K mg) (B : TBs base mg) : FnG P w K mg base false 3 T.f_masks_by_size T.d_masks_by_size ["many"] (spOf K (EAof T.R TT) [false] (con1 false py_masks_by_size)) :=
  FnG.of (N := N_masks_by_size) (m := 3) (wb := wf_masks_by_size) T.F_masks_by_size sc_masks_by_size rfl rfl k_masks_by_size fun cdv A outer s H E Ed hr gd =>
    have hu := hr.units
    (dss_cons (ds_setLcZ 1 [("mask", 2)] rfl sc_masks_by_size.nd (di_r1 rfl T.n_range (de_op op_shl sv_shl de_int (de_v 0))) (blkOk_by (own := [("mask", 2)]) (N := N_masks_by_size) (sc := defScope s_masks_by_size) (by decide +kernel)) (fun _ _ _ _ _ => (dv_name 2 sc_masks_by_size.nd)) (fun _ _ _ _ _ => dts_nil) (fun _ _ _ _ _ => (de_tup (da_cons (de_call c1_len (fn_size T B) (hr.mono (by decide)) nogd rfl T.g_size T.F_size.kp T.b_size passN (da_cons (de_v 2) da_nil)) (da_cons (de_call c1_len (fn_members T B) (hr.mono (by decide)) nogd rfl T.g_members T.F_members.kp T.b_members passN (da_cons (de_v 2) da_nil)) (da_cons (de_v 2) da_nil))))) (sw_true rfl rfl rfl (by decide +kernel)))
    (dss_cons (ds_ret (de_fz (de_lcE [("_", 3), ("mask", 2)] rfl sc_masks_by_size.nd (di_seq (de_b1 (call_sortedX hu) sv_sorted rfl T.n_sorted (by decide +kernel) (de_v 1))) (blkOk_by (own := [("_", 3), ("mask", 2)]) (N := N_masks_by_size) (sc := defScope s_masks_by_size) (by decide +kernel)) (fun _ _ _ _ _ => (dv_tup K rfl (dvs_cons (dv_name 3 sc_masks_by_size.nd) (dvs_cons (dv_name 3 sc_masks_by_size.nd) (dvs_cons (dv_name 2 sc_masks_by_size.nd) dvs_nil))))) (fun _ _ _ _ _ => dts_nil) (fun _ _ _ _ _ => (de_v 2)))))
    dss_nil))
theorem fn_sees_often (T : Tops K mg) (B : TBs base mg) : FnG P w K mg base false 3 T.f_sees_often T.d_sees_often ["rows", "mask", "fold"] (spOf K (EAof T.R TT) [false, false, false] (con3 false py_sees_often)) :=
  FnG.of (N := N_sees_often) (m := 1) (wb := wf_sees_often) T.F_sees_often sc_sees_often rfl rfl k_sees_often fun cdv A outer s H E Ed hr gd =>
    have hu := hr.units
    (dss_cons (ds_ret (de_fz (de_b1 (cr_all rfl) sv_all rfl T.n_all (by decide +kernel) (de_lcE [("row", 3)] rfl sc_sees_often.nd (di_seq (de_v 0)) (blkOk_by (own := [("row", 3)]) (N := N_sees_often) (sc := defScope s_sees_often) (by decide +kernel)) (fun _ _ _ _ _ => (dv_name 3 sc_sees_often.nd)) (fun _ _ _ _ _ => dts_nil) (fun _ _ _ _ _ => (de_cmp op_ge sv_ge (de_call c1_len (fn_size T B) (hr.mono (by decide)) nogd rfl T.g_size T.F_size.kp T.b_size passN (da_cons (de_op op_and sv_i2 (de_v 3) (de_v 1)) da_nil)) (de_v 2) (by with_unfolding_all rfl)))))))
    dss_nil)
theorem fn_fewest_often (T : Tops K mg) (B : TBs base mg) : FnG P w K mg base false 4 T.f_fewest_often T.d_fewest_often ["graph", "fold"] (spOf K (EAof T.R TT) [false, false] (con2 false py_fewest_often)) :=
  FnG.of (N := N_fewest_often) (m := 2) (wb := wf_fewest_often) T.F_fewest_often sc_fewest_often rfl rfl k_fewest_often fun cdv A outer s H E Ed hr gd =>
    have hu := hr.units
    (dss_cons (ds_expr (de_call c2_len (fn_check_fold T B) (hr.mono (by decide)) nogd rfl T.g_check_fold T.F_check_fold.kp T.b_check_fold passX (da_cons (de_v 0) (da_cons (de_v 1) da_nil))))
    (dss_cons (ds_set 2 (de_fz (de_call c1_len (fn_seen_masks T B) (hr.mono (by decide)) nogd rfl T.g_seen_masks T.F_seen_masks.kp T.b_seen_masks passX (da_cons (de_v 0) da_nil))) sc_fewest_often.nd)
    (dss_cons (ds_for ownX rfl (di_seq (de_call c1_len (fn_masks_by_size T B) (hr.mono (by decide)) nogd rfl T.g_masks_by_size T.F_masks_by_size.kp T.b_masks_by_size passX (da_cons (de_ixN (dn 0) de_int) da_nil))) (dg_name 3 sc_fewest_often.nd) (dss_cons (ds_if (dt_v (de_call c3_len (fn_sees_often T B) (hr.mono (by decide)) nogd rfl T.g_sees_often T.F_sees_often.kp T.b_sees_often passX (da_cons (de_v 2) (da_cons (de_v 3) (da_cons (de_v 1) da_nil))))) (dss_cons (ds_ret (de_fz (de_call c1_len (fn_members T B) (hr.mono (by decide)) nogd rfl T.g_members T.F_members.kp T.b_members passX (da_cons (de_v 3) da_nil))))
    dss_nil) dss_nil)
    dss_nil))
    (dss_cons (raise_ok rfl takesX T.x_Missing T.RI.gm rfl fun _ => ⟨rfl, _, rfl, rfl⟩)
    dss_nil))))
theorem fn_check_places (T : Tops K mg) (B : TBs base mg) : FnG P w K mg base false 2 T.f_check_places T.d_check_places ["graph", "places"] (spOf K (EAof T.R TT) [false, false] (con2 false py_check_places)) :=
  FnG.of (N := N_check_places) (m := 3) (wb := wf_check_places) T.F_check_places sc_check_places rfl rfl k_check_places fun cdv A outer s H E Ed hr gd =>
    have hu := hr.units
    (dss_cons (ds_expr (de_call c1_len (fn_check_graph T B) (hr.mono (by decide)) nogd rfl T.g_check_graph T.F_check_graph.kp T.b_check_graph passX (da_cons (de_v 0) da_nil)))
    (dss_cons (ds_if (dt_not (dt_v (de_b1 (cr_all rfl) sv_all rfl T.n_all (by decide +kernel) (de_lcE [("place", 2)] rfl sc_check_places.nd (di_seq (de_v 1)) (blkOk_by (own := [("place", 2)]) (N := N_check_places) (sc := defScope s_check_places) (by decide +kernel)) (fun _ _ _ _ _ => (dv_name 2 sc_check_places.nd)) (fun _ _ _ _ _ => dts_nil) (fun _ _ _ _ _ => (de_chain op_le sv_le (op_ltX hu) sv_ltX de_int (de_v 2) (de_ixN (dn 0) de_int))))))) (dss_cons (raise_ok rfl takesX T.x_NotAllowed T.RI.gn rfl fun _ => ⟨rfl, _, rfl, rfl⟩)
    dss_nil) dss_nil)
    (dss_cons (ds_if (dt_not (dt_v (de_b1 (cr_all rfl) sv_all rfl T.n_all (by decide +kernel) (de_lcE [("one", 3), ("other", 4)] rfl sc_check_places.nd (di_zip rfl T.n_zip (de_v 1) (de_slice (de_v 1) (dp_some de_int) dp_none)) (blkOk_by (own := [("one", 3), ("other", 4)]) (N := N_check_places) (sc := defScope s_check_places) (by decide +kernel)) (fun _ _ _ _ _ => (dv_tup K rfl (dvs_cons (dv_name 3 sc_check_places.nd) (dvs_cons (dv_name 4 sc_check_places.nd) dvs_nil)))) (fun _ _ _ _ _ => dts_nil) (fun _ _ _ _ _ => (de_cmp (op_ltX hu) sv_ltX (de_v 3) (de_v 4) (by with_unfolding_all rfl))))))) (dss_cons (raise_ok rfl takesX T.x_NotAllowed T.RI.gn rfl fun _ => ⟨rfl, _, rfl, rfl⟩)
    dss_nil) dss_nil)
    dss_nil)))
theorem fn_mask_of (T : Tops K mg) (B : TBs base mg) : FnG P w K mg base false 1 T.f_mask_of T.d_mask_of ["places"] (spOf K (EAof T.R TT) [false] (con1 false py_mask_of)) :=
  FnG.of (N := N_mask_of) (m := 1) (wb := wf_mask_of) T.F_mask_of sc_mask_of rfl rfl k_mask_of fun cdv A outer s H E Ed hr gd =>
    have hu := hr.units
    (dss_cons (ds_ret (de_fz (de_b1 (call_sumX rfl) sv_sum rfl T.n_sum (by decide +kernel) (de_lcE [("place", 1)] rfl sc_mask_of.nd (di_seq (de_v 0)) (blkOk_by (own := [("place", 1)]) (N := N_mask_of) (sc := defScope s_mask_of) (by decide +kernel)) (fun _ _ _ _ _ => (dv_name 1 sc_mask_of.nd)) (fun _ _ _ _ _ => dts_nil) (fun _ _ _ _ _ => (de_op op_shl sv_shl de_int (de_v 1)))))))
    dss_nil)
theorem fn_watch_often (T : Tops K mg) (B : TBs base mg) : FnG P w K mg base false 4 T.f_watch_often T.d_watch_often ["graph", "fold", "places"] (spOf K (EAof T.R TT) [false, false, false] (con3 false py_watch_often)) :=
  FnG.of (N := N_watch_often) (m := 0) (wb := wf_watch_often) T.F_watch_often sc_watch_often rfl rfl k_watch_often fun cdv A outer s H E Ed hr gd =>
    have hu := hr.units
    (dss_cons (ds_expr (de_call c2_len (fn_check_fold T B) (hr.mono (by decide)) nogd rfl T.g_check_fold T.F_check_fold.kp T.b_check_fold passX (da_cons (de_v 0) (da_cons (de_v 1) da_nil))))
    (dss_cons (ds_expr (de_call c2_len (fn_check_places T B) (hr.mono (by decide)) nogd rfl T.g_check_places T.F_check_places.kp T.b_check_places passX (da_cons (de_v 0) (da_cons (de_v 2) da_nil))))
    (dss_cons (ds_ret (de_fz (de_call c3_len (fn_sees_often T B) (hr.mono (by decide)) nogd rfl T.g_sees_often T.F_sees_often.kp T.b_sees_often passX (da_cons (de_call c1_len (fn_seen_masks T B) (hr.mono (by decide)) nogd rfl T.g_seen_masks T.F_seen_masks.kp T.b_seen_masks passX (da_cons (de_v 0) da_nil)) (da_cons (de_call c1_len (fn_mask_of T B) (hr.mono (by decide)) nogd rfl T.g_mask_of T.F_mask_of.kp T.b_mask_of passX (da_cons (de_v 2) da_nil)) (da_cons (de_v 1) da_nil))))))
    dss_nil)))
theorem fn_outlasts (T : Tops K mg) (B : TBs base mg) : FnG P w K mg base false 4 T.f_outlasts T.d_outlasts ["graph", "places", "failing"] (spOf K (EAof T.R TT) [false, false, false] (con3 false py_outlasts)) :=
  FnG.of (N := N_outlasts) (m := 0) (wb := wf_outlasts) T.F_outlasts sc_outlasts rfl rfl k_outlasts fun cdv A outer s H E Ed hr gd =>
    have hu := hr.units
    (dss_cons (ds_expr (de_call c1_len (fn_check_graph T B) (hr.mono (by decide)) nogd rfl T.g_check_graph T.F_check_graph.kp T.b_check_graph passX (da_cons (de_v 0) da_nil)))
    (dss_cons (ds_expr (de_call c2_len (fn_check_places T B) (hr.mono (by decide)) nogd rfl T.g_check_places T.F_check_places.kp T.b_check_places passX (da_cons (de_v 0) (da_cons (de_v 1) da_nil))))
    (dss_cons (ds_if (dt_not (dt_chain op_le sv_le op_le sv_le de_int (de_v 2) (de_b1 call_len sv_len rfl T.n_len (by decide +kernel) (de_v 1)))) (dss_cons (raise_ok rfl takesX T.x_NotAllowed T.RI.gn rfl fun _ => ⟨rfl, _, rfl, rfl⟩)
    dss_nil) dss_nil)
    (dss_cons (ds_ret (de_fz (de_call c3_len (fn_sees_often T B) (hr.mono (by decide)) nogd rfl T.g_sees_often T.F_sees_often.kp T.b_sees_often passX (da_cons (de_call c1_len (fn_seen_masks T B) (hr.mono (by decide)) nogd rfl T.g_seen_masks T.F_seen_masks.kp T.b_seen_masks passX (da_cons (de_v 0) da_nil)) (da_cons (de_call c1_len (fn_mask_of T B) (hr.mono (by decide)) nogd rfl T.g_mask_of T.F_mask_of.kp T.b_mask_of passX (da_cons (de_v 1) da_nil)) (da_cons (de_op op_addX sv_add (de_v 2) de_int) da_nil))))))
    dss_nil))))
theorem fn_chance_kept (T : Tops K mg) (B : TBs base mg) : FnG P w K mg base false 4 T.f_chance_kept T.d_chance_kept ["graph", "places", "failing"] (spOf K (EAof T.R TT) [false, false, false] (con3 false py_chance_kept)) :=
  FnG.of (N := N_chance_kept) (m := 4) (wb := wf_chance_kept) T.F_chance_kept sc_chance_kept rfl rfl k_chance_kept fun cdv A outer s H E Ed hr gd =>
    have hu := hr.units
    (dss_cons (ds_expr (de_call c1_len (fn_check_graph T B) (hr.mono (by decide)) nogd rfl T.g_check_graph T.F_check_graph.kp T.b_check_graph passX (da_cons (de_v 0) da_nil)))
    (dss_cons (ds_expr (de_call c2_len (fn_check_places T B) (hr.mono (by decide)) nogd rfl T.g_check_places T.F_check_places.kp T.b_check_places passX (da_cons (de_v 0) (da_cons (de_v 1) da_nil))))
    (dss_cons (ds_if (dt_not (dt_chain op_le sv_le op_le sv_le de_int (de_v 2) (de_b1 call_len sv_len rfl T.n_len (by decide +kernel) (de_v 1)))) (dss_cons (raise_ok rfl takesX T.x_NotAllowed T.RI.gn rfl fun _ => ⟨rfl, _, rfl, rfl⟩)
    dss_nil) dss_nil)
    (dss_cons (ds_asg (de_fz (de_tup (da_cons (de_call c1_len (fn_seen_masks T B) (hr.mono (by decide)) nogd rfl T.g_seen_masks T.F_seen_masks.kp T.b_seen_masks passX (da_cons (de_v 0) da_nil)) (da_cons (de_call c1_len (fn_mask_of T B) (hr.mono (by decide)) nogd rfl T.g_mask_of T.F_mask_of.kp T.b_mask_of passX (da_cons (de_v 1) da_nil)) da_nil)))) (dg_tup rfl (dgs_cons (dg_name 3 sc_chance_kept.nd) (dgs_cons (dg_name 4 sc_chance_kept.nd) dgs_nil))))
    (dss_cons (ds_setLcZ 5 [("mask", 6)] rfl sc_chance_kept.nd (di_r1 rfl T.n_range (de_op op_shl sv_shl de_int (de_ixN (dn 0) de_int))) (blkOk_by (own := [("mask", 6)]) (N := N_chance_kept) (sc := defScope s_chance_kept) (by decide +kernel)) (fun _ _ _ _ _ => (dv_name 6 sc_chance_kept.nd)) (fun _ _ _ _ _ => (dts_one (dt_w (dw_and (dt_cmp (op_eqP hu) sv_eq (de_op op_and sv_i2 (de_v 6) (de_un un_inv sv_inv (de_v 4))) de_int (by with_unfolding_all rfl)) (dw_and1 (dt_cmp (op_eqP hu) sv_eq (de_call c1_len (fn_size T B) (hr.mono (by decide)) nogd rfl T.g_size T.F_size.kp T.b_size passN (da_cons (de_v 6) da_nil)) (de_v 2) (by with_unfolding_all rfl))))))) (fun _ _ _ _ _ => (de_v 6)) (sw_true rfl rfl rfl (by decide +kernel)))
    (dss_cons (ds_ret (de_fz (de_tup (da_cons (de_b1 call_len sv_len rfl T.n_len (by decide +kernel) (de_lcE [("mask", 6)] rfl sc_chance_kept.nd (di_seq (de_v 5)) (blkOk_by (own := [("mask", 6)]) (N := N_chance_kept) (sc := defScope s_chance_kept) (by decide +kernel)) (fun _ _ _ _ _ => (dv_name 6 sc_chance_kept.nd)) (fun _ _ _ _ _ => (dts_one (dt_v (de_call c3_len (fn_sees_often T B) (hr.mono (by decide)) nogd rfl T.g_sees_often T.F_sees_often.kp T.b_sees_often passN (da_cons (de_v 3) (da_cons (de_op op_and sv_i2 (de_v 4) (de_un un_inv sv_inv (de_v 6))) (da_cons de_int da_nil))))))) (fun _ _ _ _ _ => (de_v 6)))) (da_cons (de_b1 call_len sv_len rfl T.n_len (by decide +kernel) (de_v 5)) da_nil)))))
    dss_nil))))))
theorem fn_weakest (T : Tops K mg) (B : TBs base mg) : FnG P w K mg base false 3 T.f_weakest T.d_weakest ["graph", "places"] (spOf K (EAof T.R TT) [false, false] (con2 false py_weakest)) :=
  FnG.of (N := N_weakest) (m := 4) (wb := wf_weakest) T.F_weakest sc_weakest rfl rfl k_weakest fun cdv A outer s H E Ed hr gd =>
    have hu := hr.units
    (dss_cons (ds_expr (de_call c1_len (fn_check_graph T B) (hr.mono (by decide)) nogd rfl T.g_check_graph T.F_check_graph.kp T.b_check_graph passX (da_cons (de_v 0) da_nil)))
    (dss_cons (ds_expr (de_call c2_len (fn_check_places T B) (hr.mono (by decide)) nogd rfl T.g_check_places T.F_check_places.kp T.b_check_places passX (da_cons (de_v 0) (da_cons (de_v 1) da_nil))))
    (dss_cons (ds_set 2 (de_fz (de_call c1_len (fn_mask_of T B) (hr.mono (by decide)) nogd rfl T.g_mask_of T.F_mask_of.kp T.b_mask_of passX (da_cons (de_v 1) da_nil))) sc_weakest.nd)
    (dss_cons (ds_setLcZ 3 [("row", 5)] rfl sc_weakest.nd (di_seq (de_call c1_len (fn_seen_masks T B) (hr.mono (by decide)) nogd rfl T.g_seen_masks T.F_seen_masks.kp T.b_seen_masks passX (da_cons (de_v 0) da_nil))) (blkOk_by (own := [("row", 5)]) (N := N_weakest) (sc := defScope s_weakest) (by decide +kernel)) (fun _ _ _ _ _ => (dv_name 5 sc_weakest.nd)) (fun _ _ _ _ _ => dts_nil) (fun _ _ _ _ _ => (de_call c1_len (fn_members T B) (hr.mono (by decide)) nogd rfl T.g_members T.F_members.kp T.b_members passN (da_cons (de_op op_and sv_i2 (de_v 5) (de_v 2)) da_nil))) (sw_true rfl rfl rfl (by decide +kernel)))
    (dss_cons (ds_set 4 (de_fz (de_b1 (call_minX rfl hu) sv_min rfl T.n_min (by decide +kernel) (de_lcE [("row", 5)] rfl sc_weakest.nd (di_seq (de_v 3)) (blkOk_by (own := [("row", 5)]) (N := N_weakest) (sc := defScope s_weakest) (by decide +kernel)) (fun _ _ _ _ _ => (dv_name 5 sc_weakest.nd)) (fun _ _ _ _ _ => dts_nil) (fun _ _ _ _ _ => (de_b1 call_len sv_len rfl T.n_len (by decide +kernel) (de_v 5)))))) sc_weakest.nd)
    (dss_cons (ds_ret (de_fz (de_tup (da_cons (de_v 4) (da_cons (de_b1 (call_minX rfl hu) sv_min rfl T.n_min (by decide +kernel) (de_lcE [("row", 5)] rfl sc_weakest.nd (di_seq (de_v 3)) (blkOk_by (own := [("row", 5)]) (N := N_weakest) (sc := defScope s_weakest) (by decide +kernel)) (fun _ _ _ _ _ => (dv_name 5 sc_weakest.nd)) (fun _ _ _ _ _ => (dts_one (dt_cmp (op_eqP hu) sv_eq (de_b1 call_len sv_len rfl T.n_len (by decide +kernel) (de_v 5)) (de_v 4) (by with_unfolding_all rfl)))) (fun _ _ _ _ _ => (de_v 5)))) da_nil)))))
    dss_nil))))))
theorem fn_least_sets (T : Tops K mg) (B : TBs base mg) : FnG P w K mg base false 4 T.f_least_sets T.d_least_sets ["graph"] (spOf K (EAof T.R TT) [false] (con1 false py_least_sets)) :=
  FnG.of (N := N_least_sets) (m := 4) (wb := wf_least_sets) T.F_least_sets sc_least_sets rfl rfl k_least_sets fun cdv A outer s H E Ed hr gd =>
    have hu := hr.units
    (dss_cons (ds_expr (de_call c1_len (fn_check_graph T B) (hr.mono (by decide)) nogd rfl T.g_check_graph T.F_check_graph.kp T.b_check_graph passX (da_cons (de_v 0) da_nil)))
    (dss_cons (ds_unp [1, 2] rfl (by decide) (dm_cons (de_fz (de_call c1_len (fn_seen_masks T B) (hr.mono (by decide)) nogd rfl T.g_seen_masks T.F_seen_masks.kp T.b_seen_masks passX (da_cons (de_v 0) da_nil))) (dm_cons (de_lst da_nil) dm_nil)) (pns_cons sc_least_sets.nd (pns_cons sc_least_sets.nd pns_nil)).pg rfl (hlim := by decide))
    (dss_cons (ds_for ownX rfl (di_r1 rfl T.n_range (de_op op_shl sv_shl de_int (de_ixN (dn 0) de_int))) (dg_name 3 sc_least_sets.nd) (dss_cons (ds_if (dt_v (de_call c3_len (fn_sees_often T B) (hr.mono (by decide)) nogd rfl T.g_sees_often T.F_sees_often.kp T.b_sees_often passX (da_cons (de_v 1) (da_cons (de_v 3) (da_cons de_int da_nil))))) (dss_cons (ds_if (dt_not (dt_v (de_b1 (cr_any rfl) sv_any rfl T.n_any (by decide +kernel) (de_lcE [("place", 4)] rfl sc_least_sets.nd (di_seq (de_call c1_len (fn_members T B) (hr.mono (by decide)) nogd rfl T.g_members T.F_members.kp T.b_members passX (da_cons (de_v 3) da_nil))) (blkOk_by (own := [("place", 4)]) (N := N_least_sets) (sc := defScope s_least_sets) (by decide +kernel)) (fun _ _ _ _ _ => (dv_name 4 sc_least_sets.nd)) (fun _ _ _ _ _ => dts_nil) (fun _ _ _ _ _ => (de_call c3_len (fn_sees_often T B) (hr.mono (by decide)) nogd rfl T.g_sees_often T.F_sees_often.kp T.b_sees_often passN (da_cons (de_v 1) (da_cons (de_op op_xor sv_i2 (de_v 3) (de_op op_shl sv_shl de_int (de_v 4))) (da_cons de_int da_nil))))))))) (dss_cons (ds_app (dn 2) (de_call c1_len (fn_members T B) (hr.mono (by decide)) nogd rfl T.g_members T.F_members.kp T.b_members passX (da_cons (de_v 3) da_nil)))
    dss_nil) dss_nil)
    dss_nil) dss_nil)
    dss_nil))
    (dss_cons (ds_pre [2] (ds_ret (de_fz (de_b1 (call_sortedX hu) sv_sorted rfl T.n_sorted (by decide +kernel) (de_v 2)))))
    dss_nil))))
theorem fn_in_all (T : Tops K mg) (B : TBs base mg) : FnG P w K mg base false 5 T.f_in_all T.d_in_all ["graph"] (spOf K (EAof T.R TT) [false] (con1 false py_in_all)) :=
  FnG.of (N := N_in_all) (m := 3) (wb := wf_in_all) T.F_in_all sc_in_all rfl rfl k_in_all fun cdv A outer s H E Ed hr gd =>
    have hu := hr.units
    (dss_cons (ds_set 1 (de_fz (de_call c1_len (fn_least_sets T B) (hr.mono (by decide)) nogd rfl T.g_least_sets T.F_least_sets.kp T.b_least_sets passX (da_cons (de_v 0) da_nil))) sc_in_all.nd)
    (dss_cons (ds_ret (de_fz (de_lcE [("place", 2)] rfl sc_in_all.nd (di_r1 rfl T.n_range (de_ixN (dn 0) de_int)) (blkOk_by (own := [("place", 2)]) (N := N_in_all) (sc := defScope s_in_all) (by decide +kernel)) (fun _ _ _ _ _ => (dv_name 2 sc_in_all.nd)) (fun _ _ _ _ _ => (dts_one (dt_v (de_b1 (cr_all rfl) sv_all rfl T.n_all (by decide +kernel) (de_lcE [("row", 3)] rfl sc_in_all.nd (di_seq (de_v 1)) (by refine blkOk_by (N := N_in_all) (own := [("row", 3)]) ?_; kernel_rfl) (fun _ _ _ _ _ => (dv_name 3 sc_in_all.nd)) (fun _ _ _ _ _ => dts_nil) (fun _ _ _ _ _ => (de_cmp (op_inP hu) sv_in (de_v 2) (de_v 3) (by with_unfolding_all rfl)))))))) (fun _ _ _ _ _ => (de_v 2)))))
    dss_nil))
theorem fn_most_needed (T : Tops K mg) (B : TBs base mg) : FnG P w K mg base false 5 T.f_most_needed T.d_most_needed ["graph"] (spOf K (EAof T.R TT) [false] (con1 false py_most_needed)) :=
  FnG.of (N := N_most_needed) (m := 3) (wb := wf_most_needed) T.F_most_needed sc_most_needed rfl rfl k_most_needed fun cdv A outer s H E Ed hr gd =>
    have hu := hr.units
    (dss_cons (ds_set 1 (de_fz (de_call c1_len (fn_least_sets T B) (hr.mono (by decide)) nogd rfl T.g_least_sets T.F_least_sets.kp T.b_least_sets passX (da_cons (de_v 0) da_nil))) sc_most_needed.nd)
    (dss_cons (ds_set 2 (de_fz (de_b1 (call_maxX rfl hu) sv_max rfl T.n_max (by decide +kernel) (de_lcE [("row", 3)] rfl sc_most_needed.nd (di_seq (de_v 1)) (blkOk_by (own := [("row", 3)]) (N := N_most_needed) (sc := defScope s_most_needed) (by decide +kernel)) (fun _ _ _ _ _ => (dv_name 3 sc_most_needed.nd)) (fun _ _ _ _ _ => dts_nil) (fun _ _ _ _ _ => (de_b1 call_len sv_len rfl T.n_len (by decide +kernel) (de_v 3)))))) sc_most_needed.nd)
    (dss_cons (ds_ret (de_fz (de_tup (da_cons (de_v 2) (da_cons (de_ix (de_lcE [("row", 3)] rfl sc_most_needed.nd (di_seq (de_v 1)) (blkOk_by (own := [("row", 3)]) (N := N_most_needed) (sc := defScope s_most_needed) (by decide +kernel)) (fun _ _ _ _ _ => (dv_name 3 sc_most_needed.nd)) (fun _ _ _ _ _ => (dts_one (dt_cmp (op_eqP hu) sv_eq (de_b1 call_len sv_len rfl T.n_len (by decide +kernel) (de_v 3)) (de_v 2) (by with_unfolding_all rfl)))) (fun _ _ _ _ _ => (de_v 3))) de_int) da_nil)))))
    dss_nil)))
theorem fn_count_sets (T : Tops K mg) (B : TBs base mg) : FnG P w K mg base false 4 T.f_count_sets T.d_count_sets ["graph", "many"] (spOf K (EAof T.R TT) [false, false] (con2 false py_count_sets)) :=
  FnG.of (N := N_count_sets) (m := 2) (wb := wf_count_sets) T.F_count_sets sc_count_sets rfl rfl k_count_sets fun cdv A outer s H E Ed hr gd =>
    have hu := hr.units
    (dss_cons (ds_expr (de_call c1_len (fn_check_graph T B) (hr.mono (by decide)) nogd rfl T.g_check_graph T.F_check_graph.kp T.b_check_graph passX (da_cons (de_v 0) da_nil)))
    (dss_cons (ds_if (dt_not (dt_chain op_le sv_le op_le sv_le de_int (de_v 1) (de_ixN (dn 0) de_int))) (dss_cons (raise_ok rfl takesX T.x_NotAllowed T.RI.gn rfl fun _ => ⟨rfl, _, rfl, rfl⟩)
    dss_nil) dss_nil)
    (dss_cons (ds_set 2 (de_fz (de_call c1_len (fn_seen_masks T B) (hr.mono (by decide)) nogd rfl T.g_seen_masks T.F_seen_masks.kp T.b_seen_masks passX (da_cons (de_v 0) da_nil))) sc_count_sets.nd)
    (dss_cons (ds_ret (de_fz (de_b1 call_len sv_len rfl T.n_len (by decide +kernel) (de_lcE [("mask", 3)] rfl sc_count_sets.nd (di_r1 rfl T.n_range (de_op op_shl sv_shl de_int (de_ixN (dn 0) de_int))) (blkOk_by (own := [("mask", 3)]) (N := N_count_sets) (sc := defScope s_count_sets) (by decide +kernel)) (fun _ _ _ _ _ => (dv_name 3 sc_count_sets.nd)) (fun _ _ _ _ _ => (dts_one (dt_w (dw_and (dt_cmp (op_eqP hu) sv_eq (de_call c1_len (fn_size T B) (hr.mono (by decide)) nogd rfl T.g_size T.F_size.kp T.b_size passN (da_cons (de_v 3) da_nil)) (de_v 1) (by with_unfolding_all rfl)) (dw_and1 (dt_v (de_call c3_len (fn_sees_often T B) (hr.mono (by decide)) nogd rfl T.g_sees_often T.F_sees_often.kp T.b_sees_often passN (da_cons (de_v 2) (da_cons (de_v 3) (da_cons de_int da_nil)))))))))) (fun _ _ _ _ _ => (de_v 3))))))
    dss_nil))))
theorem fn_all_counts (T : Tops K mg) (B : TBs base mg) : FnG P w K mg base false 4 T.f_all_counts T.d_all_counts ["graph"] (spOf K (EAof T.R TT) [false] (con1 false py_all_counts)) :=
  FnG.of (N := N_all_counts) (m := 3) (wb := wf_all_counts) T.F_all_counts sc_all_counts rfl rfl k_all_counts fun cdv A outer s H E Ed hr gd =>
    have hu := hr.units
    (dss_cons (ds_expr (de_call c1_len (fn_check_graph T B) (hr.mono (by decide)) nogd rfl T.g_check_graph T.F_check_graph.kp T.b_check_graph passX (da_cons (de_v 0) da_nil)))
    (dss_cons (ds_mul2 1 2 rfl sc_all_counts.nd (dm_cons (de_fz (de_call c1_len (fn_seen_masks T B) (hr.mono (by decide)) nogd rfl T.g_seen_masks T.F_seen_masks.kp T.b_seen_masks passX (da_cons (de_v 0) da_nil))) (dm_cons (de_op op_mulX sv_mul (de_lst (da_cons de_int da_nil)) (de_op op_addX sv_add (de_ixN (dn 0) de_int) de_int)) dm_nil)) (by decide))
    (dss_cons (ds_for ownX rfl (di_r1 rfl T.n_range (de_op op_shl sv_shl de_int (de_ixN (dn 0) de_int))) (dg_name 3 sc_all_counts.nd) (dss_cons (ds_if (dt_v (de_call c3_len (fn_sees_often T B) (hr.mono (by decide)) nogd rfl T.g_sees_often T.F_sees_often.kp T.b_sees_often passX (da_cons (de_v 1) (da_cons (de_v 3) (da_cons de_int da_nil))))) (dss_cons (ds_asg (de_op op_addX sv_add (de_ixN (dn 2) (de_call c1_len (fn_size T B) (hr.mono (by decide)) nogd rfl T.g_size T.F_size.kp T.b_size passX (da_cons (de_v 3) da_nil))) de_int) (dg_ix (dn 2) (de_call c1_len (fn_size T B) (hr.mono (by decide)) nogd rfl T.g_size T.F_size.kp T.b_size passX (da_cons (de_v 3) da_nil))))
    dss_nil) dss_nil)
    dss_nil))
    (dss_cons (ds_pre [2] (ds_ret (de_fz (de_t1 call_tuple_of sv_tuple rfl T.n_tuple (by decide +kernel) (de_v 2)))))
    dss_nil))))
theorem fn__law_bad_graphs (T : Tops K mg) (B : TBs base mg) : FnG P w K mg base false 1 T.f__law_bad_graphs T.d__law_bad_graphs [] (spOf K (EAof T.R TT) [] (con0 false py__law_bad_graphs)) :=
  FnG.of (N := N__law_bad_graphs) (m := 0) (wb := wf__law_bad_graphs) T.F__law_bad_graphs sc__law_bad_graphs rfl rfl k__law_bad_graphs fun cdv A outer s H E Ed hr gd =>
    have hu := hr.units
    (dss_cons (ds_ret (de_fz (de_lst (da_cons (de_tup (da_cons de_int (da_cons (de_tup da_nil) da_nil))) (da_cons (de_tup (da_cons de_int (da_cons (de_tup da_nil) da_nil))) (da_cons (de_tup (da_cons de_int (da_cons (de_tup (da_cons (de_tup (da_cons de_int (da_cons de_int da_nil))) da_nil)) da_nil))) (da_cons (de_tup (da_cons de_int (da_cons (de_tup (da_cons (de_tup (da_cons de_int (da_cons de_int da_nil))) da_nil)) da_nil))) (da_cons (de_tup (da_cons de_int (da_cons (de_tup (da_cons (de_tup (da_cons de_int (da_cons de_int da_nil))) (da_cons (de_tup (da_cons de_int (da_cons de_int da_nil))) da_nil))) da_nil))) (da_cons (de_tup (da_cons de_int (da_cons (de_tup (da_cons (de_tup (da_cons de_int (da_cons de_int da_nil))) (da_cons (de_tup (da_cons de_int (da_cons de_int da_nil))) da_nil))) da_nil))) (da_cons (de_tup (da_cons de_int (da_cons (de_tup (da_cons (de_tup (da_cons de_int (da_cons de_int da_nil))) da_nil)) da_nil))) (da_cons (de_tup (da_cons de_int (da_cons (de_tup (da_cons (de_tup (da_cons de_int da_nil)) da_nil)) da_nil))) da_nil)))))))))))
    dss_nil)
theorem fn_law (T : Tops K mg) (B : TBs base mg) : FnG P w K mg base true 8 T.f_law T.d_law ["script"] (spOf K (EAof T.R TT) [false] (lawC (bitsB 63))) :=
  FnG.ofC (N := N_law) (m := 29) (wb := wf_law) T.F_law sc_law rfl rfl (keeps_law k_law law_true) fun A outer s H E Ed hr gd =>
    have hu := hr.units
    (dss_cons (ds_set 1 (de_lst (da_cons (de_call c1_len (fn__law_stream T B) (hr.mono (by decide)) nogd rfl T.g__law_stream T.F__law_stream.kp T.b__law_stream passX (da_cons (de_v 0) da_nil)) (da_cons de_int da_nil))) sc_law.nd)
    (dss_cons (ds_for ownX rfl (di_r1 rfl T.n_range de_int) (dg_name 2 sc_law.nd) (dss_cons (ds_set 3 (de_fz (de_callB l2_len (fn__law_graph T B) (hr.mono (by decide)) nogd rfl T.g__law_graph T.F__law_graph.kp T.b__law_graph passX (dn 1) (da_cons de_int da_nil))) sc_law.nd)
    (dss_cons (ds_set 4 (de_fz (de_ixN (dn 3) de_int)) sc_law.nd)
    (dss_cons (ds_set 5 (de_fz (de_call c1_len (fn__law_seen T B) (hr.mono (by decide)) nogd rfl T.g__law_seen T.F__law_seen.kp T.b__law_seen passX (da_cons (de_v 3) da_nil))) sc_law.nd)
    (dss_cons (ds_set 6 (de_fz (de_call c1_len (fn__law_sets T B) (hr.mono (by decide)) nogd rfl T.g__law_sets T.F__law_sets.kp T.b__law_sets passX (da_cons (de_v 4) da_nil))) sc_law.nd)
    (dss_cons (ds_set 7 (de_fz (de_lcE [("places", 11)] rfl sc_law.nd (di_seq (de_v 6)) (blkOk_by (own := [("places", 11)]) (N := N_law) (sc := defScope s_law) (by decide +kernel)) (fun _ _ _ _ _ => (dv_name 11 sc_law.nd)) (fun _ _ _ _ _ => (dts_one (dt_v (de_call c2_len (fn__law_all_seen T B) (hr.mono (by decide)) nogd rfl T.g__law_all_seen T.F__law_all_seen.kp T.b__law_all_seen passN (da_cons (de_v 5) (da_cons (de_v 11) da_nil)))))) (fun _ _ _ _ _ => (de_v 11)))) sc_law.nd)
    (dss_cons (ds_for ownX rfl (di_seq (de_lst (da_cons de_int (da_cons de_int (da_cons de_int da_nil))))) (dg_name 8 sc_law.nd) (dss_cons (ds_setLcZ 18 [("places", 11)] rfl sc_law.nd (di_seq (de_v 6)) (blkOk_by (own := [("places", 11)]) (N := N_law) (sc := defScope s_law) (by decide +kernel)) (fun _ _ _ _ _ => (dv_name 11 sc_law.nd)) (fun _ _ _ _ _ => (dts_one (dt_v (de_call c3_len (fn__law_often T B) (hr.mono (by decide)) nogd rfl T.g__law_often T.F__law_often.kp T.b__law_often passN (da_cons (de_v 5) (da_cons (de_v 11) (da_cons (de_v 8) da_nil))))))) (fun _ _ _ _ _ => (de_v 11)) (sw_true rfl rfl rfl (by decide +kernel)))
    (dss_cons (ds_if (dt_not (dt_v (de_call c2_len (fn__law_same T B) (hr.mono (by decide)) gd rfl T.g__law_same T.F__law_same.kp T.b__law_same passX (da_cons (de_told (k := 4) [] T.F__law_told T.g__law_told T.b__law_told sc__law_told (fun cdv => gives T cdv (hr.mono (j := 2) (by decide))) B.b_law rfl mem_law uniq_law (hr.mono (by decide)) (fun _ _ _ _ h => h) (fun _ _ _ _ _ _ _ _ hr hx => have hu := hr.units; (de_call c2_len (fn_fewest_often T B) (hr.mono (by decide)) nogd rfl T.g_fewest_often T.F_fewest_often.kp T.b_fewest_often hx (da_cons (de_v 3) (da_cons (de_v 8) da_nil)))) (lamS_by (sc := defScope s_law) (by decide +kernel))) (da_cons (de_ix (de_lst (da_cons (de_tup (da_cons de_str (da_cons (de_ix (de_op op_addX sv_add (de_v 18) (de_lst (da_cons de_int da_nil))) de_int) da_nil))) (da_cons (de_tup (da_cons de_str da_nil)) da_nil))) (de_t1 call_int1 sv_int rfl T.n_int (by decide +kernel) (de_cmp (op_eqP hu) sv_eq (de_v 18) (de_lst da_nil) (by with_unfolding_all rfl)))) da_nil))))) (dss_cons (ds_ret (de_fz de_bool))
    dss_nil) dss_nil)
    dss_nil)))
    (dss_cons (ds_for ownX rfl (di_r1 rfl T.n_range de_int) (dg_name 9 sc_law.nd) (dss_cons (ds_set 11 (de_fz (de_ix (de_lst (da_cons (de_ixN (dn 6) (de_callB l2_len (fn__law_next T B) (hr.mono (by decide)) nogd rfl T.g__law_next T.F__law_next.kp T.b__law_next passX (dn 1) (da_cons (de_b1 call_len sv_len rfl T.n_len (by decide +kernel) (de_v 6)) da_nil))) (da_cons (de_ixN (dn 7) (de_callB l2_len (fn__law_next T B) (hr.mono (by decide)) nogd rfl T.g__law_next T.F__law_next.kp T.b__law_next passX (dn 1) (da_cons (de_b1 call_len sv_len rfl T.n_len (by decide +kernel) (de_v 7)) da_nil))) da_nil))) (de_callB l2_len (fn__law_next T B) (hr.mono (by decide)) nogd rfl T.g__law_next T.F__law_next.kp T.b__law_next passX (dn 1) (da_cons de_int da_nil)))) sc_law.nd)
    (dss_cons (ds_set 19 (de_fz (de_callB l2_len (fn__law_next T B) (hr.mono (by decide)) nogd rfl T.g__law_next T.F__law_next.kp T.b__law_next passX (dn 1) (da_cons (de_op op_addX sv_add (de_b1 call_len sv_len rfl T.n_len (by decide +kernel) (de_v 11)) de_int) da_nil))) sc_law.nd)
    (dss_cons (ds_setLcZ 20 [("row", 27)] rfl sc_law.nd (di_seq (de_v 6)) (blkOk_by (own := [("row", 27)]) (N := N_law) (sc := defScope s_law) (by decide +kernel)) (fun _ _ _ _ _ => (dv_name 27 sc_law.nd)) (fun _ _ _ _ _ => (dts_one (dt_w (dw_and (dt_cmp (op_eqP hu) sv_eq (de_b1 call_len sv_len rfl T.n_len (by decide +kernel) (de_v 27)) (de_v 19) (by with_unfolding_all rfl)) (dw_and1 (dt_cmp (op_eqP hu) sv_eq (de_b1 call_len sv_len rfl T.n_len (by decide +kernel) (de_lcE [("one", 29)] rfl sc_law.nd (di_seq (de_v 27)) (by refine blkOk_by (N := N_law) (own := [("one", 29)]) ?_; kernel_rfl) (fun _ _ _ _ _ => (dv_name 29 sc_law.nd)) (fun _ _ _ _ _ => (dts_one (dt_cmp (op_notInP hu) sv_notIn (de_v 29) (de_v 11) (by with_unfolding_all rfl)))) (fun _ _ _ _ _ => (de_v 29)))) de_int (by with_unfolding_all rfl))))))) (fun _ _ _ _ _ => (de_v 27)) (sw_true rfl rfl rfl (by decide +kernel)))
    (dss_cons (ds_setLcZ 21 [("row", 27)] rfl sc_law.nd (di_seq (de_v 20)) (blkOk_by (own := [("row", 27)]) (N := N_law) (sc := defScope s_law) (by decide +kernel)) (fun _ _ _ _ _ => (dv_name 27 sc_law.nd)) (fun _ _ _ _ _ => (dts_one (dt_cmp (op_inP hu) sv_in (de_t1 call_tuple_of sv_tuple rfl T.n_tuple (by decide +kernel) (de_lcE [("one", 29)] rfl sc_law.nd (di_seq (de_v 11)) (by refine blkOk_by (N := N_law) (own := [("one", 29)]) ?_; kernel_rfl) (fun _ _ _ _ _ => (dv_name 29 sc_law.nd)) (fun _ _ _ _ _ => (dts_one (dt_cmp (op_notInP hu) sv_notIn (de_v 29) (de_v 27) (by with_unfolding_all rfl)))) (fun _ _ _ _ _ => (de_v 29)))) (de_v 7) (by with_unfolding_all rfl)))) (fun _ _ _ _ _ => (de_v 27)) (sw_true rfl rfl rfl (by decide +kernel)))
    (dss_cons (ds_set 8 (de_fz (de_op op_addX sv_add de_int (de_callB l2_len (fn__law_next T B) (hr.mono (by decide)) nogd rfl T.g__law_next T.F__law_next.kp T.b__law_next passX (dn 1) (da_cons de_int da_nil)))) sc_law.nd)
    (dss_cons (ds_setLcZ 22 [("row", 27)] rfl sc_law.nd (di_seq (de_v 5)) (blkOk_by (own := [("row", 27)]) (N := N_law) (sc := defScope s_law) (by decide +kernel)) (fun _ _ _ _ _ => (dv_name 27 sc_law.nd)) (fun _ _ _ _ _ => dts_nil) (fun _ _ _ _ _ => (de_t1 call_tuple_of sv_tuple rfl T.n_tuple (by decide +kernel) (de_lcE [("one", 29)] rfl sc_law.nd (di_seq (de_v 27)) (by refine blkOk_by (N := N_law) (own := [("one", 29)]) ?_; kernel_rfl) (fun _ _ _ _ _ => (dv_name 29 sc_law.nd)) (fun _ _ _ _ _ => (dts_one (dt_cmp (op_inP hu) sv_in (de_v 29) (de_v 11) (by with_unfolding_all rfl)))) (fun _ _ _ _ _ => (de_v 29))))) (sw_true rfl rfl rfl (by decide +kernel)))
    (dss_cons (ds_set 23 (de_fz (de_b1 (call_minX rfl hu) sv_min rfl T.n_min (by decide +kernel) (de_lcE [("row", 27)] rfl sc_law.nd (di_seq (de_v 22)) (blkOk_by (own := [("row", 27)]) (N := N_law) (sc := defScope s_law) (by decide +kernel)) (fun _ _ _ _ _ => (dv_name 27 sc_law.nd)) (fun _ _ _ _ _ => dts_nil) (fun _ _ _ _ _ => (de_b1 call_len sv_len rfl T.n_len (by decide +kernel) (de_v 27)))))) sc_law.nd)
    (dss_cons (ds_set 24 (de_fz (de_lst (da_cons (de_call c3_len (fn_watch_often T B) (hr.mono (by decide)) nogd rfl T.g_watch_often T.F_watch_often.kp T.b_watch_often passX (da_cons (de_v 3) (da_cons (de_v 8) (da_cons (de_v 11) da_nil)))) (da_cons (de_call c3_len (fn_outlasts T B) (hr.mono (by decide)) nogd rfl T.g_outlasts T.F_outlasts.kp T.b_outlasts passX (da_cons (de_v 3) (da_cons (de_v 11) (da_cons (de_v 19) da_nil)))) (da_cons (de_call c3_len (fn_chance_kept T B) (hr.mono (by decide)) nogd rfl T.g_chance_kept T.F_chance_kept.kp T.b_chance_kept passX (da_cons (de_v 3) (da_cons (de_v 11) (da_cons (de_v 19) da_nil)))) (da_cons (de_call c2_len (fn_weakest T B) (hr.mono (by decide)) nogd rfl T.g_weakest T.F_weakest.kp T.b_weakest passX (da_cons (de_v 3) (da_cons (de_v 11) da_nil))) da_nil)))))) sc_law.nd)
    (dss_cons (ds_if (dt_not (dt_v (de_call c2_len (fn__law_same T B) (hr.mono (by decide)) gd rfl T.g__law_same T.F__law_same.kp T.b__law_same passX (da_cons (de_v 24) (da_cons (de_lst (da_cons (de_call c3_len (fn__law_often T B) (hr.mono (by decide)) nogd rfl T.g__law_often T.F__law_often.kp T.b__law_often passX (da_cons (de_v 5) (da_cons (de_v 11) (da_cons (de_v 8) da_nil)))) (da_cons (de_cmp (op_eqP hu) sv_eq (de_b1 call_len sv_len rfl T.n_len (by decide +kernel) (de_v 21)) (de_b1 call_len sv_len rfl T.n_len (by decide +kernel) (de_v 20)) (by with_unfolding_all rfl)) (da_cons (de_tup (da_cons (de_b1 call_len sv_len rfl T.n_len (by decide +kernel) (de_v 21)) (da_cons (de_b1 call_len sv_len rfl T.n_len (by decide +kernel) (de_v 20)) da_nil))) (da_cons (de_tup (da_cons (de_v 23) (da_cons (de_b1 (call_minX rfl hu) sv_min rfl T.n_min (by decide +kernel) (de_lcE [("row", 27)] rfl sc_law.nd (di_seq (de_v 22)) (blkOk_by (own := [("row", 27)]) (N := N_law) (sc := defScope s_law) (by decide +kernel)) (fun _ _ _ _ _ => (dv_name 27 sc_law.nd)) (fun _ _ _ _ _ => (dts_one (dt_cmp (op_eqP hu) sv_eq (de_b1 call_len sv_len rfl T.n_len (by decide +kernel) (de_v 27)) (de_v 23) (by with_unfolding_all rfl)))) (fun _ _ _ _ _ => (de_v 27)))) da_nil))) da_nil))))) da_nil))))) (dss_cons (ds_ret (de_fz de_bool))
    dss_nil) dss_nil)
    dss_nil))))))))))
    (dss_cons (ds_set 10 (de_lst da_nil) sc_law.nd)
    (dss_cons (ds_for ownX rfl (di_seq (de_v 7)) (dg_name 11 sc_law.nd) (dss_cons (ds_setLcZ 25 [("out", 28)] rfl sc_law.nd (di_seq (de_v 11)) (blkOk_by (own := [("out", 28)]) (N := N_law) (sc := defScope s_law) (by decide +kernel)) (fun _ _ _ _ _ => (dv_name 28 sc_law.nd)) (fun _ _ _ _ _ => dts_nil) (fun _ _ _ _ _ => (de_t1 call_tuple_of sv_tuple rfl T.n_tuple (by decide +kernel) (de_lcE [("one", 29)] rfl sc_law.nd (di_seq (de_v 11)) (by refine blkOk_by (N := N_law) (own := [("one", 29)]) ?_; kernel_rfl) (fun _ _ _ _ _ => (dv_name 29 sc_law.nd)) (fun _ _ _ _ _ => (dts_one (dt_cmp (op_neP hu) sv_ne (de_v 29) (de_v 28) (by with_unfolding_all rfl)))) (fun _ _ _ _ _ => (de_v 29))))) (sw_true rfl rfl rfl (by decide +kernel)))
    (dss_cons (ds_if (dt_cmp (op_eqP hu) sv_eq (de_b1 call_len sv_len rfl T.n_len (by decide +kernel) (de_lcE [("row", 27)] rfl sc_law.nd (di_seq (de_v 25)) (blkOk_by (own := [("row", 27)]) (N := N_law) (sc := defScope s_law) (by decide +kernel)) (fun _ _ _ _ _ => (dv_name 27 sc_law.nd)) (fun _ _ _ _ _ => (dts_one (dt_cmp (op_inP hu) sv_in (de_v 27) (de_v 7) (by with_unfolding_all rfl)))) (fun _ _ _ _ _ => (de_v 27)))) de_int (by with_unfolding_all rfl)) (dss_cons (ds_app (dn 10) (de_v 11))
    dss_nil) dss_nil)
    dss_nil)))
    (dss_cons (ds_pre [10] (ds_set 12 (de_fz (de_b1 (call_maxX rfl hu) sv_max rfl T.n_max (by decide +kernel) (de_lcE [("places", 11)] rfl sc_law.nd (di_seq (de_v 10)) (blkOk_by (own := [("places", 11)]) (N := N_law) (sc := defScope s_law) (by decide +kernel)) (fun _ _ _ _ _ => (dv_name 11 sc_law.nd)) (fun _ _ _ _ _ => dts_nil) (fun _ _ _ _ _ => (de_b1 call_len sv_len rfl T.n_len (by decide +kernel) (de_v 11)))))) sc_law.nd))
    (dss_cons (ds_pre [10] (ds_setLcZ 13 [("place", 26)] rfl sc_law.nd (di_r1 rfl T.n_range (de_v 4)) (blkOk_by (own := [("place", 26)]) (N := N_law) (sc := defScope s_law) (by decide +kernel)) (fun _ _ _ _ _ => (dv_name 26 sc_law.nd)) (fun _ _ _ _ _ => (dts_one (dt_cmp (op_eqP hu) sv_eq (de_b1 call_len sv_len rfl T.n_len (by decide +kernel) (de_lcE [("row", 27)] rfl sc_law.nd (di_seq (de_v 10)) (by refine blkOk_by (N := N_law) (own := [("row", 27)]) ?_; kernel_rfl) (fun _ _ _ _ _ => (dv_name 27 sc_law.nd)) (fun _ _ _ _ _ => (dts_one (dt_cmp (op_notInP hu) sv_notIn (de_v 26) (de_v 27) (by with_unfolding_all rfl)))) (fun _ _ _ _ _ => (de_v 27)))) de_int (by with_unfolding_all rfl)))) (fun _ _ _ _ _ => (de_v 26)) (sw_true rfl rfl rfl (by decide +kernel))))
    (dss_cons (ds_pre [10] (ds_if (dt_not (dt_v (de_call c2_len (fn__law_same T B) (hr.mono (by decide)) gd rfl T.g__law_same T.F__law_same.kp T.b__law_same passX (da_cons (de_lst (da_cons (de_call c1_len (fn_least_sets T B) (hr.mono (by decide)) nogd rfl T.g_least_sets T.F_least_sets.kp T.b_least_sets passX (da_cons (de_v 3) da_nil)) (da_cons (de_call c1_len (fn_in_all T B) (hr.mono (by decide)) nogd rfl T.g_in_all T.F_in_all.kp T.b_in_all passX (da_cons (de_v 3) da_nil)) (da_cons (de_call c1_len (fn_most_needed T B) (hr.mono (by decide)) nogd rfl T.g_most_needed T.F_most_needed.kp T.b_most_needed passX (da_cons (de_v 3) da_nil)) da_nil)))) (da_cons (de_lst (da_cons (de_b1 (call_sortedX hu) sv_sorted rfl T.n_sorted (by decide +kernel) (de_v 10)) (da_cons (de_v 13) (da_cons (de_tup (da_cons (de_v 12) (da_cons (de_ix (de_lcE [("row", 27)] rfl sc_law.nd (di_seq (de_b1 (call_sortedX hu) sv_sorted rfl T.n_sorted (by decide +kernel) (de_v 10))) (blkOk_by (own := [("row", 27)]) (N := N_law) (sc := defScope s_law) (by decide +kernel)) (fun _ _ _ _ _ => (dv_name 27 sc_law.nd)) (fun _ _ _ _ _ => (dts_one (dt_cmp (op_eqP hu) sv_eq (de_b1 call_len sv_len rfl T.n_len (by decide +kernel) (de_v 27)) (de_v 12) (by with_unfolding_all rfl)))) (fun _ _ _ _ _ => (de_v 27))) de_int) da_nil))) da_nil)))) da_nil))))) (dss_cons (ds_ret (de_fz de_bool))
    dss_nil) dss_nil))
    (dss_cons (ds_setLcZ 14 [("size_v", 15)] rfl sc_law.nd (di_r1 rfl T.n_range (de_op op_addX sv_add (de_v 4) de_int)) (blkOk_by (own := [("size_v", 15)]) (N := N_law) (sc := defScope s_law) (by decide +kernel)) (fun _ _ _ _ _ => (dv_name 15 sc_law.nd)) (fun _ _ _ _ _ => dts_nil) (fun _ _ _ _ _ => (de_b1 call_len sv_len rfl T.n_len (by decide +kernel) (de_lcE [("places", 11)] rfl sc_law.nd (di_seq (de_v 7)) (by refine blkOk_by (N := N_law) (own := [("places", 11)]) ?_; kernel_rfl) (fun _ _ _ _ _ => (dv_name 11 sc_law.nd)) (fun _ _ _ _ _ => (dts_one (dt_cmp (op_eqP hu) sv_eq (de_b1 call_len sv_len rfl T.n_len (by decide +kernel) (de_v 11)) (de_v 15) (by with_unfolding_all rfl)))) (fun _ _ _ _ _ => (de_v 11))))) (sw_true rfl rfl rfl (by decide +kernel)))
    (dss_cons (ds_set 15 (de_fz (de_callB l2_len (fn__law_next T B) (hr.mono (by decide)) nogd rfl T.g__law_next T.F__law_next.kp T.b__law_next passX (dn 1) (da_cons (de_op op_addX sv_add (de_v 4) de_int) da_nil))) sc_law.nd)
    (dss_cons (ds_if (dt_not (dt_v (de_call c2_len (fn__law_same T B) (hr.mono (by decide)) gd rfl T.g__law_same T.F__law_same.kp T.b__law_same passX (da_cons (de_lst (da_cons (de_call c2_len (fn_count_sets T B) (hr.mono (by decide)) nogd rfl T.g_count_sets T.F_count_sets.kp T.b_count_sets passX (da_cons (de_v 3) (da_cons (de_v 15) da_nil))) (da_cons (de_call c1_len (fn_all_counts T B) (hr.mono (by decide)) nogd rfl T.g_all_counts T.F_all_counts.kp T.b_all_counts passX (da_cons (de_v 3) da_nil)) da_nil))) (da_cons (de_lst (da_cons (de_ixN (dn 14) (de_v 15)) (da_cons (de_t1 call_tuple_of sv_tuple rfl T.n_tuple (by decide +kernel) (de_v 14)) da_nil))) da_nil))))) (dss_cons (ds_ret (de_fz de_bool))
    dss_nil) dss_nil)
    (dss_cons (ds_for ownX rfl (di_seq (de_call0 c0_len (fn__law_bad_graphs T B) (hr.mono (by decide)) nogd rfl T.g__law_bad_graphs T.F__law_bad_graphs.kp T.b__law_bad_graphs passX)) (dg_name 16 sc_law.nd) (dss_cons (ds_set 17 (de_fz (de_lst (da_cons (de_told (k := 4) [] T.F__law_told T.g__law_told T.b__law_told sc__law_told (fun cdv => gives T cdv (hr.mono (j := 2) (by decide))) B.b_law rfl mem_law uniq_law (hr.mono (by decide)) (fun _ _ _ _ h => h) (fun _ _ _ _ _ _ _ _ hr hx => have hu := hr.units; (de_call c1_len (fn_least_sets T B) (hr.mono (by decide)) nogd rfl T.g_least_sets T.F_least_sets.kp T.b_least_sets hx (da_cons (de_v 16) da_nil))) (lamS_by (sc := defScope s_law) (by decide +kernel))) (da_cons (de_told (k := 4) [] T.F__law_told T.g__law_told T.b__law_told sc__law_told (fun cdv => gives T cdv (hr.mono (j := 2) (by decide))) B.b_law rfl mem_law uniq_law (hr.mono (by decide)) (fun _ _ _ _ h => h) (fun _ _ _ _ _ _ _ _ hr hx => have hu := hr.units; (de_call c1_len (fn_all_counts T B) (hr.mono (by decide)) nogd rfl T.g_all_counts T.F_all_counts.kp T.b_all_counts hx (da_cons (de_v 16) da_nil))) (lamS_by (sc := defScope s_law) (by decide +kernel))) (da_cons (de_told (k := 4) [] T.F__law_told T.g__law_told T.b__law_told sc__law_told (fun cdv => gives T cdv (hr.mono (j := 2) (by decide))) B.b_law rfl mem_law uniq_law (hr.mono (by decide)) (fun _ _ _ _ h => h) (fun _ _ _ _ _ _ _ _ hr hx => have hu := hr.units; (de_call c2_len (fn_fewest_often T B) (hr.mono (by decide)) nogd rfl T.g_fewest_often T.F_fewest_often.kp T.b_fewest_often hx (da_cons (de_v 16) (da_cons de_int da_nil)))) (lamS_by (sc := defScope s_law) (by decide +kernel))) da_nil))))) sc_law.nd)
    (dss_cons (ds_if (dt_cmp (op_neP hu) sv_ne (de_v 17) (de_op op_mulX sv_mul (de_lst (da_cons (de_tup (da_cons de_str da_nil)) da_nil)) de_int) (by with_unfolding_all rfl)) (dss_cons (ds_ret (de_fz de_bool))
    dss_nil) dss_nil)
    dss_nil)))
    (dss_cons (ds_set 17 (de_fz (de_lst (da_cons (de_told (k := 4) [] T.F__law_told T.g__law_told T.b__law_told sc__law_told (fun cdv => gives T cdv (hr.mono (j := 2) (by decide))) B.b_law rfl mem_law uniq_law (hr.mono (by decide)) (fun _ _ _ _ h => h) (fun _ _ _ _ _ _ _ _ hr hx => have hu := hr.units; (de_call c3_len (fn_watch_often T B) (hr.mono (by decide)) nogd rfl T.g_watch_often T.F_watch_often.kp T.b_watch_often hx (da_cons (de_v 3) (da_cons de_int (da_cons (de_tup (da_cons de_int da_nil)) da_nil))))) (lamS_by (sc := defScope s_law) (by decide +kernel))) (da_cons (de_told (k := 4) [] T.F__law_told T.g__law_told T.b__law_told sc__law_told (fun cdv => gives T cdv (hr.mono (j := 2) (by decide))) B.b_law rfl mem_law uniq_law (hr.mono (by decide)) (fun _ _ _ _ h => h) (fun _ _ _ _ _ _ _ _ hr hx => have hu := hr.units; (de_call c2_len (fn_fewest_often T B) (hr.mono (by decide)) nogd rfl T.g_fewest_often T.F_fewest_often.kp T.b_fewest_often hx (da_cons (de_v 3) (da_cons de_int da_nil)))) (lamS_by (sc := defScope s_law) (by decide +kernel))) (da_cons (de_told (k := 4) [] T.F__law_told T.g__law_told T.b__law_told sc__law_told (fun cdv => gives T cdv (hr.mono (j := 2) (by decide))) B.b_law rfl mem_law uniq_law (hr.mono (by decide)) (fun _ _ _ _ h => h) (fun _ _ _ _ _ _ _ _ hr hx => have hu := hr.units; (de_call c3_len (fn_outlasts T B) (hr.mono (by decide)) nogd rfl T.g_outlasts T.F_outlasts.kp T.b_outlasts hx (da_cons (de_v 3) (da_cons (de_tup (da_cons de_int da_nil)) (da_cons de_int da_nil))))) (lamS_by (sc := defScope s_law) (by decide +kernel))) (da_cons (de_told (k := 4) [] T.F__law_told T.g__law_told T.b__law_told sc__law_told (fun cdv => gives T cdv (hr.mono (j := 2) (by decide))) B.b_law rfl mem_law uniq_law (hr.mono (by decide)) (fun _ _ _ _ h => h) (fun _ _ _ _ _ _ _ _ hr hx => have hu := hr.units; (de_call c2_len (fn_weakest T B) (hr.mono (by decide)) nogd rfl T.g_weakest T.F_weakest.kp T.b_weakest hx (da_cons (de_v 3) (da_cons (de_tup (da_cons (de_v 4) da_nil)) da_nil)))) (lamS_by (sc := defScope s_law) (by decide +kernel))) (da_cons (de_told (k := 4) [] T.F__law_told T.g__law_told T.b__law_told sc__law_told (fun cdv => gives T cdv (hr.mono (j := 2) (by decide))) B.b_law rfl mem_law uniq_law (hr.mono (by decide)) (fun _ _ _ _ h => h) (fun _ _ _ _ _ _ _ _ hr hx => have hu := hr.units; (de_call c3_len (fn_chance_kept T B) (hr.mono (by decide)) nogd rfl T.g_chance_kept T.F_chance_kept.kp T.b_chance_kept hx (da_cons (de_v 3) (da_cons (de_tup (da_cons de_int (da_cons de_int da_nil))) (da_cons de_int da_nil))))) (lamS_by (sc := defScope s_law) (by decide +kernel))) (da_cons (de_told (k := 4) [] T.F__law_told T.g__law_told T.b__law_told sc__law_told (fun cdv => gives T cdv (hr.mono (j := 2) (by decide))) B.b_law rfl mem_law uniq_law (hr.mono (by decide)) (fun _ _ _ _ h => h) (fun _ _ _ _ _ _ _ _ hr hx => have hu := hr.units; (de_call c2_len (fn_count_sets T B) (hr.mono (by decide)) nogd rfl T.g_count_sets T.F_count_sets.kp T.b_count_sets hx (da_cons (de_v 3) (da_cons (de_op op_addX sv_add (de_v 4) de_int) da_nil)))) (lamS_by (sc := defScope s_law) (by decide +kernel))) da_nil)))))))) sc_law.nd)
    (dss_cons (ds_if (dt_cmp (op_neP hu) sv_ne (de_v 17) (de_op op_mulX sv_mul (de_lst (da_cons (de_tup (da_cons de_str da_nil)) da_nil)) de_int) (by with_unfolding_all rfl)) (dss_cons (ds_ret (de_fz de_bool))
    dss_nil) dss_nil)
    dss_nil)))))))))))))))))))
    (dss_cons (ds_ret (de_fz (de_cmp (op_eqP hu) sv_eq (de_cst rfl T.c_MAX_FOLD) de_int (by with_unfolding_all rfl))))
    dss_nil)))
end
end K49
set_option maxRecDepth 100000
set_option maxHeartbeats 4000000
/-! K49e: the end, printed by gen2.py. -/
namespace K49
open PySem PySem.Spec L2 Dl Py LamX
theorem all_mk {w : World} {K : PySem.W.Frag} {h : Heap} {mg : Str → Option Value} {fa : Addr} {P : Program} (X : K.In h) (G : h.Ns mainGlobals mg) (hfa : mg "law" = some (.ref fa)) (hT : ∀ P ∈ csT.map (·.2), h.get? P = some (PySem.W.tabObj #[]))
    {f0 : Addr} {od0 an0 : Option Addr} {sl0 : Array (Option Value)} {oc0 kV0 dc0 pm0 cd0 ct0 : Value}
    (a0 : PySem.W.nsIn K mainGlobals "_law_stream" = some (some (.ref f0))) (l0 : K.lookup f0 = some ⟨oc0, od0, .func (PySem.W.fnOf "_law_stream" "_law_stream" (defArgs s__law_stream) (defBody s__law_stream) (defScope s__law_stream) .none kV0 dc0 pm0 an0 cd0 ct0), sl0⟩) (c0 : PySem.W.codeIn K cd0 "_law_stream" = true) (k0 : PySem.W.keepIn K (.ref f0) = true)
    {f1 : Addr} {od1 an1 : Option Addr} {sl1 : Array (Option Value)} {oc1 kV1 dc1 pm1 cd1 ct1 : Value}
    (a1 : PySem.W.nsIn K mainGlobals "_law_next" = some (some (.ref f1))) (l1 : K.lookup f1 = some ⟨oc1, od1, .func (PySem.W.fnOf "_law_next" "_law_next" (defArgs s__law_next) (defBody s__law_next) (defScope s__law_next) .none kV1 dc1 pm1 an1 cd1 ct1), sl1⟩) (c1 : PySem.W.codeIn K cd1 "_law_next" = true) (k1 : PySem.W.keepIn K (.ref f1) = true)
    {f2 : Addr} {od2 an2 : Option Addr} {sl2 : Array (Option Value)} {oc2 kV2 dc2 pm2 cd2 ct2 : Value}
    (a2 : PySem.W.nsIn K mainGlobals "_law_graph" = some (some (.ref f2))) (l2 : K.lookup f2 = some ⟨oc2, od2, .func (PySem.W.fnOf "_law_graph" "_law_graph" (defArgs s__law_graph) (defBody s__law_graph) (defScope s__law_graph) .none kV2 dc2 pm2 an2 cd2 ct2), sl2⟩) (c2 : PySem.W.codeIn K cd2 "_law_graph" = true) (k2 : PySem.W.keepIn K (.ref f2) = true)
    {f3 : Addr} {od3 an3 : Option Addr} {sl3 : Array (Option Value)} {oc3 kV3 dc3 pm3 cd3 ct3 : Value}
    (a3 : PySem.W.nsIn K mainGlobals "_law_seen" = some (some (.ref f3))) (l3 : K.lookup f3 = some ⟨oc3, od3, .func (PySem.W.fnOf "_law_seen" "_law_seen" (defArgs s__law_seen) (defBody s__law_seen) (defScope s__law_seen) .none kV3 dc3 pm3 an3 cd3 ct3), sl3⟩) (c3 : PySem.W.codeIn K cd3 "_law_seen" = true) (k3 : PySem.W.keepIn K (.ref f3) = true)
    {f4 : Addr} {od4 an4 : Option Addr} {sl4 : Array (Option Value)} {oc4 kV4 dc4 pm4 ct4 : Value}
    (a4 : PySem.W.nsIn K mainGlobals "_law_sets" = some (some (.ref f4))) (l4 : K.lookup f4 = some ⟨oc4, od4, .func (PySem.W.fnOf "_law_sets" "_law_sets" (defArgs s__law_sets) (defBody s__law_sets) (defScope s__law_sets) .none kV4 dc4 pm4 an4 (.ref 261) ct4), sl4⟩) (c4 : PySem.W.codeIn K (.ref 261) "_law_sets" = true) (k4 : PySem.W.keepIn K (.ref f4) = true)
    (m4 : PySem.W.codeHdIn K 261 259 = true) (p4 : K.lookup 259 = none)
    {f5 : Addr} {od5 an5 : Option Addr} {sl5 : Array (Option Value)} {oc5 kV5 dc5 pm5 cd5 ct5 : Value}
    (a5 : PySem.W.nsIn K mainGlobals "_law_all_seen" = some (some (.ref f5))) (l5 : K.lookup f5 = some ⟨oc5, od5, .func (PySem.W.fnOf "_law_all_seen" "_law_all_seen" (defArgs s__law_all_seen) (defBody s__law_all_seen) (defScope s__law_all_seen) .none kV5 dc5 pm5 an5 cd5 ct5), sl5⟩) (c5 : PySem.W.codeIn K cd5 "_law_all_seen" = true) (k5 : PySem.W.keepIn K (.ref f5) = true)
    {f6 : Addr} {od6 an6 : Option Addr} {sl6 : Array (Option Value)} {oc6 kV6 dc6 pm6 cd6 ct6 : Value}
    (a6 : PySem.W.nsIn K mainGlobals "_law_often" = some (some (.ref f6))) (l6 : K.lookup f6 = some ⟨oc6, od6, .func (PySem.W.fnOf "_law_often" "_law_often" (defArgs s__law_often) (defBody s__law_often) (defScope s__law_often) .none kV6 dc6 pm6 an6 cd6 ct6), sl6⟩) (c6 : PySem.W.codeIn K cd6 "_law_often" = true) (k6 : PySem.W.keepIn K (.ref f6) = true)
    {f7 : Addr} {od7 an7 : Option Addr} {sl7 : Array (Option Value)} {oc7 kV7 dc7 pm7 cd7 ct7 : Value}
    (a7 : PySem.W.nsIn K mainGlobals "_law_same" = some (some (.ref f7))) (l7 : K.lookup f7 = some ⟨oc7, od7, .func (PySem.W.fnOf "_law_same" "_law_same" (defArgs s__law_same) (defBody s__law_same) (defScope s__law_same) .none kV7 dc7 pm7 an7 cd7 ct7), sl7⟩) (c7 : PySem.W.codeIn K cd7 "_law_same" = true) (k7 : PySem.W.keepIn K (.ref f7) = true)
    {f8 : Addr} {od8 an8 : Option Addr} {sl8 : Array (Option Value)} {oc8 kV8 dc8 pm8 cd8 ct8 : Value}
    (a8 : PySem.W.nsIn K mainGlobals "check_graph" = some (some (.ref f8))) (l8 : K.lookup f8 = some ⟨oc8, od8, .func (PySem.W.fnOf "check_graph" "check_graph" (defArgs s_check_graph) (defBody s_check_graph) (defScope s_check_graph) .none kV8 dc8 pm8 an8 cd8 ct8), sl8⟩) (c8 : PySem.W.codeIn K cd8 "check_graph" = true) (k8 : PySem.W.keepIn K (.ref f8) = true)
    {f9 : Addr} {od9 an9 : Option Addr} {sl9 : Array (Option Value)} {oc9 kV9 dc9 pm9 cd9 ct9 : Value}
    (a9 : PySem.W.nsIn K mainGlobals "check_fold" = some (some (.ref f9))) (l9 : K.lookup f9 = some ⟨oc9, od9, .func (PySem.W.fnOf "check_fold" "check_fold" (defArgs s_check_fold) (defBody s_check_fold) (defScope s_check_fold) .none kV9 dc9 pm9 an9 cd9 ct9), sl9⟩) (c9 : PySem.W.codeIn K cd9 "check_fold" = true) (k9 : PySem.W.keepIn K (.ref f9) = true)
    {f10 : Addr} {od10 an10 : Option Addr} {sl10 : Array (Option Value)} {oc10 kV10 dc10 pm10 cd10 ct10 : Value}
    (a10 : PySem.W.nsIn K mainGlobals "near_masks" = some (some (.ref f10))) (l10 : K.lookup f10 = some ⟨oc10, od10, .func (PySem.W.fnOf "near_masks" "near_masks" (defArgs s_near_masks) (defBody s_near_masks) (defScope s_near_masks) .none kV10 dc10 pm10 an10 cd10 ct10), sl10⟩) (c10 : PySem.W.codeIn K cd10 "near_masks" = true) (k10 : PySem.W.keepIn K (.ref f10) = true)
    {f11 : Addr} {od11 an11 : Option Addr} {sl11 : Array (Option Value)} {oc11 kV11 dc11 pm11 cd11 ct11 : Value}
    (a11 : PySem.W.nsIn K mainGlobals "seen_masks" = some (some (.ref f11))) (l11 : K.lookup f11 = some ⟨oc11, od11, .func (PySem.W.fnOf "seen_masks" "seen_masks" (defArgs s_seen_masks) (defBody s_seen_masks) (defScope s_seen_masks) .none kV11 dc11 pm11 an11 cd11 ct11), sl11⟩) (c11 : PySem.W.codeIn K cd11 "seen_masks" = true) (k11 : PySem.W.keepIn K (.ref f11) = true)
    {f12 : Addr} {od12 an12 : Option Addr} {sl12 : Array (Option Value)} {oc12 kV12 dc12 pm12 cd12 ct12 : Value}
    (a12 : PySem.W.nsIn K mainGlobals "members" = some (some (.ref f12))) (l12 : K.lookup f12 = some ⟨oc12, od12, .func (PySem.W.fnOf "members" "members" (defArgs s_members) (defBody s_members) (defScope s_members) .none kV12 dc12 pm12 an12 cd12 ct12), sl12⟩) (c12 : PySem.W.codeIn K cd12 "members" = true) (k12 : PySem.W.keepIn K (.ref f12) = true)
    {f13 : Addr} {od13 an13 : Option Addr} {sl13 : Array (Option Value)} {oc13 kV13 dc13 pm13 cd13 ct13 : Value}
    (a13 : PySem.W.nsIn K mainGlobals "size" = some (some (.ref f13))) (l13 : K.lookup f13 = some ⟨oc13, od13, .func (PySem.W.fnOf "size" "size" (defArgs s_size) (defBody s_size) (defScope s_size) .none kV13 dc13 pm13 an13 cd13 ct13), sl13⟩) (c13 : PySem.W.codeIn K cd13 "size" = true) (k13 : PySem.W.keepIn K (.ref f13) = true)
    {f14 : Addr} {od14 an14 : Option Addr} {sl14 : Array (Option Value)} {oc14 kV14 dc14 pm14 cd14 ct14 : Value}
    (a14 : PySem.W.nsIn K mainGlobals "masks_by_size" = some (some (.ref f14))) (l14 : K.lookup f14 = some ⟨oc14, od14, .func (PySem.W.fnOf "masks_by_size" "masks_by_size" (defArgs s_masks_by_size) (defBody s_masks_by_size) (defScope s_masks_by_size) .none kV14 dc14 pm14 an14 cd14 ct14), sl14⟩) (c14 : PySem.W.codeIn K cd14 "masks_by_size" = true) (k14 : PySem.W.keepIn K (.ref f14) = true)
    {f15 : Addr} {od15 an15 : Option Addr} {sl15 : Array (Option Value)} {oc15 kV15 dc15 pm15 cd15 ct15 : Value}
    (a15 : PySem.W.nsIn K mainGlobals "sees_often" = some (some (.ref f15))) (l15 : K.lookup f15 = some ⟨oc15, od15, .func (PySem.W.fnOf "sees_often" "sees_often" (defArgs s_sees_often) (defBody s_sees_often) (defScope s_sees_often) .none kV15 dc15 pm15 an15 cd15 ct15), sl15⟩) (c15 : PySem.W.codeIn K cd15 "sees_often" = true) (k15 : PySem.W.keepIn K (.ref f15) = true)
    {f16 : Addr} {od16 an16 : Option Addr} {sl16 : Array (Option Value)} {oc16 kV16 dc16 pm16 cd16 ct16 : Value}
    (a16 : PySem.W.nsIn K mainGlobals "fewest_often" = some (some (.ref f16))) (l16 : K.lookup f16 = some ⟨oc16, od16, .func (PySem.W.fnOf "fewest_often" "fewest_often" (defArgs s_fewest_often) (defBody s_fewest_often) (defScope s_fewest_often) .none kV16 dc16 pm16 an16 cd16 ct16), sl16⟩) (c16 : PySem.W.codeIn K cd16 "fewest_often" = true) (k16 : PySem.W.keepIn K (.ref f16) = true)
    {f17 : Addr} {od17 an17 : Option Addr} {sl17 : Array (Option Value)} {oc17 kV17 dc17 pm17 cd17 ct17 : Value}
    (a17 : PySem.W.nsIn K mainGlobals "check_places" = some (some (.ref f17))) (l17 : K.lookup f17 = some ⟨oc17, od17, .func (PySem.W.fnOf "check_places" "check_places" (defArgs s_check_places) (defBody s_check_places) (defScope s_check_places) .none kV17 dc17 pm17 an17 cd17 ct17), sl17⟩) (c17 : PySem.W.codeIn K cd17 "check_places" = true) (k17 : PySem.W.keepIn K (.ref f17) = true)
    {f18 : Addr} {od18 an18 : Option Addr} {sl18 : Array (Option Value)} {oc18 kV18 dc18 pm18 cd18 ct18 : Value}
    (a18 : PySem.W.nsIn K mainGlobals "mask_of" = some (some (.ref f18))) (l18 : K.lookup f18 = some ⟨oc18, od18, .func (PySem.W.fnOf "mask_of" "mask_of" (defArgs s_mask_of) (defBody s_mask_of) (defScope s_mask_of) .none kV18 dc18 pm18 an18 cd18 ct18), sl18⟩) (c18 : PySem.W.codeIn K cd18 "mask_of" = true) (k18 : PySem.W.keepIn K (.ref f18) = true)
    {f19 : Addr} {od19 an19 : Option Addr} {sl19 : Array (Option Value)} {oc19 kV19 dc19 pm19 cd19 ct19 : Value}
    (a19 : PySem.W.nsIn K mainGlobals "watch_often" = some (some (.ref f19))) (l19 : K.lookup f19 = some ⟨oc19, od19, .func (PySem.W.fnOf "watch_often" "watch_often" (defArgs s_watch_often) (defBody s_watch_often) (defScope s_watch_often) .none kV19 dc19 pm19 an19 cd19 ct19), sl19⟩) (c19 : PySem.W.codeIn K cd19 "watch_often" = true) (k19 : PySem.W.keepIn K (.ref f19) = true)
    {f20 : Addr} {od20 an20 : Option Addr} {sl20 : Array (Option Value)} {oc20 kV20 dc20 pm20 cd20 ct20 : Value}
    (a20 : PySem.W.nsIn K mainGlobals "outlasts" = some (some (.ref f20))) (l20 : K.lookup f20 = some ⟨oc20, od20, .func (PySem.W.fnOf "outlasts" "outlasts" (defArgs s_outlasts) (defBody s_outlasts) (defScope s_outlasts) .none kV20 dc20 pm20 an20 cd20 ct20), sl20⟩) (c20 : PySem.W.codeIn K cd20 "outlasts" = true) (k20 : PySem.W.keepIn K (.ref f20) = true)
    {f21 : Addr} {od21 an21 : Option Addr} {sl21 : Array (Option Value)} {oc21 kV21 dc21 pm21 cd21 ct21 : Value}
    (a21 : PySem.W.nsIn K mainGlobals "chance_kept" = some (some (.ref f21))) (l21 : K.lookup f21 = some ⟨oc21, od21, .func (PySem.W.fnOf "chance_kept" "chance_kept" (defArgs s_chance_kept) (defBody s_chance_kept) (defScope s_chance_kept) .none kV21 dc21 pm21 an21 cd21 ct21), sl21⟩) (c21 : PySem.W.codeIn K cd21 "chance_kept" = true) (k21 : PySem.W.keepIn K (.ref f21) = true)
    {f22 : Addr} {od22 an22 : Option Addr} {sl22 : Array (Option Value)} {oc22 kV22 dc22 pm22 cd22 ct22 : Value}
    (a22 : PySem.W.nsIn K mainGlobals "weakest" = some (some (.ref f22))) (l22 : K.lookup f22 = some ⟨oc22, od22, .func (PySem.W.fnOf "weakest" "weakest" (defArgs s_weakest) (defBody s_weakest) (defScope s_weakest) .none kV22 dc22 pm22 an22 cd22 ct22), sl22⟩) (c22 : PySem.W.codeIn K cd22 "weakest" = true) (k22 : PySem.W.keepIn K (.ref f22) = true)
    {f23 : Addr} {od23 an23 : Option Addr} {sl23 : Array (Option Value)} {oc23 kV23 dc23 pm23 cd23 ct23 : Value}
    (a23 : PySem.W.nsIn K mainGlobals "least_sets" = some (some (.ref f23))) (l23 : K.lookup f23 = some ⟨oc23, od23, .func (PySem.W.fnOf "least_sets" "least_sets" (defArgs s_least_sets) (defBody s_least_sets) (defScope s_least_sets) .none kV23 dc23 pm23 an23 cd23 ct23), sl23⟩) (c23 : PySem.W.codeIn K cd23 "least_sets" = true) (k23 : PySem.W.keepIn K (.ref f23) = true)
    {f24 : Addr} {od24 an24 : Option Addr} {sl24 : Array (Option Value)} {oc24 kV24 dc24 pm24 cd24 ct24 : Value}
    (a24 : PySem.W.nsIn K mainGlobals "in_all" = some (some (.ref f24))) (l24 : K.lookup f24 = some ⟨oc24, od24, .func (PySem.W.fnOf "in_all" "in_all" (defArgs s_in_all) (defBody s_in_all) (defScope s_in_all) .none kV24 dc24 pm24 an24 cd24 ct24), sl24⟩) (c24 : PySem.W.codeIn K cd24 "in_all" = true) (k24 : PySem.W.keepIn K (.ref f24) = true)
    {f25 : Addr} {od25 an25 : Option Addr} {sl25 : Array (Option Value)} {oc25 kV25 dc25 pm25 cd25 ct25 : Value}
    (a25 : PySem.W.nsIn K mainGlobals "most_needed" = some (some (.ref f25))) (l25 : K.lookup f25 = some ⟨oc25, od25, .func (PySem.W.fnOf "most_needed" "most_needed" (defArgs s_most_needed) (defBody s_most_needed) (defScope s_most_needed) .none kV25 dc25 pm25 an25 cd25 ct25), sl25⟩) (c25 : PySem.W.codeIn K cd25 "most_needed" = true) (k25 : PySem.W.keepIn K (.ref f25) = true)
    {f26 : Addr} {od26 an26 : Option Addr} {sl26 : Array (Option Value)} {oc26 kV26 dc26 pm26 cd26 ct26 : Value}
    (a26 : PySem.W.nsIn K mainGlobals "count_sets" = some (some (.ref f26))) (l26 : K.lookup f26 = some ⟨oc26, od26, .func (PySem.W.fnOf "count_sets" "count_sets" (defArgs s_count_sets) (defBody s_count_sets) (defScope s_count_sets) .none kV26 dc26 pm26 an26 cd26 ct26), sl26⟩) (c26 : PySem.W.codeIn K cd26 "count_sets" = true) (k26 : PySem.W.keepIn K (.ref f26) = true)
    {f27 : Addr} {od27 an27 : Option Addr} {sl27 : Array (Option Value)} {oc27 kV27 dc27 pm27 cd27 ct27 : Value}
    (a27 : PySem.W.nsIn K mainGlobals "all_counts" = some (some (.ref f27))) (l27 : K.lookup f27 = some ⟨oc27, od27, .func (PySem.W.fnOf "all_counts" "all_counts" (defArgs s_all_counts) (defBody s_all_counts) (defScope s_all_counts) .none kV27 dc27 pm27 an27 cd27 ct27), sl27⟩) (c27 : PySem.W.codeIn K cd27 "all_counts" = true) (k27 : PySem.W.keepIn K (.ref f27) = true)
    {f28 : Addr} {od28 an28 : Option Addr} {sl28 : Array (Option Value)} {oc28 kV28 dc28 pm28 cd28 ct28 : Value}
    (a28 : PySem.W.nsIn K mainGlobals "_law_bad_graphs" = some (some (.ref f28))) (l28 : K.lookup f28 = some ⟨oc28, od28, .func (PySem.W.fnOf "_law_bad_graphs" "_law_bad_graphs" (defArgs s__law_bad_graphs) (defBody s__law_bad_graphs) (defScope s__law_bad_graphs) .none kV28 dc28 pm28 an28 cd28 ct28), sl28⟩) (c28 : PySem.W.codeIn K cd28 "_law_bad_graphs" = true) (k28 : PySem.W.keepIn K (.ref f28) = true)
    {f29 : Addr} {od29 an29 : Option Addr} {sl29 : Array (Option Value)} {oc29 kV29 dc29 pm29 ct29 : Value}
    (a29 : PySem.W.nsIn K mainGlobals "law" = some (some (.ref f29))) (l29 : K.lookup f29 = some ⟨oc29, od29, .func (PySem.W.fnOf "law" "law" (defArgs s_law) (defBody s_law) (defScope s_law) .none kV29 dc29 pm29 an29 (.ref 297) ct29), sl29⟩) (c29 : PySem.W.codeIn K (.ref 297) "law" = true) (k29 : PySem.W.keepIn K (.ref f29) = true)
    (m29 : PySem.W.codeHdIn K 297 295 = true) (p29 : K.lookup 295 = none)
    {f30 : Addr} {od30 an30 : Option Addr} {sl30 : Array (Option Value)} {oc30 kV30 dc30 pm30 cd30 ct30 : Value}
    (a30 : PySem.W.nsIn K mainGlobals "_law_told" = some (some (.ref f30))) (l30 : K.lookup f30 = some ⟨oc30, od30, .func (PySem.W.fnOf "_law_told" "_law_told" (defArgs s__law_told) (defBody s__law_told) (defScope s__law_told) .none kV30 dc30 pm30 an30 cd30 ct30), sl30⟩) (c30 : PySem.W.codeIn K cd30 "_law_told" = true) (k30 : PySem.W.keepIn K (.ref f30) = true)
    (z0 : PySem.W.nsIn K mainGlobals "abs" = some none)
    (z1 : PySem.W.nsIn K mainGlobals "int" = some none)
    (z2 : PySem.W.nsIn K mainGlobals "range" = some none)
    (z3 : PySem.W.nsIn K mainGlobals "len" = some none)
    (z4 : PySem.W.nsIn K mainGlobals "tuple" = some none)
    (z5 : PySem.W.nsIn K mainGlobals "min" = some none)
    (z6 : PySem.W.nsIn K mainGlobals "max" = some none)
    (z7 : PySem.W.nsIn K mainGlobals "sorted" = some none)
    (z8 : PySem.W.nsIn K mainGlobals "repr" = some none)
    (z9 : PySem.W.nsIn K mainGlobals "all" = some none)
    (z10 : PySem.W.nsIn K mainGlobals "zip" = some none)
    (z11 : PySem.W.nsIn K mainGlobals "enumerate" = some none)
    (z12 : PySem.W.nsIn K mainGlobals "sum" = some none)
    (z13 : PySem.W.nsIn K mainGlobals "any" = some none)
    (z14 : PySem.W.nsIn K mainGlobals "isinstance" = some none)
    {u0 : Value} (q0 : PySem.W.nsIn K mainGlobals "MAX_PLACES" = some (some u0)) (r0 : constV u0 = some ((V.int 8), (PyData.int 8)))
    {u1 : Value} (q1 : PySem.W.nsIn K mainGlobals "MAX_FOLD" = some (some u1)) (r1 : constV u1 = some ((V.int 3), (PyData.int 3)))
    {en el em ef eb ew : Addr}
    (eng : PySem.W.nsIn K mainGlobals "NotAllowed" = some (some (.ref en)))    (elg : PySem.W.nsIn K mainGlobals "TooLarge" = some (some (.ref el)))    (emg : PySem.W.nsIn K mainGlobals "Missing" = some (some (.ref em)))    (efg : PySem.W.nsIn K mainGlobals "BadForm" = some (some (.ref ef)))    (ebg : PySem.W.nsIn K mainGlobals "Broken" = some (some (.ref eb)))    (ewg : PySem.W.nsIn K mainGlobals "WatchError" = some (some (.ref ew)))
    (En1 : PySem.W.findIn K (.ref en) "__getattribute__" = some (some (.builtin "BaseException.__getattribute__"))) (En2 : PySem.W.findIn K (.ref en) "__getattr__" = some none) (En3 : PySem.W.subIn K (.ref en) (.type "BaseException") = some true) (En4 : PySem.W.hasDictIn K en = true)
    (En5 : PySem.W.findIn K (.ref en) "__class__" = some (some (.builtin "object.__class__"))) (En8 : PySem.W.mroIn K en (.type "object") = some true)
    (En9 : PySem.W.exmOne K (.ref en) (.ref ew) = some true) (Kn0 : PySem.W.kitOne K (.ref en) (.ref en) = some true) (Kn1 : PySem.W.kitOne K (.ref en) (.ref el) = some false) (Kn2 : PySem.W.kitOne K (.ref en) (.ref em) = some false) (Kn3 : PySem.W.kitOne K (.ref en) (.ref ef) = some false) (Kn4 : PySem.W.kitOne K (.ref en) (.ref eb) = some false)
    (Qn1 : PySem.W.excIn K en [.type "ValueError", .type "Exception", .type "BaseException", .type "object"] "ValueError.__new__" = true) (Qn2 : PySem.W.keepIn K (.ref en) = true) (Qn3 : PySem.W.typeIn K (.ref en) = some (.type "type"))
    (El1 : PySem.W.findIn K (.ref el) "__getattribute__" = some (some (.builtin "BaseException.__getattribute__"))) (El2 : PySem.W.findIn K (.ref el) "__getattr__" = some none) (El3 : PySem.W.subIn K (.ref el) (.type "BaseException") = some true) (El4 : PySem.W.hasDictIn K el = true)
    (El5 : PySem.W.findIn K (.ref el) "__class__" = some (some (.builtin "object.__class__"))) (El8 : PySem.W.mroIn K el (.type "object") = some true)
    (El9 : PySem.W.exmOne K (.ref el) (.ref ew) = some true) (Kl0 : PySem.W.kitOne K (.ref el) (.ref en) = some false) (Kl1 : PySem.W.kitOne K (.ref el) (.ref el) = some true) (Kl2 : PySem.W.kitOne K (.ref el) (.ref em) = some false) (Kl3 : PySem.W.kitOne K (.ref el) (.ref ef) = some false) (Kl4 : PySem.W.kitOne K (.ref el) (.ref eb) = some false)
    (Ql1 : PySem.W.excIn K el [.type "ValueError", .type "Exception", .type "BaseException", .type "object"] "ValueError.__new__" = true) (Ql2 : PySem.W.keepIn K (.ref el) = true) (Ql3 : PySem.W.typeIn K (.ref el) = some (.type "type"))
    (Em1 : PySem.W.findIn K (.ref em) "__getattribute__" = some (some (.builtin "BaseException.__getattribute__"))) (Em2 : PySem.W.findIn K (.ref em) "__getattr__" = some none) (Em3 : PySem.W.subIn K (.ref em) (.type "BaseException") = some true) (Em4 : PySem.W.hasDictIn K em = true)
    (Em5 : PySem.W.findIn K (.ref em) "__class__" = some (some (.builtin "object.__class__"))) (Em8 : PySem.W.mroIn K em (.type "object") = some true)
    (Em9 : PySem.W.exmOne K (.ref em) (.ref ew) = some true) (Km0 : PySem.W.kitOne K (.ref em) (.ref en) = some false) (Km1 : PySem.W.kitOne K (.ref em) (.ref el) = some false) (Km2 : PySem.W.kitOne K (.ref em) (.ref em) = some true) (Km3 : PySem.W.kitOne K (.ref em) (.ref ef) = some false) (Km4 : PySem.W.kitOne K (.ref em) (.ref eb) = some false)
    (Qm1 : PySem.W.excIn K em [.type "ValueError", .type "Exception", .type "BaseException", .type "object"] "ValueError.__new__" = true) (Qm2 : PySem.W.keepIn K (.ref em) = true) (Qm3 : PySem.W.typeIn K (.ref em) = some (.type "type"))
    (G6 : PySem.W.specialIn K (.builtin "object.__class__") "__get__" = some (some (.builtin "getset_descriptor.__get__"))) (G7 : PySem.W.takesIn K (.builtin "object.__class__") = some true)
    : ∃ (fd : FuncData) (cs : List (Addr × Addr)) (sp : Sp), TabH K mg cs h ∧ (∀ (s : Shared) (u : Value), BindsTo s fd ⟨[u], []⟩ [("script", u)]) ∧
        (∀ (H : Hp) (a : Addr) (ns : List Int), ns.length ≤ 63 → (∀ z ∈ ns, Builtin.Int.intBits z ≤ 1048576) → OnlyT cs H → SqL K H a (ns.map V.int) → sp [.ref a] H (fun v _ => v = .bl true) fun _ _ _ => False) ∧
        ∀ base : Heap, K.In base → base.Ns mainGlobals mg → (∀ p ∈ cs, LamX.TabB base mg p.1 p.2) → FnG P w K mg base true 8 fa fd ["script"] sp := by
  have e := hfa.symm.trans (PySem.W.mg_of X G a29)
  cases e
  have F0 := fun_mk (st := s__law_stream) l0 c0 k0
  have b0 := F0.binds (ps := ["script"]) fun _ _ _ _ _ _ us hl => match us, hl with | [_], _ => rfl
  have F1 := fun_mk (st := s__law_next) l1 c1 k1
  have b1 := F1.binds (ps := ["state", "many"]) fun _ _ _ _ _ _ us hl => match us, hl with | [_, _], _ => rfl
  have F2 := fun_mk (st := s__law_graph) l2 c2 k2
  have b2 := F2.binds (ps := ["state", "most"]) fun _ _ _ _ _ _ us hl => match us, hl with | [_, _], _ => rfl
  have F3 := fun_mk (st := s__law_seen) l3 c3 k3
  have b3 := F3.binds (ps := ["graph"]) fun _ _ _ _ _ _ us hl => match us, hl with | [_], _ => rfl
  have F4 : FunC K "_law_sets" "_law_sets" s__law_sets _ _ 261 := ⟨⟨_, _, _, _, _, _, _, _, rfl, l4, c4⟩, k4⟩
  have b4 : Binds K _ ["many"] [] := (fun_mk (st := s__law_sets) l4 c4 k4).binds (ps := ["many"]) fun _ _ _ _ _ _ us hl => match us, hl with | [_], _ => rfl
  have F5 := fun_mk (st := s__law_all_seen) l5 c5 k5
  have b5 := F5.binds (ps := ["seen", "places"]) fun _ _ _ _ _ _ us hl => match us, hl with | [_, _], _ => rfl
  have F6 := fun_mk (st := s__law_often) l6 c6 k6
  have b6 := F6.binds (ps := ["seen", "places", "fold"]) fun _ _ _ _ _ _ us hl => match us, hl with | [_, _, _], _ => rfl
  have F7 := fun_mk (st := s__law_same) l7 c7 k7
  have b7 := F7.binds (ps := ["told", "due"]) fun _ _ _ _ _ _ us hl => match us, hl with | [_, _], _ => rfl
  have F8 := fun_mk (st := s_check_graph) l8 c8 k8
  have b8 := F8.binds (ps := ["graph"]) fun _ _ _ _ _ _ us hl => match us, hl with | [_], _ => rfl
  have F9 := fun_mk (st := s_check_fold) l9 c9 k9
  have b9 := F9.binds (ps := ["graph", "fold"]) fun _ _ _ _ _ _ us hl => match us, hl with | [_, _], _ => rfl
  have F10 := fun_mk (st := s_near_masks) l10 c10 k10
  have b10 := F10.binds (ps := ["graph"]) fun _ _ _ _ _ _ us hl => match us, hl with | [_], _ => rfl
  have F11 := fun_mk (st := s_seen_masks) l11 c11 k11
  have b11 := F11.binds (ps := ["graph"]) fun _ _ _ _ _ _ us hl => match us, hl with | [_], _ => rfl
  have F12 := fun_mk (st := s_members) l12 c12 k12
  have b12 := F12.binds (ps := ["mask"]) fun _ _ _ _ _ _ us hl => match us, hl with | [_], _ => rfl
  have F13 := fun_mk (st := s_size) l13 c13 k13
  have b13 := F13.binds (ps := ["mask"]) fun _ _ _ _ _ _ us hl => match us, hl with | [_], _ => rfl
  have F14 := fun_mk (st := s_masks_by_size) l14 c14 k14
  have b14 := F14.binds (ps := ["many"]) fun _ _ _ _ _ _ us hl => match us, hl with | [_], _ => rfl
  have F15 := fun_mk (st := s_sees_often) l15 c15 k15
  have b15 := F15.binds (ps := ["rows", "mask", "fold"]) fun _ _ _ _ _ _ us hl => match us, hl with | [_, _, _], _ => rfl
  have F16 := fun_mk (st := s_fewest_often) l16 c16 k16
  have b16 := F16.binds (ps := ["graph", "fold"]) fun _ _ _ _ _ _ us hl => match us, hl with | [_, _], _ => rfl
  have F17 := fun_mk (st := s_check_places) l17 c17 k17
  have b17 := F17.binds (ps := ["graph", "places"]) fun _ _ _ _ _ _ us hl => match us, hl with | [_, _], _ => rfl
  have F18 := fun_mk (st := s_mask_of) l18 c18 k18
  have b18 := F18.binds (ps := ["places"]) fun _ _ _ _ _ _ us hl => match us, hl with | [_], _ => rfl
  have F19 := fun_mk (st := s_watch_often) l19 c19 k19
  have b19 := F19.binds (ps := ["graph", "fold", "places"]) fun _ _ _ _ _ _ us hl => match us, hl with | [_, _, _], _ => rfl
  have F20 := fun_mk (st := s_outlasts) l20 c20 k20
  have b20 := F20.binds (ps := ["graph", "places", "failing"]) fun _ _ _ _ _ _ us hl => match us, hl with | [_, _, _], _ => rfl
  have F21 := fun_mk (st := s_chance_kept) l21 c21 k21
  have b21 := F21.binds (ps := ["graph", "places", "failing"]) fun _ _ _ _ _ _ us hl => match us, hl with | [_, _, _], _ => rfl
  have F22 := fun_mk (st := s_weakest) l22 c22 k22
  have b22 := F22.binds (ps := ["graph", "places"]) fun _ _ _ _ _ _ us hl => match us, hl with | [_, _], _ => rfl
  have F23 := fun_mk (st := s_least_sets) l23 c23 k23
  have b23 := F23.binds (ps := ["graph"]) fun _ _ _ _ _ _ us hl => match us, hl with | [_], _ => rfl
  have F24 := fun_mk (st := s_in_all) l24 c24 k24
  have b24 := F24.binds (ps := ["graph"]) fun _ _ _ _ _ _ us hl => match us, hl with | [_], _ => rfl
  have F25 := fun_mk (st := s_most_needed) l25 c25 k25
  have b25 := F25.binds (ps := ["graph"]) fun _ _ _ _ _ _ us hl => match us, hl with | [_], _ => rfl
  have F26 := fun_mk (st := s_count_sets) l26 c26 k26
  have b26 := F26.binds (ps := ["graph", "many"]) fun _ _ _ _ _ _ us hl => match us, hl with | [_, _], _ => rfl
  have F27 := fun_mk (st := s_all_counts) l27 c27 k27
  have b27 := F27.binds (ps := ["graph"]) fun _ _ _ _ _ _ us hl => match us, hl with | [_], _ => rfl
  have F28 := fun_mk (st := s__law_bad_graphs) l28 c28 k28
  have b28 := F28.binds (ps := []) fun _ _ _ _ _ _ us hl => match us, hl with | [], _ => rfl
  have F29 : FunC K "law" "law" s_law _ _ 297 := ⟨⟨_, _, _, _, _, _, _, _, rfl, l29, c29⟩, k29⟩
  have b29 : Binds K _ ["script"] [] := (fun_mk (st := s_law) l29 c29 k29).binds (ps := ["script"]) fun _ _ _ _ _ _ us hl => match us, hl with | [_], _ => rfl
  have F30 := fun_mk (st := s__law_told) l30 c30 k30
  have b30 := F30.binds (ps := ["call"]) fun _ _ _ _ _ _ us hl => match us, hl with | [_], _ => rfl
  have okn : ErrOk K ⟨en, el, em, ef, eb, ew⟩ (excBits .refused) en := ⟨⟨En1, En2, En3, En4, En5, G6, G7, En8⟩, En9, Kn0, Kn1, Kn2, Kn3, Kn4⟩
  have okl : ErrOk K ⟨en, el, em, ef, eb, ew⟩ (excBits .large) el := ⟨⟨El1, El2, El3, El4, El5, G6, G7, El8⟩, El9, Kl0, Kl1, Kl2, Kl3, Kl4⟩
  have okm : ErrOk K ⟨en, el, em, ef, eb, ew⟩ (excBits .missing) em := ⟨⟨Em1, Em2, Em3, Em4, Em5, G6, G7, Em8⟩, Em9, Km0, Km1, Km2, Km3, Km4⟩
  have RI : ErrsIn K mg ⟨en, el, em, ef, eb, ew⟩ := ⟨PySem.W.mg_of X G eng, PySem.W.mg_of X G elg, PySem.W.mg_of X G emg, PySem.W.mg_of X G efg, PySem.W.mg_of X G ebg, PySem.W.mg_of X G ewg, fun x C hC => by
    cases x <;> cases hC
    · exact okn
    · exact okl
    · exact okm⟩
  let T : Tops K mg := ⟨_, _, F0, PySem.W.mg_of X G a0, b0, _, _, F1, PySem.W.mg_of X G a1, b1, _, _, F2, PySem.W.mg_of X G a2, b2, _, _, F3, PySem.W.mg_of X G a3, b3, _, _, F4, PySem.W.mg_of X G a4, b4, _, _, F5, PySem.W.mg_of X G a5, b5, _, _, F6, PySem.W.mg_of X G a6, b6, _, _, F7, PySem.W.mg_of X G a7, b7, _, _, F8, PySem.W.mg_of X G a8, b8, _, _, F9, PySem.W.mg_of X G a9, b9, _, _, F10, PySem.W.mg_of X G a10, b10, _, _, F11, PySem.W.mg_of X G a11, b11, _, _, F12, PySem.W.mg_of X G a12, b12, _, _, F13, PySem.W.mg_of X G a13, b13, _, _, F14, PySem.W.mg_of X G a14, b14, _, _, F15, PySem.W.mg_of X G a15, b15, _, _, F16, PySem.W.mg_of X G a16, b16, _, _, F17, PySem.W.mg_of X G a17, b17, _, _, F18, PySem.W.mg_of X G a18, b18, _, _, F19, PySem.W.mg_of X G a19, b19, _, _, F20, PySem.W.mg_of X G a20, b20, _, _, F21, PySem.W.mg_of X G a21, b21, _, _, F22, PySem.W.mg_of X G a22, b22, _, _, F23, PySem.W.mg_of X G a23, b23, _, _, F24, PySem.W.mg_of X G a24, b24, _, _, F25, PySem.W.mg_of X G a25, b25, _, _, F26, PySem.W.mg_of X G a26, b26, _, _, F27, PySem.W.mg_of X G a27, b27, _, _, F28, PySem.W.mg_of X G a28, b28, _, _, F29, PySem.W.mg_of X G a29, b29, _, _, F30, PySem.W.mg_of X G a30, b30, PySem.W.mg_none_of X G z0, PySem.W.mg_none_of X G z1, PySem.W.mg_none_of X G z2, PySem.W.mg_none_of X G z3, PySem.W.mg_none_of X G z4, PySem.W.mg_none_of X G z5, PySem.W.mg_none_of X G z6, PySem.W.mg_none_of X G z7, PySem.W.mg_none_of X G z8, PySem.W.mg_none_of X G z9, PySem.W.mg_none_of X G z10, PySem.W.mg_none_of X G z11, PySem.W.mg_none_of X G z12, PySem.W.mg_none_of X G z13, PySem.W.mg_none_of X G z14, cst_atom X G q0 r0, cst_atom X G q1 r1, ⟨en, el, em, ef, eb, ew⟩, RI, ⟨Qn1, Qn2, En3, Qn3⟩, ⟨Qm1, Qm2, Em3, Qm3⟩⟩
  have TH : TabH K mg csT h := ⟨(List.forall_mem_cons.mpr ⟨hT 259 (by decide), (List.forall_mem_cons.mpr ⟨hT 295 (by decide), (fun _ h => nomatch h)⟩)⟩), (List.forall_mem_cons.mpr ⟨p4, (List.forall_mem_cons.mpr ⟨p29, (fun _ h => nomatch h)⟩)⟩), (List.forall_mem_cons.mpr ⟨PySem.W.codeHd_of_K X m4, (List.forall_mem_cons.mpr ⟨PySem.W.codeHd_of_K X m29, (fun _ h => nomatch h)⟩)⟩)⟩
  refine ⟨_, csT, spOf K (EAof T.R TT) [false] (lawC (bitsB 63)), TH, fun s v => .of_eq rfl, fun H a ns hl hb hO hS => Dl.sp_law hS hO ?_ (Nat.le_trans hl (by decide)) ⟨hl, hb⟩, fun base _ _ hB => fn_law T ⟨hB (261, 259) (by decide), hB (297, 295) (by decide)⟩⟩
  intro p hp
  have hp : p ∈ TT := hp
  unfold TT at hp
  simp only [List.mem_cons, List.not_mem_nil, or_false] at hp
  rcases hp with rfl | rfl
  · exact ⟨261, by decide⟩
  · exact ⟨297, by decide⟩
end K49
open PySem PySem.W PyProof.Rows
set_option maxHeartbeats 0 in
theorem PySem.Challenge.cw_allwatched_k49_whole_watchers_that_may_f_holds : PySem.Challenge.rw_allwatched_k49_whole_watchers_that_may_f.Holds := by
  w_on; o_law; k_head; (case hw => w_witness2)
  k_fill
  refine Dl.walk_law (l := PySem.Challenge.rw_allwatched_k49_whole_watchers_that_may_f) (n := 63) (k := 8) (gr := true) (x := "script") rfl (by decide) rfl ⟨rfl, by decide, by decide⟩ rfl (fun w h Y => PySem.W.km_in_of Y) ?F
  case F =>
    intro w mg fa h Y KX G hmg
    refine' K49.all_mk KX G hmg (PySem.W.km_tabs_of Y) ?a0 ?l0 ?c0 ?k0 ?a1 ?l1 ?c1 ?k1 ?a2 ?l2 ?c2 ?k2 ?a3 ?l3 ?c3 ?k3 ?a4 ?l4 ?c4 ?k4 ?m4 ?p4 ?a5 ?l5 ?c5 ?k5 ?a6 ?l6 ?c6 ?k6 ?a7 ?l7 ?c7 ?k7 ?a8 ?l8 ?c8 ?k8 ?a9 ?l9 ?c9 ?k9 ?a10 ?l10 ?c10 ?k10 ?a11 ?l11 ?c11 ?k11 ?a12 ?l12 ?c12 ?k12 ?a13 ?l13 ?c13 ?k13 ?a14 ?l14 ?c14 ?k14 ?a15 ?l15 ?c15 ?k15 ?a16 ?l16 ?c16 ?k16 ?a17 ?l17 ?c17 ?k17 ?a18 ?l18 ?c18 ?k18 ?a19 ?l19 ?c19 ?k19 ?a20 ?l20 ?c20 ?k20 ?a21 ?l21 ?c21 ?k21 ?a22 ?l22 ?c22 ?k22 ?a23 ?l23 ?c23 ?k23 ?a24 ?l24 ?c24 ?k24 ?a25 ?l25 ?c25 ?k25 ?a26 ?l26 ?c26 ?k26 ?a27 ?l27 ?c27 ?k27 ?a28 ?l28 ?c28 ?k28 ?a29 ?l29 ?c29 ?k29 ?m29 ?p29 ?a30 ?l30 ?c30 ?k30 ?z0 ?z1 ?z2 ?z3 ?z4 ?z5 ?z6 ?z7 ?z8 ?z9 ?z10 ?z11 ?z12 ?z13 ?z14 ?q0 ?r0 ?q1 ?r1 ?eng ?elg ?emg ?efg ?ebg ?ewg ?En1 ?En2 ?En3 ?En4 ?En5 ?En8 ?En9 ?Kn0 ?Kn1 ?Kn2 ?Kn3 ?Kn4 ?Qn1 ?Qn2 ?Qn3 ?El1 ?El2 ?El3 ?El4 ?El5 ?El8 ?El9 ?Kl0 ?Kl1 ?Kl2 ?Kl3 ?Kl4 ?Ql1 ?Ql2 ?Ql3 ?Em1 ?Em2 ?Em3 ?Em4 ?Em5 ?Em8 ?Em9 ?Km0 ?Km1 ?Km2 ?Km3 ?Km4 ?Qm1 ?Qm2 ?Qm3 ?G6 ?G7
    (case a0 => k_is); (case l0 => k_is); (case c0 => k_is); (case k0 => k_is); (case a1 => k_is); (case l1 => k_is); (case c1 => k_is); (case k1 => k_is); (case a2 => k_is); (case l2 => k_is); (case c2 => k_is); (case k2 => k_is); (case a3 => k_is); (case l3 => k_is); (case c3 => k_is); (case k3 => k_is); (case a4 => k_is); (case l4 => k_is); (case c4 => k_is); (case k4 => k_is); (case m4 => kernel_rfl); (case p4 => kernel_rfl); (case a5 => k_is); (case l5 => k_is); (case c5 => k_is); (case k5 => k_is); (case a6 => k_is); (case l6 => k_is); (case c6 => k_is); (case k6 => k_is); (case a7 => k_is); (case l7 => k_is); (case c7 => k_is); (case k7 => k_is); (case a8 => k_is); (case l8 => k_is); (case c8 => k_is); (case k8 => k_is); (case a9 => k_is); (case l9 => k_is); (case c9 => k_is); (case k9 => k_is); (case a10 => k_is); (case l10 => k_is); (case c10 => k_is); (case k10 => k_is); (case a11 => k_is); (case l11 => k_is); (case c11 => k_is); (case k11 => k_is); (case a12 => k_is); (case l12 => k_is); (case c12 => k_is); (case k12 => k_is); (case a13 => k_is); (case l13 => k_is); (case c13 => k_is); (case k13 => k_is); (case a14 => k_is); (case l14 => k_is); (case c14 => k_is); (case k14 => k_is); (case a15 => k_is); (case l15 => k_is); (case c15 => k_is); (case k15 => k_is); (case a16 => k_is); (case l16 => k_is); (case c16 => k_is); (case k16 => k_is); (case a17 => k_is); (case l17 => k_is); (case c17 => k_is); (case k17 => k_is); (case a18 => k_is); (case l18 => k_is); (case c18 => k_is); (case k18 => k_is); (case a19 => k_is); (case l19 => k_is); (case c19 => k_is); (case k19 => k_is); (case a20 => k_is); (case l20 => k_is); (case c20 => k_is); (case k20 => k_is); (case a21 => k_is); (case l21 => k_is); (case c21 => k_is); (case k21 => k_is); (case a22 => k_is); (case l22 => k_is); (case c22 => k_is); (case k22 => k_is); (case a23 => k_is); (case l23 => k_is); (case c23 => k_is); (case k23 => k_is); (case a24 => k_is); (case l24 => k_is); (case c24 => k_is); (case k24 => k_is); (case a25 => k_is); (case l25 => k_is); (case c25 => k_is); (case k25 => k_is); (case a26 => k_is); (case l26 => k_is); (case c26 => k_is); (case k26 => k_is); (case a27 => k_is); (case l27 => k_is); (case c27 => k_is); (case k27 => k_is); (case a28 => k_is); (case l28 => k_is); (case c28 => k_is); (case k28 => k_is); (case a29 => k_is); (case l29 => k_is); (case c29 => k_is); (case k29 => k_is); (case m29 => kernel_rfl); (case p29 => kernel_rfl); (case a30 => k_is); (case l30 => k_is); (case c30 => k_is); (case k30 => k_is); (case z0 => k_is); (case z1 => k_is); (case z2 => k_is); (case z3 => k_is); (case z4 => k_is); (case z5 => k_is); (case z6 => k_is); (case z7 => k_is); (case z8 => k_is); (case z9 => k_is); (case z10 => k_is); (case z11 => k_is); (case z12 => k_is); (case z13 => k_is); (case z14 => k_is); (case q0 => k_is); (case r0 => rfl); (case q1 => k_is); (case r1 => rfl); (case eng => k_is); (case elg => k_is); (case emg => k_is); (case efg => k_is); (case ebg => k_is); (case ewg => k_is); (case En1 => k_is); (case En2 => k_is); (case En3 => k_is); (case En4 => k_is); (case En5 => k_is); (case En8 => k_is); (case En9 => kernel_rfl); (case Kn0 => kernel_rfl); (case Kn1 => kernel_rfl); (case Kn2 => kernel_rfl); (case Kn3 => kernel_rfl); (case Kn4 => kernel_rfl); (case Qn1 => kernel_rfl); (case Qn2 => k_is); (case Qn3 => k_is); (case El1 => k_is); (case El2 => k_is); (case El3 => k_is); (case El4 => k_is); (case El5 => k_is); (case El8 => k_is); (case El9 => kernel_rfl); (case Kl0 => kernel_rfl); (case Kl1 => kernel_rfl); (case Kl2 => kernel_rfl); (case Kl3 => kernel_rfl); (case Kl4 => kernel_rfl); (case Ql1 => kernel_rfl); (case Ql2 => k_is); (case Ql3 => k_is); (case Em1 => k_is); (case Em2 => k_is); (case Em3 => k_is); (case Em4 => k_is); (case Em5 => k_is); (case Em8 => k_is); (case Em9 => kernel_rfl); (case Km0 => kernel_rfl); (case Km1 => kernel_rfl); (case Km2 => kernel_rfl); (case Km3 => kernel_rfl); (case Km4 => kernel_rfl); (case Qm1 => kernel_rfl); (case Qm2 => k_is); (case Qm3 => k_is); (case G6 => k_is); (case G7 => k_is)
