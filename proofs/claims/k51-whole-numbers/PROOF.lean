import PyProof.Rows.All
import Wide.All
import OpenK.AllK
import Wide.FinOn
import PyProof.ListMulRoad
import PyProof.FactsAll.tuple_2
import HandS.ForMost
import HandS.TupAny
import HandS.TupMul
import HandS.Zip
import HandS.DictComp
import HandS.More
import HandS.Conv
import HandS.Wide
import HandS.Codes
import KE.KDictItemsList
import KE.KDictZip
import HandS.Defaults
import PySem.Challenge.RW_plugproof_k51_whole_numbers
import HandS.IsInst
set_option Elab.async false
set_option linter.all false
set_option maxRecDepth 100000
set_option maxHeartbeats 4000000
/-! rules of our own: tuple * int for 0 and 1 too, an item of a list read for an augmented store -/
namespace K51
open PySem PySem.Spec PyProof.Rows L2
theorem mul_one (l : Addr) (items : Array Value) (n : Nat) (dd : Option Addr) (sl : Array (Option Value)) (u : Tok) (he : items.isEmpty = false) :
    Meets (Builtin.«tuple.__mul__» ⟨[.ref l, .int 1 u], []⟩) (fun _ R s => s.heap.get? l = some { cls := .type "tuple", dict := dd, data := .seq items n, slots := sl } ∧ R (.ok (.ret (Value.ref l))) s) :=
  .of_wp fun prog w A R s h => by
    obtain ⟨hp, g, d, tk, os⟩ := s
    obtain ⟨hl, h⟩ := h
    have f1 := AutoSeq1.idx_int
    have c1 : (items.isEmpty || (1 : Int) == 1) = true := by rw [he]; rfl
    wp_walk using wpAny_loadPart' hl
    all_goals first | exact ⟨_, rfl, h⟩ | skip
theorem mul_zero (l : Addr) (items : Array Value) (n : Nat) (dd : Option Addr) (sl : Array (Option Value)) (u : Tok) (he : items.isEmpty = false) :
    Meets (Builtin.«tuple.__mul__» ⟨[.ref l, .int 0 u], []⟩) (fun _ R s => s.heap.get? l = some { cls := .type "tuple", dict := dd, data := .seq items n, slots := sl } ∧
      R (.ok (.ret (Value.ref s.heap.objs.size))) { s with heap := s.heap.push { cls := Value.type "tuple", data := Data.seq #[] }, toks := s.toks }) :=
  .of_wp fun prog w A R s h => by
    obtain ⟨hp, g, d, tk, os⟩ := s
    obtain ⟨hl, h⟩ := h
    have f1 := AutoSeq1.idx_int
    wp_walk using wpAny_loadPart' hl
    all_goals first | exact ⟨_, rfl, h⟩ | skip
def rRepA (K : PySem.W.Frag) : R2 := fun x y H Q => ∃ l k xs, x = .ref l ∧ y = .int k ∧ SqT K H l xs ∧ xs ≠ [] ∧ 0 ≤ k ∧ k ≤ 1000 ∧ xs.length ≤ 1000 ∧ (k = 1 → Q (.ref l) H) ∧ (k ≠ 1 → ∀ p, H p = none → Q (.ref p) (upd H p (.tup (List.replicate k.toNat xs).flatten)))
section
variable {X : Cx}
/-- (0,) * n, whatever n from 0 on -/
theorem op_repA : OpR X (binaryOp .Mult) (rRepA X.K) := by
  intro pins s σ H x y v u Q I rx ry h
  obtain ⟨l, k, xs, rfl, rfl, hT, hne, h0, h1, hz, q1, q2⟩ := h
  by_cases k2 : 2 ≤ k
  · exact op_repT pins s σ H _ _ v u Q I rx ry ⟨l, k, xs, rfl, rfl, hT, hne, k2, h1, hz, q2 (by omega)⟩
  · cases rx
    obtain ⟨t, rfl⟩ := ry
    obtain ⟨its, r, ⟨⟨cls, dd, data, sl⟩, ho, hc, n, hd⟩, hs⟩ := I.tuple hT
    simp only at hc hd
    subst hc hd
    have hn : its.toArray.isEmpty = false := by
      cases its with
      | nil => cases r; exact absurd rfl hne
      | cons a b => rfl
    by_cases k1 : k = 1
    · subst k1
      refine wpAny_binaryOp_repeat_ref (T := "tuple") (U := "int") (by decide) ⟨_, ho, rfl⟩ (fun s' => typeIs_int s' 1 t) noFill_tuple_mul F.fills_int_mul F.slot_int_rmul repeat_tuple F.slot_int_index.lookup
        (call_meets F.slot_int_rmul (typeIs_int s 1 t) F.entry_int_rmul (F.args_int_rmul_2 _ _) (int_rmul_tuple 1 t l its.toArray n dd sl)
          ⟨ho, rfl, ⟨_, ho, rfl⟩, call_meets F.slot_tuple_mul ⟨_, ho, rfl⟩ F.entry_tuple_mul (F.args_tuple_mul_2 _ _) (mul_one l its.toArray n dd sl t hn) ⟨ho, ?_⟩⟩)
      exact ⟨.ref l, H, I, rfl, q1 rfl⟩
    · have k0 : k = 0 := by omega
      subst k0
      refine wpAny_binaryOp_repeat_ref (T := "tuple") (U := "int") (by decide) ⟨_, ho, rfl⟩ (fun s' => typeIs_int s' 0 t) noFill_tuple_mul F.fills_int_mul F.slot_int_rmul repeat_tuple F.slot_int_index.lookup
        (call_meets F.slot_int_rmul (typeIs_int s 0 t) F.entry_int_rmul (F.args_int_rmul_2 _ _) (int_rmul_tuple 0 t l its.toArray n dd sl)
          ⟨ho, rfl, ⟨_, ho, rfl⟩, call_meets F.slot_tuple_mul ⟨_, ho, rfl⟩ F.entry_tuple_mul (F.args_tuple_mul_2 _ _) (mul_zero l its.toArray n dd sl t hn) ⟨ho, ?_⟩⟩)
      refine ⟨.ref s.heap.objs.size, _, I.laid (t' := s.toks) (o := .tup []) (fun b ob q => Heap.get?_push_of_some _ q) (Nat.le_refl _) ⟨Nat.zero_le _, [], .nil, IsTup.new _ _⟩, rfl, ?_⟩
      exact q2 (by decide) _ (I.hok.fresh (Nat.le_refl _))
/-- an item of a list, for xs[i] += e -/
theorem get_list : PGet X (fun x y H Q => ∃ p xs k v, x = .ref p ∧ y = .int (k : Nat) ∧ SqL X.K H p xs ∧ xs[k]? = some v ∧ Q v H) := by
  intro pins s σ H x y v u Q I rx ry h
  obtain ⟨p, xs, k, z, rfl, rfl, hq, he, q⟩ := h
  cases rx
  obtain ⟨t, rfl⟩ := ry
  obtain ⟨its, r, pl, hz⟩ := I.list hq
  obtain ⟨w, ew, rw'⟩ := r.get he
  have hl := r.length
  have hk : k < its.length := (List.getElem?_eq_some_iff.mp ew).1
  have hn := line63
  exact wpAny_getItem_list (Q := EP X pins σ Q) pl.isList (by omega) (by omega) (by simpa using ew) ⟨z, H, I, rw', q⟩
end
end K51
set_option maxRecDepth 100000
set_option maxHeartbeats 4000000
/-! list(zip(t, u)) of two tuples: a new list of new pairs -/
namespace K51Z
open PySem PySem.W PySem.Calls PySem.Spec PyProof.Rows
/-! a pair is out and held: the next one is new too -/
section
variable {prog : Program} {w : World} {A : Around} {E : Value → Shared → Prop} {s : Shared}
theorem held_next {z TI TO T i1 i2 l1 l2 : Addr} {f : Bool} {oT : Obj} {k : Nat} {xs ys : Array Value} {x y : Value} {Q : Value → Shared → Prop} (D : ZipApart z TI TO i1 i2 l1 l2)
    (hz : IsZipHeld s.heap z TI TO T f) (hT : s.heap.get? T = some oT) (hTI : IsPair s.heap TI (.ref i1) (.ref i2))
    (a1 : s.heap.IsTupleIter i1 l1 k) (a2 : s.heap.IsTupleIter i2 l2 k) (b1 : s.heap.IsTuple l1 xs) (b2 : s.heap.IsTuple l2 ys) (hx : xs[k]? = some x) (hy : ys[k]? = some y)
    (hQ : ∀ h', IsZipHeld h' z TI TO T true → h'.IsTupleIter i1 l1 (k + 1) → h'.IsTupleIter i2 l2 (k + 1) → IsPair h' s.heap.objs.size x y → h'.objs.size = s.heap.objs.size + 1 →
      (∀ c o, c ≠ z → c ≠ i1 → c ≠ i2 → s.heap.get? c = some o → h'.get? c = some o) → Q (.ref s.heap.objs.size) { s with heap := h' }) :
    wpAny (model prog w) A (Builtin.«zip.__next__» ⟨[.ref z], []⟩) (fun fin s' => ∃ v, fin = .done (.ret v) ∧ Q v s') E s := by
  show wpAny _ _ (field (.ref z) 2 >>= _) _ _ _
  refine wpAny_bind (wpAny_field hz rfl (x := .bool false) rfl ?_)
  show wpAny _ _ (field (.ref z) 3 >>= _) _ _ _
  refine wpAny_bind (wpAny_field hz rfl (x := .ref TI) rfl (wpAny_bind (wpAny_seqItems hTI rfl ?_)))
  show wpAny _ _ (Builtin.SmallTypes.ownedTupleIsFree (.ref z) >>= _) _ _ _
  refine wpAny_bind (wpAny_tupleHeld_zip hz hT fun g1 y1 t1 => ?_)
  simp only [Bool.false_eq_true, if_false]
  refine wpAny_bind ?_
  rw [← Array.forIn_toList]
  simp only [List.forIn_cons, List.forIn_nil]
  refine wpAny_bind (wpAny_bind (wpAny_holding ?_))
  show wpAny _ _ (Builtin.SmallTypes.nextOf (.ref i1) >>= _) _ _ _
  refine wpAny_bind (RZ.nextOf_tuple_item (s := { s with heap := g1 }) (a1.extBut t1.extBut D.i1z) (b1.extBut t1.extBut D.l1z) hx fun g2 y2 t2 => wpAny_pure (wpAny_pure ?_))
  refine wpAny_bind (wpAny_bind (wpAny_holding ?_))
  show wpAny _ _ (Builtin.SmallTypes.nextOf (.ref i2) >>= _) _ _ _
  refine wpAny_bind (RZ.nextOf_tuple_item (s := { s with heap := g2 }) ((a2.extBut t1.extBut D.i2z).extBut t2.extBut D.i12.symm) ((b2.extBut t1.extBut D.l2z).extBut t2.extBut D.l2i1) hy fun g3 y3 t3 => wpAny_pure (wpAny_pure (wpAny_pure ?_)))
  show wpAny _ _ (newTuple [x, y] >>= _) _ _ _
  refine wpAny_bind (wpAny_newTuple ?_)
  have hsz : g3.objs.size = s.heap.objs.size := by rw [t3.1, t2.1, t1.1]
  have z3 : IsZipHeld g3 z TI TO T true := t3.extBut _ _ D.i2z.symm (t2.extBut _ _ D.i1z.symm y1)
  have kp : ∀ c o, c ≠ z → c ≠ i1 → c ≠ i2 → s.heap.get? c = some o → g3.get? c = some o := fun c o c1 c2 c3 e => t3.extBut _ _ c3 (t2.extBut _ _ c2 (t1.extBut _ _ c1 e))
  have y2' : g3.IsTupleIter i1 l1 (k + 1) := y2.extBut t3.extBut D.i12
  refine wpAny_pure ⟨_, rfl, ?_⟩
  show Q (.ref g3.objs.size) _
  have hp : IsPair (g3.push { cls := .type "tuple", data := .seq #[x, y] }) g3.objs.size x y := Heap.get?_push_size _ rfl
  have hs4 : (g3.push { cls := .type "tuple", data := .seq #[x, y] }).objs.size = g3.objs.size + 1 := Heap.size_push ..
  rw [hsz] at hp hs4 ⊢
  exact hQ _ (Heap.get?_push_of_some _ z3) (y2'.at fun o e => Heap.get?_push_of_some _ e) (y3.at fun o e => Heap.get?_push_of_some _ e) hp hs4 fun c o c1 c2 c3 e => Heap.get?_push_of_some _ (kp c o c1 c2 c3 e)
theorem held_end {z TI TO T i1 i2 l1 l2 : Addr} {f : Bool} {oT : Obj} {k : Nat} {xs ys : Array Value} {Q : Fin → Shared → Prop} (hh : A.handled = none) (D : ZipApart z TI TO i1 i2 l1 l2)
    (hz : IsZipHeld s.heap z TI TO T f) (hT : s.heap.get? T = some oT) (hTI : IsPair s.heap TI (.ref i1) (.ref i2))
    (a1 : s.heap.IsTupleIter i1 l1 k) (a2 : s.heap.IsTupleIter i2 l2 k) (b1 : s.heap.IsTuple l1 xs) (b2 : s.heap.IsTuple l2 ys) (hx : xs[k]? = none)
    (hE : ∀ h' e, (∀ c o, c ≠ z → c ≠ i1 → c ≠ i2 → s.heap.get? c = some o → h'.get? c = some o) → (∃ o, h'.get? e = some o ∧ o.cls = .type "StopIteration") → E (.ref e) { s with heap := h' }) :
    wpAny (model prog w) A (Builtin.«zip.__next__» ⟨[.ref z], []⟩) Q E s := by
  show wpAny _ _ (field (.ref z) 2 >>= _) _ _ _
  refine wpAny_bind (wpAny_field hz rfl (x := .bool false) rfl ?_)
  show wpAny _ _ (field (.ref z) 3 >>= _) _ _ _
  refine wpAny_bind (wpAny_field hz rfl (x := .ref TI) rfl (wpAny_bind (wpAny_seqItems hTI rfl ?_)))
  show wpAny _ _ (Builtin.SmallTypes.ownedTupleIsFree (.ref z) >>= _) _ _ _
  refine wpAny_bind (wpAny_tupleHeld_zip hz hT fun g1 y1 t1 => ?_)
  simp only [Bool.false_eq_true, if_false]
  refine wpAny_bind ?_
  rw [← Array.forIn_toList]
  simp only [List.forIn_cons, List.forIn_nil]
  refine wpAny_bind (wpAny_bind (wpAny_holding ?_))
  show wpAny _ _ (Builtin.SmallTypes.nextOf (.ref i1) >>= _) _ _ _
  refine wpAny_bind (RZ.nextOf_tuple_end (s := { s with heap := g1 }) hh (a1.extBut t1.extBut D.i1z) (b1.extBut t1.extBut D.l1z) hx fun g2 e t2 he => ?_)
  exact hE g2 e (fun c o c1 c2 _ q => t2 _ _ c2 (t1.extBut _ _ c1 q)) he
/-- what the zip is between two turns: nothing is out, or a pair that is held -/
def ZSt (h : Heap) (z TI TO i1 i2 l1 l2 S : Addr) (k : Nat) : Prop :=
  ((IsZip h z TI TO .none ∧ ∃ a b, IsPair h TO a b) ∨ ∃ T f oT, IsZipHeld h z TI TO T f ∧ h.get? T = some oT ∧ T ≠ S ∧ T ≠ z ∧ T ≠ i1 ∧ T ≠ i2) ∧ IsPair h TI (.ref i1) (.ref i2) ∧ h.IsTupleIter i1 l1 k ∧ h.IsTupleIter i2 l2 k
/-- only the list has changed -/
theorem ZSt.keep {h h' : Heap} {z TI TO i1 i2 l1 l2 S : Addr} {k : Nat} (st : ZSt h z TI TO i1 i2 l1 l2 S k) (up : ∀ b o, b ≠ S → h.get? b = some o → h'.get? b = some o) (n0 : z ≠ S) (n1 : TI ≠ S) (n2 : TO ≠ S) (n3 : i1 ≠ S) (n4 : i2 ≠ S) : ZSt h' z TI TO i1 i2 l1 l2 S k := by
  obtain ⟨c, d, e, f⟩ := st
  refine ⟨?_, up _ _ n1 d, e.at fun o q => up _ o n3 q, f.at fun o q => up _ o n4 q⟩
  rcases c with ⟨q1, a, b, q2⟩ | ⟨T, f, oT, q1, q2, q3, q4⟩
  · exact Or.inl ⟨up _ _ n0 q1, a, b, up _ _ n2 q2⟩
  · exact Or.inr ⟨T, f, oT, up _ _ n0 q1, up _ _ q3 q2, q3, q4⟩
theorem z_item {z TI TO i1 i2 l1 l2 S : Addr} {k : Nat} {xs ys : Array Value} {x y : Value} {Q : Option Value → Shared → Prop} (D : ZipApart z TI TO i1 i2 l1 l2) (st : ZSt s.heap z TI TO i1 i2 l1 l2 S k) (hS : S < s.heap.objs.size)
    (b1 : s.heap.IsTuple l1 xs) (b2 : s.heap.IsTuple l2 ys) (hx : xs[k]? = some x) (hy : ys[k]? = some y)
    (hQ : ∀ h', ZSt h' z TI TO i1 i2 l1 l2 S (k + 1) → IsPair h' s.heap.objs.size x y → h'.objs.size = s.heap.objs.size + 1 →
      (∀ c o, c ≠ z → c ≠ TO → c ≠ i1 → c ≠ i2 → s.heap.get? c = some o → h'.get? c = some o) → Q (some (.ref s.heap.objs.size)) { s with heap := h' }) : wpAny (model prog w) A (pyNext (.ref z)) Q E s := by
  obtain ⟨c, hTI, a1, a2⟩ := st
  have zl : z < s.heap.objs.size := by
    rcases c with ⟨q1, _⟩ | ⟨T, f, oT, q1, _⟩
    · exact Heap.lt_size q1
    · exact Heap.lt_size q1
  have l1' : i1 < s.heap.objs.size := by obtain ⟨_, e, _⟩ := a1; exact Heap.lt_size e
  have l2' : i2 < s.heap.objs.size := by obtain ⟨_, e, _⟩ := a2; exact Heap.lt_size e
  rcases c with ⟨q1, a, b, q2⟩ | ⟨T, f, oT, q1, q2, q3, q4, q5, q6⟩
  · refine RZ.pyNext_zipT_item D q1 hTI q2 a1 a2 b1 b2 hx hy fun h' e1 e2 e3 e4 e5 e6 e7 => hQ h' ⟨Or.inr ⟨s.heap.objs.size, false, _, e1, e5, Nat.ne_of_gt hS, Nat.ne_of_gt zl, Nat.ne_of_gt l1', Nat.ne_of_gt l2'⟩, e7 _ _ D.TIz D.TITO D.TIi1 D.TIi2 hTI, e3, e4⟩ e5 e6 e7
  · have hTy : s.TypeIs (.ref z) "zip" := ⟨_, q1, rfl⟩
    unfold pyNext
    exact wpAny_bind (wpAny_attempt (wpAny_callSpecial?_slot (name := Str.ofString "__next__") hTy F.slot_zip_next (wpAny_call_entry F.slot_zip_next hTy F.entry_zip_next
      (held_next D q1 q2 hTI a1 a2 b1 b2 hx hy fun h' e1 e2 e3 e4 e5 e6 => wpAny_pure (hQ h' ⟨Or.inr ⟨T, true, oT, e1, e6 _ _ q4 q5 q6 q2, q3, q4, q5, q6⟩, e6 _ _ D.TIz D.TIi1 D.TIi2 hTI, e2, e3⟩ e4 e5 fun c o c1 _ c3 c4 e => e6 c o c1 c3 c4 e)) (F.args_zip_next_1 _))))
theorem z_end {z TI TO i1 i2 l1 l2 S : Addr} {k : Nat} {xs ys : Array Value} {Q : Option Value → Shared → Prop} (hh : A.handled = none) (D : ZipApart z TI TO i1 i2 l1 l2) (st : ZSt s.heap z TI TO i1 i2 l1 l2 S k)
    (b1 : s.heap.IsTuple l1 xs) (b2 : s.heap.IsTuple l2 ys) (hx : xs[k]? = none)
    (hQ : ∀ h', (∀ c o, c ≠ z → c ≠ TO → c ≠ i1 → c ≠ i2 → s.heap.get? c = some o → h'.get? c = some o) → Q none { s with heap := h' }) : wpAny (model prog w) A (pyNext (.ref z)) Q E s := by
  obtain ⟨c, hTI, a1, a2⟩ := st
  rcases c with ⟨q1, a, b, q2⟩ | ⟨T, f, oT, q1, q2, q3, q4, q5, q6⟩
  · exact RZ.pyNext_zipT_end hh D q1 hTI q2 a1 a2 b1 b2 (Or.inl hx) hQ
  · have hTy : s.TypeIs (.ref z) "zip" := ⟨_, q1, rfl⟩
    unfold pyNext
    refine wpAny_bind (wpAny_attempt (wpAny_callSpecial?_slot (name := Str.ofString "__next__") hTy F.slot_zip_next
      (wpAny_call_entry F.slot_zip_next hTy F.entry_zip_next (held_end hh D q1 q2 hTI a1 a2 b1 b2 hx fun h' e hk he => ?_) (F.args_zip_next_1 _))))
    obtain ⟨o, ho, hc⟩ := he
    exact wpAny_bind (wpAny_isInstance (T := "StopIteration") (b := true) ⟨o, ho, hc⟩ isSubtype_stop (wpAny_pure (hQ _ fun c o c1 _ c3 c4 e => hk c o c1 c3 c4 e)))
end
/-- the pairs that are out: at rising addresses above lo -/
structure Out (xs ys : Array Value) (lo : Addr) (h : Heap) (as : List Addr) : Prop where
  rise : as.Pairwise (· < ·)
  above : ∀ a ∈ as, lo < a
  pair : ∀ (j : Nat) (a : Addr), as[j]? = some a → ∃ x y, xs[j]? = some x ∧ ys[j]? = some y ∧ IsPair h a x y
theorem Out.lt {xs ys : Array Value} {lo : Addr} {h : Heap} {as : List Addr} (g : Out xs ys lo h as) {a : Addr} (ha : a ∈ as) : a < h.objs.size := by
  obtain ⟨j, hj⟩ := List.mem_iff_getElem?.mp ha
  obtain ⟨_, _, _, _, e⟩ := g.pair j a hj
  exact Heap.lt_size e
/-- the list was laid behind the zip's cells -/
structure Cells (S z TI TO i1 i2 l1 l2 : Addr) : Prop where
  z : z < S
  i1 : i1 < S
  i2 : i2 < S
  TI : TI < S
  TO : TO < S
  l1 : l1 < S
  l2 : l2 < S
section
variable {prog : Program} {w : World} {A : Around} {s : Shared} {R : Result → Shared → Prop} {xs ys : Array Value}
abbrev lstO (acc : Array Value) (c : Nat) : Obj := { cls := .type "list", dict := none, data := .seq acc c, slots := #[] }
theorem z_loop {S z TI TO i1 i2 l1 l2 : Addr} (hh : A.handled = none) (D : ZipApart z TI TO i1 i2 l1 l2) (C : Cells S z TI TO i1 i2 l1 l2) (hn : xs.size ≤ sizeLine) (hxy : xs.size = ys.size) (res : Value) {h₀ : Heap}
    (hR : ∀ h' tk acc c as, (∀ b o, b ≠ S → b ≠ z → b ≠ TO → b ≠ i1 → b ≠ i2 → h₀.get? b = some o → h'.get? b = some o) → h'.get? S = some (lstO acc c) → as.length = xs.size → Out xs ys S h' as → acc.toList = as.map Value.ref → R (.ok (.ret res)) { s with heap := h', toks := tk }) :
    ∀ (m k : Nat) (h : Heap) (tk c : Nat) (acc : Array Value) (as : List Addr), xs.size - k = m → k ≤ xs.size → ZSt h z TI TO i1 i2 l1 l2 S k → h.IsTuple l1 xs → h.IsTuple l2 ys → (∀ b o, b ≠ S → b ≠ z → b ≠ TO → b ≠ i1 → b ≠ i2 → h₀.get? b = some o → h.get? b = some o) →
      h.get? S = some (lstO acc c) → acc.toList = as.map Value.ref → as.length = k → Out xs ys S h as →
      codeAny (model prog w) A (.builtin "list.extend.loop" ⟨[.ref S, .ref z, res], []⟩) R { s with heap := h, toks := tk } := by
  have gt : ∀ b, S < b → b ≠ S ∧ b ≠ z ∧ b ≠ TO ∧ b ≠ i1 ∧ b ≠ i2 := fun b hb => ⟨Nat.ne_of_gt hb, Nat.ne_of_gt (Nat.lt_trans C.z hb), Nat.ne_of_gt (Nat.lt_trans C.TO hb), Nat.ne_of_gt (Nat.lt_trans C.i1 hb), Nat.ne_of_gt (Nat.lt_trans C.i2 hb)⟩
  intro m
  induction m with
  | zero =>
    intro k h tk c acc as hk hi st t1 t2 hkp hS hacc hal hG
    have hin : xs[k]? = none := by rw [Array.getElem?_eq_none_iff]; omega
    refine codeAny_builtin PySem.F.entry_extend_loop ?_
    rw [Around.under_plainId PySem.F.plain_extend_loop _]
    show wpAny _ A.in1 (pyNext (.ref z) >>= _) _ _ _
    refine wpAny_bind (z_end (s := { s with heap := h, toks := tk }) (A := A.in1) hh D st t1 t2 hin fun h' he => ?_)
    refine wpAny_pure (hR h' tk acc c as (fun b o n0 n1 n2 n3 n4 e => he b o n1 n2 n3 n4 (hkp b o n0 n1 n2 n3 n4 e)) (he S _ (Nat.ne_of_gt C.z) (Nat.ne_of_gt C.TO) (Nat.ne_of_gt C.i1) (Nat.ne_of_gt C.i2) hS) (by omega) ⟨hG.rise, hG.above, fun j a hj => ?_⟩ hacc)
    obtain ⟨x, y, e1, e2, e3⟩ := hG.pair j a hj
    obtain ⟨_, n1, n2, n3, n4⟩ := gt a (hG.above a (List.mem_of_getElem? hj))
    exact ⟨x, y, e1, e2, he a _ n1 n2 n3 n4 e3⟩
  | succ m ih =>
    intro k h tk c acc as hk hi st t1 t2 hkp hS hacc hal hG
    have hlt : k < xs.size := by omega
    have hx : xs[k]? = some xs[k] := Array.getElem?_eq_getElem hlt
    have hlt2 : k < ys.size := by omega
    have hy : ys[k]? = some ys[k] := Array.getElem?_eq_getElem hlt2
    have hsz : acc.size = k := by rw [← Array.length_toList, hacc, List.length_map, hal]
    refine codeAny_builtin PySem.F.entry_extend_loop ?_
    rw [Around.under_plainId PySem.F.plain_extend_loop _]
    show wpAny _ A.in1 (pyNext (.ref z) >>= _) _ _ _
    refine wpAny_bind (z_item (s := { s with heap := h, toks := tk }) (A := A.in1) D st (Heap.lt_size hS) t1 t2 hx hy fun h' st' hp hs' hk' => ?_)
    dsimp only at hp hs' hk' ⊢
    have hS' := hk' S _ (Nat.ne_of_gt C.z) (Nat.ne_of_gt C.TO) (Nat.ne_of_gt C.i1) (Nat.ne_of_gt C.i2) hS
    have up : ∀ b o, b ≠ S → h'.get? b = some o → (h'.update S (Obj.mapSeq (·.push (Value.ref h.objs.size)))).get? b = some o := fun b o hb e => (Heap.get?_update_other _ _ (Ne.symm hb)).trans e
    have hSl : S < h.objs.size := Heap.lt_size hS
    have tup : ∀ {l : Addr} {vs : Array Value}, l ≠ S → l ≠ z → l ≠ TO → l ≠ i1 → l ≠ i2 → h.IsTuple l vs → (h'.update S (Obj.mapSeq (·.push (Value.ref h.objs.size)))).IsTuple l vs := fun {l vs} n0 n1 n2 n3 n4 ⟨o, ho, q⟩ =>
      ⟨o, up _ _ n0 (hk' _ _ n1 n2 n3 n4 ho), q⟩
    show wpAny _ A.in1 (updateSeq S (·.push (Value.ref h.objs.size)) >>= _) _ _ _
    refine wpAny_bind ?_
    refine wpAny_updateSeq hS' rfl (wpAny_pure ⟨plainId_quiet PySem.F.plain_extend_loop _, ih (k + 1) _ tk _ (acc.push (Value.ref h.objs.size)) (as ++ [h.objs.size]) (by omega) hlt
      (st'.keep up (Nat.ne_of_lt C.z) (Nat.ne_of_lt C.TI) (Nat.ne_of_lt C.TO) (Nat.ne_of_lt C.i1) (Nat.ne_of_lt C.i2)) (tup (Nat.ne_of_lt C.l1) D.l1z D.l1TO D.l1i1 D.l1i2 t1) (tup (Nat.ne_of_lt C.l2) D.l2z D.l2TO D.l2i1 D.l2i2 t2)
      (fun b o n0 n1 n2 n3 n4 e => up b o n0 (hk' b o n1 n2 n3 n4 (hkp b o n0 n1 n2 n3 n4 e))) (Heap.get?_update_self _ hS' rfl) (by rw [Array.toList_push, hacc, List.map_append]; rfl) (by rw [List.length_append, hal]; rfl) ⟨?_, ?_, ?_⟩⟩) (by rw [hsz]; omega) (by show (acc.push (Value.ref h.objs.size)).size ≤ sizeLine + 1; rw [Array.size_push, hsz]; omega)
    · refine List.pairwise_append.mpr ⟨hG.rise, List.pairwise_singleton _ _, fun a ha b hb => ?_⟩
      rw [List.mem_singleton.mp hb]
      exact hG.lt ha
    · intro a ha
      rcases List.mem_append.mp ha with ha | ha
      · exact hG.above a ha
      · rw [List.mem_singleton.mp ha]; exact hSl
    · intro j b hj
      by_cases h1 : j < as.length
      · rw [List.getElem?_append_left h1] at hj
        obtain ⟨x, y, e1, e2, e3⟩ := hG.pair j b hj
        obtain ⟨n0, n1, n2, n3, n4⟩ := gt b (hG.above b (List.mem_of_getElem? hj))
        exact ⟨x, y, e1, e2, up b _ n0 (hk' b _ n1 n2 n3 n4 e3)⟩
      · by_cases h2 : j = as.length
        · subst h2
          have hb : h.objs.size = b := by simpa using hj
          subst hb
          subst hal
          exact ⟨_, _, hx, hy, up _ _ (Nat.ne_of_gt hSl) hp⟩
        · have hnone : (as ++ [h.objs.size])[j]? = none := List.getElem?_eq_none (by rw [List.length_append, List.length_singleton]; omega)
          rw [hnone] at hj; cases hj
end
theorem zip_len : typeLookup (.type "zip") "__len__" = pure none := am_miss_of_fast (by decide +kernel)
theorem zip_hint : typeLookup (.type "zip") "__length_hint__" = pure none := am_miss_of_fast (by decide +kernel)
section
variable {prog : Program} {w : World} {A : Around} {E : Value → Shared → Prop} {s : Shared} {xs ys : Array Value}
theorem z_extend {R : Result → Shared → Prop} {S z TI TO i1 i2 l1 l2 : Addr} {c₀ : Nat} (hh : A.handled = none) (D : ZipApart z TI TO i1 i2 l1 l2) (C : Cells S z TI TO i1 i2 l1 l2) (hn : xs.size ≤ sizeLine) (hxy : xs.size = ys.size) (res : Value)
    (st : ZSt s.heap z TI TO i1 i2 l1 l2 S 0) (t1 : s.heap.IsTuple l1 xs) (t2 : s.heap.IsTuple l2 ys) (hS : s.heap.get? S = some { cls := .type "list", data := .seq #[] c₀ })
    (hR : ∀ h' tk acc c as, (∀ b o, b ≠ S → b ≠ z → b ≠ TO → b ≠ i1 → b ≠ i2 → s.heap.get? b = some o → h'.get? b = some o) → h'.get? S = some (lstO acc c) → as.length = xs.size → Out xs ys S h' as → acc.toList = as.map Value.ref → R (.ok (.ret res)) { s with heap := h', toks := tk }) :
    wpAny (model prog w) A.in1 (Builtin.List.listExtendWith (.ref S) (.ref z) res)
      (fun fin s' => match fin with | .done f => R (.ok f) s' | .again c' => c'.quiet = true ∧ codeAny (model prog w) A c' R s') (fun e s' => R (.error e) s') s := by
  have hTy : ∃ f, s.heap.get? z = some { cls := .type "zip", dict := none, data := .fields f, slots := #[] } := by
    rcases st.1 with ⟨q, _⟩ | ⟨T, f, oT, q, _⟩
    · exact ⟨_, q⟩
    · exact ⟨_, q⟩
  obtain ⟨fz, hz⟩ := hTy
  have hT : s.TypeIs (.ref z) "zip" := ⟨_, hz, rfl⟩
  have hzS : z ≠ S := Nat.ne_of_lt C.z
  unfold Builtin.List.listExtendWith
  refine wpAny_bind (wpAny_typeOf hT ?_)
  have e1 : Builtin.List.listSameRef (.ref S) (.ref z) = false := by simp [Builtin.List.listSameRef, hzS.symm]
  have e2 : (Value.type "zip" == Value.type "list") = false := by decide
  have e3 : (Value.type "zip" == Value.type "tuple") = false := by decide
  simp only [e1, e2, e3, Bool.or_false, Bool.false_eq_true, if_false]
  refine wpAny_bind (wpAny_pyIter_slot hT F.slot_zip_iter (wpAny_call_entry F.slot_zip_iter hT F.entry_zip_iter (wpAny_pure ⟨_, rfl, "zip", _, hT, F.slot_zip_next.lookup, ?_⟩) (F.args_zip_iter_1 _)))
  refine wpAny_bind (wpAny_holding ?_)
  unfold Builtin.List.listLengthHint
  refine wpAny_bind (wpAny_specialOf hT zip_len ?_)
  show wpAny _ A.in1 (specialOf (Value.ref z) (Str.ofString "__length_hint__") >>= _) _ _ _
  refine wpAny_bind (wpAny_specialOf hT zip_hint (wpAny_pure ?_))
  show wpAny _ A.in1 (rule "list.extend.makes-room" >>= fun _ => Builtin.List.listTouch (.ref S) >>= fun _ => again (.builtin "list.extend.loop" ⟨[.ref S, .ref z, res], []⟩)) _ _ _
  refine wpAny_bind (wpAny_rule ?_)
  refine wpAny_bind ?_
  show wpAny _ A.in1 (updateSeq S (·.push .none) >>= fun _ => updateSeq S (·.pop)) _ _ _
  refine wpAny_bind (wpAny_updateSeq hS rfl ?_)
  have hS2 := Heap.get?_update_self (Obj.mapSeq (·.push Value.none)) hS rfl
  refine wpAny_updateSeq (hz := by seq_fits) hS2 rfl ?_
  have hS3 := Heap.get?_update_self (Obj.mapSeq (·.pop)) hS2 rfl
  have up : ∀ b o, b ≠ S → s.heap.get? b = some o → ((s.heap.update S (Obj.mapSeq (·.push Value.none))).update S (Obj.mapSeq (·.pop))).get? b = some o :=
    fun b o hb e => (Heap.get?_update_other _ _ (Ne.symm hb)).trans ((Heap.get?_update_other _ _ (Ne.symm hb)).trans e)
  have tup : ∀ {l : Addr} {vs : Array Value}, l ≠ S → s.heap.IsTuple l vs → ((s.heap.update S (Obj.mapSeq (·.push Value.none))).update S (Obj.mapSeq (·.pop))).IsTuple l vs := fun {l vs} n0 ⟨o, ho, q⟩ => ⟨o, up _ _ n0 ho, q⟩
  refine wpAny_pure ⟨plainId_quiet F.plain_extend_loop _, ?_⟩
  exact z_loop (s := s) hh D C hn hxy res (h₀ := s.heap) hR xs.size 0 _ s.toks _ #[] [] (Nat.sub_zero _) (Nat.zero_le _)
    (st.keep up (Nat.ne_of_lt C.z) (Nat.ne_of_lt C.TI) (Nat.ne_of_lt C.TO) (Nat.ne_of_lt C.i1) (Nat.ne_of_lt C.i2)) (tup (Nat.ne_of_lt C.l1) t1) (tup (Nat.ne_of_lt C.l2) t2)
    (fun b o n0 _ _ _ _ e => up b o n0 e) hS3 rfl rfl ⟨List.Pairwise.nil, (fun _ ha => nomatch ha), (fun j a hj => by simp at hj)⟩
theorem z_call {z TI TO i1 i2 l1 l2 : Addr} {Q : Value → Shared → Prop} (hh : A.handled = none) (D : ZipApart z TI TO i1 i2 l1 l2) (C : Cells s.heap.objs.size z TI TO i1 i2 l1 l2) (hn : xs.size ≤ sizeLine) (hxy : xs.size = ys.size)
    (st : ZSt s.heap z TI TO i1 i2 l1 l2 s.heap.objs.size 0) (t1 : s.heap.IsTuple l1 xs) (t2 : s.heap.IsTuple l2 ys)
    (hQ : ∀ h' tk acc c as, (∀ b o, b ≠ z → b ≠ TO → b ≠ i1 → b ≠ i2 → s.heap.get? b = some o → h'.get? b = some o) → h'.get? s.heap.objs.size = some (lstO acc c) → as.length = xs.size → Out xs ys s.heap.objs.size h' as → acc.toList = as.map Value.ref → Q (.ref s.heap.objs.size) { s with heap := h', toks := tk }) :
    wpAny (model prog w) A (call (.type "list") [.ref z]) Q E s := by
  have hTy : ∃ f, s.heap.get? z = some { cls := .type "zip", dict := none, data := .fields f, slots := #[] } := by
    rcases st.1 with ⟨q, _⟩ | ⟨T, f, oT, q, _⟩
    · exact ⟨_, q⟩
    · exact ⟨_, q⟩
  obtain ⟨fz, hz⟩ := hTy
  refine callType_codes (Q₁ := fun obj s₁ => obj = .ref s.heap.objs.size ∧ s₁ = { s with heap := s.heap.push { cls := .type "list", data := .seq #[] } }) F.called_list (F.typeCall_list_1 _) F.entry_list_init (code_list_new _ ⟨rfl, rfl⟩) fun obj s₁ h₁ => ?_
  obtain ⟨rfl, rfl⟩ := h₁
  have hS : (s.heap.push { cls := .type "list", data := .seq #[] }).get? s.heap.objs.size = some { cls := .type "list", data := .seq #[] } := Heap.get?_push_size _ rfl
  refine ⟨⟨_, hS, rfl⟩, F.args_list_init_2 _ _, ?_⟩
  show wpAny _ _ (do let old ← Builtin.List.listItems (.ref s.heap.objs.size); Builtin.List.listUpdate (.ref s.heap.objs.size) (fun _ => #[]); letGo old.toList.reverse; Builtin.List.listExtendWith (.ref s.heap.objs.size) (.ref z) .none) _ _ _
  refine wpAny_bind ?_
  unfold Builtin.List.listItems
  refine wpAny_bind (wpAny_seqItems hS rfl (wpAny_pure ?_))
  show wpAny _ _ (updateSeq s.heap.objs.size (fun _ => #[]) >>= fun _ => letGo (#[] : Array Value).toList.reverse >>= fun _ => Builtin.List.listExtendWith (.ref s.heap.objs.size) (.ref z) .none) _ _ _
  refine wpAny_bind (wpAny_updateSeq hS rfl ?_)
  have hS2 := Heap.get?_update_self (Obj.mapSeq (fun _ => (#[] : Array Value))) hS rfl
  have up : ∀ b o, b ≠ s.heap.objs.size → s.heap.get? b = some o → ((s.heap.push { cls := .type "list", data := .seq #[] }).update s.heap.objs.size (Obj.mapSeq (fun _ => (#[] : Array Value)))).get? b = some o :=
    fun b o hb e => (Heap.get?_update_other _ _ (Ne.symm hb)).trans (Heap.get?_push_of_some _ e)
  have tup : ∀ {l : Addr} {vs : Array Value}, l ≠ s.heap.objs.size → s.heap.IsTuple l vs → ((s.heap.push { cls := .type "list", data := .seq #[] }).update s.heap.objs.size (Obj.mapSeq (fun _ => (#[] : Array Value)))).IsTuple l vs := fun {l vs} n0 ⟨o, ho, q⟩ => ⟨o, up _ _ n0 ho, q⟩
  refine wpAny_bind (wpAny_letGo ?_)
  refine z_extend (A := A.in1) hh D C hn hxy .none (st.keep up (Nat.ne_of_lt C.z) (Nat.ne_of_lt C.TI) (Nat.ne_of_lt C.TO) (Nat.ne_of_lt C.i1) (Nat.ne_of_lt C.i2)) (tup (Nat.ne_of_lt C.l1) t1) (tup (Nat.ne_of_lt C.l2) t2) hS2 (fun h' tk acc c as hk hS' hl hG hacc => ?_)
  exact ⟨rfl, hQ h' tk acc c as (fun b o n1 n2 n3 n4 e => hk b o (Nat.ne_of_lt (Heap.lt_size e)) n1 n2 n3 n4 (up b o (Nat.ne_of_lt (Heap.lt_size e)) e)) hS' hl hG hacc⟩
end
end K51Z
namespace K51
open PySem PySem.Spec PyProof.Rows L2 K51Z
/-- the list at S and the pairs at as, over H -/
def zipH (H : Hp) (S : Addr) (as : List Addr) (xs ys : List V) : Hp := fun c =>
  if c = S then some (.lst (as.map V.ref)) else match as.idxOf? c with
    | some j => some (.tup [xs.getD j .non, ys.getD j .non])
    | none => H c
def tListZip (K : PySem.W.Frag) (ta : TA) : TE := fun σ H Q => ta σ H fun vs H1 => ∃ a b xs ys, vs = [.ref a, .ref b] ∧ SqT K H1 a xs ∧ SqT K H1 b ys ∧ xs.length = ys.length ∧
  ∀ (H' : Hp) (p : Addr) (ts : List Addr), (∀ c o, H1 c = some o → H' c = some o) → H1 p = none → H' p = some (.lst (ts.map V.ref)) → ts.length = xs.length →
    (∀ (j : Nat) (t : Addr), ts[j]? = some t → H1 t = none ∧ ∃ x y, xs[j]? = some x ∧ ys[j]? = some y ∧ H' t = some (.tup [x, y])) → Q (.ref p) H'
theorem vals_ref : ∀ as : List Addr, Vals (as.map V.ref) (as.map Value.ref)
  | [] => .nil
  | _ :: as => .cons rfl (vals_ref as)
theorem idx_some : ∀ {as : List Addr} {c : Addr} {j : Nat}, as.idxOf? c = some j → as[j]? = some c := by
  intro as c j h
  rw [List.idxOf?_eq_some_iff] at h
  obtain ⟨h1, h2, _⟩ := h
  rw [List.getElem?_eq_getElem h1]
  exact congrArg some (by simpa using h2)
theorem idx_none {as : List Addr} {c : Addr} (h : as.idxOf? c = none) : c ∉ as := by
  simpa using h
theorem idx_mem {as : List Addr} {c : Addr} (h : c ∉ as) : as.idxOf? c = none := by
  simpa using h
section
variable {X : Cx} {e e2 : Expr} {ta : TA} {p p2 pos pos2 : Pos}
theorem zip_laid {pins : List (Addr × Obj)} {σ : L2.St} {H : Hp} {s : Shared} {h' : Heap} {tk S c : Nat} {acc : Array Value} {as : List Addr} {xs ys : List V} {us ws : List Value} (I : Inv X pins σ H s) (hSz : s.heap.objs.size ≤ S) (hk : ∀ b o, s.heap.get? b = some o → h'.get? b = some o)
    (rx : Vals xs us) (ry : Vals ys ws) (hn : as.length ≤ sizeLine) (hS : h'.get? S = some (lstO acc c)) (hG : Out us.toArray ws.toArray S h' as) (hacc : acc.toList = as.map Value.ref) : Inv X pins σ (zipH H S as xs ys) { s with heap := h', toks := tk } := by
  have hSn : S ∉ as := fun z => Nat.lt_irrefl _ (hG.above _ z)
  have low : ∀ b, b < s.heap.objs.size → zipH H S as xs ys b = H b := fun b hb => by
    unfold zipH
    rw [if_neg (Nat.ne_of_lt (Nat.lt_of_lt_of_le hb hSz)), idx_mem fun z => absurd (Nat.lt_trans (Nat.lt_of_lt_of_le hb hSz) (hG.above _ z)) (Nat.lt_irrefl _)]
  have kp : ∀ b u, H b = some u → zipH H S as xs ys b = some u := fun b u e => by
    rw [low b (I.hok.lt e), e]
  refine I.call' (ch := []) rfl ⟨fun b o q _ _ _ => hk b o q, fun b o q _ _ _ => ⟨o.slots, hk b o q⟩, fun b o q n _ => (low b (Heap.lt_size q)).trans n, fun b o q _ => ⟨o, hk b o q⟩, fun b xs q => kp b _ q, fun b o u q => kp b _ q, fun b ps q => ⟨#[], by rw [kp b _ q]; simp⟩⟩ (fun b u q => ?_) I.bare fun b z => by simp at z
  by_cases hb : b = S
  · subst hb
    have e : zipH H b as xs ys b = some (.lst (as.map V.ref)) := if_pos rfl
    rw [e] at q
    cases q
    refine ⟨by rw [List.length_map]; exact hn, acc.toList, c, by rw [hacc]; exact vals_ref as, ?_⟩
    rw [Array.toArray_toList]
    exact hS
  · cases hj : as.idxOf? b with
    | some j =>
      have e : zipH H S as xs ys b = some (.tup [xs.getD j .non, ys.getD j .non]) := by
        unfold zipH
        rw [if_neg hb, hj]
      rw [e] at q
      cases q
      obtain ⟨x, y, f1, f2, f3⟩ := hG.pair j b (idx_some hj)
      have g1 : us[j]? = some x := by simpa using f1
      have g2 : ws[j]? = some y := by simpa using f2
      have k1 : ∃ v, xs[j]? = some v ∧ RelV v x := by
        cases z : xs[j]? with
        | none => rw [rx.none_of z] at g1; cases g1
        | some v => obtain ⟨u, e1, e2⟩ := rx.get z; rw [g1] at e1; cases e1; exact ⟨v, rfl, e2⟩
      have k2 : ∃ v, ys[j]? = some v ∧ RelV v y := by
        cases z : ys[j]? with
        | none => rw [ry.none_of z] at g2; cases g2
        | some v => obtain ⟨u, e1, e2⟩ := ry.get z; rw [g2] at e1; cases e1; exact ⟨v, rfl, e2⟩
      obtain ⟨v1, m1, m2⟩ := k1
      obtain ⟨v2, n1, n2⟩ := k2
      rw [List.getD_eq_getElem?_getD, List.getD_eq_getElem?_getD, m1, n1]
      exact ⟨by show 2 ≤ sizeLine; decide, [x, y], .cons m2 (.cons n2 .nil), ⟨_, f3, rfl, _, rfl⟩⟩
    | none =>
      have e : zipH H S as xs ys b = H b := by
        unfold zipH
        rw [if_neg hb, hj]
      rw [e] at q
      exact (I.hok b u q).stay (fun d v _ y => hk d v y) (fun d y => kp d _ y) fun d xs y => kp d _ y
/-- list(zip(t, u)) -/
theorem pe_listZip (hc : X.calm = true) (hg : Gl X "list") (hm : X.mg "list" = none) (hg2 : Gl X "zip") (hm2 : X.mg "zip" = none) (ha : PA X [e, e2] ta)
    (hs1 : starEach [.Call (.Name "zip" p2) [e, e2] [] pos2] X.env = (false, eval (.Call (.Name "zip" p2) [e, e2] [] pos2) X.env) :: starEach [] X.env := by rfl)
    (hs : starEach [e, e2] X.env = (false, eval e X.env) :: starEach [e2] X.env := by rfl) (hpl : (backTo pos2 (starEach [e2] X.env)).any (·.1) = false := by rfl) :
    PE X (.Call (.Name "list" p) [.Call (.Name "zip" p2) [e, e2] [] pos2] [] pos) (tListZip X.K ta) := by
  refine ⟨fun pins s σ H Q I h => ?_⟩
  refine wpAny_Call_Name_kw (ld_blt I hg hm (by decide +kernel : bootBuiltins "list" = some (.type "list")) ?_)
  refine PyProof.Rows.callWith_type1 ?_ hs1 rfl
  rw [hs1]
  show wpAny _ _ (spliced ((false, eval (.Call (.Name "zip" p2) [e, e2] [] pos2) X.env) :: backTo pos (starEach [] X.env))) _ _ s
  refine Calls.spliced_cons ?_
  refine Call_ (ld_blt I hg2 hm2 PyProof.Rows.boot_zip (PyProof.Rows.callWith_type1 (thn (ha.run pos2 pins s σ H _ I h) fun us s1 ⟨vs, H1, I1, r1, q1⟩ => ?_) hs hpl))
  obtain ⟨a, b, xs, ys, ex, hx, hy, hl, q⟩ := q1
  subst ex
  cases r1 with
  | cons r rr =>
    cases rr with
    | cons r' rr =>
      cases rr
      cases r
      cases r'
      obtain ⟨its, rv, p1, hz1⟩ := I1.tuple hx
      obtain ⟨its2, rv2, p2, hz2⟩ := I1.tuple hy
      obtain ⟨o1, ho1, _⟩ := id p1
      obtain ⟨o2, ho2, _⟩ := id p2
      have la := Heap.lt_size ho1
      have lb := Heap.lt_size ho2
      have e1 := rv.length
      have e2 := rv2.length
      refine RZ.call_zipT (show s1.heap.IsTuple a its.toArray from p1) (show s1.heap.IsTuple b its2.toArray from p2) fun h' hz hTI hTO h1 h2 hsz hk => ?_
      refine Calls.spliced_nil ?_
      have t1 : h'.IsTuple a its.toArray := by obtain ⟨o, ho, z⟩ := p1; exact ⟨o, hk _ _ ho, z⟩
      have t2 : h'.IsTuple b its2.toArray := by obtain ⟨o, ho, z⟩ := p2; exact ⟨o, hk _ _ ho, z⟩
      have D := PySem.W.ktu_apart s1.heap.objs.size a b la lb
      have lt5 : ∀ j, j < 5 → s1.heap.objs.size + j < h'.objs.size := fun j hj => by rw [hsz]; exact Nat.add_lt_add_left hj _
      refine z_call (s := { s1 with heap := h' }) (xs := its.toArray) (ys := its2.toArray) (I1.ok.hd hc) D ⟨lt5 4 (by decide), lt5 0 (by decide), lt5 1 (by decide), lt5 2 (by decide), lt5 3 (by decide), ?_, ?_⟩ (by rw [List.size_toArray]; omega) (by rw [List.size_toArray, List.size_toArray]; omega)
        ⟨Or.inl ⟨hz, _, _, hTO⟩, hTI, h1, h2⟩ t1 t2 (fun h2' tk acc c as hk2 hS hal hG hacc => ?_)
      · show a < h'.objs.size
        rw [hsz]; exact Nat.lt_of_lt_of_le la (Nat.le_add_right _ _)
      · show b < h'.objs.size
        rw [hsz]; exact Nat.lt_of_lt_of_le lb (Nat.le_add_right _ _)
      · have n5 : ∀ b o, s1.heap.get? b = some o → ∀ j, b ≠ s1.heap.objs.size + j := fun b o e j => Nat.ne_of_lt (Nat.lt_of_lt_of_le (Heap.lt_size e) (Nat.le_add_right _ _))
        have hk3 : ∀ b o, s1.heap.get? b = some o → h2'.get? b = some o := fun b o e => hk2 b o (n5 b o e 4) (n5 b o e 3) (n5 b o e 0) (n5 b o e 1) (hk b o e)
        have hle : s1.heap.objs.size ≤ h'.objs.size := by rw [hsz]; exact Nat.le_add_right _ _
        have hal' : as.length = xs.length := by rw [hal, List.size_toArray]; exact e1.symm
        have J := zip_laid (tk := tk) (S := h'.objs.size) I1 hle hk3 rv rv2 (by omega) hS hG hacc
        refine ⟨.ref h'.objs.size, _, J, rfl, q _ _ as (fun c o z => ?_) (I1.hok.fresh hle) (if_pos rfl) hal' fun j t ht => ?_⟩
        · have hb := I1.hok.lt z
          unfold zipH
          rw [if_neg (Nat.ne_of_lt (Nat.lt_of_lt_of_le hb hle)), idx_mem fun zz => absurd (Nat.lt_trans (Nat.lt_of_lt_of_le hb hle) (hG.above _ zz)) (Nat.lt_irrefl _)]
          exact z
        · have hab := hG.above t (List.mem_of_getElem? ht)
          have hj : j < xs.length := by rw [← hal']; exact (List.getElem?_eq_some_iff.mp ht).1
          have hj2 : j < ys.length := by omega
          refine ⟨I1.hok.fresh (Nat.le_of_lt (Nat.lt_of_le_of_lt hle hab)), xs[j], ys[j], List.getElem?_eq_getElem hj, List.getElem?_eq_getElem hj2, ?_⟩
          have nd : as.Nodup := List.Pairwise.imp (fun {a b} (h : a < b) => Nat.ne_of_lt h) hG.rise
          cases hi : as.idxOf? t with
          | none => exact absurd (List.mem_of_getElem? ht) (idx_none hi)
          | some i =>
            have hi' := idx_some hi
            have : i = j := nd_ix nd hi' ht
            subst this
            unfold zipH
            rw [if_neg (Nat.ne_of_gt hab), hi]
            show some (HO.tup [xs.getD i .non, ys.getD i .non]) = _
            rw [List.getD_eq_getElem?_getD, List.getD_eq_getElem?_getD, List.getElem?_eq_getElem hj, List.getElem?_eq_getElem hj2]
            rfl
end
end K51
set_option maxRecDepth 100000
set_option maxHeartbeats 4000000
/-! a dict comprehension that is stored at a name; one over a range -/
namespace K51
open PySem L2
section
variable {X : Cx}
theorem swap_dict {kx vx : Expr} {gens : List Comprehension} {sc : Scope} {p1 p2 : Pos} {nm : Str} {ln : Nat} {en : Env} (fk : en.scope.kind = .function) (fl : en.scope.names.lookup nm = some .local) (same : (p2.line == p1.line) = true)
    (none : (sc.names.any fun (n, k) => n == nm && (k == .local || k == .cell)) = false) : swapsWith (.DictComp kx vx gens sc p1) (some (.Name nm p2)) ln en = pure true := by
  have k1 : en.kindOf nm = some .local := fl
  have k2 : en.blockKind = .function := by
    unfold Env.blockKind
    rw [fk]; rfl
  unfold swapsWith
  simp only [k2, k1, none, Expr.pos, same]
  rfl
theorem ps_setDc {i : Nat} {nm : Str} {p2 : Pos} {kx vx tg it : Expr} {cs : List Expr} {sc : Scope} {own : List (Str × Nat)} {p1 p3 : Pos} {wi : TI} {g : TG} {tt : TT} {tk tv : TE} (calm : X.calm = true) (nd : X.N.Nodup) (slot : X.N[i]? = some nm) (loc : X.env.scope.names.lookup nm = some .local)
    (sw : swapsWith (.DictComp kx vx [⟨tg, it, cs, 0⟩] sc p1) (some (.Name nm p2)) p3.line X.env = pure true) (pit : PI X tg it wi) (blk : BlkOk X.N X.env.scope sc own)
    (ptg : ∀ (s : Shared) (H : Hp) (C : Addr) (cl : List (Str × Addr)) (fp : List Addr), PG (X.blk s H sc (compEnvC sc cl C X.env) fp) tg g) (pcs : ∀ (s : Shared) (H : Hp) (C : Addr) (cl : List (Str × Addr)) (fp : List Addr), PTs (X.blk s H sc (compEnvC sc cl C X.env) fp) cs tt)
    (pk : ∀ (s : Shared) (H : Hp) (C : Addr) (cl : List (Str × Addr)) (fp : List Addr), PE (X.blk s H sc (compEnvC sc cl C X.env) fp) kx tk) (pv : ∀ (s : Shared) (H : Hp) (C : Addr) (cl : List (Str × Addr)) (fp : List Addr), PE (X.blk s H sc (compEnvC sc cl C X.env) fp) vx tv)
    (fold : ∀ x, foldedSetIterable it X.env x = pure x := by intro _; rfl) : PS X (.Assign [.Name nm p2] (.DictComp kx vx [⟨tg, it, cs, 0⟩] sc p1) p3) (tAsg (tDc wi g tt tk tv (own.map (·.2))) (gName i)) := by
  refine ⟨fun pins s0 σ H0 D I0 hq => ?_⟩
  rw [exec_Assign_Name_used _ _ _ _ sw]
  refine wpAny_bind (wpAny_standAt (wpAny_bind ?_))
  show wpAny _ X.A (do let _ ← comprehension (.DictComp kx vx [⟨tg, it, cs, 0⟩] sc p1) sc X.env (firstIterPos [⟨tg, it, cs, 0⟩] p1) newDict false (eval it X.env) (some (assign (.Name nm p2) X.env))) _ _ s0
  have hq : tDc wi g tt tk tv (own.map (·.2)) σ H0 (fun x H1 => gName i x σ H1 D.nx) := hq
  refine wpAny_bind (thn (dc_core (Qf := fun _ z => SP X pins D .next z) calm nd I0 pit blk ptg pcs pk pv fold hq fun L C z m HH J q hns fpk => ?_) fun _ z hz => wpAny_pure (wpAny_pure hz))
  show wpAny _ _ (assign (.Name nm p2) X.env (.ref L)) _ _ _
  refine wpAny_assign_Name (store_ok2 (v := V.ref L) J nd slot (.inl loc) rfl (fun z2 J2 ⟨a, sb, ha⟩ => ?_) (.inr loc))
  obtain ⟨y0, y1, y2, y3, y4, y5⟩ := fpk
  have nCa : C ≠ a := by
    rcases ha with e | e
    · rw [e]; exact y1
    · intro e'
      exact y4 nm a e e'.symm
  refine ⟨m, hns.sameBut sb nCa, fun h3 sb3 => ⟨_, HH, ?_, q⟩⟩
  exact J2.turned (t' := z2.toks) (fun b o hb e => (sb3.2 b hb).trans e) y0 y1 y3 y4 y5
end
/-- a dict comprehension over range(a, b) -/
theorem dict_range {lo : Int} {n : Nat} {g : TG} {tt : TT} {tk tv : TE} {vs : List Nat} {σ : L2.St} {H1 : Hp} {D : Addr} {Qd : Hp → Prop} (R : Nat → Hp → Prop) (start : R 0 (upd H1 D (.dK [])))
    (turn : ∀ i H, i < n → R i H → g (.int (lo + i)) (wipe σ vs) H fun σ2 H2 => wipe σ2 vs = wipe σ vs ∧ tt σ2 H2 fun b H3 =>
      if b = true then tk σ2 H3 fun y H4 => tv σ2 H4 fun z H5 => ∃ kvs k, y = kV k ∧ H5 D = some (.dK kvs) ∧ kvs.length < sizeLine ∧ R (i + 1) (upd H5 D (.dK (putK kvs k z))) else R (i + 1) H3) (last : ∀ H, R n H → Qd H) :
    ∃ W : Nat → Nat → Hp → Prop, (∃ m, W 0 m (upd H1 D (.dK []))) ∧ ∀ j m H, W j m H →
      ((Itr lo n).stop j H ∧ Qd H) ∨ ((Itr lo n).go j H ∧ ∃ Nx : Hp → Prop, (∀ G, Nx G → ∃ m', m' < m ∧ W (j + 1) m' G) ∧ ∀ x G, (Itr lo n).yld j H x G → g x (wipe σ vs) G fun σ2 H2 => wipe σ2 vs = wipe σ vs ∧ tt σ2 H2 fun b H3 =>
        if b = true then tk σ2 H3 fun y H4 => tv σ2 H4 fun z H5 => ∃ kvs k, y = kV k ∧ H5 D = some (.dK kvs) ∧ kvs.length < sizeLine ∧ Nx (upd H5 D (.dK (putK kvs k z))) else Nx H3) := by
  refine ⟨fun j m H => j ≤ n ∧ m = n - j ∧ R j H, ⟨n, Nat.zero_le _, by simp, start⟩, ?_⟩
  rintro j m H ⟨hj, rfl, r⟩
  by_cases below : j < n
  · refine .inr ⟨below, R (j + 1), fun G rG => ⟨n - (j + 1), by omega, below, rfl, rG⟩, fun x G y => ?_⟩
    obtain ⟨ex, eG⟩ := y
    subst ex eG
    exact turn j _ below r
  · have e : j = n := by omega
    subst e
    exact .inl ⟨Nat.le_refl _, last H r⟩
end K51
set_option maxHeartbeats 4000000
/-! the mathematics: core Lean alone -/
namespace K51
/-! ## plain state -/
structure St where
  home : Nat → Nat → Int
  counts : Nat → Int
section
variable (B : Nat)
def blk (p : Int) : Option Nat := if 1 ≤ p ∧ p ≤ (B : Int) then some (p - 1).toNat else none
def go (S : St) (o : Option Nat) (r : List Nat) : Option Nat := r.foldl (fun o j => o.bind fun b => blk B (S.home (6 + b) j)) o
def reach (S : St) (g : Nat) : List Nat → Option Nat
  | [] => none
  | i :: r => go B S (blk B (S.home (4 + g) i)) r
end
def ok : List Nat → Bool
  | [i] => decide (3 ≤ i ∧ i ≤ 7)
  | [i, j] => decide ((i = 6 ∨ i = 7) ∧ j < 8)
  | [i, j, k] => decide (i = 7 ∧ j < 8 ∧ k < 8)
  | _ => false
/-- the paths below a pointer of a level -/
def sub : Nat → List (List Nat)
  | 0 => [[]]
  | l + 1 => [] :: (List.range 8).flatMap fun i => (sub l).map (i :: ·)
def paths : List (List Nat) := [(3, 0), (4, 0), (5, 0), (6, 1), (7, 2)].flatMap fun p => (sub p.2).map (p.1 :: ·)
/-- the level of the pointer at a path -/
def lev : List Nat → Nat
  | [i] => if i = 6 then 1 else if i = 7 then 2 else 0
  | [i, _] => if i = 7 then 1 else 0
  | _ => 0
def spot (k : Nat) : List Nat := if k < 3 then [3 + k] else if k < 11 then [6, k - 3] else [7, (k - 11) / 8, (k - 11) % 8]

theorem blk_lt {B : Nat} {p : Int} {b : Nat} (h : blk B p = some b) : b < B ∧ p = (b : Int) + 1 := by
  unfold blk at h
  split at h
  · have := Option.some.inj h; omega
  · cases h
theorem blk_mk {B b : Nat} (h : b < B) : blk B ((b : Int) + 1) = some b := by
  unfold blk
  rw [if_pos (by omega)]
  congr 1; omega
theorem blk_zero {B : Nat} : blk B 0 = none := by
  unfold blk
  rw [if_neg (by omega)]
theorem paths_nodup : paths.Nodup := by decide +kernel
theorem paths_ok : ∀ π ∈ paths, ok π = true := by decide +kernel
theorem ok_ne {π : List Nat} (h : ok π = true) : π ≠ [] := by
  intro e; subst e; cases h
theorem ok_mem {π : List Nat} (h : ok π = true) : π ∈ paths := by
  have h3 : ∀ i, i < 8 → 3 ≤ i → [i] ∈ paths := by decide +kernel
  have h6 : ∀ j, j < 8 → [6, j] ∈ paths := by decide +kernel
  have h7 : ∀ j, j < 8 → [7, j] ∈ paths := by decide +kernel
  have h8 : ∀ j, j < 8 → ∀ k, k < 8 → [7, j, k] ∈ paths := by decide +kernel
  match π, h with
  | [i], h =>
    have := of_decide_eq_true h
    exact h3 i (by omega) this.1
  | [i, j], h =>
    have := of_decide_eq_true h
    rcases this with ⟨rfl | rfl, hj⟩
    · exact h6 j hj
    · exact h7 j hj
  | [i, j, k], h =>
    have := of_decide_eq_true h
    obtain ⟨rfl, hj, hk⟩ := this
    exact h8 j hj k hk
theorem mem_ok {π : List Nat} : π ∈ paths ↔ ok π = true := ⟨paths_ok π, ok_mem⟩
theorem spot_ok {k : Nat} (h : k < 75) : ok (spot k) = true := by
  unfold spot
  split
  · simp [ok]; omega
  · split
    · simp [ok]; omega
    · simp [ok]; omega
theorem spot_inj {k l : Nat} (h : spot k = spot l) : k = l := by
  unfold spot at h
  split at h <;> split at h <;> (try split at h) <;> (try split at h) <;> simp at h <;> omega
/-- a prefix of a path is one -/
theorem ok_pre {ρ τ : List Nat} (h : ok (ρ ++ τ) = true) (n : ρ ≠ []) : ok ρ = true := by
  have h0 : ∀ π ∈ paths, ∀ m, m < 4 → π.take m ≠ [] → ok (π.take m) = true := by decide +kernel
  by_cases hl : ρ.length < 4
  · have e := h0 _ (ok_mem h) ρ.length hl
    rw [List.take_left] at e
    exact e n
  · have hl3 : ∀ π ∈ paths, π.length ≤ 3 := by decide +kernel
    have := hl3 _ (ok_mem h)
    rw [List.length_append] at this
    omega
theorem ok_len {π : List Nat} (h : ok π = true) : π.length ≤ 3 := by
  have hl3 : ∀ π ∈ paths, π.length ≤ 3 := by decide +kernel
  exact hl3 _ (ok_mem h)
/-- a part's path has no path behind it -/
theorem spot_leaf {k : Nat} {τ : List Nat} (h : ok (spot k ++ τ) = true) (hk : k < 75) : τ = [] := by
  have h0 : ∀ k, k < 75 → ∀ π ∈ paths, (spot k).isPrefixOf π = true → π = spot k := by decide +kernel
  have e := h0 k hk _ (ok_mem h) (by simp)
  have := congrArg List.length e
  rw [List.length_append] at this
  exact List.eq_nil_of_length_eq_zero (by omega)

section
variable {B : Nat}
theorem go_none {S : St} : ∀ r, go B S none r = none
  | [] => rfl
  | _ :: r => go_none (S := S) r
theorem go_snoc {S : St} {o : Option Nat} {r : List Nat} {j : Nat} : go B S o (r ++ [j]) = (go B S o r).bind fun b => blk B (S.home (6 + b) j) := by
  unfold go
  rw [List.foldl_append]; rfl
theorem go_app {S : St} {o : Option Nat} {r t : List Nat} : go B S o (r ++ t) = go B S (go B S o r) t := by
  unfold go
  rw [List.foldl_append]
theorem reach_one {S : St} {g i : Nat} : reach B S g [i] = blk B (S.home (4 + g) i) := rfl
theorem reach_app {S : St} {g : Nat} {ρ τ : List Nat} (n : ρ ≠ []) : reach B S g (ρ ++ τ) = go B S (reach B S g ρ) τ := by
  cases ρ with
  | nil => exact absurd rfl n
  | cons i r => show go B S _ (r ++ τ) = _; rw [go_app]; rfl
theorem reach_snoc {S : St} {g : Nat} {ρ : List Nat} {j : Nat} (n : ρ ≠ []) : reach B S g (ρ ++ [j]) = (reach B S g ρ).bind fun b => blk B (S.home (6 + b) j) := by
  rw [reach_app n]; rfl
theorem reach_lt {S : St} {g : Nat} {π : List Nat} {b : Nat} (h : reach B S g π = some b) : b < B := by
  rcases List.eq_nil_or_concat π with e | ⟨ρ, j, e⟩
  · subst e; cases h
  · subst e
    by_cases n : ρ = []
    · subst n
      exact (blk_lt h).1
    · rw [List.concat_eq_append, reach_snoc n] at h
      cases q : reach B S g ρ with
      | none => rw [q] at h; cases h
      | some c => rw [q] at h; exact (blk_lt h).1
/-- a path ahead of one that leads to a block leads to a block -/
theorem reach_pre {S : St} {g : Nat} {ρ τ : List Nat} (n : ρ ≠ []) (h : reach B S g ρ = none) : reach B S g (ρ ++ τ) = none := by
  rw [reach_app n, h, go_none]
/-- a path sees only what stands on its way -/
theorem reach_frame {S S' : St} {g : Nat} : ∀ (n : Nat) (π : List Nat), π.length = n → (∀ i r, π = i :: r → S'.home (4 + g) i = S.home (4 + g) i) →
    (∀ ρ j τ b, ρ ≠ [] → π = ρ ++ j :: τ → reach B S g ρ = some b → S'.home (6 + b) j = S.home (6 + b) j) → reach B S' g π = reach B S g π := by
  intro n
  induction n with
  | zero =>
    intro π hl _ _
    have : π = [] := List.eq_nil_of_length_eq_zero hl
    subst this; rfl
  | succ n ih =>
    intro π hl h0 h1
    rcases List.eq_nil_or_concat π with e | ⟨ρ, j, e⟩
    · subst e; rfl
    · rw [List.concat_eq_append] at e
      subst e
      by_cases hn : ρ = []
      · subst hn
        show blk B (S'.home (4 + g) j) = blk B (S.home (4 + g) j)
        rw [h0 j [] rfl]
      · have e1 : reach B S' g ρ = reach B S g ρ := by
          refine ih ρ (by rw [List.length_append] at hl; simpa using hl) (fun i r e => h0 i (r ++ [j]) (by rw [e]; rfl)) (fun ρ' j' τ b hn' e hb => h1 ρ' j' (τ ++ [j]) b hn' (by rw [e]; simp) hb)
        rw [reach_snoc hn, reach_snoc hn, e1]
        cases q : reach B S g ρ with
        | none => rfl
        | some b =>
          show blk B (S'.home (6 + b) j) = blk B (S.home (6 + b) j)
          rw [h1 ρ j [] b hn rfl q]

/-! ## counting -/
def cnt (B : Nat) (S : St) (g b : Nat) : Nat := paths.countP fun π => reach B S g π == some b
def Inv (B : Nat) (S : St) : Prop := ∀ b, b < B → S.counts b = ((cnt B S 0 b + cnt B S 1 b : Nat) : Int)

theorem countP_one {α : Type} {p : α → Bool} : ∀ {l : List α}, l.Nodup → l.countP p ≤ 1 → ∀ {x y}, x ∈ l → y ∈ l → p x = true → p y = true → x = y
  | [], _, _, _, _, hx, _, _, _ => nomatch hx
  | a :: l, hn, h, x, y, hx, hy, px, py => by
    obtain ⟨h1, h2⟩ := List.nodup_cons.mp hn
    rw [List.countP_cons] at h
    rcases List.mem_cons.mp hx with ex | hx' <;> rcases List.mem_cons.mp hy with ey | hy'
    · rw [ex, ey]
    · subst ex
      rw [if_pos px] at h
      have : 0 < l.countP p := List.countP_pos_iff.mpr ⟨y, hy', py⟩
      omega
    · subst ey
      rw [if_pos py] at h
      have : 0 < l.countP p := List.countP_pos_iff.mpr ⟨x, hx', px⟩
      omega
    · refine countP_one h2 (by omega) hx' hy' px py
theorem countP_but {α : Type} {p q : α → Bool} {x : α} : ∀ {l : List α}, l.Nodup → x ∈ l → (∀ y ∈ l, y ≠ x → q y = p y) → l.countP q + (if p x then 1 else 0) = l.countP p + (if q x then 1 else 0)
  | [], _, hx, _ => nomatch hx
  | a :: l, hn, hx, h => by
    obtain ⟨h1, h2⟩ := List.nodup_cons.mp hn
    rw [List.countP_cons, List.countP_cons]
    by_cases e : a = x
    · subst e
      have : l.countP q = l.countP p := by
        refine List.countP_congr fun y hy => ?_
        rw [h y (List.mem_cons_of_mem _ hy) fun e => h1 (e ▸ hy)]
      omega
    · have hx' : x ∈ l := (List.mem_cons.mp hx).resolve_left fun z => e z.symm
      have ih := countP_but h2 hx' fun y hy => h y (List.mem_cons_of_mem _ hy)
      rw [h a (List.mem_cons_self) e]
      omega
theorem cnt_pos {S : St} {g b : Nat} {π : List Nat} (k : ok π = true) (h : reach B S g π = some b) : 0 < cnt B S g b :=
  List.countP_pos_iff.mpr ⟨π, ok_mem k, by simp [h]⟩
theorem cnt_none {S : St} {g b : Nat} (h : ∀ π, ok π = true → reach B S g π ≠ some b) : cnt B S g b = 0 := by
  refine List.countP_eq_zero.mpr fun π hp => ?_
  simpa using h π (paths_ok π hp)
/-- a count of 1: one path alone -/
theorem Inv.one {S : St} (I : Inv B S) {f g b : Nat} {π ρ : List Nat} (hf : f < 2) (hg : g < 2) (k : ok π = true) (k' : ok ρ = true) (h : reach B S f π = some b) (h' : reach B S g ρ = some b) (h1 : S.counts b = 1) : f = g ∧ π = ρ := by
  have e := I b (reach_lt h)
  rw [h1] at e
  have p1 := cnt_pos k h
  have p2 := cnt_pos k' h'
  have e0 : cnt B S 0 b + cnt B S 1 b = 1 := by omega
  have hfg : f = g := by
    have f2 : f = 0 ∨ f = 1 := by omega
    have g2 : g = 0 ∨ g = 1 := by omega
    rcases f2 with rfl | rfl <;> rcases g2 with rfl | rfl <;> first | rfl | omega
  subst hfg
  have : cnt B S f b ≤ 1 := by
    have f2 : f = 0 ∨ f = 1 := by omega
    rcases f2 with rfl | rfl <;> omega
  exact ⟨rfl, countP_one paths_nodup this (ok_mem k) (ok_mem k') (by simp [h]) (by simp [h'])⟩
/-- a count of 0: no path -/
theorem Inv.zero {S : St} (I : Inv B S) {g b : Nat} {π : List Nat} (hg : g < 2) (k : ok π = true) (h1 : S.counts b = 0) : reach B S g π ≠ some b := by
  intro h
  have e := I b (reach_lt h)
  have p1 := cnt_pos k h
  have g2 : g = 0 ∨ g = 1 := by omega
  rcases g2 with rfl | rfl <;> omega
theorem Inv.pos {S : St} (I : Inv B S) {g b : Nat} {π : List Nat} (hg : g < 2) (k : ok π = true) (h : reach B S g π = some b) : 1 ≤ S.counts b := by
  have e := I b (reach_lt h)
  have p1 := cnt_pos k h
  have g2 : g = 0 ∨ g = 1 := by omega
  rcases g2 with rfl | rfl <;> omega
end
end K51

namespace K51
def St.put (S : St) (q : Nat) (x : Nat → Int) : St := { S with home := fun r => if r = q then x else S.home r }
def St.putc (S : St) (q j : Nat) (v : Int) : St := { S with home := fun r i => if r = q ∧ i = j then v else S.home r i }
def St.setc (S : St) (b : Nat) (v : Int) : St := { S with counts := fun c => if c = b then v else S.counts c }
/-- nothing lies from part 55 on -/
def Lim (B : Nat) (S : St) : Prop := ∀ g, g < 2 → ∀ k, 55 ≤ k → k < 75 → reach B S g (spot k) = none
section
variable {B : Nat}
theorem nodup_le {α : Type} [DecidableEq α] : ∀ {l m : List α}, l.Nodup → (∀ x ∈ l, x ∈ m) → l.length ≤ m.length
  | [], _, _, _ => Nat.zero_le _
  | a :: l, m, hn, h => by
    obtain ⟨h1, h2⟩ := List.nodup_cons.mp hn
    have hm : a ∈ m := h a List.mem_cons_self
    have ih := nodup_le (l := l) (m := m.erase a) h2 fun x hx => (List.mem_erase_of_ne fun e => h1 (by rw [← e]; exact hx)).mpr (h x (List.mem_cons_of_mem _ hx))
    rw [List.length_erase_of_mem hm] at ih
    have : 0 < m.length := List.length_pos_of_mem hm
    rw [List.length_cons]; omega
theorem met_few {S : St} (L : Lim B S) {g : Nat} (hg : g < 2) : (paths.filterMap (reach B S g)).length ≤ 65 := by
  have h65 : paths.countP (fun π => !((List.range' 55 20).map spot).contains π) = 65 := by decide +kernel
  rw [← h65, List.length_filterMap_eq_countP]
  refine List.countP_mono_left fun π hp h => ?_
  cases q : ((List.range' 55 20).map spot).contains π with
  | false => rfl
  | true =>
    exfalso
    obtain ⟨k, hk, e⟩ := List.mem_map.mp (List.contains_iff_mem.mp q)
    obtain ⟨h1, h2⟩ := List.mem_range'_1.mp hk
    rw [← e, L g hg k h1 (by omega)] at h
    cases h
theorem free_some {S : St} (I : Inv B S) (L : Lim B S) (hB : 131 ≤ B) : ∃ n, n < B ∧ S.counts n = 0 := by
  refine Classical.byContradiction fun h => ?_
  have h' : ∀ n, n < B → S.counts n ≠ 0 := fun n hn e => h ⟨n, hn, e⟩
  have hs : ∀ x ∈ List.range B, x ∈ paths.filterMap (reach B S 0) ++ paths.filterMap (reach B S 1) := by
    intro n hn
    have hn := List.mem_range.mp hn
    have e := I n hn
    have := h' n hn
    have : 0 < cnt B S 0 n ∨ 0 < cnt B S 1 n := by omega
    rcases this with z | z
    · obtain ⟨π, hp, e⟩ := List.countP_pos_iff.mp z
      exact List.mem_append_left _ (List.mem_filterMap.mpr ⟨π, hp, by simpa using e⟩)
    · obtain ⟨π, hp, e⟩ := List.countP_pos_iff.mp z
      exact List.mem_append_right _ (List.mem_filterMap.mpr ⟨π, hp, by simpa using e⟩)
  have := nodup_le List.nodup_range hs
  rw [List.length_append, List.length_range] at this
  have a := met_few L (g := 0) (by omega)
  have b := met_few L (g := 1) (by omega)
  omega

/-! ## what stands in the parts -/
def cell (B : Nat) (S : St) (g k i : Nat) : Int := match reach B S g (spot k) with
  | none => 0
  | some b => S.home (6 + b) i
theorem cell_none {S : St} {g k i : Nat} (h : reach B S g (spot k) = none) : cell B S g k i = 0 := by unfold cell; rw [h]
theorem cell_some {S : St} {g k i b : Nat} (h : reach B S g (spot k) = some b) : cell B S g k i = S.home (6 + b) i := by unfold cell; rw [h]

/-- the plate at which the slot behind a path stands: the file's own, or that of a block that nothing else leads to -/
def At (B : Nat) (S : St) (f : Nat) (ρ : List Nat) (q : Nat) : Prop := (ρ = [] ∧ q = 4 + f) ∨ ∃ c, ρ ≠ [] ∧ reach B S f ρ = some c ∧ S.counts c = 1 ∧ q = 6 + c
theorem At.ptr {S : St} {f q j : Nat} {ρ : List Nat} (h : At B S f ρ q) : reach B S f (ρ ++ [j]) = blk B (S.home q j) := by
  rcases h with ⟨rfl, rfl⟩ | ⟨c, n, e, _, rfl⟩
  · rfl
  · rw [reach_snoc n, e]; rfl
/-- a place of an own plate is changed: the paths that don't go over it stand -/
theorem At.other {S : St} (I : Inv B S) {f q j g : Nat} {ρ π : List Nat} (hf : f < 2) (hg : g < 2) (ha : At B S f ρ q) (kρ : ok (ρ ++ [j]) = true) (kπ : ok π = true) (v : Int) (n : ¬ (g = f ∧ ∃ τ, π = ρ ++ j :: τ)) :
    reach B (S.putc q j v) g π = reach B S g π := by
  refine reach_frame _ π rfl (fun i r e => ?_) (fun ρ' j' τ b hn e hb => ?_)
  · show (if 4 + g = q ∧ i = j then v else S.home (4 + g) i) = _
    refine if_neg fun z => ?_
    rcases ha with ⟨rfl, rfl⟩ | ⟨c, nn, _, _, rfl⟩
    · exact n ⟨by omega, r, by rw [e, z.2]; rfl⟩
    · omega
  · show (if 6 + b = q ∧ j' = j then v else S.home (6 + b) j') = _
    refine if_neg fun z => ?_
    rcases ha with ⟨rfl, rfl⟩ | ⟨c, nn, hc, h1, rfl⟩
    · omega
    · have : b = c := by omega
      subst this
      have kρ' : ok ρ' = true := ok_pre (by rw [← e]; exact kπ) hn
      have kk : ok ρ = true := ok_pre kρ nn
      obtain ⟨e1, e2⟩ := I.one hg hf kρ' kk hb hc h1
      exact n ⟨e1, τ, by rw [e, e2, z.2]⟩
end
end K51

namespace K51
theorem ok_left {ρ : List Nat} {j : Nat} {τ : List Nat} (h : ok (ρ ++ j :: τ) = true) : ok (ρ ++ [j]) = true := by
  have e : ρ ++ j :: τ = (ρ ++ [j]) ++ τ := by simp
  rw [e] at h
  exact ok_pre h (by simp)
section
variable {B : Nat}
/-- the eight numbers behind a pointer, 0s for a hole -/
def copyOf (B : Nat) (S : St) (p : Int) : Nat → Int := fun i => match blk B p with
  | none => 0
  | some b => S.home (6 + b) i
/-- what own makes of a draft where it takes a block -/
def takeS (B : Nat) (S : St) (p : Int) (n : Nat) : St :=
  { home := fun r i => if r = 6 + n then copyOf B S p i else S.home r i
    counts := fun c => if blk B p = some c then S.counts c - 1 else if c = n then 1 else S.counts c }
def ownS (B : Nat) (S : St) (q j n : Nat) : St := (takeS B S (S.home q j) n).putc q j ((n : Int) + 1)

structure Own (B : Nat) (S S' : St) (f : Nat) (π : List Nat) : Prop where
  inv : Inv B S'
  here : ∃ n, reach B S' f π = some n ∧ S'.counts n = 1
  other : ∀ g τ, g < 2 → ok τ = true → ¬ (g = f ∧ ∃ σ, π = τ ++ σ) → reach B S' g τ = reach B S g τ
  some' : ∀ τ, ok τ = true → (∃ σ, π = τ ++ σ) → reach B S' f τ ≠ none
  cells : ∀ g k i, g < 2 → k < 75 → i < 8 → cell B S' g k i = cell B S g k i
  top : ∀ g i, g < 2 → i < 3 → S'.home (4 + g) i = S.home (4 + g) i
  keep : ∀ g τ b, g < 2 → ok τ = true → reach B S g τ = some b → S.counts b = 1 → reach B S' g τ = some b ∧ S'.counts b = 1

theorem reach_some_pre {S : St} {g : Nat} {τ σ : List Nat} (n : τ ≠ []) (h : reach B S g (τ ++ σ) ≠ none) : reach B S g τ ≠ none := fun e => h (reach_pre n e)
/-- it is its own already -/
theorem Own.same {S : St} (I : Inv B S) {f b : Nat} {π : List Nat} (h : reach B S f π = some b) (h1 : S.counts b = 1) : Own B S S f π :=
  ⟨I, ⟨b, h, h1⟩, fun _ _ _ _ _ => rfl, fun τ k ⟨σ, e⟩ => reach_some_pre (ok_ne k) (σ := σ) (by rw [← e, h]; intro z; cases z), fun _ _ _ _ _ _ => rfl, fun _ _ _ _ => rfl, fun _ _ _ _ _ h h1 => ⟨h, h1⟩⟩
theorem Own.trans {S S1 S2 : St} {f j : Nat} {ρ : List Nat} (hf : f < 2) (a : Own B S S1 f ρ) (b : Own B S1 S2 f (ρ ++ [j])) : Own B S S2 f (ρ ++ [j]) := by
  refine ⟨b.inv, b.here, fun g τ hg k n => ?_, b.some', fun g k i hg hk hi => (b.cells g k i hg hk hi).trans (a.cells g k i hg hk hi), fun g i hg hi => (b.top g i hg hi).trans (a.top g i hg hi), fun g τ c hg k h h1 => ?_⟩
  · exact (b.other g τ hg k n).trans (a.other g τ hg k fun ⟨e, σ, z⟩ => n ⟨e, σ ++ [j], by rw [z, List.append_assoc]⟩)
  · obtain ⟨h2, h3⟩ := a.keep g τ c hg k h h1
    exact b.keep g τ c hg k h2 h3

section
variable {S : St} {f q j n : Nat} {ρ : List Nat} (I : Inv B S) (hf : f < 2) (ha : At B S f ρ q) (k : ok (ρ ++ [j]) = true) (hn : n < B) (h0 : S.counts n = 0)
include I hf ha k hn h0
theorem own_q : q ≠ 6 + n := by
  rcases ha with ⟨_, rfl⟩ | ⟨c, _, _, h1, rfl⟩
  · omega
  · intro e
    have : c = n := by omega
    subst this
    omega
theorem own_home {r i : Nat} : (ownS B S q j n).home r i = if r = q ∧ i = j then (n : Int) + 1 else if r = 6 + n then copyOf B S (S.home q j) i else S.home r i := rfl
theorem own_here : reach B (ownS B S q j n) f (ρ ++ [j]) = some n := by
  have hq := own_q I hf ha k hn h0
  rcases ha with ⟨rfl, rfl⟩ | ⟨c, nn, hc, h1, rfl⟩
  · show blk B ((ownS B S (4 + f) j n).home (4 + f) j) = some n
    rw [own_home I hf (Or.inl ⟨rfl, rfl⟩) k hn h0, if_pos ⟨rfl, rfl⟩, blk_mk hn]
  · have e : reach B (ownS B S (6 + c) j n) f ρ = reach B S f ρ := by
      refine reach_frame _ ρ rfl (fun i r e => ?_) (fun ρ' j' τ b hn' e hb => ?_)
      · rw [own_home I hf (Or.inr ⟨c, nn, hc, h1, rfl⟩) k hn h0, if_neg (by omega), if_neg (by omega)]
      · have kρ : ok ρ = true := ok_pre k nn
        have kρ' : ok ρ' = true := ok_pre (by rw [← e]; exact kρ) hn'
        rw [own_home I hf (Or.inr ⟨c, nn, hc, h1, rfl⟩) k hn h0, if_neg, if_neg]
        · intro z
          have : b = n := by omega
          subst this
          exact I.zero hf kρ' h0 hb
        · intro z
          have : b = c := by omega
          subst this
          have := (I.one hf hf kρ' kρ hb hc h1).2
          rw [this] at e
          have := congrArg List.length e
          simp at this
    rw [reach_snoc nn, e, hc]
    show blk B ((ownS B S (6 + c) j n).home (6 + c) j) = some n
    rw [own_home I hf (Or.inr ⟨c, nn, hc, h1, rfl⟩) k hn h0, if_pos ⟨rfl, rfl⟩, blk_mk hn]
theorem own_off {g : Nat} {τ : List Nat} (hg : g < 2) (kτ : ok τ = true) (no : ¬ (g = f ∧ ∃ r, τ = ρ ++ j :: r)) : reach B (ownS B S q j n) g τ = reach B S g τ := by
  have hq := own_q I hf ha k hn h0
  refine reach_frame _ τ rfl (fun i r e => ?_) (fun ρ' j' r b hn' e hb => ?_)
  · rw [own_home I hf ha k hn h0, if_neg, if_neg (by omega)]
    intro z
    rcases ha with ⟨rfl, rfl⟩ | ⟨c, nn, _, _, rfl⟩
    · exact no ⟨by omega, r, by rw [e, z.2]; rfl⟩
    · omega
  · have kρ' : ok ρ' = true := ok_pre (by rw [← e]; exact kτ) hn'
    rw [own_home I hf ha k hn h0, if_neg, if_neg]
    · intro z
      have : b = n := by omega
      subst this
      exact I.zero hg kρ' h0 hb
    · intro z
      rcases ha with ⟨rfl, rfl⟩ | ⟨c, nn, hc, h1, rfl⟩
      · omega
      · have : b = c := by omega
        subst this
        obtain ⟨e1, e2⟩ := I.one hg hf kρ' (ok_pre k nn) hb hc h1
        exact no ⟨e1, r, by rw [e, e2, z.2]⟩
theorem own_below : ∀ (m : Nat) (r : List Nat), r.length = m → r ≠ [] → ok (ρ ++ j :: r) = true → reach B (ownS B S q j n) f (ρ ++ j :: r) = reach B S f (ρ ++ j :: r) := by
  have hq := own_q I hf ha k hn h0
  intro m
  induction m with
  | zero => intro r hl hr; exact absurd (List.eq_nil_of_length_eq_zero hl) hr
  | succ m ih =>
    intro r hl hr kr
    rcases List.eq_nil_or_concat r with e | ⟨r', x, e⟩
    · exact absurd e hr
    · rw [List.concat_eq_append] at e
      subst e
      have e1 : ρ ++ j :: (r' ++ [x]) = (ρ ++ j :: r') ++ [x] := by simp
      have nn : ρ ++ j :: r' ≠ [] := by simp
      have k1 : ok (ρ ++ j :: r') = true := ok_pre (by rw [← e1]; exact kr) nn
      rw [e1, reach_snoc nn, reach_snoc nn]
      by_cases hr' : r' = []
      · subst hr'
        rw [own_here I hf ha k hn h0, ha.ptr]
        show blk B ((ownS B S q j n).home (6 + n) x) = _
        rw [own_home I hf ha k hn h0, if_neg (fun z => hq z.1.symm), if_pos rfl]
        unfold copyOf
        cases blk B (S.home q j) with
        | none => exact blk_zero
        | some b => rfl
      · rw [ih r' (by rw [List.length_append] at hl; simpa using hl) hr' k1]
        cases qd : reach B S f (ρ ++ j :: r') with
        | none => rfl
        | some d =>
          show blk B ((ownS B S q j n).home (6 + d) x) = blk B (S.home (6 + d) x)
          rw [own_home I hf ha k hn h0, if_neg, if_neg]
          · intro z
            have : d = n := by omega
            subst this
            exact I.zero hf k1 h0 qd
          · intro z
            rcases ha with ⟨rfl, rfl⟩ | ⟨c, nn', hc, h1, rfl⟩
            · omega
            · have : d = c := by omega
              subst this
              have := congrArg List.length (I.one hf hf k1 (ok_pre k nn') qd hc h1).2
              rw [List.length_append, List.length_cons] at this
              omega
theorem own_else {g : Nat} {τ : List Nat} (hg : g < 2) (kτ : ok τ = true) (no : ¬ (g = f ∧ τ = ρ ++ [j])) : reach B (ownS B S q j n) g τ = reach B S g τ := by
  by_cases h : g = f ∧ ∃ r, τ = ρ ++ j :: r
  · obtain ⟨rfl, r, rfl⟩ := h
    refine own_below I hf ha k hn h0 _ r rfl (fun e => no ⟨rfl, by rw [e]⟩) kτ
  · exact own_off I hf ha k hn h0 hg kτ h
theorem own_inv : Inv B (ownS B S q j n) := by
  intro b hb
  have e1 : ∀ g, g < 2 → g ≠ f → cnt B (ownS B S q j n) g b = cnt B S g b := fun g hg hgf => by
    refine List.countP_congr fun τ hτ => ?_
    rw [own_else I hf ha k hn h0 hg (paths_ok τ hτ) fun z => hgf z.1]
  have e2 := countP_but (p := fun π => reach B S f π == some b) (q := fun π => reach B (ownS B S q j n) f π == some b) (x := ρ ++ [j]) paths_nodup (ok_mem k) fun τ hτ hne => by
    rw [own_else I hf ha k hn h0 hf (paths_ok τ hτ) fun z => hne z.2]
  rw [own_here I hf ha k hn h0, ha.ptr] at e2
  have e3 := I b hb
  have e4 : (ownS B S q j n).counts b = if blk B (S.home q j) = some b then S.counts b - 1 else if b = n then 1 else S.counts b := rfl
  have hz : b = n → blk B (S.home q j) ≠ some b := by
    intro e h
    subst e
    rw [← ha.ptr] at h
    exact I.zero hf k h0 h
  have e5 : cnt B (ownS B S q j n) f b + (if blk B (S.home q j) = some b then 1 else 0) = cnt B S f b + (if b = n then 1 else 0) := by
    have a1 : (if (blk B (S.home q j) == some b) = true then 1 else 0) = if blk B (S.home q j) = some b then 1 else 0 := by
      by_cases h : blk B (S.home q j) = some b
      · simp [h]
      · rw [if_neg h, if_neg (by simpa using h)]
    have a2 : (if (some n == some b) = true then 1 else 0) = if b = n then 1 else 0 := by
      by_cases h : b = n
      · simp [h]
      · rw [if_neg h, if_neg (by simpa using fun z => h z.symm)]
    rw [a1, a2] at e2
    exact e2
  have hs : cnt B (ownS B S q j n) 0 b + cnt B (ownS B S q j n) 1 b + (if blk B (S.home q j) = some b then 1 else 0) = cnt B S 0 b + cnt B S 1 b + (if b = n then 1 else 0) := by
    have f2 : f = 0 ∨ f = 1 := by omega
    rcases f2 with rfl | rfl
    · rw [e1 1 (by omega) (by omega)]; omega
    · rw [e1 0 (by omega) (by omega)]; omega
  rw [e4]
  by_cases h : blk B (S.home q j) = some b
  · have hb' : ¬ b = n := fun e => hz e h
    rw [if_pos h] at hs ⊢
    rw [if_neg hb'] at hs
    omega
  · rw [if_neg h] at hs ⊢
    by_cases h' : b = n
    · rw [if_pos h'] at hs ⊢
      subst h'
      omega
    · rw [if_neg h'] at hs ⊢
      omega
/-- THE STEP of own: a taken block stands at the slot -/
theorem own_step (hns : ∀ b, blk B (S.home q j) = some b → S.counts b ≠ 1) : Own B S (ownS B S q j n) f (ρ ++ [j]) := by
  have hq := own_q I hf ha k hn h0
  have hz : ∀ b, blk B (S.home q j) = some b → b ≠ n := by
    intro b h e
    subst e
    rw [← ha.ptr] at h
    exact I.zero hf k h0 h
  refine ⟨own_inv I hf ha k hn h0, ⟨n, own_here I hf ha k hn h0, ?_⟩, fun g τ hg kτ no => ?_, fun τ kτ ⟨σ, e⟩ => ?_, fun g kk i hg hk hi => ?_, fun g i hg hi => ?_, fun g τ b hg kτ h h1 => ?_⟩
  · show (if blk B (S.home q j) = some n then _ else if n = n then (1 : Int) else _) = 1
    rw [if_neg fun h => hz n h rfl, if_pos rfl]
  · exact own_else I hf ha k hn h0 hg kτ fun ⟨e, z⟩ => no ⟨e, [], by rw [z, List.append_nil]⟩
  · exact reach_some_pre (ok_ne kτ) (σ := σ) (by rw [← e, own_here I hf ha k hn h0]; intro z; cases z)
  · by_cases h : g = f ∧ spot kk = ρ ++ [j]
    · obtain ⟨rfl, e⟩ := h
      have r1 : reach B (ownS B S q j n) g (spot kk) = some n := by rw [e]; exact own_here I hf ha k hn h0
      rw [cell_some r1, own_home I hf ha k hn h0, if_neg (fun z => hq z.1.symm), if_pos rfl]
      have r2 : reach B S g (spot kk) = blk B (S.home q j) := by rw [e, ha.ptr]
      unfold cell copyOf
      rw [r2]
      all_goals (cases blk B (S.home q j) <;> rfl)
    · have r1 := own_else I hf ha k hn h0 hg (spot_ok hk) h
      unfold cell
      rw [r1]
      cases r2 : reach B S g (spot kk) with
      | none => rfl
      | some b =>
        show (ownS B S q j n).home (6 + b) i = S.home (6 + b) i
        rw [own_home I hf ha k hn h0, if_neg, if_neg]
        · intro z
          have : b = n := by omega
          subst this
          exact I.zero hg (spot_ok hk) h0 r2
        · intro z
          rcases ha with ⟨rfl, rfl⟩ | ⟨c, nn, hc, h1, rfl⟩
          · omega
          · have : b = c := by omega
            subst this
            have e := (I.one hg hf (spot_ok hk) (ok_pre k nn) r2 hc h1).2
            rw [← e] at k
            have := spot_leaf k hk
            cases this
  · rw [own_home I hf ha k hn h0, if_neg, if_neg (by omega)]
    intro z
    rcases ha with ⟨rfl, rfl⟩ | ⟨c, nn, hc, h1, rfl⟩
    · have hj : ok [j] = true := k
      have := (of_decide_eq_true hj).1
      omega
    · omega
  · have hne : b ≠ n := fun e => by
      subst e
      exact I.zero hg kτ h0 h
    refine ⟨?_, ?_⟩
    · rw [own_else I hf ha k hn h0 hg kτ, h]
      rintro ⟨rfl, rfl⟩
      rw [ha.ptr] at h
      exact hns b h h1
    · show (if blk B (S.home q j) = some b then _ else if b = n then (1 : Int) else S.counts b) = 1
      rw [if_neg fun z => hns b z h1, if_neg hne, h1]
end
end
end K51

namespace K51
section
variable {B : Nat}
/-- the blocks met by a pointer of a level, in the program's order -/
def metP (B : Nat) (S : St) (p : Int) (l : Nat) : List Nat := (sub l).filterMap (go B S (blk B p))
def dropS (B : Nat) (S : St) (p : Int) (l : Nat) : St := { S with counts := fun c => S.counts c - ((metP B S p l).count c : Int) }
def shareS (B : Nat) (S : St) (p : Int) (l : Nat) : St := { S with counts := fun c => S.counts c + ((metP B S p l).count c : Int) }
theorem reach_home {S S' : St} (h : ∀ r i, S'.home r i = S.home r i) {g : Nat} {π : List Nat} : reach B S' g π = reach B S g π :=
  reach_frame _ π rfl (fun _ _ _ => h _ _) fun _ _ _ _ _ _ _ => h _ _

structure Drop (B : Nat) (S S' : St) (f : Nat) (D : List Nat → Prop) : Prop where
  lt : f < 2
  inv : Inv B S'
  gone : ∀ τ, ok τ = true → D τ → reach B S' f τ = none
  other : ∀ g τ, g < 2 → ok τ = true → ¬ (g = f ∧ D τ) → reach B S' g τ = reach B S g τ
  cells : ∀ g k i, g < 2 → k < 75 → i < 8 → ¬ (g = f ∧ D (spot k)) → cell B S' g k i = cell B S g k i
  top : ∀ g i, g < 2 → i < 3 → S'.home (4 + g) i = S.home (4 + g) i
  keep : ∀ g τ b, g < 2 → ok τ = true → ¬ (g = f ∧ D τ) → reach B S g τ = some b → S.counts b = 1 → reach B S' g τ = some b ∧ S'.counts b = 1

theorem Drop.none {S : St} (I : Inv B S) {f : Nat} (hf : f < 2) {D : List Nat → Prop} (h : ∀ τ, ok τ = true → D τ → reach B S f τ = none) : Drop B S S f D :=
  ⟨hf, I, h, fun _ _ _ _ _ => rfl, fun _ _ _ _ _ _ _ => rfl, fun _ _ _ _ => rfl, fun _ _ _ _ _ _ h h1 => ⟨h, h1⟩⟩
theorem Drop.trans {S S1 S2 : St} {f : Nat} {D E : List Nat → Prop} (a : Drop B S S1 f D) (b : Drop B S1 S2 f E) : Drop B S S2 f (fun τ => D τ ∨ E τ) := by
  refine ⟨a.lt, b.inv, fun τ k d => ?_, fun g τ hg k n => ?_, fun g kk i hg hk hi n => ?_, fun g i hg hi => (b.top g i hg hi).trans (a.top g i hg hi), fun g τ c hg k n h h1 => ?_⟩
  · by_cases e : E τ
    · exact b.gone τ k e
    · rw [b.other f τ a.lt k fun z => e z.2, a.gone τ k (d.resolve_right e)]
  · rw [b.other g τ hg k fun z => n ⟨z.1, Or.inr z.2⟩, a.other g τ hg k fun z => n ⟨z.1, Or.inl z.2⟩]
  · rw [b.cells g kk i hg hk hi fun z => n ⟨z.1, Or.inr z.2⟩, a.cells g kk i hg hk hi fun z => n ⟨z.1, Or.inl z.2⟩]
  · obtain ⟨h2, h3⟩ := a.keep g τ c hg k (fun z => n ⟨z.1, Or.inl z.2⟩) h h1
    exact b.keep g τ c hg k (fun z => n ⟨z.1, Or.inr z.2⟩) h2 h3
theorem Drop.weak {S S' : St} {f : Nat} {D E : List Nat → Prop} (a : Drop B S S' f D) (h : ∀ τ, D τ ↔ E τ) : Drop B S S' f E := by
  have : D = E := funext fun τ => propext (h τ)
  rw [← this]; exact a

theorem under (σ : List Nat) (k : ok σ = true) : paths.filter (σ.isPrefixOf ·) = (sub (lev σ)).map (σ ++ ·) := by
  have h : ∀ σ ∈ paths, paths.filter (σ.isPrefixOf ·) = (sub (lev σ)).map (σ ++ ·) := by decide +kernel
  exact h σ (ok_mem k)
theorem met_count {S : St} {f q j c : Nat} {ρ : List Nat} (ha : At B S f ρ q) (k : ok (ρ ++ [j]) = true) :
    (metP B S (S.home q j) (lev (ρ ++ [j]))).count c = paths.countP fun τ => (ρ ++ [j]).isPrefixOf τ && (reach B S f τ == some c) := by
  have e1 : (paths.countP fun τ => (ρ ++ [j]).isPrefixOf τ && (reach B S f τ == some c)) = (paths.filter ((ρ ++ [j]).isPrefixOf ·)).countP fun τ => reach B S f τ == some c := by
    rw [List.countP_filter]
    refine List.countP_congr fun τ _ => ?_
    rw [Bool.and_comm]
  have e2 : ∀ r, go B S (blk B (S.home q j)) r = reach B S f ((ρ ++ [j]) ++ r) := fun r => by
    rw [reach_app (by simp), ha.ptr]
  rw [e1, under _ k, List.countP_map]
  unfold metP
  rw [List.count_eq_countP, List.countP_filterMap]
  refine List.countP_congr fun r _ => ?_
  show ((go B S (blk B (S.home q j)) r).map (fun x => x == c)).getD false = true ↔ (reach B S f ((ρ ++ [j]) ++ r) == some c) = true
  rw [e2]
  cases reach B S f ((ρ ++ [j]) ++ r) <;> simp
section
variable {S : St} {f q j : Nat} {ρ : List Nat} (I : Inv B S) (hf : f < 2) (ha : At B S f ρ q) (k : ok (ρ ++ [j]) = true)
include I hf ha k
/-- THE STEP of drop_from: one slot -/
theorem drop_step : Drop B S ((dropS B S (S.home q j) (lev (ρ ++ [j]))).putc q j 0) f (fun τ => ∃ r, τ = ρ ++ j :: r) := by
  have hh : ∀ {g π}, reach B ((dropS B S (S.home q j) (lev (ρ ++ [j]))).putc q j 0) g π = reach B (S.putc q j 0) g π := fun {g π} => reach_home fun _ _ => rfl
  have oth : ∀ g τ, g < 2 → ok τ = true → ¬ (g = f ∧ ∃ r, τ = ρ ++ j :: r) → reach B ((dropS B S (S.home q j) (lev (ρ ++ [j]))).putc q j 0) g τ = reach B S g τ := fun g τ hg kτ n => by
    rw [hh, ha.other I hf hg k kτ 0 n]
  have gn : ∀ τ, ok τ = true → (∃ r, τ = ρ ++ j :: r) → reach B ((dropS B S (S.home q j) (lev (ρ ++ [j]))).putc q j 0) f τ = none := by
    rintro τ kτ ⟨r, rfl⟩
    rw [hh]
    have e : ρ ++ j :: r = (ρ ++ [j]) ++ r := by simp
    rw [e]
    refine reach_pre (by simp) ?_
    rcases ha with ⟨rfl, rfl⟩ | ⟨c, nn, hc, h1, rfl⟩
    · show blk B (if 4 + f = 4 + f ∧ j = j then 0 else _) = none
      rw [if_pos ⟨rfl, rfl⟩, blk_zero]
    · have e1 : reach B (S.putc (6 + c) j 0) f ρ = some c := by
        rw [At.other I hf hf (Or.inr ⟨c, nn, hc, h1, rfl⟩) k (ok_pre k nn) 0, hc]
        rintro ⟨_, τ, e⟩
        have := congrArg List.length e
        rw [List.length_append, List.length_cons] at this
        omega
      rw [reach_snoc nn, e1]
      show blk B (if 6 + c = 6 + c ∧ j = j then 0 else _) = none
      rw [if_pos ⟨rfl, rfl⟩, blk_zero]
  have hinv : Inv B ((dropS B S (S.home q j) (lev (ρ ++ [j]))).putc q j 0) := by
    intro b hb
    have e0 : ((dropS B S (S.home q j) (lev (ρ ++ [j]))).putc q j 0).counts b = S.counts b - (paths.countP fun τ => (ρ ++ [j]).isPrefixOf τ && (reach B S f τ == some b) : Nat) := by
      rw [← met_count ha k]; rfl
    have e1 : ∀ g, g < 2 → g ≠ f → cnt B ((dropS B S (S.home q j) (lev (ρ ++ [j]))).putc q j 0) g b = cnt B S g b := fun g hg hgf => by
      refine List.countP_congr fun τ hτ => ?_
      rw [oth g τ hg (paths_ok τ hτ) fun z => hgf z.1]
    have e2 : cnt B ((dropS B S (S.home q j) (lev (ρ ++ [j]))).putc q j 0) f b + (paths.countP fun τ => (ρ ++ [j]).isPrefixOf τ && (reach B S f τ == some b)) = cnt B S f b := by
      have e3 : cnt B S f b = (paths.countP fun τ => (reach B S f τ == some b) && (ρ ++ [j]).isPrefixOf τ) + (paths.countP fun τ => (reach B S f τ == some b) && !(ρ ++ [j]).isPrefixOf τ) := by
        unfold cnt
        have := List.length_eq_countP_add_countP (p := fun τ => (ρ ++ [j]).isPrefixOf τ) (l := paths.filter fun τ => reach B S f τ == some b)
        rw [← List.countP_eq_length_filter, List.countP_filter, List.countP_filter] at this
        rw [this]
        congr 1
        · refine List.countP_congr fun τ _ => ?_
          rw [Bool.and_comm]
        · refine List.countP_congr fun τ _ => ?_
          cases (reach B S f τ == some b) <;> cases ((ρ ++ [j]).isPrefixOf τ) <;> simp
      rw [e3]
      have e4 : cnt B ((dropS B S (S.home q j) (lev (ρ ++ [j]))).putc q j 0) f b = paths.countP fun τ => (reach B S f τ == some b) && !(ρ ++ [j]).isPrefixOf τ := by
        refine List.countP_congr fun τ hτ => ?_
        by_cases h : ∃ r, τ = ρ ++ j :: r
        · rw [gn τ (paths_ok τ hτ) h]
          obtain ⟨r, rfl⟩ := h
          have : (ρ ++ [j]).isPrefixOf (ρ ++ j :: r) = true := List.isPrefixOf_iff_prefix.mpr ⟨r, by simp⟩
          rw [this]
          simp
        · rw [oth f τ hf (paths_ok τ hτ) fun z => h z.2]
          have : (ρ ++ [j]).isPrefixOf τ = false := by
            cases e : (ρ ++ [j]).isPrefixOf τ with
            | false => rfl
            | true =>
              obtain ⟨r, e⟩ := List.isPrefixOf_iff_prefix.mp e
              exact absurd ⟨r, by rw [← e]; simp⟩ h
          rw [this]; simp
      have e5 : (paths.countP fun τ => (ρ ++ [j]).isPrefixOf τ && (reach B S f τ == some b)) = paths.countP fun τ => (reach B S f τ == some b) && (ρ ++ [j]).isPrefixOf τ := by
        refine List.countP_congr fun τ _ => ?_
        rw [Bool.and_comm]
      rw [e4, e5]; omega
    have e3 := I b hb
    rw [e0, e3]
    have f2 : f = 0 ∨ f = 1 := by omega
    rcases f2 with rfl | rfl
    · rw [e1 1 (by omega) (by omega)]; omega
    · rw [e1 0 (by omega) (by omega)]; omega
  refine ⟨hf, hinv, gn, oth, fun g kk i hg hk hi n => ?_, fun g i hg hi => ?_, fun g τ b hg kτ n h h1 => ?_⟩
  · unfold cell
    rw [oth g (spot kk) hg (spot_ok hk) n]
    cases r2 : reach B S g (spot kk) with
    | none => rfl
    | some b =>
      show (if 6 + b = q ∧ i = j then 0 else S.home (6 + b) i) = S.home (6 + b) i
      refine if_neg fun z => ?_
      rcases ha with ⟨rfl, rfl⟩ | ⟨c, nn, hc, h1, rfl⟩
      · omega
      · have : b = c := by omega
        subst this
        have e := (I.one hg hf (spot_ok hk) (ok_pre k nn) r2 hc h1).2
        rw [← e] at k
        have := spot_leaf k hk
        cases this
  · show (if 4 + g = q ∧ i = j then 0 else S.home (4 + g) i) = _
    refine if_neg fun z => ?_
    rcases ha with ⟨rfl, rfl⟩ | ⟨c, nn, hc, h1, rfl⟩
    · have hj : ok [j] = true := k
      have := (of_decide_eq_true hj).1
      omega
    · omega
  · have h2 := (oth g τ hg kτ n).trans h
    have p := hinv.pos hg kτ h2
    have e0 : ((dropS B S (S.home q j) (lev (ρ ++ [j]))).putc q j 0).counts b = S.counts b - ((metP B S (S.home q j) (lev (ρ ++ [j]))).count b : Nat) := rfl
    exact ⟨h2, by omega⟩
end
theorem At.keep {S S' : St} {f q : Nat} {ρ : List Nat} {D : List Nat → Prop} (d : Drop B S S' f D) (ha : At B S f ρ q) (k : ρ = [] ∨ (ok ρ = true ∧ ¬ D ρ)) : At B S' f ρ q := by
  rcases ha with ⟨e, h⟩ | ⟨c, nn, hc, h1, h⟩
  · exact Or.inl ⟨e, h⟩
  · obtain ⟨k1, k2⟩ := k.resolve_left nn
    obtain ⟨h2, h3⟩ := d.keep f ρ c d.lt k1 (fun z => k2 z.2) hc h1
    exact Or.inr ⟨c, nn, h2, h3, h⟩
/-- the slots from a to e behind a path -/
def Slots (ρ : List Nat) (a e : Nat) (τ : List Nat) : Prop := ∃ i r, a ≤ i ∧ i < e ∧ τ = ρ ++ i :: r
theorem slots_not {ρ : List Nat} {a e : Nat} : ¬ Slots ρ a e ρ := by
  rintro ⟨i, r, _, _, h⟩
  have := congrArg List.length h
  rw [List.length_append, List.length_cons] at this
  omega
/-- one turn of drop_from -/
theorem drop_turn {S S' : St} {f q a i : Nat} {ρ : List Nat} (hf : f < 2) (d : Drop B S S' f (Slots ρ a i)) (ha : At B S f ρ q) (hai : a ≤ i) (k : ok (ρ ++ [i]) = true) :
    (blk B (S'.home q i) = none → Drop B S S' f (Slots ρ a (i + 1))) ∧ Drop B S ((dropS B S' (S'.home q i) (lev (ρ ++ [i]))).putc q i 0) f (Slots ρ a (i + 1)) := by
  have ha' : At B S' f ρ q := ha.keep d (by
    by_cases e : ρ = []
    · exact Or.inl e
    · exact Or.inr ⟨ok_pre k e, slots_not⟩)
  have hs : ∀ τ, (Slots ρ a i τ ∨ ∃ r, τ = ρ ++ i :: r) ↔ Slots ρ a (i + 1) τ := by
    intro τ
    constructor
    · rintro (⟨x, r, h1, h2, h3⟩ | ⟨r, h⟩)
      · exact ⟨x, r, h1, by omega, h3⟩
      · exact ⟨i, r, hai, by omega, h⟩
    · rintro ⟨x, r, h1, h2, h3⟩
      by_cases e : x = i
      · subst e; exact Or.inr ⟨r, h3⟩
      · exact Or.inl ⟨x, r, h1, by omega, h3⟩
  constructor
  · intro hn
    refine (d.trans (Drop.none d.inv hf (D := fun τ => ∃ r, τ = ρ ++ i :: r) ?_)).weak hs
    rintro τ kτ ⟨r, rfl⟩
    have e : ρ ++ i :: r = (ρ ++ [i]) ++ r := by simp
    rw [e]
    exact reach_pre (by simp) (by rw [ha'.ptr, hn])
  · exact (d.trans (drop_step d.inv hf ha' k)).weak hs
end
end K51

namespace K51
section
variable {B : Nat}
theorem Own.at {S S' : St} {f : Nat} {π : List Nat} (h : Own B S S' f π) (n : π ≠ []) : ∃ c, reach B S' f π = some c ∧ S'.counts c = 1 ∧ At B S' f π (6 + c) := by
  obtain ⟨c, h1, h2⟩ := h.here
  exact ⟨c, h1, h2, Or.inr ⟨c, n, h1, h2, rfl⟩⟩
theorem own_lim {S S' : St} {f : Nat} {π : List Nat} (L : Lim B S) (o : Own B S S' f π) (h : ∀ k, 55 ≤ k → k < 75 → ∀ σ, π ≠ spot k ++ σ) : Lim B S' := fun g hg k h1 h2 => by
  rw [o.other g (spot k) hg (spot_ok h2) fun ⟨_, σ, e⟩ => h k h1 h2 σ e]
  exact L g hg k h1 h2
/-- a part below 55, and the plates of pointers, may be made own -/
theorem may_own {π : List Nat} (k : ok π = true) (h : π.length < 3 ∨ ∃ k, k < 55 ∧ π = spot k) : ∀ k, 55 ≤ k → k < 75 → ∀ σ, π ≠ spot k ++ σ := by
  intro l h1 h2 σ e
  rcases h with h | ⟨m, hm, h⟩
  · have : (spot l).length = 3 := by
      unfold spot
      rw [if_neg (by omega), if_neg (by omega)]; rfl
    rw [e, List.length_append] at h
    omega
  · rw [e] at k
    have e1 := spot_leaf k h2
    subst e1
    rw [List.append_nil] at e
    have := spot_inj (h.symm.trans e)
    omega
/-! ## several spots owned, one behind the other -/
structure OwnL (B : Nat) (S S' : St) (f : Nat) (L : List (List Nat)) (bs : List Nat) : Prop where
  inv : Inv B S'
  len : bs.length = L.length
  here : ∀ (i : Nat) (π : List Nat), L[i]? = some π → ∃ b : Nat, bs[i]? = some b ∧ reach B S' f π = some b ∧ S'.counts b = 1
  other : ∀ g τ, g < 2 → ok τ = true → ¬ (g = f ∧ ∃ π σ, π ∈ L ∧ π = τ ++ σ) → reach B S' g τ = reach B S g τ
  some' : ∀ τ, ok τ = true → (∃ π σ, π ∈ L ∧ π = τ ++ σ) → reach B S' f τ ≠ none
  cells : ∀ g k i, g < 2 → k < 75 → i < 8 → cell B S' g k i = cell B S g k i
  top : ∀ g i, g < 2 → i < 3 → S'.home (4 + g) i = S.home (4 + g) i
theorem OwnL.nil {S : St} (I : Inv B S) (f : Nat) : OwnL B S S f [] [] :=
  ⟨I, rfl, (fun i π h => by simp at h), fun _ _ _ _ _ => rfl, (fun τ _ ⟨π, σ, h, _⟩ => nomatch h), fun _ _ _ _ _ _ => rfl, fun _ _ _ _ => rfl⟩
theorem OwnL.snoc {S S1 S2 : St} {f b : Nat} {L : List (List Nat)} {bs : List Nat} {π : List Nat} (hf : f < 2) (a : OwnL B S S1 f L bs) (kL : ∀ π ∈ L, ok π = true) (o : Own B S1 S2 f π) (hb : reach B S2 f π = some b) (h1 : S2.counts b = 1) : OwnL B S S2 f (L ++ [π]) (bs ++ [b]) := by
  refine ⟨o.inv, by simp [a.len], fun i τ h => ?_, fun g τ hg k n => ?_, fun τ k ⟨ρ, σ, hm, e⟩ => ?_, fun g k i hg hk hi => (o.cells g k i hg hk hi).trans (a.cells g k i hg hk hi), fun g i hg hi => (o.top g i hg hi).trans (a.top g i hg hi)⟩
  · by_cases hi : i < L.length
    · rw [List.getElem?_append_left hi] at h
      obtain ⟨c, e1, e2, e3⟩ := a.here i τ h
      obtain ⟨e4, e5⟩ := o.keep f τ c hf (kL τ (List.mem_of_getElem? h)) e2 e3
      exact ⟨c, by rw [List.getElem?_append_left (by rw [a.len]; exact hi), e1], e4, e5⟩
    · rw [List.getElem?_append_right (by omega)] at h
      have hi0 : i - L.length = 0 := by
        cases q : i - L.length with
        | zero => rfl
        | succ n => rw [q] at h; simp at h
      rw [hi0] at h
      have e : π = τ := by simpa using h
      subst e
      exact ⟨b, by rw [List.getElem?_append_right (by rw [a.len]; omega), a.len, hi0]; rfl, hb, h1⟩
  · rw [o.other g τ hg k fun ⟨e, σ, z⟩ => n ⟨e, π, σ, by simp, z⟩, a.other g τ hg k fun ⟨e, ρ, σ, hm, z⟩ => n ⟨e, ρ, σ, by simp [hm], z⟩]
  · by_cases hp : ∃ σ, π = τ ++ σ
    · exact o.some' τ k hp
    · rw [o.other f τ hf k fun z => hp z.2]
      rcases List.mem_append.mp hm with z | z
      · exact a.some' τ k ⟨ρ, σ, z, e⟩
      · exact absurd ⟨σ, by rw [← List.mem_singleton.mp z]; exact e⟩ hp
/-! ## what drop_parts keeps -/
/-- some pointer of a plate from a place on leads to a block -/
def anyB (B : Nat) (x : Nat → Int) (a : Nat) : Bool := ((List.range 8).drop a).any fun i => (blk B (x i)).isSome
theorem any_false {x : Nat → Int} {a : Nat} (h : anyB B x a = false) {i : Nat} (h1 : a ≤ i) (h2 : i < 8) : blk B (x i) = none := by
  unfold anyB at h
  rw [List.any_eq_false] at h
  have := h i (by
    rw [List.mem_iff_getElem?]
    exact ⟨i - a, by rw [List.getElem?_drop, show a + (i - a) = i by omega, List.getElem?_range h2]⟩)
  cases q : blk B (x i) with
  | none => rfl
  | some b => rw [q] at this; simp at this
def farP (first : Nat) : Nat × Nat := ((first - 11) / 8, (first - 11) % 8)
def isCut (B : Nat) (S : St) (row : Nat → Int) (first : Nat) : Bool :=
  if 0 < (farP first).2 then match blk B (row (farP first).1) with
    | none => false
    | some c => anyB B (S.home (6 + c)) (farP first).2
  else false
def isBehind (B : Nat) (row : Nat → Int) (first : Nat) : Bool := anyB B row ((farP first).1 + if 0 < (farP first).2 then 1 else 0)
def farL (B : Nat) (S : St) (f first : Nat) : List (List Nat) := match blk B (S.home (4 + f) 7) with
  | none => []
  | some b => (if isCut B S (S.home (6 + b)) first || isBehind B (S.home (6 + b)) first then [[7]] else []) ++ (if isCut B S (S.home (6 + b)) first then [[7, (farP first).1]] else [])
def keptL (B : Nat) (S : St) (f first : Nat) : List (List Nat) :=
  if 11 < first then farL B S f first
  else match blk B (S.home (4 + f) 6) with
    | none => []
    | some b => if first ≤ 3 || !anyB B (S.home (6 + b)) (first - 3) then [] else [[6]]
/-- the dropped places of each part of drop_parts -/
structure Cut (B : Nat) (S S' : St) (f first : Nat) : Prop where
  inv : Inv B S'
  far : ∀ g τ, g < 2 → g ≠ f → ok τ = true → reach B S' g τ = reach B S g τ
  gone : ∀ k, first ≤ k → k < 75 → reach B S' f (spot k) = none
  holes : ∀ g k, g < 2 → k < 75 → reach B S g (spot k) = none → reach B S' g (spot k) = none
  cells : ∀ g k i, g < 2 → k < 75 → i < 8 → (g ≠ f ∨ k < first) → cell B S' g k i = cell B S g k i
  top : ∀ g i, g < 2 → i < 3 → S'.home (4 + g) i = S.home (4 + g) i
  all : first = 0 → ∀ τ, ok τ = true → reach B S' f τ = none
/-- owned spots on which something stands already, then dropped slots -/
theorem cut_of {S S1 S2 : St} {f first : Nat} {L : List (List Nat)} {bs : List Nat} {D : List Nat → Prop} (hf : f < 2) (a : OwnL B S S1 f L bs) (hL : ∀ π ∈ L, reach B S f π ≠ none) (d : Drop B S1 S2 f D)
    (h1 : ∀ k, first ≤ k → k < 75 → D (spot k) ∨ reach B S f (spot k) = none) (h2 : ∀ k, k < first → k < 75 → ¬ D (spot k)) (h3 : first = 0 → ∀ τ, ok τ = true → D τ ∨ reach B S f τ = none) : Cut B S S2 f first := by
  have pat : ∀ g τ, g < 2 → ok τ = true → reach B S g τ = none → reach B S1 g τ = none := by
    intro g τ hg k hn
    rw [a.other g τ hg k, hn]
    rintro ⟨rfl, π, σ, hm, e⟩
    refine hL π hm ?_
    rw [e]
    exact reach_pre (ok_ne k) hn
  have pat2 : ∀ g τ, g < 2 → ok τ = true → reach B S g τ = none → reach B S2 g τ = none := by
    intro g τ hg k hn
    by_cases h : g = f ∧ D τ
    · rw [h.1]; exact d.gone τ k h.2
    · rw [d.other g τ hg k h]; exact pat g τ hg k hn
  have all' : ∀ τ, ok τ = true → D τ ∨ reach B S f τ = none → reach B S2 f τ = none := fun τ k h => h.elim (d.gone τ k) (pat2 f τ hf k)
  refine ⟨d.inv, fun g τ hg n k => ?_, fun k hk h75 => all' _ (spot_ok h75) (h1 k hk h75), fun g k hg hk => pat2 g _ hg (spot_ok hk), fun g k i hg hk hi h => ?_, fun g i hg hi => (d.top g i hg hi).trans (a.top g i hg hi), fun e τ k => all' τ k (h3 e τ k)⟩
  · rw [d.other g τ hg k fun z => n z.1, a.other g τ hg k fun z => n z.1]
  · rw [d.cells g k i hg hk hi fun z => ?_, a.cells g k i hg hk hi]
    rcases h with h | h
    · exact h z.1
    · exact h2 k h hk z.2

theorem spot_far {k : Nat} (h : 11 ≤ k) : spot k = [7, (k - 11) / 8, (k - 11) % 8] := by
  unfold spot
  rw [if_neg (by omega), if_neg (by omega)]
theorem slots_spot0 {a e k : Nat} (ha : 3 ≤ a) (h : Slots [] a e (spot k)) (hk : k < 75) : (k < 3 ∧ a ≤ 3 + k ∧ 3 + k < e) ∨ (3 ≤ k ∧ k < 11 ∧ a ≤ 6 ∧ 6 < e) ∨ (11 ≤ k ∧ a ≤ 7 ∧ 7 < e) := by
  obtain ⟨i, r, h1, h2, e⟩ := h
  unfold spot at e
  split at e
  · simp at e; omega
  · split at e
    · simp at e; omega
    · simp at e; omega
theorem slots_mk0 {a e k : Nat} (hk : k < 75) (h : (k < 3 ∧ a ≤ 3 + k ∧ 3 + k < e) ∨ (3 ≤ k ∧ k < 11 ∧ a ≤ 6 ∧ 6 < e) ∨ (11 ≤ k ∧ a ≤ 7 ∧ 7 < e)) : Slots [] a e (spot k) := by
  unfold spot
  rcases h with ⟨h0, h1, h2⟩ | ⟨h0, h0', h1, h2⟩ | ⟨h0, h1, h2⟩
  · rw [if_pos h0]; exact ⟨3 + k, [], h1, h2, rfl⟩
  · rw [if_neg (by omega), if_pos h0']; exact ⟨6, [k - 3], h1, h2, rfl⟩
  · rw [if_neg (by omega), if_neg (by omega)]; exact ⟨7, _, h1, h2, rfl⟩
theorem slots_spot6 {a e k : Nat} (h : Slots [6] a e (spot k)) : 3 ≤ k ∧ k < 11 ∧ a ≤ k - 3 ∧ k - 3 < e := by
  obtain ⟨i, r, h1, h2, e⟩ := h
  unfold spot at e
  split at e
  · simp at e
  · split at e
    · simp at e; omega
    · simp at e
theorem slots_spot7 {a e k : Nat} (h : Slots [7] a e (spot k)) : 11 ≤ k ∧ a ≤ (k - 11) / 8 ∧ (k - 11) / 8 < e := by
  obtain ⟨i, r, h1, h2, e⟩ := h
  unfold spot at e
  split at e
  · simp at e
  · split at e
    · simp at e
    · simp at e; omega
theorem slots_spot7p {a e k p : Nat} (h : Slots [7, p] a e (spot k)) : 11 ≤ k ∧ (k - 11) / 8 = p ∧ a ≤ (k - 11) % 8 ∧ (k - 11) % 8 < e := by
  obtain ⟨i, r, h1, h2, e⟩ := h
  unfold spot at e
  split at e
  · simp at e
  · split at e
    · simp at e
    · simp at e; omega
theorem ok_head {τ : List Nat} (k : ok τ = true) : ∃ i r, τ = i :: r ∧ 3 ≤ i ∧ i ≤ 7 := by
  match τ, k with
  | [i], h => exact ⟨i, [], rfl, (of_decide_eq_true h).1, (of_decide_eq_true h).2⟩
  | [i, j], h => have := of_decide_eq_true h; exact ⟨i, [j], rfl, by omega, by omega⟩
  | [i, j, l], h => have := of_decide_eq_true h; exact ⟨i, [j, l], rfl, by omega, by omega⟩
/-- A: at most three parts are kept -/
theorem cut_A {S S0 S1 S2 S3 : St} {f first : Nat} {bs : List Nat} (hf : f < 2) (h3 : first ≤ 3) (a : OwnL B S S0 f [] bs) (d1 : Drop B S0 S1 f (Slots [] (3 + first) 6)) (d2 : Drop B S1 S2 f (Slots [] 6 7)) (d3 : Drop B S2 S3 f (Slots [] 7 8)) : Cut B S S3 f first := by
  refine cut_of hf a (fun _ h => nomatch h) ((d1.trans d2).trans d3) (fun k h1 h2 => Or.inl ?_) (fun k h1 h2 => ?_) (fun e τ k => Or.inl ?_)
  · by_cases a : k < 3
    · exact Or.inl (Or.inl (slots_mk0 h2 (Or.inl ⟨a, by omega, by omega⟩)))
    · by_cases b : k < 11
      · exact Or.inl (Or.inr (slots_mk0 h2 (Or.inr (Or.inl ⟨by omega, b, by omega, by omega⟩))))
      · exact Or.inr (slots_mk0 h2 (Or.inr (Or.inr ⟨by omega, by omega, by omega⟩)))
  · rintro ((h | h) | h)
    · have := slots_spot0 (by omega) h h2; omega
    · have := slots_spot0 (by omega) h h2; omega
    · have := slots_spot0 (by omega) h h2; omega
  · subst e
    obtain ⟨i, r, e, h1, h2⟩ := ok_head k
    subst e
    by_cases a : i < 6
    · exact Or.inl (Or.inl ⟨i, r, by omega, a, rfl⟩)
    · by_cases b : i < 7
      · exact Or.inl (Or.inr ⟨i, r, by omega, b, rfl⟩)
      · exact Or.inr ⟨i, r, by omega, by omega, rfl⟩
/-- B: first above 3, at most 11: nothing behind in the first block of pointers -/
theorem cut_B0 {S S0 S1 S2 : St} {f first : Nat} {bs : List Nat} (hf : f < 2) (h3 : 3 < first) (h11 : first ≤ 11) (hk : keptL B S f first = []) (a : OwnL B S S0 f [] bs) (d1 : Drop B S0 S1 f (Slots [] 6 6)) (d2 : Drop B S1 S2 f (Slots [] 7 8)) : Cut B S S2 f first := by
  refine cut_of hf a (fun _ h => nomatch h) (d1.trans d2) (fun k h1 h2 => ?_) (fun k h1 h2 => ?_) (fun e => by omega)
  · by_cases b : k < 11
    · right
      unfold keptL at hk
      rw [if_neg (by omega)] at hk
      unfold spot
      rw [if_neg (by omega), if_pos b]
      show (blk B (S.home (4 + f) 6)).bind (fun b => blk B (S.home (6 + b) (k - 3))) = none
      cases q : blk B (S.home (4 + f) 6) with
      | none => rfl
      | some c =>
        rw [q] at hk
        simp only [] at hk
        split at hk
        · rename_i hc
          show blk B (S.home (6 + c) (k - 3)) = none
          refine any_false (a := first - 3) ?_ (by omega) (by omega)
          have : ¬ first ≤ 3 := by omega
          simpa [this] using hc
        · cases hk
    · exact Or.inl (Or.inr (slots_mk0 h2 (Or.inr (Or.inr ⟨by omega, by omega, by omega⟩))))
  · rintro (h | h)
    · have := slots_spot0 (by omega) h h2; omega
    · have := slots_spot0 (by omega) h h2; omega
theorem cut_B1 {S S0 S1 S2 S3 : St} {f first : Nat} {bs : List Nat} (hf : f < 2) (h3 : 3 < first) (h11 : first ≤ 11) (hk : keptL B S f first = [[6]]) (a : OwnL B S S0 f [[6]] bs) (d1 : Drop B S0 S1 f (Slots [] 6 6)) (d2 : Drop B S1 S2 f (Slots [6] (first - 3) 8)) (d3 : Drop B S2 S3 f (Slots [] 7 8)) : Cut B S S3 f first := by
  refine cut_of hf a (fun π hm => ?_) ((d1.trans d2).trans d3) (fun k h1 h2 => Or.inl ?_) (fun k h1 h2 => ?_) (fun e => by omega)
  · rw [List.mem_singleton.mp hm]
    unfold keptL at hk
    rw [if_neg (by omega)] at hk
    intro q
    have q : blk B (S.home (4 + f) 6) = none := q
    rw [q] at hk
    cases hk
  · by_cases b : k < 11
    · refine Or.inl (Or.inr ?_)
      unfold spot
      rw [if_neg (by omega), if_pos b]
      exact ⟨k - 3, [], by omega, by omega, rfl⟩
    · exact Or.inr (slots_mk0 h2 (Or.inr (Or.inr ⟨by omega, by omega, by omega⟩)))
  · rintro ((h | h) | h)
    · have := slots_spot0 (by omega) h h2; omega
    · have := slots_spot6 h; omega
    · have := slots_spot0 (by omega) h h2; omega
theorem kept_B {S : St} {f first : Nat} (h11 : first ≤ 11) : keptL B S f first = [] ∨ (3 < first ∧ first < 11 ∧ keptL B S f first = [[6]]) := by
  unfold keptL
  rw [if_neg (by omega)]
  cases blk B (S.home (4 + f) 6) with
  | none => exact Or.inl rfl
  | some b =>
    show (if (decide (first ≤ 3) || !anyB B (S.home (6 + b)) (first - 3)) = true then ([] : List (List Nat)) else [[6]]) = [] ∨ _ ∧ _ ∧ (if _ then _ else _) = _
    split
    · exact Or.inl rfl
    · rename_i h
      refine Or.inr ⟨?_, ?_, rfl⟩
      · have : ¬ first ≤ 3 := fun z => h (by simp [z])
        omega
      · by_cases e : first = 11
        · subst e
          refine absurd ?_ h
          have : anyB B (S.home (6 + b)) 8 = false := rfl
          simp [this]
        · omega
/-- C: first above 11 -/
theorem far_reach {S : St} {f k : Nat} (h : 11 ≤ k) : reach B S f (spot k) = ((blk B (S.home (4 + f) 7)).bind fun b => blk B (S.home (6 + b) ((k - 11) / 8))).bind fun c => blk B (S.home (6 + c) ((k - 11) % 8)) := by
  unfold spot
  rw [if_neg (by omega), if_neg (by omega)]; rfl
/-- what is not cut off and stands behind first: a hole -/
theorem far_hole {S : St} {f first b k : Nat} (h : blk B (S.home (4 + f) 7) = some b) (h11 : 11 < first) (h1 : first ≤ k) (h2 : k < 75)
    (hb : ¬ (isBehind B (S.home (6 + b)) first = true ∧ (farP first).1 + (if 0 < (farP first).2 then 1 else 0) ≤ (k - 11) / 8))
    (hc : ¬ (isCut B S (S.home (6 + b)) first = true ∧ 0 < (farP first).2 ∧ (k - 11) / 8 = (farP first).1)) : reach B S f (spot k) = none := by
  rw [far_reach (by omega), h]
  show (blk B (S.home (6 + b) ((k - 11) / 8))).bind (fun c => blk B (S.home (6 + c) ((k - 11) % 8))) = none
  have hp : (farP first).1 = (first - 11) / 8 := rfl
  have hr : (farP first).2 = (first - 11) % 8 := rfl
  by_cases hx : (farP first).1 + (if 0 < (farP first).2 then 1 else 0) ≤ (k - 11) / 8
  · have e : isBehind B (S.home (6 + b)) first = false := by
      cases q : isBehind B (S.home (6 + b)) first with
      | false => rfl
      | true => exact absurd ⟨q, hx⟩ hb
    unfold isBehind at e
    rw [any_false e hx (by omega)]; rfl
  · have hpos : 0 < (farP first).2 := by
      refine Classical.byContradiction fun z => ?_
      rw [if_neg z] at hx
      omega
    rw [if_pos hpos] at hx
    have hk : (k - 11) / 8 = (farP first).1 := by omega
    have e : isCut B S (S.home (6 + b)) first = false := by
      cases q : isCut B S (S.home (6 + b)) first with
      | false => rfl
      | true => exact absurd ⟨q, hpos, hk⟩ hc
    unfold isCut at e
    rw [if_pos hpos, ← hk] at e
    cases q : blk B (S.home (6 + b) ((k - 11) / 8)) with
    | none => rfl
    | some c =>
      rw [q] at e
      show blk B (S.home (6 + c) ((k - 11) % 8)) = none
      exact any_false e (by omega) (by omega)
theorem cut_C0 {S S0 S1 : St} {f first : Nat} {bs : List Nat} (hf : f < 2) (h11 : 11 < first) (hk : keptL B S f first = []) (a : OwnL B S S0 f [] bs) (d1 : Drop B S0 S1 f (Slots [] 6 6)) : Cut B S S1 f first := by
  refine cut_of hf a (fun _ h => nomatch h) d1 (fun k h1 h2 => Or.inr ?_) (fun k h1 h2 h => ?_) (fun e => by omega)
  · unfold keptL at hk
    rw [if_pos h11] at hk
    unfold farL at hk
    cases q : blk B (S.home (4 + f) 7) with
    | none => rw [far_reach (by omega), q]; rfl
    | some b =>
      rw [q] at hk
      simp only [] at hk
      obtain ⟨e1, e2⟩ := List.append_eq_nil_iff.mp hk
      have hc : isCut B S (S.home (6 + b)) first = false := by
        cases z : isCut B S (S.home (6 + b)) first with
        | false => rfl
        | true => rw [z] at e2; cases e2
      have hb : isBehind B (S.home (6 + b)) first = false := by
        cases z : isBehind B (S.home (6 + b)) first with
        | false => rfl
        | true => rw [z] at e1; simp at e1
      exact far_hole q h11 h1 h2 (fun z => by rw [hb] at z; cases z.1) (fun z => by rw [hc] at z; cases z.1)
  · have := slots_spot0 (by omega) h h2; omega
theorem kept_C {S : St} {f first : Nat} (h11 : 11 < first) : keptL B S f first = [] ∨ ∃ b, blk B (S.home (4 + f) 7) = some b ∧
    ((isCut B S (S.home (6 + b)) first = false ∧ keptL B S f first = [[7]]) ∨ (isCut B S (S.home (6 + b)) first = true ∧ 0 < (farP first).2 ∧ (∃ c, blk B (S.home (6 + b) (farP first).1) = some c) ∧ keptL B S f first = [[7], [7, (farP first).1]])) := by
  unfold keptL
  rw [if_pos h11]
  unfold farL
  cases q : blk B (S.home (4 + f) 7) with
  | none => exact Or.inl rfl
  | some b =>
    by_cases hc : isCut B S (S.home (6 + b)) first = true
    · refine Or.inr ⟨b, rfl, Or.inr ⟨hc, ?_, ?_, ?_⟩⟩
      · refine Classical.byContradiction fun z => ?_
        unfold isCut at hc
        rw [if_neg z] at hc
        cases hc
      · unfold isCut at hc
        split at hc
        · cases q2 : blk B (S.home (6 + b) (farP first).1) with
          | none => rw [q2] at hc; cases hc
          | some c => exact ⟨c, rfl⟩
        · cases hc
      · show (if _ then _ else _) ++ _ = _
        rw [hc]; rfl
    · have hc : isCut B S (S.home (6 + b)) first = false := by simpa using hc
      by_cases hb : isBehind B (S.home (6 + b)) first = true
      · refine Or.inr ⟨b, rfl, Or.inl ⟨hc, ?_⟩⟩
        show (if _ then _ else _) ++ _ = _
        rw [hc, hb]; rfl
      · left
        have hb : isBehind B (S.home (6 + b)) first = false := by simpa using hb
        show (if _ then _ else _) ++ _ = _
        rw [hc, hb]; rfl
theorem kept_ok {S : St} {f first : Nat} (h : first ≤ 75) : ∀ π ∈ keptL B S f first, ok π = true ∧ π.length < 3 := by
  intro π hm
  by_cases h11 : first ≤ 11
  · rcases kept_B (B := B) (S := S) (f := f) h11 with z | ⟨_, _, z⟩
    · rw [z] at hm; cases hm
    · rw [z] at hm
      rw [List.mem_singleton.mp hm]
      exact ⟨rfl, by decide⟩
  · rcases kept_C (B := B) (S := S) (f := f) (first := first) (by omega) with z | ⟨b, _, ⟨_, z⟩ | ⟨_, hr, ⟨c, hc⟩, z⟩⟩
    · rw [z] at hm; cases hm
    · rw [z] at hm
      rw [List.mem_singleton.mp hm]
      exact ⟨rfl, by decide⟩
    · rw [z] at hm
      have hp : (farP first).1 = (first - 11) / 8 := rfl
      have hr' : (farP first).2 = (first - 11) % 8 := rfl
      have hm : π = [7] ∨ π = [7, (farP first).1] := by simpa using hm
      rcases hm with rfl | rfl
      · exact ⟨rfl, by decide⟩
      · exact ⟨decide_eq_true ⟨Or.inr rfl, by omega⟩, (by show 2 < 3; decide)⟩
theorem cut_C1 {S S0 S1 S2 : St} {f first b : Nat} {bs : List Nat} (hf : f < 2) (h11 : 11 < first) (hb : blk B (S.home (4 + f) 7) = some b) (hc : isCut B S (S.home (6 + b)) first = false) (a : OwnL B S S0 f [[7]] bs) (d1 : Drop B S0 S1 f (Slots [] 6 6))
    (d2 : Drop B S1 S2 f (Slots [7] ((farP first).1 + if 0 < (farP first).2 then 1 else 0) 8)) : Cut B S S2 f first := by
  refine cut_of hf a (fun π hm => ?_) (d1.trans d2) (fun k h1 h2 => ?_) (fun k h1 h2 => ?_) (fun e => by omega)
  · rw [List.mem_singleton.mp hm]
    intro q
    have q : blk B (S.home (4 + f) 7) = none := q
    rw [hb] at q; cases q
  · by_cases hx : (farP first).1 + (if 0 < (farP first).2 then 1 else 0) ≤ (k - 11) / 8
    · refine Or.inl (Or.inr ?_)
      rw [spot_far (by omega)]
      exact ⟨(k - 11) / 8, [(k - 11) % 8], hx, by omega, rfl⟩
    · exact Or.inr (far_hole hb h11 h1 h2 (fun z => hx z.2) (fun z => by rw [hc] at z; cases z.1))
  · rintro (h | h)
    · have := slots_spot0 (by omega) h h2; omega
    · have := slots_spot7 h
      have hp : (farP first).1 = (first - 11) / 8 := rfl
      have hr : (farP first).2 = (first - 11) % 8 := rfl
      by_cases z : 0 < (farP first).2
      · rw [if_pos z] at this; omega
      · rw [if_neg z] at this; omega
theorem cut_C2 {S S0 S1 S2 S3 : St} {f first b c : Nat} {bs : List Nat} (hf : f < 2) (h11 : 11 < first) (hb : blk B (S.home (4 + f) 7) = some b) (hr0 : 0 < (farP first).2) (hc : blk B (S.home (6 + b) (farP first).1) = some c) (a : OwnL B S S0 f [[7], [7, (farP first).1]] bs) (d1 : Drop B S0 S1 f (Slots [] 6 6))
    (d2 : Drop B S1 S2 f (Slots [7] ((farP first).1 + 1) 8)) (d3 : Drop B S2 S3 f (Slots [7, (farP first).1] (farP first).2 8)) : Cut B S S3 f first := by
  have hp : (farP first).1 = (first - 11) / 8 := rfl
  have hr : (farP first).2 = (first - 11) % 8 := rfl
  refine cut_of hf a (fun π hm => ?_) ((d1.trans d2).trans d3) (fun k h1 h2 => ?_) (fun k h1 h2 => ?_) (fun e => by omega)
  · have hm : π = [7] ∨ π = [7, (farP first).1] := by simpa using hm
    rcases hm with rfl | rfl
    · intro q
      have q : blk B (S.home (4 + f) 7) = none := q
      rw [hb] at q; cases q
    · intro q
      have q : (blk B (S.home (4 + f) 7)).bind (fun b => blk B (S.home (6 + b) (farP first).1)) = none := q
      rw [hb] at q
      have q : blk B (S.home (6 + b) (farP first).1) = none := q
      rw [hc] at q; cases q
  · left
    by_cases hx : (farP first).1 + 1 ≤ (k - 11) / 8
    · refine Or.inl (Or.inr ?_)
      rw [spot_far (by omega)]
      exact ⟨(k - 11) / 8, [(k - 11) % 8], hx, by omega, rfl⟩
    · refine Or.inr ?_
      unfold spot
      rw [if_neg (by omega), if_neg (by omega)]
      have : (k - 11) / 8 = (farP first).1 := by omega
      rw [this]
      exact ⟨(k - 11) % 8, [], by omega, by omega, rfl⟩
  · rintro ((h | h) | h)
    · have := slots_spot0 (by omega) h h2; omega
    · have := slots_spot7 h; omega
    · have := slots_spot7p h; omega
end
end K51

namespace K51
section
variable {B : Nat}
/-! ## rows -/
def setr (r : Nat → List Int) (f : Nat) (x : List Int) : Nat → List Int := fun g => if g = f then x else r g
theorem setr_same {r : Nat → List Int} {f : Nat} {x : List Int} : setr r f x f = x := if_pos rfl
theorem setr_ne {r : Nat → List Int} {f g : Nat} {x : List Int} (h : g ≠ f) : setr r f x g = r g := if_neg h
structure Good (B : Nat) (S : St) (r : Nat → List Int) : Prop where
  inv : Inv B S
  size : ∀ g, g < 2 → S.home (4 + g) 0 = ((r g).length : Int)
  most : ∀ g, g < 2 → (r g).length ≤ 440
  cells : ∀ g n, g < 2 → n < (r g).length → (r g)[n]? = some (cell B S g (n / 8) (n % 8))
  holes : ∀ g k, g < 2 → k < 75 → (r g).length ≤ 8 * k → reach B S g (spot k) = none
theorem Good.lim {S : St} {r : Nat → List Int} (G : Good B S r) : Lim B S := fun g hg k h1 h2 => G.holes g k hg h2 (by have := G.most g hg; omega)
theorem Cut.lim {S S' : St} {f first : Nat} (c : Cut B S S' f first) (L : Lim B S) : Lim B S' := fun g hg k h1 h2 => c.holes g k hg h2 (L g hg k h1 h2)

/-! ## data is written into a block that is the part's own -/
theorem put_reach {S : St} (I : Inv B S) {f k b : Nat} {x : Nat → Int} (hf : f < 2) (hk : k < 75) (hb : reach B S f (spot k) = some b) (h1 : S.counts b = 1) {g : Nat} {τ : List Nat} (hg : g < 2) (kτ : ok τ = true) : reach B (S.put (6 + b) x) g τ = reach B S g τ := by
  refine reach_frame _ τ rfl (fun i r e => ?_) (fun ρ j r c hn e hc => ?_)
  · show (if 4 + g = 6 + b then x else S.home (4 + g)) i = _
    rw [if_neg]
    intro z
    have : g = 2 + b := by omega
    omega
  · show (if 6 + c = 6 + b then x else S.home (6 + c)) j = _
    rw [if_neg]
    intro z
    have : c = b := by omega
    subst this
    have kρ : ok ρ = true := ok_pre (by rw [← e]; exact kτ) hn
    have e2 := (I.one hg hf kρ (spot_ok hk) hc hb h1).2
    rw [e, e2] at kτ
    exact absurd (spot_leaf kτ hk) (by simp)
theorem put_inv {S : St} (I : Inv B S) {f k b : Nat} {x : Nat → Int} (hf : f < 2) (hk : k < 75) (hb : reach B S f (spot k) = some b) (h1 : S.counts b = 1) : Inv B (S.put (6 + b) x) := by
  intro c hc
  have e : ∀ g, g < 2 → cnt B (S.put (6 + b) x) g c = cnt B S g c := fun g hg => List.countP_congr fun τ hτ => by
    rw [put_reach I hf hk hb h1 hg (paths_ok τ hτ)]
  rw [e 0 (by omega), e 1 (by omega)]
  exact I c hc
theorem put_cell {S : St} (I : Inv B S) {f k b : Nat} {x : Nat → Int} (hf : f < 2) (hk : k < 75) (hb : reach B S f (spot k) = some b) (h1 : S.counts b = 1) {g l i : Nat} (hg : g < 2) (hl : l < 75) :
    cell B (S.put (6 + b) x) g l i = if g = f ∧ l = k then x i else cell B S g l i := by
  unfold cell
  rw [put_reach I hf hk hb h1 hg (spot_ok hl)]
  by_cases h : g = f ∧ l = k
  · rw [if_pos h, h.1, h.2, hb]
    show (if 6 + b = 6 + b then x else S.home (6 + b)) i = _
    rw [if_pos rfl]
  · rw [if_neg h]
    cases q : reach B S g (spot l) with
    | none => rfl
    | some c =>
      show (if 6 + c = 6 + b then x else S.home (6 + c)) i = _
      rw [if_neg]
      intro z
      have : c = b := by omega
      subst this
      obtain ⟨e1, e2⟩ := I.one hg hf (spot_ok hl) (spot_ok hk) q hb h1
      exact h ⟨e1, spot_inj e2⟩
theorem put_top {S : St} {b : Nat} {x : Nat → Int} {g i : Nat} (hg : g < 2) : (S.put (6 + b) x).home (4 + g) i = S.home (4 + g) i := by
  show (if 4 + g = 6 + b then x else S.home (4 + g)) i = _
  rw [if_neg]
  omega
/-! ## the size is put -/
theorem size_reach {S : St} {f : Nat} {z : Int} {g : Nat} {τ : List Nat} (hg : g < 2) (hf : f < 2) (k : ok τ = true) : reach B (S.putc (4 + f) 0 z) g τ = reach B S g τ := by
  refine reach_frame _ τ rfl (fun i r e => ?_) (fun ρ j r c hn e hc => ?_)
  · refine if_neg fun w => ?_
    subst e
    obtain ⟨i', r', e, h1, h2⟩ := ok_head k
    cases e
    omega
  · exact if_neg fun w => by omega
theorem size_inv {S : St} {f : Nat} {z : Int} (hf : f < 2) (I : Inv B S) : Inv B (S.putc (4 + f) 0 z) := by
  intro c hc
  have e : ∀ g, g < 2 → cnt B (S.putc (4 + f) 0 z) g c = cnt B S g c := fun g hg => List.countP_congr fun τ hτ => by
    rw [size_reach hg hf (paths_ok τ hτ)]
  rw [e 0 (by omega), e 1 (by omega)]
  exact I c hc
theorem size_cell {S : St} {f : Nat} {z : Int} {g k i : Nat} (hg : g < 2) (hf : f < 2) (hk : k < 75) : cell B (S.putc (4 + f) 0 z) g k i = cell B S g k i := by
  unfold cell
  rw [size_reach hg hf (spot_ok hk)]
  cases reach B S g (spot k) with
  | none => rfl
  | some b =>
    show (if 6 + b = 4 + f ∧ i = 0 then z else _) = _
    rw [if_neg]; omega
theorem size_top {S : St} {f : Nat} {z : Int} {g : Nat} : (S.putc (4 + f) 0 z).home (4 + g) 0 = if g = f then z else S.home (4 + g) 0 := by
  show (if 4 + g = 4 + f ∧ 0 = 0 then z else _) = _
  by_cases h : g = f
  · rw [if_pos h, if_pos ⟨by omega, rfl⟩]
  · rw [if_neg h, if_neg (by omega)]
/-! ## cut -/
def parts (n : Nat) : Nat := (n + 7) / 8
theorem cut_good {S S' : St} {f n : Nat} {r : Nat → List Int} (hf : f < 2) (G : Good B S r) (hn : n ≤ (r f).length) (c : Cut B S S' f (parts n)) : Good B (S'.putc (4 + f) 0 n) (setr r f ((r f).take n)) := by
  have hm := G.most f hf
  have hp : parts n = (n + 7) / 8 := rfl
  refine ⟨size_inv hf c.inv, fun g hg => ?_, fun g hg => ?_, fun g m hg h => ?_, fun g k hg hk h => ?_⟩
  · rw [size_top, c.top g 0 hg (by omega), G.size g hg]
    by_cases e : g = f
    · rw [if_pos e, e, setr_same, List.length_take, Nat.min_eq_left hn]
    · rw [if_neg e, setr_ne e]
  · by_cases e : g = f
    · rw [e, setr_same, List.length_take]; omega
    · rw [setr_ne e]; exact G.most g hg
  · have hmg := G.most g hg
    by_cases e : g = f
    · subst e
      rw [setr_same, List.length_take] at h
      rw [setr_same, List.getElem?_take, if_pos (by omega), size_cell hg hf (by omega), c.cells g (m / 8) (m % 8) hg (by omega) (by omega) (Or.inr (by omega))]
      exact G.cells g m hg (by omega)
    · rw [setr_ne e] at h ⊢
      rw [size_cell hg hf (by omega), c.cells g (m / 8) (m % 8) hg (by omega) (by omega) (Or.inl e)]
      exact G.cells g m hg h
  · rw [size_reach hg hf (spot_ok hk)]
    by_cases e : g = f
    · subst e
      rw [setr_same, List.length_take] at h
      exact c.gone k (by omega) hk
    · rw [setr_ne e] at h
      exact c.holes g k hg hk (G.holes g k hg hk h)
/-! ## grow -/
structure Clear (B : Nat) (S S' : St) (f n : Nat) : Prop where
  inv : Inv B S'
  holes : ∀ g k, g < 2 → k < 75 → reach B S g (spot k) = none → reach B S' g (spot k) = none
  cells : ∀ g k i, g < 2 → k < 75 → i < 8 → ¬ (g = f ∧ k = n / 8 ∧ n % 8 ≤ i ∧ 0 < n % 8) → cell B S' g k i = cell B S g k i
  zero : ∀ i, 0 < n % 8 → n % 8 ≤ i → i < 8 → cell B S' f (n / 8) i = 0
  top : ∀ g i, g < 2 → i < 3 → S'.home (4 + g) i = S.home (4 + g) i
theorem clear_no {S : St} {f n : Nat} (I : Inv B S) (h : 0 < n % 8 → ∀ i, n % 8 ≤ i → i < 8 → cell B S f (n / 8) i = 0) : Clear B S S f n :=
  ⟨I, fun _ _ _ _ h => h, fun _ _ _ _ _ _ _ => rfl, fun i h0 h1 h2 => h h0 i h1 h2, fun _ _ _ _ => rfl⟩
theorem clear_own {S S' : St} {f n b : Nat} {x : Nat → Int} (hf : f < 2) (hn0 : 0 < n % 8) (h75 : n / 8 < 75) (hs : reach B S f (spot (n / 8)) ≠ none) (o : Own B S S' f (spot (n / 8))) (hb : reach B S' f (spot (n / 8)) = some b) (h1 : S'.counts b = 1)
    (hx : ∀ i, i < 8 → x i = if i < n % 8 then S'.home (6 + b) i else 0) : Clear B S (S'.put (6 + b) x) f n := by
  refine ⟨put_inv o.inv hf h75 hb h1, fun g k hg hk h => ?_, fun g k i hg hk hi h => ?_, fun i h0 h2 h3 => ?_, fun g i hg hi => by rw [put_top hg, o.top g i hg hi]⟩
  · rw [put_reach o.inv hf h75 hb h1 hg (spot_ok hk)]
    by_cases e : g = f ∧ ∃ σ, spot (n / 8) = spot k ++ σ
    · obtain ⟨rfl, σ, e⟩ := e
      exfalso
      refine hs ?_
      rw [e]
      exact reach_pre (ok_ne (spot_ok hk)) h
    · rw [o.other g _ hg (spot_ok hk) e, h]
  · rw [put_cell o.inv hf h75 hb h1 hg hk]
    by_cases e : g = f ∧ k = n / 8
    · rw [if_pos e, hx i hi]
      obtain ⟨rfl, rfl⟩ := e
      have c := o.cells g (n / 8) i hg hk hi
      rw [cell_some hb] at c
      by_cases hi' : i < n % 8
      · rw [if_pos hi', c]
      · rw [if_neg hi']
        exact absurd ⟨rfl, rfl, by omega, hn0⟩ h
    · rw [if_neg e, o.cells g k i hg hk hi]
  · rw [put_cell o.inv hf h75 hb h1 hf h75, if_pos ⟨rfl, rfl⟩, hx i h3, if_neg (by omega)]
theorem Clear.lim {S S' : St} {f n : Nat} (c : Clear B S S' f n) (L : Lim B S) : Lim B S' := fun g hg k h1 h2 => c.holes g k hg h2 (L g hg k h1 h2)
def grown (x : List Int) (n : Nat) : List Int := x ++ List.replicate (n - x.length) 0
theorem grown_len {x : List Int} {n : Nat} (h : x.length ≤ n) : (grown x n).length = n := by
  unfold grown
  rw [List.length_append, List.length_replicate]; omega
theorem grow_good {S S1 S2 : St} {f n : Nat} {r : Nat → List Int} (hf : f < 2) (G : Good B S r) (hn : (r f).length ≤ n) (h440 : n ≤ 440) (c : Clear B S S1 f (r f).length) (d : Cut B S1 S2 f (parts (r f).length)) : Good B (S2.putc (4 + f) 0 n) (setr r f (grown (r f) n)) := by
  have hm := G.most f hf
  have hp : parts (r f).length = ((r f).length + 7) / 8 := rfl
  refine ⟨size_inv hf d.inv, fun g hg => ?_, fun g hg => ?_, fun g m hg h => ?_, fun g k hg hk h => ?_⟩
  · rw [size_top, d.top g 0 hg (by omega), c.top g 0 hg (by omega), G.size g hg]
    by_cases e : g = f
    · rw [if_pos e, e, setr_same, grown_len hn]
    · rw [if_neg e, setr_ne e]
  · by_cases e : g = f
    · rw [e, setr_same, grown_len hn]; exact h440
    · rw [setr_ne e]; exact G.most g hg
  · have hmg := G.most g hg
    by_cases e : g = f
    · subst e
      rw [setr_same, grown_len hn] at h
      rw [setr_same, size_cell hg hf (by omega)]
      unfold grown
      by_cases hl : m < (r g).length
      · rw [List.getElem?_append_left hl, d.cells g (m / 8) (m % 8) hg (by omega) (by omega) (Or.inr (by omega)), c.cells g (m / 8) (m % 8) hg (by omega) (by omega) (by omega)]
        exact G.cells g m hg hl
      · have e1 : (List.replicate (n - (r g).length) (0 : Int))[m - (r g).length]? = some 0 := by
          rw [List.getElem?_replicate, if_pos (by omega)]
        rw [List.getElem?_append_right (by omega), e1]
        congr 1
        by_cases hk : parts (r g).length ≤ m / 8
        · rw [cell_none (d.gone (m / 8) hk (by omega))]
        · rw [d.cells g (m / 8) (m % 8) hg (by omega) (by omega) (Or.inr (by omega))]
          have e2 : m / 8 = (r g).length / 8 := by omega
          rw [e2]
          exact (c.zero (m % 8) (by omega) (by omega) (by omega)).symm
    · rw [setr_ne e] at h ⊢
      rw [size_cell hg hf (by omega), d.cells g (m / 8) (m % 8) hg (by omega) (by omega) (Or.inl e), c.cells g (m / 8) (m % 8) hg (by omega) (by omega) (fun z => e z.1)]
      exact G.cells g m hg h
  · rw [size_reach hg hf (spot_ok hk)]
    by_cases e : g = f
    · subst e
      rw [setr_same, grown_len hn] at h
      exact d.gone k (by omega) hk
    · rw [setr_ne e] at h
      exact d.holes g k hg hk (c.holes g k hg hk (G.holes g k hg hk h))
/-! ## write: part by part -/
structure Wr (B : Nat) (S S' : St) (f start : Nat) (xs : List Int) (k : Nat) : Prop where
  inv : Inv B S'
  far : ∀ g τ, g < 2 → g ≠ f → ok τ = true → reach B S' g τ = reach B S g τ
  cells : ∀ g l i, g < 2 → l < 75 → i < 8 → cell B S' g l i = if g = f ∧ start ≤ 8 * l + i ∧ 8 * l + i < start + xs.length ∧ l < k then xs.getD (8 * l + i - start) 0 else cell B S g l i
  holes : ∀ g l, g < 2 → l < 75 → reach B S g (spot l) = none → (g ≠ f ∨ k ≤ l) → reach B S' g (spot l) = none
  top : ∀ g i, g < 2 → i < 3 → S'.home (4 + g) i = S.home (4 + g) i
theorem Wr.start {S : St} (I : Inv B S) {f start : Nat} {xs : List Int} : Wr B S S f start xs (start / 8) :=
  ⟨I, fun _ _ _ _ _ => rfl, fun g l i _ _ _ => by rw [if_neg]; omega, fun _ _ _ _ h _ => h, fun _ _ _ _ => rfl⟩
theorem Wr.lim {S S' : St} {f start k : Nat} {xs : List Int} (w : Wr B S S' f start xs k) (L : Lim B S) (hk : k ≤ 55) : Lim B S' := fun g hg l h1 h2 => w.holes g l hg h2 (L g hg l h1 h2) (Or.inr (by omega))
theorem Wr.turn {S S1 S2 : St} {f start k b : Nat} {xs : List Int} {x : Nat → Int} (hf : f < 2) (w : Wr B S S1 f start xs k) (h55 : k < 55) (o : Own B S1 S2 f (spot k)) (hb : reach B S2 f (spot k) = some b) (h1 : S2.counts b = 1)
    (hx : ∀ i, i < 8 → x i = if start ≤ 8 * k + i ∧ 8 * k + i < start + xs.length then xs.getD (8 * k + i - start) 0 else S2.home (6 + b) i) : Wr B S (S2.put (6 + b) x) f start xs (k + 1) := by
  refine ⟨put_inv o.inv hf (by omega) hb h1, fun g τ hg hgf kτ => ?_, fun g l i hg hl hi => ?_, fun g l hg hl h hn => ?_, fun g i hg hi => by rw [put_top hg, o.top g i hg hi, w.top g i hg hi]⟩
  · rw [put_reach o.inv hf (by omega) hb h1 hg kτ, o.other g τ hg kτ fun z => hgf z.1, w.far g τ hg hgf kτ]
  · rw [put_cell o.inv hf (by omega) hb h1 hg hl]
    by_cases e : g = f ∧ l = k
    · obtain ⟨rfl, rfl⟩ := e
      rw [if_pos ⟨rfl, rfl⟩, hx i hi]
      have c := o.cells g l i hg hl hi
      rw [cell_some hb, w.cells g l i hg hl hi, if_neg (by omega)] at c
      by_cases h : start ≤ 8 * l + i ∧ 8 * l + i < start + xs.length
      · rw [if_pos h, if_pos ⟨rfl, h.1, h.2, by omega⟩]
      · rw [if_neg h, if_neg (fun z => h ⟨z.2.1, z.2.2.1⟩), c]
    · rw [if_neg e, o.cells g l i hg hl hi, w.cells g l i hg hl hi]
      by_cases h : g = f ∧ start ≤ 8 * l + i ∧ 8 * l + i < start + xs.length ∧ l < k
      · rw [if_pos h, if_pos ⟨h.1, h.2.1, h.2.2.1, by omega⟩]
      · rw [if_neg h, if_neg]
        intro z
        exact h ⟨z.1, z.2.1, z.2.2.1, by
          have : l ≠ k := fun q => e ⟨z.1, q⟩
          omega⟩
  · rw [put_reach o.inv hf (by omega) hb h1 hg (spot_ok hl)]
    by_cases e : g = f ∧ ∃ σ, spot k = spot l ++ σ
    · obtain ⟨rfl, σ, e⟩ := e
      have hσ := spot_leaf (k := l) (τ := σ) (by rw [← e]; exact spot_ok (by omega)) hl
      subst hσ
      rw [List.append_nil] at e
      have := spot_inj e
      omega
    · rw [o.other g _ hg (spot_ok hl) e]
      exact w.holes g l hg hl h (by omega)
def written (x : List Int) (start : Nat) (xs : List Int) : List Int := x.take start ++ List.replicate (start - x.length) 0 ++ xs ++ x.drop (start + xs.length)
theorem written_len {x : List Int} {start : Nat} {xs : List Int} : (written x start xs).length = max x.length (start + xs.length) := by
  unfold written
  simp only [List.length_append, List.length_take, List.length_replicate, List.length_drop]
  omega
theorem written_get {x : List Int} {start : Nat} {xs : List Int} {n : Nat} (h : start ≤ x.length) : (written x start xs)[n]? = if start ≤ n ∧ n < start + xs.length then xs[n - start]? else x[n]? := by
  unfold written
  have e : start - x.length = 0 := by omega
  rw [e]
  simp only [List.replicate_zero, List.append_nil]
  have hl : (x.take start).length = start := by rw [List.length_take]; omega
  by_cases h1 : n < start
  · rw [if_neg (by omega), List.append_assoc, List.getElem?_append_left (by omega), List.getElem?_take, if_pos h1]
  · rw [List.append_assoc, List.getElem?_append_right (by omega), hl]
    by_cases h2 : n < start + xs.length
    · rw [if_pos ⟨by omega, h2⟩, List.getElem?_append_left (by omega)]
    · rw [if_neg (by omega), List.getElem?_append_right (by omega), List.getElem?_drop]
      congr 1; omega
theorem written_grown {x : List Int} {start : Nat} {xs : List Int} : written (grown x start) start xs = written x start xs := by
  by_cases h : x.length ≤ start
  · have hl := grown_len h
    unfold written
    rw [hl, List.take_of_length_le (by omega), List.drop_eq_nil_of_le (by omega), List.drop_eq_nil_of_le (by omega), Nat.sub_self, List.take_of_length_le h]
    unfold grown
    simp
  · have : grown x start = x := by
      unfold grown
      rw [show start - x.length = 0 by omega]; simp
    rw [this]
/-- the end of write: start is not behind the size; z: the size that is put, or stands -/
theorem write_good {S S1 S2 : St} {f start : Nat} {xs : List Int} {r : Nat → List Int} (hf : f < 2) (G : Good B S r) (hs : start ≤ (r f).length) (hx : 0 < xs.length) (h440 : start + xs.length ≤ 440) (w : Wr B S S1 f start xs (parts (start + xs.length)))
    (h2 : S2 = S1.putc (4 + f) 0 (((max (r f).length (start + xs.length) : Nat)) : Int)) : Good B S2 (setr r f (written (r f) start xs)) := by
  subst h2
  have hm := G.most f hf
  have hp : parts (start + xs.length) = (start + xs.length + 7) / 8 := rfl
  refine ⟨size_inv hf w.inv, fun g hg => ?_, fun g hg => ?_, fun g m hg h => ?_, fun g k hg hk h => ?_⟩
  · rw [size_top, w.top g 0 hg (by omega), G.size g hg]
    by_cases e : g = f
    · rw [if_pos e, e, setr_same, written_len]
    · rw [if_neg e, setr_ne e]
  · by_cases e : g = f
    · rw [e, setr_same, written_len]; omega
    · rw [setr_ne e]; exact G.most g hg
  · have hmg := G.most g hg
    by_cases e : g = f
    · subst e
      rw [setr_same, written_len] at h
      rw [setr_same, size_cell hg hf (by omega), w.cells g (m / 8) (m % 8) hg (by omega) (by omega), written_get hs]
      have e8 : 8 * (m / 8) + m % 8 = m := by omega
      rw [e8]
      by_cases h' : start ≤ m ∧ m < start + xs.length
      · rw [if_pos h', if_pos ⟨rfl, h'.1, h'.2, by omega⟩, List.getD_eq_getElem?_getD, List.getElem?_eq_getElem (by omega)]
        rfl
      · rw [if_neg h', if_neg fun z => h' ⟨z.2.1, z.2.2.1⟩]
        exact G.cells g m hg (by omega)
    · rw [setr_ne e] at h ⊢
      rw [size_cell hg hf (by omega), w.cells g (m / 8) (m % 8) hg (by omega) (by omega), if_neg fun z => e z.1]
      exact G.cells g m hg h
  · rw [size_reach hg hf (spot_ok hk)]
    by_cases e : g = f
    · subst e
      rw [setr_same, written_len] at h
      exact w.holes g k hg hk (G.holes g k hg hk (by omega)) (Or.inr (by omega))
    · rw [setr_ne e] at h
      exact w.holes g k hg hk (G.holes g k hg hk h) (Or.inl e)
/-- the size stands: it is put as it is -/
theorem putc_same {S : St} {q j : Nat} {z : Int} (h : S.home q j = z) : S.putc q j z = S := by
  have : (S.putc q j z).home = S.home := by
    funext r i
    show (if r = q ∧ i = j then z else S.home r i) = _
    by_cases e : r = q ∧ i = j
    · rw [if_pos e, e.1, e.2, h]
    · rw [if_neg e]
  show (⟨(S.putc q j z).home, S.counts⟩ : St) = S
  rw [this]
/-! ## a file is dropped, or shares -/
def slots5 : List (Nat × Nat) := [(3, 0), (4, 0), (5, 0), (6, 1), (7, 2)]
def metF (B : Nat) (S : St) (f : Nat) : List Nat := slots5.flatMap fun p => metP B S (S.home (4 + f) p.1) p.2
theorem metF_count {S : St} {f c : Nat} : (metF B S f).count c = cnt B S f c := by
  unfold cnt paths metF slots5
  simp only [List.flatMap_cons, List.flatMap_nil, List.append_nil, List.count_append, List.countP_append, List.countP_map]
  have h : ∀ i l, (metP B S (S.home (4 + f) i) l).count c = (sub l).countP ((fun π => reach B S f π == some c) ∘ fun x => i :: x) := by
    intro i l
    unfold metP
    rw [List.count_eq_countP, List.countP_filterMap]
    refine List.countP_congr fun r _ => ?_
    show ((go B S (blk B (S.home (4 + f) i)) r).map (fun x => x == c)).getD false = true ↔ (go B S (blk B (S.home (4 + f) i)) r == some c) = true
    cases go B S (blk B (S.home (4 + f) i)) r <;> simp
  rw [h, h, h, h, h]
/-- nothing hangs at a file -/
def Bare (B : Nat) (S : St) (f : Nat) : Prop := ∀ τ, ok τ = true → reach B S f τ = none
theorem Bare.cnt {S : St} {f : Nat} (h : Bare B S f) (b : Nat) : cnt B S f b = 0 := cnt_none fun π k e => by rw [h π k] at e; cases e
/-- the plate of a file is put -/
theorem plate_far {S S' : St} {f g : Nat} {x : Nat → Int} {τ : List Nat} (hg : g < 2) (hf : f < 2) (hgf : g ≠ f) (hh : S'.home = (S.put (4 + f) x).home) : reach B S' g τ = reach B S g τ := by
  refine reach_frame _ τ rfl (fun i r e => ?_) (fun ρ j r c hn e hc => ?_)
  · rw [hh]
    show (if 4 + g = 4 + f then x else S.home (4 + g)) i = _
    rw [if_neg]; omega
  · rw [hh]
    show (if 6 + c = 4 + f then x else S.home (6 + c)) j = _
    rw [if_neg]; omega
/-- what drop_file leaves -/
theorem drop_good {S S' : St} {f : Nat} {r : Nat → List Int} (hf : f < 2) (G : Good B S r) (hh : S'.home = (S.put (4 + f) fun _ => 0).home) (hc : ∀ b, b < B → S'.counts b = S.counts b - ((metF B S f).count b : Int)) : Good B S' (setr r f []) ∧ Bare B S' f := by
  have bare : Bare B S' f := by
    intro τ k
    obtain ⟨i, t, rfl, h1, h2⟩ := ok_head k
    have e : i :: t = [i] ++ t := rfl
    rw [e]
    refine reach_pre (by simp) ?_
    show blk B (S'.home (4 + f) i) = none
    rw [hh]
    show blk B ((if 4 + f = 4 + f then fun _ => 0 else S.home (4 + f)) i) = none
    rw [if_pos rfl, blk_zero]
  have far : ∀ g τ, g < 2 → g ≠ f → reach B S' g τ = reach B S g τ := fun g τ hg n => plate_far hg hf n hh
  refine ⟨⟨fun b hb => ?_, fun g hg => ?_, fun g hg => ?_, fun g m hg h => ?_, fun g k hg hk h => ?_⟩, bare⟩
  · have e0 := bare.cnt b
    have e1 : ∀ g, g < 2 → g ≠ f → cnt B S' g b = cnt B S g b := fun g hg n => List.countP_congr fun τ _ => by rw [far g τ hg n]
    rw [hc b hb, metF_count, G.inv b hb]
    have f2 : f = 0 ∨ f = 1 := by omega
    rcases f2 with rfl | rfl
    · rw [e0, e1 1 (by omega) (by omega)]; omega
    · rw [e0, e1 0 (by omega) (by omega)]; omega
  · rw [hh]
    show (if 4 + g = 4 + f then fun _ => 0 else S.home (4 + g)) 0 = _
    by_cases e : g = f
    · rw [e, if_pos rfl, setr_same]; rfl
    · rw [if_neg (by omega), setr_ne e, G.size g hg]
  · by_cases e : g = f
    · rw [e, setr_same]; exact Nat.zero_le _
    · rw [setr_ne e]; exact G.most g hg
  · by_cases e : g = f
    · rw [e, setr_same] at h; exact absurd h (Nat.not_lt_zero _)
    · rw [setr_ne e] at h ⊢
      have e2 : cell B S' g (m / 8) (m % 8) = cell B S g (m / 8) (m % 8) := by
        unfold cell
        rw [far g _ hg e, hh]
        cases reach B S g (spot (m / 8)) with
        | none => rfl
        | some b =>
          show (if 6 + b = 4 + f then fun _ => 0 else S.home (6 + b)) (m % 8) = S.home (6 + b) (m % 8)
          rw [if_neg (by omega)]
      rw [e2]
      exact G.cells g m hg h
  · by_cases e : g = f
    · rw [e]; exact bare _ (spot_ok hk)
    · rw [setr_ne e] at h
      rw [far g _ hg e]; exact G.holes g k hg hk h
/-- what share_file leaves, over a file at which nothing hangs -/
theorem share_good {S S' : St} {f l : Nat} {r : Nat → List Int} {x : Nat → Int} (hf : f < 2) (hl : l < 2) (hfl : f ≠ l) (G : Good B S r) (bare : Bare B S l) (hx : ∀ i, i < 8 → (i = 0 ∨ 3 ≤ i) → x i = S.home (4 + f) i)
    (hh : S'.home = (S.put (4 + l) x).home) (hc : ∀ b, b < B → S'.counts b = S.counts b + ((metF B S f).count b : Int)) : Good B S' (setr r l (r f)) := by
  have far : ∀ g τ, g < 2 → g ≠ l → reach B S' g τ = reach B S g τ := fun g τ hg n => plate_far hg hl n hh
  have blkh : ∀ b i, S'.home (6 + b) i = S.home (6 + b) i := fun b i => by
    rw [hh]
    show (if 6 + b = 4 + l then x else S.home (6 + b)) i = _
    rw [if_neg (by omega)]
  have near : ∀ τ, ok τ = true → reach B S' l τ = reach B S f τ := by
    intro τ k
    obtain ⟨i, t, rfl, h1, h2⟩ := ok_head k
    have e0 : S'.home (4 + l) i = S.home (4 + f) i := by
      rw [hh]
      show (if 4 + l = 4 + l then x else S.home (4 + l)) i = _
      rw [if_pos rfl, hx i (by omega) (Or.inr h1)]
    show go B S' (blk B (S'.home (4 + l) i)) t = go B S (blk B (S.home (4 + f) i)) t
    rw [e0]
    generalize blk B (S.home (4 + f) i) = o
    have : ∀ t o, go B S' o t = go B S o t := by
      intro t
      induction t with
      | nil => intro o; rfl
      | cons j t ih =>
        intro o
        show go B S' (o.bind fun b => blk B (S'.home (6 + b) j)) t = go B S (o.bind fun b => blk B (S.home (6 + b) j)) t
        rw [ih]
        congr 1
        cases o with
        | none => rfl
        | some b => show blk B (S'.home (6 + b) j) = blk B (S.home (6 + b) j); rw [blkh]
    exact this t o
  have cellS : ∀ g g' k i, g < 2 → k < 75 → reach B S' g (spot k) = reach B S g' (spot k) → cell B S' g k i = cell B S g' k i := by
    intro g g' k i hg hk e
    unfold cell
    rw [e]
    cases reach B S g' (spot k) with
    | none => rfl
    | some b => show S'.home (6 + b) i = S.home (6 + b) i; rw [blkh]
  refine ⟨fun b hb => ?_, fun g hg => ?_, fun g hg => ?_, fun g m hg h => ?_, fun g k hg hk h => ?_⟩
  · have e1 : ∀ g, g < 2 → g ≠ l → cnt B S' g b = cnt B S g b := fun g hg n => List.countP_congr fun τ _ => by rw [far g τ hg n]
    have e2 : cnt B S' l b = cnt B S f b := List.countP_congr fun τ hτ => by rw [near τ (paths_ok τ hτ)]
    have e3 := bare.cnt b
    rw [hc b hb, metF_count, G.inv b hb]
    have l2 : (f = 0 ∧ l = 1) ∨ (f = 1 ∧ l = 0) := by omega
    rcases l2 with ⟨rfl, rfl⟩ | ⟨rfl, rfl⟩
    · rw [e1 0 (by omega) (by omega), e2, e3]; omega
    · rw [e1 1 (by omega) (by omega), e2, e3]; omega
  · rw [hh]
    show (if 4 + g = 4 + l then x else S.home (4 + g)) 0 = _
    by_cases e : g = l
    · rw [e, if_pos rfl, setr_same, hx 0 (by omega) (Or.inl rfl), G.size f hf]
    · rw [if_neg (by omega), setr_ne e, G.size g hg]
  · by_cases e : g = l
    · rw [e, setr_same]; exact G.most f hf
    · rw [setr_ne e]; exact G.most g hg
  · by_cases e : g = l
    · subst e
      rw [setr_same] at h ⊢
      have := G.most f hf
      rw [cellS g f (m / 8) (m % 8) hg (by omega) (near _ (spot_ok (by omega)))]
      exact G.cells f m hf h
    · rw [setr_ne e] at h ⊢
      have := G.most g hg
      rw [cellS g g (m / 8) (m % 8) hg (by omega) (far g _ hg e)]
      exact G.cells g m hg h
  · by_cases e : g = l
    · subst e
      rw [setr_same] at h
      rw [near _ (spot_ok hk)]; exact G.holes f k hf hk h
    · rw [setr_ne e] at h
      rw [far g _ hg e]; exact G.holes g k hg hk h
/-- the end: nothing hangs at either -/
theorem all_free {S : St} (I : Inv B S) (h0 : Bare B S 0) (h1 : Bare B S 1) {b : Nat} (hb : b < B) : S.counts b = 0 := by
  rw [I b hb, h0.cnt b, h1.cnt b]; rfl
theorem bare_met {S : St} {f : Nat} (h : Bare B S f) : metF B S f = [] := by
  have : ∀ c, (metF B S f).count c = 0 := fun c => by rw [metF_count, h.cnt c]
  exact List.eq_nil_iff_forall_not_mem.mpr fun c hc => by
    have := List.count_pos_iff.mpr hc
    have := ‹∀ c, _› c
    omega
/-- what content_of tells -/
theorem good_row {S : St} {r : Nat → List Int} (G : Good B S r) {g : Nat} (hg : g < 2) : (List.range (r g).length).map (fun n => cell B S g (n / 8) (n % 8)) = r g := by
  refine List.ext_getElem? fun n => ?_
  rw [List.getElem?_map]
  by_cases h : n < (r g).length
  · rw [List.getElem?_range h, G.cells g n hg h]; rfl
  · rw [List.getElem?_eq_none (by rw [List.length_range]; omega), List.getElem?_eq_none (by omega)]; rfl
theorem good_counts {S : St} {r : Nat → List Int} (G : Good B S r) {b : Nat} (hb : b < B) : S.counts b = (((metF B S 0).count b + (metF B S 1).count b : Nat) : Int) := by
  rw [G.inv b hb, metF_count, metF_count]
end
end K51
set_option maxRecDepth 100000
set_option maxHeartbeats 4000000
namespace K51
open PySem L2
def top (i : Nat) : Stmt := PySem.Challenge.pw_plugproof_k51_whole_numbers.main.body.getD i (.Pass ⟨0, 0, 0, 0⟩)
abbrev s_plates_for : Stmt := top 11
abbrev s_empty_plate : Stmt := top 15
abbrev s_size_at : Stmt := top 17
abbrev s_block_of : Stmt := top 18
abbrev s_pointers_at : Stmt := top 19
abbrev s_met_below : Stmt := top 20
abbrev s_met : Stmt := top 21
abbrev s_counts_of : Stmt := top 22
abbrev s_spot_of : Stmt := top 23
abbrev s_data_block : Stmt := top 24
abbrev s_numbers_at : Stmt := top 25
abbrev s_content_of : Stmt := top 26
abbrev s_is_free : Stmt := top 28
abbrev s_free_blocks : Stmt := top 29
abbrev s_take : Stmt := top 30
abbrev s_own : Stmt := top 31
abbrev s_share : Stmt := top 32
abbrev s_drop : Stmt := top 33
abbrev s_put_number : Stmt := top 35
abbrev s_own_spot : Stmt := top 36
abbrev s_own_data : Stmt := top 37
abbrev s_put_size : Stmt := top 38
abbrev s_parts_behind : Stmt := top 39
abbrev s_are_any : Stmt := top 40
abbrev s_far_place : Stmt := top 41
abbrev s_far_spots : Stmt := top 42
abbrev s_kept_spots : Stmt := top 43
abbrev s_drop_from : Stmt := top 44
abbrev s_drop_parts : Stmt := top 45
abbrev s_clear_tail : Stmt := top 46
abbrev s_grow : Stmt := top 47
abbrev s_cut : Stmt := top 48
abbrev s_write : Stmt := top 49
abbrev s_empty_file : Stmt := top 50
abbrev s_drop_file : Stmt := top 51
abbrev s_share_file : Stmt := top 52
abbrev s_law_number : Stmt := top 54
abbrev s_law_take : Stmt := top 55
abbrev s_law_pick : Stmt := top 56
abbrev s_law_some : Stmt := top 57
abbrev s_law_written : Stmt := top 58
abbrev s_law_step : Stmt := top 59
abbrev s_law : Stmt := top 60
abbrev s_is_whole : Stmt := top 10
abbrev s_Shape_init : Stmt := inClass (top 12) 0
abbrev s_Shape_user_cell : Stmt := inClass (top 12) 6
abbrev s_Shape_file_plate : Stmt := inClass (top 12) 7
abbrev s_Shape_block_plate : Stmt := inClass (top 12) 8
abbrev s_Shape_empty_home : Stmt := inClass (top 12) 9
abbrev s_Draft_init : Stmt := inClass (top 14) 0
abbrev s_Draft_put : Stmt := inClass (top 14) 1
abbrev s_Draft_put_cell : Stmt := inClass (top 14) 2
abbrev s_Draft_count : Stmt := inClass (top 14) 4
abbrev s_Draft_put_count : Stmt := inClass (top 14) 5
/-- a def of the top -/
def FunAt (K : PySem.W.Frag) (mg : Str → Option Value) (x : Str) (st : Stmt) : Prop := ∃ f fd, Fun K x x st f fd ∧ mg x = some (.ref f)
/-- a method -/
def MethAt (K : PySem.W.Frag) (C : Addr) (x qual : Str) (st : Stmt) : Prop := ∃ f fd, Fun K x qual st f fd ∧ Meth K C x f
def InitAt (K : PySem.W.Frag) (C : Addr) (qual : Str) (st : Stmt) : Prop := ∃ f fd, Fun K "__init__" qual st f fd ∧ Mk K C f
/-- a def of the top with two defaults None -/
def FunAt2 (K : PySem.W.Frag) (mg : Str → Option Value) (x : Str) (st : Stmt) : Prop := ∃ f fd, FunD K x x (defArgs st) (defBody st) (defScope st) [.non, .non] [] f fd ∧ mg x = some (.ref f)
structure Tops (K : PySem.W.Frag) (mg : Str → Option Value) (CS CD : Addr) : Prop where
  clShape : Cls K CS
  mgShape : mg "Shape" = some (.ref CS)
  initShape : InitAt K CS "Shape.__init__" s_Shape_init
  na_dirs : NoAttr K CS "dirs"
  na_rows : NoAttr K CS "rows"
  na_files : NoAttr K CS "files"
  na_blocks : NoAttr K CS "blocks"
  na_users : NoAttr K CS "users"
  na_first_row : NoAttr K CS "first_row"
  na_first_user : NoAttr K CS "first_user"
  na_first_file : NoAttr K CS "first_file"
  na_first_block : NoAttr K CS "first_block"
  na_plates : NoAttr K CS "plates"
  m_user_cell : MethAt K CS "user_cell" "Shape.user_cell" s_Shape_user_cell
  m_file_plate : MethAt K CS "file_plate" "Shape.file_plate" s_Shape_file_plate
  m_block_plate : MethAt K CS "block_plate" "Shape.block_plate" s_Shape_block_plate
  m_empty_home : MethAt K CS "empty_home" "Shape.empty_home" s_Shape_empty_home
  clDraft : Cls K CD
  mgDraft : mg "Draft" = some (.ref CD)
  initDraft : InitAt K CD "Draft.__init__" s_Draft_init
  na_shape : NoAttr K CD "shape"
  na_home : NoAttr K CD "home"
  na_counts : NoAttr K CD "counts"
  na_pins : NoAttr K CD "pins"
  na_changes : NoAttr K CD "changes"
  m_put : MethAt K CD "put" "Draft.put" s_Draft_put
  m_put_cell : MethAt K CD "put_cell" "Draft.put_cell" s_Draft_put_cell
  m_count : MethAt K CD "count" "Draft.count" s_Draft_count
  m_put_count : MethAt K CD "put_count" "Draft.put_count" s_Draft_put_count
  f_plates_for : FunAt K mg "plates_for" s_plates_for
  f_empty_plate : FunAt K mg "empty_plate" s_empty_plate
  f_size_at : FunAt K mg "size_at" s_size_at
  f_block_of : FunAt K mg "block_of" s_block_of
  f_pointers_at : FunAt K mg "pointers_at" s_pointers_at
  f_met_below : FunAt K mg "met_below" s_met_below
  f_met : FunAt K mg "met" s_met
  f_counts_of : FunAt K mg "counts_of" s_counts_of
  f_spot_of : FunAt K mg "spot_of" s_spot_of
  f_data_block : FunAt K mg "data_block" s_data_block
  f_numbers_at : FunAt K mg "numbers_at" s_numbers_at
  f_content_of : FunAt K mg "content_of" s_content_of
  f_is_free : FunAt K mg "is_free" s_is_free
  f_free_blocks : FunAt K mg "free_blocks" s_free_blocks
  f_take : FunAt K mg "take" s_take
  f_own : FunAt K mg "own" s_own
  f_share : FunAt K mg "share" s_share
  f_drop : FunAt K mg "drop" s_drop
  f_put_number : FunAt K mg "put_number" s_put_number
  f_own_spot : FunAt K mg "own_spot" s_own_spot
  f_own_data : FunAt K mg "own_data" s_own_data
  f_put_size : FunAt K mg "put_size" s_put_size
  f_parts_behind : FunAt K mg "parts_behind" s_parts_behind
  f_are_any : FunAt K mg "are_any" s_are_any
  f_far_place : FunAt K mg "far_place" s_far_place
  f_far_spots : FunAt K mg "far_spots" s_far_spots
  f_kept_spots : FunAt K mg "kept_spots" s_kept_spots
  f_drop_from : FunAt K mg "drop_from" s_drop_from
  f_drop_parts : FunAt K mg "drop_parts" s_drop_parts
  f_clear_tail : FunAt K mg "clear_tail" s_clear_tail
  f_grow : FunAt K mg "grow" s_grow
  f_cut : FunAt K mg "cut" s_cut
  f_write : FunAt K mg "write" s_write
  f_empty_file : FunAt K mg "empty_file" s_empty_file
  f_drop_file : FunAt K mg "drop_file" s_drop_file
  f_share_file : FunAt K mg "share_file" s_share_file
  f_law_number : FunAt K mg "_law_number" s_law_number
  f_law_take : FunAt K mg "_law_take" s_law_take
  f_law_pick : FunAt K mg "_law_pick" s_law_pick
  f_law_some : FunAt K mg "_law_some" s_law_some
  f_law_written : FunAt K mg "_law_written" s_law_written
  f_law_step : FunAt K mg "_law_step" s_law_step
  f_is_whole : FunAt2 K mg "is_whole" s_is_whole
  z_len : mg "len" = none
  z_range : mg "range" = none
  z_min : mg "min" = none
  z_max : mg "max" = none
  z_int : mg "int" = none
  z_any : mg "any" = none
  z_zip : mg "zip" = none
  z_list : mg "list" = none
  z_tuple : mg "tuple" = none
  z_dict : mg "dict" = none
  z_abs : mg "abs" = none
  z_isinstance : mg "isinstance" = none
  z_bool : mg "bool" = none
  c_WIDTH : ∃ t, mg "WIDTH" = some (.int 8 t)
  c_DIRECT : ∃ t, mg "DIRECT" = some (.int 3 t)
  c_MOST_SIZE : ∃ t, mg "MOST_SIZE" = some (.int 600 t)
section
variable {K : PySem.W.Frag} {mg : Str → Option Value} {h : Heap}
theorem funAt_mk (X : K.In h) (G : h.Ns mainGlobals mg) {x : Str} {st : Stmt} {f : Addr} {oc : Value} {od an : Option Addr} {osl : Array (Option Value)} {kV doc pm cdv ct : Value} (a : PySem.W.nsIn K mainGlobals x = some (some (.ref f)))
    (l : K.lookup f = some ⟨oc, od, .func (PySem.W.fnOf x x (defArgs st) (defBody st) (defScope st) .none kV doc pm an cdv ct), osl⟩) (c : PySem.W.codeIn K cdv x = true) (k : PySem.W.keepIn K (.ref f) = true) : FunAt K mg x st :=
  ⟨f, _, fun_mk l c k, PySem.W.mg_of X G a⟩
theorem methAt_mk {C : Addr} {x qual : Str} {st : Stmt} {f : Addr} {oc : Value} {od an : Option Addr} {osl : Array (Option Value)} {kV doc pm cdv ct : Value} (a : PySem.W.findIn K (.ref C) x = some (some (.ref f))) (i : PySem.W.isFn K (.ref f) = true)
    (l : K.lookup f = some ⟨oc, od, .func (PySem.W.fnOf x qual (defArgs st) (defBody st) (defScope st) .none kV doc pm an cdv ct), osl⟩) (c : PySem.W.codeIn K cdv qual = true) (k : PySem.W.keepIn K (.ref f) = true) : MethAt K C x qual st :=
  ⟨f, _, fun_mk l c k, a, i, k⟩
theorem initAt_mk {C : Addr} {qual : Str} {st : Stmt} {f : Addr} {oc : Value} {od an : Option Addr} {osl : Array (Option Value)} {kV doc pm cdv ct : Value} (mk : PySem.W.makesIn K C = true) (a : PySem.W.findIn K (.ref C) "__init__" = some (some (.ref f))) (i : PySem.W.isFn K (.ref f) = true) (kc : PySem.W.keepIn K (.ref C) = true)
    (l : K.lookup f = some ⟨oc, od, .func (PySem.W.fnOf "__init__" qual (defArgs st) (defBody st) (defScope st) .none kV doc pm an cdv ct), osl⟩) (c : PySem.W.codeIn K cdv qual = true) (k : PySem.W.keepIn K (.ref f) = true) : InitAt K C qual st :=
  ⟨f, _, fun_mk l c k, mk, a, i, kc⟩
theorem const_mk {x : Str} {v : Int} {t : Tok} (X : K.In h) (G : h.Ns mainGlobals mg) (a : PySem.W.nsIn K mainGlobals x = some (some (.int v t))) : ∃ t, mg x = some (.int v t) := ⟨t, PySem.W.mg_of X G a⟩
theorem funAt2_mk (X : K.In h) (G : h.Ns mainGlobals mg) {x : Str} {st : Stmt} {f D : Addr} {o : Obj} {n : Nat} {oc : Value} {od an : Option Addr} {osl : Array (Option Value)} {kV doc pm cdv ct : Value} (a : PySem.W.nsIn K mainGlobals x = some (some (.ref f)))
    (l : K.lookup f = some ⟨oc, od, .func (PySem.W.fnOf x x (defArgs st) (defBody st) (defScope st) (.ref D) kV doc pm an cdv ct), osl⟩) (c : PySem.W.codeIn K cdv x = true) (k : PySem.W.keepIn K (.ref f) = true) (lD : K.lookup D = some o) (dD : o.data = .seq #[.none, .none] n) : FunAt2 K mg x st := by
  have hv : Vals [V.non, V.non] [Value.none, Value.none] := .cons rfl (.cons rfl .nil)
  have hd : DflV K (.ref D) [V.non, V.non] := Or.inr ⟨(fun z => by cases z), D, o, [Value.none, Value.none], n, rfl, lD, dD, hv⟩
  exact ⟨f, _, ⟨⟨oc, od, _, kV, doc, pm, an, cdv, ct, osl, rfl, l, c, hd, Or.inl rfl⟩, k⟩, PySem.W.mg_of X G a⟩
end
end K51
set_option maxRecDepth 100000
set_option maxHeartbeats 4000000
/-! what stands in the heap: a shape, a home, a draft -/
namespace K51
open PySem L2
/-! ### callees -/
def Cal (P : Program) (w : World) (K : PySem.W.Frag) (mg : Str → Option Value) (base : Heap) (x : Str) (ps : List Str) (k : Nat) (sp : Sp) : Prop :=
  ∃ f fd, FnOk P w K mg base CX0 k f fd ps sp ∧ mg x = some (.ref f) ∧ PySem.W.keepIn K (.ref f) = true ∧ Binds K fd ps []
def CalM (P : Program) (w : World) (K : PySem.W.Frag) (mg : Str → Option Value) (base : Heap) (C : Addr) (m : Str) (ps : List Str) (k : Nat) (sp : Sp) : Prop :=
  ∃ f fd, Meth K C m f ∧ FnOk P w K mg base CX0 k f fd ps sp ∧ Binds K fd ps []
def CalI (P : Program) (w : World) (K : PySem.W.Frag) (mg : Str → Option Value) (base : Heap) (C : Addr) (ps : List Str) (k : Nat) (sp : Sp) : Prop :=
  ∃ f fd, Mk K C f ∧ FnOk P w K mg base CX0 k f fd ps sp ∧ Binds K fd ps []
/-! ### values -/
def plateV (x : Nat → Int) : List V := (List.range 8).map fun i => V.int (x i)
theorem plateV_len {x : Nat → Int} : (plateV x).length = 8 := by unfold plateV; rw [List.length_map, List.length_range]
theorem plateV_get {x : Nat → Int} {i : Nat} (h : i < 8) : (plateV x)[i]? = some (.int (x i)) := by
  unfold plateV
  rw [List.getElem?_map, List.getElem?_range h]; rfl
theorem plateV_congr {x y : Nat → Int} (h : ∀ i, i < 8 → x i = y i) : plateV x = plateV y := by
  unfold plateV
  refine List.map_congr_left fun i hi => ?_
  rw [h i (List.mem_range.mp hi)]
def optV : Option Nat → V
  | none => .non
  | some b => .int (b : Int)
theorem optV_none {o : Option Nat} : (optV o = .non) ↔ o = none := by
  cases o with
  | none => simp [optV]
  | some b => simp [optV]
def natsV (l : List Nat) : List V := l.map fun (i : Nat) => V.int (i : Int)
/-! ### the shape, a home -/
structure ShAt (CS : Addr) (H : Hp) (sh : Addr) (B : Nat) : Prop where
  ob : ∃ dx fs, H sh = some (.ins CS dx fs) ∧ fs.lookup ("blocks" : Str) = some (.int B) ∧ fs.lookup ("first_file" : Str) = some (.int 4) ∧ fs.lookup ("first_block" : Str) = some (.int 6) ∧
    fs.lookup ("file_plate" : Str) = none ∧ fs.lookup ("block_plate" : Str) = none
theorem ShAt.same {CS sh : Addr} {H H' : Hp} {B : Nat} (h : ShAt CS H sh B) (s : Same H H') : ShAt CS H' sh B := by
  obtain ⟨dx, fs, e, r⟩ := h.ob
  exact ⟨dx, fs, s _ _ e, r⟩
def HomeAt (H : Hp) (hd : Addr) (B : Nat) (S : St) : Prop :=
  ∃ kvs : List (Key × V), H hd = some (.dK kvs) ∧ kvs.length ≤ 1000 ∧ ∀ q : Nat, q < 6 + B → ∃ t, valV kvs (.inl (q : Int)) = some (.ref t) ∧ H t = some (.tup (plateV (S.home q)))
theorem HomeAt.same {hd : Addr} {H H' : Hp} {B : Nat} {S : St} (h : HomeAt H hd B S) (s : Same H H') : HomeAt H' hd B S := by
  obtain ⟨kvs, e, l, r⟩ := h
  refine ⟨kvs, s _ _ e, l, fun q hq => ?_⟩
  obtain ⟨t, e1, e2⟩ := r q hq
  exact ⟨t, e1, s _ _ e2⟩
/-- reading a plate -/
theorem HomeAt.get {hd : Addr} {H : Hp} {B q : Nat} {S : St} (h : HomeAt H hd B S) (hq : q < 6 + B) : ∃ t, DGet H hd (.int (q : Int)) (some (.ref t)) ∧ H t = some (.tup (plateV (S.home q))) := by
  obtain ⟨kvs, e, l, r⟩ := h
  obtain ⟨t, e1, e2⟩ := r q hq
  refine ⟨t, ?_, e2⟩
  have := DGet.k (k := Sum.inl (q : Int)) e
  rw [e1] at this
  exact this
/-! ### a draft -/
structure DW where
  p : Addr
  sh : Addr
  hd : Addr
  cl : Addr
  pd : Addr
  cd : Addr
structure Dr (CS CD : Addr) (H : Hp) (W : DW) (B : Nat) (S : St) : Prop where
  ob : ∃ dx fs, H W.p = some (.ins CD dx fs) ∧ fs.lookup ("shape" : Str) = some (.ref W.sh) ∧ fs.lookup ("home" : Str) = some (.ref W.hd) ∧ fs.lookup ("counts" : Str) = some (.ref W.cl) ∧ fs.lookup ("pins" : Str) = some (.ref W.pd) ∧ fs.lookup ("changes" : Str) = some (.ref W.cd) ∧
    fs.lookup ("put" : Str) = none ∧ fs.lookup ("put_cell" : Str) = none ∧ fs.lookup ("count" : Str) = none ∧ fs.lookup ("put_count" : Str) = none
  sh : ShAt CS H W.sh B
  home : HomeAt H W.hd B S
  counts : H W.cl = some (.lst ((List.range B).map fun b => V.int (S.counts b)))
  pins : H W.pd = some (.dK [])
  ch : ∃ kvs : List (Key × V), H W.cd = some (.dK kvs) ∧ (kvs.map (·.1)).Nodup ∧ ∀ k ∈ kvs.map (·.1), ∃ q : Nat, q < 6 + B ∧ k = Sum.inl (q : Int)
  n1 : W.hd ≠ W.cd
  n2 : W.hd ≠ W.pd
  n3 : W.pd ≠ W.cd
  lo : 131 ≤ B
  hi : B ≤ 200
/-- all but the draft's own home, counts, changes is kept -/
def Keep (H H' : Hp) (W : DW) : Prop := ∀ a o, H a = some o → a ≠ W.hd → a ≠ W.cl → a ≠ W.cd → H' a = some o
theorem Keep.of {H H' : Hp} {W : DW} (s : Same H H') : Keep H H' W := fun a o e _ _ _ => s a o e
theorem Keep.refl {H : Hp} {W : DW} : Keep H H W := fun _ _ e _ _ _ => e
theorem Keep.trans {H H1 H2 : Hp} {W : DW} (a : Keep H H1 W) (b : Keep H1 H2 W) : Keep H H2 W := fun c o e n1 n2 n3 => b c o (a c o e n1 n2 n3) n1 n2 n3
/-- a new object -/
theorem same_new {H : Hp} {p : Addr} {o : HO} (h : H p = none) : Same H (upd H p o) := fun b u e => by rw [upd_ne (ne_of_none e h)]; exact e
section
variable {CS CD : Addr} {H H' : Hp} {W : DW} {B : Nat} {S : St}
theorem Dr.same (D : Dr CS CD H W B S) (s : Same H H') : Dr CS CD H' W B S := by
  obtain ⟨dx, fs, e, r⟩ := D.ob
  obtain ⟨kvs, e2, r2⟩ := D.ch
  exact ⟨⟨dx, fs, s _ _ e, r⟩, D.sh.same s, D.home.same s, s _ _ D.counts, s _ _ D.pins, ⟨kvs, s _ _ e2, r2⟩, D.n1, D.n2, D.n3, D.lo, D.hi⟩
/-- an object of another kind is none of the draft's own -/
theorem Dr.tup_ne (D : Dr CS CD H W B S) {a : Addr} {xs : List V} (h : H a = some (.tup xs)) : a ≠ W.hd ∧ a ≠ W.cl ∧ a ≠ W.cd := by
  obtain ⟨kvs, e, _⟩ := D.home
  obtain ⟨kvs2, e2, _⟩ := D.ch
  exact ⟨ne_of h e (by intro z; cases z), ne_of h D.counts (by intro z; cases z), ne_of h e2 (by intro z; cases z)⟩
theorem Keep.tup (k : Keep H H' W) (D : Dr CS CD H W B S) {a : Addr} {xs : List V} (h : H a = some (.tup xs)) : H' a = some (.tup xs) := by
  obtain ⟨n1, n2, n3⟩ := D.tup_ne h
  exact k a _ h n1 n2 n3
theorem Keep.ins (k : Keep H H' W) (D : Dr CS CD H W B S) {a C dx : Addr} {fs : List (Str × V)} (h : H a = some (.ins C dx fs)) : H' a = some (.ins C dx fs) := by
  obtain ⟨kvs, e, _⟩ := D.home
  obtain ⟨kvs2, e2, _⟩ := D.ch
  exact k a _ h (ne_of h e (by intro z; cases z)) (ne_of h D.counts (by intro z; cases z)) (ne_of h e2 (by intro z; cases z))
/-- the changes are few -/
theorem ch_few {kvs : List (Key × V)} (nd : (kvs.map (·.1)).Nodup) (h : ∀ k ∈ kvs.map (·.1), ∃ q : Nat, q < 6 + B ∧ k = Sum.inl (q : Int)) (hB : B ≤ 200) : kvs.length ≤ 1000 := by
  have := nodup_le (l := kvs.map (·.1)) (m := (List.range (6 + B)).map fun (q : Nat) => (Sum.inl (q : Int) : Key)) nd fun k hk => by
    obtain ⟨q, hq, e⟩ := h k hk
    rw [e]
    exact List.mem_map.mpr ⟨q, List.mem_range.mpr hq, rfl⟩
  rw [List.length_map, List.length_map, List.length_range] at this
  omega
theorem putK_keys {kvs : List (Key × V)} {k : Key} {v : V} (nd : (kvs.map (·.1)).Nodup) : ((putK kvs k v).map (·.1)).Nodup ∧ ∀ j ∈ (putK kvs k v).map (·.1), j = k ∨ j ∈ kvs.map (·.1) := by
  cases e : valV kvs k with
  | none =>
    refine ⟨nd_putK v nd e, fun j hj => ?_⟩
    rw [putK_new v e, List.map_append] at hj
    rcases List.mem_append.mp hj with z | z
    · exact Or.inr z
    · exact Or.inl (by simpa using z)
  | some u =>
    have hm : (kvs.any fun kv => decide (kv.1 = k)) = true := by rw [valV_any, e]; rfl
    have e1 : (putK kvs k v).map (·.1) = kvs.map (·.1) := by
      unfold putK
      rw [if_pos hm, List.map_map]
      refine List.map_congr_left fun p _ => ?_
      show (if p.1 = k then (p.1, v) else p).1 = p.1
      split <;> rfl
    rw [e1]
    exact ⟨nd, fun j hj => Or.inr hj⟩
theorem putK_same_len {kvs : List (Key × V)} {k : Key} {v u : V} (e : valV kvs k = some u) : (putK kvs k v).length = kvs.length := by
  have hm : (kvs.any fun kv => decide (kv.1 = k)) = true := by rw [valV_any, e]; rfl
  unfold putK
  rw [if_pos hm, List.length_map]
/-- a plate is put -/
theorem dr_put (D : Dr CS CD H W B S) {q : Nat} {t : Addr} {x : Nat → Int} (hq : q < 6 + B) (ht : H t = some (.tup (plateV x))) {kvs ckvs : List (Key × V)} (hk : H W.hd = some (.dK kvs)) (hc : H W.cd = some (.dK ckvs)) :
    Dr CS CD (upd (upd H W.hd (.dK (putK kvs (.inl (q : Int)) (.ref t)))) W.cd (.dK (putK ckvs (.inl (q : Int)) (.ref t)))) W B (S.put q x) ∧ Keep H (upd (upd H W.hd (.dK (putK kvs (.inl (q : Int)) (.ref t)))) W.cd (.dK (putK ckvs (.inl (q : Int)) (.ref t)))) W ∧ kvs.length < sizeLine ∧ ckvs.length < sizeLine := by
  have kp : Keep H (upd (upd H W.hd (.dK (putK kvs (.inl (q : Int)) (.ref t)))) W.cd (.dK (putK ckvs (.inl (q : Int)) (.ref t)))) W := fun a o e a1 a2 a3 => by
    rw [upd_ne a3, upd_ne a1]; exact e
  obtain ⟨dx, fs, e, r⟩ := D.ob
  obtain ⟨dx2, fs2, e2, r2⟩ := D.sh.ob
  obtain ⟨k0, f1, f2, f3⟩ := D.home
  rw [hk] at f1; cases f1
  obtain ⟨c0, g1, g2, g3⟩ := D.ch
  rw [hc] at g1; cases g1
  obtain ⟨b1, b2⟩ := putK_keys (k := Sum.inl (q : Int)) (v := .ref t) g2
  have few : ckvs.length ≤ 1000 := ch_few g2 g3 D.hi
  obtain ⟨t0, o1, o2⟩ := f3 q hq
  refine ⟨⟨⟨dx, fs, kp.ins D e, r⟩, ⟨dx2, fs2, kp.ins D e2, r2⟩, ⟨putK kvs (.inl (q : Int)) (.ref t), by rw [upd_ne D.n1, upd_same], by rw [putK_same_len o1]; exact f2, fun r hr => ?_⟩, ?_, ?_, ⟨putK ckvs (.inl (q : Int)) (.ref t), upd_same, b1, fun k hk' => ?_⟩, D.n1, D.n2, D.n3, D.lo, D.hi⟩, kp, small1000 f2, small1000 few⟩
  · rw [valV_put]
    by_cases hrq : r = q
    · subst hrq
      rw [if_pos rfl]
      refine ⟨t, rfl, ?_⟩
      have : (S.put r x).home r = x := if_pos rfl
      rw [this]
      exact kp.tup D ht
    · rw [if_neg (fun z => hrq (by have := Sum.inl.inj z; omega))]
      obtain ⟨t1, e1, e2⟩ := f3 r hr
      refine ⟨t1, e1, ?_⟩
      have : (S.put q x).home r = S.home r := if_neg hrq
      rw [this]
      exact kp.tup D e2
  · have n1 := ne_of D.counts hk (by intro z; cases z)
    have n2 := ne_of D.counts hc (by intro z; cases z)
    rw [upd_ne n2, upd_ne n1]
    exact D.counts
  · rw [upd_ne D.n3, upd_ne D.n2.symm]
    exact D.pins
  · rcases b2 k hk' with z | z
    · exact ⟨q, hq, z⟩
    · exact g3 k z
theorem range_set {f : Nat → V} {b B : Nat} {v : V} : ((List.range B).map f).set b v = (List.range B).map fun c => if c = b then v else f c := by
  refine List.ext_getElem? fun i => ?_
  rw [List.getElem?_set, List.getElem?_map, List.getElem?_map, List.length_map, List.length_range]
  by_cases hi : i < B
  · rw [List.getElem?_range hi]
    by_cases e : b = i
    · subst e
      rw [if_pos rfl, if_pos hi]
      show some v = some (if b = b then v else f b)
      rw [if_pos rfl]
    · rw [if_neg e]
      show some (f i) = some (if i = b then v else f i)
      rw [if_neg (Ne.symm e)]
  · rw [List.getElem?_eq_none (by rw [List.length_range]; omega)]
    by_cases e : b = i
    · rw [if_pos e, if_neg (by omega)]; rfl
    · rw [if_neg e]; rfl
/-- a count is put -/
theorem dr_count (D : Dr CS CD H W B S) {b : Nat} {v : Int} : Dr CS CD (upd H W.cl (.lst (((List.range B).map fun c => V.int (S.counts c)).set b (.int v)))) W B (S.setc b v) ∧ Keep H (upd H W.cl (.lst (((List.range B).map fun c => V.int (S.counts c)).set b (.int v)))) W := by
  have kp : Keep H (upd H W.cl (.lst (((List.range B).map fun c => V.int (S.counts c)).set b (.int v)))) W := fun a o e _ a2 _ => by rw [upd_ne a2]; exact e
  obtain ⟨dx, fs, e, r⟩ := D.ob
  obtain ⟨dx2, fs2, e2, r2⟩ := D.sh.ob
  obtain ⟨k0, f1, f2, f3⟩ := D.home
  obtain ⟨c0, g1, g2, g3⟩ := D.ch
  refine ⟨⟨⟨dx, fs, kp.ins D e, r⟩, ⟨dx2, fs2, kp.ins D e2, r2⟩, ⟨k0, ?_, f2, fun q hq => ?_⟩, ?_, ?_, ⟨c0, ?_, g2, g3⟩, D.n1, D.n2, D.n3, D.lo, D.hi⟩, kp⟩
  · rw [upd_ne (ne_of f1 D.counts (by intro z; cases z))]; exact f1
  · obtain ⟨t, o1, o2⟩ := f3 q hq
    exact ⟨t, o1, kp.tup D o2⟩
  · rw [upd_same, range_set]
    congr 2
    refine List.map_congr_left fun c _ => ?_
    show (if c = b then V.int v else V.int (S.counts c)) = V.int (if c = b then v else S.counts c)
    split <;> rfl
  · rw [upd_ne (ne_of D.pins D.counts (by intro z; cases z))]; exact D.pins
  · rw [upd_ne (ne_of g1 D.counts (by intro z; cases z))]; exact g1
/-- two states with the same plates and counts (below B) are alike -/
theorem Dr.like {S' : St} (D : Dr CS CD H W B S) (h1 : ∀ q, q < 6 + B → ∀ i, i < 8 → S'.home q i = S.home q i) (h2 : ∀ b, b < B → S'.counts b = S.counts b) : Dr CS CD H W B S' := by
  obtain ⟨k0, f1, f2, f3⟩ := D.home
  refine ⟨D.ob, D.sh, ⟨k0, f1, f2, fun q hq => ?_⟩, ?_, D.pins, D.ch, D.n1, D.n2, D.n3, D.lo, D.hi⟩
  · obtain ⟨t, o1, o2⟩ := f3 q hq
    exact ⟨t, o1, by rw [plateV_congr (h1 q hq)]; exact o2⟩
  · rw [D.counts]
    congr 2
    refine List.map_congr_left fun c hc => ?_
    rw [h2 c (List.mem_range.mp hc)]
end
/-! ### tuples: what comes of +, slices, *, up to what stood -/
section
variable {K : PySem.W.Frag} {H : Hp} {Q : VK} {a b : Addr} {xs ys : List V}
theorem rCat_mk (ha : H a = some (.tup xs)) (hb : H b = some (.tup ys)) (hl : xs.length + ys.length ≤ 10000) (q : ∀ r H', Same H H' → H' r = some (.tup (xs ++ ys)) → Q (.ref r) H') : rCatA K (.ref a) (.ref b) H Q := by
  refine ⟨a, b, xs, ys, rfl, rfl, SqT.of ha, SqT.of hb, Nat.le_trans hl (by decide), fun e => ?_, fun _ e => ?_, fun _ _ p hp => ?_⟩
  · subst e; exact q b H (Same.refl H) hb
  · subst e; exact q a H (Same.refl H) (by rw [List.append_nil]; exact ha)
  · exact q p _ (same_new hp) upd_same
theorem cutV_whole {lo hi : Option Int} (h : HT.sIx xs.length 0 lo = 0 ∧ HT.sIx xs.length xs.length hi = xs.length) : cutV xs lo hi = xs := by
  unfold cutV
  rw [h.1, h.2]
  simp
theorem rSl_mk {lo hi : Option Int} (ha : H a = some (.tup xs)) (q : ∀ r H', Same H H' → H' r = some (.tup (cutV xs lo hi)) → Q (.ref r) H') : rSlA K (.ref a) lo hi H Q := by
  refine ⟨a, xs, rfl, SqT.of ha, fun z => ?_, fun _ p hp => ?_⟩
  · exact q a H (Same.refl H) (by rw [cutV_whole z]; exact ha)
  · exact q p _ (same_new hp) upd_same
theorem rRep_mk {n : Nat} (ha : H a = some (.tup xs)) (hne : xs ≠ []) (hn : n ≤ 1000) (hl : xs.length ≤ 1000) (q : ∀ r H', Same H H' → H' r = some (.tup (List.replicate n xs).flatten) → Q (.ref r) H') : rRepA K (.ref a) (.int (n : Int)) H Q := by
  refine ⟨a, (n : Int), xs, rfl, rfl, SqT.of ha, hne, by omega, by omega, hl, fun e => ?_, fun _ p hp => ?_⟩
  · have : n = 1 := by omega
    subst this
    exact q a H (Same.refl H) (by simp [ha])
  · exact q p _ (same_new hp) (by rw [Int.toNat_natCast]; exact upd_same)
theorem yes_mk {σ : L2.St} {H : Hp} {A C : Hp → Prop} (h : A H) : tYes σ H (fun b H3 => if b = true then A H3 else C H3) := by
  show if true = true then A H else C H
  rw [if_pos rfl]; exact h
theorem rRepB_mk {c : Bool} {l : Addr} {v : V} {H : Hp} {Q : VK} (h : H l = some (.lst [v])) (q : ∀ p, H p = none → Q (.ref p) (upd H p (.lst (if c = true then [v] else [])))) : rRep (.ref l) (.int (if c = true then 1 else 0)) H Q := by
  cases c with
  | false =>
    refine ⟨l, _, _, rfl, rfl, h, by decide, by decide, (by show 1 * 0 ≤ sizeLine; decide), fun p hp => ?_⟩
    exact q p hp
  | true =>
    refine ⟨l, _, _, rfl, rfl, h, by decide, by decide, (by show 1 * 1 ≤ sizeLine; decide), fun p hp => ?_⟩
    exact q p hp
theorem or_mk {i j : Nat} {σ : L2.St} {H : Hp} {Q : VK} {c d : Bool} (h1 : σ[i]? = some (some (.bl c))) (h2 : σ[j]? = some (some (.bl d))) (q : Q (.bl (c || d)) H) : tOrV (tVar i) (tVar j) σ H Q := by
  refine ⟨_, h1, c, rfl, ?_⟩
  cases c with
  | false => exact iteF ⟨_, h2, q⟩
  | true => exact iteT q
theorem tC_mk {v : V} {σ : L2.St} {H : Hp} {Q : VK} (h : Q v H) : tC v σ H Q := h
theorem noPart {σ : L2.St} {H : Hp} {R : Option Int → Hp → Prop} (h : R none H) : tNoPart σ H R := h
theorem rep_one {n : Nat} {v : V} : (List.replicate n [v]).flatten = List.replicate n v := by
  induction n with
  | zero => rfl
  | succ n ih => rw [List.replicate_succ, List.flatten_cons, ih]; rfl
theorem rep_int {n : Nat} {v : Int} : List.replicate n (V.int v) = (List.replicate n v).map V.int := by
  rw [List.map_replicate]
theorem cut_take {x : List V} {j : Nat} (h : j ≤ x.length) : cutV x none (some (j : Int)) = x.take j := by
  unfold cutV
  rw [HT.sIx_none, HT.sIx_nat]
  simp only [List.drop_zero, Nat.sub_zero]
  rw [Nat.min_eq_left h]
theorem cut_take' {x : List V} {j : Nat} : cutV x none (some (j : Int)) = x.take j := by
  unfold cutV
  rw [HT.sIx_none, HT.sIx_nat]
  simp only [List.drop_zero, Nat.sub_zero]
  by_cases h : j ≤ x.length
  · rw [Nat.min_eq_left h]
  · rw [Nat.min_eq_right (by omega), List.take_of_length_le (by omega), List.take_of_length_le (by omega)]
theorem cut_drop {x : List V} {j : Nat} : cutV x (some (j : Int)) none = x.drop j := by
  unfold cutV
  rw [HT.sIx_none, HT.sIx_nat]
  by_cases h : j ≤ x.length
  · rw [Nat.min_eq_left h, List.take_of_length_le]
    rw [List.length_drop]; omega
  · rw [Nat.min_eq_right (by omega), List.drop_eq_nil_of_le (by omega : x.length ≤ j), List.drop_eq_nil_of_le (Nat.le_refl _)]
    simp
theorem cut_mid {x : List V} {i j : Nat} (h : i ≤ j) : cutV x (some (i : Int)) (some (j : Int)) = (x.drop i).take (j - i) := by
  unfold cutV
  rw [HT.sIx_nat, HT.sIx_nat]
  by_cases h1 : i ≤ x.length
  · rw [Nat.min_eq_left h1]
    by_cases h2 : j ≤ x.length
    · rw [Nat.min_eq_left h2]
    · rw [Nat.min_eq_right (by omega), List.take_of_length_le (by rw [List.length_drop]; omega), List.take_of_length_le (by rw [List.length_drop]; omega)]
  · rw [Nat.min_eq_right (by omega), Nat.min_eq_right (by omega), List.drop_eq_nil_of_le (by omega : x.length ≤ i), List.drop_eq_nil_of_le (Nat.le_refl _)]
    simp
end
theorem plate_cell {x : Nat → Int} {j : Nat} {v : Int} (h : j < 8) : ((plateV x).take j ++ [V.int v]) ++ (plateV x).drop (j + 1) = plateV (fun i => if i = j then v else x i) := by
  refine List.ext_getElem? fun i => ?_
  have hl : ((plateV x).take j).length = j := by rw [List.length_take, plateV_len]; omega
  by_cases hi : i < 8
  · rw [plateV_get hi]
    by_cases h1 : i < j
    · rw [List.append_assoc, List.getElem?_append_left (by omega), List.getElem?_take, if_pos h1, plateV_get hi, if_neg (by omega)]
    · by_cases h2 : i = j
      · subst h2
        rw [List.append_assoc, List.getElem?_append_right (by omega), hl, Nat.sub_self, if_pos rfl]
        rfl
      · rw [List.getElem?_append_right (by rw [List.length_append, hl]; simp; omega), List.length_append, hl, List.getElem?_drop, if_neg h2]
        rw [show j + 1 + (i - (j + [V.int v].length)) = i by simp; omega, plateV_get hi]
  · rw [List.getElem?_eq_none (by simp [plateV_len]; omega), List.getElem?_eq_none (by rw [plateV_len]; omega)]
/-! ### data compared -/
theorem dpAll_ints {K : PySem.W.Frag} {H : Hp} : ∀ ns : List Int, DpAll K H (ns.map V.int) (ns.map PyData.int)
  | [] => .nil
  | n :: ns => .cons (.int n) (dpAll_ints ns)
theorem canLay_ints : ∀ ns : List Int, PyData.canLayAll0 (ns.map PyData.int) = true
  | [] => rfl
  | n :: ns => by
    show (PyData.canLay0 (.int n) && PyData.canLayAll0 (ns.map PyData.int)) = true
    rw [canLay_ints ns]; rfl
theorem depth_ints : ∀ ns : List Int, PyData.depthAll (ns.map PyData.int) = 0
  | [] => rfl
  | n :: ns => by
    show max (PyData.depth (.int n)) (PyData.depthAll (ns.map PyData.int)) = 0
    rw [depth_ints ns]; rfl
theorem shaped_li (ns : List Int) : SeqAt.shaped (.list (ns.map PyData.int)) = true := by
  show (PyData.canLayAll0 (ns.map PyData.int) && decide (PyData.depthAll (ns.map PyData.int) + 1 ≤ 64)) = true
  rw [canLay_ints, depth_ints]; rfl
theorem shaped_ti (ns : List Int) : SeqAt.shaped (.tuple (ns.map PyData.int)) = true := by
  show (PyData.canLayAll0 (ns.map PyData.int) && decide (PyData.depthAll (ns.map PyData.int) + 1 ≤ 64)) = true
  rw [canLay_ints, depth_ints]; rfl
theorem eqv_li (ns : List Int) : PyData.eqv (.list (ns.map PyData.int)) (.list (ns.map PyData.int)) = true := SeqAt.eqv_refl _ (canLay_ints ns)
theorem natsV_eq {L : List Nat} : natsV L = (L.map fun (i : Nat) => (i : Int)).map V.int := by unfold natsV; rw [List.map_map]; rfl
/-! ### rows compared -/
def dRow (r : List Int) : PyData := .tuple (r.map PyData.int)
theorem canLay_rows : ∀ rs : List (List Int), PyData.canLayAll0 (rs.map dRow) = true
  | [] => rfl
  | r :: rs => by
    show (PyData.canLayAll0 (r.map PyData.int) && PyData.canLayAll0 (rs.map dRow)) = true
    rw [canLay_ints, canLay_rows rs]; rfl
theorem depth_rows : ∀ rs : List (List Int), PyData.depthAll (rs.map dRow) ≤ 1
  | [] => Nat.zero_le _
  | r :: rs => by
    show max (PyData.depthAll (r.map PyData.int) + 1) (PyData.depthAll (rs.map dRow)) ≤ 1
    rw [depth_ints]
    have := depth_rows rs
    omega
theorem shaped_rows (rs : List (List Int)) : SeqAt.shaped (.list (rs.map dRow)) = true := by
  show (PyData.canLayAll0 (rs.map dRow) && decide (PyData.depthAll (rs.map dRow) + 1 ≤ 64)) = true
  have := depth_rows rs
  rw [canLay_rows, decide_eq_true (by omega)]; rfl
theorem eqv_rows (rs : List (List Int)) : PyData.eqv (.list (rs.map dRow)) (.list (rs.map dRow)) = true := SeqAt.eqv_refl _ (canLay_rows rs)
theorem dp_rows {K : PySem.W.Frag} {H : Hp} : ∀ (ts : List Addr) (rs : List (List Int)), ts.length = rs.length → (∀ (j : Nat) (t : Addr) (r : List Int), ts[j]? = some t → rs[j]? = some r → H t = some (.tup (r.map V.int))) → DpAll K H (ts.map V.ref) (rs.map dRow)
  | [], [], _, _ => .nil
  | [], _ :: _, h, _ => by cases h
  | _ :: _, [], h, _ => by cases h
  | t :: ts, r :: rs, h, q => .cons (.tup (SqT.of (q 0 t r rfl rfl)) (dpAll_ints r)) (dp_rows ts rs (Nat.succ.inj h) fun j t' r' h1 h2 => q (j + 1) t' r' h1 h2)
/-- lists other than the counts may change -/
theorem Dr.lists {CS CD : Addr} {H H' : Hp} {W : DW} {B : Nat} {S : St} (D : Dr CS CD H W B S) (h : ∀ a o, H a = some o → (a = W.cl ∨ ∀ xs, o ≠ .lst xs) → H' a = some o) : Dr CS CD H' W B S := by
  obtain ⟨dx, fs, e, r⟩ := D.ob
  obtain ⟨dx2, fs2, e2, r2⟩ := D.sh.ob
  obtain ⟨k0, f1, f2, f3⟩ := D.home
  obtain ⟨c0, g1, g2, g3⟩ := D.ch
  refine ⟨⟨dx, fs, h _ _ e (Or.inr fun xs z => by cases z), r⟩, ⟨dx2, fs2, h _ _ e2 (Or.inr fun xs z => by cases z), r2⟩, ⟨k0, h _ _ f1 (Or.inr fun xs z => by cases z), f2, fun q hq => ?_⟩, h _ _ D.counts (Or.inl rfl), h _ _ D.pins (Or.inr fun xs z => by cases z), ⟨c0, h _ _ g1 (Or.inr fun xs z => by cases z), g2, g3⟩, D.n1, D.n2, D.n3, D.lo, D.hi⟩
  obtain ⟨t, o1, o2⟩ := f3 q hq
  exact ⟨t, o1, h _ _ o2 (Or.inr fun xs z => by cases z)⟩
end K51
set_option maxRecDepth 100000
set_option maxHeartbeats 4000000
namespace K51
open PySem L2
section
variable {P : Program} {w : World} {K : PySem.W.Frag} {mg : Str → Option Value} {base : Heap} {CS CD : Addr}
/-! ### the shape's methods -/
def spFile (CS : Addr) : Sp := fun vs H Q _ => ∃ (sh : Addr) (B f : Nat), vs = [.ref sh, .int (f : Int)] ∧ ShAt CS H sh B ∧ Q (.int ((4 + f : Nat) : Int)) H
def spBlock (CS : Addr) : Sp := fun vs H Q _ => ∃ (sh : Addr) (B b : Nat), vs = [.ref sh, .int (b : Int)] ∧ ShAt CS H sh B ∧ Q (.int ((6 + b : Nat) : Int)) H
theorem sc_Shape_file_plate : FnScope ["self", "file"] ["self", "file"] (defScope s_Shape_file_plate) := ⟨rfl, rfl, rfl, by decide +kernel, rfl, by decide +kernel, by decide +kernel⟩
theorem ok_file_plate (T : Tops K mg CS CD) : CalM P w K mg base CS "file_plate" ["self", "file"] 1 (spFile CS) := by
  obtain ⟨f, fd, F, m⟩ := T.m_file_plate
  refine ⟨f, fd, m, F.ok sc_Shape_file_plate (fun vs H Q E h => ?_) (fun cdv A outer s H vs Q E hr h => ?_), F.binds (ps := ["self", "file"]) fun _ _ _ _ _ _ us hl => match us, hl with | [_, _], _ => rfl⟩
  · obtain ⟨sh, B, f, rfl, _⟩ := h
    rfl
  · obtain ⟨sh, B, f, rfl, hs, q⟩ := h
    obtain ⟨dx, fs, e, e1, e2, e3, _⟩ := hs.ob
    refine ⟨_, (pss_one (ps_ret (pe_op op_add (pe_fld (pv 0) rfl) (pv 1)))), ?_⟩
    refine ⟨_, rfl, sh, CS, dx, fs, _, rfl, e, T.clShape, T.na_first_file, e2, _, rfl, _, _, rfl, rfl, ?_⟩
    show Q (.int (4 + (f : Int))) H
    rw [show (4 : Int) + (f : Int) = ((4 + f : Nat) : Int) by omega]
    exact q
theorem sc_Shape_block_plate : FnScope ["self", "block"] ["self", "block"] (defScope s_Shape_block_plate) := ⟨rfl, rfl, rfl, by decide +kernel, rfl, by decide +kernel, by decide +kernel⟩
theorem ok_block_plate (T : Tops K mg CS CD) : CalM P w K mg base CS "block_plate" ["self", "block"] 1 (spBlock CS) := by
  obtain ⟨f, fd, F, m⟩ := T.m_block_plate
  refine ⟨f, fd, m, F.ok sc_Shape_block_plate (fun vs H Q E h => ?_) (fun cdv A outer s H vs Q E hr h => ?_), F.binds (ps := ["self", "block"]) fun _ _ _ _ _ _ us hl => match us, hl with | [_, _], _ => rfl⟩
  · obtain ⟨sh, B, f, rfl, _⟩ := h
    rfl
  · obtain ⟨sh, B, f, rfl, hs, q⟩ := h
    obtain ⟨dx, fs, e, e1, e2, e3, _⟩ := hs.ob
    refine ⟨_, (pss_one (ps_ret (pe_op op_add (pe_fld (pv 0) rfl) (pv 1)))), ?_⟩
    refine ⟨_, rfl, sh, CS, dx, fs, _, rfl, e, T.clShape, T.na_first_block, e3, _, rfl, _, _, rfl, rfl, ?_⟩
    show Q (.int (6 + (f : Int))) H
    rw [show (6 : Int) + (f : Int) = ((6 + f : Nat) : Int) by omega]
    exact q
/-! ### the draft's methods -/
def spPut (CS CD : Addr) : Sp := fun vs H Q _ => ∃ (W : DW) (B : Nat) (S : St) (q : Nat) (t : Addr) (x : Nat → Int), vs = [.ref W.p, .int (q : Int), .ref t] ∧ Dr CS CD H W B S ∧ q < 6 + B ∧ H t = some (.tup (plateV x)) ∧
  ∀ H', Dr CS CD H' W B (S.put q x) → Keep H H' W → Q .non H'
theorem sc_Draft_put : FnScope ["self", "number", "plate"] ["self", "number", "plate"] (defScope s_Draft_put) := ⟨rfl, rfl, rfl, by decide +kernel, rfl, by decide +kernel, by decide +kernel⟩
theorem ok_put (T : Tops K mg CS CD) : CalM P w K mg base CD "put" ["self", "number", "plate"] 1 (spPut CS CD) := by
  obtain ⟨f, fd, F, m⟩ := T.m_put
  refine ⟨f, fd, m, F.ok sc_Draft_put (fun vs H Q E h => ?_) (fun cdv A outer s H vs Q E hr h => ?_), F.binds (ps := ["self", "number", "plate"]) fun _ _ _ _ _ _ us hl => match us, hl with | [_, _, _], _ => rfl⟩
  · obtain ⟨W, B, S, q, t, x, rfl, _⟩ := h
    rfl
  · obtain ⟨W, B, S, q, t, x, rfl, D, hq, ht, k⟩ := h
    have hu := hu_of hr
    obtain ⟨dx, fs, e, _, f2, _, _, f5, _⟩ := D.ob
    obtain ⟨kvs, hk, _⟩ := id D.home
    obtain ⟨ckvs, hc, _⟩ := id D.ch
    obtain ⟨D', kp, z1, z2⟩ := dr_put D hq ht hk hc
    have e' : ∀ o, upd H W.hd o W.p = some (.ins CD dx fs) := fun o => by rw [upd_ne (ne_of e hk (by intro z; cases z))]; exact e
    refine ⟨_, (pss_cons (ps_dput hu (pe_fld (pv 0) rfl) (pv 1) (pv 2) rfl) (pss_one (ps_dput hu (pe_fld (pv 0) rfl) (pv 1) (pv 2) rfl))), ?_⟩
    refine ⟨_, rfl, _, rfl, W.p, CD, dx, fs, _, rfl, e, T.clDraft, T.na_home, f2, _, rfl, W.hd, _, rfl, DPut.k (k := Sum.inl (q : Int)) hk z1, ?_⟩
    refine ⟨_, rfl, _, rfl, W.p, CD, dx, fs, _, rfl, e' _, T.clDraft, T.na_changes, f5, _, rfl, W.cd, _, rfl, DPut.k (k := Sum.inl (q : Int)) (by rw [upd_ne D.n1.symm]; exact hc) z2, ?_⟩
    exact k _ D' kp
def spPutCell (CS CD : Addr) : Sp := fun vs H Q _ => ∃ (W : DW) (B : Nat) (S : St) (q j : Nat) (v : Int) (pl : Addr), vs = [.ref W.p, .ref pl, .int v] ∧ H pl = some (.tup [.int (q : Int), .int (j : Int)]) ∧ Dr CS CD H W B S ∧ q < 6 + B ∧ j < 8 ∧
  ∀ H', Dr CS CD H' W B (S.putc q j v) → Keep H H' W → Q .non H'
theorem sc_Draft_put_cell : FnScope ["self", "place", "value", "plate"] ["self", "place", "value"] (defScope s_Draft_put_cell) := ⟨rfl, rfl, rfl, by decide +kernel, rfl, by decide +kernel, by decide +kernel⟩
theorem ok_put_cell (T : Tops K mg CS CD) : CalM P w K mg base CD "put_cell" ["self", "place", "value"] 2 (spPutCell CS CD) := by
  obtain ⟨f, fd, F, m⟩ := T.m_put_cell
  obtain ⟨f1, fd1, M_put, GM_put, bM_put⟩ := ok_put (P := P) (w := w) (base := base) T
  refine ⟨f, fd, m, F.ok sc_Draft_put_cell (fun vs H Q E h => ?_) (fun cdv A outer s H vs Q E hr h => ?_), F.binds (ps := ["self", "place", "value"]) fun _ _ _ _ _ _ us hl => match us, hl with | [_, _, _], _ => rfl⟩
  · obtain ⟨W, B, S, q, j, v, pl, rfl, _⟩ := h
    rfl
  · obtain ⟨W, B, S, q, j, v, pl, rfl, hp, D, hq, hj, k⟩ := h
    have hu := hu_of hr
    obtain ⟨dx, fs, e, _, f2, _, _, _, f6, _⟩ := D.ob
    obtain ⟨t, g, ht⟩ := D.home.get hq
    refine ⟨_, (pss_cons (ps_set (i := 3) sc_Draft_put_cell.nd rfl (Or.inl rfl) (pe_dget hu (pe_fld (pv 0) rfl) (pe_ix ix_tup (pv 1) pe_int (fun _ _ => rfl)) (fun _ _ => rfl))) (pss_one (ps_expr (pe_meth (pv 0) T.clDraft M_put GM_put (hr.mono (by omega)) bM_put .nil pass0 (pa_cons (pe_ix ix_tup (pv 1) pe_int (fun _ _ => rfl)) (pa_cons (pe_op op_catA (pe_op op_catA (pe_slice sl_tupA (pv 3) po_none (po_some (pe_ix ix_tup (pv 1) pe_int (fun _ _ => rfl)))) (pe_tup (pa_cons (pv 2) pa_nil))) (pe_slice sl_tupA (pv 3) (po_some (pe_op op_add (pe_ix ix_tup (pv 1) pe_int (fun _ _ => rfl)) pe_int)) po_none)) pa_nil)))))), ?_⟩
    have i0 : atI [V.int (q : Int), V.int (j : Int)] 0 = some (.int (q : Int)) := rfl
    have i1 : atI [V.int (q : Int), V.int (j : Int)] 1 = some (.int (j : Int)) := rfl
    have hl : (plateV (S.home q)).length = 8 := plateV_len
    -- plate = self.home[place[0]]
    refine ⟨_, rfl, W.p, CD, dx, fs, _, rfl, e, T.clDraft, T.na_home, f2, _, rfl, pl, _, _, _, rfl, rfl, SqT.of hp, i0, W.hd, _, rfl, g, ?_⟩
    -- self.put(place[0], plate[:place[1]] + (value,) + plate[place[1] + 1:])
    refine ⟨_, rfl, W.p, dx, fs, rfl, e, f6, _, rfl, pl, _, _, _, rfl, rfl, SqT.of hp, i0, ?_⟩
    refine ⟨_, rfl, _, rfl, pl, _, _, _, rfl, rfl, SqT.of hp, i1, (j : Int), rfl, rSl_mk ht fun a H1 s1 ha => ?_⟩
    refine ⟨_, rfl, (by show 1 ≤ sizeLine; decide), fun b hb => ?_⟩
    have s2 := s1.trans (same_new (o := HO.tup [V.int v]) hb)
    have l1 : (cutV (plateV (S.home q)) none (some (j : Int))).length ≤ 8 := by rw [← hl]; exact cutV_length _ _ _
    refine rCat_mk ((same_new hb) _ _ ha) upd_same (by simp only [List.length_cons, List.length_nil]; omega) fun c H2 s3 hc => ?_
    have s4 := s2.trans s3
    refine ⟨_, rfl, _, rfl, pl, _, _, _, rfl, rfl, SqT.of (s4 _ _ hp), i1, _, _, rfl, rfl, _, rfl, ?_⟩
    have ej : (j : Int) + 1 = ((j + 1 : Nat) : Int) := by omega
    refine noPart (rSl_mk (s4 _ _ ht) fun d H3 s5 hd => ?_)
    rw [ej] at hd
    have l2 : (cutV (plateV (S.home q)) (some ((j + 1 : Nat) : Int)) none).length ≤ 8 := by rw [← hl]; exact cutV_length _ _ _
    refine rCat_mk (s5 _ _ hc) hd (by simp only [List.length_append, List.length_cons, List.length_nil]; omega) fun r H4 s6 hr' => ?_
    have s7 := (s4.trans s5).trans s6
    rw [cut_take', cut_drop, plate_cell hj] at hr'
    refine ⟨W, B, S, q, r, _, rfl, D.same s7, hq, hr', fun H5 D5 k5 => ?_⟩
    refine k H5 ?_ ((Keep.of s7).trans k5)
    refine D5.like (fun q' _ i _ => ?_) (fun b _ => rfl)
    show (if q' = q ∧ i = j then v else S.home q' i) = (if q' = q then (fun i => if i = j then v else S.home q i) else S.home q') i
    by_cases e1 : q' = q
    · subst e1
      rw [if_pos rfl]
      by_cases e2 : i = j
      · rw [if_pos ⟨rfl, e2⟩, if_pos e2]
      · rw [if_neg (fun z => e2 z.2), if_neg e2]
    · rw [if_neg (fun z => e1 z.1), if_neg e1]
def spCount (CS CD : Addr) : Sp := fun vs H Q _ => ∃ (W : DW) (B : Nat) (S : St) (b : Nat), vs = [.ref W.p, .int (b : Int)] ∧ Dr CS CD H W B S ∧ b < B ∧ Q (.int (S.counts b)) H
theorem sc_Draft_count : FnScope ["self", "block"] ["self", "block"] (defScope s_Draft_count) := ⟨rfl, rfl, rfl, by decide +kernel, rfl, by decide +kernel, by decide +kernel⟩
theorem ok_count (T : Tops K mg CS CD) : CalM P w K mg base CD "count" ["self", "block"] 1 (spCount CS CD) := by
  obtain ⟨f, fd, F, m⟩ := T.m_count
  refine ⟨f, fd, m, F.ok sc_Draft_count (fun vs H Q E h => ?_) (fun cdv A outer s H vs Q E hr h => ?_), F.binds (ps := ["self", "block"]) fun _ _ _ _ _ _ us hl => match us, hl with | [_, _], _ => rfl⟩
  · obtain ⟨W, B, S, b, rfl, _⟩ := h
    rfl
  · obtain ⟨W, B, S, b, rfl, D, hb, k⟩ := h
    obtain ⟨dx, fs, e, _, _, f3, _⟩ := D.ob
    refine ⟨_, (pss_one (ps_ret (pe_ix ix_list (pe_fld (pv 0) rfl) (pv 1) (fun _ _ => rfl)))), ?_⟩
    refine ⟨_, rfl, W.p, CD, dx, fs, _, rfl, e, T.clDraft, T.na_counts, f3, _, rfl, W.cl, _, _, _, rfl, rfl, SqL.of D.counts, atI_nat (j := b) ?_, k⟩
    rw [List.getElem?_map, List.getElem?_range hb]; rfl
def spPutCount (CS CD : Addr) : Sp := fun vs H Q _ => ∃ (W : DW) (B : Nat) (S : St) (b : Nat) (v : Int), vs = [.ref W.p, .int (b : Int), .int v] ∧ Dr CS CD H W B S ∧ b < B ∧
  ∀ H', Dr CS CD H' W B (S.setc b v) → Keep H H' W → Q .non H'
theorem sc_Draft_put_count : FnScope ["self", "block", "value"] ["self", "block", "value"] (defScope s_Draft_put_count) := ⟨rfl, rfl, rfl, by decide +kernel, rfl, by decide +kernel, by decide +kernel⟩
theorem ok_put_count (T : Tops K mg CS CD) : CalM P w K mg base CD "put_count" ["self", "block", "value"] 1 (spPutCount CS CD) := by
  obtain ⟨f, fd, F, m⟩ := T.m_put_count
  refine ⟨f, fd, m, F.ok sc_Draft_put_count (fun vs H Q E h => ?_) (fun cdv A outer s H vs Q E hr h => ?_), F.binds (ps := ["self", "block", "value"]) fun _ _ _ _ _ _ us hl => match us, hl with | [_, _, _], _ => rfl⟩
  · obtain ⟨W, B, S, b, v, rfl, _⟩ := h
    rfl
  · obtain ⟨W, B, S, b, v, rfl, D, hb, k⟩ := h
    obtain ⟨dx, fs, e, _, _, f3, _⟩ := D.ob
    refine ⟨_, (pss_one (ps_asg (pv 2) (pg_sub (pe_fld (pv 0) rfl) (pv 1) set_list))), ?_⟩
    have hix : ixN ((List.range B).map fun c => V.int (S.counts c)).length (b : Int) = some b := by
      unfold ixN
      rw [if_pos (by omega), List.length_map, List.length_range, if_pos (by omega), Int.toNat_natCast]
    obtain ⟨D', kp⟩ := dr_count D (b := b) (v := v)
    refine ⟨_, rfl, _, rfl, W.p, CD, dx, fs, _, rfl, e, T.clDraft, T.na_counts, f3, _, rfl, W.cl, _, _, _, rfl, rfl, D.counts, hix, ?_⟩
    exact k _ D' kp
end
end K51
set_option maxRecDepth 100000
set_option maxHeartbeats 4000000
namespace K51
open PySem L2
section
variable {P : Program} {w : World} {K : PySem.W.Frag} {mg : Str → Option Value} {base : Heap} {CS CD : Addr}
def spBlockOf (CS : Addr) : Sp := fun vs H Q _ => ∃ (sh : Addr) (B : Nat) (p : Int), vs = [.ref sh, .int p] ∧ ShAt CS H sh B ∧ Q (optV (blk B p)) H
theorem sc_block_of : FnScope ["shape", "pointer"] ["shape", "pointer"] (defScope s_block_of) := ⟨rfl, rfl, rfl, by decide +kernel, rfl, by decide +kernel, by decide +kernel⟩
theorem ok_block_of (T : Tops K mg CS CD) : Cal P w K mg base "block_of" ["shape", "pointer"] 1 (spBlockOf CS) := by
  obtain ⟨f, fd, F, m⟩ := T.f_block_of
  refine ⟨f, fd, F.ok sc_block_of (fun vs H Q E h => ?_) (fun cdv A outer s H vs Q E hr h => ?_), m, F.kp, F.binds (ps := ["shape", "pointer"]) fun _ _ _ _ _ _ us hl => match us, hl with | [_, _], _ => rfl⟩
  · obtain ⟨sh, B, p, rfl, _⟩ := h
    rfl
  · obtain ⟨sh, B, p, rfl, hs, q⟩ := h
    obtain ⟨dx, fs, e, e1, _⟩ := hs.ob
    refine ⟨_, (pss_one (ps_ret (pe_ifExp (pt_chain op_le op_le pe_int (pv 1) (pe_fld (pv 0) rfl)) (pe_op op_sub (pv 1) pe_int) pe_non))), ?_⟩
    refine ⟨_, rfl, _, _, rfl, rfl, _, rfl, ?_⟩
    refine ite2 (fun c => ?_) (fun c => ?_)
    · refine ⟨_, rfl, sh, CS, dx, fs, _, rfl, e, T.clShape, T.na_blocks, e1, _, _, rfl, rfl, _, rfl, ?_⟩
      refine ite2 (fun c2 => ?_) (fun c2 => ?_)
      · have h1 := of_decide_eq_true c
        have h2 := of_decide_eq_true c2
        refine ⟨_, rfl, _, _, rfl, rfl, ?_⟩
        have eb : blk B p = some (p - 1).toNat := by unfold blk; rw [if_pos ⟨h1, h2⟩]
        rw [eb] at q
        have ev : optV (some (p - 1).toNat) = .int (p - 1) := by
          show V.int (((p - 1).toNat : Nat) : Int) = _
          congr 1; omega
        rw [ev] at q
        exact q
      · have h2 : ¬ p ≤ (B : Int) := fun z => c2 (decide_eq_true z)
        have eb : blk B p = none := by unfold blk; rw [if_neg (fun z => h2 z.2)]
        rw [eb] at q
        exact q
    · have h1 : ¬ 1 ≤ p := fun z => c (decide_eq_true z)
      have eb : blk B p = none := by unfold blk; rw [if_neg (fun z => h1 z.1)]
      rw [eb] at q
      refine ⟨_, rfl, ?_⟩
      refine iteF ?_
      exact q
def spEmptyPlate : Sp := fun vs H Q _ => vs = [] ∧ ∀ t H', Same H H' → H' t = some (.tup (plateV fun _ => 0)) → Q (.ref t) H'
theorem sc_empty_plate : FnScope [] [] (defScope s_empty_plate) := ⟨rfl, rfl, rfl, by decide +kernel, rfl, by decide +kernel, by decide +kernel⟩
theorem ok_empty_plate (T : Tops K mg CS CD) : Cal P w K mg base "empty_plate" [] 1 spEmptyPlate := by
  obtain ⟨f, fd, F, m⟩ := T.f_empty_plate
  obtain ⟨tW, c_WIDTH⟩ := T.c_WIDTH
  refine ⟨f, fd, F.ok sc_empty_plate (fun vs H Q E h => ?_) (fun cdv A outer s H vs Q E hr h => ?_), m, F.kp, F.binds (ps := []) fun _ _ _ _ _ _ us hl => match us, hl with | [], _ => rfl⟩
  · obtain ⟨rfl, _⟩ := h
    rfl
  · obtain ⟨rfl, q⟩ := h
    refine ⟨_, (pss_one (ps_ret (pe_op op_repA (pe_tup (pa_cons pe_int pa_nil)) (pe_glob (v := .int 8) (by rfl) c_WIDTH ⟨_, rfl⟩)))), ?_⟩
    refine ⟨(by show 1 ≤ sizeLine; decide), fun p hp => ?_⟩
    refine rRep_mk (n := 8) upd_same (by intro z; cases z) (by decide) (by decide) fun r H' s' e => ?_
    exact q r H' ((same_new hp).trans s') e
def spSizeAt (CS : Addr) : Sp := fun vs H Q _ => ∃ (hd sh : Addr) (B f : Nat) (S : St), vs = [.ref hd, .ref sh, .int (f : Int)] ∧ HomeAt H hd B S ∧ ShAt CS H sh B ∧ f < 2 ∧ 0 ≤ S.home (4 + f) 0 ∧ S.home (4 + f) 0 ≤ 600 ∧ Q (.int (S.home (4 + f) 0)) H
theorem sc_size_at : FnScope ["home", "shape", "file"] ["home", "shape", "file"] (defScope s_size_at) := ⟨rfl, rfl, rfl, by decide +kernel, rfl, by decide +kernel, by decide +kernel⟩
theorem ok_size_at (T : Tops K mg CS CD) : Cal P w K mg base "size_at" ["home", "shape", "file"] 2 (spSizeAt CS) := by
  obtain ⟨f, fd, F, m⟩ := T.f_size_at
  obtain ⟨tW, c_MOST_SIZE⟩ := T.c_MOST_SIZE
  obtain ⟨f1, fd1, M_file_plate, GM_file_plate, bM_file_plate⟩ := ok_file_plate (P := P) (w := w) (base := base) T
  refine ⟨f, fd, F.ok sc_size_at (fun vs H Q E h => ?_) (fun cdv A outer s H vs Q E hr h => ?_), m, F.kp, F.binds (ps := ["home", "shape", "file"]) fun _ _ _ _ _ _ us hl => match us, hl with | [_, _, _], _ => rfl⟩
  · obtain ⟨hd, sh, B, f, S, rfl, _⟩ := h
    rfl
  · obtain ⟨hd, sh, B, f, S, rfl, hh, hs, hf, h0, h6, q⟩ := h
    have hu := hu_of hr
    obtain ⟨dx, fs, e, _, _, _, n1, _⟩ := hs.ob
    obtain ⟨t, g, ht⟩ := hh.get (show 4 + f < 6 + B by omega)
    refine ⟨_, (pss_one (ps_ret (pe_callB (call_min2 rfl) (by rfl) T.z_min (by decide +kernel) (pa_cons (pe_callB (call_max2 rfl) (by rfl) T.z_max (by decide +kernel) (pa_cons (pe_ix ix_tup (pe_dget hu (pv 0) (pe_meth (pv 1) T.clShape M_file_plate GM_file_plate (hr.mono (by omega)) bM_file_plate .nil pass0 (pa_cons (pv 2) pa_nil)) (fun _ _ => rfl)) pe_int (fun _ _ => rfl)) (pa_cons pe_int pa_nil))) (pa_cons (pe_glob (v := .int 600) (by rfl) c_MOST_SIZE ⟨_, rfl⟩) pa_nil))))), ?_⟩
    refine ⟨_, rfl, _, rfl, sh, dx, fs, rfl, e, n1, _, rfl, sh, B, f, rfl, hs, hd, _, rfl, g, ?_⟩
    refine ⟨t, _, _, _, rfl, rfl, SqT.of ht, atI_nat (j := 0) (plateV_get (by decide)), _, _, rfl, _, _, rfl, ?_⟩
    have e1 : (if (0 : Int) > S.home (4 + f) 0 then (0 : Int) else S.home (4 + f) 0) = S.home (4 + f) 0 := if_neg (by omega)
    have e2 : (if (600 : Int) < S.home (4 + f) 0 then (600 : Int) else S.home (4 + f) 0) = S.home (4 + f) 0 := if_neg (by omega)
    rw [e1, e2]
    exact q
def spParts : Sp := fun vs H Q _ => ∃ n : Nat, vs = [.int (n : Int)] ∧ Q (.int ((parts n : Nat) : Int)) H
theorem sc_parts_behind : FnScope ["size"] ["size"] (defScope s_parts_behind) := ⟨rfl, rfl, rfl, by decide +kernel, rfl, by decide +kernel, by decide +kernel⟩
theorem ok_parts_behind (T : Tops K mg CS CD) : Cal P w K mg base "parts_behind" ["size"] 1 spParts := by
  obtain ⟨f, fd, F, m⟩ := T.f_parts_behind
  obtain ⟨tW, c_WIDTH⟩ := T.c_WIDTH
  refine ⟨f, fd, F.ok sc_parts_behind (fun vs H Q E h => ?_) (fun cdv A outer s H vs Q E hr h => ?_), m, F.kp, F.binds (ps := ["size"]) fun _ _ _ _ _ _ us hl => match us, hl with | [_], _ => rfl⟩
  · obtain ⟨n, rfl, _⟩ := h
    rfl
  · obtain ⟨n, rfl, q⟩ := h
    refine ⟨_, (pss_one (ps_ret (pe_op op_fdiv (pe_op op_sub (pe_op op_add (pv 0) (pe_glob (v := .int 8) (by rfl) c_WIDTH ⟨_, rfl⟩)) pe_int) (pe_glob (v := .int 8) (by rfl) c_WIDTH ⟨_, rfl⟩)))), ?_⟩
    refine ⟨_, rfl, _, _, rfl, rfl, _, _, rfl, rfl, _, _, rfl, rfl, ⟨by decide, by decide⟩, ?_⟩
    have e : ((parts n : Nat) : Int) = ((n : Int) + 8 - 1) / 8 := by unfold parts; omega
    rw [e] at q
    exact q
def spFarPlace : Sp := fun vs H Q _ => ∃ n : Nat, vs = [.int (n : Int)] ∧ 11 ≤ n ∧ ∀ t H', Same H H' → H' t = some (.tup [.int (((farP n).1 : Nat) : Int), .int (((farP n).2 : Nat) : Int)]) → Q (.ref t) H'
theorem sc_far_place : FnScope ["first", "rest"] ["first"] (defScope s_far_place) := ⟨rfl, rfl, rfl, by decide +kernel, rfl, by decide +kernel, by decide +kernel⟩
theorem ok_far_place (T : Tops K mg CS CD) : Cal P w K mg base "far_place" ["first"] 1 spFarPlace := by
  obtain ⟨f, fd, F, m⟩ := T.f_far_place
  obtain ⟨tW, c_WIDTH⟩ := T.c_WIDTH
  obtain ⟨tD, c_DIRECT⟩ := T.c_DIRECT
  refine ⟨f, fd, F.ok sc_far_place (fun vs H Q E h => ?_) (fun cdv A outer s H vs Q E hr h => ?_), m, F.kp, F.binds (ps := ["first"]) fun _ _ _ _ _ _ us hl => match us, hl with | [_], _ => rfl⟩
  · obtain ⟨n, rfl, _⟩ := h
    rfl
  · obtain ⟨n, rfl, hn, q⟩ := h
    refine ⟨_, (pss_cons (ps_set (i := 1) sc_far_place.nd rfl (Or.inl rfl) (pe_op op_sub (pe_op op_sub (pv 0) (pe_glob (v := .int 3) (by rfl) c_DIRECT ⟨_, rfl⟩)) (pe_glob (v := .int 8) (by rfl) c_WIDTH ⟨_, rfl⟩))) (pss_one (ps_ret (pe_tup (pa_cons (pe_op op_fdiv (pv 1) (pe_glob (v := .int 8) (by rfl) c_WIDTH ⟨_, rfl⟩)) (pa_cons (pe_op op_mod (pe_callTy call_int1 (by rfl) T.z_int (by decide +kernel) (pa_cons (pv 1) pa_nil)) (pe_glob (v := .int 8) (by rfl) c_WIDTH ⟨_, rfl⟩)) pa_nil)))))), ?_⟩
    refine ⟨_, rfl, _, _, rfl, rfl, _, _, rfl, rfl, ?_⟩
    refine ⟨_, rfl, _, _, rfl, rfl, ⟨by decide, by decide⟩, _, rfl, .inl ⟨_, rfl, _, _, rfl, rfl, (by show (0 : Int) < 8; decide), (by show 2 ≤ sizeLine; decide), fun p hp => ?_⟩⟩
    refine q p _ (same_new hp) ?_
    rw [upd_same]
    have e1 : ((n : Int) - 3 - 8) / 8 = (((farP n).1 : Nat) : Int) := by unfold farP; show _ = (((n - 11) / 8 : Nat) : Int); omega
    have e2 : ((n : Int) - 3 - 8) % 8 = (((farP n).2 : Nat) : Int) := by unfold farP; show _ = (((n - 11) % 8 : Nat) : Int); omega
    rw [← e1, ← e2]
def spSpotOf : Sp := fun vs H Q _ => ∃ n : Nat, vs = [.int (n : Int)] ∧ ∀ t H', Same H H' → H' t = some (.tup (natsV (spot n))) → Q (.ref t) H'
theorem sc_spot_of : FnScope ["number", "rest"] ["number"] (defScope s_spot_of) := ⟨rfl, rfl, rfl, by decide +kernel, rfl, by decide +kernel, by decide +kernel⟩
theorem ok_spot_of (T : Tops K mg CS CD) : Cal P w K mg base "spot_of" ["number"] 1 spSpotOf := by
  obtain ⟨f, fd, F, m⟩ := T.f_spot_of
  obtain ⟨tW, c_WIDTH⟩ := T.c_WIDTH
  obtain ⟨tD, c_DIRECT⟩ := T.c_DIRECT
  refine ⟨f, fd, F.ok sc_spot_of (fun vs H Q E h => ?_) (fun cdv A outer s H vs Q E hr h => ?_), m, F.kp, F.binds (ps := ["number"]) fun _ _ _ _ _ _ us hl => match us, hl with | [_], _ => rfl⟩
  · obtain ⟨n, rfl, _⟩ := h
    rfl
  · obtain ⟨n, rfl, q⟩ := h
    refine ⟨_, (pss_cons (ps_if (pt_cmpR op_lt (pv 0) (pe_glob (v := .int 3) (by rfl) c_DIRECT ⟨_, rfl⟩) (nomark _)) (pss_one (ps_ret (pe_tup (pa_cons (pe_op op_add (pe_op op_sub (pe_op op_sub (pe_glob (v := .int 8) (by rfl) c_WIDTH ⟨_, rfl⟩) (pe_glob (v := .int 3) (by rfl) c_DIRECT ⟨_, rfl⟩)) pe_int) (pv 0)) pa_nil)))) pss_nil) (pss_cons (ps_if (pt_cmpR op_lt (pv 0) (pe_op op_add (pe_glob (v := .int 3) (by rfl) c_DIRECT ⟨_, rfl⟩) (pe_glob (v := .int 8) (by rfl) c_WIDTH ⟨_, rfl⟩)) (nomark _)) (pss_one (ps_ret (pe_tup (pa_cons (pe_op op_sub (pe_glob (v := .int 8) (by rfl) c_WIDTH ⟨_, rfl⟩) pe_int) (pa_cons (pe_op op_sub (pv 0) (pe_glob (v := .int 3) (by rfl) c_DIRECT ⟨_, rfl⟩)) pa_nil))))) pss_nil) (pss_cons (ps_set (i := 1) sc_spot_of.nd rfl (Or.inl rfl) (pe_op op_sub (pe_op op_sub (pv 0) (pe_glob (v := .int 3) (by rfl) c_DIRECT ⟨_, rfl⟩)) (pe_glob (v := .int 8) (by rfl) c_WIDTH ⟨_, rfl⟩))) (pss_one (ps_ret (pe_tup (pa_cons (pe_op op_sub (pe_glob (v := .int 8) (by rfl) c_WIDTH ⟨_, rfl⟩) pe_int) (pa_cons (pe_op op_fdiv (pv 1) (pe_glob (v := .int 8) (by rfl) c_WIDTH ⟨_, rfl⟩)) (pa_cons (pe_op op_mod (pe_callTy call_int1 (by rfl) T.z_int (by decide +kernel) (pa_cons (pv 1) pa_nil)) (pe_glob (v := .int 8) (by rfl) c_WIDTH ⟨_, rfl⟩)) pa_nil))))))))), ?_⟩
    refine ⟨_, rfl, _, _, rfl, rfl, _, rfl, ?_⟩
    refine ite2 (fun c => ?_) (fun c => ?_)
    · have c := of_decide_eq_true c
      refine ⟨_, _, rfl, rfl, _, _, rfl, rfl, _, rfl, _, _, rfl, rfl, (by show 1 ≤ sizeLine; decide), fun p hp => ?_⟩
      refine q p _ (same_new hp) ?_
      rw [upd_same]
      have e : spot n = [3 + n] := by unfold spot; rw [if_pos (by omega)]
      rw [e]
      show some (HO.tup [V.int ((8 : Int) - 3 - 2 + (n : Int))]) = some (HO.tup [V.int (((3 + n : Nat) : Int))])
      rw [show (8 : Int) - 3 - 2 + (n : Int) = ((3 + n : Nat) : Int) by omega]
    · have c : ¬ (n : Int) < 3 := fun z => c (decide_eq_true z)
      refine ⟨_, rfl, _, _, rfl, rfl, _, _, rfl, rfl, _, rfl, ?_⟩
      refine ite2 (fun c2 => ?_) (fun c2 => ?_)
      · have c2 : (n : Int) < 3 + 8 := of_decide_eq_true c2
        refine ⟨_, _, rfl, rfl, _, rfl, _, _, rfl, rfl, (by show 2 ≤ sizeLine; decide), fun p hp => ?_⟩
        refine q p _ (same_new hp) ?_
        rw [upd_same]
        have e : spot n = [6, n - 3] := by unfold spot; rw [if_neg (by omega), if_pos (by omega)]
        rw [e]
        show some (HO.tup [V.int ((8 : Int) - 2), V.int ((n : Int) - 3)]) = some (HO.tup [V.int ((6 : Nat) : Int), V.int (((n - 3 : Nat) : Int))])
        rw [show ((n - 3 : Nat) : Int) = (n : Int) - 3 by omega]; rfl
      · have c2 : ¬ (n : Int) < 3 + 8 := fun z => c2 (decide_eq_true z)
        refine ⟨_, rfl, _, _, rfl, rfl, _, _, rfl, rfl, ?_⟩
        refine ⟨_, _, rfl, rfl, _, rfl, _, _, rfl, rfl, ⟨by decide, by decide⟩, _, rfl, .inl ⟨_, rfl, _, _, rfl, rfl, (by show (0 : Int) < 8; decide), (by show 3 ≤ sizeLine; decide), fun p hp => ?_⟩⟩
        refine q p _ (same_new hp) ?_
        rw [upd_same]
        have e : spot n = [7, (n - 11) / 8, (n - 11) % 8] := spot_far (by omega)
        rw [e]
        show some (HO.tup [V.int ((8 : Int) - 1), V.int (((n : Int) - 3 - 8) / 8), V.int (((n : Int) - 3 - 8) % 8)]) = some (HO.tup [V.int ((7 : Nat) : Int), V.int ((((n - 11) / 8 : Nat) : Int)), V.int ((((n - 11) % 8 : Nat) : Int))])
        rw [show (((n - 11) / 8 : Nat) : Int) = ((n : Int) - 3 - 8) / 8 by omega, show (((n - 11) % 8 : Nat) : Int) = ((n : Int) - 3 - 8) % 8 by omega]; rfl
/-! ### one number of a plate -/
def spPutNumber (CS CD : Addr) : Sp := fun vs H Q _ => ∃ (W : DW) (B : Nat) (S : St) (q j : Nat) (v : Int), vs = [.ref W.p, .int (q : Int), .int (j : Int), .int v] ∧ Dr CS CD H W B S ∧ q < 6 + B ∧ j < 8 ∧
  ∀ H', Dr CS CD H' W B (S.putc q j v) → Keep H H' W → Q .non H'
theorem sc_put_number : FnScope ["draft", "number", "place", "value"] ["draft", "number", "place", "value"] (defScope s_put_number) := ⟨rfl, rfl, rfl, by decide +kernel, rfl, by decide +kernel, by decide +kernel⟩
theorem ok_put_number (T : Tops K mg CS CD) : Cal P w K mg base "put_number" ["draft", "number", "place", "value"] 3 (spPutNumber CS CD) := by
  obtain ⟨f, fd, F, m⟩ := T.f_put_number
  obtain ⟨f1, fd1, M_put_cell, GM_put_cell, bM_put_cell⟩ := ok_put_cell (P := P) (w := w) (base := base) T
  refine ⟨f, fd, F.ok sc_put_number (fun vs H Q E h => ?_) (fun cdv A outer s H vs Q E hr h => ?_), m, F.kp, F.binds (ps := ["draft", "number", "place", "value"]) fun _ _ _ _ _ _ us hl => match us, hl with | [_, _, _, _], _ => rfl⟩
  · obtain ⟨W, B, S, q, j, v, rfl, _⟩ := h
    rfl
  · obtain ⟨W, B, S, q, j, v, rfl, D, hq, hj, k⟩ := h
    obtain ⟨dx, fs, e, _, _, _, _, _, _, f7, _⟩ := D.ob
    refine ⟨_, (pss_one (ps_expr (pe_meth (pv 0) T.clDraft M_put_cell GM_put_cell (hr.mono (by omega)) bM_put_cell .nil pass0 (pa_cons (pe_tup (pa_cons (pv 1) (pa_cons (pv 2) pa_nil))) (pa_cons (pv 3) pa_nil))))), ?_⟩
    refine ⟨_, rfl, W.p, dx, fs, rfl, e, f7, _, rfl, _, rfl, (by show 2 ≤ sizeLine; decide), fun p hp => ?_⟩
    refine ⟨_, rfl, W, B, S, q, j, v, p, rfl, upd_same, D.same (same_new hp), hq, hj, fun H' D' kp => ?_⟩
    exact k H' D' ((Keep.of (same_new hp)).trans kp)
def spPutSize (CS CD : Addr) : Sp := fun vs H Q _ => ∃ (W : DW) (B : Nat) (S : St) (f : Nat) (v : Int), vs = [.ref W.p, .int (f : Int), .int v] ∧ Dr CS CD H W B S ∧ f < 2 ∧
  ∀ H', Dr CS CD H' W B (S.putc (4 + f) 0 v) → Keep H H' W → Q .non H'
theorem sc_put_size : FnScope ["draft", "file", "size"] ["draft", "file", "size"] (defScope s_put_size) := ⟨rfl, rfl, rfl, by decide +kernel, rfl, by decide +kernel, by decide +kernel⟩
theorem ok_put_size (T : Tops K mg CS CD) : Cal P w K mg base "put_size" ["draft", "file", "size"] 4 (spPutSize CS CD) := by
  obtain ⟨f, fd, F, m⟩ := T.f_put_size
  obtain ⟨f0, fd0, M_file_plate, GM_file_plate, bM_file_plate⟩ := ok_file_plate (P := P) (w := w) (base := base) T
  obtain ⟨f1, fd1, G_put_number, m_put_number, k_put_number, b_put_number⟩ := ok_put_number (P := P) (w := w) (base := base) T
  refine ⟨f, fd, F.ok sc_put_size (fun vs H Q E h => ?_) (fun cdv A outer s H vs Q E hr h => ?_), m, F.kp, F.binds (ps := ["draft", "file", "size"]) fun _ _ _ _ _ _ us hl => match us, hl with | [_, _, _], _ => rfl⟩
  · obtain ⟨W, B, S, f, v, rfl, _⟩ := h
    rfl
  · obtain ⟨W, B, S, f, v, rfl, D, hf, k⟩ := h
    obtain ⟨dx, fs, e, f1, _⟩ := D.ob
    obtain ⟨dx2, fs2, e2, _, _, _, n1, _⟩ := D.sh.ob
    have hB := D.lo
    refine ⟨_, (pss_one (ps_expr (pe_call G_put_number (hr.mono (by omega)) (by rfl) m_put_number k_put_number b_put_number .nil pass0 (pa_cons (pv 0) (pa_cons (pe_meth (pe_fld (pv 0) rfl) T.clShape M_file_plate GM_file_plate (hr.mono (by omega)) bM_file_plate .nil pass0 (pa_cons (pv 1) pa_nil)) (pa_cons pe_int (pa_cons (pv 2) pa_nil))))))), ?_⟩
    refine ⟨_, rfl, _, rfl, W.p, CD, dx, fs, _, rfl, e, T.clDraft, T.na_shape, f1, W.sh, dx2, fs2, rfl, e2, n1, _, rfl, W.sh, B, f, rfl, D.sh, ?_⟩
    refine ⟨_, rfl, W, B, S, 4 + f, 0, v, rfl, D, by omega, by decide, fun H' D' kp => ?_⟩
    exact k H' D' kp
end
end K51
set_option maxRecDepth 100000
set_option maxHeartbeats 4000000
namespace K51
open PySem L2
section
theorem metP_zero {B : Nat} {S : St} {p : Int} : metP B S p 0 = (match blk B p with | none => [] | some b => [b]) := by
  unfold metP
  show ([[]] : List (List Nat)).filterMap (go B S (blk B p)) = _
  cases h : blk B p with
  | none => rfl
  | some b => rfl
theorem metP_none {B : Nat} {S : St} {p : Int} {l : Nat} (h : blk B p = none) : metP B S p l = [] := by
  unfold metP
  rw [h]
  refine List.filterMap_eq_nil_iff.mpr fun r _ => go_none r
theorem metP_succ {B : Nat} {S : St} {p : Int} {l b : Nat} (h : blk B p = some b) : metP B S p (l + 1) = b :: (List.range 8).flatMap fun i => metP B S (S.home (6 + b) i) l := by
  unfold metP
  rw [h]
  show ([] :: (List.range 8).flatMap fun i => (sub l).map (i :: ·)).filterMap (go B S (some b)) = _
  rw [List.filterMap_cons]
  show b :: _ = _
  congr 1
  rw [List.filterMap_flatMap]
  have hf : (fun i => ((sub l).map (i :: ·)).filterMap (go B S (some b))) = fun i => (sub l).filterMap (go B S (blk B (S.home (6 + b) i))) := by
    funext i
    rw [List.filterMap_map]
    rfl
  rw [hf]
theorem sub_len : ∀ l, l ≤ 2 → (sub l).length ≤ 73 := by decide +kernel
theorem metP_len {B : Nat} {S : St} {p : Int} {l : Nat} (h : l ≤ 2) : (metP B S p l).length ≤ 73 := by
  unfold metP
  exact Nat.le_trans (List.length_filterMap_le _ _) (sub_len l h)
theorem flat_take_succ {α β : Type} {f : α → List β} {xs : List α} {i : Nat} {x : α} (h : xs[i]? = some x) : (xs.take (i + 1)).flatMap f = (xs.take i).flatMap f ++ f x := by
  have hi := (List.getElem?_eq_some_iff.mp h).1
  have e : xs.take (i + 1) = xs.take i ++ [x] := by
    rw [List.take_add_one, h]; rfl
  rw [e, List.flatMap_append]
  simp
variable {P : Program} {w : World} {K : PySem.W.Frag} {mg : Str → Option Value} {base : Heap} {CS CD : Addr}
/-! ### the five pointers of a file -/
def spPointers (CS : Addr) : Sp := fun vs H Q _ => ∃ (hd sh : Addr) (B f : Nat) (S : St), vs = [.ref hd, .ref sh, .int (f : Int)] ∧ HomeAt H hd B S ∧ ShAt CS H sh B ∧ f < 2 ∧
  ∀ (H' : Hp) (p : Addr) (ts : List Addr), Same H H' → H' p = some (.lst (ts.map V.ref)) → ts.length = 5 → (∀ (j : Nat) (t : Addr), ts[j]? = some t → ∃ e : Nat × Nat, slots5[j]? = some e ∧ H' t = some (.tup [.int (S.home (4 + f) e.1), .int (e.2 : Int)])) → Q (.ref p) H'
theorem five {x : Nat → Int} {j : Nat} {u v : V} (hu : ((plateV x).drop 3)[j]? = some u) (hv : ((List.replicate 3 [V.int 0]).flatten ++ [V.int 1, V.int 2])[j]? = some v) : ∃ e : Nat × Nat, slots5[j]? = some e ∧ u = .int (x e.1) ∧ v = .int (e.2 : Int) := by
  have hj : j < 5 := by
    have := (List.getElem?_eq_some_iff.mp hu).1
    rw [List.length_drop, plateV_len] at this
    exact this
  rw [List.getElem?_drop, plateV_get (by omega)] at hu
  have hu := (Option.some.inj hu).symm
  match j, hj with
  | 0, _ => exact ⟨_, rfl, hu, (Option.some.inj hv).symm⟩
  | 1, _ => exact ⟨_, rfl, hu, (Option.some.inj hv).symm⟩
  | 2, _ => exact ⟨_, rfl, hu, (Option.some.inj hv).symm⟩
  | 3, _ => exact ⟨_, rfl, hu, (Option.some.inj hv).symm⟩
  | 4, _ => exact ⟨_, rfl, hu, (Option.some.inj hv).symm⟩
theorem sc_pointers_at : FnScope ["home", "shape", "file", "plate", "levels"] ["home", "shape", "file"] (defScope s_pointers_at) := ⟨rfl, rfl, rfl, by decide +kernel, rfl, by decide +kernel, by decide +kernel⟩
theorem ok_pointers_at (T : Tops K mg CS CD) : Cal P w K mg base "pointers_at" ["home", "shape", "file"] 2 (spPointers CS) := by
  obtain ⟨f, fd, F, m⟩ := T.f_pointers_at
  obtain ⟨tW, c_WIDTH⟩ := T.c_WIDTH
  obtain ⟨tD, c_DIRECT⟩ := T.c_DIRECT
  obtain ⟨f0, fd0, M_file_plate, GM_file_plate, bM_file_plate⟩ := ok_file_plate (P := P) (w := w) (base := base) T
  refine ⟨f, fd, F.ok sc_pointers_at (fun vs H Q E h => ?_) (fun cdv A outer s H vs Q E hr h => ?_), m, F.kp, F.binds (ps := ["home", "shape", "file"]) fun _ _ _ _ _ _ us hl => match us, hl with | [_, _, _], _ => rfl⟩
  · obtain ⟨hd, sh, B, f, S, rfl, _⟩ := h
    rfl
  · obtain ⟨hd, sh, B, f, S, rfl, hh, hs, hf, k⟩ := h
    have hu := hu_of hr
    obtain ⟨dx, fs, e, _, _, _, n1, _⟩ := hs.ob
    obtain ⟨t, g, ht⟩ := hh.get (show 4 + f < 6 + B by omega)
    refine ⟨_, (pss_cons (ps_set (i := 3) sc_pointers_at.nd rfl (Or.inl rfl) (pe_dget hu (pv 0) (pe_meth (pv 1) T.clShape M_file_plate GM_file_plate (hr.mono (by omega)) bM_file_plate .nil pass0 (pa_cons (pv 2) pa_nil)) (fun _ _ => rfl))) (pss_cons (ps_set (i := 4) sc_pointers_at.nd rfl (Or.inl rfl) (pe_op op_catA (pe_op op_repA (pe_tup (pa_cons pe_int pa_nil)) (pe_glob (v := .int 3) (by rfl) c_DIRECT ⟨_, rfl⟩)) (pe_tup (pa_cons pe_int (pa_cons pe_int pa_nil))))) (pss_one (ps_ret (pe_listZip rfl (by rfl) T.z_list (by rfl) T.z_zip (pa_cons (pe_slice sl_tupA (pv 3) (po_some (pe_op op_sub (pe_op op_sub (pe_glob (v := .int 8) (by rfl) c_WIDTH ⟨_, rfl⟩) (pe_glob (v := .int 3) (by rfl) c_DIRECT ⟨_, rfl⟩)) pe_int)) po_none) (pa_cons (pv 4) pa_nil))))))), ?_⟩
    refine ⟨_, rfl, _, rfl, sh, dx, fs, rfl, e, n1, _, rfl, sh, B, f, rfl, hs, hd, _, rfl, g, ?_⟩
    refine ⟨(by show 1 ≤ sizeLine; decide), fun p hp => ?_⟩
    refine tC_mk (rRep_mk (n := 3) upd_same (by intro z; cases z) (by decide) (by decide) fun a H1 s1 ha => ?_)
    refine ⟨(by show 2 ≤ sizeLine; decide), fun b hb => ?_⟩
    refine rCat_mk (same_new hb _ _ ha) upd_same (by decide) fun c H2 s2 hc => ?_
    have sA : Same H H2 := (((same_new hp).trans s1).trans (same_new hb)).trans s2
    refine ⟨_, rfl, _, _, rfl, rfl, _, _, rfl, rfl, _, rfl, noPart (rSl_mk (sA _ _ ht) fun d H3 s3 hd => ?_)⟩
    have e3 : cutV (plateV (S.home (4 + f))) (some ((8 : Int) - 3 - 2)) none = (plateV (S.home (4 + f))).drop 3 := cut_drop (j := 3)
    rw [e3] at hd
    refine ⟨_, rfl, d, c, _, _, rfl, SqT.of hd, SqT.of (s3 _ _ hc), by rw [List.length_drop, plateV_len]; rfl, fun H' q ts sk q0 hq hl hts => ?_⟩
    refine k H' q ts ((sA.trans s3).trans sk) hq (by rw [hl, List.length_drop, plateV_len]) fun j t' hj => ?_
    obtain ⟨_, u, v, hu', hv', ht'⟩ := hts j t' hj
    obtain ⟨e', he, eu, ev⟩ := five hu' hv'
    exact ⟨e', he, by rw [ht', eu, ev]⟩
/-! ### the blocks that are met -/
def spMet (CS : Addr) : Nat → Sp
  | 0 => fun _ _ _ _ => False
  | d + 1 => fun vs H Q _ => ∃ (hd sh : Addr) (B : Nat) (S : St) (p : Int) (l : Nat), vs = [.ref hd, .ref sh, .int p, .int (l : Int)] ∧ HomeAt H hd B S ∧ ShAt CS H sh B ∧ l ≤ d ∧ l ≤ 2 ∧
    ∀ (H' : Hp) (r : Addr), Same H H' → H r = none → H' r = some (.lst (natsV (metP B S p l))) → Q (.ref r) H'
theorem sc_met_below : FnScope ["home", "shape", "pointer", "level", "block", "found", "one"] ["home", "shape", "pointer", "level"] (defScope s_met_below) := ⟨rfl, rfl, rfl, by decide +kernel, rfl, by decide +kernel, by decide +kernel⟩
theorem met_step (T : Tops K mg CS CD) {f : Addr} {fd : FuncData} (F : Fun K "met_below" "met_below" s_met_below f fd) (m_met_below : mg "met_below" = some (.ref f)) (k_met_below : PySem.W.keepIn K (.ref f) = true) (b_met_below : Binds K fd ["home", "shape", "pointer", "level"] [])
    {d k : Nat} (hk : 1 ≤ k) (G_met_below : FnOk P w K mg base CX0 k f fd ["home", "shape", "pointer", "level"] (spMet CS d)) : FnOk P w K mg base CX0 (k + 1) f fd ["home", "shape", "pointer", "level"] (spMet CS (d + 1)) := by
  obtain ⟨f1, fd1, G_block_of, m_block_of, k_block_of, b_block_of⟩ := ok_block_of (P := P) (w := w) (base := base) T
  obtain ⟨f0, fd0, M_block_plate, GM_block_plate, bM_block_plate⟩ := ok_block_plate (P := P) (w := w) (base := base) T
  refine F.ok sc_met_below (fun vs H Q E h => ?_) (fun cdv A outer s H vs Q E hr h => ?_)
  · obtain ⟨hd, sh, B, S, p, l, rfl, _⟩ := h
    rfl
  · obtain ⟨hd, sh, B, S, p, l, rfl, hh, hs, hd1, hl2, kk⟩ := h
    have hu := hu_of hr
    obtain ⟨dx, fs, e, _, _, _, _, n2⟩ := hs.ob
    refine ⟨_, (pss_cons (ps_set (i := 4) sc_met_below.nd rfl (Or.inl rfl) (pe_call G_block_of (hr.mono (by omega)) (by rfl) m_block_of k_block_of b_block_of .nil pass0 (pa_cons (pv 1) (pa_cons (pv 2) pa_nil)))) (pss_cons (ps_if (pt_cmp (pc_isN (pv 4))) (pss_one (ps_ret (pe_lst pa_nil))) pss_nil) (pss_cons (ps_set (i := 5) sc_met_below.nd rfl (Or.inl rfl) (pe_lst (pa_cons (pv 4) pa_nil))) (pss_cons (ps_if (pt_cmpR op_gt (pv 3) pe_int (nomark _)) (pss_one (ps_for PassesOwn.never rfl (pi_tup (pe_dget hu (pv 0) (pe_meth (pv 1) T.clShape M_block_plate GM_block_plate (hr.mono (by omega)) bM_block_plate .nil pass0 (pa_cons (pv 4) pa_nil)) (fun _ _ => rfl))) (pg_name (i := 6) sc_met_below.nd rfl (Or.inl rfl)) (pss_one (ps_set (i := 5) sc_met_below.nd rfl (Or.inl rfl) (pe_op op_cat (pv 5) (pe_call G_met_below (hr.mono (by omega)) (by rfl) m_met_below k_met_below b_met_below .nil pass0 (pa_cons (pv 0) (pa_cons (pv 1) (pa_cons (pv 6) (pa_cons (pe_op op_sub (pv 3) pe_int) pa_nil)))))))))) pss_nil) (pss_one (ps_ret (pv 5))))))), ?_⟩
    refine ⟨_, rfl, _, rfl, sh, B, p, rfl, hs, ?_⟩
    cases hb : blk B p with
    | none =>
      refine ⟨_, rfl, _, rfl, iteT ?_⟩
      refine ⟨Nat.zero_le _, fun r hr' => ?_⟩
      refine kk _ r (same_new hr') hr' ?_
      rw [metP_none hb]
      exact upd_same
    | some b =>
      have hbB := (blk_lt hb).1
      refine ⟨_, rfl, _, rfl, iteF ?_⟩
      refine ⟨_, rfl, (by show 1 ≤ sizeLine; decide), fun r hr' => ?_⟩
      refine ⟨_, rfl, _, _, rfl, rfl, _, rfl, ?_⟩
      refine ite2 (fun c => ?_) (fun c => ?_)
      · have c : (0 : Int) < (l : Int) := of_decide_eq_true c
        obtain ⟨l', rfl⟩ : ∃ l', l = l' + 1 := ⟨l - 1, by omega⟩
        obtain ⟨t, g, ht⟩ := hh.get (show 6 + b < 6 + B by omega)
        have s0 : Same H (upd H r (.lst [V.int (b : Int)])) := same_new hr'
        obtain ⟨t0, g0, ht0⟩ := (hh.same s0).get (show 6 + b < 6 + B by omega)
        refine ⟨_, rfl, _, rfl, sh, dx, fs, rfl, s0 _ _ e, n2, _, rfl, sh, B, b, rfl, hs.same s0, hd, _, rfl, g0, t0, rfl, ⟨_, SqT.of ht0⟩, for_tup (K := K) (a := t0) (xs := plateV (S.home (6 + b)))
          (fun i σ H' => ∃ (r' : Addr) (v : Option V), σ = [some (.ref hd), some (.ref sh), some (.int p), some (.int ((l' + 1 : Nat) : Int)), some (.int (b : Int)), some (.ref r'), v] ∧ Same (upd H r (.lst [V.int (b : Int)])) H' ∧ H r' = none ∧
            H' r' = some (.lst (natsV (b :: ((List.range 8).take i).flatMap fun i => metP B S (S.home (6 + b) i) l')))) ⟨r, _, rfl, Same.refl _, hr', upd_same⟩ (fun i σ H' _ ⟨_, _, _, sH, _⟩ => SqT.of (sH _ _ ht0)) ?_ ?_⟩
        · rintro i x σ H' hi ⟨r', v, rfl, sH, hnr, hr2⟩
          have hi8 : i < 8 := by
            have := (List.getElem?_eq_some_iff.mp hi).1
            rwa [plateV_len] at this
          rw [plateV_get hi8] at hi
          obtain rfl := (Option.some.inj hi).symm
          have sA := s0.trans sH
          cases d with
          | zero => omega
          | succ d =>
            have e1 : ((l' + 1 : Nat) : Int) - 1 = (l' : Int) := by omega
            refine ⟨_, rfl, _, rfl, _, rfl, _, rfl, _, rfl, _, _, rfl, rfl, hd, sh, B, S, S.home (6 + b) i, l', by rw [← e1]; rfl, hh.same sA, hs.same sA, by omega, by omega, fun H2 q s2 _ hq => ?_⟩
            have hlen : (natsV (b :: ((List.range 8).take i).flatMap fun i => metP B S (S.home (6 + b) i) l')).length + (natsV (metP B S (S.home (6 + b) i) l')).length ≤ sizeLine := by
              unfold natsV
              rw [List.length_map, List.length_map, List.length_cons]
              have a1 := metP_len (B := B) (S := S) (p := S.home (6 + b) i) (l := l') (by omega)
              have a2 : (((List.range 8).take i).flatMap fun i => metP B S (S.home (6 + b) i) l').length ≤ 8 * 73 := by
                rw [List.length_flatMap]
                have a3 : ∀ (L : List Nat), (L.map fun i => (metP B S (S.home (6 + b) i) l').length).sum ≤ L.length * 73 := by
                  intro L
                  induction L with
                  | nil => exact Nat.zero_le _
                  | cons a L ih =>
                    have := metP_len (B := B) (S := S) (p := S.home (6 + b) a) (l := l') (by omega)
                    rw [List.map_cons, List.sum_cons, List.length_cons]; omega
                refine Nat.le_trans (a3 _) (Nat.mul_le_mul_right _ ?_)
                rw [List.length_take, List.length_range]; omega
              exact Nat.le_trans (show _ ≤ 10000 by omega) (by decide)
            refine ⟨r', q, _, _, rfl, rfl, s2 _ _ hr2, hq, hlen, fun z hz => ?_⟩
            refine ⟨z, _, rfl, (sH.trans s2).trans (same_new hz), (sA.trans s2).free hz, ?_⟩
            rw [upd_same, flat_take_succ (x := i) (List.getElem?_range hi8)]
            unfold natsV
            rw [← List.map_append]; rfl
        · rintro σ H' ⟨r', v, rfl, sH, hnr, hr2⟩
          refine ⟨_, rfl, ?_⟩
          refine kk H' r' (s0.trans sH) hnr ?_
          rw [hr2, metP_succ hb, plateV_len]
          rfl
      · have c : ¬ (0 : Int) < (l : Int) := fun z => c (decide_eq_true z)
        have l0 : l = 0 := by omega
        subst l0
        refine ⟨_, rfl, ?_⟩
        refine kk _ r (same_new hr') hr' ?_
        rw [upd_same, metP_zero, hb]
        rfl
theorem ok_met_below (T : Tops K mg CS CD) : Cal P w K mg base "met_below" ["home", "shape", "pointer", "level"] 5 (spMet CS 3) := by
  obtain ⟨f, fd, F, m⟩ := T.f_met_below
  have b : Binds K fd ["home", "shape", "pointer", "level"] [] := F.binds (ps := ["home", "shape", "pointer", "level"]) fun _ _ _ _ _ _ us hl => match us, hl with | [_, _, _, _], _ => rfl
  have g0 : FnOk P w K mg base CX0 (1 + 1) f fd ["home", "shape", "pointer", "level"] (spMet CS 0) := F.ok sc_met_below (fun vs H Q E h => h.elim) (fun cdv A outer s H vs Q E hr h => h.elim)
  have g1 := met_step T F m F.kp b (by omega) g0
  have g2 := met_step T F m F.kp b (by omega) g1
  have g3 := met_step T F m F.kp b (by omega) g2
  exact ⟨f, fd, g3, m, F.kp, b⟩
end
end K51
set_option maxRecDepth 100000
set_option maxHeartbeats 4000000
namespace K51
open PySem L2
section
variable {P : Program} {w : World} {K : PySem.W.Frag} {mg : Str → Option Value} {base : Heap} {CS CD : Addr}
theorem nat_get {L : List Nat} {i : Nat} {x : V} (h : (natsV L)[i]? = some x) : ∃ b : Nat, L[i]? = some b ∧ x = .int (b : Int) := by
  unfold natsV at h
  rw [List.getElem?_map] at h
  cases e : L[i]? with
  | none => rw [e] at h; cases h
  | some b => rw [e] at h; exact ⟨b, rfl, (Option.some.inj h).symm⟩
theorem ref_get {L : List Addr} {i : Nat} {x : V} (h : (L.map V.ref)[i]? = some x) : ∃ t, L[i]? = some t ∧ x = .ref t := by
  rw [List.getElem?_map] at h
  cases e : L[i]? with
  | none => rw [e] at h; cases h
  | some b => rw [e] at h; exact ⟨b, rfl, (Option.some.inj h).symm⟩
theorem slots5_lev : ∀ j, j < 5 → ∀ e, slots5[j]? = some e → e.2 ≤ 2 ∧ e.1 < 8 := by decide +kernel
theorem metF_take {B : Nat} {S : St} {f : Nat} : (slots5.take 5).flatMap (fun e => metP B S (S.home (4 + f) e.1) e.2) = metF B S f := rfl
theorem metT_len {B : Nat} {S : St} {f i : Nat} : ((slots5.take i).flatMap fun e => metP B S (S.home (4 + f) e.1) e.2).length ≤ 365 := by
  have h1 : ∀ L : List (Nat × Nat), (∀ e ∈ L, e.2 ≤ 2) → (L.flatMap fun e => metP B S (S.home (4 + f) e.1) e.2).length ≤ L.length * 73 := by
    intro L
    induction L with
    | nil => intro _; exact Nat.zero_le _
    | cons a L ih =>
      intro h
      have := metP_len (B := B) (S := S) (p := S.home (4 + f) a.1) (l := a.2) (h a List.mem_cons_self)
      have := ih fun e he => h e (List.mem_cons_of_mem _ he)
      rw [List.flatMap_cons, List.length_append, List.length_cons]; omega
  have h2 : ∀ e ∈ slots5, e.2 ≤ 2 := by decide
  refine Nat.le_trans (h1 _ fun e he => h2 e (List.mem_of_mem_take he)) ?_
  have : (slots5.take i).length ≤ 5 := by rw [List.length_take]; exact Nat.min_le_right _ _
  omega
theorem metF_lt {B : Nat} {S : St} {f b : Nat} (h : b ∈ metF B S f) : b < B := by
  have hc := List.count_pos_iff.mpr h
  rw [metF_count] at hc
  obtain ⟨π, hp, e⟩ := List.countP_pos_iff.mp hc
  exact reach_lt (g := f) (π := π) (S := S) (by simpa using e)
def spMetF (CS : Addr) : Sp := fun vs H Q _ => ∃ (hd sh : Addr) (B f : Nat) (S : St), vs = [.ref hd, .ref sh, .int (f : Int)] ∧ HomeAt H hd B S ∧ ShAt CS H sh B ∧ f < 2 ∧
  ∀ (H' : Hp) (r : Addr), Same H H' → H r = none → H' r = some (.lst (natsV (metF B S f))) → Q (.ref r) H'
theorem sc_met : FnScope ["home", "shape", "file", "found", "pointer", "level"] ["home", "shape", "file"] (defScope s_met) := ⟨rfl, rfl, rfl, by decide +kernel, rfl, by decide +kernel, by decide +kernel⟩
theorem ok_met (T : Tops K mg CS CD) : Cal P w K mg base "met" ["home", "shape", "file"] 6 (spMetF CS) := by
  obtain ⟨f, fd, F, m⟩ := T.f_met
  obtain ⟨f0, fd0, G_pointers_at, m_pointers_at, k_pointers_at, b_pointers_at⟩ := ok_pointers_at (P := P) (w := w) (base := base) T
  obtain ⟨f1, fd1, G_met_below, m_met_below, k_met_below, b_met_below⟩ := ok_met_below (P := P) (w := w) (base := base) T
  refine ⟨f, fd, F.ok sc_met (fun vs H Q E h => ?_) (fun cdv A outer s H vs Q E hr h => ?_), m, F.kp, F.binds (ps := ["home", "shape", "file"]) fun _ _ _ _ _ _ us hl => match us, hl with | [_, _, _], _ => rfl⟩
  · obtain ⟨hd, sh, B, f, S, rfl, _⟩ := h
    rfl
  · obtain ⟨hd, sh, B, f, S, rfl, hh, hs, hf, k⟩ := h
    refine ⟨_, (pss_cons (ps_set (i := 3) sc_met.nd rfl (Or.inl rfl) (pe_lst pa_nil)) (pss_cons (ps_for PassesOwn.never rfl (pi_list (pe_call G_pointers_at (hr.mono (by omega)) (by rfl) m_pointers_at k_pointers_at b_pointers_at .nil pass0 (pa_cons (pv 0) (pa_cons (pv 1) (pa_cons (pv 2) pa_nil))))) (pg_tup (by rfl) (pgs_cons (pg_name (i := 4) sc_met.nd rfl (Or.inl rfl)) (pgs_cons (pg_name (i := 5) sc_met.nd rfl (Or.inl rfl)) pgs_nil))) (pss_one (ps_set (i := 3) sc_met.nd rfl (Or.inl rfl) (pe_op op_cat (pv 3) (pe_call G_met_below (hr.mono (by omega)) (by rfl) m_met_below k_met_below b_met_below .nil pass0 (pa_cons (pv 0) (pa_cons (pv 1) (pa_cons (pv 4) (pa_cons (pv 5) pa_nil))))))))) (pss_one (ps_ret (pv 3))))), ?_⟩
    refine ⟨Nat.zero_le _, fun r hr' => ?_⟩
    have s0 : Same H (upd H r (.lst [])) := same_new hr'
    refine ⟨_, rfl, _, rfl, _, rfl, hd, sh, B, f, S, rfl, hh.same s0, hs.same s0, hf, fun H1 p ts s1 hp hl hts => ?_⟩
    refine ⟨p, rfl, ⟨_, SqL.of hp⟩, for_list (K := K) (a := p) (xs := ts.map V.ref)
      (fun i σ H' => ∃ (r' : Addr) (v1 v2 : Option V), σ = [some (.ref hd), some (.ref sh), some (.int (f : Int)), some (.ref r'), v1, v2] ∧ Same H1 H' ∧ H r' = none ∧
        H' r' = some (.lst (natsV ((slots5.take i).flatMap fun e => metP B S (S.home (4 + f) e.1) e.2)))) ⟨r, _, _, rfl, Same.refl _, hr', s1 _ _ upd_same⟩ (fun i σ H' _ ⟨_, _, _, _, sH, _⟩ => SqL.of (sH _ _ hp)) ?_ ?_⟩
    · rintro i x σ H' hi ⟨r', v1, v2, rfl, sH, hn, hr2⟩
      obtain ⟨t, ht, rfl⟩ := ref_get hi
      obtain ⟨e, he, htt⟩ := hts i t ht
      have hi5 : i < 5 := by rw [← hl]; exact (List.getElem?_eq_some_iff.mp ht).1
      obtain ⟨el, _⟩ := slots5_lev i hi5 e he
      have sA := (s0.trans s1).trans sH
      refine ⟨t, _, rfl, SqT.of (sH _ _ htt), rfl, _, _, rfl, _, _, rfl, rfl, ?_⟩
      refine ⟨_, rfl, _, rfl, _, rfl, _, rfl, _, rfl, hd, sh, B, S, _, e.2, rfl, hh.same sA, hs.same sA, by omega, by omega, fun H2 q s2 _ hq => ?_⟩
      have a1 := metP_len (B := B) (S := S) (p := S.home (4 + f) e.1) (l := e.2) el
      have a2 := metT_len (B := B) (S := S) (f := f) (i := i)
      refine ⟨r', q, _, _, rfl, rfl, s2 _ _ hr2, hq, ?_, fun z hz => ?_⟩
      · unfold natsV
        rw [List.length_map, List.length_map]
        exact Nat.le_trans (show _ ≤ 10000 by omega) (by decide)
      · refine ⟨z, _, _, rfl, (sH.trans s2).trans (same_new hz), (sA.trans s2).free hz, ?_⟩
        rw [upd_same, flat_take_succ he]
        unfold natsV
        rw [← List.map_append]
    · rintro σ H' ⟨r', v1, v2, rfl, sH, hn, hr2⟩
      refine ⟨_, rfl, ?_⟩
      refine k H' r' ((s0.trans s1).trans sH) hn ?_
      rw [hr2, List.length_map, hl, metF_take]
/-! ### counts of the two files -/
def cntV (B : Nat) (L : List Nat) : List V := (List.range B).map fun b => V.int ((L.count b : Nat) : Int)
theorem cntV_step {B : Nat} {L : List Nat} {b : Nat} : (cntV B L).set b (.int ((L.count b : Nat) + 1 : Int)) = cntV B (L ++ [b]) := by
  unfold cntV
  rw [range_set]
  refine List.map_congr_left fun c _ => ?_
  rw [List.count_append]
  by_cases h : c = b
  · subst h
    rw [if_pos rfl]
    congr 1
    rw [List.count_singleton]; simp
  · rw [if_neg h, List.count_singleton]
    have : (b == c) = false := by simpa using fun z => h z.symm
    rw [this]; simp
theorem cntV_get {B : Nat} {L : List Nat} {b : Nat} (h : b < B) : (cntV B L)[b]? = some (.int ((L.count b : Nat) : Int)) := by
  unfold cntV
  rw [List.getElem?_map, List.getElem?_range h]; rfl
def spCountsOf (CS : Addr) : Sp := fun vs H Q _ => ∃ (hd sh fl : Addr) (B : Nat) (S : St), vs = [.ref hd, .ref sh, .ref fl] ∧ HomeAt H hd B S ∧ ShAt CS H sh B ∧ H fl = some (.lst [.int 0, .int 1]) ∧ B ≤ 200 ∧
  ∀ (H' : Hp) (r : Addr), Same H H' → H' r = some (.lst (cntV B (metF B S 0 ++ metF B S 1))) → Q (.ref r) H'
theorem sc_counts_of : FnScope ["home", "shape", "files", "found", "file", "block"] ["home", "shape", "files"] (defScope s_counts_of) := ⟨rfl, rfl, rfl, by decide +kernel, rfl, by decide +kernel, by decide +kernel⟩
theorem ok_counts_of (T : Tops K mg CS CD) : Cal P w K mg base "counts_of" ["home", "shape", "files"] 7 (spCountsOf CS) := by
  obtain ⟨f, fd, F, m⟩ := T.f_counts_of
  obtain ⟨f0, fd0, G_met, m_met, k_met, b_met⟩ := ok_met (P := P) (w := w) (base := base) T
  refine ⟨f, fd, F.ok sc_counts_of (fun vs H Q E h => ?_) (fun cdv A outer s H vs Q E hr h => ?_), m, F.kp, F.binds (ps := ["home", "shape", "files"]) fun _ _ _ _ _ _ us hl => match us, hl with | [_, _, _], _ => rfl⟩
  · obtain ⟨hd, sh, fl, B, S, rfl, _⟩ := h
    rfl
  · obtain ⟨hd, sh, fl, B, S, rfl, hh, hs, hfl, hB, k⟩ := h
    obtain ⟨dx, fs, e, e1, _⟩ := hs.ob
    refine ⟨_, (pss_cons (ps_set (i := 3) sc_counts_of.nd rfl (Or.inl rfl) (pe_op op_rep (pe_lst (pa_cons pe_int pa_nil)) (pe_fld (pv 1) rfl))) (pss_cons (ps_for PassesOwn.never rfl (pi_list (pv 2)) (pg_name (i := 4) sc_counts_of.nd rfl (Or.inl rfl)) (pss_one (ps_for PassesOwn.never rfl (pi_list (pe_call G_met (hr.mono (by omega)) (by rfl) m_met k_met b_met .nil pass0 (pa_cons (pv 0) (pa_cons (pv 1) (pa_cons (pv 4) pa_nil))))) (pg_name (i := 5) sc_counts_of.nd rfl (Or.inl rfl)) (pss_one (ps_asg (pe_op op_add (pe_ix ix_list (pv 3) (pv 5) (fun _ _ => rfl)) pe_int) (pg_sub (pv 3) (pv 5) set_list)))))) (pss_one (ps_ret (pv 3))))), ?_⟩
    refine ⟨(by show 1 ≤ sizeLine; decide), fun l0 hl0 => ?_⟩
    have s0 : Same H (upd H l0 (.lst [V.int 0])) := same_new hl0
    refine ⟨_, rfl, sh, CS, dx, fs, _, rfl, s0 _ _ e, T.clShape, T.na_blocks, e1, l0, _, _, rfl, rfl, upd_same, by omega, by omega, ?_, fun r hr' => ?_⟩
    · rw [Int.toNat_natCast]
      exact Nat.le_trans (show _ ≤ 200 by simp; omega) (by decide)
    have s1 := s0.trans (same_new (o := HO.lst (List.replicate ((B : Int).toNat) [V.int 0]).flatten) hr')
    have hn : H r = none := s0.free hr'
    have e0 : (List.replicate ((B : Int).toNat) [V.int 0]).flatten = cntV B [] := by
      rw [rep_one, Int.toNat_natCast]
      unfold cntV
      refine List.ext_getElem? fun i => ?_
      rw [List.getElem?_replicate, List.getElem?_map]
      by_cases h : i < B
      · rw [if_pos h, List.getElem?_range h]; rfl
      · rw [if_neg h, List.getElem?_eq_none (by rw [List.length_range]; omega)]; rfl
    rw [e0] at s1
    rw [e0]
    refine ⟨_, rfl, fl, rfl, ⟨_, SqL.of (s1 _ _ hfl)⟩, for_list (K := K) (a := fl) (xs := [V.int 0, V.int 1])
      (fun i σ H' => ∃ (v1 v2 : Option V), σ = [some (.ref hd), some (.ref sh), some (.ref fl), some (.ref r), v1, v2] ∧ Same H H' ∧
        H' r = some (.lst (cntV B (([0, 1].take i).flatMap fun f => metF B S f)))) ⟨_, _, rfl, s1, upd_same⟩ (fun i σ H' _ ⟨_, _, _, sH, _⟩ => SqL.of (sH _ _ hfl)) ?_ ?_⟩
    · rintro i x σ H' hi ⟨v1, v2, rfl, sH, hr2⟩
      obtain ⟨g, hg, rfl⟩ := nat_get (L := [0, 1]) (i := i) (x := x) hi
      have hg2 : g < 2 := by
        have : g ∈ [0, 1] := List.mem_of_getElem? hg
        simp at this; omega
      refine ⟨_, rfl, _, rfl, _, rfl, hd, sh, B, g, S, rfl, hh.same sH, hs.same sH, hg2, fun H2 a s2 na ha => ?_⟩
      have nar : r ≠ a := ne_of_none hr2 na
      refine ⟨a, rfl, ⟨_, SqL.of ha⟩, for_list (K := K) (a := a) (xs := natsV (metF B S g))
        (fun j σ H3 => ∃ (v2 : Option V), σ = [some (.ref hd), some (.ref sh), some (.ref fl), some (.ref r), some (.int (g : Int)), v2] ∧ Same H H3 ∧ H3 a = some (.lst (natsV (metF B S g))) ∧
          H3 r = some (.lst (cntV B ((([0, 1].take i).flatMap fun f => metF B S f) ++ (metF B S g).take j)))) ⟨_, rfl, sH.trans s2, ha, by rw [List.take_zero, List.append_nil]; exact s2 _ _ hr2⟩ (fun j σ H3 _ ⟨_, _, _, h3, _⟩ => SqL.of h3) ?_ ?_⟩
      · rintro j x σ H3 hj ⟨v2, rfl, s3, h3, hr3⟩
        obtain ⟨b, hb, rfl⟩ := nat_get hj
        have hbB : b < B := metF_lt (List.mem_of_getElem? hb)
        have hix : ∀ L, ixN (cntV B L).length (b : Int) = some b := fun L => by
          unfold ixN cntV
          rw [if_pos (by omega), List.length_map, List.length_range, if_pos (by omega), Int.toNat_natCast]
        refine ⟨_, rfl, _, rfl, r, _, _, _, rfl, rfl, SqL.of hr3, atI_nat (cntV_get hbB), _, _, rfl, rfl, _, rfl, _, rfl, r, _, _, _, rfl, rfl, hr3, hix _, ?_⟩
        refine ⟨_, rfl, fun c o hc => ?_, by rw [upd_ne nar.symm]; exact h3, ?_⟩
        · rw [upd_ne (ne_of_none hc hn)]
          exact s3 _ _ hc
        · rw [upd_same, cntV_step]
          congr 3
          rw [List.append_assoc]
          congr 1
          rw [List.take_add_one, hb]; rfl
      · rintro σ H3 ⟨v2, rfl, s3, h3, hr3⟩
        refine ⟨_, _, rfl, s3, ?_⟩
        have el : (natsV (metF B S g)).length = (metF B S g).length := by unfold natsV; rw [List.length_map]
        rw [hr3, flat_take_succ hg, el, List.take_length]
    · rintro σ H' ⟨v1, v2, rfl, sH, hr2⟩
      refine ⟨_, rfl, ?_⟩
      refine k H' r sH ?_
      rw [hr2]
      show some (HO.lst (cntV B (([0, 1] : List Nat).flatMap fun f => metF B S f))) = _
      rw [List.flatMap_cons, List.flatMap_cons, List.flatMap_nil, List.append_nil]
/-! ### data -/
def spDataBlock (CS : Addr) : Sp := fun vs H Q _ => ∃ (hd sh : Addr) (B f n : Nat) (S : St), vs = [.ref hd, .ref sh, .int (f : Int), .int (n : Int)] ∧ HomeAt H hd B S ∧ ShAt CS H sh B ∧ f < 2 ∧ n < 75 ∧
  ∀ (H' : Hp), Same H H' → Q (optV (reach B S f (spot n))) H'
theorem spot_lt : ∀ n, n < 75 → (∀ x ∈ spot n, x < 8) ∧ spot n ≠ [] := by decide +kernel
theorem sc_data_block : FnScope ["home", "shape", "file", "number", "plate", "block", "place"] ["home", "shape", "file", "number"] (defScope s_data_block) := ⟨rfl, rfl, rfl, by decide +kernel, rfl, by decide +kernel, by decide +kernel⟩
theorem ok_data_block (T : Tops K mg CS CD) : Cal P w K mg base "data_block" ["home", "shape", "file", "number"] 2 (spDataBlock CS) := by
  obtain ⟨f, fd, F, m⟩ := T.f_data_block
  obtain ⟨f0, fd0, M_file_plate, GM_file_plate, bM_file_plate⟩ := ok_file_plate (P := P) (w := w) (base := base) T
  obtain ⟨f1, fd1, M_block_plate, GM_block_plate, bM_block_plate⟩ := ok_block_plate (P := P) (w := w) (base := base) T
  obtain ⟨f2, fd2, G_block_of, m_block_of, k_block_of, b_block_of⟩ := ok_block_of (P := P) (w := w) (base := base) T
  obtain ⟨f3, fd3, G_spot_of, m_spot_of, k_spot_of, b_spot_of⟩ := ok_spot_of (P := P) (w := w) (base := base) T
  refine ⟨f, fd, F.ok sc_data_block (fun vs H Q E h => ?_) (fun cdv A outer s H vs Q E hr h => ?_), m, F.kp, F.binds (ps := ["home", "shape", "file", "number"]) fun _ _ _ _ _ _ us hl => match us, hl with | [_, _, _, _], _ => rfl⟩
  · obtain ⟨hd, sh, B, f, n, S, rfl, _⟩ := h
    rfl
  · obtain ⟨hd, sh, B, f, n, S, rfl, hh, hs, hf, hn, k⟩ := h
    have hu := hu_of hr
    obtain ⟨dx, fs, e, _, _, _, n1, n2⟩ := hs.ob
    obtain ⟨t, g, ht⟩ := hh.get (show 4 + f < 6 + B by omega)
    obtain ⟨l8, lne⟩ := spot_lt n hn
    refine ⟨_, (pss_cons (ps_par (i := 4) (j := 5) (by rfl) sc_data_block.nd rfl rfl (by decide) rfl rfl (pa_cons (pe_dget hu (pv 0) (pe_meth (pv 1) T.clShape M_file_plate GM_file_plate (hr.mono (by omega)) bM_file_plate .nil pass0 (pa_cons (pv 2) pa_nil)) (fun _ _ => rfl)) (pa_cons pe_non pa_nil)) (by rfl)) (pss_cons (ps_for PassesOwn.never rfl (pi_tup (pe_call G_spot_of (hr.mono (by omega)) (by rfl) m_spot_of k_spot_of b_spot_of .nil pass0 (pa_cons (pv 3) pa_nil))) (pg_name (i := 6) sc_data_block.nd rfl (Or.inl rfl)) (pss_cons (ps_set (i := 5) sc_data_block.nd rfl (Or.inl rfl) (pe_call G_block_of (hr.mono (by omega)) (by rfl) m_block_of k_block_of b_block_of .nil pass0 (pa_cons (pv 1) (pa_cons (pe_ix ix_tup (pv 4) (pv 6) (fun _ _ => rfl)) pa_nil)))) (pss_cons (ps_if (pt_cmp (pc_isN (pv 5))) (pss_one (ps_ret pe_non)) pss_nil) (pss_one (ps_set (i := 4) sc_data_block.nd rfl (Or.inl rfl) (pe_dget hu (pv 0) (pe_meth (pv 1) T.clShape M_block_plate GM_block_plate (hr.mono (by omega)) bM_block_plate .nil pass0 (pa_cons (pv 5) pa_nil)) (fun _ _ => rfl))))))) (pss_one (ps_ret (pv 5))))), ?_⟩
    refine ⟨_, rfl, _, rfl, sh, dx, fs, rfl, e, n1, _, rfl, sh, B, f, rfl, hs, hd, _, rfl, g, _, _, rfl, ?_⟩
    refine ⟨_, rfl, n, rfl, fun a H1 s1 ha => ?_⟩
    refine ⟨a, rfl, ⟨_, SqT.of ha⟩, for_tup (K := K) (a := a) (xs := natsV (spot n))
      (fun i σ H' => ∃ (q : Nat) (tq : Addr) (vb : V) (v : Option V), σ = [some (.ref hd), some (.ref sh), some (.int (f : Int)), some (.int (n : Int)), some (.ref tq), some vb, v] ∧ Same H1 H' ∧ H' tq = some (.tup (plateV (S.home q))) ∧
        (∀ j, reach B S f ((spot n).take i ++ [j]) = blk B (S.home q j)) ∧ (0 < i → vb = optV (reach B S f ((spot n).take i)))) ⟨4 + f, t, _, _, rfl, Same.refl _, s1 _ _ ht, (fun j => rfl), (fun z => absurd z (Nat.lt_irrefl _))⟩ (fun i σ H' _ ⟨_, _, _, _, _, sH, _⟩ => SqT.of (sH _ _ ha)) ?_ ?_⟩
    · rintro i x σ H' hi ⟨q, tq, vb, v, rfl, sH, htq, hre, _⟩
      obtain ⟨c, hc, rfl⟩ := nat_get hi
      have c8 : c < 8 := l8 c (List.mem_of_getElem? hc)
      have sA := s1.trans sH
      have etake : (spot n).take (i + 1) = (spot n).take i ++ [c] := by rw [List.take_add_one, hc]; rfl
      refine ⟨_, rfl, _, rfl, _, rfl, tq, _, _, _, rfl, rfl, SqT.of htq, atI_nat (plateV_get c8), sh, B, _, rfl, hs.same sA, ?_⟩
      have er := hre c
      cases hb : blk B (S.home q c) with
      | none =>
        refine ⟨_, rfl, _, rfl, iteT ?_⟩
        rw [hb, ← etake] at er
        have : reach B S f (spot n) = none := by
          rw [← List.take_append_drop (i + 1) (spot n)]
          exact reach_pre (by rw [etake]; simp) er
        have kk := k H' sA
        rw [this] at kk
        exact kk
      | some b =>
        have hbB := (blk_lt hb).1
        obtain ⟨t2, g2, ht2⟩ := (hh.same sA).get (show 6 + b < 6 + B by omega)
        refine ⟨_, rfl, _, rfl, iteF ?_⟩
        refine ⟨_, rfl, _, rfl, sh, dx, fs, rfl, sA _ _ e, n2, _, rfl, sh, B, b, rfl, hs.same sA, hd, _, rfl, g2, ?_⟩
        rw [hb, ← etake] at er
        refine ⟨6 + b, t2, _, _, rfl, sH, ht2, fun j => ?_, fun _ => ?_⟩
        · rw [reach_snoc (by rw [etake]; simp), er]; rfl
        · rw [er]
    · rintro σ H' ⟨q, tq, vb, v, rfl, sH, htq, hre, hv⟩
      refine ⟨_, rfl, ?_⟩
      have hl : (natsV (spot n)).length = (spot n).length := by unfold natsV; rw [List.length_map]
      rw [hl, List.take_length] at hv
      have := hv (List.length_pos_iff.mpr lne)
      subst this
      exact k H' (s1.trans sH)
def cellsV (B : Nat) (S : St) (f n : Nat) : List V := (List.range n).map fun i => V.int (cell B S f (i / 8) (i % 8))
theorem cellsV_succ {B : Nat} {S : St} {f n : Nat} : cellsV B S f (n + 1) = cellsV B S f n ++ [V.int (cell B S f (n / 8) (n % 8))] := by
  unfold cellsV
  rw [List.range_succ, List.map_append]; rfl
def spNumbersAt (CS : Addr) : Sp := fun vs H Q _ => ∃ (hd sh : Addr) (B f n : Nat) (S : St), vs = [.ref hd, .ref sh, .int (f : Int), .int 0, .int (n : Int)] ∧ HomeAt H hd B S ∧ ShAt CS H sh B ∧ f < 2 ∧ n ≤ 600 ∧
  ∀ (H' : Hp) (r : Addr), Same H H' → H' r = some (.tup (cellsV B S f n)) → Q (.ref r) H'
theorem sc_numbers_at : FnScope ["home", "shape", "file", "start", "end", "found", "at", "block"] ["home", "shape", "file", "start", "end"] (defScope s_numbers_at) := ⟨rfl, rfl, rfl, by decide +kernel, rfl, by decide +kernel, by decide +kernel⟩
theorem ok_numbers_at (T : Tops K mg CS CD) : Cal P w K mg base "numbers_at" ["home", "shape", "file", "start", "end"] 3 (spNumbersAt CS) := by
  obtain ⟨f, fd, F, m⟩ := T.f_numbers_at
  obtain ⟨tW, c_WIDTH⟩ := T.c_WIDTH
  obtain ⟨f1, fd1, M_block_plate, GM_block_plate, bM_block_plate⟩ := ok_block_plate (P := P) (w := w) (base := base) T
  obtain ⟨f2, fd2, G_data_block, m_data_block, k_data_block, b_data_block⟩ := ok_data_block (P := P) (w := w) (base := base) T
  refine ⟨f, fd, F.ok sc_numbers_at (fun vs H Q E h => ?_) (fun cdv A outer s H vs Q E hr h => ?_), m, F.kp, F.binds (ps := ["home", "shape", "file", "start", "end"]) fun _ _ _ _ _ _ us hl => match us, hl with | [_, _, _, _, _], _ => rfl⟩
  · obtain ⟨hd, sh, B, f, n, S, rfl, _⟩ := h
    rfl
  · obtain ⟨hd, sh, B, f, n, S, rfl, hh, hs, hf, hn, k⟩ := h
    have hu := hu_of hr
    obtain ⟨dx, fs, e, _, _, _, n1, n2⟩ := hs.ob
    refine ⟨_, (pss_cons (ps_set (i := 5) sc_numbers_at.nd rfl (Or.inl rfl) (pe_lst pa_nil)) (pss_cons (ps_for PassesOwn.never rfl (pi_range2 (by rfl) T.z_range (pa_cons (pv 3) (pa_cons (pv 4) pa_nil))) (pg_name (i := 6) sc_numbers_at.nd rfl (Or.inl rfl)) (pss_cons (ps_set (i := 7) sc_numbers_at.nd rfl (Or.inl rfl) (pe_call G_data_block (hr.mono (by omega)) (by rfl) m_data_block k_data_block b_data_block .nil pass0 (pa_cons (pv 0) (pa_cons (pv 1) (pa_cons (pv 2) (pa_cons (pe_op op_fdiv (pv 6) (pe_glob (v := .int 8) (by rfl) c_WIDTH ⟨_, rfl⟩)) pa_nil)))))) (pss_one (ps_expr (pe_bm PySem.F.plainAttrs_list PySem.F.slot_list_append PySem.F.type_list_append mt_append (pv 5) (pa_cons (pe_ifExp (pt_cmp (pc_isN (pv 7))) pe_int (pe_ix ix_tup (pe_dget hu (pv 0) (pe_meth (pv 1) T.clShape M_block_plate GM_block_plate (hr.mono (by omega)) bM_block_plate .nil pass0 (pa_cons (pv 7) pa_nil)) (fun _ _ => rfl)) (pe_op op_mod (pe_callTy call_int1 (by rfl) T.z_int (by decide +kernel) (pa_cons (pv 6) pa_nil)) (pe_glob (v := .int 8) (by rfl) c_WIDTH ⟨_, rfl⟩)) (fun _ _ => rfl))) pa_nil)))))) (pss_one (ps_ret (pe_callTy call_tuple_of (by rfl) T.z_tuple (by decide +kernel) (pa_cons (pv 5) pa_nil)))))), ?_⟩
    refine ⟨Nat.zero_le _, fun r hr' => ?_⟩
    have s0 : Same H (upd H r (.lst [])) := same_new hr'
    refine ⟨_, rfl, _, rfl, 0, (n : Int), rfl, by omega, for_range (lo := 0) (n := ((n : Int) - 0).toNat)
      (fun i σ H' => ∃ (v1 v2 : Option V), σ = [some (.ref hd), some (.ref sh), some (.int (f : Int)), some (.int 0), some (.int (n : Int)), some (.ref r), v1, v2] ∧ Same H H' ∧ H' r = some (.lst (cellsV B S f i))) ⟨_, _, rfl, s0, upd_same⟩ ?_ ?_⟩
    · rintro i σ H' hi ⟨v1, v2, rfl, sH, hr2⟩
      have hi : i < n := by omega
      have e8 : ((0 : Int) + (i : Int)) / 8 = ((i / 8 : Nat) : Int) := by omega
      refine ⟨_, rfl, _, rfl, _, rfl, _, rfl, _, _, rfl, rfl, ⟨by decide, by decide⟩, ?_⟩
      refine ⟨hd, sh, B, f, i / 8, S, by rw [← e8]; rfl, hh.same sH, hs.same sH, hf, by omega, fun H2 s2 => ?_⟩
      have sA := sH.trans s2
      have hr3 := s2 _ _ hr2
      have fin : ∀ (c : Int) (H3 : Hp), Same H2 H3 → c = cell B S f (i / 8) (i % 8) → Same H (upd H3 r (.lst (cellsV B S f i ++ [V.int c]))) ∧ (upd H3 r (.lst (cellsV B S f i ++ [V.int c]))) r = some (.lst (cellsV B S f (i + 1))) := fun c H3 s3 hc => by
        refine ⟨fun a o ho => ?_, ?_⟩
        · rw [upd_ne (ne_of_none ho hr')]
          exact s3 _ _ (sA _ _ ho)
        · rw [upd_same, cellsV_succ, hc]
      have lt : (cellsV B S f i).length < sizeLine := by
        unfold cellsV
        rw [List.length_map, List.length_range]
        exact small1000 (by omega)
      cases hb : reach B S f (spot (i / 8)) with
      | none =>
        refine ⟨_, rfl, .inl ⟨rfl, _, SqL.of hr3⟩, _, rfl, _, rfl, iteT ?_⟩
        obtain ⟨z1, z2⟩ := fin 0 H2 (Same.refl _) (cell_none hb).symm
        exact ⟨r, _, _, rfl, rfl, hr3, lt, _, _, rfl, z1, z2⟩
      | some b =>
        have hbB := reach_lt hb
        obtain ⟨t2, g2, ht2⟩ := (hh.same sA).get (show 6 + b < 6 + B by omega)
        have ei : ((0 : Int) + (i : Int)) % 8 = ((i % 8 : Nat) : Int) := by omega
        refine ⟨_, rfl, .inl ⟨rfl, _, SqL.of hr3⟩, _, rfl, _, rfl, iteF ?_⟩
        refine ⟨_, rfl, _, rfl, sh, dx, fs, rfl, sA _ _ e, n2, _, rfl, sh, B, b, rfl, hs.same sA, hd, _, rfl, g2, _, rfl, .inl ⟨_, rfl, ?_⟩⟩
        refine ⟨_, _, rfl, rfl, (by show (0 : Int) < 8; decide), t2, _, _, V.int (S.home (6 + b) (i % 8)), rfl, rfl, SqT.of ht2, ?_, ?_⟩
        · show atI _ (((0 : Int) + (i : Int)) % 8) = _
          rw [ei]
          exact atI_nat (plateV_get (by omega))
        · obtain ⟨z1, z2⟩ := fin (S.home (6 + b) (i % 8)) H2 (Same.refl _) (cell_some hb).symm
          exact ⟨r, _, _, rfl, rfl, hr3, lt, _, _, rfl, z1, z2⟩
    · rintro σ H' ⟨v1, v2, rfl, sH, hr2⟩
      have en : ((n : Int) - 0).toNat = n := by omega
      rw [en] at hr2
      refine ⟨_, rfl, r, _, rfl, .inl ⟨SqL.of hr2, fun z hz => ?_⟩⟩
      exact k _ z (sH.trans (same_new hz)) upd_same
def spContent (CS : Addr) : Sp := fun vs H Q _ => ∃ (hd sh : Addr) (B f n : Nat) (S : St), vs = [.ref hd, .ref sh, .int (f : Int)] ∧ HomeAt H hd B S ∧ ShAt CS H sh B ∧ f < 2 ∧ S.home (4 + f) 0 = (n : Int) ∧ n ≤ 600 ∧
  ∀ (H' : Hp) (r : Addr), Same H H' → H' r = some (.tup (cellsV B S f n)) → Q (.ref r) H'
theorem sc_content_of : FnScope ["home", "shape", "file"] ["home", "shape", "file"] (defScope s_content_of) := ⟨rfl, rfl, rfl, by decide +kernel, rfl, by decide +kernel, by decide +kernel⟩
theorem ok_content_of (T : Tops K mg CS CD) : Cal P w K mg base "content_of" ["home", "shape", "file"] 4 (spContent CS) := by
  obtain ⟨f, fd, F, m⟩ := T.f_content_of
  obtain ⟨f1, fd1, G_size_at, m_size_at, k_size_at, b_size_at⟩ := ok_size_at (P := P) (w := w) (base := base) T
  obtain ⟨f2, fd2, G_numbers_at, m_numbers_at, k_numbers_at, b_numbers_at⟩ := ok_numbers_at (P := P) (w := w) (base := base) T
  refine ⟨f, fd, F.ok sc_content_of (fun vs H Q E h => ?_) (fun cdv A outer s H vs Q E hr h => ?_), m, F.kp, F.binds (ps := ["home", "shape", "file"]) fun _ _ _ _ _ _ us hl => match us, hl with | [_, _, _], _ => rfl⟩
  · obtain ⟨hd, sh, B, f, n, S, rfl, _⟩ := h
    rfl
  · obtain ⟨hd, sh, B, f, n, S, rfl, hh, hs, hf, hz, hn, k⟩ := h
    refine ⟨_, (pss_one (ps_ret (pe_call G_numbers_at (hr.mono (by omega)) (by rfl) m_numbers_at k_numbers_at b_numbers_at .nil pass0 (pa_cons (pv 0) (pa_cons (pv 1) (pa_cons (pv 2) (pa_cons pe_int (pa_cons (pe_call G_size_at (hr.mono (by omega)) (by rfl) m_size_at k_size_at b_size_at .nil pass0 (pa_cons (pv 0) (pa_cons (pv 1) (pa_cons (pv 2) pa_nil)))) pa_nil)))))))), ?_⟩
    refine ⟨_, rfl, _, rfl, _, rfl, _, rfl, _, rfl, _, rfl, hd, sh, B, f, S, rfl, hh, hs, hf, by omega, by omega, ?_⟩
    exact ⟨hd, sh, B, f, n, S, by rw [hz]; rfl, hh, hs, hf, hn, k⟩
end
end K51
set_option maxRecDepth 100000
set_option maxHeartbeats 4000000
namespace K51
open PySem L2
section
variable {P : Program} {w : World} {K : PySem.W.Frag} {mg : Str → Option Value} {base : Heap} {CS CD : Addr}
/-! ### free blocks -/
def spIsFree (CS CD : Addr) : Sp := fun vs H Q _ => ∃ (W : DW) (B : Nat) (S : St) (b : Nat), vs = [.ref W.p, .int (b : Int)] ∧ Dr CS CD H W B S ∧ b < B ∧ Q (.bl (decide (S.counts b = 0))) H
theorem sc_is_free : FnScope ["draft", "block"] ["draft", "block"] (defScope s_is_free) := ⟨rfl, rfl, rfl, by decide +kernel, rfl, by decide +kernel, by decide +kernel⟩
theorem ok_is_free (T : Tops K mg CS CD) : Cal P w K mg base "is_free" ["draft", "block"] 2 (spIsFree CS CD) := by
  obtain ⟨f, fd, F, m⟩ := T.f_is_free
  obtain ⟨f1, fd1, M_count, GM_count, bM_count⟩ := ok_count (P := P) (w := w) (base := base) T
  refine ⟨f, fd, F.ok sc_is_free (fun vs H Q E h => ?_) (fun cdv A outer s H vs Q E hr h => ?_), m, F.kp, F.binds (ps := ["draft", "block"]) fun _ _ _ _ _ _ us hl => match us, hl with | [_, _], _ => rfl⟩
  · obtain ⟨W, B, S, b, rfl, _⟩ := h
    rfl
  · obtain ⟨W, B, S, b, rfl, D, hb, k⟩ := h
    have hu := hu_of hr
    obtain ⟨dx, fs, e, _, _, _, f4, _, _, _, f8, _⟩ := D.ob
    refine ⟨_, (pss_one (ps_ret (pe_and (pe_cmpR op_eq (pe_meth (pv 0) T.clDraft M_count GM_count (hr.mono (by omega)) bM_count .nil pass0 (pa_cons (pv 1) pa_nil)) pe_int (nomark _)) (pe_one (pe_cmp (pc_dnotin hu (pv 1) (pe_fld (pv 0) rfl))))))), ?_⟩
    refine ⟨_, rfl, W.p, dx, fs, rfl, e, f8, _, rfl, W, B, S, b, rfl, D, hb, rfl, _, rfl, ?_⟩
    have dk : decide (V.int (S.counts b) = V.int 0) = decide (S.counts b = 0) := by
      rw [dec_int]; rfl
    refine ite2 (fun c => ?_) (fun c => ?_)
    · rw [dk] at c
      refine ⟨_, rfl, _, rfl, W.p, CD, dx, fs, _, rfl, e, T.clDraft, T.na_pins, f4, W.pd, _, rfl, DGet.k (k := Sum.inl (b : Int)) D.pins, ?_⟩
      rw [c] at k
      exact k
    · rw [dk] at c
      have c : decide (S.counts b = 0) = false := by simpa using c
      rw [c] at k
      exact k
def freeL (B : Nat) (S : St) (n : Nat) : List Nat := (List.range n).filter fun b => decide (S.counts b = 0)
def spFreeBlocks (CS CD : Addr) : Sp := fun vs H Q _ => ∃ (W : DW) (B : Nat) (S : St), vs = [.ref W.p] ∧ Dr CS CD H W B S ∧ ∀ (H' : Hp) (r : Addr), Same H H' → H r = none → H' r = some (.lst (natsV (freeL B S B))) → Q (.ref r) H'
theorem sc_free_blocks : FnScope ["draft", "block"] ["draft"] (defScope s_free_blocks) := ⟨rfl, rfl, rfl, by decide +kernel, rfl, by decide +kernel, by decide +kernel⟩
theorem ok_free_blocks (T : Tops K mg CS CD) : Cal P w K mg base "free_blocks" ["draft"] 3 (spFreeBlocks CS CD) := by
  obtain ⟨f, fd, F, m⟩ := T.f_free_blocks
  obtain ⟨f1, fd1, G_is_free, m_is_free, k_is_free, b_is_free⟩ := ok_is_free (P := P) (w := w) (base := base) T
  refine ⟨f, fd, F.ok sc_free_blocks (fun vs H Q E h => ?_) (fun cdv A outer s H vs Q E hr h => ?_), m, F.kp, F.binds (ps := ["draft"]) fun _ _ _ _ _ _ us hl => match us, hl with | [_], _ => rfl⟩
  · obtain ⟨W, B, S, rfl, _⟩ := h
    rfl
  · obtain ⟨W, B, S, rfl, D, k⟩ := h
    obtain ⟨dx, fs, e, f1, _⟩ := D.ob
    obtain ⟨dx2, fs2, e2, g1, _⟩ := D.sh.ob
    have hB := D.hi
    refine ⟨_, (pss_one (ps_ret (pe_lc (own := [("block", 1)]) (g := gName 1) rfl sc_free_blocks.nd (pi_range1 (by rfl) T.z_range (pa_cons (pe_fld (pe_fld (pv 0) rfl) rfl) pa_nil)) (blkOk_by (N := ["draft", "block"]) (sc := defScope s_free_blocks) (by decide +kernel)) (fun _ _ _ _ _ => pg_name (i := 1) sc_free_blocks.nd rfl (Or.inl rfl)) (fun _ _ _ _ _ => (pts_one (pt_val (pe_call G_is_free (hr.mono (by omega)) (by rfl) m_is_free k_is_free b_is_free .nil pass0 (pa_cons (pv 0) (pa_cons (pv 1) pa_nil)))))) (fun _ _ _ _ _ => (pv 1))))), ?_⟩
    refine ⟨_, rfl, W.p, CD, dx, fs, _, rfl, e, T.clDraft, T.na_shape, f1, W.sh, CS, dx2, fs2, _, rfl, e2, T.clShape, T.na_blocks, g1, (B : Int), rfl, by omega, by omega, fun D0 hD0 => lc_range (lo := 0) (n := ((B : Int)).toNat)
      (fun i H' => Same H H' ∧ H' D0 = some (.lst (natsV (freeL B S i)))) ⟨same_new hD0, upd_same⟩ ?_ ?_⟩
    · rintro i H' hi ⟨sH, hL⟩
      have hi : i < B := by omega
      have e0 : (0 : Int) + (i : Int) = (i : Int) := by omega
      have ev : ([V.ref W.p, V.int ((0 : Int) + (i : Int))] : List V) ++ [] = [V.ref W.p, V.int (i : Int)] := by rw [e0]; rfl
      refine ⟨rfl, _, rfl, _, rfl, W, B, S, i, ev, D.same sH, hi, _, rfl, ?_⟩
      have ef : freeL B S (i + 1) = freeL B S i ++ (if S.counts i = 0 then [i] else []) := by
        unfold freeL
        rw [List.range_succ, List.filter_append]
        congr 1
        by_cases h : S.counts i = 0
        · rw [if_pos h]; simp [h]
        · rw [if_neg h]; simp [h]
      refine ite2 (fun c => ?_) (fun c => ?_)
      · have c := of_decide_eq_true c
        refine ⟨_, rfl, _, hL, ?_, ?_, ?_⟩
        · unfold natsV freeL
          rw [List.length_map]
          refine small1000 ?_
          have := List.length_filter_le (fun b => decide (S.counts b = 0)) (List.range i)
          rw [List.length_range] at this
          omega
        · intro a o ho
          rw [upd_ne (ne_of_none ho hD0)]
          exact sH _ _ ho
        · rw [upd_same, ef, if_pos c, e0]
          unfold natsV
          rw [List.map_append]; rfl
      · have c : ¬ S.counts i = 0 := fun z => c (decide_eq_true z)
        rw [ef, if_neg c, List.append_nil]
        exact ⟨sH, hL⟩
    · rintro H' ⟨sH, hL⟩
      rw [Int.toNat_natCast] at hL
      exact k H' D0 sH hD0 hL
def spTake (CS CD : Addr) : Sp := fun vs H Q _ => ∃ (W : DW) (B : Nat) (S : St) (t : Addr) (x : Nat → Int), vs = [.ref W.p, .ref t] ∧ Dr CS CD H W B S ∧ H t = some (.tup (plateV x)) ∧ (∃ n, n < B ∧ S.counts n = 0) ∧
  ∀ (n : Nat) (H' : Hp), n < B → S.counts n = 0 → Dr CS CD H' W B ((S.setc n 1).put (6 + n) x) → Keep H H' W → Q (.int ((n : Int) + 1)) H'
theorem sc_take : FnScope ["draft", "plate", "free"] ["draft", "plate"] (defScope s_take) := ⟨rfl, rfl, rfl, by decide +kernel, rfl, by decide +kernel, by decide +kernel⟩
theorem ok_take (T : Tops K mg CS CD) : Cal P w K mg base "take" ["draft", "plate"] 4 (spTake CS CD) := by
  obtain ⟨f, fd, F, m⟩ := T.f_take
  obtain ⟨f1, fd1, G_free_blocks, m_free_blocks, k_free_blocks, b_free_blocks⟩ := ok_free_blocks (P := P) (w := w) (base := base) T
  obtain ⟨f2, fd2, M_put_count, GM_put_count, bM_put_count⟩ := ok_put_count (P := P) (w := w) (base := base) T
  obtain ⟨f3, fd3, M_put, GM_put, bM_put⟩ := ok_put (P := P) (w := w) (base := base) T
  obtain ⟨f4, fd4, M_block_plate, GM_block_plate, bM_block_plate⟩ := ok_block_plate (P := P) (w := w) (base := base) T
  refine ⟨f, fd, F.ok sc_take (fun vs H Q E h => ?_) (fun cdv A outer s H vs Q E hr h => ?_), m, F.kp, F.binds (ps := ["draft", "plate"]) fun _ _ _ _ _ _ us hl => match us, hl with | [_, _], _ => rfl⟩
  · obtain ⟨W, B, S, t, x, rfl, _⟩ := h
    rfl
  · obtain ⟨W, B, S, t, x, rfl, D, ht, ⟨n0, hn0, hz0⟩, k⟩ := h
    have hu := hu_of hr
    refine ⟨_, (pss_cons (ps_set (i := 2) sc_take.nd rfl (Or.inl rfl) (pe_call G_free_blocks (hr.mono (by omega)) (by rfl) m_free_blocks k_free_blocks b_free_blocks .nil pass0 (pa_cons (pv 0) pa_nil))) (pss_cons (ps_if (pt_cmpR (op_eqD hr.units) (pv 2) (pe_lst pa_nil) (nomark _)) (pss_one (ps_never)) pss_nil) (pss_cons (ps_expr (pe_meth (pv 0) T.clDraft M_put_count GM_put_count (hr.mono (by omega)) bM_put_count .nil pass0 (pa_cons (pe_ix ix_list (pv 2) pe_int (fun _ _ => rfl)) (pa_cons pe_int pa_nil)))) (pss_cons (ps_expr (pe_meth (pv 0) T.clDraft M_put GM_put (hr.mono (by omega)) bM_put .nil pass0 (pa_cons (pe_meth (pe_fld (pv 0) rfl) T.clShape M_block_plate GM_block_plate (hr.mono (by omega)) bM_block_plate .nil pass0 (pa_cons (pe_ix ix_list (pv 2) pe_int (fun _ _ => rfl)) pa_nil)) (pa_cons (pv 1) pa_nil)))) (pss_one (ps_ret (pe_op op_add (pe_ix ix_list (pv 2) pe_int (fun _ _ => rfl)) pe_int))))))), ?_⟩
    refine ⟨_, rfl, W, B, S, rfl, D, fun H1 a s1 na0 ha => ?_⟩
    obtain ⟨n, L, eL⟩ : ∃ n L, freeL B S B = n :: L := by
      cases e : freeL B S B with
      | nil =>
        have : n0 ∈ freeL B S B := List.mem_filter.mpr ⟨List.mem_range.mpr hn0, by simp [hz0]⟩
        rw [e] at this; cases this
      | cons n L => exact ⟨n, L, rfl⟩
    have hn : n < B ∧ S.counts n = 0 := by
      have : n ∈ freeL B S B := by rw [eL]; exact List.mem_cons_self
      obtain ⟨h1, h2⟩ := List.mem_filter.mp this
      exact ⟨List.mem_range.mp h1, by simpa using h2⟩
    have eV : natsV (freeL B S B) = ((freeL B S B).map fun (i : Nat) => (i : Int)).map V.int := by unfold natsV; rw [List.map_map]; rfl
    have D1 := D.same s1
    obtain ⟨dx, fs, e, f1, _, _, _, _, f6, _, _, f9⟩ := D1.ob
    refine ⟨_, rfl, (by show 0 ≤ sizeLine; decide), fun l hl => ?_⟩
    have s2 : Same H1 (upd H1 l (.lst [])) := same_new hl
    have D2 := D1.same s2
    refine ⟨.list (((freeL B S B).map fun (i : Nat) => (i : Int)).map PyData.int), .list [], .lst (SqL.of (s2 _ _ ha)) (by rw [eV]; exact dpAll_ints _), .lst (SqL.of upd_same) .nil, shaped_li _, rfl, _, rfl, ?_⟩
    have ee : PyData.eqv (.list (((freeL B S B).map fun (i : Nat) => (i : Int)).map PyData.int)) (.list []) = false := by rw [eL]; rfl
    rw [ee]
    refine iteF ?_
    have at0 : atI (natsV (freeL B S B)) 0 = some (.int (n : Int)) := by rw [eL]; exact atI_nat (j := 0) rfl
    have sA := s1.trans s2
    refine ⟨_, rfl, W.p, dx, fs, rfl, s2 _ _ e, f9, _, rfl, a, _, _, _, rfl, rfl, SqL.of (s2 _ _ ha), at0, W, B, S, n, 1, rfl, D2, hn.1, fun H3 D3 k3 => ?_⟩
    have k13 : Keep H H3 W := (Keep.of sA).trans k3
    have na1 : a ≠ W.hd := by obtain ⟨kvs, q, _⟩ := D1.home; exact ne_of ha q (by intro z; cases z)
    have na2 : a ≠ W.cl := (ne_of_none D.counts na0).symm
    have na3 : a ≠ W.cd := by obtain ⟨kvs, q, _⟩ := D1.ch; exact ne_of ha q (by intro z; cases z)
    have ha3 := k3 a _ (s2 _ _ ha) na1 na2 na3
    have ht3 := k13.tup D ht
    obtain ⟨dx3, fs3, e3, p1, _, _, _, _, p6, _⟩ := D3.ob
    obtain ⟨dxs, fss, es, _, _, _, _, n2⟩ := D3.sh.ob
    refine ⟨_, rfl, W.p, dx3, fs3, rfl, e3, p6, _, rfl, W.p, CD, dx3, fs3, _, rfl, e3, T.clDraft, T.na_shape, p1, W.sh, dxs, fss, rfl, es, n2, _, rfl, a, _, _, _, rfl, rfl, SqL.of ha3, at0, W.sh, B, n, rfl, D3.sh, _, rfl,
      W, B, S.setc n 1, 6 + n, t, x, rfl, D3, by omega, ht3, fun H4 D4 k4 => ?_⟩
    refine ⟨_, rfl, a, _, _, _, rfl, rfl, SqL.of (k4 a _ ha3 na1 na2 na3), at0, _, _, rfl, rfl, ?_⟩
    exact k n H4 hn.1 hn.2 D4 (k13.trans k4)
/-! ### own -/
def spOwn (CS CD : Addr) : Sp := fun vs H Q _ => ∃ (W : DW) (B : Nat) (S : St) (p : Int), vs = [.ref W.p, .int p] ∧ Dr CS CD H W B S ∧ (∃ n, n < B ∧ S.counts n = 0) ∧ (∀ b, blk B p = some b → S.counts b ≠ 0) ∧
  (∀ b, blk B p = some b → S.counts b = 1 → Q (.int p) H) ∧
  ∀ (n : Nat) (H' : Hp), n < B → S.counts n = 0 → (∀ b, blk B p = some b → S.counts b ≠ 1) → Dr CS CD H' W B (takeS B S p n) → Keep H H' W → Q (.int ((n : Int) + 1)) H'
theorem sc_own : FnScope ["draft", "pointer", "block", "late"] ["draft", "pointer"] (defScope s_own) := ⟨rfl, rfl, rfl, by decide +kernel, rfl, by decide +kernel, by decide +kernel⟩
theorem ok_own (T : Tops K mg CS CD) : Cal P w K mg base "own" ["draft", "pointer"] 5 (spOwn CS CD) := by
  obtain ⟨f, fd, F, m⟩ := T.f_own
  obtain ⟨f1, fd1, G_take, m_take, k_take, b_take⟩ := ok_take (P := P) (w := w) (base := base) T
  obtain ⟨f2, fd2, M_put_count, GM_put_count, bM_put_count⟩ := ok_put_count (P := P) (w := w) (base := base) T
  obtain ⟨f3, fd3, M_count, GM_count, bM_count⟩ := ok_count (P := P) (w := w) (base := base) T
  obtain ⟨f4, fd4, M_block_plate, GM_block_plate, bM_block_plate⟩ := ok_block_plate (P := P) (w := w) (base := base) T
  obtain ⟨f5, fd5, G_block_of, m_block_of, k_block_of, b_block_of⟩ := ok_block_of (P := P) (w := w) (base := base) T
  obtain ⟨f6, fd6, G_empty_plate, m_empty_plate, k_empty_plate, b_empty_plate⟩ := ok_empty_plate (P := P) (w := w) (base := base) T
  refine ⟨f, fd, F.ok sc_own (fun vs H Q E h => ?_) (fun cdv A outer s H vs Q E hr h => ?_), m, F.kp, F.binds (ps := ["draft", "pointer"]) fun _ _ _ _ _ _ us hl => match us, hl with | [_, _], _ => rfl⟩
  · obtain ⟨W, B, S, p, rfl, _⟩ := h
    rfl
  · obtain ⟨W, B, S, p, rfl, D, hfree, hne, k1, k2⟩ := h
    have hu := hu_of hr
    obtain ⟨dx, fs, e, q1, q2, q3, q4, _, _, _, q8, q9⟩ := D.ob
    obtain ⟨dxs, fss, es, _, _, _, _, n2⟩ := D.sh.ob
    refine ⟨_, (pss_cons (ps_set (i := 2) sc_own.nd rfl (Or.inl rfl) (pe_call G_block_of (hr.mono (by omega)) (by rfl) m_block_of k_block_of b_block_of .nil pass0 (pa_cons (pe_fld (pv 0) rfl) (pa_cons (pv 1) pa_nil)))) (pss_cons (ps_if (pt_cmp (pc_isN (pv 2))) (pss_one (ps_ret (pe_call G_take (hr.mono (by omega)) (by rfl) m_take k_take b_take .nil pass0 (pa_cons (pv 0) (pa_cons (pe_call0 G_empty_plate (hr.mono (by omega)) (by rfl) m_empty_plate k_empty_plate b_empty_plate .nil pass0) pa_nil))))) pss_nil) (pss_cons (ps_if (PW.pt (pw_and (pt_cmpR op_eq (pe_meth (pv 0) T.clDraft M_count GM_count (hr.mono (by omega)) bM_count .nil pass0 (pa_cons (pv 2) pa_nil)) pe_int (nomark _)) (pw_and1 (pt_cmp (pc_dnotin hu (pv 2) (pe_fld (pv 0) rfl)))))) (pss_one (ps_ret (pv 1))) pss_nil) (pss_cons (ps_set (i := 3) sc_own.nd rfl (Or.inl rfl) (pe_call G_take (hr.mono (by omega)) (by rfl) m_take k_take b_take .nil pass0 (pa_cons (pv 0) (pa_cons (pe_dget hu (pe_fld (pv 0) rfl) (pe_meth (pe_fld (pv 0) rfl) T.clShape M_block_plate GM_block_plate (hr.mono (by omega)) bM_block_plate .nil pass0 (pa_cons (pv 2) pa_nil)) (fun _ _ => rfl)) pa_nil)))) (pss_cons (ps_expr (pe_meth (pv 0) T.clDraft M_put_count GM_put_count (hr.mono (by omega)) bM_put_count .nil pass0 (pa_cons (pv 2) (pa_cons (pe_op op_sub (pe_meth (pv 0) T.clDraft M_count GM_count (hr.mono (by omega)) bM_count .nil pass0 (pa_cons (pv 2) pa_nil)) pe_int) pa_nil)))) (pss_one (ps_ret (pv 3)))))))), ?_⟩
    refine ⟨_, rfl, W.p, CD, dx, fs, _, rfl, e, T.clDraft, T.na_shape, q1, _, rfl, W.sh, B, p, rfl, D.sh, ?_⟩
    cases hb : blk B p with
    | none =>
      refine ⟨_, rfl, _, rfl, iteT ?_⟩
      refine ⟨_, rfl, rfl, fun t H1 s1 ht => ?_⟩
      refine ⟨W, B, S, t, _, rfl, D.same s1, ht, hfree, fun n H2 hn hz D2 kp2 => ?_⟩
      refine k2 n H2 hn hz (fun b z => by rw [hb] at z; cases z) (D2.like (fun q _ i _ => ?_) fun c _ => ?_) ((Keep.of s1).trans kp2)
      · show (if q = 6 + n then copyOf B S p i else S.home q i) = (if q = 6 + n then (fun _ => 0) else S.home q) i
        by_cases h : q = 6 + n
        · rw [if_pos h, if_pos h]
          unfold copyOf
          rw [hb]
        · rw [if_neg h, if_neg h]
      · show (if blk B p = some c then S.counts c - 1 else if c = n then 1 else S.counts c) = if c = n then 1 else S.counts c
        rw [if_neg (by rw [hb]; intro z; cases z)]
    | some b =>
      have hbB := (blk_lt hb).1
      refine ⟨_, rfl, _, rfl, iteF ?_⟩
      refine ⟨_, rfl, W.p, dx, fs, rfl, e, q8, _, rfl, W, B, S, b, rfl, D, hbB, rfl, _, rfl, ?_⟩
      have dk : decide (V.int (S.counts b) = V.int 1) = decide (S.counts b = 1) := by rw [dec_int]; rfl
      refine ite2 (fun c => ?_) (fun c => ?_)
      · rw [dk] at c
        refine ⟨_, rfl, _, rfl, W.p, CD, dx, fs, _, rfl, e, T.clDraft, T.na_pins, q4, W.pd, _, rfl, DGet.k (k := Sum.inl (b : Int)) D.pins, _, rfl, ?_⟩
        refine iteT ?_
        exact ⟨_, rfl, k1 b hb (of_decide_eq_true c)⟩
      · rw [dk] at c
        have h1 : S.counts b ≠ 1 := fun z => c (decide_eq_true z)
        refine iteF ?_
        obtain ⟨t, g, ht⟩ := D.home.get (show 6 + b < 6 + B by omega)
        refine ⟨_, rfl, _, rfl, W.p, CD, dx, fs, _, rfl, e, T.clDraft, T.na_home, q2, _, rfl, W.p, CD, dx, fs, _, rfl, e, T.clDraft, T.na_shape, q1, W.sh, dxs, fss, rfl, es, n2, _, rfl, W.sh, B, b, rfl, D.sh, W.hd, _, rfl, g,
          W, B, S, t, _, rfl, D, ht, hfree, fun n H2 hn hz D2 kp2 => ?_⟩
        have nb : b ≠ n := fun z => by subst z; exact hne b hb hz
        obtain ⟨dx2, fs2, e2, _, _, _, _, _, _, _, r8, r9⟩ := D2.ob
        have c2 : ((S.setc n 1).put (6 + n) (S.home (6 + b))).counts b = S.counts b := if_neg nb
        refine ⟨_, rfl, W.p, dx2, fs2, rfl, e2, r9, _, rfl, _, rfl, W.p, dx2, fs2, rfl, e2, r8, _, rfl, W, B, _, b, rfl, D2, hbB, _, _, rfl, rfl, W, B, _, b, _, rfl, D2, hbB, fun H3 D3 kp3 => ?_⟩
        refine ⟨_, rfl, ?_⟩
        refine k2 n H3 hn hz (fun b' z => by rw [hb] at z; cases z; exact h1) (D3.like (fun q _ i _ => ?_) fun c _ => ?_) (kp2.trans kp3)
        · show (if q = 6 + n then copyOf B S p i else S.home q i) = (if q = 6 + n then S.home (6 + b) else S.home q) i
          by_cases h : q = 6 + n
          · rw [if_pos h, if_pos h]
            unfold copyOf
            rw [hb]
          · rw [if_neg h, if_neg h]
        · show (if blk B p = some c then S.counts c - 1 else if c = n then 1 else S.counts c) = if c = b then ((S.setc n 1).put (6 + n) (S.home (6 + b))).counts b - 1 else if c = n then 1 else S.counts c
          rw [c2]
          by_cases h : c = b
          · subst h
            rw [if_pos hb, if_pos rfl]
          · rw [if_neg (fun z => h (by rw [hb] at z; exact (Option.some.inj z).symm)), if_neg h]
end
end K51
set_option maxRecDepth 100000
set_option maxHeartbeats 4000000
namespace K51
open PySem L2
section
variable {P : Program} {w : World} {K : PySem.W.Frag} {mg : Str → Option Value} {base : Heap} {CS CD : Addr}
theorem metP_lt {B : Nat} {S : St} {p : Int} {l b : Nat} (h : b ∈ metP B S p l) : b < B := by
  unfold metP at h
  obtain ⟨r, _, e⟩ := List.mem_filterMap.mp h
  rcases List.eq_nil_or_concat r with q | ⟨r', j, q⟩
  · subst q
    exact (blk_lt e).1
  · subst q
    rw [List.concat_eq_append, go_snoc] at e
    cases z : go B S (blk B p) r' with
    | none => rw [z] at e; cases e
    | some c => rw [z] at e; exact (blk_lt e).1
def lessS (S : St) (L : List Nat) : St := { S with counts := fun c => S.counts c - ((L.count c : Nat) : Int) }
def moreS (S : St) (L : List Nat) : St := { S with counts := fun c => S.counts c + ((L.count c : Nat) : Int) }
theorem count_snoc {L : List Nat} {b c : Nat} : (((L ++ [b]).count c : Nat) : Int) = ((L.count c : Nat) : Int) + (if c = b then 1 else 0) := by
  rw [List.count_append, List.count_singleton]
  by_cases h : c = b
  · subst h
    rw [if_pos rfl]; simp
  · rw [if_neg h]
    have : (b == c) = false := by simpa using fun z => h z.symm
    rw [this]; simp
/-! ### a pointer is dropped, is shared -/
def spDrop (CS CD : Addr) : Sp := fun vs H Q _ => ∃ (W : DW) (B : Nat) (S : St) (p : Int) (l : Nat), vs = [.ref W.p, .int p, .int (l : Int)] ∧ Dr CS CD H W B S ∧ l ≤ 2 ∧ ∀ H', Dr CS CD H' W B (lessS S (metP B S p l)) → Keep H H' W → Q .non H'
def spShare (CS CD : Addr) : Sp := fun vs H Q _ => ∃ (W : DW) (B : Nat) (S : St) (p : Int) (l : Nat), vs = [.ref W.p, .int p, .int (l : Int)] ∧ Dr CS CD H W B S ∧ l ≤ 2 ∧ ∀ H', Dr CS CD H' W B (moreS S (metP B S p l)) → Keep H H' W → Q .non H'
theorem sc_drop : FnScope ["draft", "pointer", "level", "block"] ["draft", "pointer", "level"] (defScope s_drop) := ⟨rfl, rfl, rfl, by decide +kernel, rfl, by decide +kernel, by decide +kernel⟩
theorem okd_drop (T : Tops K mg CS CD) : Cal P w K mg base "drop" ["draft", "pointer", "level"] 6 (spDrop CS CD) := by
  obtain ⟨f, fd, F, m⟩ := T.f_drop
  obtain ⟨f1, fd1, G_met_below, m_met_below, k_met_below, b_met_below⟩ := ok_met_below (P := P) (w := w) (base := base) T
  obtain ⟨f2, fd2, M_put_count, GM_put_count, bM_put_count⟩ := ok_put_count (P := P) (w := w) (base := base) T
  obtain ⟨f3, fd3, M_count, GM_count, bM_count⟩ := ok_count (P := P) (w := w) (base := base) T
  refine ⟨f, fd, F.ok sc_drop (fun vs H Q E h => ?_) (fun cdv A outer s H vs Q E hr h => ?_), m, F.kp, F.binds (ps := ["draft", "pointer", "level"]) fun _ _ _ _ _ _ us hl => match us, hl with | [_, _, _], _ => rfl⟩
  · obtain ⟨W, B, S, p, l, rfl, _⟩ := h
    rfl
  · obtain ⟨W, B, S, p, l, rfl, D, hl, k⟩ := h
    obtain ⟨dx, fs, e, q1, q2, _⟩ := D.ob
    refine ⟨_, (pss_one (ps_for PassesOwn.never rfl (pi_list (pe_call G_met_below (hr.mono (by omega)) (by rfl) m_met_below k_met_below b_met_below .nil pass0 (pa_cons (pe_fld (pv 0) rfl) (pa_cons (pe_fld (pv 0) rfl) (pa_cons (pv 1) (pa_cons (pv 2) pa_nil)))))) (pg_name (i := 3) sc_drop.nd rfl (Or.inl rfl)) (pss_one (ps_expr (pe_meth (pv 0) T.clDraft M_put_count GM_put_count (hr.mono (by omega)) bM_put_count .nil pass0 (pa_cons (pv 3) (pa_cons (pe_op op_sub (pe_meth (pv 0) T.clDraft M_count GM_count (hr.mono (by omega)) bM_count .nil pass0 (pa_cons (pv 3) pa_nil)) pe_int) pa_nil))))))), ?_⟩
    refine ⟨_, rfl, W.p, CD, dx, fs, _, rfl, e, T.clDraft, T.na_home, q2, _, rfl, W.p, CD, dx, fs, _, rfl, e, T.clDraft, T.na_shape, q1, _, rfl, _, rfl, W.hd, W.sh, B, S, p, l, rfl, D.home, D.sh, by omega, hl, fun H1 a s1 na ha => ?_⟩
    have D1 := D.same s1
    have na1 : a ≠ W.hd := by obtain ⟨kvs, q, _⟩ := D1.home; exact ne_of ha q (by intro z; cases z)
    have na2 : a ≠ W.cl := (ne_of_none D.counts na).symm
    have na3 : a ≠ W.cd := by obtain ⟨kvs, q, _⟩ := D1.ch; exact ne_of ha q (by intro z; cases z)
    refine ⟨a, rfl, ⟨_, SqL.of ha⟩, for_list (K := K) (a := a) (xs := natsV (metP B S p l))
      (fun i σ H' => ∃ (v : Option V), σ = [some (.ref W.p), some (.int p), some (.int (l : Int)), v] ∧ Dr CS CD H' W B (lessS S ((metP B S p l).take i)) ∧ Keep H1 H' W) ⟨_, rfl, D1.like (fun _ _ _ _ => rfl) (fun b _ => ?_), Keep.refl⟩ (fun i σ H' _ ⟨_, _, _, kp⟩ => SqL.of (kp a _ ha na1 na2 na3)) ?_ ?_⟩
    · show S.counts b - (((([] : List Nat).count b : Nat)) : Int) = S.counts b
      simp
    · rintro i x σ H' hi ⟨v, rfl, D2, kp⟩
      obtain ⟨b, hb, rfl⟩ := nat_get hi
      have hbB : b < B := metP_lt (List.mem_of_getElem? hb)
      obtain ⟨dx2, fs2, e2, _, _, _, _, _, _, _, r8, r9⟩ := D2.ob
      refine ⟨_, rfl, W.p, dx2, fs2, rfl, e2, r9, _, rfl, _, rfl, W.p, dx2, fs2, rfl, e2, r8, _, rfl, W, B, _, b, rfl, D2, hbB, _, _, rfl, rfl, W, B, _, b, _, rfl, D2, hbB, fun H3 D3 kp3 => ?_⟩
      refine ⟨_, rfl, D3.like (fun _ _ _ _ => rfl) (fun c _ => ?_), kp.trans kp3⟩
      have et : (metP B S p l).take (i + 1) = (metP B S p l).take i ++ [b] := by rw [List.take_add_one, hb]; rfl
      show S.counts c - ((((metP B S p l).take (i + 1)).count c : Nat) : Int) = if c = b then (S.counts b - ((((metP B S p l).take i).count b : Nat) : Int)) - 1 else S.counts c - ((((metP B S p l).take i).count c : Nat) : Int)
      rw [et, count_snoc]
      by_cases h : c = b
      · subst h
        rw [if_pos rfl, if_pos rfl]; omega
      · rw [if_neg h, if_neg h]; omega
    · rintro σ H' ⟨v, rfl, D2, kp⟩
      have el : (natsV (metP B S p l)).length = (metP B S p l).length := by unfold natsV; rw [List.length_map]
      rw [el, List.take_length] at D2
      exact k H' D2 ((Keep.of s1).trans kp)
theorem sc_share : FnScope ["draft", "pointer", "level", "block"] ["draft", "pointer", "level"] (defScope s_share) := ⟨rfl, rfl, rfl, by decide +kernel, rfl, by decide +kernel, by decide +kernel⟩
theorem okd_share (T : Tops K mg CS CD) : Cal P w K mg base "share" ["draft", "pointer", "level"] 6 (spShare CS CD) := by
  obtain ⟨f, fd, F, m⟩ := T.f_share
  obtain ⟨f1, fd1, G_met_below, m_met_below, k_met_below, b_met_below⟩ := ok_met_below (P := P) (w := w) (base := base) T
  obtain ⟨f2, fd2, M_put_count, GM_put_count, bM_put_count⟩ := ok_put_count (P := P) (w := w) (base := base) T
  obtain ⟨f3, fd3, M_count, GM_count, bM_count⟩ := ok_count (P := P) (w := w) (base := base) T
  refine ⟨f, fd, F.ok sc_share (fun vs H Q E h => ?_) (fun cdv A outer s H vs Q E hr h => ?_), m, F.kp, F.binds (ps := ["draft", "pointer", "level"]) fun _ _ _ _ _ _ us hl => match us, hl with | [_, _, _], _ => rfl⟩
  · obtain ⟨W, B, S, p, l, rfl, _⟩ := h
    rfl
  · obtain ⟨W, B, S, p, l, rfl, D, hl, k⟩ := h
    obtain ⟨dx, fs, e, q1, q2, _⟩ := D.ob
    refine ⟨_, (pss_one (ps_for PassesOwn.never rfl (pi_list (pe_call G_met_below (hr.mono (by omega)) (by rfl) m_met_below k_met_below b_met_below .nil pass0 (pa_cons (pe_fld (pv 0) rfl) (pa_cons (pe_fld (pv 0) rfl) (pa_cons (pv 1) (pa_cons (pv 2) pa_nil)))))) (pg_name (i := 3) sc_share.nd rfl (Or.inl rfl)) (pss_one (ps_expr (pe_meth (pv 0) T.clDraft M_put_count GM_put_count (hr.mono (by omega)) bM_put_count .nil pass0 (pa_cons (pv 3) (pa_cons (pe_op op_add (pe_meth (pv 0) T.clDraft M_count GM_count (hr.mono (by omega)) bM_count .nil pass0 (pa_cons (pv 3) pa_nil)) pe_int) pa_nil))))))), ?_⟩
    refine ⟨_, rfl, W.p, CD, dx, fs, _, rfl, e, T.clDraft, T.na_home, q2, _, rfl, W.p, CD, dx, fs, _, rfl, e, T.clDraft, T.na_shape, q1, _, rfl, _, rfl, W.hd, W.sh, B, S, p, l, rfl, D.home, D.sh, by omega, hl, fun H1 a s1 na ha => ?_⟩
    have D1 := D.same s1
    have na1 : a ≠ W.hd := by obtain ⟨kvs, q, _⟩ := D1.home; exact ne_of ha q (by intro z; cases z)
    have na2 : a ≠ W.cl := (ne_of_none D.counts na).symm
    have na3 : a ≠ W.cd := by obtain ⟨kvs, q, _⟩ := D1.ch; exact ne_of ha q (by intro z; cases z)
    refine ⟨a, rfl, ⟨_, SqL.of ha⟩, for_list (K := K) (a := a) (xs := natsV (metP B S p l))
      (fun i σ H' => ∃ (v : Option V), σ = [some (.ref W.p), some (.int p), some (.int (l : Int)), v] ∧ Dr CS CD H' W B (moreS S ((metP B S p l).take i)) ∧ Keep H1 H' W) ⟨_, rfl, D1.like (fun _ _ _ _ => rfl) (fun b _ => ?_), Keep.refl⟩ (fun i σ H' _ ⟨_, _, _, kp⟩ => SqL.of (kp a _ ha na1 na2 na3)) ?_ ?_⟩
    · show S.counts b + (((([] : List Nat).count b : Nat)) : Int) = S.counts b
      simp
    · rintro i x σ H' hi ⟨v, rfl, D2, kp⟩
      obtain ⟨b, hb, rfl⟩ := nat_get hi
      have hbB : b < B := metP_lt (List.mem_of_getElem? hb)
      obtain ⟨dx2, fs2, e2, _, _, _, _, _, _, _, r8, r9⟩ := D2.ob
      refine ⟨_, rfl, W.p, dx2, fs2, rfl, e2, r9, _, rfl, _, rfl, W.p, dx2, fs2, rfl, e2, r8, _, rfl, W, B, _, b, rfl, D2, hbB, _, _, rfl, rfl, W, B, _, b, _, rfl, D2, hbB, fun H3 D3 kp3 => ?_⟩
      refine ⟨_, rfl, D3.like (fun _ _ _ _ => rfl) (fun c _ => ?_), kp.trans kp3⟩
      have et : (metP B S p l).take (i + 1) = (metP B S p l).take i ++ [b] := by rw [List.take_add_one, hb]; rfl
      show S.counts c + ((((metP B S p l).take (i + 1)).count c : Nat) : Int) = if c = b then (S.counts b + ((((metP B S p l).take i).count b : Nat) : Int)) + 1 else S.counts c + ((((metP B S p l).take i).count c : Nat) : Int)
      rw [et, count_snoc]
      by_cases h : c = b
      · subst h
        rw [if_pos rfl, if_pos rfl]; omega
      · rw [if_neg h, if_neg h]; omega
    · rintro σ H' ⟨v, rfl, D2, kp⟩
      have el : (natsV (metP B S p l)).length = (metP B S p l).length := by unfold natsV; rw [List.length_map]
      rw [el, List.take_length] at D2
      exact k H' D2 ((Keep.of s1).trans kp)
/-! ### own_spot -/
def spOwnSpot (CS CD : Addr) : Sp := fun vs H Q _ => ∃ (W : DW) (B : Nat) (S : St) (f : Nat) (π : List Nat) (t : Addr), vs = [.ref W.p, .int (f : Int), .ref t] ∧ H t = some (.tup (natsV π)) ∧ Dr CS CD H W B S ∧ Inv B S ∧ Lim B S ∧ f < 2 ∧ ok π = true ∧
  (∀ k, 55 ≤ k → k < 75 → ∀ σ, π ≠ spot k ++ σ) ∧ ∀ (S' : St) (b : Nat) (H' : Hp), Own B S S' f π → reach B S' f π = some b → S'.counts b = 1 → Dr CS CD H' W B S' → Keep H H' W → Q (.int (b : Int)) H'
theorem ok_lt {π : List Nat} (k : ok π = true) : ∀ x ∈ π, x < 8 := by
  have h : ∀ π ∈ paths, ∀ x ∈ π, x < 8 := by decide +kernel
  exact h π (ok_mem k)
theorem sc_own_spot : FnScope ["draft", "file", "spot", "plate", "block", "place", "pointer"] ["draft", "file", "spot"] (defScope s_own_spot) := ⟨rfl, rfl, rfl, by decide +kernel, rfl, by decide +kernel, by decide +kernel⟩
theorem ok_own_spot (T : Tops K mg CS CD) : Cal P w K mg base "own_spot" ["draft", "file", "spot"] 6 (spOwnSpot CS CD) := by
  obtain ⟨f, fd, F, m⟩ := T.f_own_spot
  obtain ⟨f1, fd1, G_own, m_own, k_own, b_own⟩ := ok_own (P := P) (w := w) (base := base) T
  obtain ⟨f2, fd2, G_put_number, m_put_number, k_put_number, b_put_number⟩ := ok_put_number (P := P) (w := w) (base := base) T
  obtain ⟨f3, fd3, M_file_plate, GM_file_plate, bM_file_plate⟩ := ok_file_plate (P := P) (w := w) (base := base) T
  obtain ⟨f4, fd4, M_block_plate, GM_block_plate, bM_block_plate⟩ := ok_block_plate (P := P) (w := w) (base := base) T
  obtain ⟨f5, fd5, G_block_of, m_block_of, k_block_of, b_block_of⟩ := ok_block_of (P := P) (w := w) (base := base) T
  refine ⟨f, fd, F.ok sc_own_spot (fun vs H Q E h => ?_) (fun cdv A outer s H vs Q E hr h => ?_), m, F.kp, F.binds (ps := ["draft", "file", "spot"]) fun _ _ _ _ _ _ us hl => match us, hl with | [_, _, _], _ => rfl⟩
  · obtain ⟨W, B, S, f, π, t, rfl, _⟩ := h
    rfl
  · obtain ⟨W, B, S, f, π, t, rfl, ht, D, I, L, hf, kπ, hπ, k⟩ := h
    have hu := hu_of hr
    obtain ⟨dx, fs, e, q1, _⟩ := D.ob
    obtain ⟨dxs, fss, es, _, _, _, n1, n2⟩ := D.sh.ob
    refine ⟨_, (pss_cons (ps_par (i := 3) (j := 4) (by rfl) sc_own_spot.nd rfl rfl (by decide) rfl rfl (pa_cons (pe_meth (pe_fld (pv 0) rfl) T.clShape M_file_plate GM_file_plate (hr.mono (by omega)) bM_file_plate .nil pass0 (pa_cons (pv 1) pa_nil)) (pa_cons pe_non pa_nil)) (by rfl)) (pss_cons (ps_for PassesOwn.never rfl (pi_tup (pv 2)) (pg_name (i := 5) sc_own_spot.nd rfl (Or.inl rfl)) (pss_cons (ps_set (i := 6) sc_own_spot.nd rfl (Or.inl rfl) (pe_call G_own (hr.mono (by omega)) (by rfl) m_own k_own b_own .nil pass0 (pa_cons (pv 0) (pa_cons (pe_ix ix_tup (pe_dget hu (pe_fld (pv 0) rfl) (pv 3) (fun _ _ => rfl)) (pv 5) (fun _ _ => rfl)) pa_nil)))) (pss_cons (ps_if (pt_cmpR op_ne (pv 6) (pe_ix ix_tup (pe_dget hu (pe_fld (pv 0) rfl) (pv 3) (fun _ _ => rfl)) (pv 5) (fun _ _ => rfl)) (nomark _)) (pss_one (ps_expr (pe_call G_put_number (hr.mono (by omega)) (by rfl) m_put_number k_put_number b_put_number .nil pass0 (pa_cons (pv 0) (pa_cons (pv 3) (pa_cons (pv 5) (pa_cons (pv 6) pa_nil))))))) pss_nil) (pss_cons (ps_set (i := 4) sc_own_spot.nd rfl (Or.inl rfl) (pe_call G_block_of (hr.mono (by omega)) (by rfl) m_block_of k_block_of b_block_of .nil pass0 (pa_cons (pe_fld (pv 0) rfl) (pa_cons (pv 6) pa_nil)))) (pss_one (ps_set (i := 3) sc_own_spot.nd rfl (Or.inl rfl) (pe_meth (pe_fld (pv 0) rfl) T.clShape M_block_plate GM_block_plate (hr.mono (by omega)) bM_block_plate .nil pass0 (pa_cons (pv 4) pa_nil)))))))) (pss_one (ps_ret (pv 4))))), ?_⟩
    refine ⟨_, rfl, W.p, CD, dx, fs, _, rfl, e, T.clDraft, T.na_shape, q1, W.sh, dxs, fss, rfl, es, n1, _, rfl, W.sh, B, f, rfl, D.sh, _, _, rfl, ?_⟩
    refine ⟨_, rfl, t, rfl, ⟨_, SqT.of ht⟩, for_tup (K := K) (a := t) (xs := natsV π)
      (fun i σ H' => ∃ (S' : St) (q : Nat) (vb : V) (v1 v2 : Option V), σ = [some (.ref W.p), some (.int (f : Int)), some (.ref t), some (.int (q : Int)), some vb, v1, v2] ∧ Dr CS CD H' W B S' ∧ Keep H H' W ∧ Inv B S' ∧ Lim B S' ∧ At B S' f (π.take i) q ∧ q < 6 + B ∧
        ((i = 0 ∧ S' = S) ∨ (0 < i ∧ Own B S S' f (π.take i) ∧ ∃ c : Nat, vb = .int (c : Int) ∧ reach B S' f (π.take i) = some c ∧ S'.counts c = 1)))
      ⟨S, 4 + f, _, _, _, rfl, D, Keep.refl, I, L, Or.inl ⟨rfl, rfl⟩, by have := D.lo; omega, Or.inl ⟨rfl, rfl⟩⟩ (fun i σ H' _ ⟨_, _, _, _, _, _, _, kp, _⟩ => SqT.of (kp.tup D ht)) ?_ ?_⟩
    · rintro i x σ H' hi ⟨S1, q, vb, v1, v2, rfl, D1, kp, I1, L1, hat, hq, hor⟩
      obtain ⟨j, hj, rfl⟩ := nat_get hi
      have j8 : j < 8 := ok_lt kπ j (List.mem_of_getElem? hj)
      have et : π.take (i + 1) = π.take i ++ [j] := by rw [List.take_add_one, hj]; rfl
      have kpre : ok (π.take i ++ [j]) = true := by
        rw [← et]
        refine ok_pre (τ := π.drop (i + 1)) (by rw [List.take_append_drop]; exact kπ) ?_
        rw [et]; simp
      have hlim : ∀ k, 55 ≤ k → k < 75 → ∀ σ, π.take i ++ [j] ≠ spot k ++ σ := fun k h1 h2 σ z => by
        refine hπ k h1 h2 (σ ++ π.drop (i + 1)) ?_
        rw [← List.append_assoc, ← z, ← et, List.take_append_drop]
      obtain ⟨tq, gq, htq⟩ := D1.home.get hq
      obtain ⟨dx1, fs1, e1, r1, r2, _⟩ := D1.ob
      obtain ⟨dxs1, fss1, es1, _, _, _, _, m2⟩ := D1.sh.ob
      have hpos : ∀ b, blk B (S1.home q j) = some b → S1.counts b ≠ 0 := fun b hb => by
        have := I1.pos (g := f) (π := π.take i ++ [j]) hf kpre (by rw [hat.ptr]; exact hb)
        omega
      refine ⟨_, rfl, _, rfl, W.p, CD, dx1, fs1, _, rfl, e1, T.clDraft, T.na_home, r2, _, rfl, W.hd, _, rfl, gq, _, rfl, tq, _, _, _, rfl, rfl, SqT.of htq, atI_nat (plateV_get j8), ?_⟩
      refine ⟨W, B, S1, _, rfl, D1, free_some I1 L1 D1.lo, hpos, fun b hb h1 => ?_, fun n H2 hn hz hns D2 kp2 => ?_⟩
      · -- it is its own already
        have hr1 : reach B S1 f (π.take i ++ [j]) = some b := by rw [hat.ptr]; exact hb
        have O := Own.same I1 hr1 h1
        refine ⟨_, rfl, _, rfl, W.p, CD, dx1, fs1, _, rfl, e1, T.clDraft, T.na_home, r2, _, rfl, W.hd, _, rfl, gq, _, rfl, tq, _, _, _, rfl, rfl, SqT.of htq, atI_nat (plateV_get j8), rfl, _, rfl, ?_⟩
        have dd : (!decide (V.int (S1.home q j) = V.int (S1.home q j))) = false := by simp
        rw [dd]
        refine iteF ?_
        refine ⟨_, rfl, W.p, CD, dx1, fs1, _, rfl, e1, T.clDraft, T.na_shape, r1, _, rfl, W.sh, B, _, rfl, D1.sh, ?_⟩
        rw [hb]
        refine ⟨_, rfl, W.p, CD, dx1, fs1, _, rfl, e1, T.clDraft, T.na_shape, r1, W.sh, dxs1, fss1, rfl, es1, m2, _, rfl, W.sh, B, b, rfl, D1.sh, ?_⟩
        refine ⟨S1, 6 + b, _, _, _, rfl, D1, kp, I1, L1, ?_, by have := (blk_lt hb).1; omega, Or.inr ⟨Nat.succ_pos _, ?_, b, rfl, ?_, h1⟩⟩
        · rw [et]; exact Or.inr ⟨b, by simp, hr1, h1, rfl⟩
        · rw [et]
          rcases hor with ⟨_, rfl⟩ | ⟨_, O0, _⟩
          · exact O
          · exact O0.trans hf O
        · rw [et]; exact hr1
      · -- a block is taken
        have O := own_step I1 hf hat kpre hn hz hns
        have hqn := own_q I1 hf hat kpre hn hz
        have hrn := own_here I1 hf hat kpre hn hz
        have hcn : (ownS B S1 q j n).counts n = 1 := by
          show (if blk B (S1.home q j) = some n then _ else if n = n then (1 : Int) else _) = 1
          rw [if_neg (fun h => hpos n h hz), if_pos rfl]
        have hold : (takeS B S1 (S1.home q j) n).home q j = S1.home q j := if_neg hqn
        obtain ⟨tq2, gq2, htq2⟩ := D2.home.get hq
        obtain ⟨dx2, fs2, e2, u1, u2, _⟩ := D2.ob
        have fin : ∀ (H3 : Hp), Dr CS CD H3 W B (ownS B S1 q j n) → Keep H2 H3 W → ∃ (S' : St) (q' : Nat) (vb : V) (v1 v2 : Option V), ([some (.ref W.p), some (.int (f : Int)), some (.ref t), some (.int ((6 + n : Nat) : Int)), some (.int (n : Int)), some (.int (j : Int)), some (.int ((n : Int) + 1))] : L2.St) = [some (.ref W.p), some (.int (f : Int)), some (.ref t), some (.int (q' : Int)), some vb, v1, v2] ∧ Dr CS CD H3 W B S' ∧ Keep H H3 W ∧ Inv B S' ∧ Lim B S' ∧ At B S' f (π.take (i + 1)) q' ∧ q' < 6 + B ∧
            ((i + 1 = 0 ∧ S' = S) ∨ (0 < i + 1 ∧ Own B S S' f (π.take (i + 1)) ∧ ∃ c : Nat, vb = .int (c : Int) ∧ reach B S' f (π.take (i + 1)) = some c ∧ S'.counts c = 1)) := fun H3 D3 kp3 => by
          refine ⟨ownS B S1 q j n, 6 + n, _, _, _, rfl, D3, (kp.trans kp2).trans kp3, O.inv, own_lim L1 O hlim, ?_, by omega, Or.inr ⟨Nat.succ_pos _, ?_, n, rfl, ?_, hcn⟩⟩
          · rw [et]; exact Or.inr ⟨n, by simp, hrn, hcn, rfl⟩
          · rw [et]
            rcases hor with ⟨_, rfl⟩ | ⟨_, O0, _⟩
            · exact O
            · exact O0.trans hf O
          · rw [et]; exact hrn
        have tail : ∀ (H3 : Hp), Dr CS CD H3 W B (ownS B S1 q j n) → Keep H2 H3 W → True := fun _ _ _ => trivial
        refine ⟨_, rfl, _, rfl, W.p, CD, dx2, fs2, _, rfl, e2, T.clDraft, T.na_home, u2, _, rfl, W.hd, _, rfl, gq2, _, rfl, tq2, _, _, _, rfl, rfl, SqT.of htq2, atI_nat (plateV_get j8), rfl, _, rfl, ?_⟩
        rw [hold]
        refine ite2 (fun c => ?_) (fun c => ?_)
        · refine ⟨_, rfl, _, rfl, _, rfl, _, rfl, W, B, _, q, j, (n : Int) + 1, rfl, D2, hq, j8, fun H3 D3 kp3 => ?_⟩
          obtain ⟨dx3, fs3, e3, w1, _⟩ := D3.ob
          obtain ⟨dxs3, fss3, es3, _, _, _, _, m3⟩ := D3.sh.ob
          refine ⟨_, rfl, W.p, CD, dx3, fs3, _, rfl, e3, T.clDraft, T.na_shape, w1, _, rfl, W.sh, B, _, rfl, D3.sh, ?_⟩
          rw [blk_mk hn]
          refine ⟨_, rfl, W.p, CD, dx3, fs3, _, rfl, e3, T.clDraft, T.na_shape, w1, W.sh, dxs3, fss3, rfl, es3, m3, _, rfl, W.sh, B, n, rfl, D3.sh, ?_⟩
          exact fin H3 D3 kp3
        · have c : (n : Int) + 1 = S1.home q j := by
            have c : (!decide (V.int ((n : Int) + 1) = V.int (S1.home q j))) = false := by simpa using c
            have c : decide (V.int ((n : Int) + 1) = V.int (S1.home q j)) = true := by simpa using c
            have := of_decide_eq_true c
            exact V.int.inj this
          have D3 : Dr CS CD H2 W B (ownS B S1 q j n) := D2.like (fun r _ i' _ => by
            show (if r = q ∧ i' = j then (n : Int) + 1 else (takeS B S1 (S1.home q j) n).home r i') = _
            by_cases h : r = q ∧ i' = j
            · rw [if_pos h, h.1, h.2, hold, c]
            · rw [if_neg h]) (fun b _ => rfl)
          obtain ⟨dxs3, fss3, es3, _, _, _, _, m3⟩ := D2.sh.ob
          refine ⟨_, rfl, W.p, CD, dx2, fs2, _, rfl, e2, T.clDraft, T.na_shape, u1, _, rfl, W.sh, B, _, rfl, D2.sh, ?_⟩
          rw [blk_mk hn]
          refine ⟨_, rfl, W.p, CD, dx2, fs2, _, rfl, e2, T.clDraft, T.na_shape, u1, W.sh, dxs3, fss3, rfl, es3, m3, _, rfl, W.sh, B, n, rfl, D2.sh, ?_⟩
          exact fin H2 D3 Keep.refl
    · rintro σ H' ⟨S1, q, vb, v1, v2, rfl, D1, kp, I1, L1, hat, hq, hor⟩
      have el : (natsV π).length = π.length := by unfold natsV; rw [List.length_map]
      rw [el, List.take_length] at hor
      have hpos : 0 < π.length := List.length_pos_iff.mpr (ok_ne kπ)
      rcases hor with ⟨z, _⟩ | ⟨_, O, c, rfl, hc, h1⟩
      · omega
      · refine ⟨_, rfl, ?_⟩
        exact k S1 c H' O hc h1 D1 kp
def spOwnData (CS CD : Addr) : Sp := fun vs H Q _ => ∃ (W : DW) (B : Nat) (S : St) (f n : Nat), vs = [.ref W.p, .int (f : Int), .int (n : Int)] ∧ Dr CS CD H W B S ∧ Inv B S ∧ Lim B S ∧ f < 2 ∧ n < 55 ∧
  ∀ (S' : St) (b : Nat) (H' : Hp), Own B S S' f (spot n) → reach B S' f (spot n) = some b → S'.counts b = 1 → Dr CS CD H' W B S' → Keep H H' W → Q (.int (b : Int)) H'
theorem sc_own_data : FnScope ["draft", "file", "number"] ["draft", "file", "number"] (defScope s_own_data) := ⟨rfl, rfl, rfl, by decide +kernel, rfl, by decide +kernel, by decide +kernel⟩
theorem ok_own_data (T : Tops K mg CS CD) : Cal P w K mg base "own_data" ["draft", "file", "number"] 7 (spOwnData CS CD) := by
  obtain ⟨f, fd, F, m⟩ := T.f_own_data
  obtain ⟨f1, fd1, G_own_spot, m_own_spot, k_own_spot, b_own_spot⟩ := ok_own_spot (P := P) (w := w) (base := base) T
  obtain ⟨f2, fd2, G_spot_of, m_spot_of, k_spot_of, b_spot_of⟩ := ok_spot_of (P := P) (w := w) (base := base) T
  refine ⟨f, fd, F.ok sc_own_data (fun vs H Q E h => ?_) (fun cdv A outer s H vs Q E hr h => ?_), m, F.kp, F.binds (ps := ["draft", "file", "number"]) fun _ _ _ _ _ _ us hl => match us, hl with | [_, _, _], _ => rfl⟩
  · obtain ⟨W, B, S, f, n, rfl, _⟩ := h
    rfl
  · obtain ⟨W, B, S, f, n, rfl, D, I, L, hf, hn, k⟩ := h
    refine ⟨_, (pss_one (ps_ret (pe_call G_own_spot (hr.mono (by omega)) (by rfl) m_own_spot k_own_spot b_own_spot .nil pass0 (pa_cons (pv 0) (pa_cons (pv 1) (pa_cons (pe_call G_spot_of (hr.mono (by omega)) (by rfl) m_spot_of k_spot_of b_spot_of .nil pass0 (pa_cons (pv 2) pa_nil)) pa_nil)))))), ?_⟩
    refine ⟨_, rfl, _, rfl, _, rfl, n, rfl, fun t H1 s1 ht => ?_⟩
    refine ⟨W, B, S, f, spot n, t, rfl, ht, D.same s1, I, L, hf, spot_ok (by omega), may_own (spot_ok (by omega)) (Or.inr ⟨n, hn, rfl⟩), fun S' b H' O hb h1 D' kp => ?_⟩
    exact k S' b H' O hb h1 D' ((Keep.of s1).trans kp)
end
end K51
set_option maxRecDepth 100000
set_option maxHeartbeats 4000000
namespace K51
open PySem L2
section
variable {P : Program} {w : World} {K : PySem.W.Frag} {mg : Str → Option Value} {base : Heap} {CS CD : Addr}
/-! ### is some pointer there -/
def spAreAny (CS : Addr) : Sp := fun vs H Q _ => ∃ (sh a : Addr) (B : Nat) (xs : List Int), vs = [.ref sh, .ref a] ∧ ShAt CS H sh B ∧ H a = some (.tup (xs.map V.int)) ∧ xs.length ≤ 1000 ∧
  ∀ H', Same H H' → Q (.bl (xs.any fun x => (blk B x).isSome)) H'
theorem sc_are_any : FnScope ["shape", "pointers", "pointer"] ["shape", "pointers"] (defScope s_are_any) := ⟨rfl, rfl, rfl, by decide +kernel, rfl, by decide +kernel, by decide +kernel⟩
theorem ok_are_any (T : Tops K mg CS CD) : Cal P w K mg base "are_any" ["shape", "pointers"] 2 (spAreAny CS) := by
  obtain ⟨f, fd, F, m⟩ := T.f_are_any
  obtain ⟨f1, fd1, G_block_of, m_block_of, k_block_of, b_block_of⟩ := ok_block_of (P := P) (w := w) (base := base) T
  refine ⟨f, fd, F.ok sc_are_any (fun vs H Q E h => ?_) (fun cdv A outer s H vs Q E hr h => ?_), m, F.kp, F.binds (ps := ["shape", "pointers"]) fun _ _ _ _ _ _ us hl => match us, hl with | [_, _], _ => rfl⟩
  · obtain ⟨sh, a, B, xs, rfl, _⟩ := h
    rfl
  · obtain ⟨sh, a, B, xs, rfl, hs, ha, hl, k⟩ := h
    refine ⟨_, (pss_one (ps_ret (pe_callB (cr_any rfl) (by rfl) T.z_any (by decide +kernel) (pa_cons (pe_lc (own := [("pointer", 2)]) (g := gName 2) (tt := tYes) rfl sc_are_any.nd (pi_tup (pv 1)) (blkOk_by (N := ["shape", "pointers", "pointer"]) (sc := defScope s_are_any) (by decide +kernel)) (fun _ _ _ _ _ => pg_name (i := 2) sc_are_any.nd rfl (Or.inl rfl)) (fun _ _ _ _ _ => pts_nil) (fun _ _ _ _ _ => (pe_cmp (pc_notN (pe_call G_block_of (hr.mono (by omega)) (by rfl) m_block_of k_block_of b_block_of .nil pass0 (pa_cons (pv 0) (pa_cons (pv 2) pa_nil))))))) pa_nil)))), ?_⟩
    refine ⟨_, rfl, a, rfl, ⟨_, SqT.of ha⟩, fun D0 hD0 => lc_tup (K := K) (a := a) (xs := xs.map V.int)
      (fun i H' => Same H H' ∧ H' D0 = some (.lst ((xs.take i).map fun x => V.bl (blk B x).isSome))) ⟨same_new hD0, upd_same⟩ (fun i H' _ ⟨sH, _⟩ => SqT.of (sH _ _ ha)) ?_ ?_⟩
    · rintro i x H' hi ⟨sH, hL⟩
      rw [List.getElem?_map] at hi
      obtain ⟨z, hz, rfl⟩ : ∃ z, xs[i]? = some z ∧ x = V.int z := by
        cases e : xs[i]? with
        | none => rw [e] at hi; cases hi
        | some z => rw [e] at hi; exact ⟨z, rfl, (Option.some.inj hi).symm⟩
      refine ⟨rfl, yes_mk ?_⟩
      refine ⟨_, rfl, _, rfl, sh, B, z, rfl, hs.same sH, _, hL, ?_, fun b o hb => ?_, ?_⟩
      · rw [List.length_map, List.length_take]
        exact small1000 (Nat.le_trans (Nat.min_le_right _ _) hl)
      · rw [upd_ne (ne_of_none hb hD0)]; exact sH _ _ hb
      · rw [upd_same, List.take_add_one, hz, List.map_append]
        have e : (!decide (optV (blk B z) = V.non)) = (blk B z).isSome := by
          cases blk B z <;> simp [optV]
        rw [e]; rfl
    · rintro H' ⟨sH, hL⟩
      rw [List.length_map, List.take_length] at hL
      have e : (xs.map fun x => V.bl (blk B x).isSome) = (xs.map fun x => (blk B x).isSome).map V.bl := by rw [List.map_map]; rfl
      rw [e] at hL
      refine ⟨D0, _, rfl, SqL.of hL, ?_⟩
      have e2 : (xs.map fun x => (blk B x).isSome).any id = xs.any fun x => (blk B x).isSome := by rw [List.any_map]; rfl
      rw [e2]
      exact k H' sH
theorem any_plate {B : Nat} {x : Nat → Int} {a : Nat} : (((List.range 8).drop a).map x).any (fun z => (blk B z).isSome) = anyB B x a := by
  unfold anyB
  rw [List.any_map]; rfl
theorem drop_plate {x : Nat → Int} {a : Nat} : (plateV x).drop a = (((List.range 8).drop a).map x).map V.int := by
  unfold plateV
  rw [← List.map_drop, List.map_map]; rfl
theorem drop_few {x : Nat → Int} {a : Nat} : (((List.range 8).drop a).map x).length ≤ 1000 := by
  rw [List.length_map, List.length_drop, List.length_range]; omega
/-! ### spots that are kept -/
def TupsAt (H : Hp) (ts : List Addr) (L : List (List Nat)) : Prop := ts.length = L.length ∧ ∀ (j : Nat) (t : Addr), ts[j]? = some t → ∃ π, L[j]? = some π ∧ H t = some (.tup (natsV π))
def spSpots (CS : Addr) (ok : Nat → Prop) (L : Nat → St → Nat → Nat → List (List Nat)) : Sp := fun vs H Q _ => ∃ (hd sh : Addr) (B f n : Nat) (S : St), vs = [.ref hd, .ref sh, .int (f : Int), .int (n : Int)] ∧ HomeAt H hd B S ∧ ShAt CS H sh B ∧ f < 2 ∧ n ≤ 75 ∧ ok n ∧
  ∀ (H' : Hp) (p : Addr) (ts : List Addr), Same H H' → H p = none → H' p = some (.lst (ts.map V.ref)) → TupsAt H' ts (L B S f n) → Q (.ref p) H'
theorem sc_far_spots : FnScope ["home", "shape", "file", "first", "block", "place", "rest", "row", "inner", "is_cut", "behind"] ["home", "shape", "file", "first"] (defScope s_far_spots) := ⟨rfl, rfl, rfl, by decide +kernel, rfl, by decide +kernel, by decide +kernel⟩
theorem ok_far_spots (T : Tops K mg CS CD) : Cal P w K mg base "far_spots" ["home", "shape", "file", "first"] 3 (spSpots CS (fun n => 11 < n) farL) := by
  obtain ⟨f, fd, F, m⟩ := T.f_far_spots
  obtain ⟨tW, c_WIDTH⟩ := T.c_WIDTH
  obtain ⟨f1, fd1, G_block_of, m_block_of, k_block_of, b_block_of⟩ := ok_block_of (P := P) (w := w) (base := base) T
  obtain ⟨f2, fd2, G_far_place, m_far_place, k_far_place, b_far_place⟩ := ok_far_place (P := P) (w := w) (base := base) T
  obtain ⟨f3, fd3, G_are_any, m_are_any, k_are_any, b_are_any⟩ := ok_are_any (P := P) (w := w) (base := base) T
  obtain ⟨f4, fd4, M_file_plate, GM_file_plate, bM_file_plate⟩ := ok_file_plate (P := P) (w := w) (base := base) T
  obtain ⟨f5, fd5, M_block_plate, GM_block_plate, bM_block_plate⟩ := ok_block_plate (P := P) (w := w) (base := base) T
  refine ⟨f, fd, F.ok sc_far_spots (fun vs H Q E h => ?_) (fun cdv A outer s H vs Q E hr h => ?_), m, F.kp, F.binds (ps := ["home", "shape", "file", "first"]) fun _ _ _ _ _ _ us hl => match us, hl with | [_, _, _, _], _ => rfl⟩
  · obtain ⟨hd, sh, B, f, n, S, rfl, _⟩ := h
    rfl
  · obtain ⟨hd, sh, B, f, n, S, rfl, hh, hs, hf, h75, h11, k⟩ := h
    have hu := hu_of hr
    obtain ⟨dx, fs, e, _, _, _, n1, n2⟩ := hs.ob
    obtain ⟨t, g, ht⟩ := hh.get (show 4 + f < 6 + B by omega)
    refine ⟨_, (pss_cons (ps_asg (pe_tup (pa_cons (pe_call G_block_of (hr.mono (by omega)) (by rfl) m_block_of k_block_of b_block_of .nil pass0 (pa_cons (pv 1) (pa_cons (pe_ix ix_tup (pe_dget hu (pv 0) (pe_meth (pv 1) T.clShape M_file_plate GM_file_plate (hr.mono (by omega)) bM_file_plate .nil pass0 (pa_cons (pv 2) pa_nil)) (fun _ _ => rfl)) (pe_op op_sub (pe_glob (v := .int 8) (by rfl) c_WIDTH ⟨_, rfl⟩) pe_int) (fun _ _ => rfl)) pa_nil))) (pa_cons (pe_call G_far_place (hr.mono (by omega)) (by rfl) m_far_place k_far_place b_far_place .nil pass0 (pa_cons (pv 3) pa_nil)) pa_nil))) (pg_tup (by rfl) (pgs_cons (pg_name (i := 4) sc_far_spots.nd rfl (Or.inl rfl)) (pgs_cons (pg_tup (by rfl) (pgs_cons (pg_name (i := 5) sc_far_spots.nd rfl (Or.inl rfl)) (pgs_cons (pg_name (i := 6) sc_far_spots.nd rfl (Or.inl rfl)) pgs_nil))) pgs_nil)))) (pss_cons (ps_if (pt_cmp (pc_isN (pv 4))) (pss_one (ps_ret (pe_lst pa_nil))) pss_nil) (pss_cons (ps_set (i := 7) sc_far_spots.nd rfl (Or.inl rfl) (pe_dget hu (pv 0) (pe_meth (pv 1) T.clShape M_block_plate GM_block_plate (hr.mono (by omega)) bM_block_plate .nil pass0 (pa_cons (pv 4) pa_nil)) (fun _ _ => rfl))) (C8.pss_cut (ps_set (i := 8) sc_far_spots.nd rfl (Or.inl rfl) (pe_ifExp (pt_cmpR op_gt (pv 6) pe_int (nomark _)) (pe_call G_block_of (hr.mono (by omega)) (by rfl) m_block_of k_block_of b_block_of .nil pass0 (pa_cons (pv 1) (pa_cons (pe_ix ix_tup (pv 7) (pv 5) (fun _ _ => rfl)) pa_nil))) pe_non)) (C8.pss_cut (ps_set (i := 9) sc_far_spots.nd rfl (Or.inl rfl) (pe_and (pe_cmp (pc_notN (pv 8))) (pe_one (pe_call G_are_any (hr.mono (by omega)) (by rfl) m_are_any k_are_any b_are_any .nil pass0 (pa_cons (pv 1) (pa_cons (pe_slice sl_tupA (pe_dget hu (pv 0) (pe_meth (pv 1) T.clShape M_block_plate GM_block_plate (hr.mono (by omega)) bM_block_plate .nil pass0 (pa_cons (pv 8) pa_nil)) (fun _ _ => rfl)) (po_some (pv 6)) po_none) pa_nil)))))) (pss_cons (ps_set (i := 10) sc_far_spots.nd rfl (Or.inl rfl) (pe_call G_are_any (hr.mono (by omega)) (by rfl) m_are_any k_are_any b_are_any .nil pass0 (pa_cons (pv 1) (pa_cons (pe_slice sl_tupA (pv 7) (po_some (pe_op op_add (pv 5) (pe_callTy call_int1 (by rfl) T.z_int (by decide +kernel) (pa_cons (pe_cmpR op_gt (pv 6) pe_int (nomark _)) pa_nil)))) po_none) pa_nil)))) (pss_one (ps_ret (pe_op op_cat (pe_op op_rep (pe_lst (pa_cons (pe_tup (pa_cons (pe_op op_sub (pe_glob (v := .int 8) (by rfl) c_WIDTH ⟨_, rfl⟩) pe_int) pa_nil)) pa_nil)) (pe_callTy call_int1 (by rfl) T.z_int (by decide +kernel) (pa_cons (pe_or (pv 9) (pe_one (pv 10))) pa_nil))) (pe_op op_rep (pe_lst (pa_cons (pe_tup (pa_cons (pe_op op_sub (pe_glob (v := .int 8) (by rfl) c_WIDTH ⟨_, rfl⟩) pe_int) (pa_cons (pv 5) pa_nil))) pa_nil)) (pe_callTy call_int1 (by rfl) T.z_int (by decide +kernel) (pa_cons (pv 9) pa_nil)))))))))))), ?_⟩
    have e7 : atI (plateV (S.home (4 + f))) ((8 : Int) - 1) = some (V.int (S.home (4 + f) 7)) := atI_nat (j := 7) (plateV_get (by decide))
    refine ⟨_, rfl, _, rfl, _, rfl, sh, dx, fs, rfl, e, n1, _, rfl, sh, B, f, rfl, hs, hd, _, rfl, g, _, _, rfl, rfl, t, _, _, _, rfl, rfl, SqT.of ht, e7, sh, B, _, rfl, hs, _, rfl, n, rfl, by omega, fun t2 H1 s1 ht2 => ?_⟩
    refine ⟨(by show 2 ≤ sizeLine; decide), fun p hp => ?_⟩
    have s2 : Same H (upd H1 p (.tup [optV (blk B (S.home (4 + f) 7)), .ref t2])) := s1.trans (same_new hp)
    refine ⟨p, _, rfl, SqT.of upd_same, rfl, _, _, rfl, _, _, rfl, t2, _, rfl, SqT.of (same_new hp _ _ ht2), rfl, _, _, rfl, _, _, rfl, rfl, rfl, ?_⟩
    refine ⟨_, rfl, _, rfl, ?_⟩
    cases hb : blk B (S.home (4 + f) 7) with
    | none =>
      rw [hb] at s2
      refine iteT ?_
      refine ⟨Nat.zero_le _, fun r hr' => ?_⟩
      refine k _ r [] (s2.trans (same_new hr')) (s2.free hr') upd_same ?_
      unfold farL
      rw [hb]
      exact ⟨rfl, fun j t h => by simp at h⟩
    | some b =>
      rw [hb] at s2
      have hbB := (blk_lt hb).1
      refine iteF ?_
      obtain ⟨tr, gr, htr⟩ := (hh.same s2).get (show 6 + b < 6 + B by omega)
      refine ⟨_, rfl, _, rfl, sh, dx, fs, rfl, s2 _ _ e, n2, _, rfl, sh, B, b, rfl, hs.same s2, hd, _, rfl, gr, ?_⟩
      have hpl : (farP n).1 = (n - 11) / 8 := rfl
      have hrs : (farP n).2 = (n - 11) % 8 := rfl
      generalize hs2 : upd H1 p (HO.tup [optV (some b), V.ref t2]) = Hx at s2 gr htr
      refine ⟨(fun σ H' => σ = [some (.ref hd), some (.ref sh), some (.int (f : Int)), some (.int (n : Int)), some (.int (b : Int)), some (.int (((farP n).1 : Nat) : Int)), some (.int (((farP n).2 : Nat) : Int)), some (.ref tr), some (if 0 < (farP n).2 then optV (blk B (S.home (6 + b) (farP n).1)) else .non), none, none] ∧ Hx = H'), ?_, ?_⟩
      · refine ⟨_, rfl, _, _, rfl, rfl, _, rfl, ?_⟩
        refine ite2 (fun c => ?_) (fun c => ?_)
        · have c : (0 : Int) < (((farP n).2 : Nat) : Int) := of_decide_eq_true c
          have c : 0 < (farP n).2 := by omega
          have hp8 : (farP n).1 < 8 := by omega
          refine ⟨_, rfl, _, rfl, _, rfl, tr, _, _, _, rfl, rfl, SqT.of htr, atI_nat (plateV_get hp8), sh, B, _, rfl, hs.same s2, ?_⟩
          exact ⟨by rw [if_pos c]; rfl, rfl⟩
        · have c : ¬ (0 : Int) < (((farP n).2 : Nat) : Int) := fun z => c (decide_eq_true z)
          have c : ¬ 0 < (farP n).2 := by omega
          exact ⟨by rw [if_neg c]; rfl, rfl⟩
      rintro _ _ ⟨rfl, rfl⟩
      refine ⟨(fun σ H' => ∃ cb : Bool, σ = [some (.ref hd), some (.ref sh), some (.int (f : Int)), some (.int (n : Int)), some (.int (b : Int)), some (.int (((farP n).1 : Nat) : Int)), some (.int (((farP n).2 : Nat) : Int)), some (.ref tr), some (if 0 < (farP n).2 then optV (blk B (S.home (6 + b) (farP n).1)) else .non), some (.bl cb), none] ∧ Same Hx H' ∧ cb = isCut B S (S.home (6 + b)) n), ?_, ?_⟩
      · refine ⟨_, rfl, _, rfl, ?_⟩
        by_cases c : 0 < (farP n).2
        · rw [if_pos c]
          cases hi : blk B (S.home (6 + b) (farP n).1) with
          | none =>
            refine iteF ?_
            refine ⟨false, rfl, Same.refl _, ?_⟩
            unfold isCut
            rw [if_pos c, hi]
          | some ci =>
            refine iteT ?_
            have hcB := (blk_lt hi).1
            obtain ⟨ti, gi, hti⟩ := (hh.same s2).get (show 6 + ci < 6 + B by omega)
            refine ⟨_, rfl, _, rfl, _, rfl, sh, dx, fs, rfl, s2 _ _ e, n2, _, rfl, sh, B, ci, rfl, hs.same s2, hd, _, rfl, gi, _, rfl, _, rfl, noPart (rSl_mk hti fun r H3 s3 hr3 => ?_)⟩
            rw [cut_drop, drop_plate] at hr3
            refine ⟨sh, r, B, _, rfl, (hs.same s2).same s3, hr3, drop_few, fun H4 s4 => ?_⟩
            rw [any_plate]
            refine ⟨_, rfl, s3.trans s4, ?_⟩
            unfold isCut
            rw [if_pos c, hi]
        · rw [if_neg c]
          refine iteF ?_
          refine ⟨false, rfl, Same.refl _, ?_⟩
          unfold isCut
          rw [if_neg c]
      rintro _ H3 ⟨cb, rfl, s3, hcb⟩
      have s23 := s2.trans s3
      have ek : (((farP n).1 : Nat) : Int) + (if decide ((0 : Int) < (((farP n).2 : Nat) : Int)) = true then 1 else 0) = (((farP n).1 + (if 0 < (farP n).2 then 1 else 0) : Nat) : Int) := by
        by_cases c : 0 < (farP n).2
        · rw [if_pos c, if_pos (decide_eq_true (by omega))]; omega
        · rw [if_neg c, if_neg (fun z => c (by have := of_decide_eq_true z; omega))]; omega
      refine ⟨_, rfl, _, rfl, _, rfl, _, rfl, _, _, rfl, rfl, .inr ⟨_, rfl, _, _, rfl, rfl, _, rfl, noPart (rSl_mk (s3 _ _ htr) fun r H4 s4 hr4 => ?_)⟩⟩
      have hr4 : H4 r = some (.tup (cutV (plateV (S.home (6 + b))) (some ((((farP n).1 : Nat) : Int) + (if decide ((0 : Int) < (((farP n).2 : Nat) : Int)) = true then 1 else 0))) none)) := hr4
      rw [ek, cut_drop, drop_plate] at hr4
      refine ⟨sh, r, B, _, rfl, (hs.same s23).same s4, hr4, drop_few, fun H5 s5 => ?_⟩
      rw [any_plate]
      have s25 := (s23.trans s4).trans s5
      have hbe : anyB B (S.home (6 + b)) ((farP n).1 + (if 0 < (farP n).2 then 1 else 0)) = isBehind B (S.home (6 + b)) n := rfl
      rw [hbe]
      generalize hdb : isBehind B (S.home (6 + b)) n = db
      refine ⟨_, _, rfl, rfl, (by show 1 ≤ sizeLine; decide), fun ta hta => ?_⟩
      refine ⟨(by show 1 ≤ sizeLine; decide), fun la hla => ?_⟩
      refine or_mk rfl rfl ?_
      have x1 : Same H5 (upd H5 ta (.tup [.int ((8 : Int) - 1)])) := same_new hta
      have x2 := x1.trans (same_new (o := HO.lst [V.ref ta]) hla)
      refine .inr ⟨_, rfl, rRepB_mk upd_same fun l1 hl1 => ?_⟩
      have x3 := x2.trans (same_new (o := HO.lst (if (cb || db) = true then [V.ref ta] else [])) hl1)
      refine ⟨_, _, rfl, rfl, _, rfl, (by show 2 ≤ sizeLine; decide), fun tb htb => ?_⟩
      have z4 := same_new (o := HO.tup [V.int ((8 : Int) - 1), .int (((farP n).1 : Nat) : Int)]) htb
      refine ⟨(by show 1 ≤ sizeLine; decide), fun lb hlb => ?_⟩
      have z5 := z4.trans (same_new (o := HO.lst [V.ref tb]) hlb)
      refine ⟨_, rfl, .inr ⟨_, rfl, rRepB_mk upd_same fun l2 hl2 => ?_⟩⟩
      have z6 := z5.trans (same_new (o := HO.lst (if cb = true then [V.ref tb] else [])) hl2)
      have a1 := z6 _ _ ((same_new (o := HO.lst (if (cb || db) = true then [V.ref ta] else [])) hl1) _ _ ((same_new (o := HO.lst [V.ref ta]) hla) _ _ (upd_same (H := H5) (a := ta) (o := HO.tup [V.int ((8 : Int) - 1)]))))
      have a2 := z6 _ _ (upd_same (a := l1) (o := HO.lst (if (cb || db) = true then [V.ref ta] else [])))
      have a3 := (same_new (o := HO.lst (if cb = true then [V.ref tb] else [])) hl2) _ _ ((same_new (o := HO.lst [V.ref tb]) hlb) _ _ (upd_same (a := tb) (o := HO.tup [V.int ((8 : Int) - 1), .int (((farP n).1 : Nat) : Int)])))
      refine ⟨l1, l2, _, _, rfl, rfl, a2, upd_same, ?_, fun q hq => ?_⟩
      · cases cb <;> cases db <;> first | (show 0 ≤ sizeLine; decide) | (show 1 ≤ sizeLine; decide) | (show 2 ≤ sizeLine; decide)
      have sall := (s25.trans x3).trans z6
      have b1 := (same_new (o := HO.lst ((if (cb || db) = true then [V.ref ta] else []) ++ (if cb = true then [V.ref tb] else []))) hq) _ _ a1
      have b3 := (same_new (o := HO.lst ((if (cb || db) = true then [V.ref ta] else []) ++ (if cb = true then [V.ref tb] else []))) hq) _ _ a3
      have eL : farL B S f n = (if (cb || db) = true then [[7]] else []) ++ (if cb = true then [[7, (farP n).1]] else []) := by
        unfold farL
        rw [hb]
        show (if (isCut B S (S.home (6 + b)) n || isBehind B (S.home (6 + b)) n) = true then [[7]] else []) ++ (if isCut B S (S.home (6 + b)) n = true then [[7, (farP n).1]] else []) = _
        rw [← hcb, hdb]
      refine k _ q ((if (cb || db) = true then [ta] else []) ++ (if cb = true then [tb] else [])) (sall.trans (same_new hq)) (sall.free hq) ?_ ?_
      · rw [upd_same]
        cases cb <;> cases db <;> rfl
      · rw [eL]
        have n7 : natsV [7] = [V.int ((8 : Int) - 1)] := rfl
        have n7p : natsV [7, (farP n).1] = [V.int ((8 : Int) - 1), V.int (((farP n).1 : Nat) : Int)] := rfl
        rw [← n7] at b1
        rw [← n7p] at b3
        clear eL hcb hdb
        cases cb <;> cases db
        · exact ⟨rfl, fun j t h => by simp at h⟩
        · refine ⟨rfl, fun j t h => ?_⟩
          match j, h with
          | 0, h => obtain rfl := Option.some.inj h; exact ⟨_, rfl, b1⟩
        · refine ⟨rfl, fun j t h => ?_⟩
          match j, h with
          | 0, h => obtain rfl := Option.some.inj h; exact ⟨_, rfl, b1⟩
          | 1, h => obtain rfl := Option.some.inj h; exact ⟨_, rfl, b3⟩
        · refine ⟨rfl, fun j t h => ?_⟩
          match j, h with
          | 0, h => obtain rfl := Option.some.inj h; exact ⟨_, rfl, b1⟩
          | 1, h => obtain rfl := Option.some.inj h; exact ⟨_, rfl, b3⟩
end
end K51
set_option maxRecDepth 100000
set_option maxHeartbeats 4000000
namespace K51
open PySem L2
section
variable {P : Program} {w : World} {K : PySem.W.Frag} {mg : Str → Option Value} {base : Heap} {CS CD : Addr}
theorem sc_kept_spots : FnScope ["home", "shape", "file", "first", "block"] ["home", "shape", "file", "first"] (defScope s_kept_spots) := ⟨rfl, rfl, rfl, by decide +kernel, rfl, by decide +kernel, by decide +kernel⟩
theorem ok_kept_spots (T : Tops K mg CS CD) : Cal P w K mg base "kept_spots" ["home", "shape", "file", "first"] 4 (spSpots CS (fun _ => True) keptL) := by
  obtain ⟨f, fd, F, m⟩ := T.f_kept_spots
  obtain ⟨tW, c_WIDTH⟩ := T.c_WIDTH
  obtain ⟨tD, c_DIRECT⟩ := T.c_DIRECT
  obtain ⟨f1, fd1, G_block_of, m_block_of, k_block_of, b_block_of⟩ := ok_block_of (P := P) (w := w) (base := base) T
  obtain ⟨f2, fd2, G_far_spots, m_far_spots, k_far_spots, b_far_spots⟩ := ok_far_spots (P := P) (w := w) (base := base) T
  obtain ⟨f3, fd3, G_are_any, m_are_any, k_are_any, b_are_any⟩ := ok_are_any (P := P) (w := w) (base := base) T
  obtain ⟨f4, fd4, M_file_plate, GM_file_plate, bM_file_plate⟩ := ok_file_plate (P := P) (w := w) (base := base) T
  obtain ⟨f5, fd5, M_block_plate, GM_block_plate, bM_block_plate⟩ := ok_block_plate (P := P) (w := w) (base := base) T
  refine ⟨f, fd, F.ok sc_kept_spots (fun vs H Q E h => ?_) (fun cdv A outer s H vs Q E hr h => ?_), m, F.kp, F.binds (ps := ["home", "shape", "file", "first"]) fun _ _ _ _ _ _ us hl => match us, hl with | [_, _, _, _], _ => rfl⟩
  · obtain ⟨hd, sh, B, f, n, S, rfl, _⟩ := h
    rfl
  · obtain ⟨hd, sh, B, f, n, S, rfl, hh, hs, hf, h75, _, k⟩ := h
    have hu := hu_of hr
    obtain ⟨dx, fs, e, _, _, _, n1, n2⟩ := hs.ob
    obtain ⟨t, g, ht⟩ := hh.get (show 4 + f < 6 + B by omega)
    refine ⟨_, (pss_cons (ps_if (pt_cmpR op_gt (pv 3) (pe_op op_add (pe_glob (v := .int 3) (by rfl) c_DIRECT ⟨_, rfl⟩) (pe_glob (v := .int 8) (by rfl) c_WIDTH ⟨_, rfl⟩)) (nomark _)) (pss_one (ps_ret (pe_call G_far_spots (hr.mono (by omega)) (by rfl) m_far_spots k_far_spots b_far_spots .nil pass0 (pa_cons (pv 0) (pa_cons (pv 1) (pa_cons (pv 2) (pa_cons (pv 3) pa_nil))))))) pss_nil) (pss_cons (ps_set (i := 4) sc_kept_spots.nd rfl (Or.inl rfl) (pe_call G_block_of (hr.mono (by omega)) (by rfl) m_block_of k_block_of b_block_of .nil pass0 (pa_cons (pv 1) (pa_cons (pe_ix ix_tup (pe_dget hu (pv 0) (pe_meth (pv 1) T.clShape M_file_plate GM_file_plate (hr.mono (by omega)) bM_file_plate .nil pass0 (pa_cons (pv 2) pa_nil)) (fun _ _ => rfl)) (pe_op op_sub (pe_glob (v := .int 8) (by rfl) c_WIDTH ⟨_, rfl⟩) pe_int) (fun _ _ => rfl)) pa_nil)))) (pss_cons (ps_if (PW.pt (pw_or (pt_cmpR op_le (pv 3) (pe_glob (v := .int 3) (by rfl) c_DIRECT ⟨_, rfl⟩) (nomark _)) (pw_or (pt_cmp (pc_isN (pv 4))) (pw_or1 (pt_not (pt_val (pe_call G_are_any (hr.mono (by omega)) (by rfl) m_are_any k_are_any b_are_any .nil pass0 (pa_cons (pv 1) (pa_cons (pe_slice sl_tupA (pe_dget hu (pv 0) (pe_meth (pv 1) T.clShape M_block_plate GM_block_plate (hr.mono (by omega)) bM_block_plate .nil pass0 (pa_cons (pv 4) pa_nil)) (fun _ _ => rfl)) (po_some (pe_op op_sub (pv 3) (pe_glob (v := .int 3) (by rfl) c_DIRECT ⟨_, rfl⟩))) po_none) pa_nil))))))))) (pss_one (ps_ret (pe_lst pa_nil))) pss_nil) (pss_one (ps_ret (pe_lst (pa_cons (pe_tup (pa_cons (pe_op op_sub (pe_glob (v := .int 8) (by rfl) c_WIDTH ⟨_, rfl⟩) pe_int) pa_nil)) pa_nil))))))), ?_⟩
    refine ⟨_, rfl, _, _, rfl, rfl, _, _, rfl, rfl, _, rfl, ?_⟩
    refine ite2 (fun c => ?_) (fun c => ?_)
    · have c : (3 : Int) + 8 < (n : Int) := of_decide_eq_true c
      have c : 11 < n := by omega
      have eL : keptL B S f n = farL B S f n := by unfold keptL; rw [if_pos c]
      refine ⟨_, rfl, _, rfl, _, rfl, _, rfl, hd, sh, B, f, n, S, rfl, hh, hs, hf, h75, c, fun H' p ts sH hp hl ht' => ?_⟩
      rw [← eL] at ht'
      exact k H' p ts sH hp hl ht'
    · have c : ¬ (3 : Int) + 8 < (n : Int) := fun z => c (decide_eq_true z)
      have c : ¬ 11 < n := by omega
      have e6 : atI (plateV (S.home (4 + f))) ((8 : Int) - 2) = some (V.int (S.home (4 + f) 6)) := atI_nat (j := 6) (plateV_get (by decide))
      refine ⟨_, rfl, _, rfl, _, rfl, sh, dx, fs, rfl, e, n1, _, rfl, sh, B, f, rfl, hs, hd, _, rfl, g, _, _, rfl, rfl, t, _, _, _, rfl, rfl, SqT.of ht, e6, sh, B, _, rfl, hs, ?_⟩
      have no : ∀ (H1 : Hp), Same H H1 → keptL B S f n = [] → ∀ r, H1 r = none → Q (.ref r) (upd H1 r (.lst [])) := fun H1 s1 eL r hr' => by
        refine k _ r [] (s1.trans (same_new hr')) (s1.free hr') upd_same ?_
        rw [eL]
        exact ⟨rfl, fun j t h => by simp at h⟩
      refine ⟨_, rfl, _, _, rfl, rfl, _, rfl, ?_⟩
      refine ite2 (fun c3 => ?_) (fun c3 => ?_)
      · -- at most three parts
        have c3 : (n : Int) ≤ 3 := of_decide_eq_true c3
        have eL : keptL B S f n = [] := by
          rcases kept_B (B := B) (S := S) (f := f) (first := n) (by omega) with z | ⟨z, _⟩
          · exact z
          · omega
        refine iteT ?_
        exact ⟨Nat.zero_le _, fun r hr' => no H (Same.refl _) eL r hr'⟩
      · have c3 : ¬ (n : Int) ≤ 3 := fun z => c3 (decide_eq_true z)
        refine ⟨_, rfl, _, rfl, ?_⟩
        cases hb : blk B (S.home (4 + f) 6) with
        | none =>
          have eL : keptL B S f n = [] := by unfold keptL; rw [if_neg c, hb]
          refine iteT (iteT ?_)
          exact ⟨Nat.zero_le _, fun r hr' => no H (Same.refl _) eL r hr'⟩
        | some b =>
          have hbB := (blk_lt hb).1
          obtain ⟨ti, gi, hti⟩ := hh.get (show 6 + b < 6 + B by omega)
          refine iteF ?_
          refine ⟨_, rfl, _, rfl, _, rfl, sh, dx, fs, rfl, e, n2, _, rfl, sh, B, b, rfl, hs, hd, _, rfl, gi, _, rfl, _, _, rfl, rfl, _, rfl, noPart (rSl_mk hti fun r H3 s3 hr3 => ?_)⟩
          have en : (n : Int) - 3 = ((n - 3 : Nat) : Int) := by omega
          have hr3 : H3 r = some (.tup (cutV (plateV (S.home (6 + b))) (some ((n : Int) - 3)) none)) := hr3
          rw [en, cut_drop, drop_plate] at hr3
          refine ⟨sh, r, B, _, rfl, hs.same s3, hr3, drop_few, fun H4 s4 => ?_⟩
          rw [any_plate]
          refine ⟨_, rfl, ?_⟩
          have s34 := s3.trans s4
          cases ha : anyB B (S.home (6 + b)) (n - 3) with
          | false =>
            have eL : keptL B S f n = [] := by
              unfold keptL
              rw [if_neg c, hb]
              show (if (decide (n ≤ 3) || !anyB B (S.home (6 + b)) (n - 3)) = true then ([] : List (List Nat)) else [[6]]) = []
              rw [ha]; simp
            refine iteT ?_
            exact ⟨Nat.zero_le _, fun r hr' => no H4 s34 eL r hr'⟩
          | true =>
            have eL : keptL B S f n = [[6]] := by
              unfold keptL
              rw [if_neg c, hb]
              show (if (decide (n ≤ 3) || !anyB B (S.home (6 + b)) (n - 3)) = true then ([] : List (List Nat)) else [[6]]) = [[6]]
              rw [ha, decide_eq_false (by omega)]; rfl
            refine iteF ?_
            refine ⟨_, _, rfl, rfl, (by show 1 ≤ sizeLine; decide), fun ta hta => ?_⟩
            refine ⟨(by show 1 ≤ sizeLine; decide), fun la hla => ?_⟩
            refine k _ la [ta] ((s34.trans (same_new hta)).trans (same_new hla)) (s34.free ((same_new hta).free hla)) upd_same ?_
            rw [eL]
            refine ⟨rfl, fun j t' h => ?_⟩
            match j, h with
            | 0, h =>
              obtain rfl := Option.some.inj h
              exact ⟨_, rfl, (same_new hla) _ _ upd_same⟩
/-! ### drop_from -/
def spDropFrom (CS CD : Addr) : Sp := fun vs H Q _ => ∃ (W : DW) (B : Nat) (S : St) (f q a e l : Nat) (ρ : List Nat), vs = [.ref W.p, .int (q : Int), .int (a : Int), .int (e : Int), .int (l : Int)] ∧ Dr CS CD H W B S ∧ Inv B S ∧ f < 2 ∧ At B S f ρ q ∧ q < 6 + B ∧ a ≤ 8 ∧ e ≤ 8 ∧ l ≤ 2 ∧
  (∀ i, a ≤ i → i < e → ok (ρ ++ [i]) = true ∧ lev (ρ ++ [i]) = l) ∧ ∀ (S' : St) (H' : Hp), Drop B S S' f (Slots ρ a e) → Dr CS CD H' W B S' → Keep H H' W → Q .non H'
theorem sc_drop_from : FnScope ["draft", "plate", "place", "end", "level", "one"] ["draft", "plate", "place", "end", "level"] (defScope s_drop_from) := ⟨rfl, rfl, rfl, by decide +kernel, rfl, by decide +kernel, by decide +kernel⟩
theorem ok_drop_from (T : Tops K mg CS CD) : Cal P w K mg base "drop_from" ["draft", "plate", "place", "end", "level"] 7 (spDropFrom CS CD) := by
  obtain ⟨f, fd, F, m⟩ := T.f_drop_from
  obtain ⟨f1, fd1, G_block_of, m_block_of, k_block_of, b_block_of⟩ := ok_block_of (P := P) (w := w) (base := base) T
  obtain ⟨f2, fd2, G_drop, m_drop, k_drop, b_drop⟩ := okd_drop (P := P) (w := w) (base := base) T
  obtain ⟨f3, fd3, G_put_number, m_put_number, k_put_number, b_put_number⟩ := ok_put_number (P := P) (w := w) (base := base) T
  refine ⟨f, fd, F.ok sc_drop_from (fun vs H Q E h => ?_) (fun cdv A outer s H vs Q E hr h => ?_), m, F.kp, F.binds (ps := ["draft", "plate", "place", "end", "level"]) fun _ _ _ _ _ _ us hl => match us, hl with | [_, _, _, _, _], _ => rfl⟩
  · obtain ⟨W, B, S, f, q, a, e, l, ρ, rfl, _⟩ := h
    rfl
  · obtain ⟨W, B, S, f, q, a, e, l, ρ, rfl, D, I, hf, hat, hq, ha8, he8, hl2, hok, k⟩ := h
    have hu := hu_of hr
    refine ⟨_, (pss_one (ps_for PassesOwn.never rfl (pi_range2 (by rfl) T.z_range (pa_cons (pv 2) (pa_cons (pv 3) pa_nil))) (pg_name (i := 5) sc_drop_from.nd rfl (Or.inl rfl)) (pss_one (ps_if (pt_cmp (pc_notN (pe_call G_block_of (hr.mono (by omega)) (by rfl) m_block_of k_block_of b_block_of .nil pass0 (pa_cons (pe_fld (pv 0) rfl) (pa_cons (pe_ix ix_tup (pe_dget hu (pe_fld (pv 0) rfl) (pv 1) (fun _ _ => rfl)) (pv 5) (fun _ _ => rfl)) pa_nil))))) (pss_cons (ps_expr (pe_call G_drop (hr.mono (by omega)) (by rfl) m_drop k_drop b_drop .nil pass0 (pa_cons (pv 0) (pa_cons (pe_ix ix_tup (pe_dget hu (pe_fld (pv 0) rfl) (pv 1) (fun _ _ => rfl)) (pv 5) (fun _ _ => rfl)) (pa_cons (pv 4) pa_nil))))) (pss_one (ps_expr (pe_call G_put_number (hr.mono (by omega)) (by rfl) m_put_number k_put_number b_put_number .nil pass0 (pa_cons (pv 0) (pa_cons (pv 1) (pa_cons (pv 5) (pa_cons pe_int pa_nil)))))))) pss_nil)))), ?_⟩
    have empty : ∀ τ, Slots ρ a (a + 0) τ → False := fun τ ⟨i, r, h1, h2, _⟩ => by omega
    refine ⟨_, rfl, _, rfl, (a : Int), (e : Int), rfl, ⟨by omega, by omega, by omega, by omega⟩, for_range (lo := (a : Int)) (n := ((e : Int) - (a : Int)).toNat)
      (fun i σ H' => ∃ (S' : St) (v : Option V), σ = [some (.ref W.p), some (.int (q : Int)), some (.int (a : Int)), some (.int (e : Int)), some (.int (l : Int)), v] ∧ Dr CS CD H' W B S' ∧ Keep H H' W ∧ Drop B S S' f (Slots ρ a (a + i))) ⟨S, _, rfl, D, Keep.refl, Drop.none I hf fun τ _ z => (empty τ z).elim⟩ ?_ ?_⟩
    · rintro i σ H' hi ⟨S1, v, rfl, D1, kp, d⟩
      have hi : a + i < e := by omega
      have ej : (a : Int) + (i : Int) = ((a + i : Nat) : Int) := by omega
      obtain ⟨ko, kl⟩ := hok (a + i) (by omega) hi
      obtain ⟨t1, t2⟩ := drop_turn hf d hat (by omega) ko
      have j8 : a + i < 8 := by omega
      obtain ⟨dx, fs, e1, r1, r2, _⟩ := D1.ob
      obtain ⟨tq, gq, htq⟩ := D1.home.get hq
      have at1 : atI (plateV (S1.home q)) ((a : Int) + (i : Int)) = some (V.int (S1.home q (a + i))) := by
        rw [ej]; exact atI_nat (plateV_get j8)
      refine ⟨_, rfl, W.p, CD, dx, fs, _, rfl, e1, T.clDraft, T.na_shape, r1, _, rfl, W.p, CD, dx, fs, _, rfl, e1, T.clDraft, T.na_home, r2, _, rfl, W.hd, _, rfl, gq, _, rfl, tq, _, _, _, rfl, rfl, SqT.of htq, at1, W.sh, B, _, rfl, D1.sh, ?_⟩
      refine ⟨_, rfl, ?_⟩
      cases hb : blk B (S1.home q (a + i)) with
      | none =>
        refine iteF ?_
        exact ⟨S1, _, rfl, D1, kp, t1 hb⟩
      | some b =>
        refine iteT ?_
        refine ⟨_, rfl, _, rfl, W.p, CD, dx, fs, _, rfl, e1, T.clDraft, T.na_home, r2, _, rfl, W.hd, _, rfl, gq, _, rfl, tq, _, _, _, rfl, rfl, SqT.of htq, at1, _, rfl, W, B, S1, _, l, rfl, D1, hl2, fun H2 D2 kp2 => ?_⟩
        have ev : ([V.ref W.p, V.int (q : Int), V.int ((a : Int) + (i : Int)), V.int 0] : List V) ++ [] = [V.ref W.p, V.int (q : Int), V.int ((a + i : Nat) : Int), V.int 0] := by rw [ej]; rfl
        refine ⟨_, rfl, _, rfl, _, rfl, W, B, _, q, a + i, 0, ev, D2, hq, j8, fun H3 D3 kp3 => ?_⟩
        refine ⟨_, _, rfl, D3, (kp.trans kp2).trans kp3, ?_⟩
        rw [kl] at t2
        exact t2
    · rintro σ H' ⟨S1, v, rfl, D1, kp, d⟩
      refine k S1 H' (d.weak fun τ => ?_) D1 kp
      constructor
      · rintro ⟨i, r, h1, h2, h3⟩
        exact ⟨i, r, h1, by omega, h3⟩
      · rintro ⟨i, r, h1, h2, h3⟩
        exact ⟨i, r, h1, by omega, h3⟩
end
end K51
set_option maxRecDepth 100000
set_option maxHeartbeats 8000000
namespace K51
open PySem L2
section
variable {P : Program} {w : World} {K : PySem.W.Frag} {mg : Str → Option Value} {base : Heap} {CS CD : Addr}
/-! ### drop_parts -/
def pathsI (L : List (List Nat)) : List (List Int) := L.map fun π => π.map fun (i : Nat) => (i : Int)
theorem tups_dp {H : Hp} {ts : List Addr} {L : List (List Nat)} (h : TupsAt H ts L) : DpAll K H (ts.map V.ref) ((pathsI L).map dRow) := by
  refine dp_rows ts (pathsI L) (by unfold pathsI; rw [List.length_map]; exact h.1) fun j t r ht hr => ?_
  obtain ⟨π, hp, e⟩ := h.2 j t ht
  unfold pathsI at hr
  rw [List.getElem?_map, hp] at hr
  rw [e, natsV_eq]
  have hz : (π.map fun (i : Nat) => (i : Int)) = r := Option.some.inj hr
  rw [hz]
/-- spots != [] -/
theorem ne_nil {H : Hp} {Q : VK} {p l : Addr} {ts : List Addr} {L : List (List Nat)} (hp : H p = some (.lst (ts.map V.ref))) (ht : TupsAt H ts L) (hl : H l = none) (q : Q (.bl (!L.isEmpty)) (upd H l (.lst []))) : rNeD K (.ref p) (.ref l) (upd H l (.lst [])) Q := by
  have s := same_new (o := HO.lst []) hl
  have ht' : TupsAt (upd H l (.lst [])) ts L := ⟨ht.1, fun j t h => by obtain ⟨π, a, b⟩ := ht.2 j t h; exact ⟨π, a, s _ _ b⟩⟩
  refine ⟨.list ((pathsI L).map dRow), .list [], .lst (SqL.of (s _ _ hp)) (tups_dp ht'), .lst (SqL.of upd_same) .nil, shaped_rows _, rfl, ?_⟩
  cases L with
  | nil => exact q
  | cons a L => exact q
def spDropParts (CS CD : Addr) : Sp := fun vs H Q _ => ∃ (W : DW) (B : Nat) (S : St) (f n : Nat), vs = [.ref W.p, .int (f : Int), .int (n : Int)] ∧ Dr CS CD H W B S ∧ Inv B S ∧ Lim B S ∧ f < 2 ∧ n ≤ 75 ∧
  ∀ (S' : St) (H' : Hp), Cut B S S' f n → Dr CS CD H' W B S' → Keep H H' W → Q .non H'
theorem at_own {B : Nat} {S S0 : St} {f : Nat} {L : List (List Nat)} {bs : List Nat} (a : OwnL B S S0 f L bs) {i : Nat} {π : List Nat} (h : L[i]? = some π) (n : π ≠ []) : ∃ b, bs[i]? = some b ∧ At B S0 f π (6 + b) ∧ b < B := by
  obtain ⟨b, h1, h2, h3⟩ := a.here i π h
  exact ⟨b, h1, Or.inr ⟨b, n, h2, h3, rfl⟩, reach_lt h2⟩
theorem pe_fldB {X : Cx} {s : Shared} {H : Hp} {scope : Scope} {env : Env} {fp : List Addr} {e : Expr} {f : Str} {pos : Pos} {ta : TE} (he : PE (X.blk s H scope env fp) e ta)
    (hb : attributeBase e f (X.blk s H scope env fp).env (eval e (X.blk s H scope env fp).env) = eval e (X.blk s H scope env fp).env) : PE (X.blk s H scope env fp) (.Attribute e f pos) (tFld X.K ta f) := pe_fld he hb
theorem sc_drop_parts : FnScope ["draft", "file", "first", "spots", "plate", "plates", "head", "place", "rest", "spot"] ["draft", "file", "first"] (defScope s_drop_parts) := ⟨rfl, rfl, rfl, by decide +kernel, rfl, by decide +kernel, by decide +kernel⟩
theorem ok_drop_parts (T : Tops K mg CS CD) : Cal P w K mg base "drop_parts" ["draft", "file", "first"] 8 (spDropParts CS CD) := by
  obtain ⟨f, fd, F, m⟩ := T.f_drop_parts
  obtain ⟨tW, c_WIDTH⟩ := T.c_WIDTH
  obtain ⟨tD, c_DIRECT⟩ := T.c_DIRECT
  obtain ⟨f1, fd1, G_kept_spots, m_kept_spots, k_kept_spots, b_kept_spots⟩ := ok_kept_spots (P := P) (w := w) (base := base) T
  obtain ⟨f2, fd2, G_own_spot, m_own_spot, k_own_spot, b_own_spot⟩ := ok_own_spot (P := P) (w := w) (base := base) T
  obtain ⟨f3, fd3, G_drop_from, m_drop_from, k_drop_from, b_drop_from⟩ := ok_drop_from (P := P) (w := w) (base := base) T
  obtain ⟨f4, fd4, M_file_plate, GM_file_plate, bM_file_plate⟩ := ok_file_plate (P := P) (w := w) (base := base) T
  obtain ⟨f5, fd5, M_block_plate, GM_block_plate, bM_block_plate⟩ := ok_block_plate (P := P) (w := w) (base := base) T
  obtain ⟨f6, fd6, G_far_place, m_far_place, k_far_place, b_far_place⟩ := ok_far_place (P := P) (w := w) (base := base) T
  refine ⟨f, fd, F.ok sc_drop_parts (fun vs H Q E h => ?_) (fun cdv A outer s H vs Q E hr h => ?_), m, F.kp, F.binds (ps := ["draft", "file", "first"]) fun _ _ _ _ _ _ us hl => match us, hl with | [_, _, _], _ => rfl⟩
  · obtain ⟨W, B, S, f, n, rfl, _⟩ := h
    rfl
  · obtain ⟨W, B, S, f, n, rfl, D, I, L, hf, h75, k⟩ := h
    have hu := hu_of hr
    have hlo := D.lo
    obtain ⟨dx, fs, e, q1, q2, _⟩ := D.ob
    obtain ⟨dxs, fss, es, _, _, _, n1, n2⟩ := D.sh.ob
    refine ⟨_, (pss_cons (ps_par (i := 3) (j := 4) (by rfl) sc_drop_parts.nd rfl rfl (by decide) rfl rfl (pa_cons (pe_call G_kept_spots (hr.mono (by omega)) (by rfl) m_kept_spots k_kept_spots b_kept_spots .nil pass0 (pa_cons (pe_fld (pv 0) rfl) (pa_cons (pe_fld (pv 0) rfl) (pa_cons (pv 1) (pa_cons (pv 2) pa_nil))))) (pa_cons (pe_meth (pe_fld (pv 0) rfl) T.clShape M_file_plate GM_file_plate (hr.mono (by omega)) bM_file_plate .nil pass0 (pa_cons (pv 1) pa_nil)) pa_nil)) (by rfl)) (pss_cons (ps_setLc (i := 5) (own := [("spot", 9)]) (g := gName 9) (tt := tYes) (by rfl) sc_drop_parts.nd rfl rfl (sw_true rfl rfl rfl (by decide +kernel)) (pi_list (pv 3)) (blkOk_by (N := ["draft", "file", "first", "spots", "plate", "plates", "head", "place", "rest", "spot"]) (sc := defScope s_drop_parts) (by decide +kernel)) (fun _ _ _ _ _ => pg_name (i := 9) sc_drop_parts.nd rfl (Or.inl rfl)) (fun _ _ _ _ _ => pts_nil) (fun _ _ _ _ _ => (pe_meth (pe_fldB (pv 0) rfl) T.clShape M_block_plate GM_block_plate (hr.mono (by omega)) bM_block_plate .nil pass0 (pa_cons (pe_call G_own_spot (hr.mono (by omega)) (by rfl) m_own_spot k_own_spot b_own_spot .nil pass0 (pa_cons (pv 0) (pa_cons (pv 1) (pa_cons (pv 9) pa_nil)))) pa_nil)))) (pss_cons (ps_set (i := 6) sc_drop_parts.nd rfl (Or.inl rfl) (pe_op op_sub (pe_op op_sub (pe_glob (v := .int 8) (by rfl) c_WIDTH ⟨_, rfl⟩) (pe_glob (v := .int 3) (by rfl) c_DIRECT ⟨_, rfl⟩)) pe_int)) (pss_cons (ps_expr (pe_call G_drop_from (hr.mono (by omega)) (by rfl) m_drop_from k_drop_from b_drop_from .nil pass0 (pa_cons (pv 0) (pa_cons (pv 4) (pa_cons (pe_op op_add (pv 6) (pe_callB (call_min2 rfl) (by rfl) T.z_min (by decide +kernel) (pa_cons (pv 2) (pa_cons (pe_glob (v := .int 3) (by rfl) c_DIRECT ⟨_, rfl⟩) pa_nil)))) (pa_cons (pe_op op_add (pv 6) (pe_glob (v := .int 3) (by rfl) c_DIRECT ⟨_, rfl⟩)) (pa_cons pe_int pa_nil))))))) (pss_cons (ps_if (pt_cmpR op_le (pv 2) (pe_glob (v := .int 3) (by rfl) c_DIRECT ⟨_, rfl⟩) (nomark _)) (pss_one (ps_expr (pe_call G_drop_from (hr.mono (by omega)) (by rfl) m_drop_from k_drop_from b_drop_from .nil pass0 (pa_cons (pv 0) (pa_cons (pv 4) (pa_cons (pe_op op_sub (pe_glob (v := .int 8) (by rfl) c_WIDTH ⟨_, rfl⟩) pe_int) (pa_cons (pe_op op_sub (pe_glob (v := .int 8) (by rfl) c_WIDTH ⟨_, rfl⟩) pe_int) (pa_cons pe_int pa_nil)))))))) (pss_one (ps_if (PW.pt (pw_and (pt_cmpR (op_neD hr.units) (pv 3) (pe_lst pa_nil) (nomark _)) (pw_and1 (pt_cmpR op_lt (pv 2) (pe_op op_add (pe_glob (v := .int 3) (by rfl) c_DIRECT ⟨_, rfl⟩) (pe_glob (v := .int 8) (by rfl) c_WIDTH ⟨_, rfl⟩)) (nomark _))))) (pss_one (ps_expr (pe_call G_drop_from (hr.mono (by omega)) (by rfl) m_drop_from k_drop_from b_drop_from .nil pass0 (pa_cons (pv 0) (pa_cons (pe_ix ix_list (pv 5) pe_int (fun _ _ => rfl)) (pa_cons (pe_op op_sub (pv 2) (pe_glob (v := .int 3) (by rfl) c_DIRECT ⟨_, rfl⟩)) (pa_cons (pe_glob (v := .int 8) (by rfl) c_WIDTH ⟨_, rfl⟩) (pa_cons pe_int pa_nil)))))))) pss_nil))) (pss_one (ps_if (pt_cmpR op_le (pv 2) (pe_op op_add (pe_glob (v := .int 3) (by rfl) c_DIRECT ⟨_, rfl⟩) (pe_glob (v := .int 8) (by rfl) c_WIDTH ⟨_, rfl⟩)) (nomark _)) (pss_one (ps_expr (pe_call G_drop_from (hr.mono (by omega)) (by rfl) m_drop_from k_drop_from b_drop_from .nil pass0 (pa_cons (pv 0) (pa_cons (pv 4) (pa_cons (pe_op op_sub (pe_glob (v := .int 8) (by rfl) c_WIDTH ⟨_, rfl⟩) pe_int) (pa_cons (pe_glob (v := .int 8) (by rfl) c_WIDTH ⟨_, rfl⟩) (pa_cons pe_int pa_nil)))))))) (pss_one (ps_if (pt_cmpR (op_neD hr.units) (pv 3) (pe_lst pa_nil) (nomark _)) (pss_cons (ps_asg (pe_call G_far_place (hr.mono (by omega)) (by rfl) m_far_place k_far_place b_far_place .nil pass0 (pa_cons (pv 2) pa_nil)) (pg_tup (by rfl) (pgs_cons (pg_name (i := 7) sc_drop_parts.nd rfl (Or.inl rfl)) (pgs_cons (pg_name (i := 8) sc_drop_parts.nd rfl (Or.inl rfl)) pgs_nil)))) (pss_cons (ps_expr (pe_call G_drop_from (hr.mono (by omega)) (by rfl) m_drop_from k_drop_from b_drop_from .nil pass0 (pa_cons (pv 0) (pa_cons (pe_ix ix_list (pv 5) pe_int (fun _ _ => rfl)) (pa_cons (pe_op op_add (pv 7) (pe_callTy call_int1 (by rfl) T.z_int (by decide +kernel) (pa_cons (pe_cmpR op_gt (pv 8) pe_int (nomark _)) pa_nil))) (pa_cons (pe_glob (v := .int 8) (by rfl) c_WIDTH ⟨_, rfl⟩) (pa_cons pe_int pa_nil))))))) (pss_one (ps_if (pt_cmpR op_gt (pe_callB call_len_seq (by rfl) T.z_len (by decide +kernel) (pa_cons (pv 3) pa_nil)) pe_int (nomark _)) (pss_one (ps_expr (pe_call G_drop_from (hr.mono (by omega)) (by rfl) m_drop_from k_drop_from b_drop_from .nil pass0 (pa_cons (pv 0) (pa_cons (pe_ix ix_list (pv 5) pe_int (fun _ _ => rfl)) (pa_cons (pv 8) (pa_cons (pe_glob (v := .int 8) (by rfl) c_WIDTH ⟨_, rfl⟩) (pa_cons pe_int pa_nil)))))))) pss_nil)))) pss_nil))))))))), ?_⟩
    -- spots, plate
    refine ⟨_, rfl, W.p, CD, dx, fs, _, rfl, e, T.clDraft, T.na_home, q2, _, rfl, W.p, CD, dx, fs, _, rfl, e, T.clDraft, T.na_shape, q1, _, rfl, _, rfl, W.hd, W.sh, B, f, n, S, rfl, D.home, D.sh, hf, h75, trivial, fun H1 p ts s1 np hp hts => ?_⟩
    refine ⟨_, rfl, W.p, CD, dx, fs, _, rfl, s1 _ _ e, T.clDraft, T.na_shape, q1, W.sh, dxs, fss, rfl, s1 _ _ es, n1, _, rfl, W.sh, B, f, rfl, D.sh.same s1, _, _, rfl, ?_⟩
    have D1 := D.same s1
    have kok := kept_ok (B := B) (S := S) (f := f) h75
    generalize hL : keptL B S f n = LL at hts kok
    have pne : ∀ (X : Hp), Keep H1 X W → X p = some (.lst (ts.map V.ref)) := fun X kp => by
      refine kp p _ hp ?_ (ne_of_none D.counts np).symm ?_
      · obtain ⟨kvs, q, _⟩ := D1.home; exact ne_of hp q (by intro z; cases z)
      · obtain ⟨kvs, q, _⟩ := D1.ch; exact ne_of hp q (by intro z; cases z)
    have tpk : ∀ (X : Hp), Keep H1 X W → TupsAt X ts LL := fun X kp => ⟨hts.1, fun j t h => by obtain ⟨π, a, b⟩ := hts.2 j t h; exact ⟨π, a, kp.tup D1 b⟩⟩
    -- plates
    refine ⟨_, rfl, p, rfl, ⟨_, SqL.of hp⟩, fun D0 hD0 => lc_list (K := K) (a := p) (xs := ts.map V.ref)
      (fun i H' => ∃ (S' : St) (bs : List Nat), Dr CS CD H' W B S' ∧ Keep H1 H' W ∧ OwnL B S S' f (LL.take i) bs ∧ Lim B S' ∧ H' D0 = some (.lst (natsV (bs.map fun b => 6 + b)))) ⟨S, [], D1.same (same_new hD0), Keep.of (same_new hD0), OwnL.nil I f, L, upd_same⟩ (fun i H' _ ⟨_, _, _, kp, _⟩ => SqL.of (pne H' kp)) ?_ ?_⟩
    · rintro i x H' hi ⟨S2, bs, D2, kp, ol, L2', hD⟩
      obtain ⟨t, ht, rfl⟩ := ref_get hi
      obtain ⟨π, hπ, htt⟩ := (tpk H' kp).2 i t ht
      obtain ⟨ko, kl⟩ := kok π (List.mem_of_getElem? hπ)
      obtain ⟨dx2, fs2, e2, r1, r2, _⟩ := D2.ob
      obtain ⟨dxs2, fss2, es2, _, _, _, _, m2⟩ := D2.sh.ob
      refine ⟨rfl, yes_mk ?_⟩
      refine ⟨_, rfl, W.p, CD, dx2, fs2, _, rfl, e2, T.clDraft, T.na_shape, r1, W.sh, dxs2, fss2, rfl, es2, m2, _, rfl, _, rfl, _, rfl, W, B, S2, f, π, t, rfl, htt, D2, ol.inv, L2', hf, ko, may_own ko (Or.inl kl), fun S3 b H3 O hb h1 D3 kp3 => ?_⟩
      have nd1 : D0 ≠ W.cl := (ne_of_none (D1.counts) hD0).symm
      have hD3 : H3 D0 = some (.lst (natsV (bs.map fun b => 6 + b))) := by
        refine kp3 D0 _ hD ?_ nd1 ?_
        · obtain ⟨kvs, q, _⟩ := D2.home; exact ne_of hD q (by intro z; cases z)
        · obtain ⟨kvs, q, _⟩ := D2.ch; exact ne_of hD q (by intro z; cases z)
      have hbl : bs.length ≤ 75 := by
        rw [ol.len, List.length_take, ← hL]
        have : (keptL B S f n).length ≤ 2 := by
          by_cases c : n ≤ 11
          · rcases kept_B (B := B) (S := S) (f := f) c with z | ⟨_, _, z⟩ <;> rw [z] <;> decide
          · rcases kept_C (B := B) (S := S) (f := f) (first := n) (by omega) with z | ⟨b, _, ⟨_, z⟩ | ⟨_, _, _, z⟩⟩
            · rw [z]; decide
            · rw [z]; decide
            · rw [z]; exact Nat.le_refl _
        omega
      refine ⟨W.sh, B, b, rfl, D3.sh, _, hD3, ?_, S3, bs ++ [b], ?_, ?_, ?_, ?_, ?_⟩
      · unfold natsV
        rw [List.length_map, List.length_map]
        exact small1000 (by omega)
      · refine D3.lists fun a o ha hor => ?_
        rw [upd_ne]
        · exact ha
        · rintro rfl
          rcases hor with z | z
          · exact nd1 z
          · rw [hD3] at ha
            cases ha
            exact z _ rfl
      · intro a o ha a1 a2 a3
        rw [upd_ne (ne_of_none ha hD0)]
        exact (kp.trans kp3) a o ha a1 a2 a3
      · have et : LL.take (i + 1) = LL.take i ++ [π] := by rw [List.take_add_one, hπ]; rfl
        rw [et]
        exact ol.snoc hf (fun ρ hm => (kok ρ (List.mem_of_mem_take hm)).1) O hb h1
      · exact own_lim L2' O (may_own ko (Or.inl kl))
      · rw [upd_same]
        unfold natsV
        rw [List.map_append, List.map_append]; rfl
    · rintro H2 ⟨S0, bs, D2, kp2, ol, L2', hD⟩
      have eT : LL.take (ts.map V.ref).length = LL := by rw [List.length_map, hts.1, List.take_length]
      rw [eT] at ol
      clear eT
      have hp2 := pne H2 kp2
      have ht2 := tpk H2 kp2
      have kH2 : Keep H H2 W := (Keep.of s1).trans kp2
      -- head
      refine ⟨_, _, rfl, rfl, _, _, rfl, rfl, ?_⟩
      -- the pointers of the file's own plate
      have ev1 : ([V.ref W.p, V.int ((4 + f : Nat) : Int), V.int ((8 : Int) - 3 - 2 + (if (3 : Int) < (n : Int) then 3 else (n : Int))), V.int ((8 : Int) - 3 - 2 + 3), V.int 0] : List V) ++ [] = [V.ref W.p, V.int ((4 + f : Nat) : Int), V.int ((3 + min n 3 : Nat) : Int), V.int ((6 : Nat) : Int), V.int ((0 : Nat) : Int)] := by
        have : (8 : Int) - 3 - 2 + (if (3 : Int) < (n : Int) then 3 else (n : Int)) = ((3 + min n 3 : Nat) : Int) := by
          split <;> omega
        rw [this]; rfl
      have h0 : ∀ i, 3 + min n 3 ≤ i → i < 6 → ok ([] ++ [i]) = true ∧ lev ([] ++ [i]) = 0 := fun i h1 h2 => by
        refine ⟨decide_eq_true ⟨by omega, by omega⟩, ?_⟩
        show (if i = 6 then 1 else if i = 7 then 2 else 0) = 0
        rw [if_neg (by omega), if_neg (by omega)]
      refine ⟨_, rfl, _, rfl, _, rfl, _, rfl, _, _, rfl, _, _, rfl, rfl, _, rfl, _, _, rfl, rfl, W, B, S0, f, 4 + f, 3 + min n 3, 6, 0, [], ev1, D2, ol.inv, hf, Or.inl ⟨rfl, rfl⟩, by omega, by omega, by omega, by omega, h0, fun S1 H3 d1 D3 kp3 => ?_⟩
      have k3 := kp2.trans kp3
      have hp3 := pne H3 k3
      have ht3 := tpk H3 k3
      have kH3 : Keep H H3 W := (Keep.of s1).trans k3
      have ndc : D0 ≠ W.cl := (ne_of_none (D1.counts) hD0).symm
      have dk : ∀ (X Y : Hp) (SX : St), Dr CS CD X W B SX → Keep X Y W → X D0 = some (.lst (natsV (bs.map fun b => 6 + b))) → Y D0 = some (.lst (natsV (bs.map fun b => 6 + b))) := fun X Y SX DX kxy hx => by
        refine kxy D0 _ hx ?_ ndc ?_
        · obtain ⟨kvs, q, _⟩ := DX.home; exact ne_of hx q (by intro z; cases z)
        · obtain ⟨kvs, q, _⟩ := DX.ch; exact ne_of hx q (by intro z; cases z)
      have hD3 := dk H2 H3 S0 D2 kp3 hD
      have hA : ∀ (j : Nat) (π : List Nat), LL[j]? = some π → π ≠ [] → ok π = true → 3 < n → ∃ b, bs[j]? = some b ∧ At B S1 f π (6 + b) ∧ b < B ∧ (natsV (bs.map fun b => 6 + b))[j]? = some (.int ((6 + b : Nat) : Int)) := fun j π hj hne ko hn => by
        obtain ⟨b, h1, h2, h3⟩ := at_own ol hj hne
        refine ⟨b, h1, h2.keep d1 (Or.inr ⟨ko, fun ⟨i, r, a1, a2, _⟩ => by omega⟩), h3, ?_⟩
        unfold natsV
        rw [List.getElem?_map, List.getElem?_map, h1]; rfl
      have h71 : ∀ i, 7 ≤ i → i < 8 → ok ([] ++ [i]) = true ∧ lev ([] ++ [i]) = 2 := fun i h1 h2 => by
        have : i = 7 := by omega
        subst this
        exact ⟨rfl, rfl⟩
      refine ⟨_, rfl, _, _, rfl, rfl, _, rfl, ?_⟩
      by_cases c3 : n ≤ 3
      · -- A
        have e3 : decide ((n : Int) ≤ 3) = true := decide_eq_true (by omega)
        rw [e3]
        refine iteT ?_
        have hnil : LL = [] := by
          rcases kept_B (B := B) (S := S) (f := f) (first := n) (by omega) with z | ⟨z, _⟩
          · rw [← hL]; exact z
          · omega
        have h61 : ∀ i, 6 ≤ i → i < 7 → ok ([] ++ [i]) = true ∧ lev ([] ++ [i]) = 1 := fun i h1 h2 => by
          have : i = 6 := by omega
          subst this
          exact ⟨rfl, rfl⟩
        refine ⟨_, rfl, _, rfl, _, _, rfl, rfl, _, _, rfl, rfl, W, B, S1, f, 4 + f, 6, 7, 1, [], rfl, D3, d1.inv, hf, Or.inl ⟨rfl, rfl⟩, by omega, by omega, by omega, by omega, h61, fun S2 H4 d2 D4 kp4 => ?_⟩
        have e11 : decide ((n : Int) ≤ 3 + 8) = true := decide_eq_true (by omega)
        refine ⟨_, rfl, _, _, rfl, rfl, _, _, rfl, rfl, _, rfl, ?_⟩
        rw [e11]
        refine iteT ?_
        refine ⟨_, rfl, _, rfl, _, _, rfl, rfl, W, B, S2, f, 4 + f, 7, 8, 2, [], rfl, D4, d2.inv, hf, Or.inl ⟨rfl, rfl⟩, by omega, by omega, by omega, by omega, h71, fun S3 H5 d3 D5 kp5 => ?_⟩
        have em : min n 3 = n := by omega
        rw [em] at d1
        subst hnil
        exact k S3 H5 (cut_A hf c3 ol d1 d2 d3) D5 ((kH3.trans kp4).trans kp5)
      · have e3 : decide ((n : Int) ≤ 3) = false := decide_eq_false (by omega)
        rw [e3]
        refine iteF ?_
        have em : 3 + min n 3 = 6 := by omega
        rw [em] at d1
        refine ⟨_, rfl, Nat.zero_le _, fun l hl => ne_nil hp3 ht3 hl ⟨_, rfl, ?_⟩⟩
        have s4 : Same H3 (upd H3 l (.lst [])) := same_new hl
        by_cases c11 : n ≤ 11
        · have e11 : decide ((n : Int) ≤ 3 + 8) = true := decide_eq_true (by omega)
          rcases kept_B (B := B) (S := S) (f := f) (first := n) c11 with z | ⟨_, c11', z⟩
          · -- B0
            have hnil : LL = [] := by rw [← hL]; exact z
            subst hnil
            refine iteF (iteF ?_)
            refine ⟨_, rfl, _, _, rfl, rfl, _, _, rfl, rfl, _, rfl, ?_⟩
            rw [e11]
            refine iteT ?_
            refine ⟨_, rfl, _, rfl, _, _, rfl, rfl, W, B, S1, f, 4 + f, 7, 8, 2, [], rfl, D3.same s4, d1.inv, hf, Or.inl ⟨rfl, rfl⟩, by omega, by omega, by omega, by omega, h71, fun S2 H4 d2 D4 kp4 => ?_⟩
            exact k S2 H4 (cut_B0 hf (by omega) c11 z ol d1 d2) D4 ((kH3.trans (Keep.of s4)).trans kp4)
          · -- B1
            have hone : LL = [[6]] := by rw [← hL]; exact z
            subst hone
            obtain ⟨b, hb, hat, hbB, hx⟩ := hA 0 [6] rfl (by simp) rfl (by omega)
            refine iteT ?_
            have e12 : decide ((n : Int) < 3 + 8) = true := decide_eq_true (by omega)
            refine ⟨_, rfl, _, _, rfl, rfl, _, _, rfl, rfl, _, rfl, ?_⟩
            rw [e12]
            refine iteT ?_
            have h6 : ∀ i, n - 3 ≤ i → i < 8 → ok ([6] ++ [i]) = true ∧ lev ([6] ++ [i]) = 0 := fun i h1 h2 => ⟨decide_eq_true ⟨Or.inl rfl, h2⟩, rfl⟩
            have ev : ([V.ref W.p, V.int ((6 + b : Nat) : Int), V.int ((n : Int) - 3), V.int 8, V.int 0] : List V) ++ [] = [V.ref W.p, V.int ((6 + b : Nat) : Int), V.int ((n - 3 : Nat) : Int), V.int ((8 : Nat) : Int), V.int ((0 : Nat) : Int)] := by
              rw [show ((n - 3 : Nat) : Int) = (n : Int) - 3 by omega]; rfl
            refine ⟨_, rfl, _, rfl, D0, _, _, _, rfl, rfl, SqL.of (s4 _ _ hD3), atI_nat (j := 0) hx, _, rfl, _, _, rfl, rfl, W, B, S1, f, 6 + b, n - 3, 8, 0, [6], ev, D3.same s4, d1.inv, hf, hat, by omega, by omega, by omega, by omega, h6, fun S2 H4 d2 D4 kp4 => ?_⟩
            refine ⟨_, rfl, _, _, rfl, rfl, _, _, rfl, rfl, _, rfl, ?_⟩
            rw [e11]
            refine iteT ?_
            refine ⟨_, rfl, _, rfl, _, _, rfl, rfl, W, B, S2, f, 4 + f, 7, 8, 2, [], rfl, D4, d2.inv, hf, Or.inl ⟨rfl, rfl⟩, by omega, by omega, by omega, by omega, h71, fun S3 H5 d3 D5 kp5 => ?_⟩
            exact k S3 H5 (cut_B1 hf (by omega) c11 z ol d1 d2 d3) D5 (((kH3.trans (Keep.of s4)).trans kp4).trans kp5)
        · have e11 : decide ((n : Int) ≤ 3 + 8) = false := decide_eq_false (by omega)
          have e12 : decide ((n : Int) < 3 + 8) = false := decide_eq_false (by omega)
          have hpl : (farP n).1 = (n - 11) / 8 := rfl
          have hrs : (farP n).2 = (n - 11) % 8 := rfl
          have ek : (((farP n).1 : Nat) : Int) + (if decide ((0 : Int) < (((farP n).2 : Nat) : Int)) = true then 1 else 0) = (((farP n).1 + (if 0 < (farP n).2 then 1 else 0) : Nat) : Int) := by
            by_cases c : 0 < (farP n).2
            · rw [if_pos c, if_pos (decide_eq_true (by omega))]; omega
            · rw [if_neg c, if_neg (fun z => c (by have := of_decide_eq_true z; omega))]; omega
          rcases kept_C (B := B) (S := S) (f := f) (first := n) (by omega) with z | ⟨b0, hb0, hz⟩
          · -- C0
            have hnil : LL = [] := by rw [← hL]; exact z
            subst hnil
            refine iteF (iteF ?_)
            refine ⟨_, rfl, _, _, rfl, rfl, _, _, rfl, rfl, _, rfl, ?_⟩
            rw [e11]
            refine iteF ?_
            refine ⟨_, rfl, Nat.zero_le _, fun l2 hl2 => ne_nil (s4 _ _ hp3) (tpk _ (k3.trans (Keep.of s4))) hl2 ⟨_, rfl, ?_⟩⟩
            refine iteF ?_
            have s5 := s4.trans (same_new (o := HO.lst []) hl2)
            exact k S1 _ (cut_C0 hf (by omega) z ol d1) (D3.same s5) (kH3.trans (Keep.of s5))
          · have hcons : ∃ r, LL = [7] :: r := by
              rcases hz with ⟨_, z⟩ | ⟨_, _, _, z⟩
              · exact ⟨[], by rw [← hL]; exact z⟩
              · exact ⟨_, by rw [← hL]; exact z⟩
            obtain ⟨rr, hcons⟩ := hcons
            have hx0 : LL[0]? = some [7] := by rw [hcons]; rfl
            obtain ⟨b, hb, hat, hbB, hx⟩ := hA 0 [7] hx0 (by simp) rfl (by omega)
            have hne : (!LL.isEmpty) = true := by rw [hcons]; rfl
            rw [hne]
            refine iteT ?_
            refine ⟨_, rfl, _, _, rfl, rfl, _, _, rfl, rfl, _, rfl, ?_⟩
            rw [e12]
            refine iteF ?_
            refine ⟨_, rfl, _, _, rfl, rfl, _, _, rfl, rfl, _, rfl, ?_⟩
            rw [e11]
            refine iteF ?_
            refine ⟨_, rfl, Nat.zero_le _, fun l2 hl2 => ne_nil (s4 _ _ hp3) (tpk _ (k3.trans (Keep.of s4))) hl2 ⟨_, rfl, ?_⟩⟩
            rw [hne]
            refine iteT ?_
            have s5 := s4.trans (same_new (o := HO.lst []) hl2)
            refine ⟨_, rfl, n, rfl, by omega, fun t2 H4 s6 ht2 => ?_⟩
            refine ⟨t2, _, rfl, SqT.of ht2, rfl, _, _, rfl, _, _, rfl, rfl, ?_⟩
            have s7 := s5.trans s6
            have h7 : ∀ i, (farP n).1 + (if 0 < (farP n).2 then 1 else 0) ≤ i → i < 8 → ok ([7] ++ [i]) = true ∧ lev ([7] ++ [i]) = 1 := fun i h1 h2 => ⟨decide_eq_true ⟨Or.inr rfl, h2⟩, rfl⟩
            have ev : ([V.ref W.p, V.int ((6 + b : Nat) : Int), V.int ((((farP n).1 : Nat) : Int) + (if decide ((0 : Int) < (((farP n).2 : Nat) : Int)) = true then 1 else 0)), V.int 8, V.int 1] : List V) ++ [] = [V.ref W.p, V.int ((6 + b : Nat) : Int), V.int (((farP n).1 + (if 0 < (farP n).2 then 1 else 0) : Nat) : Int), V.int ((8 : Nat) : Int), V.int ((1 : Nat) : Int)] := by
              rw [ek]; rfl
            refine ⟨_, rfl, _, rfl, D0, _, _, _, rfl, rfl, SqL.of (s7 _ _ hD3), atI_nat (j := 0) hx, _, rfl, _, rfl, _, _, rfl, rfl, .inr ⟨_, rfl, _, _, rfl, rfl, W, B, S1, f, 6 + b, (farP n).1 + (if 0 < (farP n).2 then 1 else 0), 8, 1, [7], ev, D3.same s7, d1.inv, hf, hat, by omega, by split <;> omega, by omega, by omega, h7, fun S2 H5 d2 D5 kp5 => ?_⟩⟩
            have kH5 : Keep H H5 W := (kH3.trans (Keep.of s7)).trans kp5
            have k5 : Keep H1 H5 W := (k3.trans (Keep.of s7)).trans kp5
            have hp5 := pne H5 k5
            have hD5 := dk _ H5 S1 (D3.same s7) kp5 (s7 _ _ hD3)
            refine ⟨_, rfl, p, _, rfl, .inl (SqL.of hp5), _, _, rfl, rfl, _, rfl, ?_⟩
            rcases hz with ⟨hc, z⟩ | ⟨hc, hr0, ⟨c, hcc⟩, z⟩
            · -- C1
              have hone : LL = [[7]] := by rw [← hL]; exact z
              have el : decide ((1 : Int) < (((ts.map V.ref).length : Nat) : Int)) = false := by
                rw [List.length_map, hts.1, hone]; rfl
              rw [el]
              refine iteF ?_
              subst hone
              exact k S2 H5 (cut_C1 hf (by omega) hb0 hc ol d1 d2) D5 kH5
            · -- C2
              have htwo : LL = [[7], [7, (farP n).1]] := by rw [← hL]; exact z
              have el : decide ((1 : Int) < (((ts.map V.ref).length : Nat) : Int)) = true := by
                rw [List.length_map, hts.1, htwo]; rfl
              rw [el]
              refine iteT ?_
              have hx1 : LL[1]? = some [7, (farP n).1] := by rw [htwo]; rfl
              have hp8 : (farP n).1 < 8 := by omega
              have kp2' : ok [7, (farP n).1] = true := decide_eq_true ⟨Or.inr rfl, hp8⟩
              obtain ⟨b', hb', hat', hbB', hx'⟩ := hA 1 _ hx1 (by simp) kp2' (by omega)
              rw [if_pos hr0] at d2
              have hat2 := hat'.keep d2 (Or.inr ⟨kp2', fun ⟨i, r, a1, a2, a3⟩ => by simp at a3; omega⟩)
              have h7p : ∀ i, (farP n).2 ≤ i → i < 8 → ok ([7, (farP n).1] ++ [i]) = true ∧ lev ([7, (farP n).1] ++ [i]) = 0 := fun i h1 h2 => ⟨decide_eq_true ⟨rfl, hp8, h2⟩, rfl⟩
              refine ⟨_, rfl, _, rfl, D0, _, _, _, rfl, rfl, SqL.of hD5, atI_nat (j := 1) hx', _, rfl, W, B, S2, f, 6 + b', (farP n).2, 8, 0, [7, (farP n).1], rfl, D5, d2.inv, hf, hat2, by omega, by omega, by omega, by omega, h7p, fun S3 H6 d3 D6 kp6 => ?_⟩
              subst htwo
              exact k S3 H6 (cut_C2 hf (by omega) hb0 hr0 hcc ol d1 d2 d3) D6 (kH5.trans kp6)
end
end K51
set_option maxRecDepth 100000
set_option maxHeartbeats 8000000
namespace K51
open PySem L2
section
theorem zero_tail {x : Nat → Int} {a : Nat} (h : ((((List.range 8).drop a).map x).map fun z => !decide (z = 0)).any id = false) : ∀ i, a ≤ i → i < 8 → x i = 0 := fun i h1 h2 => by
  have := List.any_eq_false.mp h (!decide (x i = 0)) (List.mem_map.mpr ⟨x i, List.mem_map.mpr ⟨i, ?_, rfl⟩, rfl⟩)
  · simpa using this
  · refine List.mem_of_getElem? (i := i - a) ?_
    rw [List.getElem?_drop, show a + (i - a) = i by omega, List.getElem?_range h2]
theorem rRep_mkE {K : PySem.W.Frag} {H : Hp} {Q : VK} {a : Addr} {xs : List V} {i : Int} {n : Nat} (ei : i = (n : Int)) (ha : H a = some (.tup xs)) (hne : xs ≠ []) (hn : n ≤ 1000) (hl : xs.length ≤ 1000) (q : ∀ r H', Same H H' → H' r = some (.tup (List.replicate n xs).flatten) → Q (.ref r) H') : rRepA K (.ref a) (.int i) H Q := by
  subst ei
  exact rRep_mk ha hne hn hl q
theorem plate_tail {x : Nat → Int} {p : Nat} (h : p ≤ 8) : (plateV x).take p ++ List.replicate (8 - p) (V.int 0) = plateV fun i => if i < p then x i else 0 := by
  refine List.ext_getElem? fun i => ?_
  have hl : ((plateV x).take p).length = p := by rw [List.length_take, plateV_len]; omega
  by_cases hi : i < 8
  · rw [plateV_get hi]
    by_cases h1 : i < p
    · rw [List.getElem?_append_left (by omega), List.getElem?_take, if_pos h1, plateV_get hi, if_pos h1]
    · rw [List.getElem?_append_right (by omega), hl, List.getElem?_replicate, if_pos (by omega), if_neg h1]
  · rw [List.getElem?_eq_none (by rw [List.length_append, hl, List.length_replicate]; omega), List.getElem?_eq_none (by rw [plateV_len]; omega)]
end
section
variable {P : Program} {w : World} {K : PySem.W.Frag} {mg : Str → Option Value} {base : Heap} {CS CD : Addr}
/-! ### clear_tail -/
def spClearTail (CS CD : Addr) : Sp := fun vs H Q _ => ∃ (W : DW) (B : Nat) (S : St) (f n : Nat), vs = [.ref W.p, .int (f : Int), .int (n : Int)] ∧ Dr CS CD H W B S ∧ Inv B S ∧ Lim B S ∧ f < 2 ∧ n ≤ 440 ∧
  ∀ (S' : St) (H' : Hp), Clear B S S' f n → Dr CS CD H' W B S' → Keep H H' W → Q .non H'
theorem sc_clear_tail : FnScope ["draft", "file", "size", "place", "block", "late", "number"] ["draft", "file", "size"] (defScope s_clear_tail) := ⟨rfl, rfl, rfl, by decide +kernel, rfl, by decide +kernel, by decide +kernel⟩
theorem ok_clear_tail (T : Tops K mg CS CD) : Cal P w K mg base "clear_tail" ["draft", "file", "size"] 8 (spClearTail CS CD) := by
  obtain ⟨f, fd, F, m⟩ := T.f_clear_tail
  obtain ⟨tW, c_WIDTH⟩ := T.c_WIDTH
  obtain ⟨f1, fd1, M_block_plate, GM_block_plate, bM_block_plate⟩ := ok_block_plate (P := P) (w := w) (base := base) T
  obtain ⟨f2, fd2, M_put, GM_put, bM_put⟩ := ok_put (P := P) (w := w) (base := base) T
  obtain ⟨f3, fd3, G_data_block, m_data_block, k_data_block, b_data_block⟩ := ok_data_block (P := P) (w := w) (base := base) T
  obtain ⟨f4, fd4, G_own_data, m_own_data, k_own_data, b_own_data⟩ := ok_own_data (P := P) (w := w) (base := base) T
  refine ⟨f, fd, F.ok sc_clear_tail (fun vs H Q E h => ?_) (fun cdv A outer s H vs Q E hr h => ?_), m, F.kp, F.binds (ps := ["draft", "file", "size"]) fun _ _ _ _ _ _ us hl => match us, hl with | [_, _, _], _ => rfl⟩
  · obtain ⟨W, B, S, f, n, rfl, _⟩ := h
    rfl
  · obtain ⟨W, B, S, f, n, rfl, D, I, L, hf, hn, k⟩ := h
    have hu := hu_of hr
    obtain ⟨dx, fs, e, q1, q2, _⟩ := D.ob
    obtain ⟨dxs, fss, es, _, _, _, n1, n2⟩ := D.sh.ob
    have e8 : (n : Int) / 8 = ((n / 8 : Nat) : Int) := by omega
    have e8m : (n : Int) % 8 = ((n % 8 : Nat) : Int) := by omega
    refine ⟨_, (pss_cons (ps_set (i := 3) sc_clear_tail.nd rfl (Or.inl rfl) (pe_op op_mod (pe_callTy call_int1 (by rfl) T.z_int (by decide +kernel) (pa_cons (pv 2) pa_nil)) (pe_glob (v := .int 8) (by rfl) c_WIDTH ⟨_, rfl⟩))) (C8.pss_cut (ps_set (i := 4) sc_clear_tail.nd rfl (Or.inl rfl) (pe_ifExp (pt_cmpR op_gt (pv 3) pe_int (nomark _)) (pe_call G_data_block (hr.mono (by omega)) (by rfl) m_data_block k_data_block b_data_block .nil pass0 (pa_cons (pe_fld (pv 0) rfl) (pa_cons (pe_fld (pv 0) rfl) (pa_cons (pv 1) (pa_cons (pe_op op_fdiv (pv 2) (pe_glob (v := .int 8) (by rfl) c_WIDTH ⟨_, rfl⟩)) pa_nil))))) pe_non)) (pss_one (ps_if (PW.pt (pw_and (pt_cmp (pc_notN (pv 4))) (pw_and1 (pt_val (pe_callB (cr_any rfl) (by rfl) T.z_any (by decide +kernel) (pa_cons (pe_lc (own := [("number", 6)]) (g := gName 6) (tt := tYes) rfl sc_clear_tail.nd (pi_tup (pe_slice sl_tupA (pe_dget hu (pe_fld (pv 0) rfl) (pe_meth (pe_fld (pv 0) rfl) T.clShape M_block_plate GM_block_plate (hr.mono (by omega)) bM_block_plate .nil pass0 (pa_cons (pv 4) pa_nil)) (fun _ _ => rfl)) (po_some (pv 3)) po_none)) (blkOk_by (N := ["draft", "file", "size", "place", "block", "late", "number"]) (sc := defScope s_clear_tail) (by decide +kernel)) (fun _ _ _ _ _ => pg_name (i := 6) sc_clear_tail.nd rfl (Or.inl rfl)) (fun _ _ _ _ _ => pts_nil) (fun _ _ _ _ _ => (pe_cmpR op_ne (pv 6) pe_int (nomark _)))) pa_nil)))))) (pss_cons (ps_set (i := 5) sc_clear_tail.nd rfl (Or.inl rfl) (pe_meth (pe_fld (pv 0) rfl) T.clShape M_block_plate GM_block_plate (hr.mono (by omega)) bM_block_plate .nil pass0 (pa_cons (pe_call G_own_data (hr.mono (by omega)) (by rfl) m_own_data k_own_data b_own_data .nil pass0 (pa_cons (pv 0) (pa_cons (pv 1) (pa_cons (pe_op op_fdiv (pv 2) (pe_glob (v := .int 8) (by rfl) c_WIDTH ⟨_, rfl⟩)) pa_nil)))) pa_nil))) (pss_one (ps_expr (pe_meth (pv 0) T.clDraft M_put GM_put (hr.mono (by omega)) bM_put .nil pass0 (pa_cons (pv 5) (pa_cons (pe_op op_catA (pe_slice sl_tupA (pe_dget hu (pe_fld (pv 0) rfl) (pv 5) (fun _ _ => rfl)) po_none (po_some (pv 3))) (pe_op op_repA (pe_tup (pa_cons pe_int pa_nil)) (pe_op op_sub (pe_glob (v := .int 8) (by rfl) c_WIDTH ⟨_, rfl⟩) (pv 3)))) pa_nil)))))) pss_nil)))), ?_⟩
    refine ⟨_, rfl, .inl ⟨_, rfl, _, _, rfl, rfl, (by show (0 : Int) < 8; decide), ?_⟩⟩
    refine ⟨(fun σ H' => σ = [some (.ref W.p), some (.int (f : Int)), some (.int (n : Int)), some (.int ((n % 8 : Nat) : Int)), some (if 0 < n % 8 then optV (reach B S f (spot (n / 8))) else .non), none, none] ∧ Same H H'), ?_, ?_⟩
    · refine ⟨_, rfl, _, _, rfl, rfl, _, rfl, ?_⟩
      refine ite2 (fun c => ?_) (fun c => ?_)
      · have c : (0 : Int) < (n : Int) % 8 := of_decide_eq_true c
        have c : 0 < n % 8 := by omega
        refine ⟨_, rfl, W.p, CD, dx, fs, _, rfl, e, T.clDraft, T.na_home, q2, _, rfl, W.p, CD, dx, fs, _, rfl, e, T.clDraft, T.na_shape, q1, _, rfl, _, rfl, _, _, rfl, rfl, ⟨by decide, by decide⟩, ?_⟩
        refine ⟨W.hd, W.sh, B, f, n / 8, S, by rw [← e8]; rfl, D.home, D.sh, hf, by omega, fun H1 s1 => ?_⟩
        exact ⟨by rw [if_pos c, ← e8m]; rfl, s1⟩
      · have c : ¬ (0 : Int) < (n : Int) % 8 := fun z => c (decide_eq_true z)
        have c : ¬ 0 < n % 8 := by omega
        exact ⟨by rw [if_neg c, ← e8m]; rfl, Same.refl _⟩
    rintro _ H1 ⟨rfl, s1⟩
    have D1 := D.same s1
    by_cases c : 0 < n % 8
    · rw [if_pos c]
      cases hb : reach B S f (spot (n / 8)) with
      | none =>
        refine ⟨_, rfl, _, rfl, iteF ?_⟩
        exact k S H1 (clear_no I fun _ i _ _ => cell_none hb) D1 (Keep.of s1)
      | some b =>
        have hbB := reach_lt hb
        obtain ⟨t, g, ht⟩ := D1.home.get (show 6 + b < 6 + B by omega)
        refine ⟨_, rfl, _, rfl, iteT ?_⟩
        refine ⟨_, rfl, W.p, CD, dx, fs, _, rfl, s1 _ _ e, T.clDraft, T.na_home, q2, _, rfl, W.p, CD, dx, fs, _, rfl, s1 _ _ e, T.clDraft, T.na_shape, q1, W.sh, dxs, fss, rfl, s1 _ _ es, n2, _, rfl, W.sh, B, b, rfl, D1.sh, W.hd, _, rfl, g, _, rfl, _, rfl, noPart (rSl_mk ht fun r H2 s2 hr2 => ?_)⟩
        rw [cut_drop, drop_plate] at hr2
        have s12 := s1.trans s2
        generalize hxs : ((List.range 8).drop (n % 8)).map (S.home (6 + b)) = xs at hr2
        refine ⟨r, rfl, ⟨_, SqT.of hr2⟩, fun D0 hD0 => lc_tup (K := K) (a := r) (xs := xs.map V.int)
          (fun i H' => Same H2 H' ∧ H' D0 = some (.lst ((xs.take i).map fun z => V.bl (!decide (z = 0))))) ⟨same_new hD0, upd_same⟩ (fun i H' _ ⟨sH, _⟩ => SqT.of (sH _ _ hr2)) ?_ ?_⟩
        · rintro i x H' hi ⟨sH, hL⟩
          rw [List.getElem?_map] at hi
          obtain ⟨z, hz, rfl⟩ : ∃ z, xs[i]? = some z ∧ x = V.int z := by
            cases e : xs[i]? with
            | none => rw [e] at hi; cases hi
            | some z => rw [e] at hi; exact ⟨z, rfl, (Option.some.inj hi).symm⟩
          refine ⟨rfl, yes_mk ?_⟩
          refine ⟨_, rfl, rfl, _, hL, ?_, fun b o hb => ?_, ?_⟩
          · rw [List.length_map, List.length_take]
            have : xs.length ≤ 1000 := by rw [← hxs]; exact drop_few
            exact small1000 (Nat.le_trans (Nat.min_le_right _ _) this)
          · rw [upd_ne (ne_of_none hb hD0)]; exact sH _ _ hb
          · rw [upd_same, List.take_add_one, hz, List.map_append, dec_int]; rfl
        · rintro H3 ⟨sH, hL⟩
          rw [List.length_map, List.take_length] at hL
          have ez : (xs.map fun z => V.bl (!decide (z = 0))) = (xs.map fun z => !decide (z = 0)).map V.bl := by rw [List.map_map]; rfl
          rw [ez] at hL
          refine ⟨D0, _, rfl, SqL.of hL, _, rfl, ?_⟩
          have s13 := s12.trans sH
          have D3 := D.same s13
          cases hany : (xs.map fun z => !decide (z = 0)).any id with
          | false =>
            refine iteF ?_
            rw [← hxs] at hany
            refine k S H3 (clear_no I fun _ i h1 h2 => ?_) D3 (Keep.of s13)
            rw [cell_some hb]
            exact zero_tail hany i h1 h2
          | true =>
            refine iteT ?_
            refine ⟨_, rfl, W.p, CD, dx, fs, _, rfl, s13 _ _ e, T.clDraft, T.na_shape, q1, W.sh, dxs, fss, rfl, s13 _ _ es, n2, _, rfl, _, rfl, _, rfl, _, _, rfl, rfl, ⟨by decide, by decide⟩, ?_⟩
            refine ⟨W, B, S, f, n / 8, by rw [← e8]; rfl, D3, I, L, hf, by omega, fun S1 b1 H4 o hb1 h1 D4 kp4 => ?_⟩
            have hb1B := reach_lt hb1
            obtain ⟨dx4, fs4, e4, r1, r2, _, _, _, r6, _⟩ := D4.ob
            obtain ⟨t4, g4, ht4⟩ := D4.home.get (show 6 + b1 < 6 + B by omega)
            refine ⟨W.sh, B, b1, rfl, D4.sh, ?_⟩
            refine ⟨_, rfl, W.p, dx4, fs4, rfl, e4, r6, _, rfl, _, rfl, W.p, CD, dx4, fs4, _, rfl, e4, T.clDraft, T.na_home, r2, _, rfl, W.hd, _, rfl, g4, _, rfl, ((n % 8 : Nat) : Int), rfl, rSl_mk ht4 fun a H5 s5 ha => ?_⟩
            refine ⟨(by show 1 ≤ sizeLine; decide), fun l hl => ?_⟩
            have s6 := same_new (o := HO.tup [V.int 0]) hl
            have e9 : (8 : Int) - ((n % 8 : Nat) : Int) = ((8 - n % 8 : Nat) : Int) := by omega
            refine ⟨_, rfl, _, _, rfl, rfl, ?_⟩
            refine rRep_mkE e9 upd_same (by intro z; cases z) (by omega) (by decide) fun c7 H7 s7 hc7 => ?_
            have s57 := (s5.trans s6).trans s7
            have ha7 := s7 _ _ (s6 _ _ ha)
            rw [cut_take'] at ha7
            rw [rep_one] at hc7
            refine rCat_mk ha7 hc7 ?_ fun u H8 s8 hu8 => ?_
            · rw [List.length_take, List.length_replicate, plateV_len]; omega
            rw [plate_tail (by omega)] at hu8
            have s58 := s57.trans s8
            refine ⟨W, B, S1, 6 + b1, u, _, rfl, D4.same s58, by omega, hu8, fun H9 D9 kp9 => ?_⟩
            refine k _ H9 (clear_own hf c (by omega) (by rw [hb]; intro z; cases z) o hb1 h1 fun i _ => rfl) D9 ((((Keep.of s13).trans kp4).trans (Keep.of s58)).trans kp9)
    · rw [if_neg c]
      refine ⟨_, rfl, _, rfl, iteF ?_⟩
      exact k S H1 (clear_no I fun h => absurd h c) D1 (Keep.of s1)
/-! ### grow, cut -/
def spGrow (CS CD : Addr) : Sp := fun vs H Q _ => ∃ (W : DW) (B : Nat) (S : St) (f n : Nat) (r : Nat → List Int), vs = [.ref W.p, .int (f : Int), .int (n : Int)] ∧ Dr CS CD H W B S ∧ Good B S r ∧ f < 2 ∧ (r f).length ≤ n ∧ n ≤ 440 ∧
  ∀ (S' : St) (H' : Hp), Good B S' (setr r f (grown (r f) n)) → Dr CS CD H' W B S' → Keep H H' W → Q .non H'
theorem sc_grow : FnScope ["draft", "file", "size", "old"] ["draft", "file", "size"] (defScope s_grow) := ⟨rfl, rfl, rfl, by decide +kernel, rfl, by decide +kernel, by decide +kernel⟩
theorem ok_grow (T : Tops K mg CS CD) : Cal P w K mg base "grow" ["draft", "file", "size"] 9 (spGrow CS CD) := by
  obtain ⟨f, fd, F, m⟩ := T.f_grow
  obtain ⟨f1, fd1, G_size_at, m_size_at, k_size_at, b_size_at⟩ := ok_size_at (P := P) (w := w) (base := base) T
  obtain ⟨f2, fd2, G_clear_tail, m_clear_tail, k_clear_tail, b_clear_tail⟩ := ok_clear_tail (P := P) (w := w) (base := base) T
  obtain ⟨f3, fd3, G_drop_parts, m_drop_parts, k_drop_parts, b_drop_parts⟩ := ok_drop_parts (P := P) (w := w) (base := base) T
  obtain ⟨f4, fd4, G_parts_behind, m_parts_behind, k_parts_behind, b_parts_behind⟩ := ok_parts_behind (P := P) (w := w) (base := base) T
  obtain ⟨f5, fd5, G_put_size, m_put_size, k_put_size, b_put_size⟩ := ok_put_size (P := P) (w := w) (base := base) T
  refine ⟨f, fd, F.ok sc_grow (fun vs H Q E h => ?_) (fun cdv A outer s H vs Q E hr h => ?_), m, F.kp, F.binds (ps := ["draft", "file", "size"]) fun _ _ _ _ _ _ us hl => match us, hl with | [_, _, _], _ => rfl⟩
  · obtain ⟨W, B, S, f, n, r, rfl, _⟩ := h
    rfl
  · obtain ⟨W, B, S, f, n, r, rfl, D, G, hf, hn, h440, k⟩ := h
    obtain ⟨dx, fs, e, q1, q2, _⟩ := D.ob
    have hz := G.size f hf
    have hm := G.most f hf
    have hp : parts (r f).length = ((r f).length + 7) / 8 := rfl
    refine ⟨_, (pss_cons (ps_set (i := 3) sc_grow.nd rfl (Or.inl rfl) (pe_call G_size_at (hr.mono (by omega)) (by rfl) m_size_at k_size_at b_size_at .nil pass0 (pa_cons (pe_fld (pv 0) rfl) (pa_cons (pe_fld (pv 0) rfl) (pa_cons (pv 1) pa_nil))))) (pss_cons (ps_expr (pe_call G_clear_tail (hr.mono (by omega)) (by rfl) m_clear_tail k_clear_tail b_clear_tail .nil pass0 (pa_cons (pv 0) (pa_cons (pv 1) (pa_cons (pv 3) pa_nil))))) (pss_cons (ps_expr (pe_call G_drop_parts (hr.mono (by omega)) (by rfl) m_drop_parts k_drop_parts b_drop_parts .nil pass0 (pa_cons (pv 0) (pa_cons (pv 1) (pa_cons (pe_call G_parts_behind (hr.mono (by omega)) (by rfl) m_parts_behind k_parts_behind b_parts_behind .nil pass0 (pa_cons (pv 3) pa_nil)) pa_nil))))) (pss_one (ps_expr (pe_call G_put_size (hr.mono (by omega)) (by rfl) m_put_size k_put_size b_put_size .nil pass0 (pa_cons (pv 0) (pa_cons (pv 1) (pa_cons (pv 2) pa_nil))))))))), ?_⟩
    refine ⟨_, rfl, W.p, CD, dx, fs, _, rfl, e, T.clDraft, T.na_home, q2, _, rfl, W.p, CD, dx, fs, _, rfl, e, T.clDraft, T.na_shape, q1, _, rfl, W.hd, W.sh, B, f, S, rfl, D.home, D.sh, hf, by omega, by omega, ?_⟩
    rw [hz]
    refine ⟨_, rfl, _, rfl, _, rfl, W, B, S, f, (r f).length, rfl, D, G.inv, G.lim, hf, hm, fun S1 H1 c1 D1 kp1 => ?_⟩
    refine ⟨_, rfl, _, rfl, _, rfl, (r f).length, rfl, W, B, S1, f, parts (r f).length, rfl, D1, c1.inv, c1.lim G.lim, hf, by omega, fun S2 H2 c2 D2 kp2 => ?_⟩
    refine ⟨_, rfl, _, rfl, _, rfl, W, B, S2, f, (n : Int), rfl, D2, hf, fun H3 D3 kp3 => ?_⟩
    exact k _ H3 (grow_good hf G hn h440 c1 c2) D3 ((kp1.trans kp2).trans kp3)
theorem size_gt {n : Nat} (h : n ≤ 440) : decide ((600 : Int) < (n : Int)) = false := decide_eq_false (by omega)
def fitted (x : List Int) (n : Nat) : List Int := x.take n ++ List.replicate (n - x.length) 0
theorem fitted_less {x : List Int} {n : Nat} (h : n ≤ x.length) : fitted x n = x.take n := by
  unfold fitted
  rw [show n - x.length = 0 by omega]; simp
theorem fitted_more {x : List Int} {n : Nat} (h : x.length ≤ n) : fitted x n = grown x n := by
  unfold fitted grown
  rw [List.take_of_length_le h]
def spCutF (CS CD : Addr) : Sp := fun vs H Q _ => ∃ (W : DW) (B : Nat) (S : St) (f n : Nat) (r : Nat → List Int), vs = [.ref W.p, .int (f : Int), .int (n : Int)] ∧ Dr CS CD H W B S ∧ Good B S r ∧ f < 2 ∧ n ≤ 440 ∧
  ∀ (S' : St) (H' : Hp), Good B S' (setr r f (fitted (r f) n)) → (n = 0 → Bare B S' f ∧ ∀ g, g < 2 → g ≠ f → Bare B S g → Bare B S' g) → Dr CS CD H' W B S' → Keep H H' W → Q .non H'
theorem sc_cut : FnScope ["draft", "file", "size", "old"] ["draft", "file", "size"] (defScope s_cut) := ⟨rfl, rfl, rfl, by decide +kernel, rfl, by decide +kernel, by decide +kernel⟩
theorem ok_cut (T : Tops K mg CS CD) : Cal P w K mg base "cut" ["draft", "file", "size"] 10 (spCutF CS CD) := by
  obtain ⟨f, fd, F, m⟩ := T.f_cut
  obtain ⟨tW, c_MOST_SIZE⟩ := T.c_MOST_SIZE
  obtain ⟨f1, fd1, G_size_at, m_size_at, k_size_at, b_size_at⟩ := ok_size_at (P := P) (w := w) (base := base) T
  obtain ⟨f2, fd2, G_grow, m_grow, k_grow, b_grow⟩ := ok_grow (P := P) (w := w) (base := base) T
  obtain ⟨f3, fd3, G_drop_parts, m_drop_parts, k_drop_parts, b_drop_parts⟩ := ok_drop_parts (P := P) (w := w) (base := base) T
  obtain ⟨f4, fd4, G_parts_behind, m_parts_behind, k_parts_behind, b_parts_behind⟩ := ok_parts_behind (P := P) (w := w) (base := base) T
  obtain ⟨f5, fd5, G_put_size, m_put_size, k_put_size, b_put_size⟩ := ok_put_size (P := P) (w := w) (base := base) T
  refine ⟨f, fd, F.ok sc_cut (fun vs H Q E h => ?_) (fun cdv A outer s H vs Q E hr h => ?_), m, F.kp, F.binds (ps := ["draft", "file", "size"]) fun _ _ _ _ _ _ us hl => match us, hl with | [_, _, _], _ => rfl⟩
  · obtain ⟨W, B, S, f, n, r, rfl, _⟩ := h
    rfl
  · obtain ⟨W, B, S, f, n, r, rfl, D, G, hf, h440, k⟩ := h
    obtain ⟨dx, fs, e, q1, q2, _⟩ := D.ob
    have hz := G.size f hf
    have hm := G.most f hf
    have hp : parts n = (n + 7) / 8 := rfl
    refine ⟨_, (pss_cons (ps_if (pt_cmpR op_gt (pv 2) (pe_glob (v := .int 600) (by rfl) c_MOST_SIZE ⟨_, rfl⟩) (nomark _)) (pss_one (ps_never)) pss_nil) (pss_cons (ps_set (i := 3) sc_cut.nd rfl (Or.inl rfl) (pe_call G_size_at (hr.mono (by omega)) (by rfl) m_size_at k_size_at b_size_at .nil pass0 (pa_cons (pe_fld (pv 0) rfl) (pa_cons (pe_fld (pv 0) rfl) (pa_cons (pv 1) pa_nil))))) (pss_one (ps_if (pt_cmpR op_gt (pv 2) (pv 3) (nomark _)) (pss_one (ps_expr (pe_call G_grow (hr.mono (by omega)) (by rfl) m_grow k_grow b_grow .nil pass0 (pa_cons (pv 0) (pa_cons (pv 1) (pa_cons (pv 2) pa_nil)))))) (pss_cons (ps_expr (pe_call G_drop_parts (hr.mono (by omega)) (by rfl) m_drop_parts k_drop_parts b_drop_parts .nil pass0 (pa_cons (pv 0) (pa_cons (pv 1) (pa_cons (pe_call G_parts_behind (hr.mono (by omega)) (by rfl) m_parts_behind k_parts_behind b_parts_behind .nil pass0 (pa_cons (pv 2) pa_nil)) pa_nil))))) (pss_one (ps_expr (pe_call G_put_size (hr.mono (by omega)) (by rfl) m_put_size k_put_size b_put_size .nil pass0 (pa_cons (pv 0) (pa_cons (pv 1) (pa_cons (pv 2) pa_nil))))))))))), ?_⟩
    refine ⟨_, rfl, _, _, rfl, rfl, _, rfl, ?_⟩
    rw [size_gt h440]
    refine iteF ?_
    refine ⟨_, rfl, W.p, CD, dx, fs, _, rfl, e, T.clDraft, T.na_home, q2, _, rfl, W.p, CD, dx, fs, _, rfl, e, T.clDraft, T.na_shape, q1, _, rfl, W.hd, W.sh, B, f, S, rfl, D.home, D.sh, hf, by omega, by omega, ?_⟩
    rw [hz]
    refine ⟨_, rfl, _, rfl, _, _, rfl, rfl, _, rfl, ?_⟩
    refine ite2 (fun c => ?_) (fun c => ?_)
    · have c : (((r f).length : Nat) : Int) < (n : Int) := of_decide_eq_true c
      rw [fitted_more (by omega)] at k
      refine ⟨_, rfl, _, rfl, _, rfl, W, B, S, f, n, r, rfl, D, G, hf, by omega, h440, fun S1 H1 G1 D1 kp1 => ?_⟩
      exact k S1 H1 G1 (fun z => by omega) D1 kp1
    · have c : ¬ (((r f).length : Nat) : Int) < (n : Int) := fun z => c (decide_eq_true z)
      rw [fitted_less (by omega)] at k
      refine ⟨_, rfl, _, rfl, _, rfl, n, rfl, W, B, S, f, parts n, rfl, D, G.inv, G.lim, hf, by omega, fun S2 H2 c2 D2 kp2 => ?_⟩
      refine ⟨_, rfl, _, rfl, _, rfl, W, B, S2, f, (n : Int), rfl, D2, hf, fun H3 D3 kp3 => ?_⟩
      refine k _ H3 (cut_good hf G (by omega) c2) (fun z => ⟨fun τ kτ => ?_, fun g hg hgf bg τ kτ => ?_⟩) D3 (kp2.trans kp3)
      · rw [size_reach hf hf kτ]
        exact c2.all (by omega) τ kτ
      · rw [size_reach hg hf kτ, c2.far g τ hg hgf kτ]
        exact bg τ kτ
end
end K51
set_option maxRecDepth 100000
set_option maxHeartbeats 8000000
namespace K51
open PySem L2
section
theorem plate_new {z : Int} {x : Nat → Int} : [V.int z, V.int 0, V.int 0] ++ (plateV x).drop 3 = plateV fun i => if i = 0 then z else if i < 3 then 0 else x i := rfl
theorem plate_nil : [V.int 0, V.int 0, V.int 0] ++ (List.replicate 5 [V.int 0]).flatten = plateV fun _ => 0 := rfl
theorem plate_five {xs : List V} {x : Nat → Int} (h : xs = plateV x) : xs.length = 8 := by rw [h, plateV_len]
theorem lessS_more {S : St} {L M : List Nat} : (lessS (lessS S L) M).home = S.home ∧ ∀ c, (lessS (lessS S L) M).counts c = (lessS S (L ++ M)).counts c := by
  refine ⟨rfl, fun c => ?_⟩
  show S.counts c - ((L.count c : Nat) : Int) - ((M.count c : Nat) : Int) = S.counts c - (((L ++ M).count c : Nat) : Int)
  rw [List.count_append]; omega
theorem moreS_more {S : St} {L M : List Nat} : (moreS (moreS S L) M).home = S.home ∧ ∀ c, (moreS (moreS S L) M).counts c = (moreS S (L ++ M)).counts c := by
  refine ⟨rfl, fun c => ?_⟩
  show S.counts c + ((L.count c : Nat) : Int) + ((M.count c : Nat) : Int) = S.counts c + (((L ++ M).count c : Nat) : Int)
  rw [List.count_append]; omega
theorem metP_home {B : Nat} {S S' : St} {p : Int} {l : Nat} (h : S'.home = S.home) : metP B S' p l = metP B S p l := by
  unfold metP
  have : ∀ o r, go B S' o r = go B S o r := fun o r => by unfold go; rw [h]
  congr 1
  funext r
  exact this _ r
theorem refs_no {ts : List Addr} {L : List V} {i : Int} (h : L = ts.map V.ref) (h0 : L[0]? = some (V.int i)) : False := by
  subst h
  cases ts with
  | nil => simp at h0
  | cons t ts => simp at h0
def met5 (B : Nat) (S : St) (f i : Nat) : List Nat := (slots5.take i).flatMap fun e => metP B S (S.home (4 + f) e.1) e.2
end
section
variable {P : Program} {w : World} {K : PySem.W.Frag} {mg : Str → Option Value} {base : Heap} {CS CD : Addr}
/-! ### empty_file -/
def spEmptyFile (CS CD : Addr) : Sp := fun vs H Q _ => ∃ (W : DW) (B : Nat) (S : St) (f : Nat), vs = [.ref W.p, .int (f : Int), .int 0, .int 0] ∧ Dr CS CD H W B S ∧ f < 2 ∧
  ∀ (H' : Hp), Dr CS CD H' W B (S.put (4 + f) fun _ => 0) → Keep H H' W → Q .non H'
theorem sc_empty_file : FnScope ["draft", "file", "owner", "time"] ["draft", "file", "owner", "time"] (defScope s_empty_file) := ⟨rfl, rfl, rfl, by decide +kernel, rfl, by decide +kernel, by decide +kernel⟩
theorem ok_empty_file (T : Tops K mg CS CD) : Cal P w K mg base "empty_file" ["draft", "file", "owner", "time"] 2 (spEmptyFile CS CD) := by
  obtain ⟨f, fd, F, m⟩ := T.f_empty_file
  obtain ⟨tW, c_WIDTH⟩ := T.c_WIDTH
  obtain ⟨f1, fd1, M_file_plate, GM_file_plate, bM_file_plate⟩ := ok_file_plate (P := P) (w := w) (base := base) T
  obtain ⟨f2, fd2, M_put, GM_put, bM_put⟩ := ok_put (P := P) (w := w) (base := base) T
  refine ⟨f, fd, F.ok sc_empty_file (fun vs H Q E h => ?_) (fun cdv A outer s H vs Q E hr h => ?_), m, F.kp, F.binds (ps := ["draft", "file", "owner", "time"]) fun _ _ _ _ _ _ us hl => match us, hl with | [_, _, _, _], _ => rfl⟩
  · obtain ⟨W, B, S, f, rfl, _⟩ := h
    rfl
  · obtain ⟨W, B, S, f, rfl, D, hf, k⟩ := h
    have hu := hu_of hr
    have hlo := D.lo
    obtain ⟨dx, fs, e, q1, q2, _, _, _, q6, _⟩ := D.ob
    obtain ⟨dxs, fss, es, _, _, _, n1, n2⟩ := D.sh.ob
    refine ⟨_, (pss_one (ps_expr (pe_meth (pv 0) T.clDraft M_put GM_put (hr.mono (by omega)) bM_put .nil pass0 (pa_cons (pe_meth (pe_fld (pv 0) rfl) T.clShape M_file_plate GM_file_plate (hr.mono (by omega)) bM_file_plate .nil pass0 (pa_cons (pv 1) pa_nil)) (pa_cons (pe_op op_catA (pe_tup (pa_cons pe_int (pa_cons (pv 2) (pa_cons (pv 3) pa_nil)))) (pe_op op_repA (pe_tup (pa_cons pe_int pa_nil)) (pe_op op_sub (pe_glob (v := .int 8) (by rfl) c_WIDTH ⟨_, rfl⟩) pe_int))) pa_nil))))), ?_⟩
    refine ⟨_, rfl, W.p, dx, fs, rfl, e, q6, _, rfl, W.p, CD, dx, fs, _, rfl, e, T.clDraft, T.na_shape, q1, W.sh, dxs, fss, rfl, es, n1, _, rfl, W.sh, B, f, rfl, D.sh, ?_⟩
    refine ⟨_, rfl, _, rfl, (by show 3 ≤ sizeLine; decide), fun p hp => ?_⟩
    refine ⟨(by show 1 ≤ sizeLine; decide), fun l hl => ?_⟩
    have s1 := same_new (o := HO.tup [V.int 0, V.int 0, V.int 0]) hp
    have s2 := same_new (o := HO.tup [V.int 0]) hl
    refine ⟨_, _, rfl, rfl, ?_⟩
    refine rRep_mk (n := 5) upd_same (by intro z; cases z) (by decide) (by decide) fun c7 H7 s7 hc7 => ?_
    refine rCat_mk (s7 _ _ (s2 _ _ upd_same)) hc7 (by decide) fun u H8 s8 hu8 => ?_
    have s18 := ((s1.trans s2).trans s7).trans s8
    have hu8 : H8 u = some (.tup (plateV fun _ => 0)) := hu8
    refine ⟨W, B, S, 4 + f, u, _, rfl, D.same s18, by omega, hu8, fun H9 D9 kp9 => ?_⟩
    exact k H9 D9 ((Keep.of s18).trans kp9)
/-! ### drop_file -/
def spDropFile (CS CD : Addr) : Sp := fun vs H Q _ => ∃ (W : DW) (B : Nat) (S : St) (f : Nat) (r : Nat → List Int), vs = [.ref W.p, .int (f : Int)] ∧ Dr CS CD H W B S ∧ Good B S r ∧ f < 2 ∧
  ∀ (S' : St) (H' : Hp), Good B S' (setr r f []) → Bare B S' f → (∀ g, g < 2 → g ≠ f → Bare B S g → Bare B S' g) → Dr CS CD H' W B S' → Keep H H' W → Q .non H'
theorem sc_drop_file : FnScope ["draft", "file", "pointer", "level"] ["draft", "file"] (defScope s_drop_file) := ⟨rfl, rfl, rfl, by decide +kernel, rfl, by decide +kernel, by decide +kernel⟩
theorem ok_drop_file (T : Tops K mg CS CD) : Cal P w K mg base "drop_file" ["draft", "file"] 7 (spDropFile CS CD) := by
  obtain ⟨f, fd, F, m⟩ := T.f_drop_file
  obtain ⟨tW, c_WIDTH⟩ := T.c_WIDTH
  obtain ⟨f0, fd0, G_pointers_at, m_pointers_at, k_pointers_at, b_pointers_at⟩ := ok_pointers_at (P := P) (w := w) (base := base) T
  obtain ⟨f1, fd1, G_drop, m_drop, k_drop, b_drop⟩ := okd_drop (P := P) (w := w) (base := base) T
  obtain ⟨f2, fd2, M_file_plate, GM_file_plate, bM_file_plate⟩ := ok_file_plate (P := P) (w := w) (base := base) T
  obtain ⟨f3, fd3, M_put, GM_put, bM_put⟩ := ok_put (P := P) (w := w) (base := base) T
  refine ⟨f, fd, F.ok sc_drop_file (fun vs H Q E h => ?_) (fun cdv A outer s H vs Q E hr h => ?_), m, F.kp, F.binds (ps := ["draft", "file"]) fun _ _ _ _ _ _ us hl => match us, hl with | [_, _], _ => rfl⟩
  · obtain ⟨W, B, S, f, r, rfl, _⟩ := h
    rfl
  · obtain ⟨W, B, S, f, r, rfl, D, G, hf, k⟩ := h
    have hlo := D.lo
    obtain ⟨dx, fs, e, q1, q2, _⟩ := D.ob
    refine ⟨_, (pss_cons (ps_for PassesOwn.never rfl (pi_list (pe_call G_pointers_at (hr.mono (by omega)) (by rfl) m_pointers_at k_pointers_at b_pointers_at .nil pass0 (pa_cons (pe_fld (pv 0) rfl) (pa_cons (pe_fld (pv 0) rfl) (pa_cons (pv 1) pa_nil))))) (pg_tup (by rfl) (pgs_cons (pg_name (i := 2) sc_drop_file.nd rfl (Or.inl rfl)) (pgs_cons (pg_name (i := 3) sc_drop_file.nd rfl (Or.inl rfl)) pgs_nil))) (pss_one (ps_expr (pe_call G_drop (hr.mono (by omega)) (by rfl) m_drop k_drop b_drop .nil pass0 (pa_cons (pv 0) (pa_cons (pv 2) (pa_cons (pv 3) pa_nil))))))) (pss_one (ps_expr (pe_meth (pv 0) T.clDraft M_put GM_put (hr.mono (by omega)) bM_put .nil pass0 (pa_cons (pe_meth (pe_fld (pv 0) rfl) T.clShape M_file_plate GM_file_plate (hr.mono (by omega)) bM_file_plate .nil pass0 (pa_cons (pv 1) pa_nil)) (pa_cons (pe_op op_repA (pe_tup (pa_cons pe_int pa_nil)) (pe_glob (v := .int 8) (by rfl) c_WIDTH ⟨_, rfl⟩)) pa_nil)))))), ?_⟩
    refine ⟨_, rfl, W.p, CD, dx, fs, _, rfl, e, T.clDraft, T.na_home, q2, _, rfl, W.p, CD, dx, fs, _, rfl, e, T.clDraft, T.na_shape, q1, _, rfl, W.hd, W.sh, B, f, S, rfl, D.home, D.sh, hf, fun H1 p ts s1 hp hl hts => ?_⟩
    have D1 := D.same s1
    have np : p ≠ W.hd ∧ p ≠ W.cd := ⟨by obtain ⟨kvs, q, _⟩ := D1.home; exact ne_of hp q (by intro z; cases z), by obtain ⟨kvs, q, _⟩ := D1.ch; exact ne_of hp q (by intro z; cases z)⟩
    have ncl : p ≠ W.cl := fun z => by
      subst z
      rw [D1.counts] at hp
      exact refs_no (HO.lst.inj (Option.some.inj hp)) (i := S.counts 0) (by rw [List.getElem?_map, List.getElem?_range (by omega)]; rfl)
    refine ⟨p, rfl, ⟨_, SqL.of hp⟩, for_list (K := K) (a := p) (xs := ts.map V.ref)
      (fun i σ H' => ∃ (v1 v2 : Option V), σ = [some (.ref W.p), some (.int (f : Int)), v1, v2] ∧ Dr CS CD H' W B (lessS S (met5 B S f i)) ∧ Keep H1 H' W) ⟨_, _, rfl, D1.like (fun _ _ _ _ => rfl) (fun c _ => ?_), Keep.refl⟩ (fun i σ H' _ ⟨_, _, _, _, kp⟩ => SqL.of (kp p _ hp np.1 ncl np.2)) ?_ ?_⟩
    · show S.counts c - ((([] : List Nat).count c : Nat) : Int) = S.counts c
      simp
    · rintro i x σ H' hi ⟨v1, v2, rfl, D2, kp⟩
      obtain ⟨t, ht, rfl⟩ := ref_get hi
      obtain ⟨y, hy, htt⟩ := hts i t ht
      have hi5 : i < 5 := by rw [← hl]; exact (List.getElem?_eq_some_iff.mp ht).1
      obtain ⟨el, _⟩ := slots5_lev i hi5 y hy
      refine ⟨t, _, rfl, SqT.of (kp.tup D1 htt), rfl, _, _, rfl, _, _, rfl, rfl, ?_⟩
      refine ⟨_, rfl, _, rfl, _, rfl, W, B, _, _, y.2, rfl, D2, el, fun H3 D3 kp3 => ?_⟩
      refine ⟨_, _, rfl, D3.like (fun _ _ _ _ => rfl) (fun c _ => ?_), kp.trans kp3⟩
      have e5 : met5 B S f (i + 1) = met5 B S f i ++ metP B S (S.home (4 + f) y.1) y.2 := flat_take_succ hy
      rw [e5, metP_home (S := S) (S' := lessS S (met5 B S f i)) rfl]
      exact (lessS_more.2 c).symm
    · rintro σ H2 ⟨v1, v2, rfl, D2, kp⟩
      have e5 : met5 B S f (ts.map V.ref).length = metF B S f := by rw [List.length_map, hl]; rfl
      rw [e5] at D2
      obtain ⟨dx2, fs2, e2, r1, _, _, _, _, r6, _⟩ := D2.ob
      obtain ⟨dxs, fss, es, _, _, _, n1, n2⟩ := D2.sh.ob
      refine ⟨_, rfl, W.p, dx2, fs2, rfl, e2, r6, _, rfl, W.p, CD, dx2, fs2, _, rfl, e2, T.clDraft, T.na_shape, r1, W.sh, dxs, fss, rfl, es, n1, _, rfl, W.sh, B, f, rfl, D2.sh, ?_⟩
      refine ⟨(by show 1 ≤ sizeLine; decide), fun l hl => ?_⟩
      have s2 := same_new (o := HO.tup [V.int 0]) hl
      refine tC_mk (rRep_mk (n := 8) (xs := [V.int 0]) upd_same (by intro z; cases z) (by decide) (by decide) fun c7 H7 s7 hc7 => ?_)
      have s27 := s2.trans s7
      have hc7 : H7 c7 = some (.tup (plateV fun _ => 0)) := hc7
      refine ⟨W, B, _, 4 + f, c7, _, rfl, D2.same s27, by omega, hc7, fun H9 D9 kp9 => ?_⟩
      obtain ⟨g1, g2⟩ := drop_good (S' := (lessS S (metF B S f)).put (4 + f) fun _ => 0) hf G rfl fun b _ => rfl
      refine k _ H9 g1 g2 (fun g hg hgf bg τ kτ => ?_) D9 ((((Keep.of s1).trans kp).trans (Keep.of s27)).trans kp9)
      rw [plate_far (S := S) (S' := (lessS S (metF B S f)).put (4 + f) fun _ => 0) (x := fun _ => 0) hg hf hgf rfl]
      exact bg τ kτ
/-! ### share_file -/
def spShareFile (CS CD : Addr) : Sp := fun vs H Q _ => ∃ (W : DW) (B : Nat) (S : St) (f l : Nat) (r : Nat → List Int), vs = [.ref W.p, .int (f : Int), .int (l : Int), .int 0, .int 0] ∧ Dr CS CD H W B S ∧ Good B S r ∧ f < 2 ∧ l < 2 ∧ f ≠ l ∧ Bare B S l ∧
  ∀ (S' : St) (H' : Hp), Good B S' (setr r l (r f)) → Dr CS CD H' W B S' → Keep H H' W → Q .non H'
theorem sc_share_file : FnScope ["draft", "file", "late", "owner", "time", "plate", "pointer", "level"] ["draft", "file", "late", "owner", "time"] (defScope s_share_file) := ⟨rfl, rfl, rfl, by decide +kernel, rfl, by decide +kernel, by decide +kernel⟩
theorem ok_share_file (T : Tops K mg CS CD) : Cal P w K mg base "share_file" ["draft", "file", "late", "owner", "time"] 7 (spShareFile CS CD) := by
  obtain ⟨f, fd, F, m⟩ := T.f_share_file
  obtain ⟨f0, fd0, G_pointers_at, m_pointers_at, k_pointers_at, b_pointers_at⟩ := ok_pointers_at (P := P) (w := w) (base := base) T
  obtain ⟨f1, fd1, G_share, m_share, k_share, b_share⟩ := okd_share (P := P) (w := w) (base := base) T
  obtain ⟨f2, fd2, M_file_plate, GM_file_plate, bM_file_plate⟩ := ok_file_plate (P := P) (w := w) (base := base) T
  obtain ⟨f3, fd3, M_put, GM_put, bM_put⟩ := ok_put (P := P) (w := w) (base := base) T
  refine ⟨f, fd, F.ok sc_share_file (fun vs H Q E h => ?_) (fun cdv A outer s H vs Q E hr h => ?_), m, F.kp, F.binds (ps := ["draft", "file", "late", "owner", "time"]) fun _ _ _ _ _ _ us hl => match us, hl with | [_, _, _, _, _], _ => rfl⟩
  · obtain ⟨W, B, S, f, l, r, rfl, _⟩ := h
    rfl
  · obtain ⟨W, B, S, f, l, r, rfl, D, G, hf, hlt, hfl, bare, k⟩ := h
    have hu := hu_of hr
    have hlo := D.lo
    obtain ⟨dx, fs, e, q1, q2, _⟩ := D.ob
    obtain ⟨dxs, fss, es, _, _, _, n1, n2⟩ := D.sh.ob
    obtain ⟨t0, g0, ht0⟩ := D.home.get (show 4 + f < 6 + B by omega)
    refine ⟨_, (pss_cons (ps_set (i := 5) sc_share_file.nd rfl (Or.inl rfl) (pe_dget hu (pe_fld (pv 0) rfl) (pe_meth (pe_fld (pv 0) rfl) T.clShape M_file_plate GM_file_plate (hr.mono (by omega)) bM_file_plate .nil pass0 (pa_cons (pv 1) pa_nil)) (fun _ _ => rfl))) (pss_cons (ps_for PassesOwn.never rfl (pi_list (pe_call G_pointers_at (hr.mono (by omega)) (by rfl) m_pointers_at k_pointers_at b_pointers_at .nil pass0 (pa_cons (pe_fld (pv 0) rfl) (pa_cons (pe_fld (pv 0) rfl) (pa_cons (pv 1) pa_nil))))) (pg_tup (by rfl) (pgs_cons (pg_name (i := 6) sc_share_file.nd rfl (Or.inl rfl)) (pgs_cons (pg_name (i := 7) sc_share_file.nd rfl (Or.inl rfl)) pgs_nil))) (pss_one (ps_expr (pe_call G_share (hr.mono (by omega)) (by rfl) m_share k_share b_share .nil pass0 (pa_cons (pv 0) (pa_cons (pv 6) (pa_cons (pv 7) pa_nil))))))) (pss_one (ps_expr (pe_meth (pv 0) T.clDraft M_put GM_put (hr.mono (by omega)) bM_put .nil pass0 (pa_cons (pe_meth (pe_fld (pv 0) rfl) T.clShape M_file_plate GM_file_plate (hr.mono (by omega)) bM_file_plate .nil pass0 (pa_cons (pv 2) pa_nil)) (pa_cons (pe_op op_catA (pe_tup (pa_cons (pe_ix ix_tup (pv 5) pe_int (fun _ _ => rfl)) (pa_cons (pv 3) (pa_cons (pv 4) pa_nil)))) (pe_slice sl_tupA (pv 5) (po_some pe_int) po_none)) pa_nil))))))), ?_⟩
    refine ⟨_, rfl, W.p, CD, dx, fs, _, rfl, e, T.clDraft, T.na_home, q2, _, rfl, W.p, CD, dx, fs, _, rfl, e, T.clDraft, T.na_shape, q1, W.sh, dxs, fss, rfl, es, n1, _, rfl, W.sh, B, f, rfl, D.sh, W.hd, _, rfl, g0, ?_⟩
    refine ⟨_, rfl, W.p, CD, dx, fs, _, rfl, e, T.clDraft, T.na_home, q2, _, rfl, W.p, CD, dx, fs, _, rfl, e, T.clDraft, T.na_shape, q1, _, rfl, W.hd, W.sh, B, f, S, rfl, D.home, D.sh, hf, fun H1 p ts s1 hp hl hts => ?_⟩
    have D1 := D.same s1
    have np : p ≠ W.hd ∧ p ≠ W.cd := ⟨by obtain ⟨kvs, q, _⟩ := D1.home; exact ne_of hp q (by intro z; cases z), by obtain ⟨kvs, q, _⟩ := D1.ch; exact ne_of hp q (by intro z; cases z)⟩
    have ncl : p ≠ W.cl := fun z => by
      subst z
      rw [D1.counts] at hp
      exact refs_no (HO.lst.inj (Option.some.inj hp)) (i := S.counts 0) (by rw [List.getElem?_map, List.getElem?_range (by omega)]; rfl)
    refine ⟨p, rfl, ⟨_, SqL.of hp⟩, for_list (K := K) (a := p) (xs := ts.map V.ref)
      (fun i σ H' => ∃ (v1 v2 : Option V), σ = [some (.ref W.p), some (.int (f : Int)), some (.int (l : Int)), some (.int 0), some (.int 0), some (.ref t0), v1, v2] ∧ Dr CS CD H' W B (moreS S (met5 B S f i)) ∧ Keep H1 H' W) ⟨_, _, rfl, D1.like (fun _ _ _ _ => rfl) (fun c _ => ?_), Keep.refl⟩ (fun i σ H' _ ⟨_, _, _, _, kp⟩ => SqL.of (kp p _ hp np.1 ncl np.2)) ?_ ?_⟩
    · show S.counts c + ((([] : List Nat).count c : Nat) : Int) = S.counts c
      simp
    · rintro i x σ H' hi ⟨v1, v2, rfl, D2, kp⟩
      obtain ⟨t, ht, rfl⟩ := ref_get hi
      obtain ⟨y, hy, htt⟩ := hts i t ht
      have hi5 : i < 5 := by rw [← hl]; exact (List.getElem?_eq_some_iff.mp ht).1
      obtain ⟨el, _⟩ := slots5_lev i hi5 y hy
      refine ⟨t, _, rfl, SqT.of (kp.tup D1 htt), rfl, _, _, rfl, _, _, rfl, rfl, ?_⟩
      refine ⟨_, rfl, _, rfl, _, rfl, W, B, _, _, y.2, rfl, D2, el, fun H3 D3 kp3 => ?_⟩
      refine ⟨_, _, rfl, D3.like (fun _ _ _ _ => rfl) (fun c _ => ?_), kp.trans kp3⟩
      have e5 : met5 B S f (i + 1) = met5 B S f i ++ metP B S (S.home (4 + f) y.1) y.2 := flat_take_succ hy
      rw [e5, metP_home (S := S) (S' := moreS S (met5 B S f i)) rfl]
      exact (moreS_more.2 c).symm
    · rintro σ H2 ⟨v1, v2, rfl, D2, kp⟩
      have e5 : met5 B S f (ts.map V.ref).length = metF B S f := by rw [List.length_map, hl]; rfl
      rw [e5] at D2
      have ht2 : H2 t0 = some (.tup (plateV (S.home (4 + f)))) := kp.tup D1 (s1 _ _ ht0)
      obtain ⟨dx2, fs2, e2, r1, _, _, _, _, r6, _⟩ := D2.ob
      obtain ⟨dxs, fss, es, _, _, _, n1, n2⟩ := D2.sh.ob
      refine ⟨_, rfl, W.p, dx2, fs2, rfl, e2, r6, _, rfl, W.p, CD, dx2, fs2, _, rfl, e2, T.clDraft, T.na_shape, r1, W.sh, dxs, fss, rfl, es, n1, _, rfl, W.sh, B, l, rfl, D2.sh, ?_⟩
      refine ⟨_, rfl, t0, _, _, _, rfl, rfl, SqT.of ht2, atI_nat (j := 0) (plateV_get (by decide)), _, rfl, _, rfl, (by show 3 ≤ sizeLine; decide), fun a ha => ?_⟩
      have s2 := same_new (o := HO.tup [V.int (S.home (4 + f) 0), V.int 0, V.int 0]) ha
      refine ⟨_, rfl, _, rfl, noPart (rSl_mk (s2 _ _ ht2) fun d H3 s3 hd3 => ?_)⟩
      have hd3 : H3 d = some (.tup ((plateV (S.home (4 + f))).drop 3)) := hd3
      refine rCat_mk (s3 _ _ upd_same) hd3 (by rw [List.length_drop, plateV_len]; show 3 + (8 - 3) ≤ 10000; decide) fun u H4 s4 hu4 => ?_
      rw [plate_new] at hu4
      have s24 := (s2.trans s3).trans s4
      refine ⟨W, B, _, 4 + l, u, _, rfl, D2.same s24, by omega, hu4, fun H9 D9 kp9 => ?_⟩
      refine k _ H9 (share_good (S := S) (S' := (moreS S (metF B S f)).put (4 + l) fun i => if i = 0 then S.home (4 + f) 0 else if i < 3 then 0 else S.home (4 + f) i) hf hlt hfl G bare (x := fun i => if i = 0 then S.home (4 + f) 0 else if i < 3 then 0 else S.home (4 + f) i) (fun i _ h => ?_) rfl fun b _ => rfl) D9 ((((Keep.of s1).trans kp).trans (Keep.of s24)).trans kp9)
      rcases h with rfl | h
      · exact if_pos rfl
      · show (if i = 0 then _ else if i < 3 then _ else _) = _
        rw [if_neg (by omega), if_neg (by omega)]
end
end K51
set_option maxRecDepth 100000
set_option maxHeartbeats 8000000
namespace K51
open PySem L2
section
theorem plate_mid {y : Nat → Int} {xs : List Int} {k start : Nat} (h1 : start / 8 ≤ k) (h2 : k < parts (start + xs.length)) (h3 : 0 < xs.length) :
    (plateV y).take (max start (8 * k) - 8 * k) ++ ((xs.map V.int).drop (max start (8 * k) - start)).take ((min (start + xs.length) (8 * k + 8) - start) - (max start (8 * k) - start)) ++ (plateV y).drop (min (start + xs.length) (8 * k + 8) - 8 * k) =
      plateV fun i => if start ≤ 8 * k + i ∧ 8 * k + i < start + xs.length then xs.getD (8 * k + i - start) 0 else y i := by
  have hp : parts (start + xs.length) = (start + xs.length + 7) / 8 := rfl
  have la : ((plateV y).take (max start (8 * k) - 8 * k)).length = max start (8 * k) - 8 * k := by rw [List.length_take, plateV_len]; omega
  have lb : (((xs.map V.int).drop (max start (8 * k) - start)).take ((min (start + xs.length) (8 * k + 8) - start) - (max start (8 * k) - start))).length = min (start + xs.length) (8 * k + 8) - max start (8 * k) := by
    rw [List.length_take, List.length_drop, List.length_map]; omega
  refine List.ext_getElem? fun i => ?_
  by_cases hi : i < 8
  · rw [plateV_get hi]
    by_cases a1 : 8 * k + i < start
    · rw [List.append_assoc, List.getElem?_append_left (by omega), List.getElem?_take, if_pos (by omega), plateV_get hi, if_neg (by omega)]
    · by_cases a2 : 8 * k + i < start + xs.length
      · rw [List.getElem?_append_left (by rw [List.length_append, la, lb]; omega), List.getElem?_append_right (by omega), la, List.getElem?_take, if_pos (by omega), List.getElem?_drop, List.getElem?_map, if_pos (by omega)]
        rw [show max start (8 * k) - start + (i - (max start (8 * k) - 8 * k)) = 8 * k + i - start by omega]
        rw [List.getD_eq_getElem?_getD, List.getElem?_eq_getElem (by omega)]; rfl
      · rw [List.getElem?_append_right (by rw [List.length_append, la, lb]; omega), List.length_append, la, lb, List.getElem?_drop, if_neg (by omega)]
        rw [show min (start + xs.length) (8 * k + 8) - 8 * k + (i - (max start (8 * k) - 8 * k + (min (start + xs.length) (8 * k + 8) - max start (8 * k)))) = i by omega]
        rw [plateV_get hi]
  · rw [List.getElem?_eq_none (by rw [List.length_append, List.length_append, la, lb, List.length_drop, plateV_len]; omega), List.getElem?_eq_none (by rw [plateV_len]; omega)]
theorem setr_id {r : Nat → List Int} {f : Nat} : setr r f (r f) = r := by
  funext g
  unfold setr
  by_cases h : g = f
  · rw [if_pos h, h]
  · rw [if_neg h]
theorem setr_twice {r : Nat → List Int} {f : Nat} {x y : List Int} : setr (setr r f x) f y = setr r f y := by
  funext g
  unfold setr
  by_cases h : g = f
  · rw [if_pos h, if_pos h]
  · rw [if_neg h, if_neg h, if_neg h]
theorem grown_no {x : List Int} {n : Nat} (h : n ≤ x.length) : grown x n = x := by
  unfold grown
  rw [show n - x.length = 0 by omega]; simp
theorem grown_length {x : List Int} {n : Nat} : (grown x n).length = max x.length n := by
  unfold grown
  rw [List.length_append, List.length_replicate]; omega
theorem st13 {a b c d e g h i j k l : Option V} {x y x' y' : Int} (h1 : x = x') (h2 : y = y') : [a, b, c, d, e, g, h, some (V.int x), some (V.int y), i, j, k, l] = [a, b, c, d, e, g, h, some (V.int x'), some (V.int y'), i, j, k, l] := by subst h1 h2; rfl
end
section
variable {P : Program} {w : World} {K : PySem.W.Frag} {mg : Str → Option Value} {base : Heap} {CS CD : Addr}
def spWrite (CS CD : Addr) : Sp := fun vs H Q _ => ∃ (W : DW) (B : Nat) (S : St) (f start : Nat) (xs : List Int) (t : Addr) (r : Nat → List Int), vs = [.ref W.p, .int (f : Int), .int (start : Int), .ref t] ∧ H t = some (.tup (xs.map V.int)) ∧ Dr CS CD H W B S ∧ Good B S r ∧ f < 2 ∧ 0 < xs.length ∧ start + xs.length ≤ 440 ∧
  ∀ (S' : St) (H' : Hp), Good B S' (setr r f (written (r f) start xs)) → Dr CS CD H' W B S' → Keep H H' W → Q .non H'
theorem sc_write : FnScope ["draft", "file", "start", "numbers", "end", "old", "number", "first", "last", "plate", "low", "high", "told"] ["draft", "file", "start", "numbers"] (defScope s_write) := ⟨rfl, rfl, rfl, by decide +kernel, rfl, by decide +kernel, by decide +kernel⟩
theorem ok_write (T : Tops K mg CS CD) : Cal P w K mg base "write" ["draft", "file", "start", "numbers"] 10 (spWrite CS CD) := by
  obtain ⟨f, fd, F, m⟩ := T.f_write
  obtain ⟨tW, c_WIDTH⟩ := T.c_WIDTH
  obtain ⟨tM, c_MOST_SIZE⟩ := T.c_MOST_SIZE
  obtain ⟨f1, fd1, G_size_at, m_size_at, k_size_at, b_size_at⟩ := ok_size_at (P := P) (w := w) (base := base) T
  obtain ⟨f2, fd2, G_grow, m_grow, k_grow, b_grow⟩ := ok_grow (P := P) (w := w) (base := base) T
  obtain ⟨f3, fd3, G_own_data, m_own_data, k_own_data, b_own_data⟩ := ok_own_data (P := P) (w := w) (base := base) T
  obtain ⟨f4, fd4, G_parts_behind, m_parts_behind, k_parts_behind, b_parts_behind⟩ := ok_parts_behind (P := P) (w := w) (base := base) T
  obtain ⟨f5, fd5, G_put_size, m_put_size, k_put_size, b_put_size⟩ := ok_put_size (P := P) (w := w) (base := base) T
  obtain ⟨f6, fd6, M_block_plate, GM_block_plate, bM_block_plate⟩ := ok_block_plate (P := P) (w := w) (base := base) T
  obtain ⟨f7, fd7, M_put, GM_put, bM_put⟩ := ok_put (P := P) (w := w) (base := base) T
  refine ⟨f, fd, F.ok sc_write (fun vs H Q E h => ?_) (fun cdv A outer s H vs Q E hr h => ?_), m, F.kp, F.binds (ps := ["draft", "file", "start", "numbers"]) fun _ _ _ _ _ _ us hl => match us, hl with | [_, _, _, _], _ => rfl⟩
  · obtain ⟨W, B, S, f, start, xs, t, r, rfl, _⟩ := h
    rfl
  · obtain ⟨W, B, S, f, start, xs, t, r, rfl, ht, D, G, hf, hx, h440, k⟩ := h
    have hu := hu_of hr
    obtain ⟨dx, fs, e, q1, q2, _⟩ := D.ob
    have hz := G.size f hf
    have hm := G.most f hf
    have hp : parts (start + xs.length) = (start + xs.length + 7) / 8 := rfl
    have ee : (start : Int) + (((xs.map V.int).length : Nat) : Int) = ((start + xs.length : Nat) : Int) := by rw [List.length_map]; omega
    have e8 : (start : Int) / 8 = ((start / 8 : Nat) : Int) := by omega
    refine ⟨_, (pss_cons (ps_par (i := 4) (j := 5) (by rfl) sc_write.nd rfl rfl (by decide) rfl rfl (pa_cons (pe_op op_add (pv 2) (pe_callB call_len_seq (by rfl) T.z_len (by decide +kernel) (pa_cons (pv 3) pa_nil))) (pa_cons (pe_call G_size_at (hr.mono (by omega)) (by rfl) m_size_at k_size_at b_size_at .nil pass0 (pa_cons (pe_fld (pv 0) rfl) (pa_cons (pe_fld (pv 0) rfl) (pa_cons (pv 1) pa_nil)))) pa_nil)) (by rfl)) (C8.pss_cut (ps_if (pt_cmpR op_gt (pv 4) (pe_glob (v := .int 600) (by rfl) c_MOST_SIZE ⟨_, rfl⟩) (nomark _)) (pss_one (ps_never)) pss_nil) (C8.pss_cut (ps_if (pt_cmpR op_gt (pv 2) (pv 5) (nomark _)) (pss_one (ps_expr (pe_call G_grow (hr.mono (by omega)) (by rfl) m_grow k_grow b_grow .nil pass0 (pa_cons (pv 0) (pa_cons (pv 1) (pa_cons (pv 2) pa_nil)))))) pss_nil) (pss_cons (ps_for PassesOwn.never rfl (pi_range2 (by rfl) T.z_range (pa_cons (pe_op op_fdiv (pv 2) (pe_glob (v := .int 8) (by rfl) c_WIDTH ⟨_, rfl⟩)) (pa_cons (pe_call G_parts_behind (hr.mono (by omega)) (by rfl) m_parts_behind k_parts_behind b_parts_behind .nil pass0 (pa_cons (pv 4) pa_nil)) pa_nil))) (pg_name (i := 6) sc_write.nd rfl (Or.inl rfl)) (C8.pss_cut (ps_par (i := 7) (j := 8) (by rfl) sc_write.nd rfl rfl (by decide) rfl rfl (pa_cons (pe_callB (call_max2 rfl) (by rfl) T.z_max (by decide +kernel) (pa_cons (pv 2) (pa_cons (pe_op op_mul (pv 6) (pe_glob (v := .int 8) (by rfl) c_WIDTH ⟨_, rfl⟩)) pa_nil))) (pa_cons (pe_callB (call_min2 rfl) (by rfl) T.z_min (by decide +kernel) (pa_cons (pv 4) (pa_cons (pe_op op_add (pe_op op_mul (pv 6) (pe_glob (v := .int 8) (by rfl) c_WIDTH ⟨_, rfl⟩)) (pe_glob (v := .int 8) (by rfl) c_WIDTH ⟨_, rfl⟩)) pa_nil))) pa_nil)) (by rfl)) (pss_cons (ps_set (i := 9) sc_write.nd rfl (Or.inl rfl) (pe_meth (pe_fld (pv 0) rfl) T.clShape M_block_plate GM_block_plate (hr.mono (by omega)) bM_block_plate .nil pass0 (pa_cons (pe_call G_own_data (hr.mono (by omega)) (by rfl) m_own_data k_own_data b_own_data .nil pass0 (pa_cons (pv 0) (pa_cons (pv 1) (pa_cons (pv 6) pa_nil)))) pa_nil))) (pss_cons (ps_par (i := 10) (j := 11) (by rfl) sc_write.nd rfl rfl (by decide) rfl rfl (pa_cons (pe_op op_sub (pv 7) (pe_op op_mul (pv 6) (pe_glob (v := .int 8) (by rfl) c_WIDTH ⟨_, rfl⟩))) (pa_cons (pe_op op_sub (pv 8) (pe_op op_mul (pv 6) (pe_glob (v := .int 8) (by rfl) c_WIDTH ⟨_, rfl⟩))) pa_nil)) (by rfl)) (pss_cons (ps_set (i := 12) sc_write.nd rfl (Or.inl rfl) (pe_dget hu (pe_fld (pv 0) rfl) (pv 9) (fun _ _ => rfl))) (pss_one (ps_expr (pe_meth (pv 0) T.clDraft M_put GM_put (hr.mono (by omega)) bM_put .nil pass0 (pa_cons (pv 9) (pa_cons (pe_op op_catA (pe_op op_catA (pe_slice sl_tupA (pv 12) po_none (po_some (pv 10))) (pe_callTy call_tuple_of (by rfl) T.z_tuple (by decide +kernel) (pa_cons (pe_slice sl_tupA (pv 3) (po_some (pe_op op_sub (pv 7) (pv 2))) (po_some (pe_op op_sub (pv 8) (pv 2)))) pa_nil))) (pe_slice sl_tupA (pv 12) (po_some (pv 11)) po_none)) pa_nil)))))))))) (pss_one (ps_if (pt_cmpR op_gt (pv 4) (pe_callB (call_max2 rfl) (by rfl) T.z_max (by decide +kernel) (pa_cons (pv 5) (pa_cons (pv 2) pa_nil))) (nomark _)) (pss_one (ps_expr (pe_call G_put_size (hr.mono (by omega)) (by rfl) m_put_size k_put_size b_put_size .nil pass0 (pa_cons (pv 0) (pa_cons (pv 1) (pa_cons (pv 4) pa_nil)))))) pss_nil)))))), ?_⟩
    refine ⟨_, rfl, _, rfl, t, _, rfl, .inr (SqT.of ht), _, _, rfl, rfl, _, rfl, W.p, CD, dx, fs, _, rfl, e, T.clDraft, T.na_home, q2, _, rfl, W.p, CD, dx, fs, _, rfl, e, T.clDraft, T.na_shape, q1, _, rfl, W.hd, W.sh, B, f, S, rfl, D.home, D.sh, hf, by omega, by omega, ?_⟩
    refine ⟨_, _, rfl, ?_⟩
    refine ⟨(fun σ H' => σ = [some (.ref W.p), some (.int (f : Int)), some (.int (start : Int)), some (.ref t), some (.int ((start + xs.length : Nat) : Int)), some (.int (((r f).length : Nat) : Int)), none, none, none, none, none, none, none] ∧ H = H'), ?_, ?_⟩
    · refine ⟨_, rfl, _, _, rfl, rfl, _, rfl, ?_⟩
      have : decide ((600 : Int) < (start : Int) + (((xs.map V.int).length : Nat) : Int)) = false := decide_eq_false (by omega)
      rw [this]
      refine iteF ⟨?_, rfl⟩
      rw [← ee, ← hz]; rfl
    rintro _ _ ⟨rfl, rfl⟩
    refine ⟨(fun σ H' => ∃ S1, σ = [some (.ref W.p), some (.int (f : Int)), some (.int (start : Int)), some (.ref t), some (.int ((start + xs.length : Nat) : Int)), some (.int (((r f).length : Nat) : Int)), none, none, none, none, none, none, none] ∧ Good B S1 (setr r f (grown (r f) start)) ∧ Dr CS CD H' W B S1 ∧ Keep H H' W), ?_, ?_⟩
    · refine ⟨_, rfl, _, rfl, _, _, rfl, rfl, _, rfl, ?_⟩
      refine ite2 (fun c => ?_) (fun c => ?_)
      · have c : (((r f).length : Nat) : Int) < (start : Int) := of_decide_eq_true c
        refine ⟨_, rfl, _, rfl, _, rfl, W, B, S, f, start, r, rfl, D, G, hf, by omega, by omega, fun S1 H1 G1 D1 kp1 => ?_⟩
        exact ⟨S1, rfl, G1, D1, kp1⟩
      · have c : ¬ (((r f).length : Nat) : Int) < (start : Int) := fun z => c (decide_eq_true z)
        refine ⟨S, rfl, ?_, D, Keep.refl⟩
        rw [grown_no (by omega), setr_id]
        exact G
    rintro _ H1 ⟨S1, rfl, G1, D1, kp1⟩
    have l1 : (setr r f (grown (r f) start) f).length = max (r f).length start := by rw [setr_same, grown_length]
    refine ⟨_, rfl, _, _, rfl, rfl, ⟨by decide, by decide⟩, _, rfl, start + xs.length, rfl, (start : Int) / 8, ((parts (start + xs.length) : Nat) : Int), rfl, by omega, for_range (lo := (start : Int) / 8) (n := (((parts (start + xs.length) : Nat) : Int) - (start : Int) / 8).toNat)
      (fun i σ H' => ∃ (S2 : St) (v1 v2 v3 v4 v5 v6 v7 : Option V), σ = [some (.ref W.p), some (.int (f : Int)), some (.int (start : Int)), some (.ref t), some (.int ((start + xs.length : Nat) : Int)), some (.int (((r f).length : Nat) : Int)), v1, v2, v3, v4, v5, v6, v7] ∧ Wr B S1 S2 f start xs (start / 8 + i) ∧ Dr CS CD H' W B S2 ∧ Keep H H' W) ⟨S1, _, _, _, _, _, _, _, rfl, Wr.start G1.inv, D1, kp1⟩ ?_ ?_⟩
    · rintro i σ H2 hi ⟨S2, v1, v2, v3, v4, v5, v6, v7, rfl, w2, D2, kp2⟩
      generalize hkk : start / 8 + i = kk at w2
      have ek : (start : Int) / 8 + (i : Int) = (kk : Int) := by omega
      have hk1 : start / 8 ≤ kk := by omega
      have hk2 : kk < parts (start + xs.length) := by omega
      rw [ek]
      refine ⟨(fun σ H' => σ = [some (.ref W.p), some (.int (f : Int)), some (.int (start : Int)), some (.ref t), some (.int ((start + xs.length : Nat) : Int)), some (.int (((r f).length : Nat) : Int)), some (.int (kk : Int)), some (.int ((max start (8 * kk) : Nat) : Int)), some (.int ((min (start + xs.length) (8 * kk + 8) : Nat) : Int)), v4, v5, v6, v7] ∧ H2 = H'), ?_, ?_⟩
      · refine ⟨_, rfl, _, rfl, _, _, rfl, rfl, .inr ⟨by decide, by decide⟩, _, _, rfl, _, rfl, _, rfl, _, _, rfl, rfl, .inr ⟨by decide, by decide⟩, _, _, rfl, rfl, _, _, rfl, _, _, rfl, ?_⟩
        refine ⟨st13 ?_ ?_, rfl⟩
        · split <;> omega
        · split <;> omega
      rintro _ _ ⟨rfl, rfl⟩
      obtain ⟨dx2, fs2, e2, u1, u2, _⟩ := D2.ob
      obtain ⟨dxs, fss, es, _, _, _, n1, n2⟩ := D2.sh.ob
      refine ⟨_, rfl, W.p, CD, dx2, fs2, _, rfl, e2, T.clDraft, T.na_shape, u1, W.sh, dxs, fss, rfl, es, n2, _, rfl, _, rfl, _, rfl, W, B, S2, f, kk, rfl, D2, w2.inv, w2.lim G1.lim (by omega), hf, by omega, fun S3 b H3 O hb h1 D3 kp3 => ?_⟩
      have hbB := reach_lt hb
      obtain ⟨dx3, fs3, e3, x1, x2, _, _, _, x6, _⟩ := D3.ob
      obtain ⟨t3, g3, ht3⟩ := D3.home.get (show 6 + b < 6 + B by omega)
      refine ⟨W.sh, B, b, rfl, D3.sh, ?_⟩
      refine ⟨_, rfl, _, rfl, _, _, rfl, rfl, .inr ⟨by decide, by decide⟩, _, _, rfl, rfl, _, rfl, _, rfl, _, _, rfl, rfl, .inr ⟨by decide, by decide⟩, _, _, rfl, rfl, _, _, rfl, ?_⟩
      refine ⟨_, rfl, W.p, CD, dx3, fs3, _, rfl, e3, T.clDraft, T.na_home, x2, _, rfl, W.hd, _, rfl, g3, ?_⟩
      have elo : ((max start (8 * kk) : Nat) : Int) - (kk : Int) * 8 = ((max start (8 * kk) - 8 * kk : Nat) : Int) := by omega
      have ehi : ((min (start + xs.length) (8 * kk + 8) : Nat) : Int) - (kk : Int) * 8 = ((min (start + xs.length) (8 * kk + 8) - 8 * kk : Nat) : Int) := by omega
      have ea : ((max start (8 * kk) : Nat) : Int) - (start : Int) = ((max start (8 * kk) - start : Nat) : Int) := by omega
      have eb : ((min (start + xs.length) (8 * kk + 8) : Nat) : Int) - (start : Int) = ((min (start + xs.length) (8 * kk + 8) - start : Nat) : Int) := by omega
      have ht3' : H3 t = some (.tup (xs.map V.int)) := (kp2.trans kp3).tup D ht
      refine ⟨_, rfl, W.p, dx3, fs3, rfl, e3, x6, _, rfl, _, rfl, _, rfl, ((max start (8 * kk) : Nat) : Int) - (kk : Int) * 8, rfl, rSl_mk ht3 fun a H4 s4 ha => ?_⟩
      rw [elo, cut_take'] at ha
      refine ⟨_, rfl, _, rfl, _, rfl, _, _, rfl, rfl, ((max start (8 * kk) : Nat) : Int) - (start : Int), rfl, _, rfl, _, rfl, _, _, rfl, rfl, ((min (start + xs.length) (8 * kk + 8) : Nat) : Int) - (start : Int), rfl, rSl_mk (s4 _ _ ht3') fun c H5 s5 hc => ?_⟩
      rw [ea, eb, cut_mid (by omega)] at hc
      refine ⟨c, _, rfl, .inr ⟨SqT.of hc, ?_⟩⟩
      refine rCat_mk (s5 _ _ ha) hc ?_ fun d H6 s6 hd => ?_
      · rw [List.length_take, List.length_take, List.length_drop, List.length_map, plateV_len]; omega
      have s46 := (s4.trans s5).trans s6
      refine ⟨_, rfl, _, rfl, ((min (start + xs.length) (8 * kk + 8) : Nat) : Int) - (kk : Int) * 8, rfl, noPart (rSl_mk (s46 _ _ ht3) fun g H7 s7 hg => ?_)⟩
      rw [ehi, cut_drop] at hg
      refine rCat_mk (s7 _ _ hd) hg ?_ fun u H8 s8 hu8 => ?_
      · rw [List.length_append, List.length_take, List.length_take, List.length_drop, List.length_drop, List.length_map, plateV_len]; omega
      rw [plate_mid hk1 hk2 hx] at hu8
      have s48 := (s46.trans s7).trans s8
      refine ⟨W, B, S3, 6 + b, u, _, rfl, D3.same s48, by omega, hu8, fun H9 D9 kp9 => ?_⟩
      refine ⟨_, _, _, _, _, _, _, _, rfl, ?_, D9, ((kp2.trans kp3).trans (Keep.of s48)).trans kp9⟩
      rw [show start / 8 + (i + 1) = kk + 1 by omega]
      exact w2.turn hf (by omega) O hb h1 fun i _ => rfl
    · rintro σ H2 ⟨S2, v1, v2, v3, v4, v5, v6, v7, rfl, w2, D2, kp2⟩
      rw [show start / 8 + (((parts (start + xs.length) : Nat) : Int) - (start : Int) / 8).toNat = parts (start + xs.length) by omega] at w2
      refine ⟨_, rfl, _, rfl, _, rfl, _, _, rfl, _, _, rfl, rfl, _, rfl, ?_⟩
      have fin : ∀ (H3 : Hp), Dr CS CD H3 W B (S2.putc (4 + f) 0 ((max (setr r f (grown (r f) start) f).length (start + xs.length) : Nat) : Int)) → Keep H H3 W → Q .non H3 := fun H3 D3 kp3 => by
        have := write_good hf G1 (by omega) hx h440 w2 rfl
        rw [setr_twice, setr_same, written_grown] at this
        exact k _ H3 this (by rw [setr_same] at D3; exact D3) kp3
      refine ite2 (fun c => ?_) (fun c => ?_)
      · have c := of_decide_eq_true c
        have c : max (r f).length start < start + xs.length := by revert c; split <;> omega
        refine ⟨_, rfl, _, rfl, _, rfl, W, B, S2, f, ((start + xs.length : Nat) : Int), rfl, D2, hf, fun H3 D3 kp3 => ?_⟩
        refine fin H3 ?_ (kp2.trans kp3)
        rw [l1, show max (max (r f).length start) (start + xs.length) = start + xs.length by omega]
        exact D3
      · have c : ¬ max (r f).length start < start + xs.length := fun z => c (decide_eq_true (by split <;> omega))
        refine fin H2 ?_ kp2
        rw [putc_same]
        · exact D2
        · rw [w2.top f 0 hf (by omega), G1.size f hf, l1]
          omega
end
end K51
set_option maxRecDepth 100000
set_option maxHeartbeats 8000000
namespace K51
open PySem L2
section
variable {P : Program} {w : World} {K : PySem.W.Frag} {mg : Str → Option Value} {base : Heap} {CS CD : Addr}
/-! ### is_whole, plates_for -/
def spIsWhole : Sp := fun vs H Q _ => ∃ (n lo hi : Int), vs = [.int n, .int lo, .int hi] ∧ lo ≤ n ∧ n ≤ hi ∧ Q (.bl true) H
theorem sc_is_whole : FnScope ["thing", "low", "high"] ["thing", "low", "high"] (defScope s_is_whole) := ⟨rfl, rfl, rfl, by decide +kernel, rfl, by decide +kernel, by decide +kernel⟩
theorem ok_is_whole (T : Tops K mg CS CD) : Cal P w K mg base "is_whole" ["thing", "low", "high"] 1 spIsWhole := by
  obtain ⟨f, fd, F, m⟩ := T.f_is_whole
  have hb : Binds K fd ["thing", "low", "high"] [] := by
    obtain ⟨ds, hv, b⟩ := F.binds1 (ps := ["thing", "low", "high"]) 3 2 (by intro z; cases z) rfl fun T kV doc pm an cdv ct us its h1 h2 => match us, h1, its, h2 with | [_, _, _], _, [_, _], _ => ⟨_, rfl, rfl⟩
    cases hv
    exact b
  refine ⟨f, fd, F.ok sc_is_whole (fun vs H Q E h => ?_) (fun cdv A outer s H vs Q E hr h => ?_), m, F.kp, hb⟩
  · obtain ⟨n, lo, hi, rfl, _⟩ := h
    rfl
  · obtain ⟨n, lo, hi, rfl, h1, h2, k⟩ := h
    refine ⟨_, (pss_cons (ps_if (PW.pt (pw_or (pt_not (pt_val (pe_callB call_isi (by rfl) T.z_isinstance (by decide +kernel) (pa_cons (pv 0) (pa_cons (pe_bltn (v := .ty "int") (by rfl) T.z_int (by decide +kernel) rfl) pa_nil))))) (pw_or1 (pt_val (pe_callB call_isi (by rfl) T.z_isinstance (by decide +kernel) (pa_cons (pv 0) (pa_cons (pe_bltn (v := .ty "bool") (by rfl) T.z_bool (by decide +kernel) rfl) pa_nil))))))) (pss_one (ps_ret pe_bl)) pss_nil) (pss_one (ps_ret (pe_and (pe_or (pe_cmp (pc_isN (pv 1))) (pe_one (pe_cmpR op_ge (pv 0) (pv 1) (nomark _)))) (pe_one (pe_or (pe_cmp (pc_isN (pv 2))) (pe_one (pe_cmpR op_le (pv 0) (pv 2) (nomark _))))))))), ?_⟩
    have ti : TyX K H (.int n) (.type "int") := .base (.int n)
    refine ⟨_, rfl, _, _, _, _, true, rfl, .ty "int", ti, kit_ty (by decide +kernel), _, rfl, ?_⟩
    refine iteF ?_
    refine ⟨_, rfl, _, _, _, _, false, rfl, .ty "bool", ti, kit_ty (by decide +kernel), _, rfl, ?_⟩
    refine iteF ?_
    have d1 : decide (lo ≤ n) = true := decide_eq_true h1
    have d2 : decide (n ≤ hi) = true := decide_eq_true h2
    refine ⟨_, rfl, _, rfl, ?_⟩
    refine iteF ⟨_, rfl, _, rfl, _, _, rfl, rfl, ?_⟩
    refine ⟨_, rfl, ?_⟩
    rw [d1]
    refine iteT ⟨_, rfl, _, rfl, iteF ⟨_, rfl, _, rfl, _, _, rfl, rfl, ?_⟩⟩
    show Q (.bl (decide (n ≤ hi))) H
    rw [d2]
    exact k
theorem sc_plates_for : FnScope ["cells"] ["cells"] (defScope s_plates_for) := ⟨rfl, rfl, rfl, by decide +kernel, rfl, by decide +kernel, by decide +kernel⟩
theorem ok_plates_for (T : Tops K mg CS CD) : Cal P w K mg base "plates_for" ["cells"] 1 spParts := by
  obtain ⟨f, fd, F, m⟩ := T.f_plates_for
  obtain ⟨tW, c_WIDTH⟩ := T.c_WIDTH
  refine ⟨f, fd, F.ok sc_plates_for (fun vs H Q E h => ?_) (fun cdv A outer s H vs Q E hr h => ?_), m, F.kp, F.binds (ps := ["cells"]) fun _ _ _ _ _ _ us hl => match us, hl with | [_], _ => rfl⟩
  · obtain ⟨n, rfl, _⟩ := h
    rfl
  · obtain ⟨n, rfl, q⟩ := h
    refine ⟨_, (pss_one (ps_ret (pe_op op_fdiv (pe_op op_sub (pe_op op_add (pv 0) (pe_glob (v := .int 8) (by rfl) c_WIDTH ⟨_, rfl⟩)) pe_int) (pe_glob (v := .int 8) (by rfl) c_WIDTH ⟨_, rfl⟩)))), ?_⟩
    refine ⟨_, rfl, _, _, rfl, rfl, _, _, rfl, rfl, _, _, rfl, rfl, ⟨by decide, by decide⟩, ?_⟩
    have e1 : ((n : Int) + 8 - 1) / 8 = ((parts n : Nat) : Int) := by unfold parts; omega
    show Q (.int (((n : Int) + 8 - 1) / 8)) H
    rw [e1]
    exact q
/-! ### a shape is made -/
def shapeF (B : Nat) : List (Str × V) := [("dirs", .int 2), ("rows", .int 1), ("files", .int 2), ("blocks", .int (B : Int)), ("users", .int 1), ("first_row", .int 2), ("first_user", .int 3), ("first_file", .int 4), ("first_block", .int 6), ("plates", .int (6 + (B : Int)))]
def But (x : Addr) (H H' : Hp) : Prop := ∀ a o, H a = some o → a ≠ x → H' a = some o
theorem But.trans {x : Addr} {H H1 H2 : Hp} (a : But x H H1) (b : But x H1 H2) : But x H H2 := fun c o e n => b c o (a c o e n) n
theorem But.of {x : Addr} {H H' : Hp} (s : Same H H') : But x H H' := fun c o e _ => s c o e
theorem But.upd {x : Addr} {H : Hp} {o : HO} : But x H (upd H x o) := fun c o e n => by rw [upd_ne n]; exact e
def spShapeInit (CS : Addr) : Sp := fun vs H Q _ => ∃ (x : Addr) (B : Nat), vs = [.ref x, .int 2, .int 1, .int 2, .int (B : Int), .int 1] ∧ 1 ≤ B ∧ B ≤ 200 ∧ ∃ dx, H x = some (.ins CS dx []) ∧
  ∀ H', But x H H' → H' x = some (.ins CS dx (shapeF B)) → Q .non H'
def whole5 (B : Nat) : List (Str × Int × Int × Int) := [("dirs", 2, 2, 40), ("rows", 1, 1, 60), ("files", 2, 1, 40), ("blocks", (B : Int), 1, 200), ("users", 1, 1, 4)]
theorem sc_Shape_init : FnScope ["self", "dirs", "rows", "files", "blocks", "users", "what", "number", "low", "high"] ["self", "dirs", "rows", "files", "blocks", "users"] (defScope s_Shape_init) := ⟨rfl, rfl, rfl, by decide +kernel, rfl, by decide +kernel, by decide +kernel⟩
theorem ok_shape_init (T : Tops K mg CS CD) : CalI P w K mg base CS ["self", "dirs", "rows", "files", "blocks", "users"] 2 (spShapeInit CS) := by
  obtain ⟨f, fd, F, m⟩ := T.initShape
  obtain ⟨f1, fd1, G_is_whole, m_is_whole, k_is_whole, b_is_whole⟩ := ok_is_whole (P := P) (w := w) (base := base) T
  obtain ⟨f2, fd2, G_plates_for, m_plates_for, k_plates_for, b_plates_for⟩ := ok_plates_for (P := P) (w := w) (base := base) T
  refine ⟨f, fd, m, F.ok sc_Shape_init (fun vs H Q E h => ?_) (fun cdv A outer s H vs Q E hr h => ?_), F.binds (ps := ["self", "dirs", "rows", "files", "blocks", "users"]) fun _ _ _ _ _ _ us hl => match us, hl with | [_, _, _, _, _, _], _ => rfl⟩
  · obtain ⟨x, B, rfl, _⟩ := h
    rfl
  · obtain ⟨x, B, rfl, h1, h2, dx, hx, k⟩ := h
    have s4 : 4 ≤ sizeLine := by decide
    have s5 : 5 ≤ sizeLine := by decide
    refine ⟨_, (pss_cons (ps_for PassesOwn.never rfl (pi_tup (pe_tup (pa_cons (pe_tup (pa_cons pe_str (pa_cons (pv 1) (pa_cons pe_int (pa_cons pe_int pa_nil))))) (pa_cons (pe_tup (pa_cons pe_str (pa_cons (pv 2) (pa_cons pe_int (pa_cons pe_int pa_nil))))) (pa_cons (pe_tup (pa_cons pe_str (pa_cons (pv 3) (pa_cons pe_int (pa_cons pe_int pa_nil))))) (pa_cons (pe_tup (pa_cons pe_str (pa_cons (pv 4) (pa_cons pe_int (pa_cons pe_int pa_nil))))) (pa_cons (pe_tup (pa_cons pe_str (pa_cons (pv 5) (pa_cons pe_int (pa_cons pe_int pa_nil))))) pa_nil))))))) (pg_tup (by rfl) (pgs_cons (pg_name (i := 6) sc_Shape_init.nd rfl (Or.inl rfl)) (pgs_cons (pg_name (i := 7) sc_Shape_init.nd rfl (Or.inl rfl)) (pgs_cons (pg_name (i := 8) sc_Shape_init.nd rfl (Or.inl rfl)) (pgs_cons (pg_name (i := 9) sc_Shape_init.nd rfl (Or.inl rfl)) pgs_nil))))) (pss_one (ps_if (pt_not (pt_val (pe_call G_is_whole (hr.mono (by omega)) (by rfl) m_is_whole k_is_whole b_is_whole .nil pass0 (pa_cons (pv 7) (pa_cons (pv 8) (pa_cons (pv 9) pa_nil)))))) (pss_one (ps_never)) pss_nil))) (pss_cons (ps_fld (pv 0) (pv 1) rfl) (pss_cons (ps_fld (pv 0) (pv 2) rfl) (pss_cons (ps_fld (pv 0) (pv 3) rfl) (pss_cons (ps_fld (pv 0) (pv 4) rfl) (pss_cons (ps_fld (pv 0) (pv 5) rfl) (pss_cons (ps_fld (pv 0) (pe_op op_add pe_int (pe_call G_plates_for (hr.mono (by omega)) (by rfl) m_plates_for k_plates_for b_plates_for .nil pass0 (pa_cons (pv 1) pa_nil))) rfl) (pss_cons (ps_fld (pv 0) (pe_op op_add (pe_fld (pv 0) rfl) (pe_call G_plates_for (hr.mono (by omega)) (by rfl) m_plates_for k_plates_for b_plates_for .nil pass0 (pa_cons (pv 2) pa_nil))) rfl) (pss_cons (ps_fld (pv 0) (pe_op op_add (pe_fld (pv 0) rfl) (pe_call G_plates_for (hr.mono (by omega)) (by rfl) m_plates_for k_plates_for b_plates_for .nil pass0 (pa_cons (pv 5) pa_nil))) rfl) (pss_cons (ps_fld (pv 0) (pe_op op_add (pe_fld (pv 0) rfl) (pv 3)) rfl) (pss_one (ps_fld (pv 0) (pe_op op_add (pe_fld (pv 0) rfl) (pv 4)) rfl)))))))))))), ?_⟩
    refine ⟨_, rfl, s4, fun p1 n1 => ⟨_, rfl, s4, fun p2 n2 => ⟨_, rfl, s4, fun p3 n3 => ⟨_, rfl, s4, fun p4 n4 => ⟨_, rfl, s4, fun p5 n5 => ⟨s5, fun p np => ?_⟩⟩⟩⟩⟩⟩
    have z1 := same_new (o := HO.tup [V.str "dirs", .int 2, .int 2, .int 40]) n1
    have z2 := same_new (o := HO.tup [V.str "rows", .int 1, .int 1, .int 60]) n2
    have z3 := same_new (o := HO.tup [V.str "files", .int 2, .int 1, .int 40]) n3
    have z4 := same_new (o := HO.tup [V.str "blocks", .int (B : Int), .int 1, .int 200]) n4
    have z5 := same_new (o := HO.tup [V.str "users", .int 1, .int 1, .int 4]) n5
    have z6 := same_new (o := HO.tup [V.ref p1, .ref p2, .ref p3, .ref p4, .ref p5]) np
    generalize hH6 : upd (upd (upd (upd (upd (upd H p1 (HO.tup [V.str "dirs", .int 2, .int 2, .int 40])) p2 (HO.tup [V.str "rows", .int 1, .int 1, .int 60])) p3 (HO.tup [V.str "files", .int 2, .int 1, .int 40])) p4 (HO.tup [V.str "blocks", .int (B : Int), .int 1, .int 200])) p5 (HO.tup [V.str "users", .int 1, .int 1, .int 4])) p (HO.tup [V.ref p1, .ref p2, .ref p3, .ref p4, .ref p5]) = H6 at z6
    have s6 : Same H H6 := ((((z1.trans z2).trans z3).trans z4).trans z5).trans z6
    have hp : H6 p = some (.tup [V.ref p1, .ref p2, .ref p3, .ref p4, .ref p5]) := by rw [← hH6]; exact upd_same
    have hel : ∀ (i : Nat) (v : V), [V.ref p1, .ref p2, .ref p3, .ref p4, .ref p5][i]? = some v → ∃ (a : Addr) (wd : Str) (n lo hi : Int), v = .ref a ∧ H6 a = some (.tup [V.str wd, .int n, .int lo, .int hi]) ∧ lo ≤ n ∧ n ≤ hi := fun i v hv => by
      match i, hv with
      | 0, hv => exact ⟨p1, _, _, _, _, (Option.some.inj hv).symm, z6 _ _ (z5 _ _ (z4 _ _ (z3 _ _ (z2 _ _ upd_same)))), by decide, by decide⟩
      | 1, hv => exact ⟨p2, _, _, _, _, (Option.some.inj hv).symm, z6 _ _ (z5 _ _ (z4 _ _ (z3 _ _ upd_same))), by decide, by decide⟩
      | 2, hv => exact ⟨p3, _, _, _, _, (Option.some.inj hv).symm, z6 _ _ (z5 _ _ (z4 _ _ upd_same)), by decide, by decide⟩
      | 3, hv => exact ⟨p4, _, _, _, _, (Option.some.inj hv).symm, z6 _ _ (z5 _ _ upd_same), by omega, by omega⟩
      | 4, hv => exact ⟨p5, _, _, _, _, (Option.some.inj hv).symm, z6 _ _ upd_same, by decide, by decide⟩
      | i + 5, hv => simp at hv
    refine ⟨p, rfl, ⟨_, SqT.of hp⟩, for_tup (K := K) (a := p) (xs := [V.ref p1, .ref p2, .ref p3, .ref p4, .ref p5])
      (fun i σ H' => ∃ (v1 v2 v3 v4 : Option V), σ = [some (.ref x), some (.int 2), some (.int 1), some (.int 2), some (.int (B : Int)), some (.int 1), v1, v2, v3, v4] ∧ Same H6 H') ⟨_, _, _, _, rfl, Same.refl _⟩ (fun i σ H' _ ⟨_, _, _, _, _, sH⟩ => SqT.of (sH _ _ hp)) ?_ ?_⟩
    · rintro i v σ H' hiv ⟨v1, v2, v3, v4, rfl, sH⟩
      obtain ⟨a, wd, n, lo, hi, rfl, ha, q1, q2⟩ := hel i v hiv
      refine ⟨a, _, rfl, SqT.of (sH _ _ ha), rfl, _, _, rfl, _, _, rfl, _, _, rfl, _, _, rfl, rfl, ?_⟩
      refine ⟨_, rfl, _, rfl, _, rfl, n, lo, hi, rfl, q1, q2, _, rfl, ?_⟩
      refine iteF ?_
      exact ⟨_, _, _, _, rfl, sH⟩
    · rintro σ H7 ⟨v1, v2, v3, v4, rfl, sH⟩
      have s7 := s6.trans sH
      have hx7 := s7 _ _ hx
      refine ⟨_, rfl, _, rfl, x, CS, dx, _, rfl, hx7, T.clShape, T.na_dirs, (by show 0 < 1000; decide), ?_⟩
      refine ⟨_, rfl, _, rfl, x, CS, dx, _, rfl, upd_same, T.clShape, T.na_rows, (by show 1 < 1000; decide), ?_⟩
      refine ⟨_, rfl, _, rfl, x, CS, dx, _, rfl, upd_same, T.clShape, T.na_files, (by show 2 < 1000; decide), ?_⟩
      refine ⟨_, rfl, _, rfl, x, CS, dx, _, rfl, upd_same, T.clShape, T.na_blocks, (by show 3 < 1000; decide), ?_⟩
      refine ⟨_, rfl, _, rfl, x, CS, dx, _, rfl, upd_same, T.clShape, T.na_users, (by show 4 < 1000; decide), ?_⟩
      refine ⟨_, rfl, 2, rfl, _, _, rfl, rfl, _, rfl, x, CS, dx, _, rfl, upd_same, T.clShape, T.na_first_row, (by show 5 < 1000; decide), ?_⟩
      refine ⟨_, rfl, x, CS, dx, _, _, rfl, upd_same, T.clShape, T.na_first_row, rfl, _, rfl, 1, rfl, _, _, rfl, rfl, _, rfl, x, CS, dx, _, rfl, upd_same, T.clShape, T.na_first_user, (by show 6 < 1000; decide), ?_⟩
      refine ⟨_, rfl, x, CS, dx, _, _, rfl, upd_same, T.clShape, T.na_first_user, rfl, _, rfl, 1, rfl, _, _, rfl, rfl, _, rfl, x, CS, dx, _, rfl, upd_same, T.clShape, T.na_first_file, (by show 7 < 1000; decide), ?_⟩
      refine ⟨_, rfl, x, CS, dx, _, _, rfl, upd_same, T.clShape, T.na_first_file, rfl, _, rfl, _, _, rfl, rfl, _, rfl, x, CS, dx, _, rfl, upd_same, T.clShape, T.na_first_block, (by show 8 < 1000; decide), ?_⟩
      refine ⟨_, rfl, x, CS, dx, _, _, rfl, upd_same, T.clShape, T.na_first_block, rfl, _, rfl, _, _, rfl, rfl, _, rfl, x, CS, dx, _, rfl, upd_same, T.clShape, T.na_plates, (by show 9 < 1000; decide), ?_⟩
      refine k _ ?_ upd_same
      exact (((((((((((But.of s7).trans But.upd).trans But.upd).trans But.upd).trans But.upd).trans But.upd).trans But.upd).trans But.upd).trans But.upd).trans But.upd).trans But.upd)
end
end K51
set_option maxRecDepth 100000
set_option maxHeartbeats 8000000
namespace K51
open PySem L2
section
theorem pe_opRepB {X : Cx} {s : Shared} {H : Hp} {scope : Scope} {env : Env} {fp : List Addr} {a b : Expr} {pos : Pos} {ta tb : TE} (ha : PE (X.blk s H scope env fp) a ta) (hb : PE (X.blk s H scope env fp) b tb) : PE (X.blk s H scope env fp) (.BinOp a .Mult b pos) (tOp (rRepA X.K) ta tb) :=
  pe_op op_repA ha hb
def S0 (B : Nat) : St := ⟨fun q i => if q = 3 ∧ i = 0 then (B : Int) else 0, fun _ => 0⟩
def Z0 : St := ⟨fun _ _ => 0, fun _ => 0⟩
theorem HomeAt.put {H : Hp} {hd t : Addr} {B q : Nat} {S : St} {x : Nat → Int} (h : HomeAt H hd B S) (hq : q < 6 + B) (ht : H t = some (.tup (plateV x))) : ∃ kvs, H hd = some (.dK kvs) ∧ kvs.length < sizeLine ∧ HomeAt (upd H hd (.dK (putK kvs (.inl (q : Int)) (.ref t)))) hd B (S.put q x) := by
  obtain ⟨kvs, e, l, r⟩ := h
  refine ⟨kvs, e, small1000 l, putK kvs (.inl (q : Int)) (.ref t), upd_same, ?_, fun q' hq' => ?_⟩
  · obtain ⟨t0, o1, _⟩ := r q hq
    rw [putK_same_len o1]; exact l
  · rw [valV_put]
    by_cases hqq : q' = q
    · subst hqq
      rw [if_pos rfl]
      refine ⟨t, rfl, ?_⟩
      rw [upd_ne (ne_of ht e (by intro z; cases z)), ht]
      show _ = some (HO.tup (plateV (if q' = q' then x else S.home q')))
      rw [if_pos rfl]
    · rw [if_neg (fun z => hqq (by have := Sum.inl.inj z; omega))]
      obtain ⟨t1, e1, e2⟩ := r q' hq'
      refine ⟨t1, e1, ?_⟩
      rw [upd_ne (ne_of e2 e (by intro z; cases z)), e2]
      show _ = some (HO.tup (plateV (if q' = q then x else S.home q')))
      rw [if_neg hqq]
theorem HomeAt.like {H : Hp} {hd : Addr} {B : Nat} {S S' : St} (h : HomeAt H hd B S) (e : ∀ q, q < 6 + B → ∀ i, i < 8 → S'.home q i = S.home q i) : HomeAt H hd B S' := by
  obtain ⟨kvs, e1, l, r⟩ := h
  refine ⟨kvs, e1, l, fun q hq => ?_⟩
  obtain ⟨t, a, b⟩ := r q hq
  exact ⟨t, a, by rw [plateV_congr (e q hq)]; exact b⟩
end
section
variable {P : Program} {w : World} {K : PySem.W.Frag} {mg : Str → Option Value} {base : Heap} {CS CD : Addr}
def spUserCell (CS : Addr) : Sp := fun vs H Q _ => ∃ (sh dx : Addr) (B : Nat), vs = [.ref sh, .int 0] ∧ H sh = some (.ins CS dx (shapeF B)) ∧ ∀ t H', Same H H' → H' t = some (.tup [.int 3, .int 0]) → Q (.ref t) H'
theorem sc_Shape_user_cell : FnScope ["self", "user"] ["self", "user"] (defScope s_Shape_user_cell) := ⟨rfl, rfl, rfl, by decide +kernel, rfl, by decide +kernel, by decide +kernel⟩
theorem ok_user_cell (T : Tops K mg CS CD) : CalM P w K mg base CS "user_cell" ["self", "user"] 1 (spUserCell CS) := by
  obtain ⟨f, fd, F, m⟩ := T.m_user_cell
  obtain ⟨tW, c_WIDTH⟩ := T.c_WIDTH
  refine ⟨f, fd, m, F.ok sc_Shape_user_cell (fun vs H Q E h => ?_) (fun cdv A outer s H vs Q E hr h => ?_), F.binds (ps := ["self", "user"]) fun _ _ _ _ _ _ us hl => match us, hl with | [_, _], _ => rfl⟩
  · obtain ⟨sh, dx, B, rfl, _⟩ := h
    rfl
  · obtain ⟨sh, dx, B, rfl, e, k⟩ := h
    refine ⟨_, (pss_one (ps_ret (pe_tup (pa_cons (pe_op op_add (pe_fld (pv 0) rfl) (pe_op op_fdiv (pv 1) (pe_glob (v := .int 8) (by rfl) c_WIDTH ⟨_, rfl⟩))) (pa_cons (pe_op op_mod (pe_callTy call_int1 (by rfl) T.z_int (by decide +kernel) (pa_cons (pv 1) pa_nil)) (pe_glob (v := .int 8) (by rfl) c_WIDTH ⟨_, rfl⟩)) pa_nil))))), ?_⟩
    refine ⟨_, rfl, sh, CS, dx, _, _, rfl, e, T.clShape, T.na_first_user, rfl, _, rfl, _, _, rfl, rfl, ⟨by decide, by decide⟩, _, _, rfl, rfl, _, rfl, .inl ⟨_, rfl, _, _, rfl, rfl, (by show (0 : Int) < 8; decide), (by show 2 ≤ sizeLine; decide), fun p hp => ?_⟩⟩
    exact k p _ (same_new hp) upd_same
/-! ### the home of an empty store -/
def spEmptyHome (CS : Addr) : Sp := fun vs H Q _ => ∃ (sh dx : Addr) (B : Nat), vs = [.ref sh] ∧ H sh = some (.ins CS dx (shapeF B)) ∧ B ≤ 200 ∧ ∀ (H' : Hp) (hd : Addr), Same H H' → H hd = none → HomeAt H' hd B (S0 B) → Q (.ref hd) H'
theorem sc_Shape_empty_home : FnScope ["self", "home", "user", "plate", "place"] ["self"] (defScope s_Shape_empty_home) := ⟨rfl, rfl, rfl, by decide +kernel, rfl, by decide +kernel, by decide +kernel⟩
theorem ok_empty_home (T : Tops K mg CS CD) : CalM P w K mg base CS "empty_home" ["self"] 2 (spEmptyHome CS) := by
  obtain ⟨f, fd, F, m⟩ := T.m_empty_home
  obtain ⟨tW, c_WIDTH⟩ := T.c_WIDTH
  obtain ⟨f1, fd1, M_user_cell, GM_user_cell, bM_user_cell⟩ := ok_user_cell (P := P) (w := w) (base := base) T
  refine ⟨f, fd, m, F.ok sc_Shape_empty_home (fun vs H Q E h => ?_) (fun cdv A outer s H vs Q E hr h => ?_), F.binds (ps := ["self"]) fun _ _ _ _ _ _ us hl => match us, hl with | [_], _ => rfl⟩
  · obtain ⟨sh, dx, B, rfl, _⟩ := h
    rfl
  · obtain ⟨sh, dx, B, rfl, e, hB, k⟩ := h
    have hu := hu_of hr
    refine ⟨_, (pss_cons (ps_setDc (i := 1) (own := [("plate", 3)]) (g := gName 3) (tt := tYes) (by rfl) sc_Shape_empty_home.nd rfl rfl (swap_dict rfl rfl rfl (by decide +kernel)) (pi_range1 (by rfl) T.z_range (pa_cons (pe_fld (pv 0) rfl) pa_nil)) (blkOk_by (N := ["self", "home", "user", "plate", "place"]) (sc := defScope s_Shape_empty_home) (by decide +kernel)) (fun _ _ _ _ _ => pg_name (i := 3) sc_Shape_empty_home.nd rfl (Or.inl rfl)) (fun _ _ _ _ _ => pts_nil) (fun _ _ _ _ _ => (pv 3)) (fun _ _ _ _ _ => (pe_opRepB (pe_tup (pa_cons pe_int pa_nil)) (pe_glob (v := .int 8) (by rfl) c_WIDTH ⟨_, rfl⟩)))) (pss_cons (ps_for PassesOwn.never rfl (pi_range1 (by rfl) T.z_range (pa_cons (pe_fld (pv 0) rfl) pa_nil)) (pg_name (i := 2) sc_Shape_empty_home.nd rfl (Or.inl rfl)) (pss_cons (ps_asg (pe_meth (pv 0) T.clShape M_user_cell GM_user_cell (hr.mono (by omega)) bM_user_cell .nil pass0 (pa_cons (pv 2) pa_nil)) (pg_tup (by rfl) (pgs_cons (pg_name (i := 3) sc_Shape_empty_home.nd rfl (Or.inl rfl)) (pgs_cons (pg_name (i := 4) sc_Shape_empty_home.nd rfl (Or.inl rfl)) pgs_nil)))) (pss_one (ps_dput hu (pv 1) (pv 3) (pe_op op_catA (pe_op op_catA (pe_slice sl_tupA (pe_dget hu (pv 1) (pv 3) (fun _ _ => rfl)) po_none (po_some (pv 4))) (pe_tup (pa_cons (pe_fld (pv 0) rfl) pa_nil))) (pe_slice sl_tupA (pe_dget hu (pv 1) (pv 3) (fun _ _ => rfl)) (po_some (pe_op op_add (pv 4) pe_int)) po_none)) rfl)))) (pss_one (ps_ret (pv 1))))), ?_⟩
    refine ⟨_, rfl, sh, CS, dx, _, _, rfl, e, T.clShape, T.na_plates, rfl, 6 + (B : Int), rfl, by omega, by omega, fun D0 hD0 => dict_range (lo := 0) (n := (6 + (B : Int)).toNat)
      (fun i H' => ∃ kvs, Same H H' ∧ H' D0 = some (.dK kvs) ∧ kvs.length = i ∧ (∀ q : Nat, q < i → ∃ t, valV kvs (.inl (q : Int)) = some (.ref t) ∧ H' t = some (.tup (plateV fun _ => 0))) ∧ ∀ q : Nat, i ≤ q → valV kvs (.inl (q : Int)) = none)
      ⟨[], same_new hD0, upd_same, rfl, fun q hq => absurd hq (Nat.not_lt_zero _), fun _ _ => rfl⟩ ?_ ?_⟩
    · rintro i H' hi ⟨kvs, sH, hL, hl, h1, h2⟩
      have e0 : (0 : Int) + (i : Int) = (i : Int) := by omega
      refine ⟨rfl, yes_mk ?_⟩
      refine ⟨_, rfl, (by show 1 ≤ sizeLine; decide), fun l hl' => tC_mk (rRep_mk (n := 8) (xs := [V.int 0]) upd_same (by intro z; cases z) (by decide) (by decide) fun r H2 s2 hr2 => ?_)⟩
      have s12 := (same_new (o := HO.tup [V.int 0]) hl').trans s2
      have hr2 : H2 r = some (.tup (plateV fun _ => 0)) := hr2
      refine ⟨kvs, Sum.inl ((0 : Int) + (i : Int)), rfl, s12 _ _ hL, small1000 (by omega), ?_⟩
      rw [e0]
      have hnew := h2 i (Nat.le_refl _)
      have nD : ∀ (t : Addr) (xs : List V), H2 t = some (.tup xs) → t ≠ D0 := fun t xs ht => ne_of ht (s12 _ _ hL) (by intro z; cases z)
      refine ⟨putK kvs (.inl (i : Int)) (.ref r), fun a o ha => ?_, upd_same, ?_, fun q hq => ?_, fun q hq => ?_⟩
      · rw [upd_ne (ne_of_none ha hD0)]
        exact s12 _ _ (sH _ _ ha)
      · rw [putK_new _ hnew, List.length_append, hl]; rfl
      · rw [valV_put]
        by_cases h : q = i
        · subst h
          rw [if_pos rfl]
          exact ⟨r, rfl, by rw [upd_ne (nD _ _ hr2)]; exact hr2⟩
        · rw [if_neg (fun z => h (by have := Sum.inl.inj z; omega))]
          obtain ⟨t, a, b⟩ := h1 q (by omega)
          have b' := s12 _ _ b
          exact ⟨t, a, by rw [upd_ne (nD _ _ b')]; exact b'⟩
      · rw [valV_put, if_neg (fun z => by have := Sum.inl.inj z; omega)]
        exact h2 q (by omega)
    · rintro H1 ⟨kvs, s1, hL, hl, h1, h2⟩
      have hh1 : HomeAt H1 D0 B Z0 := ⟨kvs, hL, by omega, fun q hq => h1 q (by omega)⟩
      refine ⟨_, rfl, sh, CS, dx, _, _, rfl, s1 _ _ e, T.clShape, T.na_users, rfl, 1, rfl, by decide, by decide, for_range (lo := 0) (n := (1 : Int).toNat)
        (fun i σ H' => ∃ (v1 v2 v3 : Option V), σ = [some (.ref sh), some (.ref D0), v1, v2, v3] ∧ Same H H' ∧ HomeAt H' D0 B (if i = 0 then Z0 else S0 B)) ⟨_, _, _, rfl, s1, hh1⟩ ?_ ?_⟩
      · rintro i σ H' hi ⟨v1, v2, v3, rfl, sH, hh⟩
        have hi0 : i = 0 := by
          have : i < 1 := hi
          omega
        subst hi0
        rw [if_pos rfl] at hh
        refine ⟨_, rfl, sh, dx, _, rfl, sH _ _ e, rfl, _, rfl, sh, dx, B, rfl, sH _ _ e, fun t H2 s2 ht => ?_⟩
        refine ⟨t, _, rfl, SqT.of ht, rfl, _, _, rfl, _, _, rfl, rfl, ?_⟩
        have hh2 := hh.same s2
        obtain ⟨tp, g, htp⟩ := hh2.get (show 3 < 6 + B by omega)
        refine ⟨_, rfl, _, rfl, D0, _, rfl, g, _, rfl, ((0 : Nat) : Int), rfl, rSl_mk htp fun a H3 s3 ha => ?_⟩
        rw [cut_take'] at ha
        have sH3 := (sH.trans s2).trans s3
        refine ⟨_, rfl, sh, CS, dx, _, _, rfl, sH3 _ _ e, T.clShape, T.na_blocks, rfl, (by show 1 ≤ sizeLine; decide), fun b hb => ?_⟩
        have s4 := same_new (o := HO.tup [V.int (B : Int)]) hb
        refine rCat_mk (s4 _ _ ha) upd_same ?_ fun c H5 s5 hc => ?_
        · rw [List.length_take]; show min 0 _ + 1 ≤ 10000; omega
        have s25 := (s3.trans s4).trans s5
        obtain ⟨tp2, g2, htp2⟩ := (hh2.same s25).get (show 3 < 6 + B by omega)
        refine ⟨_, rfl, _, rfl, D0, _, rfl, g2, _, rfl, _, _, rfl, rfl, ((1 : Nat) : Int), rfl, noPart (rSl_mk htp2 fun d H6 s6 hd => ?_)⟩
        rw [cut_drop] at hd
        refine rCat_mk (s6 _ _ hc) hd ?_ fun u H7 s7 hu7 => ?_
        · rw [List.length_append, List.length_take, List.length_drop, plateV_len]; show 0 + 1 + (8 - 1) ≤ 10000; decide
        rw [plate_cell (by decide)] at hu7
        have s27 := (s25.trans s6).trans s7
        obtain ⟨kv7, e7, l7, h7⟩ := (hh2.same s27).put (show 3 < 6 + B by omega) hu7
        refine ⟨_, rfl, _, rfl, D0, _, rfl, DPut.k (k := Sum.inl (3 : Int)) e7 l7, ?_⟩
        refine ⟨_, _, _, rfl, fun z o ho => ?_, ?_⟩
        · rw [upd_ne (ne_of_none ho hD0)]
          exact s27 _ _ (s2 _ _ (sH _ _ ho))
        · refine h7.like fun q _ i _ => ?_
          show (if q = 3 ∧ i = 0 then (B : Int) else 0) = (if q = 3 then (fun i => if i = 0 then (B : Int) else 0) else fun _ => 0) i
          by_cases h : q = 3
          · rw [if_pos h]
            by_cases h' : i = 0
            · rw [if_pos ⟨h, h'⟩]; exact (if_pos h').symm
            · rw [if_neg (fun z => h' z.2)]; exact (if_neg h').symm
          · rw [if_neg h, if_neg (fun z => h z.1)]
      · rintro σ H2 ⟨v1, v2, v3, rfl, sH, hh⟩
        refine ⟨_, rfl, ?_⟩
        exact k H2 D0 sH hD0 hh
/-! ### a draft is made -/
def spDraftInit (CS CD : Addr) : Sp := fun vs H Q _ => ∃ (x sh hm cl pd : Addr) (B : Nat) (S : St), vs = [.ref x, .ref sh, .ref hm, .ref cl, .ref pd] ∧ ShAt CS H sh B ∧ HomeAt H hm B S ∧ H cl = some (.lst ((List.range B).map fun b => V.int (S.counts b))) ∧ H pd = some (.dK []) ∧ 131 ≤ B ∧ B ≤ 200 ∧
  (∃ dx, H x = some (.ins CD dx [])) ∧ x ≠ sh ∧ ∀ (W : DW) (H' : Hp), W.p = x → W.sh = sh → But x H H' → Dr CS CD H' W B S → (∀ a o, H a = some o → a ≠ W.hd ∧ a ≠ W.cl ∧ a ≠ W.cd) → Q .non H'
theorem sc_Draft_init : FnScope ["self", "shape", "home", "counts", "pins"] ["self", "shape", "home", "counts", "pins"] (defScope s_Draft_init) := ⟨rfl, rfl, rfl, by decide +kernel, rfl, by decide +kernel, by decide +kernel⟩
theorem ok_draft_init (T : Tops K mg CS CD) : CalI P w K mg base CD ["self", "shape", "home", "counts", "pins"] 1 (spDraftInit CS CD) := by
  obtain ⟨f, fd, F, m⟩ := T.initDraft
  refine ⟨f, fd, m, F.ok sc_Draft_init (fun vs H Q E h => ?_) (fun cdv A outer s H vs Q E hr h => ?_), F.binds (ps := ["self", "shape", "home", "counts", "pins"]) fun _ _ _ _ _ _ us hl => match us, hl with | [_, _, _, _, _], _ => rfl⟩
  · obtain ⟨x, sh, hm, cl, pd, B, S, rfl, _⟩ := h
    rfl
  · obtain ⟨x, sh, hm, cl, pd, B, S, rfl, hs, hh, hc, hpd, lo, hi, ⟨dx, hx⟩, nsh, k⟩ := h
    refine ⟨_, (pss_cons (ps_fld (pv 0) (pv 1) rfl) (pss_cons (ps_fld (pv 0) (pe_callTy call_dictD (by rfl) T.z_dict (by decide +kernel) (pa_cons (pv 2) pa_nil)) rfl) (pss_cons (ps_fld (pv 0) (pe_callTy call_list_of (by rfl) T.z_list (by decide +kernel) (pa_cons (pv 3) pa_nil)) rfl) (pss_cons (ps_fld (pv 0) (pv 4) rfl) (pss_one (ps_fld (pv 0) pe_dnewK rfl)))))), ?_⟩
    refine ⟨_, rfl, _, rfl, x, CD, dx, _, rfl, hx, T.clDraft, T.na_shape, (by show 0 < 1000; decide), ?_⟩
    have b1 : But x H (upd H x (.ins CD dx [("shape", .ref sh)])) := But.upd
    have x1 : (upd H x (.ins CD dx [("shape", .ref sh)])) x = some (.ins CD dx [("shape", .ref sh)]) := upd_same
    generalize hH1 : upd H x (.ins CD dx [("shape", .ref sh)]) = H1 at b1 x1
    have nk : ∀ {Y : Hp} {a dx' C : Addr} {fs : List (Str × V)} {o : HO}, Y x = some (.ins C dx' fs) → Y a = some o → (∀ q w u, o ≠ .ins q w u) → a ≠ x := fun hx' ha hn => ne_of ha hx' (hn _ _ _)
    obtain ⟨kvs, hk, hkl, hkr⟩ := hh
    have nhm : hm ≠ x := nk hx hk (by intro _ _ _ z; cases z)
    have ncl : cl ≠ x := nk hx hc (by intro _ _ _ z; cases z)
    have npd : pd ≠ x := nk hx hpd (by intro _ _ _ z; cases z)
    have hH1' : upd H x (HO.ins CD dx (putF "shape" (V.ref sh) [])) = H1 := hH1
    rw [hH1']
    refine ⟨_, rfl, hm, kvs, rfl, .inl (b1 _ _ hk nhm), fun q nq => ?_⟩
    have s2 := same_new (o := HO.dK kvs) nq
    have hq2 : (upd H1 q (.dK kvs)) q = some (.dK kvs) := upd_same
    have x2 := s2 _ _ x1
    have nqx : q ≠ x := (ne_of_none x1 nq).symm
    refine ⟨_, rfl, x, CD, dx, _, rfl, x2, T.clDraft, T.na_home, (by show 1 < 1000; decide), ?_⟩
    have b3 := (But.of (x := x) s2).trans (But.upd (o := HO.ins CD dx [("shape", .ref sh), ("home", .ref q)]))
    have x3 : (upd (upd H1 q (.dK kvs)) x (.ins CD dx [("shape", .ref sh), ("home", .ref q)])) x = some (.ins CD dx [("shape", .ref sh), ("home", .ref q)]) := upd_same
    have q3 : (upd (upd H1 q (.dK kvs)) x (.ins CD dx [("shape", .ref sh), ("home", .ref q)])) q = some (.dK kvs) := by rw [upd_ne nqx]; exact hq2
    have hH3 : upd (upd H1 q (.dK kvs)) x (HO.ins CD dx (putF "home" (V.ref q) [("shape", .ref sh)])) = upd (upd H1 q (.dK kvs)) x (.ins CD dx [("shape", .ref sh), ("home", .ref q)]) := rfl
    generalize upd (upd H1 q (.dK kvs)) x (.ins CD dx [("shape", .ref sh), ("home", .ref q)]) = H3 at b3 x3 q3 hH3
    rw [hH3]
    have b13 := b1.trans b3
    refine ⟨_, rfl, cl, _, rfl, .inl (SqL.of (b13 _ _ hc ncl)), fun r nr => ?_⟩
    have s4 := same_new (o := HO.lst ((List.range B).map fun b => V.int (S.counts b))) nr
    have hr4 : (upd H3 r (.lst ((List.range B).map fun b => V.int (S.counts b)))) r = some (.lst ((List.range B).map fun b => V.int (S.counts b))) := upd_same
    have x4 := s4 _ _ x3
    have nrx : r ≠ x := (ne_of_none x3 nr).symm
    refine ⟨_, rfl, x, CD, dx, _, rfl, x4, T.clDraft, T.na_counts, (by show 2 < 1000; decide), ?_⟩
    have b5 := (But.of (x := x) s4).trans (But.upd (o := HO.ins CD dx [("shape", .ref sh), ("home", .ref q), ("counts", .ref r)]))
    have x5 : (upd (upd H3 r (.lst ((List.range B).map fun b => V.int (S.counts b)))) x (.ins CD dx [("shape", .ref sh), ("home", .ref q), ("counts", .ref r)])) x = some (.ins CD dx [("shape", .ref sh), ("home", .ref q), ("counts", .ref r)]) := upd_same
    have r5 : (upd (upd H3 r (.lst ((List.range B).map fun b => V.int (S.counts b)))) x (.ins CD dx [("shape", .ref sh), ("home", .ref q), ("counts", .ref r)])) r = some (.lst ((List.range B).map fun b => V.int (S.counts b))) := by rw [upd_ne nrx]; exact hr4
    have hH5 : upd (upd H3 r (.lst ((List.range B).map fun b => V.int (S.counts b)))) x (HO.ins CD dx (putF "counts" (V.ref r) [("shape", .ref sh), ("home", .ref q)])) = upd (upd H3 r (.lst ((List.range B).map fun b => V.int (S.counts b)))) x (.ins CD dx [("shape", .ref sh), ("home", .ref q), ("counts", .ref r)]) := rfl
    generalize upd (upd H3 r (.lst ((List.range B).map fun b => V.int (S.counts b)))) x (.ins CD dx [("shape", .ref sh), ("home", .ref q), ("counts", .ref r)]) = H5 at b5 x5 r5 hH5
    rw [hH5]
    have q5 := b5 _ _ q3 nqx
    refine ⟨_, rfl, _, rfl, x, CD, dx, _, rfl, x5, T.clDraft, T.na_pins, (by show 3 < 1000; decide), ?_⟩
    have b6 : But x H5 (upd H5 x (.ins CD dx [("shape", .ref sh), ("home", .ref q), ("counts", .ref r), ("pins", .ref pd)])) := But.upd
    have x6 : (upd H5 x (.ins CD dx [("shape", .ref sh), ("home", .ref q), ("counts", .ref r), ("pins", .ref pd)])) x = some (.ins CD dx [("shape", .ref sh), ("home", .ref q), ("counts", .ref r), ("pins", .ref pd)]) := upd_same
    have hH6 : upd H5 x (HO.ins CD dx (putF "pins" (V.ref pd) [("shape", .ref sh), ("home", .ref q), ("counts", .ref r)])) = upd H5 x (.ins CD dx [("shape", .ref sh), ("home", .ref q), ("counts", .ref r), ("pins", .ref pd)]) := rfl
    generalize upd H5 x (.ins CD dx [("shape", .ref sh), ("home", .ref q), ("counts", .ref r), ("pins", .ref pd)]) = H6 at b6 x6 hH6
    rw [hH6]
    refine fun c nc => ?_
    have s7 := same_new (o := HO.dK []) nc
    have c7 : (upd H6 c (.dK [])) c = some (.dK []) := upd_same
    have ncx : c ≠ x := (ne_of_none x6 nc).symm
    refine ⟨_, rfl, x, CD, dx, _, rfl, s7 _ _ x6, T.clDraft, T.na_changes, (by show 4 < 1000; decide), ?_⟩
    have b8 := (But.of (x := x) s7).trans (But.upd (o := HO.ins CD dx [("shape", .ref sh), ("home", .ref q), ("counts", .ref r), ("pins", .ref pd), ("changes", .ref c)]))
    have b16 := (b13.trans b5).trans b6
    have ball := b16.trans b8
    have q6 := b6 _ _ q5 nqx
    have r6 := b6 _ _ r5 nrx
    have p6 := b16 _ _ hpd npd
    have p1 := b1 _ _ hpd npd
    refine k ⟨x, sh, q, r, pd, c⟩ _ rfl rfl ball ⟨⟨dx, _, upd_same, rfl, rfl, rfl, rfl, rfl, rfl, rfl, rfl, rfl⟩, ?_, ?_, b8 _ _ r6 nrx, b8 _ _ p6 npd, ⟨[], ?_, List.nodup_nil, fun k hk => by cases hk⟩, ne_of_none q6 nc, (ne_of_none p1 nq).symm, ne_of_none p6 nc, lo, hi⟩ ?_
    · obtain ⟨dx2, fs2, e2, rr⟩ := hs.ob
      exact ⟨dx2, fs2, ball _ _ e2 nsh.symm, rr⟩
    · refine ⟨kvs, b8 _ _ q6 nqx, hkl, fun z hz => ?_⟩
      obtain ⟨t, a1, a2⟩ := hkr z hz
      exact ⟨t, a1, ball _ _ a2 (nk hx a2 (by intro _ _ _ z; cases z))⟩
    · rw [upd_ne ncx]; exact c7
    · intro a o ha
      have h1 : H1 a ≠ none := by
        by_cases h : a = x
        · rw [h, x1]; intro z; cases z
        · rw [b1 _ _ ha h]; intro z; cases z
      have h3 : H3 a ≠ none := by
        by_cases h : a = x
        · rw [h, x3]; intro z; cases z
        · rw [b13 _ _ ha h]; intro z; cases z
      have h6 : H6 a ≠ none := by
        by_cases h : a = x
        · rw [h, x6]; intro z; cases z
        · rw [b16 _ _ ha h]; intro z; cases z
      exact ⟨fun z => h1 (by rw [z]; exact nq), fun z => h3 (by rw [z]; exact nr), fun z => h6 (by rw [z]; exact nc)⟩
end
end K51
set_option maxRecDepth 100000
set_option maxHeartbeats 8000000
namespace K51
open PySem L2
section
variable {P : Program} {w : World} {K : PySem.W.Frag} {mg : Str → Option Value} {base : Heap} {CS CD : Addr}
/-- the script: a frozen list, or one of the written part -/
def Sc (K : PySem.W.Frag) (H : Hp) (l : Addr) (xs : List Int) : Prop := (∃ o, H l = some (.frz o (.lst (xs.map V.int)))) ∨ ∀ X : Hp, SqL K X l (xs.map V.int)
theorem Sc.sq {K : PySem.W.Frag} {H : Hp} {l : Addr} {xs : List Int} (h : Sc K H l xs) : SqL K H l (xs.map V.int) := by
  rcases h with ⟨o, h⟩ | h
  · exact .inl (.inr ⟨o, h⟩)
  · exact h H
theorem Sc.same {K : PySem.W.Frag} {H H' : Hp} {l : Addr} {xs : List Int} (h : Sc K H l xs) (s : Same H H') : Sc K H' l xs := by
  rcases h with ⟨o, h⟩ | h
  · exact .inl ⟨o, s _ _ h⟩
  · exact .inr h
theorem Sc.but {K : PySem.W.Frag} {H H' : Hp} {l p : Addr} {xs : List Int} {ys : List V} (h : Sc K H l xs) (b : But p H H') (hp : H p = some (.lst ys)) : Sc K H' l xs := by
  rcases h with ⟨o, h⟩ | h
  · exact .inl ⟨o, b _ _ h (ne_of h hp (by intro z; cases z))⟩
  · exact .inr h
theorem Sc.keep {K : PySem.W.Frag} {H H' : Hp} {l : Addr} {xs : List Int} {W : DW} {B : Nat} {S : St} (h : Sc K H l xs) (k : Keep H H' W) (D : Dr CS CD H W B S) : Sc K H' l xs := by
  rcases h with ⟨o, h⟩ | h
  · obtain ⟨kvs, e1, _⟩ := D.home
    obtain ⟨cvs, e2, _⟩ := D.ch
    exact .inl ⟨o, k _ _ h (ne_of h e1 (by intro z; cases z)) (ne_of h D.counts (by intro z; cases z)) (ne_of h e2 (by intro z; cases z))⟩
  · exact .inr h
theorem eqv_nil_li (xs : List Int) : PyData.eqv (.list (xs.map PyData.int)) (.list []) = xs.isEmpty := by
  cases xs <;> rfl
theorem eqv_nil_ti (xs : List Int) : PyData.eqv (.tuple (xs.map PyData.int)) (.tuple []) = xs.isEmpty := by
  cases xs <;> rfl
/-! ### draws -/
def spLawNumber (K : PySem.W.Frag) : Sp := fun vs H Q _ => ∃ (l : Addr) (xs : List Int) (i : Nat), vs = [.ref l, .int (i : Int)] ∧ Sc K H l xs ∧ ∀ (H' : Hp) (z : Int), Same H H' → Q (.int z) H'
theorem sc_law_number : FnScope ["_law_script", "_law_index", "_law_cell", "_law_blend"] ["_law_script", "_law_index"] (defScope s_law_number) := ⟨rfl, rfl, rfl, by decide +kernel, rfl, by decide +kernel, by decide +kernel⟩
theorem ok_law_number (T : Tops K mg CS CD) : Cal P w K mg base "_law_number" ["_law_script", "_law_index"] 1 (spLawNumber K) := by
  obtain ⟨f, fd, F, m⟩ := T.f_law_number
  refine ⟨f, fd, F.ok sc_law_number (fun vs H Q E h => ?_) (fun cdv A outer s H vs Q E hr h => ?_), m, F.kp, F.binds (ps := ["_law_script", "_law_index"]) fun _ _ _ _ _ _ us hl => match us, hl with | [_, _], _ => rfl⟩
  · obtain ⟨l, xs, i, rfl, _⟩ := h
    rfl
  · obtain ⟨l, xs, i, rfl, hl, k⟩ := h
    have big : ∀ {a : Int}, CMul a 48271 ∧ CMul a 69621 ∧ CMul a 16807 := fun {a} => ⟨.inr ⟨by decide, by decide⟩, .inr ⟨by decide, by decide⟩, .inr ⟨by decide, by decide⟩⟩
    refine ⟨_, (pss_cons (ps_if (pt_cmpR (op_eqD hr.units) (pv 0) (pe_lst pa_nil) (nomark _)) (pss_one (ps_ret (pe_callTy call_int1 (by rfl) T.z_int (by decide +kernel) (pa_cons (pe_op op_mod (pe_op op_add (pe_op op_mul (pv 1) pe_int) pe_int) pe_int) pa_nil)))) pss_nil) (pss_cons (ps_set (i := 2) sc_law_number.nd rfl (Or.inl rfl) (pe_ix ix_list (pv 0) (pe_op op_mod (pv 1) (pe_callB call_len_seq (by rfl) T.z_len (by decide +kernel) (pa_cons (pv 0) pa_nil))) (fun _ _ => rfl))) (C8.pss_cut (ps_if (pt_cmpR op_ge (pe_callB call_abs (by rfl) T.z_abs (by decide +kernel) (pa_cons (pv 2) pa_nil)) (pe_op op_pow pe_int pe_int) (nomark _)) (pss_one (ps_set (i := 2) sc_law_number.nd rfl (Or.inl rfl) (pe_op op_mod (pv 2) (pe_op op_pow pe_int pe_int)))) pss_nil) (pss_cons (ps_set (i := 3) sc_law_number.nd rfl (Or.inl rfl) (pe_op op_mod (pe_op op_add (pe_op op_mul (pe_op op_add (pv 2) (pe_op op_mul pe_int (pv 1))) pe_int) (pe_op op_mul pe_int (pe_callB call_len_seq (by rfl) T.z_len (by decide +kernel) (pa_cons (pv 0) pa_nil)))) pe_int)) (pss_one (ps_ret (pe_callTy call_int1 (by rfl) T.z_int (by decide +kernel) (pa_cons (pe_op op_mod (pe_op op_add (pe_op op_mul (pe_op op_mod (pe_op op_mul (pv 3) pe_int) pe_int) pe_int) (pv 1)) pe_int) pa_nil)))))))), ?_⟩
    refine ⟨_, rfl, Nat.zero_le _, fun p hp => ?_⟩
    have s1 := same_new (o := HO.lst []) hp
    refine ⟨.list (xs.map PyData.int), .list [], .lst ((hl.same s1).sq) (dpAll_ints _), .lst (SqL.of upd_same) .nil, shaped_li _, rfl, _, rfl, ?_⟩
    rw [eqv_nil_li]
    cases xs with
    | nil =>
      refine iteT ?_
      refine ⟨_, rfl, _, _, rfl, rfl, .inr ⟨by decide, by decide⟩, _, _, rfl, rfl, _, _, rfl, rfl, (by show (0 : Int) < 2147483647; decide), .inl ⟨_, rfl, ?_⟩⟩
      exact k _ _ s1
    | cons x0 xr =>
      refine iteF ?_
      generalize hxs : x0 :: xr = xs at hl s1
      have hpos : 0 < xs.length := by rw [← hxs]; exact Nat.succ_pos _
      have hln : (xs.map V.int).length = xs.length := List.length_map _
      have hmod : (i : Int) % (((xs.map V.int).length : Nat) : Int) = ((i % xs.length : Nat) : Int) := by rw [hln]; exact (Int.natCast_emod i xs.length).symm
      have hlt : i % xs.length < xs.length := Nat.mod_lt _ hpos
      have hat : atI (xs.map V.int) ((i : Int) % (((xs.map V.int).length : Nat) : Int)) = some (.int (xs[i % xs.length])) := by
        rw [hmod]
        refine atI_nat ?_
        rw [List.getElem?_map, List.getElem?_eq_getElem hlt]; rfl
      refine ⟨_, rfl, _, rfl, _, rfl, l, _, rfl, .inl ((hl.same s1).sq), _, _, rfl, rfl, (by show (0 : Int) < (((xs.map V.int).length : Nat) : Int); omega), l, _, _, _, rfl, rfl, (hl.same s1).sq, hat, ?_⟩
      generalize xs[i % xs.length] = c0
      generalize hH1 : upd H p (HO.lst []) = H1 at s1
      refine ⟨(fun σ H' => ∃ c : Int, σ = [some (.ref l), some (.int (i : Int)), some (.int c), none] ∧ H1 = H'), ?_, ?_⟩
      · refine ⟨_, rfl, _, rfl, _, _, rfl, rfl, ⟨by decide, by decide, by decide⟩, _, _, rfl, rfl, _, rfl, ?_⟩
        refine ite2 (fun _ => ?_) (fun _ => ?_)
        · refine ⟨_, rfl, _, _, rfl, rfl, ⟨by decide, by decide, by decide⟩, _, _, rfl, rfl, (by show (0 : Int) < 10 ^ (18 : Int).toNat; decide), ?_⟩
          exact ⟨_, rfl, rfl⟩
        · exact ⟨_, rfl, rfl⟩
      rintro _ _ ⟨c, rfl, rfl⟩
      refine ⟨_, rfl, _, rfl, _, _, rfl, rfl, .inl ⟨by decide, by decide⟩, _, _, rfl, rfl, _, _, rfl, rfl, .inr ⟨by decide, by decide⟩, _, rfl, l, _, rfl, .inl ((hl.same s1).sq), _, _, rfl, rfl, .inl ⟨by decide, by decide⟩, _, _, rfl, rfl, _, _, rfl, rfl, (by show (0 : Int) < 2147483647; decide), ?_⟩
      refine ⟨_, rfl, _, _, rfl, rfl, .inr ⟨by decide, by decide⟩, _, _, rfl, rfl, (by show (0 : Int) < 2147483629; decide), _, _, rfl, rfl, .inr ⟨by decide, by decide⟩, _, rfl, _, _, rfl, rfl, _, _, rfl, rfl, (by show (0 : Int) < 2147483587; decide), .inl ⟨_, rfl, ?_⟩⟩
      exact k _ _ s1
def spLawTake (K : PySem.W.Frag) : Sp := fun vs H Q _ => ∃ (dr l : Addr) (xs : List Int) (i m : Nat), vs = [.ref dr, .int (m : Int)] ∧ H dr = some (.lst [.ref l, .int (i : Int)]) ∧ Sc K H l xs ∧ 0 < m ∧
  ∀ (H' : Hp) (r : Nat), But dr H H' → H' dr = some (.lst [.ref l, .int ((i + 1 : Nat) : Int)]) → r < m → Q (.int (r : Int)) H'
theorem sc_law_take : FnScope ["_law_draw", "_law_many"] ["_law_draw", "_law_many"] (defScope s_law_take) := ⟨rfl, rfl, rfl, by decide +kernel, rfl, by decide +kernel, by decide +kernel⟩
theorem ok_law_take (T : Tops K mg CS CD) : Cal P w K mg base "_law_take" ["_law_draw", "_law_many"] 2 (spLawTake K) := by
  obtain ⟨f, fd, F, m⟩ := T.f_law_take
  obtain ⟨f1, fd1, G_law_number, m_law_number, k_law_number, b_law_number⟩ := ok_law_number (P := P) (w := w) (base := base) T
  refine ⟨f, fd, F.ok sc_law_take (fun vs H Q E h => ?_) (fun cdv A outer s H vs Q E hr h => ?_), m, F.kp, F.binds (ps := ["_law_draw", "_law_many"]) fun _ _ _ _ _ _ us hl => match us, hl with | [_, _], _ => rfl⟩
  · obtain ⟨dr, l, xs, i, m, rfl, _⟩ := h
    rfl
  · obtain ⟨dr, l, xs, i, m, rfl, hd, hl, hm, k⟩ := h
    refine ⟨_, (pss_cons (ps_augS (pv 0) pe_int get_list pe_int ip_add set_list) (pss_one (ps_ret (pe_op op_mod (pe_callTy call_int1 (by rfl) T.z_int (by decide +kernel) (pa_cons (pe_call G_law_number (hr.mono (by omega)) (by rfl) m_law_number k_law_number b_law_number .nil pass0 (pa_cons (pe_ix ix_list (pv 0) pe_int (fun _ _ => rfl)) (pa_cons (pe_callTy call_int1 (by rfl) T.z_int (by decide +kernel) (pa_cons (pe_ix ix_list (pv 0) pe_int (fun _ _ => rfl)) pa_nil)) pa_nil))) pa_nil)) (pv 1))))), ?_⟩
    refine ⟨_, rfl, dr, _, 1, _, rfl, rfl, SqL.of hd, rfl, _, _, rfl, rfl, dr, _, _, 1, rfl, rfl, hd, rfl, ?_⟩
    have b1 : But dr H (upd H dr (.lst [.ref l, .int ((i + 1 : Nat) : Int)])) := But.upd
    have h1 : (upd H dr (.lst [.ref l, .int ((i + 1 : Nat) : Int)])) dr = some (.lst [.ref l, .int ((i + 1 : Nat) : Int)]) := upd_same
    have hset : (upd H dr (.lst ([V.ref l, V.int (i : Int)].set 1 (.int ((i : Int) + 1))))) = upd H dr (.lst [.ref l, .int ((i + 1 : Nat) : Int)]) := rfl
    generalize upd H dr (.lst [.ref l, .int ((i + 1 : Nat) : Int)]) = H1 at b1 h1 hset
    rw [hset]
    refine ⟨_, rfl, dr, _, _, V.ref l, rfl, rfl, SqL.of h1, rfl, _, rfl, dr, _, _, V.int ((i + 1 : Nat) : Int), rfl, rfl, SqL.of h1, rfl, .inl ⟨_, rfl, ?_⟩⟩
    refine ⟨l, xs, i + 1, rfl, hl.but b1 hd, fun H2 z s2 => .inl ⟨_, rfl, ?_⟩⟩
    refine ⟨_, rfl, _, _, rfl, rfl, (by show (0 : Int) < (m : Int); omega), ?_⟩
    have h0 : 0 ≤ z % (m : Int) := Int.emod_nonneg _ (by omega)
    have h1' : z % (m : Int) < (m : Int) := Int.emod_lt_of_pos _ (by omega)
    have := k H2 (z % (m : Int)).toNat (b1.trans (But.of s2)) (s2 _ _ h1) (by omega)
    rw [show (((z % (m : Int)).toNat : Nat) : Int) = z % (m : Int) by omega] at this
    exact this
def spLawPick (K : PySem.W.Frag) : Sp := fun vs H Q _ => ∃ (dr l it : Addr) (xs : List Int) (i : Nat) (ys : List V), vs = [.ref dr, .ref it] ∧ H dr = some (.lst [.ref l, .int (i : Int)]) ∧ Sc K H l xs ∧ H it = some (.lst ys) ∧ it ≠ dr ∧ 0 < ys.length ∧
  ∀ (H' : Hp) (j : Nat) (y : V), But dr H H' → H' dr = some (.lst [.ref l, .int ((i + 1 : Nat) : Int)]) → ys[j]? = some y → Q y H'
theorem sc_law_pick : FnScope ["_law_draw", "_law_items"] ["_law_draw", "_law_items"] (defScope s_law_pick) := ⟨rfl, rfl, rfl, by decide +kernel, rfl, by decide +kernel, by decide +kernel⟩
theorem ok_law_pick (T : Tops K mg CS CD) : Cal P w K mg base "_law_pick" ["_law_draw", "_law_items"] 3 (spLawPick K) := by
  obtain ⟨f, fd, F, m⟩ := T.f_law_pick
  obtain ⟨f1, fd1, G_law_take, m_law_take, k_law_take, b_law_take⟩ := ok_law_take (P := P) (w := w) (base := base) T
  refine ⟨f, fd, F.ok sc_law_pick (fun vs H Q E h => ?_) (fun cdv A outer s H vs Q E hr h => ?_), m, F.kp, F.binds (ps := ["_law_draw", "_law_items"]) fun _ _ _ _ _ _ us hl => match us, hl with | [_, _], _ => rfl⟩
  · obtain ⟨dr, l, it, xs, i, ys, rfl, _⟩ := h
    rfl
  · obtain ⟨dr, l, it, xs, i, ys, rfl, hd, hl, hit, hn2, hpos, k⟩ := h
    refine ⟨_, (pss_one (ps_ret (pe_ix ix_list (pv 1) (pe_call G_law_take (hr.mono (by omega)) (by rfl) m_law_take k_law_take b_law_take .nil pass0 (pa_cons (pv 0) (pa_cons (pe_callB call_len_seq (by rfl) T.z_len (by decide +kernel) (pa_cons (pv 1) pa_nil)) pa_nil))) (fun _ _ => rfl)))), ?_⟩
    refine ⟨_, rfl, _, rfl, _, rfl, it, _, rfl, .inl (SqL.of hit), dr, l, xs, i, ys.length, rfl, hd, hl, hpos, fun H1 r b1 hd1 hr1 => ?_⟩
    refine ⟨it, _, _, ys[r], rfl, rfl, SqL.of (b1 _ _ hit hn2), atI_nat (List.getElem?_eq_getElem hr1), ?_⟩
    exact k H1 r _ b1 hd1 (List.getElem?_eq_getElem hr1)
theorem pick8 {y : V} {j : Nat} (h : [V.int 0, .int 1, .int 2, .int 7, .int 8, .int 9, .int 20, .int 40][j]? = some y) : ∃ n : Nat, y = .int (n : Int) ∧ n ≤ 40 := by
  match j, h with
  | 0, h => exact ⟨0, (Option.some.inj h).symm, by decide⟩
  | 1, h => exact ⟨1, (Option.some.inj h).symm, by decide⟩
  | 2, h => exact ⟨2, (Option.some.inj h).symm, by decide⟩
  | 3, h => exact ⟨7, (Option.some.inj h).symm, by decide⟩
  | 4, h => exact ⟨8, (Option.some.inj h).symm, by decide⟩
  | 5, h => exact ⟨9, (Option.some.inj h).symm, by decide⟩
  | 6, h => exact ⟨20, (Option.some.inj h).symm, by decide⟩
  | 7, h => exact ⟨40, (Option.some.inj h).symm, by decide⟩
  | j + 8, h => simp at h
theorem pick_int {ns : List Int} {y : V} {j : Nat} (h : (ns.map V.int)[j]? = some y) : ∃ n ∈ ns, y = .int n := by
  rw [List.getElem?_map] at h
  cases e : ns[j]? with
  | none => rw [e] at h; cases h
  | some n => rw [e] at h; exact ⟨n, List.mem_of_getElem? e, (Option.some.inj h).symm⟩
def spLawSome (K : PySem.W.Frag) : Sp := fun vs H Q _ => ∃ (dr l : Addr) (xs : List Int) (i : Nat), vs = [.ref dr, .int 40] ∧ H dr = some (.lst [.ref l, .int (i : Int)]) ∧ Sc K H l xs ∧
  ∀ (H' : Hp) (t : Addr) (i' : Nat) (ns : List Int), But dr H H' → H' dr = some (.lst [.ref l, .int (i' : Int)]) → H' t = some (.tup (ns.map V.int)) → ns.length ≤ 40 → Q (.ref t) H'
theorem sc_law_some : FnScope ["_law_draw", "_law_most", "_law_many", "_law_turn"] ["_law_draw", "_law_most"] (defScope s_law_some) := ⟨rfl, rfl, rfl, by decide +kernel, rfl, by decide +kernel, by decide +kernel⟩
theorem ok_law_some (T : Tops K mg CS CD) : Cal P w K mg base "_law_some" ["_law_draw", "_law_most"] 4 (spLawSome K) := by
  obtain ⟨f, fd, F, m⟩ := T.f_law_some
  obtain ⟨f1, fd1, G_law_pick, m_law_pick, k_law_pick, b_law_pick⟩ := ok_law_pick (P := P) (w := w) (base := base) T
  refine ⟨f, fd, F.ok sc_law_some (fun vs H Q E h => ?_) (fun cdv A outer s H vs Q E hr h => ?_), m, F.kp, F.binds (ps := ["_law_draw", "_law_most"]) fun _ _ _ _ _ _ us hl => match us, hl with | [_, _], _ => rfl⟩
  · obtain ⟨dr, l, xs, i, rfl, _⟩ := h
    rfl
  · obtain ⟨dr, l, xs, i, rfl, hd, hl, k⟩ := h
    refine ⟨_, (pss_cons (ps_set (i := 2) sc_law_some.nd rfl (Or.inl rfl) (pe_call G_law_pick (hr.mono (by omega)) (by rfl) m_law_pick k_law_pick b_law_pick .nil pass0 (pa_cons (pv 0) (pa_cons (pe_lst (pa_cons pe_int (pa_cons pe_int (pa_cons pe_int (pa_cons pe_int (pa_cons pe_int (pa_cons pe_int (pa_cons pe_int (pa_cons (pv 1) pa_nil))))))))) pa_nil)))) (pss_one (ps_ret (pe_callTy call_tuple_of (by rfl) T.z_tuple (by decide +kernel) (pa_cons (pe_lc (own := [("_law_turn", 3)]) (g := gName 3) (tt := tYes) rfl sc_law_some.nd (pi_range1 (by rfl) T.z_range (pa_cons (pv 2) pa_nil)) (blkOk_by (N := ["_law_draw", "_law_most", "_law_many", "_law_turn"]) (sc := defScope s_law_some) (by decide +kernel)) (fun _ _ _ _ _ => pg_name (i := 3) sc_law_some.nd rfl (Or.inl rfl)) (fun _ _ _ _ _ => pts_nil) (fun _ _ _ _ _ => (pe_call G_law_pick (hr.mono (by omega)) (by rfl) m_law_pick k_law_pick b_law_pick .nil pass0 (pa_cons (pv 0) (pa_cons (pe_lst (pa_cons pe_int (pa_cons pe_int (pa_cons pe_int (pa_cons pe_int (pa_cons (pe_un un_neg pe_int) (pa_cons (pe_op op_pow pe_int pe_int) pa_nil))))))) pa_nil))))) pa_nil))))), ?_⟩
    refine ⟨_, rfl, _, rfl, (by show 8 ≤ sizeLine; decide), fun it hit => ?_⟩
    have s1 := same_new (o := HO.lst [V.int 0, .int 1, .int 2, .int 7, .int 8, .int 9, .int 20, .int 40]) hit
    refine ⟨dr, l, it, xs, i, _, rfl, s1 _ _ hd, hl.same s1, upd_same, (ne_of_none hd hit).symm, (by show 0 < 8; decide), fun H1 j y b1 hd1 hy => ?_⟩
    obtain ⟨n, rfl, hn40⟩ := pick8 hy
    have b01 := (But.of (x := dr) s1).trans b1
    have hl1 := hl.but b01 hd
    refine ⟨_, rfl, (n : Int), rfl, by omega, by omega, fun D0 hD0 => lc_range (lo := 0) (n := ((n : Int)).toNat)
      (fun q H' => ∃ (i' : Nat) (ns : List Int), ns.length = q ∧ But dr H1 H' ∧ H' dr = some (.lst [.ref l, .int (i' : Int)]) ∧ H' D0 = some (.lst (ns.map V.int)))
      ⟨i + 1, [], rfl, But.of (same_new hD0), same_new hD0 _ _ hd1, upd_same⟩ ?_ ?_⟩
    · rintro q H' hq ⟨i', ns, hns, bq, hdq, hLq⟩
      have nD : D0 ≠ dr := (ne_of_none hd1 hD0).symm
      refine ⟨rfl, yes_mk ?_⟩
      refine ⟨_, rfl, _, rfl, _, _, rfl, rfl, ⟨by decide, by decide, by decide⟩, (by show 6 ≤ sizeLine; decide), fun it2 hit2 => ?_⟩
      have s2 := same_new (o := HO.lst ([(0 : Int), 0, 1, 5, -3, 10 ^ (12 : Int).toNat].map V.int)) hit2
      refine ⟨dr, l, it2, xs, i', _, rfl, s2 _ _ hdq, (hl1.but bq hd1).same s2, upd_same, (ne_of_none hdq hit2).symm, (by show 0 < 6; decide), fun H3 j y b3 hd3 hy => ?_⟩
      obtain ⟨z, _, rfl⟩ := pick_int (ns := [(0 : Int), 0, 1, 5, -3, 10 ^ (12 : Int).toNat]) hy
      have b23 := (But.of (x := dr) s2).trans b3
      have hL3 := b23 _ _ hLq nD
      refine ⟨_, hL3, ?_, i' + 1, ns ++ [z], by rw [List.length_append, hns]; rfl, ?_, ?_, ?_⟩
      · rw [List.length_map]; exact small1000 (by omega)
      · intro a o ha hne
        rw [upd_ne (ne_of_none ha hD0)]
        exact b23 _ _ (bq _ _ ha hne) hne
      · rw [upd_ne nD.symm]; exact hd3
      · rw [upd_same, List.map_append]; rfl
    · rintro H' ⟨i', ns, hns, bq, hdq, hLq⟩
      refine ⟨D0, _, rfl, .inl ⟨SqL.of hLq, fun p hp => ?_⟩⟩
      have s4 := same_new (o := HO.tup (ns.map V.int)) hp
      exact k _ p i' ns ((b01.trans bq).trans (But.of s4)) (s4 _ _ hdq) upd_same (by omega)
/-! ### what the law has written -/
def spLawWritten : Sp := fun vs H Q _ => ∃ (rt nt : Addr) (start : Nat) (x ns : List Int), vs = [.ref rt, .int (start : Int), .ref nt] ∧ H rt = some (.tup (x.map V.int)) ∧ H nt = some (.tup (ns.map V.int)) ∧ 0 < ns.length ∧ ns.length ≤ 40 ∧ x.length ≤ 440 ∧ start ≤ 400 ∧
  ∀ (H' : Hp) (u : Addr), Same H H' → H' u = some (.tup ((written x start ns).map V.int)) → Q (.ref u) H'
theorem sc_law_written : FnScope ["_law_row", "_law_start", "_law_numbers", "_law_head"] ["_law_row", "_law_start", "_law_numbers"] (defScope s_law_written) := ⟨rfl, rfl, rfl, by decide +kernel, rfl, by decide +kernel, by decide +kernel⟩
theorem ok_law_written (T : Tops K mg CS CD) : Cal P w K mg base "_law_written" ["_law_row", "_law_start", "_law_numbers"] 1 spLawWritten := by
  obtain ⟨f, fd, F, m⟩ := T.f_law_written
  refine ⟨f, fd, F.ok sc_law_written (fun vs H Q E h => ?_) (fun cdv A outer s H vs Q E hr h => ?_), m, F.kp, F.binds (ps := ["_law_row", "_law_start", "_law_numbers"]) fun _ _ _ _ _ _ us hl => match us, hl with | [_, _, _], _ => rfl⟩
  · obtain ⟨rt, nt, start, x, ns, rfl, _⟩ := h
    rfl
  · obtain ⟨rt, nt, start, x, ns, rfl, hr1, hn1, h0, h40, h440, h400, k⟩ := h
    refine ⟨_, (pss_cons (ps_if (pt_cmpR (op_eqD hr.units) (pv 2) (pe_tup pa_nil) (nomark _)) (pss_one (ps_ret (pv 0))) pss_nil) (pss_cons (ps_set (i := 3) sc_law_written.nd rfl (Or.inl rfl) (pe_op op_catA (pe_slice sl_tupA (pv 0) po_none (po_some (pv 1))) (pe_op op_repA (pe_tup (pa_cons pe_int pa_nil)) (pe_callB (call_max2 rfl) (by rfl) T.z_max (by decide +kernel) (pa_cons pe_int (pa_cons (pe_op op_sub (pv 1) (pe_callB call_len_seq (by rfl) T.z_len (by decide +kernel) (pa_cons (pv 0) pa_nil))) pa_nil)))))) (pss_one (ps_ret (pe_op op_catA (pe_op op_catA (pv 3) (pv 2)) (pe_slice sl_tupA (pv 0) (po_some (pe_op op_add (pv 1) (pe_callB call_len_seq (by rfl) T.z_len (by decide +kernel) (pa_cons (pv 2) pa_nil)))) po_none)))))), ?_⟩
    refine ⟨_, rfl, Nat.zero_le _, fun p hp => ?_⟩
    have s1 := same_new (o := HO.tup []) hp
    refine ⟨.tuple (ns.map PyData.int), .tuple [], .tup (SqT.of (s1 _ _ hn1)) (dpAll_ints _), .tup (SqT.of upd_same) .nil, shaped_ti _, rfl, _, rfl, ?_⟩
    have en : ns.isEmpty = false := by cases ns with | nil => cases h0 | cons a b => rfl
    rw [eqv_nil_ti, en]
    refine iteF ?_
    refine ⟨_, rfl, _, rfl, (start : Int), rfl, rSl_mk (s1 _ _ hr1) fun a H2 s2 ha => ?_⟩
    rw [cut_take'] at ha
    refine ⟨(by show 1 ≤ sizeLine; decide), fun b hb => ?_⟩
    have s3 := same_new (o := HO.tup [V.int 0]) hb
    have s13 := (s1.trans s2).trans s3
    have hln : (((x.map V.int).length : Nat) : Int) = ((x.length : Nat) : Int) := by rw [List.length_map]
    have em : (if (start : Int) - (((x.map V.int).length : Nat) : Int) > 0 then (start : Int) - (((x.map V.int).length : Nat) : Int) else 0) = ((start - x.length : Nat) : Int) := by
      rw [hln]
      split <;> omega
    refine ⟨_, rfl, _, rfl, rt, _, rfl, .inr (SqT.of (s13 _ _ hr1)), _, _, rfl, rfl, _, _, rfl, rRep_mkE em (xs := [V.int 0]) upd_same (by intro z; cases z) (by omega) (by decide) fun c H4 s4 hc => ?_⟩
    rw [rep_one] at hc
    refine rCat_mk (s4 _ _ (s3 _ _ ha)) hc ?_ fun d H5 s5 hd => ?_
    · rw [List.length_take, List.length_replicate, List.length_map]; omega
    have s15 := (s13.trans s4).trans s5
    refine ⟨_, rfl, _, rfl, rCat_mk hd (s15 _ _ hn1) ?_ fun e H6 s6 he => ?_⟩
    · rw [List.length_append, List.length_take, List.length_replicate, List.length_map, List.length_map]; omega
    have s16 := s15.trans s6
    have es : (start : Int) + (((ns.map V.int).length : Nat) : Int) = ((start + ns.length : Nat) : Int) := by rw [List.length_map]; omega
    refine ⟨_, rfl, _, rfl, _, rfl, nt, _, rfl, .inr (SqT.of (s16 _ _ hn1)), _, _, rfl, rfl, _, rfl, noPart (rSl_mk (s16 _ _ hr1) fun g H7 s7 hg => ?_)⟩
    have hg : H7 g = some (.tup (cutV (x.map V.int) (some ((start : Int) + (((ns.map V.int).length : Nat) : Int))) none)) := hg
    rw [es, cut_drop] at hg
    refine rCat_mk (s7 _ _ he) hg ?_ fun u H8 s8 hu8 => ?_
    · rw [List.length_append, List.length_append, List.length_take, List.length_replicate, List.length_drop, List.length_map, List.length_map]; omega
    refine k H8 u ((s16.trans s7).trans s8) ?_
    rw [hu8]
    unfold written
    rw [List.map_append, List.map_append, List.map_append, List.map_take, List.map_drop, List.map_replicate]
end
end K51
set_option maxRecDepth 100000
set_option maxHeartbeats 4000000
namespace K51
open PySem L2
section
theorem dec_str (a b : Str) : decide (V.str a = V.str b) = decide (a = b) := by
  by_cases h : a = b
  · rw [h]; simp
  · rw [decide_eq_false h, decide_eq_false (fun z => h (V.str.inj z))]
theorem pick6 {y : V} {j : Nat} (h : [V.str "write", .str "write", .str "write", .str "cut", .str "cut", .str "share"][j]? = some y) : y = .str "write" ∨ y = .str "cut" ∨ y = .str "share" := by
  match j, h with
  | 0, h => exact Or.inl (Option.some.inj h).symm
  | 1, h => exact Or.inl (Option.some.inj h).symm
  | 2, h => exact Or.inl (Option.some.inj h).symm
  | 3, h => exact Or.inr (Or.inl (Option.some.inj h).symm)
  | 4, h => exact Or.inr (Or.inl (Option.some.inj h).symm)
  | 5, h => exact Or.inr (Or.inr (Option.some.inj h).symm)
  | j + 6, h => simp at h
theorem pick11 {y : V} {j : Nat} (h : [V.int 0, .int 1, .int 8, .int 9, .int 23, .int 24, .int 30, .int 87, .int 88, .int 100, .int 400][j]? = some y) : ∃ n : Nat, y = .int (n : Int) ∧ n ≤ 400 := by
  match j, h with
  | 0, h => exact ⟨0, (Option.some.inj h).symm, by decide⟩
  | 1, h => exact ⟨1, (Option.some.inj h).symm, by decide⟩
  | 2, h => exact ⟨8, (Option.some.inj h).symm, by decide⟩
  | 3, h => exact ⟨9, (Option.some.inj h).symm, by decide⟩
  | 4, h => exact ⟨23, (Option.some.inj h).symm, by decide⟩
  | 5, h => exact ⟨24, (Option.some.inj h).symm, by decide⟩
  | 6, h => exact ⟨30, (Option.some.inj h).symm, by decide⟩
  | 7, h => exact ⟨87, (Option.some.inj h).symm, by decide⟩
  | 8, h => exact ⟨88, (Option.some.inj h).symm, by decide⟩
  | 9, h => exact ⟨100, (Option.some.inj h).symm, by decide⟩
  | 10, h => exact ⟨400, (Option.some.inj h).symm, by decide⟩
  | j + 11, h => simp at h
/-! ### what stands between two turns of the law -/
structure Apart (dr rw : Addr) (W : DW) : Prop where
  rd : rw ≠ dr
  d : dr ≠ W.hd ∧ dr ≠ W.cl ∧ dr ≠ W.cd
  r : rw ≠ W.hd ∧ rw ≠ W.cl ∧ rw ≠ W.cd
structure Lw (K : PySem.W.Frag) (CS CD : Addr) (H : Hp) (dr l rw : Addr) (W : DW) (B : Nat) (S : St) (r : Nat → List Int) (xs : List Int) : Prop where
  ap : Apart dr rw W
  d : Dr CS CD H W B S
  g : Good B S r
  dr : ∃ i : Nat, H dr = some (.lst [.ref l, .int (i : Int)])
  l : Sc K H l xs
  rw : ∃ t0 t1, H rw = some (.lst [.ref t0, .ref t1]) ∧ H t0 = some (.tup ((r 0).map V.int)) ∧ H t1 = some (.tup ((r 1).map V.int))
variable {K : PySem.W.Frag} {CS CD : Addr} {H H' : Hp} {dr l rw : Addr} {W : DW} {B : Nat} {S : St} {r : Nat → List Int} {xs : List Int}
theorem Lw.same (A : Lw K CS CD H dr l rw W B S r xs) (s : Same H H') : Lw K CS CD H' dr l rw W B S r xs := by
  obtain ⟨i, hi⟩ := A.dr
  obtain ⟨t0, t1, h1, h2, h3⟩ := A.rw
  exact ⟨A.ap, A.d.same s, A.g, ⟨i, s _ _ hi⟩, A.l.same s, ⟨t0, t1, s _ _ h1, s _ _ h2, s _ _ h3⟩⟩
theorem Dr.but {p : Addr} {ys : List V} (D : Dr CS CD H W B S) (b : But p H H') (hp : H p = some (.lst ys)) (n : p ≠ W.cl) : Dr CS CD H' W B S :=
  D.lists fun a o ha hor => b a o ha (by
    rintro rfl
    rcases hor with z | z
    · exact n z
    · rw [hp] at ha
      cases ha
      exact z _ rfl)
theorem Lw.drawn (A : Lw K CS CD H dr l rw W B S r xs) (b : But dr H H') {i : Nat} (h : H' dr = some (.lst [.ref l, .int (i : Int)])) : Lw K CS CD H' dr l rw W B S r xs := by
  obtain ⟨i0, hi⟩ := A.dr
  obtain ⟨t0, t1, h1, h2, h3⟩ := A.rw
  have nt : ∀ {t : Addr} {ys : List V}, H t = some (.tup ys) → t ≠ dr := fun ht => ne_of ht hi (by intro z; cases z)
  exact ⟨A.ap, A.d.but b hi A.ap.d.2.1, A.g, ⟨i, h⟩, A.l.but b hi, ⟨t0, t1, b _ _ h1 A.ap.rd, b _ _ h2 (nt h2), b _ _ h3 (nt h3)⟩⟩
/-- the draft moved on, the rows are as they were -/
structure Mid (K : PySem.W.Frag) (CS CD : Addr) (H : Hp) (dr l rw : Addr) (W : DW) (B : Nat) (S : St) (r r' : Nat → List Int) (xs : List Int) (t0 t1 : Addr) : Prop where
  ap : Apart dr rw W
  d : Dr CS CD H W B S
  g : Good B S r'
  dr : ∃ i : Nat, H dr = some (.lst [.ref l, .int (i : Int)])
  l : Sc K H l xs
  rw : H rw = some (.lst [.ref t0, .ref t1])
  h0 : H t0 = some (.tup ((r 0).map V.int))
  h1 : H t1 = some (.tup ((r 1).map V.int))
theorem Lw.mid (A : Lw K CS CD H dr l rw W B S r xs) : ∃ t0 t1, Mid K CS CD H dr l rw W B S r r xs t0 t1 := by
  obtain ⟨t0, t1, h1, h2, h3⟩ := A.rw
  exact ⟨t0, t1, A.ap, A.d, A.g, A.dr, A.l, h1, h2, h3⟩
variable {t0 t1 : Addr} {r' r'' : Nat → List Int} {S' : St}
theorem Mid.same (A : Mid K CS CD H dr l rw W B S r r' xs t0 t1) (s : Same H H') : Mid K CS CD H' dr l rw W B S r r' xs t0 t1 := by
  obtain ⟨i, hi⟩ := A.dr
  exact ⟨A.ap, A.d.same s, A.g, ⟨i, s _ _ hi⟩, A.l.same s, s _ _ A.rw, s _ _ A.h0, s _ _ A.h1⟩
theorem Mid.moved (A : Mid K CS CD H dr l rw W B S r r' xs t0 t1) (kp : Keep H H' W) (D : Dr CS CD H' W B S') (G : Good B S' r'') : Mid K CS CD H' dr l rw W B S' r r'' xs t0 t1 := by
  obtain ⟨i, hi⟩ := A.dr
  have k3 : ∀ {a : Addr} {o : HO}, H a = some o → (a ≠ W.hd ∧ a ≠ W.cl ∧ a ≠ W.cd) → H' a = some o := fun ha n => kp _ _ ha n.1 n.2.1 n.2.2
  exact ⟨A.ap, D, G, ⟨i, k3 hi A.ap.d⟩, A.l.keep kp A.d, k3 A.rw A.ap.r, kp.tup A.d A.h0, kp.tup A.d A.h1⟩
theorem Mid.row (A : Mid K CS CD H dr l rw W B S r r' xs t0 t1) {f : Nat} (hf : f < 2) : ∃ t, [V.ref t0, V.ref t1][f]? = some (.ref t) ∧ H t = some (.tup ((r f).map V.int)) := by
  match f, hf with
  | 0, _ => exact ⟨t0, rfl, A.h0⟩
  | 1, _ => exact ⟨t1, rfl, A.h1⟩
theorem ix2 {f : Nat} (hf : f < 2) : ixN 2 (f : Int) = some f := by
  match f, hf with
  | 0, _ => rfl
  | 1, _ => rfl
theorem Mid.set {f : Nat} {u : Addr} {y : List Int} (A : Mid K CS CD H dr l rw W B S r (setr r f y) xs t0 t1) (hf : f < 2) (hu : H u = some (.tup (y.map V.int))) : Lw K CS CD (upd H rw (.lst ([V.ref t0, V.ref t1].set f (.ref u)))) dr l rw W B S (setr r f y) xs := by
  obtain ⟨i, hi⟩ := A.dr
  have b : But rw H (upd H rw (.lst ([V.ref t0, V.ref t1].set f (.ref u)))) := But.upd
  have nt : ∀ {t : Addr} {ys : List V}, H t = some (.tup ys) → t ≠ rw := fun ht => ne_of ht A.rw (by intro z; cases z)
  have hl : Sc K (upd H rw (.lst ([V.ref t0, V.ref t1].set f (.ref u)))) l xs := Sc.but A.l b A.rw
  have hdr : (upd H rw (.lst ([V.ref t0, V.ref t1].set f (.ref u)))) dr = some (.lst [.ref l, .int (i : Int)]) := b _ _ hi A.ap.rd.symm
  have hD : Dr CS CD (upd H rw (.lst ([V.ref t0, V.ref t1].set f (.ref u)))) W B S := Dr.but A.d b A.rw A.ap.r.2.1
  have hu' := b _ _ hu (nt hu)
  have h0' := b _ _ A.h0 (nt A.h0)
  have h1' := b _ _ A.h1 (nt A.h1)
  have hrw : (upd H rw (.lst ([V.ref t0, V.ref t1].set f (.ref u)))) rw = some (.lst ([V.ref t0, V.ref t1].set f (.ref u))) := upd_same
  clear b nt
  rcases (by omega : f = 0 ∨ f = 1) with e | e
  · subst e
    exact Lw.mk A.ap hD A.g ⟨i, hdr⟩ hl ⟨u, t1, hrw, hu', h1'⟩
  · subst e
    exact Lw.mk A.ap hD A.g ⟨i, hdr⟩ hl ⟨t0, u, hrw, h0', hu'⟩
theorem cells_row {g : Nat} (G : Good B S r) (hg : g < 2) : cellsV B S g (r g).length = (r g).map V.int := by
  unfold cellsV
  have := congrArg (List.map V.int) (good_row G hg)
  rw [List.map_map] at this
  exact this
end
section
variable {P : Program} {w : World} {K : PySem.W.Frag} {mg : Str → Option Value} {base : Heap} {CS CD : Addr}
def spLawStep (K : PySem.W.Frag) (CS CD : Addr) : Sp := fun vs H Q _ => ∃ (dr l rw : Addr) (W : DW) (B : Nat) (S : St) (r : Nat → List Int) (xs : List Int), vs = [.ref dr, .ref W.p, .ref rw] ∧ Lw K CS CD H dr l rw W B S r xs ∧
  ∀ (H' : Hp) (S' : St) (r' : Nat → List Int), Lw K CS CD H' dr l rw W B S' r' xs → Q (.bl true) H'
theorem sc_law_step : FnScope ["_law_draw", "_law_draft", "_law_rows", "_law_file", "_law_word", "_law_start", "_law_numbers", "_law_told", "_law_one"] ["_law_draw", "_law_draft", "_law_rows"] (defScope s_law_step) := ⟨rfl, rfl, rfl, by decide +kernel, rfl, by decide +kernel, by decide +kernel⟩
theorem ok_law_step (T : Tops K mg CS CD) : Cal P w K mg base "_law_step" ["_law_draw", "_law_draft", "_law_rows"] 11 (spLawStep K CS CD) := by
  obtain ⟨f, fd, F, m⟩ := T.f_law_step
  obtain ⟨f1, fd1, G_law_take, m_law_take, k_law_take, b_law_take⟩ := ok_law_take (P := P) (w := w) (base := base) T
  obtain ⟨f2, fd2, G_law_pick, m_law_pick, k_law_pick, b_law_pick⟩ := ok_law_pick (P := P) (w := w) (base := base) T
  obtain ⟨f3, fd3, G_law_some, m_law_some, k_law_some, b_law_some⟩ := ok_law_some (P := P) (w := w) (base := base) T
  obtain ⟨f4, fd4, G_law_written, m_law_written, k_law_written, b_law_written⟩ := ok_law_written (P := P) (w := w) (base := base) T
  obtain ⟨f5, fd5, G_write, m_write, k_write, b_write⟩ := ok_write (P := P) (w := w) (base := base) T
  obtain ⟨f6, fd6, G_cut, m_cut, k_cut, b_cut⟩ := ok_cut (P := P) (w := w) (base := base) T
  obtain ⟨f7, fd7, G_drop_file, m_drop_file, k_drop_file, b_drop_file⟩ := ok_drop_file (P := P) (w := w) (base := base) T
  obtain ⟨f8, fd8, G_share_file, m_share_file, k_share_file, b_share_file⟩ := ok_share_file (P := P) (w := w) (base := base) T
  obtain ⟨f9, fd9, G_content_of, m_content_of, k_content_of, b_content_of⟩ := ok_content_of (P := P) (w := w) (base := base) T
  obtain ⟨f10, fd10, G_counts_of, m_counts_of, k_counts_of, b_counts_of⟩ := ok_counts_of (P := P) (w := w) (base := base) T
  refine ⟨f, fd, F.ok sc_law_step (fun vs H Q E h => ?_) (fun cdv A outer s H vs Q E hr h => ?_), m, F.kp, F.binds (ps := ["_law_draw", "_law_draft", "_law_rows"]) fun _ _ _ _ _ _ us hl => match us, hl with | [_, _, _], _ => rfl⟩
  · obtain ⟨dr, l, rw, W, B, S, r, xs, rfl, _⟩ := h
    rfl
  · obtain ⟨dr, l, rw, W, B, S, r, xs, rfl, A0, k⟩ := h
    refine ⟨_, (pss_cons (ps_par (i := 3) (j := 4) (by rfl) sc_law_step.nd rfl rfl (by decide) rfl rfl (pa_cons (pe_call G_law_take (hr.mono (by omega)) (by rfl) m_law_take k_law_take b_law_take .nil pass0 (pa_cons (pv 0) (pa_cons pe_int pa_nil))) (pa_cons (pe_call G_law_pick (hr.mono (by omega)) (by rfl) m_law_pick k_law_pick b_law_pick .nil pass0 (pa_cons (pv 0) (pa_cons (pe_lst (pa_cons pe_str (pa_cons pe_str (pa_cons pe_str (pa_cons pe_str (pa_cons pe_str (pa_cons pe_str pa_nil))))))) pa_nil))) pa_nil)) (by rfl)) (pss_cons (ps_par (i := 5) (j := 6) (by rfl) sc_law_step.nd rfl rfl (by decide) rfl rfl (pa_cons (pe_call G_law_pick (hr.mono (by omega)) (by rfl) m_law_pick k_law_pick b_law_pick .nil pass0 (pa_cons (pv 0) (pa_cons (pe_lst (pa_cons pe_int (pa_cons pe_int (pa_cons pe_int (pa_cons pe_int (pa_cons pe_int (pa_cons pe_int (pa_cons pe_int (pa_cons pe_int (pa_cons pe_int (pa_cons pe_int (pa_cons pe_int pa_nil)))))))))))) pa_nil))) (pa_cons (pe_call G_law_some (hr.mono (by omega)) (by rfl) m_law_some k_law_some b_law_some .nil pass0 (pa_cons (pv 0) (pa_cons pe_int pa_nil))) pa_nil)) (by rfl)) (C8.pss_cut (ps_if (PW.pt (pw_and (pt_cmpR op_eq (pv 4) pe_str (nomark _)) (pw_and1 (pt_cmpR (op_neD hr.units) (pv 6) (pe_tup pa_nil) (nomark _))))) (pss_cons (ps_expr (pe_call G_write (hr.mono (by omega)) (by rfl) m_write k_write b_write .nil pass0 (pa_cons (pv 1) (pa_cons (pv 3) (pa_cons (pv 5) (pa_cons (pv 6) pa_nil)))))) (pss_one (ps_asg (pe_call G_law_written (hr.mono (by omega)) (by rfl) m_law_written k_law_written b_law_written .nil pass0 (pa_cons (pe_ix ix_list (pv 2) (pv 3) (fun _ _ => rfl)) (pa_cons (pv 5) (pa_cons (pv 6) pa_nil)))) (pg_sub (pv 2) (pv 3) set_list)))) (pss_one (ps_if (pt_cmpR op_eq (pv 4) pe_str (nomark _)) (pss_cons (ps_expr (pe_call G_cut (hr.mono (by omega)) (by rfl) m_cut k_cut b_cut .nil pass0 (pa_cons (pv 1) (pa_cons (pv 3) (pa_cons (pv 5) pa_nil))))) (pss_one (ps_asg (pe_op op_catA (pe_slice sl_tupA (pe_ix ix_list (pv 2) (pv 3) (fun _ _ => rfl)) po_none (po_some (pv 5))) (pe_op op_repA (pe_tup (pa_cons pe_int pa_nil)) (pe_callB (call_max2 rfl) (by rfl) T.z_max (by decide +kernel) (pa_cons pe_int (pa_cons (pe_op op_sub (pv 5) (pe_callB call_len_seq (by rfl) T.z_len (by decide +kernel) (pa_cons (pe_ix ix_list (pv 2) (pv 3) (fun _ _ => rfl)) pa_nil))) pa_nil))))) (pg_sub (pv 2) (pv 3) set_list)))) (pss_one (ps_if (pt_cmpR op_eq (pv 4) pe_str (nomark _)) (pss_cons (ps_expr (pe_call G_drop_file (hr.mono (by omega)) (by rfl) m_drop_file k_drop_file b_drop_file .nil pass0 (pa_cons (pv 1) (pa_cons (pe_op op_sub pe_int (pv 3)) pa_nil)))) (pss_cons (ps_expr (pe_call G_share_file (hr.mono (by omega)) (by rfl) m_share_file k_share_file b_share_file .nil pass0 (pa_cons (pv 1) (pa_cons (pv 3) (pa_cons (pe_op op_sub pe_int (pv 3)) (pa_cons pe_int (pa_cons pe_int pa_nil))))))) (pss_one (ps_asg (pe_ix ix_list (pv 2) (pv 3) (fun _ _ => rfl)) (pg_sub (pv 2) (pe_op op_sub pe_int (pv 3)) set_list))))) pss_nil))))) (pss_cons (ps_setLc (i := 7) (own := [("_law_one", 8)]) (g := gName 8) (tt := tYes) (by rfl) sc_law_step.nd rfl rfl (sw_true rfl rfl rfl (by decide +kernel)) (pi_tup (pe_tup (pa_cons pe_int (pa_cons pe_int pa_nil)))) (blkOk_by (N := ["_law_draw", "_law_draft", "_law_rows", "_law_file", "_law_word", "_law_start", "_law_numbers", "_law_told", "_law_one"]) (sc := defScope s_law_step) (by decide +kernel)) (fun _ _ _ _ _ => pg_name (i := 8) sc_law_step.nd rfl (Or.inl rfl)) (fun _ _ _ _ _ => pts_nil) (fun _ _ _ _ _ => (pe_call G_content_of (hr.mono (by omega)) (by rfl) m_content_of k_content_of b_content_of .nil pass0 (pa_cons (pe_fldB (pv 1) rfl) (pa_cons (pe_fldB (pv 1) rfl) (pa_cons (pv 8) pa_nil)))))) (pss_one (ps_ret (pe_and (pe_cmpR (op_eqD hr.units) (pv 7) (pv 2) (nomark _)) (pe_one (pe_cmpR (op_eqD hr.units) (pe_fld (pv 1) rfl) (pe_call G_counts_of (hr.mono (by omega)) (by rfl) m_counts_of k_counts_of b_counts_of .nil pass0 (pa_cons (pe_fld (pv 1) rfl) (pa_cons (pe_fld (pv 1) rfl) (pa_cons (pe_lst (pa_cons pe_int (pa_cons pe_int pa_nil))) pa_nil)))) (nomark _)))))))))), ?_⟩
    have sWW : decide (V.str "write" = V.str "write") = true := by rw [dec_str]; decide
    have sCW : decide (V.str "cut" = V.str "write") = false := by rw [dec_str]; decide
    have sSW : decide (V.str "share" = V.str "write") = false := by rw [dec_str]; decide
    have sWC : decide (V.str "write" = V.str "cut") = false := by rw [dec_str]; decide
    have sCC : decide (V.str "cut" = V.str "cut") = true := by rw [dec_str]; decide
    have sSC : decide (V.str "share" = V.str "cut") = false := by rw [dec_str]; decide
    have sWS : decide (V.str "write" = V.str "share") = false := by rw [dec_str]; decide
    have sSS : decide (V.str "share" = V.str "share") = true := by rw [dec_str]; decide
    -- file, word
    obtain ⟨i0, hd0⟩ := A0.dr
    refine ⟨_, rfl, dr, l, xs, i0, 2, rfl, hd0, A0.l, by decide, fun H1 f b1 hd1 hf => ?_⟩
    have A1 := A0.drawn b1 hd1
    refine ⟨_, rfl, (by show 6 ≤ sizeLine; decide), fun it hit => ?_⟩
    have s2 := same_new (o := HO.lst [V.str "write", .str "write", .str "write", .str "cut", .str "cut", .str "share"]) hit
    refine ⟨dr, l, it, xs, i0 + 1, _, rfl, s2 _ _ hd1, A1.l.same s2, upd_same, (ne_of_none hd1 hit).symm, (by show 0 < 6; decide), fun H2 j y b2 hd2 hy => ?_⟩
    have A2 := (A1.same s2).drawn b2 hd2
    have hw := pick6 hy
    refine ⟨_, _, rfl, ?_⟩
    -- start, numbers
    refine ⟨_, rfl, (by show 11 ≤ sizeLine; decide), fun it3 hit3 => ?_⟩
    have s3 := same_new (o := HO.lst [V.int 0, .int 1, .int 8, .int 9, .int 23, .int 24, .int 30, .int 87, .int 88, .int 100, .int 400]) hit3
    refine ⟨dr, l, it3, xs, i0 + 1 + 1, _, rfl, s3 _ _ hd2, A2.l.same s3, upd_same, (ne_of_none hd2 hit3).symm, (by show 0 < 11; decide), fun H3 j3 y3 b3 hd3 hy3 => ?_⟩
    have A3 := (A2.same s3).drawn b3 hd3
    obtain ⟨start, rfl, h400⟩ := pick11 hy3
    refine ⟨_, rfl, dr, l, xs, i0 + 1 + 1 + 1, rfl, hd3, A3.l, fun H4 nt i4 ns b4 hd4 hnt h40 => ?_⟩
    have A4 := A3.drawn b4 hd4
    refine ⟨_, _, rfl, ?_⟩
    -- the step
    refine ⟨(fun σ H' => ∃ (S' : St) (r' : Nat → List Int), σ = [some (.ref dr), some (.ref W.p), some (.ref rw), some (.int (f : Int)), some y, some (.int (start : Int)), some (.ref nt), none, none] ∧ Lw K CS CD H' dr l rw W B S' r' xs), ?_, ?_⟩
    · obtain ⟨t0, t1, M⟩ := A4.mid
      have hm := M.g.most f hf
      obtain ⟨tf, hget, htf⟩ := M.row hf
      rcases hw with rfl | rfl | rfl
      · refine ⟨_, rfl, rfl, _, rfl, ?_⟩
        rw [sWW]
        refine iteT ?_
        refine ⟨_, rfl, Nat.zero_le _, fun p hp => ?_⟩
        have s5 := same_new (o := HO.tup []) hp
        refine ⟨.tuple (ns.map PyData.int), .tuple [], .tup (SqT.of (s5 _ _ hnt)) (dpAll_ints _), .tup (SqT.of upd_same) .nil, shaped_ti _, rfl, _, rfl, ?_⟩
        rw [eqv_nil_ti]
        cases hns : ns.isEmpty with
        | true =>
          refine iteF ?_
          refine ⟨_, rfl, rfl, _, rfl, ?_⟩
          rw [sWC]
          refine iteF ⟨_, rfl, rfl, _, rfl, ?_⟩
          rw [sWS]
          exact iteF ⟨S, r, rfl, A4.same s5⟩
        | false =>
          refine iteT ?_
          have hpos : 0 < ns.length := by cases ns with | nil => cases hns | cons a b => exact Nat.succ_pos _
          have M5 := M.same s5
          refine ⟨_, rfl, _, rfl, _, rfl, _, rfl, W, B, S, f, start, ns, nt, r, rfl, s5 _ _ hnt, M5.d, M5.g, hf, hpos, by omega, fun S6 H6 G6 D6 kp6 => ?_⟩
          have M6 := M5.moved kp6 D6 G6
          have hnt6 := kp6.tup M5.d (s5 _ _ hnt)
          have htf6 := kp6.tup M5.d (s5 _ _ htf)
          refine ⟨_, rfl, _, rfl, rw, _, _, _, rfl, rfl, SqL.of M6.rw, atI_nat hget, _, rfl, _, rfl, tf, nt, start, r f, ns, rfl, htf6, hnt6, hpos, h40, hm, h400, fun H7 u s7 hu7 => ?_⟩
          have M7 := M6.same s7
          refine ⟨_, rfl, _, rfl, rw, _, _, f, rfl, rfl, M7.rw, ix2 hf, ?_⟩
          exact ⟨S6, _, rfl, M7.set hf hu7⟩
      · refine ⟨_, rfl, rfl, _, rfl, ?_⟩
        rw [sCW]
        refine iteF ⟨_, rfl, rfl, _, rfl, ?_⟩
        rw [sCC]
        refine iteT ?_
        refine ⟨_, rfl, _, rfl, _, rfl, W, B, S, f, start, r, rfl, M.d, M.g, hf, by omega, fun S6 H6 G6 _ D6 kp6 => ?_⟩
        have M6 := M.moved kp6 D6 G6
        have htf6 := kp6.tup M.d htf
        refine ⟨_, rfl, _, rfl, rw, _, _, _, rfl, rfl, SqL.of M6.rw, atI_nat hget, _, rfl, (start : Int), rfl, rSl_mk htf6 fun a H7 s7 ha => ?_⟩
        rw [cut_take'] at ha
        refine ⟨(by show 1 ≤ sizeLine; decide), fun b hb => ?_⟩
        have s8 := same_new (o := HO.tup [V.int 0]) hb
        have M8 := (M6.same s7).same s8
        have em : (if (start : Int) - ((((r f).map V.int).length : Nat) : Int) > 0 then (start : Int) - ((((r f).map V.int).length : Nat) : Int) else 0) = ((start - (r f).length : Nat) : Int) := by
          rw [List.length_map]
          split <;> omega
        refine ⟨_, rfl, _, rfl, _, rfl, rw, _, _, _, rfl, rfl, SqL.of M8.rw, atI_nat hget, tf, _, rfl, .inr (SqT.of (s8 _ _ (s7 _ _ htf6))), _, _, rfl, rfl, _, _, rfl, rRep_mkE em (xs := [V.int 0]) upd_same (by intro z; cases z) (by omega) (by decide) fun c H9 s9 hc => ?_⟩
        rw [rep_one] at hc
        refine rCat_mk (s9 _ _ (s8 _ _ ha)) hc ?_ fun u H10 s10 hu => ?_
        · rw [List.length_take, List.length_replicate, List.length_map]; omega
        have M10 := (M8.same s9).same s10
        have hu' : H10 u = some (.tup ((fitted (r f) start).map V.int)) := by
          rw [hu]
          unfold fitted
          rw [List.map_append, List.map_take, List.map_replicate]
        refine ⟨_, rfl, _, rfl, rw, _, _, f, rfl, rfl, M10.rw, ix2 hf, ?_⟩
        exact ⟨S6, _, rfl, M10.set hf hu'⟩
      · refine ⟨_, rfl, rfl, _, rfl, ?_⟩
        rw [sSW]
        refine iteF ⟨_, rfl, rfl, _, rfl, ?_⟩
        rw [sSC]
        refine iteF ⟨_, rfl, rfl, _, rfl, ?_⟩
        rw [sSS]
        refine iteT ?_
        have e1 : (1 : Int) - (f : Int) = ((1 - f : Nat) : Int) := by omega
        have hl2 : 1 - f < 2 := by omega
        have hne : f ≠ 1 - f := by omega
        have ev1 : ([V.ref W.p, V.int ((1 : Int) - (f : Int))] : List V) ++ [] = [V.ref W.p, V.int ((1 - f : Nat) : Int)] := by rw [e1]; rfl
        have ev2 : ([V.ref W.p, V.int (f : Int), V.int ((1 : Int) - (f : Int)), V.int 0, V.int 0] : List V) ++ [] = [V.ref W.p, V.int (f : Int), V.int ((1 - f : Nat) : Int), V.int 0, V.int 0] := by rw [e1]; rfl
        refine ⟨_, rfl, _, rfl, _, _, rfl, rfl, W, B, S, 1 - f, r, ev1, M.d, M.g, hl2, fun S6 H6 G6 bare6 _ D6 kp6 => ?_⟩
        refine ⟨_, rfl, _, rfl, _, rfl, _, _, rfl, rfl, W, B, S6, f, 1 - f, _, ev2, D6, G6, hf, hl2, hne, bare6, fun S7 H7 G7 D7 kp7 => ?_⟩
        rw [setr_twice, setr_ne hne] at G7
        have M7 := M.moved (kp6.trans kp7) D7 G7
        have htf7 := (kp6.trans kp7).tup M.d htf
        refine ⟨_, rfl, _, rfl, rw, _, _, _, rfl, rfl, SqL.of M7.rw, atI_nat hget, _, rfl, _, rfl, _, _, rfl, rfl, rw, _, _, 1 - f, rfl, rfl, M7.rw, ?_, ?_⟩
        · show ixN 2 ((1 : Int) - (f : Int)) = some (1 - f)
          rw [e1]
          exact ix2 hl2
        · exact ⟨S7, _, rfl, M7.set hl2 htf7⟩
    rintro _ H5 ⟨S5, r5, rfl, A5⟩
    obtain ⟨t0, t1, M⟩ := A5.mid
    obtain ⟨dx, fs, e, q1, q2, q3, _⟩ := M.d.ob
    have hB := M.d.hi
    -- told
    refine ⟨(by show 2 ≤ sizeLine; decide), fun p hp => ?_⟩
    have s6 := same_new (o := HO.tup [V.int 0, .int 1]) hp
    have hp6 : (upd H5 p (.tup [V.int 0, .int 1])) p = some (.tup [V.int 0, .int 1]) := upd_same
    generalize upd H5 p (.tup [V.int 0, .int 1]) = H6 at s6 hp6
    have M6 := M.same s6
    refine ⟨p, rfl, ⟨_, SqT.of hp6⟩, fun D0 hD0 => lc_tup (K := K) (a := p) (xs := [V.int 0, .int 1])
      (fun i H' => ∃ ts : List Addr, ts.length = i ∧ Same H6 H' ∧ H' D0 = some (.lst (ts.map V.ref)) ∧ ∀ (j : Nat) (t : Addr), ts[j]? = some t → H' t = some (.tup ((r5 j).map V.int)))
      ⟨[], rfl, same_new hD0, upd_same, fun j t h => by simp at h⟩ (fun i H' _ ⟨_, _, sH, _, _⟩ => SqT.of (sH _ _ hp6)) ?_ ?_⟩
    · rintro i x H' hi ⟨ts, hts, sH, hL, hj⟩
      obtain ⟨g, hg, rfl⟩ := nat_get (L := [0, 1]) (i := i) (x := x) hi
      have hgi : g = i ∧ g < 2 := by
        match i, hg with
        | 0, hg => exact ⟨(Option.some.inj hg).symm, by have := Option.some.inj hg; omega⟩
        | 1, hg => exact ⟨(Option.some.inj hg).symm, by have := Option.some.inj hg; omega⟩
        | i + 2, hg => simp at hg
      obtain ⟨rfl, hg2⟩ := hgi
      have M7 := M6.same sH
      refine ⟨rfl, yes_mk ?_⟩
      refine ⟨_, rfl, W.p, CD, dx, fs, _, rfl, sH _ _ (s6 _ _ e), T.clDraft, T.na_home, q2, _, rfl, W.p, CD, dx, fs, _, rfl, sH _ _ (s6 _ _ e), T.clDraft, T.na_shape, q1, _, rfl, W.hd, W.sh, B, g, (r5 g).length, S5, rfl, M7.d.home, M7.d.sh, hg2, M7.g.size g hg2, by have := M7.g.most g hg2; omega, fun H8 t s8 ht => ?_⟩
      rw [cells_row M7.g hg2] at ht
      have nD : ∀ {a : Addr} {ys : List V}, H8 a = some (.tup ys) → a ≠ D0 := fun ha => ne_of ha (s8 _ _ hL) (by intro z; cases z)
      refine ⟨_, s8 _ _ hL, ?_, ts ++ [t], by rw [List.length_append, hts]; rfl, fun a o ha => ?_, ?_, fun j t' hjt => ?_⟩
      · rw [List.length_map]; exact small1000 (by omega)
      · rw [upd_ne (ne_of_none ha hD0)]
        exact s8 _ _ (sH _ _ ha)
      · rw [upd_same, List.map_append]; rfl
      · by_cases h : j < ts.length
        · rw [List.getElem?_append_left h] at hjt
          have := s8 _ _ (hj j t' hjt)
          rw [upd_ne (nD this)]
          exact this
        · have hj2 : j = ts.length := by
            have := (List.getElem?_eq_some_iff.mp hjt).1
            rw [List.length_append] at this
            simp at this
            omega
          subst hj2
          rw [List.getElem?_append_right (Nat.le_refl _), Nat.sub_self] at hjt
          obtain rfl := Option.some.inj hjt
          rw [upd_ne (nD ht), hts]
          exact ht
    · rintro H7 ⟨ts, hts, sH, hL, hj⟩
      have M7 := M6.same sH
      have dp : ∀ (us : List Addr), us.length = 2 → (∀ (j : Nat) (t : Addr), us[j]? = some t → H7 t = some (.tup ((r5 j).map V.int))) → DpAll K H7 (us.map V.ref) ([r5 0, r5 1].map dRow) := fun us hl h => dp_rows us [r5 0, r5 1] hl fun j t x ht hx => by
        match j, hx with
        | 0, hx => obtain rfl := Option.some.inj hx; exact h 0 t ht
        | 1, hx => obtain rfl := Option.some.inj hx; exact h 1 t ht
        | j + 2, hx => simp at hx
      have dp2 := dp [t0, t1] rfl fun j t h => by
        match j, h with
        | 0, h => obtain rfl := Option.some.inj h; exact M7.h0
        | 1, h => obtain rfl := Option.some.inj h; exact M7.h1
        | j + 2, h => simp at h
      have e7 := sH _ _ (s6 _ _ e)
      refine ⟨_, rfl, _, rfl, .list ([r5 0, r5 1].map dRow), .list ([r5 0, r5 1].map dRow), .lst (SqL.of hL) (dp ts hts hj), .lst (SqL.of M7.rw) dp2, shaped_rows _, shaped_rows _, ?_⟩
      rw [eqv_rows]
      refine ⟨_, rfl, iteT ?_⟩
      refine ⟨_, rfl, W.p, CD, dx, fs, _, rfl, e7, T.clDraft, T.na_counts, q3, _, rfl, W.p, CD, dx, fs, _, rfl, e7, T.clDraft, T.na_home, q2, _, rfl, W.p, CD, dx, fs, _, rfl, e7, T.clDraft, T.na_shape, q1, (by show 2 ≤ sizeLine; decide), fun fl hfl => ?_⟩
      have s8 := same_new (o := HO.lst [V.int 0, .int 1]) hfl
      refine ⟨W.hd, W.sh, fl, B, S5, rfl, M7.d.home.same s8, M7.d.sh.same s8, upd_same, hB, fun H9 c s9 hc => ?_⟩
      have M9 := (M7.same s8).same s9
      have ec : ((List.range B).map fun b => V.int (S5.counts b)) = ((List.range B).map S5.counts).map V.int := by rw [List.map_map]; rfl
      have ec2 : cntV B (metF B S5 0 ++ metF B S5 1) = ((List.range B).map S5.counts).map V.int := by
        unfold cntV
        rw [List.map_map]
        refine List.map_congr_left fun b hb => ?_
        show V.int _ = V.int (S5.counts b)
        rw [good_counts M.g (List.mem_range.mp hb), List.count_append]
      have hcl := M9.d.counts
      rw [ec] at hcl
      rw [ec2] at hc
      refine ⟨.list (((List.range B).map S5.counts).map PyData.int), .list (((List.range B).map S5.counts).map PyData.int), .lst (SqL.of hcl) (dpAll_ints _), .lst (SqL.of hc) (dpAll_ints _), shaped_li _, shaped_li _, ?_⟩
      rw [eqv_li]
      exact k H9 S5 r5 (((A5.same s6).same sH).same s8 |>.same s9)
end
end K51
set_option maxRecDepth 100000
set_option maxHeartbeats 4000000
namespace K51
open PySem L2
section
theorem pick2 {y : V} {j : Nat} (h : [V.int 160, .int 200][j]? = some y) : ∃ n : Nat, y = .int (n : Int) ∧ 131 ≤ n ∧ n ≤ 200 := by
  match j, h with
  | 0, h => exact ⟨160, (Option.some.inj h).symm, by decide, by decide⟩
  | 1, h => exact ⟨200, (Option.some.inj h).symm, by decide, by decide⟩
  | j + 2, h => simp at h
theorem reach_zero {B : Nat} {S : St} {g : Nat} (h : ∀ i, S.home (4 + g) i = 0) : Bare B S g := by
  intro τ k
  obtain ⟨i, t, rfl, _, _⟩ := ok_head k
  have e : i :: t = [i] ++ t := rfl
  rw [e]
  refine reach_pre (by simp) ?_
  show blk B (S.home (4 + g) i) = none
  rw [h i]
  rfl
theorem good_zero {B : Nat} {S : St} (h : ∀ g, g < 2 → ∀ i, S.home (4 + g) i = 0) (c : ∀ b, S.counts b = 0) : Good B S fun _ => [] := by
  have b0 : Bare B S 0 := reach_zero (h 0 (by decide))
  have b1 : Bare B S 1 := reach_zero (h 1 (by decide))
  refine ⟨fun b _ => ?_, fun g hg => ?_, fun g hg => Nat.zero_le _, fun g n hg hn => absurd hn (Nat.not_lt_zero _), fun g k hg hk _ => ?_⟩
  · rw [c b, b0.cnt b, b1.cnt b]; rfl
  · rw [h g hg 0]; rfl
  · exact reach_zero (h g hg) _ (spot_ok hk)
end
section
variable {P : Program} {w : World} {K : PySem.W.Frag} {mg : Str → Option Value} {base : Heap} {CS CD : Addr}
def spLaw (K : PySem.W.Frag) : Sp := fun vs H Q _ => ∃ (l : Addr) (xs : List Int), vs = [.ref l] ∧ Sc K H l xs ∧ ∀ H', Q (.bl true) H'
theorem sc_law : FnScope ["_law_script", "_law_draw", "_law_shape", "_law_draft", "_law_rows", "_law_turn"] ["_law_script"] (defScope s_law) := ⟨rfl, rfl, rfl, by decide +kernel, rfl, by decide +kernel, by decide +kernel⟩
theorem ok_law (T : Tops K mg CS CD) {fa : Addr} {fd : FuncData} (F : Fun K "law" "law" s_law fa fd) : FnOk P w K mg base CX0 12 fa fd ["_law_script"] (spLaw K) := by
  obtain ⟨f1, fd1, G_law_pick, m_law_pick, k_law_pick, b_law_pick⟩ := ok_law_pick (P := P) (w := w) (base := base) T
  obtain ⟨f2, fd2, G_empty_file, m_empty_file, k_empty_file, b_empty_file⟩ := ok_empty_file (P := P) (w := w) (base := base) T
  obtain ⟨f3, fd3, G_law_step, m_law_step, k_law_step, b_law_step⟩ := ok_law_step (P := P) (w := w) (base := base) T
  obtain ⟨f4, fd4, G_drop_file, m_drop_file, k_drop_file, b_drop_file⟩ := ok_drop_file (P := P) (w := w) (base := base) T
  obtain ⟨f5, fd5, G_cut, m_cut, k_cut, b_cut⟩ := ok_cut (P := P) (w := w) (base := base) T
  obtain ⟨f6, fd6, G_met, m_met, k_met, b_met⟩ := ok_met (P := P) (w := w) (base := base) T
  obtain ⟨f7, fd7, M_empty_home, GM_empty_home, bM_empty_home⟩ := ok_empty_home (P := P) (w := w) (base := base) T
  obtain ⟨f8, fd8, MK_Shape, GI_Shape, bI_Shape⟩ := ok_shape_init (P := P) (w := w) (base := base) T
  obtain ⟨f9, fd9, MK_Draft, GI_Draft, bI_Draft⟩ := ok_draft_init (P := P) (w := w) (base := base) T
  refine F.ok sc_law (fun vs H Q E h => ?_) (fun cdv A outer s H vs Q E hr h => ?_)
  · obtain ⟨l, xs, rfl, _⟩ := h
    rfl
  · obtain ⟨l, xs, rfl, hl, k⟩ := h
    refine ⟨_, (pss_cons (ps_set (i := 1) sc_law.nd rfl (Or.inl rfl) (pe_lst (pa_cons (pv 0) (pa_cons pe_int pa_nil)))) (pss_cons (ps_set (i := 2) sc_law.nd rfl (Or.inl rfl) (pe_make MK_Shape GI_Shape (hr.mono (by omega)) (by rfl) T.mgShape bI_Shape .nil pass0 (pa_cons pe_int (pa_cons pe_int (pa_cons pe_int (pa_cons (pe_call G_law_pick (hr.mono (by omega)) (by rfl) m_law_pick k_law_pick b_law_pick .nil pass0 (pa_cons (pv 1) (pa_cons (pe_lst (pa_cons pe_int (pa_cons pe_int pa_nil))) pa_nil))) (pa_cons pe_int pa_nil))))))) (pss_cons (ps_par (i := 3) (j := 4) (by rfl) sc_law.nd rfl rfl (by decide) rfl rfl (pa_cons (pe_make MK_Draft GI_Draft (hr.mono (by omega)) (by rfl) T.mgDraft bI_Draft .nil pass0 (pa_cons (pv 2) (pa_cons (pe_meth0 (pv 2) T.clShape M_empty_home GM_empty_home (hr.mono (by omega)) bM_empty_home .nil pass0) (pa_cons (pe_op op_rep (pe_lst (pa_cons pe_int pa_nil)) (pe_fld (pv 2) rfl)) (pa_cons pe_dnewK pa_nil))))) (pa_cons (pe_lst (pa_cons (pe_tup pa_nil) (pa_cons (pe_tup pa_nil) pa_nil))) pa_nil)) (by rfl)) (pss_cons (ps_expr (pe_call G_empty_file (hr.mono (by omega)) (by rfl) m_empty_file k_empty_file b_empty_file .nil pass0 (pa_cons (pv 3) (pa_cons pe_int (pa_cons pe_int (pa_cons pe_int pa_nil)))))) (pss_cons (ps_expr (pe_call G_empty_file (hr.mono (by omega)) (by rfl) m_empty_file k_empty_file b_empty_file .nil pass0 (pa_cons (pv 3) (pa_cons pe_int (pa_cons pe_int (pa_cons pe_int pa_nil)))))) (pss_cons (ps_for PassesOwn.never rfl (pi_range1 (by rfl) T.z_range (pa_cons pe_int pa_nil)) (pg_name (i := 5) sc_law.nd rfl (Or.inl rfl)) (pss_one (ps_if (pt_not (pt_val (pe_call G_law_step (hr.mono (by omega)) (by rfl) m_law_step k_law_step b_law_step .nil pass0 (pa_cons (pv 1) (pa_cons (pv 3) (pa_cons (pv 4) pa_nil)))))) (pss_one (ps_ret pe_bl)) pss_nil))) (pss_cons (ps_expr (pe_call G_drop_file (hr.mono (by omega)) (by rfl) m_drop_file k_drop_file b_drop_file .nil pass0 (pa_cons (pv 3) (pa_cons pe_int pa_nil)))) (pss_cons (ps_expr (pe_call G_cut (hr.mono (by omega)) (by rfl) m_cut k_cut b_cut .nil pass0 (pa_cons (pv 3) (pa_cons pe_int (pa_cons pe_int pa_nil))))) (pss_one (ps_ret (pe_and (pe_cmpR (op_eqD hr.units) (pe_fld (pv 3) rfl) (pe_op op_rep (pe_lst (pa_cons pe_int pa_nil)) (pe_fld (pv 2) rfl)) (nomark _)) (pe_one (pe_cmpR (op_eqD hr.units) (pe_call G_met (hr.mono (by omega)) (by rfl) m_met k_met b_met .nil pass0 (pa_cons (pe_fld (pv 3) rfl) (pa_cons (pv 2) (pa_cons pe_int pa_nil)))) (pe_lst pa_nil) (nomark _)))))))))))))), ?_⟩
    -- the draws
    refine ⟨_, rfl, (by show 2 ≤ sizeLine; decide), fun dr ndr => ?_⟩
    have s1 := same_new (o := HO.lst [V.ref l, V.int 0]) ndr
    have hd1 : (upd H dr (.lst [V.ref l, V.int 0])) dr = some (.lst [.ref l, .int ((0 : Nat) : Int)]) := upd_same
    have hl1 := hl.same s1
    generalize upd H dr (.lst [V.ref l, V.int 0]) = H1 at s1 hd1 hl1
    -- the shape
    refine ⟨_, rfl, (by show 2 ≤ sizeLine; decide), fun it hit => ?_⟩
    have s2 := same_new (o := HO.lst [V.int 160, .int 200]) hit
    refine ⟨dr, l, it, xs, 0, _, rfl, s2 _ _ hd1, hl1.same s2, upd_same, (ne_of_none hd1 hit).symm, (by show 0 < 2; decide), fun H2 j y b2 hd2 hy => ?_⟩
    have hl2 := (hl1.same s2).but b2 (s2 _ _ hd1)
    obtain ⟨B, rfl, lo, hi⟩ := pick2 hy
    refine fun x dx nx ndx nex => ⟨x, B, rfl, by omega, hi, dx, upd_same, fun H3 b3 e3 => ⟨rfl, ?_⟩⟩
    have nxd : ∀ {a : Addr} {o : HO}, H2 a = some o → a ≠ x ∧ a ≠ dx := fun ha => ⟨ne_of_none ha nx, ne_of_none ha ndx⟩
    have q3 : Same H2 H3 := fun a o ha => b3 a o (by rw [upd_ne (nxd ha).1, upd_ne (nxd ha).2]; exact ha) (nxd ha).1
    have hd3 := q3 _ _ hd2
    have hl3 := hl2.same q3
    -- the draft
    refine ⟨_, rfl, _, rfl, x, dx, _, rfl, e3, rfl, x, dx, B, rfl, e3, hi, fun H4 hm s4 nhm hh => ?_⟩
    have e4 := s4 _ _ e3
    refine ⟨(by show 1 ≤ sizeLine; decide), fun l0 nl0 => ?_⟩
    have s5 := same_new (o := HO.lst [V.int 0]) nl0
    refine ⟨_, rfl, x, CS, dx, _, _, rfl, s5 _ _ e4, T.clShape, T.na_blocks, rfl, l0, _, _, rfl, rfl, upd_same, by omega, by omega, ?_, fun cl ncl => ?_⟩
    · rw [Int.toNat_natCast]
      exact Nat.le_trans (show _ ≤ 200 by simp; omega) (by decide)
    have e0 : (List.replicate ((B : Int).toNat) [V.int 0]).flatten = (List.range B).map fun b => V.int ((S0 B).counts b) := by
      rw [rep_one, Int.toNat_natCast]
      refine List.ext_getElem? fun i => ?_
      rw [List.getElem?_replicate, List.getElem?_map]
      by_cases h : i < B
      · rw [if_pos h, List.getElem?_range h]; rfl
      · rw [if_neg h, List.getElem?_eq_none (by rw [List.length_range]; omega)]; rfl
    rw [e0]
    have s6 := same_new (o := HO.lst ((List.range B).map fun b => V.int ((S0 B).counts b))) ncl
    have hc6 : (upd (upd H4 l0 (.lst [V.int 0])) cl (.lst ((List.range B).map fun b => V.int ((S0 B).counts b)))) cl = some (.lst ((List.range B).map fun b => V.int ((S0 B).counts b))) := upd_same
    refine fun pd npd => ?_
    have s7 := same_new (o := HO.dK []) npd
    refine fun x2 dx2 nx2 ndx2 nex2 => ?_
    have s47 := (s5.trans s6).trans s7
    generalize hH7 : upd (upd (upd H4 l0 (.lst [V.int 0])) cl (.lst ((List.range B).map fun b => V.int ((S0 B).counts b)))) pd (.dK []) = H7 at s47 nx2 ndx2
    have hc7 : H7 cl = some (.lst ((List.range B).map fun b => V.int ((S0 B).counts b))) := by rw [← hH7]; exact s7 _ _ hc6
    have hp7 : H7 pd = some (.dK []) := by rw [← hH7]; exact upd_same
    have s8 : Same H7 (upd (upd H7 dx2 (.own x2)) x2 (.ins CD dx2 [])) := fun a o ha => by rw [upd_ne (ne_of_none ha nx2), upd_ne (ne_of_none ha ndx2)]; exact ha
    have h8 : (upd (upd H7 dx2 (.own x2)) x2 (.ins CD dx2 [])) x2 = some (.ins CD dx2 []) := upd_same
    generalize upd (upd H7 dx2 (.own x2)) x2 (.ins CD dx2 []) = H8 at s8 h8
    have s48 := s47.trans s8
    have e8 := s48 _ _ e4
    refine ⟨x2, x, hm, cl, pd, B, S0 B, rfl, ⟨dx, _, e8, rfl, rfl, rfl, rfl, rfl⟩, hh.same s48, s8 _ _ hc7, s8 _ _ hp7, lo, hi, ⟨dx2, h8⟩, ?_, fun W H9 w1 w2 b9 D9 fr => ⟨rfl, ?_⟩⟩
    · exact fun z => by
        rw [z] at nx2
        rw [s47 _ _ e4] at nx2
        cases nx2
    subst w1
    have hd8 := s48 _ _ (s4 _ _ hd3)
    have hl8 := (hl3.same s4).same s48
    have hd9 : H9 dr = some (.lst [.ref l, .int ((0 + 1 : Nat) : Int)]) := b9 _ _ hd8 (ne_of hd8 h8 (by intro z; cases z))
    have hl9 : Sc K H9 l xs := by
      rcases hl8 with ⟨o, h⟩ | h
      · exact .inl ⟨o, b9 _ _ h (ne_of h h8 (by intro z; cases z))⟩
      · exact .inr h
    have frd := fr _ _ hd8
    -- the rows
    refine ⟨Nat.zero_le _, fun t0 n0 => ⟨Nat.zero_le _, fun t1 n1 => ⟨(by show 2 ≤ sizeLine; decide), fun rw nrw => ?_⟩⟩⟩
    have z0 := same_new (o := HO.tup []) n0
    have z1 := same_new (o := HO.tup []) n1
    have z2 := same_new (o := HO.lst [V.ref t0, .ref t1]) nrw
    have z02 := (z0.trans z1).trans z2
    have ht0 := z2 _ _ (z1 _ _ (upd_same (H := H9) (a := t0) (o := HO.tup [])))
    have ht1 := z2 _ _ (upd_same (H := upd H9 t0 (.tup [])) (a := t1) (o := HO.tup []))
    have hrw : (upd (upd (upd H9 t0 (.tup [])) t1 (.tup [])) rw (.lst [V.ref t0, .ref t1])) rw = some (.lst [V.ref t0, .ref t1]) := upd_same
    have z01 := z0.trans z1
    have rd : rw ≠ dr := (ne_of_none (z01 _ _ hd9) nrw).symm
    have D10 := D9.same z01
    have rh : rw ≠ W.hd := by obtain ⟨kvs, q, _⟩ := D10.home; exact (ne_of_none q nrw).symm
    have rc : rw ≠ W.cl := (ne_of_none D10.counts nrw).symm
    have rcd : rw ≠ W.cd := by obtain ⟨kvs, q, _⟩ := D10.ch; exact (ne_of_none q nrw).symm
    generalize upd (upd (upd H9 t0 (.tup [])) t1 (.tup [])) rw (.lst [V.ref t0, .ref t1]) = H11 at z02 ht0 ht1 hrw
    refine ⟨_, _, rfl, ?_⟩
    have ap : Apart dr rw W := ⟨rd, frd, rh, rc, rcd⟩
    have D11 := D9.same z02
    refine ⟨_, rfl, W, B, S0 B, 0, rfl, D11, by decide, fun H12 D12 kp12 => ?_⟩
    refine ⟨_, rfl, W, B, _, 1, rfl, D12, by decide, fun H13 D13 kp13 => ?_⟩
    have kp := kp12.trans kp13
    have G13 : Good B (((S0 B).put (4 + 0) fun _ => 0).put (4 + 1) fun _ => 0) fun _ => [] := good_zero (fun g hg i => by
      show (if 4 + g = 4 + 1 then (fun _ => (0 : Int)) else if 4 + g = 4 + 0 then (fun _ => (0 : Int)) else (S0 B).home (4 + g)) i = 0
      by_cases h1 : g = 1
      · rw [if_pos (by omega)]
      · rw [if_neg (by omega), if_pos (by omega)]) fun b => rfl
    have M11 : Mid K CS CD H11 dr l rw W B (S0 B) (fun _ => []) (fun _ => []) xs t0 t1 → True := fun _ => trivial
    have k3 : ∀ {a : Addr} {o : HO}, H11 a = some o → (a ≠ W.hd ∧ a ≠ W.cl ∧ a ≠ W.cd) → H13 a = some o := fun ha n => kp _ _ ha n.1 n.2.1 n.2.2
    have A13 : Lw K CS CD H13 dr l rw W B (((S0 B).put (4 + 0) fun _ => 0).put (4 + 1) fun _ => 0) (fun _ => []) xs :=
      Lw.mk ap D13 G13 ⟨1, k3 (z02 _ _ hd9) frd⟩ ((hl9.same z02).keep kp D11) ⟨t0, t1, k3 hrw ⟨rh, rc, rcd⟩, kp.tup D11 ht0, kp.tup D11 ht1⟩
    -- the turns
    refine ⟨8, rfl, by decide, by decide, for_range (lo := 0) (n := (8 : Int).toNat)
      (fun i σ H' => ∃ (v : Option V) (S' : St) (r' : Nat → List Int), σ = [some (.ref l), some (.ref dr), some (.ref x), some (.ref W.p), some (.ref rw), v] ∧ W.sh = x ∧ Lw K CS CD H' dr l rw W B S' r' xs) ⟨_, _, _, rfl, w2, A13⟩ ?_ ?_⟩
    · rintro i σ H' hi' ⟨v, S', r', rfl, w2, A'⟩
      refine ⟨_, rfl, _, rfl, _, rfl, dr, l, rw, W, B, S', r', xs, rfl, A', fun H'' S'' r'' A'' => ⟨_, rfl, ?_⟩⟩
      exact iteF ⟨_, _, _, rfl, w2, A''⟩
    · rintro σ H' ⟨v, S', r', rfl, w2, A'⟩
      refine ⟨_, rfl, W, B, S', 0, r', rfl, A'.d, A'.g, by decide, fun S6 H6 G6 bare6 _ D6 kp6 => ?_⟩
      refine ⟨_, rfl, W, B, S6, 1, 0, _, rfl, D6, G6, by decide, by decide, fun S7 H7 G7 z7 D7 kp7 => ?_⟩
      obtain ⟨c1, c2⟩ := z7 rfl
      have c0 : Bare B S7 0 := c2 0 (by decide) (by decide) bare6
      obtain ⟨dx, fs, e, u1, u2, u3, _⟩ := D7.ob
      obtain ⟨dxs, fss, es, v1, _⟩ := D7.sh.ob
      have hB := D7.hi
      refine ⟨_, rfl, W.p, CD, dx, fs, _, rfl, e, T.clDraft, T.na_counts, u3, (by show 1 ≤ sizeLine; decide), fun l1 nl1 => ?_⟩
      have s8 := same_new (o := HO.lst [V.int 0]) nl1
      rw [← w2]
      refine ⟨_, rfl, W.sh, CS, dxs, fss, _, rfl, s8 _ _ es, T.clShape, T.na_blocks, v1, l1, _, _, rfl, rfl, upd_same, by omega, by omega, ?_, fun rr nrr => ?_⟩
      · rw [Int.toNat_natCast]
        exact Nat.le_trans (show _ ≤ 200 by simp; omega) (by decide)
      have e0 : (List.replicate ((B : Int).toNat) [V.int 0]).flatten = (List.replicate B (0 : Int)).map V.int := by
        rw [rep_one, Int.toNat_natCast, List.map_replicate]
      have ec : ((List.range B).map fun b => V.int (S7.counts b)) = (List.replicate B (0 : Int)).map V.int := by
        rw [List.map_replicate]
        refine List.ext_getElem? fun i => ?_
        rw [List.getElem?_replicate, List.getElem?_map]
        by_cases h : i < B
        · rw [if_pos h, List.getElem?_range h]
          show some (V.int (S7.counts i)) = _
          rw [all_free G7.inv c0 c1 h]
        · rw [if_neg h, List.getElem?_eq_none (by rw [List.length_range]; omega)]; rfl
      have hcl := D7.counts
      rw [ec] at hcl
      rw [e0]
      have s9 := same_new (o := HO.lst ((List.replicate B (0 : Int)).map V.int)) nrr
      have hr9 : (upd (upd H7 l1 (.lst [V.int 0])) rr (.lst ((List.replicate B (0 : Int)).map V.int))) rr = some (.lst ((List.replicate B (0 : Int)).map V.int)) := upd_same
      have s89 := s8.trans s9
      refine ⟨.list ((List.replicate B (0 : Int)).map PyData.int), .list ((List.replicate B (0 : Int)).map PyData.int), .lst (SqL.of (s89 _ _ hcl)) (dpAll_ints _), .lst (SqL.of hr9) (dpAll_ints _), shaped_li _, shaped_li _, ?_⟩
      rw [eqv_li]
      have D9 := D7.same s89
      refine ⟨_, rfl, iteT ?_⟩
      refine ⟨_, rfl, W.p, CD, dx, fs, _, rfl, s89 _ _ e, T.clDraft, T.na_home, u2, _, rfl, W.hd, W.sh, B, 1, S7, rfl, D9.home, D9.sh, by decide, fun H10 q s10 _ hq => ?_⟩
      refine ⟨Nat.zero_le _, fun ee nee => ?_⟩
      have s11 := same_new (o := HO.lst []) nee
      have hq' : (upd H10 ee (.lst [])) q = some (.lst []) := by
        rw [bare_met c1] at hq
        exact s11 _ _ hq
      refine ⟨.list [], .list [], .lst (SqL.of hq') .nil, .lst (SqL.of upd_same) .nil, rfl, rfl, ?_⟩
      exact k _
end
theorem law_at {w : World} {K : PySem.W.Frag} {mg : Str → Option Value} {CS CD : Addr} {fa : Addr} {Pg : Program} (T : Tops K mg CS CD) (L : FunAt K mg "law" s_law) (hfa : mg "law" = some (.ref fa)) :
    ∃ fd : FuncData, (∀ (s : Shared) (u : Value), BindsTo s fd ⟨[u], []⟩ [("_law_script", u)]) ∧ ∀ base : Heap, K.In base → base.Ns mainGlobals mg → FnOk Pg w K mg base CX0 12 fa fd ["_law_script"] (spLaw K) := by
  obtain ⟨f, fd, F, m⟩ := L
  rw [hfa] at m
  cases m
  refine ⟨fd, ?_, fun base _ _ => ok_law T F⟩
  obtain ⟨oc, od, kV, doc, pm, an, cdv, ct, osl, rfl, lk, hcd⟩ := F.ex
  exact fun s v => .of_eq rfl
theorem sc_of {K : PySem.W.Frag} {H : Hp} {a : Addr} {ns : List Int} (hO : Only H) (h : SqL K H a (ns.map V.int)) : Sc K H a ns := by
  rcases h with (h | ⟨o, h⟩) | h
  · rcases hO a with z | ⟨o, ys, z⟩
    · rw [h] at z; cases z
    · rw [h] at z; cases z
  · exact .inl ⟨o, h⟩
  · exact .inr fun X => .inr h
end K51
set_option maxRecDepth 100000
open PySem PySem.W PyProof.Rows
set_option maxHeartbeats 0 in
open_top head for PySem.Challenge.rw_plugproof_k51_whole_numbers
set_option maxRecDepth 100000
open PySem PySem.W PyProof.Rows
set_option maxHeartbeats 0 in
theorem PySem.Challenge.cw_plugproof_k51_whole_numbers_holds : PySem.Challenge.rw_plugproof_k51_whole_numbers.Holds := by
  refine head ?_
  k_fill
  refine L2.walk_ofK (l := PySem.Challenge.rw_plugproof_k51_whole_numbers) (n := 63) (k := 12) (x := "_law_script") (CX := L2.CX0) (sp := K51.spLaw) rfl (by decide) rfl ⟨rfl, by decide, by decide⟩ (fun w h Y => PySem.W.kIn_of Y) ?F (fun K H a ns _ h2 h3 => ⟨a, ns, rfl, K51.sc_of h2 h3, fun _ => rfl⟩) (fun _ _ _ _ z => z)
  case F =>
    intro w mg fa h KX G hmg
    refine' K51.law_at (K51.Tops.mk ?x_clShape ?x_mgShape ?x_initShape ?x_na_dirs ?x_na_rows ?x_na_files ?x_na_blocks ?x_na_users ?x_na_first_row ?x_na_first_user ?x_na_first_file ?x_na_first_block ?x_na_plates ?x_m_user_cell ?x_m_file_plate ?x_m_block_plate ?x_m_empty_home ?x_clDraft ?x_mgDraft ?x_initDraft ?x_na_shape ?x_na_home ?x_na_counts ?x_na_pins ?x_na_changes ?x_m_put ?x_m_put_cell ?x_m_count ?x_m_put_count ?x_f_plates_for ?x_f_empty_plate ?x_f_size_at ?x_f_block_of ?x_f_pointers_at ?x_f_met_below ?x_f_met ?x_f_counts_of ?x_f_spot_of ?x_f_data_block ?x_f_numbers_at ?x_f_content_of ?x_f_is_free ?x_f_free_blocks ?x_f_take ?x_f_own ?x_f_share ?x_f_drop ?x_f_put_number ?x_f_own_spot ?x_f_own_data ?x_f_put_size ?x_f_parts_behind ?x_f_are_any ?x_f_far_place ?x_f_far_spots ?x_f_kept_spots ?x_f_drop_from ?x_f_drop_parts ?x_f_clear_tail ?x_f_grow ?x_f_cut ?x_f_write ?x_f_empty_file ?x_f_drop_file ?x_f_share_file ?x_f_law_number ?x_f_law_take ?x_f_law_pick ?x_f_law_some ?x_f_law_written ?x_f_law_step ?x_f_is_whole ?x_z_len ?x_z_range ?x_z_min ?x_z_max ?x_z_int ?x_z_any ?x_z_zip ?x_z_list ?x_z_tuple ?x_z_dict ?x_z_abs ?x_z_isinstance ?x_z_bool ?x_c_WIDTH ?x_c_DIRECT ?x_c_MOST_SIZE) ?fLaw hmg
    case x_mgShape =>
      refine' PySem.W.mg_of KX G ?a
      (case a => k_is)
    case x_mgDraft =>
      refine' PySem.W.mg_of KX G ?a
      (case a => k_is)
    case x_clShape =>
      refine' ⟨?pg, ?hd, ?po, ?sa⟩
      (case pg => k_is)
      (case hd => k_is)
      (case po => k_is)
      (case sa => k_is)
    case x_initShape =>
      refine' K51.initAt_mk ?mk ?a ?i ?kc ?l ?c ?k
      (case mk => k_is)
      (case a => k_is)
      (case i => k_is)
      (case kc => k_is)
      (case l => k_is)
      (case c => k_is)
      (case k => k_is)
    case x_na_dirs =>
      show PySem.W.findIn _ _ _ = some none
      k_is
    case x_na_rows =>
      show PySem.W.findIn _ _ _ = some none
      k_is
    case x_na_files =>
      show PySem.W.findIn _ _ _ = some none
      k_is
    case x_na_blocks =>
      show PySem.W.findIn _ _ _ = some none
      k_is
    case x_na_users =>
      show PySem.W.findIn _ _ _ = some none
      k_is
    case x_na_first_row =>
      show PySem.W.findIn _ _ _ = some none
      k_is
    case x_na_first_user =>
      show PySem.W.findIn _ _ _ = some none
      k_is
    case x_na_first_file =>
      show PySem.W.findIn _ _ _ = some none
      k_is
    case x_na_first_block =>
      show PySem.W.findIn _ _ _ = some none
      k_is
    case x_na_plates =>
      show PySem.W.findIn _ _ _ = some none
      k_is
    case x_m_user_cell =>
      refine' K51.methAt_mk ?a ?i ?l ?c ?k
      (case a => k_is)
      (case i => k_is)
      (case l => k_is)
      (case c => k_is)
      (case k => k_is)
    case x_m_file_plate =>
      refine' K51.methAt_mk ?a ?i ?l ?c ?k
      (case a => k_is)
      (case i => k_is)
      (case l => k_is)
      (case c => k_is)
      (case k => k_is)
    case x_m_block_plate =>
      refine' K51.methAt_mk ?a ?i ?l ?c ?k
      (case a => k_is)
      (case i => k_is)
      (case l => k_is)
      (case c => k_is)
      (case k => k_is)
    case x_m_empty_home =>
      refine' K51.methAt_mk ?a ?i ?l ?c ?k
      (case a => k_is)
      (case i => k_is)
      (case l => k_is)
      (case c => k_is)
      (case k => k_is)
    case x_clDraft =>
      refine' ⟨?pg, ?hd, ?po, ?sa⟩
      (case pg => k_is)
      (case hd => k_is)
      (case po => k_is)
      (case sa => k_is)
    case x_initDraft =>
      refine' K51.initAt_mk ?mk ?a ?i ?kc ?l ?c ?k
      (case mk => k_is)
      (case a => k_is)
      (case i => k_is)
      (case kc => k_is)
      (case l => k_is)
      (case c => k_is)
      (case k => k_is)
    case x_na_shape =>
      show PySem.W.findIn _ _ _ = some none
      k_is
    case x_na_home =>
      show PySem.W.findIn _ _ _ = some none
      k_is
    case x_na_counts =>
      show PySem.W.findIn _ _ _ = some none
      k_is
    case x_na_pins =>
      show PySem.W.findIn _ _ _ = some none
      k_is
    case x_na_changes =>
      show PySem.W.findIn _ _ _ = some none
      k_is
    case x_m_put =>
      refine' K51.methAt_mk ?a ?i ?l ?c ?k
      (case a => k_is)
      (case i => k_is)
      (case l => k_is)
      (case c => k_is)
      (case k => k_is)
    case x_m_put_cell =>
      refine' K51.methAt_mk ?a ?i ?l ?c ?k
      (case a => k_is)
      (case i => k_is)
      (case l => k_is)
      (case c => k_is)
      (case k => k_is)
    case x_m_count =>
      refine' K51.methAt_mk ?a ?i ?l ?c ?k
      (case a => k_is)
      (case i => k_is)
      (case l => k_is)
      (case c => k_is)
      (case k => k_is)
    case x_m_put_count =>
      refine' K51.methAt_mk ?a ?i ?l ?c ?k
      (case a => k_is)
      (case i => k_is)
      (case l => k_is)
      (case c => k_is)
      (case k => k_is)
    case x_f_plates_for =>
      refine' K51.funAt_mk KX G ?a ?l ?c ?k
      (case a => k_is)
      (case l => k_is)
      (case c => k_is)
      (case k => k_is)
    case x_f_empty_plate =>
      refine' K51.funAt_mk KX G ?a ?l ?c ?k
      (case a => k_is)
      (case l => k_is)
      (case c => k_is)
      (case k => k_is)
    case x_f_size_at =>
      refine' K51.funAt_mk KX G ?a ?l ?c ?k
      (case a => k_is)
      (case l => k_is)
      (case c => k_is)
      (case k => k_is)
    case x_f_block_of =>
      refine' K51.funAt_mk KX G ?a ?l ?c ?k
      (case a => k_is)
      (case l => k_is)
      (case c => k_is)
      (case k => k_is)
    case x_f_pointers_at =>
      refine' K51.funAt_mk KX G ?a ?l ?c ?k
      (case a => k_is)
      (case l => k_is)
      (case c => k_is)
      (case k => k_is)
    case x_f_met_below =>
      refine' K51.funAt_mk KX G ?a ?l ?c ?k
      (case a => k_is)
      (case l => k_is)
      (case c => k_is)
      (case k => k_is)
    case x_f_met =>
      refine' K51.funAt_mk KX G ?a ?l ?c ?k
      (case a => k_is)
      (case l => k_is)
      (case c => k_is)
      (case k => k_is)
    case x_f_counts_of =>
      refine' K51.funAt_mk KX G ?a ?l ?c ?k
      (case a => k_is)
      (case l => k_is)
      (case c => k_is)
      (case k => k_is)
    case x_f_spot_of =>
      refine' K51.funAt_mk KX G ?a ?l ?c ?k
      (case a => k_is)
      (case l => k_is)
      (case c => k_is)
      (case k => k_is)
    case x_f_data_block =>
      refine' K51.funAt_mk KX G ?a ?l ?c ?k
      (case a => k_is)
      (case l => k_is)
      (case c => k_is)
      (case k => k_is)
    case x_f_numbers_at =>
      refine' K51.funAt_mk KX G ?a ?l ?c ?k
      (case a => k_is)
      (case l => k_is)
      (case c => k_is)
      (case k => k_is)
    case x_f_content_of =>
      refine' K51.funAt_mk KX G ?a ?l ?c ?k
      (case a => k_is)
      (case l => k_is)
      (case c => k_is)
      (case k => k_is)
    case x_f_is_free =>
      refine' K51.funAt_mk KX G ?a ?l ?c ?k
      (case a => k_is)
      (case l => k_is)
      (case c => k_is)
      (case k => k_is)
    case x_f_free_blocks =>
      refine' K51.funAt_mk KX G ?a ?l ?c ?k
      (case a => k_is)
      (case l => k_is)
      (case c => k_is)
      (case k => k_is)
    case x_f_take =>
      refine' K51.funAt_mk KX G ?a ?l ?c ?k
      (case a => k_is)
      (case l => k_is)
      (case c => k_is)
      (case k => k_is)
    case x_f_own =>
      refine' K51.funAt_mk KX G ?a ?l ?c ?k
      (case a => k_is)
      (case l => k_is)
      (case c => k_is)
      (case k => k_is)
    case x_f_share =>
      refine' K51.funAt_mk KX G ?a ?l ?c ?k
      (case a => k_is)
      (case l => k_is)
      (case c => k_is)
      (case k => k_is)
    case x_f_drop =>
      refine' K51.funAt_mk KX G ?a ?l ?c ?k
      (case a => k_is)
      (case l => k_is)
      (case c => k_is)
      (case k => k_is)
    case x_f_put_number =>
      refine' K51.funAt_mk KX G ?a ?l ?c ?k
      (case a => k_is)
      (case l => k_is)
      (case c => k_is)
      (case k => k_is)
    case x_f_own_spot =>
      refine' K51.funAt_mk KX G ?a ?l ?c ?k
      (case a => k_is)
      (case l => k_is)
      (case c => k_is)
      (case k => k_is)
    case x_f_own_data =>
      refine' K51.funAt_mk KX G ?a ?l ?c ?k
      (case a => k_is)
      (case l => k_is)
      (case c => k_is)
      (case k => k_is)
    case x_f_put_size =>
      refine' K51.funAt_mk KX G ?a ?l ?c ?k
      (case a => k_is)
      (case l => k_is)
      (case c => k_is)
      (case k => k_is)
    case x_f_parts_behind =>
      refine' K51.funAt_mk KX G ?a ?l ?c ?k
      (case a => k_is)
      (case l => k_is)
      (case c => k_is)
      (case k => k_is)
    case x_f_are_any =>
      refine' K51.funAt_mk KX G ?a ?l ?c ?k
      (case a => k_is)
      (case l => k_is)
      (case c => k_is)
      (case k => k_is)
    case x_f_far_place =>
      refine' K51.funAt_mk KX G ?a ?l ?c ?k
      (case a => k_is)
      (case l => k_is)
      (case c => k_is)
      (case k => k_is)
    case x_f_far_spots =>
      refine' K51.funAt_mk KX G ?a ?l ?c ?k
      (case a => k_is)
      (case l => k_is)
      (case c => k_is)
      (case k => k_is)
    case x_f_kept_spots =>
      refine' K51.funAt_mk KX G ?a ?l ?c ?k
      (case a => k_is)
      (case l => k_is)
      (case c => k_is)
      (case k => k_is)
    case x_f_drop_from =>
      refine' K51.funAt_mk KX G ?a ?l ?c ?k
      (case a => k_is)
      (case l => k_is)
      (case c => k_is)
      (case k => k_is)
    case x_f_drop_parts =>
      refine' K51.funAt_mk KX G ?a ?l ?c ?k
      (case a => k_is)
      (case l => k_is)
      (case c => k_is)
      (case k => k_is)
    case x_f_clear_tail =>
      refine' K51.funAt_mk KX G ?a ?l ?c ?k
      (case a => k_is)
      (case l => k_is)
      (case c => k_is)
      (case k => k_is)
    case x_f_grow =>
      refine' K51.funAt_mk KX G ?a ?l ?c ?k
      (case a => k_is)
      (case l => k_is)
      (case c => k_is)
      (case k => k_is)
    case x_f_cut =>
      refine' K51.funAt_mk KX G ?a ?l ?c ?k
      (case a => k_is)
      (case l => k_is)
      (case c => k_is)
      (case k => k_is)
    case x_f_write =>
      refine' K51.funAt_mk KX G ?a ?l ?c ?k
      (case a => k_is)
      (case l => k_is)
      (case c => k_is)
      (case k => k_is)
    case x_f_empty_file =>
      refine' K51.funAt_mk KX G ?a ?l ?c ?k
      (case a => k_is)
      (case l => k_is)
      (case c => k_is)
      (case k => k_is)
    case x_f_drop_file =>
      refine' K51.funAt_mk KX G ?a ?l ?c ?k
      (case a => k_is)
      (case l => k_is)
      (case c => k_is)
      (case k => k_is)
    case x_f_share_file =>
      refine' K51.funAt_mk KX G ?a ?l ?c ?k
      (case a => k_is)
      (case l => k_is)
      (case c => k_is)
      (case k => k_is)
    case x_f_law_number =>
      refine' K51.funAt_mk KX G ?a ?l ?c ?k
      (case a => k_is)
      (case l => k_is)
      (case c => k_is)
      (case k => k_is)
    case x_f_law_take =>
      refine' K51.funAt_mk KX G ?a ?l ?c ?k
      (case a => k_is)
      (case l => k_is)
      (case c => k_is)
      (case k => k_is)
    case x_f_law_pick =>
      refine' K51.funAt_mk KX G ?a ?l ?c ?k
      (case a => k_is)
      (case l => k_is)
      (case c => k_is)
      (case k => k_is)
    case x_f_law_some =>
      refine' K51.funAt_mk KX G ?a ?l ?c ?k
      (case a => k_is)
      (case l => k_is)
      (case c => k_is)
      (case k => k_is)
    case x_f_law_written =>
      refine' K51.funAt_mk KX G ?a ?l ?c ?k
      (case a => k_is)
      (case l => k_is)
      (case c => k_is)
      (case k => k_is)
    case x_f_law_step =>
      refine' K51.funAt_mk KX G ?a ?l ?c ?k
      (case a => k_is)
      (case l => k_is)
      (case c => k_is)
      (case k => k_is)
    case x_f_is_whole =>
      refine' K51.funAt2_mk KX G ?a ?l ?c ?k ?dl ?dd
      (case a => k_is)
      (case l => k_is)
      (case c => k_is)
      (case k => k_is)
      (case dl => k_is)
      (case dd => rfl)
    case x_z_len =>
      refine' PySem.W.mg_none_of KX G ?a
      (case a => k_is)
    case x_z_range =>
      refine' PySem.W.mg_none_of KX G ?a
      (case a => k_is)
    case x_z_min =>
      refine' PySem.W.mg_none_of KX G ?a
      (case a => k_is)
    case x_z_max =>
      refine' PySem.W.mg_none_of KX G ?a
      (case a => k_is)
    case x_z_int =>
      refine' PySem.W.mg_none_of KX G ?a
      (case a => k_is)
    case x_z_any =>
      refine' PySem.W.mg_none_of KX G ?a
      (case a => k_is)
    case x_z_zip =>
      refine' PySem.W.mg_none_of KX G ?a
      (case a => k_is)
    case x_z_list =>
      refine' PySem.W.mg_none_of KX G ?a
      (case a => k_is)
    case x_z_tuple =>
      refine' PySem.W.mg_none_of KX G ?a
      (case a => k_is)
    case x_z_dict =>
      refine' PySem.W.mg_none_of KX G ?a
      (case a => k_is)
    case x_z_abs =>
      refine' PySem.W.mg_none_of KX G ?a
      (case a => k_is)
    case x_z_isinstance =>
      refine' PySem.W.mg_none_of KX G ?a
      (case a => k_is)
    case x_z_bool =>
      refine' PySem.W.mg_none_of KX G ?a
      (case a => k_is)
    case x_c_WIDTH =>
      refine' K51.const_mk KX G ?a
      (case a => k_is)
    case x_c_DIRECT =>
      refine' K51.const_mk KX G ?a
      (case a => k_is)
    case x_c_MOST_SIZE =>
      refine' K51.const_mk KX G ?a
      (case a => k_is)
    case fLaw =>
      refine' K51.funAt_mk KX G ?a ?l ?c ?k
      (case a => k_is)
      (case l => k_is)
      (case c => k_is)
      (case k => k_is)
#print axioms PySem.Challenge.cw_plugproof_k51_whole_numbers_holds
