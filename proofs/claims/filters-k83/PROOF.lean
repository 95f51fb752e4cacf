import PyProof.Rows.All
import Wide.All
import OpenK.AllK
import Wide.FinOn
import HandS.ForMost
import HandS.Star
import HandS.Zip
import HandS.TupAny
import HandS.IsInst
import HandS.Gcd
import HandS.Deep
import KE.GoesEnum
import HandS.Evl
import HandS.Style
import PySem.Challenge.RW_coilnets_k83_whole_conditions_of_filters
section
set_option Elab.async false
set_option linter.all false
set_option maxRecDepth 100000
set_option maxHeartbeats 4000000
/-! Further rules over the hand layer: great ints, enumerate of a tuple, slices with a step, xs[i] op= e, isinstance of tuples. -/
namespace Lx
open PySem PySem.Spec PyProof.Rows L2

/-! ### great ints -/
def CMulA (i j : Int) : Prop := i.natAbs.log2 + j.natAbs.log2 < 134217000
theorem CMulA.ok {i j : Int} (h : CMulA i j) : IntMulOk i j := by
  have b : ∀ x : Int, Builtin.Int.intBits x ≤ x.natAbs.log2 + 1 := fun x => by
    unfold Builtin.Int.intBits
    split <;> omega
  have h1 := b i
  have h2 := b j
  have h3 : i.natAbs.log2 + j.natAbs.log2 < 134217000 := h
  have e : bitsLine = 134217728 := by decide
  unfold IntMulOk
  intro z
  rw [Bool.and_eq_true] at z
  have z2 := z.2
  unfold Builtin.Int.intTooBig at z2
  have z3 := of_decide_eq_true z2
  rw [e] at z3
  omega
section
variable {X : Cx}
theorem op_mulA : OpR X (binaryOp .Mult) (rI CMulA fun i j => .int (i * j)) := opI fun _ _ _ _ _ _ _ hc q => mul_int q hc.ok

/-- what // of great ints asks of the place -/
structure Sees (X : Cx) : Prop where
  base : X.base.NoSeer
  tree : X.prog.given.tree = none
  room : X.A.depth + Builtin.pylongFrames < recursionLimit
  stk : ∃ env l, X.stack = env :: l ∧ env.scope.isGenerator = false ∧ env.scope.isCoroutine = false ∧ env.builtins = builtinsNs ∧ env.globals = mainGlobals
theorem Sees.room_at (S : Sees X) {pins : List (Addr × Obj)} {σ : L2.St} {H : Hp} {s : Shared} (I : Inv X pins σ H s) : PylongRoom (model X.prog X.w) X.A s := by
  obtain ⟨env, l, e, g1, g2, g3, g4⟩ := S.stk
  refine PylongRoom.of I.nolimit S.room ?_
  refine SeerAt.of (S.base.keeps I.bk) S.tree (env := env) (l := l) ?_ g1 g2 g3 g4
  rw [I.ok.frames, e]
theorem op_fdivA (S : Sees X) : OpR X (binaryOp .FloorDiv) (rI (fun _ j => j ≠ 0) fun i j => .int (i.fdiv j)) := by
  intro pins s σ H x y v u Q I rx ry h
  obtain ⟨i, j, rfl, rfl, hc, q⟩ := h
  obtain ⟨t, rfl⟩ := rx
  obtain ⟨t', rfl⟩ := ry
  exact floordiv_int hc ⟨.int (i.fdiv j), H, I.tok _, ⟨_, rfl⟩, q⟩ (.inr (S.room_at I))
/-- in a comprehension's block -/
theorem Sees.blk (S : Sees X) {s : Shared} {H : Hp} {scope : Scope} {cenv : Env} {fp : List Addr} : Sees (X.blk s H scope cenv fp) := ⟨S.base, S.tree, S.room, S.stk⟩

/-! ### o[i] by values, for xs[i] op= e -/
def rGetL (K : PySem.W.Frag) : V → V → Hp → VK → Prop := fun x y H Q => ∃ p xs j v, x = .ref p ∧ y = .int ((j : Nat) : Int) ∧ SqL K H p xs ∧ xs[j]? = some v ∧ Q v H
theorem pget_list : PGet X (rGetL X.K) := by
  intro pins s σ H x y v u Q I rx ry h
  obtain ⟨p, xs, j, z, rfl, rfl, hq, he, q⟩ := h
  cases rx
  obtain ⟨t, rfl⟩ := ry
  obtain ⟨its, rv, hl, hz⟩ := I.list hq
  obtain ⟨w, hw, rw'⟩ := rv.get he
  have hlen := rv.length
  have hj := (List.getElem?_eq_some_iff.mp he).1
  have hs : sizeLine = 16777216 := sizeLine_eq
  exact wpAny_getItem_list hl.isList (by omega) (by omega) (by simpa using hw) ⟨z, H, I, rw', q⟩
/-- xs[i] op= e, two ints -/
def rSetLn : TSet := fun o i v H Q => ∃ l xs j, o = .ref l ∧ i = .int ((j : Nat) : Int) ∧ H l = some (.lst xs) ∧ j < xs.length ∧ Q (upd H l (.lst (xs.set j v)))
theorem set_listN : PSet X rSetLn := by
  intro pins s σ H o i v ov iv u Q I ro ri rv h
  obtain ⟨l, xs, j, rfl, rfl, hH, hj, q⟩ := h
  exact set_list pins s σ H _ _ v ov iv u Q I ro ri rv ⟨l, xs, (j : Int), j, rfl, rfl, hH, by
    unfold ixN
    rw [if_pos (by omega), if_pos (by omega)]
    simp, q⟩

/-! ### isinstance of tuples -/
theorem tyx_tup {K : PySem.W.Frag} {H : Hp} {a : Addr} {xs : List V} (h : SqT K H a xs) : TyX K H (.ref a) (.type "tuple") := by
  rcases h with (h | ⟨o, h⟩) | ⟨o, its, n, hk, hc, _⟩
  · exact .base (.tup h)
  · exact .fTuple h
  · exact .kTuple hk hc
/-- isinstance(x, T): x of the type T -/
def rIsTup (K : PySem.W.Frag) : List V → Hp → VK → Prop := fun xs H Q => ∃ (a : Addr) (ys : List V), xs = [.ref a, .ty "tuple"] ∧ SqT K H a ys ∧ Q (.bl true) H
theorem call_isTup : CallR X (.builtin "isinstance") (rIsTup X.K) := by
  intro pins s σ H xs us Q I r h
  obtain ⟨a, ys, rfl, hs, q⟩ := h
  exact call_isi pins s σ H _ us Q I r ⟨.ref a, .ty "tuple", .type "tuple", .type "tuple", true, rfl, .ty "tuple", tyx_tup hs, by rfl, q⟩
def rIsInt : List V → Hp → VK → Prop := fun xs H Q => ∃ (i : Int), (xs = [.int i, .ty "int"] ∧ Q (.bl true) H) ∨ (xs = [.int i, .ty "bool"] ∧ Q (.bl false) H)
theorem call_isInt : CallR X (.builtin "isinstance") rIsInt := by
  intro pins s σ H xs us Q I r h
  obtain ⟨i, ⟨rfl, q⟩ | ⟨rfl, q⟩⟩ := h
  · exact call_isi pins s σ H _ us Q I r ⟨.int i, .ty "int", .type "int", .type "int", true, rfl, .ty "int", .base (.int i), by rfl, q⟩
  · exact call_isi pins s σ H _ us Q I r ⟨.int i, .ty "bool", .type "int", .type "bool", false, rfl, .ty "bool", .base (.int i), by rfl, q⟩
def rIsStr : List V → Hp → VK → Prop := fun xs H Q => ∃ (z : Str), xs = [.str z, .ty "str"] ∧ Q (.bl true) H
theorem call_isStr : CallR X (.builtin "isinstance") rIsStr := by
  intro pins s σ H xs us Q I r h
  obtain ⟨z, rfl, q⟩ := h
  exact call_isi pins s σ H _ us Q I r ⟨.str z, .ty "str", .type "str", .type "str", true, rfl, .ty "str", .base (.str z), by rfl, q⟩
end

/-! ### t[lo:hi:step], the step written and not 1 -/
def stepAt (n : Nat) (lo hi : Option Int) (st : Int) : Int × Nat := ((Builtin.Slice.sliceAdjust lo hi st (n : Int)).1, Builtin.Slice.slicePlaces (Builtin.Slice.sliceAdjust lo hi st (n : Int)).1 (Builtin.Slice.sliceAdjust lo hi st (n : Int)).2 st)
def pickS {α : Type} (xs : List α) (lo st : Int) (k : Nat) : List α := (List.range k).filterMap fun (m : Nat) => xs[(lo + (m : Int) * st).toNat]?
theorem pickS_len {α : Type} (xs : List α) (lo st : Int) (k : Nat) : (pickS xs lo st k).length ≤ k := by
  unfold pickS
  have h := List.length_filterMap_le (fun (m : Nat) => xs[(lo + (m : Int) * st).toNat]?) (List.range k)
  rw [List.length_range] at h
  exact h
theorem vals_pick {xs : List V} {us : List Value} (r : Vals xs us) (lo st : Int) : ∀ (l : List Nat), Vals (l.filterMap fun (m : Nat) => xs[(lo + (m : Int) * st).toNat]?) (l.filterMap fun (m : Nat) => us[(lo + (m : Int) * st).toNat]?)
  | [] => .nil
  | m :: l => by
    have ih := vals_pick r lo st l
    rw [List.filterMap_cons, List.filterMap_cons]
    cases e : xs[(lo + (m : Int) * st).toNat]? with
    | none =>
      rw [r.none_of e]
      exact ih
    | some x =>
      obtain ⟨u, hu, ru⟩ := r.get e
      rw [hu]
      exact .cons ru ih
section
variable {prog : Program} {w : World} {A : Around} {E : Value → Shared → Prop} {s : Shared}
theorem sliceApplied_st {sl : Addr} {vl vu vs : Value} {lo hi : Option Int} {st : Int} {n : Nat} {Q : Int × Int × Nat → Shared → Prop} (hs : s.heap.IsSliceOf sl vl vu vs) (pl : IsPart vl lo) (pu : IsPart vu hi) (ps : IsPart vs (some st)) (h0 : st ≠ 0)
    (h : Q ((stepAt n lo hi st).1, st, (stepAt n lo hi st).2) s) : wpAny (model prog w) A (Builtin.Slice.sliceApplied (.ref sl) (pure (n : Int))) Q E s := by
  obtain ⟨os, hos, hcs, hds⟩ := id hs
  unfold Builtin.Slice.sliceApplied Builtin.Slice.sliceFields
  refine wpAny_bind (wpAny_bind (wpAny_field hos hds (x := vl) rfl (wpAny_bind (wpAny_field hos hds (x := vu) rfl (wpAny_bind (wpAny_field hos hds (x := vs) rfl (wpAny_pure ?_)))))))
  refine wpAny_bind (HT.slicePart_ ps ?_)
  show wpAny _ _ (if (st == 0) = true then _ else _) _ _ s
  rw [if_neg (by simpa using h0)]
  refine wpAny_bind (HT.slicePart_ pl (wpAny_bind (HT.slicePart_ pu (wpAny_bind (wpAny_pure ?_)))))
  exact wpAny_pure h
theorem getItem_tuple_st {t sl : Addr} {items : Array Value} {vl vu vs : Value} {lo hi : Option Int} {st : Int} {Q : Value → Shared → Prop} (ht : IsTup s.heap t items) (hs : s.heap.IsSliceOf sl vl vu vs) (pl : IsPart vl lo) (pu : IsPart vu hi) (ps : IsPart vs (some st))
    (h0 : st ≠ 0) (h1 : st ≠ 1) (hz : (pickS items.toList (stepAt items.size lo hi st).1 st (stepAt items.size lo hi st).2).length ≤ sizeLine)
    (h : Q (.ref s.heap.objs.size) { s with heap := s.heap.push { cls := .type "tuple", data := .seq (pickS items.toList (stepAt items.size lo hi st).1 st (stepAt items.size lo hi st).2).toArray } }) : wpAny (model prog w) A (getItem (.ref t) (.ref sl)) Q E s := by
  have htake : sizeOk (.seq (pickS items.toList (stepAt items.size lo hi st).1 st (stepAt items.size lo hi st).2).toArray) := by
    show (pickS items.toList (stepAt items.size lo hi st).1 st (stepAt items.size lo hi st).2).toArray.size ≤ sizeLine
    rw [List.size_toArray]
    exact hz
  obtain ⟨os, hos, hcs, hds⟩ := id hs
  have hTs : s.TypeIs (.ref sl) "slice" := ⟨os, hos, hcs⟩
  unfold getItem
  try with_reducible refine wpAny_holding ?_
  first | refine wpAny_bind (wpAny_pure ?_) | skip
  refine wpAny_bind (wpAny_sequenceKey ht.typeIs (by decide) ?_)
  refine wpAny_bind (wpAny_callSpecial?_slot (name := Str.ofString "__getitem__") ht.typeIs PyProof.Rows.slot_tuple_getitem
    (wpAny_call_entry PyProof.Rows.slot_tuple_getitem ht.typeIs entry_tuple_getitem ?_ (args_tuple_getitem _ _)))
  show wpAny _ _ (Builtin.Tuple.tupleItemsOf (.ref t) >>= _) _ _ s
  refine wpAny_bind (tupleItemsOf_ ht ?_)
  refine wpAny_bind (wpAny_typeOf hTs ?_)
  rw [if_pos (by decide)]
  refine wpAny_bind (sliceApplied_st hs pl pu ps h0 ?_)
  have hno : ¬ (((stepAt items.size lo hi st).1 == 0 && st == 1 && (stepAt items.size lo hi st).2 == items.size) = true) := by
    intro q
    rw [Bool.and_eq_true, Bool.and_eq_true] at q
    exact h1 (eq_of_beq q.1.2)
  show wpAny _ _ (if ((stepAt items.size lo hi st).1 == 0 && st == 1 && (stepAt items.size lo hi st).2 == items.size) = true then _ else _) _ _ s
  rw [if_neg hno]
  have e : ((List.range (stepAt items.size lo hi st).2).filterMap fun (m : Nat) => items[((stepAt items.size lo hi st).1 + (m : Int) * st).toNat]?).toArray = (pickS items.toList (stepAt items.size lo hi st).1 st (stepAt items.size lo hi st).2).toArray := by
    unfold pickS
    simp only [Array.getElem?_toList]
  rw [e]
  first
    | exact wpAny_bind (m := Builtin.Tuple.tupleExact _) (wpAny_newObj_type (wpAny_pure ⟨_, rfl, wpAny_pure h⟩) htake)
    | exact wpAny_bind (m := Builtin.Tuple.tupleExact _) (wpAny_newObj_type (wpAny_bind (wpAny_pure (wpAny_pure ⟨_, rfl, wpAny_pure h⟩))) htake)
    | exact wpAny_bind (wpAny_bind (m := Builtin.Tuple.tupleExact _) (wpAny_newObj_type (wpAny_pure (wpAny_pure ⟨_, rfl, wpAny_pure h⟩)) htake))
    | exact wpAny_bind (wpAny_bind (m := Builtin.Tuple.tupleExact _) (wpAny_newObj_type (wpAny_pure ⟨_, rfl, wpAny_pure h⟩) htake))
end
section
variable {X : Cx}
def tSlS (K : PySem.W.Frag) (te : TE) (tl th : TO) (ts : TO) : TE := fun σ H Q => te σ H fun x H1 => tl σ H1 fun l H2 => th σ H2 fun u H3 => ts σ H3 fun s H4 => ∃ a xs st, x = .ref a ∧ SqT K H4 a xs ∧ s = some st ∧ st ≠ 0 ∧ st ≠ 1 ∧
  (stepAt xs.length l u st).2 ≤ sizeLine ∧ ∀ p, H4 p = none → Q (.ref p) (upd H4 p (.tup (pickS xs (stepAt xs.length l u st).1 st (stepAt xs.length l u st).2)))
theorem pe_sliceS {e : Expr} {te : TE} {lo hi : Option Expr} {se : Expr} {tl th ts : TO} {pos p2 : Pos} (he : PE X e te) (hl : PO X lo tl) (hu : PO X hi th) (hst : PO X (some se) ts) : PE X (.Subscript e (.Slice lo hi (some se) p2) pos) (tSlS X.K te tl th ts) := by
  refine ⟨fun pins s σ H Q I h => ?_⟩
  refine Subscript_ (thn (he.run pins s σ H _ I h) fun v s1 ⟨x, H1, I1, r1, q1⟩ => ?_)
  refine wpAny_Slice (thn (hl.run pins s1 σ H1 _ I1 q1) fun vl s2 ⟨l, H2, I2, pl, q2⟩ => thn (hu.run pins s2 σ H2 _ I2 q2) fun vu s3 ⟨u, H3, I3, pu, q3⟩ => ?_)
  refine thn (hst.run pins s3 σ H3 _ I3 q3) fun vs s4 ⟨st0, H4, I4, ps, q4⟩ => ?_
  obtain ⟨a, xs, st, rfl, hq, rfl, h0, h1, hk, q⟩ := q4
  cases r1
  have I5 : Inv X pins σ H4 { s4 with heap := s4.heap.push { cls := .type "slice", data := .fields #[vl, vu, vs] } } := I4.kept (t' := s4.toks) fun b ob q => Heap.get?_push_of_some _ q
  obtain ⟨its, r, ht, hz⟩ := I5.tuple hq
  have hlen : its.toArray.size = xs.length := by rw [List.size_toArray]; exact r.length.symm
  have hpl : (pickS its (stepAt xs.length l u st).1 st (stepAt xs.length l u st).2).length ≤ sizeLine := Nat.le_trans (pickS_len ..) hk
  refine tail_any (ops := [.ref a, .ref s4.heap.objs.size]) ht.typeIs PyProof.Rows.slot_tuple_getitem.lookup ?_ (by with_unfolding_all rfl)
  refine getItem_tuple_st (s := { s4 with heap := s4.heap.push { cls := .type "slice", data := .fields #[vl, vu, vs] } }) ht (Heap.IsSliceOf.new ..) pl pu ps h0 h1 ?_ ?_
  · rw [hlen]
    exact hpl
  · rw [hlen]
    have hf := I5.hok.fresh (Nat.le_refl _)
    refine ⟨.ref _, _, I5.laid (t' := s4.toks) (o := .tup (pickS xs (stepAt xs.length l u st).1 st (stepAt xs.length l u st).2)) (fun b ob q => Heap.get?_push_of_some _ q) (Nat.le_refl _) ?_, rfl, q _ hf⟩
    exact ⟨Nat.le_trans (pickS_len ..) hk, _, vals_pick r _ _ _, IsTup.new _ _⟩
end

/-! ### enumerate(t), t a tuple -/
theorem meets_enumerate_newT (l : Addr) (items : Array Value) :
    Meets (Builtin.«enumerate.__new__» ⟨[.type "enumerate", .ref l], []⟩) (fun _ R s => s.heap.IsTuple l items ∧
      R (.ok (.ret (.ref (s.heap.push { cls := .type "tuple_iterator", data := .fields #[.ref l, .int 0 0] }).objs.size)))
        { s with heap := (s.heap.push { cls := .type "tuple_iterator", data := .fields #[.ref l, .int 0 0] }).push { cls := .type "enumerate", data := .fields #[.none, .bool false, .ref s.heap.objs.size, rawInt 0, .none, .none] } }) :=
  .of_wp fun prog w A R s h => by
    obtain ⟨hp, g, d, tk, os⟩ := s; obtain ⟨hl, h⟩ := h
    have hsub := sub_enumerate
    have q1 : ∀ {A' : Around} {E : Value → Shared → Prop} {Q : Value → Shared → Prop}, Q (.ref hp.objs.size) ⟨(hp.push { cls := .type "tuple_iterator", data := .fields #[.ref l, .int 0 0] }), g, d, tk, os⟩ → wpAny (model prog w) A' (pyIter (.ref l)) Q E ⟨hp, g, d, tk, os⟩ :=
      fun q => wpAny_pyIter_tuple (s := ⟨hp, g, d, tk, os⟩) hl q
    obtain ⟨o, ho, hc, n, hd⟩ := id hl
    wp_walk
    refine wpAny_stack_any fun st => wpAny_pure ?_
    split
    · rename_i c _ _ _ _ _
      cases (c == Value.type "enumerate")
      · wp_walk using q1
        exact ⟨_, rfl, h⟩
      · wp_walk using q1
        exact ⟨_, rfl, h⟩
    · wp_walk using q1
      exact ⟨_, rfl, h⟩
section
variable {prog : Program} {w : World} {A : Around} {E : Value → Shared → Prop} {s : Shared}
theorem call_enumerate_tuple {l : Addr} {items : Array Value} {Q : Value → Shared → Prop} (hL : s.heap.IsTuple l items)
    (h : ∀ h', IsEnum h' (s.heap.objs.size + 1) s.heap.objs.size 0 .none → h'.IsTupleIter s.heap.objs.size l 0 → h'.objs.size = s.heap.objs.size + 2 →
      (∀ b o, s.heap.get? b = some o → h'.get? b = some o) → Q (.ref (s.heap.objs.size + 1)) { s with heap := h' }) :
    wpAny (model prog w) A (call (.type "enumerate") [.ref l]) Q E s := by
  refine callType_new F.called_enumerate (by decide) (F.typeCall_enumerate_1 _) (F.newCall_enumerate_1 _) (fun obj => F.args_object_init_2 obj _) F.entry_enumerate_new
    (meets_enumerate_newT l items) ⟨hL, ?_⟩
  have hz : (s.heap.push { cls := .type "tuple_iterator", data := .fields #[.ref l, .int 0 0] }).objs.size = s.heap.objs.size + 1 := Heap.size_push ..
  show _ ∧ _
  rw [hz]
  have he : IsEnum ((s.heap.push { cls := .type "tuple_iterator", data := .fields #[.ref l, .int 0 0] }).push
      { cls := .type "enumerate", data := .fields #[.none, .bool false, .ref s.heap.objs.size, rawInt 0, .none, .none] }) (s.heap.objs.size + 1) s.heap.objs.size 0 .none := by
    have := Heap.get?_push_size (s.heap.push { cls := .type "tuple_iterator", data := .fields #[.ref l, .int 0 0] })
      (o := { cls := .type "enumerate", data := .fields #[.none, .bool false, .ref s.heap.objs.size, rawInt 0, .none, .none] }) rfl
    rw [hz] at this; exact this
  refine ⟨⟨_, he, rfl⟩, h _ he ⟨_, Heap.get?_push_of_some _ (Heap.get?_push_size _ rfl), rfl, rfl⟩ (by rw [Heap.size_push, hz]) fun b o x => Heap.get?_push_of_some _ (Heap.get?_push_of_some _ x)⟩
end
/-- the tuple at a as it stands at each turn, each item in a new pair -/
def IteT (K : PySem.W.Frag) (a : Addr) : It :=
  ⟨fun i H => ∃ (xs : List V) (x : V), SqT K H a xs ∧ xs[i]? = some x, fun i H v H' => ∃ T x, v = .ref T ∧ H T = none ∧ H' = upd H T (.tup [.int (i : Nat), x]) ∧ ∀ xs, SqT K H a xs → xs[i]? = some x, fun i H => ∃ xs : List V, SqT K H a xs ∧ xs.length ≤ i⟩
theorem turn_enumT {P : Program} {w : World} {K : PySem.W.Frag} {elts : List Expr} {kk : Nat} {tpos : Pos} (a e it : Addr) :
    Turn P w K (.Tuple elts kk tpos) (IteT K a) [e, it] e (fun i h => (∃ old, IsEnum h e it ((i : Nat) : Int) old) ∧ h.IsTupleIter it a i ∧ e ≠ it ∧ a ≠ it ∧ a ≠ e) where
  mem := by simp
  obj := fun i h st b hb => by
    obtain ⟨⟨old, he⟩, ⟨o, ho, hc, hd⟩, _⟩ := st
    have e' : b = e ∨ b = it := by simpa using hb
    rcases e' with z | z
    · rw [z]; exact ⟨_, he, fun v q => nomatch q⟩
    · rw [z]; exact ⟨o, ho, fun v q => by rw [hd] at q; cases q⟩
  keep := fun i h h' st k => let ⟨⟨old, he⟩, hi, hne⟩ := st; ⟨⟨old, k e (by simp) _ he⟩, hi.at fun o q => k it (by simp) o q, hne⟩
  item := by
    intro X hP hw hK hc i pins s σ H E I hf st hg
    subst hP hw hK
    obtain ⟨⟨old, he⟩, hit, hne, hai, hae⟩ := st
    obtain ⟨xs, x, hq, hx⟩ := hg
    obtain ⟨its, rv, p, hz⟩ := I.tuple hq
    obtain ⟨u, hu, ru⟩ := rv.get hx
    have hel : e < s.heap.objs.size := Heap.lt_size he
    have hil : it < s.heap.objs.size := by obtain ⟨_, q, _⟩ := hit; exact Heap.lt_size q
    have hlt : i < its.toArray.size := by
      have := (List.getElem?_eq_some_iff.mp hu).1
      simpa using this
    have ht : s.heap.IsTuple a its.toArray := p
    refine wpAny_pyNext_enum_itemD (fp := [it, a]) (Draws.tuple (A := X.A.in1) (I.ok.hd hc) it a hai its.toArray) he ⟨hit, ht⟩ hlt hne (by simp [hne, Ne.symm hae]) fun x' h' tk hP ho hit' hT hsz hk => ?_
    have ex : x' = u := by
      rw [List.getElem?_toArray] at hP
      rw [hu] at hP
      exact (Option.some.inj hP).symm
    subst ex
    refine ⟨_, rfl, wpAny_letOwnedTupleGo_enum (s := { s with heap := h', toks := tk + 1 }) ho fun h'' he' sb => ?_⟩
    have hT2 : h''.get? s.heap.objs.size = some { cls := .type "tuple", data := .seq #[.int i tk, x'] } := (sb.2 _ (Nat.ne_of_gt hel)).trans hT
    have new : ObjOk X.prog X.w (upd H s.heap.objs.size (.tup [.int (i : Nat), x])) h'' s.heap.objs.size (.tup [.int (i : Nat), x]) :=
      ⟨by show 2 ≤ sizeLine; decide, [.int i tk, x'], .cons ⟨_, rfl⟩ (.cons ru .nil), ⟨_, hT2, rfl, _, rfl⟩⟩
    have I1 : Inv X pins σ (upd H s.heap.objs.size (.tup [.int (i : Nat), x])) { s with heap := h'', toks := tk + 1 } :=
      I.turnedNew (ch := [e, it]) (fun b ob hb q => (sb.2 b (fun z => hb (by simp [z]))).trans (hk b ob (fun z => hb (by simp [z])) (fun z => hb (by simp [z])) q)) hf (Nat.le_refl _) new
    refine ⟨.ref s.heap.objs.size, _, I1, rfl, ⟨_, x, rfl, I.hok.fresh (Nat.le_refl _), rfl, fun ys hy => by rw [I.tuple_inj hy hq]; exact hx⟩, ⟨⟨x', ?_⟩, hit'.1.at fun o q => (sb.2 it (Ne.symm hne)).trans q, hne, hai, hae⟩, fun b hb => ?_⟩
    · have e1 : ((i + 1 : Nat) : Int) = (i : Int) + 1 := by omega
      rw [e1]; exact he'
    · have hb' : b < s.heap.objs.size := by
        have e' : b = e ∨ b = it := by simpa using hb
        rcases e' with z | z
        · rw [z]; exact hel
        · rw [z]; exact hil
      rw [upd_ne (Nat.ne_of_lt hb')]
      exact (hf b hb).1
  done := by
    intro X hP hw hK hc i pins s σ H E I hf st hg
    subst hP hw hK
    obtain ⟨⟨old, he⟩, hit, hne, hai, hae⟩ := st
    obtain ⟨xs, hq, hx⟩ := hg
    obtain ⟨its, rv, p, hz⟩ := I.tuple hq
    have ht : s.heap.IsTuple a its.toArray := p
    obtain ⟨f0, f1, f2, f3, f4, f5⟩ := hf it (by simp)
    have hl := rv.length
    have hT : s.TypeIs (.ref e) "enumerate" := ⟨_, he, rfl⟩
    unfold pyNext
    refine wpAny_bind (wpAny_attempt (wpAny_callSpecial?_slot (name := Str.ofString "__next__") hT F.slot_enumerate_next
      (wpAny_call_entry F.slot_enumerate_next hT F.entry_enumerate_next ?_ (F.args_enumerate_next_1 _))))
    show wpAny _ _ (field (.ref e) 2 >>= _) _ _ _
    refine wpAny_bind (wpAny_field he rfl (x := .ref it) rfl ?_)
    refine wpAny_bind (wpAny_nextOf_tuple_end (I.ok.hd hc) hit ht (by simp; omega) fun h' x he' hx' => ?_)
    obtain ⟨o, ho, hc'⟩ := hx'
    refine wpAny_bind (wpAny_isInstance (T := "StopIteration") (b := true) ⟨o, ho, hc'⟩ isSubtype_stop ?_)
    exact wpAny_pure ⟨rfl, I.turned (t' := s.toks) (fun b o hb q => he' b o hb q) f0 f1 f3 f4 f5⟩
  self := fun A i s Q E st h => let ⟨⟨_, he⟩, _⟩ := st; wpAny_pyIter_enum he h
def iEnumT (K : PySem.W.Frag) (ta : TA) : TI := fun σ H R => ta σ H fun vs H1 => ∃ a xs, vs = [.ref a] ∧ SqT K H1 a xs ∧ R (IteT K a) H1
theorem pi_enumT {X : Cx} {e : Expr} {ta : TA} {p pos tpos : Pos} {elts : List Expr} {kk : Nat} (hg : Gl X "enumerate") (hm : X.mg "enumerate" = none) (ha : PA X [e] ta) (hs : starEach [e] X.env = [(false, eval e X.env)] := by rfl) :
    PI X (.Tuple elts kk tpos) (.Call (.Name "enumerate" p) [e] [] pos) (iEnumT X.K ta) := by
  refine ⟨fun pins s σ H R I h => ?_⟩
  refine Call_ (ld_blt I hg hm boot_enumerate (PyProof.Rows.callWith_type1 (thn (ha.run pos pins s σ H _ I h) fun us s1 ⟨vs, H1, I1, r1, q1⟩ => ?_) hs rfl))
  obtain ⟨a, xs, ex, hq, q⟩ := q1
  subst ex
  cases r1 with
  | cons r rr =>
    cases rr
    cases r
    obtain ⟨its, rv, p', hz⟩ := I1.tuple hq
    have hal : a < s1.heap.objs.size := by obtain ⟨_, e, _⟩ := id p'; exact Heap.lt_size e
    refine call_enumerate_tuple (show s1.heap.IsTuple a its.toArray from p') fun h' he hit hsz hk => wpAny_pyIter_enum he ?_
    have I2 : Inv X pins σ H1 { s1 with heap := h' } := I1.kept (t' := s1.toks) hk
    refine ⟨s1.heap.objs.size + 1, [s1.heap.objs.size + 1, s1.heap.objs.size], _, _, H1, rfl, I2, turn_enumT a (s1.heap.objs.size + 1) s1.heap.objs.size, ⟨⟨.none, he⟩, hit, Nat.succ_ne_self _, Nat.ne_of_lt hal, Nat.ne_of_lt (Nat.lt_succ_of_lt hal)⟩, fun b hb => ?_, q⟩
    have e' : b = s1.heap.objs.size + 1 ∨ b = s1.heap.objs.size := by simpa using hb
    have hle : s1.heap.objs.size ≤ b := by
      rcases e' with z | z
      · rw [z]; exact Nat.le_add_right _ _
      · rw [z]; exact Nat.le_refl _
    exact I1.fpOk hle (I1.hok.fresh hle)

/-! ### max of a pair of ints -/
def rMaxT (K : PySem.W.Frag) : List V → Hp → VK → Prop := fun vs H Q => ∃ (a : Addr) (n d : Int), vs = [V.ref a] ∧ SqT K H a [.int n, .int d] ∧ Q (.int (if d > n then d else n)) H
theorem cr_maxT {X : Cx} (hc : X.calm = true) : CallR X (.builtin "max") (rMaxT X.K) := by
  intro pins s σ H vs us Q I r h
  obtain ⟨a, n, d, rfl, hs, q⟩ := h
  obtain ⟨its, rv, hl, _⟩ := I.tuple hs
  rw [Vals.ref1 r]
  obtain ⟨t1, t2, rfl⟩ : ∃ t1 t2, its = [.int n t1, .int d t2] := by
    cases rv with
    | cons r1 rr =>
      cases rr with
      | cons r2 rr =>
        cases rr
        obtain ⟨t1, rfl⟩ := r1
        obtain ⟨t2, rfl⟩ := r2
        exact ⟨t1, t2, rfl⟩
  have hlt : a < s.heap.objs.size := by obtain ⟨_, e, _⟩ := hl; exact Heap.lt_size e
  have ht : s.heap.IsTuple a #[.int n t1, .int d t2] := hl
  have hval : ∀ i v, (#[Value.int n t1, Value.int d t2])[i]? = some v → ∃ t, v = Value.int (if i = 0 then n else d) t := fun i v e => by
    match i, e with
    | 0, e => exact ⟨t1, by simpa using e.symm⟩
    | 1, e => exact ⟨t2, by simpa using e.symm⟩
    | i + 2, e => simp at e
  refine call_max_walk (wpAny_pyIter_tuple ht ?_)
  refine ⟨_, _, _, _, _, _, _, rfl, Walks.tuple (A := X.A.in1) (I.ok.hd hc) _ a (Nat.ne_of_lt hlt) #[.int n t1, .int d t2], ⟨⟨_, Heap.get?_push_size _ rfl, rfl, rfl⟩, ht.at fun o e => Heap.get?_push_of_some _ e⟩, fun b hb => ?_, (by show 0 < 2; omega), CmpOf.ints_gt (fun i => if i = 0 then n else d) hval, fun v h' tk hP hk => ?_⟩
  · show b < (s.heap.push _).objs.size
    rw [Heap.size_push]
    have e : b = s.heap.objs.size ∨ b = a := by simpa using hb
    rcases e with rfl | rfl
    · exact Nat.lt_succ_self _
    · exact Nat.lt_succ_of_lt hlt
  · have hk' : ∀ b o, s.heap.get? b = some o → h'.get? b = some o := fun b o e => by
      refine hk b o (fun hm => ?_) (Heap.get?_push_of_some _ e)
      have e1 : b = s.heap.objs.size := by simpa using hm
      exact absurd (e1 ▸ Heap.lt_size e) (Nat.lt_irrefl _)
    have eb : argBest (fun i j => decide ((if i = 0 then n else d) > if j = 0 then n else d)) (2 - 1) = if d > n then 1 else 0 := by
      show (if decide ((if 1 = 0 then n else d) > if 0 = 0 then n else d) = true then 1 else 0) = _
      simp
    have hP' : (#[Value.int n t1, Value.int d t2])[if d > n then 1 else 0]? = some v := by
      rw [← eb]
      exact hP
    obtain ⟨t, rfl⟩ := hval _ _ hP'
    refine ⟨.int (if d > n then d else n), H, I.kept (t' := tk) hk', ⟨t, ?_⟩, q⟩
    by_cases hdn : d > n
    · simp [hdn]
    · simp [hdn]
end Lx
end

section
set_option Elab.async false
set_option linter.all false
/-! Polynomials as lists of whole numbers, by ascending powers. Plain Lean. -/
namespace Pm

/-! ### coefficients -/
abbrev co (p : List Int) (i : Nat) : Int := p.getD i 0
theorem co_nil (i : Nat) : co [] i = 0 := by simp [co]
theorem co_zero (a : Int) (p : List Int) : co (a :: p) 0 = a := by simp [co]
theorem co_succ (a : Int) (p : List Int) (i : Nat) : co (a :: p) (i + 1) = co p i := by simp [co]
theorem co_out {p : List Int} {i : Nat} (h : p.length ≤ i) : co p i = 0 := by
  simp [co, List.getD_eq_getElem?_getD, List.getElem?_eq_none h]
theorem co_get {p : List Int} {i : Nat} {a : Int} (h : p[i]? = some a) : co p i = a := by
  simp [co, List.getD_eq_getElem?_getD, h]
theorem get_co {p : List Int} {i : Nat} (h : i < p.length) : p[i]? = some (co p i) := by
  simp [co, List.getD_eq_getElem?_getD, h]

/-! ### without zeros at the end -/
def cons0 (a : Int) (t : List Int) : List Int := if t = [] ∧ a = 0 then [] else a :: t
def trim : List Int → List Int
  | [] => []
  | a :: r => cons0 a (trim r)
/-- no zero at the end -/
def Tr (p : List Int) : Prop := ∀ a, p.getLast? = some a → a ≠ 0
theorem tr_nil : Tr [] := fun a h => by simp at h
theorem tr_cons {a : Int} {p : List Int} (h : Tr p) (h2 : p = [] → a ≠ 0) : Tr (a :: p) := fun b hb => by
  cases p with
  | nil =>
    have : a = b := by simpa using hb
    exact this ▸ h2 rfl
  | cons c r => exact h b (by simpa using hb)
theorem Tr.tail {a : Int} {p : List Int} (h : Tr (a :: p)) : Tr p := fun b hb => by
  cases p with
  | nil => simp at hb
  | cons c r => exact h b (by simpa using hb)
theorem tr_trim : ∀ p : List Int, Tr (trim p)
  | [] => tr_nil
  | a :: r => by
    show Tr (cons0 a (trim r))
    unfold cons0
    by_cases h : trim r = [] ∧ a = 0
    · rw [if_pos h]; exact tr_nil
    · rw [if_neg h]; exact tr_cons (tr_trim r) fun e z => h ⟨e, z⟩
theorem trim_id : ∀ {p : List Int}, Tr p → trim p = p
  | [], _ => rfl
  | a :: r, h => by
    show cons0 a (trim r) = _
    rw [trim_id h.tail]
    unfold cons0
    rw [if_neg]
    rintro ⟨rfl, rfl⟩
    exact h 0 (by simp) rfl
theorem co_trim : ∀ (p : List Int) (i : Nat), co (trim p) i = co p i
  | [], _ => rfl
  | a :: r, i => by
    show co (cons0 a (trim r)) i = _
    unfold cons0
    have ih := co_trim r
    by_cases h : trim r = [] ∧ a = 0
    · rw [if_pos h, co_nil]
      cases i with
      | zero => rw [co_zero, h.2]
      | succ i => rw [co_succ, ← ih i, h.1, co_nil]
    · rw [if_neg h]
      cases i with
      | zero => rw [co_zero, co_zero]
      | succ i => rw [co_succ, co_succ, ih i]
theorem trim_len (p : List Int) : (trim p).length ≤ p.length := by
  induction p with
  | nil => exact Nat.le_refl _
  | cons a r ih =>
    show (cons0 a (trim r)).length ≤ _
    unfold cons0
    split
    · simp
    · simp only [List.length_cons]; omega
/-- the last coefficient -/
abbrev lead (p : List Int) : Int := co p (p.length - 1)
theorem Tr.lead {p : List Int} (h : Tr p) (hp : p ≠ []) : lead p ≠ 0 := by
  have hl : 0 < p.length := List.length_pos_iff.mpr hp
  refine h _ ?_
  rw [List.getLast?_eq_getElem?]
  exact get_co (by omega)
theorem tr_of_lead {p : List Int} (h : p ≠ [] → Pm.lead p ≠ 0) : Tr p := fun a ha => by
  have hp : p ≠ [] := fun z => by rw [z] at ha; simp at ha
  rw [List.getLast?_eq_getElem?] at ha
  have := h hp
  rw [show Pm.lead p = a from co_get ha] at this
  exact this
theorem tr_ext : ∀ {p q : List Int}, Tr p → Tr q → (∀ i, co p i = co q i) → p = q := fun {p q} hp hq h => by
  have hle : ∀ {p q : List Int}, Tr p → (∀ i, co p i = co q i) → p.length ≤ q.length := fun {p q} hp h => by
    by_cases z : p = []
    · rw [z]; exact Nat.zero_le _
    · refine Nat.le_of_not_lt fun hl => ?_
      have := hp.lead z
      rw [Pm.lead, h, co_out (by omega)] at this
      exact this rfl
  have el : p.length = q.length := Nat.le_antisymm (hle hp h) (hle hq fun i => (h i).symm)
  refine List.ext_getElem? fun i => ?_
  by_cases hi : i < p.length
  · rw [get_co hi, get_co (by omega), h]
  · rw [List.getElem?_eq_none (by omega), List.getElem?_eq_none (by omega)]
theorem trim_ext {p q : List Int} (h : ∀ i, co p i = co q i) : trim p = trim q :=
  tr_ext (tr_trim p) (tr_trim q) fun i => by rw [co_trim, co_trim, h]
theorem trim_eq {p q : List Int} (hq : Tr q) (h : ∀ i, co p i = co q i) : trim p = q :=
  tr_ext (tr_trim p) hq fun i => by rw [co_trim, h]
theorem tr_len {p : List Int} (hp : Tr p) {n : Nat} (h : ∀ i, n ≤ i → co p i = 0) : p.length ≤ n := by
  by_cases z : p = []
  · rw [z]; exact Nat.zero_le _
  · refine Nat.le_of_not_lt fun hl => hp.lead z ?_
    exact h _ (by omega)
theorem trim_append_zero (p : List Int) : trim (p ++ [0]) = trim p := trim_ext fun i => by
  by_cases h : i < p.length
  · simp [co, List.getD_eq_getElem?_getD, List.getElem?_append_left h]
  · by_cases h2 : i = p.length
    · subst h2; simp [co, List.getD_eq_getElem?_getD]
    · rw [co_out (p := p) (by omega), co_out (by simp; omega)]

/-! ### sums, multiples, products -/
def addL : List Int → List Int → List Int
  | [], q => q
  | p, [] => p
  | a :: p, b :: q => (a + b) :: addL p q
def smul (c : Int) (p : List Int) : List Int := p.map (c * ·)
def mulL : List Int → List Int → List Int
  | [], _ => []
  | a :: p, q => addL (smul a q) (0 :: mulL p q)
def plus (p q : List Int) : List Int := trim (addL p q)
def scal (p : List Int) (c : Int) : List Int := trim (smul c p)
def minus (p q : List Int) : List Int := plus p (scal q (-1))
def times (p q : List Int) : List Int := if p = [] ∨ q = [] then [] else trim (mulL p q)
theorem addL_nil (p : List Int) : addL p [] = p := by cases p <;> rfl
theorem co_addL : ∀ (p q : List Int) (i : Nat), co (addL p q) i = co p i + co q i
  | [], q, i => by rw [co_nil]; show co q i = _; omega
  | a :: p, [], i => by rw [co_nil]; show co (a :: p) i = _; omega
  | a :: p, b :: q, 0 => by show co ((a + b) :: addL p q) 0 = _; rw [co_zero, co_zero, co_zero]
  | a :: p, b :: q, i + 1 => by show co ((a + b) :: addL p q) (i + 1) = _; rw [co_succ, co_succ, co_succ, co_addL p q i]
theorem addL_len : ∀ p q : List Int, (addL p q).length = max p.length q.length
  | [], q => by show q.length = _; simp
  | a :: p, [] => by show (a :: p).length = _; simp
  | a :: p, b :: q => by
    show (addL p q).length + 1 = max (p.length + 1) (q.length + 1)
    rw [addL_len p q]; omega
theorem co_smul (c : Int) (p : List Int) (i : Nat) : co (smul c p) i = c * co p i := by
  unfold smul
  by_cases h : i < p.length
  · simp [co, List.getD_eq_getElem?_getD, h]
  · rw [co_out (by simpa using h), co_out (by omega), Int.mul_zero]
theorem co_mulL_nil (q : List Int) (i : Nat) : co (mulL [] q) i = 0 := co_nil i
theorem co_mulL_cons (a : Int) (p q : List Int) : ∀ i : Nat, co (mulL (a :: p) q) i = a * co q i + (match i with | 0 => 0 | i + 1 => co (mulL p q) i)
  | 0 => by show co (addL (smul a q) (0 :: mulL p q)) 0 = _; rw [co_addL, co_smul, co_zero]
  | i + 1 => by show co (addL (smul a q) (0 :: mulL p q)) (i + 1) = _; rw [co_addL, co_smul, co_succ]
theorem mulL_len : ∀ (p q : List Int), (mulL p q).length ≤ p.length + q.length
  | [], q => Nat.zero_le _
  | a :: p, q => by
    show (addL (smul a q) (0 :: mulL p q)).length ≤ _
    have := mulL_len p q
    rw [addL_len]
    simp only [smul, List.length_map, List.length_cons]
    omega
/-- one more row -/
theorem co_mulL_snoc (c : Int) (q : List Int) : ∀ (p : List Int) (k : Nat), co (mulL (p ++ [c]) q) k = co (mulL p q) k + (if p.length ≤ k then c * co q (k - p.length) else 0)
  | [], k => by
    show co (mulL [c] q) k = co [] k + _
    rw [co_mulL_cons, co_nil]
    cases k with
    | zero => simp
    | succ k =>
      show c * co q (k + 1) + co (mulL [] q) k = _
      rw [co_mulL_nil]
      simp
  | a :: p, 0 => by
    show co (mulL (a :: (p ++ [c])) q) 0 = _
    rw [co_mulL_cons, co_mulL_cons]
    simp
  | a :: p, k + 1 => by
    show co (mulL (a :: (p ++ [c])) q) (k + 1) = _
    rw [co_mulL_cons, co_mulL_cons]
    show a * co q (k + 1) + co (mulL (p ++ [c]) q) k = a * co q (k + 1) + co (mulL p q) k + _
    rw [co_mulL_snoc c q p k]
    simp only [List.length_cons]
    by_cases h : p.length ≤ k
    · rw [if_pos h, if_pos (by omega), show k + 1 - (p.length + 1) = k - p.length by omega]; omega
    · rw [if_neg h, if_neg (by omega)]; omega
theorem mulL_out {p q : List Int} : ∀ {i : Nat}, p.length + q.length ≤ i + 1 → co (mulL p q) i = 0 := by
  induction p with
  | nil => intro i _; exact co_mulL_nil q i
  | cons a p ih =>
    intro i h
    rw [List.length_cons] at h
    rw [co_mulL_cons]
    by_cases hp : p = []
    · subst hp
      have : co q i = 0 := co_out (by simp at h; omega)
      rw [this]
      cases i with
      | zero => simp
      | succ i =>
        show a * 0 + co (mulL [] q) i = 0
        rw [co_mulL_nil]
        simp
    · have hl : 0 < p.length := List.length_pos_iff.mpr hp
      rw [co_out (p := q) (by omega)]
      cases i with
      | zero => simp
      | succ i =>
        show a * 0 + co (mulL p q) i = 0
        rw [ih (by omega)]; omega

/-! ### values -/
def ev : List Int → Int → Int
  | [], _ => 0
  | a :: p, x => a + x * ev p x
theorem ev_addL : ∀ (p q : List Int) (x : Int), ev (addL p q) x = ev p x + ev q x
  | [], q, x => by show ev q x = 0 + ev q x; omega
  | a :: p, [], x => by show ev (a :: p) x = ev (a :: p) x + 0; omega
  | a :: p, b :: q, x => by
    show (a + b) + x * ev (addL p q) x = (a + x * ev p x) + (b + x * ev q x)
    rw [ev_addL p q x]; grind
theorem ev_smul (c : Int) : ∀ (p : List Int) (x : Int), ev (smul c p) x = c * ev p x
  | [], x => by show (0 : Int) = c * 0; simp
  | a :: p, x => by
    show c * a + x * ev (smul c p) x = c * (a + x * ev p x)
    rw [ev_smul c p x]; grind
theorem ev_mulL : ∀ (p q : List Int) (x : Int), ev (mulL p q) x = ev p x * ev q x
  | [], q, x => by show (0 : Int) = 0 * ev q x; simp
  | a :: p, q, x => by
    show ev (addL (smul a q) (0 :: mulL p q)) x = (a + x * ev p x) * ev q x
    rw [ev_addL, ev_smul]
    show a * ev q x + (0 + x * ev (mulL p q) x) = _
    rw [ev_mulL p q x]; grind
theorem ev_trim : ∀ (p : List Int) (x : Int), ev (trim p) x = ev p x
  | [], _ => rfl
  | a :: r, x => by
    show ev (cons0 a (trim r)) x = a + x * ev r x
    unfold cons0
    by_cases h : trim r = [] ∧ a = 0
    · rw [if_pos h, h.2, ← ev_trim r x, h.1]
      show (0 : Int) = 0 + x * 0
      simp
    · rw [if_neg h]
      show a + x * ev (trim r) x = _
      rw [ev_trim r x]
theorem ev_plus (p q : List Int) (x : Int) : ev (plus p q) x = ev p x + ev q x := by rw [plus, ev_trim, ev_addL]
theorem ev_scal (p : List Int) (c x : Int) : ev (scal p c) x = c * ev p x := by rw [scal, ev_trim, ev_smul]
theorem ev_minus (p q : List Int) (x : Int) : ev (minus p q) x = ev p x - ev q x := by rw [minus, ev_plus, ev_scal]; omega
theorem ev_times (p q : List Int) (x : Int) : ev (times p q) x = ev p x * ev q x := by
  unfold times
  by_cases h : p = [] ∨ q = []
  · rw [if_pos h]
    rcases h with rfl | rfl <;> simp [ev]
  · rw [if_neg h, ev_trim, ev_mulL]
theorem co_plus (p q : List Int) (i : Nat) : co (plus p q) i = co p i + co q i := by rw [plus, co_trim, co_addL]
theorem co_scal (p : List Int) (c : Int) (i : Nat) : co (scal p c) i = c * co p i := by rw [scal, co_trim, co_smul]
theorem co_minus (p q : List Int) (i : Nat) : co (minus p q) i = co p i - co q i := by rw [minus, co_plus, co_scal]; omega
theorem tr_plus (p q : List Int) : Tr (plus p q) := tr_trim _
theorem tr_scal (p : List Int) (c : Int) : Tr (scal p c) := tr_trim _
theorem tr_minus (p q : List Int) : Tr (minus p q) := tr_trim _
theorem tr_times (p q : List Int) : Tr (times p q) := by
  unfold times
  split
  · exact tr_nil
  · exact tr_trim _

/-- a polynomial is known by its values at great places -/
theorem zero_of_ev : ∀ (p : List Int) (N : Int), (∀ x, N ≤ x → ev p x = 0) → ∀ i, co p i = 0
  | [], _, _, i => co_nil i
  | a :: p, N, h, i => by
    have ha : a = 0 := by
      have hx := h (max N (a.natAbs + 1)) (by omega)
      have hd : (max N (a.natAbs + 1)) ∣ a := by
        refine ⟨- ev p (max N (a.natAbs + 1)), ?_⟩
        have hx' : a + (max N (a.natAbs + 1)) * ev p (max N (a.natAbs + 1)) = 0 := hx
        rw [Int.mul_neg]
        omega
      refine Int.natAbs_eq_zero.mp (Nat.le_zero.mp (Nat.le_of_not_lt fun hlt => ?_))
      have h1 := Nat.le_of_dvd hlt (Int.natAbs_dvd_natAbs.mpr hd)
      omega
    have hp : ∀ x, max N 1 ≤ x → ev p x = 0 := fun x hx => by
      have e : a + x * ev p x = 0 := h x (by omega)
      rw [ha] at e
      rcases Int.mul_eq_zero.mp (show x * ev p x = 0 by omega) with z | z
      · omega
      · exact z
    cases i with
    | zero => rw [co_zero, ha]
    | succ i => rw [co_succ]; exact zero_of_ev p _ hp i
end Pm
end

section
set_option Elab.async false
set_option linter.all false
/-! Content, Gauss's lemma, greatest common divisors, sizes. Plain Lean. -/
namespace Pm

/-! ### sizes -/
def nrm (p : List Int) : Nat := (p.map Int.natAbs).sum
theorem nrm_nil : nrm [] = 0 := rfl
theorem nrm_cons (a : Int) (p : List Int) : nrm (a :: p) = a.natAbs + nrm p := by simp [nrm]
theorem co_le_nrm : ∀ (p : List Int) (i : Nat), (co p i).natAbs ≤ nrm p
  | [], i => by rw [co_nil]; exact Nat.zero_le _
  | a :: p, 0 => by rw [co_zero, nrm_cons]; omega
  | a :: p, i + 1 => by rw [co_succ, nrm_cons]; have := co_le_nrm p i; omega
theorem nrm_trim : ∀ p : List Int, nrm (trim p) = nrm p
  | [] => rfl
  | a :: r => by
    show nrm (cons0 a (trim r)) = _
    unfold cons0
    by_cases h : trim r = [] ∧ a = 0
    · rw [if_pos h, nrm_cons, ← nrm_trim r, h.1, h.2]; rfl
    · rw [if_neg h, nrm_cons, nrm_cons, nrm_trim r]
theorem nrm_addL : ∀ p q : List Int, nrm (addL p q) ≤ nrm p + nrm q
  | [], q => by show nrm q ≤ _; omega
  | a :: p, [] => by show nrm (a :: p) ≤ _; omega
  | a :: p, b :: q => by
    show nrm ((a + b) :: addL p q) ≤ _
    have := nrm_addL p q
    rw [nrm_cons, nrm_cons, nrm_cons]
    omega
theorem nrm_smul (c : Int) : ∀ p : List Int, nrm (smul c p) = c.natAbs * nrm p
  | [] => rfl
  | a :: p => by
    show nrm ((c * a) :: smul c p) = _
    rw [nrm_cons, nrm_cons, nrm_smul c p, Int.natAbs_mul, Nat.mul_add]
theorem nrm_mulL : ∀ p q : List Int, nrm (mulL p q) ≤ nrm p * nrm q
  | [], q => by show 0 ≤ _; omega
  | a :: p, q => by
    show nrm (addL (smul a q) (0 :: mulL p q)) ≤ _
    have h1 := nrm_addL (smul a q) (0 :: mulL p q)
    have h2 := nrm_mulL p q
    rw [nrm_smul, nrm_cons] at h1
    rw [nrm_cons, Nat.add_mul]
    simp only [Int.natAbs_zero] at h1
    omega
theorem nrm_plus (p q : List Int) : nrm (plus p q) ≤ nrm p + nrm q := by rw [plus, nrm_trim]; exact nrm_addL p q
theorem nrm_scal (p : List Int) (c : Int) : nrm (scal p c) = c.natAbs * nrm p := by rw [scal, nrm_trim, nrm_smul]
theorem nrm_minus (p q : List Int) : nrm (minus p q) ≤ nrm p + nrm q := by
  have h := nrm_plus p (scal q (-1))
  rw [nrm_scal] at h
  simpa [minus] using h
theorem nrm_times (p q : List Int) : nrm (times p q) ≤ nrm p * nrm q := by
  unfold times
  split
  · exact Nat.zero_le _
  · rw [nrm_trim]; exact nrm_mulL p q
theorem nrm_pos {p : List Int} (h : Tr p) (hp : p ≠ []) : 0 < nrm p := by
  have h1 := co_le_nrm p (p.length - 1)
  have h2 : (lead p).natAbs ≠ 0 := fun z => h.lead hp (Int.natAbs_eq_zero.mp z)
  have h3 : (lead p).natAbs ≤ nrm p := h1
  omega
theorem nrm_le_of_dvd : ∀ {p q : List Int} {k : Int}, k ≠ 0 → (∀ i, co q i = k * co p i) → nrm p ≤ nrm q
  | [], q, k, _, _ => Nat.zero_le _
  | a :: p, [], k, hk, h => by
    have hz : ∀ i, co (a :: p) i = 0 := fun i => by
      have := h i
      rw [co_nil] at this
      rcases Int.mul_eq_zero.mp this.symm with z | z
      · exact absurd z hk
      · exact z
    have ha : a = 0 := by have := hz 0; rwa [co_zero] at this
    have ih := nrm_le_of_dvd (p := p) (q := []) hk fun i => by
      have := hz (i + 1)
      rw [co_succ] at this
      rw [co_nil, this, Int.mul_zero]
    rw [nrm_cons, ha]
    simpa using ih
  | a :: p, b :: q, k, hk, h => by
    have h0 := h 0
    rw [co_zero, co_zero] at h0
    have ih := nrm_le_of_dvd (p := p) (q := q) hk fun i => by
      have := h (i + 1)
      rwa [co_succ, co_succ] at this
    rw [nrm_cons, nrm_cons, h0, Int.natAbs_mul]
    have h1 : 1 ≤ k.natAbs := by omega
    have h2 : a.natAbs ≤ k.natAbs * a.natAbs := Nat.le_mul_of_pos_left _ h1
    omega

/-! ### content -/
theorem nc_dvd {m : Nat} {a : Int} : (m : Int) ∣ a ↔ m ∣ a.natAbs := Int.ofNat_dvd_left
def gcdF (g : Nat) (p : List Int) : Nat := p.foldl (fun g a => Nat.gcd g a.natAbs) g
def contN (p : List Int) : Nat := gcdF 0 p
theorem gcdF_cons (g : Nat) (a : Int) (p : List Int) : gcdF g (a :: p) = gcdF (Nat.gcd g a.natAbs) p := rfl
theorem gcdF_dvd : ∀ (p : List Int) (g : Nat), gcdF g p ∣ g ∧ ∀ i, (gcdF g p : Int) ∣ co p i
  | [], g => ⟨Nat.dvd_refl _, fun i => by rw [co_nil]; exact Int.dvd_zero _⟩
  | a :: p, g => by
    obtain ⟨h1, h2⟩ := gcdF_dvd p (Nat.gcd g a.natAbs)
    rw [gcdF_cons]
    refine ⟨Nat.dvd_trans h1 (Nat.gcd_dvd_left _ _), fun i => ?_⟩
    cases i with
    | zero =>
      rw [co_zero]
      have : gcdF (Nat.gcd g a.natAbs) p ∣ a.natAbs := Nat.dvd_trans h1 (Nat.gcd_dvd_right _ _)
      exact nc_dvd.mpr this
    | succ i => rw [co_succ]; exact h2 i
theorem dvd_gcdF : ∀ (p : List Int) (g d : Nat), d ∣ g → (∀ i, (d : Int) ∣ co p i) → d ∣ gcdF g p
  | [], g, d, h, _ => h
  | a :: p, g, d, h, hp => by
    rw [gcdF_cons]
    refine dvd_gcdF p _ d (Nat.dvd_gcd h ?_) fun i => ?_
    · have := hp 0
      rw [co_zero] at this
      exact nc_dvd.mp this
    · have := hp (i + 1)
      rwa [co_succ] at this
theorem contN_dvd (p : List Int) (i : Nat) : (contN p : Int) ∣ co p i := (gcdF_dvd p 0).2 i
theorem dvd_contN {p : List Int} {d : Nat} (h : ∀ i, (d : Int) ∣ co p i) : d ∣ contN p := dvd_gcdF p 0 d (Nat.dvd_zero _) h
theorem contN_ne {p : List Int} (h : Tr p) (hp : p ≠ []) : contN p ≠ 0 := fun z => by
  have := contN_dvd p (p.length - 1)
  rw [z] at this
  exact h.lead hp (Int.zero_dvd.mp this)
theorem contN_le {p : List Int} (h : Tr p) (hp : p ≠ []) : contN p ≤ nrm p := by
  have h1 := contN_dvd p (p.length - 1)
  have h2 : (lead p).natAbs ≠ 0 := fun z => h.lead hp (Int.natAbs_eq_zero.mp z)
  have h3 := Nat.le_of_dvd (Nat.pos_of_ne_zero h2) (nc_dvd.mp h1)
  exact Nat.le_trans h3 (co_le_nrm p _)

/-! ### division of all coefficients -/
def divL (p : List Int) (d : Int) : List Int := p.map fun a => a.fdiv d
theorem co_divL (p : List Int) (d : Int) (i : Nat) : co (divL p d) i = (co p i).fdiv d := by
  unfold divL
  by_cases h : i < p.length
  · simp [co, List.getD_eq_getElem?_getD, h]
  · rw [co_out (p := p) (by omega), co_out (by simpa using h)]
    simp
theorem divL_mul {p : List Int} {d : Int} (h : ∀ i, d ∣ co p i) (i : Nat) : d * co (divL p d) i = co p i := by
  rw [co_divL]
  obtain ⟨c, hc⟩ := h i
  by_cases hd : d = 0
  · rw [hc, hd]; simp
  · rw [hc, Int.mul_fdiv_cancel_left _ hd]
theorem divL_len (p : List Int) (d : Int) : (divL p d).length = p.length := by simp [divL]
theorem tr_of_mul {p q : List Int} {d : Int} (hl : p.length = q.length) (hq : Tr q) (h : ∀ i, d * co p i = co q i) : Tr p := tr_of_lead fun hp z => by
  have hq' : q ≠ [] := fun e => by rw [e] at hl; exact hp (List.length_eq_zero_iff.mp hl)
  have := h (p.length - 1)
  rw [show co p (p.length - 1) = 0 from z, Int.mul_zero, hl] at this
  exact hq.lead hq' this.symm
theorem tr_divL {p : List Int} {d : Int} (hp : Tr p) (h : ∀ i, d ∣ co p i) : Tr (divL p d) := tr_of_mul (divL_len p d) hp (divL_mul h)

/-- the content with the sign of the last coefficient -/
def sgc (p : List Int) : Int := if lead p < 0 then -(contN p : Int) else (contN p : Int)
theorem sgc_dvd (p : List Int) (i : Nat) : sgc p ∣ co p i := by
  unfold sgc
  split
  · exact Int.neg_dvd.mpr (contN_dvd p i)
  · exact contN_dvd p i
theorem sgc_abs (p : List Int) : (sgc p).natAbs = contN p := by
  unfold sgc
  split <;> simp
theorem sgc_ne {p : List Int} (h : Tr p) (hp : p ≠ []) : sgc p ≠ 0 := fun z => contN_ne h hp (by rw [← sgc_abs, z]; rfl)
def prim (p : List Int) : List Int := if p = [] then [] else divL p (sgc p)
theorem prim_mul (p : List Int) (i : Nat) : sgc p * co (prim p) i = co p i := by
  unfold prim
  by_cases h : p = []
  · rw [if_pos h, h, co_nil, Int.mul_zero]
  · rw [if_neg h]; exact divL_mul (sgc_dvd p) i
theorem prim_len (p : List Int) : (prim p).length = p.length := by
  unfold prim
  split
  · rename_i h; rw [h]
  · exact divL_len _ _
theorem tr_prim {p : List Int} (h : Tr p) : Tr (prim p) := tr_of_mul (prim_len p) h (prim_mul p)
theorem prim_ne {p : List Int} (hp : p ≠ []) : prim p ≠ [] := fun z => hp (List.length_eq_zero_iff.mp (by rw [← prim_len, z]; rfl))
theorem lead_prim {p : List Int} (h : Tr p) (hp : p ≠ []) : 0 < lead (prim p) := by
  have e : sgc p * lead (prim p) = lead p := by
    have := prim_mul p (p.length - 1)
    unfold lead
    rw [prim_len]
    exact this
  have hl := h.lead hp
  have hs := sgc_ne h hp
  by_cases hn : lead p < 0
  · have h1 : sgc p < 0 := by
      have : sgc p = -(contN p : Int) := by unfold sgc; rw [if_pos hn]
      omega
    refine Int.lt_of_not_ge fun h2 => ?_
    have := Int.mul_nonneg_of_nonpos_of_nonpos (Int.le_of_lt h1) h2
    omega
  · have h1 : 0 < sgc p := by
      have : sgc p = (contN p : Int) := by unfold sgc; rw [if_neg hn]
      omega
    refine Int.lt_of_not_ge fun h2 => ?_
    have := Int.mul_nonpos_of_nonneg_of_nonpos (Int.le_of_lt h1) h2
    omega
theorem contN_prim {p : List Int} (h : Tr p) (hp : p ≠ []) : contN (prim p) = 1 := by
  have hc := contN_ne h hp
  have hd : contN p * contN (prim p) ∣ contN p := dvd_contN fun i => by
    obtain ⟨c, hc⟩ := contN_dvd (prim p) i
    have e := prim_mul p i
    rw [hc] at e
    have hs : ((contN p : Nat) : Int) ∣ sgc p := by
      rw [← sgc_abs]
      exact Int.natAbs_dvd.mpr (Int.dvd_refl _)
    obtain ⟨z, hz⟩ := hs
    refine ⟨z * c, ?_⟩
    rw [← e, hz, Int.natCast_mul]
    grind
  have h1 : contN p * contN (prim p) ∣ contN p * 1 := by rw [Nat.mul_one]; exact hd
  exact Nat.dvd_one.mp (Nat.dvd_of_mul_dvd_mul_left (Nat.pos_of_ne_zero hc) h1)
theorem nrm_prim {p : List Int} (h : Tr p) (hp : p ≠ []) : nrm (prim p) ≤ nrm p := nrm_le_of_dvd (sgc_ne h hp) fun i => (prim_mul p i).symm

/-! ### Gauss's lemma -/
theorem dvd_mulL_low {π : Int} {g : List Int} : ∀ (t : List Int) (m : Nat), (∀ i, i ≤ m → π ∣ co g i) → π ∣ co (mulL t g) m
  | [], m, _ => by rw [co_mulL_nil]; exact Int.dvd_zero _
  | a :: t, m, h => by
    rw [co_mulL_cons]
    refine Int.dvd_add (Int.dvd_mul_of_dvd_right (h m (Nat.le_refl _))) ?_
    cases m with
    | zero => exact Int.dvd_zero _
    | succ m => exact dvd_mulL_low t m fun i hi => h i (by omega)
theorem gauss_prime {π : Int} (hπ : ∀ a b : Int, π ∣ a * b → π ∣ a ∨ π ∣ b) {g : List Int} : ∀ t : List Int, (∀ k, π ∣ co (mulL t g) k) → (∀ i, π ∣ co t i) ∨ ∀ j, π ∣ co g j
  | [], _ => .inl fun i => by rw [co_nil]; exact Int.dvd_zero _
  | a :: t, h => by
    by_cases ha : π ∣ a
    · have h' : ∀ k, π ∣ co (mulL t g) k := fun k => by
        have h1 := h (k + 1)
        rw [co_mulL_cons] at h1
        have h2 : π ∣ a * co g (k + 1) := Int.dvd_mul_of_dvd_left ha
        exact (Int.dvd_add_right h2).mp h1
      rcases gauss_prime hπ t h' with q | q
      · refine .inl fun i => ?_
        cases i with
        | zero => rw [co_zero]; exact ha
        | succ i => rw [co_succ]; exact q i
      · exact .inr q
    · refine .inr fun j => ?_
      induction j using Nat.strongRecOn with
      | ind j ih =>
        have h1 := h j
        have h3 : π ∣ a * co g j := by
          cases j with
          | zero =>
            rw [co_mulL_cons] at h1
            simpa using h1
          | succ j =>
            have h1' : π ∣ a * co g (j + 1) + co (mulL t g) j := by
              rw [co_mulL_cons] at h1
              exact h1
            have h2 : π ∣ co (mulL t g) j := dvd_mulL_low t j fun i hi => ih i (by omega)
            have := Int.dvd_sub h1' h2
            rwa [Int.add_sub_cancel] at this
        exact (hπ a (co g j) h3).resolve_left ha
/-- the least divisor above 1 divides as a prime does -/
theorem least_factor : ∀ (n : Nat), 1 < n → ∃ π : Nat, 1 < π ∧ π ∣ n ∧ ∀ a b : Int, (π : Int) ∣ a * b → (π : Int) ∣ a ∨ (π : Int) ∣ b := by
  intro n hn
  have key : ∀ m, 1 < m → m ∣ n → ∃ π, 1 < π ∧ π ∣ n ∧ ∀ d, 1 < d → d ∣ n → π ≤ d := by
    intro m
    induction m using Nat.strongRecOn with
    | ind m ih =>
      intro h1 h2
      by_cases h : ∃ d, d < m ∧ 1 < d ∧ d ∣ n
      · obtain ⟨d, h3, h4, h5⟩ := h
        exact ih d h3 h4 h5
      · exact ⟨m, h1, h2, fun d h4 h5 => Nat.le_of_not_lt fun h3 => h ⟨d, h3, h4, h5⟩⟩
  obtain ⟨π, h1, h2, h3⟩ := key n hn (Nat.dvd_refl _)
  refine ⟨π, h1, h2, fun a b hab => ?_⟩
  by_cases ha : π ∣ a.natAbs
  · exact .inl (nc_dvd.mpr ha)
  · right
    have hg : Nat.gcd π a.natAbs = 1 := by
      refine Nat.le_antisymm (Nat.le_of_not_lt fun hlt => ?_) (Nat.gcd_pos_of_pos_left _ (by omega))
      have h4 := h3 _ hlt (Nat.dvd_trans (Nat.gcd_dvd_left _ _) h2)
      have h5 := Nat.le_of_dvd (by omega) (Nat.gcd_dvd_left π a.natAbs)
      have h6 : Nat.gcd π a.natAbs = π := Nat.le_antisymm h5 h4
      exact ha (h6 ▸ Nat.gcd_dvd_right π a.natAbs)
    have h4 : π ∣ a.natAbs * b.natAbs := by
      have := nc_dvd.mp hab
      rwa [Int.natAbs_mul] at this
    exact nc_dvd.mpr (Nat.Coprime.dvd_of_dvd_mul_left hg h4)
theorem co_mulL_smul {t t1 g : List Int} {c : Int} (h : ∀ i, co t i = c * co t1 i) (k : Nat) : co (mulL t g) k = c * co (mulL t1 g) k := by
  have e : ∀ (t t1 : List Int), (∀ i, co t i = c * co t1 i) → ∀ k, co (mulL t g) k = c * co (mulL t1 g) k := by
    intro t
    induction t with
    | nil =>
      intro t1 h k
      rw [co_mulL_nil]
      induction t1 generalizing k with
      | nil => rw [co_mulL_nil, Int.mul_zero]
      | cons b t1 ih =>
        have h0 := h 0
        rw [co_nil, co_zero] at h0
        rw [co_mulL_cons, Int.mul_add, ← Int.mul_assoc, ← h0, Int.zero_mul, Int.zero_add]
        cases k with
        | zero => simp
        | succ k =>
          refine ih (fun i => ?_) k
          have := h (i + 1)
          rwa [co_nil, co_succ, ← co_nil i] at this
    | cons a t ih =>
      intro t1 h k
      cases t1 with
      | nil =>
        have h0 := h 0
        rw [co_zero, co_nil, Int.mul_zero] at h0
        rw [co_mulL_cons, h0, co_mulL_nil]
        have ih' := ih [] fun i => by
          have := h (i + 1)
          rwa [co_succ, co_nil, ← co_nil i] at this
        cases k with
        | zero => simp
        | succ k =>
          show 0 * _ + co (mulL t g) k = _
          rw [ih' k, co_mulL_nil]
          omega
      | cons b t1 =>
        have h0 := h 0
        rw [co_zero, co_zero] at h0
        have ih' := ih t1 fun i => by
          have := h (i + 1)
          rwa [co_succ, co_succ] at this
        rw [co_mulL_cons, co_mulL_cons, h0]
        cases k with
        | zero => show c * b * _ + 0 = c * (b * _ + 0); grind
        | succ k => show c * b * _ + co (mulL t g) k = c * (b * _ + co (mulL t1 g) k); rw [ih' k]; grind
  exact e t t1 h k
theorem gauss {g : List Int} (hg : contN g = 1) : ∀ (n : Nat) (d : Int) (t : List Int), d.natAbs = n → d ≠ 0 → (∀ k, d ∣ co (mulL t g) k) → ∀ i, d ∣ co t i := by
  intro n
  induction n using Nat.strongRecOn with
  | ind n ih =>
    intro d t hn hd h i
    by_cases h1 : n ≤ 1
    · have : d.natAbs = 1 := by omega
      exact Int.natAbs_dvd.mp (by rw [this]; exact Int.one_dvd _)
    · obtain ⟨π, p1, p2, p3⟩ := least_factor n (by omega)
      have hπd : (π : Int) ∣ d := nc_dvd.mpr (by rw [hn]; exact p2)
      rcases gauss_prime p3 t (fun k => Int.dvd_trans hπd (h k)) with q | q
      · obtain ⟨d1, hd1⟩ := hπd
        have hd10 : d1 ≠ 0 := fun z => hd (by rw [hd1, z, Int.mul_zero])
        have et : ∀ i, co t i = (π : Int) * co (divL t π) i := fun i => (divL_mul q i).symm
        have hlt : d1.natAbs < n := by
          have e : n = π * d1.natAbs := by rw [← hn, hd1, Int.natAbs_mul, Int.natAbs_natCast]
          have : 0 < d1.natAbs := by omega
          rw [e]
          have h2 : 2 * d1.natAbs ≤ π * d1.natAbs := Nat.mul_le_mul_right _ p1
          omega
        have ih' := ih d1.natAbs hlt d1 (divL t π) rfl hd10 (fun k => by
          have := h k
          rw [co_mulL_smul et, hd1] at this
          exact Int.dvd_of_mul_dvd_mul_left (by omega) this) i
        rw [et, hd1]
        exact Int.mul_dvd_mul_left _ ih'
      · have := dvd_contN q
        rw [hg] at this
        have := Nat.dvd_one.mp this
        omega
end Pm
end

section
set_option Elab.async false
set_option linter.all false
/-! Greatest common divisors over the rationals, quotients in lowest terms. Plain Lean. -/
namespace Pm

theorem co_of_ev {p q : List Int} (h : ∀ x, ev p x = ev q x) (i : Nat) : co p i = co q i := by
  have h0 := zero_of_ev (addL p (smul (-1) q)) 0 (fun x _ => by rw [ev_addL, ev_smul, h x]; omega) i
  rw [co_addL, co_smul] at h0
  omega
theorem ev_of_co : ∀ {p q : List Int}, (∀ i, co p i = co q i) → ∀ x, ev p x = ev q x := fun {p q} h x => by
  rw [← ev_trim p, ← ev_trim q, trim_ext h]
theorem ev_zero {p : List Int} (h : ∀ i, co p i = 0) (x : Int) : ev p x = 0 := ev_of_co (q := []) (fun i => by rw [h, co_nil]) x
theorem ev_single (a x : Int) : ev [a] x = a := by show a + x * 0 = a; omega
theorem co_mulL_top : ∀ (p q : List Int), p ≠ [] → q ≠ [] → co (mulL p q) (p.length - 1 + (q.length - 1)) = lead p * lead q
  | [], _, h, _ => absurd rfl h
  | [a], q, _, hq => by
    show co (mulL [a] q) (0 + (q.length - 1)) = co [a] 0 * lead q
    rw [Nat.zero_add, co_zero]
    unfold lead
    generalize q.length - 1 = n
    rw [co_mulL_cons]
    cases n with
    | zero => simp
    | succ n =>
      show a * co q (n + 1) + co (mulL [] q) n = _
      rw [co_mulL_nil, Int.add_zero]
  | a :: b :: p, q, _, hq => by
    have hl : 0 < q.length := List.length_pos_iff.mpr hq
    have ih := co_mulL_top (b :: p) q (by simp) hq
    have e : (a :: b :: p).length - 1 + (q.length - 1) = ((b :: p).length - 1 + (q.length - 1)) + 1 := by simp only [List.length_cons]; omega
    rw [e, co_mulL_cons, co_out (p := q) (by simp only [List.length_cons]; omega), Int.mul_zero, Int.zero_add]
    show co (mulL (b :: p) q) _ = _
    rw [ih]
    rfl
theorem tr_mul_ne {p q : List Int} (hp : Tr p) (hq : Tr q) (h1 : p ≠ []) (h2 : q ≠ []) : co (mulL p q) (p.length - 1 + (q.length - 1)) ≠ 0 := by
  rw [co_mulL_top p q h1 h2]
  exact Int.mul_ne_zero (hp.lead h1) (hq.lead h2)
theorem nil_iff_ev {p : List Int} (hp : Tr p) : p = [] ↔ ∀ x, ev p x = 0 := by
  constructor
  · rintro rfl x; rfl
  · intro h
    exact tr_ext hp tr_nil fun i => co_of_ev (q := []) (fun x => by rw [h x]; rfl) i
theorem ev_mul_zero {p q : List Int} (h : ∀ x, ev p x * ev q x = 0) : (∀ x, ev p x = 0) ∨ ∀ x, ev q x = 0 := by
  by_cases h1 : trim p = []
  · exact .inl fun x => by rw [← ev_trim, h1]; rfl
  · by_cases h2 : trim q = []
    · exact .inr fun x => by rw [← ev_trim, h2]; rfl
    · refine absurd ?_ (tr_mul_ne (tr_trim p) (tr_trim q) h1 h2)
      have := co_of_ev (p := mulL (trim p) (trim q)) (q := []) (fun x => by rw [ev_mulL, ev_trim, ev_trim, h x]; rfl)
      rw [this, co_nil]
theorem ev_cancel {g p q : List Int} (hg : Tr g) (h0 : g ≠ []) (h : ∀ x, ev g x * ev p x = ev g x * ev q x) (x : Int) : ev p x = ev q x := by
  have := ev_mul_zero (p := g) (q := addL p (smul (-1) q)) fun x => by rw [ev_addL, ev_smul]; have := h x; grind
  rcases this with z | z
  · exact absurd ((nil_iff_ev hg).mpr z) h0
  · have := z x
    rw [ev_addL, ev_smul] at this
    omega
/-- a divisor of a number that is not 0 is a number -/
theorem const_of_dvd {s w : List Int} {c : Int} (hc : c ≠ 0) (h : ∀ x, ev s x * ev w x = c) : ∃ s0, s0 ≠ 0 ∧ ∀ x, ev s x = s0 := by
  have hs : trim s ≠ [] := fun z => hc (by have := h 0; rw [← ev_trim s, z] at this; simpa [ev] using this.symm)
  have hw : trim w ≠ [] := fun z => hc (by have := h 0; rw [← ev_trim w, z] at this; simpa [ev] using this.symm)
  have e := co_of_ev (p := mulL (trim s) (trim w)) (q := [c]) fun x => by rw [ev_mulL, ev_trim, ev_trim, h x, ev_single]
  have t := tr_mul_ne (tr_trim s) (tr_trim w) hs hw
  rw [e] at t
  have hl : (trim s).length = 1 := by
    have h1 : 0 < (trim s).length := List.length_pos_iff.mpr hs
    refine Nat.le_antisymm (Nat.le_of_not_lt fun h2 => t ?_) h1
    exact co_out (by simp; omega)
  obtain ⟨s0, e0⟩ := List.length_eq_one_iff.mp hl
  refine ⟨s0, fun z => hs ?_, fun x => by rw [← ev_trim, e0, ev_single]⟩
  have := tr_trim s
  rw [e0] at this
  exact absurd z (this s0 (by simp))

/-! ### spans -/
/-- h is a combination of f and g, over the rationals -/
def Spn (f g h : List Int) : Prop := ∃ m : Int, m ≠ 0 ∧ ∃ u v : List Int, ∀ x, m * ev h x = ev u x * ev f x + ev v x * ev g x
theorem spn_left (f g : List Int) : Spn f g f := ⟨1, by decide, [1], [], fun x => by rw [ev_single]; simp [ev]⟩
theorem spn_right (f g : List Int) : Spn f g g := ⟨1, by decide, [], [1], fun x => by rw [ev_single]; simp [ev]⟩
theorem spn_trans {f g a b h : List Int} (ha : Spn f g a) (hb : Spn f g b) (hh : Spn a b h) : Spn f g h := by
  obtain ⟨m1, n1, u1, v1, e1⟩ := ha
  obtain ⟨m2, n2, u2, v2, e2⟩ := hb
  obtain ⟨m, n, u, v, e⟩ := hh
  refine ⟨m * m1 * m2, Int.mul_ne_zero (Int.mul_ne_zero n n1) n2, addL (smul m2 (mulL u u1)) (smul m1 (mulL v u2)), addL (smul m2 (mulL u v1)) (smul m1 (mulL v v2)), fun x => ?_⟩
  rw [ev_addL, ev_addL, ev_smul, ev_smul, ev_smul, ev_smul, ev_mulL, ev_mulL, ev_mulL, ev_mulL]
  have a1 := e1 x
  have a2 := e2 x
  have a3 := e x
  grind
/-- g divides f, over the rationals -/
def Dvs (g f : List Int) : Prop := ∃ m : Int, m ≠ 0 ∧ ∃ u : List Int, ∀ x, m * ev f x = ev u x * ev g x
/-- T and B have no common divisor -/
def Cop (T B : List Int) : Prop := ∃ m : Int, m ≠ 0 ∧ ∃ u v : List Int, ∀ x, ev u x * ev T x + ev v x * ev B x = m

theorem made_math {top bottom T B g : List Int} (htop : Tr top) (hbot : Tr bottom) (hgt : Tr g) (hg0 : g ≠ []) (hc : contN g = 1) (hcross : ∀ x, ev top x * ev B x = ev bottom x * ev T x) (hcop : Cop T B)
    (hs : Spn top bottom g) (h1 : Dvs g top) (h2 : Dvs g bottom) :
    ∃ (s k : Int) (t b : List Int), s ≠ 0 ∧ k ≠ 0 ∧ Tr t ∧ Tr b ∧ (∀ i, co top i = co (mulL t g) i) ∧ (∀ i, co bottom i = co (mulL b g) i) ∧ (∀ i, k * co T i = s * co t i) ∧ ∀ i, k * co B i = s * co b i := by
  obtain ⟨k, hk, α, β, es⟩ := hs
  obtain ⟨m1, n1, u1, e1⟩ := h1
  obtain ⟨m2, n2, u2, e2⟩ := h2
  obtain ⟨m, n, u, v, ec⟩ := hcop
  -- S = α T + β B
  have eT : ∀ x, k * (ev g x * ev T x) = ev top x * ev (addL (mulL α T) (mulL β B)) x := fun x => by
    rw [ev_addL, ev_mulL, ev_mulL]
    have a1 := es x
    have a2 := hcross x
    grind
  have eB : ∀ x, k * (ev g x * ev B x) = ev bottom x * ev (addL (mulL α T) (mulL β B)) x := fun x => by
    rw [ev_addL, ev_mulL, ev_mulL]
    have a1 := es x
    have a2 := hcross x
    grind
  generalize addL (mulL α T) (mulL β B) = S at eT eB
  have fT : ∀ x, ev (smul (k * m1) T) x = ev (mulL u1 S) x := ev_cancel hgt hg0 fun x => by
    rw [ev_smul, ev_mulL]
    have a1 := eT x
    have a2 := e1 x
    grind
  have fB : ∀ x, ev (smul (k * m2) B) x = ev (mulL u2 S) x := ev_cancel hgt hg0 fun x => by
    rw [ev_smul, ev_mulL]
    have a1 := eB x
    have a2 := e2 x
    grind
  obtain ⟨s, hs0, hS⟩ := const_of_dvd (s := S) (w := addL (smul m2 (mulL u u1)) (smul m1 (mulL v u2))) (c := k * m1 * m2 * m) (Int.mul_ne_zero (Int.mul_ne_zero (Int.mul_ne_zero hk n1) n2) n) fun x => by
    rw [ev_addL, ev_smul, ev_smul, ev_mulL, ev_mulL]
    have a1 := fT x
    have a2 := fB x
    have a3 := ec x
    rw [ev_smul, ev_mulL] at a1 a2
    grind
  have gT : ∀ i, s * co top i = co (mulL (smul k T) g) i := fun i => by
    rw [← co_smul]
    refine co_of_ev (fun x => ?_) i
    rw [ev_smul, ev_mulL, ev_smul]
    have a1 := eT x
    rw [hS] at a1
    grind
  have gB : ∀ i, s * co bottom i = co (mulL (smul k B) g) i := fun i => by
    rw [← co_smul]
    refine co_of_ev (fun x => ?_) i
    rw [ev_smul, ev_mulL, ev_smul]
    have a1 := eB x
    rw [hS] at a1
    grind
  have dT : ∀ i, s ∣ co (smul k T) i := gauss hc _ s _ rfl hs0 fun j => ⟨_, (gT j).symm⟩
  have dB : ∀ i, s ∣ co (smul k B) i := gauss hc _ s _ rfl hs0 fun j => ⟨_, (gB j).symm⟩
  have qT := divL_mul dT
  have qB := divL_mul dB
  have pT : ∀ i, co top i = co (mulL (trim (divL (smul k T) s)) g) i := fun i => by
    have a1 := gT i
    rw [co_mulL_smul (t1 := trim (divL (smul k T) s)) (c := s) (fun i => by rw [co_trim, qT])] at a1
    exact Int.eq_of_mul_eq_mul_left hs0 a1
  have pB : ∀ i, co bottom i = co (mulL (trim (divL (smul k B) s)) g) i := fun i => by
    have a1 := gB i
    rw [co_mulL_smul (t1 := trim (divL (smul k B) s)) (c := s) (fun i => by rw [co_trim, qB])] at a1
    exact Int.eq_of_mul_eq_mul_left hs0 a1
  exact ⟨s, k, _, _, hs0, hk, tr_trim _, tr_trim _, pT, pB, fun i => by rw [co_trim, qT, co_smul], fun i => by rw [co_trim, qB, co_smul]⟩

/-! ### a function in its form -/
/-- (F1, F2) is T / B in lowest terms -/
structure Rep (F1 F2 T B : List Int) : Prop where
  tr1 : Tr F1
  tr2 : Tr F2
  pos : 0 < lead F2
  con : ∀ d : Nat, (∀ i, (d : Int) ∣ co F1 i) → (∀ i, (d : Int) ∣ co F2 i) → d = 1
  fac : ∃ κ : Int, κ ≠ 0 ∧ (∀ i, co T i = κ * co F1 i) ∧ ∀ i, co B i = κ * co F2 i
theorem Rep.ne2 {F1 F2 T B : List Int} (h : Rep F1 F2 T B) : F2 ≠ [] := fun z => by have := h.pos; rw [z] at this; simp [co] at this
theorem Rep.nrm1 {F1 F2 T B : List Int} (h : Rep F1 F2 T B) : nrm F1 ≤ nrm T := let ⟨_, hk, h1, _⟩ := h.fac; nrm_le_of_dvd hk h1
theorem Rep.nrm2 {F1 F2 T B : List Int} (h : Rep F1 F2 T B) : nrm F2 ≤ nrm B := let ⟨_, hk, _, h2⟩ := h.fac; nrm_le_of_dvd hk h2
theorem Rep.ev1 {F1 F2 T B : List Int} (h : Rep F1 F2 T B) : ∃ κ : Int, κ ≠ 0 ∧ (∀ x, ev T x = κ * ev F1 x) ∧ ∀ x, ev B x = κ * ev F2 x := by
  obtain ⟨κ, hk, h1, h2⟩ := h.fac
  exact ⟨κ, hk, fun x => by rw [← ev_smul]; exact ev_of_co (fun i => by rw [co_smul, h1]) x, fun x => by rw [← ev_smul]; exact ev_of_co (fun i => by rw [co_smul, h2]) x⟩
theorem Rep.cross {F1 F2 T B : List Int} (h : Rep F1 F2 T B) (x : Int) : ev F1 x * ev B x = ev F2 x * ev T x := by
  obtain ⟨κ, hk, h1, h2⟩ := h.ev1
  rw [h1, h2]; grind
theorem Rep.cop {F1 F2 T B : List Int} (h : Rep F1 F2 T B) (hc : Cop T B) : Cop F1 F2 := by
  obtain ⟨κ, hk, h1, h2⟩ := h.ev1
  obtain ⟨m, hm, u, v, e⟩ := hc
  refine ⟨m, hm, smul κ u, smul κ v, fun x => ?_⟩
  rw [ev_smul, ev_smul]
  have := e x
  rw [h1, h2] at this
  grind
theorem Rep.ne1 {F1 F2 T B : List Int} (h : Rep F1 F2 T B) (hT : ∃ x, ev T x ≠ 0) : F1 ≠ [] := fun z => by
  obtain ⟨κ, hk, h1, _⟩ := h.ev1
  obtain ⟨x, hx⟩ := hT
  rw [h1, z] at hx
  exact hx (by simp [ev])
/-- made: divided by the content of both, with the sign of the bottom -/
theorem rep_of {t b T B : List Int} {s k f : Int} (hs : s ≠ 0) (hk : k ≠ 0) (ht : Tr t) (hb : Tr b) (hb0 : b ≠ []) (h1 : ∀ i, k * co T i = s * co t i) (h2 : ∀ i, k * co B i = s * co b i)
    (hf : f = if lead b < 0 then -(Nat.gcd (contN t) (contN b) : Int) else (Nat.gcd (contN t) (contN b) : Int)) :
    f ≠ 0 ∧ (∀ i, f ∣ co t i) ∧ (∀ i, f ∣ co b i) ∧ Rep (divL t f) (divL b f) T B := by
  have fa : f.natAbs = Nat.gcd (contN t) (contN b) := by rw [hf]; split <;> simp
  have hbn : contN b ≠ 0 := contN_ne hb hb0
  have hg : Nat.gcd (contN t) (contN b) ≠ 0 := Nat.ne_of_gt (Nat.gcd_pos_of_pos_right _ (Nat.pos_of_ne_zero hbn))
  have f0 : f ≠ 0 := fun z => hg (by rw [← fa, z]; rfl)
  have d1 : ∀ i, f ∣ co t i := fun i => by
    refine Int.natAbs_dvd.mp ?_
    rw [fa]
    exact Int.dvd_trans (Int.natCast_dvd_natCast.mpr (Nat.gcd_dvd_left _ _)) (contN_dvd t i)
  have d2 : ∀ i, f ∣ co b i := fun i => by
    refine Int.natAbs_dvd.mp ?_
    rw [fa]
    exact Int.dvd_trans (Int.natCast_dvd_natCast.mpr (Nat.gcd_dvd_right _ _)) (contN_dvd b i)
  have m1 := divL_mul d1
  have m2 := divL_mul d2
  have con : ∀ d : Nat, (∀ i, (d : Int) ∣ co (divL t f) i) → (∀ i, (d : Int) ∣ co (divL b f) i) → d = 1 := fun d e1 e2 => by
    have a1 : f.natAbs * d ∣ contN t := dvd_contN fun i => by
      rw [← m1 i, Int.natCast_mul]
      obtain ⟨c, hc⟩ := e1 i
      rw [hc]
      have : ((f.natAbs : Nat) : Int) ∣ f := Int.natAbs_dvd.mpr (Int.dvd_refl _)
      obtain ⟨z, hz⟩ := this
      exact ⟨z * c, by rw [show f * ((d : Int) * c) = (((f.natAbs : Nat) : Int) * z) * ((d : Int) * c) by rw [← hz]]; grind⟩
    have a2 : f.natAbs * d ∣ contN b := dvd_contN fun i => by
      rw [← m2 i, Int.natCast_mul]
      obtain ⟨c, hc⟩ := e2 i
      rw [hc]
      have : ((f.natAbs : Nat) : Int) ∣ f := Int.natAbs_dvd.mpr (Int.dvd_refl _)
      obtain ⟨z, hz⟩ := this
      exact ⟨z * c, by rw [show f * ((d : Int) * c) = (((f.natAbs : Nat) : Int) * z) * ((d : Int) * c) by rw [← hz]]; grind⟩
    have a3 := Nat.dvd_gcd a1 a2
    rw [fa] at a3
    have a4 : Nat.gcd (contN t) (contN b) * d ∣ Nat.gcd (contN t) (contN b) * 1 := by rw [Nat.mul_one]; exact a3
    exact Nat.dvd_one.mp (Nat.dvd_of_mul_dvd_mul_left (Nat.pos_of_ne_zero hg) a4)
  refine ⟨f0, d1, d2, tr_divL ht d1, tr_divL hb d2, ?_, con, ?_⟩
  · have e : f * lead (divL b f) = lead b := by
      have := m2 (b.length - 1)
      unfold lead
      rw [divL_len]
      exact this
    have hl := hb.lead hb0
    by_cases hn : lead b < 0
    · have hfn : f < 0 := by
        have : f = -(Nat.gcd (contN t) (contN b) : Int) := by rw [hf, if_pos hn]
        omega
      refine Int.lt_of_not_ge fun q => ?_
      have := Int.mul_nonneg_of_nonpos_of_nonpos (Int.le_of_lt hfn) q
      omega
    · have hfp : 0 < f := by
        have : f = (Nat.gcd (contN t) (contN b) : Int) := by rw [hf, if_neg hn]
        omega
      refine Int.lt_of_not_ge fun q => ?_
      have := Int.mul_nonpos_of_nonneg_of_nonpos (Int.le_of_lt hfp) q
      omega
  · -- k divides s f
    have kd : k ∣ s * f := by
      have e1 : ∀ i, k * co T i = (s * f) * co (divL t f) i := fun i => by rw [h1, ← m1 i]; grind
      have e2 : ∀ i, k * co B i = (s * f) * co (divL b f) i := fun i => by rw [h2, ← m2 i]; grind
      -- d = |k| / gcd(|k|, |s f|) divides all coefficients
      have hg0 : 0 < Nat.gcd k.natAbs (s * f).natAbs := Nat.gcd_pos_of_pos_left _ (by omega)
      obtain ⟨k', hk'⟩ := Nat.gcd_dvd_left k.natAbs (s * f).natAbs
      obtain ⟨z', hz'⟩ := Nat.gcd_dvd_right k.natAbs (s * f).natAbs
      have hcop : Nat.gcd k' z' = 1 := by
        have := Nat.gcd_mul_left (Nat.gcd k.natAbs (s * f).natAbs) k' z'
        rw [← hk', ← hz'] at this
        exact (Nat.eq_of_mul_eq_mul_left hg0 (by rw [Nat.mul_one]; exact this)).symm
      generalize Nat.gcd k.natAbs (s * f).natAbs = gg at hg0 hk' hz'
      have dd : ∀ (W c : List Int), (∀ i, k * co W i = (s * f) * co c i) → ∀ i, (k' : Int) ∣ co c i := fun W c e i => by
        have a := congrArg Int.natAbs (e i)
        rw [Int.natAbs_mul, Int.natAbs_mul (s * f), hz', hk'] at a
        have a' : k' * (co W i).natAbs = z' * (co c i).natAbs := by
          refine Nat.eq_of_mul_eq_mul_left hg0 ?_
          rw [← Nat.mul_assoc, ← Nat.mul_assoc]
          exact a
        exact nc_dvd.mpr (Nat.Coprime.dvd_of_dvd_mul_left hcop ⟨_, a'.symm⟩)
      have k1 : k' = 1 := con k' (dd T _ e1) (dd B _ e2)
      have : k.natAbs ∣ (s * f).natAbs := by
        rw [hk', k1, Nat.mul_one]
        exact ⟨_, hz'⟩
      exact Int.natAbs_dvd_natAbs.mp this
    obtain ⟨κ, hκ⟩ := kd
    refine ⟨κ, fun z => ?_, fun i => ?_, fun i => ?_⟩
    · rw [z, Int.mul_zero] at hκ
      exact Int.mul_ne_zero hs f0 hκ
    · refine Int.eq_of_mul_eq_mul_left hk ?_
      rw [h1, ← m1 i, ← Int.mul_assoc, ← Int.mul_assoc, hκ]
    · refine Int.eq_of_mul_eq_mul_left hk ?_
      rw [h2, ← m2 i, ← Int.mul_assoc, ← Int.mul_assoc, hκ]
/-- the form is one -/
theorem rep_eq {F1 F2 G1 G2 T B U D : List Int} (hF : Rep F1 F2 T B) (hG : Rep G1 G2 U D) (hc : Cop T B) (hc2 : Cop U D) (h : ∀ x, ev T x * ev D x = ev U x * ev B x) : F1 = G1 ∧ F2 = G2 := by
  obtain ⟨κ, hk, k1, k2⟩ := hF.ev1
  obtain ⟨l, hl, l1, l2⟩ := hG.ev1
  obtain ⟨m, hm, u, v, e⟩ := hF.cop hc
  obtain ⟨n, hn, y, z, e'⟩ := hG.cop hc2
  have hx : ∀ x, ev F1 x * ev G2 x = ev G1 x * ev F2 x := fun x => by
    have := h x
    rw [k1, l2, l1, k2] at this
    have e2 : (κ * l) * (ev F1 x * ev G2 x) = (κ * l) * (ev G1 x * ev F2 x) := by grind
    exact Int.eq_of_mul_eq_mul_left (Int.mul_ne_zero hk hl) e2
  -- c = u G1 + v G2 is a number
  have c1 : ∀ x, ev F2 x * ev (addL (mulL u G1) (mulL v G2)) x = m * ev G2 x := fun x => by
    rw [ev_addL, ev_mulL, ev_mulL]
    have a1 := e x
    have a2 := hx x
    grind
  have c2 : ∀ x, ev F1 x * ev (addL (mulL u G1) (mulL v G2)) x = m * ev G1 x := fun x => by
    rw [ev_addL, ev_mulL, ev_mulL]
    have a1 := e x
    have a2 := hx x
    grind
  generalize addL (mulL u G1) (mulL v G2) = c at c1 c2
  obtain ⟨s, hs, hS⟩ := const_of_dvd (s := c) (w := addL (mulL y F1) (mulL z F2)) (c := m * n) (Int.mul_ne_zero hm hn) fun x => by
    rw [ev_addL, ev_mulL, ev_mulL]
    have a1 := c1 x
    have a2 := c2 x
    have a3 := e' x
    grind
  have q1 : ∀ i, s * co F1 i = m * co G1 i := fun i => by
    rw [← co_smul, ← co_smul]
    refine co_of_ev (fun x => ?_) i
    rw [ev_smul, ev_smul, ← c2 x, hS]; grind
  have q2 : ∀ i, s * co F2 i = m * co G2 i := fun i => by
    rw [← co_smul, ← co_smul]
    refine co_of_ev (fun x => ?_) i
    rw [ev_smul, ev_smul, ← c1 x, hS]; grind
  -- |s| = |m|
  have half : ∀ {F1 F2 G1 G2 : List Int} {s m : Int}, s ≠ 0 → (∀ d : Nat, (∀ i, (d : Int) ∣ co F1 i) → (∀ i, (d : Int) ∣ co F2 i) → d = 1) → (∀ i, s * co F1 i = m * co G1 i) → (∀ i, s * co F2 i = m * co G2 i) → m.natAbs ∣ s.natAbs := by
    intro F1 F2 G1 G2 s m hs con q1 q2
    have hg0 : 0 < Nat.gcd m.natAbs s.natAbs := Nat.gcd_pos_of_pos_right _ (by omega)
    obtain ⟨m', hm'⟩ := Nat.gcd_dvd_left m.natAbs s.natAbs
    obtain ⟨s', hs'⟩ := Nat.gcd_dvd_right m.natAbs s.natAbs
    have hcop : Nat.gcd m' s' = 1 := by
      have := Nat.gcd_mul_left (Nat.gcd m.natAbs s.natAbs) m' s'
      rw [← hm', ← hs'] at this
      exact (Nat.eq_of_mul_eq_mul_left hg0 (by rw [Nat.mul_one]; exact this)).symm
    generalize Nat.gcd m.natAbs s.natAbs = gg at hg0 hm' hs'
    have dd : ∀ (W c : List Int), (∀ i, s * co c i = m * co W i) → ∀ i, (m' : Int) ∣ co c i := fun W c e i => by
      have a := congrArg Int.natAbs (e i)
      rw [Int.natAbs_mul, Int.natAbs_mul m, hs', hm'] at a
      have a' : s' * (co c i).natAbs = m' * (co W i).natAbs := by
        refine Nat.eq_of_mul_eq_mul_left hg0 ?_
        rw [← Nat.mul_assoc, ← Nat.mul_assoc]
        exact a
      exact nc_dvd.mpr (Nat.Coprime.dvd_of_dvd_mul_left hcop ⟨_, a'⟩)
    have k1 : m' = 1 := con m' (dd G1 _ q1) (dd G2 _ q2)
    rw [hm', k1, Nat.mul_one]
    exact ⟨_, hs'⟩
  have a1 := half hs hF.con q1 q2
  have a2 := half hm hG.con (fun i => (q1 i).symm) (fun i => (q2 i).symm)
  have ea : m.natAbs = s.natAbs := Nat.dvd_antisymm a1 a2
  have el : F2.length = G2.length := by
    refine Nat.le_antisymm (tr_len hF.tr2 fun i hi => ?_) (tr_len hG.tr2 fun i hi => ?_)
    · have := q2 i
      rw [co_out (p := G2) hi, Int.mul_zero] at this
      exact (Int.mul_eq_zero.mp this).resolve_left hs
    · have := q2 i
      rw [co_out (p := F2) hi, Int.mul_zero] at this
      exact (Int.mul_eq_zero.mp this.symm).resolve_left hm
  have es : s = m := by
    rcases Int.natAbs_eq_natAbs_iff.mp ea with q | q
    · exact q.symm
    · exfalso
      have p1 := hF.pos
      have p2 := hG.pos
      have := q2 (F2.length - 1)
      have e3 : co F2 (F2.length - 1) = lead F2 := rfl
      have e4 : co G2 (F2.length - 1) = lead G2 := by rw [el]
      rw [e3, e4, q] at this
      have e5 : s * (lead F2 + lead G2) = 0 := by grind
      rcases Int.mul_eq_zero.mp e5 with w | w
      · exact hs w
      · omega
  subst es
  exact ⟨tr_ext hF.tr1 hG.tr1 fun i => Int.eq_of_mul_eq_mul_left hs (q1 i), tr_ext hF.tr2 hG.tr2 fun i => Int.eq_of_mul_eq_mul_left hs (q2 i)⟩
end Pm
end

section
set_option Elab.async false
set_option linter.all false
/-! The remainder's step, the remainder, the chain of remainders with its sizes. Plain Lean. -/
namespace Pm

theorem ev_shift (l : List Int) (x : Int) : ∀ s : Nat, ev (List.replicate s 0 ++ l) x = ev (List.replicate s 0 ++ [1]) x * ev l x
  | 0 => by show ev l x = ev [1] x * ev l x; rw [ev_single]; omega
  | s + 1 => by
    rw [List.replicate_succ]
    show 0 + x * ev (List.replicate s 0 ++ l) x = (0 + x * ev (List.replicate s 0 ++ [1]) x) * ev l x
    rw [ev_shift l x s]; grind
theorem co_shift (l : List Int) (s i : Nat) : co (List.replicate s 0 ++ l) i = if i < s then 0 else co l (i - s) := by
  simp only [co, List.getD_eq_getElem?_getD]
  by_cases h : i < s
  · rw [List.getElem?_append_left (by simpa using h), if_pos h, List.getElem?_replicate, if_pos h]
    rfl
  · rw [List.getElem?_append_right (by simpa using h), if_neg h, List.length_replicate]
theorem nrm_shift (l : List Int) : ∀ s : Nat, nrm (List.replicate s 0 ++ l) = nrm l
  | 0 => rfl
  | s + 1 => by
    rw [List.replicate_succ]
    show nrm (0 :: (List.replicate s 0 ++ l)) = _
    rw [nrm_cons, nrm_shift l s]; simp
theorem tr_shift {l : List Int} (h : Tr l) (h0 : l ≠ []) (s : Nat) : Tr (List.replicate s 0 ++ l) := fun a ha => by
  rw [List.getLast?_append, List.getLast?_eq_some_getLast h0] at ha
  refine h a ?_
  rw [List.getLast?_eq_some_getLast h0]
  simpa using ha

/-- one turn of the remainder's loop -/
def remStep (rest other : List Int) : List Int :=
  minus (scal rest (if lead other < 0 then -lead other else lead other)) (scal (List.replicate (rest.length - other.length) 0 ++ other) (if 0 < lead other then lead rest else -lead rest))
theorem remStep_len {rest other : List Int} (hr : Tr rest) (ho : Tr other) (h0 : other ≠ []) (hl : other.length ≤ rest.length) : (remStep rest other).length < rest.length := by
  have hlo : 0 < other.length := List.length_pos_iff.mpr h0
  have hne := ho.lead h0
  have key : (if lead other < 0 then -lead other else lead other) * lead rest = (if 0 < lead other then lead rest else -lead rest) * lead other := by
    by_cases hp : 0 < lead other
    · rw [if_neg (show ¬ lead other < 0 by omega), if_pos hp, Int.mul_comm]
    · rw [if_pos (show lead other < 0 by omega), if_neg hp]
      grind
  refine Nat.lt_of_le_of_lt (tr_len (n := rest.length - 1) (tr_minus _ _) fun i hi => ?_) (by omega)
  generalize (if lead other < 0 then -lead other else lead other) = A at key
  generalize (if 0 < lead other then lead rest else -lead rest) = c at key
  rw [co_minus, co_scal, co_scal, co_shift]
  by_cases h1 : rest.length ≤ i
  · rw [co_out (p := rest) h1, if_neg (by omega), co_out (p := other) (by omega)]
    omega
  · have e : i = rest.length - 1 := by omega
    subst e
    rw [if_neg (by omega)]
    have e2 : rest.length - 1 - (rest.length - other.length) = other.length - 1 := by omega
    rw [e2]
    show A * lead rest - c * lead other = 0
    omega
theorem remStep_nrm (rest other : List Int) : nrm (remStep rest other) ≤ 2 * (nrm rest * nrm other) := by
  unfold remStep
  refine Nat.le_trans (nrm_minus _ _) ?_
  rw [nrm_scal, nrm_scal, nrm_shift]
  have h1 : (if lead other < 0 then -lead other else lead other).natAbs ≤ nrm other := by
    have := co_le_nrm other (other.length - 1)
    have e : co other (other.length - 1) = lead other := rfl
    rw [e] at this
    split <;> omega
  have h2 : (if 0 < lead other then lead rest else -lead rest).natAbs ≤ nrm rest := by
    have := co_le_nrm rest (rest.length - 1)
    have e : co rest (rest.length - 1) = lead rest := rfl
    rw [e] at this
    split <;> omega
  have h3 := Nat.mul_le_mul_right (nrm rest) h1
  have h4 := Nat.mul_le_mul_right (nrm other) h2
  rw [Nat.mul_comm (nrm other)] at h3
  omega
theorem remStep_ev (rest other : List Int) : ∃ (m : Int) (q : List Int), (lead other ≠ 0 → m ≠ 0) ∧ ∀ x, m * ev rest x = ev q x * ev other x + ev (remStep rest other) x := by
  refine ⟨if lead other < 0 then -lead other else lead other, smul (if 0 < lead other then lead rest else -lead rest) (List.replicate (rest.length - other.length) 0 ++ [1]), fun h => ?_, fun x => ?_⟩
  · split <;> omega
  · unfold remStep
    rw [ev_minus, ev_scal, ev_scal, ev_shift, ev_smul]
    grind

/-- what remainder hands back -/
structure RemOk (one other r : List Int) (b : Nat) : Prop where
  tr : Tr r
  len : r.length < other.length
  size : nrm r ≤ 2 ^ b
  eqn : ∃ m s : Int, m ≠ 0 ∧ s ≠ 0 ∧ ∃ q : List Int, ∀ x, m * ev one x = ev q x * ev other x + s * ev r x
/-- the loop's word -/
structure RemW (one other rest : List Int) (b2 B β : Nat) : Prop where
  tr : Tr rest
  size : nrm rest ≤ 2 ^ β
  room : β + (rest.length + 1 - other.length) * (b2 + 1) ≤ B
  eqn : ∃ m : Int, m ≠ 0 ∧ ∃ q : List Int, ∀ x, m * ev one x = ev q x * ev other x + ev rest x
theorem RemW.start {one other : List Int} {b1 b2 : Nat} (h1 : Tr one) (hn : nrm one ≤ 2 ^ b1) : RemW one other one b2 (b1 + (one.length + 1 - other.length) * (b2 + 1)) b1 :=
  ⟨h1, hn, Nat.le_refl _, 1, by decide, [], fun x => by show 1 * ev one x = 0 * ev other x + ev one x; omega⟩
theorem RemW.step {one other rest : List Int} {b2 B β : Nat} (h : RemW one other rest b2 B β) (ho : Tr other) (h0 : other ≠ []) (hb : nrm other ≤ 2 ^ b2) (hl : other.length ≤ rest.length) :
    RemW one other (remStep rest other) b2 B (β + b2 + 1) ∧ (remStep rest other).length < rest.length ∧ β + b2 + 1 ≤ B := by
  have hlen := remStep_len h.tr ho h0 hl
  have hroom := h.room
  have e1 : ((remStep rest other).length + 1 - other.length) * (b2 + 1) + (b2 + 1) ≤ (rest.length + 1 - other.length) * (b2 + 1) := by
    have e : rest.length + 1 - other.length = (rest.length - other.length) + 1 := by omega
    rw [e, Nat.add_mul, Nat.one_mul]
    have := Nat.mul_le_mul_right (b2 + 1) (show (remStep rest other).length + 1 - other.length ≤ rest.length - other.length by omega)
    omega
  have e2 : b2 + 1 ≤ (rest.length + 1 - other.length) * (b2 + 1) := Nat.le_mul_of_pos_left _ (by omega)
  refine ⟨⟨tr_minus _ _, ?_, by omega, ?_⟩, hlen, by omega⟩
  · have h1 := remStep_nrm rest other
    have h2 := Nat.mul_le_mul h.size hb
    have e : 2 ^ (β + b2 + 1) = 2 * (2 ^ β * 2 ^ b2) := by rw [Nat.pow_succ, Nat.pow_add, Nat.mul_comm]
    rw [e]
    omega
  · obtain ⟨m, hm, q, e⟩ := h.eqn
    obtain ⟨m2, q2, hm2, e2⟩ := remStep_ev rest other
    refine ⟨m2 * m, Int.mul_ne_zero (hm2 (ho.lead h0)) hm, addL (smul m2 q) q2, fun x => ?_⟩
    rw [ev_addL, ev_smul]
    have a1 := e x
    have a2 := e2 x
    grind
theorem RemW.done {one other rest : List Int} {b2 B β : Nat} (h : RemW one other rest b2 B β) (hl : rest.length < other.length) : RemOk one other rest B ∧ (1 < contN rest → RemOk one other (divL rest (contN rest : Int)) B) := by
  have hB : β ≤ B := by have := h.room; omega
  have hn : nrm rest ≤ 2 ^ B := Nat.le_trans h.size (Nat.pow_le_pow_right (by decide) hB)
  obtain ⟨m, hm, q, e⟩ := h.eqn
  refine ⟨⟨h.tr, hl, hn, m, 1, hm, by decide, q, fun x => by rw [e x]; omega⟩, fun hc => ?_⟩
  have d := fun i => divL_mul (contN_dvd rest) i
  have hc0 : ((contN rest : Nat) : Int) ≠ 0 := by omega
  refine ⟨tr_divL h.tr (contN_dvd rest), by rw [divL_len]; exact hl, Nat.le_trans (nrm_le_of_dvd hc0 fun i => (d i).symm) hn, m, contN rest, hm, hc0, q, fun x => ?_⟩
  have e3 : ev rest x = (contN rest : Int) * ev (divL rest (contN rest : Int)) x := by
    rw [← ev_smul]
    exact ev_of_co (fun i => by rw [co_smul, d]) x
  rw [e x, ← e3]

/-! ### the chain's sizes -/
def pell : Nat → Nat
  | 0 => 1
  | 1 => 2
  | n + 2 => 2 * pell (n + 1) + pell n
theorem pell_mono1 : ∀ n, pell n ≤ pell (n + 1)
  | 0 => by decide
  | n + 1 => by show _ ≤ 2 * pell (n + 1) + pell n; omega
theorem pell_mono {m n : Nat} (h : m ≤ n) : pell m ≤ pell n := by
  induction h with
  | refl => exact Nat.le_refl _
  | step _ ih => exact Nat.le_trans ih (pell_mono1 _)
theorem pell_gap (k : Nat) : ∀ d, pell k + (d + 2) * pell (k + 1) ≤ pell (k + d + 2)
  | 0 => by show _ ≤ 2 * pell (k + 1) + pell k; omega
  | d + 1 => by
    have ih := pell_gap k d
    have h1 := pell_mono (show k + 1 ≤ k + d + 1 by omega)
    have h2 := pell_mono1 (k + d + 1)
    show _ ≤ 2 * pell (k + d + 2) + pell (k + d + 1)
    rw [show d + 1 + 2 = (d + 2) + 1 by omega, Nat.add_mul _ 1, Nat.one_mul]
    have h3 := pell_mono (show k + 1 ≤ k + d + 2 by omega)
    omega
theorem pell_first : ∀ d, d + 2 ≤ pell (d + 1)
  | 0 => by decide
  | d + 1 => by
    have := pell_first d
    show _ ≤ 2 * pell (d + 1) + pell d
    omega
end Pm
end

section
set_option Elab.async false
set_option linter.all false
/-! The loop of common, the quotient's loop. Plain Lean. -/
namespace Pm

def Sizes (one other : List Int) (C L : Nat) (b1 b2 : Nat) : Prop := nrm one ≤ 2 ^ b1 ∧ nrm other ≤ 2 ^ b2 ∧
  ((b1 + 1 ≤ C ∧ b2 + 1 ≤ C ∧ one.length ≤ L ∧ other.length ≤ L) ∨ ∃ k, b1 + 1 ≤ C * pell k ∧ b2 + 1 ≤ C * pell (k + 1) ∧ other.length < one.length ∧ k + one.length ≤ L)
theorem pell_pos (k : Nat) : 1 ≤ pell k := Nat.le_trans (show 1 ≤ pell 0 by decide) (pell_mono (Nat.zero_le k))
theorem Sizes.step {one other r : List Int} {C L b1 b2 : Nat} (h : Sizes one other C L b1 b2) (h0 : other ≠ []) (hr : nrm r ≤ 2 ^ (b1 + (one.length + 1 - other.length) * (b2 + 1))) (hl : r.length < other.length) :
    Sizes other r C L b2 (b1 + (one.length + 1 - other.length) * (b2 + 1)) ∧ b1 + (one.length + 1 - other.length) * (b2 + 1) + 1 ≤ C * pell L ∧ b2 + 1 ≤ C * pell L := by
  have hlo : 0 < other.length := List.length_pos_iff.mpr h0
  have hC : ∀ {k}, C ≤ C * pell k := fun {k} => Nat.le_mul_of_pos_right _ (pell_pos k)
  obtain ⟨n1, n2, ⟨a1, a2, a3, a4⟩ | ⟨k, a1, a2, a3, a4⟩⟩ := h
  · by_cases hlt : one.length < other.length
    · have e : one.length + 1 - other.length = 0 := by omega
      rw [e, Nat.zero_mul, Nat.add_zero] at hr ⊢
      exact ⟨⟨n2, hr, .inr ⟨0, Nat.le_trans a2 hC, Nat.le_trans a1 hC, hl, by omega⟩⟩, Nat.le_trans a1 hC, Nat.le_trans a2 hC⟩
    · obtain ⟨d, hd⟩ : ∃ d, one.length = other.length + d := ⟨one.length - other.length, by omega⟩
      have e : one.length + 1 - other.length = d + 1 := by omega
      rw [e] at hr ⊢
      have hB : b1 + (d + 1) * (b2 + 1) + 1 ≤ C * pell (d + 1) := by
        have h1 := Nat.mul_le_mul_left (d + 1) a2
        have h2 := Nat.mul_le_mul_left C (pell_first d)
        have h3 : C * (d + 2) = (d + 1) * C + C := by rw [Nat.mul_comm, show d + 2 = (d + 1) + 1 by omega, Nat.add_mul (d + 1), Nat.one_mul]
        omega
      have hLk := Nat.mul_le_mul_left C (pell_mono (show d + 1 ≤ L by omega))
      exact ⟨⟨n2, hr, .inr ⟨d, Nat.le_trans a2 hC, hB, hl, by omega⟩⟩, Nat.le_trans hB hLk, Nat.le_trans a2 hC⟩
  · obtain ⟨d, hd⟩ : ∃ d, one.length = other.length + (d + 1) := ⟨one.length - other.length - 1, by omega⟩
    have e : one.length + 1 - other.length = d + 2 := by omega
    rw [e] at hr ⊢
    have hB : b1 + (d + 2) * (b2 + 1) + 1 ≤ C * pell (k + d + 2) := by
      have h1 := Nat.mul_le_mul_left (d + 2) a2
      have h2 := Nat.mul_le_mul_left C (pell_gap k d)
      have h3 : C * (pell k + (d + 2) * pell (k + 1)) = C * pell k + (d + 2) * (C * pell (k + 1)) := by
        rw [Nat.mul_add, Nat.mul_left_comm]
      omega
    have hLk := Nat.mul_le_mul_left C (pell_mono (show k + d + 2 ≤ L by omega))
    have h2k := Nat.mul_le_mul_left C (pell_mono (show k + 1 ≤ k + d + 1 by omega))
    have h3k := Nat.mul_le_mul_left C (pell_mono (show k + 1 ≤ L by omega))
    exact ⟨⟨n2, hr, .inr ⟨k + d + 1, Nat.le_trans a2 h2k, hB, hl, by omega⟩⟩, Nat.le_trans hB hLk, Nat.le_trans a2 h3k⟩

/-- the word of common's loop -/
structure ComW (f g one other : List Int) (C L : Nat) : Prop where
  tr1 : Tr one
  tr2 : Tr other
  s1 : Spn f g one
  s2 : Spn f g other
  s3 : Spn one other f
  s4 : Spn one other g
  size : ∃ b1 b2, Sizes one other C L b1 b2
theorem ComW.start {f g : List Int} {b C L : Nat} (h1 : Tr f) (h2 : Tr g) (n1 : nrm f ≤ 2 ^ b) (n2 : nrm g ≤ 2 ^ b) (hb : b + 1 ≤ C) (l1 : f.length ≤ L) (l2 : g.length ≤ L) : ComW f g f g C L :=
  ⟨h1, h2, spn_left _ _, spn_right _ _, spn_left _ _, spn_right _ _, b, b, n1, n2, .inl ⟨hb, hb, l1, l2⟩⟩
theorem ComW.step {f g one other r : List Int} {C L b1 b2 : Nat} (h : ComW f g one other C L) (hs : Sizes one other C L b1 b2) (h0 : other ≠ []) (hr : RemOk one other r (b1 + (one.length + 1 - other.length) * (b2 + 1))) : ComW f g other (prim r) C L := by
  -- r in terms of one, other; one in terms of other, r
  have hp : ∃ e : Int, e ≠ 0 ∧ ∀ x, e * ev (prim r) x = ev r x := by
    by_cases z : r = []
    · exact ⟨1, by decide, fun x => by rw [z]; rfl⟩
    · exact ⟨sgc r, sgc_ne hr.tr z, fun x => by rw [← ev_smul]; exact ev_of_co (fun i => by rw [co_smul, prim_mul]) x⟩
  obtain ⟨e, he, ee⟩ := hp
  obtain ⟨m, s, hm, hs0, q, eq⟩ := hr.eqn
  have r1 : Spn one other (prim r) := ⟨s * e, Int.mul_ne_zero hs0 he, [m], smul (-1) q, fun x => by
    rw [ev_single, ev_smul]
    have a1 := eq x
    have a2 := ee x
    grind⟩
  have r2 : Spn other (prim r) one := ⟨m, hm, q, [s * e], fun x => by
    rw [ev_single]
    have a1 := eq x
    have a2 := ee x
    grind⟩
  have hn : nrm (prim r) ≤ 2 ^ (b1 + (one.length + 1 - other.length) * (b2 + 1)) := by
    by_cases z : r = []
    · rw [z]; exact Nat.zero_le _
    · exact Nat.le_trans (nrm_prim hr.tr z) hr.size
  exact ⟨h.tr2, tr_prim hr.tr, h.s2, spn_trans h.s1 h.s2 r1, spn_trans r2 (spn_left _ _) h.s3, spn_trans r2 (spn_left _ _) h.s4, _, _, (hs.step h0 hn (by rw [prim_len]; exact hr.len)).1⟩
/-- what common hands back -/
structure GcdOk (f g h : List Int) (b : Nat) : Prop where
  tr : Tr h
  ne : h ≠ []
  con : contN h = 1
  pos : 0 < lead h
  size : nrm h ≤ 2 ^ b
  spn : Spn f g h
  d1 : Dvs h f
  d2 : Dvs h g
theorem ComW.done {f g one : List Int} {C L : Nat} (h : ComW f g one [] C L) (hg : Tr g) (hg0 : g ≠ []) : GcdOk f g (prim one) (C * pell L) := by
  have h1 : one ≠ [] := fun z => by
    obtain ⟨m, hm, u, v, e⟩ := h.s4
    refine hg0 ((nil_iff_ev hg).mpr fun x => ?_)
    have := e x
    rw [z] at this
    have e2 : m * ev g x = 0 := by rw [this]; show ev u x * 0 + ev v x * 0 = 0; omega
    exact (Int.mul_eq_zero.mp e2).resolve_left hm
  have hs := sgc_ne h.tr1 h1
  have ee : ∀ x, sgc one * ev (prim one) x = ev one x := fun x => by rw [← ev_smul]; exact ev_of_co (fun i => by rw [co_smul, prim_mul]) x
  have dv : ∀ {q : List Int}, Spn one [] q → Dvs (prim one) q := fun {q} ⟨m, hm, u, v, e⟩ => ⟨m, hm, smul (sgc one) u, fun x => by
    have a1 := e x
    have a2 := ee x
    rw [ev_smul]
    have a3 : ev ([] : List Int) x = 0 := rfl
    grind⟩
  refine ⟨tr_prim h.tr1, prim_ne h1, contN_prim h.tr1 h1, lead_prim h.tr1 h1, ?_, ?_, dv h.s3, dv h.s4⟩
  · obtain ⟨b1, b2, n1, _, hc⟩ := h.size
    have hb : b1 ≤ C * pell L := by
      have hC : C ≤ C * pell L := Nat.le_mul_of_pos_right _ (pell_pos L)
      rcases hc with ⟨a1, _⟩ | ⟨k, a1, _, _, a4⟩
      · omega
      · have := Nat.mul_le_mul_left C (pell_mono (show k ≤ L by omega))
        omega
    exact Nat.le_trans (nrm_prim h.tr1 h1) (Nat.le_trans n1 (Nat.pow_le_pow_right (by decide) hb))
  · obtain ⟨m, hm, u, v, e⟩ := h.s1
    exact ⟨m * sgc one, Int.mul_ne_zero hm hs, u, v, fun x => by rw [← e x, ← ee x]; grind⟩

/-! ### the quotient -/
theorem quot_len {one t g : List Int} (ho : Tr one) (ht : Tr t) (hg : Tr g) (h1 : one ≠ []) (h0 : g ≠ []) (h : ∀ i, co one i = co (mulL t g) i) : t ≠ [] ∧ one.length + 1 = t.length + g.length := by
  have ht0 : t ≠ [] := fun z => ho.lead h1 (by rw [lead, h, z, co_mulL_nil])
  have hl1 : 0 < t.length := List.length_pos_iff.mpr ht0
  have hl2 : 0 < g.length := List.length_pos_iff.mpr h0
  have a1 : one.length ≤ t.length + g.length - 1 := tr_len ho fun i hi => by rw [h]; exact mulL_out (by omega)
  have a2 : t.length + g.length - 1 ≤ one.length := Nat.le_of_not_lt fun hlt => by
    have := tr_mul_ne ht hg ht0 h0
    rw [← h, co_out (by omega)] at this
    exact this rfl
  exact ⟨ht0, by omega⟩
theorem co_take (t : List Int) (n i : Nat) : co (t.take n) i = if i < n then co t i else 0 := by
  simp only [co, List.getD_eq_getElem?_getD]
  by_cases h : i < n
  · rw [if_pos h, List.getElem?_take_of_lt h]
  · rw [if_neg h, List.getElem?_eq_none (by rw [List.length_take]; omega)]
    rfl
/-- the cell that is divided -/
theorem quot_top {t g : List Int} {n : Nat} (hn : n < t.length) (h0 : g ≠ []) : co (mulL (t.take (n + 1)) g) (n + g.length - 1) = co t n * lead g := by
  have hl : (t.take (n + 1)).length = n + 1 := by rw [List.length_take]; omega
  have hg : 0 < g.length := List.length_pos_iff.mpr h0
  have h1 : t.take (n + 1) ≠ [] := fun z => by rw [z] at hl; simp at hl
  have := co_mulL_top (t.take (n + 1)) g h1 h0
  rw [hl] at this
  rw [show n + g.length - 1 = n + 1 - 1 + (g.length - 1) by omega, this]
  unfold lead
  rw [hl, co_take, if_pos (by omega)]
  rfl
end Pm
end

section
set_option Elab.async false
set_option linter.all false
/-! The size of a quotient. Plain Lean. -/
namespace Pm
theorem dvd_mulL {d : Int} {t g : List Int} (h : ∀ i, d ∣ co t i) (k : Nat) : d ∣ co (mulL t g) k := by
  have e := co_mulL_smul (t := t) (t1 := divL t d) (g := g) (c := d) (fun i => (divL_mul h i).symm) k
  rw [e]
  exact ⟨_, rfl⟩
theorem quo_bound {p t g T : List Int} {s k : Int} (hp : Tr p) (hp0 : p ≠ []) (ht : Tr t) (ht0 : t ≠ []) (hs : s ≠ 0) (hk : k ≠ 0) (h : ∀ i, co p i = co (mulL t g) i) (h1 : ∀ i, k * co T i = s * co t i) : nrm t ≤ nrm p * nrm T := by
  obtain ⟨f0, d1, _, R⟩ := rep_of (f := if lead t < 0 then -(Nat.gcd (contN t) (contN t) : Int) else (Nat.gcd (contN t) (contN t) : Int)) hs hk ht ht ht0 h1 h1 rfl
  generalize ef : (if lead t < 0 then -(Nat.gcd (contN t) (contN t) : Int) else (Nat.gcd (contN t) (contN t) : Int)) = f at f0 d1 R
  have e : nrm t = f.natAbs * nrm (divL t f) := by
    rw [← nrm_smul]
    have : smul f (divL t f) = t := by
      refine tr_ext ?_ ht fun i => ?_
      · refine tr_of_mul (d := 1) (q := t) (by simp [smul, divL]) ht fun i => ?_
        rw [co_smul, divL_mul d1]; omega
      · rw [co_smul, divL_mul d1]
    rw [this]
  have hd : f ∣ lead p := by
    unfold lead
    rw [h]
    exact dvd_mulL d1 _
  have hl := hp.lead hp0
  have h2 : f.natAbs ≤ (lead p).natAbs := Nat.le_of_dvd (by omega) (Int.natAbs_dvd_natAbs.mpr hd)
  have h3 := co_le_nrm p (p.length - 1)
  have h4 : f.natAbs ≤ nrm p := Nat.le_trans h2 h3
  rw [e]
  exact Nat.mul_le_mul h4 R.nrm1
end Pm
end

section
set_option Elab.async false
set_option linter.all false
/-! The impedance of a ladder of coils in series, capacitors across and a last resistor. Plain Lean. -/
namespace Pm

theorem ev_cons (a : Int) (p : List Int) (x : Int) : ev (a :: p) x = a + x * ev p x := rfl
theorem ev_zero_co : ∀ p : List Int, ev p 0 = co p 0
  | [] => rfl
  | a :: p => by rw [co_zero, ev_cons]; omega
theorem ev_split : ∀ (p : List Int), ∃ q : List Int, ∀ x, ev p x = ev p 0 + x * ev q x
  | [] => ⟨[], fun x => by show (0 : Int) = 0 + x * 0; omega⟩
  | a :: p => ⟨p, fun x => by rw [ev_cons, ev_cons]; omega⟩
theorem cop_swap {T B : List Int} (h : Cop T B) : Cop B T := let ⟨m, hm, u, v, e⟩ := h; ⟨m, hm, v, u, fun x => by rw [← e x]; omega⟩
theorem cop_lin {T B T' q : List Int} {c : Int} (h : Cop T B) (hc : c ≠ 0) (e : ∀ x, ev T' x = c * ev T x + ev q x * ev B x) : Cop T' B := by
  obtain ⟨m, hm, u, v, k⟩ := h
  refine ⟨c * m, Int.mul_ne_zero hc hm, u, addL (smul c v) (smul (-1) (mulL u q)), fun x => ?_⟩
  rw [ev_addL, ev_smul, ev_smul, ev_mulL, e, ← k x]
  grind
theorem cop_x {T B T' : List Int} (h : Cop T B) (hb : ev B 0 ≠ 0) (e : ∀ x, ev T' x = x * ev T x) : Cop T' B := by
  obtain ⟨m, hm, u, v, k⟩ := h
  obtain ⟨b1, hb1⟩ := ev_split B
  refine ⟨m * ev B 0, Int.mul_ne_zero hm hb, smul (-1) (mulL b1 u), addL [m] (smul (-1) (mulL b1 (0 :: v))), fun x => ?_⟩
  rw [ev_smul, ev_addL, ev_smul, ev_mulL, ev_mulL, ev_single, ev_cons, e]
  have h1 := k x
  have h2 := hb1 x
  have h3 : ev B 0 = ev B x - x * ev b1 x := by omega
  rw [h3, ← h1]
  grind
theorem cop_sc {T B T' : List Int} {c : Int} (h : Cop T B) (hc : c ≠ 0) (e : ∀ x, ev T' x = c * ev T x) : Cop T' B :=
  cop_lin (q := []) h hc fun x => by rw [e]; show _ = _ + 0 * _; omega

/-- a word on the two polynomials -/
structure Imp (t b : List Int) (m L : Nat) : Prop where
  cop : Cop t b
  p1 : 0 < ev t 0
  p2 : 0 < ev b 0
  n1 : nrm t ≤ 2 ^ m
  n2 : nrm b ≤ 2 ^ m
  l1 : t.length ≤ L
  l2 : b.length ≤ L
theorem Imp.swap {t b : List Int} {m L : Nat} (h : Imp t b m L) : Imp b t m L := ⟨cop_swap h.cop, h.p2, h.p1, h.n2, h.n1, h.l2, h.l1⟩
/-- the pole at infinity added -/
def stT (n d : Int) (t b : List Int) : List Int := addL (smul d t) (0 :: smul n b)
theorem ev_stT (n d : Int) (t b : List Int) (x : Int) : ev (stT n d t b) x = d * ev t x + x * (n * ev b x) := by
  unfold stT
  rw [ev_addL, ev_cons, ev_smul, ev_smul]; omega
theorem Imp.start {n d : Int} {m : Nat} (hn : 0 < n) (hd : 0 < d) (mn : n.natAbs ≤ 2 ^ m) (md : d.natAbs ≤ 2 ^ m) : Imp [n] [d] m 1 :=
  ⟨⟨d, by omega, [], [1], fun x => by rw [ev_single, ev_single, ev_single]; show 0 * n + 1 * d = d; omega⟩, by rw [ev_single]; exact hn, by rw [ev_single]; exact hd, by simpa [nrm] using mn, by simpa [nrm] using md, Nat.le_refl _, Nat.le_refl _⟩
theorem Imp.step {t b : List Int} {m L r : Nat} {n d : Int} (h : Imp t b m L) (hn : 0 < n) (hd : 0 < d) (mn : n.natAbs ≤ 2 ^ r) (md : d.natAbs ≤ 2 ^ r) : Imp (stT n d t b) (smul d b) (m + r + 1) (L + 1) := by
  have hdn : d ≠ 0 := by omega
  have k1 : nrm (smul d t) ≤ 2 ^ (m + r) := by
    rw [nrm_smul, Nat.pow_add, Nat.mul_comm]; exact Nat.mul_le_mul h.n1 md
  have k2 : nrm (smul d b) ≤ 2 ^ (m + r) := by
    rw [nrm_smul, Nat.pow_add, Nat.mul_comm]; exact Nat.mul_le_mul h.n2 md
  have k3 : nrm (smul n b) ≤ 2 ^ (m + r) := by
    rw [nrm_smul, Nat.pow_add, Nat.mul_comm]; exact Nat.mul_le_mul h.n2 mn
  refine ⟨?_, ?_, ?_, ?_, ?_, ?_, ?_⟩
  · have c1 : Cop (stT n d t b) b := cop_lin (q := 0 :: [n]) h.cop hdn fun x => by rw [ev_stT, ev_cons, ev_single]; grind
    exact cop_swap (cop_sc (cop_swap c1) hdn fun x => ev_smul d b x)
  · rw [ev_stT, Int.zero_mul, Int.add_zero]; exact Int.mul_pos hd h.p1
  · rw [ev_smul]; exact Int.mul_pos hd h.p2
  · unfold stT
    refine Nat.le_trans (nrm_addL _ _) ?_
    rw [nrm_cons, Nat.pow_succ]
    show _ + (0 + _) ≤ _
    omega
  · rw [Nat.pow_succ]; omega
  · unfold stT
    rw [addL_len, List.length_cons, smul, smul, List.length_map, List.length_map]
    have := h.l1
    have := h.l2
    omega
  · rw [smul, List.length_map]
    have := h.l2
    omega

/-- the rungs but the last: true is a coil in series, false a capacitor across -/
def impP : List (Bool × Int × Int) → Int → Int → List Int × List Int
  | [], n, d => ([n], [d])
  | (s, n', d') :: rs, n, d => if s then (stT n' d' (impP rs n d).1 (impP rs n d).2, smul d' (impP rs n d).2) else (smul d' (impP rs n d).1, stT n' d' (impP rs n d).2 (impP rs n d).1)
/-- each value allowed: positive, in lowest terms, of at most 2 ^ r -/
def OkR (r : Nat) (n d : Int) : Prop := 0 < n ∧ 0 < d ∧ n.natAbs ≤ 2 ^ r ∧ d.natAbs ≤ 2 ^ r
theorem impP_ok {r : Nat} {n d : Int} (h : OkR r n d) : ∀ (rs : List (Bool × Int × Int)), (∀ x ∈ rs, OkR r x.2.1 x.2.2) → Imp (impP rs n d).1 (impP rs n d).2 (r + rs.length * (r + 1)) (rs.length + 1)
  | [], _ => by
    rw [List.length_nil, Nat.zero_mul, Nat.add_zero]
    exact Imp.start h.1 h.2.1 h.2.2.1 h.2.2.2
  | (s, n', d') :: rs, hs => by
    have ih := impP_ok h rs fun x hx => hs x (List.mem_cons_of_mem _ hx)
    obtain ⟨h1, h2, h3, h4⟩ := hs (s, n', d') List.mem_cons_self
    have e : r + ((s, n', d') :: rs).length * (r + 1) = (r + rs.length * (r + 1)) + r + 1 := by rw [List.length_cons, Nat.add_mul]; omega
    rw [e, List.length_cons]
    cases s with
    | true => exact ih.step h1 h2 h3 h4
    | false => exact (ih.swap.step h1 h2 h3 h4).swap
end Pm
end

section
set_option Elab.async false
set_option linter.all false
/-! Degrees, the polynomial of the negative, division with rest. Plain Lean. -/
namespace Pm

/-- of a degree below n -/
def Z (p : List Int) (n : Nat) : Prop := ∀ i, n ≤ i → co p i = 0
theorem Z.mono {p : List Int} {m n : Nat} (h : Z p m) (hn : m ≤ n) : Z p n := fun i hi => h i (by omega)
theorem z_len (p : List Int) : Z p p.length := fun _ hi => co_out hi
theorem z_ev {p q : List Int} {n : Nat} (h : Z p n) (e : ∀ x, ev p x = ev q x) : Z q n := fun i hi => by rw [← co_of_ev e, h i hi]
theorem z_zero {p : List Int} (h : ∀ x, ev p x = 0) (n : Nat) : Z p n := fun i _ => co_of_ev (q := []) (fun x => by rw [h x]; rfl) i
theorem z0_ev {p : List Int} (h : Z p 0) (x : Int) : ev p x = 0 := ev_zero (fun i => h i (Nat.zero_le _)) x
theorem z1_ev {p : List Int} (h : Z p 1) (x : Int) : ev p x = co p 0 := by
  have e := ev_of_co (p := p) (q := [co p 0]) (fun i => by
    cases i with
    | zero => rw [co_zero]
    | succ i => rw [co_succ, co_nil, h _ (by omega)]) x
  rw [e, ev_single]
theorem z_addL {p q : List Int} {n : Nat} (h1 : Z p n) (h2 : Z q n) : Z (addL p q) n := fun i hi => by rw [co_addL, h1 i hi, h2 i hi]; rfl
theorem z_smul {p : List Int} {n : Nat} (c : Int) (h : Z p n) : Z (smul c p) n := fun i hi => by rw [co_smul, h i hi, Int.mul_zero]
theorem z_trim {p : List Int} {n : Nat} (h : Z p n) : (trim p).length ≤ n := tr_len (tr_trim p) fun i hi => by rw [co_trim]; exact h i hi
theorem mul_trim (p q : List Int) (i : Nat) : co (mulL p q) i = co (mulL (trim p) (trim q)) i := co_of_ev (fun x => by rw [ev_mulL, ev_mulL, ev_trim, ev_trim]) i
theorem z_mul {p q : List Int} {a b : Nat} (h1 : Z p a) (h2 : Z q b) : Z (mulL p q) (a + b - 1) := fun i hi => by
  rw [mul_trim]
  have l1 := z_trim h1
  have l2 := z_trim h2
  exact mulL_out (by omega)
theorem mul_top {p q : List Int} {a b : Nat} (h1 : Z p (a + 1)) (h2 : Z q (b + 1)) : co (mulL p q) (a + b) = co p a * co q b := by
  by_cases za : co p a = 0
  · have h1' : Z p a := fun i hi => by
      by_cases e : i = a
      · rw [e, za]
      · exact h1 i (by omega)
    rw [z_mul h1' h2 _ (by omega), za, Int.zero_mul]
  by_cases zb : co q b = 0
  · have h2' : Z q b := fun i hi => by
      by_cases e : i = b
      · rw [e, zb]
      · exact h2 i (by omega)
    have hz : Z (mulL p q) (a + 1 + b - 1) := z_mul h1 h2'
    rw [hz _ (by omega), zb, Int.mul_zero]
  have l1 := z_trim h1
  have l2 := z_trim h2
  have g1 : a < (trim p).length := Nat.lt_of_not_le fun h => za (by rw [← co_trim]; exact co_out h)
  have g2 : b < (trim q).length := Nat.lt_of_not_le fun h => zb (by rw [← co_trim]; exact co_out h)
  have e1 : (trim p).length - 1 = a := by omega
  have e2 : (trim q).length - 1 = b := by omega
  have := co_mulL_top (trim p) (trim q) (fun z => by rw [z] at g1; simp at g1) (fun z => by rw [z] at g2; simp at g2)
  rw [mul_trim, ← e1, ← e2, this]
  unfold lead
  rw [co_trim, co_trim]
/-- the degree of a factor -/
theorem z_of_mul {m U : List Int} {n d : Nat} (hm : Z m (n + 1)) (h0 : co m n ≠ 0) (h : Z (mulL m U) (n + d)) : Z U d := by
  have key : ∀ k, Z U (d + k) → Z U d := by
    intro k
    induction k with
    | zero => exact fun h => h
    | succ k ih =>
      intro hU
      refine ih fun i hi => ?_
      by_cases e : i = d + k
      · have := mul_top hm (b := d + k) hU
        rw [h _ (by omega)] at this
        rw [e]
        exact (Int.mul_eq_zero.mp this.symm).resolve_left h0
      · exact hU i (by omega)
  exact key U.length ((z_len U).mono (by omega))
theorem uniq {m V r : List Int} {n : Nat} (hm : Z m (n + 1)) (h0 : co m n ≠ 0) (hr : Z r n) (e : ∀ x, ev r x = ev m x * ev V x) (x : Int) : ev r x = 0 := by
  have hz : Z V 0 := z_of_mul hm h0 (d := 0) fun i hi => by
    rw [← hr i hi]
    exact co_of_ev (fun x => by rw [ev_mulL, e x]) i
  rw [e, z0_ev hz, Int.mul_zero]

/-- p(-x) -/
def ngL : List Int → List Int
  | [] => []
  | a :: p => a :: smul (-1) (ngL p)
theorem ev_ngL : ∀ (p : List Int) (x : Int), ev (ngL p) x = ev p (-x)
  | [], _ => rfl
  | a :: p, x => by
    show a + x * ev (smul (-1) (ngL p)) x = a + -x * ev p (-x)
    rw [ev_smul, ev_ngL p x]; grind
/-- 1, -1, 1, .. -/
def sg : Nat → Int
  | 0 => 1
  | n + 1 => -sg n
theorem sg_sq : ∀ n, sg n * sg n = 1
  | 0 => rfl
  | n + 1 => by show -sg n * -sg n = 1; have := sg_sq n; grind
theorem sg_or : ∀ n, sg n = 1 ∨ sg n = -1
  | 0 => .inl rfl
  | n + 1 => by show -sg n = 1 ∨ -sg n = -1; have := sg_or n; omega
theorem co_ngL : ∀ (p : List Int) (i : Nat), co (ngL p) i = sg i * co p i
  | [], i => by show co [] i = _; rw [co_nil, Int.mul_zero]
  | a :: p, 0 => by show co (a :: _) 0 = 1 * co (a :: p) 0; rw [co_zero, co_zero]; omega
  | a :: p, i + 1 => by
    show co (a :: smul (-1) (ngL p)) (i + 1) = -sg i * co (a :: p) (i + 1)
    rw [co_succ, co_succ, co_smul, co_ngL p i]; grind
theorem z_ngL {p : List Int} {n : Nat} (h : Z p n) : Z (ngL p) n := fun i hi => by rw [co_ngL, h i hi, Int.mul_zero]

theorem divi {m : List Int} {n : Nat} (hm : Z m (n + 1)) (h0 : co m n ≠ 0) (w : List Int) : ∃ (κ : Int) (q r : List Int), 0 < κ ∧ (∀ x, κ * ev w x = ev m x * ev q x + ev r x) ∧ Z r n := by
  have key : ∀ (d : Nat) (w : List Int), Z w (n + d) → ∃ (κ : Int) (q r : List Int), 0 < κ ∧ (∀ x, κ * ev w x = ev m x * ev q x + ev r x) ∧ Z r n := by
    intro d
    induction d with
    | zero => exact fun w hw => ⟨1, [], w, by decide, fun x => by show 1 * ev w x = ev m x * 0 + ev w x; omega, hw⟩
    | succ d ih =>
      intro w hw
      have hA : 0 < co m n * co m n := by
        rcases Int.lt_or_gt_of_ne h0 with h | h
        · exact Int.mul_pos_of_neg_of_neg h h
        · exact Int.mul_pos h h
      obtain ⟨κ, q, r, hκ, e, hr⟩ := ih (addL (smul (co m n * co m n) w) (smul (-(co m n * co w (n + d))) (List.replicate d 0 ++ m))) fun i hi => by
        rw [co_addL, co_smul, co_smul, co_shift, if_neg (by omega)]
        by_cases hi2 : i = n + d
        · rw [hi2, show n + d - d = n by omega]; grind
        · rw [hw i (by omega), hm (i - d) (by omega)]; omega
      refine ⟨κ * (co m n * co m n), addL q (smul (κ * (co m n * co w (n + d))) (List.replicate d 0 ++ [1])), r, Int.mul_pos hκ hA, fun x => ?_, hr⟩
      have := e x
      rw [ev_addL, ev_smul, ev_smul, ev_shift] at this
      rw [ev_addL, ev_smul]
      grind
  exact key w.length w ((z_len w).mono (by omega))
end Pm
end

section
set_option Elab.async false
set_option linter.all false
/-! Chains of divisions with positive quotients, and the form that is positive with them. Plain Lean. -/
namespace Pm

theorem pos_of {K a : Int} (hK : 0 < K) (h : 0 < K * a) : 0 < a :=
  Int.lt_of_mul_lt_mul_left (by rw [Int.mul_zero]; exact h) (Int.le_of_lt hK)
theorem sq_pos {a : Int} (h : a ≠ 0) : 0 < a * a := by
  rcases Int.lt_or_gt_of_ne h with h | h
  · exact Int.mul_pos_of_neg_of_neg h h
  · exact Int.mul_pos h h
theorem sq_nn (a : Int) : 0 ≤ a * a := by
  by_cases h : a = 0
  · rw [h]; decide
  · exact Int.le_of_lt (sq_pos h)
/-- m divides g, but for a number -/
def Mdv (m g : List Int) : Prop := ∃ k : Int, k ≠ 0 ∧ ∃ u : List Int, ∀ x, k * ev g x = ev m x * ev u x
def PD (n : Nat) (m f : List Int) : Prop := ∀ (κ : Int) (g q w : List Int), 0 < κ → (∀ x, κ * (ev f x * ev g x * ev g (-x)) = ev m x * ev q x + ev w x) → Z w n → ¬ Mdv m g → 0 < co w (n - 1) * co m n
def Par (p : List Int) (s : Int) : Prop := ∀ x, ev p (-x) = s * ev p x

theorem star {n : Nat} {m f g k y q w : List Int} {κ ε : Int} (hm : Z m (n + 2)) (hA : co m (n + 1) ≠ 0) (hf : Z f (n + 1)) (hy : Z y (n + 1)) (hw : Z w (n + 1)) (hε : ε = sg (n + 1)) (pm : Par m ε) (pf : Par f (-ε))
    (h1 : ∀ x, ev f x * ev g x = ev m x * ev k x + ev y x) (h2 : ∀ x, κ * (ev f x * ev g x * ev g (-x)) = ev m x * ev q x + ev w x) :
    ∃ U V : List Int, Z U n ∧ (∀ x, κ * (ev m x * ev k x * ev k (-x)) = ev f x * ev V x + ev U x) ∧ co f n * co w n = co m (n + 1) * co U (n - 1) + κ * (co y n * co y n) := by
  have hs := sg_sq (n + 1)
  rw [← hε] at hs
  refine ⟨addL (smul κ (mulL m (mulL k (ngL k)))) (smul (-1) (mulL f (addL q (smul κ (addL (mulL g (ngL k)) (smul (-1) (mulL (ngL g) k))))))), addL q (smul κ (addL (mulL g (ngL k)) (smul (-1) (mulL (ngL g) k)))), ?_⟩
  generalize hV : addL q (smul κ (addL (mulL g (ngL k)) (smul (-1) (mulL (ngL g) k)))) = V
  generalize hU : addL (smul κ (mulL m (mulL k (ngL k)))) (smul (-1) (mulL f V)) = U
  have eV : ∀ x, ev V x = ev q x + κ * (ev g x * ev k (-x) - ev g (-x) * ev k x) := fun x => by
    rw [← hV, ev_addL, ev_smul, ev_addL, ev_smul, ev_mulL, ev_mulL, ev_ngL, ev_ngL]; grind
  have eU : ∀ x, ev U x = κ * (ev m x * ev k x * ev k (-x)) - ev f x * ev V x := fun x => by
    rw [← hU, ev_addL, ev_smul, ev_smul, ev_mulL, ev_mulL, ev_mulL, ev_ngL]; grind
  have I : ∀ x, ev m x * ev U x = ev f x * ev w x + κ * ε * (ev y x * ev y (-x)) := fun x => by
    have a1 := h1 x
    have a2 := h1 (-x)
    rw [pm x, pf x] at a2
    have a3 : ev y x = ev f x * ev g x - ev m x * ev k x := by omega
    have a4 : ev y (-x) = -ε * ev f x * ev g (-x) - ε * ev m x * ev k (-x) := by omega
    have a5 : ev w x = κ * (ev f x * ev g x * ev g (-x)) - ev m x * ev q x := by have := h2 x; omega
    rw [eU, eV, a3, a4, a5]
    grind
  have hc : ∀ i, co (mulL m U) i = co (mulL f w) i + κ * ε * co (mulL y (ngL y)) i := fun i => by
    rw [← co_smul, ← co_addL]
    exact co_of_ev (fun x => by rw [ev_mulL, ev_addL, ev_smul, ev_mulL, ev_mulL, ev_ngL]; exact I x) i
  have zy := z_ngL hy
  have hzU : Z U n := z_of_mul hm hA (d := n) fun i hi => by
    rw [hc, z_mul hf hw i (by omega), z_mul hy zy i (by omega)]; omega
  refine ⟨hzU, fun x => by rw [eU]; omega, ?_⟩
  have t1 := mul_top hf hw
  have t2 := mul_top hy zy
  rw [co_ngL] at t2
  have t3 : co (mulL m U) (n + n) = co m (n + 1) * co U (n - 1) := by
    cases n with
    | zero =>
      rw [hzU _ (Nat.zero_le _), Int.mul_zero]
      exact co_of_ev (q := []) (fun x => by rw [ev_mulL, z0_ev hzU, Int.mul_zero]; rfl) _
    | succ n =>
      have := mul_top hm (b := n) hzU
      rw [show n + 1 + (n + 1) = n + 1 + 1 + n by omega]
      exact this
  have := hc (n + n)
  rw [t1, t2, t3] at this
  have e2 : ε = -sg n := hε
  have e3 := sg_sq n
  rw [e2] at this
  grind

/-- a chain of n divisions, each with a positive quotient c x -/
def Chn : Nat → List Int → List Int → Prop
  | 0, m, f => Z m 1 ∧ co m 0 ≠ 0 ∧ Z f 0
  | n + 1, m, f => Z m (n + 2) ∧ 0 < co m (n + 1) * co f n ∧ ∃ (α β γ : Int) (r : List Int), 0 < α ∧ 0 < β ∧ 0 < γ ∧ (∀ x, β * ev m x = α * (x * ev f x) + γ * ev r x) ∧ Chn n f r
theorem Chn.deg : ∀ {n : Nat} {m f : List Int}, Chn n m f → Z m (n + 1) ∧ co m n ≠ 0 ∧ Z f n
  | 0, _, _, h => h
  | n + 1, m, f, ⟨h1, h2, _, _, _, _, _, _, _, _, h3⟩ => ⟨h1, fun z => by rw [z, Int.zero_mul] at h2; exact absurd h2 (by decide), h3.deg.1⟩
theorem Chn.cop : ∀ {n : Nat} {m f : List Int}, Chn n m f → Cop m f
  | 0, m, f, ⟨h1, h2, _⟩ => ⟨co m 0, h2, [1], [], fun x => by rw [ev_single, z1_ev h1 x]; show 1 * co m 0 + 0 * _ = _; omega⟩
  | n + 1, m, f, ⟨h1, h2, α, β, γ, r, ha, hb, hg, e, h3⟩ => by
    obtain ⟨s, hs, u, v, k⟩ := h3.cop
    -- u f + v r = s
    refine ⟨γ * s, Int.mul_ne_zero (by omega) hs, smul β v, addL (smul γ u) (smul (-α) (0 :: v)), fun x => ?_⟩
    rw [ev_smul, ev_addL, ev_smul, ev_smul, ev_cons, ← k x]
    have := e x
    grind
theorem par_next {m f r : List Int} {α β γ ε : Int} (hg : 0 < γ) (e : ∀ x, β * ev m x = α * (x * ev f x) + γ * ev r x) (pm : Par m ε) (pf : Par f (-ε)) : Par r ε := fun x => by
  have h1 := e x
  have h2 := e (-x)
  rw [pm x, pf x] at h2
  refine Int.eq_of_mul_eq_mul_left (show γ ≠ 0 by omega) ?_
  have h3 : γ * ev r (-x) = β * (ε * ev m x) - α * (-x * (-ε * ev f x)) := by omega
  have h4 : γ * (ε * ev r x) = ε * (γ * ev r x) := by grind
  have h5 : γ * ev r x = β * ev m x - α * (x * ev f x) := by omega
  rw [h3, h4, h5]
  grind
theorem ne_zero_poly {p : List Int} {n : Nat} (h : co p n ≠ 0) : ¬ ∀ x, ev p x = 0 := fun z => h (co_of_ev (q := []) (fun x => by rw [z x]; rfl) n)

theorem chain_pd : ∀ (n : Nat) (m f : List Int), Chn n m f → Par m (sg n) → Par f (-sg n) → PD n m f
  | 0, m, f, ⟨h1, h2, _⟩, _, _ => fun κ g q w _ _ _ hn => absurd ⟨co m 0, h2, g, fun x => by rw [z1_ev h1 x]⟩ hn
  | n + 1, m, f, ⟨h1, h2, α, β, γ, r, ha, hb, hg, e, h3⟩, pm, pf => fun κ g q w hκ hw zw hn => by
    have hA : co m (n + 1) ≠ 0 := fun z => by rw [z, Int.zero_mul] at h2; exact absurd h2 (by decide)
    have hB : co f n ≠ 0 := fun z => by rw [z, Int.mul_zero] at h2; exact absurd h2 (by decide)
    have zf := h3.deg.1
    have pf' : Par f (sg n) := fun x => by rw [pf x]; show - -sg n * _ = _; rw [Int.neg_neg]
    have pr : Par r (-sg n) := par_next hg e pm pf
    have ih := chain_pd n f r h3 pf' pr
    obtain ⟨κ1, k, y, hκ1, hd, zy⟩ := divi h1 hA (mulL f g)
    have hd' : ∀ x, κ1 * (ev f x * ev g x) = ev m x * ev k x + ev y x := fun x => by rw [← hd x, ev_mulL]
    obtain ⟨U, V, zU, eU, top⟩ := star (g := smul κ1 g) (k := k) (y := y) (q := smul (κ1 * κ1) q) (w := smul (κ1 * κ1) w) (κ := κ) h1 hA zf zy (z_smul _ zw) rfl pm pf
      (fun x => by rw [ev_smul]; have := hd' x; grind) (fun x => by rw [ev_smul, ev_smul, ev_smul, ev_smul]; have := hw x; grind)
    rw [co_smul] at top
    show 0 < co w n * co m (n + 1)
    have hK : 0 < κ1 * κ1 := Int.mul_pos hκ1 hκ1
    have fin : 0 ≤ co U (n - 1) * co f n → (0 < co U (n - 1) * co f n ∨ co y n ≠ 0) → 0 < co w n * co m (n + 1) := fun p1 p2 => by
      refine pos_of (K := (co f n * co f n) * (κ1 * κ1)) (Int.mul_pos (sq_pos hB) hK) ?_
      have e1 : co f n * co f n * (κ1 * κ1) * (co w n * co m (n + 1)) = (co m (n + 1) * co m (n + 1)) * (co U (n - 1) * co f n) + κ * ((co m (n + 1) * co f n) * (co y n * co y n)) := by
        have : co f n * co f n * (κ1 * κ1) * (co w n * co m (n + 1)) = (co f n * (κ1 * κ1 * co w n)) * (co m (n + 1) * co f n) := by grind
        rw [this, top]; grind
      rw [e1]
      have q1 : 0 ≤ (co m (n + 1) * co m (n + 1)) * (co U (n - 1) * co f n) := Int.mul_nonneg (sq_nn _) p1
      have q2 : 0 ≤ κ * ((co m (n + 1) * co f n) * (co y n * co y n)) := Int.mul_nonneg (Int.le_of_lt hκ) (Int.mul_nonneg (Int.le_of_lt h2) (sq_nn _))
      rcases p2 with p2 | p2
      · have := Int.mul_pos (sq_pos hA) p2
        omega
      · have := Int.mul_pos hκ (Int.mul_pos h2 (sq_pos p2))
        omega
    by_cases hk : Mdv f k
    · obtain ⟨k2, hk2, u, eu⟩ := hk
      have z1 : ∀ x, ev (smul k2 U) x = 0 := uniq (V := addL (smul κ (mulL m (mulL u (ngL k)))) (smul (-k2) V)) zf hB (z_smul _ zU) fun x => by
        rw [ev_smul, ev_addL, ev_smul, ev_smul, ev_mulL, ev_mulL, ev_ngL]
        have a1 := eu x
        have a2 := eU x
        have a3 : ev U x = κ * (ev m x * ev k x * ev k (-x)) - ev f x * ev V x := by omega
        rw [a3]
        have a4 : k2 * (κ * (ev m x * ev k x * ev k (-x)) - ev f x * ev V x) = κ * (ev m x * (k2 * ev k x) * ev k (-x)) - k2 * (ev f x * ev V x) := by grind
        rw [a4, a1]; grind
      have u0 : co U (n - 1) = 0 := by
        have := z_zero z1 0 (n - 1) (Nat.zero_le _)
        rw [co_smul] at this
        exact (Int.mul_eq_zero.mp this).resolve_left hk2
      refine fin (by rw [u0]; omega) (.inr fun y0 => hn ?_)
      have zy' : Z y n := fun i hi => by
        by_cases e : i = n
        · rw [e, y0]
        · exact zy i (by omega)
      have z2 : ∀ x, ev (smul k2 y) x = 0 := uniq (V := addL (smul (k2 * κ1) g) (smul (-1) (mulL m u))) zf hB (z_smul _ zy') fun x => by
        rw [ev_smul, ev_addL, ev_smul, ev_smul, ev_mulL]
        have a1 := eu x
        have a2 := hd' x
        have a3 : ev y x = κ1 * (ev f x * ev g x) - ev m x * ev k x := by omega
        have a4 : k2 * (κ1 * (ev f x * ev g x) - ev m x * ev k x) = k2 * (κ1 * (ev f x * ev g x)) - ev m x * (k2 * ev k x) := by grind
        rw [a3, a4, a1]; grind
      have z3 : ∀ x, ev y x = 0 := fun x => by
        have := z2 x
        rw [ev_smul] at this
        exact (Int.mul_eq_zero.mp this).resolve_left hk2
      have z4 := ev_mul_zero (p := f) (q := addL (smul (k2 * κ1) g) (smul (-1) (mulL m u))) fun x => by
        rw [ev_addL, ev_smul, ev_smul, ev_mulL]
        have a1 := eu x
        have a2 := hd' x
        rw [z3 x] at a2
        have a4 : ev f x * (k2 * κ1 * ev g x + -1 * (ev m x * ev u x)) = k2 * (κ1 * (ev f x * ev g x)) - ev m x * (ev f x * ev u x) := by grind
        rw [a4, ← a1, a2]; grind
      rcases z4 with z4 | z4
      · exact absurd z4 (ne_zero_poly hB)
      · refine ⟨k2 * κ1, Int.mul_ne_zero hk2 (by omega), u, fun x => ?_⟩
        have := z4 x
        rw [ev_addL, ev_smul, ev_smul, ev_mulL] at this
        omega
    · have p := ih (γ * κ) k (addL (smul β V) (smul (-(α * κ)) (0 :: mulL k (ngL k)))) (smul β U) (Int.mul_pos hg hκ) (fun x => by
        rw [ev_addL, ev_smul, ev_smul, ev_smul, ev_cons, ev_mulL, ev_ngL]
        have a1 := eU x
        have a2 := e x
        have a3 : γ * ev r x = β * ev m x - α * (x * ev f x) := by omega
        have a4 : γ * κ * (ev r x * ev k x * ev k (-x)) = κ * ((γ * ev r x) * ev k x * ev k (-x)) := by grind
        rw [a4, a3]
        have a5 : ev U x = κ * (ev m x * ev k x * ev k (-x)) - ev f x * ev V x := by omega
        rw [a5]; grind) (z_smul _ zU) hk
      rw [co_smul] at p
      have p' : 0 < co U (n - 1) * co f n := pos_of hb (by rw [← Int.mul_assoc]; exact p)
      exact fin (Int.le_of_lt p') (.inl p')

theorem par_co {p : List Int} {s : Int} (h : Par p s) (i : Nat) : sg i * co p i = s * co p i := by
  rw [← co_ngL, ← co_smul]
  exact co_of_ev (fun x => by rw [ev_ngL, ev_smul]; exact h x) i
theorem pd_chain : ∀ (n : Nat) (m f : List Int), PD n m f → Z m (n + 1) → co m n ≠ 0 → Z f n → Par m (sg n) → Par f (-sg n) → Chn n m f
  | 0, m, f, _, h1, h2, h3, _, _ => ⟨h1, h2, h3⟩
  | n + 1, m, f, hp, h1, hA, zf, pm, pf => by
    have lead_pos : 0 < co f n * co m (n + 1) := hp 1 [1] [] f (by decide) (fun x => by rw [ev_single, ev_single]; show 1 * (ev f x * 1 * 1) = ev m x * 0 + ev f x; omega) zf fun ⟨k, hk, u, e⟩ => by
      have := uniq (V := u) (r := [k]) h1 hA (fun i hi => co_out (by simp; omega)) (fun x => by rw [ev_single, ← e x, ev_single]; omega) 0
      rw [ev_single] at this
      exact hk this
    have hB : co f n ≠ 0 := fun z => by rw [z, Int.zero_mul] at lead_pos; exact absurd lead_pos (by decide)
    generalize hα : (if 0 < co m (n + 1) then co m (n + 1) else -co m (n + 1)) = α
    generalize hβ : (if 0 < co f n then co f n else -co f n) = β
    have hα0 : 0 < α := by rw [← hα]; split <;> omega
    have hβ0 : 0 < β := by rw [← hβ]; split <;> omega
    have hαβ : β * co m (n + 1) = α * co f n := by
      rw [← hα, ← hβ]
      by_cases a : 0 < co m (n + 1)
      · have b : 0 < co f n := pos_of a (by rw [Int.mul_comm]; exact lead_pos)
        rw [if_pos a, if_pos b, Int.mul_comm]
      · have b : ¬ 0 < co f n := fun b => a (pos_of b lead_pos)
        rw [if_neg a, if_neg b]; grind
    generalize hr : addL (smul β m) (smul (-α) (0 :: f)) = r
    have er : ∀ x, β * ev m x = α * (x * ev f x) + 1 * ev r x := fun x => by rw [← hr, ev_addL, ev_smul, ev_smul, ev_cons]; grind
    have pf' : Par f (sg n) := fun x => by rw [pf x]; show - -sg n * _ = _; rw [Int.neg_neg]
    have pr : Par r (-sg n) := par_next (by decide) er pm pf
    have zr : Z r n := fun i hi => by
      by_cases e0 : i = n
      · subst e0
        have := par_co pr i
        rcases sg_or i with s | s <;> rw [s] at this <;> omega
      · obtain ⟨j, rfl⟩ : ∃ j, i = j + 1 := ⟨i - 1, by omega⟩
        rw [← hr, co_addL, co_smul, co_smul, co_succ]
        by_cases e1 : j = n
        · rw [e1, hαβ]; grind
        · rw [h1 (j + 1) (by omega), zf j (by omega)]; omega
    refine ⟨h1, by rw [Int.mul_comm]; exact lead_pos, α, β, 1, r, hα0, hβ0, by decide, er, pd_chain n f r ?_ zf hB zr pf' pr⟩
    intro κ k q w hκ hw zw hk
    obtain ⟨κ1, g, y', hκ1, hd, zy⟩ := divi zf hB (mulL m k)
    have hd' : ∀ x, κ1 * (ev m x * ev k x) = ev f x * ev g x + ev y' x := fun x => by rw [← hd x, ev_mulL]
    obtain ⟨κ2, q', w', hκ2, hd2, zw'⟩ := divi h1 hA (mulL f (mulL g (ngL g)))
    have hd2' : ∀ x, κ2 * (ev f x * ev g x * ev g (-x)) = ev m x * ev q' x + ev w' x := fun x => by rw [← hd2 x, ev_mulL, ev_mulL, ev_ngL]; grind
    have hng : ¬ Mdv m g := fun ⟨k2, hk2, u, eu⟩ => hk (by
      have z2 : ∀ x, ev (smul k2 y') x = 0 := uniq (V := addL (smul (k2 * κ1) k) (smul (-1) (mulL f u))) h1 hA (z_smul _ (zy.mono (by omega))) fun x => by
        rw [ev_smul, ev_addL, ev_smul, ev_smul, ev_mulL]
        have a1 := eu x
        have a3 : ev y' x = κ1 * (ev m x * ev k x) - ev f x * ev g x := by have := hd' x; omega
        have a4 : k2 * (κ1 * (ev m x * ev k x) - ev f x * ev g x) = k2 * (κ1 * (ev m x * ev k x)) - ev f x * (k2 * ev g x) := by grind
        rw [a3, a4, a1]; grind
      have z3 : ∀ x, ev y' x = 0 := fun x => by
        have := z2 x
        rw [ev_smul] at this
        exact (Int.mul_eq_zero.mp this).resolve_left hk2
      have z4 := ev_mul_zero (p := m) (q := addL (smul (k2 * κ1) k) (smul (-1) (mulL f u))) fun x => by
        rw [ev_addL, ev_smul, ev_smul, ev_mulL]
        have a1 := eu x
        have a2 := hd' x
        rw [z3 x] at a2
        have a4 : ev m x * (k2 * κ1 * ev k x + -1 * (ev f x * ev u x)) = k2 * (κ1 * (ev m x * ev k x)) - ev f x * (ev m x * ev u x) := by grind
        rw [a4, ← a1, a2]; grind
      rcases z4 with z4 | z4
      · exact absurd z4 (ne_zero_poly hA)
      · refine ⟨k2 * κ1, Int.mul_ne_zero hk2 (by omega), u, fun x => ?_⟩
        have := z4 x
        rw [ev_addL, ev_smul, ev_smul, ev_mulL] at this
        omega)
    have wp := hp κ2 g q' w' hκ2 hd2' zw' hng
    have wp' : 0 < co w' n * co m (n + 1) := wp
    obtain ⟨U, V, zU, eU, top⟩ := star (g := g) (k := smul κ1 k) (y := smul (-1) y') (q := q') (w := w') (κ := κ2) h1 hA zf (z_smul _ (zy.mono (by omega))) zw' rfl pm pf
      (fun x => by rw [ev_smul, ev_smul]; have := hd' x; grind) hd2'
    rw [co_smul, zy n (Nat.le_refl _)] at top
    have hK : 0 < κ2 * (κ1 * κ1) := Int.mul_pos hκ2 (Int.mul_pos hκ1 hκ1)
    have z5 : ∀ x, ev (addL (smul (κ2 * (κ1 * κ1)) w) (smul (-(κ * β)) U)) x = 0 := uniq (V := addL (smul (κ * β) V) (smul (-(κ2 * (κ1 * κ1))) (addL q (smul (α * κ) (0 :: mulL k (ngL k)))))) zf hB (z_addL (z_smul _ zw) (z_smul _ zU)) fun x => by
      rw [ev_addL, ev_smul, ev_smul, ev_addL, ev_smul, ev_smul, ev_addL, ev_smul, ev_cons, ev_mulL, ev_ngL]
      have a1 := eU x
      rw [ev_smul, ev_smul] at a1
      have a2 := hw x
      have a3 : ev r x = β * ev m x - α * (x * ev f x) := by have := er x; omega
      have a5 : ev w x = κ * (ev r x * ev k x * ev k (-x)) - ev f x * ev q x := by omega
      have a6 : ev U x = κ2 * (ev m x * (κ1 * ev k x) * (κ1 * ev k (-x))) - ev f x * ev V x := by omega
      rw [a5, a6, a3]
      grind
    have c5 := z_zero z5 0 (n - 1) (Nat.zero_le _)
    rw [co_addL, co_smul, co_smul] at c5
    -- signs
    have uB : 0 < co U (n - 1) * co f n := by
      refine pos_of (K := co m (n + 1) * co m (n + 1)) (sq_pos hA) ?_
      have : co m (n + 1) * co m (n + 1) * (co U (n - 1) * co f n) = (co f n * co f n) * (co w' n * co m (n + 1)) := by
        have e1 : co m (n + 1) * co m (n + 1) * (co U (n - 1) * co f n) = (co m (n + 1) * co U (n - 1)) * (co m (n + 1) * co f n) := by grind
        have e2 : co m (n + 1) * co U (n - 1) = co f n * co w' n := by rw [top]; omega
        rw [e1, e2]; grind
      rw [this]
      exact Int.mul_pos (sq_pos hB) wp'
    refine pos_of hK ?_
    have e7 : κ2 * (κ1 * κ1) * (co w (n - 1) * co f n) = (κ * β) * (co U (n - 1) * co f n) := by
      have : κ2 * (κ1 * κ1) * co w (n - 1) = κ * β * co U (n - 1) := by
        have : -(κ * β) * co U (n - 1) = -(κ * β * co U (n - 1)) := by grind
        omega
      rw [← Int.mul_assoc, this]; grind
    rw [e7]
    exact Int.mul_pos (Int.mul_pos hκ hβ0) uB
end Pm
end

section
set_option Elab.async false
set_option linter.all false
/-! The synthesis: a stable polynomial and an echo with a constant gap have a chain of positive quotients. Plain Lean. -/
namespace Pm

def IsP (F : Int → Int) : Prop := ∃ l : List Int, ∀ x, ev l x = F x
theorem isP_ev (l : List Int) : IsP fun x => ev l x := ⟨l, fun _ => rfl⟩
theorem isP_evn (l : List Int) : IsP fun x => ev l (-x) := ⟨ngL l, ev_ngL l⟩
theorem isP_c (c : Int) : IsP fun _ => c := ⟨[c], fun x => ev_single c x⟩
theorem isP_x : IsP fun x => x := ⟨[0, 1], fun x => by show ev [0, 1] x = x; rw [ev_cons, ev_single]; omega⟩
theorem IsP.add {F G : Int → Int} (h1 : IsP F) (h2 : IsP G) : IsP fun x => F x + G x := let ⟨a, ha⟩ := h1; let ⟨b, hb⟩ := h2; ⟨addL a b, fun x => by rw [ev_addL, ha, hb]⟩
theorem IsP.mul {F G : Int → Int} (h1 : IsP F) (h2 : IsP G) : IsP fun x => F x * G x := let ⟨a, ha⟩ := h1; let ⟨b, hb⟩ := h2; ⟨mulL a b, fun x => by rw [ev_mulL, ha, hb]⟩
theorem IsP.sub {F G : Int → Int} (h1 : IsP F) (h2 : IsP G) : IsP fun x => F x - G x := let ⟨a, ha⟩ := h1; let ⟨b, hb⟩ := h2; ⟨addL a (smul (-1) b), fun x => by show _ = F x - G x; rw [ev_addL, ev_smul, ha, hb]; omega⟩

theorem pd_nonneg {n : Nat} {m f g q w : List Int} {κ : Int} (hp : PD n m f) (hm : Z m (n + 1)) (h0 : co m n ≠ 0) (hκ : 0 < κ) (e : ∀ x, κ * (ev f x * ev g x * ev g (-x)) = ev m x * ev q x + ev w x) (zw : Z w n) : 0 ≤ co w (n - 1) * co m n := by
  by_cases h : Mdv m g
  · obtain ⟨k, hk, u, eu⟩ := h
    have z1 : ∀ x, ev (smul k w) x = 0 := uniq (V := addL (smul κ (mulL f (mulL u (ngL g)))) (smul (-k) q)) hm h0 (z_smul _ zw) fun x => by
      rw [ev_smul, ev_addL, ev_smul, ev_smul, ev_mulL, ev_mulL, ev_ngL]
      have a1 := eu x
      have a2 : ev w x = κ * (ev f x * ev g x * ev g (-x)) - ev m x * ev q x := by have := e x; omega
      have a3 : k * (κ * (ev f x * ev g x * ev g (-x)) - ev m x * ev q x) = κ * (ev f x * (k * ev g x) * ev g (-x)) - k * (ev m x * ev q x) := by grind
      rw [a2, a3, a1]; grind
    have := z_zero z1 0 (n - 1) (Nat.zero_le _)
    rw [co_smul] at this
    rw [(Int.mul_eq_zero.mp this).resolve_left hk]
    omega
  · exact Int.le_of_lt (hp κ g q w hκ e zw h)
theorem ring1 (σ c u1 u1' u2 u2' m X F q W : Int) (hσ : σ * σ = 1) : -σ * (-σ * (c + u1 * u1' + u2 * u2') + m * X) * F + m * (2 * (q * W)) = (c + u1 * u1' + u2 * u2') * F + m * (-σ * (X * F) + 2 * (q * W)) := by
  have : -σ * (-σ * (c + u1 * u1' + u2 * u2') + m * X) * F = (σ * σ) * (c + u1 * u1' + u2 * u2') * F - σ * (m * X * F) := by grind
  rw [this, hσ]; grind
theorem ring2 (κ κa κb κc s c m Y Q f h h' qa qb qc u1 u1' u2 u2' : Int) : κa * κb * κc * κ * ((c + u1 * u1' + u2 * u2') * (f * (h * h')) + m * Y) - κa * κb * κc * (2 * (s * s)) * (m * Q)
    + -κ * (c * κb * κc * (κa * (f * (h * h')) - m * qa) + (κa * κc * (κb * (f * (u1 * h * (u1' * h'))) - m * qb) + κa * κb * (κc * (f * (u2 * h * (u2' * h'))) - m * qc)))
    = m * (κa * κb * κc * (κ * Y - 2 * (s * s) * Q) + κ * (c * κb * κc * qa + κa * κc * qb + κa * κb * qc)) := by grind
/-- from one partner to another -/
theorem transfer {n : Nat} {m f q u1 u2 : List Int} {c : Int} {X : Int → Int} (ch : Chn n m f) (pm : Par m (sg n)) (pf : Par f (-sg n)) (hc : 0 < c) (hX : IsP X)
    (id : ∀ x, 2 * (ev f x * ev q x) = -sg n * (c + ev u1 x * ev u1 (-x) + ev u2 x * ev u2 (-x)) + ev m x * X x) : PD n m q := by
  intro κ g Q w hκ e zw hng
  obtain ⟨hm, h0, zf⟩ := ch.deg
  have P := chain_pd n m f ch pm pf
  obtain ⟨s, hs, a, b, es⟩ := ch.cop
  have hh : ∀ x, ev f x * ev (mulL b g) x = s * ev g x - ev a x * ev m x * ev g x := fun x => by rw [ev_mulL, ← es x]; grind
  generalize mulL b g = h at hh
  have hnh : ¬ Mdv m h := fun ⟨k, hk, u, eu⟩ => hng ⟨k * s, Int.mul_ne_zero hk hs, addL (mulL u f) (smul k (mulL a g)), fun x => by
    rw [ev_addL, ev_smul, ev_mulL, ev_mulL]
    have a1 := eu x
    have a2 := hh x
    have a3 : k * s * ev g x = ev f x * (k * ev h x) + k * (ev a x * ev m x * ev g x) := by grind
    rw [a3, a1]; grind⟩
  obtain ⟨κa, qa, wa, ka, ea, za⟩ := divi hm h0 (mulL f (mulL h (ngL h)))
  obtain ⟨κb, qb, wb, kb, eb, zb⟩ := divi hm h0 (mulL f (mulL (mulL u1 h) (ngL (mulL u1 h))))
  obtain ⟨κc, qc, wc, kc, ec, zc⟩ := divi hm h0 (mulL f (mulL (mulL u2 h) (ngL (mulL u2 h))))
  have pa : 0 < co wa (n - 1) * co m n := P κa h qa wa ka (fun x => by rw [← ea x, ev_mulL, ev_mulL, ev_ngL]; grind) za hnh
  have pb : 0 ≤ co wb (n - 1) * co m n := pd_nonneg (g := mulL u1 h) P hm h0 kb (fun x => by rw [← eb x, ev_mulL f, ev_mulL (mulL u1 h), ev_ngL]; grind) zb
  have pc : 0 ≤ co wc (n - 1) * co m n := pd_nonneg (g := mulL u2 h) P hm h0 kc (fun x => by rw [← ec x, ev_mulL f, ev_mulL (mulL u2 h), ev_ngL]; grind) zc
  have hY : IsP fun x => (κa * κb * κc) * ((κ * (-sg n * (X x * (ev f x * (ev h x * ev h (-x)))) + 2 * (ev q x * (ev f x * (ev h x * (sg n * (ev a (-x) * ev g (-x)))) + -sg n * (ev f x * (ev h (-x) * (ev a x * ev g x))) + ev m x * ((ev a x * ev g x) * (sg n * (ev a (-x) * ev g (-x)))))))) - 2 * (s * s) * ev Q x)
      + κ * (c * κb * κc * ev qa x + κa * κc * ev qb x + κa * κb * ev qc x) := by
    refine ((isP_c _).mul (((isP_c _).mul (((isP_c _).mul (hX.mul ((isP_ev _).mul ((isP_ev _).mul (isP_evn _))))).add ((isP_c _).mul ((isP_ev _).mul ((((isP_ev _).mul ((isP_ev _).mul ((isP_c _).mul ((isP_evn _).mul (isP_evn _))))).add ((isP_c _).mul ((isP_ev _).mul ((isP_evn _).mul ((isP_ev _).mul (isP_ev _)))))).add ((isP_ev _).mul (((isP_ev _).mul (isP_ev _)).mul ((isP_c _).mul ((isP_evn _).mul (isP_evn _)))))))))).sub ((isP_c _).mul (isP_ev _)))).add ((isP_c _).mul ((((isP_c _).mul (isP_ev _)).add ((isP_c _).mul (isP_ev _))).add ((isP_c _).mul (isP_ev _))))
  obtain ⟨V, eV⟩ := hY
  have hsg := sg_sq n
  have z1 : ∀ x, ev (addL (smul (2 * (s * s) * (κa * κb * κc)) w) (smul (-κ) (addL (smul (c * κb * κc) wa) (addL (smul (κa * κc) wb) (smul (κa * κb) wc))))) x = 0 := uniq (V := V) hm h0 (z_addL (z_smul _ zw) (z_smul _ (z_addL (z_smul _ za) (z_addL (z_smul _ zb) (z_smul _ zc))))) fun x => by
    rw [ev_addL, ev_smul, ev_smul, ev_addL, ev_smul, ev_addL, ev_smul, ev_smul, eV]
    have b1 := ea x
    have b2 := eb x
    have b3 := ec x
    rw [ev_mulL, ev_mulL, ev_ngL] at b1
    rw [ev_mulL, ev_mulL, ev_ngL, ev_mulL, ev_mulL] at b2 b3
    have d1 : ev wa x = κa * (ev f x * (ev h x * ev h (-x))) - ev m x * ev qa x := by omega
    have d2 : ev wb x = κb * (ev f x * (ev u1 x * ev h x * (ev u1 (-x) * ev h (-x)))) - ev m x * ev qb x := by omega
    have d3 : ev wc x = κc * (ev f x * (ev u2 x * ev h x * (ev u2 (-x) * ev h (-x)))) - ev m x * ev qc x := by omega
    have d4 : ev w x = κ * (ev q x * ev g x * ev g (-x)) - ev m x * ev Q x := by have := e x; omega
    rw [d1, d2, d3, d4]
    have g1 : s * ev g x = ev f x * ev h x + ev a x * ev m x * ev g x := by have := hh x; omega
    have g2 : s * ev g (-x) = -sg n * ev f x * ev h (-x) + ev a (-x) * (sg n * ev m x) * ev g (-x) := by
      have := hh (-x)
      rw [pf x, pm x] at this
      omega
    have i := id x
    -- 2 s² q g g*
    have k1 : 2 * (s * s) * (ev q x * ev g x * ev g (-x)) = 2 * ev q x * ((s * ev g x) * (s * ev g (-x))) := by grind
    have k2 : 2 * (s * s) * (ev q x * ev g x * ev g (-x)) = (c + ev u1 x * ev u1 (-x) + ev u2 x * ev u2 (-x)) * (ev f x * (ev h x * ev h (-x)))
        + ev m x * (-sg n * (X x * (ev f x * (ev h x * ev h (-x)))) + 2 * (ev q x * (ev f x * (ev h x * (sg n * (ev a (-x) * ev g (-x)))) + -sg n * (ev f x * (ev h (-x) * (ev a x * ev g x))) + ev m x * ((ev a x * ev g x) * (sg n * (ev a (-x) * ev g (-x))))))) := by
      rw [k1, g1, g2]
      have k3 : 2 * ev q x * ((ev f x * ev h x + ev a x * ev m x * ev g x) * (-sg n * ev f x * ev h (-x) + ev a (-x) * (sg n * ev m x) * ev g (-x)))
          = -sg n * (2 * (ev f x * ev q x)) * (ev f x * (ev h x * ev h (-x))) + ev m x * (2 * (ev q x * (ev f x * (ev h x * (sg n * (ev a (-x) * ev g (-x)))) + -sg n * (ev f x * (ev h (-x) * (ev a x * ev g x))) + ev m x * ((ev a x * ev g x) * (sg n * (ev a (-x) * ev g (-x))))))) := by grind
      rw [k3, i]
      exact ring1 (sg n) c _ _ _ _ _ _ _ _ _ hsg
    have k5 : 2 * (s * s) * (κa * κb * κc) * (κ * (ev q x * ev g x * ev g (-x)) - ev m x * ev Q x) = (κa * κb * κc) * κ * (2 * (s * s) * (ev q x * ev g x * ev g (-x))) - (κa * κb * κc) * (2 * (s * s)) * (ev m x * ev Q x) := by grind
    rw [k5, k2]
    exact ring2 κ κa κb κc s c _ _ _ _ _ _ _ _ _ _ _ _ _
  have c1 := z_zero z1 0 (n - 1) (Nat.zero_le _)
  rw [co_addL, co_smul, co_smul, co_addL, co_smul, co_addL, co_smul, co_smul] at c1
  have hK : 0 < 2 * (s * s) * (κa * κb * κc) := Int.mul_pos (Int.mul_pos (by decide) (sq_pos hs)) (Int.mul_pos (Int.mul_pos ka kb) kc)
  refine pos_of hK ?_
  have e2 : 2 * (s * s) * (κa * κb * κc) * (co w (n - 1) * co m n) = κ * (c * κb * κc * (co wa (n - 1) * co m n) + κa * κc * (co wb (n - 1) * co m n) + κa * κb * (co wc (n - 1) * co m n)) := by
    have : 2 * (s * s) * (κa * κb * κc) * co w (n - 1) = κ * (c * κb * κc * co wa (n - 1) + (κa * κc * co wb (n - 1) + κa * κb * co wc (n - 1))) := by
      have : -κ * (c * κb * κc * co wa (n - 1) + (κa * κc * co wb (n - 1) + κa * κb * co wc (n - 1))) = -(κ * (c * κb * κc * co wa (n - 1) + (κa * κc * co wb (n - 1) + κa * κb * co wc (n - 1)))) := by grind
      omega
    rw [← Int.mul_assoc, this]; grind
  rw [e2]
  refine Int.mul_pos hκ ?_
  have r1 : 0 < c * κb * κc * (co wa (n - 1) * co m n) := Int.mul_pos (Int.mul_pos (Int.mul_pos hc kb) kc) pa
  have r2 : 0 ≤ κa * κc * (co wb (n - 1) * co m n) := Int.mul_nonneg (Int.le_of_lt (Int.mul_pos ka kc)) pb
  have r3 : 0 ≤ κa * κb * (co wc (n - 1) * co m n) := Int.mul_nonneg (Int.le_of_lt (Int.mul_pos ka kb)) pc
  omega

/-! ### the ladder's chain -/
def Good : Nat → List Int → List Int → Prop
  | 0, A, B => Z A 1 ∧ Z B 1 ∧ 0 < co A 0 * co B 0
  | n + 1, A, B => Z A (n + 2) ∧ Z B (n + 1) ∧ 0 < co A (n + 1) * co B n ∧ ∃ (α β γ : Int) (R : List Int), 0 < α ∧ 0 < β ∧ 0 < γ ∧ (∀ x, β * ev A x = α * (x * ev B x) + γ * ev R x) ∧ Good n B R
theorem Good.ext : ∀ {n : Nat} {A B A' B' : List Int}, Good n A B → (∀ x, ev A x = ev A' x) → (∀ x, ev B x = ev B' x) → Good n A' B'
  | 0, A, B, A', B', ⟨h1, h2, h3⟩, eA, eB => ⟨z_ev h1 eA, z_ev h2 eB, by rw [← co_of_ev eA, ← co_of_ev eB]; exact h3⟩
  | n + 1, A, B, A', B', ⟨h1, h2, h3, α, β, γ, R, ha, hb, hg, e, h4⟩, eA, eB =>
    ⟨z_ev h1 eA, z_ev h2 eB, by rw [← co_of_ev eA, ← co_of_ev eB]; exact h3, α, β, γ, R, ha, hb, hg, fun x => by rw [← eA x, ← eB x]; exact e x, h4.ext eB (fun _ => rfl)⟩
theorem Chn.sc1 {γ : Int} (hg : 0 < γ) : ∀ {n : Nat} {m f : List Int}, Chn n m f → Chn n (smul γ m) f
  | 0, m, f, ⟨h1, h2, h3⟩ => ⟨z_smul _ h1, by rw [co_smul]; exact Int.mul_ne_zero (by omega) h2, h3⟩
  | n + 1, m, f, ⟨h1, h2, α, β, γ', r, ha, hb, hg', e, h4⟩ => ⟨z_smul _ h1, by rw [co_smul, Int.mul_assoc]; exact Int.mul_pos hg h2, α * γ, β, γ' * γ, r, Int.mul_pos ha hg, hb, Int.mul_pos hg' hg, fun x => by
    rw [ev_smul]; have := e x; grind, h4⟩
theorem Chn.sc2 {γ : Int} (hg : 0 < γ) : ∀ {n : Nat} {m f : List Int}, Chn n m f → Chn n m (smul γ f)
  | 0, m, f, ⟨h1, h2, h3⟩ => ⟨h1, h2, z_smul _ h3⟩
  | n + 1, m, f, ⟨h1, h2, α, β, γ', r, ha, hb, hg', e, h4⟩ => ⟨h1, by rw [co_smul, Int.mul_left_comm]; exact Int.mul_pos hg h2, α, β * γ, γ' * γ, r, ha, Int.mul_pos hb hg, Int.mul_pos hg' hg, fun x => by
    rw [ev_smul]; have := e x; grind, h4.sc1 hg⟩
theorem comp : ∀ (n : Nat) (P0 P1 Q0 Q1 : List Int) (c : Int), Chn n P0 Q1 → (∀ x, ev P0 x * ev Q0 x - ev P1 x * ev Q1 x = sg n * c) → 0 < c → Z P1 n → (n ≠ 0 → Z Q0 (n - 1)) → Good n (addL P0 P1) (addL Q0 Q1)
  | 0, P0, P1, Q0, Q1, c, ⟨h1, h2, h3⟩, hD, hc, zP1, _ => by
    have e1 : ∀ x, ev (mulL P0 Q0) x = ev [c] x := fun x => by
      have := hD x
      rw [z0_ev h3 x] at this
      rw [ev_mulL, ev_single]
      have e : sg 0 * c = c := by show 1 * c = c; omega
      omega
    have zQ : Z Q0 1 := z_of_mul (n := 0) h1 h2 (d := 1) (z_ev (p := [c]) (fun i hi => co_out (by simpa using hi)) fun x => (e1 x).symm)
    refine ⟨z_addL h1 (zP1.mono (by omega)), z_addL zQ (h3.mono (by omega)), ?_⟩
    have := mul_top (a := 0) (b := 0) h1 zQ
    rw [co_of_ev e1, co_zero] at this
    rw [co_addL, co_addL, zP1 0 (Nat.le_refl _), h3 0 (Nat.le_refl _), Int.add_zero, Int.add_zero, ← this]
    exact hc
  | n + 1, P0, P1, Q0, Q1, c, ⟨h1, h2, α, β, γ, r, ha, hb, hg, e, h4⟩, hD, hc, zP1, zQ0 => by
    have zQ0' : Z Q0 n := zQ0 (by omega)
    obtain ⟨zQ1, hQ1, zr⟩ := h4.deg
    generalize hR1 : addL (smul β P1) (smul (-α) (0 :: Q0)) = R1
    have eR1 : ∀ x, ev R1 x = β * ev P1 x - α * (x * ev Q0 x) := fun x => by rw [← hR1, ev_addL, ev_smul, ev_smul, ev_cons]; grind
    have D' : ∀ x, ev Q1 x * ev R1 x - ev Q0 x * ev (smul γ r) x = sg n * (β * c) := fun x => by
      rw [eR1, ev_smul]
      have a1 := hD x
      have a2 : γ * ev r x = β * ev P0 x - α * (x * ev Q1 x) := by have := e x; omega
      have a3 : sg (n + 1) = -sg n := rfl
      rw [a3] at a1
      rw [a2]
      grind
    have ih := comp n Q1 Q0 R1 (smul γ r) (β * c) (h4.sc2 hg) D' (Int.mul_pos hb hc) zQ0' fun hn => by
      obtain ⟨n', rfl⟩ : ∃ n', n = n' + 1 := ⟨n - 1, by omega⟩
      refine z_of_mul zQ1 hQ1 (d := n') ?_
      have hz : Z (addL (mulL Q0 (smul γ r)) [sg (n' + 1) * (β * c)]) (n' + 1 + n') := z_addL ((z_mul zQ0' (z_smul _ zr)).mono (by omega)) fun i hi => co_out (by simp; omega)
      refine z_ev hz fun x => ?_
      rw [ev_addL, ev_mulL, ev_mulL, ev_single]
      have := D' x
      omega
    refine ⟨z_addL h1 (zP1.mono (by omega)), z_addL (zQ0'.mono (by omega)) zQ1, ?_, α, β, 1, addL R1 (smul γ r), ha, hb, by decide, fun x => ?_, ih.ext (fun x => by rw [ev_addL, ev_addL]; omega) fun _ => rfl⟩
    · rw [co_addL, co_addL, zP1 _ (Nat.le_refl _), zQ0' _ (Nat.le_refl _), Int.add_zero, Int.zero_add]
      exact h2
    · rw [ev_addL, ev_addL, ev_addL, ev_smul, eR1]
      have := e x
      grind
/-- a difference -/
def dif (p q : List Int) : List Int := addL p (smul (-1) q)
theorem ev_dif (p q : List Int) (x : Int) : ev (dif p q) x = ev p x - ev q x := by unfold dif; rw [ev_addL, ev_smul]; omega
theorem co_dif (p q : List Int) (i : Nat) : co (dif p q) i = co p i - co q i := by unfold dif; rw [co_addL, co_smul]; omega
theorem synth {n : Nat} {f0 f1 e0 e1 : List Int} {c : Int} (hc : 0 < c) (ch : Chn (n + 1) f0 f1) (pf0 : Par f0 (sg (n + 1))) (pf1 : Par f1 (-sg (n + 1))) (pe0 : Par e0 (sg (n + 1))) (pe1 : Par e1 (-sg (n + 1)))
    (ze0 : Z e0 (n + 2)) (ze1 : Z e1 (n + 1)) (hl : co e0 (n + 1) = co f0 (n + 1)) (gap : ∀ x, (ev f0 x * ev f0 x - ev e0 x * ev e0 x) - (ev f1 x * ev f1 x - ev e1 x * ev e1 x) = sg (n + 1) * c) :
    Good (n + 1) (addL (addL f0 e0) (addL f1 e1)) (addL (dif f0 e0) (dif f1 e1)) := by
  have hsg := sg_sq (n + 1)
  have en : sg (n + 1) = -sg n := rfl
  obtain ⟨zf0, hA, zf1⟩ := ch.deg
  generalize hP0 : addL f0 e0 = P0
  generalize hQ0 : dif f0 e0 = Q0
  generalize hP1 : addL f1 e1 = P1
  generalize hQ1 : dif f1 e1 = Q1
  have eP0 : ∀ x, ev P0 x = ev f0 x + ev e0 x := fun x => by rw [← hP0, ev_addL]
  have eQ0 : ∀ x, ev Q0 x = ev f0 x - ev e0 x := fun x => by rw [← hQ0, ev_dif]
  have eP1 : ∀ x, ev P1 x = ev f1 x + ev e1 x := fun x => by rw [← hP1, ev_addL]
  have eQ1 : ∀ x, ev Q1 x = ev f1 x - ev e1 x := fun x => by rw [← hQ1, ev_dif]
  have pP0 : Par P0 (sg (n + 1)) := fun x => by rw [eP0, eP0, pf0 x, pe0 x]; grind
  have pQ0 : Par Q0 (sg (n + 1)) := fun x => by rw [eQ0, eQ0, pf0 x, pe0 x]; grind
  have pQ1 : Par Q1 (-sg (n + 1)) := fun x => by rw [eQ1, eQ1, pf1 x, pe1 x]; grind
  have zP0 : Z P0 (n + 2) := by rw [← hP0]; exact z_addL zf0 ze0
  have zP1 : Z P1 (n + 1) := by rw [← hP1]; exact z_addL zf1 ze1
  have zQ1 : Z Q1 (n + 1) := fun i hi => by rw [← hQ1, co_dif, zf1 i hi, ze1 i hi]; rfl
  have zQ0 : Z Q0 n := fun i hi => by
    by_cases e1 : i = n
    · subst e1
      have := par_co pQ0 i
      rw [en] at this
      rcases sg_or i with s | s <;> rw [s] at this <;> omega
    · rw [← hQ0, co_dif]
      by_cases e2 : i = n + 1
      · rw [e2, hl]; omega
      · rw [zf0 i (by omega), ze0 i (by omega)]; rfl
  have hD : ∀ x, ev P0 x * ev Q0 x - ev P1 x * ev Q1 x = sg (n + 1) * c := fun x => by
    rw [eP0, eQ0, eP1, eQ1, ← gap x]; grind
  have PD1 : PD (n + 1) f0 Q1 := by
    refine transfer (u1 := P0) (u2 := Q1) (c := c) (X := fun x => 2 * ev P0 x) ch pf0 pf1 hc ((isP_c 2).mul (isP_ev P0)) fun x => ?_
    rw [pP0 x, pQ1 x, eP0, eQ1]
    have a1 := gap x
    have a2 : -sg (n + 1) * (c + (ev f0 x + ev e0 x) * (sg (n + 1) * (ev f0 x + ev e0 x)) + (ev f1 x - ev e1 x) * (-sg (n + 1) * (ev f1 x - ev e1 x)))
        = -(sg (n + 1) * c) - (sg (n + 1) * sg (n + 1)) * ((ev f0 x + ev e0 x) * (ev f0 x + ev e0 x)) + (sg (n + 1) * sg (n + 1)) * ((ev f1 x - ev e1 x) * (ev f1 x - ev e1 x)) := by grind
    rw [a2, hsg, ← a1]
    grind
  have ch1 : Chn (n + 1) f0 Q1 := pd_chain _ _ _ PD1 zf0 hA zQ1 pf0 pQ1
  obtain ⟨_, hlead, α, β, γ, r, ha, hb, hg, e, h4⟩ := ch1
  have pr : Par r (sg (n + 1)) := par_next hg e pf0 pQ1
  obtain ⟨_, hQ1n, zr⟩ := h4.deg
  have pQ1' : Par Q1 (sg n) := fun x => by rw [pQ1 x, en, Int.neg_neg]
  have pr' : Par r (-sg n) := pr
  generalize hr2 : smul γ (addL (smul (2 * γ) r) (smul (-β) Q0)) = r2
  have er2 : ∀ x, ev r2 x = γ * (2 * γ * ev r x - β * ev Q0 x) := fun x => by rw [← hr2, ev_smul, ev_addL, ev_smul, ev_smul]; grind
  have er2' : ∀ x, ev r2 x = γ * (β * ev P0 x - 2 * α * (x * ev Q1 x)) := fun x => by
    have a1 : γ * ev r x = β * ev f0 x - α * (x * ev Q1 x) := by have := e x; omega
    have a2 : 2 * γ * ev r x = 2 * (γ * ev r x) := by grind
    rw [er2, a2, a1, eQ0, eP0]; grind
  have zr2 : Z r2 n := by rw [← hr2]; exact z_smul _ (z_addL (z_smul _ zr) (z_smul _ zQ0))
  have pr2 : Par r2 (-sg n) := fun x => by rw [er2, er2, pr' x, pQ0 x, en]; grind
  have PD2 : PD n Q1 r2 := by
    refine transfer (u1 := smul β P0) (u2 := []) (c := β * β * c) (X := fun x => β * β * ev P1 x - 2 * α * β * (x * ev P0 x) - 4 * α * β * (x * ev f0 x) + 4 * α * α * (x * (x * ev Q1 x))) h4 pQ1' pr' (Int.mul_pos (Int.mul_pos hb hb) hc)
      (((((isP_c _).mul (isP_ev _)).sub ((isP_c _).mul (isP_x.mul (isP_ev _)))).sub ((isP_c _).mul (isP_x.mul (isP_ev _)))).add ((isP_c _).mul (isP_x.mul (isP_x.mul (isP_ev _))))) fun x => ?_
    rw [ev_smul, ev_smul, pP0 x, er2', en]
    have a1 : γ * ev r x = β * ev f0 x - α * (x * ev Q1 x) := by have := e x; omega
    have a2 : 2 * (ev r x * (γ * (β * ev P0 x - 2 * α * (x * ev Q1 x)))) = 2 * ((γ * ev r x) * (β * ev P0 x - 2 * α * (x * ev Q1 x))) := by grind
    rw [a2, a1]
    have a3 : ev ([] : List Int) x * ev ([] : List Int) (-x) = 0 := rfl
    rw [a3]
    have a4 := hD x
    rw [en] at a4
    have a5 : ev Q0 x = 2 * ev f0 x - ev P0 x := by rw [eQ0, eP0]; omega
    rw [a5] at a4
    have hs := sg_sq n
    have a6 : -sg n * (β * β * c + β * ev P0 x * (β * (-sg n * ev P0 x)) + 0) = β * β * (-sg n * c) + (sg n * sg n) * (β * β * (ev P0 x * ev P0 x)) := by grind
    rw [a6, hs, ← a4]
    grind
  have ch2 : Chn n Q1 r2 := pd_chain n Q1 r2 PD2 zQ1 hQ1n zr2 pQ1' pr2
  have ch3 : Chn (n + 1) P0 Q1 := by
    refine ⟨zP0, ?_, 2 * α * γ, γ * β, 1, r2, Int.mul_pos (Int.mul_pos (by decide) ha) hg, Int.mul_pos hg hb, by decide, fun x => by rw [er2']; grind, ch2⟩
    have : co P0 (n + 1) = 2 * co f0 (n + 1) := by rw [← hP0, co_addL, hl]; omega
    rw [this, Int.mul_assoc]
    omega
  exact comp (n + 1) P0 P1 Q0 Q1 c ch3 hD hc zP1 fun _ => zQ0
end Pm
end

section
set_option Elab.async false
set_option linter.all false
set_option maxRecDepth 100000
set_option maxHeartbeats 4000000
/-! The text by places, what stands in the heap, how a def is called. -/
namespace Kf
open PySem PySem.Spec PyProof.Rows L2 Lx Evl Pm RZ StX

abbrev PW : Program := PySem.Challenge.pw_coilnets_k83_whole_conditions_of_filters
def topS (i : Nat) : Stmt := PW.main.body.getD i (.Pass ⟨0, 0, 0, 0⟩)

/-! ### what stands in the heap -/
section
variable (K : PySem.W.Frag) (H : Hp)
/-- a tuple of ints -/
def PolyV (v : V) (p : List Int) : Prop := ∃ a, v = .ref a ∧ SqT K H a (p.map V.int)
/-- a pair of tuples of ints -/
def FunV (v : V) (t b : List Int) : Prop := ∃ a x y, v = .ref a ∧ SqT K H a [x, y] ∧ PolyV K H x t ∧ PolyV K H y b
/-- a pair of ints -/
def RatV (v : V) (n d : Int) : Prop := ∃ a, v = .ref a ∧ SqT K H a [.int n, .int d]
end
section
variable {K : PySem.W.Frag} {H H' : Hp} {v : V}
theorem PolyV.ex {p : List Int} (h : PolyV K H v p) (e : Ex H H') : PolyV K H' v p := let ⟨a, r, s⟩ := h; ⟨a, r, ex_t e s⟩
theorem FunV.ex {t b : List Int} (h : FunV K H v t b) (e : Ex H H') : FunV K H' v t b := let ⟨a, x, y, r, s, p, q⟩ := h; ⟨a, x, y, r, ex_t e s, p.ex e, q.ex e⟩
theorem RatV.ex {n d : Int} (h : RatV K H v n d) (e : Ex H H') : RatV K H' v n d := let ⟨a, r, s⟩ := h; ⟨a, r, ex_t e s⟩
end

/-! ### a def of the text, called -/
/-- where a def stands -/
def DefAt (K : PySem.W.Frag) (mg : Str → Option Value) (x : Str) (st : Stmt) (ps : List Str) : Prop :=
  ∃ (f : Addr) (fd : FuncData), Fun K x x st f fd ∧ Binds K fd ps [] ∧ mg x = some (.ref f)
/-- it keeps its promise -/
def Cal (w : World) (K : PySem.W.Frag) (mg : Str → Option Value) (base : Heap) (k : Nat) (x : Str) (ps : List Str) (sp : Sp) : Prop :=
  ∃ (f : Addr) (fd : FuncData), FnOk PW w K mg base CX0 k f fd ps sp ∧ Binds K fd ps [] ∧ mg x = some (.ref f) ∧ PySem.W.keepIn K (.ref f) = true
section
variable {w : World} {K : PySem.W.Frag} {mg : Str → Option Value} {base : Heap}
theorem Cal.mk {x : Str} {st : Stmt} {ps : List Str} {N : List Str} {k : Nat} {sp : Sp} (D : DefAt K mg x st ps) (S : FnScope N ps (defScope st)) (len : ∀ vs H Q E, sp vs H Q E → vs.length = ps.length)
    (hbody : ∀ (f : Addr) (cdv : Value) (A : Around) (outer : List Env) (s : Shared) (H : Hp) (vs : List V) (Q : VK) (E : XK), Room k (A.deeper (envOfC x (defScope st) s.heap.objs.size f cdv)) → sp vs H Q E →
      ∃ t, PSs (cxOf CX0 PW w K mg base N x (defScope st) f cdv A outer s H E).nox (defBody st) t ∧ t { nx := fun _ H' => Q .non H', rt := Q } (start N vs) H) : Cal w K mg base (k + 1) x ps sp := by
  obtain ⟨f, fd, F, b, g⟩ := D
  exact ⟨f, fd, F.ok S len (hbody f), b, g, F.kp⟩
end
theorem pe_callC {X : Cx} {k j : Nat} {ps : List Str} {sp : Sp} {x : Str} {p pos : Pos} {e : Expr} {es : List Expr} {t : TA} (hP : X.prog = PW) (C : Cal X.w X.K X.mg X.base k x ps sp) (hr : Room j X.A) (hk : k ≤ j)
    (ha : PA X (e :: es) t) (hg : Gl X x := by rfl) (hdb : (x == ("__debug__" : Str)) = false := by decide) (he : starEach (e :: es) X.env = (false, eval e X.env) :: starEach es X.env := by rfl) (hpl : (backTo pos (starEach es X.env)).any (·.1) = false := by rfl) :
    PE X (.Call (.Name x p) (e :: es) [] pos) (tCall sp [] E0 t) := by
  obtain ⟨f, fd, F, b, g, kp⟩ := C
  rw [← hP] at F
  exact pe_call F (hr.mono hk) hg g kp b .nil pass0 ha hdb he hpl
/-- the place sees what // of great ints asks -/
theorem sees_of {w : World} {K : PySem.W.Frag} {mg : Str → Option Value} {base : Heap} {N : List Str} {qual : Str} {sc : Scope} {f : Addr} {cd : Value} {A : Around} {outer : List Env} {s : Shared} {H : Hp} {E : XK} {k : Nat}
    (hN : base.NoSeer) (hr : Room k (A.deeper (envOfC qual sc s.heap.objs.size f cd))) (hk : 32 ≤ k) (g1 : sc.isGenerator = false) (g2 : sc.isCoroutine = false) : Sees (cxOf CX0 PW w K mg base N qual sc f cd A outer s H E).nox where
  base := hN
  tree := by rfl
  room := by
    have h := hr.dp
    show (A.deeper (envOfC qual sc s.heap.objs.size f cd)).depth + 100 < recursionLimit
    omega
  stk := ⟨envOfC qual sc s.heap.objs.size f cd, outer, rfl, g1, g2, rfl, rfl⟩

/-! ### names of the module and of the language that the text leaves as they are -/
structure Gl0 (mg : Str → Option Value) (base : Heap) : Prop where
  seer : base.NoSeer
  len : mg "len" = none
  tuple : mg "tuple" = none
  list : mg "list" = none
  max : mg "max" = none
  zip : mg "zip" = none
  enumerate : mg "enumerate" = none
  range : mg "range" = none
  abs : mg "abs" = none
  isinstance : mg "isinstance" = none
  all : mg "all" = none
  any : mg "any" = none
  int : mg "int" = none
  bool : mg "bool" = none
  str : mg "str" = none
  gcd : mg "gcd" = some (.builtin "math.gcd")
  most : ∃ t, mg "MOST_SIZE" = some (.int (10 ^ 60) t)
  deg : ∃ t, mg "MOST_DEGREE" = some (.int 12 t)
  rungs : ∃ t, mg "MOST_RUNGS" = some (.int 13 t)
  series : ∃ t, mg "SERIES" = some (.str "S" t)
  across : ∃ t, mg "ACROSS" = some (.str "P" t)

/-! ### short words for the terms -/
section
variable {X : Cx} {e a b : Expr} {te ta tb : TE} {p pos : Pos}
/-- len(e), a list or a tuple -/
def rLenS (K : PySem.W.Frag) : List V → Hp → VK → Prop := fun xs H Q => ∃ p ys, xs = [.ref p] ∧ (SqT K H p ys ∨ SqL K H p ys) ∧ Q (.int (ys.length : Int)) H
theorem call_lenS : CallR X (.builtin "len") (rLenS X.K) := by
  intro pins s σ H xs us Q I r h
  obtain ⟨p, ys, rfl, hs, q⟩ := h
  exact call_len pins s σ H _ us Q I r ⟨.ref p, ys.length, rfl, hs.elim (fun h => .inr ⟨ys, h, rfl⟩) (fun h => .inl ⟨ys, h, rfl⟩), q⟩
theorem pe_len (hm : X.mg "len" = none) (he : PE X e te) (hg : Gl X "len" := by rfl) (hs : starEach [e] X.env = (false, eval e X.env) :: starEach [] X.env := by rfl) : PE X (.Call (.Name "len" p) [e] [] pos) (tCB (rLenS X.K) (tCons te tNil)) :=
  pe_callB call_lenS hg hm PySem.boot_len (pa_cons he pa_nil hs) (by decide) (by decide) hs rfl
def rTupS (K : PySem.W.Frag) : List V → Hp → VK → Prop := fun xs H Q => ∃ p ys, xs = [.ref p] ∧ (SqT K H p ys ∨ SqL K H p ys) ∧ ∀ a H', Ex H H' → SqT K H' a ys → Q (.ref a) H'
theorem call_tupS : CallR X (.type "tuple") (rTupS X.K) := by
  intro pins s σ H xs us Q I r h
  obtain ⟨p, ys, rfl, hs, q⟩ := h
  refine call_tuple_of pins s σ H _ us Q I r ⟨p, ys, rfl, ?_⟩
  rcases hs with h | h
  · exact .inr ⟨h, q p H (Ex.refl H) h⟩
  · exact .inl ⟨h, fun l hl => q l _ (Ex.new hl) (st_of upd_same)⟩
theorem pe_tuple (hm : X.mg "tuple" = none) (he : PE X e te) (hg : Gl X "tuple" := by rfl) (hs : starEach [e] X.env = (false, eval e X.env) :: starEach [] X.env := by rfl) : PE X (.Call (.Name "tuple" p) [e] [] pos) (tCB (rTupS X.K) (tCons te tNil)) :=
  pe_callTy call_tupS hg hm (by decide +kernel) (pa_cons he pa_nil hs) (by decide) (by decide) hs rfl
/-- xs[lo:hi] of a list or a tuple -/
def rSlS (K : PySem.W.Frag) : V → Option Int → Option Int → Hp → VK → Prop := fun x lo hi H Q => ∃ a xs, x = .ref a ∧ ((SqT K H a xs ∧ ∀ p H', Ex H H' → SqT K H' p (cutV xs lo hi) → Q (.ref p) H') ∨ (SqL K H a xs ∧ ∀ p H', Ex H H' → SqL K H' p (cutV xs lo hi) → Q (.ref p) H'))
theorem sl_seq : SlR X (rSlS X.K) := by
  intro pins s σ H x v vl vu lo hi sl Q I rx hs pl pu h
  obtain ⟨a, xs, rfl, ⟨ht, q⟩ | ⟨ht, q⟩⟩ := h
  · refine sl_tupA pins s σ H _ v vl vu lo hi sl Q I rx hs pl pu ⟨a, xs, rfl, ht, fun hw => q a H (Ex.refl H) ?_, fun _ p hp => q p _ (Ex.new hp) (st_of upd_same)⟩
    have e : cutV xs lo hi = xs := by
      unfold cutV
      rw [hw.1, hw.2]
      simp
    rw [e]
    exact ht
  · exact sl_list pins s σ H _ v vl vu lo hi sl Q I rx hs pl pu ⟨a, xs, rfl, ht, fun p hp => q p _ (Ex.new hp) (sq_of upd_same)⟩
/-- xs[i] of a list or a tuple -/
def rIxQ (K : PySem.W.Frag) : R2 := fun x y H Q => ∃ p xs i v, x = .ref p ∧ y = .int i ∧ (SqT K H p xs ∨ SqL K H p xs) ∧ atI xs i = some v ∧ Q v H
theorem ix_q : IxR X (rIxQ X.K) := by
  intro value slice pins s σ H x y v u Q I rx ry h hs
  obtain ⟨p, xs, i, z, rfl, rfl, hq, he, q⟩ := h
  rcases hq with hq | hq
  · exact ix_tup value slice pins s σ H _ _ v u Q I rx ry ⟨p, xs, i, z, rfl, rfl, hq, he, q⟩ hs
  · exact ix_list value slice pins s σ H _ _ v u Q I rx ry ⟨p, xs, i, z, rfl, rfl, hq, he, q⟩ hs
theorem pe_at (ha : PE X a ta) (hb : PE X b tb) (hs : PlainIx b := by exact fun _ _ => rfl) : PE X (.Subscript a b pos) (tOp (rIxQ X.K) ta tb) := pe_ix ix_q ha hb hs
/-- gcd(a, b) -/
theorem pe_gcd (hm : X.mg "gcd" = some (.builtin "math.gcd")) (ha : PE X a ta) (hb : PE X b tb) (hg : Gl X "gcd" := by rfl) (hs : starEach [a, b] X.env = (false, eval a X.env) :: starEach [b] X.env := by rfl) (hs2 : starEach [b] X.env = (false, eval b X.env) :: starEach [] X.env := by rfl)
    (hpl : (backTo pos (starEach [b] X.env)).any (·.1) = false := by rfl) : PE X (.Call (.Name "gcd" p) [a, b] [] pos) (tCB rGcd (tCons ta (tCons tb tNil))) :=
  pe_callBfun cr_gcd hg hm (pa_cons ha (pa_cons hb pa_nil hs2) hs) (by decide) hs hpl
end
/-! ### places -/
theorem cutV_to {xs : List V} {n : Nat} (h : n ≤ xs.length) : cutV xs none (some (n : Int)) = xs.take n := by
  unfold cutV
  rw [HT.sIx_none, HT.sIx_nat, Nat.min_eq_left h]
  simp
theorem atI_last' {α : Type} {xs : List α} {v : α} (h : xs[xs.length - 1]? = some v) : atI xs (-1) = some v := by
  have hl := (List.getElem?_eq_some_iff.mp h).1
  unfold atI ixN
  rw [if_neg (by omega), if_pos (by omega)]
  show xs[(-1 + (xs.length : Int)).toNat]? = some v
  rw [show (-1 + (xs.length : Int)).toNat = xs.length - 1 by omega]
  exact h
theorem atI_ints {p : List Int} {i : Nat} (h : i < p.length) : atI (p.map V.int) ((i : Nat) : Int) = some (.int (co p i)) := by
  refine atI_nat ?_
  rw [List.getElem?_map, get_co h]
  rfl
theorem atI_lead {p : List Int} (h : p ≠ []) : atI (p.map V.int) (-1) = some (.int (lead p)) := by
  have hl : 0 < p.length := List.length_pos_iff.mpr h
  refine atI_last' ?_
  rw [List.length_map, List.getElem?_map, get_co (by omega)]
  rfl

/-! ### loops and comprehensions over any walk of known length -/
theorem lc_out {J : It} {g : TG} {te : TE} {vs : List Nat} {σ : L2.St} {H1 : Hp} {D : Addr} {Qd : Hp → Prop} (n : Nat) (out : Nat → V) (hn : n ≤ 100000) (hD : H1 D = none)
    (hgo : ∀ i H, i < n → Ex H1 H → J.go i H) (hst : ∀ H, Ex H1 H → J.stop n H)
    (hs : ∀ i H x H', i < n → Ex H1 H → J.yld i H x H' → g x (wipe σ vs) H' fun σ2 H2 => wipe σ2 vs = wipe σ vs ∧ ∀ R : VK, (∀ H4, Ex H H4 → R (out i) H4) → te σ2 H2 R)
    (hg : ∀ x σ H (A B : L2.St → Hp → Prop), (∀ σ H, A σ H → B σ H) → g x σ H A → g x σ H B)
    (hd : ∀ H, Ex H1 H → H D = some (.lst ((List.range n).map out)) → Qd H) :
    ∃ W : Nat → Nat → Hp → Prop, (∃ m, W 0 m (upd H1 D (.lst []))) ∧ ∀ i m H, W i m H →
      (J.stop i H ∧ Qd H) ∨ (J.go i H ∧ ∃ Nx : Hp → Prop, (∀ H', Nx H' → ∃ m', m' < m ∧ W (i + 1) m' H') ∧ ∀ x H', J.yld i H x H' → g x (wipe σ vs) H' fun σ2 H2 => wipe σ2 vs = wipe σ vs ∧ tYes σ2 H2 fun b H3 =>
        if b = true then te σ2 H3 fun y H4 => ∃ acc, H4 D = some (.lst acc) ∧ acc.length < sizeLine ∧ Nx (upd H4 D (.lst (acc ++ [y]))) else Nx H3) := by
  refine ⟨fun i m H => m = n - i ∧ i ≤ n ∧ Ex H1 H ∧ H D = some (.lst ((List.range i).map out)), ⟨n, by simp, Nat.zero_le _, Ex.new hD, upd_same⟩, ?_⟩
  rintro i m H ⟨rfl, hi, ex, hl⟩
  by_cases hlt : i < n
  · refine .inr ⟨hgo i H hlt ex, fun H' => Ex H1 H' ∧ H' D = some (.lst ((List.range (i + 1)).map out)), fun H' p => ⟨n - (i + 1), by omega, rfl, hlt, p.1, p.2⟩, fun x H' y => ?_⟩
    refine hg _ _ _ _ _ (fun σ2 H2 q => ?_) (hs i H x H' hlt ex y)
    obtain ⟨q1, q2⟩ := q
    refine ⟨q1, ?_⟩
    show te σ2 H2 fun y H4 => ∃ acc, H4 D = some (.lst acc) ∧ acc.length < sizeLine ∧ (Ex H1 (upd H4 D (.lst (acc ++ [y]))) ∧ (upd H4 D (.lst (acc ++ [y]))) D = some (.lst ((List.range (i + 1)).map out)))
    refine q2 _ fun H4 e4 => ⟨_, e4 D _ hl, ?_, Ex.mut (ex.trans e4) hD, ?_⟩
    · rw [List.length_map, List.length_range]
      exact sz_lt (by omega)
    · rw [upd_same, List.range_succ, List.map_append]
      rfl
  · have e : i = n := by omega
    subst e
    exact .inl ⟨hst H ex, hd H ex hl⟩
theorem gName_mono {i : Nat} : ∀ x σ H (A B : L2.St → Hp → Prop), (∀ σ H, A σ H → B σ H) → gName i x σ H A → gName i x σ H B := fun _ _ _ _ _ h q => h _ _ q
theorem gPair_mono {K : PySem.W.Frag} {i j : Nat} : ∀ x σ H (A B : L2.St → Hp → Prop), (∀ σ H, A σ H → B σ H) → gTup K 2 (gCons (gName i) (gCons (gName j) gNil)) x σ H A → gTup K 2 (gCons (gName i) (gCons (gName j) gNil)) x σ H B :=
  fun x σ H A B h ⟨a, xs, e, hs, hl, v, r, e1, v2, r2, e2, e3, q⟩ => ⟨a, xs, e, hs, hl, v, r, e1, v2, r2, e2, e3, h _ _ q⟩
theorem for_gen {J : It} {g : TG} {tb : TS} {D : Ends} {σ : L2.St} {H1 : Hp} (n : Nat) (Pv : Nat → L2.St → Hp → Prop) (h0 : Pv 0 σ H1)
    (hgo : ∀ i σ H, i < n → Pv i σ H → J.go i H) (hst : ∀ σ H, Pv n σ H → J.stop n H)
    (hs : ∀ i σ H x H', i < n → Pv i σ H → J.yld i H x H' → g x σ H' fun σ2 H2 => tb { D with nx := Pv (i + 1), ct := Pv (i + 1), bk := D.nx } σ2 H2) (hd : ∀ σ H, Pv n σ H → D.nx σ H) :
    ∃ W : Nat → Nat → L2.St → Hp → Prop, (∃ m, W 0 m σ H1) ∧ ∀ i m σ H, W i m σ H →
      (J.stop i H ∧ D.nx σ H) ∨ (J.go i H ∧ ∃ N : L2.St → Hp → Prop, (∀ σ' H', N σ' H' → ∃ m', m' < m ∧ W (i + 1) m' σ' H') ∧ ∀ x H', J.yld i H x H' → g x σ H' fun σ2 H2 => tb { D with nx := N, ct := N, bk := D.nx } σ2 H2) := by
  refine ⟨fun i m σ H => m = n - i ∧ i ≤ n ∧ Pv i σ H, ⟨n, by simp, Nat.zero_le _, h0⟩, ?_⟩
  rintro i m σ H ⟨rfl, hi, p⟩
  by_cases hlt : i < n
  · exact .inr ⟨hgo i σ H hlt p, Pv (i + 1), fun σ' H' p' => ⟨n - (i + 1), by omega, rfl, hlt, p'⟩, fun x H' y => hs i σ H x H' hlt p y⟩
  · have e : i = n := by omega
    subst e
    exact .inl ⟨hst σ H p, hd σ H p⟩
/-- an item of a list of ints -/
theorem ints_at {p : List Int} {i : Nat} (h : i < p.length) : (p.map V.int)[i]? = some (.int (co p i)) := by
  rw [List.getElem?_map, get_co h]
  rfl
/-- the places of a list, in turn -/
theorem map_range_co (p : List Int) : (List.range p.length).map (fun i => co p i) = p := by
  refine List.ext_getElem? fun i => ?_
  rw [List.getElem?_map]
  by_cases h : i < p.length
  · rw [List.getElem?_range h, get_co h]
    rfl
  · rw [List.getElem?_eq_none (by rw [List.length_range]; omega), List.getElem?_eq_none (by omega)]
    rfl
end Kf
end

section
set_option Elab.async false
set_option linter.all false
set_option maxRecDepth 100000
set_option maxHeartbeats 4000000
namespace Kf
open PySem PySem.Spec PyProof.Rows L2 Lx Evl Pm RZ StX
section
variable {w : World} {K : PySem.W.Frag} {mg : Str → Option Value} {base : Heap}

/-! ### trimmed -/
abbrev sTrimmed : Stmt := topS 18
theorem scTrimmed : FnScope ["some", "many"] ["some"] (defScope sTrimmed) := ⟨rfl, rfl, rfl, by decide +kernel, rfl, by decide +kernel, by decide +kernel⟩
def spTrimmed (K : PySem.W.Frag) : Sp := fun vs H Q _ => ∃ (a : Addr) (p : List Int), vs = [.ref a] ∧ (SqT K H a (p.map V.int) ∨ SqL K H a (p.map V.int)) ∧ ∀ v H', Ex H H' → PolyV K H' v (trim p) → Q v H'
theorem trim_take {p : List Int} {m : Nat} (h : m < p.length) (h0 : co p m = 0) : trim (p.take (m + 1)) = trim (p.take m) := by
  rw [List.take_add_one, get_co h, h0]
  exact trim_append_zero _
theorem trim_done {p : List Int} {m : Nat} (hm : m ≤ p.length) (h : ¬ (0 < m ∧ co p (m - 1) = 0)) : trim (p.take m) = p.take m := by
  refine trim_id (tr_of_lead fun hn => ?_)
  have hl : (p.take m).length = m := by rw [List.length_take]; omega
  have h0 : 0 < m := by rw [← hl]; exact List.length_pos_iff.mpr hn
  have e : lead (p.take m) = co p (m - 1) := by
    unfold lead
    rw [hl]
    simp only [co, List.getD_eq_getElem?_getD]
    rw [List.getElem?_take_of_lt (by omega)]
  rw [e]
  exact fun z => h ⟨h0, z⟩
theorem ok_trimmed (D : DefAt K mg "trimmed" sTrimmed ["some"]) (G : Gl0 mg base) : Cal w K mg base 41 "trimmed" ["some"] (spTrimmed K) := by
  refine Cal.mk D scTrimmed (fun vs H Q E h => ?_) (fun f cdv A outer s H vs Q E hr h => ?_)
  · obtain ⟨a, p, rfl, _⟩ := h
    rfl
  · obtain ⟨a, p, rfl, hS, q⟩ := h
    refine ⟨_, pss_cons (ps_set (i := 1) scTrimmed.nd rfl (.inl rfl) (pe_len G.len (pv 0)))
      (pss_cons (ps_while PassesOwn.never (PW.pt (pw_and (pt_cmpR op_gt (pv 1) pe_int (nomark _)) (pw_and1 (pt_cmpR op_eq (pe_at (pv 0) (pe_op op_sub (pv 1) pe_int)) pe_int (nomark _)))))
        (pss_one (ps_aug (i := 1) scTrimmed.nd rfl (.inl rfl) pe_int ip_sub)))
      (pss_one (ps_ret (pe_tuple G.tuple (pe_slice sl_seq (pv 0) po_none (po_some (pv 1))))))), ?_⟩
    refine ⟨.ref a, rfl, a, p.map V.int, rfl, hS, ?_⟩
    rw [List.length_map]
    refine ⟨fun m σ H' => H' = H ∧ σ = [some (.ref a), some (.int (m : Int))] ∧ m ≤ p.length ∧ trim (p.take m) = trim p, ⟨p.length, rfl, rfl, Nat.le_refl _, by rw [List.take_length]⟩, ?_⟩
    rintro m σ H' ⟨rfl, rfl, hm, ht⟩
    have fin : ¬ (0 < m ∧ co p (m - 1) = 0) → tRet (tCB (rTupS K) (tCons (tSl (rSlS K) (tVar 0) tNoPart (tPart (tVar 1))) tNil)) { nx := fun _ H' => Q .non H', rt := Q } [some (.ref a), some (.int (m : Int))] H' := fun hn => by
      have e2 : cutV (p.map V.int) none (some (m : Int)) = (trim p).map V.int := by
        rw [cutV_to (by rw [List.length_map]; exact hm), ← List.map_take, ← ht, trim_done hm hn]
      refine ⟨_, rfl, _, rfl, _, rfl, a, p.map V.int, rfl, ?_⟩
      rcases hS with hS | hS
      · refine .inl ⟨hS, fun p1 H1 e1 s1 => ⟨p1, _, rfl, .inl s1, fun a2 H2 e3 s2 => ?_⟩⟩
        rw [e2] at s2
        exact q _ _ (e1.trans e3) ⟨a2, rfl, s2⟩
      · refine .inr ⟨hS, fun p1 H1 e1 s1 => ⟨p1, _, rfl, .inr s1, fun a2 H2 e3 s2 => ?_⟩⟩
        rw [e2] at s2
        exact q _ _ (e1.trans e3) ⟨a2, rfl, s2⟩
    refine ⟨_, rfl, _, _, rfl, rfl, _, rfl, ?_⟩
    by_cases h0 : 0 < m
    · rw [decide_eq_true (show (0 : Int) < (m : Int) by omega)]
      refine iteT ⟨_, rfl, _, rfl, _, _, rfl, rfl, a, p.map V.int, (m : Int) - 1, .int (co p (m - 1)), rfl, rfl, hS, ?_, rfl, _, rfl, ?_⟩
      · rw [show (m : Int) - 1 = ((m - 1 : Nat) : Int) by omega]
        exact atI_ints (by omega)
      · by_cases hz : co p (m - 1) = 0
        · rw [decide_eq_true (congrArg V.int hz)]
          refine iteT ⟨fun σ' H2 => H2 = H' ∧ σ' = [some (.ref a), some (.int ((m - 1 : Nat) : Int))], ?_, ?_⟩
          · rintro σ' H2 ⟨rfl, rfl⟩
            exact ⟨m - 1, by omega, rfl, rfl, by omega, by rw [← ht, ← trim_take (m := m - 1) (by omega) hz, show m - 1 + 1 = m by omega]⟩
          · refine ⟨_, rfl, _, _, rfl, rfl, rfl, ?_⟩
            rw [show ((m - 1 : Nat) : Int) = (m : Int) - 1 by omega]
            rfl
        · rw [decide_eq_false (fun z => hz (V.int.inj z))]
          exact iteF (fin fun z => hz z.2)
    · rw [decide_eq_false (show ¬ (0 : Int) < (m : Int) by omega)]
      exact iteF (iteF (fin fun z => h0 z.1))

/-! ### poly_plus -/
abbrev sPlus : Stmt := topS 19
theorem scPlus : FnScope ["one", "other", "many", "first", "second", "a", "b"] ["one", "other"] (defScope sPlus) := ⟨rfl, rfl, rfl, by decide +kernel, rfl, by decide +kernel, by decide +kernel⟩
def sp2 (K : PySem.W.Frag) (f : List Int → List Int → List Int) : Sp := fun vs H Q _ => ∃ (x y : V) (p q : List Int), vs = [x, y] ∧ PolyV K H x p ∧ PolyV K H y q ∧ p.length ≤ 1000 ∧ q.length ≤ 1000 ∧ ∀ v H', Ex H H' → PolyV K H' v (f p q) → Q v H'
theorem co_range {n : Nat} {f : Nat → Int} (i : Nat) : co ((List.range n).map f) i = if i < n then f i else 0 := by
  by_cases h : i < n
  · rw [if_pos h]
    exact co_get (by simp [h])
  · rw [if_neg h]
    exact co_out (by simp; omega)
theorem plus_range {p q : List Int} {n : Nat} (h1 : p.length ≤ n) (h2 : q.length ≤ n) : trim ((List.range n).map fun i => co p i + co q i) = plus p q := trim_ext fun i => by
  rw [co_range, co_addL]
  by_cases h : i < n
  · rw [if_pos h]
  · rw [if_neg h, co_out (by omega), co_out (by omega)]
    rfl
theorem pad_get {p : List Int} {n i : Nat} (h : i < n) (hp : p.length ≤ n) : (p.map V.int ++ (List.replicate (n - p.length) [V.int 0]).flatten)[i]? = some (.int (co p i)) := by
  have e : (List.replicate (n - p.length) [V.int 0]).flatten = List.replicate (n - p.length) (V.int 0) := by
    generalize n - p.length = k
    induction k with
    | zero => rfl
    | succ k ih => rw [List.replicate_succ, List.replicate_succ, List.flatten_cons, ih]; rfl
  rw [e]
  by_cases hi : i < p.length
  · rw [List.getElem?_append_left (by simpa using hi)]
    exact ints_at hi
  · rw [List.getElem?_append_right (by simpa using hi), co_out (by omega)]
    rw [List.getElem?_replicate, List.length_map, if_pos (by omega)]
theorem pad_len {p : List Int} {n : Nat} (hp : p.length ≤ n) : (p.map V.int ++ (List.replicate (n - p.length) [V.int 0]).flatten).length = n := by
  have e : (List.replicate (n - p.length) [V.int 0]).flatten.length = n - p.length := by
    generalize n - p.length = k
    induction k with
    | zero => rfl
    | succ k ih => rw [List.replicate_succ, List.flatten_cons, List.length_append, ih]; show 1 + k = k + 1; omega
  rw [List.length_append, e, List.length_map]
  omega
theorem ok_plus (D : DefAt K mg "poly_plus" sPlus ["one", "other"]) (G : Gl0 mg base) (T : Cal w K mg base 41 "trimmed" ["some"] (spTrimmed K)) : Cal w K mg base 42 "poly_plus" ["one", "other"] (sp2 K plus) := by
  refine Cal.mk D scPlus (fun vs H Q E h => ?_) (fun f cdv A outer s H vs Q E hr h => ?_)
  · obtain ⟨x, y, p, q, rfl, _⟩ := h
    rfl
  · obtain ⟨x, y, p, q, rfl, ⟨a, rfl, hA⟩, ⟨b, rfl, hB⟩, l1, l2, k⟩ := h
    refine ⟨_, pss_cons (ps_set (i := 2) scPlus.nd rfl (.inl rfl) (pe_callB (call_max2 rfl) (by rfl) G.max (by decide +kernel) (pa_cons (pe_len G.len (pv 0)) (pa_cons (pe_len G.len (pv 1)) pa_nil))))
      (pss_cons (ps_par (i := 3) (j := 4) rfl scPlus.nd rfl rfl (by decide) rfl rfl
        (pa_cons (pe_lst (pa_star (pv 0) (pa_star (pe_op op_rep (pe_lst (pa_cons pe_int pa_nil)) (pe_op op_sub (pv 2) (pe_len G.len (pv 0)))) pa_nil)))
          (pa_cons (pe_lst (pa_star (pv 1) (pa_star (pe_op op_rep (pe_lst (pa_cons pe_int pa_nil)) (pe_op op_sub (pv 2) (pe_len G.len (pv 1)))) pa_nil))) pa_nil)) (by rfl))
      (pss_one (ps_ret (pe_callC rfl T hr (by decide) (pa_cons (pe_lc (own := [("a", 5), ("b", 6)]) (g := gTup K 2 (gCons (gName 5) (gCons (gName 6) gNil))) rfl scPlus.nd (pi_zip (by rfl) G.zip (pa_cons (pv 3) (pa_cons (pv 4) pa_nil))) (blkOk_by (N := ["one", "other", "many", "first", "second", "a", "b"]) (sc := defScope sPlus) (by decide +kernel))
          (fun _ _ _ _ _ => pg_tup rfl (pgs_cons (pg_name (i := 5) scPlus.nd rfl (.inl rfl)) (pgs_cons (pg_name (i := 6) scPlus.nd rfl (.inl rfl)) pgs_nil))) (fun _ _ _ _ _ => pts_nil) (fun _ _ _ _ _ => pe_op op_add (pv 5) (pv 6))) pa_nil))))), ?_⟩
    -- many
    refine ⟨_, rfl, a, _, rfl, .inl hA, _, rfl, b, _, rfl, .inl hB, _, _, rfl, ?_⟩
    obtain ⟨n, hn, hn1, hn2, hn3⟩ : ∃ n : Nat, (if ((q.map V.int).length : Int) > ((p.map V.int).length : Int) then ((q.map V.int).length : Int) else ((p.map V.int).length : Int)) = (n : Int) ∧ p.length ≤ n ∧ q.length ≤ n ∧ n ≤ 1000 := by
      simp only [List.length_map]
      by_cases h : (q.length : Int) > (p.length : Int)
      · exact ⟨q.length, by rw [if_pos h], by omega, by omega, l2⟩
      · exact ⟨p.length, by rw [if_neg h], by omega, by omega, l1⟩
    rw [hn]
    have sz : ∀ m, m ≤ 1000 → m ≤ sizeLine := fun m h => sz_of (by omega)
    -- first
    refine ⟨_, rfl, a, _, rfl, .inl hA, by show 1 ≤ sizeLine; exact sz 1 (by omega), fun p0 np0 => ⟨_, rfl, _, rfl, a, _, rfl, .inl (ex_t (Ex.new np0) hA), _, _, rfl, rfl, p0, _, _, rfl, rfl, upd_same, ?_⟩⟩
    have ek : (n : Int) - ((p.map V.int).length : Int) = ((n - p.length : Nat) : Int) := by rw [List.length_map]; omega
    rw [ek]
    refine ⟨by omega, by omega, by rw [Int.toNat_natCast]; show 1 * _ ≤ _; rw [Nat.one_mul]; exact sz _ (by omega), fun p1 np1 => ⟨p1, _, rfl, .inr (sq_of upd_same), ?_⟩⟩
    rw [Int.toNat_natCast]
    refine ⟨by rw [List.append_nil, pad_len hn1]; exact sz _ hn3, fun F nF => ?_⟩
    have e1 : Ex H (upd (upd (upd H p0 (.lst [.int 0])) p1 (.lst (List.replicate (n - p.length) [V.int 0]).flatten)) F (.lst (p.map V.int ++ ((List.replicate (n - p.length) [V.int 0]).flatten ++ [])))) := ((Ex.new np0).trans (Ex.new np1)).trans (Ex.new nF)
    generalize eH : upd (upd (upd H p0 (.lst [.int 0])) p1 (.lst (List.replicate (n - p.length) [V.int 0]).flatten)) F (.lst (p.map V.int ++ ((List.replicate (n - p.length) [V.int 0]).flatten ++ []))) = Hf at e1
    have hF : Hf F = some (.lst (p.map V.int ++ (List.replicate (n - p.length) [V.int 0]).flatten)) := by rw [← eH, upd_same, List.append_nil]
    -- second
    refine ⟨_, rfl, b, _, rfl, .inl (ex_t e1 hB), by show 1 ≤ sizeLine; exact sz 1 (by omega), fun q0 nq0 => ⟨_, rfl, _, rfl, b, _, rfl, .inl (ex_t (e1.trans (Ex.new nq0)) hB), _, _, rfl, rfl, q0, _, _, rfl, rfl, upd_same, ?_⟩⟩
    have ek2 : (n : Int) - ((q.map V.int).length : Int) = ((n - q.length : Nat) : Int) := by rw [List.length_map]; omega
    rw [ek2]
    refine ⟨by omega, by omega, by rw [Int.toNat_natCast]; show 1 * _ ≤ _; rw [Nat.one_mul]; exact sz _ (by omega), fun q1 nq1 => ⟨q1, _, rfl, .inr (sq_of upd_same), ?_⟩⟩
    rw [Int.toNat_natCast]
    refine ⟨by rw [List.append_nil, pad_len hn2]; exact sz _ hn3, fun S nS => ?_⟩
    have e2 : Ex Hf (upd (upd (upd Hf q0 (.lst [.int 0])) q1 (.lst (List.replicate (n - q.length) [V.int 0]).flatten)) S (.lst (q.map V.int ++ ((List.replicate (n - q.length) [V.int 0]).flatten ++ [])))) := ((Ex.new nq0).trans (Ex.new nq1)).trans (Ex.new nS)
    generalize eH2 : upd (upd (upd Hf q0 (.lst [.int 0])) q1 (.lst (List.replicate (n - q.length) [V.int 0]).flatten)) S (.lst (q.map V.int ++ ((List.replicate (n - q.length) [V.int 0]).flatten ++ []))) = Hs at e2
    have hS : Hs S = some (.lst (q.map V.int ++ (List.replicate (n - q.length) [V.int 0]).flatten)) := by rw [← eH2, upd_same, List.append_nil]
    refine ⟨_, _, rfl, ?_⟩
    -- the sum
    refine ⟨_, rfl, _, rfl, F, S, _, _, rfl, sq_of (e2 _ _ hF), sq_of hS, fun D hD => ?_⟩
    refine lc_out n (fun i => .int (co p i + co q i)) (by omega) hD (fun i H' hi e => ⟨_, _, _, _, sq_of ((e2.trans e) _ _ hF), sq_of (e _ _ hS), pad_get hi hn1, pad_get hi hn2⟩)
      (fun H' e => ⟨_, _, sq_of ((e2.trans e) _ _ hF), sq_of (e _ _ hS), .inl (by rw [pad_len hn1]; exact Nat.le_refl _)⟩) (fun i H' x H2 hi e y => ?_) gPair_mono (fun H' e hl => ?_)
    · obtain ⟨T, u, v, rfl, nT, rfl, fu, fv⟩ := y
      have eu : u = .int (co p i) := Option.some.inj ((fu _ (sq_of ((e2.trans e) _ _ hF))).symm.trans (pad_get hi hn1))
      have ev : v = .int (co q i) := Option.some.inj ((fv _ (sq_of (e _ _ hS))).symm.trans (pad_get hi hn2))
      subst eu ev
      refine ⟨T, _, rfl, st_of upd_same, rfl, _, _, rfl, _, _, rfl, rfl, rfl, fun R hR => ⟨_, rfl, _, rfl, _, _, rfl, rfl, hR _ (Ex.new nT)⟩⟩
    · refine ⟨D, (List.range n).map fun i => co p i + co q i, rfl, .inr ?_, fun v H2 e4 hv => ?_⟩
      · rw [List.map_map]
        exact sq_of hl
      · rw [plus_range hn1 hn2] at hv
        exact k v H2 (((e1.trans e2).trans e).trans e4) hv

/-! ### scaled -/
abbrev sScaled : Stmt := topS 20
theorem scScaled : FnScope ["one", "factor", "a"] ["one", "factor"] (defScope sScaled) := ⟨rfl, rfl, rfl, by decide +kernel, rfl, by decide +kernel, by decide +kernel⟩
def spScaled (K : PySem.W.Frag) : Sp := fun vs H Q _ => ∃ (x : V) (p : List Int) (c : Int), vs = [x, .int c] ∧ PolyV K H x p ∧ p.length ≤ 1000 ∧ (∀ i, CMulA c (co p i)) ∧ ∀ v H', Ex H H' → PolyV K H' v (scal p c) → Q v H'
theorem sq_ints {H : Hp} {D : Addr} {n : Nat} {f : Nat → Int} (h : H D = some (.lst ((List.range n).map fun i => V.int (f i)))) : SqL K H D (((List.range n).map f).map V.int) := by
  rw [List.map_map]
  exact sq_of h
theorem range_len {n : Nat} {f : Nat → Int} : ((List.range n).map f).length = n := by simp
theorem scal_range {p : List Int} {c : Int} : trim ((List.range p.length).map fun i => c * co p i) = scal p c := trim_ext fun i => by
  rw [co_range, co_smul]
  by_cases h : i < p.length
  · rw [if_pos h]
  · rw [if_neg h, co_out (by omega), Int.mul_zero]
theorem ok_scaled (D : DefAt K mg "scaled" sScaled ["one", "factor"]) (G : Gl0 mg base) (T : Cal w K mg base 41 "trimmed" ["some"] (spTrimmed K)) : Cal w K mg base 42 "scaled" ["one", "factor"] (spScaled K) := by
  refine Cal.mk D scScaled (fun vs H Q E h => ?_) (fun f cdv A outer s H vs Q E hr h => ?_)
  · obtain ⟨x, p, c, rfl, _⟩ := h
    rfl
  · obtain ⟨x, p, c, rfl, ⟨a, rfl, hA⟩, l1, hc, k⟩ := h
    refine ⟨_, pss_one (ps_ret (pe_callC rfl T hr (by decide) (pa_cons (pe_lc (own := [("a", 2)]) (g := gName 2) (tt := tYes) rfl scScaled.nd (pi_tup (pv 0)) (blkOk_by (N := ["one", "factor", "a"]) (sc := defScope sScaled) (by decide +kernel))
          (fun _ _ _ _ _ => pg_name (i := 2) scScaled.nd rfl (.inl rfl)) (fun _ _ _ _ _ => pts_nil) (fun _ _ _ _ _ => pe_op op_mulA (pv 1) (pv 2))) pa_nil))), ?_⟩
    refine ⟨_, rfl, a, rfl, ⟨_, hA⟩, fun D hD => ?_⟩
    refine lc_out p.length (fun i => .int (c * co p i)) (by omega) hD (fun i H' hi e => ⟨_, _, ex_t e hA, ints_at hi⟩) (fun H' e => ⟨_, ex_t e hA, by rw [List.length_map]; exact Nat.le_refl _⟩) (fun i H' x H2 hi e y => ?_) gName_mono (fun H' e hl => ?_)
    · obtain ⟨rfl, fx⟩ := y
      have ex := Option.some.inj ((fx _ (ex_t e hA)).symm.trans (ints_at hi))
      subst ex
      exact ⟨rfl, fun R hR => ⟨_, rfl, _, rfl, _, _, rfl, rfl, hc i, hR _ (Ex.refl _)⟩⟩
    · refine ⟨D, (List.range p.length).map fun i => c * co p i, rfl, .inr (sq_ints hl), fun v H2 e4 hv => ?_⟩
      rw [scal_range] at hv
      exact k v H2 (e.trans e4) hv

/-! ### poly_minus -/
abbrev sMinus : Stmt := topS 21
theorem scMinus : FnScope ["one", "other"] ["one", "other"] (defScope sMinus) := ⟨rfl, rfl, rfl, by decide +kernel, rfl, by decide +kernel, by decide +kernel⟩
theorem cmul_neg1 (a : Int) (h : a.natAbs.log2 < 134216000) : CMulA (-1) a := by
  unfold CMulA
  have e : (-1 : Int).natAbs.log2 = 0 := by decide
  omega
/-- two polynomials, each product of a coefficient by -1 allowed -/
def spMinus (K : PySem.W.Frag) : Sp := fun vs H Q _ => ∃ (x y : V) (p q : List Int), vs = [x, y] ∧ PolyV K H x p ∧ PolyV K H y q ∧ p.length ≤ 1000 ∧ q.length ≤ 1000 ∧ (∀ i, CMulA (-1) (co q i)) ∧ ∀ v H', Ex H H' → PolyV K H' v (minus p q) → Q v H'
theorem ok_minus (D : DefAt K mg "poly_minus" sMinus ["one", "other"]) (P : Cal w K mg base 42 "poly_plus" ["one", "other"] (sp2 K plus)) (S : Cal w K mg base 42 "scaled" ["one", "factor"] (spScaled K)) : Cal w K mg base 43 "poly_minus" ["one", "other"] (spMinus K) := by
  refine Cal.mk D scMinus (fun vs H Q E h => ?_) (fun f cdv A outer s H vs Q E hr h => ?_)
  · obtain ⟨x, y, p, q, rfl, _⟩ := h
    rfl
  · obtain ⟨x, y, p, q, rfl, hA, hB, l1, l2, hc, k⟩ := h
    refine ⟨_, pss_one (ps_ret (pe_callC rfl P hr (by decide) (pa_cons (pv 0) (pa_cons (pe_callC rfl S hr (by decide) (pa_cons (pv 1) (pa_cons (pe_un un_neg pe_int) pa_nil))) pa_nil)))), ?_⟩
    refine ⟨_, rfl, _, rfl, _, rfl, y, q, -1, rfl, hB, l2, hc, fun v H1 e1 hv => ?_⟩
    refine ⟨x, v, p, _, rfl, hA.ex e1, hv, l1, ?_, fun v2 H2 e2 hv2 => k v2 H2 (e1.trans e2) hv2⟩
    exact Nat.le_trans (trim_len _) (by rw [smul, List.length_map]; exact l2)

/-! ### flipped, even_part, odd_part -/
def flp (p : List Int) : List Int := (List.range p.length).map fun i => if i % 2 = 0 then co p i else -co p i
def evens (p : List Int) : List Int := trim ((List.range ((p.length + 1) / 2)).map fun i => co p (2 * i))
def odds (p : List Int) : List Int := trim ((List.range (p.length / 2)).map fun i => co p (2 * i + 1))
def sp1 (K : PySem.W.Frag) (f : List Int → List Int) : Sp := fun vs H Q _ => ∃ (x : V) (p : List Int), vs = [x] ∧ PolyV K H x p ∧ p.length ≤ 1000 ∧ ∀ v H', Ex H H' → PolyV K H' v (f p) → Q v H'
abbrev sFlipped : Stmt := topS 28
theorem scFlipped : FnScope ["one", "at", "a"] ["one"] (defScope sFlipped) := ⟨rfl, rfl, rfl, by decide +kernel, rfl, by decide +kernel, by decide +kernel⟩
theorem ok_flipped (D : DefAt K mg "flipped" sFlipped ["one"]) (G : Gl0 mg base) : Cal w K mg base 41 "flipped" ["one"] (sp1 K flp) := by
  refine Cal.mk D scFlipped (fun vs H Q E h => ?_) (fun f cdv A outer s H vs Q E hr h => ?_)
  · obtain ⟨x, p, rfl, _⟩ := h
    rfl
  · obtain ⟨x, p, rfl, ⟨a, rfl, hA⟩, l1, k⟩ := h
    refine ⟨_, pss_one (ps_ret (pe_tuple G.tuple (pe_lc (own := [("at", 1), ("a", 2)]) (g := gTup K 2 (gCons (gName 1) (gCons (gName 2) gNil))) (tt := tYes) rfl scFlipped.nd (pi_enumT (by rfl) G.enumerate (pa_cons (pv 0) pa_nil)) (blkOk_by (N := ["one", "at", "a"]) (sc := defScope sFlipped) (by decide +kernel))
          (fun _ _ _ _ _ => pg_tup rfl (pgs_cons (pg_name (i := 1) scFlipped.nd rfl (.inl rfl)) (pgs_cons (pg_name (i := 2) scFlipped.nd rfl (.inl rfl)) pgs_nil))) (fun _ _ _ _ _ => pts_nil)
          (fun _ _ _ _ _ => pe_ifExp (pt_cmpR op_eq (pe_op op_mod (pv 1) pe_int) pe_int (nomark _)) (pv 2) (pe_un un_neg (pv 2)))))), ?_⟩
    refine ⟨_, rfl, a, _, rfl, hA, fun D hD => ?_⟩
    refine lc_out p.length (fun i => .int (if i % 2 = 0 then co p i else -co p i)) (by omega) hD (fun i H' hi e => ⟨_, _, ex_t e hA, ints_at hi⟩) (fun H' e => ⟨_, ex_t e hA, by rw [List.length_map]; exact Nat.le_refl _⟩) (fun i H' x H2 hi e y => ?_) gPair_mono (fun H' e hl => ?_)
    · obtain ⟨T, u, rfl, nT, rfl, fu⟩ := y
      have eu := Option.some.inj ((fu _ (ex_t e hA)).symm.trans (ints_at hi))
      subst eu
      refine ⟨T, _, rfl, st_of upd_same, rfl, _, _, rfl, _, _, rfl, rfl, rfl, fun R hR => ?_⟩
      refine ⟨_, rfl, _, _, rfl, rfl, (by show (0 : Int) < 2; decide), rfl, _, rfl, ?_⟩
      by_cases h2 : i % 2 = 0
      · rw [decide_eq_true (congrArg V.int (show (i : Int) % 2 = 0 by omega))]
        rw [if_pos h2] at hR
        exact iteT ⟨_, rfl, hR _ (Ex.new nT)⟩
      · rw [decide_eq_false (fun z => h2 (by have := V.int.inj z; omega))]
        rw [if_neg h2] at hR
        exact iteF ⟨_, rfl, _, rfl, hR _ (Ex.new nT)⟩
    · exact ⟨D, (flp p).map V.int, rfl, .inr (sq_ints hl), fun a2 H2 e4 hv => k _ H2 (e.trans e4) ⟨a2, rfl, hv⟩⟩
theorem step2 (n : Nat) (d : Nat) (hd : d ≤ n) : stepAt n (some (d : Int)) none 2 = ((d : Int), (n - d + 1) / 2) := by
  unfold stepAt Builtin.Slice.sliceAdjust Builtin.Slice.slicePlaces
  simp only [show ¬ ((2 : Int) < 0) by decide, if_false, show (2 : Int) > 0 by decide, if_true]
  rw [if_neg (show ¬ ((d : Int) < 0) by omega)]
  rw [show min (d : Int) (n : Int) = (d : Int) by omega]
  congr 1
  by_cases h : (d : Int) < (n : Int)
  · rw [if_pos h]; omega
  · rw [if_neg h]; omega
theorem step2n (n : Nat) : stepAt n none none 2 = ((0 : Int), (n + 1) / 2) := by
  have h := step2 n 0 (Nat.zero_le _)
  simp only [Nat.sub_zero] at h
  rw [← show ((0 : Nat) : Int) = 0 from rfl, ← h]
  unfold stepAt Builtin.Slice.sliceAdjust
  simp only [show ¬ ((2 : Int) < 0) by decide, if_false]
  rw [if_neg (show ¬ (((0 : Nat) : Int) < 0) by omega), show min ((0 : Nat) : Int) (n : Int) = 0 by omega]
theorem pick2 {p : List Int} (d k : Nat) (hk : ∀ m, m < k → d + 2 * m < p.length) : pickS (p.map V.int) (d : Int) 2 k = ((List.range k).map fun i => co p (d + 2 * i)).map V.int := by
  unfold pickS
  rw [List.map_map]
  have : ∀ l : List Nat, (∀ m ∈ l, m < k) → (l.filterMap fun (m : Nat) => (p.map V.int)[((d : Int) + (m : Int) * 2).toNat]?) = l.map (V.int ∘ fun i => co p (d + 2 * i)) := by
    intro l
    induction l with
    | nil => intro _; rfl
    | cons m l ih =>
      intro h
      rw [List.filterMap_cons, show ((d : Int) + (m : Int) * 2).toNat = d + 2 * m by omega, ints_at (hk m (h m (List.mem_cons_self ..)))]
      show _ :: _ = _ :: _
      rw [ih fun m' hm => h m' (List.mem_cons_of_mem _ hm)]
      rfl
  exact this _ fun m hm => List.mem_range.mp hm
abbrev sEven : Stmt := topS 29
theorem scEven : FnScope ["one"] ["one"] (defScope sEven) := ⟨rfl, rfl, rfl, by decide +kernel, rfl, by decide +kernel, by decide +kernel⟩
theorem ok_even (D : DefAt K mg "even_part" sEven ["one"]) (T : Cal w K mg base 41 "trimmed" ["some"] (spTrimmed K)) : Cal w K mg base 42 "even_part" ["one"] (sp1 K evens) := by
  refine Cal.mk D scEven (fun vs H Q E h => ?_) (fun f cdv A outer s H vs Q E hr h => ?_)
  · obtain ⟨x, p, rfl, _⟩ := h
    rfl
  · obtain ⟨x, p, rfl, ⟨a, rfl, hA⟩, l1, k⟩ := h
    refine ⟨_, pss_one (ps_ret (pe_callC rfl T hr (by decide) (pa_cons (pe_sliceS (pv 0) po_none po_none (po_some pe_int)) pa_nil))), ?_⟩
    refine ⟨_, rfl, _, rfl, a, _, 2, rfl, hA, rfl, by decide, by decide, ?_⟩
    rw [List.length_map, step2n]
    refine ⟨sz_of (by show (p.length + 1) / 2 ≤ _; omega), fun q hq => ?_⟩
    have e := pick2 (p := p) 0 ((p.length + 1) / 2) (by omega)
    refine ⟨q, ((List.range ((p.length + 1) / 2)).map fun i => co p (0 + 2 * i)), rfl, .inl ?_, fun v H2 e4 hv => ?_⟩
    · rw [← e]
      exact st_of upd_same
    · simp only [Nat.zero_add] at hv
      exact k v H2 ((Ex.new hq).trans e4) hv
abbrev sOdd : Stmt := topS 30
theorem scOdd : FnScope ["one"] ["one"] (defScope sOdd) := ⟨rfl, rfl, rfl, by decide +kernel, rfl, by decide +kernel, by decide +kernel⟩
theorem ok_odd (D : DefAt K mg "odd_part" sOdd ["one"]) (T : Cal w K mg base 41 "trimmed" ["some"] (spTrimmed K)) : Cal w K mg base 42 "odd_part" ["one"] (sp1 K odds) := by
  refine Cal.mk D scOdd (fun vs H Q E h => ?_) (fun f cdv A outer s H vs Q E hr h => ?_)
  · obtain ⟨x, p, rfl, _⟩ := h
    rfl
  · obtain ⟨x, p, rfl, ⟨a, rfl, hA⟩, l1, k⟩ := h
    refine ⟨_, pss_one (ps_ret (pe_callC rfl T hr (by decide) (pa_cons (pe_sliceS (pv 0) (po_some pe_int) po_none (po_some pe_int)) pa_nil))), ?_⟩
    by_cases hp : p = []
    · subst hp
      refine ⟨_, rfl, _, rfl, _, rfl, a, _, 2, rfl, hA, rfl, by decide, by decide, sz_of (by decide), fun q hq => ?_⟩
      refine ⟨q, [], rfl, .inl (st_of upd_same), fun v H2 e4 hv => k v H2 ((Ex.new hq).trans e4) hv⟩
    · have hl : 0 < p.length := List.length_pos_iff.mpr hp
      have hs := step2 p.length 1 hl
      refine ⟨_, rfl, _, rfl, _, rfl, a, _, 2, rfl, hA, rfl, by decide, by decide, ?_⟩
      rw [List.length_map, show (1 : Int) = ((1 : Nat) : Int) from rfl, hs]
      refine ⟨sz_of (by show (p.length - 1 + 1) / 2 ≤ _; omega), fun q hq => ?_⟩
      have e := pick2 (p := p) 1 ((p.length - 1 + 1) / 2) (by omega)
      refine ⟨q, ((List.range ((p.length - 1 + 1) / 2)).map fun i => co p (1 + 2 * i)), rfl, .inl ?_, fun v H2 e4 hv => ?_⟩
      · rw [← e]
        exact st_of upd_same
      · rw [show p.length - 1 + 1 = p.length by omega] at hv
        simp only [Nat.add_comm 1] at hv
        exact k v H2 ((Ex.new hq).trans e4) hv
end
end Kf
end

section
set_option Elab.async false
set_option linter.all false
set_option maxRecDepth 100000
set_option maxHeartbeats 4000000
namespace Kf
open PySem PySem.Spec PyProof.Rows L2 Lx Evl Pm RZ StX

/-! ### == of tuples of ints, of pairs of these -/
def dI (p : List Int) : PyData := .tuple (p.map PyData.int)
theorem dp_all {K : PySem.W.Frag} {H : Hp} : ∀ p : List Int, DpAll K H (p.map V.int) (p.map PyData.int)
  | [] => .nil
  | a :: p => .cons (.int a) (dp_all p)
theorem PolyV.dp {K : PySem.W.Frag} {H : Hp} {v : V} {p : List Int} (h : PolyV K H v p) : Dp K H v (dI p) := by
  obtain ⟨a, rfl, hs⟩ := h
  exact .tup hs (dp_all p)
theorem FunV.dp {K : PySem.W.Frag} {H : Hp} {v : V} {t b : List Int} (h : FunV K H v t b) : Dp K H v (.tuple [dI t, dI b]) := by
  obtain ⟨a, x, y, rfl, hs, ht, hb⟩ := h
  exact .tup hs (.cons ht.dp (.cons hb.dp .nil))
theorem dI_lay : ∀ p : List Int, PyData.canLayAll0 (p.map PyData.int) = true
  | [] => by simp [PyData.canLayAll0]
  | a :: p => by simp [PyData.canLayAll0, PyData.canLay0, dI_lay p]
theorem dI_depth : ∀ p : List Int, PyData.depthAll (p.map PyData.int) = 0
  | [] => by simp [PyData.depthAll]
  | a :: p => by simp [PyData.depthAll, PyData.depth, dI_depth p]
theorem dI_shaped (p : List Int) : SeqAt.shaped (dI p) = true := by
  simp [SeqAt.shaped, dI, PyData.canLay0, PyData.depth, dI_lay, dI_depth]
theorem dF_shaped (t b : List Int) : SeqAt.shaped (.tuple [dI t, dI b]) = true := by
  simp [SeqAt.shaped, dI, PyData.canLay0, PyData.canLayAll0, PyData.depth, PyData.depthAll, dI_lay, dI_depth]
theorem eqvAll_ints : ∀ p q : List Int, PyData.eqvAll (p.map PyData.int) (q.map PyData.int) = decide (p = q)
  | [], [] => by simp [PyData.eqvAll]
  | [], b :: q => by simp [PyData.eqvAll]
  | a :: p, [] => by simp [PyData.eqvAll]
  | a :: p, b :: q => by
    simp only [List.map_cons, PyData.eqvAll, PyData.eqv, eqvAll_ints p q]
    rw [Bool.eq_iff_iff]
    simp
theorem eqv_dI (p q : List Int) : PyData.eqv (dI p) (dI q) = decide (p = q) := by
  simp only [dI, PyData.eqv, eqvAll_ints]
theorem eqv_dF (t b t' b' : List Int) : PyData.eqv (.tuple [dI t, dI b]) (.tuple [dI t', dI b']) = decide (t = t' ∧ b = b') := by
  simp only [PyData.eqv, PyData.eqvAll, eqv_dI, Bool.and_true]
  rw [Bool.eq_iff_iff]
  simp
section
variable {X : Cx}
def rEqP (K : PySem.W.Frag) : R2 := fun x y H Q => ∃ p q, PolyV K H x p ∧ PolyV K H y q ∧ Q (.bl (decide (p = q))) H
def rNeP (K : PySem.W.Frag) : R2 := fun x y H Q => ∃ p q, PolyV K H x p ∧ PolyV K H y q ∧ Q (.bl (!decide (p = q))) H
theorem op_eqP (hu : X.A.units + 64 < cLine) : OpR X (compareOp .Eq) (rEqP X.K) := by
  intro pins s σ H x y v u Q I rx ry h
  obtain ⟨p, q, hp, hq, k⟩ := h
  exact op_eqD hu pins s σ H x y v u Q I rx ry ⟨_, _, hp.dp, hq.dp, dI_shaped p, dI_shaped q, by rw [eqv_dI]; exact k⟩
theorem op_neP (hu : X.A.units + 64 < cLine) : OpR X (compareOp .NotEq) (rNeP X.K) := by
  intro pins s σ H x y v u Q I rx ry h
  obtain ⟨p, q, hp, hq, k⟩ := h
  exact op_neD hu pins s σ H x y v u Q I rx ry ⟨_, _, hp.dp, hq.dp, dI_shaped p, dI_shaped q, by rw [eqv_dI]; exact k⟩
def rNeF (K : PySem.W.Frag) : R2 := fun x y H Q => ∃ t b t' b', FunV K H x t b ∧ FunV K H y t' b' ∧ Q (.bl (!decide (t = t' ∧ b = b'))) H
theorem op_neF (hu : X.A.units + 64 < cLine) : OpR X (compareOp .NotEq) (rNeF X.K) := by
  intro pins s σ H x y v u Q I rx ry h
  obtain ⟨t, b, t', b', hp, hq, k⟩ := h
  exact op_neD hu pins s σ H x y v u Q I rx ry ⟨_, _, hp.dp, hq.dp, dF_shaped t b, dF_shaped t' b', by rw [eqv_dF]; exact k⟩
end
section
variable {w : World} {K : PySem.W.Frag} {mg : Str → Option Value} {base : Heap}
theorem nilV {H : Hp} {t : Addr} : PolyV K (upd H t (.tup [])) (.ref t) [] := ⟨t, rfl, st_of upd_same⟩

/-! ### poly_times -/
/-- the cells of a product while they are filled: `at` rows are whole, of the next one `j` places -/
theorem row_end {p q : List Int} {i : Nat} (hi : i < p.length) (k : Nat) : co (mulL (p.take (i + 1)) q) k = co (mulL (p.take i) q) k + (if i ≤ k ∧ k < i + q.length then co p i * co q (k - i) else 0) := by
  have hl : (p.take i).length = i := by rw [List.length_take]; omega
  rw [List.take_add_one, get_co hi]
  show co (mulL (p.take i ++ [co p i]) q) k = _
  rw [co_mulL_snoc, hl]
  by_cases h1 : i ≤ k
  · rw [if_pos h1]
    by_cases h2 : k < i + q.length
    · rw [if_pos ⟨h1, h2⟩]
    · rw [if_neg (fun z => h2 z.2), co_out (p := q) (by omega), Int.mul_zero]
  · rw [if_neg h1, if_neg (fun z => h1 z.1)]
abbrev sTimes : Stmt := topS 22
theorem scTimes : FnScope ["one", "other", "found", "at", "a", "place", "b"] ["one", "other"] (defScope sTimes) := ⟨rfl, rfl, rfl, by decide +kernel, rfl, by decide +kernel, by decide +kernel⟩
def spTimes (K : PySem.W.Frag) : Sp := fun vs H Q _ => ∃ (x y : V) (p q : List Int), vs = [x, y] ∧ PolyV K H x p ∧ PolyV K H y q ∧ p.length ≤ 1000 ∧ q.length ≤ 1000 ∧ (∀ i j, CMulA (co p i) (co q j)) ∧ ∀ v H', Ex H H' → PolyV K H' v (times p q) → Q v H'
theorem co_set {f : List Int} {j k : Nat} {z : Int} (hj : j < f.length) : co (f.set j z) k = if k = j then z else co f k := by
  simp only [co, List.getD_eq_getElem?_getD, List.getElem?_set]
  by_cases h : j = k
  · subst h; simp [hj]
  · simp [h, Ne.symm h]
theorem ok_times (D : DefAt K mg "poly_times" sTimes ["one", "other"]) (G : Gl0 mg base) (T : Cal w K mg base 41 "trimmed" ["some"] (spTrimmed K)) : Cal w K mg base 42 "poly_times" ["one", "other"] (spTimes K) := by
  refine Cal.mk D scTimes (fun vs H Q E h => ?_) (fun f cdv A outer s H vs Q E hr h => ?_)
  · obtain ⟨x, y, p, q, rfl, _⟩ := h
    rfl
  · obtain ⟨x, y, p, q, rfl, ⟨a, rfl, hA⟩, ⟨b, rfl, hB⟩, l1, l2, hc, k⟩ := h
    refine ⟨_, pss_cons (ps_if (PW.pt (pw_or (pt_cmpR (op_eqP hr.units) (pv 0) (pe_tup pa_nil) (nomark _)) (pw_or1 (pt_cmpR (op_eqP hr.units) (pv 1) (pe_tup pa_nil) (nomark _))))) (pss_one (ps_ret (pe_tup pa_nil))) pss_nil)
      (pss_cons (ps_set (i := 2) scTimes.nd rfl (.inl rfl) (pe_op op_rep (pe_lst (pa_cons pe_int pa_nil)) (pe_op op_sub (pe_op op_add (pe_len G.len (pv 0)) (pe_len G.len (pv 1))) pe_int)))
      (pss_cons (ps_for PassesOwn.never rfl (pi_enumT (by rfl) G.enumerate (pa_cons (pv 0) pa_nil))
          (pg_tup rfl (pgs_cons (pg_name (i := 3) scTimes.nd rfl (.inl rfl)) (pgs_cons (pg_name (i := 4) scTimes.nd rfl (.inl rfl)) pgs_nil)))
        (pss_one (ps_for PassesOwn.never rfl (pi_enumT (by rfl) G.enumerate (pa_cons (pv 1) pa_nil))
          (pg_tup rfl (pgs_cons (pg_name (i := 5) scTimes.nd rfl (.inl rfl)) (pgs_cons (pg_name (i := 6) scTimes.nd rfl (.inl rfl)) pgs_nil)))
          (pss_one (ps_augS (pv 2) (pe_op op_add (pv 3) (pv 5)) pget_list (pe_op op_mulA (pv 4) (pv 6)) ip_add set_listN)))))
      (pss_one (ps_ret (pe_callC rfl T hr (by decide) (pa_cons (pv 2) pa_nil)))))), ?_⟩
    have sz : ∀ m, m ≤ 100000 → m ≤ sizeLine := fun m h => sz_of h
    have done : (p = [] ∨ q = []) → ∀ H1, Ex H H1 → tRet (tTup tNil) { nx := fun _ H' => Q .non H', rt := Q } [some (.ref a), some (.ref b), none, none, none, none, none] H1 := fun hz H1 e1 => by
      refine ⟨sz _ (by decide), fun t nt => k _ _ (e1.trans (Ex.new nt)) ?_⟩
      unfold times
      rw [if_pos hz]
      exact nilV
    refine ⟨_, rfl, sz _ (by decide), fun t0 nt0 => ⟨p, [], ⟨a, rfl, ex_t (Ex.new nt0) hA⟩, nilV, _, rfl, ?_⟩⟩
    by_cases hp : p = []
    · rw [decide_eq_true hp]
      exact iteT (iteT (done (.inl hp) _ (Ex.new nt0)))
    rw [decide_eq_false hp]
    refine iteF ⟨_, rfl, sz _ (by decide), fun t1 nt1 => ⟨q, [], ⟨b, rfl, ex_t ((Ex.new nt0).trans (Ex.new nt1)) hB⟩, nilV, _, rfl, ?_⟩⟩
    by_cases hq : q = []
    · rw [decide_eq_true hq]
      exact iteT (done (.inr hq) _ ((Ex.new nt0).trans (Ex.new nt1)))
    rw [decide_eq_false hq]
    refine iteF ?_
    have e1 : Ex H (upd (upd H t0 (.tup [])) t1 (.tup [])) := (Ex.new nt0).trans (Ex.new nt1)
    generalize upd (upd H t0 (.tup [])) t1 (.tup []) = H1 at e1
    have hpl : 0 < p.length := List.length_pos_iff.mpr hp
    have hql : 0 < q.length := List.length_pos_iff.mpr hq
    -- found
    refine ⟨sz 1 (by decide), fun z0 nz0 => ⟨_, rfl, a, _, rfl, .inl (ex_t (e1.trans (Ex.new nz0)) hA), _, rfl, b, _, rfl, .inl (ex_t (e1.trans (Ex.new nz0)) hB), _, _, rfl, rfl, _, _, rfl, rfl, z0, _, _, rfl, rfl, upd_same, ?_⟩⟩
    have ek : ((p.map V.int).length : Int) + ((q.map V.int).length : Int) - 1 = ((p.length + q.length - 1 : Nat) : Int) := by rw [List.length_map, List.length_map]; omega
    rw [ek]
    refine ⟨by omega, by omega, by rw [Int.toNat_natCast]; show 1 * _ ≤ _; rw [Nat.one_mul]; exact sz _ (by omega), fun F nF => ?_⟩
    rw [Int.toNat_natCast]
    have eF : (List.replicate (p.length + q.length - 1) [V.int 0]).flatten = (List.replicate (p.length + q.length - 1) (0 : Int)).map V.int := by
      generalize p.length + q.length - 1 = n
      induction n with
      | zero => rfl
      | succ n ih => rw [List.replicate_succ, List.replicate_succ, List.flatten_cons, ih]; rfl
    rw [eF]
    have nFH : H F = none := fresh_back (e1.trans (Ex.new nz0)) nF
    have e2 : Ex H (upd (upd H1 z0 (.lst [.int 0])) F (.lst ((List.replicate (p.length + q.length - 1) (0 : Int)).map V.int))) := (e1.trans (Ex.new nz0)).trans (Ex.new nF)
    -- the rows
    refine ⟨_, rfl, a, _, rfl, ex_t e2 hA, ?_⟩
    refine for_gen p.length (fun i σ H' => Ex H H' ∧ ∃ (y3 y4 y5 y6 : Option V) (fl : List Int), σ = [some (.ref a), some (.ref b), some (.ref F), y3, y4, y5, y6] ∧ H' F = some (.lst (fl.map V.int)) ∧ fl.length = p.length + q.length - 1 ∧ ∀ k, co fl k = co (mulL (p.take i) q) k)
      ⟨e2, none, none, none, none, _, rfl, upd_same, by simp, fun k => ?_⟩ (fun i σ H' hi h => ⟨_, _, ex_t h.1 hA, ints_at hi⟩) (fun σ H' h => ⟨_, ex_t h.1 hA, by rw [List.length_map]; exact Nat.le_refl _⟩) (fun i σ H' x H2 hi h y => ?_) (fun σ H' h => ?_)
    · rw [List.take_zero, co_mulL_nil]
      by_cases hk : k < p.length + q.length - 1
      · exact co_get (by rw [List.getElem?_replicate, if_pos hk])
      · exact co_out (by simp; omega)
    · obtain ⟨e3, y3, y4, y5, y6, fl, rfl, hFl, hfl, hco⟩ := h
      obtain ⟨T1, u, rfl, nT1, rfl, fu⟩ := y
      have eu := Option.some.inj ((fu _ (ex_t e3 hA)).symm.trans (ints_at hi))
      subst eu
      have nT1F : F ≠ T1 := ne_of_none hFl nT1
      refine ⟨T1, _, rfl, st_of upd_same, rfl, _, _, rfl, _, _, rfl, rfl, ?_⟩
      have e4 : Ex H (upd H' T1 (.tup [.int (i : Nat), .int (co p i)])) := e3.trans (Ex.new nT1)
      refine ⟨_, rfl, b, _, rfl, ex_t e4 hB, ?_⟩
      refine for_gen q.length (fun j σ H' => Ex H H' ∧ ∃ (y5 y6 : Option V) (fl : List Int), σ = [some (.ref a), some (.ref b), some (.ref F), some (.int (i : Nat)), some (.int (co p i)), y5, y6] ∧ H' F = some (.lst (fl.map V.int)) ∧ fl.length = p.length + q.length - 1 ∧ ∀ k, co fl k = co (mulL (p.take i) q) k + (if i ≤ k ∧ k < i + j then co p i * co q (k - i) else 0))
        ⟨e4, y5, y6, fl, rfl, by rw [upd_ne nT1F]; exact hFl, hfl, fun k => by rw [hco, if_neg (by omega), Int.add_zero]⟩ (fun j σ H' hj h => ⟨_, _, ex_t h.1 hB, ints_at hj⟩) (fun σ H' h => ⟨_, ex_t h.1 hB, by rw [List.length_map]; exact Nat.le_refl _⟩) (fun j σ H' x H2 hj h y => ?_) (fun σ H' h => ?_)
      · obtain ⟨e5, y5, y6, gl, rfl, hGl, hgl, hgo⟩ := h
        obtain ⟨T2, u, rfl, nT2, rfl, fu⟩ := y
        have eu := Option.some.inj ((fu _ (ex_t e5 hB)).symm.trans (ints_at hj))
        subst eu
        have nT2F : F ≠ T2 := ne_of_none hGl nT2
        have hG2 : (upd H' T2 (.tup [.int (j : Nat), .int (co q j)])) F = some (.lst (gl.map V.int)) := by rw [upd_ne nT2F]; exact hGl
        refine ⟨T2, _, rfl, st_of upd_same, rfl, _, _, rfl, _, _, rfl, rfl, ?_⟩
        refine ⟨_, rfl, _, rfl, _, rfl, _, _, rfl, rfl, F, gl.map V.int, i + j, .int (co gl (i + j)), rfl, by rw [Int.natCast_add], sq_of hG2, ints_at (by omega), ?_⟩
        refine ⟨_, rfl, _, rfl, _, _, rfl, rfl, hc i j, _, _, rfl, rfl, F, gl.map V.int, i + j, rfl, by rw [Int.natCast_add], hG2, by rw [List.length_map]; omega, ?_⟩
        have es : (gl.map V.int).set (i + j) (.int (co gl (i + j) + co p i * co q j)) = (gl.set (i + j) (co gl (i + j) + co p i * co q j)).map V.int := by rw [List.map_set]
        refine ⟨Ex.mut (e5.trans (Ex.new nT2)) nFH, _, _, gl.set (i + j) (co gl (i + j) + co p i * co q j), rfl, by rw [upd_same, es], by rw [List.length_set]; exact hgl, fun k => ?_⟩
        rw [co_set (by omega)]
        by_cases hk : k = i + j
        · subst hk
          rw [if_pos rfl, hgo (i + j), if_neg (by omega), if_pos (by omega), show i + j - i = j by omega]
          omega
        · rw [if_neg hk, hgo k]
          by_cases h2 : i ≤ k ∧ k < i + j
          · rw [if_pos h2, if_pos (by omega)]
          · rw [if_neg h2, if_neg (by omega)]
      · obtain ⟨e5, y5, y6, gl, rfl, hGl, hgl, hgo⟩ := h
        exact ⟨e5, _, _, _, _, gl, rfl, hGl, hgl, fun k => by rw [hgo, row_end hi]⟩
    · obtain ⟨e3, y3, y4, y5, y6, fl, rfl, hFl, hfl, hco⟩ := h
      refine ⟨_, rfl, F, fl, rfl, .inr (sq_of hFl), fun v H2 e4 hv => k v H2 (e3.trans e4) ?_⟩
      have et : trim fl = times p q := by
        unfold times
        rw [if_neg (fun z => z.elim hp hq)]
        refine trim_ext fun k => ?_
        rw [hco, List.take_length]
      rw [et] at hv
      exact hv
end
end Kf
end

section
set_option Elab.async false
set_option linter.all false
/-! The test of the text for zeros on the left, as a function; what it gives. Plain Lean. -/
namespace Pm

def dbl : List Int → List Int
  | [] => []
  | a :: p => a :: 0 :: dbl p
theorem ev_dbl : ∀ (p : List Int) (x : Int), ev (dbl p) x = ev p (x * x)
  | [], _ => rfl
  | a :: p, x => by
    show a + x * (0 + x * ev (dbl p) x) = a + x * x * ev p (x * x)
    rw [ev_dbl p x]; grind
theorem co_dbl : ∀ (p : List Int) (i : Nat), co (dbl p) (2 * i) = co p i ∧ co (dbl p) (2 * i + 1) = 0
  | [], i => ⟨by show co [] _ = _; rw [co_nil, co_nil], co_nil _⟩
  | a :: p, 0 => ⟨by show co (a :: _) 0 = co (a :: p) 0; rw [co_zero, co_zero], by show co (a :: 0 :: dbl p) 1 = 0; rw [co_succ, co_zero]⟩
  | a :: p, i + 1 => by
    have h := co_dbl p i
    refine ⟨?_, ?_⟩
    · show co (a :: 0 :: dbl p) (2 * i + 1 + 1) = co (a :: p) (i + 1)
      rw [co_succ, co_succ, co_succ]; exact h.1
    · show co (a :: 0 :: dbl p) (2 * i + 1 + 1 + 1) = 0
      rw [co_succ, co_succ]; exact h.2
theorem z_dbl (p : List Int) : Z (dbl p) (2 * p.length - 1) := fun i hi => by
  obtain ⟨j, hj | hj⟩ : ∃ j, i = 2 * j ∨ i = 2 * j + 1 := ⟨i / 2, by omega⟩
  · rw [hj, (co_dbl p j).1]; exact co_out (by omega)
  · rw [hj, (co_dbl p j).2]
def full (sh : Bool) (p : List Int) : List Int := if sh then dbl p else 0 :: dbl p
def bt (sh : Bool) : Nat := if sh then 0 else 1
theorem ev_full (sh : Bool) (p : List Int) (x : Int) : ev (full sh p) x = if sh then ev p (x * x) else x * ev p (x * x) := by
  cases sh
  · show ev (0 :: dbl p) x = x * _; rw [ev_cons, ev_dbl]; omega
  · show ev (dbl p) x = _; rw [ev_dbl]; rfl
theorem full_lead {sh : Bool} {p : List Int} (h : p ≠ []) : co (full sh p) (2 * (p.length - 1) + bt sh) = lead p ∧ Z (full sh p) (2 * (p.length - 1) + bt sh + 1) := by
  have hl : 0 < p.length := List.length_pos_iff.mpr h
  cases sh
  · refine ⟨?_, fun i hi => ?_⟩
    · show co (0 :: dbl p) (2 * (p.length - 1) + 1) = _
      rw [co_succ, (co_dbl p _).1]
    · obtain ⟨j, rfl⟩ : ∃ j, i = j + 1 := ⟨i - 1, by simp only [bt] at hi; omega⟩
      show co (0 :: dbl p) (j + 1) = 0
      rw [co_succ]
      refine z_dbl p j ?_
      have : bt false = 1 := rfl
      omega
  · refine ⟨(co_dbl p _).1, fun i hi => z_dbl p i ?_⟩
    have : bt true = 0 := rfl
    omega
theorem par_full (sh : Bool) (p : List Int) : Par (full sh p) (if sh then 1 else -1) := fun x => by
  have : -x * -x = x * x := by grind
  rw [ev_full, ev_full, this]
  cases sh
  · show -x * _ = -1 * (x * _); grind
  · show ev p (x * x) = 1 * ev p (x * x); omega

def moved (sh : Bool) (S : List Int) : List Int := if sh then 0 :: S else S
def lessL (F S : List Int) (sh : Bool) : List Int := trim ((List.range F.length).map fun i => if lead S < 0 then -(co F i * lead S - co (moved sh S) i * lead F) else co F i * lead S - co (moved sh S) i * lead F)
def rou : Nat → List Int → List Int → Bool → Bool
  | 0, _, _, _ => false
  | k + 1, F, S, sh => if S = [] then decide (F.length = 1) else if S.length ≠ (if sh then F.length - 1 else F.length) ∨ lead F * lead S ≤ 0 then false else rou k S (lessL F S sh) (!sh)
theorem co_rangeP {n : Nat} {f : Nat → Int} (i : Nat) : co ((List.range n).map f) i = if i < n then f i else 0 := by
  by_cases h : i < n
  · rw [if_pos h]
    exact co_get (by simp [h])
  · rw [if_neg h]
    exact co_out (by simp; omega)
theorem moved_len {F S : List Int} {sh : Bool} (hS : S ≠ []) (h : S.length = (if sh then F.length - 1 else F.length)) : (moved sh S).length = F.length := by
  have : 0 < S.length := List.length_pos_iff.mpr hS
  cases sh
  · exact h
  · show S.length + 1 = F.length
    have h' : S.length = F.length - 1 := h
    omega
theorem co_less {F S : List Int} {sh : Bool} (hS : S ≠ []) (h : S.length = (if sh then F.length - 1 else F.length)) (i : Nat) : co (lessL F S sh) i = if lead S < 0 then -(co F i * lead S - co (moved sh S) i * lead F) else co F i * lead S - co (moved sh S) i * lead F := by
  unfold lessL
  rw [co_trim, co_rangeP]
  by_cases hi : i < F.length
  · rw [if_pos hi]
  · rw [if_neg hi, co_out (p := F) (by omega), co_out (p := moved sh S) (by rw [moved_len hS h]; omega)]
    split <;> omega
theorem less_len {F S : List Int} {sh : Bool} (hS : S ≠ []) (h : S.length = (if sh then F.length - 1 else F.length)) : (lessL F S sh).length ≤ F.length - 1 := by
  have hSl : 0 < S.length := List.length_pos_iff.mpr hS
  have hml := moved_len hS h
  refine tr_len (tr_trim _) fun i hi => ?_
  show co (lessL F S sh) i = 0
  rw [co_less hS h]
  by_cases e : i = F.length - 1
  · have h1 : co F i = lead F := by rw [e]
    have h2 : co (moved sh S) i = lead S := by
      rw [e]
      cases sh
      · show co S (F.length - 1) = _
        rw [← show S.length = F.length from h]
      · show co (0 :: S) (F.length - 1) = _
        have h' : S.length = F.length - 1 := h
        rw [← h', show S.length = S.length - 1 + 1 by omega, co_succ]
    rw [h1, h2, Int.mul_comm (lead S)]
    split <;> omega
  · rw [co_out (p := F) (by omega), co_out (p := moved sh S) (by omega)]
    split <;> omega
theorem rou_dec {F S : List Int} {sh : Bool} (hS : S ≠ []) (h : S.length = (if sh then F.length - 1 else F.length)) : S.length + (lessL F S sh).length < F.length + S.length := by
  have := less_len hS h
  have hSl : 0 < S.length := List.length_pos_iff.mpr hS
  cases sh
  · have h' : S.length = F.length := h; omega
  · have h' : S.length = F.length - 1 := h; omega
theorem rou_chain : ∀ (k : Nat) (F S : List Int) (sh : Bool) (n : Nat), rou k F S sh = true → Tr F → Tr S → F ≠ [] → (if sh then co F 0 else co S 0) ≠ 0 → n = 2 * (F.length - 1) + bt sh → Chn n (full sh F) (full (!sh) S)
  | 0, _, _, _, _, h, _, _, _, _, _ => absurd h (by simp [rou])
  | k + 1, F, S, sh, n, h, tF, tS, hF, h0, hn => by
    unfold rou at h
    by_cases hS : S = []
    · subst hS
      rw [if_pos rfl] at h
      have hl : F.length = 1 := of_decide_eq_true h
      cases sh
      · exact absurd (co_nil 0) h0
      · have hn0 : n = 0 := by rw [hn, hl]; rfl
        subst hn0
        obtain ⟨a, rfl⟩ := List.length_eq_one_iff.mp hl
        refine ⟨fun i hi => ?_, ?_, fun i _ => ?_⟩
        · refine z_dbl [a] i ?_
          simpa using hi
        · show co (a :: _) 0 ≠ 0
          rw [co_zero]
          have := tF.lead hF
          simpa [lead, co_zero] using this
        · show co (0 :: dbl []) i = 0
          cases i with
          | zero => exact co_zero _ _
          | succ i => rw [co_succ]; exact co_nil _
    · rw [if_neg hS] at h
      by_cases hc : S.length ≠ (if sh then F.length - 1 else F.length) ∨ lead F * lead S ≤ 0
      · rw [if_pos hc] at h
        exact absurd h (by decide)
      · rw [if_neg hc] at h
        have hlen : S.length = (if sh then F.length - 1 else F.length) := Classical.byContradiction fun z => hc (.inl z)
        have hpos : 0 < lead F * lead S := Int.not_le.mp fun z => hc (.inr z)
        have hSl : 0 < S.length := List.length_pos_iff.mpr hS
        have hlS := tS.lead hS
        have hlF := tF.lead hF
        have ih := rou_chain k S (lessL F S sh) (!sh) (2 * (S.length - 1) + bt (!sh)) h tS (tr_trim _) hS (by
          cases sh
          · exact h0
          · show co (lessL F S true) 0 ≠ 0
            rw [co_less hS hlen]
            have e0 : co (moved true S) 0 = 0 := co_zero _ _
            rw [e0]
            have h0' : co F 0 ≠ 0 := h0
            have := Int.mul_ne_zero h0' hlS
            split <;> omega) rfl
        have e1 : n = 2 * (S.length - 1) + bt (!sh) + 1 := by
          rw [hn]
          cases sh
          · have h' : S.length = F.length := hlen
            rw [h']; rfl
          · have h' : S.length = F.length - 1 := hlen
            show 2 * (F.length - 1) + 0 = 2 * (S.length - 1) + 1 + 1
            omega
        obtain ⟨l1, z1⟩ := full_lead (sh := sh) hF
        obtain ⟨l2, z2⟩ := full_lead (sh := !sh) hS
        rw [← hn] at l1 z1
        rw [e1] at l1 z1 ⊢
        refine ⟨z1, by rw [l1, l2]; exact hpos, (if lead S < 0 then -lead F else lead F), (if lead S < 0 then -lead S else lead S), 1, full sh (lessL F S sh), ?_, ?_, by decide, fun x => ?_, ?_⟩
        · by_cases hn : lead S < 0
          · rw [if_pos hn]
            have := pos_of (K := -lead S) (a := -lead F) (by omega) (by grind)
            omega
          · rw [if_neg hn]
            exact pos_of (K := lead S) (by omega) (by rw [Int.mul_comm]; exact hpos)
        · split <;> omega
        · have hev : ∀ y, ev (lessL F S sh) y = (if lead S < 0 then -lead S else lead S) * ev F y - (if lead S < 0 then -lead F else lead F) * ev (moved sh S) y := fun y => by
            have : ev (lessL F S sh) y = ev (dif (smul (if lead S < 0 then -lead S else lead S) F) (smul (if lead S < 0 then -lead F else lead F) (moved sh S))) y := ev_of_co (fun i => by
              rw [co_less hS hlen, co_dif, co_smul, co_smul]
              split <;> grind) y
            rw [this, ev_dif, ev_smul, ev_smul]
          rw [ev_full, ev_full, ev_full, hev]
          cases sh
          · show _ * (x * ev F (x * x)) = _ * (x * ev S (x * x)) + 1 * (x * (_ - _ * ev S (x * x)))
            grind
          · show _ * ev F (x * x) = _ * (x * (x * ev S (x * x))) + 1 * (_ - _ * ev (0 :: S) (x * x))
            rw [ev_cons]
            grind
        · have e2 : full (!!sh) (lessL F S sh) = full sh (lessL F S sh) := by rw [Bool.not_not]
          rw [← e2]
          exact ih
end Pm
end

section
set_option Elab.async false
set_option linter.all false
/-! The text's own test on a polynomial; the chain of a filter's two polynomials. -/
namespace Pm
open Kf (flp evens odds)

theorem co_evens (p : List Int) (i : Nat) : co (evens p) i = co p (2 * i) := by
  unfold evens
  rw [co_trim, co_rangeP]
  by_cases h : i < (p.length + 1) / 2
  · rw [if_pos h]
  · rw [if_neg h, co_out (by omega)]
theorem co_odds (p : List Int) (i : Nat) : co (odds p) i = co p (2 * i + 1) := by
  unfold odds
  rw [co_trim, co_rangeP]
  by_cases h : i < p.length / 2
  · rw [if_pos h]
  · rw [if_neg h, co_out (by omega)]
theorem sg_par : ∀ n, sg n = if n % 2 = 0 then 1 else -1
  | 0 => rfl
  | n + 1 => by
    show -sg n = _
    rw [sg_par n]
    by_cases h : n % 2 = 0
    · rw [if_pos h, if_neg (by omega)]
    · rw [if_neg h, if_pos (by omega)]; rfl
theorem co_flp (p : List Int) (i : Nat) : co (flp p) i = co (ngL p) i := by
  unfold flp
  rw [co_rangeP, co_ngL, sg_par]
  by_cases h : i < p.length
  · rw [if_pos h]
    split <;> omega
  · rw [if_neg h, co_out (p := p) (by omega), Int.mul_zero]
theorem ev_flp (p : List Int) (x : Int) : ev (flp p) x = ev p (-x) := by rw [ev_of_co (co_flp p), ev_ngL]
theorem co_fullE (p : List Int) (i : Nat) : co (full true (evens p)) i = if i % 2 = 0 then co p i else 0 := by
  obtain ⟨j, hj | hj⟩ : ∃ j, i = 2 * j ∨ i = 2 * j + 1 := ⟨i / 2, by omega⟩
  · rw [if_pos (by omega), hj]
    show co (dbl _) _ = _
    rw [(co_dbl _ j).1, co_evens]
  · rw [if_neg (by omega), hj]
    exact (co_dbl _ j).2
theorem co_fullO (p : List Int) (i : Nat) : co (full false (odds p)) i = if i % 2 = 0 then 0 else co p i := by
  cases i with
  | zero => exact co_zero _ _
  | succ i =>
    show co (0 :: dbl _) (i + 1) = _
    rw [co_succ]
    obtain ⟨j, hj | hj⟩ : ∃ j, i = 2 * j ∨ i = 2 * j + 1 := ⟨i / 2, by omega⟩
    · rw [if_neg (by omega), hj, (co_dbl _ j).1, co_odds]
    · rw [if_pos (by omega), hj]
      exact (co_dbl _ j).2
def pt0 (n : Nat) (p : List Int) : List Int := if n % 2 = 0 then full true (evens p) else full false (odds p)
def pt1 (n : Nat) (p : List Int) : List Int := if n % 2 = 0 then full false (odds p) else full true (evens p)
theorem co_pt0 (n : Nat) (p : List Int) (i : Nat) : co (pt0 n p) i = if i % 2 = n % 2 then co p i else 0 := by
  unfold pt0
  by_cases h : n % 2 = 0
  · rw [if_pos h, co_fullE, h]
  · rw [if_neg h, co_fullO]
    by_cases h2 : i % 2 = 0
    · rw [if_pos h2, if_neg (by omega)]
    · rw [if_neg h2, if_pos (by omega)]
theorem co_pt1 (n : Nat) (p : List Int) (i : Nat) : co (pt1 n p) i = if i % 2 = n % 2 then 0 else co p i := by
  unfold pt1
  by_cases h : n % 2 = 0
  · rw [if_pos h, co_fullO, h]
  · rw [if_neg h, co_fullE]
    by_cases h2 : i % 2 = 0
    · rw [if_pos h2, if_neg (by omega)]
    · rw [if_neg h2, if_pos (by omega)]
theorem ev_pts (n : Nat) (p : List Int) (x : Int) : ev p x = ev (pt0 n p) x + ev (pt1 n p) x := by
  rw [← ev_addL]
  refine ev_of_co (fun i => ?_) x
  rw [co_addL, co_pt0, co_pt1]
  split <;> omega
theorem par_pt0 (n : Nat) (p : List Int) : Par (pt0 n p) (sg n) := by
  unfold pt0
  rw [sg_par]
  by_cases h : n % 2 = 0
  · rw [if_pos h, if_pos h]; exact par_full true _
  · rw [if_neg h, if_neg h]; exact par_full false _
theorem par_pt1 (n : Nat) (p : List Int) : Par (pt1 n p) (-sg n) := by
  unfold pt1
  rw [sg_par]
  by_cases h : n % 2 = 0
  · rw [if_pos h, if_pos h]; exact par_full false _
  · rw [if_neg h, if_neg h]; exact par_full true _

/-! ### the test -/
def hur (p : List Int) : Bool := ((List.range p.length).all fun i => decide (0 < co p i * lead p)) &&
  (if p.length % 2 = 1 then rou (2 * p.length + 2) (evens p) (odds p) true else rou (2 * p.length + 2) (odds p) (evens p) false)
theorem len_of {p : List Int} {n : Nat} (hp : Tr p) (hz : Z p (n + 1)) (h0 : co p n ≠ 0) : p.length = n + 1 :=
  Nat.le_antisymm (tr_len hp hz) (Nat.lt_of_not_le fun h => h0 (co_out h))
theorem hur_chain {p : List Int} {n : Nat} (tp : Tr p) (hl : p.length = n + 1) (h : hur p = true) : Chn n (pt0 n p) (pt1 n p) := by
  unfold hur at h
  rw [Bool.and_eq_true] at h
  obtain ⟨h1, h2⟩ := h
  have hp : p ≠ [] := fun z => by rw [z] at hl; simp at hl
  have hlead : lead p = co p n := by unfold lead; rw [hl]; rfl
  have hA : co p n ≠ 0 := by rw [← hlead]; exact tp.lead hp
  have h00 : co p 0 ≠ 0 := fun z => by
    have := of_decide_eq_true (List.all_eq_true.mp h1 0 (List.mem_range.mpr (by omega)))
    rw [z, Int.zero_mul] at this
    exact absurd this (by decide)
  have zp : Z p (n + 1) := by rw [← hl]; exact z_len p
  unfold pt0 pt1
  by_cases hn : n % 2 = 0
  · rw [if_pos (show p.length % 2 = 1 by omega)] at h2
    rw [if_pos hn, if_pos hn]
    have hc : co (evens p) (n / 2) ≠ 0 := by rw [co_evens, show 2 * (n / 2) = n by omega]; exact hA
    have hle : (evens p).length = n / 2 + 1 := len_of (tr_trim _) (fun i hi => by rw [co_evens]; exact zp _ (by omega)) hc
    refine rou_chain _ _ _ true n h2 (tr_trim _) (tr_trim _) (fun z => by rw [z] at hle; simp at hle) ?_ ?_
    · show co (evens p) 0 ≠ 0
      rw [co_evens]; exact h00
    · rw [hle]
      show n = 2 * (n / 2 + 1 - 1) + 0
      omega
  · rw [if_neg (show ¬ p.length % 2 = 1 by omega)] at h2
    rw [if_neg hn, if_neg hn]
    have hc : co (odds p) (n / 2) ≠ 0 := by rw [co_odds, show 2 * (n / 2) + 1 = n by omega]; exact hA
    have hle : (odds p).length = n / 2 + 1 := len_of (tr_trim _) (fun i hi => by rw [co_odds]; exact zp _ (by omega)) hc
    refine rou_chain _ _ _ false n h2 (tr_trim _) (tr_trim _) (fun z => by rw [z] at hle; simp at hle) ?_ ?_
    · show co (evens p) 0 ≠ 0
      rw [co_evens]; exact h00
    · rw [hle]
      show n = 2 * (n / 2 + 1 - 1) + 1
      omega

/-! ### the echo -/
theorem echo_deg {L E : List Int} {n : Nat} {c : Int} (tE : Tr E) (zL : Z L (n + 2)) (hA : co L (n + 1) ≠ 0) (gap : ∀ x, ev L x * ev L (-x) - ev E x * ev E (-x) = c) : Z E (n + 2) ∧ (co E (n + 1) = co L (n + 1) ∨ co E (n + 1) = -co L (n + 1)) := by
  have hc : ∀ i, co (mulL L (ngL L)) i = co (mulL E (ngL E)) i + co [c] i := fun i => by
    rw [← co_addL]
    exact co_of_ev (fun x => by rw [ev_addL, ev_mulL, ev_mulL, ev_ngL, ev_ngL, ev_single, ← gap x]; omega) i
  have tL := mul_top zL (z_ngL zL)
  rw [co_ngL] at tL
  have sgn : ∀ k, sg k ≠ 0 := fun k => by have := sg_or k; omega
  have hE : E ≠ [] := fun z => by
    have := hc (n + 1 + (n + 1))
    rw [tL, z] at this
    have e1 : co (mulL [] (ngL [])) (n + 1 + (n + 1)) = 0 := co_nil _
    rw [e1, co_out (p := [c]) (by simp; omega)] at this
    exact Int.mul_ne_zero hA (Int.mul_ne_zero (sgn (n + 1)) hA) (by omega)
  have hEl : 0 < E.length := List.length_pos_iff.mpr hE
  have zE : Z E (E.length - 1 + 1) := by rw [show E.length - 1 + 1 = E.length by omega]; exact z_len E
  have tEt := mul_top zE (z_ngL zE)
  rw [co_ngL] at tEt
  have hlE : co E (E.length - 1) ≠ 0 := tE.lead hE
  generalize E.length - 1 = e at zE tEt hlE
  have h1 : ¬ e < n + 1 := fun hlt => by
    have := hc (n + 1 + (n + 1))
    rw [tL, z_mul zE (z_ngL zE) _ (by omega), co_out (p := [c]) (by simp; omega)] at this
    exact Int.mul_ne_zero hA (Int.mul_ne_zero (sgn (n + 1)) hA) (by omega)
  have h2 : ¬ n + 1 < e := fun hlt => by
    have := hc (e + e)
    rw [tEt, z_mul zL (z_ngL zL) _ (by omega), co_out (p := [c]) (by simp; omega)] at this
    exact Int.mul_ne_zero hlE (Int.mul_ne_zero (sgn e) hlE) (by omega)
  have he : e = n + 1 := by omega
  subst he
  refine ⟨zE, ?_⟩
  have := hc (n + 1 + (n + 1))
  rw [tL, tEt, co_out (p := [c]) (by simp; omega)] at this
  have h3 : sg (n + 1) * ((co E (n + 1) - co L (n + 1)) * (co E (n + 1) + co L (n + 1))) = 0 := by grind
  rcases Int.mul_eq_zero.mp ((Int.mul_eq_zero.mp h3).resolve_left (sgn _)) with h | h <;> omega
theorem main_good1 {L E : List Int} {n : Nat} {c : Int} (tL : Tr L) (hl : L.length = n + 2) (hh : hur L = true) (hc : 0 < c) (zE : Z E (n + 2)) (he : co E (n + 1) = co L (n + 1)) (gap : ∀ x, ev L x * ev L (-x) - ev E x * ev E (-x) = c) :
    Good (n + 1) (addL L E) (dif L E) := by
  have ch := hur_chain tL (n := n + 1) hl hh
  have g := synth (e0 := pt0 (n + 1) E) (e1 := pt1 (n + 1) E) hc ch (par_pt0 _ _) (par_pt1 _ _) (par_pt0 _ _) (par_pt1 _ _)
    (fun i hi => by rw [co_pt0, zE i hi]; split <;> rfl) (fun i hi => by
      rw [co_pt1]
      by_cases e : i = n + 1
      · rw [if_pos (by rw [e])]
      · rw [zE i (by omega)]; split <;> rfl) (by rw [co_pt0, co_pt0, if_pos rfl, if_pos rfl, he]) (fun x => by
      have := gap x
      have p1 := par_pt0 (n + 1) L x
      have p2 := par_pt1 (n + 1) L x
      have p3 := par_pt0 (n + 1) E x
      have p4 := par_pt1 (n + 1) E x
      have s := sg_sq (n + 1)
      rw [ev_pts (n + 1) L x, ev_pts (n + 1) L (-x), ev_pts (n + 1) E x, ev_pts (n + 1) E (-x), p1, p2, p3, p4] at this
      generalize ev (pt0 (n + 1) L) x = a at this
      generalize ev (pt1 (n + 1) L) x = b at this
      generalize ev (pt0 (n + 1) E) x = u at this
      generalize ev (pt1 (n + 1) E) x = v at this
      rw [← this]
      have k : sg (n + 1) * ((a + b) * (sg (n + 1) * a + -sg (n + 1) * b) - (u + v) * (sg (n + 1) * u + -sg (n + 1) * v)) = (sg (n + 1) * sg (n + 1)) * ((a + b) * (a - b) - (u + v) * (u - v)) := by grind
      rw [k, s]; grind)
  refine g.ext (fun x => ?_) fun x => ?_
  · rw [ev_addL, ev_addL, ev_addL, ev_addL, ev_pts (n + 1) L x, ev_pts (n + 1) E x]; omega
  · rw [ev_addL, ev_dif, ev_dif, ev_dif, ev_pts (n + 1) L x, ev_pts (n + 1) E x]; omega
theorem main_good {L E : List Int} {n : Nat} {c : Int} (tL : Tr L) (tE : Tr E) (hl : L.length = n + 2) (hh : hur L = true) (hc : 0 < c) (gap : ∀ x, ev L x * ev L (-x) - ev E x * ev E (-x) = c) :
    Good (n + 1) (addL L E) (dif L E) ∨ Good (n + 1) (dif L E) (addL L E) := by
  have hL : L ≠ [] := fun z => by rw [z] at hl; simp at hl
  have zL : Z L (n + 2) := by rw [← hl]; exact z_len L
  have hA : co L (n + 1) ≠ 0 := by
    have : lead L = co L (n + 1) := by unfold lead; rw [hl]; rfl
    rw [← this]; exact tL.lead hL
  obtain ⟨zE, he | he⟩ := echo_deg tE zL hA gap
  · exact .inl (main_good1 tL hl hh hc zE he gap)
  · refine .inr ?_
    have g := main_good1 (E := smul (-1) E) tL hl hh hc (z_smul _ zE) (by rw [co_smul, he]; omega) fun x => by rw [ev_smul, ev_smul, ← gap x]; grind
    exact g.ext (fun x => by rw [ev_addL, ev_smul, ev_dif]; omega) fun x => by rw [ev_dif, ev_smul, ev_addL]; omega
theorem cop_gap {L E : List Int} {c : Int} (hc : 0 < c) (gap : ∀ x, ev L x * ev L (-x) - ev E x * ev E (-x) = c) : Cop (addL L E) (dif L E) :=
  ⟨2 * c, by omega, ngL (dif L E), ngL (addL L E), fun x => by
    rw [ev_ngL, ev_ngL, ev_addL, ev_addL, ev_dif, ev_dif, ← gap x]; grind⟩

/-! ### numbers in front -/
theorem Good.gen : ∀ {n : Nat} {A B A' B' : List Int} {p u q v : Int}, Good n A B → p ≠ 0 → q ≠ 0 → 0 < p * u * (q * v) → (∀ x, p * ev A' x = u * ev A x) → (∀ x, q * ev B' x = v * ev B x) → Good n A' B'
  | n, A, B, A', B', p, u, q, v, g, hp, hq, hs, eA, eB => by
    have cA : ∀ i, p * co A' i = u * co A i := fun i => by
      rw [← co_smul, ← co_smul]
      exact co_of_ev (fun x => by rw [ev_smul, ev_smul]; exact eA x) i
    have cB : ∀ i, q * co B' i = v * co B i := fun i => by
      rw [← co_smul, ← co_smul]
      exact co_of_ev (fun x => by rw [ev_smul, ev_smul]; exact eB x) i
    have zz : ∀ {k}, Z A k → Z A' k := fun h i hi => by
      have := cA i
      rw [h i hi, Int.mul_zero] at this
      exact (Int.mul_eq_zero.mp this).resolve_left hp
    have zw : ∀ {k}, Z B k → Z B' k := fun h i hi => by
      have := cB i
      rw [h i hi, Int.mul_zero] at this
      exact (Int.mul_eq_zero.mp this).resolve_left hq
    have pos : ∀ i j, 0 < co A i * co B j → 0 < co A' i * co B' j := fun i j h => by
      refine pos_of (K := (p * p) * (q * q)) (Int.mul_pos (sq_pos hp) (sq_pos hq)) ?_
      have : p * p * (q * q) * (co A' i * co B' j) = p * u * (q * v) * (co A i * co B j) := by
        have : p * p * (q * q) * (co A' i * co B' j) = (p * q) * ((p * co A' i) * (q * co B' j)) := by grind
        rw [this, cA, cB]; grind
      rw [this]
      exact Int.mul_pos hs h
    cases n with
    | zero =>
      obtain ⟨h1, h2, h3⟩ := g
      exact ⟨zz h1, zw h2, pos 0 0 h3⟩
    | succ n =>
      obtain ⟨h1, h2, h3, α, β, γ, R, ha, hb, hg, e, h4⟩ := g
      have hv : v ≠ 0 := fun z => by rw [z, Int.mul_zero, Int.mul_zero] at hs; exact absurd hs (by decide)
      refine ⟨zz h1, zw h2, pos _ _ h3, α * (p * u * (q * v)), β * (p * p * (v * v)), γ, smul (u * p * (v * v)) R, Int.mul_pos ha hs, Int.mul_pos hb (Int.mul_pos (sq_pos hp) (sq_pos hv)), hg, fun x => ?_, ?_⟩
      · rw [ev_smul]
        have a1 := e x
        have a2 := eA x
        have a3 := eB x
        have k1 : β * (p * p * (v * v)) * ev A' x = β * (p * (v * v)) * (p * ev A' x) := by grind
        have k2 : α * (p * u * (q * v)) * (x * ev B' x) = α * (p * u * v) * (x * (q * ev B' x)) := by grind
        rw [k1, k2, a2, a3]
        grind
      · exact Good.gen (p := q) (u := v) (q := 1) (v := u * p * (v * v)) h4 hq (by decide) (by
          have : q * v * (1 * (u * p * (v * v))) = p * u * (q * v) * (v * v) := by grind
          rw [this]
          exact Int.mul_pos hs (sq_pos hv)) eB fun x => by rw [ev_smul]; omega
end Pm
end

section
set_option Elab.async false
set_option linter.all false
/-! The steps of the synthesis: poles taken off, a resistor at the end. Plain Lean. -/
namespace Pm

def OkV (n d : Int) : Prop := 0 < n ∧ 0 < d ∧ Int.gcd n d = 1
def AltL : Bool → List (Bool × Int × Int) → Bool → Prop
  | s, [], rp => rp = s
  | s, r :: rs, rp => r.1 = s ∧ AltL (!s) rs rp
def Crs (s : Bool) (A B : List Int) (core : List (Bool × Int × Int)) (nr dr : Int) : Prop :=
  if s then ∀ x, ev A x * ev (impP core nr dr).2 x = ev B x * ev (impP core nr dr).1 x else ∀ x, ev B x * ev (impP core nr dr).2 x = ev A x * ev (impP core nr dr).1 x
structure Tl (s : Bool) (n : Nat) (A B : List Int) (core : List (Bool × Int × Int)) (rp : Bool) (nr dr : Int) : Prop where
  len : core.length = n
  alt : AltL s core rp
  ok : ∀ r ∈ core, OkV r.2.1 r.2.2
  okr : OkV nr dr
  crs : Crs s A B core nr dr
/-- one pole taken off -/
structure Off (A B R' B' : List Int) (vn vd : Int) (n : Nat) : Prop where
  vn0 : 0 < vn
  vd0 : 0 < vd
  quo : vn * co B n = vd * co A (n + 1)
  fac : ∃ κ : Int, κ ≠ 0 ∧ (∀ x, κ * ev R' x = vd * ev A x - vn * (x * ev B x)) ∧ ∀ x, κ * ev B' x = vd * ev B x
theorem Off.good {A B R' B' : List Int} {vn vd : Int} {n : Nat} (h : Off A B R' B' vn vd n) (g : Good (n + 1) A B) : Good n B' R' := by
  obtain ⟨h1, h2, h3, α, β, γ, R, ha, hb, hg, e, h4⟩ := g
  obtain ⟨κ, hκ, k1, k2⟩ := h.fac
  have hB : co B n ≠ 0 := fun z => by rw [z, Int.mul_zero] at h3; exact absurd h3 (by decide)
  have zR : co R (n + 1) = 0 := by
    cases n with
    | zero => exact h4.2.1 1 (by omega)
    | succ n => exact h4.2.1 _ (by omega)
  have hc : β * co A (n + 1) = α * co B n := by
    have : co (smul β A) (n + 1) = co (addL (smul α (0 :: B)) (smul γ R)) (n + 1) := co_of_ev (fun x => by
      rw [ev_smul, ev_addL, ev_smul, ev_smul, ev_cons, e x, Int.zero_add]) _
    rw [co_smul, co_addL, co_smul, co_smul, co_succ, zR] at this
    omega
  have hv : β * vn = α * vd := by
    refine Int.eq_of_mul_eq_mul_right hB ?_
    have q := h.quo
    have u1 : β * vn * co B n = β * (vn * co B n) := by grind
    have u2 : α * vd * co B n = vd * (α * co B n) := by grind
    rw [u1, u2, q, ← hc]; grind
  refine h4.gen (p := κ) (u := vd) (q := β * κ) (v := vd * γ) hκ (Int.mul_ne_zero (by omega) hκ) ?_ k2 fun x => ?_
  · have : κ * vd * (β * κ * (vd * γ)) = (κ * κ) * ((vd * vd) * (β * γ)) := by grind
    rw [this]
    exact Int.mul_pos (sq_pos hκ) (Int.mul_pos (Int.mul_pos h.vd0 h.vd0) (Int.mul_pos hb hg))
  · have a1 := k1 x
    have a2 := e x
    have u1 : β * κ * ev R' x = β * (κ * ev R' x) := by grind
    rw [u1, a1]
    have u2 : β * (vd * ev A x - vn * (x * ev B x)) = vd * (β * ev A x) - (β * vn) * (x * ev B x) := by grind
    rw [u2, a2, hv]; grind
theorem Off.tl {A B R' B' : List Int} {vn vd : Int} {n : Nat} {s rp : Bool} {core : List (Bool × Int × Int)} {nr dr : Int} (h : Off A B R' B' vn vd n) (hg : Int.gcd vn vd = 1) (t : Tl (!s) n B' R' core rp nr dr) : Tl s (n + 1) A B ((s, vn, vd) :: core) rp nr dr := by
  refine ⟨by rw [List.length_cons, t.len], ⟨rfl, t.alt⟩, fun r hr => ?_, t.okr, ?_⟩
  · rcases List.mem_cons.mp hr with rfl | hr
    · exact ⟨h.vn0, h.vd0, hg⟩
    · exact t.ok r hr
  · obtain ⟨κ, hκ, k1, k2⟩ := h.fac
    have c := t.crs
    cases s
    · have c' : ∀ x, ev B' x * ev (impP core nr dr).2 x = ev R' x * ev (impP core nr dr).1 x := c
      show ∀ x, ev B x * ev (stT vn vd (impP core nr dr).2 (impP core nr dr).1) x = ev A x * ev (smul vd (impP core nr dr).1) x
      intro x
      rw [ev_stT, ev_smul]
      have a1 := k1 x
      have a2 := k2 x
      have a3 := c' x
      have a4 : (κ * ev B' x) * ev (impP core nr dr).2 x = (κ * ev R' x) * ev (impP core nr dr).1 x := by rw [Int.mul_assoc, a3, Int.mul_assoc]
      rw [a1, a2] at a4
      grind
    · have c' : ∀ x, ev R' x * ev (impP core nr dr).2 x = ev B' x * ev (impP core nr dr).1 x := c
      show ∀ x, ev A x * ev (smul vd (impP core nr dr).2) x = ev B x * ev (stT vn vd (impP core nr dr).1 (impP core nr dr).2) x
      intro x
      rw [ev_stT, ev_smul]
      have a1 := k1 x
      have a2 := k2 x
      have a3 := c' x
      have a4 : (κ * ev R' x) * ev (impP core nr dr).2 x = (κ * ev B' x) * ev (impP core nr dr).1 x := by rw [Int.mul_assoc, a3, Int.mul_assoc]
      rw [a1, a2] at a4
      grind
/-- the resistor -/
theorem tl_zero {R' B' : List Int} {s : Bool} (g : Good 0 B' R') (hp : 0 < co B' 0) (hg : Int.gcd (co R' 0) (co B' 0) = 1) :
    Tl (!s) 0 B' R' [] (!s) (if s then co R' 0 else co B' 0) (if s then co B' 0 else co R' 0) := by
  obtain ⟨h1, h2, h3⟩ := g
  have hr : 0 < co R' 0 := pos_of hp h3
  refine ⟨rfl, rfl, fun r hr => absurd hr List.not_mem_nil, ?_, ?_⟩
  · cases s
    · exact ⟨hp, hr, by rw [Int.gcd_comm]; exact hg⟩
    · exact ⟨hr, hp, hg⟩
  · cases s
    · show ∀ x, ev B' x * ev [co R' 0] x = ev R' x * ev [co B' 0] x
      intro x
      rw [ev_single, ev_single, z1_ev h1 x, z1_ev h2 x, Int.mul_comm]
    · show ∀ x, ev R' x * ev [co B' 0] x = ev B' x * ev [co R' 0] x
      intro x
      rw [ev_single, ev_single, z1_ev h1 x, z1_ev h2 x, Int.mul_comm]
theorem Good.lens {n : Nat} {A B : List Int} (g : Good (n + 1) A B) (tA : Tr A) (tB : Tr B) : A.length = n + 2 ∧ B.length = n + 1 := by
  obtain ⟨h1, h2, h3, _⟩ := g
  refine ⟨len_of tA h1 fun z => ?_, len_of tB h2 fun z => ?_⟩
  · rw [z, Int.zero_mul] at h3; exact absurd h3 (by decide)
  · rw [z, Int.mul_zero] at h3; exact absurd h3 (by decide)
theorem Good.lens0 {A B : List Int} (g : Good 0 A B) (tA : Tr A) (tB : Tr B) : A.length = 1 ∧ B.length = 1 := by
  obtain ⟨h1, h2, h3⟩ := g
  refine ⟨len_of tA h1 fun z => ?_, len_of tB h2 fun z => ?_⟩
  · rw [z, Int.zero_mul] at h3; exact absurd h3 (by decide)
  · rw [z, Int.mul_zero] at h3; exact absurd h3 (by decide)
/-- the numbers of the step -/
def offT (A B : List Int) (vn vd : Int) : List Int := addL (smul vd A) (smul (-vn) (0 :: B))
theorem ev_offT (A B : List Int) (vn vd x : Int) : ev (offT A B vn vd) x = vd * ev A x - vn * (x * ev B x) := by
  unfold offT
  rw [ev_addL, ev_smul, ev_smul, ev_cons]; grind
theorem cop_off {A B : List Int} {vn vd : Int} (h : Cop A B) (hd : 0 < vd) : Cop (offT A B vn vd) (smul vd B) := by
  have c1 : Cop (offT A B vn vd) B := cop_lin (q := smul (-vn) [0, 1]) h (show vd ≠ 0 by omega) fun x => by
    rw [ev_offT, ev_smul, ev_cons, ev_single]; grind
  exact cop_swap (cop_sc (cop_swap c1) (show vd ≠ 0 by omega) fun x => ev_smul vd B x)
theorem nrm_off {A B : List Int} {vn vd : Int} {m : Nat} (h1 : nrm A ≤ 2 ^ m) (h2 : nrm B ≤ 2 ^ m) (h3 : vn.natAbs ≤ 2 ^ m) (h4 : vd.natAbs ≤ 2 ^ m) : nrm (offT A B vn vd) ≤ 2 ^ (2 * m + 1) ∧ nrm (smul vd B) ≤ 2 ^ (2 * m + 1) := by
  have e : 2 ^ (2 * m + 1) = 2 ^ m * 2 ^ m + 2 ^ m * 2 ^ m := by rw [Nat.pow_succ, show 2 * m = m + m by omega, Nat.pow_add]; omega
  have k1 : nrm (smul vd A) ≤ 2 ^ m * 2 ^ m := by rw [nrm_smul]; exact Nat.mul_le_mul h4 h1
  have k2 : nrm (smul vd B) ≤ 2 ^ m * 2 ^ m := by rw [nrm_smul]; exact Nat.mul_le_mul h4 h2
  have k3 : nrm (smul (-vn) (0 :: B)) ≤ 2 ^ m * 2 ^ m := by rw [nrm_smul, Int.natAbs_neg, nrm_cons]; simpa using Nat.mul_le_mul h3 h2
  rw [e]
  refine ⟨Nat.le_trans (nrm_addL _ _) ?_, ?_⟩ <;> omega
/-- the ratio of the last coefficients -/
theorem ratio_math {a b : Int} (hab : 0 < a * b) : ∃ g : Int, g ≠ 0 ∧ g = (if b < 0 then -(Int.gcd a b : Int) else (Int.gcd a b : Int)) ∧ 0 < a.fdiv g ∧ 0 < b.fdiv g ∧ Int.gcd (a.fdiv g) (b.fdiv g) = 1 ∧ a.fdiv g * b = b.fdiv g * a ∧ (a.fdiv g).natAbs ≤ a.natAbs ∧ (b.fdiv g).natAbs ≤ b.natAbs := by
  have hb : b ≠ 0 := fun z => by rw [z, Int.mul_zero] at hab; exact absurd hab (by decide)
  have ha : a ≠ 0 := fun z => by rw [z, Int.zero_mul] at hab; exact absurd hab (by decide)
  have hg : 0 < Int.gcd a b := Int.gcd_pos_of_ne_zero_left _ ha
  refine ⟨_, ?_, rfl, ?_⟩
  · split <;> omega
  generalize hgg : (if b < 0 then -(Int.gcd a b : Int) else (Int.gcd a b : Int)) = g
  have g0 : g ≠ 0 := by rw [← hgg]; split <;> omega
  have gabs : g.natAbs = Int.gcd a b := by rw [← hgg]; split <;> simp
  have da : g ∣ a := by rw [← Int.natAbs_dvd, gabs]; exact Int.gcd_dvd_left _ _
  have db : g ∣ b := by rw [← Int.natAbs_dvd, gabs]; exact Int.gcd_dvd_right _ _
  obtain ⟨p, hp⟩ := da
  obtain ⟨q, hq⟩ := db
  have ep : a.fdiv g = p := by rw [hp]; exact Int.mul_fdiv_cancel_left _ g0
  have eq : b.fdiv g = q := by rw [hq]; exact Int.mul_fdiv_cancel_left _ g0
  rw [ep, eq]
  have hq0 : 0 < q := by
    by_cases hn : b < 0
    · have : g < 0 := by rw [← hgg, if_pos hn]; omega
      refine Int.lt_of_not_ge fun z => ?_
      have := Int.mul_nonneg_of_nonpos_of_nonpos (Int.le_of_lt this) z
      omega
    · have : 0 < g := by rw [← hgg, if_neg hn]; omega
      refine Int.lt_of_not_ge fun z => ?_
      have := Int.mul_nonpos_of_nonneg_of_nonpos (Int.le_of_lt this) z
      omega
  have hp0 : 0 < p := by
    refine pos_of (K := (g * g) * q) (Int.mul_pos (sq_pos g0) hq0) ?_
    have : g * g * q * p = a * b := by rw [hp, hq]; grind
    rw [this]; exact hab
  refine ⟨hp0, hq0, ?_, by rw [hp, hq]; grind, ?_, ?_⟩
  · have e1 : Int.gcd a b = g.natAbs * Int.gcd p q := by
      rw [hp, hq, Int.gcd_mul_left]
    rw [gabs] at e1
    exact (Nat.eq_of_mul_eq_mul_left hg (by rw [Nat.mul_one]; exact e1)).symm
  · rw [hp, Int.natAbs_mul]
    exact Nat.le_mul_of_pos_left _ (by omega)
  · rw [hq, Int.natAbs_mul]
    exact Nat.le_mul_of_pos_left _ (by omega)
end Pm
end

section
set_option Elab.async false
set_option linter.all false
set_option maxRecDepth 100000
set_option maxHeartbeats 4000000
namespace Kf
open PySem PySem.Spec PyProof.Rows L2 Lx Evl Pm RZ StX

theorem cmul_of {a b : Int} {m n : Nat} (ha : a.natAbs ≤ 2 ^ m) (hb : b.natAbs ≤ 2 ^ n) (h : m + n < 134217000) : CMulA a b := by
  have key : ∀ {x k : Nat}, x ≤ 2 ^ k → x.log2 ≤ k := fun {x k} hx => by
    by_cases z : x = 0
    · rw [z]; exact Nat.zero_le _
    · refine Nat.le_of_lt_succ ((Nat.log2_lt z).mpr ?_)
      have := Nat.pow_pos (n := k) (show 0 < 2 by decide)
      rw [Nat.pow_succ]
      omega
  have h1 := key ha
  have h2 := key hb
  unfold CMulA
  omega
theorem cmul_co {p q : List Int} {m n : Nat} (hp : nrm p ≤ 2 ^ m) (hq : nrm q ≤ 2 ^ n) (h : m + n < 134217000) (i j : Nat) : CMulA (co p i) (co q j) :=
  cmul_of (Nat.le_trans (co_le_nrm p i) hp) (Nat.le_trans (co_le_nrm q j) hq) h
theorem cmul_neg {q : List Int} {n : Nat} (hq : nrm q ≤ 2 ^ n) (h : n < 134217000) (i : Nat) : CMulA (-1) (co q i) :=
  cmul_of (m := 0) (by decide) (Nat.le_trans (co_le_nrm q i) hq) (by omega)
section
variable {w : World} {K : PySem.W.Frag} {mg : Str → Option Value} {base : Heap}

/-! ### content -/
abbrev sContent : Stmt := topS 23
theorem scContent : FnScope ["one", "found", "a"] ["one"] (defScope sContent) := ⟨rfl, rfl, rfl, by decide +kernel, rfl, by decide +kernel, by decide +kernel⟩
def spContent (K : PySem.W.Frag) : Sp := fun vs H Q _ => ∃ (x : V) (p : List Int), vs = [x] ∧ PolyV K H x p ∧ Q (.int (contN p : Nat)) H
theorem gcdF_take {p : List Int} {i : Nat} (h : i < p.length) : gcdF 0 (p.take (i + 1)) = Nat.gcd (gcdF 0 (p.take i)) (co p i).natAbs := by
  rw [List.take_add_one, get_co h]
  show List.foldl _ _ (p.take i ++ [co p i]) = _
  rw [List.foldl_append]
  rfl
theorem ok_content (D : DefAt K mg "content" sContent ["one"]) (G : Gl0 mg base) : Cal w K mg base 41 "content" ["one"] (spContent K) := by
  refine Cal.mk D scContent (fun vs H Q E h => ?_) (fun f cdv A outer s H vs Q E hr h => ?_)
  · obtain ⟨x, p, rfl, _⟩ := h
    rfl
  · obtain ⟨x, p, rfl, ⟨a, rfl, hA⟩, k⟩ := h
    refine ⟨_, pss_cons (ps_set (i := 1) scContent.nd rfl (.inl rfl) pe_int)
      (pss_cons (ps_for PassesOwn.never rfl (pi_tup (pv 0)) (pg_name (i := 2) scContent.nd rfl (.inl rfl)) (pss_one (ps_set (i := 1) scContent.nd rfl (.inl rfl) (pe_gcd G.gcd (pv 1) (pv 2)))))
      (pss_one (ps_ret (pv 1)))), ?_⟩
    refine ⟨_, rfl, a, rfl, ⟨_, hA⟩, ?_⟩
    refine for_gen p.length (fun i σ H' => H' = H ∧ ∃ y, σ = [some (.ref a), some (.int (gcdF 0 (p.take i) : Nat)), y]) ⟨rfl, none, rfl⟩ (fun i σ H' hi h => ?_) (fun σ H' h => ?_) (fun i σ H' x H2 hi h y => ?_) (fun σ H' h => ?_)
    · obtain ⟨rfl, _⟩ := h
      exact ⟨_, _, hA, ints_at hi⟩
    · obtain ⟨rfl, _⟩ := h
      exact ⟨_, hA, by rw [List.length_map]; exact Nat.le_refl _⟩
    · obtain ⟨rfl, z, rfl⟩ := h
      obtain ⟨rfl, fx⟩ := y
      have ex := Option.some.inj ((fx _ hA).symm.trans (ints_at hi))
      subst ex
      refine ⟨_, rfl, _, rfl, _, _, rfl, rfl, some (.int (co p i)), ?_⟩
      rw [gcdF_take hi]
      rfl
    · obtain ⟨rfl, z, rfl⟩ := h
      refine ⟨_, rfl, ?_⟩
      rw [List.take_length]
      exact k

/-! ### primitive -/
abbrev sPrimitive : Stmt := topS 24
theorem scPrimitive : FnScope ["one", "shared", "a"] ["one"] (defScope sPrimitive) := ⟨rfl, rfl, rfl, by decide +kernel, rfl, by decide +kernel, by decide +kernel⟩
def spPrimitive (K : PySem.W.Frag) : Sp := fun vs H Q _ => ∃ (x : V) (p : List Int), vs = [x] ∧ PolyV K H x p ∧ p.length ≤ 1000 ∧ Tr p ∧ ∀ v H', Ex H H' → PolyV K H' v (prim p) → Q v H'
theorem divL_range (p : List Int) (d : Int) : ((List.range p.length).map fun i => (co p i).fdiv d) = divL p d := by
  have : (List.range p.length).map (fun i => (co p i).fdiv d) = ((List.range p.length).map fun i => co p i).map fun a => a.fdiv d := by rw [List.map_map]; rfl
  rw [this, map_range_co]
  rfl
theorem ok_primitive (D : DefAt K mg "primitive" sPrimitive ["one"]) (G : Gl0 mg base) (C : Cal w K mg base 41 "content" ["one"] (spContent K)) : Cal w K mg base 42 "primitive" ["one"] (spPrimitive K) := by
  refine Cal.mk D scPrimitive (fun vs H Q E h => ?_) (fun f cdv A outer s H vs Q E hr h => ?_)
  · obtain ⟨x, p, rfl, _⟩ := h
    rfl
  · obtain ⟨x, p, rfl, ⟨a, rfl, hA⟩, l1, ht, k⟩ := h
    have S := sees_of (w := w) (K := K) (mg := mg) (base := base) (N := ["one", "shared", "a"]) (outer := outer) (H := H) (E := E) G.seer hr (by decide) rfl rfl
    refine ⟨_, pss_cons (ps_if (pt_cmpR (op_eqP hr.units) (pv 0) (pe_tup pa_nil) (nomark _)) (pss_one (ps_ret (pe_tup pa_nil))) pss_nil)
      (pss_cons (ps_set (i := 1) scPrimitive.nd rfl (.inr rfl) (pe_callC rfl C hr (by decide) (pa_cons (pv 0) pa_nil)))
      (pss_cons (ps_if (pt_cmpR op_lt (pe_at (pv 0) (pe_un un_neg pe_int)) pe_int (nomark _)) (pss_one (ps_set (i := 1) scPrimitive.nd rfl (.inr rfl) (pe_un un_neg (pv 1)))) pss_nil)
      (pss_one (ps_ret (pe_tuple G.tuple (pe_lc (own := [("a", 2)]) (g := gName 2) (tt := tYes) rfl scPrimitive.nd (pi_tup (pv 0)) (blkOk_by (N := ["one", "shared", "a"]) (sc := defScope sPrimitive) (by decide +kernel))
          (fun _ _ _ _ _ => pg_name (i := 2) scPrimitive.nd rfl (.inl rfl)) (fun _ _ _ _ _ => pts_nil) (fun _ _ _ _ _ => pe_op (op_fdivA S.blk) (pv 2) (pv 1)))))))), ?_⟩
    refine ⟨_, rfl, sz_of (by decide), fun t0 nt0 => ⟨p, [], ⟨a, rfl, ex_t (Ex.new nt0) hA⟩, nilV, _, rfl, ?_⟩⟩
    have e0 : Ex H (upd H t0 (.tup [])) := Ex.new nt0
    generalize upd H t0 (.tup []) = H0 at e0
    by_cases hp : p = []
    · rw [decide_eq_true hp]
      refine iteT ⟨sz_of (by decide), fun t1 nt1 => k _ _ (e0.trans (Ex.new nt1)) ?_⟩
      unfold prim
      rw [if_pos hp]
      exact nilV
    rw [decide_eq_false hp]
    refine iteF ⟨_, rfl, _, p, rfl, ⟨a, rfl, ex_t e0 hA⟩, ?_⟩
    have hlp : atI (p.map V.int) (-1) = some (.int (lead p)) := atI_lead hp
    have fin : tRet (tCB (rTupS K) (tCons (tLc (iTup K (tVar 0)) (gName 2) tYes (tOp (rI (fun _ j => j ≠ 0) fun i j => .int (i.fdiv j)) (tVar 2) (tVar 1)) [2]) tNil)) { nx := fun _ H' => Q .non H', rt := Q } [some (.ref a), some (.int (sgc p)), none] H0 := by
      refine ⟨_, rfl, a, rfl, ⟨_, ex_t e0 hA⟩, fun D hD => ?_⟩
      refine lc_out p.length (fun i => .int ((co p i).fdiv (sgc p))) (by omega) hD (fun i H' hi e => ⟨_, _, ex_t (e0.trans e) hA, ints_at hi⟩) (fun H' e => ⟨_, ex_t (e0.trans e) hA, by rw [List.length_map]; exact Nat.le_refl _⟩) (fun i H' x H2 hi e y => ?_) gName_mono (fun H' e hl => ?_)
      · obtain ⟨rfl, fx⟩ := y
        have ex := Option.some.inj ((fx _ (ex_t (e0.trans e) hA)).symm.trans (ints_at hi))
        subst ex
        exact ⟨rfl, fun R hR => ⟨_, rfl, _, rfl, _, _, rfl, rfl, sgc_ne ht hp, hR _ (Ex.refl _)⟩⟩
      · refine ⟨D, _, rfl, .inr (sq_ints hl), fun a2 H2 e4 hv => k _ H2 ((e0.trans e).trans e4) ⟨a2, rfl, ?_⟩⟩
        rw [divL_range] at hv
        unfold prim
        rw [if_neg hp]
        exact hv
    refine ⟨_, rfl, _, rfl, a, _, _, _, rfl, rfl, .inl (ex_t e0 hA), hlp, _, _, rfl, rfl, _, rfl, ?_⟩
    by_cases hn : lead p < 0
    · rw [decide_eq_true hn]
      refine iteT ⟨_, rfl, _, rfl, ?_⟩
      have es : -(contN p : Int) = sgc p := by unfold sgc; rw [if_pos hn]
      rw [← es] at fin
      exact fin
    · rw [decide_eq_false hn]
      have es : (contN p : Int) = sgc p := by unfold sgc; rw [if_neg hn]
      rw [← es] at fin
      exact iteF fin
end
end Kf
end

section
set_option Elab.async false
set_option linter.all false
set_option maxRecDepth 100000
set_option maxHeartbeats 4000000
namespace Kf
open PySem PySem.Spec PyProof.Rows L2 Lx Evl Pm RZ StX

section
variable {w : World} {K : PySem.W.Frag} {mg : Str → Option Value} {base : Heap}
theorem nrm_lead {p : List Int} {b : Nat} (h : nrm p ≤ 2 ^ b) : (lead p).natAbs ≤ 2 ^ b := Nat.le_trans (co_le_nrm p (p.length - 1)) h
theorem zeros_flat (k : Nat) : (List.replicate k [V.int 0]).flatten = (List.replicate k (0 : Int)).map V.int := by
  induction k with
  | zero => rfl
  | succ k ih => rw [List.replicate_succ, List.replicate_succ, List.flatten_cons, ih]; rfl

theorem tIf_via {t : TT} {ta tb : TE} {σ : L2.St} {H H1 : Hp} {Q : VK} {v : V} (h : ∀ R : VK, R v H1 → tIf t ta tb σ H R) (q : Q v H1) : tIf t ta tb σ H Q := h Q q

/-! ### remainder -/
abbrev sRem : Stmt := topS 25
abbrev nRem : List Str := ["one", "other", "rest", "lead", "shift", "part", "shared", "a"]
theorem scRem : FnScope nRem ["one", "other"] (defScope sRem) := ⟨rfl, rfl, rfl, by decide +kernel, rfl, by decide +kernel, by decide +kernel⟩
def spRem (K : PySem.W.Frag) : Sp := fun vs H Q _ => ∃ (x y : V) (p q : List Int) (b1 b2 : Nat), vs = [x, y] ∧ PolyV K H x p ∧ PolyV K H y q ∧ p.length ≤ 1000 ∧ q.length ≤ 1000 ∧ Tr p ∧ Tr q ∧ q ≠ [] ∧ nrm p ≤ 2 ^ b1 ∧ nrm q ≤ 2 ^ b2 ∧
  b1 + (p.length + 1 - q.length) * (b2 + 1) + b2 < 134217000 ∧ ∀ v H' r, Ex H H' → PolyV K H' v r → RemOk p q r (b1 + (p.length + 1 - q.length) * (b2 + 1)) → Q v H'
theorem ok_rem (D : DefAt K mg "remainder" sRem ["one", "other"]) (G : Gl0 mg base) (Cc : Cal w K mg base 41 "content" ["one"] (spContent K)) (Cs : Cal w K mg base 42 "scaled" ["one", "factor"] (spScaled K)) (Cm : Cal w K mg base 43 "poly_minus" ["one", "other"] (spMinus K)) :
    Cal w K mg base 44 "remainder" ["one", "other"] (spRem K) := by
  refine Cal.mk D scRem (fun vs H Q E h => ?_) (fun f cdv A outer s H vs Q E hr h => ?_)
  · obtain ⟨x, y, p, q, b1, b2, rfl, _⟩ := h
    rfl
  · obtain ⟨x, y, p, q, b1, b2, rfl, ⟨a, rfl, hA⟩, ⟨b, rfl, hB⟩, l1, l2, tp, tq, hq, n1, n2, hsz, k⟩ := h
    have S := sees_of (w := w) (K := K) (mg := mg) (base := base) (N := nRem) (outer := outer) (H := H) (E := E) G.seer hr (by decide) rfl rfl
    refine ⟨_, pss_cons (ps_par (i := 2) (j := 3) rfl scRem.nd rfl rfl (by decide) rfl rfl (pa_cons (pv 0) (pa_cons (pe_at (pv 1) (pe_un un_neg pe_int)) pa_nil)) (by rfl))
      (pss_cons (ps_while PassesOwn.never (pt_cmpR op_ge (pe_len G.len (pv 2)) (pe_len G.len (pv 1)) (nomark _))
        (pss_cons (ps_set (i := 4) scRem.nd rfl (.inl rfl) (pe_op op_sub (pe_len G.len (pv 2)) (pe_len G.len (pv 1))))
        (pss_cons (ps_set (i := 5) scRem.nd rfl (.inl rfl) (pe_callC rfl Cs hr (by decide) (pa_cons (pe_tup (pa_star (pe_op op_rep (pe_lst (pa_cons pe_int pa_nil)) (pv 4)) (pa_star (pv 1) pa_nil)))
          (pa_cons (pe_ifExp (pt_cmpR op_gt (pv 3) pe_int (nomark _)) (pe_at (pv 2) (pe_un un_neg pe_int)) (pe_un un_neg (pe_at (pv 2) (pe_un un_neg pe_int)))) pa_nil))))
        (pss_one (ps_set (i := 2) scRem.nd rfl (.inl rfl) (pe_callC rfl Cm hr (by decide) (pa_cons (pe_callC rfl Cs hr (by decide) (pa_cons (pv 2) (pa_cons (pe_callB call_abs (by rfl) G.abs (by decide +kernel) (pa_cons (pv 3) pa_nil)) pa_nil))) (pa_cons (pv 5) pa_nil))))))))
      (pss_cons (ps_set (i := 6) scRem.nd rfl (.inr rfl) (pe_callC rfl Cc hr (by decide) (pa_cons (pv 2) pa_nil)))
      (pss_one (ps_ret (pe_ifExp (pt_cmpR op_gt (pv 6) pe_int (nomark _)) (pe_tuple G.tuple (pe_lc (own := [("a", 7)]) (g := gName 7) (tt := tYes) rfl scRem.nd (pi_tup (pv 2)) (blkOk_by (N := nRem) (sc := defScope sRem) (by decide +kernel))
          (fun _ _ _ _ _ => pg_name (i := 7) scRem.nd rfl (.inl rfl)) (fun _ _ _ _ _ => pts_nil) (fun _ _ _ _ _ => pe_op (op_fdivA S.blk) (pv 7) (pv 6)))) (pv 2)))))), ?_⟩
    have sz : ∀ m, m ≤ 100000 → m ≤ sizeLine := fun m h => sz_of h
    refine ⟨_, rfl, _, rfl, _, rfl, b, _, _, _, rfl, rfl, .inl hB, atI_lead hq, _, _, rfl, ?_⟩
    have lq0 : 0 < q.length := List.length_pos_iff.mpr hq
    refine ⟨fun m σ H' => Ex H H' ∧ ∃ (z : V) (r : List Int) (y4 y5 : Option V) (β : Nat), σ = [some (.ref a), some (.ref b), some z, some (.int (lead q)), y4, y5, none, none] ∧ PolyV K H' z r ∧ m = r.length ∧ r.length ≤ 1000 ∧
      RemW p q r b2 (b1 + (p.length + 1 - q.length) * (b2 + 1)) β, ⟨p.length, Ex.refl H, .ref a, p, none, none, b1, rfl, ⟨a, rfl, hA⟩, rfl, l1, RemW.start tp n1⟩, ?_⟩
    rintro m σ H1 ⟨e1, z, r, y4, y5, β, rfl, ⟨c, rfl, hC⟩, rfl, lr, hW⟩
    refine ⟨_, rfl, c, _, rfl, .inl hC, _, rfl, b, _, rfl, .inl (ex_t e1 hB), _, _, rfl, rfl, ?_⟩
    refine ⟨_, rfl, ?_⟩
    rw [List.length_map, List.length_map]
    by_cases hlt : q.length ≤ r.length
    · rw [decide_eq_true (show (q.length : Int) ≤ (r.length : Int) by omega)]
      refine iteT ?_
      have hst := hW.step tq hq n2 hlt
      have hβ : β ≤ b1 + (p.length + 1 - q.length) * (b2 + 1) := by have := hst.2.2; omega
      refine ⟨fun σ' H' => Ex H1 H' ∧ ∃ (z : V) (y4 y5 : Option V), σ' = [some (.ref a), some (.ref b), some z, some (.int (lead q)), y4, y5, none, none] ∧ PolyV K H' z (remStep r q), ?_, ?_⟩
      · rintro σ' H' ⟨e2, z, y4, y5, rfl, hz⟩
        exact ⟨_, hst.2.1, e1.trans e2, z, _, y4, y5, _, rfl, hz, rfl, by have := hst.2.1; omega, hst.1⟩
      · have hr0 : r ≠ [] := fun z => by rw [z] at hlt; simp at hlt; exact hq hlt
        refine ⟨_, rfl, c, _, rfl, .inl hC, _, rfl, b, _, rfl, .inl (ex_t e1 hB), _, _, rfl, rfl, ?_⟩
        dsimp only
        rw [List.length_map, List.length_map, show (r.length : Int) - (q.length : Int) = ((r.length - q.length : Nat) : Int) by omega]
        refine ⟨sz 1 (by decide), fun z0 nz0 => ⟨_, rfl, z0, _, _, rfl, rfl, upd_same, by omega, by omega, by rw [Int.toNat_natCast]; show 1 * _ ≤ _; rw [Nat.one_mul]; exact sz _ (by omega), fun Z nZ => ?_⟩⟩
        rw [Int.toNat_natCast, zeros_flat]
        have e2 := (Ex.new (o := .lst [.int 0]) nz0).trans (Ex.new (o := .lst ((List.replicate (r.length - q.length) (0 : Int)).map V.int)) nZ)
        have hZ : (upd (upd H1 z0 (.lst [.int 0])) Z (.lst ((List.replicate (r.length - q.length) (0 : Int)).map V.int))) Z = some (.lst ((List.replicate (r.length - q.length) (0 : Int)).map V.int)) := upd_same
        refine ⟨Z, _, rfl, .inr (sq_of upd_same), ?_⟩
        change Ex H1 (upd (upd H1 z0 (.lst [.int 0])) Z (.lst ((List.replicate (r.length - q.length) (0 : Int)).map V.int))) at e2
        generalize upd (upd H1 z0 (.lst [.int 0])) Z (.lst ((List.replicate (r.length - q.length) (0 : Int)).map V.int)) = H2 at e2 hZ
        refine ⟨_, rfl, b, _, rfl, .inl (ex_t (e1.trans e2) hB), ?_⟩
        refine ⟨by simp; exact sz _ (by omega), fun T nT => ?_⟩
        have e3 : Ex H1 (upd H2 T (.tup ((List.replicate (r.length - q.length) (0 : Int)).map V.int ++ (q.map V.int ++ [])))) := e2.trans (Ex.new nT)
        have hT : PolyV K (upd H2 T (.tup ((List.replicate (r.length - q.length) (0 : Int)).map V.int ++ (q.map V.int ++ [])))) (.ref T) (List.replicate (r.length - q.length) 0 ++ q) := by
          refine ⟨T, rfl, st_of ?_⟩
          rw [upd_same, List.append_nil, List.map_append]
        generalize upd H2 T (.tup ((List.replicate (r.length - q.length) (0 : Int)).map V.int ++ (q.map V.int ++ []))) = H3 at e3 hT
        have nq := nrm_lead n2
        have nr := nrm_lead hW.size
        have nsh : nrm (List.replicate (r.length - q.length) 0 ++ q) ≤ 2 ^ b2 := by rw [nrm_shift]; exact n2
        have nsl : (List.replicate (r.length - q.length) 0 ++ q).length = r.length := by rw [List.length_append, List.length_replicate]; omega
        have hc : (if 0 < lead q then lead r else -lead r).natAbs ≤ 2 ^ β := by split <;> omega
        have ha : (if lead q < 0 then -lead q else lead q).natAbs ≤ 2 ^ b2 := by split <;> omega
        have npt : nrm (scal (List.replicate (r.length - q.length) 0 ++ q) (if 0 < lead q then lead r else -lead r)) ≤ 2 ^ (β + b2) := by
          rw [nrm_scal, Nat.pow_add]
          exact Nat.mul_le_mul hc nsh
        refine tIf_via (v := .int (if 0 < lead q then lead r else -lead r)) (H1 := H3) (fun R hR => ?_) ?_
        · refine ⟨_, rfl, _, _, rfl, rfl, _, rfl, ?_⟩
          by_cases hp : 0 < lead q
          · rw [decide_eq_true hp]
            rw [if_pos hp] at hR
            exact iteT ⟨_, rfl, _, rfl, c, _, _, _, rfl, rfl, .inl (ex_t e3 hC), atI_lead hr0, hR⟩
          · rw [decide_eq_false hp]
            rw [if_neg hp] at hR
            exact iteF ⟨_, rfl, _, rfl, c, _, _, _, rfl, rfl, .inl (ex_t e3 hC), atI_lead hr0, _, rfl, hR⟩
        refine ⟨.ref T, _, _, rfl, hT, by rw [nsl]; exact lr, fun i => cmul_of hc (Nat.le_trans (co_le_nrm _ i) nsh) (by omega), fun v H4 e4 hv => ?_⟩
        refine ⟨_, rfl, _, rfl, _, rfl, .ref c, r, _, rfl, ⟨c, rfl, ex_t (e3.trans e4) hC⟩, lr, fun i => cmul_of ha (Nat.le_trans (co_le_nrm _ i) hW.size) (by omega), fun v2 H5 e5 hv2 => ?_⟩
        refine ⟨_, rfl, v2, v, _, _, rfl, hv2, hv.ex e5, Nat.le_trans (trim_len _) (by rw [smul, List.length_map]; exact lr), Nat.le_trans (trim_len _) (by rw [smul, List.length_map, nsl]; exact lr), fun i => cmul_neg npt (by omega) i, fun v3 H6 e6 hv3 => ?_⟩
        exact ⟨((e3.trans e4).trans e5).trans e6, v3, _, _, rfl, hv3⟩
    · rw [decide_eq_false (show ¬ (q.length : Int) ≤ (r.length : Int) by omega)]
      have hd := hW.done (by omega)
      refine iteF ⟨_, rfl, .ref c, r, rfl, ⟨c, rfl, hC⟩, ?_⟩
      refine ⟨_, rfl, _, _, rfl, rfl, _, rfl, ?_⟩
      by_cases h1 : 1 < contN r
      · rw [decide_eq_true (show (1 : Int) < (contN r : Int) by omega)]
        refine iteT ⟨_, rfl, c, rfl, ⟨_, hC⟩, fun D hD => ?_⟩
        refine lc_out r.length (fun i => .int ((co r i).fdiv (contN r))) (by omega) hD (fun i H' hi e => ⟨_, _, ex_t e hC, ints_at hi⟩) (fun H' e => ⟨_, ex_t e hC, by rw [List.length_map]; exact Nat.le_refl _⟩) (fun i H' x H2 hi e y => ?_) gName_mono (fun H' e hl => ?_)
        · obtain ⟨rfl, fx⟩ := y
          have ex := Option.some.inj ((fx _ (ex_t e hC)).symm.trans (ints_at hi))
          subst ex
          exact ⟨rfl, fun R hR => ⟨_, rfl, _, rfl, _, _, rfl, rfl, by omega, hR _ (Ex.refl _)⟩⟩
        · refine ⟨D, _, rfl, .inr (sq_ints hl), fun a2 H2 e4 hv => k _ H2 _ ((e1.trans e).trans e4) ⟨a2, rfl, ?_⟩ (hd.2 h1)⟩
          rw [divL_range] at hv
          exact hv
      · rw [decide_eq_false (show ¬ (1 : Int) < (contN r : Int) by omega)]
        exact iteF ⟨_, rfl, k _ _ r e1 ⟨c, rfl, hC⟩ hd.1⟩

/-! ### common -/
abbrev sCommon : Stmt := topS 26
theorem scCommon : FnScope ["one", "other"] ["one", "other"] (defScope sCommon) := ⟨rfl, rfl, rfl, by decide +kernel, rfl, by decide +kernel, by decide +kernel⟩
def spCommon (K : PySem.W.Frag) : Sp := fun vs H Q _ => ∃ (x y : V) (p q : List Int) (b L : Nat), vs = [x, y] ∧ PolyV K H x p ∧ PolyV K H y q ∧ p.length ≤ L ∧ q.length ≤ L ∧ L ≤ 1000 ∧ Tr p ∧ Tr q ∧ q ≠ [] ∧ nrm p ≤ 2 ^ b ∧ nrm q ≤ 2 ^ b ∧
  2 * ((b + 1) * pell L) < 134217000 ∧ ∀ v H' h, Ex H H' → PolyV K H' v h → GcdOk p q h ((b + 1) * pell L) → Q v H'
theorem Sizes.lens {one other : List Int} {C L b1 b2 : Nat} (h : Sizes one other C L b1 b2) : one.length ≤ L ∧ other.length ≤ L := by
  obtain ⟨_, _, ⟨_, _, a, b⟩ | ⟨k, _, _, a, b⟩⟩ := h <;> omega
theorem ok_common (D : DefAt K mg "common" sCommon ["one", "other"]) (Cr : Cal w K mg base 44 "remainder" ["one", "other"] (spRem K)) (Cp : Cal w K mg base 42 "primitive" ["one"] (spPrimitive K)) :
    Cal w K mg base 45 "common" ["one", "other"] (spCommon K) := by
  refine Cal.mk D scCommon (fun vs H Q E h => ?_) (fun f cdv A outer s H vs Q E hr h => ?_)
  · obtain ⟨x, y, p, q, b1, b2, rfl, _⟩ := h
    rfl
  · obtain ⟨x, y, p, q, b, L, rfl, hA, hB, l1, l2, lL, tp, tq, hq, n1, n2, hsz, k⟩ := h
    refine ⟨_, pss_cons (ps_while PassesOwn.never (pt_cmpR (op_neP hr.units) (pv 1) (pe_tup pa_nil) (nomark _))
        (pss_one (ps_par (i := 0) (j := 1) rfl scCommon.nd rfl rfl (by decide) rfl rfl (pa_cons (pv 1) (pa_cons (pe_callC rfl Cp hr (by decide) (pa_cons (pe_callC rfl Cr hr (by decide) (pa_cons (pv 0) (pa_cons (pv 1) pa_nil))) pa_nil)) pa_nil)) (by rfl))))
      (pss_one (ps_ret (pe_callC rfl Cp hr (by decide) (pa_cons (pv 0) pa_nil)))), ?_⟩
    refine ⟨fun m σ H' => Ex H H' ∧ ∃ (z1 z2 : V) (f g : List Int), σ = [some z1, some z2] ∧ PolyV K H' z1 f ∧ PolyV K H' z2 g ∧ m = g.length ∧ ComW p q f g (b + 1) L,
      ⟨q.length, Ex.refl H, x, y, p, q, rfl, hA, hB, rfl, ComW.start tp tq n1 n2 (Nat.le_refl _) l1 l2⟩, ?_⟩
    rintro m σ H1 ⟨e1, z1, z2, f, g, rfl, h1, h2, rfl, hW⟩
    obtain ⟨b1, b2, hS⟩ := hW.size
    have hl := Sizes.lens hS
    refine ⟨_, rfl, sz_of (by decide), fun t0 nt0 => ⟨g, [], h2.ex (Ex.new nt0), nilV, _, rfl, ?_⟩⟩
    have e2 : Ex H1 (upd H1 t0 (.tup [])) := Ex.new nt0
    generalize upd H1 t0 (.tup []) = H2 at e2
    by_cases hg : g = []
    · rw [decide_eq_true hg]
      refine iteF ⟨_, rfl, z1, f, rfl, h1.ex e2, by omega, hW.tr1, fun v H' e3 hv => k v H' _ ((e1.trans e2).trans e3) hv ?_⟩
      subst hg
      exact hW.done tq hq
    · rw [decide_eq_false hg]
      have hst := hS.step (r := []) hg (Nat.zero_le _) (List.length_pos_iff.mpr hg)
      refine iteT ⟨fun σ' H' => Ex H2 H' ∧ ∃ (z3 : V) (r : List Int), σ' = [some z2, some z3] ∧ PolyV K H' z3 (prim r) ∧ RemOk f g r (b1 + (f.length + 1 - g.length) * (b2 + 1)), ?_, ?_⟩
      · rintro σ' H' ⟨e3, z3, r, rfl, hz, hR⟩
        exact ⟨(prim r).length, by rw [prim_len]; exact hR.len, (e1.trans e2).trans e3, z2, z3, g, prim r, rfl, h2.ex (e2.trans e3), hz, rfl, hW.step hS hg hR⟩
      · refine ⟨_, rfl, _, rfl, _, rfl, z1, z2, f, g, b1, b2, rfl, h1.ex e2, h2.ex e2, by omega, by omega, hW.tr1, hW.tr2, hg, hS.1, hS.2.1, by omega, fun v H' r e3 hv hR => ?_⟩
        refine ⟨v, r, rfl, hv, by have := hR.len; omega, hR.tr, fun v2 H'' e4 hv2 => ⟨_, _, rfl, e3.trans e4, v2, r, rfl, hv2, hR⟩⟩
end
end Kf
end

section
set_option Elab.async false
set_option linter.all false
set_option maxRecDepth 100000
set_option maxHeartbeats 4000000
namespace Kf
open PySem PySem.Spec PyProof.Rows L2 Lx Evl Pm RZ StX

section
variable {w : World} {K : PySem.W.Frag} {mg : Str → Option Value} {base : Heap}
/-! ### quotient -/
abbrev sQuo : Stmt := topS 27
abbrev nQuo : List Str := ["one", "other", "rest", "found", "at", "place", "b"]
theorem scQuo : FnScope nQuo ["one", "other"] (defScope sQuo) := ⟨rfl, rfl, rfl, by decide +kernel, rfl, by decide +kernel, by decide +kernel⟩
def spQuo (K : PySem.W.Frag) : Sp := fun vs H Q _ => ∃ (x y : V) (p g t : List Int) (bt bg : Nat), vs = [x, y] ∧ PolyV K H x p ∧ PolyV K H y g ∧ p.length ≤ 1000 ∧ g.length ≤ 1000 ∧ Tr p ∧ Tr g ∧ Tr t ∧ p ≠ [] ∧ g ≠ [] ∧ (∀ i, co p i = co (mulL t g) i) ∧
  nrm t ≤ 2 ^ bt ∧ nrm g ≤ 2 ^ bg ∧ bt + bg < 134217000 ∧ ∀ v H', Ex H H' → PolyV K H' v t → Q v H'
def rListS (K : PySem.W.Frag) : List V → Hp → VK → Prop := fun xs H Q => ∃ p ys, xs = [.ref p] ∧ (SqL K H p ys ∨ SqT K H p ys) ∧ ∀ l, H l = none → Q (.ref l) (upd H l (.lst ys))
theorem pe_list {X : Cx} {e : Expr} {te : TE} {p pos : Pos} (hm : X.mg "list" = none) (he : PE X e te) (hg : Gl X "list" := by rfl) (hs : starEach [e] X.env = (false, eval e X.env) :: starEach [] X.env := by rfl) : PE X (.Call (.Name "list" p) [e] [] pos) (tCB (rListS X.K) (tCons te tNil)) :=
  pe_callTy call_list_of hg hm (by decide +kernel) (pa_cons he pa_nil hs) (by decide) (by decide) hs rfl
theorem ok_quo (D : DefAt K mg "quotient" sQuo ["one", "other"]) (G : Gl0 mg base) (Ct : Cal w K mg base 41 "trimmed" ["some"] (spTrimmed K)) : Cal w K mg base 42 "quotient" ["one", "other"] (spQuo K) := by
  refine Cal.mk D scQuo (fun vs H Q E h => ?_) (fun f cdv A outer s H vs Q E hr h => ?_)
  · obtain ⟨x, y, p, g, t, bt, bg, rfl, _⟩ := h
    rfl
  · obtain ⟨x, y, p, g, t, bt, bg, rfl, ⟨a, rfl, hA⟩, ⟨b, rfl, hB⟩, l1, l2, tp, tg, tt, hp, hg, hpt, nt, ng, hsz, k⟩ := h
    have S := sees_of (w := w) (K := K) (mg := mg) (base := base) (N := nQuo) (outer := outer) (H := H) (E := E) G.seer hr (by decide) rfl rfl
    refine ⟨_, pss_cons (ps_par (i := 2) (j := 3) rfl scQuo.nd rfl rfl (by decide) rfl rfl (pa_cons (pe_list G.list (pv 0)) (pa_cons (pe_op op_rep (pe_lst (pa_cons pe_int pa_nil)) (pe_callB (call_max2 rfl) (by rfl) G.max (by decide +kernel) (pa_cons pe_int (pa_cons (pe_op op_add (pe_op op_sub (pe_len G.len (pv 0)) (pe_len G.len (pv 1))) pe_int) pa_nil)))) pa_nil)) (by rfl))
      (pss_cons (ps_for PassesOwn.never rfl (pi_range3 (by rfl) G.range (pa_cons (pe_op op_sub (pe_len G.len (pv 3)) pe_int) (pa_cons (pe_un un_neg pe_int) (pa_cons (pe_un un_neg pe_int) pa_nil)))) (pg_name (i := 4) scQuo.nd rfl (.inl rfl))
        (pss_cons (ps_asg (pe_op (op_fdivA S) (pe_at (pv 2) (pe_op op_sub (pe_op op_add (pv 4) (pe_len G.len (pv 1))) pe_int)) (pe_at (pv 1) (pe_un un_neg pe_int))) (pg_sub (pv 3) (pv 4) set_listN))
        (pss_one (ps_for PassesOwn.never rfl (pi_enumT (by rfl) G.enumerate (pa_cons (pv 1) pa_nil))
          (pg_tup rfl (pgs_cons (pg_name (i := 5) scQuo.nd rfl (.inl rfl)) (pgs_cons (pg_name (i := 6) scQuo.nd rfl (.inl rfl)) pgs_nil)))
          (pss_one (ps_augS (pv 2) (pe_op op_add (pv 4) (pv 5)) pget_list (pe_op op_mulA (pe_at (pv 3) (pv 4)) (pv 6)) ip_sub set_listN))))))
      (pss_one (ps_ret (pe_callC rfl Ct hr (by decide) (pa_cons (pv 3) pa_nil))))), ?_⟩
    have sz : ∀ m, m ≤ 100000 → m ≤ sizeLine := fun m h => sz_of h
    obtain ⟨ht0, hlen⟩ := quot_len tp tt tg hp hg hpt
    have lg0 : 0 < g.length := List.length_pos_iff.mpr hg
    have lt0 : 0 < t.length := List.length_pos_iff.mpr ht0
    refine ⟨_, rfl, a, _, rfl, .inr hA, fun R nR => ⟨sz 1 (by decide), fun z0 nz0 => ⟨_, rfl, a, _, rfl, .inl (ex_t ((Ex.new nR).trans (Ex.new nz0)) hA), _, rfl, b, _, rfl, .inl (ex_t ((Ex.new nR).trans (Ex.new nz0)) hB), _, _, rfl, rfl, _, _, rfl, rfl, _, _, rfl, z0, _, _, rfl, rfl, upd_same, ?_⟩⟩⟩
    have ek : (if ((p.map V.int).length : Int) - ((g.map V.int).length : Int) + 1 > 0 then ((p.map V.int).length : Int) - ((g.map V.int).length : Int) + 1 else 0) = (t.length : Int) := by
      rw [List.length_map, List.length_map, if_pos (by omega)]; omega
    rw [ek]
    refine ⟨by omega, by omega, by rw [Int.toNat_natCast]; show 1 * _ ≤ _; rw [Nat.one_mul]; exact sz _ (by omega), fun F nF => ⟨_, _, rfl, ?_⟩⟩
    rw [Int.toNat_natCast, zeros_flat]
    have e0 : Ex H (upd (upd H R (.lst (p.map V.int))) z0 (.lst [.int 0])) := (Ex.new nR).trans (Ex.new nz0)
    have nzR : R ≠ z0 := ne_of_none (o := .lst (p.map V.int)) upd_same nz0
    have hR0 : (upd (upd H R (.lst (p.map V.int))) z0 (.lst [.int 0])) R = some (.lst (p.map V.int)) := by rw [upd_ne nzR, upd_same]
    change (upd (upd H R (.lst (p.map V.int))) z0 (.lst [.int 0])) F = none at nF
    generalize upd (upd H R (.lst (p.map V.int))) z0 (.lst [.int 0]) = H0 at e0 hR0 nF
    have nFR : R ≠ F := ne_of_none hR0 nF
    have nFH : H F = none := fresh_back e0 nF
    have e1 : Ex H (upd H0 F (.lst ((List.replicate t.length (0 : Int)).map V.int))) := e0.trans (Ex.new nF)
    refine ⟨_, rfl, F, _, rfl, .inr (sq_of upd_same), _, _, rfl, rfl, _, rfl, _, rfl, (t.length : Int) - 1, -1, -1, t.length, ?_, ?_, ?_⟩
    · rw [List.length_map, List.length_replicate]
    · have := RgC.neg (i := (t.length : Int) - 1) (j := -1) (by omega) (by omega) (by decide) (by decide)
      rw [show ((t.length : Int) - 1 - -1).toNat = t.length by omega] at this
      exact this
    refine for_rangeC (fun r σ H' => Ex H H' ∧ ∃ (y4 y5 y6 : Option V) (rl fl : List Int), σ = [some (.ref a), some (.ref b), some (.ref R), some (.ref F), y4, y5, y6] ∧ H' R = some (.lst (rl.map V.int)) ∧ H' F = some (.lst (fl.map V.int)) ∧
        rl.length = p.length ∧ fl.length = t.length ∧ (∀ i, co rl i = co (mulL (t.take (t.length - r)) g) i) ∧ ∀ i, co fl i = if t.length - r ≤ i then co t i else 0)
      ⟨e1, none, none, none, p, List.replicate t.length 0, rfl, by rw [upd_ne nFR]; exact hR0, upd_same, rfl, by simp, fun i => ?_, fun i => ?_⟩ (fun r σ H' hr h => ?_) (fun σ H' h => ?_)
    · rw [Nat.sub_zero, List.take_length]; exact hpt i
    · rw [Nat.sub_zero]
      by_cases hi : i < t.length
      · rw [if_neg (by omega)]
        exact co_get (by rw [List.getElem?_replicate, if_pos hi])
      · rw [if_pos (by omega), co_out (p := t) (by omega), co_out (by simp; omega)]
    · obtain ⟨e2, y4, y5, y6, rl, fl, rfl, hRl, hFl, lrl, lfl, hco, hfo⟩ := h
      have ea : (t.length : Int) - 1 + ((r : Nat) : Int) * -1 = ((t.length - 1 - r : Nat) : Int) := by omega
      rw [ea]
      have hat : t.length - r = (t.length - 1 - r) + 1 := by omega
      rw [hat] at hco hfo
      have hat2 : t.length - (r + 1) = t.length - 1 - r := by omega
      have hlt : t.length - 1 - r < t.length := by omega
      simp only [hat2]
      generalize t.length - 1 - r = at_ at hco hfo hlt
      have htop := quot_top (t := t) (g := g) hlt hg
      rw [← hco] at htop
      have ei : ((at_ : Nat) : Int) + ((g.map V.int).length : Int) - 1 = ((at_ + g.length - 1 : Nat) : Int) := by rw [List.length_map]; omega
      refine ⟨_, rfl, _, rfl, _, rfl, b, _, rfl, .inl (ex_t e2 hB), _, _, rfl, rfl, _, _, rfl, rfl, R, _, _, _, rfl, rfl, .inr (sq_of hRl), by rw [ei]; exact atI_ints (by omega), ?_⟩
      refine ⟨_, rfl, _, rfl, b, _, _, _, rfl, rfl, .inl (ex_t e2 hB), atI_lead hg, _, _, rfl, rfl, tg.lead hg, ?_⟩
      have eq : (co rl (at_ + g.length - 1)).fdiv (lead g) = co t at_ := by
        rw [htop]
        exact Int.mul_fdiv_cancel _ (tg.lead hg)
      refine ⟨_, rfl, _, rfl, F, _, at_, rfl, rfl, hFl, by rw [List.length_map]; omega, ?_⟩
      have e3 : Ex H (upd H' F (.lst ((fl.map V.int).set at_ (.int (co t at_))))) := Ex.mut e2 nFH
      have es : (fl.map V.int).set at_ (.int (co t at_)) = (fl.set at_ (co t at_)).map V.int := by rw [List.map_set]
      rw [es] at e3
      have nRH : H R = none := nR
      rw [← eq] at es e3
      dsimp only
      rw [es, eq]
      rw [eq] at e3
      refine ⟨_, rfl, b, _, rfl, ex_t e3 hB, ?_⟩
      refine for_gen g.length (fun j σ H' => Ex H H' ∧ ∃ (y5 y6 : Option V) (rl : List Int), σ = [some (.ref a), some (.ref b), some (.ref R), some (.ref F), some (.int (at_ : Nat)), y5, y6] ∧ H' R = some (.lst (rl.map V.int)) ∧ H' F = some (.lst ((fl.set at_ (co t at_)).map V.int)) ∧
          rl.length = p.length ∧ ∀ k, co rl k = co (mulL (t.take (at_ + 1)) g) k - (if at_ ≤ k ∧ k < at_ + j then co t at_ * co g (k - at_) else 0))
        ⟨e3, y5, y6, rl, rfl, by rw [upd_ne nFR]; exact hRl, upd_same, lrl, fun k => by rw [hco, if_neg (by omega), Int.sub_zero]⟩ (fun j σ H' hj h => ⟨_, _, ex_t h.1 hB, ints_at hj⟩) (fun σ H' h => ⟨_, ex_t h.1 hB, by rw [List.length_map]; exact Nat.le_refl _⟩) (fun j σ H' x H2 hj h y => ?_) (fun σ H' h => ?_)
      · obtain ⟨e5, y5, y6, gl, rfl, hGl, hF5, lgl, hgo⟩ := h
        obtain ⟨T2, u, rfl, nT2, rfl, fu⟩ := y
        have eu := Option.some.inj ((fu _ (ex_t e5 hB)).symm.trans (ints_at hj))
        subst eu
        have nT2R : R ≠ T2 := ne_of_none hGl nT2
        have nT2F : F ≠ T2 := ne_of_none hF5 nT2
        have hG2 : (upd H' T2 (.tup [.int (j : Nat), .int (co g j)])) R = some (.lst (gl.map V.int)) := by rw [upd_ne nT2R]; exact hGl
        have hF2 : (upd H' T2 (.tup [.int (j : Nat), .int (co g j)])) F = some (.lst ((fl.set at_ (co t at_)).map V.int)) := by rw [upd_ne nT2F]; exact hF5
        refine ⟨T2, _, rfl, st_of upd_same, rfl, _, _, rfl, _, _, rfl, rfl, ?_⟩
        refine ⟨_, rfl, _, rfl, _, rfl, _, _, rfl, rfl, R, gl.map V.int, at_ + j, .int (co gl (at_ + j)), rfl, by rw [Int.natCast_add], sq_of hG2, ints_at (by omega), ?_⟩
        have cset : co (fl.set at_ (co t at_)) at_ = co t at_ := by rw [co_set (by omega), if_pos rfl]
        refine ⟨_, rfl, _, rfl, F, _, _, .int (co t at_), rfl, rfl, .inr (sq_of hF2), by rw [atI_ints (by rw [List.length_set]; omega), cset], _, rfl, _, _, rfl, rfl, cmul_co nt ng hsz at_ j, _, _, rfl, rfl, R, gl.map V.int, at_ + j, rfl, by rw [Int.natCast_add], hG2, by rw [List.length_map]; omega, ?_⟩
        have es2 : (gl.map V.int).set (at_ + j) (.int (co gl (at_ + j) - co t at_ * co g j)) = (gl.set (at_ + j) (co gl (at_ + j) - co t at_ * co g j)).map V.int := by rw [List.map_set]
        refine ⟨Ex.mut (e5.trans (Ex.new nT2)) nRH, _, _, gl.set (at_ + j) (co gl (at_ + j) - co t at_ * co g j), rfl, by rw [upd_same, es2], by rw [upd_ne (Ne.symm nFR)]; exact hF2, by rw [List.length_set]; exact lgl, fun k => ?_⟩
        rw [co_set (by omega)]
        by_cases hk : k = at_ + j
        · subst hk
          rw [if_pos rfl, hgo (at_ + j), if_neg (by omega), if_pos (by omega), show at_ + j - at_ = j by omega]
          omega
        · rw [if_neg hk, hgo k]
          by_cases h2 : at_ ≤ k ∧ k < at_ + j
          · rw [if_pos h2, if_pos (by omega)]
          · rw [if_neg h2, if_neg (by omega)]
      · obtain ⟨e5, y5, y6, gl, rfl, hGl, hF5, lgl, hgo⟩ := h
        refine ⟨e5, _, _, _, gl, _, rfl, hGl, hF5, lgl, by rw [List.length_set]; exact lfl, fun k => ?_, fun k => ?_⟩
        · have := row_end (q := g) hlt k
          rw [hgo, this]
          omega
        · rw [co_set (by omega)]
          by_cases hk : k = at_
          · rw [if_pos hk, if_pos (by omega), hk]
          · rw [if_neg hk, hfo]
            by_cases h2 : at_ + 1 ≤ k
            · rw [if_pos h2, if_pos (by omega)]
            · rw [if_neg h2, if_neg (by omega)]
    · obtain ⟨e2, y4, y5, y6, rl, fl, rfl, hRl, hFl, lrl, lfl, hco, hfo⟩ := h
      refine ⟨_, rfl, F, fl, rfl, .inr (sq_of hFl), fun v H2 e4 hv => k v H2 (e2.trans e4) ?_⟩
      rw [trim_eq tt (fun i => by rw [hfo, if_pos (by omega)])] at hv
      exact hv
end
end Kf
end

section
set_option Elab.async false
set_option linter.all false
set_option maxRecDepth 100000
set_option maxHeartbeats 4000000
namespace Kf
open PySem PySem.Spec PyProof.Rows L2 Lx Evl Pm RZ StX

section
variable {w : World} {K : PySem.W.Frag} {mg : Str → Option Value} {base : Heap}
/-! ### made -/
abbrev sMade : Stmt := topS 35
abbrev nMade : List Str := ["top", "bottom", "shared", "factor", "a"]
theorem scMade : FnScope nMade ["top", "bottom"] (defScope sMade) := ⟨rfl, rfl, rfl, by decide +kernel, rfl, by decide +kernel, by decide +kernel⟩
/-- small enough for all that follows -/
def Sm (p : List Int) : Prop := p.length ≤ 10 ∧ nrm p ≤ 2 ^ 9999
def spMade (K : PySem.W.Frag) : Sp := fun vs H Q _ => ∃ (x y : V) (p q T B : List Int), vs = [x, y] ∧ PolyV K H x p ∧ PolyV K H y q ∧ Sm p ∧ Sm q ∧ Tr p ∧ Tr q ∧ p ≠ [] ∧ q ≠ [] ∧ Cop T B ∧ nrm T ≤ 2 ^ 9999 ∧ nrm B ≤ 2 ^ 9999 ∧
  (∀ x, ev p x * ev B x = ev q x * ev T x) ∧ ∀ v H' F1 F2, Ex H H' → FunV K H' v F1 F2 → Rep F1 F2 T B → Q v H'
theorem ok_made (D : DefAt K mg "made" sMade ["top", "bottom"]) (G : Gl0 mg base) (Cc : Cal w K mg base 45 "common" ["one", "other"] (spCommon K)) (Cq : Cal w K mg base 42 "quotient" ["one", "other"] (spQuo K)) (Ct : Cal w K mg base 41 "content" ["one"] (spContent K)) :
    Cal w K mg base 46 "made" ["top", "bottom"] (spMade K) := by
  refine Cal.mk D scMade (fun vs H Q E h => ?_) (fun f cdv A outer s H vs Q E hr h => ?_)
  · obtain ⟨x, y, p, g, t, bt, rfl, _⟩ := h
    rfl
  · obtain ⟨x, y, p, q, T, B, rfl, hA, hB, ⟨l1, n1⟩, ⟨l2, n2⟩, tp, tq, hp, hq, hcop, nT, nB, hcr, k⟩ := h
    have S := sees_of (w := w) (K := K) (mg := mg) (base := base) (N := nMade) (outer := outer) (H := H) (E := E) G.seer hr (by decide) rfl rfl
    refine ⟨_, pss_cons (ps_if (pt_cmpR (op_eqP hr.units) (pv 0) (pe_tup pa_nil) (nomark _)) pss_never pss_nil)
      (pss_cons (ps_set (i := 2) scMade.nd rfl (.inl rfl) (pe_callC rfl Cc hr (by decide) (pa_cons (pv 0) (pa_cons (pv 1) pa_nil))))
      (pss_cons (ps_par (i := 0) (j := 1) rfl scMade.nd rfl rfl (by decide) rfl rfl (pa_cons (pe_callC rfl Cq hr (by decide) (pa_cons (pv 0) (pa_cons (pv 2) pa_nil))) (pa_cons (pe_callC rfl Cq hr (by decide) (pa_cons (pv 1) (pa_cons (pv 2) pa_nil))) pa_nil)) (by rfl))
      (pss_cons (ps_set (i := 3) scMade.nd rfl (.inr rfl) (pe_gcd G.gcd (pe_callC rfl Ct hr (by decide) (pa_cons (pv 0) pa_nil)) (pe_callC rfl Ct hr (by decide) (pa_cons (pv 1) pa_nil))))
      (pss_cons (ps_if (pt_cmpR op_lt (pe_at (pv 1) (pe_un un_neg pe_int)) pe_int (nomark _)) (pss_one (ps_set (i := 3) scMade.nd rfl (.inr rfl) (pe_un un_neg (pv 3)))) pss_nil)
      (pss_one (ps_ret (pe_tup (pa_cons (pe_tuple G.tuple (pe_lc (own := [("a", 4)]) (g := gName 4) (tt := tYes) rfl scMade.nd (pi_tup (pv 0)) (blkOk_by (N := nMade) (sc := defScope sMade) (by decide +kernel))
          (fun _ _ _ _ _ => pg_name (i := 4) scMade.nd rfl (.inl rfl)) (fun _ _ _ _ _ => pts_nil) (fun _ _ _ _ _ => pe_op (op_fdivA S.blk) (pv 4) (pv 3))))
        (pa_cons (pe_tuple G.tuple (pe_lc (own := [("a", 4)]) (g := gName 4) (tt := tYes) rfl scMade.nd (pi_tup (pv 1)) (blkOk_by (N := nMade) (sc := defScope sMade) (by decide +kernel))
          (fun _ _ _ _ _ => pg_name (i := 4) scMade.nd rfl (.inl rfl)) (fun _ _ _ _ _ => pts_nil) (fun _ _ _ _ _ => pe_op (op_fdivA S.blk) (pv 4) (pv 3)))) pa_nil))))))))), ?_⟩
    refine ⟨_, rfl, sz_of (by decide), fun t0 nt0 => ⟨p, [], hA.ex (Ex.new nt0), nilV, _, rfl, ?_⟩⟩
    have e0 : Ex H (upd H t0 (.tup [])) := Ex.new nt0
    generalize upd H t0 (.tup []) = H0 at e0
    rw [decide_eq_false hp]
    refine iteF ⟨_, rfl, _, rfl, x, y, p, q, 9999, 10, rfl, hA.ex e0, hB.ex e0, l1, l2, by decide, tp, tq, hq, n1, n2, by decide +kernel, fun sv H1 g e1 hg hG => ?_⟩
    obtain ⟨s, κ, t, b, hs, hκ, tt, tb, pt, qb, c1, c2⟩ := made_math tp tq hG.tr hG.ne hG.con hcr hcop hG.spn hG.d1 hG.d2
    have ht0 := (quot_len tp tt hG.tr hp hG.ne pt)
    have hb0 := (quot_len tq tb hG.tr hq hG.ne qb)
    have lg0 : 0 < g.length := List.length_pos_iff.mpr hG.ne
    have ng := hG.size
    have hpl : 9999 + 9999 + (9999 + 1) * pell 10 < 134217000 := by decide +kernel
    generalize (9999 + 1) * pell 10 = ep at ng hpl
    have nt : nrm t ≤ 2 ^ (9999 + 9999) := by
      rw [Nat.pow_add]
      exact Nat.le_trans (quo_bound tp hp tt ht0.1 hs hκ pt c1) (Nat.mul_le_mul n1 nT)
    have nb : nrm b ≤ 2 ^ (9999 + 9999) := by
      rw [Nat.pow_add]
      exact Nat.le_trans (quo_bound tq hq tb hb0.1 hs hκ qb c2) (Nat.mul_le_mul n2 nB)
    have hlt := ht0.2
    have hlb := hb0.2
    have lt0 : 0 < t.length := List.length_pos_iff.mpr ht0.1
    have lb0 : 0 < b.length := List.length_pos_iff.mpr hb0.1
    refine ⟨_, rfl, _, rfl, x, sv, p, g, t, _, _, rfl, hA.ex (e0.trans e1), hg, by omega, by omega, tp, hG.tr, tt, hp, hG.ne, pt, nt, ng, hpl, fun tv H2 e2 htv => ?_⟩
    refine ⟨_, rfl, _, rfl, y, sv, q, g, b, _, _, rfl, hB.ex ((e0.trans e1).trans e2), hg.ex e2, by omega, by omega, tq, hG.tr, tb, hq, hG.ne, qb, nb, ng, hpl, fun bv H3 e3 hbv => ?_⟩
    refine ⟨_, _, rfl, ?_⟩
    obtain ⟨ta, rfl, hTa⟩ := htv.ex e3
    obtain ⟨ba, rfl, hBa⟩ := hbv
    have e4 : Ex H H3 := ((e0.trans e1).trans e2).trans e3
    obtain ⟨f0, d1, d2, R⟩ := rep_of (f := if lead b < 0 then -(Nat.gcd (contN t) (contN b) : Int) else (Nat.gcd (contN t) (contN b) : Int)) hs hκ tt tb hb0.1 c1 c2 rfl
    refine ⟨_, rfl, _, t, rfl, ⟨ta, rfl, hTa⟩, _, rfl, _, b, rfl, ⟨ba, rfl, hBa⟩, _, _, rfl, ?_⟩
    have fin : ∀ fc : Int, fc = (if lead b < 0 then -(Nat.gcd (contN t) (contN b) : Int) else (Nat.gcd (contN t) (contN b) : Int)) →
        tRet (tTup (tCons (tCB (rTupS K) (tCons (tLc (iTup K (tVar 0)) (gName 4) tYes (tOp (rI (fun _ j => j ≠ 0) fun i j => .int (i.fdiv j)) (tVar 4) (tVar 3)) [4]) tNil)) (tCons (tCB (rTupS K) (tCons (tLc (iTup K (tVar 1)) (gName 4) tYes (tOp (rI (fun _ j => j ≠ 0) fun i j => .int (i.fdiv j)) (tVar 4) (tVar 3)) [4]) tNil)) tNil)))
          { nx := fun _ H' => Q .non H', rt := Q } [some (.ref ta), some (.ref ba), some sv, some (.int fc), none] H3 := fun fc hfc => by
      rw [← hfc] at f0 d1 d2 R
      refine ⟨_, rfl, ta, rfl, ⟨_, hTa⟩, fun D hD => ?_⟩
      refine lc_out t.length (fun i => .int ((co t i).fdiv fc)) (by omega) hD (fun i H' hi e => ⟨_, _, ex_t e hTa, ints_at hi⟩) (fun H' e => ⟨_, ex_t e hTa, by rw [List.length_map]; exact Nat.le_refl _⟩) (fun i H' x H2 hi e y => ?_) gName_mono (fun H' e hl => ?_)
      · obtain ⟨rfl, fx⟩ := y
        have ex := Option.some.inj ((fx _ (ex_t e hTa)).symm.trans (ints_at hi))
        subst ex
        exact ⟨rfl, fun R hR => ⟨_, rfl, _, rfl, _, _, rfl, rfl, f0, hR _ (Ex.refl _)⟩⟩
      · refine ⟨D, _, rfl, .inr (sq_ints hl), fun a2 H5 e5 hv2 => ?_⟩
        refine ⟨_, rfl, ba, rfl, ⟨_, ex_t (e.trans e5) hBa⟩, fun D2 hD2 => ?_⟩
        have e6 : Ex H3 H5 := e.trans e5
        refine lc_out b.length (fun i => .int ((co b i).fdiv fc)) (by omega) hD2 (fun i H' hi e => ⟨_, _, ex_t (e6.trans e) hBa, ints_at hi⟩) (fun H' e => ⟨_, ex_t (e6.trans e) hBa, by rw [List.length_map]; exact Nat.le_refl _⟩) (fun i H' x H2 hi e y => ?_) gName_mono (fun H' e hl => ?_)
        · obtain ⟨rfl, fx⟩ := y
          have ex := Option.some.inj ((fx _ (ex_t (e6.trans e) hBa)).symm.trans (ints_at hi))
          subst ex
          exact ⟨rfl, fun R hR => ⟨_, rfl, _, rfl, _, _, rfl, rfl, f0, hR _ (Ex.refl _)⟩⟩
        · refine ⟨D2, _, rfl, .inr (sq_ints hl), fun a3 H7 e7 hv3 => ⟨sz_of (by simp), fun Z nZ => ?_⟩⟩
          rw [divL_range] at hv2 hv3
          have e8 : Ex H5 H7 := e.trans e7
          exact k _ _ _ _ (((e4.trans e6).trans e8).trans (Ex.new nZ)) ⟨Z, _, _, rfl, st_of upd_same, PolyV.ex ⟨a2, rfl, hv2⟩ (e8.trans (Ex.new nZ)), PolyV.ex ⟨a3, rfl, hv3⟩ (Ex.new nZ)⟩ R
    refine ⟨_, rfl, _, rfl, ba, _, _, _, rfl, rfl, .inl hBa, atI_lead hb0.1, _, _, rfl, rfl, _, rfl, ?_⟩
    by_cases hn : lead b < 0
    · rw [decide_eq_true hn]
      refine iteT ⟨_, rfl, _, rfl, ?_⟩
      exact fin _ (by rw [if_pos hn]; rfl)
    · rw [decide_eq_false hn]
      exact iteF (fin _ (by rw [if_neg hn]; rfl))
end
end Kf
end

section
set_option Elab.async false
set_option linter.all false
set_option maxRecDepth 100000
set_option maxHeartbeats 4000000
namespace Kf
open PySem PySem.Spec PyProof.Rows L2 Lx Evl Pm RZ StX

/-! ### the module's constants that are tuples -/
structure Gc (K : PySem.W.Frag) (mg : Str → Option Value) : Prop where
  one : ∃ a, mg "ONE" = some (.ref a) ∧ ∀ H, FunV K H (.ref a) [1] [1]
  var : ∃ a, mg "VARIABLE" = some (.ref a) ∧ ∀ H, FunV K H (.ref a) [0, 1] [1]
  places : ∃ a, mg "PLACES" = some (.ref a) ∧ ∀ H, SqT K H a [.str "S", .str "P"]
  kinds : ∃ a, mg "KINDS" = some (.ref a) ∧ ∀ H, SqT K H a [.str "R", .str "L", .str "C"]

section
variable {w : World} {K : PySem.W.Frag} {mg : Str → Option Value} {base : Heap}

/-! ### is_int, is_in -/
abbrev sIsInt : Stmt := topS 10
theorem scIsInt : FnScope ["value"] ["value"] (defScope sIsInt) := ⟨rfl, rfl, rfl, by decide +kernel, rfl, by decide +kernel, by decide +kernel⟩
def spIsInt : Sp := fun vs H Q _ => ∃ (i : Int), vs = [.int i] ∧ Q (.bl true) H
theorem ok_isInt (D : DefAt K mg "is_int" sIsInt ["value"]) (G : Gl0 mg base) : Cal w K mg base 41 "is_int" ["value"] spIsInt := by
  refine Cal.mk D scIsInt (fun vs H Q E h => ?_) (fun f cdv A outer s H vs Q E hr h => ?_)
  · obtain ⟨i, rfl, _⟩ := h
    rfl
  · obtain ⟨i, rfl, k⟩ := h
    refine ⟨_, pss_one (ps_ret (pe_and (pe_callB call_isInt (by rfl) G.isinstance (by decide +kernel) (pa_cons (pv 0) (pa_cons (pe_bltn (v := .ty "int") (u := .type "int") (by rfl) G.int (by decide +kernel) rfl) pa_nil)))
      (pe_one (pe_not (pe_callB call_isInt (by rfl) G.isinstance (by decide +kernel) (pa_cons (pv 0) (pa_cons (pe_bltn (v := .ty "bool") (u := .type "bool") (by rfl) G.bool (by decide +kernel) rfl) pa_nil))))))), ?_⟩
    exact ⟨_, rfl, i, .inl ⟨rfl, true, rfl, iteT ⟨_, rfl, i, .inr ⟨rfl, false, rfl, k⟩⟩⟩⟩
abbrev sIsIn : Stmt := topS 11
theorem scIsIn : FnScope ["value", "least", "most"] ["value", "least", "most"] (defScope sIsIn) := ⟨rfl, rfl, rfl, by decide +kernel, rfl, by decide +kernel, by decide +kernel⟩
def spIsIn : Sp := fun vs H Q _ => ∃ (i l m : Int), vs = [.int i, .int l, .int m] ∧ l ≤ i ∧ i ≤ m ∧ Q (.bl true) H
theorem ok_isIn (D : DefAt K mg "is_in" sIsIn ["value", "least", "most"]) (C : Cal w K mg base 41 "is_int" ["value"] spIsInt) : Cal w K mg base 42 "is_in" ["value", "least", "most"] spIsIn := by
  refine Cal.mk D scIsIn (fun vs H Q E h => ?_) (fun f cdv A outer s H vs Q E hr h => ?_)
  · obtain ⟨i, l, m, rfl, _⟩ := h
    rfl
  · obtain ⟨i, l, m, rfl, h1, h2, k⟩ := h
    refine ⟨_, pss_one (ps_ret (pe_and (pe_callC rfl C hr (by decide) (pa_cons (pv 0) pa_nil)) (pe_one (pe_chain op_le op_le (pv 1) (pv 0) (pv 2))))), ?_⟩
    refine ⟨_, rfl, i, rfl, true, rfl, iteT ⟨_, rfl, _, rfl, _, _, rfl, rfl, _, rfl, ?_⟩⟩
    rw [decide_eq_true h1]
    refine iteT ⟨_, rfl, _, _, rfl, rfl, ?_⟩
    show Q (.bl (decide (i ≤ m))) H
    rw [decide_eq_true h2]
    exact k

/-! ### is_poly, need_poly -/
abbrev sIsPoly : Stmt := topS 16
theorem scIsPoly : FnScope ["value", "one"] ["value"] (defScope sIsPoly) := ⟨rfl, rfl, rfl, by decide +kernel, rfl, by decide +kernel, by decide +kernel⟩
/-- a polynomial, as the text asks it -/
def OkP (p : List Int) : Prop := Tr p ∧ p.length ≤ 10 ∧ ∀ i, -(10 ^ 60) ≤ co p i ∧ co p i ≤ 10 ^ 60
def spIsPoly (K : PySem.W.Frag) : Sp := fun vs H Q _ => ∃ (x : V) (p : List Int), vs = [x] ∧ PolyV K H x p ∧ OkP p ∧ ∀ H', Ex H H' → Q (.bl true) H'
theorem ok_isPoly (D : DefAt K mg "is_poly" sIsPoly ["value"]) (G : Gl0 mg base) (C : Cal w K mg base 42 "is_in" ["value", "least", "most"] spIsIn) : Cal w K mg base 43 "is_poly" ["value"] (spIsPoly K) := by
  obtain ⟨mt, hmost⟩ := G.most
  obtain ⟨dt, hdeg⟩ := G.deg
  refine Cal.mk D scIsPoly (fun vs H Q E h => ?_) (fun f cdv A outer s H vs Q E hr h => ?_)
  · obtain ⟨x, p, rfl, _⟩ := h
    rfl
  · obtain ⟨x, p, rfl, ⟨a, rfl, hA⟩, ⟨tp, lp, hp⟩, k⟩ := h
    refine ⟨_, pss_cons (ps_if (PW.pt (pw_or (pt_not (pt_val (pe_callB call_isTup (by rfl) G.isinstance (by decide +kernel) (pa_cons (pv 0) (pa_cons (pe_bltn (v := .ty "tuple") (u := .type "tuple") (by rfl) G.tuple (by decide +kernel) rfl) pa_nil)))))
        (pw_or1 (pt_cmpR op_gt (pe_len G.len (pv 0)) (pe_op op_add (pe_glob (v := .int 12) (by rfl) hdeg ⟨_, rfl⟩) pe_int) (nomark _))))) pss_never pss_nil)
      (pss_cons (ps_if (pt_not (pt_val (pe_callB (cr_all rfl) (by rfl) G.all (by decide +kernel) (pa_cons (pe_lc (own := [("one", 1)]) (g := gName 1) (tt := tYes) rfl scIsPoly.nd (pi_tup (pv 0)) (blkOk_by (N := ["value", "one"]) (sc := defScope sIsPoly) (by decide +kernel))
          (fun _ _ _ _ _ => pg_name (i := 1) scIsPoly.nd rfl (.inl rfl)) (fun _ _ _ _ _ => pts_nil) (fun _ _ _ _ _ => pe_callC rfl C hr (by decide) (pa_cons (pv 1) (pa_cons (pe_un un_neg (pe_glob (v := .int (10 ^ 60)) (by rfl) hmost ⟨_, rfl⟩)) (pa_cons (pe_glob (v := .int (10 ^ 60)) (by rfl) hmost ⟨_, rfl⟩) pa_nil))))) pa_nil)))) pss_never pss_nil)
      (pss_one (ps_ret (pe_or (pe_cmpR (op_eqP hr.units) (pv 0) (pe_tup pa_nil) (nomark _)) (pe_one (pe_cmpR op_ne (pe_at (pv 0) (pe_un un_neg pe_int)) pe_int (nomark _))))))), ?_⟩
    refine ⟨_, rfl, a, _, rfl, hA, true, rfl, iteF ⟨_, rfl, a, _, rfl, .inl hA, _, _, rfl, rfl, _, _, rfl, rfl, _, rfl, ?_⟩⟩
    rw [decide_eq_false (by rw [List.length_map]; omega)]
    refine iteF ⟨_, rfl, a, rfl, ⟨_, hA⟩, fun D hD => ?_⟩
    refine lc_out p.length (fun i => .bl true) (by omega) hD (fun i H' hi e => ⟨_, _, ex_t e hA, ints_at hi⟩) (fun H' e => ⟨_, ex_t e hA, by rw [List.length_map]; exact Nat.le_refl _⟩) (fun i H' x H2 hi e y => ?_) gName_mono (fun H' e hl => ?_)
    · obtain ⟨rfl, fx⟩ := y
      have ex := Option.some.inj ((fx _ (ex_t e hA)).symm.trans (ints_at hi))
      subst ex
      exact ⟨rfl, fun R hR => ⟨_, rfl, _, rfl, co p i, -(10 ^ 60), 10 ^ 60, rfl, (hp i).1, (hp i).2, hR _ (Ex.refl _)⟩⟩
    · have hb : ((List.range p.length).map fun _ => true).all id = true := by simp
      refine ⟨D, (List.range p.length).map fun _ => true, rfl, sq_of (by rw [hl, List.map_map]; rfl), _, rfl, ?_⟩
      rw [hb]
      refine iteF ⟨_, rfl, sz_of (by decide), fun t0 nt0 => ⟨p, [], ⟨a, rfl, ex_t (e.trans (Ex.new nt0)) hA⟩, nilV, _, rfl, ?_⟩⟩
      have e2 := e.trans (Ex.new (o := .tup []) nt0)
      by_cases hp0 : p = []
      · rw [decide_eq_true hp0]
        exact iteT (k _ e2)
      · rw [decide_eq_false hp0]
        refine iteF ⟨_, rfl, _, rfl, a, _, _, _, rfl, rfl, .inl (ex_t e2 hA), atI_lead hp0, rfl, ?_⟩
        rw [decide_eq_false (fun z => tp.lead hp0 (V.int.inj z))]
        exact k _ e2
abbrev sNeedPoly : Stmt := topS 17
theorem scNeedPoly : FnScope ["value"] ["value"] (defScope sNeedPoly) := ⟨rfl, rfl, rfl, by decide +kernel, rfl, by decide +kernel, by decide +kernel⟩
def spNeedPoly (K : PySem.W.Frag) : Sp := fun vs H Q _ => ∃ (x : V) (p : List Int), vs = [x] ∧ PolyV K H x p ∧ OkP p ∧ ∀ H', Ex H H' → Q .non H'
theorem ok_needPoly (D : DefAt K mg "need_poly" sNeedPoly ["value"]) (C : Cal w K mg base 43 "is_poly" ["value"] (spIsPoly K)) : Cal w K mg base 44 "need_poly" ["value"] (spNeedPoly K) := by
  refine Cal.mk D scNeedPoly (fun vs H Q E h => ?_) (fun f cdv A outer s H vs Q E hr h => ?_)
  · obtain ⟨x, p, rfl, _⟩ := h
    rfl
  · obtain ⟨x, p, rfl, hA, hp, k⟩ := h
    refine ⟨_, pss_one (ps_if (pt_not (pt_val (pe_callC rfl C hr (by decide) (pa_cons (pv 0) pa_nil)))) pss_never pss_nil), ?_⟩
    exact ⟨_, rfl, x, p, rfl, hA, hp, fun H' e => ⟨true, rfl, iteF (k H' e)⟩⟩
abbrev sNeedNz : Stmt := topS 45
theorem scNeedNz : FnScope ["value"] ["value"] (defScope sNeedNz) := ⟨rfl, rfl, rfl, by decide +kernel, rfl, by decide +kernel, by decide +kernel⟩
def spNeedNz (K : PySem.W.Frag) : Sp := fun vs H Q _ => ∃ (x : V) (p : List Int), vs = [x] ∧ PolyV K H x p ∧ OkP p ∧ p ≠ [] ∧ ∀ H', Ex H H' → Q .non H'
theorem ok_needNz (D : DefAt K mg "need_nonzero" sNeedNz ["value"]) (C : Cal w K mg base 44 "need_poly" ["value"] (spNeedPoly K)) : Cal w K mg base 45 "need_nonzero" ["value"] (spNeedNz K) := by
  refine Cal.mk D scNeedNz (fun vs H Q E h => ?_) (fun f cdv A outer s H vs Q E hr h => ?_)
  · obtain ⟨x, p, rfl, _⟩ := h
    rfl
  · obtain ⟨x, p, rfl, hA, hp, h0, k⟩ := h
    refine ⟨_, pss_cons (ps_expr (pe_callC rfl C hr (by decide) (pa_cons (pv 0) pa_nil))) (pss_one (ps_if (pt_cmpR (op_eqP hr.units) (pv 0) (pe_tup pa_nil) (nomark _)) pss_never pss_nil)), ?_⟩
    refine ⟨_, rfl, x, p, rfl, hA, hp, fun H1 e1 => ⟨_, rfl, sz_of (by decide), fun t0 nt0 => ⟨p, [], hA.ex (e1.trans (Ex.new nt0)), nilV, _, rfl, ?_⟩⟩⟩
    rw [decide_eq_false h0]
    exact iteF (k _ (e1.trans (Ex.new nt0)))

/-! ### small, function, made's callers -/
abbrev sSmall : Stmt := topS 36
theorem scSmall : FnScope ["one"] ["one"] (defScope sSmall) := ⟨rfl, rfl, rfl, by decide +kernel, rfl, by decide +kernel, by decide +kernel⟩
def spSmall (K : PySem.W.Frag) : Sp := fun vs H Q _ => ∃ (x : V) (t b : List Int), vs = [x] ∧ FunV K H x t b ∧ t.length ≤ 13 ∧ b.length ≤ 13 ∧ Q x H
theorem FunV.at {H : Hp} {x : V} {t b : List Int} (h : FunV K H x t b) : ∃ a y z, x = .ref a ∧ SqT K H a [y, z] ∧ PolyV K H y t ∧ PolyV K H z b := h
theorem at0 {y z : V} : atI [y, z] 0 = some y := rfl
theorem at1 {y z : V} : atI [y, z] 1 = some z := rfl
theorem ok_small (D : DefAt K mg "small" sSmall ["one"]) (G : Gl0 mg base) : Cal w K mg base 41 "small" ["one"] (spSmall K) := by
  obtain ⟨dt, hdeg⟩ := G.deg
  refine Cal.mk D scSmall (fun vs H Q E h => ?_) (fun f cdv A outer s H vs Q E hr h => ?_)
  · obtain ⟨x, p, q, rfl, _⟩ := h
    rfl
  · obtain ⟨x, t, b, rfl, ⟨a, y, z, rfl, hA, ⟨ta, rfl, ht⟩, ⟨ba, rfl, hb⟩⟩, l1, l2, k⟩ := h
    refine ⟨_, pss_cons (ps_if (pt_cmpR op_gt (pe_callB (call_max2 rfl) (by rfl) G.max (by decide +kernel) (pa_cons (pe_len G.len (pe_at (pv 0) pe_int)) (pa_cons (pe_len G.len (pe_at (pv 0) pe_int)) pa_nil))) (pe_op op_add (pe_glob (v := .int 12) (by rfl) hdeg ⟨_, rfl⟩) pe_int) (nomark _)) pss_never pss_nil)
      (pss_one (ps_ret (pv 0))), ?_⟩
    refine ⟨_, rfl, a, _, _, _, rfl, rfl, .inl hA, at0, ta, _, rfl, .inl ht, _, rfl, a, _, _, _, rfl, rfl, .inl hA, at1, ba, _, rfl, .inl hb, _, _, rfl, _, _, rfl, rfl, _, _, rfl, rfl, _, rfl, ?_⟩
    rw [decide_eq_false (by rw [List.length_map, List.length_map]; split <;> omega)]
    exact iteF ⟨_, rfl, k⟩
abbrev sFunction : Stmt := topS 37
theorem scFunction : FnScope ["top", "bottom"] ["top", "bottom"] (defScope sFunction) := ⟨rfl, rfl, rfl, by decide +kernel, rfl, by decide +kernel, by decide +kernel⟩
def spFunction (K : PySem.W.Frag) : Sp := fun vs H Q E => (∃ (x y : V) (p q : List Int), vs = [x, y] ∧ PolyV K H x p ∧ PolyV K H y q ∧ OkP p ∧ OkP q ∧ q ≠ []) ∧ ∀ H', Ex H H' → spMade K vs H' (fun v H2 => Q v H2) E
end
end Kf
end

section
set_option Elab.async false
set_option linter.all false
set_option maxRecDepth 100000
set_option maxHeartbeats 4000000
namespace Kf
open PySem PySem.Spec PyProof.Rows L2 Lx Evl Pm RZ StX

theorem times_len {p q : List Int} {n : Nat} (h : p.length + q.length ≤ n + 1) : (times p q).length ≤ n := by
  refine tr_len (tr_times p q) fun i hi => ?_
  unfold times
  split
  · exact co_nil i
  · rw [co_trim]; exact mulL_out (by omega)
theorem plus_len {p q : List Int} {n : Nat} (h1 : p.length ≤ n) (h2 : q.length ≤ n) : (plus p q).length ≤ n := by
  refine Nat.le_trans (trim_len _) ?_
  rw [addL_len]
  omega
theorem minus_len {p q : List Int} {n : Nat} (h1 : p.length ≤ n) (h2 : q.length ≤ n) : (minus p q).length ≤ n :=
  plus_len h1 (Nat.le_trans (trim_len _) (by rw [smul, List.length_map]; exact h2))
theorem nrm_times_le {p q : List Int} {m n : Nat} (h1 : nrm p ≤ 2 ^ m) (h2 : nrm q ≤ 2 ^ n) : nrm (times p q) ≤ 2 ^ (m + n) := by
  rw [Nat.pow_add]
  exact Nat.le_trans (nrm_times p q) (Nat.mul_le_mul h1 h2)
theorem pow_up {m n : Nat} (h : m ≤ n) : 2 ^ m ≤ 2 ^ n := Nat.pow_le_pow_right (by decide) h
theorem pow_two {a b m : Nat} (h1 : a ≤ 2 ^ m) (h2 : b ≤ 2 ^ m) : a + b ≤ 2 ^ (m + 1) := by rw [Nat.pow_succ]; omega
theorem nrm_bound : ∀ {p : List Int} {M : Nat}, (∀ i, (co p i).natAbs ≤ M) → nrm p ≤ p.length * M
  | [], _, _ => Nat.zero_le _
  | a :: p, M, h => by
    have ih := nrm_bound (p := p) (M := M) fun i => by have := h (i + 1); rw [co_succ] at this; exact this
    have h0 := h 0
    rw [co_zero] at h0
    rw [nrm_cons, List.length_cons, Nat.add_mul, Nat.one_mul]
    omega
theorem OkP.sm {p : List Int} (h : OkP p) : Sm p := by
  refine ⟨h.2.1, ?_⟩
  have h1 := nrm_bound (p := p) (M := 10 ^ 60) fun i => by have := h.2.2 i; omega
  have h2 := Nat.mul_le_mul_right (10 ^ 60) h.2.1
  have h3 : 10 * 10 ^ 60 ≤ 2 ^ 210 := by decide
  have h4 : 2 ^ 210 ≤ 2 ^ 9999 := pow_up (by decide)
  omega
theorem OkP.tr {p : List Int} (h : OkP p) : Tr p := h.1

/-- a function with its sizes -/
structure FW (K : PySem.W.Frag) (H : Hp) (x : V) (t b : List Int) (L m : Nat) : Prop where
  v : FunV K H x t b
  l1 : t.length ≤ L
  l2 : b.length ≤ L
  n1 : nrm t ≤ 2 ^ m
  n2 : nrm b ≤ 2 ^ m
  t1 : Tr t
  t2 : Tr b
  ne : b ≠ []
theorem FW.ex {K : PySem.W.Frag} {H H' : Hp} {x : V} {t b : List Int} {L m : Nat} (h : FW K H x t b L m) (e : Ex H H') : FW K H' x t b L m := { h with v := h.v.ex e }
theorem _root_.Pm.Rep.len1 {F1 F2 T B : List Int} (h : Rep F1 F2 T B) {n : Nat} (hn : T.length ≤ n) : F1.length ≤ n := by
  obtain ⟨κ, hk, h1, h2⟩ := h.fac
  refine tr_len h.tr1 fun i hi => ?_
  have := h1 i
  rw [co_out (by omega)] at this
  exact (Int.mul_eq_zero.mp this.symm).resolve_left hk
theorem _root_.Pm.Rep.len2 {F1 F2 T B : List Int} (h : Rep F1 F2 T B) {n : Nat} (hn : B.length ≤ n) : F2.length ≤ n := by
  obtain ⟨κ, hk, h1, h2⟩ := h.fac
  refine tr_len h.tr2 fun i hi => ?_
  have := h2 i
  rw [co_out (by omega)] at this
  exact (Int.mul_eq_zero.mp this.symm).resolve_left hk
theorem _root_.Pm.Rep.fw {K : PySem.W.Frag} {H : Hp} {x : V} {F1 F2 T B : List Int} (h : Rep F1 F2 T B) (hv : FunV K H x F1 F2) {L m : Nat} (l1 : T.length ≤ L) (l2 : B.length ≤ L) (n1 : nrm T ≤ 2 ^ m) (n2 : nrm B ≤ 2 ^ m) : FW K H x F1 F2 L m :=
  ⟨hv, h.len1 l1, h.len2 l2, Nat.le_trans h.nrm1 n1, Nat.le_trans h.nrm2 n2, h.tr1, h.tr2, h.ne2⟩
theorem ne_of_cross {p q T B : List Int} (hp : Tr p) (hq : Tr q) (hq0 : q ≠ []) (hc : ∀ x, ev p x * ev B x = ev q x * ev T x) (hT : ∃ x, ev T x ≠ 0) : p ≠ [] := fun z => by
  rw [z] at hc
  rcases ev_mul_zero (p := q) (q := T) fun x => by rw [← hc x]; show 0 * _ = _; omega with h | h
  · exact hq0 ((nil_iff_ev hq).mpr h)
  · obtain ⟨x, hx⟩ := hT
    exact hx (h x)
theorem times_ne {p q : List Int} (hp : Tr p) (hq : Tr q) (h1 : p ≠ []) (h2 : q ≠ []) : times p q ≠ [] := fun z => by
  rcases ev_mul_zero (p := p) (q := q) fun x => by rw [← ev_times, z]; rfl with h | h
  · exact h1 ((nil_iff_ev hp).mpr h)
  · exact h2 ((nil_iff_ev hq).mpr h)

section
variable {w : World} {K : PySem.W.Frag} {mg : Str → Option Value} {base : Heap}
/-- a call of made within reach: the pair (T, B) -/
def Goes (K : PySem.W.Frag) (H : Hp) (Q : VK) (T B : List Int) : Prop := Cop T B ∧ nrm T ≤ 2 ^ 9999 ∧ nrm B ≤ 2 ^ 9999 ∧ (∃ x, ev T x ≠ 0) ∧ ∀ v H' F1 F2, Ex H H' → FunV K H' v F1 F2 → Rep F1 F2 T B → Q v H'
def spBin (K : PySem.W.Frag) (fT fB : Int → Int → Int → Int → Int) : Sp := fun vs H Q _ => ∃ (x y : V) (t1 b1 t2 b2 : List Int) (L1 L2 m1 m2 : Nat) (T B : List Int), vs = [x, y] ∧ FW K H x t1 b1 L1 m1 ∧ FW K H y t2 b2 L2 m2 ∧ L1 + L2 ≤ 11 ∧ m1 + m2 + 1 ≤ 9999 ∧
  (∀ x, fT (ev t1 x) (ev b1 x) (ev t2 x) (ev b2 x) * ev B x = fB (ev t1 x) (ev b1 x) (ev t2 x) (ev b2 x) * ev T x) ∧ Goes K H Q T B
theorem Goes.ex {H H' : Hp} {Q : VK} {T B : List Int} (h : Goes K H Q T B) (e : Ex H H') : Goes K H' Q T B := ⟨h.1, h.2.1, h.2.2.1, h.2.2.2.1, fun v H2 F1 F2 e2 => h.2.2.2.2 v H2 F1 F2 (e.trans e2)⟩

/-! ### function -/
abbrev sFunction' : Stmt := topS 37
def spFunction' (K : PySem.W.Frag) : Sp := fun vs H Q _ => ∃ (x y : V) (p q T B : List Int), vs = [x, y] ∧ PolyV K H x p ∧ PolyV K H y q ∧ OkP p ∧ OkP q ∧ q ≠ [] ∧ (∀ x, ev p x * ev B x = ev q x * ev T x) ∧ Goes K H Q T B
theorem ok_function (D : DefAt K mg "function" sFunction ["top", "bottom"]) (Cn : Cal w K mg base 44 "need_poly" ["value"] (spNeedPoly K)) (Cm : Cal w K mg base 46 "made" ["top", "bottom"] (spMade K)) : Cal w K mg base 47 "function" ["top", "bottom"] (spFunction' K) := by
  refine Cal.mk D scFunction (fun vs H Q E h => ?_) (fun f cdv A outer s H vs Q E hr h => ?_)
  · obtain ⟨x, y, p, q, T, B, rfl, _⟩ := h
    rfl
  · obtain ⟨x, y, p, q, T, B, rfl, hA, hB, op, oq, hq, hc, cop, nT, nB, hT, k⟩ := h
    refine ⟨_, pss_cons (ps_expr (pe_callC rfl Cn hr (by decide) (pa_cons (pv 0) pa_nil))) (pss_cons (ps_expr (pe_callC rfl Cn hr (by decide) (pa_cons (pv 1) pa_nil)))
      (pss_cons (ps_if (pt_cmpR (op_eqP hr.units) (pv 1) (pe_tup pa_nil) (nomark _)) pss_never pss_nil) (pss_one (ps_ret (pe_callC rfl Cm hr (by decide) (pa_cons (pv 0) (pa_cons (pv 1) pa_nil))))))), ?_⟩
    refine ⟨_, rfl, x, p, rfl, hA, op, fun H1 e1 => ⟨_, rfl, y, q, rfl, hB.ex e1, oq, fun H2 e2 => ⟨_, rfl, sz_of (by decide), fun t0 nt0 => ⟨q, [], hB.ex ((e1.trans e2).trans (Ex.new nt0)), nilV, _, rfl, ?_⟩⟩⟩⟩
    have e3 : Ex H (upd H2 t0 (.tup [])) := (e1.trans e2).trans (Ex.new nt0)
    rw [decide_eq_false hq]
    exact iteF ⟨_, rfl, _, rfl, x, y, p, q, T, B, rfl, hA.ex e3, hB.ex e3, op.sm, oq.sm, op.tr, oq.tr, ne_of_cross op.tr oq.tr hq hc hT, hq, cop, nT, nB, hc, fun v H4 F1 F2 e4 => k v H4 F1 F2 (e3.trans e4)⟩

/-! ### plus_of, minus_of, times_of -/
abbrev sPlusOf : Stmt := topS 39
abbrev nTop : List Str := ["one", "other", "top"]
theorem scPlusOf : FnScope nTop ["one", "other"] (defScope sPlusOf) := ⟨rfl, rfl, rfl, by decide +kernel, rfl, by decide +kernel, by decide +kernel⟩
theorem ok_plusOf (D : DefAt K mg "plus_of" sPlusOf ["one", "other"]) (Ct : Cal w K mg base 42 "poly_times" ["one", "other"] (spTimes K)) (Cp : Cal w K mg base 42 "poly_plus" ["one", "other"] (sp2 K plus)) (Cm : Cal w K mg base 46 "made" ["top", "bottom"] (spMade K)) :
    Cal w K mg base 47 "plus_of" ["one", "other"] (spBin K (fun t1 b1 t2 b2 => t1 * b2 + t2 * b1) fun _ b1 _ b2 => b1 * b2) := by
  refine Cal.mk D scPlusOf (fun vs H Q E h => ?_) (fun f cdv A outer s H vs Q E hr h => ?_)
  · obtain ⟨x, y, t1, b1, t2, b2, L1, L2, m1, m2, T, B, rfl, _⟩ := h
    rfl
  · obtain ⟨x, y, t1, b1, t2, b2, L1, L2, m1, m2, T, B, rfl, h1, h2, hL, hm, hc, G⟩ := h
    refine ⟨_, pss_cons (ps_set (i := 2) scPlusOf.nd rfl (.inl rfl) (pe_callC rfl Cp hr (by decide) (pa_cons (pe_callC rfl Ct hr (by decide) (pa_cons (pe_at (pv 0) pe_int) (pa_cons (pe_at (pv 1) pe_int) pa_nil))) (pa_cons (pe_callC rfl Ct hr (by decide) (pa_cons (pe_at (pv 1) pe_int) (pa_cons (pe_at (pv 0) pe_int) pa_nil))) pa_nil))))
      (pss_one (ps_ret (pe_callC rfl Cm hr (by decide) (pa_cons (pv 2) (pa_cons (pe_callC rfl Ct hr (by decide) (pa_cons (pe_at (pv 0) pe_int) (pa_cons (pe_at (pv 1) pe_int) pa_nil))) pa_nil))))), ?_⟩
    have f1 := h1
    have f2 := h2
    obtain ⟨⟨a, y1, z1, rfl, hA, hy1, hz1⟩, l1, l2, n1, n2, r1, r2, ne1⟩ := h1
    obtain ⟨⟨c, y2, z2, rfl, hC, hy2, hz2⟩, l3, l4, n3, n4, r3, r4, ne2⟩ := h2
    refine ⟨_, rfl, a, _, _, _, rfl, rfl, .inl hA, at0, _, rfl, c, _, _, _, rfl, rfl, .inl hC, at1, y1, z2, t1, b2, rfl, hy1, hz2, by omega, by omega, cmul_co n1 n4 (by omega), fun v1 H1 e1 hv1 => ?_⟩
    refine ⟨_, rfl, c, _, _, _, rfl, rfl, .inl (ex_t e1 hC), at0, _, rfl, a, _, _, _, rfl, rfl, .inl (ex_t e1 hA), at1, y2, z1, t2, b1, rfl, hy2.ex e1, hz1.ex e1, by omega, by omega, cmul_co n3 n2 (by omega), fun v2 H2 e2 hv2 => ?_⟩
    have s1 := times_len (p := t1) (q := b2) (n := 10) (by omega)
    have s2 := times_len (p := t2) (q := b1) (n := 10) (by omega)
    have s3 := times_len (p := b1) (q := b2) (n := 10) (by omega)
    refine ⟨v1, v2, _, _, rfl, hv1.ex e2, hv2, by omega, by omega, fun v3 H3 e3 hv3 => ?_⟩
    have e13 := (e1.trans e2).trans e3
    refine ⟨_, rfl, _, rfl, a, _, _, _, rfl, rfl, .inl (ex_t e13 hA), at1, _, rfl, c, _, _, _, rfl, rfl, .inl (ex_t e13 hC), at1, z1, z2, b1, b2, rfl, hz1.ex e13, hz2.ex e13, by omega, by omega, cmul_co n2 n4 (by omega), fun v4 H4 e4 hv4 => ?_⟩
    obtain ⟨cop, nT, nB, hT, k⟩ := G
    have hc' : ∀ x, ev (plus (times t1 b2) (times t2 b1)) x * ev B x = ev (times b1 b2) x * ev T x := fun x => by
      rw [ev_plus, ev_times, ev_times, ev_times]; exact hc x
    refine ⟨v3, v4, _, _, T, B, rfl, hv3.ex e4, hv4, ⟨plus_len s1 s2, ?_⟩, ⟨s3, ?_⟩, tr_plus _ _, tr_times _ _, ne_of_cross (tr_plus _ _) (tr_times _ _) (times_ne r2 r4 ne1 ne2) hc' hT, times_ne r2 r4 ne1 ne2, cop, nT, nB, hc', fun v H' F1 F2 e5 => k v H' F1 F2 ((e13.trans e4).trans e5)⟩
    · exact Nat.le_trans (nrm_plus _ _) (Nat.le_trans (pow_two (nrm_times_le n1 n4) (by rw [Nat.add_comm m1]; exact nrm_times_le n3 n2)) (pow_up hm))
    · exact Nat.le_trans (nrm_times_le n2 n4) (pow_up (by omega))
abbrev sMinusOf : Stmt := topS 40
theorem scMinusOf : FnScope nTop ["one", "other"] (defScope sMinusOf) := ⟨rfl, rfl, rfl, by decide +kernel, rfl, by decide +kernel, by decide +kernel⟩
theorem ok_minusOf (D : DefAt K mg "minus_of" sMinusOf ["one", "other"]) (Ct : Cal w K mg base 42 "poly_times" ["one", "other"] (spTimes K)) (Cp : Cal w K mg base 43 "poly_minus" ["one", "other"] (spMinus K)) (Cm : Cal w K mg base 46 "made" ["top", "bottom"] (spMade K)) :
    Cal w K mg base 47 "minus_of" ["one", "other"] (spBin K (fun t1 b1 t2 b2 => t1 * b2 - t2 * b1) fun _ b1 _ b2 => b1 * b2) := by
  refine Cal.mk D scMinusOf (fun vs H Q E h => ?_) (fun f cdv A outer s H vs Q E hr h => ?_)
  · obtain ⟨x, y, t1, b1, t2, b2, L1, L2, m1, m2, T, B, rfl, _⟩ := h
    rfl
  · obtain ⟨x, y, t1, b1, t2, b2, L1, L2, m1, m2, T, B, rfl, h1, h2, hL, hm, hc, G⟩ := h
    refine ⟨_, pss_cons (ps_set (i := 2) scMinusOf.nd rfl (.inl rfl) (pe_callC rfl Cp hr (by decide) (pa_cons (pe_callC rfl Ct hr (by decide) (pa_cons (pe_at (pv 0) pe_int) (pa_cons (pe_at (pv 1) pe_int) pa_nil))) (pa_cons (pe_callC rfl Ct hr (by decide) (pa_cons (pe_at (pv 1) pe_int) (pa_cons (pe_at (pv 0) pe_int) pa_nil))) pa_nil))))
      (pss_one (ps_ret (pe_callC rfl Cm hr (by decide) (pa_cons (pv 2) (pa_cons (pe_callC rfl Ct hr (by decide) (pa_cons (pe_at (pv 0) pe_int) (pa_cons (pe_at (pv 1) pe_int) pa_nil))) pa_nil))))), ?_⟩
    obtain ⟨⟨a, y1, z1, rfl, hA, hy1, hz1⟩, l1, l2, n1, n2, r1, r2, ne1⟩ := h1
    obtain ⟨⟨c, y2, z2, rfl, hC, hy2, hz2⟩, l3, l4, n3, n4, r3, r4, ne2⟩ := h2
    refine ⟨_, rfl, a, _, _, _, rfl, rfl, .inl hA, at0, _, rfl, c, _, _, _, rfl, rfl, .inl hC, at1, y1, z2, t1, b2, rfl, hy1, hz2, by omega, by omega, cmul_co n1 n4 (by omega), fun v1 H1 e1 hv1 => ?_⟩
    refine ⟨_, rfl, c, _, _, _, rfl, rfl, .inl (ex_t e1 hC), at0, _, rfl, a, _, _, _, rfl, rfl, .inl (ex_t e1 hA), at1, y2, z1, t2, b1, rfl, hy2.ex e1, hz1.ex e1, by omega, by omega, cmul_co n3 n2 (by omega), fun v2 H2 e2 hv2 => ?_⟩
    have s1 := times_len (p := t1) (q := b2) (n := 10) (by omega)
    have s2 := times_len (p := t2) (q := b1) (n := 10) (by omega)
    have s3 := times_len (p := b1) (q := b2) (n := 10) (by omega)
    have nm : nrm (times t2 b1) ≤ 2 ^ (m1 + m2) := by rw [Nat.add_comm m1]; exact nrm_times_le n3 n2
    refine ⟨v1, v2, _, _, rfl, hv1.ex e2, hv2, by omega, by omega, cmul_neg nm (by omega), fun v3 H3 e3 hv3 => ?_⟩
    have e13 := (e1.trans e2).trans e3
    refine ⟨_, rfl, _, rfl, a, _, _, _, rfl, rfl, .inl (ex_t e13 hA), at1, _, rfl, c, _, _, _, rfl, rfl, .inl (ex_t e13 hC), at1, z1, z2, b1, b2, rfl, hz1.ex e13, hz2.ex e13, by omega, by omega, cmul_co n2 n4 (by omega), fun v4 H4 e4 hv4 => ?_⟩
    obtain ⟨cop, nT, nB, hT, k⟩ := G
    have hc' : ∀ x, ev (minus (times t1 b2) (times t2 b1)) x * ev B x = ev (times b1 b2) x * ev T x := fun x => by
      rw [ev_minus, ev_times, ev_times, ev_times]; exact hc x
    refine ⟨v3, v4, _, _, T, B, rfl, hv3.ex e4, hv4, ⟨minus_len s1 s2, ?_⟩, ⟨s3, ?_⟩, tr_minus _ _, tr_times _ _, ne_of_cross (tr_minus _ _) (tr_times _ _) (times_ne r2 r4 ne1 ne2) hc' hT, times_ne r2 r4 ne1 ne2, cop, nT, nB, hc', fun v H' F1 F2 e5 => k v H' F1 F2 ((e13.trans e4).trans e5)⟩
    · exact Nat.le_trans (nrm_minus _ _) (Nat.le_trans (pow_two (nrm_times_le n1 n4) nm) (pow_up hm))
    · exact Nat.le_trans (nrm_times_le n2 n4) (pow_up (by omega))
abbrev sTimesOf : Stmt := topS 41
abbrev nTwo : List Str := ["one", "other"]
theorem scTimesOf : FnScope nTwo ["one", "other"] (defScope sTimesOf) := ⟨rfl, rfl, rfl, by decide +kernel, rfl, by decide +kernel, by decide +kernel⟩
theorem ok_timesOf (D : DefAt K mg "times_of" sTimesOf ["one", "other"]) (Ct : Cal w K mg base 42 "poly_times" ["one", "other"] (spTimes K)) (Cm : Cal w K mg base 46 "made" ["top", "bottom"] (spMade K)) :
    Cal w K mg base 47 "times_of" ["one", "other"] (spBin K (fun t1 b1 t2 b2 => t1 * t2) fun _ b1 _ b2 => b1 * b2) := by
  refine Cal.mk D scTimesOf (fun vs H Q E h => ?_) (fun f cdv A outer s H vs Q E hr h => ?_)
  · obtain ⟨x, y, t1, b1, t2, b2, L1, L2, m1, m2, T, B, rfl, _⟩ := h
    rfl
  · obtain ⟨x, y, t1, b1, t2, b2, L1, L2, m1, m2, T, B, rfl, h1, h2, hL, hm, hc, G⟩ := h
    refine ⟨_, (pss_one (ps_ret (pe_callC rfl Cm hr (by decide) (pa_cons (pe_callC rfl Ct hr (by decide) (pa_cons (pe_at (pv 0) pe_int) (pa_cons (pe_at (pv 1) pe_int) pa_nil))) (pa_cons (pe_callC rfl Ct hr (by decide) (pa_cons (pe_at (pv 0) pe_int) (pa_cons (pe_at (pv 1) pe_int) pa_nil))) pa_nil))))), ?_⟩
    obtain ⟨⟨a, y1, z1, rfl, hA, hy1, hz1⟩, l1, l2, n1, n2, r1, r2, ne1⟩ := h1
    obtain ⟨⟨c, y2, z2, rfl, hC, hy2, hz2⟩, l3, l4, n3, n4, r3, r4, ne2⟩ := h2
    refine ⟨_, rfl, a, _, _, _, rfl, rfl, .inl hA, at0, _, rfl, c, _, _, _, rfl, rfl, .inl hC, at0, y1, y2, t1, t2, rfl, hy1, hy2, by omega, by omega, cmul_co n1 n3 (by omega), fun v1 H1 e1 hv1 => ?_⟩
    refine ⟨_, rfl, a, _, _, _, rfl, rfl, .inl (ex_t e1 hA), at1, _, rfl, c, _, _, _, rfl, rfl, .inl (ex_t e1 hC), at1, z1, z2, b1, b2, rfl, hz1.ex e1, hz2.ex e1, by omega, by omega, cmul_co n2 n4 (by omega), fun v2 H2 e2 hv2 => ?_⟩
    have s1 := times_len (p := t1) (q := t2) (n := 10) (by omega)
    have s3 := times_len (p := b1) (q := b2) (n := 10) (by omega)
    obtain ⟨cop, nT, nB, hT, k⟩ := G
    have hc' : ∀ x, ev (times t1 t2) x * ev B x = ev (times b1 b2) x * ev T x := fun x => by
      rw [ev_times, ev_times]; exact hc x
    refine ⟨v1, v2, _, _, T, B, rfl, hv1.ex e2, hv2, ⟨s1, ?_⟩, ⟨s3, ?_⟩, tr_times _ _, tr_times _ _, ne_of_cross (tr_times _ _) (tr_times _ _) (times_ne r2 r4 ne1 ne2) hc' hT, times_ne r2 r4 ne1 ne2, cop, nT, nB, hc', fun v H' F1 F2 e5 => k v H' F1 F2 ((e1.trans e2).trans e5)⟩
    · exact Nat.le_trans (nrm_times_le n1 n3) (pow_up (by omega))
    · exact Nat.le_trans (nrm_times_le n2 n4) (pow_up (by omega))

/-! ### back_of, over_of -/
abbrev sBackOf : Stmt := topS 42
theorem scBackOf : FnScope ["one"] ["one"] (defScope sBackOf) := ⟨rfl, rfl, rfl, by decide +kernel, rfl, by decide +kernel, by decide +kernel⟩
def spBack (K : PySem.W.Frag) : Sp := fun vs H Q _ => ∃ (x : V) (t b : List Int) (m : Nat) (T B : List Int), vs = [x] ∧ FW K H x t b 10 m ∧ m ≤ 9999 ∧ t ≠ [] ∧ (∀ x, ev b x * ev B x = ev t x * ev T x) ∧ Goes K H Q T B
theorem ok_backOf (D : DefAt K mg "back_of" sBackOf ["one"]) (Cm : Cal w K mg base 46 "made" ["top", "bottom"] (spMade K)) : Cal w K mg base 47 "back_of" ["one"] (spBack K) := by
  refine Cal.mk D scBackOf (fun vs H Q E h => ?_) (fun f cdv A outer s H vs Q E hr h => ?_)
  · obtain ⟨x, t, b, m, T, B, rfl, _⟩ := h
    rfl
  · obtain ⟨x, t, b, m, T, B, rfl, h1, hm, ht, hc, cop, nT, nB, hT, k⟩ := h
    refine ⟨_, (pss_one (ps_ret (pe_callC rfl Cm hr (by decide) (pa_cons (pe_at (pv 0) pe_int) (pa_cons (pe_at (pv 0) pe_int) pa_nil))))), ?_⟩
    obtain ⟨⟨a, y1, z1, rfl, hA, hy1, hz1⟩, l1, l2, n1, n2, r1, r2, ne1⟩ := h1
    exact ⟨_, rfl, a, _, _, _, rfl, rfl, .inl hA, at1, _, rfl, a, _, _, _, rfl, rfl, .inl hA, at0, z1, y1, b, t, T, B, rfl, hz1, hy1, ⟨l2, Nat.le_trans n2 (pow_up hm)⟩, ⟨l1, Nat.le_trans n1 (pow_up hm)⟩, r2, r1, ne1, ht, cop, nT, nB, hc, k⟩
abbrev sOverOf : Stmt := topS 43
theorem scOverOf : FnScope nTwo ["one", "other"] (defScope sOverOf) := ⟨rfl, rfl, rfl, by decide +kernel, rfl, by decide +kernel, by decide +kernel⟩
def spOver (K : PySem.W.Frag) : Sp := fun vs H Q _ => ∃ (x y : V) (t1 b1 t2 b2 : List Int) (L1 L2 m1 m2 : Nat) (T B : List Int), vs = [x, y] ∧ FW K H x t1 b1 L1 m1 ∧ FW K H y t2 b2 L2 m2 ∧ L1 + L2 ≤ 11 ∧ 1 ≤ L1 ∧ m1 + m2 + 1 ≤ 9999 ∧ Cop t2 b2 ∧ t2 ≠ [] ∧
  (∀ x, ev t1 x * ev b2 x * ev B x = ev b1 x * ev t2 x * ev T x) ∧ Goes K H Q T B
theorem _root_.Pm.Cop.swap {T B : List Int} (h : Cop T B) : Cop B T := let ⟨m, hm, u, v, e⟩ := h; ⟨m, hm, v, u, fun x => by rw [← e x]; omega⟩
theorem ev_ne_of {p : List Int} (hp : Tr p) (h : p ≠ []) : ∃ x, ev p x ≠ 0 := Classical.byContradiction fun hn => h ((nil_iff_ev hp).mpr fun x => Classical.byContradiction fun hx => hn ⟨x, hx⟩)
theorem ok_overOf (D : DefAt K mg "over_of" sOverOf ["one", "other"]) (Ct : Cal w K mg base 47 "times_of" ["one", "other"] (spBin K (fun t1 b1 t2 b2 => t1 * t2) fun _ b1 _ b2 => b1 * b2)) (Cb : Cal w K mg base 47 "back_of" ["one"] (spBack K)) :
    Cal w K mg base 48 "over_of" ["one", "other"] (spOver K) := by
  refine Cal.mk D scOverOf (fun vs H Q E h => ?_) (fun f cdv A outer s H vs Q E hr h => ?_)
  · obtain ⟨x, y, t1, b1, t2, b2, L1, L2, m1, m2, T, B, rfl, _⟩ := h
    rfl
  · obtain ⟨x, y, t1, b1, t2, b2, L1, L2, m1, m2, T, B, rfl, h1, h2, hL, hL1, hm, hcp, ht2, hc, G⟩ := h
    refine ⟨_, pss_one (ps_ret (pe_callC rfl Ct hr (by decide) (pa_cons (pv 0) (pa_cons (pe_callC rfl Cb hr (by decide) (pa_cons (pv 1) pa_nil)) pa_nil)))), ?_⟩
    refine ⟨_, rfl, _, rfl, y, t2, b2, m2, b2, t2, rfl, { h2 with l1 := Nat.le_trans h2.l1 (by omega), l2 := Nat.le_trans h2.l2 (by omega) }, by omega, ht2, fun x => by rw [Int.mul_comm], hcp.swap, Nat.le_trans h2.n2 (pow_up (by omega)), Nat.le_trans h2.n1 (pow_up (by omega)), ev_ne_of h2.t2 h2.ne, fun v H1 F1 F2 e1 hv R => ?_⟩
    refine ⟨x, v, t1, b1, F1, F2, L1, L2, m1, m2, T, B, rfl, h1.ex e1, R.fw hv h2.l2 h2.l1 h2.n2 h2.n1, hL, hm, fun x => ?_, G.ex e1⟩
    obtain ⟨κ, hk, k1, k2⟩ := R.ev1
    have := hc x
    rw [k1, k2] at this
    have h3 : κ * (ev t1 x * ev F1 x * ev B x) = κ * (ev b1 x * ev F2 x * ev T x) := by grind
    exact Int.eq_of_mul_eq_mul_left hk h3
end
end Kf
end

section
set_option Elab.async false
set_option linter.all false
set_option maxRecDepth 100000
set_option maxHeartbeats 4000000
namespace Kf
open PySem PySem.Spec PyProof.Rows L2 Lx Evl Pm RZ StX

section
variable {w : World} {K : PySem.W.Frag} {mg : Str → Option Value} {base : Heap}
def RungV (K : PySem.W.Frag) (H : Hp) (v : V) (pl kd : Str) (n d : Int) : Prop := ∃ a y, v = .ref a ∧ SqT K H a [.str pl, .str kd, y] ∧ RatV K H y n d
theorem RungV.ex {H H' : Hp} {v : V} {pl kd : Str} {n d : Int} (h : RungV K H v pl kd n d) (e : Ex H H') : RungV K H' v pl kd n d := let ⟨a, y, r, s, t⟩ := h; ⟨a, y, r, ex_t e s, t.ex e⟩

/-! ### constant_of, impedance_of, rung_impedance -/
abbrev sConstOf : Stmt := topS 38
theorem scConstOf : FnScope ["told"] ["told"] (defScope sConstOf) := ⟨rfl, rfl, rfl, by decide +kernel, rfl, by decide +kernel, by decide +kernel⟩
def spConstOf (K : PySem.W.Frag) : Sp := fun vs H Q _ => ∃ (x : V) (n d : Int), vs = [x] ∧ RatV K H x n d ∧ n ≠ 0 ∧ ∀ v H', Ex H H' → FunV K H' v [n] [d] → Q v H'
theorem sz1 : 1 ≤ sizeLine := sz_of (by decide)
theorem sz2 : 2 ≤ sizeLine := sz_of (by decide)
theorem ok_constOf (D : DefAt K mg "constant_of" sConstOf ["told"]) (hz : ∃ a, mg "ZERO" = some (.ref a)) : Cal w K mg base 41 "constant_of" ["told"] (spConstOf K) := by
  obtain ⟨za, hza⟩ := hz
  refine Cal.mk D scConstOf (fun vs H Q E h => ?_) (fun f cdv A outer s H vs Q E hr h => ?_)
  · obtain ⟨x, n, d, rfl, _⟩ := h
    rfl
  · obtain ⟨x, n, d, rfl, ⟨a, rfl, hA⟩, hn, k⟩ := h
    refine ⟨_, pss_one (ps_ret (pe_ifExp (pt_cmpR op_ne (pe_at (pv 0) pe_int) pe_int (nomark _)) (pe_tup (pa_cons (pe_tup (pa_cons (pe_at (pv 0) pe_int) pa_nil)) (pa_cons (pe_tup (pa_cons (pe_at (pv 0) pe_int) pa_nil)) pa_nil))) (pe_glob (v := .ref za) (by rfl) hza rfl))), ?_⟩
    refine ⟨_, rfl, a, _, _, _, rfl, rfl, .inl hA, at0, rfl, _, rfl, ?_⟩
    rw [decide_eq_false (fun z => hn (V.int.inj z))]
    refine iteT ⟨_, rfl, a, _, _, _, rfl, rfl, .inl hA, at0, sz1, fun p np => ⟨_, rfl, a, _, _, _, rfl, rfl, .inl (ex_t (Ex.new np) hA), at1, sz1, fun q nq => ⟨sz2, fun t nt => k _ _ (((Ex.new np).trans (Ex.new nq)).trans (Ex.new nt)) ?_⟩⟩⟩
    have h1 : PolyV K (upd H p (.tup [V.int n])) (.ref p) [n] := ⟨p, rfl, st_of upd_same⟩
    refine ⟨t, _, _, rfl, st_of upd_same, h1.ex ((Ex.new nq).trans (Ex.new nt)), PolyV.ex (H := upd (upd H p (.tup [V.int n])) q (.tup [V.int d])) ⟨q, rfl, st_of upd_same⟩ (Ex.new nt)⟩

abbrev sImpOf : Stmt := topS 50
abbrev nImpOf : List Str := ["part", "kind", "a", "b", "value", "told"]
theorem scImpOf : FnScope nImpOf ["part"] (defScope sImpOf) := ⟨rfl, rfl, rfl, by decide +kernel, rfl, by decide +kernel, by decide +kernel⟩
def rT (kd : Str) (n d : Int) : List Int := if kd = "R" then [n] else if kd = "L" then [0, n] else [d]
def rB (kd : Str) (n d : Int) : List Int := if kd = "R" then [d] else if kd = "L" then [d] else [0, n]
def IsKd (kd : Str) : Prop := kd = "R" ∨ kd = "L" ∨ kd = "C"
def spImpOf (K : PySem.W.Frag) : Sp := fun vs H Q _ => ∃ (a : Addr) (kd : Str) (y : V) (n d : Int) (r : Nat), vs = [.ref a] ∧ SqT K H a [.str kd, .int 0, .int 1, y] ∧ RatV K H y n d ∧ IsKd kd ∧ OkR r n d ∧ r ≤ 200 ∧ Int.gcd n d = 1 ∧
  ∀ v H' F1 F2, Ex H H' → FunV K H' v F1 F2 → Rep F1 F2 (rT kd n d) (rB kd n d) → Q v H'
theorem one_ne (H : Hp) : (1 : Nat) = 1 := rfl
theorem rep_const {n d : Int} (hd : 0 < d) (hg : Int.gcd n d = 1) (hn : n ≠ 0) : Rep [n] [d] [n] [d] := by
  refine ⟨fun a h => by simp at h; omega, fun a h => by simp at h; omega, ?_, fun c h1 h2 => ?_, 1, by decide, fun i => by omega, fun i => by omega⟩
  · show 0 < co [d] 0
    rw [co_zero]; exact hd
  · have a1 := h1 0
    have a2 := h2 0
    rw [co_zero] at a1 a2
    have : c ∣ Int.gcd n d := Nat.dvd_gcd (Int.ofNat_dvd_left.mp a1) (Int.ofNat_dvd_left.mp a2)
    rw [hg] at this
    exact Nat.dvd_one.mp this
theorem nrm1 {a : Int} {m : Nat} (h : a.natAbs ≤ 2 ^ m) : nrm [a] ≤ 2 ^ m := by simpa [nrm] using h
theorem nrm01 {a : Int} {m : Nat} (h : a.natAbs ≤ 2 ^ m) : nrm [0, a] ≤ 2 ^ m := by simpa [nrm] using h
theorem ok_impOf (D : DefAt K mg "impedance_of" sImpOf ["part"]) (Gv : Gc K mg) (Cc : Cal w K mg base 41 "constant_of" ["told"] (spConstOf K))
    (Ct : Cal w K mg base 47 "times_of" ["one", "other"] (spBin K (fun t1 b1 t2 b2 => t1 * t2) fun _ b1 _ b2 => b1 * b2)) (Cb : Cal w K mg base 47 "back_of" ["one"] (spBack K)) : Cal w K mg base 48 "impedance_of" ["part"] (spImpOf K) := by
  obtain ⟨va, hva, hvv⟩ := Gv.var
  refine Cal.mk D scImpOf (fun vs H Q E h => ?_) (fun f cdv A outer s H vs Q E hr h => ?_)
  · obtain ⟨a, kd, y, n, d, r, rfl, _⟩ := h
    rfl
  · obtain ⟨a, kd, y, n, d, r, rfl, hA, hy, hkd, hok, hr2, hg, k⟩ := h
    obtain ⟨hn, hd, mn, md⟩ := hok
    refine ⟨_, pss_cons (ps_asg (pv 0) (pg_tup rfl (pgs_cons (pg_name (i := 1) scImpOf.nd rfl (.inl rfl)) (pgs_cons (pg_name (i := 2) scImpOf.nd rfl (.inl rfl)) (pgs_cons (pg_name (i := 3) scImpOf.nd rfl (.inl rfl)) (pgs_cons (pg_name (i := 4) scImpOf.nd rfl (.inl rfl)) pgs_nil))))))
      (pss_cons (ps_if (pt_cmpR op_eq (pv 1) pe_str (nomark _)) pss_never pss_nil)
      (pss_cons (ps_set (i := 5) scImpOf.nd rfl (.inl rfl) (pe_callC rfl Cc hr (by decide) (pa_cons (pv 4) pa_nil)))
      (pss_cons (ps_if (pt_cmpR op_eq (pv 1) pe_str (nomark _)) (pss_one (ps_ret (pv 5))) pss_nil)
      (pss_one (ps_ret (pe_ifExp (pt_cmpR op_eq (pv 1) pe_str (nomark _)) (pe_callC rfl Ct hr (by decide) (pa_cons (pv 5) (pa_cons (pe_glob (v := .ref va) (by rfl) hva rfl) pa_nil)))
        (pe_callC rfl Cb hr (by decide) (pa_cons (pe_callC rfl Ct hr (by decide) (pa_cons (pv 5) (pa_cons (pe_glob (v := .ref va) (by rfl) hva rfl) pa_nil))) pa_nil)))))))), ?_⟩
    have hn0 : n ≠ 0 := by omega
    have hd0 : d ≠ 0 := by omega
    have p99 : (2 : Nat) ^ r ≤ 2 ^ 9999 := pow_up (by omega)
    have tn : Tr [n] := fun a h => by simp at h; omega
    have td : Tr [d] := fun a h => by simp at h; omega
    have fwv : ∀ H', FW K H' (.ref va) [0, 1] [1] 2 0 := fun H' => ⟨hvv H', by decide, by decide, by decide, by decide, fun a h => by simp at h; omega, fun a h => by simp at h; omega, by decide⟩
    have fwt : ∀ {H' v}, FunV K H' v [n] [d] → FW K H' v [n] [d] 1 r := fun {H' v} h => ⟨h, by simp, by simp, nrm1 mn, nrm1 md, tn, td, by simp⟩
    have copL : Cop [0, n] [d] := ⟨d, hd0, [], [1], fun x => by simp [ev]⟩
    have crL : ∀ x, ev [n] x * ev [0, 1] x * ev [d] x = ev [d] x * ev [1] x * ev [0, n] x := fun x => by simp [ev]; grind
    have exL : ∃ x, ev [0, n] x ≠ 0 := ⟨1, by simp [ev]; exact hn0⟩
    refine ⟨_, rfl, a, _, rfl, hA, rfl, _, _, rfl, _, _, rfl, _, _, rfl, _, _, rfl, rfl, ?_⟩
    rcases hkd with rfl | rfl | rfl
    · refine ⟨_, rfl, rfl, _, rfl, iteF ⟨_, rfl, y, n, d, rfl, hy, hn0, fun v H1 e1 hv => ?_⟩⟩
      exact ⟨_, rfl, rfl, _, rfl, iteT ⟨_, rfl, k v H1 _ _ e1 hv (rep_const hd hg hn0)⟩⟩
    · refine ⟨_, rfl, rfl, _, rfl, iteF ⟨_, rfl, y, n, d, rfl, hy, hn0, fun v H1 e1 hv => ?_⟩⟩
      refine ⟨_, rfl, rfl, _, rfl, iteF ⟨_, rfl, rfl, _, rfl, iteT ⟨_, rfl, v, _, _, _, _, _, _, _, _, _, _, _, rfl, fwt hv, fwv H1, by decide, by omega, crL, copL, Nat.le_trans (nrm01 mn) p99, Nat.le_trans (nrm1 md) p99, exL, fun v2 H2 F1 F2 e2 hv2 R => k v2 H2 F1 F2 (e1.trans e2) hv2 R⟩⟩⟩
    · refine ⟨_, rfl, rfl, _, rfl, iteF ⟨_, rfl, y, n, d, rfl, hy, hn0, fun v H1 e1 hv => ?_⟩⟩
      refine ⟨_, rfl, rfl, _, rfl, iteF ⟨_, rfl, rfl, _, rfl, iteF ⟨_, rfl, v, _, _, _, _, _, _, _, _, _, _, _, rfl, fwt hv, fwv H1, by decide, by omega, crL, copL, Nat.le_trans (nrm01 mn) p99, Nat.le_trans (nrm1 md) p99, exL, fun v2 H2 F1 F2 e2 hv2 R => ?_⟩⟩⟩
      refine ⟨v2, F1, F2, r, [d], [0, n], rfl, R.fw hv2 (by simp) (by simp) (nrm01 mn) (nrm1 md), by omega, R.ne1 exL, fun x => (R.cross x).symm, cop_swap copL, Nat.le_trans (nrm1 md) p99, Nat.le_trans (nrm01 mn) p99, ⟨1, by simp [ev]; exact hd0⟩, fun v3 H3 G1 G2 e3 hv3 R3 => k v3 H3 G1 G2 ((e1.trans e2).trans e3) hv3 R3⟩
abbrev sRungImp : Stmt := topS 59
theorem scRungImp : FnScope ["rung"] ["rung"] (defScope sRungImp) := ⟨rfl, rfl, rfl, by decide +kernel, rfl, by decide +kernel, by decide +kernel⟩
def spRungImp (K : PySem.W.Frag) : Sp := fun vs H Q _ => ∃ (x : V) (pl kd : Str) (n d : Int) (r : Nat), vs = [x] ∧ RungV K H x pl kd n d ∧ IsKd kd ∧ OkR r n d ∧ r ≤ 200 ∧ Int.gcd n d = 1 ∧
  ∀ v H' F1 F2, Ex H H' → FunV K H' v F1 F2 → Rep F1 F2 (rT kd n d) (rB kd n d) → Q v H'
theorem sz4 : 4 ≤ sizeLine := sz_of (by decide)
theorem sz3 : 3 ≤ sizeLine := sz_of (by decide)
theorem ok_rungImp (D : DefAt K mg "rung_impedance" sRungImp ["rung"]) (Ci : Cal w K mg base 48 "impedance_of" ["part"] (spImpOf K)) : Cal w K mg base 49 "rung_impedance" ["rung"] (spRungImp K) := by
  refine Cal.mk D scRungImp (fun vs H Q E h => ?_) (fun f cdv A outer s H vs Q E hr h => ?_)
  · obtain ⟨x, pl, kd, n, d, r, rfl, _⟩ := h
    rfl
  · obtain ⟨x, pl, kd, n, d, r, rfl, ⟨a, y, rfl, hA, hy⟩, hkd, hok, hr2, hg, k⟩ := h
    refine ⟨_, pss_one (ps_ret (pe_callC rfl Ci hr (by decide) (pa_cons (pe_tup (pa_cons (pe_at (pv 0) pe_int) (pa_cons pe_int (pa_cons pe_int (pa_cons (pe_at (pv 0) pe_int) pa_nil))))) pa_nil))), ?_⟩
    exact ⟨_, rfl, a, _, _, _, rfl, rfl, .inl hA, rfl, _, rfl, a, _, _, _, rfl, rfl, .inl hA, rfl, sz4, fun p np => ⟨p, kd, y, n, d, r, rfl, st_of upd_same, hy.ex (Ex.new np), hkd, hok, hr2, hg, fun v H' F1 F2 e => k v H' F1 F2 ((Ex.new np).trans e)⟩⟩
end
end Kf
end

section
set_option Elab.async false
set_option linter.all false
set_option maxRecDepth 100000
set_option maxHeartbeats 4000000
namespace Kf
open PySem PySem.Spec PyProof.Rows L2 Lx Evl Pm RZ StX

/-! ### slices -/
theorem cutV_last {xs : List V} (h : xs ≠ []) : cutV xs none (some (-1)) = xs.take (xs.length - 1) := by
  have hl : 0 < xs.length := List.length_pos_iff.mpr h
  unfold cutV
  rw [HT.sIx_none]
  show (xs.drop 0).take ((if (-1 : Int) < 0 then (-1 + (xs.length : Int)).toNat else min (-1 : Int).toNat xs.length) - 0) = _
  rw [if_pos (by decide), List.drop_zero, show (-1 + (xs.length : Int)).toNat - 0 = xs.length - 1 by omega]
theorem stepM (n : Nat) : stepAt n none none (-1) = ((n : Int) - 1, n) := by
  unfold stepAt Builtin.Slice.sliceAdjust Builtin.Slice.slicePlaces
  simp only [show ((-1 : Int) < 0) by decide, if_true, show ¬ (-1 : Int) > 0 by decide, if_false]
  congr 1
  by_cases h : (n : Int) - 1 > -1
  · rw [if_pos h, show (n : Int) - 1 - -1 - 1 = (n : Int) - 1 by omega, show (- (-1 : Int)) = 1 by decide, Int.ediv_one]
    omega
  · rw [if_neg h]; omega
theorem pick_rev {xs : List V} {n : Nat} (hn : xs.length = n) : pickS xs ((n : Int) - 1) (-1) n = xs.reverse := by
  have key : ∀ (k : Nat) (xs : List V), k ≤ xs.length → (List.range k).filterMap (fun (m : Nat) => xs[(((xs.length : Nat) : Int) - 1 + (m : Int) * -1).toNat]?) = xs.reverse.take k := by
    intro k
    induction k with
    | zero => intro xs _; rfl
    | succ k ih =>
      intro xs hk
      rw [List.range_succ, List.filterMap_append, ih xs (by omega), List.take_add_one]
      congr 1
      have e : (((xs.length : Nat) : Int) - 1 + (k : Int) * -1).toNat = xs.length - 1 - k := by omega
      rw [List.getElem?_reverse (by omega)]
      simp only [List.filterMap_cons, List.filterMap_nil]
      rw [e]
      cases xs[xs.length - 1 - k]? <;> rfl
  unfold pickS
  subst hn
  rw [key xs.length xs (Nat.le_refl _), List.take_of_length_le (by simp)]

section
variable {w : World} {K : PySem.W.Frag} {mg : Str → Option Value} {base : Heap}
/-! ### a ladder -/
abbrev Rn := Str × Str × Int × Int
def LadV (K : PySem.W.Frag) (H : Hp) (v : V) (rs : List Rn) : Prop := ∃ (a : Addr) (xs : List V), v = .ref a ∧ SqT K H a xs ∧ xs.length = rs.length ∧ ∀ (i : Nat) (r : Rn), rs[i]? = some r → ∃ x, xs[i]? = some x ∧ RungV K H x r.1 r.2.1 r.2.2.1 r.2.2.2
theorem LadV.ex {H H' : Hp} {v : V} {rs : List Rn} (h : LadV K H v rs) (e : Ex H H') : LadV K H' v rs := by
  obtain ⟨a, xs, r, s, l, f⟩ := h
  exact ⟨a, xs, r, ex_t e s, l, fun i r hr => let ⟨x, hx, q⟩ := f i r hr; ⟨x, hx, q.ex e⟩⟩
/-- what a rung must be -/
def OkRn (r : Rn) : Prop := (r.1 = "S" ∨ r.1 = "P") ∧ IsKd r.2.1 ∧ 0 < r.2.2.1 ∧ 0 < r.2.2.2 ∧ r.2.2.1 ≤ 10 ^ 60 ∧ r.2.2.2 ≤ 10 ^ 60 ∧ Int.gcd r.2.2.1 r.2.2.2 = 1

abbrev sIsRatio : Stmt := topS 13
theorem scIsRatio : FnScope ["value"] ["value"] (defScope sIsRatio) := ⟨rfl, rfl, rfl, by decide +kernel, rfl, by decide +kernel, by decide +kernel⟩
def spIsRatio (K : PySem.W.Frag) : Sp := fun vs H Q _ => ∃ (x : V) (n d : Int), vs = [x] ∧ RatV K H x n d ∧ 0 < n ∧ 0 < d ∧ n ≤ 10 ^ 60 ∧ d ≤ 10 ^ 60 ∧ Int.gcd n d = 1 ∧ Q (.bl true) H
theorem ok_isRatio (D : DefAt K mg "is_ratio" sIsRatio ["value"]) (G : Gl0 mg base) (Ci : Cal w K mg base 41 "is_int" ["value"] spIsInt) : Cal w K mg base 42 "is_ratio" ["value"] (spIsRatio K) := by
  obtain ⟨mt, hmost⟩ := G.most
  refine Cal.mk D scIsRatio (fun vs H Q E h => ?_) (fun f cdv A outer s H vs Q E hr h => ?_)
  · obtain ⟨x, n, d, rfl, _⟩ := h
    rfl
  · obtain ⟨x, n, d, rfl, ⟨a, rfl, hA⟩, hn, hd, hn2, hd2, hg, k⟩ := h
    refine ⟨_, pss_cons (ps_if (PW.pt (pw_or (pt_not (pt_val (pe_callB call_isTup (by rfl) G.isinstance (by decide +kernel) (pa_cons (pv 0) (pa_cons (pe_bltn (v := .ty "tuple") (u := .type "tuple") (by rfl) G.tuple (by decide +kernel) rfl) pa_nil)))))
        (pw_or (pt_cmpR op_ne (pe_len G.len (pv 0)) pe_int (nomark _)) (pw_or (pt_not (pt_val (pe_callC rfl Ci hr (by decide) (pa_cons (pe_at (pv 0) pe_int) pa_nil)))) (pw_or1 (pt_not (pt_val (pe_callC rfl Ci hr (by decide) (pa_cons (pe_at (pv 0) pe_int) pa_nil))))))))) pss_never pss_nil)
      (pss_cons (ps_if (PW.pt (pw_or (pt_cmpR op_lt (pe_at (pv 0) pe_int) pe_int (nomark _)) (pw_or (pt_cmpR op_gt (pe_callB call_abs (by rfl) G.abs (by decide +kernel) (pa_cons (pe_at (pv 0) pe_int) pa_nil)) (pe_glob (v := .int (10 ^ 60)) (by rfl) hmost ⟨_, rfl⟩) (nomark _))
        (pw_or1 (pt_cmpR op_gt (pe_at (pv 0) pe_int) (pe_glob (v := .int (10 ^ 60)) (by rfl) hmost ⟨_, rfl⟩) (nomark _)))))) pss_never pss_nil)
      (pss_one (ps_ret (pe_cmpR op_eq (pe_gcd G.gcd (pe_at (pv 0) pe_int) (pe_at (pv 0) pe_int)) pe_int (nomark _))))), ?_⟩
    refine ⟨_, rfl, a, _, rfl, hA, true, rfl, iteF ⟨_, rfl, a, _, rfl, .inl hA, rfl, _, rfl, iteF ⟨_, rfl, a, _, _, _, rfl, rfl, .inl hA, at0, n, rfl, true, rfl, iteF ⟨_, rfl, a, _, _, _, rfl, rfl, .inl hA, at1, d, rfl, true, rfl, iteF ?_⟩⟩⟩⟩
    refine ⟨_, rfl, a, _, _, _, rfl, rfl, .inl hA, at1, _, _, rfl, rfl, _, rfl, ?_⟩
    rw [decide_eq_false (show ¬ d < 1 by omega)]
    refine iteF ⟨_, rfl, a, _, _, _, rfl, rfl, .inl hA, at0, n, rfl, _, _, rfl, rfl, _, rfl, ?_⟩
    rw [decide_eq_false (show ¬ (10 ^ 60 : Int) < (if n < 0 then -n else n) by rw [if_neg (by omega)]; omega)]
    refine iteF ⟨_, rfl, a, _, _, _, rfl, rfl, .inl hA, at1, _, _, rfl, rfl, _, rfl, ?_⟩
    rw [decide_eq_false (show ¬ (10 ^ 60 : Int) < d by omega)]
    refine iteF ⟨_, rfl, a, _, _, _, rfl, rfl, .inl hA, at0, _, rfl, a, _, _, _, rfl, rfl, .inl hA, at1, n, d, rfl, rfl, ?_⟩
    have e : ((Nat.gcd n.natAbs d.natAbs : Nat) : Int) = 1 := by
      have : Nat.gcd n.natAbs d.natAbs = 1 := hg
      rw [this]; rfl
    rw [decide_eq_true (congrArg V.int e)]
    exact k
abbrev sIsRung : Stmt := topS 57
theorem scIsRung : FnScope ["value"] ["value"] (defScope sIsRung) := ⟨rfl, rfl, rfl, by decide +kernel, rfl, by decide +kernel, by decide +kernel⟩
def spIsRung (K : PySem.W.Frag) : Sp := fun vs H Q _ => ∃ (x : V) (r : Rn), vs = [x] ∧ RungV K H x r.1 r.2.1 r.2.2.1 r.2.2.2 ∧ OkRn r ∧ Q (.bl true) H
theorem ok_isRung (D : DefAt K mg "is_rung" sIsRung ["value"]) (G : Gl0 mg base) (Gv : Gc K mg) (Ci : Cal w K mg base 42 "is_ratio" ["value"] (spIsRatio K)) : Cal w K mg base 43 "is_rung" ["value"] (spIsRung K) := by
  obtain ⟨pa, hpa, hpp⟩ := Gv.places
  obtain ⟨ka, hka, hkk⟩ := Gv.kinds
  refine Cal.mk D scIsRung (fun vs H Q E h => ?_) (fun f cdv A outer s H vs Q E hr h => ?_)
  · obtain ⟨x, r, rfl, _⟩ := h
    rfl
  · obtain ⟨x, ⟨pl, kd, n, d⟩, rfl, ⟨a, y, rfl, hA, ⟨ya, rfl, hy⟩⟩, ⟨hp, hkd, hn, hd, hn2, hd2, hg⟩, k⟩ := h
    dsimp only at hA hy hp hkd hn hd hn2 hd2 hg
    refine ⟨_, pss_cons (ps_if (PW.pt (pw_or (pt_not (pt_val (pe_callB call_isTup (by rfl) G.isinstance (by decide +kernel) (pa_cons (pv 0) (pa_cons (pe_bltn (v := .ty "tuple") (u := .type "tuple") (by rfl) G.tuple (by decide +kernel) rfl) pa_nil)))))
        (pw_or (pt_cmpR op_ne (pe_len G.len (pv 0)) pe_int (nomark _)) (pw_or (pt_not (pt_val (pe_callB call_isStr (by rfl) G.isinstance (by decide +kernel) (pa_cons (pe_at (pv 0) pe_int) (pa_cons (pe_bltn (v := .ty "str") (u := .type "str") (by rfl) G.str (by decide +kernel) rfl) pa_nil)))))
          (pw_or1 (pt_cmpR op_notIn_seq (pe_at (pv 0) pe_int) (pe_glob (v := .ref pa) (by rfl) hpa rfl) (by with_unfolding_all rfl))))))) pss_never pss_nil)
      (pss_cons (ps_if (PW.pt (pw_or (pt_not (pt_val (pe_callB call_isStr (by rfl) G.isinstance (by decide +kernel) (pa_cons (pe_at (pv 0) pe_int) (pa_cons (pe_bltn (v := .ty "str") (u := .type "str") (by rfl) G.str (by decide +kernel) rfl) pa_nil)))))
          (pw_or1 (pt_cmpR op_notIn_seq (pe_at (pv 0) pe_int) (pe_glob (v := .ref ka) (by rfl) hka rfl) (by with_unfolding_all rfl))))) pss_never pss_nil)
      (pss_one (ps_ret (pe_and (pe_callC rfl Ci hr (by decide) (pa_cons (pe_at (pv 0) pe_int) pa_nil)) (pe_one (pe_cmpR op_gt (pe_at (pe_at (pv 0) pe_int) pe_int) pe_int (nomark _))))))), ?_⟩
    refine ⟨_, rfl, a, _, rfl, hA, true, rfl, iteF ⟨_, rfl, a, _, rfl, .inl hA, rfl, _, rfl, iteF ⟨_, rfl, a, _, _, _, rfl, rfl, .inl hA, rfl, pl, rfl, true, rfl, iteF ⟨_, rfl, a, _, _, _, rfl, rfl, .inl hA, rfl, pa, _, rfl, .inr (hpp H), rfl, rfl, _, rfl, ?_⟩⟩⟩⟩
    have e1 : inV (V.str pl) [.str "S", .str "P"] = true := by rcases hp with rfl | rfl <;> decide +kernel
    have e2 : inV (V.str kd) [.str "R", .str "L", .str "C"] = true := by rcases hkd with rfl | rfl | rfl <;> decide +kernel
    rw [e1]
    refine iteF ⟨_, rfl, a, _, _, _, rfl, rfl, .inl hA, rfl, kd, rfl, true, rfl, iteF ⟨_, rfl, a, _, _, _, rfl, rfl, .inl hA, rfl, ka, _, rfl, .inr (hkk H), rfl, rfl, _, rfl, ?_⟩⟩
    rw [e2]
    refine iteF ⟨_, rfl, a, _, _, _, rfl, rfl, .inl hA, rfl, .ref ya, n, d, rfl, ⟨ya, rfl, hy⟩, hn, hd, hn2, hd2, hg, true, rfl, iteT ⟨_, rfl, a, _, _, _, rfl, rfl, .inl hA, rfl, ya, _, _, _, rfl, rfl, .inl hy, at0, _, _, rfl, rfl, ?_⟩⟩
    show Q (.bl (decide (0 < n))) H
    rw [decide_eq_true hn]
    exact k
end
end Kf
end

section
set_option Elab.async false
set_option linter.all false
set_option maxRecDepth 100000
set_option maxHeartbeats 4000000
namespace Kf
open PySem PySem.Spec PyProof.Rows L2 Lx Evl Pm RZ StX

section
variable {w : World} {K : PySem.W.Frag} {mg : Str → Option Value} {base : Heap}
abbrev sNeedLad : Stmt := topS 58
abbrev nNeedLad : List Str := ["value", "index", "rung"]
theorem scNeedLad : FnScope nNeedLad ["value"] (defScope sNeedLad) := ⟨rfl, rfl, rfl, by decide +kernel, rfl, by decide +kernel, by decide +kernel⟩
def spNeedLad (K : PySem.W.Frag) : Sp := fun vs H Q _ => ∃ (x : V) (rs : List Rn), vs = [x] ∧ LadV K H x rs ∧ 1 ≤ rs.length ∧ rs.length ≤ 13 ∧ (∀ r ∈ rs, OkRn r) ∧ ∀ H', Ex H H' → Q .non H'
theorem ok_needLad (D : DefAt K mg "need_ladder" sNeedLad ["value"]) (G : Gl0 mg base) (Ci : Cal w K mg base 43 "is_rung" ["value"] (spIsRung K)) : Cal w K mg base 44 "need_ladder" ["value"] (spNeedLad K) := by
  obtain ⟨mt, hmost⟩ := G.rungs
  refine Cal.mk D scNeedLad (fun vs H Q E h => ?_) (fun f cdv A outer s H vs Q E hr h => ?_)
  · obtain ⟨x, rs, rfl, _⟩ := h
    rfl
  · obtain ⟨x, rs, rfl, ⟨a, xs, rfl, hA, hl, hf⟩, l1, l2, hok, k⟩ := h
    refine ⟨_, pss_cons (ps_if (PW.pt (pw_or (pt_not (pt_val (pe_callB call_isTup (by rfl) G.isinstance (by decide +kernel) (pa_cons (pv 0) (pa_cons (pe_bltn (v := .ty "tuple") (u := .type "tuple") (by rfl) G.tuple (by decide +kernel) rfl) pa_nil)))))
        (pw_or1 (pt_not (pt_chain op_le op_le pe_int (pe_len G.len (pv 0)) (pe_glob (v := .int 13) (by rfl) hmost ⟨_, rfl⟩)))))) pss_never pss_nil)
      (pss_one (ps_for PassesOwn.never rfl (pi_enumT (by rfl) G.enumerate (pa_cons (pv 0) pa_nil))
          (pg_tup rfl (pgs_cons (pg_name (i := 1) scNeedLad.nd rfl (.inl rfl)) (pgs_cons (pg_name (i := 2) scNeedLad.nd rfl (.inl rfl)) pgs_nil)))
          (pss_one (ps_if (pt_not (pt_val (pe_callC rfl Ci hr (by decide) (pa_cons (pv 2) pa_nil)))) pss_never pss_nil)))), ?_⟩
    refine ⟨_, rfl, a, _, rfl, hA, true, rfl, iteF ⟨_, rfl, a, _, rfl, .inl hA, _, _, rfl, rfl, _, rfl, ?_⟩⟩
    rw [decide_eq_true (show (1 : Int) ≤ (xs.length : Int) by omega)]
    refine iteT ⟨_, _, rfl, rfl, _, rfl, ?_⟩
    rw [decide_eq_true (show (xs.length : Int) ≤ 13 by omega)]
    refine iteF ⟨_, rfl, a, _, rfl, hA, ?_⟩
    refine for_gen rs.length (fun i σ H' => Ex H H' ∧ ∃ (y1 y2 : Option V), σ = [some (.ref a), y1, y2]) ⟨Ex.refl H, none, none, rfl⟩ (fun i σ H' hi h => ?_) (fun σ H' h => ⟨_, ex_t h.1 hA, by omega⟩) (fun i σ H' x H2 hi h y => ?_) (fun σ H' h => k H' h.1)
    · obtain ⟨x, hx, _⟩ := hf i rs[i] (List.getElem?_eq_getElem hi)
      exact ⟨_, _, ex_t h.1 hA, hx⟩
    · obtain ⟨e2, y1, y2, rfl⟩ := h
      obtain ⟨T, u, rfl, nT, rfl, fu⟩ := y
      obtain ⟨x, hx, hR⟩ := hf i rs[i] (List.getElem?_eq_getElem hi)
      have eu := Option.some.inj ((fu _ (ex_t e2 hA)).symm.trans hx)
      subst eu
      exact ⟨T, _, rfl, st_of upd_same, rfl, _, _, rfl, _, _, rfl, rfl, _, rfl, u, rs[i], rfl, hR.ex (e2.trans (Ex.new nT)), hok _ (List.getElem_mem hi), true, rfl, iteF ⟨e2.trans (Ex.new nT), _, _, rfl⟩⟩

/-! ### beside -/
abbrev sBeside : Stmt := topS 60
theorem scBeside : FnScope nTwo ["one", "other"] (defScope sBeside) := ⟨rfl, rfl, rfl, by decide +kernel, rfl, by decide +kernel, by decide +kernel⟩
def spBeside (K : PySem.W.Frag) : Sp := fun vs H Q _ => ∃ (x y : V) (F1 F2 f1 f2 t b : List Int) (n d : Int) (m L r : Nat), vs = [x, y] ∧ FunV K H x F1 F2 ∧ Rep F1 F2 [d] [0, n] ∧ FunV K H y f1 f2 ∧ Rep f1 f2 t b ∧ Imp t b m L ∧ OkR r n d ∧ r ≤ 200 ∧ m ≤ 2000 ∧ L ≤ 4 ∧
  ∀ v H' G1 G2, Ex H H' → FunV K H' v G1 G2 → Rep G1 G2 (smul d t) (stT n d b t) → Q v H'
theorem ev1 (a x : Int) : ev [a] x = a := ev_single a x
theorem ev01 (a x : Int) : ev [0, a] x = x * a := by rw [ev_cons, ev_single]; omega
theorem ok_beside (D : DefAt K mg "beside" sBeside ["one", "other"]) (Ct : Cal w K mg base 47 "times_of" ["one", "other"] (spBin K (fun t1 b1 t2 b2 => t1 * t2) fun _ b1 _ b2 => b1 * b2))
    (Cp : Cal w K mg base 47 "plus_of" ["one", "other"] (spBin K (fun t1 b1 t2 b2 => t1 * b2 + t2 * b1) fun _ b1 _ b2 => b1 * b2)) (Co : Cal w K mg base 48 "over_of" ["one", "other"] (spOver K)) : Cal w K mg base 49 "beside" ["one", "other"] (spBeside K) := by
  refine Cal.mk D scBeside (fun vs H Q E h => ?_) (fun f cdv A outer s H vs Q E hr h => ?_)
  · obtain ⟨x, y, F1, F2, f1, f2, t, b, n, d, m, L, r, rfl, _⟩ := h
    rfl
  · obtain ⟨x, y, F1, F2, f1, f2, t, b, n, d, m, L, r, rfl, hx, RF, hy, Rf, I, hok, hr2, hm, hL, k⟩ := h
    obtain ⟨hn, hd, mn, md⟩ := hok
    have hn0 : n ≠ 0 := by omega
    have hd0 : d ≠ 0 := by omega
    refine ⟨_, pss_one (ps_ret (pe_callC rfl Co hr (by decide) (pa_cons (pe_callC rfl Ct hr (by decide) (pa_cons (pv 0) (pa_cons (pv 1) pa_nil))) (pa_cons (pe_callC rfl Cp hr (by decide) (pa_cons (pv 0) (pa_cons (pv 1) pa_nil))) pa_nil)))), ?_⟩
    have fx : ∀ {H'}, Ex H H' → FW K H' x F1 F2 2 r := fun e => RF.fw (hx.ex e) (by simp) (by simp) (nrm1 md) (nrm01 mn)
    have fy : ∀ {H'}, Ex H H' → FW K H' y f1 f2 L m := fun e => Rf.fw (hy.ex e) I.l1 I.l2 I.n1 I.n2
    obtain ⟨κ, hκ, k1, k2⟩ := RF.ev1
    obtain ⟨l, hl, l1, l2⟩ := Rf.ev1
    have hκl : κ * l ≠ 0 := Int.mul_ne_zero hκ hl
    have ht0 : ev t 0 ≠ 0 := by have := I.p1; omega
    have hb0 : ev b 0 ≠ 0 := by have := I.p2; omega
    have up : ∀ {a : Nat}, a ≤ 2 ^ (m + r + 1) → a ≤ 2 ^ 9999 := fun h => Nat.le_trans h (pow_up (by omega))
    have nX1 : nrm (smul d t) ≤ 2 ^ (m + r) := by rw [nrm_smul, Nat.pow_add, Nat.mul_comm]; exact Nat.mul_le_mul I.n1 md
    have nX2 : nrm (0 :: smul n b) ≤ 2 ^ (m + r) := by rw [nrm_cons, nrm_smul, Nat.pow_add, Nat.mul_comm]; show 0 + _ ≤ _; rw [Nat.zero_add]; exact Nat.mul_le_mul I.n2 mn
    have I2 := I.swap.step hn hd mn md
    have p1 : 2 ^ (m + r) ≤ 2 ^ (m + r + 1) := pow_up (by omega)
    -- the product
    have copX : Cop (smul d t) (0 :: smul n b) := by
      have c1 : Cop (0 :: b) t := cop_x (cop_swap I.cop) ht0 fun x => by rw [ev_cons]; omega
      have c2 : Cop (0 :: smul n b) t := cop_sc c1 hn0 fun x => by rw [ev_cons, ev_cons, ev_smul]; grind
      exact cop_sc (cop_swap c2) hd0 fun x => ev_smul d t x
    have copY : Cop (stT n d b t) (0 :: smul n b) := by
      have c1 : Cop (0 :: t) b := cop_x I.cop hb0 fun x => by rw [ev_cons]; omega
      have c2 : Cop (stT n d b t) b := cop_lin (q := [d]) c1 hn0 fun x => by rw [ev_stT, ev_cons, ev1]; grind
      have hz : ev (stT n d b t) 0 ≠ 0 := by have := I2.p1; omega
      have c3 : Cop (0 :: b) (stT n d b t) := cop_x (cop_swap c2) hz fun x => by rw [ev_cons]; omega
      exact cop_swap (cop_sc c3 hn0 fun x => by rw [ev_cons, ev_cons, ev_smul]; grind)
    have eXB : ∀ x, ev (0 :: smul n b) x = x * (n * ev b x) := fun x => by rw [ev_cons, ev_smul]; omega
    refine ⟨_, rfl, _, rfl, x, y, F1, F2, f1, f2, 2, L, r, m, smul d t, 0 :: smul n b, rfl, fx (Ex.refl _), fy (Ex.refl _), by omega, by omega, fun z => ?_, copX, up (Nat.le_trans nX1 p1), up (Nat.le_trans nX2 p1), ⟨0, by rw [ev_smul]; exact Int.mul_ne_zero hd0 ht0⟩, fun v1 H1 G1 G2 e1 hv1 R1 => ?_⟩
    · have a1 := k1 z
      have a2 := k2 z
      have a3 := l1 z
      have a4 := l2 z
      rw [ev1] at a1
      rw [ev01] at a2
      rw [eXB, ev_smul, a3, a4]
      have e1 : d * (l * ev f1 z) = (κ * ev F1 z) * (l * ev f1 z) := by rw [← a1]
      have e2 : z * (n * (l * ev f2 z)) = (κ * ev F2 z) * (l * ev f2 z) := by rw [← a2]; grind
      rw [e1, e2]; grind
    · refine ⟨_, rfl, _, rfl, x, y, F1, F2, f1, f2, 2, L, r, m, stT n d b t, 0 :: smul n b, rfl, fx e1, fy e1, by omega, by omega, fun z => ?_, copY, up (by have := I2.n1; exact this), up (Nat.le_trans nX2 p1), ⟨0, by have := I2.p1; omega⟩, fun v2 H2 J1 J2 e2 hv2 R2 => ?_⟩
      · have a1 := k1 z
        have a2 := k2 z
        have a3 := l1 z
        have a4 := l2 z
        rw [ev1] at a1
        rw [ev01] at a2
        rw [eXB, ev_stT, a3, a4]
        have e1 : d * (l * ev f2 z) = (κ * ev F1 z) * (l * ev f2 z) := by rw [← a1]
        have e2 : z * (n * (l * ev f2 z)) = (κ * ev F2 z) * (l * ev f2 z) := by rw [← a2]; grind
        have e3 : z * (n * (l * ev f1 z)) = (κ * ev F2 z) * (l * ev f1 z) := by rw [← a2]; grind
        rw [e1, e2, e3]; grind
      · have lX : (smul d t).length ≤ L + 1 := by rw [smul, List.length_map]; have := I.l1; omega
        have lX2 : (0 :: smul n b).length ≤ L + 1 := by rw [List.length_cons, smul, List.length_map]; have := I.l2; omega
        have fX := R1.fw (hv1.ex e2) lX lX2 nX1 nX2
        have fY := R2.fw hv2 (L := L + 1) (m := m + r + 1) I2.l1 lX2 I2.n1 (Nat.le_trans nX2 p1)
        obtain ⟨c1, hc1, q1, q2⟩ := R1.ev1
        obtain ⟨c2, hc2, q3, q4⟩ := R2.ev1
        refine ⟨v1, v2, G1, G2, J1, J2, L + 1, L + 1, _, _, smul d t, stT n d b t, rfl, fX, fY, by omega, by omega, by omega, R2.cop copY, R2.ne1 ⟨0, by have := I2.p1; omega⟩, fun z => ?_, cop_swap I2.cop, up (Nat.le_trans nX1 p1), up I2.n1, ⟨0, by rw [ev_smul]; exact Int.mul_ne_zero hd0 ht0⟩, fun v3 H3 M1 M2 e3 hv3 R3 => k v3 H3 M1 M2 ((e1.trans e2).trans e3) hv3 R3⟩
        have b1 := q1 z
        have b2 := q2 z
        have b3 := q3 z
        have b4 := q4 z
        rw [b1, b3]
        have hcc : c1 * c2 ≠ 0 := Int.mul_ne_zero hc1 hc2
        refine Int.eq_of_mul_eq_mul_left hcc ?_
        have u1 : c1 * c2 * (ev G1 z * ev J2 z * (c2 * ev J1 z)) = (c1 * ev G1 z) * (c2 * ev J2 z) * (c2 * ev J1 z) := by grind
        have u2 : c1 * c2 * (ev G2 z * ev J1 z * (c1 * ev G1 z)) = (c1 * ev G2 z) * (c2 * ev J1 z) * (c1 * ev G1 z) := by grind
        rw [u1, u2, ← b4, ← b2]
        grind
end
end Kf
end

section
set_option Elab.async false
set_option linter.all false
set_option maxRecDepth 100000
set_option maxHeartbeats 4000000
namespace Kf
open PySem PySem.Spec PyProof.Rows L2 Lx Evl Pm RZ StX

section
variable {w : World} {K : PySem.W.Frag} {mg : Str → Option Value} {base : Heap}
/-! ### impedance_from -/
abbrev sImpFrom : Stmt := topS 61
abbrev nImpFrom : List Str := ["ladder", "found", "rung", "told"]
theorem scImpFrom : FnScope nImpFrom ["ladder"] (defScope sImpFrom) := ⟨rfl, rfl, rfl, by decide +kernel, rfl, by decide +kernel, by decide +kernel⟩
def rnOf (r : Bool × Int × Int) : Rn := if r.1 then ("S", "L", r.2.1, r.2.2) else ("P", "C", r.2.1, r.2.2)
def OkC (r : Nat) (x : Bool × Int × Int) : Prop := OkR r x.2.1 x.2.2 ∧ Int.gcd x.2.1 x.2.2 = 1
/-- a ladder: rungs, a resistor at the end -/
structure Lad (core : List (Bool × Int × Int)) (n d : Int) (r : Nat) : Prop where
  len : core.length ≤ 4
  ok : ∀ x ∈ core, OkC r x
  res : OkR r n d
  gcd : Int.gcd n d = 1
  small : r ≤ 200
def spImpFrom (K : PySem.W.Frag) : Sp := fun vs H Q _ => ∃ (x : V) (core : List (Bool × Int × Int)) (pl : Str) (n d : Int) (r : Nat), vs = [x] ∧ LadV K H x (core.map rnOf ++ ([(pl, "R", n, d)] : List Rn)) ∧ Lad core n d r ∧
  ∀ v H' G1 G2, Ex H H' → FunV K H' v G1 G2 → Rep G1 G2 (impP core n d).1 (impP core n d).2 → Q v H'
theorem Lad.imp {core : List (Bool × Int × Int)} {n d : Int} {r : Nat} (h : Lad core n d r) (k : Nat) : Imp (impP (core.drop k) n d).1 (impP (core.drop k) n d).2 (r + (core.drop k).length * (r + 1)) ((core.drop k).length + 1) :=
  impP_ok h.res _ fun x hx => (h.ok x (List.mem_of_mem_drop hx)).1
theorem ok_impFrom (D : DefAt K mg "impedance_from" sImpFrom ["ladder"]) (G : Gl0 mg base) (Cr : Cal w K mg base 49 "rung_impedance" ["rung"] (spRungImp K))
    (Cp : Cal w K mg base 47 "plus_of" ["one", "other"] (spBin K (fun t1 b1 t2 b2 => t1 * b2 + t2 * b1) fun _ b1 _ b2 => b1 * b2)) (Cb : Cal w K mg base 49 "beside" ["one", "other"] (spBeside K)) : Cal w K mg base 50 "impedance_from" ["ladder"] (spImpFrom K) := by
  obtain ⟨st, hst⟩ := G.series
  refine Cal.mk D scImpFrom (fun vs H Q E h => ?_) (fun f cdv A outer s H vs Q E hr h => ?_)
  · obtain ⟨x, core, pl, n, d, r, rfl, _⟩ := h
    rfl
  · obtain ⟨x, core, pl, n, d, r, rfl, ⟨a, xs, rfl, hA, hl, hf⟩, hL, k⟩ := h
    refine ⟨_, pss_cons (ps_set (i := 1) scImpFrom.nd rfl (.inl rfl) (pe_callC rfl Cr hr (by decide) (pa_cons (pe_at (pv 0) (pe_un un_neg pe_int)) pa_nil)))
      (pss_cons (ps_for PassesOwn.never rfl (pi_tup (pe_sliceS (pe_slice sl_seq (pv 0) po_none (po_some (pe_un un_neg pe_int))) po_none po_none (po_some (pe_un un_neg pe_int)))) (pg_name (i := 2) scImpFrom.nd rfl (.inl rfl))
        (pss_cons (ps_set (i := 3) scImpFrom.nd rfl (.inl rfl) (pe_callC rfl Cr hr (by decide) (pa_cons (pv 2) pa_nil)))
        (pss_one (ps_set (i := 1) scImpFrom.nd rfl (.inl rfl) (pe_ifExp (pt_cmpR op_eq (pe_at (pv 2) pe_int) (pe_glob (v := .str "S") (by rfl) hst ⟨_, rfl⟩) (nomark _)) (pe_callC rfl Cp hr (by decide) (pa_cons (pv 3) (pa_cons (pv 1) pa_nil))) (pe_callC rfl Cb hr (by decide) (pa_cons (pv 3) (pa_cons (pv 1) pa_nil))))))))
      (pss_one (ps_ret (pv 1)))), ?_⟩
    have hl1 : xs.length = core.length + 1 := by rw [hl, List.length_append, List.length_map]; rfl
    have hxs : xs ≠ [] := fun z => by rw [z] at hl1; simp at hl1
    -- the last
    obtain ⟨xl, hxl, hRl⟩ := hf core.length (pl, "R", n, d) (by rw [List.getElem?_append_right (by simp)]; simp)
    have hat : atI xs (-1) = some xl := atI_last' (by rw [hl1]; exact hxl)
    -- the others
    have hcore : ∀ i c, core[i]? = some c → ∃ x, xs[i]? = some x ∧ RungV K H x (rnOf c).1 (rnOf c).2.1 (rnOf c).2.2.1 (rnOf c).2.2.2 := fun i c hc => hf i (rnOf c) (by
      have hi := (List.getElem?_eq_some_iff.mp hc).1
      rw [List.getElem?_append_left (by rw [List.length_map]; exact hi), List.getElem?_map, hc]; rfl)
    have hLl := hL.len
    refine ⟨_, rfl, _, rfl, a, _, _, _, rfl, rfl, .inl hA, hat, xl, pl, "R", n, d, r, rfl, hRl, .inl rfl, hL.res, hL.small, hL.gcd, fun v0 H0 F1 F2 e0 hv0 R0 => ?_⟩
    refine ⟨_, rfl, _, rfl, _, rfl, a, xs, rfl, .inl ⟨ex_t e0 hA, fun p1 H1 e1 hp1 => ?_⟩⟩
    rw [cutV_last hxs] at hp1
    refine ⟨_, rfl, _, rfl, p1, _, -1, rfl, hp1, rfl, by decide, by decide, ?_⟩
    have hlen : (xs.take (xs.length - 1)).length = core.length := by rw [List.length_take]; omega
    rw [hlen, stepM]
    refine ⟨sz_of (by show core.length ≤ _; omega), fun p2 np2 => ?_⟩
    rw [show pickS (xs.take (xs.length - 1)) (((core.length : Int) - 1, core.length) : Int × Nat).1 (-1) (((core.length : Int) - 1, core.length) : Int × Nat).2 = (xs.take (xs.length - 1)).reverse from pick_rev hlen]
    have hp2 : SqT K (upd H1 p2 (.tup (xs.take (xs.length - 1)).reverse)) p2 (xs.take (xs.length - 1)).reverse := st_of upd_same
    have e2 : Ex H (upd H1 p2 (.tup (xs.take (xs.length - 1)).reverse)) := (e0.trans e1).trans (Ex.new np2)
    have e2' : Ex H0 (upd H1 p2 (.tup (xs.take (xs.length - 1)).reverse)) := e1.trans (Ex.new np2)
    generalize upd H1 p2 (.tup (xs.take (xs.length - 1)).reverse) = H2 at hp2 e2 e2'
    have hrl : (xs.take (xs.length - 1)).reverse.length = core.length := by rw [List.length_reverse, hlen]
    have hget : ∀ i, i < core.length → (xs.take (xs.length - 1)).reverse[i]? = xs[core.length - 1 - i]? := fun i hi => by
      rw [List.getElem?_reverse (by rw [hlen]; exact hi), hlen, List.getElem?_take_of_lt (by omega)]
    refine ⟨p2, rfl, ⟨_, hp2⟩, ?_⟩
    refine for_gen core.length (fun i σ H' => Ex H2 H' ∧ ∃ (z : V) (y2 y3 : Option V) (G1 G2 : List Int), σ = [some (.ref a), some z, y2, y3] ∧ FunV K H' z G1 G2 ∧ Rep G1 G2 (impP (core.drop (core.length - i)) n d).1 (impP (core.drop (core.length - i)) n d).2)
      ⟨Ex.refl _, v0, none, none, F1, F2, rfl, hv0.ex e2', by rw [Nat.sub_zero, List.drop_length]; exact R0⟩ (fun i σ H' hi h => ?_) (fun σ H' h => ?_) (fun i σ H' x H3 hi h y => ?_) (fun σ H' h => ?_)
    · obtain ⟨x, hx, _⟩ := hcore (core.length - 1 - i) _ (List.getElem?_eq_getElem (by omega))
      exact ⟨_, x, ex_t h.1 hp2, by rw [hget i hi]; exact hx⟩
    · exact ⟨_, ex_t h.1 hp2, by rw [hrl]; exact Nat.le_refl _⟩
    · obtain ⟨e3, z, y2, y3, G1, G2, rfl, hz, R⟩ := h
      obtain ⟨rfl, fx⟩ := y
      obtain ⟨c, hc⟩ : ∃ c, core[core.length - 1 - i]? = some c := ⟨_, List.getElem?_eq_getElem (by omega)⟩
      obtain ⟨x', hx, hR⟩ := hcore _ _ hc
      have ex := Option.some.inj ((fx _ (ex_t e3 hp2)).symm.trans ((hget i hi).trans hx))
      subst ex
      have hdrop : core.drop (core.length - (i + 1)) = c :: core.drop (core.length - i) := by
        rw [show core.length - (i + 1) = core.length - 1 - i by omega]
        have hlt : core.length - 1 - i < core.length := by omega
        rw [List.drop_eq_getElem_cons hlt, show core.length - 1 - i + 1 = core.length - i by omega]
        congr 1
        exact Option.some.inj ((List.getElem?_eq_getElem hlt).symm.trans hc)
      have hmem : c ∈ core := List.mem_of_getElem? hc
      obtain ⟨hoc, hgc⟩ := hL.ok c hmem
      have I := hL.imp (core.length - i)
      have hdl : (core.drop (core.length - i)).length = i := by rw [List.length_drop]; omega
      rw [hdl] at I
      have hsm := hL.small
      have e13 : Ex H H3 := e2.trans e3
      have hi3 : i ≤ 3 := by omega
      have hm : r + i * (r + 1) ≤ 2000 := by
        have := Nat.mul_le_mul hi3 (show r + 1 ≤ 201 by omega)
        omega
      obtain ⟨sb, cn, cd⟩ := c
      dsimp only at hoc hgc
      rw [hdrop]
      simp only [impP]
      generalize (impP (core.drop (core.length - i)) n d).1 = t at I R
      generalize (impP (core.drop (core.length - i)) n d).2 = b at I R
      cases sb with
      | true =>
        have hR' : RungV K H x "S" "L" cn cd := hR
        refine ⟨_, rfl, x, "S", "L", cn, cd, r, rfl, hR'.ex e13, .inr (.inl rfl), hoc, hsm, hgc, fun v1 H4 J1 J2 e4 hv1 RJ => ?_⟩
        have hx4 : RungV K H4 x "S" "L" cn cd := hR'.ex (e13.trans e4)
        obtain ⟨xa, xy, rfl, hxa, _⟩ := hx4
        refine ⟨_, rfl, xa, _, _, _, rfl, rfl, .inl hxa, rfl, rfl, _, rfl, iteT ?_⟩
        have hoc' := hoc
        obtain ⟨hn, hd, mn, md⟩ := hoc
        have RJ' : Rep J1 J2 [0, cn] [cd] := RJ
        have I2 := I.step hn hd mn md
        have up : 2 ^ (r + i * (r + 1) + r + 1) ≤ 2 ^ 9999 := pow_up (by omega)
        refine ⟨_, rfl, _, rfl, v1, z, J1, J2, G1, G2, 2, i + 1, r, _, stT cn cd t b, smul cd b, rfl, RJ'.fw hv1 (by simp) (by simp) (nrm01 mn) (nrm1 md), R.fw (hz.ex e4) I.l1 I.l2 I.n1 I.n2, by omega, by omega, fun zz => ?_, I2.cop, Nat.le_trans I2.n1 up, Nat.le_trans I2.n2 up, ⟨0, by have := I2.p1; omega⟩, fun v2 H5 M1 M2 e5 hv2 RM => ?_⟩
        · obtain ⟨κ, hκ, k1, k2⟩ := RJ'.ev1
          obtain ⟨l, hl, l1, l2⟩ := R.ev1
          have a1 := k1 zz
          have a2 := k2 zz
          have a3 := l1 zz
          have a4 := l2 zz
          rw [ev1] at a2
          rw [ev01] at a1
          rw [ev_stT, ev_smul, a3, a4]
          have e1 : cd * (l * ev G2 zz) = (κ * ev J2 zz) * (l * ev G2 zz) := by rw [← a2]
          have e2 : cd * (l * ev G1 zz) = (κ * ev J2 zz) * (l * ev G1 zz) := by rw [← a2]
          have e3 : zz * (cn * (l * ev G2 zz)) = (κ * ev J1 zz) * (l * ev G2 zz) := by rw [← a1]; grind
          rw [e1, e2, e3]; grind
        · exact ⟨(e3.trans e4).trans e5, v2, _, _, M1, M2, rfl, hv2, RM⟩
      | false =>
        have hR' : RungV K H x "P" "C" cn cd := hR
        refine ⟨_, rfl, x, "P", "C", cn, cd, r, rfl, hR'.ex e13, .inr (.inr rfl), hoc, hsm, hgc, fun v1 H4 J1 J2 e4 hv1 RJ => ?_⟩
        have hx4 : RungV K H4 x "P" "C" cn cd := hR'.ex (e13.trans e4)
        obtain ⟨xa, xy, rfl, hxa, _⟩ := hx4
        refine ⟨_, rfl, xa, _, _, _, rfl, rfl, .inl hxa, rfl, rfl, _, rfl, iteF ?_⟩
        refine ⟨_, rfl, _, rfl, v1, z, J1, J2, G1, G2, t, b, cn, cd, _, i + 1, r, rfl, hv1, RJ, hz.ex e4, R, I, hoc, hsm, hm, by omega, fun v2 H5 M1 M2 e5 hv2 RM => ?_⟩
        exact ⟨(e3.trans e4).trans e5, v2, _, _, M1, M2, rfl, hv2, RM⟩
    · obtain ⟨e3, z, y2, y3, G1, G2, rfl, hz, R⟩ := h
      rw [Nat.sub_self, List.drop_zero] at R
      exact ⟨_, rfl, k z H' G1 G2 (e2.trans e3) hz R⟩
end
end Kf
end

section
set_option Elab.async false
set_option linter.all false
set_option maxRecDepth 100000
set_option maxHeartbeats 4000000
namespace Kf
open PySem PySem.Spec PyProof.Rows L2 Lx Evl Pm RZ StX

def lastR (pl : Str) (n d : Int) : List Rn := [(pl, "R", n, d)]
def OkLad (core : List (Bool × Int × Int)) (pl : Str) (n d : Int) : Prop := core.length ≤ 4 ∧ ∀ r ∈ core.map rnOf ++ lastR pl n d, OkRn r
theorem okR_of {r : Rn} (h : OkRn r) : OkR 200 r.2.2.1 r.2.2.2 := by
  obtain ⟨_, _, h1, h2, h3, h4, _⟩ := h
  have : (10 ^ 60 : Nat) ≤ 2 ^ 200 := by decide
  exact ⟨h1, h2, by omega, by omega⟩
theorem rnOf3 (x : Bool × Int × Int) : (rnOf x).2.2.1 = x.2.1 ∧ (rnOf x).2.2.2 = x.2.2 := by
  unfold rnOf
  split <;> exact ⟨rfl, rfl⟩
theorem OkLad.lad {core : List (Bool × Int × Int)} {pl : Str} {n d : Int} (h : OkLad core pl n d) : Lad core n d 200 := by
  refine ⟨h.1, fun x hx => ?_, okR_of (h.2 (pl, "R", n, d) (by simp [lastR])), (h.2 (pl, "R", n, d) (by simp [lastR])).2.2.2.2.2.2, Nat.le_refl _⟩
  have hr := h.2 (rnOf x) (List.mem_append_left _ (List.mem_map_of_mem hx))
  have h1 := okR_of hr
  have h2 := hr.2.2.2.2.2.2
  rw [(rnOf3 x).1, (rnOf3 x).2] at h1 h2
  exact ⟨h1, h2⟩
section
variable {w : World} {K : PySem.W.Frag} {mg : Str → Option Value} {base : Heap}
abbrev sLadImp : Stmt := topS 62
theorem scLadImp : FnScope ["ladder"] ["ladder"] (defScope sLadImp) := ⟨rfl, rfl, rfl, by decide +kernel, rfl, by decide +kernel, by decide +kernel⟩
def spLadImp (K : PySem.W.Frag) : Sp := fun vs H Q _ => ∃ (x : V) (core : List (Bool × Int × Int)) (pl : Str) (n d : Int), vs = [x] ∧ LadV K H x (core.map rnOf ++ lastR pl n d) ∧ OkLad core pl n d ∧
  ∀ v H' G1 G2, Ex H H' → FunV K H' v G1 G2 → Rep G1 G2 (impP core n d).1 (impP core n d).2 → Q v H'
theorem ok_ladImp (D : DefAt K mg "ladder_impedance" sLadImp ["ladder"]) (Cn : Cal w K mg base 44 "need_ladder" ["value"] (spNeedLad K)) (Ci : Cal w K mg base 50 "impedance_from" ["ladder"] (spImpFrom K)) (Cs : Cal w K mg base 41 "small" ["one"] (spSmall K)) :
    Cal w K mg base 51 "ladder_impedance" ["ladder"] (spLadImp K) := by
  refine Cal.mk D scLadImp (fun vs H Q E h => ?_) (fun f cdv A outer s H vs Q E hr h => ?_)
  · obtain ⟨x, core, pl, n, d, rfl, _⟩ := h
    rfl
  · obtain ⟨x, core, pl, n, d, rfl, hx, hok, k⟩ := h
    refine ⟨_, pss_cons (ps_expr (pe_callC rfl Cn hr (by decide) (pa_cons (pv 0) pa_nil))) (pss_one (ps_ret (pe_callC rfl Cs hr (by decide) (pa_cons (pe_callC rfl Ci hr (by decide) (pa_cons (pv 0) pa_nil)) pa_nil)))), ?_⟩
    have hlen : (core.map rnOf ++ lastR pl n d).length = core.length + 1 := by simp [lastR]
    have h4 := hok.1
    refine ⟨_, rfl, x, _, rfl, hx, by omega, by omega, hok.2, fun H1 e1 => ⟨_, rfl, x, core, pl, n, d, 200, rfl, hx.ex e1, hok.lad, fun v H2 G1 G2 e2 hv R => ?_⟩⟩
    have I := hok.lad.imp 0
    rw [List.drop_zero] at I
    exact ⟨v, G1, G2, rfl, hv, R.len1 (Nat.le_trans I.l1 (by omega)), R.len2 (Nat.le_trans I.l2 (by omega)), k v H2 G1 G2 (e1.trans e2) hv R⟩

/-! ### need_filter -/
abbrev sNeedFil : Stmt := topS 65
abbrev nNeedFil : List Str := ["value", "rung"]
theorem scNeedFil : FnScope nNeedFil ["value"] (defScope sNeedFil) := ⟨rfl, rfl, rfl, by decide +kernel, rfl, by decide +kernel, by decide +kernel⟩
def spNeedFil (K : PySem.W.Frag) : Sp := fun vs H Q _ => ∃ (x : V) (core : List (Bool × Int × Int)) (pl : Str) (n d : Int), vs = [x] ∧ LadV K H x (core.map rnOf ++ lastR pl n d) ∧ OkLad core pl n d ∧ 1 ≤ core.length ∧ ∀ H', Ex H H' → Q .non H'
theorem ok_needFil (D : DefAt K mg "need_filter" sNeedFil ["value"]) (G : Gl0 mg base) (Cn : Cal w K mg base 44 "need_ladder" ["value"] (spNeedLad K)) : Cal w K mg base 45 "need_filter" ["value"] (spNeedFil K) := by
  refine Cal.mk D scNeedFil (fun vs H Q E h => ?_) (fun f cdv A outer s H vs Q E hr h => ?_)
  · obtain ⟨x, core, pl, n, d, rfl, _⟩ := h
    rfl
  · obtain ⟨x, core, pl, n, d, rfl, hx, hok, hc1, k⟩ := h
    refine ⟨_, pss_cons (ps_expr (pe_callC rfl Cn hr (by decide) (pa_cons (pv 0) pa_nil)))
      (pss_one (ps_if (PW.pt (pw_or (pt_cmpR op_lt (pe_len G.len (pv 0)) pe_int (nomark _)) (pw_or (pt_cmpR op_ne (pe_at (pe_at (pv 0) (pe_un un_neg pe_int)) pe_int) pe_str (nomark _))
        (pw_or1 (pt_not (pt_val (pe_callB (cr_all rfl) (by rfl) G.all (by decide +kernel) (pa_cons (pe_lc (own := [("rung", 1)]) (g := gName 1) (tt := tYes) rfl scNeedFil.nd (pi_tup (pe_slice sl_seq (pv 0) po_none (po_some (pe_un un_neg pe_int)))) (blkOk_by (N := nNeedFil) (sc := defScope sNeedFil) (by decide +kernel))
          (fun _ _ _ _ _ => pg_name (i := 1) scNeedFil.nd rfl (.inl rfl)) (fun _ _ _ _ _ => pts_nil) (fun _ _ _ _ _ => pe_cmpR op_ne (show PE _ _ (tOp (rIxQ K) (tVar 1) (tC (.int 1))) from pe_at (pv 1) pe_int) pe_str (nomark _))) pa_nil)))))))) pss_never pss_nil)), ?_⟩
    have hlen : (core.map rnOf ++ lastR pl n d).length = core.length + 1 := by simp [lastR]
    have h4 := hok.1
    refine ⟨_, rfl, x, _, rfl, hx, by omega, by omega, hok.2, fun H1 e1 => ?_⟩
    obtain ⟨a, xs, rfl, hA, hl, hf⟩ := hx.ex e1
    have hl1 : xs.length = core.length + 1 := by rw [hl, hlen]
    have hxs : xs ≠ [] := fun z => by rw [z] at hl1; simp at hl1
    obtain ⟨xl, hxl, la, ly, rfl, hla, _⟩ := hf core.length (pl, "R", n, d) (by rw [List.getElem?_append_right (by simp)]; simp [lastR])
    have hat : atI xs (-1) = some (.ref la) := atI_last' (by rw [hl1]; exact hxl)
    refine ⟨_, rfl, a, _, rfl, .inl hA, _, _, rfl, rfl, _, rfl, ?_⟩
    rw [decide_eq_false (show ¬ (xs.length : Int) < 2 by omega)]
    refine iteF ⟨_, rfl, _, rfl, a, _, _, _, rfl, rfl, .inl hA, hat, la, _, _, _, rfl, rfl, .inl hla, rfl, rfl, _, rfl, iteF ?_⟩
    refine ⟨_, rfl, _, rfl, _, rfl, a, xs, rfl, .inl ⟨hA, fun p1 H2 e2 hp1 => ?_⟩⟩
    rw [cutV_last hxs] at hp1
    have hlen2 : (xs.take (xs.length - 1)).length = core.length := by rw [List.length_take]; omega
    have hgetx : ∀ i, i < core.length → (xs.take (xs.length - 1))[i]? = xs[i]? := fun i hi => List.getElem?_take_of_lt (by omega)
    have hcore : ∀ i, i < core.length → ∃ xa y kd pl, xs[i]? = some (.ref xa) ∧ SqT K H1 xa [.str pl, .str kd, y] ∧ kd ≠ "R" := fun i hi => by
      obtain ⟨x, hx, xa, y, rfl, hxa, _⟩ := hf i (rnOf core[i]) (by rw [List.getElem?_append_left (by rw [List.length_map]; exact hi), List.getElem?_map, List.getElem?_eq_getElem hi]; rfl)
      refine ⟨xa, y, _, _, hx, hxa, ?_⟩
      unfold rnOf
      split
      · show ("L" : Str) ≠ "R"; decide +kernel
      · show ("C" : Str) ≠ "R"; decide +kernel
    refine ⟨p1, rfl, ⟨_, hp1⟩, fun D hD => ?_⟩
    refine lc_out core.length (fun i => .bl true) (by omega) hD (fun i H' hi e => ?_) (fun H' e => ?_) (fun i H' x H3 hi e y => ?_) gName_mono (fun H' e hl => ?_)
    · obtain ⟨xa, y, kd, pl2, hx, _⟩ := hcore i hi
      exact ⟨_, _, ex_t e hp1, by rw [hgetx i hi]; exact hx⟩
    · exact ⟨_, ex_t e hp1, by rw [hlen2]; exact Nat.le_refl _⟩
    · obtain ⟨rfl, fx⟩ := y
      obtain ⟨xa, y, kd, pl2, hx, hxa, hkd⟩ := hcore i hi
      have ex := Option.some.inj ((fx _ (ex_t e hp1)).symm.trans ((hgetx i hi).trans hx))
      subst ex
      refine ⟨rfl, fun R hR => ⟨_, rfl, xa, _, _, _, rfl, rfl, .inl (ex_t (e2.trans e) hxa), rfl, rfl, ?_⟩⟩
      rw [decide_eq_false (fun z => hkd (V.str.inj z))]
      exact hR _ (Ex.refl _)
    · have hb : ((List.range core.length).map fun _ => true).all id = true := by simp
      refine ⟨D, (List.range core.length).map fun _ => true, rfl, sq_of (by rw [hl, List.map_map]; rfl), _, rfl, ?_⟩
      rw [hb]
      exact iteF (k _ ((e1.trans e2).trans e))

/-! ### echo_of_ladder, echo_polys -/
abbrev sEchoOf : Stmt := topS 66
abbrev nEchoOf : List Str := ["ladder", "told"]
theorem scEchoOf : FnScope nEchoOf ["ladder"] (defScope sEchoOf) := ⟨rfl, rfl, rfl, by decide +kernel, rfl, by decide +kernel, by decide +kernel⟩
def dfT (t b : List Int) : List Int := addL t (smul (-1) b)
theorem ev_dfT (t b : List Int) (x : Int) : ev (dfT t b) x = ev t x - ev b x := by unfold dfT; rw [ev_addL, ev_smul]; omega
theorem cop_echo {t b : List Int} (h : Cop t b) : Cop (dfT t b) (addL t b) := by
  obtain ⟨m, hm, u, v, e⟩ := h
  refine ⟨2 * m, by omega, dfT u v, addL u v, fun x => ?_⟩
  rw [ev_dfT, ev_dfT, ev_addL, ev_addL, ← e x]
  grind
theorem dfT_len {t b : List Int} {L : Nat} (h1 : t.length ≤ L) (h2 : b.length ≤ L) : (dfT t b).length ≤ L := by
  unfold dfT
  rw [addL_len, smul, List.length_map]; omega
theorem dfT_nrm {t b : List Int} {m : Nat} (h1 : nrm t ≤ 2 ^ m) (h2 : nrm b ≤ 2 ^ m) : nrm (dfT t b) ≤ 2 ^ (m + 1) := by
  unfold dfT
  refine Nat.le_trans (nrm_addL _ _) (pow_two h1 ?_)
  rw [nrm_smul]; simpa using h2
def spEchoOf (K : PySem.W.Frag) (sw : Bool) : Sp := fun vs H Q _ => ∃ (x : V) (core : List (Bool × Int × Int)) (pl : Str) (n d : Int), vs = [x] ∧ LadV K H x (core.map rnOf ++ lastR pl n d) ∧ OkLad core pl n d ∧ 1 ≤ core.length ∧ (∃ x, ev (impP core n d).1 x ≠ ev (impP core n d).2 x) ∧
  ∀ v H' G1 G2, Ex H H' → (if sw then FunV K H' v G2 G1 else FunV K H' v G1 G2) → Rep G1 G2 (dfT (impP core n d).1 (impP core n d).2) (addL (impP core n d).1 (impP core n d).2) → Q v H'
theorem ok_echoOf (D : DefAt K mg "echo_of_ladder" sEchoOf ["ladder"]) (Gv : Gc K mg) (Ci : Cal w K mg base 50 "impedance_from" ["ladder"] (spImpFrom K))
    (Cp : Cal w K mg base 47 "plus_of" ["one", "other"] (spBin K (fun t1 b1 t2 b2 => t1 * b2 + t2 * b1) fun _ b1 _ b2 => b1 * b2)) (Cm : Cal w K mg base 47 "minus_of" ["one", "other"] (spBin K (fun t1 b1 t2 b2 => t1 * b2 - t2 * b1) fun _ b1 _ b2 => b1 * b2))
    (Co : Cal w K mg base 48 "over_of" ["one", "other"] (spOver K)) : Cal w K mg base 51 "echo_of_ladder" ["ladder"] (spEchoOf K false) := by
  obtain ⟨oa, hoa, hov⟩ := Gv.one
  refine Cal.mk D scEchoOf (fun vs H Q E h => ?_) (fun f cdv A outer s H vs Q E hr h => ?_)
  · obtain ⟨x, core, pl, n, d, rfl, _⟩ := h
    rfl
  · obtain ⟨x, core, pl, n, d, rfl, hx, hok, hc1, hne, k⟩ := h
    refine ⟨_, pss_cons (ps_set (i := 1) scEchoOf.nd rfl (.inl rfl) (pe_callC rfl Ci hr (by decide) (pa_cons (pv 0) pa_nil)))
      (pss_one (ps_ret (pe_callC rfl Co hr (by decide) (pa_cons (pe_callC rfl Cm hr (by decide) (pa_cons (pv 1) (pa_cons (pe_glob (v := .ref oa) (by rfl) hoa rfl) pa_nil))) (pa_cons (pe_callC rfl Cp hr (by decide) (pa_cons (pv 1) (pa_cons (pe_glob (v := .ref oa) (by rfl) hoa rfl) pa_nil))) pa_nil))))), ?_⟩
    refine ⟨_, rfl, x, core, pl, n, d, 200, rfl, hx, hok.lad, fun v H1 F1 F2 e1 hv R => ?_⟩
    have I := hok.lad.imp 0
    rw [List.drop_zero] at I
    have h4 := hok.1
    have hm : 200 + core.length * (200 + 1) ≤ 1004 := by omega
    generalize hL : core.length + 1 = L at I
    generalize 200 + core.length * (200 + 1) = m at I hm
    generalize (impP core n d).1 = t at I R hne k
    generalize (impP core n d).2 = b at I R hne k
    have fo : ∀ H', FW K H' (.ref oa) [1] [1] 1 0 := fun H' => ⟨hov H', by decide, by decide, by decide, by decide, fun a h => by simp at h; omega, fun a h => by simp at h; omega, by decide⟩
    have up : ∀ {a : Nat}, a ≤ 2 ^ (m + 1) → a ≤ 2 ^ 9999 := fun h => Nat.le_trans h (pow_up (by omega))
    have um : 2 ^ m ≤ 2 ^ (m + 1) := pow_up (by omega)
    obtain ⟨κ, hκ, k1, k2⟩ := R.ev1
    have c1 : Cop (dfT t b) b := cop_lin (q := [-1]) I.cop (by decide : (1 : Int) ≠ 0) fun x => by rw [ev_dfT, ev1]; omega
    have c2 : Cop (addL t b) b := cop_lin (q := [1]) I.cop (by decide : (1 : Int) ≠ 0) fun x => by rw [ev_addL, ev1]; omega
    have nd := dfT_nrm I.n1 I.n2
    have ns : nrm (addL t b) ≤ 2 ^ (m + 1) := Nat.le_trans (nrm_addL _ _) (pow_two I.n1 I.n2)
    have ls : (addL t b).length ≤ L := by rw [addL_len]; have := I.l1; have := I.l2; omega
    have nz1 : ∃ x, ev (dfT t b) x ≠ 0 := let ⟨x, hx⟩ := hne; ⟨x, by rw [ev_dfT]; omega⟩
    have nz2 : ∃ x, ev (addL t b) x ≠ 0 := ⟨0, by rw [ev_addL]; have := I.p1; have := I.p2; omega⟩
    have one : ∀ x : Int, ev [1] x = 1 := fun x => ev1 1 x
    refine ⟨_, rfl, v, .ref oa, F1, F2, [1], [1], L, 1, m, 0, dfT t b, b, rfl, R.fw hv I.l1 I.l2 I.n1 I.n2, fo _, by omega, by omega, fun z => ?_, c1, up nd, up (Nat.le_trans I.n2 um), nz1, fun v2 H2 G1 G2 e2 hv2 R2 => ?_⟩
    · rw [one, ev_dfT, k1, k2]; grind
    · refine ⟨_, rfl, v, .ref oa, F1, F2, [1], [1], L, 1, m, 0, addL t b, b, rfl, R.fw (hv.ex e2) I.l1 I.l2 I.n1 I.n2, fo _, by omega, by omega, fun z => ?_, c2, up ns, up (Nat.le_trans I.n2 um), nz2, fun v3 H3 J1 J2 e3 hv3 R3 => ?_⟩
      · rw [one, ev_addL, k1, k2]; grind
      · obtain ⟨c, hc, q1, q2⟩ := R2.ev1
        obtain ⟨c', hc', q3, q4⟩ := R3.ev1
        refine ⟨v2, v3, G1, G2, J1, J2, L, L, m + 1, m + 1, dfT t b, addL t b, rfl, R2.fw (hv2.ex e3) (dfT_len I.l1 I.l2) I.l2 nd (Nat.le_trans I.n2 um), R3.fw hv3 ls I.l2 ns (Nat.le_trans I.n2 um), by omega, by omega, by omega, R3.cop c2, R3.ne1 nz2, fun z => ?_, cop_echo I.cop, up nd, up ns, nz1, fun v4 H4 M1 M2 e4 hv4 R4 => k v4 H4 M1 M2 (((e1.trans e2).trans e3).trans e4) hv4 R4⟩
        have b1 := q1 z
        have b2 := q2 z
        have b3 := q3 z
        have b4 := q4 z
        rw [b1, b3]
        have hcc : c * c' ≠ 0 := Int.mul_ne_zero hc hc'
        refine Int.eq_of_mul_eq_mul_left hcc ?_
        have u1 : c * c' * (ev G1 z * ev J2 z * (c' * ev J1 z)) = (c * ev G1 z) * (c' * ev J2 z) * (c' * ev J1 z) := by grind
        have u2 : c * c' * (ev G2 z * ev J1 z * (c * ev G1 z)) = (c * ev G2 z) * (c' * ev J1 z) * (c * ev G1 z) := by grind
        rw [u1, u2, ← b4, ← b2]
        grind
abbrev sEchoPolys : Stmt := topS 67
abbrev nEchoPolys : List Str := ["ladder", "echo"]
theorem scEchoPolys : FnScope nEchoPolys ["ladder"] (defScope sEchoPolys) := ⟨rfl, rfl, rfl, by decide +kernel, rfl, by decide +kernel, by decide +kernel⟩
theorem ok_echoPolys (D : DefAt K mg "echo_polys" sEchoPolys ["ladder"]) (Cn : Cal w K mg base 45 "need_filter" ["value"] (spNeedFil K)) (Ce : Cal w K mg base 51 "echo_of_ladder" ["ladder"] (spEchoOf K false)) (Cs : Cal w K mg base 41 "small" ["one"] (spSmall K)) :
    Cal w K mg base 52 "echo_polys" ["ladder"] (spEchoOf K true) := by
  refine Cal.mk D scEchoPolys (fun vs H Q E h => ?_) (fun f cdv A outer s H vs Q E hr h => ?_)
  · obtain ⟨x, core, pl, n, d, rfl, _⟩ := h
    rfl
  · obtain ⟨x, core, pl, n, d, rfl, hx, hok, hc1, hne, k⟩ := h
    refine ⟨_, pss_cons (ps_expr (pe_callC rfl Cn hr (by decide) (pa_cons (pv 0) pa_nil))) (pss_cons (ps_set (i := 1) scEchoPolys.nd rfl (.inl rfl) (pe_callC rfl Cs hr (by decide) (pa_cons (pe_callC rfl Ce hr (by decide) (pa_cons (pv 0) pa_nil)) pa_nil)))
      (pss_one (ps_ret (pe_tup (pa_cons (pe_at (pv 1) pe_int) (pa_cons (pe_at (pv 1) pe_int) pa_nil)))))), ?_⟩
    refine ⟨_, rfl, x, core, pl, n, d, rfl, hx, hok, hc1, fun H1 e1 => ?_⟩
    have I := hok.lad.imp 0
    rw [List.drop_zero] at I
    have h4 := hok.1
    refine ⟨_, rfl, x, core, pl, n, d, rfl, hx.ex e1, hok, hc1, hne, fun v H2 G1 G2 e2 hv R => ?_⟩
    have hv' : FunV K H2 v G1 G2 := hv
    have l1 := dfT_len I.l1 I.l2
    have l2 : (addL (impP core n d).1 (impP core n d).2).length ≤ core.length + 1 := by rw [addL_len]; have := I.l1; have := I.l2; omega
    refine ⟨v, G1, G2, rfl, hv', R.len1 (Nat.le_trans l1 (by omega)), R.len2 (Nat.le_trans l2 (by omega)), ?_⟩
    obtain ⟨a, y, z, rfl, hA, hy, hz⟩ := hv'
    refine ⟨_, rfl, a, _, _, _, rfl, rfl, .inl hA, at1, _, rfl, a, _, _, _, rfl, rfl, .inl hA, at0, sz2, fun p np => ?_⟩
    refine k _ _ G1 G2 ((e1.trans e2).trans (Ex.new np)) ?_ R
    show FunV K _ _ G2 G1
    exact ⟨p, z, y, rfl, st_of upd_same, hz.ex (Ex.new np), hy.ex (Ex.new np)⟩
end
end Kf
end

section
set_option Elab.async false
set_option linter.all false
set_option maxRecDepth 100000
set_option maxHeartbeats 4000000
namespace Kf
open PySem PySem.Spec PyProof.Rows L2 Lx Evl Pm RZ StX

/-! ### != of lists of ints -/
def dL (p : List Int) : PyData := .list (p.map PyData.int)
theorem dL_shaped (p : List Int) : SeqAt.shaped (dL p) = true := by
  simp [SeqAt.shaped, dL, PyData.canLay0, PyData.depth, dI_lay, dI_depth]
theorem eqv_dL (p q : List Int) : PyData.eqv (dL p) (dL q) = decide (p = q) := by
  simp only [dL, PyData.eqv, eqvAll_ints]
section
variable {X : Cx}
def rNeL (K : PySem.W.Frag) : R2 := fun x y H Q => ∃ (a b : Addr) (p q : List Int), x = .ref a ∧ y = .ref b ∧ SqL K H a (p.map V.int) ∧ SqL K H b (q.map V.int) ∧ Q (.bl (!decide (p = q))) H
theorem op_neL (hu : X.A.units + 64 < cLine) : OpR X (compareOp .NotEq) (rNeL X.K) := by
  intro pins s σ H x y v u Q I rx ry h
  obtain ⟨a, b, p, q, rfl, rfl, hp, hq, k⟩ := h
  exact op_neD hu pins s σ H _ _ v u Q I rx ry ⟨_, _, .lst hp (dp_all p), .lst hq (dp_all q), dL_shaped p, dL_shaped q, by rw [← eqv_dL] at k; exact k⟩
end
theorem nrm_less {F S : List Int} {sh : Bool} {b : Nat} (hS : S ≠ []) (h : S.length = (if sh then F.length - 1 else F.length)) (h1 : nrm F ≤ 2 ^ b) (h2 : nrm S ≤ 2 ^ b) : nrm (lessL F S sh) ≤ 2 ^ (2 * b + 1) := by
  have e : 2 ^ (2 * b + 1) = 2 ^ b * 2 ^ b + 2 ^ b * 2 ^ b := by rw [Nat.pow_succ, show 2 * b = b + b by omega, Nat.pow_add]; omega
  have hm : nrm (moved sh S) ≤ 2 ^ b := by
    cases sh
    · exact h2
    · show nrm (0 :: S) ≤ _
      rw [nrm_cons]; simpa using h2
  have l1 := nrm_lead h1
  have l2 := nrm_lead h2
  have k : nrm (dif (smul (lead S) F) (smul (lead F) (moved sh S))) ≤ 2 ^ (2 * b + 1) := by
    unfold dif
    rw [e]
    refine Nat.le_trans (nrm_addL _ _) ?_
    rw [nrm_smul, nrm_smul, nrm_smul]
    have a1 := Nat.mul_le_mul l2 h1
    have a2 := Nat.mul_le_mul l1 hm
    have a3 : (-1 : Int).natAbs = 1 := rfl
    rw [a3, Nat.one_mul]
    omega
  refine Nat.le_trans (nrm_le_of_dvd (k := if lead S < 0 then -1 else 1) (q := dif (smul (lead S) F) (smul (lead F) (moved sh S))) (by split <;> decide) fun i => ?_) k
  rw [co_less hS h, co_dif, co_smul, co_smul]
  split <;> grind

section
variable {w : World} {K : PySem.W.Frag} {mg : Str → Option Value} {base : Heap}
theorem tIf_via2 {t : TT} {ta tb : TE} {σ : L2.St} {H : Hp} {Q : VK} (P : V → Hp → Prop) (h : ∀ R : VK, (∀ v H1, P v H1 → R v H1) → tIf t ta tb σ H R) (q : ∀ v H1, P v H1 → Q v H1) : tIf t ta tb σ H Q := h Q q
theorem tIfS_via {t : TT} {a b : TS} {D : Ends} {σ : L2.St} {H : Hp} (P : L2.St → Hp → Prop) (h : ∀ N : L2.St → Hp → Prop, (∀ σ H, P σ H → N σ H) → tIfS t a b { D with nx := N } σ H) (q : ∀ σ H, P σ H → D.nx σ H) : tIfS t a b D σ H := h D.nx q
theorem neg_range (l : List Int) : (List.range l.length).map (fun i => -co l i) = l.map fun a => -a := by
  have : (List.range l.length).map (fun i => -co l i) = ((List.range l.length).map fun i => co l i).map fun a => -a := by rw [List.map_map]; rfl
  rw [this, map_range_co]
/-! ### less_lead -/
abbrev sLess : Stmt := topS 47
abbrev nLess : List Str := ["first", "second", "shifted", "moved", "rest", "a", "b"]
theorem scLess : FnScope nLess ["first", "second", "shifted"] (defScope sLess) := ⟨rfl, rfl, rfl, by decide +kernel, rfl, by decide +kernel, by decide +kernel⟩
def spLess (K : PySem.W.Frag) : Sp := fun vs H Q _ => ∃ (x y : V) (F S : List Int) (sh : Bool) (b : Nat), vs = [x, y, .bl sh] ∧ PolyV K H x F ∧ PolyV K H y S ∧ F.length ≤ 1000 ∧ F ≠ [] ∧ S ≠ [] ∧ S.length = (if sh then F.length - 1 else F.length) ∧ nrm F ≤ 2 ^ b ∧ nrm S ≤ 2 ^ b ∧ 2 * b + 2 < 134217000 ∧
  ∀ v H', Ex H H' → PolyV K H' v (lessL F S sh) → Q v H'
theorem ok_less (D : DefAt K mg "less_lead" sLess ["first", "second", "shifted"]) (G : Gl0 mg base) : Cal w K mg base 41 "less_lead" ["first", "second", "shifted"] (spLess K) := by
  refine Cal.mk D scLess (fun vs H Q E h => ?_) (fun f cdv A outer s H vs Q E hr h => ?_)
  · obtain ⟨x, y, F, S, sh, b, rfl, _⟩ := h
    rfl
  · obtain ⟨x, y, F, S, sh, b, rfl, ⟨fa, rfl, hF⟩, ⟨sa, rfl, hS⟩, l1, hF0, hS0, hl, n1, n2, hsz, k⟩ := h
    refine ⟨_, pss_cons (ps_set (i := 3) scLess.nd rfl (.inl rfl) (pe_ifExp (pt_val (pv 2)) (pe_tup (pa_cons pe_int (pa_star (pv 1) pa_nil))) (pv 1)))
      (pss_cons (ps_setLc (i := 4) (own := [("a", 5), ("b", 6)]) (g := gTup K 2 (gCons (gName 5) (gCons (gName 6) gNil))) (tt := tYes) rfl scLess.nd rfl rfl (by rfl) (pi_zipA (by rfl) G.zip (pa_cons (pv 0) (pa_cons (pv 3) pa_nil))) (blkOk_by (N := nLess) (sc := defScope sLess) (by decide +kernel))
          (fun _ _ _ _ _ => pg_tup rfl (pgs_cons (pg_name (i := 5) scLess.nd rfl (.inl rfl)) (pgs_cons (pg_name (i := 6) scLess.nd rfl (.inl rfl)) pgs_nil))) (fun _ _ _ _ _ => pts_nil)
          (fun _ _ _ _ _ => pe_op op_sub (pe_op op_mulA (pv 5) (show PE _ _ (tOp (rIxQ K) (tVar 1) (tUn (rU fun i => .int (-i)) (tC (.int 1)))) from pe_at (pv 1) (pe_un un_neg pe_int))) (pe_op op_mulA (pv 6) (show PE _ _ (tOp (rIxQ K) (tVar 0) (tUn (rU fun i => .int (-i)) (tC (.int 1)))) from pe_at (pv 0) (pe_un un_neg pe_int)))))
      (pss_cons (ps_if (pt_cmpR op_lt (pe_at (pv 1) (pe_un un_neg pe_int)) pe_int (nomark _)) (pss_one (ps_setLc (i := 4) (own := [("a", 5)]) (g := gName 5) (tt := tYes) rfl scLess.nd rfl rfl (by rfl) (pi_list (pv 4)) (blkOk_by (N := nLess) (sc := defScope sLess) (by decide +kernel))
          (fun _ _ _ _ _ => pg_name (i := 5) scLess.nd rfl (.inl rfl)) (fun _ _ _ _ _ => pts_nil) (fun _ _ _ _ _ => pe_un un_neg (pv 5)))) pss_nil)
      (pss_cons (ps_while PassesOwn.never (PW.pt (pw_and (pt_cmpR (op_neL hr.units) (pv 4) (pe_lst pa_nil) (nomark _)) (pw_and1 (pt_cmpR op_eq (pe_at (pv 4) (pe_un un_neg pe_int)) pe_int (nomark _)))))
        (pss_one (ps_expr (pe_bm0 PySem.F.plainAttrs_list PySem.F.slot_list_pop PySem.F.type_list_pop mt_pop (pv 4)))))
      (pss_one (ps_ret (pe_tuple G.tuple (pv 4))))))), ?_⟩
    have sz : ∀ m, m ≤ 100000 → m ≤ sizeLine := fun m h => sz_of h
    have hl1 : 0 < F.length := List.length_pos_iff.mpr hF0
    have hml := moved_len hS0 hl
    have hSl : S.length ≤ 1000 := by cases sh <;> simp at hl <;> omega
    have nm : nrm (moved sh S) ≤ 2 ^ b := by
      cases sh
      · exact n2
      · show nrm (0 :: S) ≤ _
        rw [nrm_cons]; simpa using n2
    refine tIf_via2 (fun v H1 => Ex H H1 ∧ PolyV K H1 v (moved sh S)) (fun R hR => ?_) (fun v H1 hP => ?_)
    · refine ⟨_, rfl, sh, rfl, ?_⟩
      cases sh
      · exact iteF ⟨_, rfl, hR _ _ ⟨Ex.refl H, ⟨sa, rfl, hS⟩⟩⟩
      · refine iteT ⟨_, rfl, sa, _, rfl, .inl hS, ?_⟩
        refine ⟨by simp; exact sz _ (by omega), fun p np => hR _ _ ⟨Ex.new np, p, rfl, st_of ?_⟩⟩
        rw [upd_same]
        simp [moved]
    obtain ⟨e1, ma, rfl, hM⟩ := hP
    have hF1 := ex_t e1 hF
    -- rest
    refine ⟨_, rfl, _, rfl, fa, ma, _, _, rfl, .inr ⟨hF1, hM, fun D hD => ?_⟩⟩
    have nDH : H D = none := fresh_back e1 hD
    refine lc_out F.length (fun i => .int (co F i * lead S - co (moved sh S) i * lead F)) (by omega) hD (fun i H' hi e => ⟨_, _, _, _, ex_t e hF1, ex_t e hM, ints_at hi, ints_at (by rw [hml]; exact hi)⟩)
      (fun H' e => ⟨_, _, ex_t e hF1, ex_t e hM, .inl (by rw [List.length_map]; exact Nat.le_refl _)⟩) (fun i H' x H2 hi e y => ?_) gPair_mono (fun H' e hl2 => ?_)
    · obtain ⟨T, u, v, rfl, nT, rfl, fu, fv⟩ := y
      have eu := Option.some.inj ((fu _ (ex_t e hF1)).symm.trans (ints_at hi))
      have ev := Option.some.inj ((fv _ (ex_t e hM)).symm.trans (ints_at (by rw [hml]; exact hi)))
      subst eu ev
      have e2 : Ex H (upd H' T (.tup [.int (co F i), .int (co (moved sh S) i)])) := (e1.trans e).trans (Ex.new nT)
      refine ⟨T, _, rfl, st_of upd_same, rfl, _, _, rfl, _, _, rfl, rfl, rfl, fun R hR => ?_⟩
      refine ⟨_, rfl, _, rfl, _, rfl, sa, _, _, _, rfl, rfl, .inl (ex_t e2 hS), atI_lead hS0, _, _, rfl, rfl, cmul_of (Nat.le_trans (co_le_nrm F i) n1) (nrm_lead n2) (by omega), ?_⟩
      exact ⟨_, rfl, _, rfl, _, rfl, fa, _, _, _, rfl, rfl, .inl (ex_t e2 hF), atI_lead hF0, _, _, rfl, rfl, cmul_of (Nat.le_trans (co_le_nrm _ i) nm) (nrm_lead n1) (by omega), _, _, rfl, rfl, hR _ (Ex.new nT)⟩
    · have e2 : Ex H H' := e1.trans e
      generalize hrl : (List.range F.length).map (fun i => co F i * lead S - co (moved sh S) i * lead F) = rl
      have hD2 : H' D = some (.lst (rl.map V.int)) := by rw [← hrl, List.map_map]; exact hl2
      have hrll : rl.length = F.length := by rw [← hrl]; simp
      have hrc : ∀ i, co rl i = co F i * lead S - co (moved sh S) i * lead F := fun i => by
        rw [← hrl, co_rangeP]
        by_cases hi : i < F.length
        · rw [if_pos hi]
        · rw [if_neg hi, co_out (p := F) (by omega), co_out (p := moved sh S) (by omega)]; omega
      dsimp only [gName, tSeq]
      refine tIfS_via (fun σ H2 => Ex H H2 ∧ ∃ (mv : V) (D2 : Addr) (l : List Int) (y5 y6 : Option V), σ = [some (.ref fa), some (.ref sa), some (.bl sh), some mv, some (.ref D2), y5, y6] ∧ H2 D2 = some (.lst (l.map V.int)) ∧ H D2 = none ∧ l.length ≤ 1000 ∧ trim l = lessL F S sh)
        (fun N hN => ?_) (fun σ H2 hP => ?_)
      · refine ⟨_, rfl, _, rfl, sa, _, _, _, rfl, rfl, .inl (ex_t e2 hS), atI_lead hS0, _, _, rfl, rfl, _, rfl, ?_⟩
        by_cases hn : lead S < 0
        · rw [decide_eq_true hn]
          refine iteT ⟨_, rfl, D, rfl, ⟨_, sq_of hD2⟩, fun D2 hD3 => ?_⟩
          refine lc_out rl.length (fun i => .int (-co rl i)) (by omega) hD3 (fun i H' hi e => ⟨_, _, sq_of (e _ _ hD2), ints_at hi⟩) (fun H' e => ⟨_, sq_of (e _ _ hD2), by rw [List.length_map]; exact Nat.le_refl _⟩) (fun i H' x H2 hi e y => ?_) gName_mono (fun H3 e3 hl3 => ?_)
          · obtain ⟨rfl, fx⟩ := y
            have ex := Option.some.inj ((fx _ (sq_of (e _ _ hD2))).symm.trans (ints_at hi))
            subst ex
            exact ⟨rfl, fun R hR => ⟨_, rfl, _, rfl, hR _ (Ex.refl _)⟩⟩
          · refine hN _ _ ⟨e2.trans e3, _, D2, rl.map fun a => -a, _, _, rfl, ?_, fresh_back e2 hD3, by rw [List.length_map]; omega, ?_⟩
            · rw [hl3, ← neg_range, List.map_map]; rfl
            · refine trim_eq (tr_trim _) fun i => ?_
              show _ = co (lessL F S sh) i
              rw [co_less hS0 hl, if_pos hn, ← hrc]
              have : co (rl.map fun a => -a) i = co (smul (-1) rl) i := by
                congr 1
                unfold smul
                exact List.map_congr_left fun a _ => by omega
              rw [this, co_smul]; omega
        · rw [decide_eq_false hn]
          refine iteF (hN _ _ ⟨e2, _, D, rl, _, _, rfl, hD2, nDH, by omega, ?_⟩)
          refine trim_eq (tr_trim _) fun i => ?_
          show _ = co (lessL F S sh) i
          rw [co_less hS0 hl, if_neg hn, ← hrc]
      · obtain ⟨e3, mv, D2, l, y5, y6, rfl, hD4, nD4, ll, ht⟩ := hP
        refine ⟨fun m σ H3 => Ex H H3 ∧ ∃ (l : List Int), σ = [some (.ref fa), some (.ref sa), some (.bl sh), some mv, some (.ref D2), y5, y6] ∧ H3 D2 = some (.lst (l.map V.int)) ∧ m = l.length ∧ l.length ≤ 1000 ∧ trim l = lessL F S sh, ⟨_, e3, l, rfl, hD4, rfl, ll, ht⟩, ?_⟩
        rintro m σ H3 ⟨e4, l, rfl, hD5, rfl, ll, ht⟩
        refine ⟨_, rfl, sz _ (by decide), fun t0 nt0 => ⟨D2, t0, l, [], rfl, rfl, sq_of (by rw [upd_ne (ne_of_none hD5 nt0)]; exact hD5), sq_of upd_same, _, rfl, ?_⟩⟩
        have e5 : Ex H (upd H3 t0 (.lst [])) := e4.trans (Ex.new nt0)
        have hD6 : (upd H3 t0 (.lst [])) D2 = some (.lst (l.map V.int)) := by rw [upd_ne (ne_of_none hD5 nt0)]; exact hD5
        generalize upd H3 t0 (.lst []) = H4 at e5 hD6
        have fin : Tr l → tRet (tCB (rTupS K) (tCons (tVar 4) tNil)) { nx := fun _ H' => Q .non H', rt := Q } [some (.ref fa), some (.ref sa), some (.bl sh), some mv, some (.ref D2), y5, y6] H4 := fun tl => by
          refine ⟨_, rfl, D2, _, rfl, .inr (sq_of hD6), fun a H5 e6 hv => k _ H5 (e5.trans e6) ⟨a, rfl, ?_⟩⟩
          rw [← ht, trim_id tl]
          exact hv
        by_cases h0 : l = []
        · rw [decide_eq_true h0]
          exact iteF (iteF (fin (by rw [h0]; exact tr_nil)))
        · rw [decide_eq_false h0]
          have hll : 0 < l.length := List.length_pos_iff.mpr h0
          refine iteT ⟨_, rfl, _, rfl, D2, _, _, _, rfl, rfl, .inr (sq_of hD6), atI_lead h0, rfl, _, rfl, ?_⟩
          by_cases hz : lead l = 0
          · rw [decide_eq_true (congrArg V.int hz)]
            refine iteT ⟨fun σ H5 => Ex H H5 ∧ σ = [some (.ref fa), some (.ref sa), some (.bl sh), some mv, some (.ref D2), y5, y6] ∧ H5 D2 = some (.lst (l.dropLast.map V.int)), ?_, ?_⟩
            · rintro σ' H5 ⟨e6, rfl, hD7⟩
              refine ⟨l.dropLast.length, by rw [List.length_dropLast]; omega, e6, l.dropLast, rfl, hD7, rfl, by rw [List.length_dropLast]; omega, ?_⟩
              rw [← ht, List.dropLast_eq_take, ← trim_take (m := l.length - 1) (by omega) hz, show l.length - 1 + 1 = l.length by omega, List.take_length]
            · refine ⟨_, rfl, .inl ⟨rfl, _, sq_of hD6⟩, D2, _, .int (lead l), rfl, rfl, hD6, ?_, ?_⟩
              · rw [List.length_map, List.getElem?_map, get_co (by omega)]; rfl
              · refine ⟨Ex.mut e5 nD4, rfl, ?_⟩
                rw [upd_same, List.map_dropLast]
          · rw [decide_eq_false (fun z => hz (V.int.inj z))]
            exact iteF (fin (tr_of_lead fun _ => hz))
end
end Kf
end

section
set_option Elab.async false
set_option linter.all false
set_option maxRecDepth 100000
set_option maxHeartbeats 4000000
namespace Kf
open PySem PySem.Spec PyProof.Rows L2 Lx Evl Pm RZ StX

theorem all_any (n : Nat) (f : Nat → Int) : ((List.range n).all fun i => decide (0 < f i)) = !(((List.range n).map fun i => decide (f i ≤ 0)).any id) := by
  rw [List.any_map]
  generalize List.range n = l
  induction l with
  | nil => rfl
  | cons a l ih =>
    rw [List.all_cons, List.any_cons, ih, Bool.not_or]
    congr 1
    show _ = !decide (f a ≤ 0)
    by_cases h : 0 < f a
    · rw [decide_eq_true h, decide_eq_false (by omega)]; rfl
    · rw [decide_eq_false h, decide_eq_true (by omega)]; rfl
section
variable {w : World} {K : PySem.W.Frag} {mg : Str → Option Value} {base : Heap}
/-! ### is_on_left, is_left -/
abbrev sOnLeft : Stmt := topS 46
abbrev nOnLeft : List Str := ["one", "first", "second", "shifted", "a"]
theorem scOnLeft : FnScope nOnLeft ["one"] (defScope sOnLeft) := ⟨rfl, rfl, rfl, by decide +kernel, rfl, by decide +kernel, by decide +kernel⟩
def spOnLeft (K : PySem.W.Frag) : Sp := fun vs H Q _ => ∃ (x : V) (p : List Int), vs = [x] ∧ PolyV K H x p ∧ OkP p ∧ p ≠ [] ∧ ∀ H', Ex H H' → Q (.bl (hur p)) H'
theorem ok_onLeft (D : DefAt K mg "is_on_left" sOnLeft ["one"]) (G : Gl0 mg base) (Ce : Cal w K mg base 42 "even_part" ["one"] (sp1 K evens)) (Co : Cal w K mg base 42 "odd_part" ["one"] (sp1 K odds)) (Cl : Cal w K mg base 41 "less_lead" ["first", "second", "shifted"] (spLess K)) :
    Cal w K mg base 43 "is_on_left" ["one"] (spOnLeft K) := by
  refine Cal.mk D scOnLeft (fun vs H Q E h => ?_) (fun f cdv A outer s H vs Q E hr h => ?_)
  · obtain ⟨x, p, rfl, _⟩ := h
    rfl
  · obtain ⟨x, p, rfl, ⟨a, rfl, hA⟩, ⟨tp, lp, hp⟩, hp0, k⟩ := h
    refine ⟨_, pss_cons (ps_if (pt_val (pe_callB (cr_any rfl) (by rfl) G.any (by decide +kernel) (pa_cons (pe_lc (own := [("a", 4)]) (g := gName 4) (tt := tYes) rfl scOnLeft.nd (pi_tup (pv 0)) (blkOk_by (N := nOnLeft) (sc := defScope sOnLeft) (by decide +kernel))
          (fun _ _ _ _ _ => pg_name (i := 4) scOnLeft.nd rfl (.inl rfl)) (fun _ _ _ _ _ => pts_nil) (fun _ _ _ _ _ => pe_cmpR op_le (pe_op op_mulA (pv 4) (show PE _ _ (tOp (rIxQ K) (tVar 0) (tUn (rU fun i => .int (-i)) (tC (.int 1)))) from pe_at (pv 0) (pe_un un_neg pe_int))) pe_int (nomark _))) pa_nil))) (pss_one (ps_ret pe_bl)) pss_nil)
      (pss_cons (ps_asg (pe_ifExp (pt_cmpR op_eq (pe_op op_mod (pe_len G.len (pv 0)) pe_int) pe_int (nomark _)) (pe_tup (pa_cons (pe_callC rfl Ce hr (by decide) (pa_cons (pv 0) pa_nil)) (pa_cons (pe_callC rfl Co hr (by decide) (pa_cons (pv 0) pa_nil)) pa_nil)))
          (pe_tup (pa_cons (pe_callC rfl Co hr (by decide) (pa_cons (pv 0) pa_nil)) (pa_cons (pe_callC rfl Ce hr (by decide) (pa_cons (pv 0) pa_nil)) pa_nil))))
        (pg_tup rfl (pgs_cons (pg_name (i := 1) scOnLeft.nd rfl (.inl rfl)) (pgs_cons (pg_name (i := 2) scOnLeft.nd rfl (.inl rfl)) pgs_nil))))
      (pss_cons (ps_set (i := 3) scOnLeft.nd rfl (.inl rfl) (pe_cmpR op_eq (pe_op op_mod (pe_len G.len (pv 0)) pe_int) pe_int (nomark _)))
      (pss_cons (ps_while PassesOwn.never (pt_cmpR (op_neP hr.units) (pv 2) (pe_tup pa_nil) (nomark _))
        (pss_cons (ps_if (PW.pt (pw_or (pt_cmpR op_ne (pe_len G.len (pv 2)) (pe_ifExp (pt_val (pv 3)) (pe_op op_sub (pe_len G.len (pv 1)) pe_int) (pe_len G.len (pv 1))) (nomark _))
            (pw_or1 (pt_cmpR op_le (pe_op op_mulA (pe_at (pv 1) (pe_un un_neg pe_int)) (pe_at (pv 2) (pe_un un_neg pe_int))) pe_int (nomark _))))) (pss_one (ps_ret pe_bl)) pss_nil)
        (pss_one (ps_par3 (i := 1) (j := 2) (l := 3) rfl scOnLeft.nd rfl rfl rfl (by decide) (by decide) (by decide) rfl rfl rfl (pa_cons (pv 2) (pa_cons (pe_callC rfl Cl hr (by decide) (pa_cons (pv 1) (pa_cons (pv 2) (pa_cons (pv 3) pa_nil)))) (pa_cons (pe_not (pv 3)) pa_nil))) (by rfl)))))
      (pss_one (ps_ret (pe_cmpR op_eq (pe_len G.len (pv 1)) pe_int (nomark _))))))), ?_⟩
    have sz : ∀ m, m ≤ 100000 → m ≤ sizeLine := fun m h => sz_of h
    have np : nrm p ≤ 2 ^ 204 := by
      have h1 := nrm_bound (p := p) (M := 10 ^ 60) fun i => by have := hp i; omega
      have h2 := Nat.mul_le_mul_right (10 ^ 60) lp
      have h3 : 10 * 10 ^ 60 ≤ 2 ^ 204 := by decide
      omega
    have lp1 : 0 < p.length := List.length_pos_iff.mpr hp0
    refine ⟨_, rfl, a, rfl, ⟨_, hA⟩, fun D hD => ?_⟩
    refine lc_out p.length (fun i => .bl (decide (co p i * lead p ≤ 0))) (by omega) hD (fun i H' hi e => ⟨_, _, ex_t e hA, ints_at hi⟩) (fun H' e => ⟨_, ex_t e hA, by rw [List.length_map]; exact Nat.le_refl _⟩) (fun i H' x H2 hi e y => ?_) gName_mono (fun H1 e1 hl => ?_)
    · obtain ⟨rfl, fx⟩ := y
      have ex := Option.some.inj ((fx _ (ex_t e hA)).symm.trans (ints_at hi))
      subst ex
      refine ⟨rfl, fun R hR => ?_⟩
      exact ⟨_, rfl, _, rfl, _, rfl, a, _, _, _, rfl, rfl, .inl (ex_t e hA), atI_lead hp0, _, _, rfl, rfl, cmul_of (Nat.le_trans (co_le_nrm p i) np) (nrm_lead np) (by decide), _, _, rfl, rfl, hR _ (Ex.refl _)⟩
    · refine ⟨D, (List.range p.length).map fun i => decide (co p i * lead p ≤ 0), rfl, sq_of (by rw [hl, List.map_map]; rfl), _, rfl, ?_⟩
      have hall := all_any p.length fun i => co p i * lead p
      have hhur : hur p = ((List.range p.length).all (fun i => decide (0 < co p i * lead p)) && (if p.length % 2 = 1 then rou (2 * p.length + 2) (evens p) (odds p) true else rou (2 * p.length + 2) (odds p) (evens p) false)) := rfl
      rw [hall] at hhur
      generalize ((List.range p.length).map fun i => decide (co p i * lead p ≤ 0)).any id = bb at hhur
      cases bb
      · refine iteF ?_
        have hh : hur p = (if p.length % 2 = 1 then rou (2 * p.length + 2) (evens p) (odds p) true else rou (2 * p.length + 2) (odds p) (evens p) false) := by rw [hhur]; rfl
        dsimp only [tNext, tSeq, tAsg]
        refine tIf_via2 (fun v H2 => Ex H H2 ∧ ∃ (t : Addr) (y z : V), v = .ref t ∧ SqT K H2 t [y, z] ∧ PolyV K H2 y (if p.length % 2 = 1 then evens p else odds p) ∧ PolyV K H2 z (if p.length % 2 = 1 then odds p else evens p)) (fun R hR => ?_) (fun v H2 hP => ?_)
        · refine ⟨_, rfl, a, _, rfl, .inl (ex_t e1 hA), _, _, rfl, rfl, (by show (0 : Int) < 2; decide), rfl, _, rfl, ?_⟩
          rw [List.length_map]
          by_cases h2 : p.length % 2 = 1
          · rw [decide_eq_true (congrArg V.int (show (p.length : Int) % 2 = 1 by omega))]
            rw [if_pos h2, if_pos h2] at hR
            refine iteT ⟨_, rfl, .ref a, p, rfl, ⟨a, rfl, ex_t e1 hA⟩, by omega, fun v1 H2 e2 hv1 => ⟨_, rfl, .ref a, p, rfl, ⟨a, rfl, ex_t (e1.trans e2) hA⟩, by omega, fun v2 H3 e3 hv2 => ⟨sz2, fun t nt => ?_⟩⟩⟩
            exact hR _ _ ⟨((e1.trans e2).trans e3).trans (Ex.new nt), t, v1, v2, rfl, st_of upd_same, hv1.ex (e3.trans (Ex.new nt)), hv2.ex (Ex.new nt)⟩
          · rw [decide_eq_false (fun z => h2 (by have := V.int.inj z; omega))]
            rw [if_neg h2, if_neg h2] at hR
            refine iteF ⟨_, rfl, .ref a, p, rfl, ⟨a, rfl, ex_t e1 hA⟩, by omega, fun v1 H2 e2 hv1 => ⟨_, rfl, .ref a, p, rfl, ⟨a, rfl, ex_t (e1.trans e2) hA⟩, by omega, fun v2 H3 e3 hv2 => ⟨sz2, fun t nt => ?_⟩⟩⟩
            exact hR _ _ ⟨((e1.trans e2).trans e3).trans (Ex.new nt), t, v1, v2, rfl, st_of upd_same, hv1.ex (e3.trans (Ex.new nt)), hv2.ex (Ex.new nt)⟩
        · obtain ⟨e2, t, y, z, rfl, ht, hy, hz⟩ := hP
          refine ⟨t, _, rfl, ht, rfl, _, _, rfl, _, _, rfl, rfl, ?_⟩
          refine ⟨_, rfl, a, _, rfl, .inl (ex_t e2 hA), _, _, rfl, rfl, (by show (0 : Int) < 2; decide), rfl, ?_⟩
          have esh : decide (V.int (((p.map V.int).length : Int) % 2) = V.int 1) = decide (p.length % 2 = 1) := by
            rw [List.length_map]
            by_cases h2 : p.length % 2 = 1
            · rw [decide_eq_true h2, decide_eq_true (congrArg V.int (show (p.length : Int) % 2 = 1 by omega))]
            · rw [decide_eq_false h2, decide_eq_false (fun z => h2 (by have := V.int.inj z; omega))]
          rw [esh]
          have nE : nrm (evens p) ≤ 2 ^ 208 := by
            have h1 := nrm_bound (p := evens p) (M := 10 ^ 60) fun i => by rw [co_evens]; have := hp (2 * i); omega
            have h0 : (evens p).length ≤ 10 := Nat.le_trans (trim_len _) (by simp; omega)
            have h2 := Nat.mul_le_mul_right (10 ^ 60) h0
            have h3 : 10 * 10 ^ 60 ≤ 2 ^ 208 := by decide
            omega
          have nO : nrm (odds p) ≤ 2 ^ 208 := by
            have h1 := nrm_bound (p := odds p) (M := 10 ^ 60) fun i => by rw [co_odds]; have := hp (2 * i + 1); omega
            have h0 : (odds p).length ≤ 10 := Nat.le_trans (trim_len _) (by simp; omega)
            have h2 := Nat.mul_le_mul_right (10 ^ 60) h0
            have h3 : 10 * 10 ^ 60 ≤ 2 ^ 208 := by decide
            omega
          have lE : (evens p).length ≤ (p.length + 1) / 2 := Nat.le_trans (trim_len _) (by simp)
          have lO : (odds p).length ≤ p.length / 2 := Nat.le_trans (trim_len _) (by simp)
          refine ⟨fun m σ H3 => Ex H H3 ∧ ∃ (F S : List Int) (sh : Bool) (z1 z2 : V) (y4 : Option V) (kf b : Nat), σ = [some (.ref a), some z1, some z2, some (.bl sh), y4] ∧ PolyV K H3 z1 F ∧ PolyV K H3 z2 S ∧ m = F.length + S.length ∧ m < kf ∧ rou kf F S sh = hur p ∧
              nrm F ≤ 2 ^ b ∧ nrm S ≤ 2 ^ b ∧ 2 ^ m * (b + 2) ≤ 2 ^ 10 * 210 ∧ m ≤ 10, ⟨_, e2, _, _, decide (p.length % 2 = 1), y, z, none, 2 * p.length + 2, 208, rfl, hy, hz, rfl, ?_, ?_, ?_, ?_, ?_, ?_⟩, ?_⟩
          · split <;> omega
          · rw [hh]
            by_cases h2 : p.length % 2 = 1
            · rw [if_pos h2, if_pos h2, if_pos h2, decide_eq_true h2]
            · rw [if_neg h2, if_neg h2, if_neg h2, decide_eq_false h2]
          · split <;> assumption
          · split <;> assumption
          · refine Nat.mul_le_mul (pow_up ?_) (by omega)
            split <;> omega
          · split <;> omega
          rintro m σ H3 ⟨e3, F, S, sh, z1, z2, y4, kf, b, rfl, h1, h2, rfl, hkf, hrou, nF, nS, hsz, hm10⟩
          obtain ⟨kf, rfl⟩ : ∃ k', kf = k' + 1 := ⟨kf - 1, by omega⟩
          unfold rou at hrou
          refine ⟨_, rfl, sz _ (by decide), fun t0 nt0 => ⟨S, [], h2.ex (Ex.new nt0), nilV, _, rfl, ?_⟩⟩
          have e4 : Ex H3 (upd H3 t0 (.tup [])) := Ex.new nt0
          generalize upd H3 t0 (.tup []) = H4 at e4
          by_cases hS : S = []
          · rw [decide_eq_true hS]
            rw [if_pos hS] at hrou
            obtain ⟨fa, rfl, hFa⟩ := h1.ex e4
            refine iteF ⟨_, rfl, fa, _, rfl, .inl hFa, rfl, ?_⟩
            have : decide (V.int ((F.map V.int).length : Int) = V.int 1) = decide (F.length = 1) := by
              rw [List.length_map]
              by_cases h3 : F.length = 1
              · rw [decide_eq_true h3, decide_eq_true (congrArg V.int (show (F.length : Int) = 1 by omega))]
              · rw [decide_eq_false h3, decide_eq_false (fun z => h3 (by have := V.int.inj z; omega))]
            rw [this, hrou]
            exact k _ (e3.trans e4)
          · rw [decide_eq_false hS]
            rw [if_neg hS] at hrou
            have hSl : 0 < S.length := List.length_pos_iff.mpr hS
            obtain ⟨fa, rfl, hFa⟩ := h1.ex e4
            obtain ⟨sa, rfl, hSa⟩ := h2.ex e4
            refine iteT ⟨fun σ H5 => Ex H H5 ∧ ∃ (F' S' : List Int) (sh' : Bool) (z1 z2 : V) (y4 : Option V) (b : Nat), σ = [some (.ref a), some z1, some z2, some (.bl sh'), y4] ∧ PolyV K H5 z1 F' ∧ PolyV K H5 z2 S' ∧ F'.length + S'.length < F.length + S.length ∧ rou kf F' S' sh' = hur p ∧
              nrm F' ≤ 2 ^ b ∧ nrm S' ≤ 2 ^ b ∧ 2 ^ (F'.length + S'.length) * (b + 2) ≤ 2 ^ 10 * 210, ?_, ?_⟩
            · rintro σ' H5 ⟨e5, F', S', sh', z1, z2, y4, b', rfl, q1, q2, q3, q4, q5, q6, q7⟩
              exact ⟨_, q3, e5, F', S', sh', z1, z2, y4, kf, b', rfl, q1, q2, rfl, by omega, q4, q5, q6, q7, by omega⟩
            · refine tIfS_via (fun σ H5 => Ex H4 H5 ∧ σ = [some (.ref a), some (.ref fa), some (.ref sa), some (.bl sh), y4] ∧ S.length = (if sh then F.length - 1 else F.length) ∧ 0 < lead F * lead S) (fun N hN => ?_) (fun σ H5 hP => ?_)
              · refine ⟨_, rfl, sa, _, rfl, .inl hSa, ?_⟩
                refine tIf_via (v := .int (if sh then (F.length : Int) - 1 else (F.length : Int))) (H1 := H4) (fun R hR => ?_) ?_
                · refine ⟨_, rfl, sh, rfl, ?_⟩
                  cases sh
                  · refine iteF ⟨_, rfl, fa, _, rfl, .inl hFa, ?_⟩
                    rw [List.length_map]; exact hR
                  · refine iteT ⟨_, rfl, fa, _, rfl, .inl hFa, _, _, rfl, rfl, ?_⟩
                    rw [List.length_map]; exact hR
                · refine ⟨rfl, _, rfl, ?_⟩
                  rw [List.length_map]
                  by_cases hc : S.length = (if sh then F.length - 1 else F.length)
                  · have hc' : V.int (S.length : Int) = V.int (if sh then (F.length : Int) - 1 else (F.length : Int)) := by
                      congr 1
                      cases sh
                      · have : S.length = F.length := hc
                        show (S.length : Int) = F.length; omega
                      · have : S.length = F.length - 1 := hc
                        show (S.length : Int) = F.length - 1; omega
                    rw [decide_eq_true hc']
                    have hF : F ≠ [] := fun z => by
                      rw [z] at hc
                      cases sh <;> simp at hc <;> exact hS hc
                    refine iteF ⟨_, rfl, _, rfl, fa, _, _, _, rfl, rfl, .inl hFa, atI_lead hF, _, rfl, _, rfl, sa, _, _, _, rfl, rfl, .inl hSa, atI_lead hS, _, _, rfl, rfl, ?_, _, _, rfl, rfl, _, rfl, ?_⟩
                    · refine cmul_of (nrm_lead nF) (nrm_lead nS) ?_
                      have : 1 * (b + 2) ≤ 2 ^ (F.length + S.length) * (b + 2) := Nat.mul_le_mul_right _ (Nat.one_le_two_pow)
                      omega
                    · by_cases hz : lead F * lead S ≤ 0
                      · rw [decide_eq_true hz]
                        rw [if_pos (.inr hz)] at hrou
                        refine iteT ?_
                        show Q (.bl false) _
                        rw [hrou]
                        exact k _ (e3.trans e4)
                      · rw [decide_eq_false hz]
                        exact iteF (hN _ _ ⟨Ex.refl _, rfl, hc, by omega⟩)
                  · have hc' : ¬ V.int (S.length : Int) = V.int (if sh then (F.length : Int) - 1 else (F.length : Int)) := fun z => hc (by
                      have := V.int.inj z
                      cases sh
                      · have h' : (S.length : Int) = F.length := this
                        show S.length = F.length; omega
                      · have h' : (S.length : Int) = F.length - 1 := this
                        show S.length = F.length - 1; omega)
                    rw [decide_eq_false hc']
                    rw [if_pos (.inl hc)] at hrou
                    refine iteT (iteT ?_)
                    show Q (.bl false) _
                    rw [hrou]
                    exact k _ (e3.trans e4)
              · obtain ⟨e5, rfl, hc, hpos⟩ := hP
                have hF : F ≠ [] := fun z => by
                  rw [z] at hc
                  cases sh <;> simp at hc <;> exact hS hc
                rw [if_neg (fun z => z.elim (fun z => z hc) (by omega))] at hrou
                have hb : b + 2 ≤ 2 ^ 10 * 210 := Nat.le_trans (by have : 1 * (b + 2) ≤ 2 ^ (F.length + S.length) * (b + 2) := Nat.mul_le_mul_right _ (Nat.one_le_two_pow); omega) hsz
                refine ⟨_, rfl, _, rfl, _, rfl, _, rfl, .ref fa, .ref sa, F, S, sh, b, rfl, ⟨fa, rfl, ex_t e5 hFa⟩, ⟨sa, rfl, ex_t e5 hSa⟩, by omega, hF, hS, hc, nF, nS, by omega, fun v H6 e6 hv => ?_⟩
                have hdec := rou_dec hS hc
                refine ⟨_, rfl, sh, rfl, _, _, _, rfl, ((e3.trans e4).trans e5).trans e6, S, lessL F S sh, !sh, .ref sa, v, y4, 2 * b + 1, rfl, ⟨sa, rfl, ex_t (e5.trans e6) hSa⟩, hv, hdec, hrou, ?_, nrm_less hS hc nF nS, ?_⟩
                · exact Nat.le_trans nS (pow_up (by omega))
                · refine Nat.le_trans ?_ hsz
                  have h1 : 2 ^ (S.length + (lessL F S sh).length) * 2 ≤ 2 ^ (F.length + S.length) := by
                    rw [← Nat.pow_succ]; exact pow_up (by omega)
                  have h2 : 2 ^ (S.length + (lessL F S sh).length) * (2 * b + 1 + 2) ≤ 2 ^ (S.length + (lessL F S sh).length) * (2 * (b + 2)) := Nat.mul_le_mul_left _ (by omega)
                  rw [← Nat.mul_assoc] at h2
                  exact Nat.le_trans h2 (Nat.mul_le_mul_right _ h1)
      · have hh : hur p = false := by rw [hhur]; rfl
        refine iteT ?_
        show Q (.bl false) _
        rw [← hh]
        exact k _ e1
abbrev sIsLeft : Stmt := topS 48
theorem scIsLeft : FnScope ["one"] ["one"] (defScope sIsLeft) := ⟨rfl, rfl, rfl, by decide +kernel, rfl, by decide +kernel, by decide +kernel⟩
theorem ok_isLeft (D : DefAt K mg "is_left" sIsLeft ["one"]) (Cn : Cal w K mg base 45 "need_nonzero" ["value"] (spNeedNz K)) (Co : Cal w K mg base 43 "is_on_left" ["one"] (spOnLeft K)) : Cal w K mg base 46 "is_left" ["one"] (spOnLeft K) := by
  refine Cal.mk D scIsLeft (fun vs H Q E h => ?_) (fun f cdv A outer s H vs Q E hr h => ?_)
  · obtain ⟨x, p, rfl, _⟩ := h
    rfl
  · obtain ⟨x, p, rfl, hA, ho, hp0, k⟩ := h
    refine ⟨_, pss_cons (ps_expr (pe_callC rfl Cn hr (by decide) (pa_cons (pv 0) pa_nil))) (pss_one (ps_ret (pe_callC rfl Co hr (by decide) (pa_cons (pv 0) pa_nil)))), ?_⟩
    exact ⟨_, rfl, x, p, rfl, hA, ho, hp0, fun H1 e1 => ⟨_, rfl, x, p, rfl, hA.ex e1, ho, hp0, fun H2 e2 => k H2 (e1.trans e2)⟩⟩
end
end Kf
end

section
set_option Elab.async false
set_option linter.all false
set_option maxRecDepth 100000
set_option maxHeartbeats 4000000
namespace Kf
open PySem PySem.Spec PyProof.Rows L2 Lx Evl Pm RZ StX

/-! ### tuples stay -/
def TK (K : PySem.W.Frag) (H H' : Hp) : Prop := ∀ a xs, SqT K H a xs → SqT K H' a xs
section
variable {K : PySem.W.Frag} {H H' H2 : Hp}
theorem TK.of (e : Ex H H') : TK K H H' := fun _ _ h => ex_t e h
theorem TK.trans (h1 : TK K H H') (h2 : TK K H' H2) : TK K H H2 := fun a xs h => h2 a xs (h1 a xs h)
theorem TK.mut {F : Addr} {ys : List V} {o : HO} (h : H F = some (.lst ys)) : TK K H (upd H F o) := fun a xs hs => by
  rcases hs with (hs | ⟨ob, hs⟩) | hs
  · refine .inl (.inl ?_)
    rw [upd_ne (fun z => by rw [z, h] at hs; cases hs)]
    exact hs
  · refine .inl (.inr ⟨ob, ?_⟩)
    rw [upd_ne (fun z => by rw [z, h] at hs; cases hs)]
    exact hs
  · exact .inr hs
theorem PolyV.tk {v : V} {p : List Int} (h : PolyV K H v p) (e : TK K H H') : PolyV K H' v p := let ⟨a, r, s⟩ := h; ⟨a, r, e _ _ s⟩
theorem FunV.tk {v : V} {t b : List Int} (h : FunV K H v t b) (e : TK K H H') : FunV K H' v t b := let ⟨a, x, y, r, s, p, q⟩ := h; ⟨a, x, y, r, e _ _ s, p.tk e, q.tk e⟩
theorem RatV.tk {v : V} {n d : Int} (h : RatV K H v n d) (e : TK K H H') : RatV K H' v n d := let ⟨a, r, s⟩ := h; ⟨a, r, e _ _ s⟩
theorem RungV.tk {v : V} {pl kd : Str} {n d : Int} (h : RungV K H v pl kd n d) (e : TK K H H') : RungV K H' v pl kd n d := let ⟨a, y, r, s, t⟩ := h; ⟨a, y, r, e _ _ s, t.tk e⟩
theorem FW.tk {v : V} {t b : List Int} {L m : Nat} (h : FW K H v t b L m) (e : TK K H H') : FW K H' v t b L m := { h with v := h.v.tk e }
def Rgs (K : PySem.W.Frag) (H : Hp) (xs : List V) (rs : List Rn) : Prop := xs.length = rs.length ∧ ∀ (i : Nat) (r : Rn), rs[i]? = some r → ∃ x, xs[i]? = some x ∧ RungV K H x r.1 r.2.1 r.2.2.1 r.2.2.2
theorem Rgs.tk {xs : List V} {rs : List Rn} (h : Rgs K H xs rs) (e : TK K H H') : Rgs K H' xs rs := ⟨h.1, fun i r hr => let ⟨x, hx, q⟩ := h.2 i r hr; ⟨x, hx, q.tk e⟩⟩
theorem Rgs.snoc {xs : List V} {rs : List Rn} {x : V} {r : Rn} (h : Rgs K H xs rs) (hx : RungV K H x r.1 r.2.1 r.2.2.1 r.2.2.2) : Rgs K H (xs ++ [x]) (rs ++ [r]) := by
  refine ⟨by rw [List.length_append, List.length_append, h.1]; rfl, fun i r' hr => ?_⟩
  by_cases hi : i < rs.length
  · rw [List.getElem?_append_left hi] at hr
    obtain ⟨y, hy, q⟩ := h.2 i r' hr
    exact ⟨y, by rw [List.getElem?_append_left (by rw [h.1]; exact hi)]; exact hy, q⟩
  · rw [List.getElem?_append_right (by omega)] at hr
    have e : i - rs.length = 0 := by
      have := (List.getElem?_eq_some_iff.mp hr).1
      simp at this; exact this
    rw [e] at hr
    have : r' = r := by simpa using hr.symm
    subst this
    exact ⟨x, by rw [List.getElem?_append_right (by rw [h.1]; omega), h.1, e]; rfl, hx⟩
theorem Rgs.lad {xs : List V} {rs : List Rn} {a : Addr} (h : Rgs K H xs rs) (hs : SqT K H a xs) : LadV K H (.ref a) rs := ⟨a, xs, rfl, hs, h.1, h.2⟩
end

section
variable {w : World} {K : PySem.W.Frag} {mg : Str → Option Value} {base : Heap}
/-! ### ratio, far_value -/
abbrev sRatio : Stmt := topS 12
theorem scRatio : FnScope ["top", "bottom", "shared"] ["top", "bottom"] (defScope sRatio) := ⟨rfl, rfl, rfl, by decide +kernel, rfl, by decide +kernel, by decide +kernel⟩
def GoRat (K : PySem.W.Frag) (H : Hp) (Q : VK) (a b : Int) : Prop := ∀ v H' n d, Ex H H' → RatV K H' v n d → 0 < n → 0 < d → Int.gcd n d = 1 → n * b = d * a → n.natAbs ≤ a.natAbs → d.natAbs ≤ b.natAbs → Q v H'
def spRatioC (K : PySem.W.Frag) : Sp := fun vs H Q _ => ∃ (a b : Int), vs = [.int a, .int b] ∧ 0 < a * b ∧ GoRat K H Q a b
theorem ok_ratio (D : DefAt K mg "ratio" sRatio ["top", "bottom"]) (G : Gl0 mg base) : Cal w K mg base 41 "ratio" ["top", "bottom"] (spRatioC K) := by
  refine Cal.mk D scRatio (fun vs H Q E h => ?_) (fun f cdv A outer s H vs Q E hr h => ?_)
  · obtain ⟨a, b, rfl, _⟩ := h
    rfl
  · obtain ⟨a, b, rfl, hab, k⟩ := h
    have S := sees_of (w := w) (K := K) (mg := mg) (base := base) (N := ["top", "bottom", "shared"]) (outer := outer) (H := H) (E := E) G.seer hr (by decide) rfl rfl
    refine ⟨_, pss_cons (ps_set (i := 2) scRatio.nd rfl (.inl rfl) (pe_gcd G.gcd (pv 0) (pv 1)))
      (pss_cons (ps_if (pt_cmpR op_lt (pv 1) pe_int (nomark _)) (pss_one (ps_set (i := 2) scRatio.nd rfl (.inl rfl) (pe_un un_neg (pv 2)))) pss_nil)
      (pss_one (ps_ret (pe_tup (pa_cons (pe_op (op_fdivA S) (pv 0) (pv 2)) (pa_cons (pe_op (op_fdivA S) (pv 1) (pv 2)) pa_nil)))))), ?_⟩
    obtain ⟨g, hg0, hg, h1, h2, h3, h4, h5, h6⟩ := ratio_math hab
    have fin : tRet (tTup (tCons (tOp (rI (fun _ j => j ≠ 0) fun i j => .int (i.fdiv j)) (tVar 0) (tVar 2)) (tCons (tOp (rI (fun _ j => j ≠ 0) fun i j => .int (i.fdiv j)) (tVar 1) (tVar 2)) tNil))) { nx := fun _ H' => Q .non H', rt := Q } [some (.int a), some (.int b), some (.int g)] H :=
      ⟨_, rfl, _, rfl, _, _, rfl, rfl, hg0, _, rfl, _, rfl, _, _, rfl, rfl, hg0, sz2, fun t nt => k _ _ _ _ (Ex.new nt) ⟨t, rfl, st_of upd_same⟩ h1 h2 h3 h4 h5 h6⟩
    refine ⟨_, rfl, _, rfl, _, _, rfl, _, rfl, _, _, rfl, rfl, _, rfl, ?_⟩
    by_cases hn : b < 0
    · rw [decide_eq_true hn]
      refine iteT ⟨_, rfl, _, rfl, ?_⟩
      rw [if_pos hn] at hg
      rw [hg] at fin
      exact fin
    · rw [decide_eq_false hn]
      rw [if_neg hn] at hg
      rw [hg] at fin
      exact iteF fin
abbrev sFar : Stmt := topS 63
theorem scFar : FnScope ["one"] ["one"] (defScope sFar) := ⟨rfl, rfl, rfl, by decide +kernel, rfl, by decide +kernel, by decide +kernel⟩
def spFar (K : PySem.W.Frag) : Sp := fun vs H Q _ => ∃ (x : V) (A B : List Int), vs = [x] ∧ FunV K H x A B ∧ A ≠ [] ∧ B ≠ [] ∧ 0 < lead A * lead B ∧ GoRat K H Q (lead A) (lead B)
theorem ok_far (D : DefAt K mg "far_value" sFar ["one"]) (Cr : Cal w K mg base 41 "ratio" ["top", "bottom"] (spRatioC K)) : Cal w K mg base 42 "far_value" ["one"] (spFar K) := by
  refine Cal.mk D scFar (fun vs H Q E h => ?_) (fun f cdv A outer s H vs Q E hr h => ?_)
  · obtain ⟨x, A, B, rfl, _⟩ := h
    rfl
  · obtain ⟨x, P, R, rfl, ⟨a, y, z, rfl, hA, ⟨ya, rfl, hy⟩, ⟨za, rfl, hz⟩⟩, hP, hR, hpos, k⟩ := h
    refine ⟨_, pss_one (ps_ret (pe_callC rfl Cr hr (by decide) (pa_cons (pe_at (pe_at (pv 0) pe_int) (pe_un un_neg pe_int)) (pa_cons (pe_at (pe_at (pv 0) pe_int) (pe_un un_neg pe_int)) pa_nil)))), ?_⟩
    exact ⟨_, rfl, a, _, _, _, rfl, rfl, .inl hA, at0, _, rfl, ya, _, _, _, rfl, rfl, .inl hy, atI_lead hP, _, rfl, a, _, _, _, rfl, rfl, .inl hA, at1, _, rfl, za, _, _, _, rfl, rfl, .inl hz, atI_lead hR, lead P, lead R, rfl, hpos, k⟩

/-! ### difference -/
abbrev sDiff : Stmt := topS 68
theorem scDiff : FnScope ["left", "echo"] ["left", "echo"] (defScope sDiff) := ⟨rfl, rfl, rfl, by decide +kernel, rfl, by decide +kernel, by decide +kernel⟩
def gapP (L E : List Int) : List Int := minus (times L (flp L)) (times E (flp E))
def spDiff (K : PySem.W.Frag) : Sp := fun vs H Q _ => ∃ (x y : V) (L E : List Int), vs = [x, y] ∧ PolyV K H x L ∧ PolyV K H y E ∧ OkP L ∧ OkP E ∧ ∀ v H', Ex H H' → PolyV K H' v (gapP L E) → Q v H'
theorem OkP.n {p : List Int} (h : OkP p) : nrm p ≤ 2 ^ 204 := by
  have h1 := nrm_bound (p := p) (M := 10 ^ 60) fun i => by have := h.2.2 i; omega
  have h2 := Nat.mul_le_mul_right (10 ^ 60) h.2.1
  have h3 : 10 * 10 ^ 60 ≤ 2 ^ 204 := by decide
  omega
theorem flp_len (p : List Int) : (flp p).length = p.length := by simp [flp]
theorem OkP.nf {p : List Int} (h : OkP p) : nrm (flp p) ≤ 2 ^ 204 := by
  have h1 := nrm_bound (p := flp p) (M := 10 ^ 60) fun i => by
    have := h.2.2 i
    rw [co_flp, co_ngL]
    rcases sg_or i with s | s <;> rw [s] <;> omega
  have h2 := Nat.mul_le_mul_right (10 ^ 60) h.2.1
  have h3 : 10 * 10 ^ 60 ≤ 2 ^ 204 := by decide
  rw [flp_len] at h1
  omega
theorem ok_diff (D : DefAt K mg "difference" sDiff ["left", "echo"]) (Ct : Cal w K mg base 42 "poly_times" ["one", "other"] (spTimes K)) (Cf : Cal w K mg base 41 "flipped" ["one"] (sp1 K flp)) (Cm : Cal w K mg base 43 "poly_minus" ["one", "other"] (spMinus K)) :
    Cal w K mg base 44 "difference" ["left", "echo"] (spDiff K) := by
  refine Cal.mk D scDiff (fun vs H Q E h => ?_) (fun f cdv A outer s H vs Q E hr h => ?_)
  · obtain ⟨x, y, L, E, rfl, _⟩ := h
    rfl
  · obtain ⟨x, y, L, E, rfl, hL, hE, oL, oE, k⟩ := h
    refine ⟨_, pss_one (ps_ret (pe_callC rfl Cm hr (by decide) (pa_cons (pe_callC rfl Ct hr (by decide) (pa_cons (pv 0) (pa_cons (pe_callC rfl Cf hr (by decide) (pa_cons (pv 0) pa_nil)) pa_nil))) (pa_cons (pe_callC rfl Ct hr (by decide) (pa_cons (pv 1) (pa_cons (pe_callC rfl Cf hr (by decide) (pa_cons (pv 1) pa_nil)) pa_nil))) pa_nil)))), ?_⟩
    have l1 := oL.2.1
    have l2 := oE.2.1
    refine ⟨_, rfl, _, rfl, x, L, rfl, hL, by omega, fun v1 H1 e1 hv1 => ⟨x, v1, L, flp L, rfl, hL.ex e1, hv1, by omega, by rw [flp_len]; omega, cmul_co oL.n oL.nf (by decide), fun v2 H2 e2 hv2 => ?_⟩⟩
    refine ⟨_, rfl, _, rfl, y, E, rfl, hE.ex (e1.trans e2), by omega, fun v3 H3 e3 hv3 => ⟨y, v3, E, flp E, rfl, hE.ex ((e1.trans e2).trans e3), hv3, by omega, by rw [flp_len]; omega, cmul_co oE.n oE.nf (by decide), fun v4 H4 e4 hv4 => ?_⟩⟩
    have t1 := times_len (p := L) (q := flp L) (n := 20) (by rw [flp_len]; omega)
    have t2 := times_len (p := E) (q := flp E) (n := 20) (by rw [flp_len]; omega)
    exact ⟨v2, v4, _, _, rfl, hv2.ex (e3.trans e4), hv4, by omega, by omega, cmul_neg (nrm_times_le oE.n oE.nf) (by decide), fun v5 H5 e5 hv5 => k v5 H5 ((((e1.trans e2).trans e3).trans e4).trans e5) hv5⟩
theorem ev_gapP (L E : List Int) (x : Int) : ev (gapP L E) x = ev L x * ev L (-x) - ev E x * ev E (-x) := by
  unfold gapP
  rw [ev_minus, ev_times, ev_times, ev_flp, ev_flp]
end
end Kf
end

section
set_option Elab.async false
set_option linter.all false
set_option maxRecDepth 100000
set_option maxHeartbeats 4000000
namespace Kf
open PySem PySem.Spec PyProof.Rows L2 Lx Evl Pm RZ StX

def plS (s : Bool) : Str := if s then "S" else "P"
theorem good_ne {n : Nat} {A B : List Int} (g : Good n A B) : ∃ x, ev B x ≠ 0 := by
  refine Classical.byContradiction fun h => ?_
  have hz : ∀ x, ev B x = 0 := fun x => Classical.byContradiction fun hx => h ⟨x, hx⟩
  have hc : ∀ i, co B i = 0 := fun i => z_zero hz 0 i (Nat.zero_le _)
  cases n with
  | zero => have := g.2.2; rw [hc, Int.mul_zero] at this; exact absurd this (by decide)
  | succ n => have := g.2.2.1; rw [hc, Int.mul_zero] at this; exact absurd this (by decide)
theorem _root_.Pm.Tl.sc {s : Bool} {n : Nat} {A B G1 G2 : List Int} {core : List (Bool × Int × Int)} {rp : Bool} {nr dr κ : Int} (hA : ∀ x, ev A x = κ * ev G1 x) (hB : ∀ x, ev B x = κ * ev G2 x) (t : Tl s n G1 G2 core rp nr dr) : Tl s n A B core rp nr dr := by
  refine ⟨t.len, t.alt, t.ok, t.okr, ?_⟩
  have c := t.crs
  cases s
  · have c' : ∀ x, ev G2 x * ev (impP core nr dr).2 x = ev G1 x * ev (impP core nr dr).1 x := c
    show ∀ x, ev B x * ev (impP core nr dr).2 x = ev A x * ev (impP core nr dr).1 x
    intro x
    rw [hA, hB, Int.mul_assoc, Int.mul_assoc, c' x]
  · have c' : ∀ x, ev G1 x * ev (impP core nr dr).2 x = ev G2 x * ev (impP core nr dr).1 x := c
    show ∀ x, ev A x * ev (impP core nr dr).2 x = ev B x * ev (impP core nr dr).1 x
    intro x
    rw [hA, hB, Int.mul_assoc, Int.mul_assoc, c' x]
theorem gcd_const {F1 F2 T B : List Int} (R : Rep F1 F2 T B) (h1 : Z F1 1) (h2 : Z F2 1) : Int.gcd (co F1 0) (co F2 0) = 1 := by
  refine R.con _ (fun i => ?_) fun i => ?_
  · cases i with
    | zero => exact Int.gcd_dvd_left _ _
    | succ i => rw [h1 (i + 1) (by omega)]; exact Int.dvd_zero _
  · cases i with
    | zero => exact Int.gcd_dvd_right _ _
    | succ i => rw [h2 (i + 1) (by omega)]; exact Int.dvd_zero _

section
variable {w : World} {K : PySem.W.Frag} {mg : Str → Option Value} {base : Heap}
abbrev sSteps : Stmt := topS 69
abbrev nSteps : List Str := ["one", "found", "place", "value"]
theorem scSteps : FnScope nSteps ["one"] (defScope sSteps) := ⟨rfl, rfl, rfl, by decide +kernel, rfl, by decide +kernel, by decide +kernel⟩
/-- what the ladder found says -/
def FinT (A B : List Int) (n : Nat) (core : List (Bool × Int × Int)) (rp : Bool) (nr dr : Int) : Prop :=
  core.length = n ∧ (∃ s, AltL s core rp) ∧ (∀ r ∈ core, OkV r.2.1 r.2.2) ∧ OkV nr dr ∧ ∀ x, ev A x * ev (impP core nr dr).2 x = ev B x * ev (impP core nr dr).1 x
def spSteps (K : PySem.W.Frag) : Sp := fun vs H Q _ => ∃ (x : V) (A B : List Int) (n b : Nat), vs = [x] ∧ FW K H x A B 9 b ∧ Cop A B ∧ (Good (n + 1) A B ∨ Good (n + 1) B A) ∧ 2 ^ (n + 1) * (b + 1) ≤ 4000 ∧
  ∀ v H' core rp nr dr, Ex H H' → LadV K H' v (core.map rnOf ++ lastR (plS rp) nr dr) → FinT A B (n + 1) core rp nr dr → Q v H'
/-- the places of the loop -/
def StS (K : PySem.W.Frag) (H : Hp) (Fa : Addr) (σ : L2.St) (H' : Hp) (A B : List Int) (s : Bool) (done : List (Bool × Int × Int)) (b : Nat) : Prop :=
  Ex H H' ∧ ∃ (z : V) (xs : List V) (y3 : Option V), σ = [some z, some (.ref Fa), some (.str (plS s)), y3] ∧ H' Fa = some (.lst xs) ∧ Rgs K H' xs (done.map rnOf) ∧ FW K H' z A B 9 b ∧ Cop A B
abbrev FinP := List (Bool × Int × Int) → Bool → Int → Int → Prop
def PhA (Fin : FinP) (A B : List Int) (s : Bool) (done : List (Bool × Int × Int)) (b n : Nat) : Prop := Good (n + 1) A B ∧ 2 ^ (n + 1) * (b + 1) ≤ 4000 ∧ done.length + n ≤ 20 ∧ ∀ core rp nr dr, Tl s (n + 1) A B core rp nr dr → Fin (done ++ core) rp nr dr
def PhB (Fin : FinP) (A B : List Int) (s : Bool) (done : List (Bool × Int × Int)) (b n : Nat) : Prop := Good (n + 1) B A ∧ 2 ^ (n + 1) * (b + 1) ≤ 4000 ∧ done.length + n ≤ 20 ∧ ∀ core rp nr dr, Tl (!s) (n + 1) B A core rp nr dr → Fin (done ++ core) rp nr dr
def PhC (Fin : FinP) (A B : List Int) (s : Bool) (done : List (Bool × Int × Int)) : Prop := Good 0 B A ∧ 0 < co B 0 ∧ Int.gcd (co A 0) (co B 0) = 1 ∧ ∀ rp nr dr, Tl (!s) 0 B A [] rp nr dr → Fin done rp nr dr
theorem ok_steps (D : DefAt K mg "steps_of" sSteps ["one"]) (G : Gl0 mg base) (Gv : Gc K mg) (Cf : Cal w K mg base 42 "far_value" ["one"] (spFar K)) (Cc : Cal w K mg base 41 "constant_of" ["told"] (spConstOf K))
    (Ct : Cal w K mg base 47 "times_of" ["one", "other"] (spBin K (fun t1 b1 t2 b2 => t1 * t2) fun _ b1 _ b2 => b1 * b2)) (Cm : Cal w K mg base 47 "minus_of" ["one", "other"] (spBin K (fun t1 b1 t2 b2 => t1 * b2 - t2 * b1) fun _ b1 _ b2 => b1 * b2))
    (Cb : Cal w K mg base 47 "back_of" ["one"] (spBack K)) : Cal w K mg base 48 "steps_of" ["one"] (spSteps K) := by
  obtain ⟨va, hva, hvv⟩ := Gv.var
  obtain ⟨st, hst⟩ := G.series
  obtain ⟨ct, hct⟩ := G.across
  refine Cal.mk D scSteps (fun vs H Q E h => ?_) (fun f cdv A0 outer s0 H vs Q E hr h => ?_)
  · obtain ⟨x, A, B, n, b, rfl, _⟩ := h
    rfl
  · obtain ⟨x, A1, B1, n1, b1, rfl, hx, hcop, hg, hsz, k⟩ := h
    refine ⟨_, pss_cons (ps_par (i := 1) (j := 2) rfl scSteps.nd rfl rfl (by decide) rfl rfl (pa_cons (pe_lst pa_nil) (pa_cons (pe_glob (v := .str "S") (by rfl) hst ⟨_, rfl⟩) pa_nil)) (by rfl))
      (pss_cons (ps_while PassesOwn.never (PW.pt (pw_or (pt_cmpR op_ne (pe_len G.len (pe_at (pv 0) pe_int)) (pe_len G.len (pe_at (pv 0) pe_int)) (nomark _)) (pw_or1 (pt_cmpR op_gt (pe_len G.len (pe_at (pv 0) pe_int)) pe_int (nomark _)))))
        (pss_cons (ps_if (pt_cmpR op_gt (pe_len G.len (pe_at (pv 0) pe_int)) (pe_len G.len (pe_at (pv 0) pe_int)) (nomark _))
          (pss_cons (ps_set (i := 3) scSteps.nd rfl (.inl rfl) (pe_callC rfl Cf hr (by decide) (pa_cons (pv 0) pa_nil)))
          (pss_cons (ps_expr (pe_bm PySem.F.plainAttrs_list PySem.F.slot_list_append PySem.F.type_list_append mt_append (pv 1)
              (pa_cons (pe_tup (pa_cons (pv 2) (pa_cons (pe_ifExp (pt_cmpR op_eq (pv 2) (pe_glob (v := .str "S") (by rfl) hst ⟨_, rfl⟩) (nomark _)) pe_str pe_str) (pa_cons (pv 3) pa_nil)))) pa_nil)))
          (pss_one (ps_set (i := 0) scSteps.nd rfl (.inl rfl) (pe_callC rfl Cm hr (by decide) (pa_cons (pv 0) (pa_cons (pe_callC rfl Ct hr (by decide) (pa_cons (pe_callC rfl Cc hr (by decide) (pa_cons (pv 3) pa_nil)) (pa_cons (pe_glob (v := .ref va) (by rfl) hva rfl) pa_nil))) pa_nil))))))) pss_nil)
        (pss_one (ps_if (PW.pt (pw_or (pt_cmpR op_ne (pe_len G.len (pe_at (pv 0) pe_int)) (pe_len G.len (pe_at (pv 0) pe_int)) (nomark _)) (pw_or1 (pt_cmpR op_gt (pe_len G.len (pe_at (pv 0) pe_int)) pe_int (nomark _)))))
          (pss_one (ps_par (i := 0) (j := 2) rfl scSteps.nd rfl rfl (by decide) rfl rfl (pa_cons (pe_callC rfl Cb hr (by decide) (pa_cons (pv 0) pa_nil)) (pa_cons (pe_ifExp (pt_cmpR op_eq (pv 2) (pe_glob (v := .str "S") (by rfl) hst ⟨_, rfl⟩) (nomark _)) (pe_glob (v := .str "P") (by rfl) hct ⟨_, rfl⟩) (pe_glob (v := .str "S") (by rfl) hst ⟨_, rfl⟩)) pa_nil)) (by rfl))) pss_nil))))
      (pss_cons (ps_set (i := 3) scSteps.nd rfl (.inl rfl) (pe_tup (pa_cons (pe_at (pe_at (pv 0) pe_int) pe_int) (pa_cons (pe_at (pe_at (pv 0) pe_int) pe_int) pa_nil))))
      (pss_cons (ps_if (pt_cmpR op_eq (pv 2) (pe_glob (v := .str "S") (by rfl) hst ⟨_, rfl⟩) (nomark _)) (pss_one (ps_ret (pe_tup (pa_star (pv 1) (pa_cons (pe_tup (pa_cons (pe_glob (v := .str "P") (by rfl) hct ⟨_, rfl⟩) (pa_cons pe_str (pa_cons (pv 3) pa_nil)))) pa_nil))))) pss_nil)
      (pss_one (ps_ret (pe_tup (pa_star (pv 1) (pa_cons (pe_tup (pa_cons (pe_glob (v := .str "S") (by rfl) hst ⟨_, rfl⟩) (pa_cons pe_str (pa_cons (pe_tup (pa_cons (pe_at (pv 3) pe_int) (pa_cons (pe_at (pv 3) pe_int) pa_nil))) pa_nil)))) pa_nil)))))))), ?_⟩
    have sz : ∀ m, m ≤ 100000 → m ≤ sizeLine := fun m h => sz_of h
    refine ⟨sz _ (by decide), fun Fa nFa => ⟨_, _, rfl, ?_⟩⟩
    have e0 : Ex H (upd H Fa (.lst [])) := Ex.new nFa
    -- the loop
    refine ⟨fun m σ H' => ∃ (A B : List Int) (s : Bool) (done : List (Bool × Int × Int)) (b : Nat), StS K H Fa σ H' A B s done b ∧
        ((∃ n, m = 2 * n + 3 ∧ PhA (FinT A1 B1 (n1 + 1)) A B s done b n) ∨ (∃ n, m = 2 * n + 4 ∧ PhB (FinT A1 B1 (n1 + 1)) A B s done b n) ∨ (m = 0 ∧ PhC (FinT A1 B1 (n1 + 1)) A B s done)), ?_, ?_⟩
    · have hn1 : n1 ≤ 12 := by
        refine Nat.le_of_not_lt fun hlt => ?_
        have h1 : 2 ^ 13 ≤ 2 ^ (n1 + 1) := pow_up (by omega)
        have h2 := Nat.mul_le_mul h1 (show 1 ≤ b1 + 1 by omega)
        omega
      have st0 : StS K H Fa [some x, some (.ref Fa), some (.str (plS true)), none] (upd H Fa (.lst [])) A1 B1 true [] b1 := ⟨e0, x, [], none, rfl, upd_same, ⟨rfl, fun i r hr => by simp at hr⟩, hx.ex e0, hcop⟩
      rcases hg with hg | hg
      · exact ⟨_, A1, B1, true, [], b1, st0, .inl ⟨n1, rfl, hg, hsz, by simp; omega, fun core rp nr dr t => ⟨t.len, ⟨_, t.alt⟩, t.ok, t.okr, t.crs⟩⟩⟩
      · exact ⟨_, A1, B1, true, [], b1, st0, .inr (.inl ⟨n1, rfl, hg, hsz, by simp; omega, fun core rp nr dr t => ⟨t.len, ⟨_, t.alt⟩, t.ok, t.okr, t.crs⟩⟩)⟩
    rintro m σ H1 ⟨A, B, s, done, b, ⟨e1, z, xs, y3, rfl, hFa, hRg, fw, hcp⟩, ph⟩
    obtain ⟨a, ya0, za0, rfl, hA, ⟨ya, rfl, hy⟩, ⟨za, rfl, hz⟩⟩ := fw.v
    -- the tests
    have tst : ∀ {Q' : Bool → Hp → Prop} {H' : Hp} {σ' : L2.St} {A' B' : List Int} {a' ya' za' : Addr}, σ'[0]? = some (some (.ref a')) → SqT K H' a' [.ref ya', .ref za'] → SqT K H' ya' (A'.map V.int) → SqT K H' za' (B'.map V.int) →
        Q' (decide (A'.length ≠ B'.length ∨ 1 < A'.length)) H' → tOr (tTest (tOp rNe (tCB (rLenS K) (tCons (tOp (rIxQ K) (tVar 0) (tC (.int 0))) tNil)) (tCB (rLenS K) (tCons (tOp (rIxQ K) (tVar 0) (tC (.int 1))) tNil))))
          (tTest (tOp (rI0 fun i j => .bl (decide (j < i))) (tCB (rLenS K) (tCons (tOp (rIxQ K) (tVar 0) (tC (.int 0))) tNil)) (tC (.int 1)))) σ' H' Q' := fun {Q' H' σ' A' B' a' ya' za'} hσ h1 h2 h3 q => by
      refine ⟨_, hσ, a', _, _, _, rfl, rfl, .inl h1, at0, ya', _, rfl, .inl h2, _, hσ, a', _, _, _, rfl, rfl, .inl h1, at1, za', _, rfl, .inl h3, rfl, _, rfl, ?_⟩
      rw [List.length_map, List.length_map]
      by_cases hl : A'.length = B'.length
      · rw [decide_eq_true (congrArg V.int (show (A'.length : Int) = B'.length by omega))]
        refine iteF ⟨_, hσ, a', _, _, _, rfl, rfl, .inl h1, at0, ya', _, rfl, .inl h2, _, _, rfl, rfl, _, rfl, ?_⟩
        rw [List.length_map]
        by_cases h1 : 1 < A'.length
        · rw [decide_eq_true (show (1 : Int) < (A'.length : Int) by omega)]
          rw [decide_eq_true (.inr h1)] at q
          exact q
        · rw [decide_eq_false (show ¬ (1 : Int) < (A'.length : Int) by omega)]
          rw [decide_eq_false (fun z => z.elim (fun z => z hl) h1)] at q
          exact q
      · rw [decide_eq_false (fun z => hl (by have := V.int.inj z; omega))]
        rw [decide_eq_true (.inl hl)] at q
        exact iteT q
    refine tst (a' := a) (A' := A) (B' := B) rfl hA hy hz ?_
    by_cases hC : m = 0 ∧ PhC (FinT A1 B1 (n1 + 1)) A B s done
    · obtain ⟨rfl, g, hp, hgc, kk⟩ := hC
      obtain ⟨lB, lA⟩ := g.lens0 fw.t2 fw.t1
      rw [decide_eq_false (by omega)]
      refine iteF ?_
      have fin := kk _ _ _ (tl_zero (s := s) g hp hgc)
      refine ⟨_, rfl, a, _, _, _, rfl, rfl, .inl hA, at0, ya, _, _, .int (co A 0), rfl, rfl, .inl hy, atI_ints (i := 0) (by omega), _, rfl, a, _, _, _, rfl, rfl, .inl hA, at1, za, _, _, .int (co B 0), rfl, rfl, .inl hz, atI_ints (i := 0) (by omega), sz2, fun v nv => ?_⟩
      have hv : SqT K (upd H1 v (.tup [.int (co A 0), .int (co B 0)])) v [.int (co A 0), .int (co B 0)] := st_of upd_same
      have e2 : Ex H1 (upd H1 v (.tup [.int (co A 0), .int (co B 0)])) := Ex.new nv
      have hFv : (upd H1 v (.tup [.int (co A 0), .int (co B 0)])) Fa = some (.lst xs) := by rw [upd_ne (ne_of_none hFa nv)]; exact hFa
      generalize upd H1 v (.tup [.int (co A 0), .int (co B 0)]) = H2 at hv e2 hFv
      have hxl : xs.length ≤ 1000 := by
        have h1 := hRg.1
        rw [List.length_map] at h1
        have h2 : done.length = n1 + 1 := fin.1
        have hn1 : n1 ≤ 12 := by
          refine Nat.le_of_not_lt fun hlt => ?_
          have h1 : 2 ^ 13 ≤ 2 ^ (n1 + 1) := pow_up (by omega)
          have h2 := Nat.mul_le_mul h1 (show 1 ≤ b1 + 1 by omega)
          omega
        omega
      refine ⟨_, rfl, rfl, _, rfl, ?_⟩
      cases s
      · refine iteF ⟨_, rfl, Fa, xs, rfl, .inr (sq_of hFv), _, rfl, v, _, _, _, rfl, rfl, .inl hv, at1, _, rfl, v, _, _, _, rfl, rfl, .inl hv, at0, sz2, fun u nu => ⟨sz3, fun t nt => ⟨by simp; exact sz _ (by omega), fun r nr => ?_⟩⟩⟩
        refine k _ _ done true (co B 0) (co A 0) ((((e1.trans e2).trans (Ex.new nu)).trans (Ex.new nt)).trans (Ex.new nr)) (Rgs.lad (xs := xs ++ [.ref t]) ?_ (st_of upd_same)) fin
        refine Rgs.snoc (hRg.tk (TK.of (((e2.trans (Ex.new nu)).trans (Ex.new nt)).trans (Ex.new nr)))) ?_
        exact ⟨t, .ref u, rfl, ex_t (Ex.new nr) (st_of upd_same), u, rfl, ex_t ((Ex.new nt).trans (Ex.new nr)) (st_of upd_same)⟩
      · refine iteT ⟨_, rfl, Fa, xs, rfl, .inr (sq_of hFv), _, rfl, sz3, fun t nt => ⟨by simp; exact sz _ (by omega), fun r nr => ?_⟩⟩
        refine k _ _ done false (co A 0) (co B 0) (((e1.trans e2).trans (Ex.new nt)).trans (Ex.new nr)) (Rgs.lad (xs := xs ++ [.ref t]) ?_ (st_of upd_same)) fin
        refine Rgs.snoc (hRg.tk (TK.of ((e2.trans (Ex.new nt)).trans (Ex.new nr)))) ?_
        exact ⟨t, .ref v, rfl, ex_t (Ex.new nr) (st_of upd_same), v, rfl, ex_t ((Ex.new nt).trans (Ex.new nr)) hv⟩
    · have hph : (∃ n, m = 2 * n + 3 ∧ PhA (FinT A1 B1 (n1 + 1)) A B s done b n) ∨ (∃ n, m = 2 * n + 4 ∧ PhB (FinT A1 B1 (n1 + 1)) A B s done b n) := by
        rcases ph with ph | ph | ph
        · exact .inl ph
        · exact .inr ph
        · exact absurd ph hC
      have hne : A.length ≠ B.length := by
        rcases hph with ⟨n, _, g, _⟩ | ⟨n, _, g, _⟩
        · have := g.lens fw.t1 fw.t2; omega
        · have := g.lens fw.t2 fw.t1; omega
      rw [decide_eq_true (.inl hne)]
      refine iteT ⟨fun σ' H' => ∃ m', m' < m ∧ ∃ (A B : List Int) (s : Bool) (done : List (Bool × Int × Int)) (b : Nat), StS K H Fa σ' H' A B s done b ∧
        ((∃ n, m' = 2 * n + 3 ∧ PhA (FinT A1 B1 (n1 + 1)) A B s done b n) ∨ (∃ n, m' = 2 * n + 4 ∧ PhB (FinT A1 B1 (n1 + 1)) A B s done b n) ∨ (m' = 0 ∧ PhC (FinT A1 B1 (n1 + 1)) A B s done)), fun σ' H' h => h, ?_⟩
      refine tIfS_via (fun σ' H' => ∃ (A B : List Int) (s : Bool) (done : List (Bool × Int × Int)) (b : Nat), StS K H Fa σ' H' A B s done b ∧
        ((∃ n, 2 * n + 3 < m ∧ PhB (FinT A1 B1 (n1 + 1)) A B s done b n) ∨ (0 < m ∧ PhC (FinT A1 B1 (n1 + 1)) A B s done))) (fun N hN => ?_) (fun σ' H' hP => ?_)
      · refine ⟨_, rfl, a, _, _, _, rfl, rfl, .inl hA, at0, ya, _, rfl, .inl hy, _, rfl, a, _, _, _, rfl, rfl, .inl hA, at1, za, _, rfl, .inl hz, _, _, rfl, rfl, _, rfl, ?_⟩
        rw [List.length_map, List.length_map]
        rcases hph with ⟨n, hm, hg, hs2, hdn, kk⟩ | ⟨n, hm, hg, hs2, hdn, kk⟩
        · obtain ⟨lA, lB⟩ := hg.lens fw.t1 fw.t2
          rw [decide_eq_true (show (B.length : Int) < (A.length : Int) by omega)]
          have hA0 : A ≠ [] := fun z => by rw [z] at lA; simp at lA
          have leA : lead A = co A (n + 1) := by unfold lead; rw [lA]; rfl
          have leB : lead B = co B n := by unfold lead; rw [lB]; rfl
          have hb : b + 1 ≤ 2000 := by
            have h1 : 2 ^ 1 ≤ 2 ^ (n + 1) := pow_up (by omega)
            have h2 := Nat.mul_le_mul_right (b + 1) h1
            omega
          refine iteT ⟨_, rfl, .ref a, A, B, rfl, fw.v, hA0, fw.ne, by rw [leA, leB]; exact hg.2.2.1, fun v H2 vn vd e2 hv hvn hvd hgcd hquo hn1' hd1' => ?_⟩
          have bn : vn.natAbs ≤ 2 ^ b := Nat.le_trans hn1' (nrm_lead fw.n1)
          have bd : vd.natAbs ≤ 2 ^ b := Nat.le_trans hd1' (nrm_lead fw.n2)
          have hF2 : H2 Fa = some (.lst xs) := e2 _ _ hFa
          have hxl : xs.length ≤ 1000 := by
            have h1 := hRg.1
            rw [List.length_map] at h1
            omega
          refine ⟨_, rfl, .inl ⟨rfl, xs, sq_of hF2⟩, _, rfl, ?_⟩
          refine tIf_via (v := .str (if s then "L" else "C")) (H1 := H2) (fun R hR => ?_) ?_
          · refine ⟨_, rfl, rfl, _, rfl, ?_⟩
            cases s
            · exact iteF hR
            · exact iteT hR
          refine ⟨_, rfl, sz3, fun t nt => ⟨Fa, xs, _, rfl, rfl, by rw [upd_ne (ne_of_none hF2 nt)]; exact hF2, sz_lt (by omega), ?_⟩⟩
          have hFt : (upd H2 t (.tup [.str (plS s), .str (if s then "L" else "C"), v])) Fa = some (.lst xs) := by rw [upd_ne (ne_of_none hF2 nt)]; exact hF2
          have ht : SqT K (upd H2 t (.tup [.str (plS s), .str (if s then "L" else "C"), v])) t [.str (plS s), .str (if s then "L" else "C"), v] := st_of upd_same
          have et : Ex H2 (upd H2 t (.tup [.str (plS s), .str (if s then "L" else "C"), v])) := Ex.new nt
          generalize upd H2 t (.tup [.str (plS s), .str (if s then "L" else "C"), v]) = H3 at hFt ht et
          have tk3 : TK K H3 (upd H3 Fa (.lst (xs ++ [.ref t]))) := TK.mut hFt
          have e3 : Ex H (upd H3 Fa (.lst (xs ++ [.ref t]))) := Ex.mut ((e1.trans e2).trans et) nFa
          have hF3 : (upd H3 Fa (.lst (xs ++ [.ref t]))) Fa = some (.lst (xs ++ [.ref t])) := upd_same
          generalize upd H3 Fa (.lst (xs ++ [.ref t])) = H4 at tk3 e3 hF3
          have tk24 : TK K H2 H4 := (TK.of et).trans tk3
          have tk14 : TK K H1 H4 := (TK.of e2).trans tk24
          have hvn0 : vn ≠ 0 := by omega
          have hvd0 : vd ≠ 0 := by omega
          have copL : Cop [0, vn] [vd] := ⟨vd, hvd0, [], [1], fun x => by simp [ev]⟩
          have p99 : (2 : Nat) ^ b ≤ 2 ^ 9999 := pow_up (by omega)
          have p98 : (2 : Nat) ^ (2 * b + 1) ≤ 2 ^ 9999 := pow_up (by omega)
          have off0 : Off A B (offT A B vn vd) (smul vd B) vn vd n := ⟨hvn, hvd, by rw [← leB, ← leA]; exact hquo, 1, by decide, fun x => by rw [ev_offT]; omega, fun x => by rw [ev_smul]; omega⟩
          obtain ⟨no1, no2⟩ := nrm_off fw.n1 fw.n2 bn bd
          refine ⟨_, rfl, _, rfl, v, vn, vd, rfl, hv.tk tk24, hvn0, fun w5 H5 e5 hw5 => ?_⟩
          have fwc : FW K H5 w5 [vn] [vd] 1 b := ⟨hw5, by simp, by simp, nrm1 bn, nrm1 bd, fun a h => by simp at h; omega, fun a h => by simp at h; omega, by simp⟩
          have fwv : FW K H5 (.ref va) [0, 1] [1] 2 0 := ⟨hvv H5, by decide, by decide, by decide, by decide, fun a h => by simp at h; omega, fun a h => by simp at h; omega, by decide⟩
          refine ⟨w5, .ref va, _, _, _, _, _, _, _, _, [0, vn], [vd], rfl, fwc, fwv, by decide, by omega, fun x => by simp [ev]; grind, copL, Nat.le_trans (nrm01 bn) p99, Nat.le_trans (nrm1 bd) p99, ⟨1, by simp [ev]; exact hvn0⟩, fun w6 H6 F1 F2 e6 hw6 R6 => ?_⟩
          have fw6 := (fw.tk tk14).ex (e5.trans e6)
          refine ⟨.ref a, w6, A, B, F1, F2, 9, 2, b, b, offT A B vn vd, smul vd B, rfl, fw6, R6.fw hw6 (by simp) (by simp) (nrm01 bn) (nrm1 bd), by decide, by omega, fun x => ?_, cop_off hcp hvd, Nat.le_trans no1 p98, Nat.le_trans no2 p98, good_ne (off0.good hg), fun z' H7 R' B' e7 hz' RR => ?_⟩
          · obtain ⟨κ, hκ, k1, k2⟩ := R6.ev1
            have c1 := k1 x
            have c2 := k2 x
            rw [ev01] at c1
            rw [ev1] at c2
            rw [ev_offT, ev_smul]
            refine Int.eq_of_mul_eq_mul_left hκ ?_
            have u1 : κ * ((ev A x * ev F2 x - ev F1 x * ev B x) * (vd * ev B x)) = (ev A x * (κ * ev F2 x) - (κ * ev F1 x) * ev B x) * (vd * ev B x) := by grind
            have u2 : κ * (ev B x * ev F2 x * (vd * ev A x - vn * (x * ev B x))) = ev B x * (κ * ev F2 x) * (vd * ev A x - vn * (x * ev B x)) := by grind
            rw [u1, u2, ← c1, ← c2]; grind
          · have off : Off A B R' B' vn vd n := ⟨hvn, hvd, by rw [← leB, ← leA]; exact hquo, by
              obtain ⟨κ, hκ, k1, k2⟩ := RR.ev1
              exact ⟨κ, hκ, fun x => by rw [← k1, ev_offT], fun x => by rw [← k2, ev_smul]⟩⟩
            have g' := off.good hg
            have tk47 : TK K H4 H7 := TK.of ((e5.trans e6).trans e7)
            have lo : (offT A B vn vd).length ≤ 9 := by
              have := fw.l1
              unfold offT
              rw [addL_len, smul, smul, List.length_map, List.length_map, List.length_cons]; omega
            have lo2 : (smul vd B).length ≤ 9 := by rw [smul, List.length_map]; exact fw.l2
            have rg : Rgs K H7 (xs ++ [.ref t]) ((done ++ [(s, vn, vd)]).map rnOf) := by
              rw [List.map_append]
              refine Rgs.snoc (hRg.tk (tk14.trans tk47)) ?_
              have hr : RungV K H7 (.ref t) (plS s) (if s then "L" else "C") vn vd := ⟨t, v, rfl, tk47 _ _ (tk3 _ _ ht), hv.tk (tk24.trans tk47)⟩
              cases s
              · exact hr
              · exact hr
            have sts : StS K H Fa [some z', some (.ref Fa), some (.str (plS s)), some v] H7 R' B' s (done ++ [(s, vn, vd)]) (2 * b + 1) :=
              ⟨(((e3.trans e5).trans e6).trans e7), z', _, _, rfl, ((e5.trans e6).trans e7) _ _ hF3, rg, RR.fw hz' lo lo2 no1 no2, RR.cop (cop_off hcp hvd)⟩
            refine hN _ _ ⟨R', B', s, done ++ [(s, vn, vd)], 2 * b + 1, sts, ?_⟩
            cases n with
            | zero =>
              refine .inr ⟨by omega, g', ?_, gcd_const RR g'.2.1 g'.1, fun rp nr dr t => ?_⟩
              · have hl := g'.lens0 RR.tr2 RR.tr1
                have := RR.pos
                unfold lead at this
                rw [hl.1] at this
                exact this
              · have := kk _ _ _ _ (off.tl hgcd t)
                exact this
            | succ n =>
              refine .inl ⟨n, by omega, g', ?_, by rw [List.length_append]; simp; omega, fun core rp nr dr t => ?_⟩
              · have e : 2 ^ (n + 1) * (2 * b + 1 + 1) = 2 ^ (n + 1 + 1) * (b + 1) := by rw [Nat.pow_succ 2 (n + 1), Nat.mul_assoc, show 2 * b + 1 + 1 = 2 * (b + 1) by omega]
                rw [e]; exact hs2
              · have := kk _ _ _ _ (off.tl hgcd t)
                rw [List.append_assoc]
                exact this
        · obtain ⟨lB, lA⟩ := hg.lens fw.t2 fw.t1
          rw [decide_eq_false (show ¬ (B.length : Int) < (A.length : Int) by omega)]
          exact iteF (hN _ _ ⟨A, B, s, done, b, ⟨e1, .ref a, xs, y3, rfl, hFa, hRg, fw, hcp⟩, .inl ⟨n, by omega, hg, hs2, hdn, kk⟩⟩)
      · clear fw hcp hRg hFa hA hy hz hne hph ph hC e1
        obtain ⟨A, B, s, done, b, ⟨e1, z, xs, y3, rfl, hFa, hRg, fw, hcp⟩, ph⟩ := hP
        obtain ⟨a, ya0, za0, rfl, hA, ⟨ya, rfl, hy⟩, ⟨za, rfl, hz⟩⟩ := fw.v
        refine tst (a' := a) (A' := A) (B' := B) rfl hA hy hz ?_
        rcases ph with ⟨n, hm, hg, hs2, hdn, kk⟩ | ⟨hm, hg, hp, hgc, kk⟩
        · obtain ⟨lB, lA⟩ := hg.lens fw.t2 fw.t1
          rw [decide_eq_true (.inl (by omega))]
          have hA0 : A ≠ [] := fun z => by rw [z] at lA; simp at lA
          have hb : b + 1 ≤ 2000 := by
            have h1 : 2 ^ 1 ≤ 2 ^ (n + 1) := pow_up (by omega)
            have h2 := Nat.mul_le_mul_right (b + 1) h1
            omega
          have p99 : (2 : Nat) ^ b ≤ 2 ^ 9999 := pow_up (by omega)
          refine iteT ⟨_, rfl, .ref a, A, B, b, B, A, rfl, { fw with l1 := by have := fw.l1; omega, l2 := by have := fw.l2; omega }, by omega, hA0, fun x => Int.mul_comm _ _, cop_swap hcp, Nat.le_trans fw.n2 p99, Nat.le_trans fw.n1 p99, ev_ne_of fw.t2 fw.ne, fun z2 H2 G1 G2 e2 hv2 R2 => ?_⟩
          refine tIf_via (v := .str (plS (!s))) (H1 := H2) (fun R hR => ?_) ?_
          · refine ⟨_, rfl, rfl, _, rfl, ?_⟩
            cases s
            · exact iteF hR
            · exact iteT hR
          refine ⟨_, _, rfl, 2 * n + 3, hm, G1, G2, !s, done, b, ⟨e1.trans e2, z2, xs, y3, rfl, e2 _ _ hFa, hRg.tk (TK.of e2), R2.fw hv2 fw.l2 fw.l1 fw.n2 fw.n1, R2.cop (cop_swap hcp)⟩, .inl ⟨n, rfl, ?_, hs2, hdn, ?_⟩⟩
          · obtain ⟨κ, hκ, k1, k2⟩ := R2.ev1
            exact hg.gen (p := κ) (u := 1) (q := κ) (v := 1) hκ hκ (by rw [Int.mul_one]; exact sq_pos hκ) (fun x => by rw [← k1]; omega) fun x => by rw [← k2]; omega
          · intro core rp nr dr t
            obtain ⟨κ, hκ, k1, k2⟩ := R2.ev1
            exact kk core rp nr dr (t.sc k1 k2)
        · obtain ⟨lB, lA⟩ := hg.lens0 fw.t2 fw.t1
          rw [decide_eq_false (by omega)]
          exact iteF ⟨0, hm, A, B, s, done, b, ⟨e1, .ref a, xs, y3, rfl, hFa, hRg, fw, hcp⟩, .inr (.inr ⟨rfl, hg, hp, hgc, kk⟩)⟩
end
end Kf
end

section
set_option Elab.async false
set_option linter.all false
set_option maxRecDepth 100000
set_option maxHeartbeats 4000000
namespace Kf
open PySem PySem.Spec PyProof.Rows L2 Lx Evl Pm RZ StX

def dueB (L E : List Int) : Bool := decide (2 ≤ L.length) && (hur L && (decide ((gapP L E).length = 1) && decide (0 ≤ co (gapP L E) 0)))
theorem due_math {L E : List Int} (tL : Tr L) (tE : Tr E) (h : dueB L E = true) : ∃ (n : Nat) (c : Int), L.length = n + 2 ∧ 0 < c ∧ (∀ x, ev L x * ev L (-x) - ev E x * ev E (-x) = c) ∧ (Good (n + 1) (addL L E) (dif L E) ∨ Good (n + 1) (dif L E) (addL L E)) := by
  unfold dueB at h
  rw [Bool.and_eq_true, Bool.and_eq_true, Bool.and_eq_true] at h
  obtain ⟨h1, h2, h3, h4⟩ := h
  have h1 := of_decide_eq_true h1
  have h3 := of_decide_eq_true h3
  have h4 := of_decide_eq_true h4
  have tg : Tr (gapP L E) := tr_minus _ _
  obtain ⟨c, hc⟩ := List.length_eq_one_iff.mp h3
  have hc0 : co (gapP L E) 0 = c := by rw [hc, co_zero]
  have hcn : c ≠ 0 := by
    have := tg.lead (fun z => by rw [z] at h3; simp at h3)
    unfold lead at this
    rw [h3] at this
    have e : co (gapP L E) (1 - 1) = c := hc0
    rw [e] at this
    exact this
  have gap : ∀ x, ev L x * ev L (-x) - ev E x * ev E (-x) = c := fun x => by rw [← ev_gapP, hc, ev_single]
  refine ⟨L.length - 2, c, by omega, by omega, gap, main_good tL tE (by omega) h2 (by omega) gap⟩
theorem good_ne1 {n : Nat} {A B : List Int} (g : Good (n + 1) A B) : ∃ x, ev A x ≠ 0 := by
  refine Classical.byContradiction fun h => ?_
  have hz : ∀ x, ev A x = 0 := fun x => Classical.byContradiction fun hx => h ⟨x, hx⟩
  have hc : co A (n + 1) = 0 := z_zero hz 0 _ (Nat.zero_le _)
  have := g.2.2.1
  rw [hc, Int.zero_mul] at this
  exact absurd this (by decide)
section
variable {w : World} {K : PySem.W.Frag} {mg : Str → Option Value} {base : Heap}
abbrev sFilter : Stmt := topS 70
abbrev nFilter : List Str := ["left", "echo", "rest", "bottom"]
theorem scFilter : FnScope nFilter ["left", "echo"] (defScope sFilter) := ⟨rfl, rfl, rfl, by decide +kernel, rfl, by decide +kernel, by decide +kernel⟩
def spFilter (K : PySem.W.Frag) : Sp := fun vs H Q _ => ∃ (x y : V) (L E : List Int), vs = [x, y] ∧ PolyV K H x L ∧ PolyV K H y E ∧ OkP L ∧ OkP E ∧ L.length ≤ 5 ∧ (dueB L E = false → ∀ H', Ex H H' → Q .non H') ∧
  (dueB L E = true → ∀ v H' core rp nr dr, Ex H H' → LadV K H' v (core.map rnOf ++ lastR (plS rp) nr dr) → FinT (addL L E) (dif L E) (L.length - 1) core rp nr dr → Q v H')
theorem ok_filter (D : DefAt K mg "filter_ladder" sFilter ["left", "echo"]) (G : Gl0 mg base) (Cn : Cal w K mg base 44 "need_poly" ["value"] (spNeedPoly K)) (Cd : Cal w K mg base 44 "difference" ["left", "echo"] (spDiff K)) (Co : Cal w K mg base 43 "is_on_left" ["one"] (spOnLeft K))
    (Cs : Cal w K mg base 42 "scaled" ["one", "factor"] (spScaled K)) (Cm : Cal w K mg base 43 "poly_minus" ["one", "other"] (spMinus K)) (Cp : Cal w K mg base 42 "poly_plus" ["one", "other"] (sp2 K plus)) (Cma : Cal w K mg base 46 "made" ["top", "bottom"] (spMade K)) (Cst : Cal w K mg base 48 "steps_of" ["one"] (spSteps K)) :
    Cal w K mg base 49 "filter_ladder" ["left", "echo"] (spFilter K) := by
  refine Cal.mk D scFilter (fun vs H Q E h => ?_) (fun f cdv A outer s H vs Q E0 hr h => ?_)
  · obtain ⟨x, y, L, E, rfl, _⟩ := h
    rfl
  · obtain ⟨x, y, L, E, rfl, hx, hy, oL, oE, l5, k1, k2⟩ := h
    refine ⟨_, pss_cons (ps_expr (pe_callC rfl Cn hr (by decide) (pa_cons (pv 0) pa_nil))) (pss_cons (ps_expr (pe_callC rfl Cn hr (by decide) (pa_cons (pv 1) pa_nil)))
      (pss_cons (ps_set (i := 2) scFilter.nd rfl (.inl rfl) (pe_callC rfl Cd hr (by decide) (pa_cons (pv 0) (pa_cons (pv 1) pa_nil))))
      (pss_cons (ps_if (PW.pt (pw_or (pt_cmpR op_lt (pe_len G.len (pv 0)) pe_int (nomark _)) (pw_or (pt_not (pt_val (pe_callC rfl Co hr (by decide) (pa_cons (pv 0) pa_nil)))) (pw_or (pt_cmpR op_ne (pe_len G.len (pv 2)) pe_int (nomark _)) (pw_or1 (pt_cmpR op_lt (pe_at (pv 2) pe_int) pe_int (nomark _))))))) (pss_one (ps_ret pe_non)) pss_nil)
      (pss_cons (ps_if (pt_cmpR op_lt (pe_at (pv 0) (pe_un un_neg pe_int)) pe_int (nomark _)) (pss_one (ps_par (i := 0) (j := 1) rfl scFilter.nd rfl rfl (by decide) rfl rfl (pa_cons (pe_callC rfl Cs hr (by decide) (pa_cons (pv 0) (pa_cons (pe_un un_neg pe_int) pa_nil))) (pa_cons (pe_callC rfl Cs hr (by decide) (pa_cons (pv 1) (pa_cons (pe_un un_neg pe_int) pa_nil))) pa_nil)) (by rfl))) pss_nil)
      (pss_cons (ps_set (i := 3) scFilter.nd rfl (.inl rfl) (pe_callC rfl Cm hr (by decide) (pa_cons (pv 0) (pa_cons (pv 1) pa_nil))))
      (pss_cons (ps_if (pt_cmpR (op_eqP hr.units) (pv 3) (pe_tup pa_nil) (nomark _)) (pss_one (ps_ret pe_non)) pss_nil)
      (pss_one (ps_ret (pe_callC rfl Cst hr (by decide) (pa_cons (pe_callC rfl Cma hr (by decide) (pa_cons (pe_callC rfl Cp hr (by decide) (pa_cons (pv 0) (pa_cons (pv 1) pa_nil))) (pa_cons (pv 3) pa_nil))) pa_nil)))))))))), ?_⟩
    refine ⟨_, rfl, x, L, rfl, hx, oL, fun H1 e1 => ⟨_, rfl, y, E, rfl, hy.ex e1, oE, fun H2 e2 => ⟨_, rfl, _, rfl, x, y, L, E, rfl, hx.ex (e1.trans e2), hy.ex (e1.trans e2), oL, oE, fun gv H3 e3 hg => ?_⟩⟩⟩
    have e13 := (e1.trans e2).trans e3
    have hx3 := hx.ex e13
    have hy3 := hy.ex e13
    obtain ⟨xa, rfl, hxa⟩ := hx3
    obtain ⟨ga, rfl, hga⟩ := hg
    dsimp only [gName, tSeq]
    refine tIfS_via (fun σ H' => Ex H3 H' ∧ σ = [some (.ref xa), some y, some (.ref ga), none] ∧ dueB L E = true) (fun N hN => ?_) (fun σ H' hP => ?_)
    · refine ⟨_, rfl, xa, _, rfl, .inl hxa, _, _, rfl, rfl, _, rfl, ?_⟩
      rw [List.length_map]
      by_cases c1 : 2 ≤ L.length
      · rw [decide_eq_false (show ¬ (L.length : Int) < 2 by omega)]
        refine iteF ⟨_, rfl, .ref xa, L, rfl, ⟨xa, rfl, hxa⟩, oL, fun z => by rw [z] at c1; simp at c1, fun H4 e4 => ⟨_, rfl, ?_⟩⟩
        by_cases c2 : hur L = true
        · rw [c2]
          refine iteF ⟨_, rfl, ga, _, rfl, .inl (ex_t e4 hga), rfl, _, rfl, ?_⟩
          rw [List.length_map]
          by_cases c3 : (gapP L E).length = 1
          · rw [decide_eq_true (congrArg V.int (show ((gapP L E).length : Int) = 1 by omega))]
            refine iteF ⟨_, rfl, ga, _, _, .int (co (gapP L E) 0), rfl, rfl, .inl (ex_t e4 hga), atI_ints (i := 0) (by omega), _, _, rfl, rfl, _, rfl, ?_⟩
            by_cases c4 : 0 ≤ co (gapP L E) 0
            · rw [decide_eq_false (show ¬ co (gapP L E) 0 < 0 by omega)]
              refine iteF (hN _ _ ⟨e4, rfl, ?_⟩)
              unfold dueB
              rw [decide_eq_true c1, c2, decide_eq_true c3, decide_eq_true c4]; rfl
            · rw [decide_eq_true (show co (gapP L E) 0 < 0 by omega)]
              refine iteT (k1 ?_ _ (e13.trans e4))
              unfold dueB
              rw [decide_eq_false c4]; simp
          · rw [decide_eq_false (fun z => c3 (by have := V.int.inj z; omega))]
            refine iteT (iteT (k1 ?_ _ (e13.trans e4)))
            unfold dueB
            rw [decide_eq_false c3]; simp
        · rw [Bool.not_eq_true] at c2
          rw [c2]
          refine iteT (iteT (k1 ?_ _ (e13.trans e4)))
          unfold dueB
          rw [c2]; simp
      · rw [decide_eq_true (show (L.length : Int) < 2 by omega)]
        refine iteT (iteT (k1 ?_ _ e13))
        unfold dueB
        rw [decide_eq_false c1]; rfl
    · obtain ⟨e4, rfl, hdue⟩ := hP
      have k := k2 hdue
      clear k1 k2
      obtain ⟨n, c, hl, hc, gap, hgood⟩ := due_math oL.tr oE.tr hdue
      have hcop := cop_gap hc gap
      have nzT : ∃ x, ev (addL L E) x ≠ 0 := by
        rcases hgood with g | g
        · exact good_ne1 g
        · exact good_ne g
      have nzB : ∃ x, ev (dif L E) x ≠ 0 := by
        rcases hgood with g | g
        · exact good_ne g
        · exact good_ne1 g
      have hL0 : L ≠ [] := fun z => by rw [z] at hl; simp at hl
      have e14 := e13.trans e4
      -- the signs
      dsimp only [tSeq]
      refine tIfS_via (fun σ H' => Ex H' H' ∧ ∃ (zx zy : V) (L' E' : List Int) (ς : Int), Ex H H' ∧ σ = [some zx, some zy, some (.ref ga), none] ∧ PolyV K H' zx L' ∧ PolyV K H' zy E' ∧ ς ≠ 0 ∧ (∀ x, ev L' x = ς * ev L x) ∧ (∀ x, ev E' x = ς * ev E x) ∧ L'.length ≤ 10 ∧ E'.length ≤ 10 ∧ nrm L' ≤ 2 ^ 204 ∧ nrm E' ≤ 2 ^ 204)
        (fun N hN => ?_) (fun σ H' hP => ?_)
      · refine ⟨_, rfl, _, rfl, xa, _, _, _, rfl, rfl, .inl (ex_t e4 hxa), atI_lead hL0, _, _, rfl, rfl, _, rfl, ?_⟩
        by_cases hn : lead L < 0
        · rw [decide_eq_true hn]
          refine iteT ⟨_, rfl, _, rfl, .ref xa, L, -1, rfl, ⟨xa, rfl, ex_t e4 hxa⟩, by have := oL.2.1; omega, cmul_neg oL.n (by decide), fun v1 H5 e5 hv1 => ?_⟩
          refine ⟨_, rfl, _, rfl, y, E, -1, rfl, hy.ex (e14.trans e5), by have := oE.2.1; omega, cmul_neg oE.n (by decide), fun v2 H6 e6 hv2 => ?_⟩
          refine ⟨_, _, rfl, hN _ _ ⟨Ex.refl _, v1, v2, scal L (-1), scal E (-1), -1, (e14.trans e5).trans e6, rfl, hv1.ex e6, hv2, by decide, fun x => ev_scal _ _ _, fun x => ev_scal _ _ _, Nat.le_trans (trim_len _) (by rw [smul, List.length_map]; exact oL.2.1), Nat.le_trans (trim_len _) (by rw [smul, List.length_map]; exact oE.2.1), by rw [nrm_scal]; simpa using oL.n, by rw [nrm_scal]; simpa using oE.n⟩⟩
        · rw [decide_eq_false hn]
          exact iteF (hN _ _ ⟨Ex.refl _, .ref xa, y, L, E, 1, e14, rfl, ⟨xa, rfl, ex_t e4 hxa⟩, hy.ex e14, by decide, fun x => by omega, fun x => by omega, oL.2.1, oE.2.1, oL.n, oE.n⟩)
      · obtain ⟨_, zx, zy, L', E', ς, e5, rfl, hzx, hzy, hς, evL, evE, lL, lE, nL, nE⟩ := hP
        have n99 : ∀ {a : Nat}, a ≤ 2 ^ 205 → a ≤ 2 ^ 9999 := fun h => Nat.le_trans h (pow_up (by decide))
        have npl : nrm (plus L' E') ≤ 2 ^ 205 := Nat.le_trans (nrm_plus _ _) (pow_two nL nE)
        have nmi : nrm (minus L' E') ≤ 2 ^ 205 := Nat.le_trans (nrm_minus _ _) (pow_two nL nE)
        have evT : ∀ x, ev (plus L' E') x = ς * ev (addL L E) x := fun x => by rw [ev_plus, ev_addL, evL, evE]; grind
        have evB : ∀ x, ev (minus L' E') x = ς * ev (dif L E) x := fun x => by rw [ev_minus, ev_dif, evL, evE]; grind
        have hpl : plus L' E' ≠ [] := fun z => by
          obtain ⟨x, hx⟩ := nzT
          have := evT x
          rw [z] at this
          exact Int.mul_ne_zero hς hx this.symm
        have hmi : minus L' E' ≠ [] := fun z => by
          obtain ⟨x, hx⟩ := nzB
          have := evB x
          rw [z] at this
          exact Int.mul_ne_zero hς hx this.symm
        refine ⟨_, rfl, _, rfl, zx, zy, L', E', rfl, hzx, hzy, by omega, by omega, cmul_neg nE (by decide), fun vb H7 e7 hvb => ?_⟩
        refine ⟨_, rfl, sz_of (by decide), fun t0 nt0 => ⟨minus L' E', [], hvb.ex (Ex.new nt0), nilV, _, rfl, ?_⟩⟩
        have e8 : Ex H' (upd H7 t0 (.tup [])) := e7.trans (Ex.new nt0)
        have hvb8 := hvb.ex (Ex.new (o := .tup []) nt0)
        generalize upd H7 t0 (.tup []) = H8 at e8 hvb8
        rw [decide_eq_false hmi]
        refine iteF ⟨_, rfl, _, rfl, zx, zy, L', E', rfl, hzx.ex e8, hzy.ex e8, by omega, by omega, fun vp H9 e9 hvp => ?_⟩
        have nTT : nrm (addL L E) ≤ 2 ^ 205 := Nat.le_trans (nrm_addL _ _) (pow_two oL.n oE.n)
        have nBB : nrm (dif L E) ≤ 2 ^ 205 := dfT_nrm oL.n oE.n
        refine ⟨_, rfl, vp, vb, plus L' E', minus L' E', addL L E, dif L E, rfl, hvp, hvb8.ex e9, ⟨plus_len lL lE, n99 npl⟩, ⟨minus_len lL lE, n99 nmi⟩, tr_plus _ _, tr_minus _ _, hpl, hmi, hcop, n99 nTT, n99 nBB, fun x => by rw [evT, evB]; grind, fun vf H10 F1 F2 e10 hvf R => ?_⟩
        obtain ⟨κ, hκ, q1, q2⟩ := R.ev1
        have sgκ : 0 < κ * 1 * (κ * 1) := by rw [Int.mul_one]; exact sq_pos hκ
        have hgF : Good (n + 1) F1 F2 ∨ Good (n + 1) F2 F1 := by
          rcases hgood with g | g
          · exact .inl (g.gen (p := κ) (u := 1) (q := κ) (v := 1) hκ hκ sgκ (fun x => by rw [← q1]; omega) fun x => by rw [← q2]; omega)
          · exact .inr (g.gen (p := κ) (u := 1) (q := κ) (v := 1) hκ hκ sgκ (fun x => by rw [← q2]; omega) fun x => by rw [← q1]; omega)
        have lens : F1.length ≤ 9 ∧ F2.length ≤ 9 := by
          rcases hgF with g | g
          · have := g.lens R.tr1 R.tr2; omega
          · have := g.lens R.tr2 R.tr1; omega
        refine ⟨vf, F1, F2, n, 205, rfl, ⟨hvf, lens.1, lens.2, Nat.le_trans R.nrm1 nTT, Nat.le_trans R.nrm2 nBB, R.tr1, R.tr2, R.ne2⟩, R.cop hcop, hgF, ?_, fun v H11 core rp nr dr e11 hv hfin => ?_⟩
        · have h1 : 2 ^ (n + 1) ≤ 2 ^ 4 := pow_up (by omega)
          have h2 := Nat.mul_le_mul_right (205 + 1) h1
          omega
        · refine k v H11 core rp nr dr ((((e5.trans e8).trans e9).trans e10).trans e11) hv ?_
          obtain ⟨f1, f2, f3, f4, f5⟩ := hfin
          refine ⟨by omega, f2, f3, f4, fun x => ?_⟩
          rw [q1, q2, Int.mul_assoc, Int.mul_assoc, f5 x]
end
end Kf
end

section
set_option Elab.async false
set_option linter.all false
set_option maxRecDepth 100000
set_option maxHeartbeats 4000000
namespace Kf
open PySem PySem.Spec PyProof.Rows L2 Lx Evl Pm RZ StX

section
variable {w : World} {K : PySem.W.Frag} {mg : Str → Option Value} {base : Heap}
/-! ### _law_trim -/
abbrev sLTrim : Stmt := topS 74
abbrev nLTrim : List Str := ["_law_some", "_law_many", "_law_turn"]
theorem scLTrim : FnScope nLTrim ["_law_some"] (defScope sLTrim) := ⟨rfl, rfl, rfl, by decide +kernel, rfl, by decide +kernel, by decide +kernel⟩
def spLTrim (K : PySem.W.Frag) : Sp := fun vs H Q _ => ∃ (a : Addr) (p : List Int), vs = [.ref a] ∧ p.length ≤ 100000 ∧ (SqT K H a (p.map V.int) ∨ SqL K H a (p.map V.int)) ∧ ∀ v H', Ex H H' → PolyV K H' v (trim p) → Q v H'
theorem ok_ltrim (D : DefAt K mg "_law_trim" sLTrim ["_law_some"]) (G : Gl0 mg base) : Cal w K mg base 41 "_law_trim" ["_law_some"] (spLTrim K) := by
  refine Cal.mk D scLTrim (fun vs H Q E h => ?_) (fun f cdv A outer s H vs Q E hr h => ?_)
  · obtain ⟨a, p, rfl, _⟩ := h
    rfl
  · obtain ⟨a, p, rfl, lp, hS, q⟩ := h
    refine ⟨_, pss_cons (ps_set (i := 1) scLTrim.nd rfl (.inl rfl) (pe_len G.len (pv 0)))
      (pss_cons (ps_for PassesOwn.never rfl (pi_range1 (by rfl) G.range (pa_cons (pe_len G.len (pv 0)) pa_nil)) (pg_name (i := 2) scLTrim.nd rfl (.inl rfl))
        (pss_one (ps_if (PW.pt (pw_and (pt_cmpR op_gt (pv 1) pe_int (nomark _)) (pw_and1 (pt_cmpR op_eq (pe_at (pv 0) (pe_op op_sub (pv 1) pe_int)) pe_int (nomark _)))))
          (pss_one (ps_set (i := 1) scLTrim.nd rfl (.inl rfl) (pe_op op_sub (pv 1) pe_int))) pss_nil)))
      (pss_one (ps_ret (pe_tuple G.tuple (pe_slice sl_seq (pv 0) po_none (po_some (pv 1))))))), ?_⟩
    refine ⟨.ref a, rfl, a, p.map V.int, rfl, hS, ?_⟩
    rw [List.length_map]
    refine ⟨_, rfl, a, _, rfl, hS, _, rfl, by omega, by rw [List.length_map]; omega, ?_⟩
    rw [List.length_map, Int.toNat_natCast]
    refine for_range (fun i σ H' => H' = H ∧ ∃ (m : Nat) (y : Option V), σ = [some (.ref a), some (.int (m : Int)), y] ∧ m ≤ p.length ∧ trim (p.take m) = trim p ∧ (¬ (0 < m ∧ co p (m - 1) = 0) ∨ m + i = p.length))
      ⟨rfl, p.length, none, rfl, Nat.le_refl _, by rw [List.take_length], .inr rfl⟩ (fun i σ H' hi h => ?_) (fun σ H' h => ?_)
    · obtain ⟨rfl, m, y, rfl, hm, ht, hd⟩ := h
      refine ⟨_, rfl, _, _, rfl, rfl, _, rfl, ?_⟩
      by_cases h0 : 0 < m
      · rw [decide_eq_true (show (0 : Int) < (m : Int) by omega)]
        refine iteT ⟨_, rfl, _, rfl, _, _, rfl, rfl, a, p.map V.int, (m : Int) - 1, .int (co p (m - 1)), rfl, rfl, hS, ?_, rfl, _, rfl, ?_⟩
        · rw [show (m : Int) - 1 = ((m - 1 : Nat) : Int) by omega]
          exact atI_ints (by omega)
        · by_cases hz : co p (m - 1) = 0
          · rw [decide_eq_true (congrArg V.int hz)]
            refine iteT ⟨_, rfl, _, _, rfl, rfl, rfl, m - 1, some (.int (0 + i)), ?_, by omega, by rw [← ht, ← trim_take (m := m - 1) (by omega) hz, show m - 1 + 1 = m by omega], ?_⟩
            · rw [show ((m - 1 : Nat) : Int) = (m : Int) - 1 by omega]
              rfl
            · rcases hd with hd | hd
              · exact absurd ⟨h0, hz⟩ hd
              · exact .inr (by omega)
          · rw [decide_eq_false (fun z => hz (V.int.inj z))]
            exact iteF ⟨rfl, m, _, rfl, hm, ht, .inl fun z => hz z.2⟩
      · rw [decide_eq_false (show ¬ (0 : Int) < (m : Int) by omega)]
        exact iteF (iteF ⟨rfl, m, _, rfl, hm, ht, .inl fun z => h0 z.1⟩)
    · obtain ⟨rfl, m, y, rfl, hm, ht, hd⟩ := h
      have hn : ¬ (0 < m ∧ co p (m - 1) = 0) := by
        rcases hd with hd | hd
        · exact hd
        · omega
      have e2 : cutV (p.map V.int) none (some (m : Int)) = (trim p).map V.int := by
        rw [cutV_to (by rw [List.length_map]; exact hm), ← List.map_take, ← ht, trim_done hm hn]
      refine ⟨_, rfl, _, rfl, _, rfl, a, p.map V.int, rfl, ?_⟩
      rcases hS with hS | hS
      · refine .inl ⟨hS, fun p1 H1 e1 s1 => ⟨p1, _, rfl, .inl s1, fun a2 H2 e3 s2 => ?_⟩⟩
        rw [e2] at s2
        exact q _ _ (e1.trans e3) ⟨a2, rfl, s2⟩
      · refine .inr ⟨hS, fun p1 H1 e1 s1 => ⟨p1, _, rfl, .inr s1, fun a2 H2 e3 s2 => ?_⟩⟩
        rw [e2] at s2
        exact q _ _ (e1.trans e3) ⟨a2, rfl, s2⟩

/-! ### _law_times -/
abbrev sLTimes : Stmt := topS 75
abbrev nLTimes : List Str := ["_law_one", "_law_other", "_law_found", "_law_at", "_law_place"]
theorem scLTimes : FnScope nLTimes ["_law_one", "_law_other"] (defScope sLTimes) := ⟨rfl, rfl, rfl, by decide +kernel, rfl, by decide +kernel, by decide +kernel⟩
theorem ok_ltimes (D : DefAt K mg "_law_times" sLTimes ["_law_one", "_law_other"]) (G : Gl0 mg base) (T : Cal w K mg base 41 "_law_trim" ["_law_some"] (spLTrim K)) : Cal w K mg base 42 "_law_times" ["_law_one", "_law_other"] (spTimes K) := by
  refine Cal.mk D scLTimes (fun vs H Q E h => ?_) (fun f cdv A outer s H vs Q E hr h => ?_)
  · obtain ⟨x, y, p, q, rfl, _⟩ := h
    rfl
  · obtain ⟨x, y, p, q, rfl, ⟨a, rfl, hA⟩, ⟨b, rfl, hB⟩, l1, l2, hc, k⟩ := h
    refine ⟨_, pss_cons (ps_if (PW.pt (pw_or (pt_cmpR (op_eqP hr.units) (pv 0) (pe_tup pa_nil) (nomark _)) (pw_or1 (pt_cmpR (op_eqP hr.units) (pv 1) (pe_tup pa_nil) (nomark _))))) (pss_one (ps_ret (pe_tup pa_nil))) pss_nil)
      (pss_cons (ps_set (i := 2) scLTimes.nd rfl (.inl rfl) (pe_op op_rep (pe_lst (pa_cons pe_int pa_nil)) (pe_op op_sub (pe_op op_add (pe_len G.len (pv 0)) (pe_len G.len (pv 1))) pe_int)))
      (pss_cons (ps_for PassesOwn.never rfl (pi_range1 (by rfl) G.range (pa_cons (pe_len G.len (pv 0)) pa_nil)) (pg_name (i := 3) scLTimes.nd rfl (.inl rfl))
        (pss_one (ps_for PassesOwn.never rfl (pi_range1 (by rfl) G.range (pa_cons (pe_len G.len (pv 1)) pa_nil)) (pg_name (i := 4) scLTimes.nd rfl (.inl rfl))
          (pss_one (ps_asg (pe_op op_add (pe_at (pv 2) (pe_op op_add (pv 3) (pv 4))) (pe_op op_mulA (pe_at (pv 0) (pv 3)) (pe_at (pv 1) (pv 4)))) (pg_sub (pv 2) (pe_op op_add (pv 3) (pv 4)) set_listN))))))
      (pss_one (ps_ret (pe_callC rfl T hr (by decide) (pa_cons (pv 2) pa_nil)))))), ?_⟩
    have sz : ∀ m, m ≤ 100000 → m ≤ sizeLine := fun m h => sz_of h
    have done : (p = [] ∨ q = []) → ∀ H1, Ex H H1 → tRet (tTup tNil) { nx := fun _ H' => Q .non H', rt := Q } [some (.ref a), some (.ref b), none, none, none] H1 := fun hz H1 e1 => by
      refine ⟨sz _ (by decide), fun t nt => k _ _ (e1.trans (Ex.new nt)) ?_⟩
      unfold times
      rw [if_pos hz]
      exact nilV
    refine ⟨_, rfl, sz _ (by decide), fun t0 nt0 => ⟨p, [], ⟨a, rfl, ex_t (Ex.new nt0) hA⟩, nilV, _, rfl, ?_⟩⟩
    by_cases hp : p = []
    · rw [decide_eq_true hp]
      exact iteT (iteT (done (.inl hp) _ (Ex.new nt0)))
    rw [decide_eq_false hp]
    refine iteF ⟨_, rfl, sz _ (by decide), fun t1 nt1 => ⟨q, [], ⟨b, rfl, ex_t ((Ex.new nt0).trans (Ex.new nt1)) hB⟩, nilV, _, rfl, ?_⟩⟩
    by_cases hq : q = []
    · rw [decide_eq_true hq]
      exact iteT (done (.inr hq) _ ((Ex.new nt0).trans (Ex.new nt1)))
    rw [decide_eq_false hq]
    refine iteF ?_
    have e1 : Ex H (upd (upd H t0 (.tup [])) t1 (.tup [])) := (Ex.new nt0).trans (Ex.new nt1)
    generalize upd (upd H t0 (.tup [])) t1 (.tup []) = H1 at e1
    have hpl : 0 < p.length := List.length_pos_iff.mpr hp
    have hql : 0 < q.length := List.length_pos_iff.mpr hq
    refine ⟨sz 1 (by decide), fun z0 nz0 => ⟨_, rfl, a, _, rfl, .inl (ex_t (e1.trans (Ex.new nz0)) hA), _, rfl, b, _, rfl, .inl (ex_t (e1.trans (Ex.new nz0)) hB), _, _, rfl, rfl, _, _, rfl, rfl, z0, _, _, rfl, rfl, upd_same, ?_⟩⟩
    have ek : ((p.map V.int).length : Int) + ((q.map V.int).length : Int) - 1 = ((p.length + q.length - 1 : Nat) : Int) := by rw [List.length_map, List.length_map]; omega
    rw [ek]
    refine ⟨by omega, by omega, by rw [Int.toNat_natCast]; show 1 * _ ≤ _; rw [Nat.one_mul]; exact sz _ (by omega), fun F nF => ?_⟩
    rw [Int.toNat_natCast, zeros_flat]
    have nFH : H F = none := fresh_back (e1.trans (Ex.new nz0)) nF
    have e2 : Ex H (upd (upd H1 z0 (.lst [.int 0])) F (.lst ((List.replicate (p.length + q.length - 1) (0 : Int)).map V.int))) := (e1.trans (Ex.new nz0)).trans (Ex.new nF)
    refine ⟨_, rfl, a, _, rfl, .inl (ex_t e2 hA), _, rfl, by omega, by rw [List.length_map]; omega, ?_⟩
    rw [List.length_map, Int.toNat_natCast]
    refine for_range (fun i σ H' => Ex H H' ∧ ∃ (y3 y4 : Option V) (fl : List Int), σ = [some (.ref a), some (.ref b), some (.ref F), y3, y4] ∧ H' F = some (.lst (fl.map V.int)) ∧ fl.length = p.length + q.length - 1 ∧ ∀ k, co fl k = co (mulL (p.take i) q) k)
      ⟨e2, none, none, _, rfl, upd_same, by simp, fun k => ?_⟩ (fun i σ H' hi h => ?_) (fun σ H' h => ?_)
    · rw [List.take_zero, co_mulL_nil]
      by_cases hk : k < p.length + q.length - 1
      · exact co_get (by rw [List.getElem?_replicate, if_pos hk])
      · exact co_out (by simp; omega)
    · obtain ⟨e3, y3, y4, fl, rfl, hFl, hfl, hco⟩ := h
      rw [Int.zero_add]
      refine ⟨_, rfl, b, _, rfl, .inl (ex_t e3 hB), _, rfl, by omega, by rw [List.length_map]; omega, ?_⟩
      rw [List.length_map, Int.toNat_natCast]
      refine for_range (fun j σ H' => Ex H H' ∧ ∃ (y4 : Option V) (fl : List Int), σ = [some (.ref a), some (.ref b), some (.ref F), some (.int (i : Nat)), y4] ∧ H' F = some (.lst (fl.map V.int)) ∧ fl.length = p.length + q.length - 1 ∧ ∀ k, co fl k = co (mulL (p.take i) q) k + (if i ≤ k ∧ k < i + j then co p i * co q (k - i) else 0))
        ⟨e3, y4, fl, rfl, hFl, hfl, fun k => by rw [hco, if_neg (by omega), Int.add_zero]⟩ (fun j σ H' hj h => ?_) (fun σ H' h => ?_)
      · obtain ⟨e5, y4, gl, rfl, hGl, hgl, hgo⟩ := h
        rw [Int.zero_add]
        refine ⟨_, rfl, _, rfl, _, rfl, _, _, rfl, rfl, F, gl.map V.int, _, .int (co gl (i + j)), rfl, rfl, .inr (sq_of hGl), by rw [← Int.natCast_add]; exact atI_ints (by omega), ?_⟩
        refine ⟨_, rfl, _, rfl, a, _, _, .int (co p i), rfl, rfl, .inl (ex_t e5 hA), atI_ints hi, _, rfl, _, rfl, b, _, _, .int (co q j), rfl, rfl, .inl (ex_t e5 hB), atI_ints hj, _, _, rfl, rfl, hc i j, _, _, rfl, rfl, ?_⟩
        refine ⟨_, rfl, _, rfl, _, rfl, _, _, rfl, rfl, F, gl.map V.int, i + j, rfl, by rw [Int.natCast_add], hGl, by rw [List.length_map]; omega, ?_⟩
        have es : (gl.map V.int).set (i + j) (.int (co gl (i + j) + co p i * co q j)) = (gl.set (i + j) (co gl (i + j) + co p i * co q j)).map V.int := by rw [List.map_set]
        refine ⟨Ex.mut e5 nFH, _, gl.set (i + j) (co gl (i + j) + co p i * co q j), rfl, by rw [upd_same, es], by rw [List.length_set]; exact hgl, fun k => ?_⟩
        rw [co_set (by omega)]
        by_cases hk : k = i + j
        · subst hk
          rw [if_pos rfl, hgo (i + j), if_neg (by omega), if_pos (by omega), show i + j - i = j by omega]
          omega
        · rw [if_neg hk, hgo k]
          by_cases h2 : i ≤ k ∧ k < i + j
          · rw [if_pos h2, if_pos (by omega)]
          · rw [if_neg h2, if_neg (by omega)]
      · obtain ⟨e5, y4, gl, rfl, hGl, hgl, hgo⟩ := h
        exact ⟨e5, _, _, gl, rfl, hGl, hgl, fun k => by rw [hgo, row_end hi]⟩
    · obtain ⟨e3, y3, y4, fl, rfl, hFl, hfl, hco⟩ := h
      refine ⟨_, rfl, F, fl, rfl, by omega, .inr (sq_of hFl), fun v H2 e4 hv => k v H2 (e3.trans e4) ?_⟩
      have et : trim fl = times p q := by
        unfold times
        rw [if_neg (fun z => z.elim hp hq)]
        refine trim_ext fun k => ?_
        rw [hco, List.take_length]
      rw [et] at hv
      exact hv

/-! ### _law_plus -/
abbrev sLPlus : Stmt := topS 76
abbrev nLPlus : List Str := ["_law_one", "_law_other", "_law_many", "_law_first", "_law_second", "_law_at"]
theorem scLPlus : FnScope nLPlus ["_law_one", "_law_other"] (defScope sLPlus) := ⟨rfl, rfl, rfl, by decide +kernel, rfl, by decide +kernel, by decide +kernel⟩
theorem ok_lplus (D : DefAt K mg "_law_plus" sLPlus ["_law_one", "_law_other"]) (G : Gl0 mg base) (T : Cal w K mg base 41 "_law_trim" ["_law_some"] (spLTrim K)) : Cal w K mg base 42 "_law_plus" ["_law_one", "_law_other"] (sp2 K plus) := by
  refine Cal.mk D scLPlus (fun vs H Q E h => ?_) (fun f cdv A outer s H vs Q E hr h => ?_)
  · obtain ⟨x, y, p, q, rfl, _⟩ := h
    rfl
  · obtain ⟨x, y, p, q, rfl, ⟨a, rfl, hA⟩, ⟨b, rfl, hB⟩, l1, l2, k⟩ := h
    refine ⟨_, pss_cons (ps_set (i := 2) scLPlus.nd rfl (.inl rfl) (pe_callB (call_max2 rfl) (by rfl) G.max (by decide +kernel) (pa_cons (pe_len G.len (pv 0)) (pa_cons (pe_len G.len (pv 1)) pa_nil))))
      (pss_cons (ps_asg (pe_tup (pa_cons (pe_op op_cat (pe_list G.list (pv 0)) (pe_op op_rep (pe_lst (pa_cons pe_int pa_nil)) (pe_op op_sub (pv 2) (pe_len G.len (pv 0))))) (pa_cons (pe_op op_cat (pe_list G.list (pv 1)) (pe_op op_rep (pe_lst (pa_cons pe_int pa_nil)) (pe_op op_sub (pv 2) (pe_len G.len (pv 1))))) pa_nil)))
        (pg_tup rfl (pgs_cons (pg_name (i := 3) scLPlus.nd rfl (.inr rfl)) (pgs_cons (pg_name (i := 4) scLPlus.nd rfl (.inr rfl)) pgs_nil))))
      (pss_one (ps_ret (pe_callC rfl T hr (by decide) (pa_cons (pe_lc (own := [("_law_at", 5)]) (g := gName 5) (tt := tYes) rfl scLPlus.nd (pi_range1 (by rfl) G.range (pa_cons (pv 2) pa_nil)) (blkOk_by (N := nLPlus) (sc := defScope sLPlus) (by decide +kernel))
          (fun _ _ _ _ _ => pg_name (i := 5) scLPlus.nd rfl (.inl rfl)) (fun _ _ _ _ _ => pts_nil) (fun _ _ _ _ _ => pe_op op_add (show PE _ _ (tOp (rIxQ K) (tVar 3) (tVar 5)) from pe_at (pv 3) (pv 5)) (show PE _ _ (tOp (rIxQ K) (tVar 4) (tVar 5)) from pe_at (pv 4) (pv 5)))) pa_nil))))), ?_⟩
    have sz : ∀ m, m ≤ 100000 → m ≤ sizeLine := fun m h => sz_of h
    refine ⟨_, rfl, a, _, rfl, .inl hA, _, rfl, b, _, rfl, .inl hB, _, _, rfl, ?_⟩
    obtain ⟨n, hn, hn1, hn2, hn3⟩ : ∃ n : Nat, (if ((q.map V.int).length : Int) > ((p.map V.int).length : Int) then ((q.map V.int).length : Int) else ((p.map V.int).length : Int)) = (n : Int) ∧ p.length ≤ n ∧ q.length ≤ n ∧ n ≤ 1000 := by
      simp only [List.length_map]
      by_cases h : (q.length : Int) > (p.length : Int)
      · exact ⟨q.length, by rw [if_pos h], by omega, by omega, l2⟩
      · exact ⟨p.length, by rw [if_neg h], by omega, by omega, l1⟩
    rw [hn]
    -- one side
    refine ⟨_, rfl, a, _, rfl, .inr hA, fun R1 nR1 => ⟨sz 1 (by decide), fun z0 nz0 => ⟨_, rfl, _, rfl, a, _, rfl, .inl (ex_t ((Ex.new nR1).trans (Ex.new nz0)) hA), _, _, rfl, rfl, z0, _, _, rfl, rfl, upd_same, ?_⟩⟩⟩
    have ek : (n : Int) - ((p.map V.int).length : Int) = ((n - p.length : Nat) : Int) := by rw [List.length_map]; omega
    rw [ek]
    refine ⟨by omega, by omega, by rw [Int.toNat_natCast]; show 1 * _ ≤ _; rw [Nat.one_mul]; exact sz _ (by omega), fun p1 np1 => ?_⟩
    rw [Int.toNat_natCast]
    have hz1 : (upd (upd H R1 (.lst (p.map V.int))) z0 (.lst [.int 0])) R1 = some (.lst (p.map V.int)) := by rw [upd_ne (ne_of_none (o := .lst (p.map V.int)) upd_same nz0), upd_same]
    have e1 : Ex H (upd (upd H R1 (.lst (p.map V.int))) z0 (.lst [.int 0])) := (Ex.new nR1).trans (Ex.new nz0)
    change (upd (upd H R1 (.lst (p.map V.int))) z0 (.lst [.int 0])) p1 = none at np1
    generalize upd (upd H R1 (.lst (p.map V.int))) z0 (.lst [.int 0]) = H1 at hz1 e1 np1
    refine ⟨R1, p1, _, _, rfl, rfl, by rw [upd_ne (ne_of_none hz1 np1)]; exact hz1, upd_same, ?_, fun F nF => ?_⟩
    · have := pad_len hn1
      rw [List.length_append] at this
      rw [this]; exact sz _ (by omega)
    have e2 : Ex H (upd (upd H1 p1 (.lst (List.replicate (n - p.length) [V.int 0]).flatten)) F (.lst (p.map V.int ++ (List.replicate (n - p.length) [V.int 0]).flatten))) := (e1.trans (Ex.new np1)).trans (Ex.new nF)
    have hF : (upd (upd H1 p1 (.lst (List.replicate (n - p.length) [V.int 0]).flatten)) F (.lst (p.map V.int ++ (List.replicate (n - p.length) [V.int 0]).flatten))) F = some (.lst (p.map V.int ++ (List.replicate (n - p.length) [V.int 0]).flatten)) := upd_same
    generalize upd (upd H1 p1 (.lst (List.replicate (n - p.length) [V.int 0]).flatten)) F (.lst (p.map V.int ++ (List.replicate (n - p.length) [V.int 0]).flatten)) = H2 at e2 hF
    -- the other
    refine ⟨_, rfl, b, _, rfl, .inr (ex_t e2 hB), fun R2 nR2 => ⟨sz 1 (by decide), fun z1 nz1 => ⟨_, rfl, _, rfl, b, _, rfl, .inl (ex_t ((e2.trans (Ex.new nR2)).trans (Ex.new nz1)) hB), _, _, rfl, rfl, z1, _, _, rfl, rfl, upd_same, ?_⟩⟩⟩
    have ek2 : (n : Int) - ((q.map V.int).length : Int) = ((n - q.length : Nat) : Int) := by rw [List.length_map]; omega
    rw [ek2]
    refine ⟨by omega, by omega, by rw [Int.toNat_natCast]; show 1 * _ ≤ _; rw [Nat.one_mul]; exact sz _ (by omega), fun p2 np2 => ?_⟩
    rw [Int.toNat_natCast]
    have hz2 : (upd (upd H2 R2 (.lst (q.map V.int))) z1 (.lst [.int 0])) R2 = some (.lst (q.map V.int)) := by rw [upd_ne (ne_of_none (o := .lst (q.map V.int)) upd_same nz1), upd_same]
    have e3 : Ex H2 (upd (upd H2 R2 (.lst (q.map V.int))) z1 (.lst [.int 0])) := (Ex.new nR2).trans (Ex.new nz1)
    change (upd (upd H2 R2 (.lst (q.map V.int))) z1 (.lst [.int 0])) p2 = none at np2
    generalize upd (upd H2 R2 (.lst (q.map V.int))) z1 (.lst [.int 0]) = H3 at hz2 e3 np2
    refine ⟨R2, p2, _, _, rfl, rfl, by rw [upd_ne (ne_of_none hz2 np2)]; exact hz2, upd_same, ?_, fun S nS => ?_⟩
    · have := pad_len hn2
      rw [List.length_append] at this
      rw [this]; exact sz _ (by omega)
    have e4 : Ex H2 (upd (upd H3 p2 (.lst (List.replicate (n - q.length) [V.int 0]).flatten)) S (.lst (q.map V.int ++ (List.replicate (n - q.length) [V.int 0]).flatten))) := (e3.trans (Ex.new np2)).trans (Ex.new nS)
    have hS : (upd (upd H3 p2 (.lst (List.replicate (n - q.length) [V.int 0]).flatten)) S (.lst (q.map V.int ++ (List.replicate (n - q.length) [V.int 0]).flatten))) S = some (.lst (q.map V.int ++ (List.replicate (n - q.length) [V.int 0]).flatten)) := upd_same
    generalize upd (upd H3 p2 (.lst (List.replicate (n - q.length) [V.int 0]).flatten)) S (.lst (q.map V.int ++ (List.replicate (n - q.length) [V.int 0]).flatten)) = H4 at e4 hS
    refine ⟨sz2, fun T0 nT0 => ⟨T0, _, rfl, st_of upd_same, rfl, _, _, rfl, _, _, rfl, rfl, ?_⟩⟩
    have e5 : Ex H4 (upd H4 T0 (.tup [.ref F, .ref S])) := Ex.new nT0
    generalize upd H4 T0 (.tup [.ref F, .ref S]) = H5 at e5
    have hF5 := (e4.trans e5) _ _ hF
    have hS5 := e5 _ _ hS
    refine ⟨_, rfl, _, rfl, by omega, by omega, fun D hD => ?_⟩
    rw [Int.toNat_natCast]
    refine lc_out n (fun i => .int (co p i + co q i)) (by omega) hD (fun i H' hi e => hi) (fun H' e => Nat.le_refl _) (fun i H' x H2' hi e y => ?_) gName_mono (fun H' e hl => ?_)
    · obtain ⟨rfl, rfl⟩ := y
      refine ⟨rfl, fun R hR => ?_⟩
      rw [Int.zero_add]
      exact ⟨_, rfl, _, rfl, F, _, _, .int (co p i), rfl, rfl, .inr (sq_of (e _ _ hF5)), atI_nat (pad_get hi hn1), _, rfl, _, rfl, S, _, _, .int (co q i), rfl, rfl, .inr (sq_of (e _ _ hS5)), atI_nat (pad_get hi hn2), _, _, rfl, rfl, hR _ (Ex.refl _)⟩
    · refine ⟨D, (List.range n).map fun i => co p i + co q i, rfl, by simp; omega, .inr ?_, fun v H2' e6 hv => ?_⟩
      · rw [List.map_map]
        exact sq_of hl
      · rw [plus_range hn1 hn2] at hv
        exact k v H2' ((((e2.trans e4).trans e5).trans e).trans e6) hv

/-! ### _law_flip, _law_gap -/
abbrev sLFlip : Stmt := topS 82
abbrev nLFlip : List Str := ["_law_one", "_law_at"]
theorem scLFlip : FnScope nLFlip ["_law_one"] (defScope sLFlip) := ⟨rfl, rfl, rfl, by decide +kernel, rfl, by decide +kernel, by decide +kernel⟩
theorem ok_lflip (D : DefAt K mg "_law_flip" sLFlip ["_law_one"]) (G : Gl0 mg base) : Cal w K mg base 41 "_law_flip" ["_law_one"] (sp1 K flp) := by
  refine Cal.mk D scLFlip (fun vs H Q E h => ?_) (fun f cdv A outer s H vs Q E hr h => ?_)
  · obtain ⟨x, p, rfl, _⟩ := h
    rfl
  · obtain ⟨x, p, rfl, ⟨a, rfl, hA⟩, l1, k⟩ := h
    refine ⟨_, pss_one (ps_ret (pe_tuple G.tuple (pe_lc (own := [("_law_at", 1)]) (g := gName 1) (tt := tYes) rfl scLFlip.nd (pi_range1 (by rfl) G.range (pa_cons (pe_len G.len (pv 0)) pa_nil)) (blkOk_by (N := nLFlip) (sc := defScope sLFlip) (by decide +kernel))
          (fun _ _ _ _ _ => pg_name (i := 1) scLFlip.nd rfl (.inl rfl)) (fun _ _ _ _ _ => pts_nil)
          (fun _ _ _ _ _ => pe_ifExp (pt_cmpR op_eq (pe_op op_mod (pe_callTy call_int1 (by rfl) G.int (by decide +kernel) (pa_cons (pv 1) pa_nil)) pe_int) pe_int (nomark _)) (show PE _ _ (tOp (rIxQ K) (tVar 0) (tVar 1)) from pe_at (pv 0) (pv 1)) (pe_un un_neg (show PE _ _ (tOp (rIxQ K) (tVar 0) (tVar 1)) from pe_at (pv 0) (pv 1))))))), ?_⟩
    refine ⟨_, rfl, a, _, rfl, .inl hA, _, rfl, by omega, by rw [List.length_map]; omega, fun D hD => ?_⟩
    rw [List.length_map, Int.toNat_natCast]
    refine lc_out p.length (fun i => .int (if i % 2 = 0 then co p i else -co p i)) (by omega) hD (fun i H' hi e => hi) (fun H' e => Nat.le_refl _) (fun i H' x H2 hi e y => ?_) gName_mono (fun H' e hl => ?_)
    · obtain ⟨rfl, rfl⟩ := y
      refine ⟨rfl, fun R hR => ?_⟩
      rw [Int.zero_add]
      refine ⟨_, rfl, .inl ⟨_, rfl, _, _, rfl, rfl, (by show (0 : Int) < 2; decide), rfl, _, rfl, ?_⟩⟩
      by_cases h2 : i % 2 = 0
      · rw [decide_eq_true (congrArg V.int (show (i : Int) % 2 = 0 by omega))]
        rw [if_pos h2] at hR
        exact iteT ⟨_, rfl, _, rfl, a, _, _, .int (co p i), rfl, rfl, .inl (ex_t e hA), atI_ints hi, hR _ (Ex.refl _)⟩
      · rw [decide_eq_false (fun z => h2 (by have := V.int.inj z; omega))]
        rw [if_neg h2] at hR
        exact iteF ⟨_, rfl, _, rfl, a, _, _, .int (co p i), rfl, rfl, .inl (ex_t e hA), atI_ints hi, _, rfl, hR _ (Ex.refl _)⟩
    · exact ⟨D, (flp p).map V.int, rfl, .inr (sq_ints hl), fun a2 H2 e4 hv => k _ H2 (e.trans e4) ⟨a2, rfl, hv⟩⟩
abbrev sLGap : Stmt := topS 83
abbrev nLGap : List Str := ["_law_left", "_law_echo", "_law_other", "_law_number"]
theorem scLGap : FnScope nLGap ["_law_left", "_law_echo"] (defScope sLGap) := ⟨rfl, rfl, rfl, by decide +kernel, rfl, by decide +kernel, by decide +kernel⟩
def ngV (p : List Int) : List Int := (List.range p.length).map fun i => -co p i
theorem co_ngV (p : List Int) (i : Nat) : co (ngV p) i = -co p i := by
  unfold ngV
  rw [co_rangeP]
  by_cases h : i < p.length
  · rw [if_pos h]
  · rw [if_neg h, co_out (by omega)]; rfl
theorem ngV_len (p : List Int) : (ngV p).length = p.length := by simp [ngV]
theorem ok_lgap (D : DefAt K mg "_law_gap" sLGap ["_law_left", "_law_echo"]) (G : Gl0 mg base) (Ct : Cal w K mg base 42 "_law_times" ["_law_one", "_law_other"] (spTimes K)) (Cp : Cal w K mg base 42 "_law_plus" ["_law_one", "_law_other"] (sp2 K plus)) (Cf : Cal w K mg base 41 "_law_flip" ["_law_one"] (sp1 K flp)) :
    Cal w K mg base 43 "_law_gap" ["_law_left", "_law_echo"] (spDiff K) := by
  refine Cal.mk D scLGap (fun vs H Q E h => ?_) (fun f cdv A outer s H vs Q E hr h => ?_)
  · obtain ⟨x, y, L, E, rfl, _⟩ := h
    rfl
  · obtain ⟨x, y, L, E, rfl, hL, hE, oL, oE, k⟩ := h
    refine ⟨_, pss_cons (ps_set (i := 2) scLGap.nd rfl (.inl rfl) (pe_tuple G.tuple (pe_lc (own := [("_law_number", 3)]) (g := gName 3) (tt := tYes) rfl scLGap.nd (pi_tup (pe_callC rfl Ct hr (by decide) (pa_cons (pv 1) (pa_cons (pe_callC rfl Cf hr (by decide) (pa_cons (pv 1) pa_nil)) pa_nil)))) (blkOk_by (N := nLGap) (sc := defScope sLGap) (by decide +kernel))
          (fun _ _ _ _ _ => pg_name (i := 3) scLGap.nd rfl (.inl rfl)) (fun _ _ _ _ _ => pts_nil) (fun _ _ _ _ _ => pe_un un_neg (pv 3)))))
      (pss_one (ps_ret (pe_callC rfl Cp hr (by decide) (pa_cons (pe_callC rfl Ct hr (by decide) (pa_cons (pv 0) (pa_cons (pe_callC rfl Cf hr (by decide) (pa_cons (pv 0) pa_nil)) pa_nil))) (pa_cons (pv 2) pa_nil))))), ?_⟩
    have l1 := oL.2.1
    have l2 := oE.2.1
    refine ⟨_, rfl, _, rfl, y, E, rfl, hE, by omega, fun v1 H1 e1 hv1 => ⟨y, v1, E, flp E, rfl, hE.ex e1, hv1, by omega, by rw [flp_len]; omega, cmul_co oE.n oE.nf (by decide), fun v2 H2 e2 hv2 => ?_⟩⟩
    have t1 := times_len (p := L) (q := flp L) (n := 20) (by rw [flp_len]; omega)
    have t2 := times_len (p := E) (q := flp E) (n := 20) (by rw [flp_len]; omega)
    obtain ⟨ta, rfl, hta⟩ := hv2
    refine ⟨ta, rfl, ⟨_, hta⟩, fun D hD => ?_⟩
    refine lc_out (times E (flp E)).length (fun i => .int (-co (times E (flp E)) i)) (by omega) hD (fun i H' hi e => ⟨_, _, ex_t e hta, ints_at hi⟩) (fun H' e => ⟨_, ex_t e hta, by rw [List.length_map]; exact Nat.le_refl _⟩) (fun i H' x H2 hi e y => ?_) gName_mono (fun H3 e3 hl => ?_)
    · obtain ⟨rfl, fx⟩ := y
      have ex := Option.some.inj ((fx _ (ex_t e hta)).symm.trans (ints_at hi))
      subst ex
      exact ⟨rfl, fun R hR => ⟨_, rfl, _, rfl, hR _ (Ex.refl _)⟩⟩
    · refine ⟨D, (ngV (times E (flp E))).map V.int, rfl, .inr (sq_ints hl), fun ov H4 e4 hov => ?_⟩
      have e14 := ((e1.trans e2).trans e3).trans e4
      refine ⟨_, rfl, _, rfl, x, L, rfl, hL.ex e14, by omega, fun v5 H5 e5 hv5 => ⟨x, v5, L, flp L, rfl, hL.ex (e14.trans e5), hv5, by omega, by rw [flp_len]; omega, cmul_co oL.n oL.nf (by decide), fun v6 H6 e6 hv6 => ?_⟩⟩
      refine ⟨_, rfl, v6, _, _, ngV (times E (flp E)), rfl, hv6, PolyV.ex (H := H4) ⟨ov, rfl, hov⟩ (e5.trans e6), by omega, by rw [ngV_len]; omega, fun v7 H7 e7 hv7 => k v7 H7 (((e14.trans e5).trans e6).trans e7) ?_⟩
      have e : plus (times L (flp L)) (ngV (times E (flp E))) = gapP L E := by
        unfold gapP minus
        refine tr_ext (tr_plus _ _) (tr_plus _ _) fun i => ?_
        rw [co_plus, co_plus, co_scal, co_ngV]; omega
      rw [← e]
      exact hv7

/-! ### _law_shared, _law_ratio -/
abbrev sLShared : Stmt := topS 77
abbrev nLShared : List Str := ["_law_one", "_law_other", "_law_turn"]
theorem scLShared : FnScope nLShared ["_law_one", "_law_other"] (defScope sLShared) := ⟨rfl, rfl, rfl, by decide +kernel, rfl, by decide +kernel, by decide +kernel⟩
def spLShared : Sp := fun vs H Q _ => ∃ (a b : Nat), vs = [.int (a : Nat), .int (b : Nat)] ∧ b < 1000 ∧ Q (.int (Nat.gcd a b : Nat)) H
theorem ok_lshared (D : DefAt K mg "_law_shared" sLShared ["_law_one", "_law_other"]) (G : Gl0 mg base) : Cal w K mg base 41 "_law_shared" ["_law_one", "_law_other"] spLShared := by
  refine Cal.mk D scLShared (fun vs H Q E h => ?_) (fun f cdv A outer s H vs Q E hr h => ?_)
  · obtain ⟨a, b, rfl, _⟩ := h
    rfl
  · obtain ⟨a, b, rfl, hb, k⟩ := h
    refine ⟨_, pss_cons (ps_par (i := 0) (j := 1) rfl scLShared.nd rfl rfl (by decide) rfl rfl (pa_cons (pe_callB call_abs (by rfl) G.abs (by decide +kernel) (pa_cons (pv 0) pa_nil)) (pa_cons (pe_callB call_abs (by rfl) G.abs (by decide +kernel) (pa_cons (pv 1) pa_nil)) pa_nil)) (by rfl))
      (pss_cons (ps_for PassesOwn.never rfl (pi_range1 (by rfl) G.range (pa_cons pe_int pa_nil)) (pg_name (i := 2) scLShared.nd rfl (.inl rfl))
        (pss_cons (ps_if (pt_cmpR op_eq (pv 1) pe_int (nomark _)) (pss_one ps_break) pss_nil)
        (pss_one (ps_par (i := 0) (j := 1) rfl scLShared.nd rfl rfl (by decide) rfl rfl (pa_cons (pv 1) (pa_cons (pe_op op_mod (pe_callTy call_int1 (by rfl) G.int (by decide +kernel) (pa_cons (pv 0) pa_nil)) (pv 1)) pa_nil)) (by rfl)))))
      (pss_one (ps_ret (pv 0)))), ?_⟩
    have ab : ∀ n : Nat, (if ((n : Nat) : Int) < 0 then -((n : Nat) : Int) else ((n : Nat) : Int)) = (n : Int) := fun n => if_neg (by omega)
    refine ⟨_, rfl, _, rfl, _, rfl, _, rfl, _, _, rfl, ?_⟩
    rw [ab, ab]
    refine ⟨_, rfl, by decide, by decide, ?_⟩
    refine for_range (fun i σ H' => H' = H ∧ ∃ (x y : Nat) (t : Option V), σ = [some (.int (x : Nat)), some (.int (y : Nat)), t] ∧ Nat.gcd x y = Nat.gcd a b ∧ (y + i ≤ b ∨ y = 0)) ⟨rfl, a, b, none, rfl, rfl, .inl (Nat.le_refl _)⟩ (fun i σ H' hi h => ?_) (fun σ H' h => ?_)
    · obtain ⟨rfl, x, y, t, rfl, hg, hy⟩ := h
      refine ⟨_, rfl, rfl, _, rfl, ?_⟩
      by_cases hy0 : y = 0
      · subst hy0
        rw [decide_eq_true (congrArg V.int (show ((0 : Nat) : Int) = 0 from rfl))]
        refine iteT ⟨_, rfl, ?_⟩
        rw [← hg, Nat.gcd_zero_right] at k
        exact k
      · rw [decide_eq_false (fun z => hy0 (by have := V.int.inj z; omega))]
        refine iteF ⟨_, rfl, _, rfl, .inl ⟨_, rfl, _, rfl, _, _, rfl, rfl, (by show (0 : Int) < (y : Int); omega), _, _, rfl, rfl, y, x % y, some (.int (0 + (i : Nat))), ?_, ?_, ?_⟩⟩
        · rw [Int.natCast_emod]; rfl
        · rw [← hg, Nat.gcd_comm y, ← Nat.gcd_rec, Nat.gcd_comm]
        · have := Nat.mod_lt x (Nat.pos_of_ne_zero hy0)
          omega
    · obtain ⟨rfl, x, y, t, rfl, hg, hy⟩ := h
      have hy0 : y = 0 := by
        have e : (Int.toNat 2000) = 2000 := rfl
        rw [e] at hy
        omega
      subst hy0
      refine ⟨_, rfl, ?_⟩
      rw [← hg, Nat.gcd_zero_right] at k
      exact k
abbrev sLRatio : Stmt := topS 78
abbrev nLRatio : List Str := ["_law_top", "_law_bottom", "_law_shared_here"]
theorem scLRatio : FnScope nLRatio ["_law_top", "_law_bottom"] (defScope sLRatio) := ⟨rfl, rfl, rfl, by decide +kernel, rfl, by decide +kernel, by decide +kernel⟩
def spLRatio (K : PySem.W.Frag) : Sp := fun vs H Q _ => ∃ (a b : Nat), vs = [.int (a : Nat), .int (b : Nat)] ∧ 0 < a ∧ 0 < b ∧ b < 1000 ∧ GoRat K H Q a b
theorem ok_lratio (D : DefAt K mg "_law_ratio" sLRatio ["_law_top", "_law_bottom"]) (G : Gl0 mg base) (Cs : Cal w K mg base 41 "_law_shared" ["_law_one", "_law_other"] spLShared) : Cal w K mg base 42 "_law_ratio" ["_law_top", "_law_bottom"] (spLRatio K) := by
  refine Cal.mk D scLRatio (fun vs H Q E h => ?_) (fun f cdv A outer s H vs Q E hr h => ?_)
  · obtain ⟨a, b, rfl, _⟩ := h
    rfl
  · obtain ⟨a, b, rfl, ha, hb, hb2, k⟩ := h
    have S := sees_of (w := w) (K := K) (mg := mg) (base := base) (N := nLRatio) (outer := outer) (H := H) (E := E) G.seer hr (by decide) rfl rfl
    refine ⟨_, pss_cons (ps_set (i := 2) scLRatio.nd rfl (.inl rfl) (pe_callC rfl Cs hr (by decide) (pa_cons (pv 0) (pa_cons (pv 1) pa_nil))))
      (pss_cons (ps_if (pt_cmpR op_lt (pv 1) pe_int (nomark _)) (pss_one (ps_set (i := 2) scLRatio.nd rfl (.inl rfl) (pe_un un_neg (pv 2)))) pss_nil)
      (pss_one (ps_ret (pe_tup (pa_cons (pe_op (op_fdivA S) (pv 0) (pv 2)) (pa_cons (pe_op (op_fdivA S) (pv 1) (pv 2)) pa_nil)))))), ?_⟩
    obtain ⟨g, hg0, hg, h1, h2, h3, h4, h5, h6⟩ := ratio_math (a := (a : Int)) (b := (b : Int)) (Int.mul_pos (by omega) (by omega))
    rw [if_neg (by omega)] at hg
    have hgg : Int.gcd (a : Int) (b : Int) = Nat.gcd a b := by simp [Int.gcd]
    rw [hgg] at hg
    refine ⟨_, rfl, _, rfl, a, b, rfl, hb2, _, rfl, _, _, rfl, rfl, _, rfl, ?_⟩
    rw [decide_eq_false (show ¬ (b : Int) < 0 by omega)]
    rw [← hg]
    exact iteF ⟨_, rfl, _, rfl, _, _, rfl, rfl, hg0, _, rfl, _, rfl, _, _, rfl, rfl, hg0, sz2, fun t nt => k _ _ _ _ (Ex.new nt) ⟨t, rfl, st_of upd_same⟩ h1 h2 h3 h4 h5 h6⟩
end
end Kf
end

section
set_option Elab.async false
set_option linter.all false
set_option maxRecDepth 100000
set_option maxHeartbeats 4000000
namespace Kf
open PySem PySem.Spec PyProof.Rows L2 Lx Evl Pm RZ StX

/-! ### all stays but the row -/
def Rk (R : Addr) (H H' : Hp) : Prop := ∀ a o, a ≠ R → H a = some o → H' a = some o
section
variable {K : PySem.W.Frag} {R : Addr} {S0 : Addr × List Int} {H H' H2 : Hp}
theorem Rk.of (e : Ex H H') : Rk R H H' := fun a o _ h => e a o h
theorem Rk.refl : Rk R H H := fun _ _ _ h => h
theorem Rk.trans (h1 : Rk R H H') (h2 : Rk R H' H2) : Rk R H H2 := fun a o n h => h2 a o n (h1 a o n h)
theorem Rk.mut {o : HO} : Rk R H (upd H R o) := fun a o' n h => by rw [upd_ne n]; exact h
abbrev Scr := Addr × List Int
def RowV (K : PySem.W.Frag) (H : Hp) (R : Addr) (S0 : Scr) : Prop := ∃ (p st ca : Int), H R = some (.lst [.ref S0.1, .int p, .int st, .int ca]) ∧ SqL K H S0.1 (S0.2.map V.int) ∧ 0 ≤ p ∧ 0 ≤ st ∧ st < 2147483647
theorem RowV.lst (h : RowV K H R S0) : ∃ ys, H R = some (.lst ys) := let ⟨_, _, _, h, _⟩ := h; ⟨_, h⟩
theorem RowV.ex (h : RowV K H R S0) (e : Ex H H') : RowV K H' R S0 := let ⟨p, st, ca, h1, h2, h3⟩ := h; ⟨p, st, ca, e _ _ h1, ex_l e h2, h3⟩
theorem RowV.new {a : Addr} (h : RowV K H R S0) (n : H a = none) : a ≠ R := fun z => by
  obtain ⟨ys, hy⟩ := h.lst
  rw [z, hy] at n
  cases n
theorem Rk.tk (r : RowV K H R S0) (h : Rk R H H') : TK K H H' := fun a xs hs => by
  obtain ⟨ys, hy⟩ := r.lst
  rcases hs with (hs | ⟨ob, hs⟩) | hs
  · exact .inl (.inl (h a _ (fun z => by rw [z, hy] at hs; cases hs) hs))
  · exact .inl (.inr ⟨ob, h a _ (fun z => by rw [z, hy] at hs; cases hs) hs⟩)
  · exact .inr hs
theorem Rk.mut2 {D : Addr} {o : HO} (h : Rk R H H') (n : H D = none) : Rk R H (upd H' D o) := fun a o' hn ha => by
  rw [upd_ne (fun z => by rw [z, n] at ha; cases ha)]
  exact h a o' hn ha
theorem RowV.mut2 {D : Addr} {o : HO} (r0 : RowV K H R S0) (n : H D = none) (r : RowV K H' R S0) : RowV K (upd H' D o) R S0 := by
  obtain ⟨p, st, ca, h1, h2, h3⟩ := r
  refine ⟨p, st, ca, by rw [upd_ne (fun z => r0.new n z.symm)]; exact h1, ?_, h3⟩
  obtain ⟨_, _, _, _, q2, _⟩ := r0
  rcases q2 with q2 | q2
  · have hne : S0.1 ≠ D := fun z => by
      rcases q2 with q2 | ⟨ob, q2⟩ <;> rw [z, n] at q2 <;> cases q2
    rcases h2 with (h2 | ⟨ob, h2⟩) | h2
    · exact .inl (.inl (by rw [upd_ne hne]; exact h2))
    · exact .inl (.inr ⟨ob, by rw [upd_ne hne]; exact h2⟩)
    · exact .inr h2
  · exact .inr q2
/-- the script's list is not the row -/
theorem script_mut {sa : Addr} {cells : List Int} {ys : List V} {o : HO} (hR : H R = some (.lst (.ref sa :: ys))) (h : SqL K H sa (cells.map V.int)) : SqL K (upd H R o) sa (cells.map V.int) := by
  have key : ∀ {xs : List V}, xs = .ref sa :: ys → xs ≠ cells.map V.int := fun {xs} e z => by
    rw [e] at z
    cases cells with
    | nil => cases z
    | cons c cs => cases z
  rcases h with (h | ⟨ob, h⟩) | h
  · refine .inl (.inl ?_)
    rw [upd_ne (fun z => ?_)]
    · exact h
    · rw [z, hR] at h
      exact key rfl (by injection h with h; injection h)
  · refine .inl (.inr ⟨ob, ?_⟩)
    rw [upd_ne (fun z => by rw [z, hR] at h; cases h)]
    exact h
  · exact .inr h
end
section
variable {w : World} {K : PySem.W.Frag} {mg : Str → Option Value} {base : Heap}
abbrev sTaken : Stmt := topS 72
abbrev nTaken : List Str := ["_law_row", "_law_many", "_law_found", "_law_cell"]
theorem scTaken : FnScope nTaken ["_law_row", "_law_many"] (defScope sTaken) := ⟨rfl, rfl, rfl, by decide +kernel, rfl, by decide +kernel, by decide +kernel⟩
def spTaken (K : PySem.W.Frag) : Sp := fun vs H Q _ => ∃ (R : Addr) (S0 : Scr) (many : Nat), vs = [.ref R, .int (many : Nat)] ∧ RowV K H R S0 ∧ 0 < many ∧ ∀ (r : Nat) H', r < many → Rk R H H' → RowV K H' R S0 → Q (.int (r : Nat)) H'
theorem mod_nat {i : Int} {m : Nat} (h : 0 < m) : ∃ r : Nat, r < m ∧ i % (m : Int) = (r : Int) := by
  have h1 := Int.emod_nonneg i (show (m : Int) ≠ 0 by omega)
  have h2 := Int.emod_lt_of_pos i (show (0 : Int) < (m : Int) by omega)
  exact ⟨(i % (m : Int)).toNat, by omega, by omega⟩
theorem cm_st {st : Int} (h0 : 0 ≤ st) (h1 : st < 2147483647) : CMulA st 48271 := cmul_of (m := 31) (n := 17) (by omega) (by decide) (by decide)
theorem ok_taken (D : DefAt K mg "_law_taken" sTaken ["_law_row", "_law_many"]) (G : Gl0 mg base) : Cal w K mg base 41 "_law_taken" ["_law_row", "_law_many"] (spTaken K) := by
  refine Cal.mk D scTaken (fun vs H Q E h => ?_) (fun f cdv A outer s H vs Q E hr h => ?_)
  · obtain ⟨R, S0, many, rfl, _⟩ := h
    rfl
  · obtain ⟨R, ⟨sa, cells⟩, many, rfl, ⟨p, st, ca, hR, hS, hp, hst, hst2⟩, hm, k⟩ := h
    dsimp only at hR hS
    have S := sees_of (w := w) (K := K) (mg := mg) (base := base) (N := nTaken) (outer := outer) (H := H) (E := E) G.seer hr (by decide) rfl rfl
    refine ⟨_, pss_cons (ps_if (pt_cmpR op_gt (pe_at (pv 0) pe_int) pe_int (nomark _))
        (pss_cons (ps_set (i := 2) scTaken.nd rfl (.inl rfl) (pe_op op_mod (pe_callTy call_int1 (by rfl) G.int (by decide +kernel) (pa_cons (pe_at (pv 0) pe_int) pa_nil)) (pv 1)))
        (pss_cons (ps_asg (pe_op (op_fdivA S) (pe_at (pv 0) pe_int) (pv 1)) (pg_sub (pv 0) pe_int set_listN))
        (pss_one (ps_ret (pv 2))))) pss_nil)
      (pss_cons (ps_asg (pe_op op_add (pe_at (pv 0) pe_int) pe_int) (pg_sub (pv 0) pe_int set_listN))
      (pss_cons (ps_if (pt_cmpR op_gt (pe_at (pv 0) pe_int) (pe_len G.len (pe_at (pv 0) pe_int)) (nomark _))
        (pss_cons (ps_asg (pe_op op_mod (pe_callTy call_int1 (by rfl) G.int (by decide +kernel) (pa_cons (pe_op op_add (pe_op op_mulA (pe_at (pv 0) pe_int) pe_int) pe_int) pa_nil)) pe_int) (pg_sub (pv 0) pe_int set_listN))
        (pss_one (ps_ret (pe_op op_mod (pe_callTy call_int1 (by rfl) G.int (by decide +kernel) (pa_cons (pe_op (op_fdivA S) (pe_at (pv 0) pe_int) pe_int) pa_nil)) (pv 1))))) pss_nil)
      (pss_cons (ps_set (i := 3) scTaken.nd rfl (.inl rfl) (pe_at (pe_at (pv 0) pe_int) (pe_op op_sub (pe_at (pv 0) pe_int) pe_int)))
      (pss_cons (ps_asg (pe_op op_mod (pe_callTy call_int1 (by rfl) G.int (by decide +kernel) (pa_cons (pe_op op_add (pe_op op_add (pe_op op_mulA (pe_at (pv 0) pe_int) pe_int) (pv 3)) pe_int) pa_nil)) pe_int) (pg_sub (pv 0) pe_int set_listN))
      (pss_cons (ps_if (pt_cmpR op_ge (pv 3) (pe_op op_pow pe_int pe_int) (nomark _)) (pss_one (ps_asg (pe_op (op_fdivA S) (pv 3) (pv 1)) (pg_sub (pv 0) pe_int set_listN))) pss_nil)
      (pss_one (ps_ret (pe_op op_mod (pe_callTy call_int1 (by rfl) G.int (by decide +kernel) (pa_cons (pv 3) pa_nil)) (pv 1))))))))), ?_⟩
    have hm0 : (0 : Int) < (many : Int) := by omega
    have hmn : ((many : Nat) : Int) ≠ 0 := by omega
    refine ⟨_, rfl, R, _, _, _, rfl, rfl, .inr (sq_of hR), rfl, _, _, rfl, rfl, _, rfl, ?_⟩
    by_cases hca : 0 < ca
    · rw [decide_eq_true hca]
      obtain ⟨r, hr1, he⟩ := mod_nat (i := ca) hm
      refine iteT ⟨_, rfl, R, _, _, _, rfl, rfl, .inr (sq_of hR), rfl, .inl ⟨_, rfl, _, rfl, _, _, rfl, rfl, hm0, ?_⟩⟩
      refine ⟨_, rfl, R, _, _, _, rfl, rfl, .inr (sq_of hR), rfl, _, rfl, _, _, rfl, rfl, hmn, _, rfl, R, _, 3, rfl, rfl, hR, by simp, ?_⟩
      refine ⟨_, rfl, ?_⟩
      have k' := k r _ hr1 (Rk.mut (o := .lst [.ref sa, .int p, .int st, .int (ca.fdiv many)])) ⟨p, st, _, upd_same, script_mut hR hS, hp, hst, hst2⟩
      rw [← he] at k'
      exact k'
    rw [decide_eq_false hca]
    refine iteF ⟨_, rfl, R, _, _, _, rfl, rfl, .inr (sq_of hR), rfl, _, _, rfl, rfl, _, rfl, R, _, 1, rfl, rfl, hR, by simp, ?_⟩
    have hR1 : (upd H R (.lst [.ref sa, .int (p + 1), .int st, .int ca])) R = some (.lst [.ref sa, .int (p + 1), .int st, .int ca]) := upd_same
    have hS1 : SqL K (upd H R (.lst [.ref sa, .int (p + 1), .int st, .int ca])) sa (cells.map V.int) := script_mut hR hS
    have r1 : Rk R H (upd H R (.lst [.ref sa, .int (p + 1), .int st, .int ca])) := Rk.mut
    change tSeq _ _ _ _ (upd H R (.lst [.ref sa, .int (p + 1), .int st, .int ca]))
    generalize upd H R (.lst [.ref sa, .int (p + 1), .int st, .int ca]) = H1 at hR1 hS1 r1
    refine ⟨_, rfl, R, _, _, _, rfl, rfl, .inr (sq_of hR1), rfl, _, rfl, R, _, _, _, rfl, rfl, .inr (sq_of hR1), rfl, sa, _, rfl, .inr hS1, _, _, rfl, rfl, _, rfl, ?_⟩
    rw [List.length_map]
    by_cases hlen : (cells.length : Int) < p + 1
    · rw [decide_eq_true hlen]
      refine iteT ⟨_, rfl, R, _, _, _, rfl, rfl, .inr (sq_of hR1), rfl, _, _, rfl, rfl, cm_st hst hst2, _, _, rfl, rfl, .inl ⟨_, rfl, _, _, rfl, rfl, (by show (0 : Int) < 2147483647; decide), _, rfl, R, _, 2, rfl, rfl, hR1, by simp, ?_⟩⟩
      obtain ⟨st', hs1, hs2⟩ := mod_nat (i := st * 48271 + 11) (m := 2147483647) (by decide)
      have hR2 : (upd H1 R (.lst [.ref sa, .int (p + 1), .int ((st * 48271 + 11) % 2147483647), .int ca])) R = some (.lst [.ref sa, .int (p + 1), .int ((st * 48271 + 11) % 2147483647), .int ca]) := upd_same
      have hS2 : SqL K (upd H1 R (.lst [.ref sa, .int (p + 1), .int ((st * 48271 + 11) % 2147483647), .int ca])) sa (cells.map V.int) := script_mut hR1 hS1
      have r2 : Rk R H (upd H1 R (.lst [.ref sa, .int (p + 1), .int ((st * 48271 + 11) % 2147483647), .int ca])) := r1.trans Rk.mut
      obtain ⟨r, hr1, he⟩ := mod_nat (i := ((st * 48271 + 11) % 2147483647).fdiv 7) hm
      refine ⟨_, rfl, R, _, _, _, rfl, rfl, .inr (sq_of hR2), rfl, _, _, rfl, rfl, (by show (7 : Int) ≠ 0; decide), .inl ⟨_, rfl, _, rfl, _, _, rfl, rfl, hm0, ?_⟩⟩
      have k' := k r _ hr1 r2 ⟨p + 1, (st * 48271 + 11) % 2147483647, ca, hR2, hS2, by omega, by have : ((2147483647 : Nat) : Int) = 2147483647 := rfl; omega, by have : ((2147483647 : Nat) : Int) = 2147483647 := rfl; omega⟩
      rw [← he] at k'
      exact k'
    rw [decide_eq_false hlen]
    have hpc : p.toNat < cells.length := by omega
    have hat : atI (cells.map V.int) (p + 1 - 1) = some (.int (co cells p.toNat)) := by
      rw [show p + 1 - 1 = ((p.toNat : Nat) : Int) by omega]
      exact atI_ints hpc
    generalize co cells p.toNat = cell at hat
    refine iteF ⟨_, rfl, R, _, _, _, rfl, rfl, .inr (sq_of hR1), rfl, _, rfl, R, _, _, _, rfl, rfl, .inr (sq_of hR1), rfl, _, _, rfl, rfl, sa, _, _, _, rfl, rfl, .inr hS1, hat, ?_⟩
    refine ⟨_, rfl, R, _, _, _, rfl, rfl, .inr (sq_of hR1), rfl, _, _, rfl, rfl, cm_st hst hst2, _, rfl, _, _, rfl, rfl, _, _, rfl, rfl, .inl ⟨_, rfl, _, _, rfl, rfl, (by show (0 : Int) < 2147483647; decide), _, rfl, R, _, 2, rfl, rfl, hR1, by simp, ?_⟩⟩
    obtain ⟨st', hs1, hs2⟩ := mod_nat (i := st * 48271 + cell + 11) (m := 2147483647) (by decide)
    have hc2 : ((2147483647 : Nat) : Int) = 2147483647 := rfl
    rw [hc2] at hs2
    have hR2 : (upd H1 R (.lst [.ref sa, .int (p + 1), .int ((st * 48271 + cell + 11) % 2147483647), .int ca])) R = some (.lst [.ref sa, .int (p + 1), .int ((st * 48271 + cell + 11) % 2147483647), .int ca]) := upd_same
    have hS2 : SqL K (upd H1 R (.lst [.ref sa, .int (p + 1), .int ((st * 48271 + cell + 11) % 2147483647), .int ca])) sa (cells.map V.int) := script_mut hR1 hS1
    have r2 : Rk R H (upd H1 R (.lst [.ref sa, .int (p + 1), .int ((st * 48271 + cell + 11) % 2147483647), .int ca])) := r1.trans Rk.mut
    change tSeq _ _ _ _ (upd H1 R (.lst [.ref sa, .int (p + 1), .int ((st * 48271 + cell + 11) % 2147483647), .int ca]))
    generalize upd H1 R (.lst [.ref sa, .int (p + 1), .int ((st * 48271 + cell + 11) % 2147483647), .int ca]) = H2 at hR2 hS2 r2
    obtain ⟨r, hr1, he⟩ := mod_nat (i := cell) hm
    have fin : ∀ H3, Rk R H H3 → RowV K H3 R (sa, cells) → tRet (tOp (rI (fun _ j => 0 < j) fun i j => .int (i % j)) (tCB (fun xs H Q => (∃ i, xs = [.int i] ∧ Q (.int i) H) ∨ ∃ k, xs = [.bl k] ∧ Q (.int (if k then 1 else 0)) H) (tCons (tVar 3) tNil)) (tVar 1)) { nx := fun _ H' => Q .non H', rt := Q } [some (.ref R), some (.int (many : Nat)), none, some (.int cell)] H3 := fun H3 r3 row => by
      refine ⟨_, rfl, .inl ⟨_, rfl, _, rfl, _, _, rfl, rfl, hm0, ?_⟩⟩
      have k' := k r _ hr1 r3 row
      rw [← he] at k'
      exact k'
    refine ⟨_, rfl, _, _, rfl, rfl, ⟨by decide, by decide, by decide⟩, _, _, rfl, rfl, _, rfl, ?_⟩
    by_cases hbig : (10 : Int) ^ (18 : Int).toNat ≤ cell
    · rw [decide_eq_true hbig]
      refine iteT ⟨_, rfl, _, rfl, _, _, rfl, rfl, hmn, _, rfl, R, _, 3, rfl, rfl, hR2, by simp, ?_⟩
      exact fin _ (r2.trans Rk.mut) ⟨p + 1, _, _, upd_same, script_mut hR2 hS2, by omega, by omega, by omega⟩
    · rw [decide_eq_false hbig]
      exact iteF (fin _ r2 ⟨p + 1, _, _, hR2, hS2, by omega, by omega, by omega⟩)
end
end Kf
end

section
set_option Elab.async false
set_option linter.all false
set_option maxRecDepth 100000
set_option maxHeartbeats 4000000
namespace Kf
open PySem PySem.Spec PyProof.Rows L2 Lx Evl Pm RZ StX

section
variable {w : World} {K : PySem.W.Frag} {mg : Str → Option Value} {base : Heap}
/-! ### _law_pick, _law_worth, _law_poly -/
abbrev sPick : Stmt := topS 73
theorem scPick : FnScope ["_law_row", "_law_things"] ["_law_row", "_law_things"] (defScope sPick) := ⟨rfl, rfl, rfl, by decide +kernel, rfl, by decide +kernel, by decide +kernel⟩
def spPick (K : PySem.W.Frag) : Sp := fun vs H Q _ => ∃ (R T : Addr) (S0 : Scr) (xs : List V), vs = [.ref R, .ref T] ∧ RowV K H R S0 ∧ H T = some (.lst xs) ∧ T ≠ R ∧ 0 < xs.length ∧ ∀ (r : Nat) (x : V) H', xs[r]? = some x → Rk R H H' → RowV K H' R S0 → Q x H'
theorem ok_pick (D : DefAt K mg "_law_pick" sPick ["_law_row", "_law_things"]) (G : Gl0 mg base) (Ct : Cal w K mg base 41 "_law_taken" ["_law_row", "_law_many"] (spTaken K)) : Cal w K mg base 42 "_law_pick" ["_law_row", "_law_things"] (spPick K) := by
  refine Cal.mk D scPick (fun vs H Q E h => ?_) (fun f cdv A outer s H vs Q E hr h => ?_)
  · obtain ⟨R, T, S0, xs, rfl, _⟩ := h
    rfl
  · obtain ⟨R, T, S0, xs, rfl, hrow, hT, hne, hx, k⟩ := h
    refine ⟨_, pss_one (ps_ret (pe_at (pv 1) (pe_callC rfl Ct hr (by decide) (pa_cons (pv 0) (pa_cons (pe_len G.len (pv 1)) pa_nil))))), ?_⟩
    refine ⟨_, rfl, _, rfl, _, rfl, T, xs, rfl, .inr (sq_of hT), R, S0, xs.length, rfl, hrow, hx, fun r H' hr' rk row => ?_⟩
    obtain ⟨x, hxr⟩ : ∃ x, xs[r]? = some x := ⟨_, List.getElem?_eq_getElem hr'⟩
    exact ⟨T, xs, r, x, rfl, rfl, .inr (sq_of (rk _ _ hne hT)), atI_nat hxr, k r x H' hxr rk row⟩
abbrev sWorth : Stmt := topS 80
theorem scWorth : FnScope ["_law_row"] ["_law_row"] (defScope sWorth) := ⟨rfl, rfl, rfl, by decide +kernel, rfl, by decide +kernel, by decide +kernel⟩
def spWorth (K : PySem.W.Frag) : Sp := fun vs H Q _ => ∃ (R : Addr) (S0 : Scr), vs = [.ref R] ∧ RowV K H R S0 ∧ ∀ v H' n d, Rk R H H' → RowV K H' R S0 → RatV K H' v n d → 0 < n → 0 < d → n ≤ 6 → d ≤ 4 → Int.gcd n d = 1 → Q v H'
theorem ok_worth (D : DefAt K mg "_law_worth" sWorth ["_law_row"]) (Ct : Cal w K mg base 41 "_law_taken" ["_law_row", "_law_many"] (spTaken K)) (Cr : Cal w K mg base 42 "_law_ratio" ["_law_top", "_law_bottom"] (spLRatio K)) : Cal w K mg base 43 "_law_worth" ["_law_row"] (spWorth K) := by
  refine Cal.mk D scWorth (fun vs H Q E h => ?_) (fun f cdv A outer s H vs Q E hr h => ?_)
  · obtain ⟨R, S0, rfl, _⟩ := h
    rfl
  · obtain ⟨R, S0, rfl, hrow, k⟩ := h
    refine ⟨_, pss_one (ps_ret (pe_callC rfl Cr hr (by decide) (pa_cons (pe_op op_add pe_int (pe_callC rfl Ct hr (by decide) (pa_cons (pv 0) (pa_cons pe_int pa_nil)))) (pa_cons (pe_op op_add pe_int (pe_callC rfl Ct hr (by decide) (pa_cons (pv 0) (pa_cons pe_int pa_nil)))) pa_nil)))), ?_⟩
    refine ⟨_, rfl, R, S0, 6, rfl, hrow, by decide, fun r1 H1 hr1 rk1 row1 => ⟨_, _, rfl, rfl, _, rfl, R, S0, 4, rfl, row1, by decide, fun r2 H2 hr2 rk2 row2 => ⟨_, _, rfl, rfl, 1 + r1, 1 + r2, ?_, by omega, by omega, by omega, fun v H3 n d e3 hv hn hd hg hq hn2 hd2 => ?_⟩⟩⟩
    · rw [Int.natCast_add, Int.natCast_add]; rfl
    · exact k v H3 n d ((rk1.trans rk2).trans (Rk.of e3)) (row2.ex e3) hv hn hd (by omega) (by omega) hg
abbrev sLPoly : Stmt := topS 79
abbrev nLPoly : List Str := ["_law_row", "_law_most", "_law_size", "_law_at"]
theorem scLPoly : FnScope nLPoly ["_law_row", "_law_most", "_law_size"] (defScope sLPoly) := ⟨rfl, rfl, rfl, by decide +kernel, rfl, by decide +kernel, by decide +kernel⟩
def spLPoly (K : PySem.W.Frag) : Sp := fun vs H Q _ => ∃ (R : Addr) (S0 : Scr) (most : Nat), vs = [.ref R, .int (most : Nat), .int 3] ∧ RowV K H R S0 ∧ most ≤ 3 ∧ ∀ v H' p, Rk R H H' → RowV K H' R S0 → PolyV K H' v p → Tr p → (∀ i, -3 ≤ co p i ∧ co p i ≤ 3) → p.length ≤ 4 → Q v H'
theorem ok_lpoly (D : DefAt K mg "_law_poly" sLPoly ["_law_row", "_law_most", "_law_size"]) (G : Gl0 mg base) (Ct : Cal w K mg base 41 "_law_taken" ["_law_row", "_law_many"] (spTaken K)) (Cr : Cal w K mg base 41 "_law_trim" ["_law_some"] (spLTrim K)) : Cal w K mg base 42 "_law_poly" ["_law_row", "_law_most", "_law_size"] (spLPoly K) := by
  refine Cal.mk D scLPoly (fun vs H Q E h => ?_) (fun f cdv A outer s H vs Q E hr h => ?_)
  · obtain ⟨R, S0, most, rfl, _⟩ := h
    rfl
  · obtain ⟨R, S0, most, rfl, hrow, hmost, k⟩ := h
    refine ⟨_, pss_one (ps_ret (pe_callC rfl Cr hr (by decide) (pa_cons (pe_lc (own := [("_law_at", 3)]) (g := gName 3) (tt := tYes) rfl scLPoly.nd (pi_range1 (by rfl) G.range (pa_cons (pe_callC rfl Ct hr (by decide) (pa_cons (pv 0) (pa_cons (pe_op op_add (pv 1) pe_int) pa_nil))) pa_nil)) (blkOk_by (N := nLPoly) (sc := defScope sLPoly) (by decide +kernel))
          (fun _ _ _ _ _ => pg_name (i := 3) scLPoly.nd rfl (.inl rfl)) (fun _ _ _ _ _ => pts_nil) (fun _ _ _ _ _ => pe_op op_sub (pe_callC rfl Ct hr (by decide) (pa_cons (pv 0) (pa_cons (pe_op op_add (pe_op op_mulA pe_int (pv 2)) pe_int) pa_nil))) (pv 2))) pa_nil))), ?_⟩
    refine ⟨_, rfl, _, rfl, _, _, rfl, rfl, R, S0, most + 2, by rw [Int.natCast_add]; rfl, hrow, by omega, fun n H1 hn rk1 row1 => ⟨_, rfl, by omega, by omega, fun D hD => ?_⟩⟩
    rw [Int.toNat_natCast]
    have hDR := row1.new hD
    refine ⟨fun i m H' => m = n - i ∧ i ≤ n ∧ Rk R H1 H' ∧ RowV K H' R S0 ∧ ∃ l : List Int, H' D = some (.lst (l.map V.int)) ∧ l.length = i ∧ ∀ x ∈ l, -3 ≤ x ∧ x ≤ 3, ⟨n, by simp, Nat.zero_le _, Rk.of (Ex.new hD), row1.ex (Ex.new hD), [], upd_same, rfl, fun x hx => absurd hx List.not_mem_nil⟩, ?_⟩
    rintro i m H' ⟨rfl, hi, rk, row, l, hl, hli, hb⟩
    by_cases hlt : i < n
    · refine .inr ⟨hlt, fun H2 => ∃ l : List Int, Rk R H1 H2 ∧ RowV K H2 R S0 ∧ H2 D = some (.lst (l.map V.int)) ∧ l.length = i + 1 ∧ ∀ x ∈ l, -3 ≤ x ∧ x ≤ 3, fun H2 ⟨l, q1, q2, q3, q4, q5⟩ => ⟨n - (i + 1), by omega, rfl, hlt, q1, q2, l, q3, q4, q5⟩, fun x H2 y => ?_⟩
      obtain ⟨rfl, rfl⟩ := y
      refine ⟨rfl, ?_⟩
      refine ⟨_, rfl, _, rfl, _, _, rfl, rfl, cmul_of (m := 2) (n := 2) (by decide) (by decide) (by decide), _, _, rfl, rfl, R, S0, 7, rfl, row, by decide, fun r H4 hr4 rk4 row4 => ⟨_, rfl, _, _, rfl, rfl, l.map V.int, rk4 _ _ hDR hl, by rw [List.length_map]; exact sz_lt (by omega), l ++ [(r : Int) - 3], ?_, ?_, ?_, by simp; omega, ?_⟩⟩
      · exact (rk.trans rk4).mut2 hD
      · exact row1.mut2 hD row4
      · rw [upd_same, List.map_append]; rfl
      · intro x hx
        rcases List.mem_append.mp hx with hx | hx
        · exact hb x hx
        · have : x = (r : Int) - 3 := by simpa using hx
          omega
    · have e : i = n := by omega
      subst e
      refine .inl ⟨Nat.le_refl _, D, l, rfl, by omega, .inr (sq_of hl), fun v H2 e2 hv => ?_⟩
      refine k v H2 (trim l) ((rk1.trans rk).trans (Rk.of e2)) (row.ex e2) hv (tr_trim _) (fun j => ?_) ?_
      · rw [co_trim]
        by_cases hj : j < l.length
        · have hm := hb (co l j) (List.mem_of_getElem? (get_co hj))
          omega
        · rw [co_out (by omega)]; omega
      · have := trim_len l; omega
end
end Kf
end

section
set_option Elab.async false
set_option linter.all false
set_option maxRecDepth 100000
set_option maxHeartbeats 4000000
namespace Kf
open PySem PySem.Spec PyProof.Rows L2 Lx Evl Pm RZ StX

def OkW (c : Bool × Int × Int) : Prop := 0 < c.2.1 ∧ 0 < c.2.2 ∧ c.2.1 ≤ 6 ∧ c.2.2 ≤ 4 ∧ Int.gcd c.2.1 c.2.2 = 1
def evn (n : Nat) : Bool := decide (n % 2 = 0)
theorem alt_of : ∀ (core : List (Bool × Int × Int)) (t : Nat), (∀ j c, core[j]? = some c → c.1 = evn (t + j)) → AltL (evn t) core (evn (t + core.length))
  | [], t, _ => rfl
  | c :: cs, t, h => by
    refine ⟨h 0 c rfl, ?_⟩
    have ih := alt_of cs (t + 1) fun j c hc => by
      have := h (j + 1) c hc
      rw [this, show t + 1 + j = t + (j + 1) by omega]
    have e : (!evn t) = evn (t + 1) := by
      unfold evn
      by_cases h2 : t % 2 = 0
      · rw [decide_eq_true h2, decide_eq_false (by omega)]; rfl
      · rw [decide_eq_false h2, decide_eq_true (by omega)]; rfl
    rw [e, List.length_cons, show t + (cs.length + 1) = t + 1 + cs.length by omega]
    exact ih
/-- the degrees of an alternating ladder -/
theorem alt_deg {n d : Int} (hn : 0 < n) (hd : 0 < d) : ∀ (core : List (Bool × Int × Int)) (s rp : Bool), AltL s core rp → (∀ c ∈ core, 0 < c.2.1 ∧ 0 < c.2.2) → core ≠ [] →
    (if s then Z (impP core n d).2 core.length ∧ 0 < co (impP core n d).1 core.length else Z (impP core n d).1 core.length ∧ 0 < co (impP core n d).2 core.length)
  | [], _, _, _, _, h => absurd rfl h
  | (s', n', d') :: cs, s, rp, h, hok, _ => by
    obtain ⟨rfl, h2⟩ := h
    have hh := hok (s', n', d') List.mem_cons_self
    have hn' : 0 < n' := hh.1
    have hd' : 0 < d' := hh.2
    have key : ∀ (t b : List Int) (k : Nat), Z b (k + 1) → Z t (k + 1) → co t k = 0 ∨ k = 0 → 0 < co b k → Z (smul d' b) (k + 1) ∧ 0 < co (stT n' d' t b) (k + 1) := fun t b k zb zt ht hb => by
      refine ⟨z_smul _ zb, ?_⟩
      unfold stT
      rw [co_addL, co_smul, co_succ, co_smul, zt _ (Nat.le_refl _), Int.mul_zero, Int.zero_add]
      exact Int.mul_pos hn' hb
    by_cases hc : cs = []
    · subst hc
      cases s'
      · exact key [d] [n] 0 (fun i hi => co_out (by simpa using hi)) (fun i hi => co_out (by simpa using hi)) (.inr rfl) (by rw [co_zero]; exact hn)
      · exact key [n] [d] 0 (fun i hi => co_out (by simpa using hi)) (fun i hi => co_out (by simpa using hi)) (.inr rfl) (by rw [co_zero]; exact hd)
    · have ih := alt_deg hn hd cs (!s') rp h2 (fun c hc => hok c (List.mem_cons_of_mem _ hc)) hc
      have len : ∀ cs : List (Bool × Int × Int), (impP cs n d).1.length ≤ cs.length + 1 ∧ (impP cs n d).2.length ≤ cs.length + 1 := by
        intro cs
        induction cs with
        | nil => exact ⟨Nat.le_refl _, Nat.le_refl _⟩
        | cons c cs ih =>
          obtain ⟨s, a, b⟩ := c
          cases s <;> simp only [impP, stT, addL_len, smul, List.length_map, List.length_cons, if_true, if_false, Bool.false_eq_true] <;> omega
      obtain ⟨l1, l2⟩ := len cs
      have z1 : Z (impP cs n d).1 (cs.length + 1) := (z_len _).mono l1
      have z2 : Z (impP cs n d).2 (cs.length + 1) := (z_len _).mono l2
      cases s'
      · have ih' : Z (impP cs n d).2 cs.length ∧ 0 < co (impP cs n d).1 cs.length := ih
        exact key (impP cs n d).2 (impP cs n d).1 cs.length z1 z2 (.inl (ih'.1 _ (Nat.le_refl _))) ih'.2
      · have ih' : Z (impP cs n d).1 cs.length ∧ 0 < co (impP cs n d).2 cs.length := ih
        exact key (impP cs n d).1 (impP cs n d).2 cs.length z2 z1 (.inl (ih'.1 _ (Nat.le_refl _))) ih'.2
theorem alt_ne {n d : Int} (hn : 0 < n) (hd : 0 < d) {core : List (Bool × Int × Int)} {s rp : Bool} (h : AltL s core rp) (hok : ∀ c ∈ core, 0 < c.2.1 ∧ 0 < c.2.2) (h0 : core ≠ []) : ∃ x, ev (impP core n d).1 x ≠ ev (impP core n d).2 x := by
  refine Classical.byContradiction fun hx => ?_
  have e : ∀ x, ev (impP core n d).1 x = ev (impP core n d).2 x := fun x => Classical.byContradiction fun h => hx ⟨x, h⟩
  have c := co_of_ev e core.length
  have g := alt_deg hn hd core s rp h hok h0
  cases s
  · have g' : Z (impP core n d).1 core.length ∧ 0 < co (impP core n d).2 core.length := g
    have := g'.1 _ (Nat.le_refl _)
    omega
  · have g' : Z (impP core n d).2 core.length ∧ 0 < co (impP core n d).1 core.length := g
    have := g'.1 _ (Nat.le_refl _)
    omega
section
variable {w : World} {K : PySem.W.Frag} {mg : Str → Option Value} {base : Heap}
/-! ### _law_ladder -/
abbrev sLLad : Stmt := topS 81
abbrev nLLad : List Str := ["_law_row", "_law_most", "_law_series", "_law_across", "_law_found", "_law_turn", "_law_at", "_law_place"]
abbrev pLLad : List Str := ["_law_row", "_law_most", "_law_series", "_law_across"]
theorem scLLad : FnScope nLLad pLLad (defScope sLLad) := ⟨rfl, rfl, rfl, by decide +kernel, rfl, by decide +kernel, by decide +kernel⟩
def spLLad (K : PySem.W.Frag) : Sp := fun vs H Q _ => ∃ (R : Addr) (S0 : Scr), vs = [.ref R, .int 4, .str "L", .str "C"] ∧ RowV K H R S0 ∧ ∀ v H' core t, Rk R H H' → RowV K H' R S0 → LadV K H' v (core.map rnOf) → 1 ≤ core.length → core.length ≤ 4 → (∀ c ∈ core, OkW c) → AltL (evn t) core (evn (t + core.length)) → Q v H'
theorem ok_llad (D : DefAt K mg "_law_ladder" sLLad pLLad) (G : Gl0 mg base) (Ct : Cal w K mg base 41 "_law_taken" ["_law_row", "_law_many"] (spTaken K)) (Cw : Cal w K mg base 43 "_law_worth" ["_law_row"] (spWorth K)) : Cal w K mg base 44 "_law_ladder" pLLad (spLLad K) := by
  refine Cal.mk D scLLad (fun vs H Q E h => ?_) (fun f cdv A outer s H vs Q E hr h => ?_)
  · obtain ⟨R, S0, rfl, _⟩ := h
    rfl
  · obtain ⟨R, S0, rfl, hrow, k⟩ := h
    refine ⟨_, pss_cons (ps_par (i := 4) (j := 5) rfl scLLad.nd rfl rfl (by decide) rfl rfl (pa_cons (pe_lst pa_nil) (pa_cons (pe_callC rfl Ct hr (by decide) (pa_cons (pv 0) (pa_cons pe_int pa_nil))) pa_nil)) (by rfl))
      (pss_cons (ps_for PassesOwn.never rfl (pi_range1 (by rfl) G.range (pa_cons (pe_op op_add pe_int (pe_callC rfl Ct hr (by decide) (pa_cons (pv 0) (pa_cons (pv 1) pa_nil)))) pa_nil)) (pg_name (i := 6) scLLad.nd rfl (.inl rfl))
        (pss_cons (ps_set (i := 7) scLLad.nd rfl (.inl rfl) (pe_at (pe_lst (pa_cons pe_str (pa_cons pe_str pa_nil))) (pe_op op_mod (pe_callTy call_int1 (by rfl) G.int (by decide +kernel) (pa_cons (pe_op op_add (pv 5) (pv 6)) pa_nil)) pe_int)))
        (pss_one (ps_expr (pe_bm PySem.F.plainAttrs_list PySem.F.slot_list_append PySem.F.type_list_append mt_append (pv 4)
              (pa_cons (pe_tup (pa_cons (pv 7) (pa_cons (pe_ifExp (pt_cmpR op_eq (pv 7) pe_str (nomark _)) (pv 2) (pv 3)) (pa_cons (pe_callC rfl Cw hr (by decide) (pa_cons (pv 0) pa_nil)) pa_nil)))) pa_nil))))))
      (pss_one (ps_ret (pe_tuple G.tuple (pv 4))))), ?_⟩
    have sz : ∀ m, m ≤ 100000 → m ≤ sizeLine := fun m h => sz_of h
    refine ⟨sz _ (by decide), fun F nF => ⟨_, rfl, R, S0, 2, rfl, hrow.ex (Ex.new nF), by decide, fun t H1 ht rk1 row1 => ⟨_, _, rfl, ?_⟩⟩⟩
    have hFR := hrow.new nF
    have hF1 : H1 F = some (.lst []) := rk1 _ _ hFR upd_same
    have rk01 : Rk R H H1 := (Rk.of (Ex.new nF)).trans rk1
    refine ⟨_, rfl, _, rfl, R, S0, 4, rfl, row1, by decide, fun m H2 hm rk2 row2 => ⟨_, _, rfl, rfl, _, rfl, by omega, by omega, ?_⟩⟩
    rw [show ((1 : Int) + (m : Int)).toNat = m + 1 by omega]
    have hF2 := rk2 _ _ hFR hF1
    have rk02 := rk01.trans rk2
    refine for_range (fun i σ H' => Rk R H H' ∧ RowV K H' R S0 ∧ ∃ (core : List (Bool × Int × Int)) (xs : List V) (y6 y7 : Option V), σ = [some (.ref R), some (.int 4), some (.str "L"), some (.str "C"), some (.ref F), some (.int (t : Nat)), y6, y7] ∧ H' F = some (.lst xs) ∧ Rgs K H' xs (core.map rnOf) ∧ core.length = i ∧ (∀ c ∈ core, OkW c) ∧ ∀ j c, core[j]? = some c → c.1 = evn (t + j))
      ⟨rk02, row2, [], [], none, none, rfl, hF2, ⟨rfl, fun i r hr => by simp at hr⟩, rfl, fun c hc => absurd hc List.not_mem_nil, fun j c hc => by simp at hc⟩ (fun i σ H' hi h => ?_) (fun σ H' h => ?_)
    · obtain ⟨rk, row, core, xs, y6, y7, rfl, hF, hRg, hl, hok, halt⟩ := h
      rw [Int.zero_add]
      refine ⟨sz2, fun q nq => ⟨_, rfl, _, rfl, _, _, rfl, rfl, .inl ⟨_, rfl, _, _, rfl, rfl, (by show (0 : Int) < 2; decide), q, _, _, .str (plS (evn (t + i))), rfl, rfl, .inr (sq_of upd_same), ?_, ?_⟩⟩⟩
      · unfold evn
        by_cases h2 : (t + i) % 2 = 0
        · rw [decide_eq_true h2, show ((t : Int) + (i : Int)) % 2 = 0 by omega]; rfl
        · rw [decide_eq_false h2, show ((t : Int) + (i : Int)) % 2 = 1 by omega]; rfl
      · have eq : Ex H' (upd H' q (.lst [.str "S", .str "P"])) := Ex.new nq
        generalize upd H' q (.lst [.str "S", .str "P"]) = H3 at eq
        have hF3 := eq _ _ hF
        refine ⟨_, rfl, .inl ⟨rfl, xs, sq_of hF3⟩, _, rfl, ?_⟩
        refine tIf_via (v := .str (if evn (t + i) then "L" else "C")) (H1 := H3) (fun Rr hR => ?_) ?_
        · refine ⟨_, rfl, rfl, _, rfl, ?_⟩
          revert hR
          cases evn (t + i)
          · exact fun hR => iteF ⟨_, rfl, hR⟩
          · exact fun hR => iteT ⟨_, rfl, hR⟩
        refine ⟨_, rfl, R, S0, rfl, row.ex eq, fun v H4 n d rk4 row4 hv hn hd hn6 hd4 hg => ⟨sz3, fun p np => ?_⟩⟩
        have rk04 : Rk R H H4 := (rk.trans (Rk.of eq)).trans rk4
        have hF4 := rk4 _ _ hFR hF3
        have hF5 : (upd H4 p (.tup [.str (plS (evn (t + i))), .str (if evn (t + i) then "L" else "C"), v])) F = some (.lst xs) := by rw [upd_ne (ne_of_none hF4 np)]; exact hF4
        have ep : Ex H4 (upd H4 p (.tup [.str (plS (evn (t + i))), .str (if evn (t + i) then "L" else "C"), v])) := Ex.new np
        have hp5 : SqT K (upd H4 p (.tup [.str (plS (evn (t + i))), .str (if evn (t + i) then "L" else "C"), v])) p [.str (plS (evn (t + i))), .str (if evn (t + i) then "L" else "C"), v] := st_of upd_same
        have hxl : xs.length = i := by rw [hRg.1, List.length_map, hl]
        refine ⟨F, xs, _, rfl, rfl, hF5, sz_lt (by omega), ?_⟩
        change _ ∧ RowV K (upd (upd H4 p (.tup [.str (plS (evn (t + i))), .str (if evn (t + i) then "L" else "C"), v])) F (.lst (xs ++ [.ref p]))) R S0 ∧ _
        generalize upd H4 p (.tup [.str (plS (evn (t + i))), .str (if evn (t + i) then "L" else "C"), v]) = H5 at hF5 ep hp5
        have tk5 : TK K H5 (upd H5 F (.lst (xs ++ [.ref p]))) := TK.mut hF5
        refine ⟨(rk04.trans (Rk.of ep)).mut2 nF, hrow.mut2 nF (row4.ex ep), core ++ [(evn (t + i), n, d)], _, _, _, rfl, upd_same, ?_, by simp [hl], fun c hc => ?_, fun j c hc => ?_⟩
        · rw [List.map_append]
          refine Rgs.snoc (hRg.tk ((((TK.of eq).trans (rk4.tk (row.ex eq))).trans (TK.of ep)).trans tk5)) ?_
          have hr : RungV K (upd H5 F (.lst (xs ++ [.ref p]))) (.ref p) (plS (evn (t + i))) (if evn (t + i) then "L" else "C") n d := ⟨p, v, rfl, tk5 _ _ hp5, (hv.ex ep).tk tk5⟩
          cases hev : evn (t + i)
          · rw [hev] at hr; exact hr
          · rw [hev] at hr; exact hr
        · rcases List.mem_append.mp hc with hc | hc
          · exact hok c hc
          · have : c = (evn (t + i), n, d) := by simpa using hc
            rw [this]
            exact ⟨hn, hd, hn6, hd4, hg⟩
        · by_cases hj : j < core.length
          · rw [List.getElem?_append_left hj] at hc
            exact halt j c hc
          · rw [List.getElem?_append_right (by omega)] at hc
            have hj0 : j - core.length = 0 := by
              have := (List.getElem?_eq_some_iff.mp hc).1
              simp at this; exact this
            rw [hj0] at hc
            have : c = (evn (t + i), n, d) := by simpa using hc.symm
            rw [this, show j = i by omega]
    · obtain ⟨rk, row, core, xs, y6, y7, rfl, hF, hRg, hl, hok, halt⟩ := h
      refine ⟨_, rfl, F, xs, rfl, .inr (sq_of hF), fun a H3 e3 ha => ?_⟩
      exact k (.ref a) H3 core t (rk.trans (Rk.of e3)) (row.ex e3) (Rgs.lad (hRg.tk (TK.of e3)) ha) (by omega) (by omega) hok (alt_of core t halt)
end
end Kf
end

section
set_option Elab.async false
set_option linter.all false
set_option maxRecDepth 100000
set_option maxHeartbeats 4000000
namespace Kf
open PySem PySem.Spec PyProof.Rows L2 Lx Evl Pm RZ StX

def dRg (pl kd : Str) (n d : Int) : PyData := .tuple [.str pl, .str kd, .tuple [.int n, .int d]]
theorem dp_rung {K : PySem.W.Frag} {H : Hp} {v : V} {pl kd : Str} {n d : Int} (h : RungV K H v pl kd n d) : Dp K H v (dRg pl kd n d) := by
  obtain ⟨a, y, rfl, hs, b, rfl, ht⟩ := h
  exact .tup hs (.cons (.str pl) (.cons (.str kd) (.cons (.tup ht (.cons (.int n) (.cons (.int d) .nil))) .nil)))
def OkS (r : Rn) : Prop := PyData.strOk r.1 = true ∧ PyData.strOk r.2.1 = true
theorem dp_rungs {K : PySem.W.Frag} {H : Hp} : ∀ (fs : List V), (∀ x ∈ fs, ∃ r : Rn, OkS r ∧ RungV K H x r.1 r.2.1 r.2.2.1 r.2.2.2) → ∃ ds : List PyData, DpAll K H fs ds ∧ PyData.canLayAll0 ds = true ∧ PyData.depthAll ds ≤ 3 ∧ (ds = [] ↔ fs = [])
  | [], _ => ⟨[], .nil, by simp [PyData.canLayAll0], by simp [PyData.depthAll], ⟨fun _ => rfl, fun _ => rfl⟩⟩
  | x :: fs, h => by
    obtain ⟨ds, h1, h2, h3, _⟩ := dp_rungs fs fun y hy => h y (List.mem_cons_of_mem _ hy)
    obtain ⟨r, ho, hr⟩ := h x List.mem_cons_self
    refine ⟨dRg r.1 r.2.1 r.2.2.1 r.2.2.2 :: ds, .cons (dp_rung hr) h1, ?_, ?_, by simp⟩
    · simp [PyData.canLayAll0, PyData.canLay0, dRg, h2, ho.1, ho.2]
    · simp only [PyData.depthAll, PyData.depth, dRg]
      omega
theorem eqv_nil (ds : List PyData) : PyData.eqv (.list ds) (.list []) = decide (ds = []) := by
  cases ds <;> simp [PyData.eqv, PyData.eqvAll]
def badR (r : Rn) : Bool := decide ((10 : Int) ^ 60 < (if r.2.2.2 > r.2.2.1 then r.2.2.2 else r.2.2.1))
section
variable {w : World} {K : PySem.W.Frag} {mg : Str → Option Value} {base : Heap}
abbrev sFits : Stmt := topS 84
abbrev nFits : List Str := ["_law_ladder_here", "_law_rung"]
theorem scFits : FnScope nFits ["_law_ladder_here"] (defScope sFits) := ⟨rfl, rfl, rfl, by decide +kernel, rfl, by decide +kernel, by decide +kernel⟩
def fitsP (rs : List Rn) : Prop := ∀ (j : Nat) (r : Rn), rs[j]? = some r → badR r = false
def spFits (K : PySem.W.Frag) : Sp := fun vs H Q _ => ∃ (x : V) (rs : List Rn), vs = [x] ∧ LadV K H x rs ∧ rs.length ≤ 1000 ∧ (∀ r ∈ rs, OkS r) ∧ ∀ H' b, Ex H H' → (b = true → fitsP rs) → Q (.bl b) H'
theorem ok_fits (D : DefAt K mg "_law_fits" sFits ["_law_ladder_here"]) (G : Gl0 mg base) : Cal w K mg base 41 "_law_fits" ["_law_ladder_here"] (spFits K) := by
  refine Cal.mk D scFits (fun vs H Q E h => ?_) (fun f cdv A outer s H vs Q E hr h => ?_)
  · obtain ⟨x, rs, rfl, _⟩ := h
    rfl
  · obtain ⟨x, rs, rfl, ⟨a, xs, rfl, hA, hl, hf⟩, hlen, hos, k⟩ := h
    refine ⟨_, pss_one (ps_ret (pe_cmpR (op_eqD hr.units) (pe_lc (own := [("_law_rung", 1)]) (g := gName 1) (tt := tTest (tOp (rI0 fun i j => .bl (decide (j < i))) (tCB (rMaxT K) (tCons (tOp (rIxQ K) (tVar 1) (tC (.int 2))) tNil)) (tOp (rI CPow fun i j => .int (i ^ j.toNat)) (tC (.int 10)) (tC (.int 60))))) rfl scFits.nd (pi_tup (pv 0)) (blkOk_by (N := nFits) (sc := defScope sFits) (by decide +kernel))
          (fun _ _ _ _ _ => pg_name (i := 1) scFits.nd rfl (.inl rfl)) (fun _ _ _ _ _ => pts_one (pt_cmpR op_gt (pe_callB (cr_maxT rfl) (by rfl) G.max (by decide +kernel) (pa_cons (show PE _ _ (tOp (rIxQ K) (tVar 1) (tC (.int 2))) from pe_at (pv 1) pe_int) pa_nil)) (pe_op op_pow pe_int pe_int) (nomark _))) (fun _ _ _ _ _ => pv 1)) (pe_lst pa_nil) (nomark _))), ?_⟩
    refine ⟨_, rfl, a, rfl, ⟨_, hA⟩, fun D hD => ?_⟩
    refine ⟨fun i m H' => m = rs.length - i ∧ i ≤ rs.length ∧ Ex H H' ∧ ∃ fs : List V, H' D = some (.lst fs) ∧ fs.length ≤ i ∧ (∀ x ∈ fs, ∃ r : Rn, OkS r ∧ RungV K H' x r.1 r.2.1 r.2.2.1 r.2.2.2) ∧ (fs = [] → ∀ (j : Nat) (r : Rn), j < i → rs[j]? = some r → badR r = false),
      ⟨rs.length, by simp, Nat.zero_le _, Ex.new hD, [], upd_same, Nat.le_refl _, fun x hx => absurd hx List.not_mem_nil, fun _ j r hj => absurd hj (Nat.not_lt_zero _)⟩, ?_⟩
    rintro i m H1 ⟨rfl, hi, e1, fs, hfs, hfl, hR, hb⟩
    by_cases hlt : i < rs.length
    · obtain ⟨x, hx, hRx⟩ := hf i rs[i] (List.getElem?_eq_getElem hlt)
      refine .inr ⟨⟨_, _, ex_t e1 hA, hx⟩, fun H' => Ex H H' ∧ ∃ fs : List V, H' D = some (.lst fs) ∧ fs.length ≤ i + 1 ∧ (∀ x ∈ fs, ∃ r : Rn, OkS r ∧ RungV K H' x r.1 r.2.1 r.2.2.1 r.2.2.2) ∧ (fs = [] → ∀ (j : Nat) (r : Rn), j < i + 1 → rs[j]? = some r → badR r = false), fun H' ⟨q1, q2⟩ => ⟨rs.length - (i + 1), by omega, rfl, hlt, q1, q2⟩, fun x2 H2 y => ?_⟩
      obtain ⟨rfl, fx⟩ := y
      have ex := Option.some.inj ((fx _ (ex_t e1 hA)).symm.trans hx)
      subst ex
      have hRx1 := hRx.ex e1
      refine ⟨rfl, ?_⟩
      obtain ⟨xa, y, rfl, hxa, ya, rfl, hya⟩ := hRx1
      refine ⟨_, rfl, xa, _, _, _, rfl, rfl, .inl hxa, rfl, ya, _, _, rfl, hya, _, _, rfl, rfl, ⟨by decide, by decide, by decide⟩, _, _, rfl, rfl, _, rfl, ?_⟩
      by_cases hbad : (10 : Int) ^ (60 : Int).toNat < (if rs[i].2.2.2 > rs[i].2.2.1 then rs[i].2.2.2 else rs[i].2.2.1)
      · rw [decide_eq_true hbad]
        refine iteT ⟨_, rfl, fs, hfs, sz_lt (by omega), Ex.mut e1 hD, fs ++ [.ref xa], upd_same, by rw [List.length_append]; simp; omega, fun x hx => ?_, fun z => absurd z (by simp)⟩
        have tk : TK K H2 (upd H2 D (.lst (fs ++ [.ref xa]))) := TK.mut hfs
        rcases List.mem_append.mp hx with hx | hx
        · obtain ⟨r, ho, hr⟩ := hR x hx
          exact ⟨r, ho, hr.tk tk⟩
        · have : x = .ref xa := by simpa using hx
          subst this
          exact ⟨rs[i], hos _ (List.getElem_mem hlt), (hRx.ex e1).tk tk⟩
      · rw [decide_eq_false hbad]
        refine iteF ⟨e1, fs, hfs, by omega, hR, fun z j r hj hr' => ?_⟩
        by_cases hji : j < i
        · exact hb z j r hji hr'
        · have : j = i := by omega
          subst this
          rw [List.getElem?_eq_getElem hlt] at hr'
          have := Option.some.inj hr'
          subst this
          exact decide_eq_false hbad
    · have e : i = rs.length := by omega
      subst e
      refine .inl ⟨⟨_, ex_t e1 hA, by omega⟩, sz_of (by decide), fun q nq => ?_⟩
      have eq : Ex H1 (upd H1 q (.lst [])) := Ex.new nq
      obtain ⟨ds, d1, d2, d3, d4⟩ := dp_rungs fs hR
      obtain ⟨ds', e1', e2', e3', e4'⟩ := dp_rungs (K := K) (H := upd H1 q (.lst [])) fs fun x hx => let ⟨r, ho, hr⟩ := hR x hx; ⟨r, ho, hr.ex eq⟩
      refine ⟨.list ds', .list [], .lst (sq_of (eq _ _ hfs)) e1', .lst (sq_of upd_same) .nil, ?_, by decide +kernel, ?_⟩
      · unfold SeqAt.shaped
        rw [Bool.and_eq_true]
        refine ⟨by simp [PyData.canLay0, e2'], decide_eq_true ?_⟩
        simp only [PyData.depth]
        omega
      · rw [eqv_nil]
        exact k _ _ (e1.trans eq) fun z j r hr' => hb (e4'.mp (of_decide_eq_true z)) j r (List.getElem?_eq_some_iff.mp hr').1 hr'
end
end Kf
end

section
set_option Elab.async false
set_option linter.all false
set_option maxRecDepth 100000
set_option maxHeartbeats 4000000
namespace Kf
open PySem PySem.Spec PyProof.Rows L2 Lx Evl Pm RZ StX

theorem alt_pl : ∀ (core : List (Bool × Int × Int)) (s rp : Bool) (n d : Int), AltL s core rp → ∀ (i : Nat) (r : Rn), (core.map rnOf ++ lastR (plS rp) n d)[i]? = some r → r.1 = plS (if i % 2 = 0 then s else !s)
  | [], s, rp, n, d, h, i, r, hr => by
    have h' : rp = s := h
    subst h'
    cases i with
    | zero => cases hr; rfl
    | succ i => simp [lastR] at hr
  | c :: cs, s, rp, n, d, ⟨h1, h2⟩, i, r, hr => by
    cases i with
    | zero =>
      cases hr
      rw [if_pos (by omega), ← h1]
      obtain ⟨cs, cn, cd⟩ := c
      cases cs <;> rfl
    | succ i =>
      have := alt_pl cs (!s) rp n d h2 i r hr
      rw [this]
      congr 1
      by_cases h : i % 2 = 0
      · rw [if_pos h, if_neg (by omega)]
      · rw [if_neg h, if_pos (by omega), Bool.not_not]
theorem sok_S : PyData.strOk ("S" : Str) = true := by decide +kernel
theorem sok_P : PyData.strOk ("P" : Str) = true := by decide +kernel
theorem sok_L : PyData.strOk ("L" : Str) = true := by decide +kernel
theorem sok_C : PyData.strOk ("C" : Str) = true := by decide +kernel
theorem sok_R : PyData.strOk ("R" : Str) = true := by decide +kernel
theorem plS_inj {a b : Bool} (h : plS a = plS b) : a = b := by
  cases a <;> cases b <;> first | rfl | exact absurd h (by decide +kernel)
/-- a small polynomial -/
def PolS (p : List Int) : Prop := Tr p ∧ p.length ≤ 5 ∧ ∀ i, -(2 ^ 30) ≤ co p i ∧ co p i ≤ 2 ^ 30
theorem PolS.ok {p : List Int} (h : PolS p) : OkP p := ⟨h.1, by have := h.2.1; omega, fun i => by have := h.2.2 i; omega⟩
theorem tr_of_co {p q : List Int} (hl : p.length = q.length) (hq : Tr q) (h : ∀ i, co p i = co q i ∨ co p i = -co q i) : Tr p := tr_of_lead fun hp z => by
  have hq0 : q ≠ [] := fun z => by rw [z] at hl; exact hp (List.length_eq_zero_iff.mp hl)
  have := hq.lead hq0
  unfold lead at z this
  rw [hl] at z
  have := h (q.length - 1)
  omega
theorem PolS.ng {p : List Int} (h : PolS p) : PolS (ngV p) := ⟨tr_of_co (ngV_len p) h.1 fun i => .inr (co_ngV p i), by rw [ngV_len]; exact h.2.1, fun i => by rw [co_ngV]; have := h.2.2 i; omega⟩
theorem flp_or (p : List Int) (i : Nat) : co (flp p) i = co p i ∨ co (flp p) i = -co p i := by
  rw [co_flp, co_ngL]
  rcases sg_or i with s | s <;> rw [s] <;> omega
theorem PolS.fl {p : List Int} (h : PolS p) : PolS (flp p) := ⟨tr_of_co (flp_len p) h.1 (flp_or p), by rw [flp_len]; exact h.2.1, fun i => by have := h.2.2 i; have := flp_or p i; omega⟩
theorem polS_nil : PolS [] := ⟨tr_nil, by decide, fun i => by rw [co_nil]; decide⟩
theorem polS_nrm {p : List Int} {b : Nat} (h : Tr p) (hl : p.length ≤ 5) (hn : nrm p ≤ 2 ^ b) (hb : b ≤ 30) : PolS p := ⟨h, hl, fun i => by
  have h1 := co_le_nrm p i
  have h2 : 2 ^ b ≤ 2 ^ 30 := pow_up hb
  omega⟩

section
variable {w : World} {K : PySem.W.Frag} {mg : Str → Option Value} {base : Heap}
abbrev sLaw : Stmt := topS 85
abbrev nLaw : List Str := ["_law_script", "_law_row", "_law_core", "_law_left", "_law_echo", "_law_way", "_law_some", "_law_at", "_law_told", "_law_gap_here", "_law_due", "_law_bottom", "_law_number"]
theorem scLaw : FnScope nLaw ["_law_script"] (defScope sLaw) := ⟨rfl, rfl, rfl, by decide +kernel, rfl, by decide +kernel, by decide +kernel⟩
def spLaw (K : PySem.W.Frag) : Sp := fun vs H Q _ => ∃ (a : Addr) (ns : List Int), vs = [.ref a] ∧ SqL K H a (ns.map V.int) ∧ ∀ H', Q (.bl true) H'
structure Calls (w : World) (K : PySem.W.Frag) (mg : Str → Option Value) (base : Heap) : Prop where
  ladder : Cal w K mg base 44 "_law_ladder" pLLad (spLLad K)
  echo : Cal w K mg base 52 "echo_polys" ["ladder"] (spEchoOf K true)
  worth : Cal w K mg base 43 "_law_worth" ["_law_row"] (spWorth K)
  taken : Cal w K mg base 41 "_law_taken" ["_law_row", "_law_many"] (spTaken K)
  pick : Cal w K mg base 42 "_law_pick" ["_law_row", "_law_things"] (spPick K)
  trim : Cal w K mg base 41 "_law_trim" ["_law_some"] (spLTrim K)
  flip : Cal w K mg base 41 "_law_flip" ["_law_one"] (sp1 K flp)
  poly : Cal w K mg base 42 "_law_poly" ["_law_row", "_law_most", "_law_size"] (spLPoly K)
  filter : Cal w K mg base 49 "filter_ladder" ["left", "echo"] (spFilter K)
  gap : Cal w K mg base 43 "_law_gap" ["_law_left", "_law_echo"] (spDiff K)
  isLeft : Cal w K mg base 46 "is_left" ["one"] (spOnLeft K)
  plus : Cal w K mg base 42 "_law_plus" ["_law_one", "_law_other"] (sp2 K plus)
  fits : Cal w K mg base 41 "_law_fits" ["_law_ladder_here"] (spFits K)
  imp : Cal w K mg base 51 "ladder_impedance" ["ladder"] (spLadImp K)
  fn : Cal w K mg base 47 "function" ["top", "bottom"] (spFunction' K)
theorem law_body (G : Gl0 mg base) (C : Calls w K mg base) (f : Addr) (cdv : Value) (A : Around) (outer : List Env) (s : Shared) (H : Hp) (vs : List V) (Q : VK) (E : XK) (hr : Room 52 (A.deeper (envOfC "law" (defScope sLaw) s.heap.objs.size f cdv))) (h : spLaw K vs H Q E) :
    ∃ t, PSs (cxOf CX0 PW w K mg base nLaw "law" (defScope sLaw) f cdv A outer s H E).nox (defBody sLaw) t ∧ t { nx := fun _ H' => Q .non H', rt := Q } (start nLaw vs) H := by
  · obtain ⟨sa, ns, rfl, hsa, k⟩ := h
    have hu : A.units + 3 + 65 < cLine := by have := hr.un; show A.units + 3 + 65 < cLine; have h : (A.deeper (envOfC "law" (defScope sLaw) s.heap.objs.size f cdv)).units = A.units + 3 := rfl; omega
    refine ⟨_, pss_cons (ps_set (i := 1) scLaw.nd rfl (.inl rfl) (pe_lst (pa_cons (pv 0) (pa_cons pe_int (pa_cons pe_int (pa_cons pe_int pa_nil))))))
      (pss_cons (ps_set (i := 2) scLaw.nd rfl (.inl rfl) (pe_callC rfl C.ladder hr (by decide) (pa_cons (pv 1) (pa_cons pe_int (pa_cons pe_str (pa_cons pe_str pa_nil))))))
      (pss_cons (ps_asg (pe_callC rfl C.echo hr (by decide) (pa_cons (pe_op op_catA (pv 2) (pe_tup (pa_cons (pe_tup (pa_cons (pe_ifExp (pt_cmpR op_eq (pe_at (pe_at (pv 2) (pe_un un_neg pe_int)) pe_int) pe_str (nomark _)) pe_str pe_str) (pa_cons pe_str (pa_cons (pe_callC rfl C.worth hr (by decide) (pa_cons (pv 1) pa_nil)) pa_nil)))) pa_nil))) pa_nil))
        (pg_tup rfl (pgs_cons (pg_name (i := 3) scLaw.nd rfl (.inl rfl)) (pgs_cons (pg_name (i := 4) scLaw.nd rfl (.inl rfl)) pgs_nil))))
      (pss_cons (ps_set (i := 5) scLaw.nd rfl (.inl rfl) (pe_callC rfl C.taken hr (by decide) (pa_cons (pv 1) (pa_cons pe_int pa_nil))))
      (pss_cons (ps_if (pt_cmpR op_eq (pv 5) pe_int (nomark _))
        (pss_cons (ps_set (i := 6) scLaw.nd rfl (.inl rfl) (pe_list G.list (pv 3)))
        (pss_cons (ps_set (i := 7) scLaw.nd rfl (.inl rfl) (pe_callC rfl C.taken hr (by decide) (pa_cons (pv 1) (pa_cons (pe_len G.len (pv 6)) pa_nil))))
        (pss_cons (ps_asg (pe_op op_add (pe_at (pv 6) (pv 7)) (pe_callC rfl C.pick hr (by decide) (pa_cons (pv 1) (pa_cons (pe_lst (pa_cons pe_int (pa_cons (pe_un un_neg pe_int) (pa_cons pe_int (pa_cons (pe_op op_mulA (pe_un un_neg pe_int) (pe_at (pv 6) (pv 7))) pa_nil))))) pa_nil)))) (pg_sub (pv 6) (pv 7) set_listN))
        (pss_one (ps_set (i := 3) scLaw.nd rfl (.inl rfl) (pe_callC rfl C.trim hr (by decide) (pa_cons (pv 6) pa_nil))))))) pss_nil)
      (pss_cons (ps_if (pt_cmpR op_eq (pv 5) pe_int (nomark _))
        (pss_one (ps_set (i := 4) scLaw.nd rfl (.inl rfl) (pe_callC rfl C.pick hr (by decide) (pa_cons (pv 1) (pa_cons (pe_lst (pa_cons (pe_tuple G.tuple (pe_lc (own := [("_law_number", 12)]) (g := gName 12) (tt := tYes) rfl scLaw.nd (pi_tup (pv 4)) (blkOk_by (N := nLaw) (sc := defScope sLaw) (by decide +kernel))
          (fun _ _ _ _ _ => pg_name (i := 12) scLaw.nd rfl (.inl rfl)) (fun _ _ _ _ _ => pts_nil) (fun _ _ _ _ _ => pe_un un_neg (pv 12))))
            (pa_cons (pe_callC rfl C.flip hr (by decide) (pa_cons (pv 4) pa_nil)) (pa_cons (pv 3) (pa_cons (pe_tup pa_nil) (pa_cons (pe_callC rfl C.poly hr (by decide) (pa_cons (pv 1) (pa_cons pe_int (pa_cons pe_int pa_nil)))) pa_nil)))))) pa_nil))))) pss_nil)
      (pss_cons (ps_if (pt_cmpR op_eq (pv 5) pe_int (nomark _))
        (pss_one (ps_par (i := 3) (j := 4) rfl scLaw.nd rfl rfl (by decide) rfl rfl (pa_cons (pe_callC rfl C.poly hr (by decide) (pa_cons (pv 1) (pa_cons pe_int (pa_cons pe_int pa_nil)))) (pa_cons (pe_callC rfl C.poly hr (by decide) (pa_cons (pv 1) (pa_cons pe_int (pa_cons pe_int pa_nil)))) pa_nil)) (by rfl))) pss_nil)
      (pss_cons (ps_par (i := 8) (j := 9) rfl scLaw.nd rfl rfl (by decide) rfl rfl (pa_cons (pe_callC rfl C.filter hr (by decide) (pa_cons (pv 3) (pa_cons (pv 4) pa_nil))) (pa_cons (pe_callC rfl C.gap hr (by decide) (pa_cons (pv 3) (pa_cons (pv 4) pa_nil))) pa_nil)) (by rfl))
      (pss_cons (ps_set (i := 10) scLaw.nd rfl (.inl rfl) (pe_and (pe_cmpR (op_neP hr.units) (pv 3) (pe_tup pa_nil) (nomark _)) (pe_and (pe_callC rfl C.isLeft hr (by decide) (pa_cons (pv 3) pa_nil)) (pe_and (pe_cmpR op_gt (pe_len G.len (pv 3)) pe_int (nomark _)) (pe_and (pe_cmpR op_eq (pe_len G.len (pv 9)) pe_int (nomark _)) (pe_one (pe_cmpR op_gt (pe_at (pv 9) pe_int) pe_int (nomark _))))))))
      (pss_cons (ps_if (pt_cmpR op_ne (pe_cmp (pc_notN (pv 8))) (pv 10) (nomark _)) (pss_one (ps_ret pe_bl)) pss_nil)
      (pss_cons (ps_if (pt_cmp (pc_isN (pv 8))) (pss_one (ps_ret pe_bl)) pss_nil)
      (pss_cons (ps_set (i := 11) scLaw.nd rfl (.inl rfl) (pe_callC rfl C.plus hr (by decide) (pa_cons (pv 3) (pa_cons (pe_tuple G.tuple (pe_lc (own := [("_law_number", 12)]) (g := gName 12) (tt := tYes) rfl scLaw.nd (pi_tup (pv 4)) (blkOk_by (N := nLaw) (sc := defScope sLaw) (by decide +kernel))
          (fun _ _ _ _ _ => pg_name (i := 12) scLaw.nd rfl (.inl rfl)) (fun _ _ _ _ _ => pts_nil) (fun _ _ _ _ _ => pe_un un_neg (pv 12)))) pa_nil))))
      (pss_cons (ps_if (pt_cmpR op_ne (pe_at (pe_at (pv 8) (pe_un un_neg pe_int)) pe_int) pe_str (nomark _)) (pss_one (ps_ret pe_bl)) pss_nil)
      (pss_cons (ps_if (PW.pt (pw_and (pt_val (pe_callC rfl C.fits hr (by decide) (pa_cons (pv 8) pa_nil))) (pw_and1 (pt_cmpR (op_neF hr.units) (pe_callC rfl C.imp hr (by decide) (pa_cons (pv 8) pa_nil)) (pe_callC rfl C.fn hr (by decide) (pa_cons (pe_callC rfl C.plus hr (by decide) (pa_cons (pv 3) (pa_cons (pv 4) pa_nil))) (pa_cons (pv 11) pa_nil))) (nomark _))))) (pss_one (ps_ret pe_bl)) pss_nil)
      (pss_cons (ps_for PassesOwn.never rfl (pi_range1 (by rfl) G.range (pa_cons (pe_op op_sub (pe_len G.len (pv 8)) pe_int) pa_nil)) (pg_name (i := 7) scLaw.nd rfl (.inl rfl))
        (pss_one (ps_if (PW.pt (pw_or (pt_cmpR (op_notInD hu) (pe_slice sl_seq (pe_at (pv 8) (pv 7)) po_none (po_some pe_int)) (pe_lst (pa_cons (pe_tup (pa_cons pe_str (pa_cons pe_str pa_nil))) (pa_cons (pe_tup (pa_cons pe_str (pa_cons pe_str pa_nil))) pa_nil))) (by with_unfolding_all rfl))
          (pw_or (pt_cmpR op_eq (pe_at (pe_at (pv 8) (pv 7)) pe_int) (pe_at (pe_at (pv 8) (pe_op op_add (pv 7) pe_int)) pe_int) (nomark _)) (pw_or1 (pt_cmpR op_lt (pe_at (pe_at (pe_at (pv 8) (pv 7)) pe_int) pe_int) pe_int (nomark _)))))) (pss_one (ps_ret pe_bl)) pss_nil)))
      (pss_one (ps_ret (pe_cmpR op_eq (pe_len G.len (pv 8)) (pe_len G.len (pv 3)) (nomark _)))))))))))))))))), ?_⟩
    have sz : ∀ m, m ≤ 100000 → m ≤ sizeLine := fun m h => sz_of h
    refine ⟨_, rfl, sz4, fun R nR => ?_⟩
    have row1 : RowV K (upd H R (.lst [.ref sa, .int 0, .int 3383, .int 0])) R (sa, ns) := ⟨0, 3383, 0, upd_same, ex_l (Ex.new nR) hsa, by decide, by decide, by decide⟩
    refine ⟨_, rfl, R, (sa, ns), rfl, row1, fun vc H2 core t _ row2 hlad hc1 hc4 hok halt => ?_⟩
    clear row1
    obtain ⟨ca, xs, rfl, hA, hl, hf⟩ := hlad
    have hl' : xs.length = core.length := by rw [hl, List.length_map]
    have hxs : xs ≠ [] := fun z => by rw [z] at hl'; simp at hl'; omega
    obtain ⟨xl, hxl, ra, ry, rfl, hra, hry⟩ := hf (core.length - 1) (rnOf (core[core.length - 1]'(by omega))) (by rw [List.getElem?_map, List.getElem?_eq_getElem (by omega)]; rfl)
    generalize (rnOf (core[core.length - 1]'(by omega))).1 = lpl at hra
    generalize (rnOf (core[core.length - 1]'(by omega))).2.1 = lkd at hra
    clear hry
    have hat : atI xs (-1) = some (.ref ra) := atI_last' (by rw [hl']; exact hxl)
    generalize hpl : (if lpl = "P" then ("S" : Str) else "P") = pl
    have hpl2 : pl = "S" ∨ pl = "P" := by rw [← hpl]; split <;> simp
    refine ⟨_, rfl, ?_⟩
    refine tIf_via (v := .str pl) (H1 := H2) (fun Rr hR => ?_) ?_
    · refine ⟨_, rfl, _, rfl, ca, _, _, _, rfl, rfl, .inl hA, hat, ra, _, _, _, rfl, rfl, .inl hra, rfl, rfl, _, rfl, ?_⟩
      by_cases hP : lpl = "P"
      · rw [decide_eq_true (congrArg V.str hP)]
        rw [if_pos hP] at hpl
        rw [← hpl] at hR
        exact iteT hR
      · rw [decide_eq_false (fun z => hP (V.str.inj z))]
        rw [if_neg hP] at hpl
        rw [← hpl] at hR
        exact iteF hR
    refine ⟨_, rfl, R, (sa, ns), rfl, row2, fun v3 H3 n d rk3 row3 hv hn hd hn6 hd4 hg => ⟨sz3, fun p np => ⟨sz1, fun q nq => ?_⟩⟩⟩
    have tk3 := rk3.tk row2
    have ep : Ex H3 (upd H3 p (.tup [.str pl, .str "R", v3])) := Ex.new np
    have hp : SqT K (upd H3 p (.tup [.str pl, .str "R", v3])) p [.str pl, .str "R", v3] := st_of upd_same
    change (upd H3 p (.tup [.str pl, .str "R", v3])) q = none at nq
    have eq : Ex (upd H3 p (.tup [.str pl, .str "R", v3])) (upd (upd H3 p (.tup [.str pl, .str "R", v3])) q (.tup [.ref p])) := Ex.new nq
    have hq : SqT K (upd (upd H3 p (.tup [.str pl, .str "R", v3])) q (.tup [.ref p])) q [.ref p] := st_of upd_same
    refine ⟨ca, q, xs, [.ref p], rfl, rfl, ex_t (ep.trans eq) (tk3 _ _ hA), hq, by simp; exact sz _ (by omega), fun z => absurd z hxs, fun _ z => absurd z (by simp), fun _ _ r nr => ?_⟩
    have er : Ex (upd (upd H3 p (.tup [.str pl, .str "R", v3])) q (.tup [.ref p])) (upd (upd (upd H3 p (.tup [.str pl, .str "R", v3])) q (.tup [.ref p])) r (.tup (xs ++ [.ref p]))) := Ex.new nr
    have hr6 : SqT K (upd (upd (upd H3 p (.tup [.str pl, .str "R", v3])) q (.tup [.ref p])) r (.tup (xs ++ [.ref p]))) r (xs ++ [.ref p]) := st_of upd_same
    generalize upd (upd (upd H3 p (.tup [.str pl, .str "R", v3])) q (.tup [.ref p])) r (.tup (xs ++ [.ref p])) = H6 at er hr6
    have e36 : Ex H3 H6 := (ep.trans eq).trans er
    have hlad6 : LadV K H6 (.ref r) (core.map rnOf ++ lastR pl n d) := by
      refine Rgs.lad (Rgs.snoc (rs := core.map rnOf) (r := (pl, "R", n, d)) ((show Rgs K H2 xs (core.map rnOf) from ⟨hl, hf⟩).tk (tk3.trans (TK.of e36))) ?_) hr6
      exact ⟨p, v3, rfl, ex_t (eq.trans er) hp, hv.ex e36⟩
    have hokl : OkLad core pl n d := by
      refine ⟨hc4, fun rr hrr => ?_⟩
      rcases List.mem_append.mp hrr with hrr | hrr
      · obtain ⟨c, hc, rfl⟩ := List.mem_map.mp hrr
        obtain ⟨o1, o2, o3, o4, o5⟩ := hok c hc
        obtain ⟨cs, cn, cd⟩ := c
        dsimp only at o1 o2 o3 o4 o5
        cases cs
        · exact ⟨.inr rfl, .inr (.inr rfl), o1, o2, by show cn ≤ _; omega, by show cd ≤ _; omega, o5⟩
        · exact ⟨.inl rfl, .inr (.inl rfl), o1, o2, by show cn ≤ _; omega, by show cd ≤ _; omega, o5⟩
      · have : rr = ((pl, "R", n, d) : Rn) := by simpa [lastR] using hrr
        subst this
        exact ⟨hpl2, .inl rfl, hn, hd, by show n ≤ _; omega, by show d ≤ _; omega, hg⟩
    have hc0 : core ≠ [] := fun z => by rw [z] at hc1; simp at hc1
    refine ⟨.ref r, core, pl, n, d, rfl, hlad6, hokl, hc1, alt_ne hn hd halt (fun c hc => ⟨(hok c hc).1, (hok c hc).2.1⟩) hc0, fun v7 H7 G1 G2 e7 hv7 RR => ?_⟩
    have I := impP_ok (r := 3) (n := n) (d := d) ⟨hn, hd, by omega, by omega⟩ core fun c hc => ⟨(hok c hc).1, (hok c hc).2.1, by have := (hok c hc).2.2.1; have := (hok c hc).1; omega, by have := (hok c hc).2.2.2.1; have := (hok c hc).2.1; omega⟩
    have hm20 : 3 + core.length * (3 + 1) + 1 ≤ 20 := by omega
    have nG1 : nrm G1 ≤ 2 ^ 20 := Nat.le_trans RR.nrm1 (Nat.le_trans (dfT_nrm I.n1 I.n2) (pow_up hm20))
    have nG2 : nrm G2 ≤ 2 ^ 20 := Nat.le_trans RR.nrm2 (Nat.le_trans (nrm_addL _ _) (Nat.le_trans (pow_two I.n1 I.n2) (pow_up hm20)))
    have lG1 : G1.length ≤ 5 := RR.len1 (Nat.le_trans (dfT_len I.l1 I.l2) (by omega))
    have lG2 : G2.length ≤ 5 := RR.len2 (by rw [addL_len]; have := I.l1; have := I.l2; omega)
    have tG1 := RR.tr1
    have tG2 := RR.tr2
    have hG2 := RR.ne2
    have row7 := row3.ex (e36.trans e7)
    clear RR I hlad6 hr6 er hq hp eq ep nq np nr e36 e7 hokl hf hl hl' hxl hra hat hA hv tk3 rk3 row2 row3 hsa nR
    obtain ⟨ta, zl0, ze0, rfl, ht, hL0, hE0⟩ := (show FunV K H7 v7 G2 G1 from hv7)
    clear hv7
    refine ⟨ta, _, rfl, ht, rfl, _, _, rfl, _, _, rfl, rfl, ?_⟩
    refine ⟨_, rfl, R, (sa, ns), 4, rfl, row7, by decide, fun wy H8 hwy rk8 row8 => ?_⟩
    have hL8 := hL0.tk (rk8.tk row7)
    have hE8 := hE0.tk (rk8.tk row7)
    have sG1 : PolS G1 := polS_nrm tG1 lG1 nG1 (by decide)
    have sG2 : PolS G2 := polS_nrm tG2 lG2 nG2 (by decide)
    dsimp only [gName, tSeq]
    let St : L2.St → Hp → Prop := fun σ H' => RowV K H' R (sa, ns) ∧ ∃ (zl ze : V) (L E : List Int) (y6 y7 : Option V), σ = [some (.ref sa), some (.ref R), some (.ref ca), some zl, some ze, some (.int (wy : Nat)), y6, y7, none, none, none, none, none] ∧ PolyV K H' zl L ∧ PolyV K H' ze E ∧ PolS L ∧ PolS E
    refine tIfS_via St (fun N hN => ?_) (fun σ H9 hP => ?_)
    · refine ⟨_, rfl, rfl, _, rfl, ?_⟩
      by_cases hw1 : ((wy : Nat) : Int) = 1
      · rw [decide_eq_true (congrArg V.int hw1)]
        obtain ⟨la, rfl, hla⟩ := hL8
        refine iteT ⟨_, rfl, la, _, rfl, .inr hla, fun M nM => ?_⟩
        have hMR := row8.new nM
        have row9 := row8.ex (Ex.new (o := .lst (G2.map V.int)) nM)
        have hM9 : (upd H8 M (.lst (G2.map V.int))) M = some (.lst (G2.map V.int)) := upd_same
        have hE9 := hE8.ex (Ex.new (o := .lst (G2.map V.int)) nM)
        generalize upd H8 M (.lst (G2.map V.int)) = H9 at row9 hM9 hE9
        have lpos : 0 < G2.length := List.length_pos_iff.mpr hG2
        refine ⟨_, rfl, _, rfl, M, _, rfl, .inr (sq_of hM9), R, (sa, ns), G2.length, by rw [List.length_map]; rfl, row9, lpos, fun r1 H10 hr1 rk10 row10 => ?_⟩
        have hM10 := rk10 _ _ hMR hM9
        have hE10 := hE9.tk (rk10.tk row9)
        refine ⟨_, rfl, _, rfl, M, _, _, .int (co G2 r1), rfl, rfl, .inr (sq_of hM10), atI_ints hr1, _, rfl, _, rfl, _, rfl, _, rfl, _, rfl, M, _, _, .int (co G2 r1), rfl, rfl, .inr (sq_of hM10), atI_ints hr1, _, _, rfl, rfl, cmul_of (m := 1) (n := 30) (by decide) (by have := sG2.2.2 r1; omega) (by decide), sz _ (by simp), fun T nT => ?_⟩
        have eT : Ex H10 (upd H10 T (.lst [.int 1, .int (-1), .int 2, .int (-2 * co G2 r1)])) := Ex.new nT
        refine ⟨R, T, (sa, ns), _, rfl, row10.ex eT, upd_same, row10.new nT, by simp, fun r2 x H12 hx rk12 row12 => ?_⟩
        have hM12 := rk12 _ _ hMR (eT _ _ hM10)
        have hE12 := (hE10.ex eT).tk (rk12.tk (row10.ex eT))
        have b2 := co_le_nrm G2 r1
        obtain ⟨δ, rfl, hδ1, hδ2⟩ : ∃ δ : Int, x = .int δ ∧ -(2 ^ 22) ≤ δ ∧ δ ≤ 2 ^ 22 := by
          have hr2 := (List.getElem?_eq_some_iff.mp hx).1
          have hr2' : r2 < 4 := hr2
          obtain h | h | h | h : r2 = 0 ∨ r2 = 1 ∨ r2 = 2 ∨ r2 = 3 := by omega
          · subst h; exact ⟨1, (Option.some.inj hx).symm, by decide, by decide⟩
          · subst h; exact ⟨-1, (Option.some.inj hx).symm, by decide, by decide⟩
          · subst h; exact ⟨2, (Option.some.inj hx).symm, by decide, by decide⟩
          · subst h; exact ⟨-2 * co G2 r1, (Option.some.inj hx).symm, by omega, by omega⟩
        refine ⟨_, _, rfl, rfl, _, rfl, _, rfl, M, _, r1, rfl, rfl, hM12, by rw [List.length_map]; exact hr1, ?_⟩
        have es : (G2.map V.int).set r1 (.int (co G2 r1 + δ)) = (G2.set r1 (co G2 r1 + δ)).map V.int := by rw [List.map_set]
        refine ⟨_, rfl, M, G2.set r1 (co G2 r1 + δ), rfl, by rw [List.length_set]; omega, .inr (sq_of (by rw [upd_same, es])), fun v H14 e14 hv14 => hN _ _ ⟨?_, v, _, trim (G2.set r1 (co G2 r1 + δ)), G1, _, _, rfl, hv14, (hE12.tk (TK.mut hM12)).ex e14, ⟨tr_trim _, Nat.le_trans (trim_len _) (by rw [List.length_set]; exact lG2), fun i => ?_⟩, sG1⟩⟩
        · exact (row8.mut2 nM row12).ex e14
        · rw [co_trim, co_set hr1]
          have := co_le_nrm G2 i
          split <;> omega
      · rw [decide_eq_false (fun z => hw1 (V.int.inj z))]
        exact iteF (hN _ _ ⟨row8, zl0, ze0, G2, G1, _, _, rfl, hL8, hE8, sG2, sG1⟩)
    clear hL0 hE0 hL8 hE8 row7 row8 rk8 sG1 sG2 nG1 nG2 lG1 lG2 tG1 tG2 hG2 ht
    obtain ⟨row9, zl, ze, L, E1, y6, y7, rfl, hL, hE, sL, sE⟩ := hP
    dsimp only [tSeq]
    refine tIfS_via St (fun N hN => ?_) (fun σ H10 hP => ?_)
    · refine ⟨_, rfl, rfl, _, rfl, ?_⟩
      by_cases hw2 : ((wy : Nat) : Int) = 2
      · rw [decide_eq_true (congrArg V.int hw2)]
        obtain ⟨ea, rfl, hea⟩ := hE
        refine iteT ⟨_, rfl, _, rfl, ea, rfl, ⟨_, hea⟩, fun D hD => ?_⟩
        refine lc_out E1.length (fun i => .int (-co E1 i)) (by have := sE.2.1; omega) hD (fun i H' hi e => ⟨_, _, ex_t e hea, ints_at hi⟩) (fun H' e => ⟨_, ex_t e hea, by rw [List.length_map]; exact Nat.le_refl _⟩) (fun i H' x H2' hi e y => ?_) gName_mono (fun H11 e11 hl11 => ?_)
        · obtain ⟨rfl, fx⟩ := y
          have ex := Option.some.inj ((fx _ (ex_t e hea)).symm.trans (ints_at hi))
          subst ex
          exact ⟨rfl, fun R hR => ⟨_, rfl, _, rfl, hR _ (Ex.refl _)⟩⟩
        · refine ⟨D, (ngV E1).map V.int, rfl, .inr (sq_ints hl11), fun a1 H12 e12 ha1 => ?_⟩
          have e912 := e11.trans e12
          refine ⟨_, rfl, .ref ea, E1, rfl, ⟨ea, rfl, ex_t e912 hea⟩, by have := sE.2.1; omega, fun v2 H13 e13 hv2 => ⟨_, rfl, sz _ (by decide), fun u nu => ⟨_, rfl, R, (sa, ns), 2, rfl, ?_, by decide, fun v4 H15 pp rk15 row15 hv4 trp bp hpl4 => ⟨sz _ (by simp), fun T nT => ?_⟩⟩⟩⟩
          · exact row9.ex ((e912.trans e13).trans (Ex.new nu))
          · have row14 := row9.ex ((e912.trans e13).trans (Ex.new (o := .tup []) nu))
            have tk15 := rk15.tk row14
            have eT : Ex H15 (upd H15 T (.lst [.ref a1, v2, zl, .ref u, v4])) := Ex.new nT
            refine ⟨R, T, (sa, ns), [.ref a1, v2, zl, .ref u, v4], rfl, row15.ex eT, upd_same, row15.new nT, by simp, fun r x H16 hx rk16 row16 => ?_⟩
            have tk16 := rk16.tk (row15.ex eT)
            have tkA : TK K H15 H16 := (TK.of eT).trans tk16
            have hL16 := hL.tk ((TK.of ((e912.trans e13).trans (Ex.new nu))).trans (tk15.trans tkA))
            have hx' : ∃ p, PolyV K H16 x p ∧ PolS p := by
              have hr2 := (List.getElem?_eq_some_iff.mp hx).1
              have hr2' : r < 5 := hr2
              obtain h | h | h | h | h : r = 0 ∨ r = 1 ∨ r = 2 ∨ r = 3 ∨ r = 4 := by omega
              · subst h; cases hx
                exact ⟨ngV E1, PolyV.tk (H := H12) ⟨a1, rfl, ha1⟩ ((TK.of (e13.trans (Ex.new nu))).trans (tk15.trans tkA)), sE.ng⟩
              · subst h; cases hx
                exact ⟨flp E1, hv2.tk ((TK.of (Ex.new nu)).trans (tk15.trans tkA)), sE.fl⟩
              · subst h; cases hx
                exact ⟨L, hL16, sL⟩
              · subst h; cases hx
                exact ⟨[], nilV.tk (tk15.trans tkA), polS_nil⟩
              · subst h; cases hx
                exact ⟨pp, hv4.tk tkA, ⟨trp, by omega, fun i => by have := bp i; omega⟩⟩
            obtain ⟨p, hp, sp⟩ := hx'
            exact hN _ _ ⟨row16, zl, x, L, p, y6, y7, rfl, hL16, hp, sL, sp⟩
      · rw [decide_eq_false (fun z => hw2 (V.int.inj z))]
        exact iteF (hN _ _ ⟨row9, zl, ze, L, E1, y6, y7, rfl, hL, hE, sL, sE⟩)
    clear row9 hL hE sL sE
    obtain ⟨row9, zl, ze, L, E1, y6, y7, rfl, hL, hE, sL, sE⟩ := hP
    dsimp only [tSeq]
    refine tIfS_via St (fun N hN => ?_) (fun σ H10 hP => ?_)
    · refine ⟨_, rfl, rfl, _, rfl, ?_⟩
      by_cases hw3 : ((wy : Nat) : Int) = 3
      · rw [decide_eq_true (congrArg V.int hw3)]
        refine iteT ⟨_, rfl, R, (sa, ns), 3, rfl, row9, by decide, fun v1 H11 p1 rk11 row11 hv1 trp1 bp1 hl1 => ⟨_, rfl, R, (sa, ns), 3, rfl, row11, by decide, fun v2 H12 p2 rk12 row12 hv2 trp2 bp2 hl2 => ⟨_, _, rfl, ?_⟩⟩⟩
        exact hN _ _ ⟨row12, v1, v2, p1, p2, y6, y7, rfl, hv1.tk (rk12.tk row11), hv2, ⟨trp1, by omega, fun i => by have := bp1 i; omega⟩, ⟨trp2, by omega, fun i => by have := bp2 i; omega⟩⟩
      · rw [decide_eq_false (fun z => hw3 (V.int.inj z))]
        exact iteF (hN _ _ ⟨row9, zl, ze, L, E1, y6, y7, rfl, hL, hE, sL, sE⟩)
    clear row9 hL hE sL sE
    obtain ⟨_, zl, ze, L, E1, y6, y7, rfl, hL, hE, sL, sE⟩ := hP
    clear St
    have dueE : ∀ {H12 : Hp} {σ' : L2.St} {gv : V} {Rr : VK}, σ'[3]? = some (some zl) → σ'[9]? = some (some gv) → PolyV K H12 zl L → PolyV K H12 gv (gapP L E1) → (∀ H13, Ex H12 H13 → Rr (.bl (dueB L E1)) H13) →
        tAndV (tOp (rNeP K) (tVar 3) (tTup tNil)) (tAndV (tCall (spOnLeft K) [] E0 (tCons (tVar 3) tNil)) (tAndV (tOp (rI0 fun i j => .bl (decide (j < i))) (tCB (rLenS K) (tCons (tVar 3) tNil)) (tC (.int 1))) (tAndV (tOp rEq (tCB (rLenS K) (tCons (tVar 9) tNil)) (tC (.int 1))) (tOp (rI0 fun i j => .bl (decide (j < i))) (tOp (rIxQ K) (tVar 9) (tC (.int 0))) (tC (.int 0)))))) σ' H12 Rr := fun {H12 σ' gv Rr} h3 h9 hl hg hR => by
      refine ⟨_, h3, sz _ (by decide), fun t0 nt0 => ⟨L, [], hl.ex (Ex.new nt0), nilV, _, rfl, ?_⟩⟩
      have e1 : Ex H12 (upd H12 t0 (.tup [])) := Ex.new nt0
      generalize upd H12 t0 (.tup []) = H13 at e1
      by_cases hL0 : L = []
      · rw [decide_eq_true hL0]
        refine iteF ?_
        have : dueB L E1 = false := by unfold dueB; rw [hL0]; rfl
        rw [← this]
        exact hR _ e1
      · rw [decide_eq_false hL0]
        refine iteT ⟨_, h3, zl, L, rfl, hl.ex e1, sL.ok, hL0, fun H14 e2 => ⟨hur L, rfl, ?_⟩⟩
        by_cases c2 : hur L = true
        · rw [c2]
          obtain ⟨la, rfl, hla⟩ := hl.ex (e1.trans e2)
          obtain ⟨ga, rfl, hga⟩ := hg.ex (e1.trans e2)
          refine iteT ⟨_, h3, la, _, rfl, .inl hla, _, _, rfl, rfl, _, rfl, ?_⟩
          rw [List.length_map]
          by_cases c1 : 2 ≤ L.length
          · rw [decide_eq_true (show (1 : Int) < (L.length : Int) by omega)]
            refine iteT ⟨_, h9, ga, _, rfl, .inl hga, rfl, _, rfl, ?_⟩
            rw [List.length_map]
            by_cases c3 : (gapP L E1).length = 1
            · rw [decide_eq_true (congrArg V.int (show ((gapP L E1).length : Int) = 1 by omega))]
              refine iteT ⟨_, h9, ga, _, _, .int (co (gapP L E1) 0), rfl, rfl, .inl hga, atI_ints (i := 0) (by omega), _, _, rfl, rfl, ?_⟩
              have hne : co (gapP L E1) 0 ≠ 0 := by
                have tg : Tr (gapP L E1) := tr_minus _ _
                have := tg.lead (fun z => by rw [z] at c3; simp at c3)
                unfold lead at this
                rw [c3] at this
                exact this
              have e : decide (0 < co (gapP L E1) 0) = dueB L E1 := by
                unfold dueB
                rw [decide_eq_true c1, c2, decide_eq_true c3, Bool.true_and, Bool.true_and, Bool.true_and]
                by_cases h : 0 < co (gapP L E1) 0
                · rw [decide_eq_true h, decide_eq_true (by omega)]
                · rw [decide_eq_false h, decide_eq_false (by omega)]
              have := hR _ (e1.trans e2)
              rw [← e] at this
              exact this
            · rw [decide_eq_false (fun z => c3 (by have := V.int.inj z; omega))]
              refine iteF ?_
              have : dueB L E1 = false := by unfold dueB; rw [decide_eq_false c3]; simp
              rw [← this]
              exact hR _ (e1.trans e2)
          · rw [decide_eq_false (show ¬ (1 : Int) < (L.length : Int) by omega)]
            refine iteF ?_
            have : dueB L E1 = false := by unfold dueB; rw [decide_eq_false c1]; rfl
            rw [← this]
            exact hR _ (e1.trans e2)
        · rw [Bool.not_eq_true] at c2
          rw [c2]
          refine iteF ?_
          have : dueB L E1 = false := by unfold dueB; rw [c2]; simp
          rw [← this]
          exact hR _ (e1.trans e2)
    refine ⟨_, rfl, _, rfl, zl, ze, L, E1, rfl, hL, hE, sL.ok, sE.ok, sL.2.1, fun hdue H11 e11 => ?_, fun hdue v H11 cr rp nr dr e11 hlad fin => ?_⟩
    · refine ⟨_, rfl, _, rfl, zl, ze, L, E1, rfl, hL.ex e11, hE.ex e11, sL.ok, sE.ok, fun gv H12 e12 hg => ⟨_, _, rfl, ?_⟩⟩
      refine dueE rfl rfl (hL.ex (e11.trans e12)) hg fun H13 e13 => ?_
      rw [hdue]
      refine ⟨_, rfl, _, rfl, rfl, _, rfl, ?_⟩
      refine iteF ⟨_, rfl, _, rfl, ?_⟩
      exact iteT (k _)
    · refine ⟨_, rfl, _, rfl, zl, ze, L, E1, rfl, hL.ex e11, hE.ex e11, sL.ok, sE.ok, fun gv H12 e12 hg => ⟨_, _, rfl, ?_⟩⟩
      refine dueE rfl rfl (hL.ex (e11.trans e12)) hg fun H13 e13 => ?_
      rw [hdue]
      have e1013 := (e11.trans e12).trans e13
      have hlad13 := hlad.ex (e12.trans e13)
      have hL13 := hL.ex e1013
      have hE13 := hE.ex e1013
      clear dueE hg hL hE hlad e11 e12 e13 e1013
      obtain ⟨va, xs, rfl, hva, hxl, hxf⟩ := hlad13
      refine ⟨_, rfl, _, rfl, rfl, _, rfl, ?_⟩
      refine iteF ⟨_, rfl, _, rfl, ?_⟩
      refine iteF ?_
      -- the bottom
      obtain ⟨ea, rfl, hea⟩ := hE13
      refine ⟨_, rfl, _, rfl, ea, rfl, ⟨_, hea⟩, fun D hD => ?_⟩
      refine lc_out E1.length (fun i => .int (-co E1 i)) (by have := sE.2.1; omega) hD (fun i H' hi e => ⟨_, _, ex_t e hea, ints_at hi⟩) (fun H' e => ⟨_, ex_t e hea, by rw [List.length_map]; exact Nat.le_refl _⟩) (fun i H' x H2' hi e y => ?_) gName_mono (fun H14 e14 hl14 => ?_)
      · obtain ⟨rfl, fx⟩ := y
        have ex := Option.some.inj ((fx _ (ex_t e hea)).symm.trans (ints_at hi))
        subst ex
        exact ⟨rfl, fun R hR => ⟨_, rfl, _, rfl, hR _ (Ex.refl _)⟩⟩
      refine ⟨D, (ngV E1).map V.int, rfl, .inr (sq_ints hl14), fun a1 H15 e15 ha1 => ?_⟩
      have l5 := sL.2.1
      have l5e := sE.2.1
      refine ⟨zl, .ref a1, L, ngV E1, rfl, hL13.ex (e14.trans e15), ⟨a1, rfl, ha1⟩, by omega, by rw [ngV_len]; omega, fun vb H16 e16 hvb => ?_⟩
      have e1316 := (e14.trans e15).trans e16
      have hva16 := ex_t e1316 hva
      have hL16 := hL13.ex e1316
      have hE16 := PolyV.ex (H := H13) ⟨ea, rfl, hea⟩ e1316
      have hR16 : Rgs K H16 xs (cr.map rnOf ++ lastR (plS rp) nr dr) := (show Rgs K H13 xs _ from ⟨hxl, hxf⟩).tk (TK.of e1316)
      clear hva hea hL13 hD hl14 ha1 e14 e15 e16 e1316 hxf
      have hxl2 : xs.length = cr.length + 1 := by rw [hxl]; simp [lastR]
      obtain ⟨f1, ⟨s0, f2⟩, f3, f4, f5⟩ := fin
      -- the last rung
      obtain ⟨xl, hxl3, la, ly, rfl, hla, _⟩ := hR16.2 cr.length (plS rp, "R", nr, dr) (by rw [List.getElem?_append_right (by simp)]; simp [lastR])
      have hat : atI xs (-1) = some (.ref la) := atI_last' (by rw [hxl2]; exact hxl3)
      refine ⟨_, rfl, _, rfl, va, _, _, _, rfl, rfl, .inl hva16, hat, la, _, _, _, rfl, rfl, .inl hla, rfl, rfl, _, rfl, iteF ?_⟩
      have hLv : LadV K H16 (.ref va) (cr.map rnOf ++ lastR (plS rp) nr dr) := hR16.lad hva16
      have hlr : (cr.map rnOf ++ lastR (plS rp) nr dr).length = cr.length + 1 := by simp [lastR]
      have hokS : ∀ r ∈ cr.map rnOf ++ lastR (plS rp) nr dr, OkS r := fun r hr => by
        rcases List.mem_append.mp hr with hr | hr
        · obtain ⟨c, hc, rfl⟩ := List.mem_map.mp hr
          obtain ⟨cs, cn, cd⟩ := c
          cases cs
          · exact ⟨sok_P, sok_C⟩
          · exact ⟨sok_S, sok_L⟩
        · have : r = ((plS rp, "R", nr, dr) : Rn) := by simpa [lastR] using hr
          subst this
          cases rp
          · exact ⟨sok_P, sok_R⟩
          · exact ⟨sok_S, sok_R⟩
      dsimp only [tNext, tSeq]
      refine tIfS_via (fun σ H' => Ex H16 H' ∧ σ = [some (.ref sa), some (.ref R), some (.ref ca), some zl, some (.ref ea), some (.int (wy : Nat)), y6, y7, some (.ref va), some gv, some (.bl true), some vb, none]) (fun N hN => ?_) (fun σ H17 hP => ?_)
      · refine ⟨_, rfl, .ref va, _, rfl, hLv, by omega, hokS, fun H17 b e17 hb => ⟨b, rfl, ?_⟩⟩
        cases b
        · exact iteF (iteF (hN _ _ ⟨e17, rfl⟩))
        · have hfits := hb rfl
          have hokl : OkLad cr (plS rp) nr dr := by
            refine ⟨by omega, fun r hr => ?_⟩
            obtain ⟨j, hj, hj2⟩ := List.getElem_of_mem hr
            have hbad := hfits j r (by rw [List.getElem?_eq_getElem hj, hj2])
            have hb1 : ¬ (10 : Int) ^ 60 < (if r.2.2.2 > r.2.2.1 then r.2.2.2 else r.2.2.1) := of_decide_eq_false hbad
            have hb2 : r.2.2.1 ≤ 10 ^ 60 ∧ r.2.2.2 ≤ 10 ^ 60 := by split at hb1 <;> omega
            rcases List.mem_append.mp hr with hr | hr
            · obtain ⟨c, hc, rfl⟩ := List.mem_map.mp hr
              obtain ⟨o1, o2, o3⟩ := f3 c hc
              obtain ⟨cs, cn, cd⟩ := c
              cases cs
              · exact ⟨.inr rfl, .inr (.inr rfl), o1, o2, hb2.1, hb2.2, o3⟩
              · exact ⟨.inl rfl, .inr (.inl rfl), o1, o2, hb2.1, hb2.2, o3⟩
            · have : r = ((plS rp, "R", nr, dr) : Rn) := by simpa [lastR] using hr
              subst this
              refine ⟨?_, .inl rfl, f4.1, f4.2.1, hb2.1, hb2.2, f4.2.2⟩
              cases rp
              · exact .inr rfl
              · exact .inl rfl
          obtain ⟨n, c, hln, hc, gap, hgood⟩ := due_math sL.1 sE.1 hdue
          have hcop := cop_gap hc gap
          have nzT : ∃ x, ev (addL L E1) x ≠ 0 := by
            rcases hgood with g | g
            · exact good_ne1 g
            · exact good_ne g
          have nzB : ∃ x, ev (dif L E1) x ≠ 0 := by
            rcases hgood with g | g
            · exact good_ne g
            · exact good_ne1 g
          have I := hokl.lad.imp 0
          rw [List.drop_zero] at I
          refine iteT ⟨_, rfl, .ref va, cr, plS rp, nr, dr, rfl, hLv.ex e17, hokl, fun vi H18 J1 J2 e18 hvi RJ => ?_⟩
          refine ⟨_, rfl, _, rfl, zl, .ref ea, L, E1, rfl, hL16.ex (e17.trans e18), hE16.ex (e17.trans e18), by omega, by omega, fun vt H19 e19 hvt => ?_⟩
          have oP : ∀ {p : List Int}, Tr p → p.length ≤ 5 → (∀ i, -(2 ^ 31) ≤ co p i ∧ co p i ≤ 2 ^ 31) → OkP p := fun h1 h2 h3 => ⟨h1, by omega, fun i => by have := h3 i; omega⟩
          have evB : ∀ x, ev (plus L (ngV E1)) x = ev (dif L E1) x := fun x => by
            rw [ev_plus, ev_dif]
            have : ev (ngV E1) x = ev (smul (-1) E1) x := ev_of_co (fun i => by rw [co_ngV, co_smul]; omega) x
            rw [this, ev_smul]; omega
          have hpb : plus L (ngV E1) ≠ [] := fun z => by
            obtain ⟨x, hx⟩ := nzB
            rw [← evB, z] at hx
            exact hx rfl
          have n99 : ∀ {a : Nat}, a ≤ 2 ^ 205 → a ≤ 2 ^ 9999 := fun h => Nat.le_trans h (pow_up (by decide))
          refine ⟨_, rfl, vt, vb, plus L E1, plus L (ngV E1), addL L E1, dif L E1, rfl, hvt, hvb.ex ((e17.trans e18).trans e19), oP (tr_plus _ _) (plus_len l5 l5e) (fun i => by rw [co_plus]; have := sL.2.2 i; have := sE.2.2 i; omega), oP (tr_plus _ _) (plus_len l5 (by rw [ngV_len]; exact l5e)) (fun i => by rw [co_plus, co_ngV]; have := sL.2.2 i; have := sE.2.2 i; omega), hpb, fun x => by rw [evB, ev_plus, ev_addL]; grind, hcop, n99 (Nat.le_trans (nrm_addL _ _) (pow_two sL.ok.n sE.ok.n)), n99 (dfT_nrm sL.ok.n sE.ok.n), nzT, fun vf H20 F1 F2 e20 hvf RF => ?_⟩
          obtain ⟨q1, q2⟩ := rep_eq RJ RF I.cop hcop fun x => by have := f5 x; rw [Int.mul_comm, ← this, Int.mul_comm]
          refine ⟨J1, J2, F1, F2, hvi.ex (e19.trans e20), hvf, _, rfl, ?_⟩
          rw [decide_eq_true ⟨q1, q2⟩]
          exact iteF (hN _ _ ⟨((e17.trans e18).trans e19).trans e20, rfl⟩)
      · obtain ⟨e17, rfl⟩ := hP
        have hva17 := ex_t e17 hva16
        have hR17 := hR16.tk (TK.of e17)
        refine ⟨_, rfl, va, _, rfl, .inl hva17, _, _, rfl, rfl, _, rfl, by omega, by omega, ?_⟩
        rw [show ((xs.length : Int) - 1).toNat = cr.length by omega]
        refine for_range (fun i σ H' => Ex H17 H' ∧ ∃ y7', σ = [some (.ref sa), some (.ref R), some (.ref ca), some zl, some (.ref ea), some (.int (wy : Nat)), y6, y7', some (.ref va), some gv, some (.bl true), some vb, none]) ⟨Ex.refl _, y7, rfl⟩ (fun i σ H18 hi h => ?_) (fun σ H18 h => ?_)
        · obtain ⟨e18, y7', rfl⟩ := h
          rw [Int.zero_add]
          obtain ⟨c, hc⟩ : ∃ c, cr[i]? = some c := ⟨_, List.getElem?_eq_getElem hi⟩
          have hri : (cr.map rnOf ++ lastR (plS rp) nr dr)[i]? = some (rnOf c) := by
            rw [List.getElem?_append_left (by rw [List.length_map]; exact hi), List.getElem?_map, hc]; rfl
          obtain ⟨r1, hr1⟩ : ∃ r, (cr.map rnOf ++ lastR (plS rp) nr dr)[i + 1]? = some r := ⟨_, List.getElem?_eq_getElem (by omega)⟩
          have hp0 := alt_pl cr s0 rp nr dr f2 i _ hri
          have hp1 := alt_pl cr s0 rp nr dr f2 (i + 1) _ hr1
          have hpl : (rnOf c).1 ≠ r1.1 := by
            rw [hp0, hp1]
            intro z
            have := plS_inj z
            by_cases h2 : i % 2 = 0
            · rw [if_pos h2, if_neg (by omega)] at this
              cases s0 <;> cases this
            · rw [if_neg h2, if_pos (by omega)] at this
              cases s0 <;> cases this
          obtain ⟨x0, hx0, a0, y0, rfl, ha0, b0, rfl, hb0⟩ := (hR17.tk (TK.of e18)).2 i _ hri
          obtain ⟨x1, hx1, a2, y2, rfl, ha2, _⟩ := (hR17.tk (TK.of e18)).2 (i + 1) _ hr1
          have hva18 := ex_t e18 hva17
          obtain ⟨o1, o2, o3⟩ := f3 c (List.mem_of_getElem? hc)
          refine ⟨_, rfl, _, rfl, va, _, _, _, rfl, rfl, .inl hva18, atI_nat hx0, _, rfl, a0, _, rfl, .inl ⟨ha0, fun p1 H19 e19 hp1' => ?_⟩⟩
          have hcut : cutV [V.str (rnOf c).1, V.str (rnOf c).2.1, V.ref b0] none (some 2) = [V.str (rnOf c).1, V.str (rnOf c).2.1] := rfl
          rw [hcut] at hp1'
          refine ⟨sz2, fun t1 nt1 => ⟨sz2, fun t2 nt2 => ⟨sz2, fun tl ntl => ?_⟩⟩⟩
          have ht1 : SqT K (upd (upd (upd H19 t1 (.tup [.str "S", .str "L"])) t2 (.tup [.str "P", .str "C"])) tl (.lst [.ref t1, .ref t2])) t1 [.str "S", .str "L"] := ex_t ((Ex.new nt2).trans (Ex.new ntl)) (st_of upd_same)
          have ht2 : SqT K (upd (upd (upd H19 t1 (.tup [.str "S", .str "L"])) t2 (.tup [.str "P", .str "C"])) tl (.lst [.ref t1, .ref t2])) t2 [.str "P", .str "C"] := ex_t (Ex.new ntl) (st_of upd_same)
          have htl : SqL K (upd (upd (upd H19 t1 (.tup [.str "S", .str "L"])) t2 (.tup [.str "P", .str "C"])) tl (.lst [.ref t1, .ref t2])) tl [.ref t1, .ref t2] := sq_of upd_same
          have e20 : Ex H19 (upd (upd (upd H19 t1 (.tup [.str "S", .str "L"])) t2 (.tup [.str "P", .str "C"])) tl (.lst [.ref t1, .ref t2])) := ((Ex.new nt1).trans (Ex.new nt2)).trans (Ex.new ntl)
          have hp2 := ex_t e20 hp1'
          have hva20 := ex_t (e19.trans e20) hva18
          have ha020 := ex_t (e19.trans e20) ha0
          have ha220 := ex_t (e19.trans e20) ha2
          have hb020 := ex_t (e19.trans e20) hb0
          generalize upd (upd (upd H19 t1 (.tup [.str "S", .str "L"])) t2 (.tup [.str "P", .str "C"])) tl (.lst [.ref t1, .ref t2]) = H20 at ht1 ht2 htl e20 hp2 hva20 ha020 ha220 hb020
          refine ⟨.tuple [.str (rnOf c).1, .str (rnOf c).2.1], [.tuple [.str "S", .str "L"], .tuple [.str "P", .str "C"]], .tup hp2 (.cons (.str _) (.cons (.str _) .nil)), .lst htl (.cons (.tup ht1 (.cons (.str _) (.cons (.str _) .nil))) (.cons (.tup ht2 (.cons (.str _) (.cons (.str _) .nil))) .nil)), ?_, by decide +kernel, _, rfl, ?_⟩
          · obtain ⟨cs, cn, cd⟩ := c
            cases cs
            · show SeqAt.shaped (.tuple [.str "P", .str "C"]) = true
              decide +kernel
            · show SeqAt.shaped (.tuple [.str "S", .str "L"]) = true
              decide +kernel
          have hin : (!([PyData.tuple [.str "S", .str "L"], .tuple [.str "P", .str "C"]].any fun z => PyData.eqv z (.tuple [.str (rnOf c).1, .str (rnOf c).2.1]))) = false := by
            obtain ⟨cs, cn, cd⟩ := c
            cases cs
            · show (!([PyData.tuple [.str "S", .str "L"], .tuple [.str "P", .str "C"]].any fun z => PyData.eqv z (.tuple [.str "P", .str "C"]))) = false
              decide +kernel
            · show (!([PyData.tuple [.str "S", .str "L"], .tuple [.str "P", .str "C"]].any fun z => PyData.eqv z (.tuple [.str "S", .str "L"]))) = false
              decide +kernel
          rw [hin]
          refine iteF ⟨_, rfl, _, rfl, va, _, _, _, rfl, rfl, .inl hva20, atI_nat hx0, a0, _, _, _, rfl, rfl, .inl ha020, rfl, _, rfl, _, rfl, _, _, rfl, rfl, va, _, _, _, rfl, rfl, .inl hva20, (by rw [show ((i : Nat) : Int) + 1 = ((i + 1 : Nat) : Int) by omega]; exact atI_nat hx1), a2, _, _, _, rfl, rfl, .inl ha220, rfl, rfl, _, rfl, ?_⟩
          rw [decide_eq_false (fun z => hpl (V.str.inj z))]
          refine iteF ⟨_, rfl, _, rfl, va, _, _, _, rfl, rfl, .inl hva20, atI_nat hx0, a0, _, _, _, rfl, rfl, .inl ha020, rfl, b0, _, _, _, rfl, rfl, .inl hb020, at0, _, _, rfl, rfl, _, rfl, ?_⟩
          have hge : ¬ (rnOf c).2.2.1 < 1 := by rw [(rnOf3 c).1]; omega
          rw [decide_eq_false hge]
          exact iteF ⟨(e18.trans e19).trans e20, _, rfl⟩
        · obtain ⟨e18, y7', rfl⟩ := h
          obtain ⟨zla, rfl, hzl⟩ := hL16.ex (e17.trans e18)
          refine ⟨_, rfl, va, _, rfl, .inl (ex_t e18 hva17), _, rfl, zla, _, rfl, .inl hzl, rfl, ?_⟩
          have hLl : 2 ≤ L.length := by
            obtain ⟨n, c, hln, _⟩ := due_math sL.1 sE.1 hdue
            omega
          rw [List.length_map, decide_eq_true (congrArg V.int (show (xs.length : Int) = (L.length : Int) by omega))]
          exact k _
theorem law_fn {f : Addr} {fd : FuncData} (F : Fun K "law" "law" sLaw f fd) (G : Gl0 mg base) (C : Calls w K mg base) : FnOk PW w K mg base CX0 53 f fd ["_law_script"] (spLaw K) :=
  F.ok scLaw (fun vs H Q E h => by obtain ⟨a, ns, rfl, _⟩ := h; rfl) (law_body G C f)
end
end Kf
end

section
set_option Elab.async false
set_option linter.all false
set_option maxRecDepth 100000
set_option maxHeartbeats 4000000
namespace Kf
open PySem PySem.Spec PyProof.Rows L2 Lx Evl Pm RZ StX

/-! ### where the defs stand -/
structure Defs (K : PySem.W.Frag) (mg : Str → Option Value) : Prop where
  isInt : DefAt K mg "is_int" sIsInt ["value"]
  isIn : DefAt K mg "is_in" sIsIn ["value", "least", "most"]
  isPoly : DefAt K mg "is_poly" sIsPoly ["value"]
  needPoly : DefAt K mg "need_poly" sNeedPoly ["value"]
  needNz : DefAt K mg "need_nonzero" sNeedNz ["value"]
  small : DefAt K mg "small" sSmall ["one"]
  trimmed : DefAt K mg "trimmed" sTrimmed ["some"]
  plus : DefAt K mg "poly_plus" sPlus ["one", "other"]
  scaled : DefAt K mg "scaled" sScaled ["one", "factor"]
  minus : DefAt K mg "poly_minus" sMinus ["one", "other"]
  times : DefAt K mg "poly_times" sTimes ["one", "other"]
  content : DefAt K mg "content" sContent ["one"]
  primitive : DefAt K mg "primitive" sPrimitive ["one"]
  rem : DefAt K mg "remainder" sRem ["one", "other"]
  common : DefAt K mg "common" sCommon ["one", "other"]
  quo : DefAt K mg "quotient" sQuo ["one", "other"]
  flipped : DefAt K mg "flipped" sFlipped ["one"]
  even : DefAt K mg "even_part" sEven ["one"]
  odd : DefAt K mg "odd_part" sOdd ["one"]
  made : DefAt K mg "made" sMade ["top", "bottom"]
  function : DefAt K mg "function" sFunction ["top", "bottom"]
  plusOf : DefAt K mg "plus_of" sPlusOf ["one", "other"]
  minusOf : DefAt K mg "minus_of" sMinusOf ["one", "other"]
  timesOf : DefAt K mg "times_of" sTimesOf ["one", "other"]
  backOf : DefAt K mg "back_of" sBackOf ["one"]
  overOf : DefAt K mg "over_of" sOverOf ["one", "other"]
  constOf : DefAt K mg "constant_of" sConstOf ["told"]
  impOf : DefAt K mg "impedance_of" sImpOf ["part"]
  rungImp : DefAt K mg "rung_impedance" sRungImp ["rung"]
  isRatio : DefAt K mg "is_ratio" sIsRatio ["value"]
  isRung : DefAt K mg "is_rung" sIsRung ["value"]
  needLad : DefAt K mg "need_ladder" sNeedLad ["value"]
  beside : DefAt K mg "beside" sBeside ["one", "other"]
  impFrom : DefAt K mg "impedance_from" sImpFrom ["ladder"]
  ladImp : DefAt K mg "ladder_impedance" sLadImp ["ladder"]
  needFil : DefAt K mg "need_filter" sNeedFil ["value"]
  echoOf : DefAt K mg "echo_of_ladder" sEchoOf ["ladder"]
  echoPolys : DefAt K mg "echo_polys" sEchoPolys ["ladder"]
  less : DefAt K mg "less_lead" sLess ["first", "second", "shifted"]
  onLeft : DefAt K mg "is_on_left" sOnLeft ["one"]
  isLeft : DefAt K mg "is_left" sIsLeft ["one"]
  ratio : DefAt K mg "ratio" sRatio ["top", "bottom"]
  far : DefAt K mg "far_value" sFar ["one"]
  diff : DefAt K mg "difference" sDiff ["left", "echo"]
  steps : DefAt K mg "steps_of" sSteps ["one"]
  filter : DefAt K mg "filter_ladder" sFilter ["left", "echo"]
  ltrim : DefAt K mg "_law_trim" sLTrim ["_law_some"]
  ltimes : DefAt K mg "_law_times" sLTimes ["_law_one", "_law_other"]
  lplus : DefAt K mg "_law_plus" sLPlus ["_law_one", "_law_other"]
  lflip : DefAt K mg "_law_flip" sLFlip ["_law_one"]
  lgap : DefAt K mg "_law_gap" sLGap ["_law_left", "_law_echo"]
  lshared : DefAt K mg "_law_shared" sLShared ["_law_one", "_law_other"]
  lratio : DefAt K mg "_law_ratio" sLRatio ["_law_top", "_law_bottom"]
  taken : DefAt K mg "_law_taken" sTaken ["_law_row", "_law_many"]
  pick : DefAt K mg "_law_pick" sPick ["_law_row", "_law_things"]
  worth : DefAt K mg "_law_worth" sWorth ["_law_row"]
  poly : DefAt K mg "_law_poly" sLPoly ["_law_row", "_law_most", "_law_size"]
  llad : DefAt K mg "_law_ladder" sLLad ["_law_row", "_law_most", "_law_series", "_law_across"]
  fits : DefAt K mg "_law_fits" sFits ["_law_ladder_here"]
theorem calls_of {w : World} {K : PySem.W.Frag} {mg : Str → Option Value} {base : Heap} (D : Defs K mg) (G : Gl0 mg base) (Gv : Gc K mg) (hz : ∃ a, mg "ZERO" = some (.ref a)) : Calls w K mg base := by
  have c_isInt := ok_isInt (w := w) (base := base) D.isInt G
  have c_isIn := ok_isIn (w := w) (base := base) D.isIn c_isInt
  have c_isPoly := ok_isPoly (w := w) (base := base) D.isPoly G c_isIn
  have c_needPoly := ok_needPoly (w := w) (base := base) D.needPoly c_isPoly
  have c_needNz := ok_needNz (w := w) (base := base) D.needNz c_needPoly
  have c_small := ok_small (w := w) (base := base) D.small G
  have c_trimmed := ok_trimmed (w := w) (base := base) D.trimmed G
  have c_plus := ok_plus (w := w) (base := base) D.plus G c_trimmed
  have c_scaled := ok_scaled (w := w) (base := base) D.scaled G c_trimmed
  have c_minus := ok_minus (w := w) (base := base) D.minus c_plus c_scaled
  have c_times := ok_times (w := w) (base := base) D.times G c_trimmed
  have c_content := ok_content (w := w) (base := base) D.content G
  have c_primitive := ok_primitive (w := w) (base := base) D.primitive G c_content
  have c_rem := ok_rem (w := w) (base := base) D.rem G c_content c_scaled c_minus
  have c_common := ok_common (w := w) (base := base) D.common c_rem c_primitive
  have c_quo := ok_quo (w := w) (base := base) D.quo G c_trimmed
  have c_flipped := ok_flipped (w := w) (base := base) D.flipped G
  have c_even := ok_even (w := w) (base := base) D.even c_trimmed
  have c_odd := ok_odd (w := w) (base := base) D.odd c_trimmed
  have c_made := ok_made (w := w) (base := base) D.made G c_common c_quo c_content
  have c_function := ok_function (w := w) (base := base) D.function c_needPoly c_made
  have c_plusOf := ok_plusOf (w := w) (base := base) D.plusOf c_times c_plus c_made
  have c_minusOf := ok_minusOf (w := w) (base := base) D.minusOf c_times c_minus c_made
  have c_timesOf := ok_timesOf (w := w) (base := base) D.timesOf c_times c_made
  have c_backOf := ok_backOf (w := w) (base := base) D.backOf c_made
  have c_overOf := ok_overOf (w := w) (base := base) D.overOf c_timesOf c_backOf
  have c_constOf := ok_constOf (w := w) (base := base) D.constOf hz
  have c_impOf := ok_impOf (w := w) (base := base) D.impOf Gv c_constOf c_timesOf c_backOf
  have c_rungImp := ok_rungImp (w := w) (base := base) D.rungImp c_impOf
  have c_isRatio := ok_isRatio (w := w) (base := base) D.isRatio G c_isInt
  have c_isRung := ok_isRung (w := w) (base := base) D.isRung G Gv c_isRatio
  have c_needLad := ok_needLad (w := w) (base := base) D.needLad G c_isRung
  have c_beside := ok_beside (w := w) (base := base) D.beside c_timesOf c_plusOf c_overOf
  have c_impFrom := ok_impFrom (w := w) (base := base) D.impFrom G c_rungImp c_plusOf c_beside
  have c_ladImp := ok_ladImp (w := w) (base := base) D.ladImp c_needLad c_impFrom c_small
  have c_needFil := ok_needFil (w := w) (base := base) D.needFil G c_needLad
  have c_echoOf := ok_echoOf (w := w) (base := base) D.echoOf Gv c_impFrom c_plusOf c_minusOf c_overOf
  have c_echoPolys := ok_echoPolys (w := w) (base := base) D.echoPolys c_needFil c_echoOf c_small
  have c_less := ok_less (w := w) (base := base) D.less G
  have c_onLeft := ok_onLeft (w := w) (base := base) D.onLeft G c_even c_odd c_less
  have c_isLeft := ok_isLeft (w := w) (base := base) D.isLeft c_needNz c_onLeft
  have c_ratio := ok_ratio (w := w) (base := base) D.ratio G
  have c_far := ok_far (w := w) (base := base) D.far c_ratio
  have c_diff := ok_diff (w := w) (base := base) D.diff c_times c_flipped c_minus
  have c_steps := ok_steps (w := w) (base := base) D.steps G Gv c_far c_constOf c_timesOf c_minusOf c_backOf
  have c_filter := ok_filter (w := w) (base := base) D.filter G c_needPoly c_diff c_onLeft c_scaled c_minus c_plus c_made c_steps
  have c_ltrim := ok_ltrim (w := w) (base := base) D.ltrim G
  have c_ltimes := ok_ltimes (w := w) (base := base) D.ltimes G c_ltrim
  have c_lplus := ok_lplus (w := w) (base := base) D.lplus G c_ltrim
  have c_lflip := ok_lflip (w := w) (base := base) D.lflip G
  have c_lgap := ok_lgap (w := w) (base := base) D.lgap G c_ltimes c_lplus c_lflip
  have c_lshared := ok_lshared (w := w) (base := base) D.lshared G
  have c_lratio := ok_lratio (w := w) (base := base) D.lratio G c_lshared
  have c_taken := ok_taken (w := w) (base := base) D.taken G
  have c_pick := ok_pick (w := w) (base := base) D.pick G c_taken
  have c_worth := ok_worth (w := w) (base := base) D.worth c_taken c_lratio
  have c_poly := ok_lpoly (w := w) (base := base) D.poly G c_taken c_ltrim
  have c_llad := ok_llad (w := w) (base := base) D.llad G c_taken c_worth
  have c_fits := ok_fits (w := w) (base := base) D.fits G
  exact ⟨c_llad, c_echoPolys, c_worth, c_taken, c_pick, c_ltrim, c_lflip, c_poly, c_filter, c_lgap, c_isLeft, c_lplus, c_fits, c_ladImp, c_function⟩
/-! ### more of the heap told -/
theorem fun_mono {K K' : PySem.W.Frag} (E : ∀ a o, K.lookup a = some o → K'.lookup a = some o) {x : Str} {st : Stmt} {f : Addr} {fd : FuncData} (F : Fun K x x st f fd) : Fun K' x x st f fd := by
  obtain ⟨oc, od, kV, doc, pm, an, cdv, ct, osl, e, l, c⟩ := F.ex
  refine ⟨⟨oc, od, kV, doc, pm, an, cdv, ct, osl, e, E _ _ l, ?_⟩, ?_⟩
  · unfold PySem.W.codeIn at c ⊢
    cases cdv with
    | ref b =>
      dsimp only at c ⊢
      cases hb : K.lookup b with
      | none => rw [hb] at c; exact absurd (show false = true from c) Bool.false_ne_true
      | some ob => rw [hb] at c; rw [E _ _ hb]; exact c
    | _ => exact absurd (show false = true from c) Bool.false_ne_true
  · unfold PySem.W.keepIn
    dsimp only
    rw [E _ _ l]
theorem DefAt.mono {K K' : PySem.W.Frag} {mg : Str → Option Value} (E : ∀ a o, K.lookup a = some o → K'.lookup a = some o) {x : Str} {st : Stmt} {ps : List Str} (D : DefAt K mg x st ps) : DefAt K' mg x st ps := by
  obtain ⟨f, fd, F, b, g⟩ := D
  exact ⟨f, fd, fun_mono E F, fun s us h hl => b s us (fun a o e => h a o (E a o e)) hl, g⟩
theorem sqt_mono {K K' : PySem.W.Frag} (E : ∀ a o, K.lookup a = some o → K'.lookup a = some o) {H : Hp} {a : Addr} {xs : List V} (h : SqT K H a xs) : SqT K' H a xs := by
  rcases h with h | ⟨o, its, n, h, r⟩
  · exact .inl h
  · exact .inr ⟨o, its, n, E _ _ h, r⟩
theorem funv_mono {K K' : PySem.W.Frag} (E : ∀ a o, K.lookup a = some o → K'.lookup a = some o) {H : Hp} {v : V} {t b : List Int} (h : FunV K H v t b) : FunV K' H v t b := by
  obtain ⟨a, x, y, r, s, ⟨p, rp, hp⟩, ⟨q, rq, hq⟩⟩ := h
  exact ⟨a, x, y, r, sqt_mono E s, ⟨p, rp, sqt_mono E hp⟩, ⟨q, rq, sqt_mono E hq⟩⟩
theorem Gc.mono {K K' : PySem.W.Frag} {mg : Str → Option Value} (E : ∀ a o, K.lookup a = some o → K'.lookup a = some o) (h : Gc K mg) : Gc K' mg :=
  ⟨let ⟨a, g, s⟩ := h.one; ⟨a, g, fun H => funv_mono E (s H)⟩, let ⟨a, g, s⟩ := h.var; ⟨a, g, fun H => funv_mono E (s H)⟩, let ⟨a, g, s⟩ := h.places; ⟨a, g, fun H => sqt_mono E (s H)⟩, let ⟨a, g, s⟩ := h.kinds; ⟨a, g, fun H => sqt_mono E (s H)⟩⟩
theorem Defs.mono {K K' : PySem.W.Frag} {mg : Str → Option Value} (E : ∀ a o, K.lookup a = some o → K'.lookup a = some o) (D : Defs K mg) : Defs K' mg :=
  ⟨D.isInt.mono E, D.isIn.mono E, D.isPoly.mono E, D.needPoly.mono E, D.needNz.mono E, D.small.mono E, D.trimmed.mono E, D.plus.mono E, D.scaled.mono E, D.minus.mono E, D.times.mono E, D.content.mono E, D.primitive.mono E, D.rem.mono E, D.common.mono E, D.quo.mono E, D.flipped.mono E, D.even.mono E, D.odd.mono E, D.made.mono E, D.function.mono E, D.plusOf.mono E, D.minusOf.mono E, D.timesOf.mono E, D.backOf.mono E, D.overOf.mono E, D.constOf.mono E, D.impOf.mono E, D.rungImp.mono E, D.isRatio.mono E, D.isRung.mono E, D.needLad.mono E, D.beside.mono E, D.impFrom.mono E, D.ladImp.mono E, D.needFil.mono E, D.echoOf.mono E, D.echoPolys.mono E, D.less.mono E, D.onLeft.mono E, D.isLeft.mono E, D.ratio.mono E, D.far.mono E, D.diff.mono E, D.steps.mono E, D.filter.mono E, D.ltrim.mono E, D.ltimes.mono E, D.lplus.mono E, D.lflip.mono E, D.lgap.mono E, D.lshared.mono E, D.lratio.mono E, D.taken.mono E, D.pick.mono E, D.worth.mono E, D.poly.mono E, D.llad.mono E, D.fits.mono E⟩
/-- a def, of what the head has found -/
theorem def_mk {K : PySem.W.Frag} {h : Heap} {mg : Str → Option Value} {x : Str} {st : Stmt} {ps : List Str} {f : Addr} {oc kV dc pm cd ct : Value} {od an : Option Addr} {sl : Array (Option Value)} (X : K.In h) (G : h.Ns mainGlobals mg)
    (a : PySem.W.nsIn K mainGlobals x = some (some (.ref f))) (l : K.lookup f = some ⟨oc, od, .func (PySem.W.fnOf x x (defArgs st) (defBody st) (defScope st) .none kV dc pm an cd ct), sl⟩) (c : PySem.W.codeIn K cd x = true) (k : PySem.W.keepIn K (.ref f) = true)
    (hb : ∀ (kV doc pm : Value) (an : Option Addr) (cdv ct : Value) (us : List Value), us.length = ps.length → bindArgs (PySem.W.fnOf x x (defArgs st) (defBody st) (defScope st) .none kV doc pm an cdv ct) ⟨us, []⟩ = pure (ps.zip us)) : DefAt K mg x st ps :=
  ⟨f, _, fun_mk l c k, (fun_mk l c k).binds hb, PySem.W.mg_of X G a⟩

theorem b_isInt : ∀ (kV doc pm : Value) (an : Option Addr) (cdv ct : Value) (us : List Value), us.length = (["value"] : List Str).length → bindArgs (PySem.W.fnOf "is_int" "is_int" (defArgs sIsInt) (defBody sIsInt) (defScope sIsInt) .none kV doc pm an cdv ct) ⟨us, []⟩ = pure ((["value"] : List Str).zip us) := fun _ _ _ _ _ _ us hl => match us, hl with | [_], _ => rfl
theorem b_isIn : ∀ (kV doc pm : Value) (an : Option Addr) (cdv ct : Value) (us : List Value), us.length = (["value", "least", "most"] : List Str).length → bindArgs (PySem.W.fnOf "is_in" "is_in" (defArgs sIsIn) (defBody sIsIn) (defScope sIsIn) .none kV doc pm an cdv ct) ⟨us, []⟩ = pure ((["value", "least", "most"] : List Str).zip us) := fun _ _ _ _ _ _ us hl => match us, hl with | [_, _, _], _ => rfl
theorem b_isPoly : ∀ (kV doc pm : Value) (an : Option Addr) (cdv ct : Value) (us : List Value), us.length = (["value"] : List Str).length → bindArgs (PySem.W.fnOf "is_poly" "is_poly" (defArgs sIsPoly) (defBody sIsPoly) (defScope sIsPoly) .none kV doc pm an cdv ct) ⟨us, []⟩ = pure ((["value"] : List Str).zip us) := fun _ _ _ _ _ _ us hl => match us, hl with | [_], _ => rfl
theorem b_needPoly : ∀ (kV doc pm : Value) (an : Option Addr) (cdv ct : Value) (us : List Value), us.length = (["value"] : List Str).length → bindArgs (PySem.W.fnOf "need_poly" "need_poly" (defArgs sNeedPoly) (defBody sNeedPoly) (defScope sNeedPoly) .none kV doc pm an cdv ct) ⟨us, []⟩ = pure ((["value"] : List Str).zip us) := fun _ _ _ _ _ _ us hl => match us, hl with | [_], _ => rfl
theorem b_needNz : ∀ (kV doc pm : Value) (an : Option Addr) (cdv ct : Value) (us : List Value), us.length = (["value"] : List Str).length → bindArgs (PySem.W.fnOf "need_nonzero" "need_nonzero" (defArgs sNeedNz) (defBody sNeedNz) (defScope sNeedNz) .none kV doc pm an cdv ct) ⟨us, []⟩ = pure ((["value"] : List Str).zip us) := fun _ _ _ _ _ _ us hl => match us, hl with | [_], _ => rfl
theorem b_small : ∀ (kV doc pm : Value) (an : Option Addr) (cdv ct : Value) (us : List Value), us.length = (["one"] : List Str).length → bindArgs (PySem.W.fnOf "small" "small" (defArgs sSmall) (defBody sSmall) (defScope sSmall) .none kV doc pm an cdv ct) ⟨us, []⟩ = pure ((["one"] : List Str).zip us) := fun _ _ _ _ _ _ us hl => match us, hl with | [_], _ => rfl
theorem b_trimmed : ∀ (kV doc pm : Value) (an : Option Addr) (cdv ct : Value) (us : List Value), us.length = (["some"] : List Str).length → bindArgs (PySem.W.fnOf "trimmed" "trimmed" (defArgs sTrimmed) (defBody sTrimmed) (defScope sTrimmed) .none kV doc pm an cdv ct) ⟨us, []⟩ = pure ((["some"] : List Str).zip us) := fun _ _ _ _ _ _ us hl => match us, hl with | [_], _ => rfl
theorem b_plus : ∀ (kV doc pm : Value) (an : Option Addr) (cdv ct : Value) (us : List Value), us.length = (["one", "other"] : List Str).length → bindArgs (PySem.W.fnOf "poly_plus" "poly_plus" (defArgs sPlus) (defBody sPlus) (defScope sPlus) .none kV doc pm an cdv ct) ⟨us, []⟩ = pure ((["one", "other"] : List Str).zip us) := fun _ _ _ _ _ _ us hl => match us, hl with | [_, _], _ => rfl
theorem b_scaled : ∀ (kV doc pm : Value) (an : Option Addr) (cdv ct : Value) (us : List Value), us.length = (["one", "factor"] : List Str).length → bindArgs (PySem.W.fnOf "scaled" "scaled" (defArgs sScaled) (defBody sScaled) (defScope sScaled) .none kV doc pm an cdv ct) ⟨us, []⟩ = pure ((["one", "factor"] : List Str).zip us) := fun _ _ _ _ _ _ us hl => match us, hl with | [_, _], _ => rfl
theorem b_minus : ∀ (kV doc pm : Value) (an : Option Addr) (cdv ct : Value) (us : List Value), us.length = (["one", "other"] : List Str).length → bindArgs (PySem.W.fnOf "poly_minus" "poly_minus" (defArgs sMinus) (defBody sMinus) (defScope sMinus) .none kV doc pm an cdv ct) ⟨us, []⟩ = pure ((["one", "other"] : List Str).zip us) := fun _ _ _ _ _ _ us hl => match us, hl with | [_, _], _ => rfl
theorem b_times : ∀ (kV doc pm : Value) (an : Option Addr) (cdv ct : Value) (us : List Value), us.length = (["one", "other"] : List Str).length → bindArgs (PySem.W.fnOf "poly_times" "poly_times" (defArgs sTimes) (defBody sTimes) (defScope sTimes) .none kV doc pm an cdv ct) ⟨us, []⟩ = pure ((["one", "other"] : List Str).zip us) := fun _ _ _ _ _ _ us hl => match us, hl with | [_, _], _ => rfl
theorem b_content : ∀ (kV doc pm : Value) (an : Option Addr) (cdv ct : Value) (us : List Value), us.length = (["one"] : List Str).length → bindArgs (PySem.W.fnOf "content" "content" (defArgs sContent) (defBody sContent) (defScope sContent) .none kV doc pm an cdv ct) ⟨us, []⟩ = pure ((["one"] : List Str).zip us) := fun _ _ _ _ _ _ us hl => match us, hl with | [_], _ => rfl
theorem b_primitive : ∀ (kV doc pm : Value) (an : Option Addr) (cdv ct : Value) (us : List Value), us.length = (["one"] : List Str).length → bindArgs (PySem.W.fnOf "primitive" "primitive" (defArgs sPrimitive) (defBody sPrimitive) (defScope sPrimitive) .none kV doc pm an cdv ct) ⟨us, []⟩ = pure ((["one"] : List Str).zip us) := fun _ _ _ _ _ _ us hl => match us, hl with | [_], _ => rfl
theorem b_rem : ∀ (kV doc pm : Value) (an : Option Addr) (cdv ct : Value) (us : List Value), us.length = (["one", "other"] : List Str).length → bindArgs (PySem.W.fnOf "remainder" "remainder" (defArgs sRem) (defBody sRem) (defScope sRem) .none kV doc pm an cdv ct) ⟨us, []⟩ = pure ((["one", "other"] : List Str).zip us) := fun _ _ _ _ _ _ us hl => match us, hl with | [_, _], _ => rfl
theorem b_common : ∀ (kV doc pm : Value) (an : Option Addr) (cdv ct : Value) (us : List Value), us.length = (["one", "other"] : List Str).length → bindArgs (PySem.W.fnOf "common" "common" (defArgs sCommon) (defBody sCommon) (defScope sCommon) .none kV doc pm an cdv ct) ⟨us, []⟩ = pure ((["one", "other"] : List Str).zip us) := fun _ _ _ _ _ _ us hl => match us, hl with | [_, _], _ => rfl
theorem b_quo : ∀ (kV doc pm : Value) (an : Option Addr) (cdv ct : Value) (us : List Value), us.length = (["one", "other"] : List Str).length → bindArgs (PySem.W.fnOf "quotient" "quotient" (defArgs sQuo) (defBody sQuo) (defScope sQuo) .none kV doc pm an cdv ct) ⟨us, []⟩ = pure ((["one", "other"] : List Str).zip us) := fun _ _ _ _ _ _ us hl => match us, hl with | [_, _], _ => rfl
theorem b_flipped : ∀ (kV doc pm : Value) (an : Option Addr) (cdv ct : Value) (us : List Value), us.length = (["one"] : List Str).length → bindArgs (PySem.W.fnOf "flipped" "flipped" (defArgs sFlipped) (defBody sFlipped) (defScope sFlipped) .none kV doc pm an cdv ct) ⟨us, []⟩ = pure ((["one"] : List Str).zip us) := fun _ _ _ _ _ _ us hl => match us, hl with | [_], _ => rfl
theorem b_even : ∀ (kV doc pm : Value) (an : Option Addr) (cdv ct : Value) (us : List Value), us.length = (["one"] : List Str).length → bindArgs (PySem.W.fnOf "even_part" "even_part" (defArgs sEven) (defBody sEven) (defScope sEven) .none kV doc pm an cdv ct) ⟨us, []⟩ = pure ((["one"] : List Str).zip us) := fun _ _ _ _ _ _ us hl => match us, hl with | [_], _ => rfl
theorem b_odd : ∀ (kV doc pm : Value) (an : Option Addr) (cdv ct : Value) (us : List Value), us.length = (["one"] : List Str).length → bindArgs (PySem.W.fnOf "odd_part" "odd_part" (defArgs sOdd) (defBody sOdd) (defScope sOdd) .none kV doc pm an cdv ct) ⟨us, []⟩ = pure ((["one"] : List Str).zip us) := fun _ _ _ _ _ _ us hl => match us, hl with | [_], _ => rfl
theorem b_made : ∀ (kV doc pm : Value) (an : Option Addr) (cdv ct : Value) (us : List Value), us.length = (["top", "bottom"] : List Str).length → bindArgs (PySem.W.fnOf "made" "made" (defArgs sMade) (defBody sMade) (defScope sMade) .none kV doc pm an cdv ct) ⟨us, []⟩ = pure ((["top", "bottom"] : List Str).zip us) := fun _ _ _ _ _ _ us hl => match us, hl with | [_, _], _ => rfl
theorem b_function : ∀ (kV doc pm : Value) (an : Option Addr) (cdv ct : Value) (us : List Value), us.length = (["top", "bottom"] : List Str).length → bindArgs (PySem.W.fnOf "function" "function" (defArgs sFunction) (defBody sFunction) (defScope sFunction) .none kV doc pm an cdv ct) ⟨us, []⟩ = pure ((["top", "bottom"] : List Str).zip us) := fun _ _ _ _ _ _ us hl => match us, hl with | [_, _], _ => rfl
theorem b_plusOf : ∀ (kV doc pm : Value) (an : Option Addr) (cdv ct : Value) (us : List Value), us.length = (["one", "other"] : List Str).length → bindArgs (PySem.W.fnOf "plus_of" "plus_of" (defArgs sPlusOf) (defBody sPlusOf) (defScope sPlusOf) .none kV doc pm an cdv ct) ⟨us, []⟩ = pure ((["one", "other"] : List Str).zip us) := fun _ _ _ _ _ _ us hl => match us, hl with | [_, _], _ => rfl
theorem b_minusOf : ∀ (kV doc pm : Value) (an : Option Addr) (cdv ct : Value) (us : List Value), us.length = (["one", "other"] : List Str).length → bindArgs (PySem.W.fnOf "minus_of" "minus_of" (defArgs sMinusOf) (defBody sMinusOf) (defScope sMinusOf) .none kV doc pm an cdv ct) ⟨us, []⟩ = pure ((["one", "other"] : List Str).zip us) := fun _ _ _ _ _ _ us hl => match us, hl with | [_, _], _ => rfl
theorem b_timesOf : ∀ (kV doc pm : Value) (an : Option Addr) (cdv ct : Value) (us : List Value), us.length = (["one", "other"] : List Str).length → bindArgs (PySem.W.fnOf "times_of" "times_of" (defArgs sTimesOf) (defBody sTimesOf) (defScope sTimesOf) .none kV doc pm an cdv ct) ⟨us, []⟩ = pure ((["one", "other"] : List Str).zip us) := fun _ _ _ _ _ _ us hl => match us, hl with | [_, _], _ => rfl
theorem b_backOf : ∀ (kV doc pm : Value) (an : Option Addr) (cdv ct : Value) (us : List Value), us.length = (["one"] : List Str).length → bindArgs (PySem.W.fnOf "back_of" "back_of" (defArgs sBackOf) (defBody sBackOf) (defScope sBackOf) .none kV doc pm an cdv ct) ⟨us, []⟩ = pure ((["one"] : List Str).zip us) := fun _ _ _ _ _ _ us hl => match us, hl with | [_], _ => rfl
theorem b_overOf : ∀ (kV doc pm : Value) (an : Option Addr) (cdv ct : Value) (us : List Value), us.length = (["one", "other"] : List Str).length → bindArgs (PySem.W.fnOf "over_of" "over_of" (defArgs sOverOf) (defBody sOverOf) (defScope sOverOf) .none kV doc pm an cdv ct) ⟨us, []⟩ = pure ((["one", "other"] : List Str).zip us) := fun _ _ _ _ _ _ us hl => match us, hl with | [_, _], _ => rfl
theorem b_constOf : ∀ (kV doc pm : Value) (an : Option Addr) (cdv ct : Value) (us : List Value), us.length = (["told"] : List Str).length → bindArgs (PySem.W.fnOf "constant_of" "constant_of" (defArgs sConstOf) (defBody sConstOf) (defScope sConstOf) .none kV doc pm an cdv ct) ⟨us, []⟩ = pure ((["told"] : List Str).zip us) := fun _ _ _ _ _ _ us hl => match us, hl with | [_], _ => rfl
theorem b_impOf : ∀ (kV doc pm : Value) (an : Option Addr) (cdv ct : Value) (us : List Value), us.length = (["part"] : List Str).length → bindArgs (PySem.W.fnOf "impedance_of" "impedance_of" (defArgs sImpOf) (defBody sImpOf) (defScope sImpOf) .none kV doc pm an cdv ct) ⟨us, []⟩ = pure ((["part"] : List Str).zip us) := fun _ _ _ _ _ _ us hl => match us, hl with | [_], _ => rfl
theorem b_rungImp : ∀ (kV doc pm : Value) (an : Option Addr) (cdv ct : Value) (us : List Value), us.length = (["rung"] : List Str).length → bindArgs (PySem.W.fnOf "rung_impedance" "rung_impedance" (defArgs sRungImp) (defBody sRungImp) (defScope sRungImp) .none kV doc pm an cdv ct) ⟨us, []⟩ = pure ((["rung"] : List Str).zip us) := fun _ _ _ _ _ _ us hl => match us, hl with | [_], _ => rfl
theorem b_isRatio : ∀ (kV doc pm : Value) (an : Option Addr) (cdv ct : Value) (us : List Value), us.length = (["value"] : List Str).length → bindArgs (PySem.W.fnOf "is_ratio" "is_ratio" (defArgs sIsRatio) (defBody sIsRatio) (defScope sIsRatio) .none kV doc pm an cdv ct) ⟨us, []⟩ = pure ((["value"] : List Str).zip us) := fun _ _ _ _ _ _ us hl => match us, hl with | [_], _ => rfl
theorem b_isRung : ∀ (kV doc pm : Value) (an : Option Addr) (cdv ct : Value) (us : List Value), us.length = (["value"] : List Str).length → bindArgs (PySem.W.fnOf "is_rung" "is_rung" (defArgs sIsRung) (defBody sIsRung) (defScope sIsRung) .none kV doc pm an cdv ct) ⟨us, []⟩ = pure ((["value"] : List Str).zip us) := fun _ _ _ _ _ _ us hl => match us, hl with | [_], _ => rfl
theorem b_needLad : ∀ (kV doc pm : Value) (an : Option Addr) (cdv ct : Value) (us : List Value), us.length = (["value"] : List Str).length → bindArgs (PySem.W.fnOf "need_ladder" "need_ladder" (defArgs sNeedLad) (defBody sNeedLad) (defScope sNeedLad) .none kV doc pm an cdv ct) ⟨us, []⟩ = pure ((["value"] : List Str).zip us) := fun _ _ _ _ _ _ us hl => match us, hl with | [_], _ => rfl
theorem b_beside : ∀ (kV doc pm : Value) (an : Option Addr) (cdv ct : Value) (us : List Value), us.length = (["one", "other"] : List Str).length → bindArgs (PySem.W.fnOf "beside" "beside" (defArgs sBeside) (defBody sBeside) (defScope sBeside) .none kV doc pm an cdv ct) ⟨us, []⟩ = pure ((["one", "other"] : List Str).zip us) := fun _ _ _ _ _ _ us hl => match us, hl with | [_, _], _ => rfl
theorem b_impFrom : ∀ (kV doc pm : Value) (an : Option Addr) (cdv ct : Value) (us : List Value), us.length = (["ladder"] : List Str).length → bindArgs (PySem.W.fnOf "impedance_from" "impedance_from" (defArgs sImpFrom) (defBody sImpFrom) (defScope sImpFrom) .none kV doc pm an cdv ct) ⟨us, []⟩ = pure ((["ladder"] : List Str).zip us) := fun _ _ _ _ _ _ us hl => match us, hl with | [_], _ => rfl
theorem b_ladImp : ∀ (kV doc pm : Value) (an : Option Addr) (cdv ct : Value) (us : List Value), us.length = (["ladder"] : List Str).length → bindArgs (PySem.W.fnOf "ladder_impedance" "ladder_impedance" (defArgs sLadImp) (defBody sLadImp) (defScope sLadImp) .none kV doc pm an cdv ct) ⟨us, []⟩ = pure ((["ladder"] : List Str).zip us) := fun _ _ _ _ _ _ us hl => match us, hl with | [_], _ => rfl
theorem b_needFil : ∀ (kV doc pm : Value) (an : Option Addr) (cdv ct : Value) (us : List Value), us.length = (["value"] : List Str).length → bindArgs (PySem.W.fnOf "need_filter" "need_filter" (defArgs sNeedFil) (defBody sNeedFil) (defScope sNeedFil) .none kV doc pm an cdv ct) ⟨us, []⟩ = pure ((["value"] : List Str).zip us) := fun _ _ _ _ _ _ us hl => match us, hl with | [_], _ => rfl
theorem b_echoOf : ∀ (kV doc pm : Value) (an : Option Addr) (cdv ct : Value) (us : List Value), us.length = (["ladder"] : List Str).length → bindArgs (PySem.W.fnOf "echo_of_ladder" "echo_of_ladder" (defArgs sEchoOf) (defBody sEchoOf) (defScope sEchoOf) .none kV doc pm an cdv ct) ⟨us, []⟩ = pure ((["ladder"] : List Str).zip us) := fun _ _ _ _ _ _ us hl => match us, hl with | [_], _ => rfl
theorem b_echoPolys : ∀ (kV doc pm : Value) (an : Option Addr) (cdv ct : Value) (us : List Value), us.length = (["ladder"] : List Str).length → bindArgs (PySem.W.fnOf "echo_polys" "echo_polys" (defArgs sEchoPolys) (defBody sEchoPolys) (defScope sEchoPolys) .none kV doc pm an cdv ct) ⟨us, []⟩ = pure ((["ladder"] : List Str).zip us) := fun _ _ _ _ _ _ us hl => match us, hl with | [_], _ => rfl
theorem b_less : ∀ (kV doc pm : Value) (an : Option Addr) (cdv ct : Value) (us : List Value), us.length = (["first", "second", "shifted"] : List Str).length → bindArgs (PySem.W.fnOf "less_lead" "less_lead" (defArgs sLess) (defBody sLess) (defScope sLess) .none kV doc pm an cdv ct) ⟨us, []⟩ = pure ((["first", "second", "shifted"] : List Str).zip us) := fun _ _ _ _ _ _ us hl => match us, hl with | [_, _, _], _ => rfl
theorem b_onLeft : ∀ (kV doc pm : Value) (an : Option Addr) (cdv ct : Value) (us : List Value), us.length = (["one"] : List Str).length → bindArgs (PySem.W.fnOf "is_on_left" "is_on_left" (defArgs sOnLeft) (defBody sOnLeft) (defScope sOnLeft) .none kV doc pm an cdv ct) ⟨us, []⟩ = pure ((["one"] : List Str).zip us) := fun _ _ _ _ _ _ us hl => match us, hl with | [_], _ => rfl
theorem b_isLeft : ∀ (kV doc pm : Value) (an : Option Addr) (cdv ct : Value) (us : List Value), us.length = (["one"] : List Str).length → bindArgs (PySem.W.fnOf "is_left" "is_left" (defArgs sIsLeft) (defBody sIsLeft) (defScope sIsLeft) .none kV doc pm an cdv ct) ⟨us, []⟩ = pure ((["one"] : List Str).zip us) := fun _ _ _ _ _ _ us hl => match us, hl with | [_], _ => rfl
theorem b_ratio : ∀ (kV doc pm : Value) (an : Option Addr) (cdv ct : Value) (us : List Value), us.length = (["top", "bottom"] : List Str).length → bindArgs (PySem.W.fnOf "ratio" "ratio" (defArgs sRatio) (defBody sRatio) (defScope sRatio) .none kV doc pm an cdv ct) ⟨us, []⟩ = pure ((["top", "bottom"] : List Str).zip us) := fun _ _ _ _ _ _ us hl => match us, hl with | [_, _], _ => rfl
theorem b_far : ∀ (kV doc pm : Value) (an : Option Addr) (cdv ct : Value) (us : List Value), us.length = (["one"] : List Str).length → bindArgs (PySem.W.fnOf "far_value" "far_value" (defArgs sFar) (defBody sFar) (defScope sFar) .none kV doc pm an cdv ct) ⟨us, []⟩ = pure ((["one"] : List Str).zip us) := fun _ _ _ _ _ _ us hl => match us, hl with | [_], _ => rfl
theorem b_diff : ∀ (kV doc pm : Value) (an : Option Addr) (cdv ct : Value) (us : List Value), us.length = (["left", "echo"] : List Str).length → bindArgs (PySem.W.fnOf "difference" "difference" (defArgs sDiff) (defBody sDiff) (defScope sDiff) .none kV doc pm an cdv ct) ⟨us, []⟩ = pure ((["left", "echo"] : List Str).zip us) := fun _ _ _ _ _ _ us hl => match us, hl with | [_, _], _ => rfl
theorem b_steps : ∀ (kV doc pm : Value) (an : Option Addr) (cdv ct : Value) (us : List Value), us.length = (["one"] : List Str).length → bindArgs (PySem.W.fnOf "steps_of" "steps_of" (defArgs sSteps) (defBody sSteps) (defScope sSteps) .none kV doc pm an cdv ct) ⟨us, []⟩ = pure ((["one"] : List Str).zip us) := fun _ _ _ _ _ _ us hl => match us, hl with | [_], _ => rfl
theorem b_filter : ∀ (kV doc pm : Value) (an : Option Addr) (cdv ct : Value) (us : List Value), us.length = (["left", "echo"] : List Str).length → bindArgs (PySem.W.fnOf "filter_ladder" "filter_ladder" (defArgs sFilter) (defBody sFilter) (defScope sFilter) .none kV doc pm an cdv ct) ⟨us, []⟩ = pure ((["left", "echo"] : List Str).zip us) := fun _ _ _ _ _ _ us hl => match us, hl with | [_, _], _ => rfl
theorem b_ltrim : ∀ (kV doc pm : Value) (an : Option Addr) (cdv ct : Value) (us : List Value), us.length = (["_law_some"] : List Str).length → bindArgs (PySem.W.fnOf "_law_trim" "_law_trim" (defArgs sLTrim) (defBody sLTrim) (defScope sLTrim) .none kV doc pm an cdv ct) ⟨us, []⟩ = pure ((["_law_some"] : List Str).zip us) := fun _ _ _ _ _ _ us hl => match us, hl with | [_], _ => rfl
theorem b_ltimes : ∀ (kV doc pm : Value) (an : Option Addr) (cdv ct : Value) (us : List Value), us.length = (["_law_one", "_law_other"] : List Str).length → bindArgs (PySem.W.fnOf "_law_times" "_law_times" (defArgs sLTimes) (defBody sLTimes) (defScope sLTimes) .none kV doc pm an cdv ct) ⟨us, []⟩ = pure ((["_law_one", "_law_other"] : List Str).zip us) := fun _ _ _ _ _ _ us hl => match us, hl with | [_, _], _ => rfl
theorem b_lplus : ∀ (kV doc pm : Value) (an : Option Addr) (cdv ct : Value) (us : List Value), us.length = (["_law_one", "_law_other"] : List Str).length → bindArgs (PySem.W.fnOf "_law_plus" "_law_plus" (defArgs sLPlus) (defBody sLPlus) (defScope sLPlus) .none kV doc pm an cdv ct) ⟨us, []⟩ = pure ((["_law_one", "_law_other"] : List Str).zip us) := fun _ _ _ _ _ _ us hl => match us, hl with | [_, _], _ => rfl
theorem b_lflip : ∀ (kV doc pm : Value) (an : Option Addr) (cdv ct : Value) (us : List Value), us.length = (["_law_one"] : List Str).length → bindArgs (PySem.W.fnOf "_law_flip" "_law_flip" (defArgs sLFlip) (defBody sLFlip) (defScope sLFlip) .none kV doc pm an cdv ct) ⟨us, []⟩ = pure ((["_law_one"] : List Str).zip us) := fun _ _ _ _ _ _ us hl => match us, hl with | [_], _ => rfl
theorem b_lgap : ∀ (kV doc pm : Value) (an : Option Addr) (cdv ct : Value) (us : List Value), us.length = (["_law_left", "_law_echo"] : List Str).length → bindArgs (PySem.W.fnOf "_law_gap" "_law_gap" (defArgs sLGap) (defBody sLGap) (defScope sLGap) .none kV doc pm an cdv ct) ⟨us, []⟩ = pure ((["_law_left", "_law_echo"] : List Str).zip us) := fun _ _ _ _ _ _ us hl => match us, hl with | [_, _], _ => rfl
theorem b_lshared : ∀ (kV doc pm : Value) (an : Option Addr) (cdv ct : Value) (us : List Value), us.length = (["_law_one", "_law_other"] : List Str).length → bindArgs (PySem.W.fnOf "_law_shared" "_law_shared" (defArgs sLShared) (defBody sLShared) (defScope sLShared) .none kV doc pm an cdv ct) ⟨us, []⟩ = pure ((["_law_one", "_law_other"] : List Str).zip us) := fun _ _ _ _ _ _ us hl => match us, hl with | [_, _], _ => rfl
theorem b_lratio : ∀ (kV doc pm : Value) (an : Option Addr) (cdv ct : Value) (us : List Value), us.length = (["_law_top", "_law_bottom"] : List Str).length → bindArgs (PySem.W.fnOf "_law_ratio" "_law_ratio" (defArgs sLRatio) (defBody sLRatio) (defScope sLRatio) .none kV doc pm an cdv ct) ⟨us, []⟩ = pure ((["_law_top", "_law_bottom"] : List Str).zip us) := fun _ _ _ _ _ _ us hl => match us, hl with | [_, _], _ => rfl
theorem b_taken : ∀ (kV doc pm : Value) (an : Option Addr) (cdv ct : Value) (us : List Value), us.length = (["_law_row", "_law_many"] : List Str).length → bindArgs (PySem.W.fnOf "_law_taken" "_law_taken" (defArgs sTaken) (defBody sTaken) (defScope sTaken) .none kV doc pm an cdv ct) ⟨us, []⟩ = pure ((["_law_row", "_law_many"] : List Str).zip us) := fun _ _ _ _ _ _ us hl => match us, hl with | [_, _], _ => rfl
theorem b_pick : ∀ (kV doc pm : Value) (an : Option Addr) (cdv ct : Value) (us : List Value), us.length = (["_law_row", "_law_things"] : List Str).length → bindArgs (PySem.W.fnOf "_law_pick" "_law_pick" (defArgs sPick) (defBody sPick) (defScope sPick) .none kV doc pm an cdv ct) ⟨us, []⟩ = pure ((["_law_row", "_law_things"] : List Str).zip us) := fun _ _ _ _ _ _ us hl => match us, hl with | [_, _], _ => rfl
theorem b_worth : ∀ (kV doc pm : Value) (an : Option Addr) (cdv ct : Value) (us : List Value), us.length = (["_law_row"] : List Str).length → bindArgs (PySem.W.fnOf "_law_worth" "_law_worth" (defArgs sWorth) (defBody sWorth) (defScope sWorth) .none kV doc pm an cdv ct) ⟨us, []⟩ = pure ((["_law_row"] : List Str).zip us) := fun _ _ _ _ _ _ us hl => match us, hl with | [_], _ => rfl
theorem b_poly : ∀ (kV doc pm : Value) (an : Option Addr) (cdv ct : Value) (us : List Value), us.length = (["_law_row", "_law_most", "_law_size"] : List Str).length → bindArgs (PySem.W.fnOf "_law_poly" "_law_poly" (defArgs sLPoly) (defBody sLPoly) (defScope sLPoly) .none kV doc pm an cdv ct) ⟨us, []⟩ = pure ((["_law_row", "_law_most", "_law_size"] : List Str).zip us) := fun _ _ _ _ _ _ us hl => match us, hl with | [_, _, _], _ => rfl
theorem b_llad : ∀ (kV doc pm : Value) (an : Option Addr) (cdv ct : Value) (us : List Value), us.length = (["_law_row", "_law_most", "_law_series", "_law_across"] : List Str).length → bindArgs (PySem.W.fnOf "_law_ladder" "_law_ladder" (defArgs sLLad) (defBody sLLad) (defScope sLLad) .none kV doc pm an cdv ct) ⟨us, []⟩ = pure ((["_law_row", "_law_most", "_law_series", "_law_across"] : List Str).zip us) := fun _ _ _ _ _ _ us hl => match us, hl with | [_, _, _, _], _ => rfl
theorem b_fits : ∀ (kV doc pm : Value) (an : Option Addr) (cdv ct : Value) (us : List Value), us.length = (["_law_ladder_here"] : List Str).length → bindArgs (PySem.W.fnOf "_law_fits" "_law_fits" (defArgs sFits) (defBody sFits) (defScope sFits) .none kV doc pm an cdv ct) ⟨us, []⟩ = pure ((["_law_ladder_here"] : List Str).zip us) := fun _ _ _ _ _ _ us hl => match us, hl with | [_], _ => rfl
end Kf
end

section
set_option Elab.async false
set_option linter.all false
set_option maxRecDepth 100000
set_option maxHeartbeats 4000000
namespace Kf
open PySem PySem.W PySem.Spec PyProof.Rows

/-- no seer, the part that the rows of the top do not tell -/
def Seer2 (h : Heap) : Prop := (∃ mc, h.Ns cStatics mc ∧ mc "sys.audit-hooks" = none ∧ mc "sys.dict" = none) ∧ ∃ mm, h.Ns sysModules mm ∧ mm "_pylong" = none
theorem seer2_of {h : Heap} (x : h.noSeerOk = true) : Seer2 h := by
  unfold Heap.noSeerOk at x
  simp only [Bool.and_eq_true, Option.isNone_iff_eq_none] at x
  obtain ⟨⟨⟨⟨c1, c2⟩, c3⟩, m1⟩, m2⟩ := x
  exact ⟨⟨_, .of_isNs c1, c2, c3⟩, ⟨_, .of_isNs m1, m2⟩⟩
theorem Seer2.keeps {h h' : Heap} (x : Seer2 h) (k : ∀ b o, h.get? b = some o → h'.get? b = some o) : Seer2 h' :=
  let ⟨⟨mc, a, b, c⟩, mm, d, e⟩ := x
  ⟨⟨mc, a.keepsP k, b, c⟩, mm, d.keepsP k, e⟩
/-- what is watched at the end of the top: the written part, and that there is no seer -/
def myHook (K : Params → Frag) (as : List Addr) (e : ∀ P, as = (K P).map (·.1)) : Hook :=
  ⟨List (Option Obj) × Bool, fun s => (as.map s.heap.get?, s.heap.noSeerOk), fun w => ((K w.params).map fun p => some p.2, true), fun w h => (K w.params).In h ∧ Seer2 h,
    fun w s x => ⟨InK.of e w s (congrArg Prod.fst x), seer2_of (congrArg Prod.snd x)⟩, fun w h h' x k => ⟨Frag.In.keeps x.1 k, x.2.keeps k⟩⟩
end Kf
end

section
set_option Elab.async false
set_option linter.all false
set_option maxRecDepth 100000
set_option maxHeartbeats 4000000
namespace Kf
open PySem PySem.W PySem.Spec PyProof.Rows L2 Evl RZ

theorem look_mem {a : Addr} {o : Obj} : ∀ {l : List (Addr × Obj)}, l.lookup a = some o → (a, o) ∈ l
  | [], h => by cases h
  | (b, p) :: l, h => by
    rw [List.lookup_cons] at h
    by_cases e : (a == b) = true
    · rw [e] at h
      cases h
      rw [beq_iff_eq] at e
      subst e
      exact List.mem_cons_self
    · rw [Bool.not_eq_true] at e
      rw [e] at h
      exact List.mem_cons_of_mem _ (look_mem h)
theorem look_some {a : Addr} {o : Obj} : ∀ {l : List (Addr × Obj)}, (a, o) ∈ l → ∃ o', l.lookup a = some o'
  | (b, p) :: l, h => by
    rw [List.lookup_cons]
    by_cases e : (a == b) = true
    · rw [e]; exact ⟨p, rfl⟩
    · rw [Bool.not_eq_true] at e
      rw [e]
      rcases List.mem_cons.mp h with h | h
      · cases h
        exact absurd e (by simp)
      · exact look_some h
theorem look_app {a : Addr} {o : Obj} {l m : List (Addr × Obj)} (h : l.lookup a = some o) : (l ++ m).lookup a = some o := by
  rw [List.lookup_append, h]; rfl
structure Gl1 (mg : Str → Option Value) : Prop where
  len : mg "len" = none
  tuple : mg "tuple" = none
  list : mg "list" = none
  max : mg "max" = none
  zip : mg "zip" = none
  enumerate : mg "enumerate" = none
  range : mg "range" = none
  abs : mg "abs" = none
  isinstance : mg "isinstance" = none
  all : mg "all" = none
  any : mg "any" = none
  int : mg "int" = none
  bool : mg "bool" = none
  str : mg "str" = none
  gcd : mg "gcd" = some (.builtin "math.gcd")
  deg : ∃ t, mg "MOST_DEGREE" = some (.int 12 t)
  rungs : ∃ t, mg "MOST_RUNGS" = some (.int 13 t)
  series : ∃ t, mg "SERIES" = some (.str "S" t)
  across : ∃ t, mg "ACROSS" = some (.str "P" t)
structure Facts (K : Frag) (mg : Str → Option Value) : Prop where
  defs : Defs K mg
  law : ∃ f fd, Fun K "law" "law" sLaw f fd ∧ mg "law" = some (.ref f)
  gc : Gc K mg
  zero : ∃ a, mg "ZERO" = some (.ref a)
  gl : Gl1 mg
theorem ex_int {K : Frag} {h : Heap} {mg : Str → Option Value} {n : Str} {i : Int} {t : Tok} (X : K.In h) (G : h.Ns mainGlobals mg) (e : nsIn K mainGlobals n = some (some (.int i t))) : ∃ t, mg n = some (.int i t) := ⟨t, mg_of X G e⟩
theorem ex_str {K : Frag} {h : Heap} {mg : Str → Option Value} {n x : Str} {t : Tok} (X : K.In h) (G : h.Ns mainGlobals mg) (e : nsIn K mainGlobals n = some (some (.str x t))) : ∃ t, mg n = some (.str x t) := ⟨t, mg_of X G e⟩
theorem ex_ref {K : Frag} {h : Heap} {mg : Str → Option Value} {n : Str} {a : Addr} (X : K.In h) (G : h.Ns mainGlobals mg) (e : nsIn K mainGlobals n = some (some (.ref a))) : ∃ a, mg n = some (.ref a) := ⟨a, mg_of X G e⟩
theorem seq_of {K : Frag} {a : Addr} {o : Obj} {its : Array Value} {n : Nat} {xs : List V} (l : K.lookup a = some o) (h1 : o.cls = .type "tuple") (h2 : o.data = .seq its n) (h3 : its.size ≤ sizeLine) (h4 : Vals xs its.toList) (H : Hp) : SqT K H a xs :=
  .inr ⟨o, its, n, l, h1, h2, h3, h4⟩
theorem pair_of {K : Frag} {a x y : Addr} {o1 o2 o3 : Obj} {i2 i3 : Array Value} {n1 n2 n3 : Nat} {t b : List Int} (l1 : K.lookup a = some o1) (h1 : o1.cls = .type "tuple") (d1 : o1.data = .seq #[.ref x, .ref y] n1)
    (l2 : K.lookup x = some o2) (h2 : o2.cls = .type "tuple") (d2 : o2.data = .seq i2 n2) (s2 : i2.size ≤ sizeLine) (v2 : Vals (t.map V.int) i2.toList)
    (l3 : K.lookup y = some o3) (h3 : o3.cls = .type "tuple") (d3 : o3.data = .seq i3 n3) (s3 : i3.size ≤ sizeLine) (v3 : Vals (b.map V.int) i3.toList) (H : Hp) : FunV K H (.ref a) t b :=
  ⟨a, .ref x, .ref y, rfl, seq_of (xs := [.ref x, .ref y]) l1 h1 d1 (sz_of (by simp)) (.cons rfl (.cons rfl .nil)) H, ⟨x, rfl, seq_of l2 h2 d2 s2 v2 H⟩, ⟨y, rfl, seq_of l3 h3 d3 s3 v3 H⟩⟩
theorem end_of {q : Program} {loose : List Str} {d : DefRec} {K : Params → Frag} {YP : World → Heap → Prop} (hdf : d.params.defaults = []) (hname : d.name = "law")
    (hY : ∀ w h, YP w h → (K w.params).In h ∧ Seer2 h)
    (hD : ∀ (w : World) (mg : Str → Option Value) (h : Heap), (K w.params).In h → h.Ns mainGlobals mg → Facts (K w.params) mg) :
    WalkO q loose (XL q [("MOST_SIZE", WData.int 1000000000000000000000000000000000000000000000000000000000000)]) YP PySem.Challenge.rw_coilnets_k83_whole_conditions_of_filters.row.toRowW d [] (fun f vs => PySem.call f vs) := by
  refine Att.attach_call (n := 63) rfl hdf fun w s₀ s₁ mg mb fa o pm cd doc a vs ns G Y ho hd hcd hmg hobj hints hlen hg => ?_
  obtain ⟨KX, hs2⟩ := hY w _ Y
  have F := hD w mg s₁.heap KX G.T.g
  have hN : s₁.heap.NoSeer := ⟨hs2.1, hs2.2, ⟨mb, G.T.b, G.T.builtins⟩, let ⟨bm, ob, a1, _, a3, a4, a5, _⟩ := G.T.bmain; ⟨mg, bm, ob, G.T.g, a1, a3, a4, a5⟩⟩
  obtain ⟨v, hv, rv⟩ := G.X.2.val ("MOST_SIZE", WData.int 1000000000000000000000000000000000000000000000000000000000000) List.mem_cons_self
  obtain ⟨mt, hmost⟩ : ∃ t, mg "MOST_SIZE" = some (.int (10 ^ 60) t) := by
    have e : (10 : Int) ^ 60 = 1000000000000000000000000000000000000000000000000000000000000 := by decide
    rw [e]
    cases rv
    exact ⟨_, hv⟩
  clear rv hv hs2 Y
  obtain ⟨⟨mc, ⟨o1, es1, ep1, g1, r1⟩, x1⟩, ⟨mm, ⟨o2, es2, ep2, g2, r2⟩, x2⟩, ⟨mb', ⟨o3, es3, ep3, g3, r3⟩, x3⟩, ⟨mg', bm, ob, ⟨o4, es4, ep4, g4, r4⟩, y1, y2, y3⟩⟩ := hN
  generalize hK2 : K w.params ++ [(cStatics, o1), (sysModules, o2), (builtinsNs, o3), (mainGlobals, o4), (bm, ob)] = K2
  have E : ∀ a o, (K w.params).lookup a = some o → K2.lookup a = some o := fun a o h => by rw [← hK2]; exact look_app h
  have hK2in : Frag.In K2 s₁.heap := fun a o e => by
    rw [← hK2, List.lookup_append] at e
    cases h : (K w.params).lookup a with
    | some o' =>
      rw [h] at e
      have e' : some o' = some o := e
      cases e'
      exact KX _ _ h
    | none =>
      rw [h] at e
      have e' : List.lookup a [(cStatics, o1), (sysModules, o2), (builtinsNs, o3), (mainGlobals, o4), (bm, ob)] = some o := e
      have hm := look_mem e'
      simp only [List.mem_cons, List.not_mem_nil, or_false, Prod.mk.injEq] at hm
      rcases hm with ⟨rfl, rfl⟩ | ⟨rfl, rfl⟩ | ⟨rfl, rfl⟩ | ⟨rfl, rfl⟩ | ⟨rfl, rfl⟩
      · exact g1
      · exact g2
      · exact g3
      · exact g4
      · exact y2
  have fromB : ∀ base : Heap, Frag.In K2 base → base.NoSeer := fun base hb => by
    have key : ∀ {a : Addr} {o : Obj}, (a, o) ∈ [(cStatics, o1), (sysModules, o2), (builtinsNs, o3), (mainGlobals, o4), (bm, ob)] → s₁.heap.get? a = some o → base.get? a = some o := fun {a o} hm hget => by
      obtain ⟨o', ho'⟩ := look_some (l := K2) (a := a) (o := o) (by rw [← hK2]; exact List.mem_append_right _ hm)
      have h1 := hK2in _ _ ho'
      rw [hget] at h1
      cases h1
      exact hb _ _ ho'
    exact ⟨⟨mc, ⟨o1, es1, ep1, key (by simp) g1, r1⟩, x1⟩, ⟨mm, ⟨o2, es2, ep2, key (by simp) g2, r2⟩, x2⟩, ⟨mb', ⟨o3, es3, ep3, key (by simp) g3, r3⟩, x3⟩, ⟨mg', bm, ob, ⟨o4, es4, ep4, key (by simp) g4, r4⟩, y1, key (by simp) y2, y3⟩⟩
  obtain ⟨f, fd, Fl, hf⟩ := F.law
  obtain rfl : fa = f := by
    rw [hname, hf] at hmg
    cases hmg
    rfl
  have hbind : ∀ (s : Shared) (u : Value), BindsTo s fd ⟨[u], []⟩ [("_law_script", u)] := fun s u => by
    obtain ⟨oc, od, kV, doc, pm, an, cdv, ct, osl, rfl, _, _⟩ := Fl.ex
    exact .of_eq rfl
  refine law_call (P := PW) (w := w) (K := K2) (CX := CX0) (k := 53) (fd := fd) (x := "_law_script") (sp := spLaw K2) hK2in G.T.g G.T.b G.T.builtins G.T.nolimit hg hobj hints (Nat.le_trans hlen (sz_of (by decide))) ⟨rfl, by decide, by decide⟩
    (fun base hb _ => ?_) hbind (fun H _ hS => ⟨a, ns, rfl, hS, fun _ => rfl⟩) fun H e s' h => h
  have L := F.gl
  have G0 : Gl0 mg base := ⟨fromB base hb, L.len, L.tuple, L.list, L.max, L.zip, L.enumerate, L.range, L.abs, L.isinstance, L.all, L.any, L.int, L.bool, L.str, L.gcd, ⟨mt, hmost⟩, L.deg, L.rungs, L.series, L.across⟩
  exact law_fn (fun_mono E Fl) G0 (calls_of (F.defs.mono E) G0 (F.gc.mono E) F.zero)
end Kf
end

set_option Elab.async false
set_option linter.all false
set_option maxRecDepth 100000
open PySem PySem.W PyProof.Rows
local macro_rules | `(tactic| o_head ($_:ident $k $a $e)) => `(tactic| o_head ((Kf.myHook $k $a $e)))
set_option maxHeartbeats 0 in
theorem PySem.Challenge.cw_coilnets_k83_whole_conditions_of_filters_holds : PySem.Challenge.rw_coilnets_k83_whole_conditions_of_filters.Holds := by
  w_on; o_law; k_head; (case hw => w_witness2)
  k_fill
  refine Kf.end_of rfl rfl (fun w h Y => Y) ?F
  case F =>
    intro w mg h KX G
    refine' ⟨⟨?d_isInt, ?d_isIn, ?d_isPoly, ?d_needPoly, ?d_needNz, ?d_small, ?d_trimmed, ?d_plus, ?d_scaled, ?d_minus, ?d_times, ?d_content, ?d_primitive, ?d_rem, ?d_common, ?d_quo, ?d_flipped, ?d_even, ?d_odd, ?d_made, ?d_function, ?d_plusOf, ?d_minusOf, ?d_timesOf, ?d_backOf, ?d_overOf, ?d_constOf, ?d_impOf, ?d_rungImp, ?d_isRatio, ?d_isRung, ?d_needLad, ?d_beside, ?d_impFrom, ?d_ladImp, ?d_needFil, ?d_echoOf, ?d_echoPolys, ?d_less, ?d_onLeft, ?d_isLeft, ?d_ratio, ?d_far, ?d_diff, ?d_steps, ?d_filter, ?d_ltrim, ?d_ltimes, ?d_lplus, ?d_lflip, ?d_lgap, ?d_lshared, ?d_lratio, ?d_taken, ?d_pick, ?d_worth, ?d_poly, ?d_llad, ?d_fits⟩, ?law, ⟨?one, ?var, ?places, ?kinds⟩, ?zero, ⟨?z0, ?z1, ?z2, ?z3, ?z4, ?z5, ?z6, ?z7, ?z8, ?z9, ?z10, ?z11, ?z12, ?z13, ?gcd, ?deg, ?rungs, ?series, ?across⟩⟩
    case d_isInt => refine' Kf.def_mk KX G ?a_ ?l_ ?c_ ?k_ Kf.b_isInt; (case a_ => k_is); (case l_ => k_is); (case c_ => k_is); (case k_ => k_is)
    case d_isIn => refine' Kf.def_mk KX G ?a_ ?l_ ?c_ ?k_ Kf.b_isIn; (case a_ => k_is); (case l_ => k_is); (case c_ => k_is); (case k_ => k_is)
    case d_isPoly => refine' Kf.def_mk KX G ?a_ ?l_ ?c_ ?k_ Kf.b_isPoly; (case a_ => k_is); (case l_ => k_is); (case c_ => k_is); (case k_ => k_is)
    case d_needPoly => refine' Kf.def_mk KX G ?a_ ?l_ ?c_ ?k_ Kf.b_needPoly; (case a_ => k_is); (case l_ => k_is); (case c_ => k_is); (case k_ => k_is)
    case d_needNz => refine' Kf.def_mk KX G ?a_ ?l_ ?c_ ?k_ Kf.b_needNz; (case a_ => k_is); (case l_ => k_is); (case c_ => k_is); (case k_ => k_is)
    case d_small => refine' Kf.def_mk KX G ?a_ ?l_ ?c_ ?k_ Kf.b_small; (case a_ => k_is); (case l_ => k_is); (case c_ => k_is); (case k_ => k_is)
    case d_trimmed => refine' Kf.def_mk KX G ?a_ ?l_ ?c_ ?k_ Kf.b_trimmed; (case a_ => k_is); (case l_ => k_is); (case c_ => k_is); (case k_ => k_is)
    case d_plus => refine' Kf.def_mk KX G ?a_ ?l_ ?c_ ?k_ Kf.b_plus; (case a_ => k_is); (case l_ => k_is); (case c_ => k_is); (case k_ => k_is)
    case d_scaled => refine' Kf.def_mk KX G ?a_ ?l_ ?c_ ?k_ Kf.b_scaled; (case a_ => k_is); (case l_ => k_is); (case c_ => k_is); (case k_ => k_is)
    case d_minus => refine' Kf.def_mk KX G ?a_ ?l_ ?c_ ?k_ Kf.b_minus; (case a_ => k_is); (case l_ => k_is); (case c_ => k_is); (case k_ => k_is)
    case d_times => refine' Kf.def_mk KX G ?a_ ?l_ ?c_ ?k_ Kf.b_times; (case a_ => k_is); (case l_ => k_is); (case c_ => k_is); (case k_ => k_is)
    case d_content => refine' Kf.def_mk KX G ?a_ ?l_ ?c_ ?k_ Kf.b_content; (case a_ => k_is); (case l_ => k_is); (case c_ => k_is); (case k_ => k_is)
    case d_primitive => refine' Kf.def_mk KX G ?a_ ?l_ ?c_ ?k_ Kf.b_primitive; (case a_ => k_is); (case l_ => k_is); (case c_ => k_is); (case k_ => k_is)
    case d_rem => refine' Kf.def_mk KX G ?a_ ?l_ ?c_ ?k_ Kf.b_rem; (case a_ => k_is); (case l_ => k_is); (case c_ => k_is); (case k_ => k_is)
    case d_common => refine' Kf.def_mk KX G ?a_ ?l_ ?c_ ?k_ Kf.b_common; (case a_ => k_is); (case l_ => k_is); (case c_ => k_is); (case k_ => k_is)
    case d_quo => refine' Kf.def_mk KX G ?a_ ?l_ ?c_ ?k_ Kf.b_quo; (case a_ => k_is); (case l_ => k_is); (case c_ => k_is); (case k_ => k_is)
    case d_flipped => refine' Kf.def_mk KX G ?a_ ?l_ ?c_ ?k_ Kf.b_flipped; (case a_ => k_is); (case l_ => k_is); (case c_ => k_is); (case k_ => k_is)
    case d_even => refine' Kf.def_mk KX G ?a_ ?l_ ?c_ ?k_ Kf.b_even; (case a_ => k_is); (case l_ => k_is); (case c_ => k_is); (case k_ => k_is)
    case d_odd => refine' Kf.def_mk KX G ?a_ ?l_ ?c_ ?k_ Kf.b_odd; (case a_ => k_is); (case l_ => k_is); (case c_ => k_is); (case k_ => k_is)
    case d_made => refine' Kf.def_mk KX G ?a_ ?l_ ?c_ ?k_ Kf.b_made; (case a_ => k_is); (case l_ => k_is); (case c_ => k_is); (case k_ => k_is)
    case d_function => refine' Kf.def_mk KX G ?a_ ?l_ ?c_ ?k_ Kf.b_function; (case a_ => k_is); (case l_ => k_is); (case c_ => k_is); (case k_ => k_is)
    case d_plusOf => refine' Kf.def_mk KX G ?a_ ?l_ ?c_ ?k_ Kf.b_plusOf; (case a_ => k_is); (case l_ => k_is); (case c_ => k_is); (case k_ => k_is)
    case d_minusOf => refine' Kf.def_mk KX G ?a_ ?l_ ?c_ ?k_ Kf.b_minusOf; (case a_ => k_is); (case l_ => k_is); (case c_ => k_is); (case k_ => k_is)
    case d_timesOf => refine' Kf.def_mk KX G ?a_ ?l_ ?c_ ?k_ Kf.b_timesOf; (case a_ => k_is); (case l_ => k_is); (case c_ => k_is); (case k_ => k_is)
    case d_backOf => refine' Kf.def_mk KX G ?a_ ?l_ ?c_ ?k_ Kf.b_backOf; (case a_ => k_is); (case l_ => k_is); (case c_ => k_is); (case k_ => k_is)
    case d_overOf => refine' Kf.def_mk KX G ?a_ ?l_ ?c_ ?k_ Kf.b_overOf; (case a_ => k_is); (case l_ => k_is); (case c_ => k_is); (case k_ => k_is)
    case d_constOf => refine' Kf.def_mk KX G ?a_ ?l_ ?c_ ?k_ Kf.b_constOf; (case a_ => k_is); (case l_ => k_is); (case c_ => k_is); (case k_ => k_is)
    case d_impOf => refine' Kf.def_mk KX G ?a_ ?l_ ?c_ ?k_ Kf.b_impOf; (case a_ => k_is); (case l_ => k_is); (case c_ => k_is); (case k_ => k_is)
    case d_rungImp => refine' Kf.def_mk KX G ?a_ ?l_ ?c_ ?k_ Kf.b_rungImp; (case a_ => k_is); (case l_ => k_is); (case c_ => k_is); (case k_ => k_is)
    case d_isRatio => refine' Kf.def_mk KX G ?a_ ?l_ ?c_ ?k_ Kf.b_isRatio; (case a_ => k_is); (case l_ => k_is); (case c_ => k_is); (case k_ => k_is)
    case d_isRung => refine' Kf.def_mk KX G ?a_ ?l_ ?c_ ?k_ Kf.b_isRung; (case a_ => k_is); (case l_ => k_is); (case c_ => k_is); (case k_ => k_is)
    case d_needLad => refine' Kf.def_mk KX G ?a_ ?l_ ?c_ ?k_ Kf.b_needLad; (case a_ => k_is); (case l_ => k_is); (case c_ => k_is); (case k_ => k_is)
    case d_beside => refine' Kf.def_mk KX G ?a_ ?l_ ?c_ ?k_ Kf.b_beside; (case a_ => k_is); (case l_ => k_is); (case c_ => k_is); (case k_ => k_is)
    case d_impFrom => refine' Kf.def_mk KX G ?a_ ?l_ ?c_ ?k_ Kf.b_impFrom; (case a_ => k_is); (case l_ => k_is); (case c_ => k_is); (case k_ => k_is)
    case d_ladImp => refine' Kf.def_mk KX G ?a_ ?l_ ?c_ ?k_ Kf.b_ladImp; (case a_ => k_is); (case l_ => k_is); (case c_ => k_is); (case k_ => k_is)
    case d_needFil => refine' Kf.def_mk KX G ?a_ ?l_ ?c_ ?k_ Kf.b_needFil; (case a_ => k_is); (case l_ => k_is); (case c_ => k_is); (case k_ => k_is)
    case d_echoOf => refine' Kf.def_mk KX G ?a_ ?l_ ?c_ ?k_ Kf.b_echoOf; (case a_ => k_is); (case l_ => k_is); (case c_ => k_is); (case k_ => k_is)
    case d_echoPolys => refine' Kf.def_mk KX G ?a_ ?l_ ?c_ ?k_ Kf.b_echoPolys; (case a_ => k_is); (case l_ => k_is); (case c_ => k_is); (case k_ => k_is)
    case d_less => refine' Kf.def_mk KX G ?a_ ?l_ ?c_ ?k_ Kf.b_less; (case a_ => k_is); (case l_ => k_is); (case c_ => k_is); (case k_ => k_is)
    case d_onLeft => refine' Kf.def_mk KX G ?a_ ?l_ ?c_ ?k_ Kf.b_onLeft; (case a_ => k_is); (case l_ => k_is); (case c_ => k_is); (case k_ => k_is)
    case d_isLeft => refine' Kf.def_mk KX G ?a_ ?l_ ?c_ ?k_ Kf.b_isLeft; (case a_ => k_is); (case l_ => k_is); (case c_ => k_is); (case k_ => k_is)
    case d_ratio => refine' Kf.def_mk KX G ?a_ ?l_ ?c_ ?k_ Kf.b_ratio; (case a_ => k_is); (case l_ => k_is); (case c_ => k_is); (case k_ => k_is)
    case d_far => refine' Kf.def_mk KX G ?a_ ?l_ ?c_ ?k_ Kf.b_far; (case a_ => k_is); (case l_ => k_is); (case c_ => k_is); (case k_ => k_is)
    case d_diff => refine' Kf.def_mk KX G ?a_ ?l_ ?c_ ?k_ Kf.b_diff; (case a_ => k_is); (case l_ => k_is); (case c_ => k_is); (case k_ => k_is)
    case d_steps => refine' Kf.def_mk KX G ?a_ ?l_ ?c_ ?k_ Kf.b_steps; (case a_ => k_is); (case l_ => k_is); (case c_ => k_is); (case k_ => k_is)
    case d_filter => refine' Kf.def_mk KX G ?a_ ?l_ ?c_ ?k_ Kf.b_filter; (case a_ => k_is); (case l_ => k_is); (case c_ => k_is); (case k_ => k_is)
    case d_ltrim => refine' Kf.def_mk KX G ?a_ ?l_ ?c_ ?k_ Kf.b_ltrim; (case a_ => k_is); (case l_ => k_is); (case c_ => k_is); (case k_ => k_is)
    case d_ltimes => refine' Kf.def_mk KX G ?a_ ?l_ ?c_ ?k_ Kf.b_ltimes; (case a_ => k_is); (case l_ => k_is); (case c_ => k_is); (case k_ => k_is)
    case d_lplus => refine' Kf.def_mk KX G ?a_ ?l_ ?c_ ?k_ Kf.b_lplus; (case a_ => k_is); (case l_ => k_is); (case c_ => k_is); (case k_ => k_is)
    case d_lflip => refine' Kf.def_mk KX G ?a_ ?l_ ?c_ ?k_ Kf.b_lflip; (case a_ => k_is); (case l_ => k_is); (case c_ => k_is); (case k_ => k_is)
    case d_lgap => refine' Kf.def_mk KX G ?a_ ?l_ ?c_ ?k_ Kf.b_lgap; (case a_ => k_is); (case l_ => k_is); (case c_ => k_is); (case k_ => k_is)
    case d_lshared => refine' Kf.def_mk KX G ?a_ ?l_ ?c_ ?k_ Kf.b_lshared; (case a_ => k_is); (case l_ => k_is); (case c_ => k_is); (case k_ => k_is)
    case d_lratio => refine' Kf.def_mk KX G ?a_ ?l_ ?c_ ?k_ Kf.b_lratio; (case a_ => k_is); (case l_ => k_is); (case c_ => k_is); (case k_ => k_is)
    case d_taken => refine' Kf.def_mk KX G ?a_ ?l_ ?c_ ?k_ Kf.b_taken; (case a_ => k_is); (case l_ => k_is); (case c_ => k_is); (case k_ => k_is)
    case d_pick => refine' Kf.def_mk KX G ?a_ ?l_ ?c_ ?k_ Kf.b_pick; (case a_ => k_is); (case l_ => k_is); (case c_ => k_is); (case k_ => k_is)
    case d_worth => refine' Kf.def_mk KX G ?a_ ?l_ ?c_ ?k_ Kf.b_worth; (case a_ => k_is); (case l_ => k_is); (case c_ => k_is); (case k_ => k_is)
    case d_poly => refine' Kf.def_mk KX G ?a_ ?l_ ?c_ ?k_ Kf.b_poly; (case a_ => k_is); (case l_ => k_is); (case c_ => k_is); (case k_ => k_is)
    case d_llad => refine' Kf.def_mk KX G ?a_ ?l_ ?c_ ?k_ Kf.b_llad; (case a_ => k_is); (case l_ => k_is); (case c_ => k_is); (case k_ => k_is)
    case d_fits => refine' Kf.def_mk KX G ?a_ ?l_ ?c_ ?k_ Kf.b_fits; (case a_ => k_is); (case l_ => k_is); (case c_ => k_is); (case k_ => k_is)
    case law => refine' ⟨_, _, L2.fun_mk ?l_ ?c_ ?k_, PySem.W.mg_of KX G ?a_⟩; (case a_ => k_is); (case l_ => k_is); (case c_ => k_is); (case k_ => k_is)
    case one => refine' ⟨_, PySem.W.mg_of KX G ?a_, Kf.pair_of ?l1 ?h1 ?d1 ?l2 ?h2 ?d2 ?s2 ?v2 ?l3 ?h3 ?d3 ?s3 ?v3⟩; (case a_ => k_is); (case l1 => k_is); (case h1 => rfl); (case d1 => rfl); (case l2 => k_is); (case h2 => rfl); (case d2 => rfl); (case s2 => decide); (case v2 => exact .cons ⟨_, rfl⟩ .nil); (case l3 => k_is); (case h3 => rfl); (case d3 => rfl); (case s3 => decide); (case v3 => exact .cons ⟨_, rfl⟩ .nil)
    case var => refine' ⟨_, PySem.W.mg_of KX G ?a_, Kf.pair_of ?l1 ?h1 ?d1 ?l2 ?h2 ?d2 ?s2 ?v2 ?l3 ?h3 ?d3 ?s3 ?v3⟩; (case a_ => k_is); (case l1 => k_is); (case h1 => rfl); (case d1 => rfl); (case l2 => k_is); (case h2 => rfl); (case d2 => rfl); (case s2 => decide); (case v2 => exact .cons ⟨_, rfl⟩ (.cons ⟨_, rfl⟩ .nil)); (case l3 => k_is); (case h3 => rfl); (case d3 => rfl); (case s3 => decide); (case v3 => exact .cons ⟨_, rfl⟩ .nil)
    case places => refine' ⟨_, PySem.W.mg_of KX G ?a_, Kf.seq_of ?l1 ?h1 ?d1 ?s1 ?v1⟩; (case a_ => k_is); (case l1 => k_is); (case h1 => rfl); (case d1 => rfl); (case s1 => decide); (case v1 => exact .cons ⟨_, rfl⟩ (.cons ⟨_, rfl⟩ .nil))
    case kinds => refine' ⟨_, PySem.W.mg_of KX G ?a_, Kf.seq_of ?l1 ?h1 ?d1 ?s1 ?v1⟩; (case a_ => k_is); (case l1 => k_is); (case h1 => rfl); (case d1 => rfl); (case s1 => decide); (case v1 => exact .cons ⟨_, rfl⟩ (.cons ⟨_, rfl⟩ (.cons ⟨_, rfl⟩ .nil)))
    case zero => refine' Kf.ex_ref KX G ?a_; (case a_ => k_is)
    case z0 => refine' PySem.W.mg_none_of KX G ?a_; (case a_ => k_is)
    case z1 => refine' PySem.W.mg_none_of KX G ?a_; (case a_ => k_is)
    case z2 => refine' PySem.W.mg_none_of KX G ?a_; (case a_ => k_is)
    case z3 => refine' PySem.W.mg_none_of KX G ?a_; (case a_ => k_is)
    case z4 => refine' PySem.W.mg_none_of KX G ?a_; (case a_ => k_is)
    case z5 => refine' PySem.W.mg_none_of KX G ?a_; (case a_ => k_is)
    case z6 => refine' PySem.W.mg_none_of KX G ?a_; (case a_ => k_is)
    case z7 => refine' PySem.W.mg_none_of KX G ?a_; (case a_ => k_is)
    case z8 => refine' PySem.W.mg_none_of KX G ?a_; (case a_ => k_is)
    case z9 => refine' PySem.W.mg_none_of KX G ?a_; (case a_ => k_is)
    case z10 => refine' PySem.W.mg_none_of KX G ?a_; (case a_ => k_is)
    case z11 => refine' PySem.W.mg_none_of KX G ?a_; (case a_ => k_is)
    case z12 => refine' PySem.W.mg_none_of KX G ?a_; (case a_ => k_is)
    case z13 => refine' PySem.W.mg_none_of KX G ?a_; (case a_ => k_is)
    case gcd => refine' PySem.W.mg_of KX G ?a_; (case a_ => k_is)
    case deg => refine' Kf.ex_int KX G ?a_; (case a_ => k_is)
    case rungs => refine' Kf.ex_int KX G ?a_; (case a_ => k_is)
    case series => refine' Kf.ex_str KX G ?a_; (case a_ => k_is)
    case across => refine' Kf.ex_str KX G ?a_; (case a_ => k_is)
