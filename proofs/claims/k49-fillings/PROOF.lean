import PyProof.Rows.All
import Wide.All
import OpenK.AllK
import Wide.FinOn
import PySem.Challenge.RW_howeverwide_k49_whole_numbers_of_filling
import HandS.ForMost
import HandS.Evl
import HandS.Wide
import HandS.WideBits
import HandS.IsInst
import HandS.Style
import HandS.Walk
import KE.GoesEnumKw
set_option Elab.async false
set_option linter.all false
set_option maxRecDepth 100000
set_option maxHeartbeats 4000000
/-! zip(xs, ys, strict=True) over two lists of one length -/
namespace K49
open PySem PySem.Spec PyProof.Rows L2 Evl
open Builtin.SmallTypes (nextOf nextOrEnd)
section
variable {prog : Program} {w : World} {A : Around} {E : Value → Shared → Prop} {s : Shared}
/-- the record of a strict zip -/
abbrev IsZs (h : Heap) (z ti to : Addr) (f0 : Value) : Prop :=
  h.get? z = some ⟨.type "zip", none, .fields #[f0, .bool false, .bool true, .ref ti, .ref to], #[]⟩
theorem more_item {it l : Addr} {i : Nat} {items : Array Value} {x : Value} {Q : Option Value → Shared → Prop} (a : s.heap.IsListIter it l i) (b : s.heap.IsList l items) (c : items[i]? = some x)
    (q : ∀ h', h'.IsListIter it l (i + 1) → Heap.SameBut it s.heap h' → Q (some x) { s with heap := h' }) : wpAny (model prog w) A (nextOrEnd (.ref it)) Q E s := by
  unfold nextOrEnd
  exact wpAny_bind (wpAny_attempt (wpAny_nextOf_list_item a b c fun h' u v => wpAny_pure (q h' u v)))
theorem more_none {it l : Addr} {i : Nat} {items : Array Value} {Q : Option Value → Shared → Prop} (hh : A.handled = none) (a : s.heap.IsListIter it l i) (b : s.heap.IsList l items) (c : items[i]? = none)
    (q : ∀ h', Heap.ExtBut it s.heap h' → Q none { s with heap := h' }) : wpAny (model prog w) A (nextOrEnd (.ref it)) Q E s := by
  unfold nextOrEnd
  refine wpAny_bind (wpAny_attempt (wpAny_nextOf_list_end hh a b c fun h' e u v => ?_))
  obtain ⟨o, ho, hc⟩ := v
  refine wpAny_bind (wpAny_isInstance (T := "StopIteration") (b := true) ⟨o, ho, hc⟩ isSubtype_stop ?_)
  exact wpAny_pure (q h' u)
/-- one pair more -/
theorem zs_item {z ti to i1 i2 l1 l2 : Addr} {k : Nat} {xs ys : Array Value} {x y a b : Value} {Q : Value → Shared → Prop} (D : ZipApart z ti to i1 i2 l1 l2)
    (gz : IsZs s.heap z ti to .none) (gi : IsPair s.heap ti (.ref i1) (.ref i2)) (go : IsPair s.heap to a b)
    (g1 : s.heap.IsListIter i1 l1 k) (g2 : s.heap.IsListIter i2 l2 k) (v1 : s.heap.IsList l1 xs) (v2 : s.heap.IsList l2 ys) (ex : xs[k]? = some x) (ey : ys[k]? = some y)
    (q : ∀ h', IsZs h' z ti to (rawInt s.heap.objs.size) → IsPair h' to x y → h'.IsListIter i1 l1 (k + 1) → h'.IsListIter i2 l2 (k + 1) → IsPair h' s.heap.objs.size x y → h'.objs.size = s.heap.objs.size + 1 →
      (∀ c o, c ≠ z → c ≠ to → c ≠ i1 → c ≠ i2 → s.heap.get? c = some o → h'.get? c = some o) → Q (.ref s.heap.objs.size) { s with heap := h' }) :
    wpAny (model prog w) A (Builtin.«zip.__next__» ⟨[.ref z], []⟩) (fun fin s' => ∃ v, fin = .done (.ret v) ∧ Q v s') E s := by
  show wpAny _ _ (field (.ref z) 2 >>= _) _ _ _
  refine wpAny_bind (wpAny_field gz rfl (x := .bool true) rfl ?_)
  show wpAny _ _ (field (.ref z) 3 >>= _) _ _ _
  refine wpAny_bind (wpAny_field gz rfl (x := .ref ti) rfl (wpAny_bind (wpAny_seqItems gi rfl ?_)))
  show wpAny _ _ (Builtin.SmallTypes.ownedTupleIsFree (.ref z) >>= _) _ _ _
  unfold Builtin.SmallTypes.ownedTupleIsFree
  refine wpAny_bind (wpAny_bind (wpAny_field gz rfl (x := .none) rfl (wpAny_pure ?_)))
  simp only [if_true]
  refine wpAny_bind (wpAny_rule (wpAny_bind (wpAny_field gz rfl (x := .ref to) rfl (wpAny_bind (wpAny_setField_rec gz (by simp) fun ha za sa => ?_)))))
  replace za : IsZs ha z ti to .ellipsis := za
  refine wpAny_bind ?_
  simp only [List.zipIdx_cons, List.zipIdx_nil, List.forIn_cons, List.forIn_nil]
  refine wpAny_bind (wpAny_bind (wpAny_onRaise ?_))
  show wpAny _ _ (nextOrEnd (.ref i1)) _ _ _
  refine more_item (g1.extBut sa.extBut D.i1z) (v1.extBut sa.extBut D.l1z) ex fun hb b1 sb => ?_
  have to_b : IsPair hb to a b := sb.extBut _ _ D.TOi1 (sa.extBut _ _ D.TOz go)
  refine wpAny_bind (wpAny_seqItems to_b rfl (wpAny_bind (wpAny_updateSeq_pair to_b fun hc tc sc => ?_)))
  replace tc : IsPair hc to x b := tc
  refine wpAny_bind (wpAny_letGo (wpAny_pure (wpAny_bind (wpAny_bind (wpAny_onRaise ?_)))))
  show wpAny _ _ (nextOrEnd (.ref i2)) _ _ _
  refine more_item (((g2.extBut sa.extBut D.i2z).extBut sb.extBut D.i12.symm).extBut sc.extBut D.TOi2.symm)
    (((v2.extBut sa.extBut D.l2z).extBut sb.extBut D.l2i1).extBut sc.extBut D.l2TO) ey fun hd d2 sd => ?_
  have td : IsPair hd to x b := sd.extBut _ _ D.TOi2 tc
  refine wpAny_bind (wpAny_seqItems td rfl (wpAny_bind (wpAny_updateSeq_pair td fun he te se => ?_)))
  replace te : IsPair he to x y := te
  refine wpAny_bind (wpAny_letGo (wpAny_pure (wpAny_pure (wpAny_bind (wpAny_seqItems te rfl (wpAny_bind (wpAny_newTuple ?_)))))))
  have size_e : he.objs.size = s.heap.objs.size := by rw [se.1, sd.1, sc.1, sb.1, sa.1]
  have ze : IsZs he z ti to .ellipsis := se.extBut _ _ D.TOz.symm (sd.extBut _ _ D.i2z.symm (sc.extBut _ _ D.TOz.symm (sb.extBut _ _ D.i1z.symm za)))
  have keep_e : ∀ c o, c ≠ z → c ≠ to → c ≠ i1 → c ≠ i2 → s.heap.get? c = some o → he.get? c = some o := fun c o n1 n2 n3 n4 e =>
    se.extBut _ _ n2 (sd.extBut _ _ n4 (sc.extBut _ _ n2 (sb.extBut _ _ n3 (sa.extBut _ _ n1 e))))
  have e1 : he.IsListIter i1 l1 (k + 1) := ((b1.extBut sc.extBut D.TOi1.symm).extBut sd.extBut D.i12).extBut se.extBut D.TOi1.symm
  have e2 : he.IsListIter i2 l2 (k + 1) := d2.extBut se.extBut D.TOi2.symm
  have lz : z < he.objs.size := Heap.lt_size ze
  show wpAny _ _ (Builtin.SmallTypes.ownedTupleHandOut (.ref z) (.ref he.objs.size) >>= _) _ _ _
  unfold Builtin.SmallTypes.ownedTupleHandOut
  have zf : IsZs (he.push { cls := .type "tuple", data := .seq #[x, y] }) z ti to .ellipsis := Heap.get?_push_of_some _ ze
  refine wpAny_bind (wpAny_bind (wpAny_setField_rec zf (by simp) fun hg zg sg => ?_))
  replace zg : IsZs hg z ti to (rawInt he.objs.size) := zg
  refine wpAny_setField_rec zg (by simp) fun hk zk sk => ?_
  replace zk : IsZs hk z ti to (rawInt he.objs.size) := zk
  have up : ∀ c o, c ≠ z → he.get? c = some o → hk.get? c = some o := fun c o n e => sk.extBut _ _ n (sg.extBut _ _ n (Heap.get?_push_of_some _ e))
  have tk : IsPair hk he.objs.size x y := sk.extBut _ _ (Nat.ne_of_gt lz) (sg.extBut _ _ (Nat.ne_of_gt lz) (Heap.get?_push_size _ rfl))
  have size_k : hk.objs.size = he.objs.size + 1 := by rw [sk.1, sg.1, Heap.size_push]
  rw [size_e] at zk tk size_k
  refine wpAny_pure ⟨_, rfl, ?_⟩
  show Q (.ref he.objs.size) _
  rw [size_e]
  exact q hk zk (up _ _ D.TOz te) (e1.at fun o e => up _ o D.i1z e) (e2.at fun o e => up _ o D.i2z e) tk size_k fun c o n1 n2 n3 n4 e => up c o n1 (keep_e c o n1 n2 n3 n4 e)
/-- both have come to their ends -/
theorem zs_end {z ti to i1 i2 l1 l2 : Addr} {k : Nat} {xs ys : Array Value} {a b : Value} {Q : Fin → Shared → Prop} (hh : A.handled = none) (D : ZipApart z ti to i1 i2 l1 l2)
    (gz : IsZs s.heap z ti to .none) (gi : IsPair s.heap ti (.ref i1) (.ref i2)) (go : IsPair s.heap to a b)
    (g1 : s.heap.IsListIter i1 l1 k) (g2 : s.heap.IsListIter i2 l2 k) (v1 : s.heap.IsList l1 xs) (v2 : s.heap.IsList l2 ys) (ex : xs[k]? = none) (ey : ys[k]? = none)
    (q : ∀ h' e tk, (∀ c o, c ≠ z → c ≠ to → c ≠ i1 → c ≠ i2 → s.heap.get? c = some o → h'.get? c = some o) → (∃ o, h'.get? e = some o ∧ o.cls = .type "StopIteration") → E (.ref e) { s with heap := h', toks := tk }) :
    wpAny (model prog w) A (Builtin.«zip.__next__» ⟨[.ref z], []⟩) Q E s := by
  show wpAny _ _ (field (.ref z) 2 >>= _) _ _ _
  refine wpAny_bind (wpAny_field gz rfl (x := .bool true) rfl ?_)
  show wpAny _ _ (field (.ref z) 3 >>= _) _ _ _
  refine wpAny_bind (wpAny_field gz rfl (x := .ref ti) rfl (wpAny_bind (wpAny_seqItems gi rfl ?_)))
  show wpAny _ _ (Builtin.SmallTypes.ownedTupleIsFree (.ref z) >>= _) _ _ _
  unfold Builtin.SmallTypes.ownedTupleIsFree
  refine wpAny_bind (wpAny_bind (wpAny_field gz rfl (x := .none) rfl (wpAny_pure ?_)))
  simp only [if_true]
  refine wpAny_bind (wpAny_rule (wpAny_bind (wpAny_field gz rfl (x := .ref to) rfl (wpAny_bind (wpAny_setField_rec gz (by simp) fun ha za sa => ?_)))))
  replace za : IsZs ha z ti to .ellipsis := za
  refine wpAny_bind ?_
  simp only [List.zipIdx_cons, List.zipIdx_nil, List.forIn_cons, List.forIn_nil]
  refine wpAny_bind (wpAny_bind (wpAny_onRaise ?_))
  show wpAny _ _ (nextOrEnd (.ref i1)) _ _ _
  refine more_none hh (g1.extBut sa.extBut D.i1z) (v1.extBut sa.extBut D.l1z) ex fun hb sb => ?_
  have zb : IsZs hb z ti to .ellipsis := sb _ _ D.i1z.symm za
  refine wpAny_bind (wpAny_setField_rec zb (by simp) fun hc zc sc => ?_)
  refine wpAny_bind (wpAny_bind ?_)
  simp only [List.drop, List.zipIdx_cons, List.zipIdx_nil, List.forIn_cons, List.forIn_nil]
  refine wpAny_bind (wpAny_bind ?_)
  have keep_c : ∀ c o, c ≠ z → c ≠ to → c ≠ i1 → c ≠ i2 → s.heap.get? c = some o → hc.get? c = some o := fun c o n1 n2 n3 n4 e => sc.extBut _ _ n1 (sb _ _ n3 (sa.extBut _ _ n1 e))
  have g2c : hc.IsListIter i2 l2 k := ((g2.extBut sa.extBut D.i2z).extBut sb D.i12.symm).extBut sc.extBut D.i2z
  have v2c : hc.IsList l2 ys := ((v2.extBut sa.extBut D.l2z).extBut sb D.l2i1).extBut sc.extBut D.l2z
  refine more_none hh g2c v2c ey fun hd sd => ?_
  refine wpAny_pure (wpAny_pure (wpAny_bind (wpAny_rule ?_)))
  show wpAny _ _ (newExc (.type "StopIteration") [] >>= _) _ _ _
  refine wpAny_bind ?_
  simp only [newExc, newTuple]
  refine wpAny_bind (wpAny_newObj_type ?_ (by size_fits))
  refine wpAny_bind (m := firstArgMember _ _) (wpAny_of_eq (a := Value.none) (by first | rfl | (simp only [firstArgMember]; rfl)) ?_)
  refine wpAny_newObj_type ?_ (by size_fits)
  simp only [raiseNew]
  refine wpAny_bind (wpAny_handled ?_)
  rw [hh]
  refine wpAny_bind (wpAny_pure (wpAny_throw ?_))
  exact q _ _ _ (fun c o n1 n2 n3 n4 e => Heap.get?_push_of_some _ (Heap.get?_push_of_some _ (sd _ _ n4 (keep_c c o n1 n2 n3 n4 e)))) ⟨_, Heap.get?_push_size _ rfl, rfl⟩

theorem zs_next {z ti to i1 i2 l1 l2 : Addr} {k : Nat} {xs ys : Array Value} {x y a b : Value} {Q : Option Value → Shared → Prop} (D : ZipApart z ti to i1 i2 l1 l2)
    (gz : IsZs s.heap z ti to .none) (gi : IsPair s.heap ti (.ref i1) (.ref i2)) (go : IsPair s.heap to a b)
    (g1 : s.heap.IsListIter i1 l1 k) (g2 : s.heap.IsListIter i2 l2 k) (v1 : s.heap.IsList l1 xs) (v2 : s.heap.IsList l2 ys) (ex : xs[k]? = some x) (ey : ys[k]? = some y)
    (q : ∀ h', IsZs h' z ti to (rawInt s.heap.objs.size) → IsPair h' to x y → h'.IsListIter i1 l1 (k + 1) → h'.IsListIter i2 l2 (k + 1) → IsPair h' s.heap.objs.size x y → h'.objs.size = s.heap.objs.size + 1 →
      (∀ c o, c ≠ z → c ≠ to → c ≠ i1 → c ≠ i2 → s.heap.get? c = some o → h'.get? c = some o) → Q (some (.ref s.heap.objs.size)) { s with heap := h' }) : wpAny (model prog w) A (pyNext (.ref z)) Q E s := by
  have ty : s.TypeIs (.ref z) "zip" := ⟨_, gz, rfl⟩
  unfold pyNext
  exact wpAny_bind (wpAny_attempt (wpAny_callSpecial?_slot (name := Str.ofString "__next__") ty F.slot_zip_next (wpAny_call_entry F.slot_zip_next ty F.entry_zip_next
    (zs_item D gz gi go g1 g2 v1 v2 ex ey fun h' b1 b2 b3 b4 b5 b6 b7 => wpAny_pure (q h' b1 b2 b3 b4 b5 b6 b7)) (F.args_zip_next_1 _))))
theorem zs_over {z ti to i1 i2 l1 l2 : Addr} {k : Nat} {xs ys : Array Value} {a b : Value} {Q : Option Value → Shared → Prop} (hh : A.handled = none) (D : ZipApart z ti to i1 i2 l1 l2)
    (gz : IsZs s.heap z ti to .none) (gi : IsPair s.heap ti (.ref i1) (.ref i2)) (go : IsPair s.heap to a b)
    (g1 : s.heap.IsListIter i1 l1 k) (g2 : s.heap.IsListIter i2 l2 k) (v1 : s.heap.IsList l1 xs) (v2 : s.heap.IsList l2 ys) (ex : xs[k]? = none) (ey : ys[k]? = none)
    (q : ∀ h' tk, (∀ c o, c ≠ z → c ≠ to → c ≠ i1 → c ≠ i2 → s.heap.get? c = some o → h'.get? c = some o) → Q none { s with heap := h', toks := tk }) : wpAny (model prog w) A (pyNext (.ref z)) Q E s := by
  have ty : s.TypeIs (.ref z) "zip" := ⟨_, gz, rfl⟩
  unfold pyNext
  refine wpAny_bind (wpAny_attempt (wpAny_callSpecial?_slot (name := Str.ofString "__next__") ty F.slot_zip_next (wpAny_call_entry F.slot_zip_next ty F.entry_zip_next
    (zs_end hh D gz gi go g1 g2 v1 v2 ex ey fun h' e tk keep he => ?_) (F.args_zip_next_1 _))))
  obtain ⟨o, ho, hc⟩ := he
  refine wpAny_bind (wpAny_isInstance (T := "StopIteration") (b := true) ⟨o, ho, hc⟩ isSubtype_stop ?_)
  exact wpAny_pure (q h' tk keep)
theorem zs_let {elts : List Expr} {kk} {pos : Pos} {z ti to T : Addr} {Q : Unit → Shared → Prop} (gz : IsZs s.heap z ti to (rawInt T))
    (q : ∀ h', IsZs h' z ti to .none → Heap.SameBut z s.heap h' → Q () { s with heap := h' }) : wpAny (model prog w) A (letOwnedTupleGo (.Tuple elts kk pos) (.ref z) (.ref T)) Q E s := by
  unfold letOwnedTupleGo
  refine wpAny_bind (wpAny_load gz ?_)
  show wpAny _ _ (if (_ = true) then _ else _) Q E s
  rw [if_pos (by simp)]
  refine wpAny_bind (wpAny_rule ?_)
  show wpAny _ _ (setField (.ref z) 0 .none) Q E s
  exact wpAny_setField_rec gz (by simp) fun h' a b => q h' a b
theorem zs_self {z ti to : Addr} {f0 : Value} {Q : Value → Shared → Prop} (gz : IsZs s.heap z ti to f0) (q : Q (.ref z) s) : wpAny (model prog w) A (pyIter (.ref z)) Q E s := by
  have ty : s.TypeIs (.ref z) "zip" := ⟨_, gz, rfl⟩
  refine wpAny_pyIter_slot ty F.slot_zip_iter (wpAny_call_entry F.slot_zip_iter ty F.entry_zip_iter ?_ (F.args_zip_iter_1 _))
  show wpAny _ _ (ret (.ref z)) _ _ s
  exact wpAny_pure ⟨_, rfl, "zip", _, ty, F.slot_zip_next.lookup, q⟩
end
/-! ### the call zip(a, b, strict=True) -/
theorem zs_typeCall (a b c : Value) : checkTypeCall "zip" ⟨[a, b], [(Str.ofString "strict", c)]⟩ = pure () := by kernel_rfl
theorem zs_newCall (a b c : Value) : checkBuiltinCall "zip.__new__" ⟨[.type "zip", a, b], [(Str.ofString "strict", c)]⟩ = pure () := by kernel_rfl
theorem zs_initArgs (o a b c : Value) : argsOk "object.__init__" ⟨[o, a, b], [(Str.ofString "strict", c)]⟩ := by unfold argsOk; kernel_rfl
abbrev zsLast (h : Heap) (l1 l2 : Addr) : Heap := (zipH4 h l1 l2).push ⟨.type "zip", none, .fields #[.none, .bool false, .bool true, .ref (zipH2 h l1 l2).objs.size, .ref (zipH3 h l1 l2).objs.size], #[]⟩
theorem zs_new (l1 l2 : Addr) (xs ys : Array Value) : Meets (Builtin.«zip.__new__» ⟨[.type "zip", .ref l1, .ref l2], [(Str.ofString "strict", .bool true)]⟩)
    (fun _ R s => s.heap.IsList l1 xs ∧ s.heap.IsList l2 ys ∧ R (.ok (.ret (.ref (zipH4 s.heap l1 l2).objs.size))) { s with heap := zsLast s.heap l1 l2 }) :=
  .of_wp fun prog w A R s h => by
    obtain ⟨hp, g, d, tk, os⟩ := s
    obtain ⟨u, v, h⟩ := h
    have hsub := sub_zip
    have u' : Heap.IsList (Shared.heap ⟨hp, g, d, tk, os⟩) l1 xs := u
    have v' : Heap.IsList (Shared.heap ⟨hp.push { cls := .type "list_iterator", data := .fields #[.ref l1, .int 0 0] }, g, d, tk, os⟩) l2 ys := Heap.IsList.push v _
    have e2 : (Str.ofString "strict" != ("strict" : Str)) = false := by decide +kernel
    wp_walk using wpAny_pyIter_list u', wpAny_pyIter_list v'
    exact ⟨_, rfl, h⟩
section
variable {prog : Program} {w : World} {A : Around} {E : Value → Shared → Prop} {s : Shared}
theorem zs_call {l1 l2 : Addr} {xs ys : Array Value} {Q : Value → Shared → Prop} (v1 : s.heap.IsList l1 xs) (v2 : s.heap.IsList l2 ys)
    (q : ∀ h', IsZs h' (s.heap.objs.size + 4) (s.heap.objs.size + 2) (s.heap.objs.size + 3) .none → IsPair h' (s.heap.objs.size + 2) (.ref s.heap.objs.size) (.ref (s.heap.objs.size + 1)) →
      IsPair h' (s.heap.objs.size + 3) .none .none → h'.IsListIter s.heap.objs.size l1 0 → h'.IsListIter (s.heap.objs.size + 1) l2 0 → (∀ c o, s.heap.get? c = some o → h'.get? c = some o) →
      Q (.ref (s.heap.objs.size + 4)) { s with heap := h' }) : wpAny (model prog w) A (call (.type "zip") [.ref l1, .ref l2] [(Str.ofString "strict", .bool true)]) Q E s := by
  refine callType_newKw F.called_zip (by decide) (zs_typeCall _ _ _) (zs_newCall _ _ _) (fun obj => zs_initArgs obj _ _ _) F.entry_zip_new (zs_new l1 l2 xs ys) ⟨v1, v2, ?_⟩
  have n1 : (zipH1 s.heap l1).objs.size = s.heap.objs.size + 1 := Heap.size_push ..
  have n2 : (zipH2 s.heap l1 l2).objs.size = s.heap.objs.size + 2 := by rw [Heap.size_push, n1]
  have n3 : (zipH3 s.heap l1 l2).objs.size = s.heap.objs.size + 3 := by rw [Heap.size_push, n2]
  have n4 : (zipH4 s.heap l1 l2).objs.size = s.heap.objs.size + 4 := by rw [Heap.size_push, n3]
  have p1 : ∀ {c : Addr} {o : Obj}, (zipH1 s.heap l1).get? c = some o → (zsLast s.heap l1 l2).get? c = some o := fun e => Heap.get?_push_of_some _ (Heap.get?_push_of_some _ (Heap.get?_push_of_some _ (Heap.get?_push_of_some _ e)))
  have p2 : ∀ {c : Addr} {o : Obj}, (zipH2 s.heap l1 l2).get? c = some o → (zsLast s.heap l1 l2).get? c = some o := fun e => Heap.get?_push_of_some _ (Heap.get?_push_of_some _ (Heap.get?_push_of_some _ e))
  have p3 : ∀ {c : Addr} {o : Obj}, (zipH3 s.heap l1 l2).get? c = some o → (zsLast s.heap l1 l2).get? c = some o := fun e => Heap.get?_push_of_some _ (Heap.get?_push_of_some _ e)
  have k5 : (zsLast s.heap l1 l2).get? (zipH4 s.heap l1 l2).objs.size = some _ := Heap.get?_push_size _ rfl
  have k4 : (zsLast s.heap l1 l2).get? (zipH3 s.heap l1 l2).objs.size = some _ := Heap.get?_push_of_some _ (Heap.get?_push_size _ rfl)
  have k3 : (zsLast s.heap l1 l2).get? (zipH2 s.heap l1 l2).objs.size = some _ := p3 (Heap.get?_push_size _ rfl)
  have k2 : (zsLast s.heap l1 l2).get? (zipH1 s.heap l1).objs.size = some _ := p2 (Heap.get?_push_size _ rfl)
  have k1 : (zsLast s.heap l1 l2).get? s.heap.objs.size = some _ := p1 (Heap.get?_push_size _ rfl)
  rw [n2, n3, n4] at k5
  rw [n3] at k4
  rw [n1, n2] at k3
  rw [n1] at k2
  show _ ∧ _
  rw [n4]
  exact ⟨⟨_, k5, rfl⟩, q _ k5 k3 k4 ⟨_, k1, rfl, rfl⟩ ⟨_, k2, rfl, rfl⟩ fun c o e => p1 (Heap.get?_push_of_some _ e)⟩
end
/-! ### over the layer -/
/-- as Itz; it stops where both lists end -/
def Izs (K : PySem.W.Frag) (a b : Addr) : It := ⟨(Itz K a b).go, (Itz K a b).yld, fun i H => ∃ xs ys : List V, SqL K H a xs ∧ SqL K H b ys ∧ xs.length ≤ i ∧ ys.length ≤ i⟩
def zsAt (z ti to i1 i2 a b : Addr) (i : Nat) (h : Heap) : Prop := IsZs h z ti to .none ∧ IsPair h ti (.ref i1) (.ref i2) ∧ (∃ x y, IsPair h to x y) ∧ h.IsListIter i1 a i ∧ h.IsListIter i2 b i
theorem five {c z ti to i1 i2 : Addr} (h : c ∈ [z, ti, to, i1, i2]) : c = z ∨ c = ti ∨ c = to ∨ c = i1 ∨ c = i2 := by simpa using h
theorem zs_turn {P : Program} {w : World} {K : PySem.W.Frag} {elts : List Expr} {kk : Nat} {tpos : Pos} {a b z ti to i1 i2 : Addr} (D : ZipApart z ti to i1 i2 a b) :
    Turn P w K (.Tuple elts kk tpos) (Izs K a b) [z, ti, to, i1, i2] z (zsAt z ti to i1 i2 a b) := by
  have lts : ∀ {h : Heap} {i : Nat}, zsAt z ti to i1 i2 a b i h → ∀ c ∈ [z, ti, to, i1, i2], ∃ o, h.get? c = some o ∧ ∀ v, o.data ≠ .cell v := by
    rintro h i ⟨gz, gi, ⟨x, y, go⟩, ⟨o1, e1, _, d1⟩, ⟨o2, e2, _, d2⟩⟩ c hc
    rcases five hc with q | q | q | q | q <;> subst q
    · exact ⟨_, gz, fun v q => nomatch q⟩
    · exact ⟨_, gi, fun v q => nomatch q⟩
    · exact ⟨_, go, fun v q => nomatch q⟩
    · exact ⟨o1, e1, fun v q => by rw [d1] at q; cases q⟩
    · exact ⟨o2, e2, fun v q => by rw [d2] at q; cases q⟩
  refine ⟨by simp, fun i h st => lts st, ?_, ?_, ?_, fun A i s Q E st h => zs_self st.1 h⟩
  · rintro i h h' ⟨gz, gi, ⟨x, y, go⟩, g1, g2⟩ k
    exact ⟨k z (by simp) _ gz, k ti (by simp) _ gi, ⟨x, y, k to (by simp) _ go⟩, g1.at fun o q => k i1 (by simp) o q, g2.at fun o q => k i2 (by simp) o q⟩
  · intro X hP hw hK hc i pins s σ H E I hf st hg
    subst hP hw hK
    have lt5 := lts st
    obtain ⟨gz, gi, ⟨x0, y0, go⟩, g1, g2⟩ := st
    obtain ⟨xs, ys, x, y, qa, qb, hx, hy⟩ := hg
    obtain ⟨us, ru, pu, _⟩ := I.list qa
    obtain ⟨vs, rv, pv', _⟩ := I.list qb
    obtain ⟨u, hu, r1⟩ := ru.get hx
    obtain ⟨v, hv, r2⟩ := rv.get hy
    refine zs_next D gz gi go g1 g2 pu.isList pv'.isList (x := u) (y := v) (by simpa using hu) (by simpa using hv) fun h1 z1 o1 f1 f2 t1 sz1 k1 => ?_
    refine ⟨_, rfl, zs_let (s := { s with heap := h1 }) z1 fun h2 z2 sb => ?_⟩
    have zl : z < s.heap.objs.size := Heap.lt_size gz
    have t2 : h2.get? s.heap.objs.size = some { cls := .type "tuple", data := .seq #[u, v] } := (sb.2 _ (Nat.ne_of_gt zl)).trans t1
    have keep : ∀ c o, c ∉ [z, ti, to, i1, i2] → s.heap.get? c = some o → h2.get? c = some o := fun c o nb e =>
      (sb.2 c fun q => nb (by simp [q])).trans (k1 c o (fun q => nb (by simp [q])) (fun q => nb (by simp [q])) (fun q => nb (by simp [q])) (fun q => nb (by simp [q])) e)
    have I1 : Inv X pins σ (upd H s.heap.objs.size (.tup [x, y])) { s with heap := h2 } :=
      I.turnedNew (t' := s.toks) keep hf (Nat.le_refl _) ⟨by show 2 ≤ sizeLine; decide, [u, v], .cons r1 (.cons r2 .nil), ⟨_, t2, rfl, _, rfl⟩⟩
    refine ⟨.ref s.heap.objs.size, _, I1, rfl, ⟨_, x, y, rfl, I.hok.fresh (Nat.le_refl _), rfl, fun l hl => by rw [I.list_inj hl qa]; exact hx, fun l hl => by rw [I.list_inj hl qb]; exact hy⟩,
      ⟨z2, (sb.2 _ D.TIz).trans (k1 _ _ D.TIz D.TITO D.TIi1 D.TIi2 gi), ⟨u, v, (sb.2 _ D.TOz).trans o1⟩, f1.at fun o q => (sb.2 _ D.i1z).trans q, f2.at fun o q => (sb.2 _ D.i2z).trans q⟩, fun c hcm => ?_⟩
    obtain ⟨o, ho, _⟩ := lt5 c hcm
    rw [upd_ne (Nat.ne_of_lt (Heap.lt_size ho))]
    exact (hf c hcm).1
  · intro X hP hw hK hc i pins s σ H E I hf st hg
    subst hP hw hK
    obtain ⟨gz, gi, ⟨x0, y0, go⟩, g1, g2⟩ := st
    obtain ⟨xs, ys, qa, qb, ha, hb⟩ := hg
    obtain ⟨us, ru, pu, _⟩ := I.list qa
    obtain ⟨vs, rv, pv', _⟩ := I.list qb
    have l1 := ru.length
    have l2 := rv.length
    exact zs_over (I.ok.hd hc) D gz gi go g1 g2 pu.isList pv'.isList (by simp; omega) (by simp; omega) fun h' tk k => ⟨rfl, I.turnedL (t' := tk) (ch := [z, ti, to, i1, i2]) (fun c o hb q =>
      k c o (fun q' => hb (by simp [q'])) (fun q' => hb (by simp [q'])) (fun q' => hb (by simp [q'])) (fun q' => hb (by simp [q'])) q) hf⟩
theorem with_type {M : Model} {A : Around} {E : Value → Shared → Prop} {s : Shared} {pos : Pos} {T : String} {args : List (Bool × Sem Value)} {kws : List (Option Str × Sem Value)} {Q : Value → Shared → Prop}
    (h1 : args.any (·.1) = false) (h2 : kws.any (·.1.isNone) = false)
    (h : wpAny M A (evalArgs (.type T) true args kws) (fun a s1 => wpAny M A (call (.type T) a.pos a.kw) Q E s1) E s) : wpAny M A (callWith pos (.type T) [] args kws) Q E s := by
  unfold callWith
  simp only [h1, h2, Bool.or_false]
  refine wpAny_bind (wpAny_holding (wpAny_mono h (fun a s1 g => wpAny_bind (wpAny_standAt (wpAny_bind (wpAny_pure ?_)))) fun _ _ x => x))
  exact wpAny_bind (wpAny_mono g (fun r s4 hr => wpAny_bind (wpAny_holding (wpAny_point (wpAny_pure hr)))) fun _ _ x => x)
def iZs (K : PySem.W.Frag) (ta tk : TA) : TI := fun σ H R => ta σ H fun vs H1 => tk σ H1 fun zs H2 => ∃ a b xs ys, vs = [.ref a, .ref b] ∧ zs = [.bl true] ∧ SqL K H2 a xs ∧ SqL K H2 b ys ∧ R (Izs K a b) H2
theorem pi_zs {X : Cx} {e e2 e3 : Expr} {ta tk : TA} {p pos tpos kpos : Pos} {elts : List Expr} {kk : Nat} (hg : Gl X "zip") (hm : X.mg "zip" = none) (ha : PA X [e, e2] ta) (hk : PK X [⟨some "strict", e3, kpos⟩] tk)
    (hs : starEach [e, e2] X.env = (false, eval e X.env) :: starEach [e2] X.env := by rfl) (hpl : (backTo pos (starEach [e, e2] X.env)).any (·.1) = false := by rfl)
    (hall : (backToKw pos (keywordEach [⟨some "strict", e3, kpos⟩] X.env)).all (·.1.isSome) = true := by rfl) (hno : (backToKw pos (keywordEach [⟨some "strict", e3, kpos⟩] X.env)).any (·.1.isNone) = false := by rfl)
    (hks : (backToKw pos (keywordEach [⟨some "strict", e3, kpos⟩] X.env)).filterMap (·.1) = [Str.ofString "strict"] := by rfl) :
    PI X (.Tuple elts kk tpos) (.Call (.Name "zip" p) [e, e2] [⟨some "strict", e3, kpos⟩] pos) (iZs X.K ta tk) := by
  refine ⟨fun pins s σ H R I h => ?_⟩
  refine wpAny_Call_Name_kw (ld_blt I hg hm PyProof.Rows.boot_zip ?_)
  refine with_type hpl hno (evalArgs_kw2 (f := .type "zip") hall (thn (ha.run pos pins s σ H _ I h) fun us s1 ⟨vs, H1, I1, r1, q1⟩ => thn (hk.run pos pins s1 σ H1 _ I1 q1) fun ws s2 ⟨zs, H2, I2, r2, q2⟩ => ?_) hs)
  · rw [hks]
    obtain ⟨a, b, xs, ys, ex, ez, qa, qb, q⟩ := q2
    subst ex ez
    obtain ⟨u1, u2, rfl, ra, rb⟩ := vals2 r1
    obtain ⟨u3, rfl, rc⟩ := vals1 r2
    cases ra
    cases rb
    cases rc
    obtain ⟨us, ru, pu, _⟩ := I2.list qa
    obtain ⟨vs, rv, pv', _⟩ := I2.list qb
    show wpAny (model X.prog X.w) X.A (call (.type "zip") [.ref a, .ref b] [(Str.ofString "strict", .bool true)]) _ _ s2
    refine zs_call pu.isList pv'.isList fun h' gz gi go g1 g2 keep => zs_self gz ?_
    refine ⟨s2.heap.objs.size + 4, [s2.heap.objs.size + 4, s2.heap.objs.size + 2, s2.heap.objs.size + 3, s2.heap.objs.size, s2.heap.objs.size + 1], _, _, H2, rfl, I2.kept (t' := s2.toks) keep,
      zs_turn (PySem.W.ktu_apart s2.heap.objs.size a b pu.lt pv'.lt), ⟨gz, gi, ⟨_, _, go⟩, g1, g2⟩, fun c hc => ?_, q⟩
    have le : s2.heap.objs.size ≤ c := by rcases five hc with e | e | e | e | e <;> rw [e] <;> omega
    exact I2.fpOk le (I2.hok.fresh le)
end K49

/-! more rules: great powers, repr of data, calls with keywords alone, defs that want an empty row of guards -/
namespace K49
open PySem PySem.Spec PyProof.Rows L2 Evl
section
variable {X : Cx}
def CPowW (i j : Int) : Prop := 0 ≤ j ∧ (Builtin.Int.intBits i : Int) * j ≤ 2 ^ 27
theorem op_powW : OpR X (binaryOp .Pow) (rI CPowW fun i j => .int (i ^ j.toNat)) := opI fun _ _ _ _ _ _ _ c q => pow_int c.1 c.2 q
/-- repr of lists, tuples, ints, bools, nested -/
def rShow (K : PySem.W.Frag) : List V → Hp → VK → Prop := fun xs H Q => ∃ (a : Addr) (d : PyData), xs = [.ref a] ∧ Dp K H (.ref a) d ∧ d.showable = true ∧ d.hasDict = false ∧ d.depth ≤ 10 ∧ d.shown.length ≤ sizeLine ∧ Q (.str d.shown) H
theorem call_rep (hg : X.A.guards = some []) (hu : X.A.units + 64 < cLine) : CallR X (.builtin "repr") (rShow X.K) := by
  intro pins s σ H xs us Q I r h
  obtain ⟨a, d, rfl, hd, h1, h2, h3, h4, q⟩ := h
  obtain ⟨u, rfl, ru⟩ := vals1 r
  cases ru
  obtain ⟨as, rd⟩ := Dp.reads I d (.ref a) (.ref a) hd rfl
  exact repr_of_reads' rd h1 (PyData.noDict_hsm h2) hg (by omega) (fun _ _ e => e) (fun h' t tk hk => ⟨.str d.shown, H, I.kept hk, ⟨t, rfl⟩, q⟩) h4
/-! ### f(k = v, ..) -/
variable {CX : CXT} {k : Nat} {f : Addr} {fd : FuncData} {ps ks : List Str} {sp : Sp} {E : XK} {x : Str} {p pos : Pos} {kws : List Keyword} {tk : TA} {g : List Value → List Value → List Value} {gV : List V → List V → List V}
theorem pe_callK0 (F : FnOk X.prog X.w X.K X.mg X.base CX k f fd ps sp) (hr : Room k X.A) (hg : Gl X x) (hm : X.mg x = some (.ref f)) (hk : PySem.W.keepIn X.K (.ref f) = true) (hb : KBinds X.K fd ps ks g gV) (hx : Passes CX X E)
    (hkw : PK X kws tk) (hall : (backToKw pos (keywordEach kws X.env)).all (·.1.isSome) = true := by rfl) (hks : (backToKw pos (keywordEach kws X.env)).filterMap (·.1) = ks := by rfl)
    (hdb : (x == ("__debug__" : Str)) = false := by decide) (hpl : ((backTo pos (starEach [] X.env)).any (·.1) || (backToKw pos (keywordEach kws X.env)).any (·.1.isNone)) = false := by rfl) :
    PE X (.Call (.Name x p) [] kws pos) (tCallK sp gV E tNil tk) := by
  refine ⟨fun pins s σ H Q I h => wpAny_Call_Name_kw (ld_glob I hg hm ?_ hdb)⟩
  refine PySem.W.callWith_KW0 (h₀ := X.base) I.ok.mod.kin hk hall (thn (hkw.run pos pins s σ H _ I h) fun ws s2 ⟨zs, H2, I2, rz, q2⟩ => ⟨I2.kIn, ?_⟩) hpl
  rw [hks]
  exact run_fnk (us := []) F hr hb hx I2 .nil rz q2
end
/-! ### defs that are called where no repr runs -/
structure FnG (P : Program) (w : World) (K : PySem.W.Frag) (mg : Str → Option Value) (base : Heap) (k : Nat) (f : Addr) (fd : FuncData) (ps : List Str) (sp : Sp) : Prop where
  len : ∀ vs H Q E, sp vs H Q E → vs.length = ps.length
  run : ∀ (A : Around) (outer : List Env) (s : Shared) (H : Hp) (args : Args) (us : List Value) (vs : List V) (Q : VK) (E : XK), A.guards = some [] → Room k A → Env0 P w K mg base A outer s H → BindsTo s fd args (ps.zip us) → Vals vs us → sp vs H Q E →
    codeAny (model P w) A (.call (.ref f) args) (CR CX0 outer P w H s Q E) s
section
variable {P : Program} {w : World} {K : PySem.W.Frag} {mg : Str → Option Value} {base : Heap}
theorem gn_of {x qual : Str} {st : Stmt} {f : Addr} {fd : FuncData} {N ps : List Str} {k : Nat} {sp : Sp} (F : Fun K x qual st f fd) (S : FnScope N ps (defScope st)) (len : ∀ vs H Q E, sp vs H Q E → vs.length = ps.length)
    (hbody : ∀ (cdv : Value) (A : Around) (outer : List Env) (s : Shared) (H : Hp) (vs : List V) (Q : VK) (E : XK), A.guards = some [] → Room k (A.deeper (envOfC qual (defScope st) s.heap.objs.size f cdv)) → sp vs H Q E →
      ∃ t, PSs (cxOf CX0 P w K mg base N qual (defScope st) f cdv A outer s H E).nox (defBody st) t ∧ t { nx := fun _ H' => Q .non H', rt := Q } (start N vs) H) : FnG P w K mg base (k + 1) f fd ps sp := by
  obtain ⟨oc, od, kV, doc, pm, an, cdv, ct, osl, rfl, lk, hcd⟩ := F.ex
  refine ⟨len, fun A outer s H args us vs Q E gu hr e0 hb r hsp => ?_⟩
  have inK : K.In s.heap := e0.mod.kin.keeps fun b o e => (e0.bs b o e).1
  have nol : s.heap.NoLimit := e0.mod.nolimit.keeps fun b o e => (e0.bs b o e).1
  refine codeAny_call_function hr.depth (inK _ _ lk) rfl S.co S.gen rfl (PySem.W.codeRec_of inK hcd) (hb _ _ _ _ (wpAny_newFunctionEnv_cells S.kind (fun y hy => ?_) fun env he s1 c1 => ?_))
  · obtain ⟨n, v⟩ := y
    exact (S.par n (List.of_mem_zip hy).1).imp id fun q => ⟨q, PySem.W.cellsFrom_some _ _ _ (.inl q)⟩
  subst he
  refine ⟨nol.keeps c1.toInCall.keep, codeAny_func ?_⟩
  obtain ⟨t, ht, hq⟩ := hbody cdv A outer s H vs Q E gu (hr.deeper _) hsp
  have I : Inv (cxOf CX0 P w K mg base N qual (defScope st) f cdv A outer s H E) [] (start N vs) H s1 := inv_start S hr.hd e0 (len _ _ _ _ hsp) r c1
  refine wpAny_mono (ht.nox.run [] s1 (start N vs) H _ I hq) (fun fl s' hs => ?_) fun e s' hs => hs
  have done : ∀ {σ' : L2.St} {H' : Hp} {v : V} {u : Value}, Inv (cxOf CX0 P w K mg base N qual (defScope st) f cdv A outer s H E) [] σ' H' s' → RelV v u → Q v H' → CE outer P w H s Q u s' := fun {σ' H' v u} J rv q => ⟨v, H', J.os, J.bare, J.base, J.hok, rv, q⟩
  cases fl with
  | ret u => obtain ⟨v, σ', H', J, rv, q⟩ := hs; exact done J rv q
  | next => obtain ⟨σ', H', J, q⟩ := hs; exact done (v := V.non) (u := Value.none) J rfl q
  | brk => obtain ⟨_, _, _, q⟩ := hs; exact q.elim
  | cont => obtain ⟨_, _, _, q⟩ := hs; exact q.elim
end
section
variable {X : Cx} {k : Nat} {f : Addr} {fd : FuncData} {ps : List Str} {sp : Sp} {x : Str} {p pos : Pos} {e : Expr} {es : List Expr} {t : TA}
theorem pe_callG (gu : X.A.guards = some []) (F : FnG X.prog X.w X.K X.mg X.base k f fd ps sp) (hr : Room k X.A) (hg : Gl X x) (hm : X.mg x = some (.ref f)) (hk : PySem.W.keepIn X.K (.ref f) = true) (hb : Binds X.K fd ps [])
    (ha : PA X (e :: es) t) (hdb : (x == ("__debug__" : Str)) = false := by decide) (he : starEach (e :: es) X.env = (false, eval e X.env) :: starEach es X.env := by rfl) (hpl : (backTo pos (starEach es X.env)).any (·.1) = false := by rfl) :
    PE X (.Call (.Name x p) (e :: es) [] pos) (tCall sp [] E0 t) := by
  refine ⟨fun pins s σ H Q I h => wpAny_Call_Name_kw (ld_glob I hg hm ?_ hdb)⟩
  refine PySem.W.callWith_K (h₀ := X.base) I.ok.mod.kin hk (thn (ha.run pos pins s σ H _ I h) fun us s1 ⟨vs, H1, I1, r, q⟩ => ⟨I1.kIn, ?_⟩) he hpl
  have q' : sp vs H1 Q E0 := by rw [← List.append_nil vs]; exact q
  have hl : (us ++ []).length = ps.length := by rw [List.append_nil, ← r.length]; exact F.len _ _ _ _ q'
  refine wpAny_call (codeAny_mono (F.run X.A X.stack s1 H1 ⟨us, []⟩ us vs Q E0 gu hr I1.env0 (by have b := hb s1 us I1.kIn hl; rw [List.append_nil] at b; exact b) r q') fun rs s' hq => ?_)
  cases rs with
  | error e => exact hq.elim
  | ok fl =>
    cases fl with
    | ret u => exact I1.after hq
    | next => exact hq.elim
    | brk => exact hq.elim
    | cont => exact hq.elim
end
end K49

/-! the end of a law's row where the law's def wants an empty row of guards -/
namespace K49
open PySem PySem.Spec PyProof.Rows L2 Evl
/-- the script alone is tracked, and that where the top does not know it -/
def onlyAt (K : PySem.W.Frag) (a : Addr) (o : Obj) (xs : List V) : Hp := fun b => if b = a ∧ K.lookup a = none then some (.frz o (.lst xs)) else none
theorem onlyAt_cases {K : PySem.W.Frag} {a : Addr} {o : Obj} {xs : List V} (b : Addr) : onlyAt K a o xs b = none ∨ (b = a ∧ K.lookup a = none ∧ onlyAt K a o xs b = some (.frz o (.lst xs))) := by
  by_cases h : b = a ∧ K.lookup a = none
  · exact .inr ⟨h.1, h.2, if_pos h⟩
  · exact .inl (if_neg h)
theorem start_call {P : Program} {w : World} {K : PySem.W.Frag} {mg mb : Str → Option Value} {k : Nat} {fa a : Addr} {fd : FuncData} {x : Str} {sp : Sp} {s1 : Shared} {vs : List Value} {ns : List Int}
    (inK : K.In s1.heap) (gm : s1.heap.Ns mainGlobals mg) (gb : s1.heap.Ns builtinsNs mb) (eb : ∀ x : Str, x ≠ "__name__" → mb x = bootBuiltins x) (nol : s1.heap.NoLimit) (ng : s1.gens = #[])
    (ha : s1.heap.get? a = some { cls := .type "list", data := .seq vs.toArray }) (hi : IntsAre vs ns) (hl : ns.length ≤ sizeLine) (hr : Room k callerA)
    (F : ∀ base : Heap, K.In base → base.Ns mainGlobals mg → FnG P w K mg base k fa fd [x] sp) (hbind : ∀ (s : Shared) (u : Value), BindsTo s fd ⟨[u], []⟩ [(x, u)])
    (hsp : ∀ H : Hp, SqL K H a (ns.map V.int) → sp [.ref a] H (fun v _ => v = .bl true) E0) :
    codeAny (model P w) callerA (.call (.ref fa) ⟨[.ref a], []⟩) (fun r s' => r = .ok (.ret (.bool true)) ∧ OldK s1.heap s'.heap ∧ s'.os = s1.os ∧ AllBare s'.gens) s1 := by
  have rv := vals_ints hi
  generalize eo : ({ cls := .type "list", data := .seq vs.toArray } : Obj) = o at ha
  generalize eH : onlyAt K a o (ns.map V.int) = H
  have cas : ∀ b, H b = none ∨ (b = a ∧ K.lookup a = none ∧ H b = some (.frz o (.lst (ns.map V.int)))) := fun b => by rw [← eH]; exact onlyAt_cases b
  have lenV : vs.length = ns.length := hi.length
  have obj_ok : ObjOk P w H s1.heap a (.lst (ns.map V.int)) := by
    exact ⟨by rw [List.length_map]; exact hl, vs, _, rv, ha.trans (congrArg some eo.symm)⟩
  have hok : HOk P w H s1.heap := fun b u e => by
    rcases cas b with z | ⟨rfl, _, z⟩
    · rw [z] at e; cases e
    · rw [z] at e; cases e
      exact ⟨ha, obj_ok⟩
  have hS : SqL K H a (ns.map V.int) := by
    cases hk : K.lookup a with
    | none => exact .inl (.inr ⟨o, by rw [← eH]; exact if_pos ⟨rfl, hk⟩⟩)
    | some o' =>
      have e := inK a o' hk
      rw [ha] at e
      obtain rfl := Option.some.inj e
      exact .inr ⟨o, vs.toArray, _, hk, by rw [← eo], by rw [← eo], by rw [← eo], by rw [List.size_toArray, lenV]; exact hl, rv⟩
  have low : ∀ {b : Addr} {u : Obj}, s1.heap.get? b = some u → H b = none → (hidT s1.heap H).get? b = some u := fun e n => hidT_get e n
  have kept : ∀ {b : Addr} {m : Str → Option Value}, s1.heap.Ns b m → (hidT s1.heap H).Ns b m := fun {b m} ⟨u, es, ep, e, d, r⟩ => by
    refine ⟨u, es, ep, low e ?_, d, r⟩
    rcases cas b with z | ⟨rfl, _, _⟩
    · exact z
    · rw [ha] at e
      obtain rfl := Option.some.inj e
      rw [← eo] at d
      cases d
  have inB : K.In (hidT s1.heap H) := fun b u e => by
    refine low (inK b u e) ?_
    rcases cas b with z | ⟨rfl, n, _⟩
    · exact z
    · rw [n] at e; cases e
  have md : Mod K mg (hidT s1.heap H) := ⟨inB, kept gm, ⟨mb, kept gb, eb⟩, let ⟨mc, h1, h2⟩ := nol; ⟨mc, kept h1, h2⟩⟩
  have e0 : Env0 P w K mg (hidT s1.heap H) callerA [] s1 H :=
    ⟨rfl, md, fun b u e => of_hidT e, Nat.le_of_eq (hidT_size _ _), trivial, fun b hb => (List.not_mem_nil hb).elim, hok, .of_eq ng⟩
  refine codeAny_mono ((F _ inB (kept gm)).run callerA [] s1 H ⟨[.ref a], []⟩ [.ref a] [.ref a] _ _ rfl hr e0 (hbind s1 (.ref a)) (.cons rfl .nil) (hsp H hS)) fun r s' h => ?_
  cases r with
  | error e => exact h.elim
  | ok fl =>
    cases fl with
    | next => exact h.elim
    | brk => exact h.elim
    | cont => exact h.elim
    | ret u =>
      obtain ⟨v, H', os, bare, un, hok', r', q⟩ := h
      obtain rfl : v = .bl true := q
      obtain rfl : u = Value.bool true := r'
      refine ⟨rfl, OldK.of_keep fun b u e => ?_, os, bare⟩
      rcases cas b with z | ⟨rfl, _, z⟩
      · exact un.keep b u e z (fun z => (List.not_mem_nil z).elim) (fun z => (List.not_mem_nil z).elim)
      · have e1 := (hok b _ z).1
        have e2 := (hok' b _ (un.frzs b o _ z)).1
        rw [e] at e1
        obtain rfl := Option.some.inj e1
        exact e2
theorem walk_law {l : PySem.W.OpenLaw} {n k : Nat} {q : Program} {loose : List Str} {XP : (Str → Option Value) → Heap → Prop} {YP : World → Heap → Prop} {d : DefRec} {K : Params → PySem.W.Frag} {sp : World → Sp} {x : Str}
    (hn : l.most = some n) (hn2 : n ≤ sizeLine) (hdf : d.params.defaults = []) (hr : Room k callerA) (hY : ∀ (w : World) (h : Heap), YP w h → (K w.params).In h)
    (F : ∀ (w : World) (mg : Str → Option Value) (fa : Addr) (h : Heap), (K w.params).In h → h.Ns mainGlobals mg → mg d.name = some (.ref fa) →
      ∃ fd : FuncData, (∀ (s : Shared) (u : Value), BindsTo s fd ⟨[u], []⟩ [(x, u)]) ∧ ∀ base : Heap, (K w.params).In base → base.Ns mainGlobals mg → FnG l.prog w (K w.params) mg base k fa fd [x] (sp w))
    (hsp : ∀ (w : World) (H : Hp) (a : Addr) (ns : List Int), ns.length ≤ n → SqL (K w.params) H a (ns.map V.int) → sp w [.ref a] H (fun v _ => v = .bl true) E0) :
    PySem.W.WalkO q loose XP YP l.row.toRowW d [] (fun f vs => PySem.call f vs) := by
  refine Att.attach_call hn hdf fun w s0 s1 mg mb fa o pm cd doc a vs ns G Y ho hd hcd hmg hobj hints hlen hg => ?_
  obtain ⟨fd, hb, hF⟩ := F w mg fa _ (hY w _ Y) G.T.g hmg
  exact start_call (hY w _ Y) G.T.g G.T.b G.T.builtins G.T.nolimit hg hobj hints (Nat.le_trans hlen hn2) hr hF hb (fun H hS => hsp w H a ns hlen hS)
end K49

/-! the mathematics: sums, counts of ways, squaring by a number -/
namespace K49
def S : Nat → (Nat → Int) → Int
  | 0, _ => 0
  | n + 1, f => S n f + f n
theorem S_congr : ∀ {n : Nat} {f g : Nat → Int}, (∀ i, i < n → f i = g i) → S n f = S n g
  | 0, _, _, _ => rfl
  | n + 1, f, g, h => by
    show S n f + f n = S n g + g n
    rw [S_congr fun i hi => h i (Nat.lt_succ_of_lt hi), h n (Nat.lt_succ_self n)]
theorem S_add : ∀ (n : Nat) (f g : Nat → Int), S n (fun i => f i + g i) = S n f + S n g
  | 0, _, _ => rfl
  | n + 1, f, g => by
    show S n (fun i => f i + g i) + (f n + g n) = (S n f + f n) + (S n g + g n)
    rw [S_add n f g]; omega
theorem S_mul (c : Int) : ∀ (n : Nat) (f : Nat → Int), S n (fun i => c * f i) = c * S n f
  | 0, _ => (Int.mul_zero c).symm
  | n + 1, f => by
    show S n (fun i => c * f i) + c * f n = c * (S n f + f n)
    rw [S_mul c n f, Int.mul_add]
theorem S_mulr (c : Int) : ∀ (n : Nat) (f : Nat → Int), S n (fun i => f i * c) = S n f * c
  | 0, _ => (Int.zero_mul c).symm
  | n + 1, f => by
    show S n (fun i => f i * c) + f n * c = (S n f + f n) * c
    rw [S_mulr c n f, Int.add_mul]
theorem S_zero : ∀ n : Nat, S n (fun _ => 0) = 0
  | 0 => rfl
  | n + 1 => by
    show S n (fun _ => 0) + 0 = 0
    rw [S_zero n]; rfl
theorem S_swap (n : Nat) : ∀ (m : Nat) (f : Nat → Nat → Int), S n (fun i => S m (f i)) = S m (fun j => S n (fun i => f i j))
  | 0, f => S_zero n
  | m + 1, f => by
    show S n (fun i => S m (f i) + f i m) = S m (fun j => S n (fun i => f i j)) + S n (fun i => f i m)
    rw [S_add, S_swap n m f]
theorem S_mod (m : Int) : ∀ {n : Nat} {f g : Nat → Int}, (∀ i, i < n → f i % m = g i % m) → S n f % m = S n g % m
  | 0, _, _, _ => rfl
  | n + 1, f, g, h => by
    show (S n f + f n) % m = (S n g + g n) % m
    rw [Int.add_emod, S_mod m fun i hi => h i (Nat.lt_succ_of_lt hi), h n (Nat.lt_succ_self n), ← Int.add_emod]
theorem S_sum : ∀ (n : Nat) (f : Nat → Int), ((List.range n).map f).sum = S n f
  | 0, _ => rfl
  | n + 1, f => by
    rw [List.range_succ, List.map_append, List.sum_append, S_sum n f]
    show S n f + ([f n] : List Int).sum = S n f + f n
    simp
theorem S_filter (e : Nat → Bool) (f : Nat → Int) : ∀ n : Nat, (((List.range n).filter e).map f).sum = S n (fun i => if e i = true then f i else 0)
  | 0 => rfl
  | n + 1 => by
    rw [List.range_succ, List.filter_append, List.map_append, List.sum_append, S_filter e f n]
    show _ = S n (fun i => if e i = true then f i else 0) + (if e n = true then f n else 0)
    cases h : e n <;> simp [h]
theorem S_len (e : Nat → Bool) : ∀ n : Nat, (((List.range n).filter e).length : Int) = S n (fun i => if e i = true then 1 else 0)
  | 0 => rfl
  | n + 1 => by
    rw [List.range_succ, List.filter_append, List.length_append, Int.natCast_add, S_len e n]
    show _ = S n (fun i => if e i = true then 1 else 0) + (if e n = true then 1 else 0)
    cases h : e n <;> simp [h]
theorem S_bit {p : Nat → Prop} [DecidablePred p] : ∀ n : Nat, 0 ≤ S n (fun i => if p i then 1 else 0) ∧ S n (fun i => if p i then 1 else 0) ≤ (n : Int)
  | 0 => ⟨Int.le_refl _, Int.le_refl _⟩
  | n + 1 => by
    have ih := S_bit (p := p) n
    have e : S (n + 1) (fun i => if p i then (1 : Int) else 0) = S n (fun i => if p i then 1 else 0) + (if p n then 1 else 0) := rfl
    rw [e]
    by_cases h : p n
    · rw [if_pos h]; omega
    · rw [if_neg h]; omega
/-! ### a table, by its functions -/
structure Tb where
  many : Nat
  n : Nat
  st : Nat → Nat → Nat
  en : Nat → Bool
def Tb.L (T : Tb) : Nat := 2 ^ T.many
/-- how many letters lead from j to k -/
def Tb.c (T : Tb) (j k : Nat) : Int := S T.L (fun l => if T.st j l = k then 1 else 0)
def stepF (n : Nat) (R : Nat → Nat → Int) (v : Nat → Int) : Nat → Int := fun k => S n (fun j => v j * R j k)
def e0 : Nat → Int := fun k => if k = 0 then 1 else 0
def Tb.ways (T : Tb) : Nat → Nat → Int
  | 0 => e0
  | w + 1 => stepF T.n T.c (T.ways w)
def tot (n : Nat) (en : Nat → Bool) (v : Nat → Int) : Int := S n (fun i => if en i = true then v i else 0)
def Tb.num (T : Tb) (w : Nat) : Int := tot T.n T.en (T.ways w)
structure Tb.Ok (T : Tb) : Prop where
  many : T.many ≤ 6
  pos : 0 < T.n
  few : T.n ≤ 30
  st : ∀ j l, j < T.n → l < T.L → T.st j l < T.n
theorem Tb.Ok.L {T : Tb} (h : T.Ok) : T.L ≤ 64 := Nat.pow_le_pow_right (n := 2) (by omega) h.many
theorem Tb.c_nn (T : Tb) (j k : Nat) : 0 ≤ T.c j k := (S_bit T.L).1
theorem Tb.c_le {T : Tb} (h : T.Ok) (j k : Nat) : T.c j k ≤ 64 := by
  have a : T.c j k ≤ (T.L : Int) := (S_bit T.L).2
  have b := h.L
  omega
/-! ### powers by a number -/
def mulF (n : Nat) (m : Int) (A R : Nat → Nat → Int) : Nat → Nat → Int := fun i k => (S n fun j => A i j * R j k) % m
def pw (n : Nat) (m : Int) : Nat → (Nat → Nat → Int) → (Nat → Nat → Int) → (Nat → Nat → Int)
  | 0, A, _ => A
  | t + 1, A, R => pw n m ((t + 1) / 2) (if (t + 1) % 2 = 1 then mulF n m A R else A) (mulF n m R R)
termination_by t => t
decreasing_by omega
theorem pw_zero (n : Nat) (m : Int) (A R : Nat → Nat → Int) : pw n m 0 A R = A := by rw [pw]
theorem pw_pos (n : Nat) (m : Int) {t : Nat} (h : 0 < t) (A R : Nat → Nat → Int) : pw n m t A R = pw n m (t / 2) (if t % 2 = 1 then mulF n m A R else A) (mulF n m R R) := by
  cases t with
  | zero => omega
  | succ t => rw [pw]
theorem pw_row (n : Nat) (m : Int) (t : Nat) : ∀ {A A' R : Nat → Nat → Int}, A 0 = A' 0 → pw n m t A R 0 = pw n m t A' R 0 := by
  induction t using Nat.strongRecOn with
  | _ t ih =>
    intro A A' R h
    by_cases h0 : t = 0
    · subst h0
      rw [pw_zero, pw_zero, h]
    · have hp : 0 < t := by omega
      rw [pw_pos n m hp, pw_pos n m hp]
      refine ih (t / 2) (by omega) ?_
      split
      · funext k
        show (S n fun j => A 0 j * R j k) % m = (S n fun j => A' 0 j * R j k) % m
        rw [h]
      · exact h
def itF (n : Nat) (R : Nat → Nat → Int) : Nat → (Nat → Int) → (Nat → Int)
  | 0, v => v
  | t + 1, v => itF n R t (stepF n R v)
theorem itF_succ (n : Nat) (R : Nat → Nat → Int) : ∀ (t : Nat) (v : Nat → Int), itF n R (t + 1) v = stepF n R (itF n R t v)
  | 0, _ => rfl
  | t + 1, v => by
    show itF n R (t + 1) (stepF n R v) = stepF n R (itF n R t (stepF n R v))
    exact itF_succ n R t _
theorem ways_it (T : Tb) : ∀ w : Nat, T.ways w = itF T.n T.c w e0
  | 0 => rfl
  | w + 1 => by
    rw [itF_succ, ← ways_it T w]
    rfl
def Cg (m : Int) (u v : Nat → Int) : Prop := ∀ k, u k % m = v k % m
theorem mul_cg {m a b c d : Int} (h : a % m = c % m) (g : b % m = d % m) : (a * b) % m = (c * d) % m := by
  rw [Int.mul_emod, h, g, ← Int.mul_emod]
theorem step_cg {m : Int} {n : Nat} {R : Nat → Nat → Int} {u v : Nat → Int} (h : Cg m u v) : Cg m (stepF n R u) (stepF n R v) := fun k =>
  S_mod m fun j _ => mul_cg (h j) rfl
theorem it_cg {m : Int} {n : Nat} {R : Nat → Nat → Int} : ∀ (t : Nat) {u v : Nat → Int}, Cg m u v → Cg m (itF n R t u) (itF n R t v)
  | 0, _, _, h => h
  | t + 1, _, _, h => it_cg t (step_cg h)
theorem step_sq {m : Int} {n : Nat} {R : Nat → Nat → Int} (v : Nat → Int) : Cg m (stepF n (mulF n m R R) v) (stepF n R (stepF n R v)) := fun k => by
  have a : S n (fun j => v j * mulF n m R R j k) % m = S n (fun j => v j * S n (fun i => R j i * R i k)) % m :=
    S_mod m fun j _ => mul_cg rfl (Int.emod_emod_of_dvd _ (Int.dvd_refl m))
  have b : S n (fun j => v j * S n (fun i => R j i * R i k)) = S n (fun i => S n (fun j => v j * R j i) * R i k) := by
    have e1 : S n (fun j => v j * S n (fun i => R j i * R i k)) = S n (fun j => S n (fun i => v j * R j i * R i k)) := S_congr fun j _ => by
      rw [← S_mul]
      exact S_congr fun i _ => (Int.mul_assoc _ _ _).symm
    rw [e1, S_swap]
    exact S_congr fun i _ => S_mulr _ _ _
  show S n (fun j => v j * mulF n m R R j k) % m = S n (fun i => S n (fun j => v j * R j i) * R i k) % m
  rw [a, b]
theorem it_sq {m : Int} {n : Nat} {R : Nat → Nat → Int} : ∀ (q : Nat) (v : Nat → Int), Cg m (itF n (mulF n m R R) q v) (itF n R (2 * q) v)
  | 0, _ => fun _ => rfl
  | q + 1, v => fun k => by
    have a := it_sq (m := m) (n := n) (R := R) q (stepF n (mulF n m R R) v) k
    have b := it_cg (m := m) (n := n) (R := R) (2 * q) (step_sq (m := m) (n := n) (R := R) v) k
    exact a.trans b
theorem pw_it (n : Nat) (m : Int) (t : Nat) : ∀ (A R : Nat → Nat → Int) (i : Nat), Cg m (pw n m t A R i) (itF n R t (A i)) := by
  induction t using Nat.strongRecOn with
  | _ t ih =>
    intro A R i k
    by_cases h0 : t = 0
    · subst h0
      rw [pw_zero]
      rfl
    · have hp : 0 < t := by omega
      rw [pw_pos n m hp]
      have a := ih (t / 2) (by omega) (if t % 2 = 1 then mulF n m A R else A) (mulF n m R R) i k
      have b := it_sq (m := m) (n := n) (R := R) (t / 2) ((if t % 2 = 1 then mulF n m A R else A) i) k
      refine (a.trans b).trans ?_
      by_cases h1 : t % 2 = 1
      · rw [if_pos h1]
        have c : Cg m (mulF n m A R i) (stepF n R (A i)) := fun k => Int.emod_emod_of_dvd _ (Int.dvd_refl m)
        have d := it_cg (m := m) (n := n) (R := R) (2 * (t / 2)) c k
        have e : t = 2 * (t / 2) + 1 := by omega
        refine d.trans ?_
        rw [show itF n R t (A i) = itF n R (2 * (t / 2) + 1) (A i) by rw [← e]]
        rfl
      · rw [if_neg h1]
        rw [show itF n R t (A i) = itF n R (2 * (t / 2)) (A i) by rw [show 2 * (t / 2) = t by omega]]
theorem tot_cg {m : Int} {n : Nat} {en : Nat → Bool} {u v : Nat → Int} (h : Cg m u v) : tot n en u % m = tot n en v % m := S_mod m fun i _ => by
  split
  · exact h i
  · rfl
/-- the unit's rows by a number -/
def idF (m : Int) : Nat → Nat → Int := fun i k => (if k = i then 1 else 0) % m
def Tb.byV (T : Tb) (m : Int) (w : Nat) : Int := tot T.n T.en (pw T.n m w (idF m) T.c 0) % m
theorem byV_num (T : Tb) (m : Int) (w : Nat) : T.byV m w = T.num w % m := by
  refine tot_cg fun k => ?_
  rw [ways_it]
  refine (pw_it T.n m w (idF m) T.c 0 k).trans (it_cg w (fun k => ?_) k)
  exact Int.emod_emod_of_dvd _ (Int.dvd_refl m)
theorem byV_far (T : Tb) {m : Int} (hm : 2 ≤ m) (w : Nat) : tot T.n T.en (pw T.n m w (fun _ => e0) T.c 0) % m = T.byV m w := by
  unfold Tb.byV
  rw [pw_row T.n m w (A := fun _ => e0) (A' := idF m)]
  funext k
  show (if k = 0 then (1 : Int) else 0) = (if k = 0 then 1 else 0) % m
  split
  · exact (Int.emod_eq_of_lt (by omega) (by omega)).symm
  · exact (Int.zero_emod m).symm
/-! ### the tables that are written in the law -/
def stOf (s : List (List Nat)) : Nat → Nat → Nat := fun j l => (s.getD j []).getD l 0
def enOf (e : List Bool) : Nat → Bool := fun j => e.getD j false
def tBelow : Tb := ⟨2, 2, stOf [[0, 0, 1, 0], [1, 0, 1, 1]], enOf [false, true]⟩
def tOdd : Tb := ⟨1, 2, stOf [[0, 1], [1, 0]], enOf [false, true]⟩
def tOne : Tb := ⟨0, 1, stOf [[0]], enOf [true]⟩
def tWide : Tb := ⟨6, 1, stOf [List.replicate 64 0], enOf [true]⟩
theorem ok_by {T : Tb} (h : (decide (T.many ≤ 6) && decide (0 < T.n) && decide (T.n ≤ 30) && (List.range T.n).all fun j => (List.range T.L).all fun l => decide (T.st j l < T.n)) = true) : T.Ok := by
  simp only [Bool.and_eq_true, decide_eq_true_eq, List.all_eq_true, List.mem_range] at h
  exact ⟨h.1.1.1, h.1.1.2, h.1.2, fun j l a b => h.2 j a l b⟩
theorem okBelow : tBelow.Ok := ok_by (by decide +kernel)
theorem okOdd : tOdd.Ok := ok_by (by decide +kernel)
theorem okOne : tOne.Ok := ok_by (by decide +kernel)
theorem okWide : tWide.Ok := ok_by (by decide +kernel)
theorem odd_c : tOdd.c 0 0 = 1 ∧ tOdd.c 0 1 = 1 ∧ tOdd.c 1 0 = 1 ∧ tOdd.c 1 1 = 1 := by decide +kernel
theorem odd_ways : ∀ w : Nat, tOdd.ways (w + 1) 0 = 2 ^ w ∧ tOdd.ways (w + 1) 1 = 2 ^ w
  | 0 => by decide +kernel
  | w + 1 => by
    obtain ⟨a, b⟩ := odd_ways w
    obtain ⟨c1, c2, c3, c4⟩ := odd_c
    have u : ∀ k, tOdd.ways (w + 1 + 1) k = 0 + tOdd.ways (w + 1) 0 * tOdd.c 0 k + tOdd.ways (w + 1) 1 * tOdd.c 1 k := fun k => rfl
    rw [u, u, a, b, c1, c2, c3, c4, Int.pow_succ]
    omega
theorem odd_num (w : Nat) : tOdd.num (w + 1) = 2 ^ w := by
  have u : tOdd.num (w + 1) = 0 + 0 + tOdd.ways (w + 1) 1 := rfl
  rw [u, (odd_ways w).2]
  omega
theorem one_num : ∀ w : Nat, tOne.num w = 1 := by
  have c : tOne.c 0 0 = 1 := by decide +kernel
  have h : ∀ w, tOne.ways w 0 = 1 := fun w => by
    induction w with
    | zero => rfl
    | succ w ih =>
      have u : tOne.ways (w + 1) 0 = 0 + tOne.ways w 0 * tOne.c 0 0 := rfl
      rw [u, ih, c]
      rfl
  intro w
  have u : tOne.num w = 0 + tOne.ways w 0 := rfl
  rw [u, h]
  rfl
theorem below_two : tBelow.num 2 = 6 := by decide +kernel
theorem odd_zero : tOdd.num 0 = 0 := by decide +kernel
/-- rows of two, by a number -/
def go2 (m : Int) : Nat → Nat → Int → Int → Int → Int → Int → Int → Int × Int
  | 0, _, a, b, _, _, _, _ => (a, b)
  | f + 1, t, a, b, p, q, r, s => if t = 0 then (a, b) else
    go2 m f (t / 2) (if t % 2 = 1 then (a * p + b * r) % m else a) (if t % 2 = 1 then (a * q + b * s) % m else b) ((p * p + q * r) % m) ((p * q + q * s) % m) ((r * p + s * r) % m) ((r * q + s * s) % m)
theorem go2_pw (m : Int) : ∀ (f t : Nat), t < 2 ^ f → ∀ (A R : Nat → Nat → Int) (k : Nat), k < 2 → pw 2 m t A R 0 k = if k = 0 then (go2 m f t (A 0 0) (A 0 1) (R 0 0) (R 0 1) (R 1 0) (R 1 1)).1 else (go2 m f t (A 0 0) (A 0 1) (R 0 0) (R 0 1) (R 1 0) (R 1 1)).2
  | 0, t, h, A, R, k, hk => by
    have h0 : t = 0 := by simp at h; omega
    subst h0
    rw [pw_zero]
    show A 0 k = if k = 0 then A 0 0 else A 0 1
    split
    · subst k; rfl
    · have : k = 1 := by omega
      subst this; rfl
  | f + 1, t, h, A, R, k, hk => by
    by_cases h0 : t = 0
    · subst h0
      rw [pw_zero]
      show A 0 k = if k = 0 then A 0 0 else A 0 1
      split
      · subst k; rfl
      · have : k = 1 := by omega
        subst this; rfl
    · rw [pw_pos 2 m (by omega)]
      have ih := go2_pw m f (t / 2) (by rw [Nat.pow_succ] at h; omega) (if t % 2 = 1 then mulF 2 m A R else A) (mulF 2 m R R) k hk
      rw [ih]
      have z : ∀ x : Int, 0 + x = x := Int.zero_add
      have mm : ∀ (B C : Nat → Nat → Int) (i k : Nat), mulF 2 m B C i k = (B i 0 * C 0 k + B i 1 * C 1 k) % m := fun B C i k => by
        show (0 + B i 0 * C 0 k + B i 1 * C 1 k) % m = _
        rw [z]
      have g : go2 m (f + 1) t (A 0 0) (A 0 1) (R 0 0) (R 0 1) (R 1 0) (R 1 1) = go2 m f (t / 2) (if t % 2 = 1 then (A 0 0 * R 0 0 + A 0 1 * R 1 0) % m else A 0 0) (if t % 2 = 1 then (A 0 0 * R 0 1 + A 0 1 * R 1 1) % m else A 0 1)
          ((R 0 0 * R 0 0 + R 0 1 * R 1 0) % m) ((R 0 0 * R 0 1 + R 0 1 * R 1 1) % m) ((R 1 0 * R 0 0 + R 1 1 * R 1 0) % m) ((R 1 0 * R 0 1 + R 1 1 * R 1 1) % m) := if_neg h0
      rw [g, mm, mm, mm, mm]
      by_cases h1 : t % 2 = 1
      · simp only [if_pos h1]
        rw [mm, mm]
      · simp only [if_neg h1]
theorem below_far : tBelow.byV 7 (10 ^ 29) = 1 := by
  have u : tBelow.byV 7 (10 ^ 29) = (0 + 0 + pw 2 7 (10 ^ 29) (idF 7) tBelow.c 0 1) % 7 := rfl
  rw [u, go2_pw 7 100 (10 ^ 29) (by decide +kernel) (idF 7) tBelow.c 1 (by omega), if_neg (by omega)]
  decide +kernel
theorem wide_far : tWide.byV 2 (10 ^ 30 - 1) = 0 := by
  have c : tWide.c 0 0 = 64 := by decide +kernel
  have stays : ∀ (t : Nat) (A R : Nat → Nat → Int), A 0 0 = 0 → pw 1 2 t A R 0 0 = 0 := fun t => by
    induction t using Nat.strongRecOn with
    | _ t ih =>
      intro A R h
      by_cases h0 : t = 0
      · subst h0; rw [pw_zero]; exact h
      · rw [pw_pos 1 2 (by omega)]
        refine ih (t / 2) (by omega) _ _ ?_
        split
        · show (0 + A 0 0 * R 0 0) % 2 = 0
          rw [h, Int.zero_mul]; rfl
        · exact h
  have u : tWide.byV 2 (10 ^ 30 - 1) = (0 + pw 1 2 (10 ^ 30 - 1) (idF 2) tWide.c 0 0) % 2 := rfl
  rw [u, pw_pos 1 2 (by omega), if_pos (by decide +kernel), stays]
  · rfl
  · show (0 + idF 2 0 0 * tWide.c 0 0) % 2 = 0
    rw [c]; rfl
end K49

/-! rows of ints by functions, and what readings evaluate to -/
namespace K49
open PySem PySem.Spec PyProof.Rows L2 Evl
/-! ### rows -/
def vi (n : Nat) (f : Nat → Int) : List V := (List.range n).map fun k => V.int (f k)
def vb (n : Nat) (f : Nat → Bool) : List V := (List.range n).map fun k => V.bl (f k)
section
variable {n k : Nat} {f g : Nat → Int} {b : Nat → Bool} {x : V}
theorem vi_len (n : Nat) (f : Nat → Int) : (vi n f).length = n := by unfold vi; rw [List.length_map, List.length_range]
theorem vb_len (n : Nat) (f : Nat → Bool) : (vb n f).length = n := by unfold vb; rw [List.length_map, List.length_range]
theorem vi_at (h : k < n) : (vi n f)[k]? = some (.int (f k)) := by unfold vi; rw [List.getElem?_map, List.getElem?_range h]; rfl
theorem vb_at (h : k < n) : (vb n b)[k]? = some (.bl (b k)) := by unfold vb; rw [List.getElem?_map, List.getElem?_range h]; rfl
theorem vi_get (h : (vi n f)[k]? = some x) : k < n ∧ x = .int (f k) := by
  have a : k < n := by
    have := (List.getElem?_eq_some_iff.mp h).1
    rw [vi_len] at this
    exact this
  rw [vi_at a] at h
  exact ⟨a, (Option.some.inj h).symm⟩
theorem vb_get (h : (vb n b)[k]? = some x) : k < n ∧ x = .bl (b k) := by
  have a : k < n := by
    have := (List.getElem?_eq_some_iff.mp h).1
    rw [vb_len] at this
    exact this
  rw [vb_at a] at h
  exact ⟨a, (Option.some.inj h).symm⟩
theorem vi_snoc : vi n f ++ [.int (f n)] = vi (n + 1) f := by unfold vi; rw [List.range_succ, List.map_append]; rfl
theorem vb_snoc : vb n b ++ [.bl (b n)] = vb (n + 1) b := by unfold vb; rw [List.range_succ, List.map_append]; rfl
theorem vi_congr (h : ∀ k, k < n → f k = g k) : vi n f = vi n g := by
  unfold vi
  exact List.map_congr_left fun k hk => by rw [h k (List.mem_range.mp hk)]
theorem vb_congr {b c : Nat → Bool} (h : ∀ k, k < n → b k = c k) : vb n b = vb n c := by
  unfold vb
  exact List.map_congr_left fun k hk => by rw [h k (List.mem_range.mp hk)]
theorem vi_set {z : Int} (h : k < n) : (vi n f).set k (.int z) = vi n (fun j => if j = k then z else f j) := by
  apply List.ext_getElem?
  intro j
  by_cases hj : j < n
  · rw [vi_at hj]
    by_cases e : j = k
    · subst e
      rw [List.getElem?_set_self (by rw [vi_len]; exact h), if_pos rfl]
    · rw [List.getElem?_set_ne (Ne.symm e), vi_at hj, if_neg e]
  · rw [List.getElem?_eq_none (by rw [List.length_set, vi_len]; omega), List.getElem?_eq_none (by rw [vi_len]; omega)]
theorem vi_ints (n : Nat) (f : Nat → Int) : vi n f = ((List.range n).map f).map V.int := by unfold vi; rw [List.map_map]; rfl
theorem given_ints (n : Nat) (e : Nat → Bool) (f : Nat → Int) : given n e (fun k => .int (f k)) = (((List.range n).filter e).map f).map V.int := by unfold given; rw [List.map_map]; rfl
theorem given_all (n : Nat) (v : Nat → V) : given n (fun _ => true) v = (List.range n).map v := by unfold given; rw [List.filter_eq_self.mpr fun _ _ => rfl]
theorem given_none (n : Nat) (v : Nat → V) : given n (fun _ => false) v = [] := by unfold given; rw [List.filter_eq_nil_iff.mpr fun _ _ h => Bool.noConfusion h]; rfl
theorem given_congr {e e' : Nat → Bool} {v v' : Nat → V} (h : ∀ k, k < n → e k = e' k) (h2 : ∀ k, k < n → v k = v' k) : given n e v = given n e' v' := by
  unfold given
  rw [List.filter_congr fun k hk => h k (List.mem_range.mp hk)]
  exact List.map_congr_left fun k hk => h2 k (List.mem_range.mp (List.mem_filter.mp hk).1)
theorem vi_given (n : Nat) (f : Nat → Int) : given n (fun _ => true) (fun k => .int (f k)) = vi n f := given_all n _
theorem vi_one : vi 1 f = [.int (f 0)] := rfl
end
/-! ### rows of rows, tables -/
def Mx (K : PySem.W.Frag) (H : Hp) (p : Addr) (n : Nat) (row : Nat → List V) : Prop := ∃ rs : List Addr, SqL K H p (rs.map V.ref) ∧ rs.length = n ∧ ∀ j r, rs[j]? = some r → SqL K H r (row j)
def TbAt (K : PySem.W.Frag) (H : Hp) (t : Addr) (T : Tb) : Prop := ∃ s e : Addr, SqT K H t [.int T.many, .ref s, .ref e] ∧ Mx K H s T.n (fun j => vi T.L fun l => (T.st j l : Int)) ∧ SqL K H e (vb T.n T.en)
section
variable {K : PySem.W.Frag} {H H' : Hp} {p t : Addr} {n : Nat} {row : Nat → List V} {T : Tb}
theorem Mx.ex (e : Ex H H') (h : Mx K H p n row) : Mx K H' p n row := let ⟨rs, a, b, c⟩ := h; ⟨rs, ex_l e a, b, fun j r hj => ex_l e (c j r hj)⟩
theorem TbAt.ex (e : Ex H H') (h : TbAt K H t T) : TbAt K H' t T := let ⟨s, u, a, b, c⟩ := h; ⟨s, u, ex_t e a, b.ex e, ex_l e c⟩
theorem Mx.at_ (h : Mx K H p n row) {j : Nat} (hj : j < n) : ∃ rs r, SqL K H p rs ∧ rs[j]? = some (.ref r) ∧ SqL K H r (row j) := by
  obtain ⟨rs, a, b, c⟩ := h
  obtain ⟨r, hr⟩ : ∃ r, rs[j]? = some r := ⟨_, List.getElem?_eq_getElem (by omega)⟩
  exact ⟨_, r, a, by rw [List.getElem?_map, hr]; rfl, c j r hr⟩
theorem Mx.congr {row' : Nat → List V} (h : Mx K H p n row) (e : ∀ j, j < n → row j = row' j) : Mx K H p n row' := by
  obtain ⟨rs, a, b, c⟩ := h
  refine ⟨rs, a, b, fun j r hj => ?_⟩
  rw [← e j (by have := (List.getElem?_eq_some_iff.mp hj).1; omega)]
  exact c j r hj
end
/-! ### what is evaluated, told by what holds of it -/
def EvP (te : TE) (σ : L2.St) (H : Hp) (P : V → Hp → Prop) : Prop := ∀ H1, Ex H H1 → ∀ Q : VK, (∀ v H2, Ex H1 H2 → P v H2 → Q v H2) → te σ H1 Q
def SpP (sp : Sp) (vs : List V) (H : Hp) (P : V → Hp → Prop) : Prop := ∀ H1, Ex H H1 → ∀ Q : VK, (∀ v H2, Ex H1 H2 → P v H2 → Q v H2) → ∀ E : XK, sp vs H1 Q E
section
variable {K : PySem.W.Frag} {σ : L2.St} {H H' : Hp} {ta tb te tl : TE} {t u : TT} {x y z v : V} {r : R2} {P P' : V → Hp → Prop} {D : Ends} {tz tu : TS}
theorem EvP.mono (e : Ex H H') (h : EvP te σ H P) : EvP te σ H' P := fun H1 a Q q => h H1 (e.trans a) Q q
theorem EvP.imp (h : EvP te σ H P) (k : ∀ v H1, Ex H H1 → P v H1 → P' v H1) : EvP te σ H P' := fun H1 e Q q => h H1 e Q fun v H2 e2 p => q v H2 e2 (k v H2 (e.trans e2) p)
theorem ep_ev (h : Ev te σ H v) : EvP te σ H (fun u _ => u = v) := fun H1 e Q q => h H1 e Q fun H2 e2 => q v H2 e2 rfl
theorem ep_el {xs : List V} (h : EvL te σ H xs) : EvP te σ H (fun u H' => ∃ p, u = .ref p ∧ SqL K H' p xs) := fun H1 e Q q => h H1 e Q fun p H2 _ e2 hp => q _ H2 e2 ⟨p, rfl, sq_of hp⟩
theorem el_is {xs ys : List V} (h : EvL te σ H xs) (e : xs = ys) : EvL te σ H ys := by rw [← e]; exact h
theorem ev_ep (h : EvP te σ H (fun u _ => u = v)) : Ev te σ H v := fun H1 e Q q => h H1 e Q fun u H2 e2 p => by rw [p]; exact q H2 e2
theorem ep_call {sp : Sp} {dvs vs : List V} {E : XK} {ta : TA} (h : EvA ta σ H vs) (hs : SpP sp (vs ++ dvs) H P) : EvP (tCall sp dvs E ta) σ H P := fun H1 e Q q =>
  h H1 e _ fun H2 e2 => hs H2 (e.trans e2) Q (fun v H3 e3 p => q v H3 (e2.trans e3) p) E
theorem ep_op (ha : EvP ta σ H P) (hb : ∀ H1, Ex H H1 → Ev tb σ H1 y) (hr : ∀ v H1, Ex H H1 → P v H1 → RV r v y H1 z) : Ev (tOp r ta tb) σ H z := fun H1 e Q q =>
  ha H1 e _ fun v H2 e2 p => hb H2 (e.trans e2) H2 (Ex.refl H2) _ fun H3 e3 => hr v H2 (e.trans e2) p H3 e3 Q fun H4 e4 => q H4 ((e2.trans e3).trans e4)
theorem ep_opP (ha : EvP ta σ H P) (hb : ∀ H1, Ex H H1 → Ev tb σ H1 y) (hr : ∀ v H1, Ex H H1 → P v H1 → ∀ H2, Ex H1 H2 → ∀ Q : VK, (∀ z H3, Ex H2 H3 → P' z H3 → Q z H3) → r v y H2 Q) : EvP (tOp r ta tb) σ H P' := fun H1 e Q q =>
  ha H1 e _ fun v H2 e2 p => hb H2 (e.trans e2) H2 (Ex.refl H2) _ fun H3 e3 => hr v H2 (e.trans e2) p H3 e3 Q fun z H4 e4 => q z H4 ((e2.trans e3).trans e4)
theorem s_asgP {i : Nat} (h : EvP te σ H P) (k : ∀ v H1, Ex H H1 → P v H1 → D.nx (σ.set i (some v)) H1) : tAsg te (gName i) D σ H := h H (Ex.refl H) _ fun v H1 e p => k v H1 e p
theorem q_asgP {i : Nat} (h : EvP te σ H P) (k : ∀ v H1, Ex H H1 → P v H1 → tz D (σ.set i (some v)) H1) : tSeq (tAsg te (gName i)) tz D σ H := s_asgP (D := { D with nx := tz D }) h k
theorem s_retP (h : EvP te σ H P) (k : ∀ v H1, Ex H H1 → P v H1 → D.rt v H1) : tRet te D σ H := h H (Ex.refl H) _ k
theorem ev_sum {n : Nat} {f : Nat → Int} {xs : List Int} (ha : EvL ta σ H (xs.map V.int)) : Ev (tCB (rSum K) (tCons ta tNil)) σ H (.int xs.sum) := fun H1 e Q q =>
  ha H1 e _ fun p H2 _ e2 hp => ⟨p, xs, rfl, sq_of hp, q H2 e2⟩
theorem ev_seqLen {p : Addr} {xs : List V} (ha : Ev ta σ H (.ref p)) (h : SqL K H p xs ∨ SqT K H p xs) : Ev (tCB (rLenS K) (tCons ta tNil)) σ H (.int (xs.length : Int)) := fun H1 e Q q =>
  ha H1 e _ fun H2 e2 => ⟨p, xs, rfl, h.imp (ex_l (e.trans e2)) (ex_t (e.trans e2)), q H2 e2⟩
/-! ### comprehensions whose items are rows -/
def Cm (H : Hp) (rows : Nat → List V) (Dl : Addr) (i : Nat) (H' : Hp) : Prop := H Dl = none ∧ Ex H H' ∧ ∃ rs : List Addr, H' Dl = some (.lst (rs.map V.ref)) ∧ rs.length = i ∧ ∀ j r, rs[j]? = some r → r ≠ Dl ∧ H' r = some (.lst (rows j))
theorem cm_turn {H H' : Hp} {rows : Nat → List V} {Dl : Addr} {i : Nat} {σ2 : L2.St} (p : Cm H rows Dl i H') (hi : i < 50000) (he : EvL te σ2 H (rows i)) :
    te σ2 H' fun y H4 => ∃ acc, H4 Dl = some (.lst acc) ∧ acc.length < sizeLine ∧ Cm H rows Dl (i + 1) (upd H4 Dl (.lst (acc ++ [y]))) := by
  obtain ⟨p1, p2, rs, p3, p4, p5⟩ := p
  refine he H' p2 _ fun q H4 hq e4 hl => ⟨rs.map V.ref, e4 Dl _ p3, sz_lt (by rw [List.length_map]; omega), p1, Ex.mut (p2.trans e4) p1, rs ++ [q], ?_, by rw [List.length_append, p4]; rfl, fun j r hj => ?_⟩
  · rw [upd_same, List.map_append]; rfl
  · have nq : q ≠ Dl := fun z => by rw [z, p3] at hq; cases hq
    by_cases hlt : j < rs.length
    · rw [List.getElem?_append_left hlt] at hj
      obtain ⟨a, b⟩ := p5 j r hj
      exact ⟨a, by rw [upd_ne a]; exact e4 _ _ b⟩
    · rw [List.getElem?_append_right (by omega)] at hj
      have ej : j - rs.length = 0 := by
        cases h0 : j - rs.length with
        | zero => rfl
        | succ m => rw [h0] at hj; simp at hj
      rw [ej] at hj
      have eq : q = r := Option.some.inj hj
      subst eq
      have : j = i := by omega
      subst this
      exact ⟨nq, by rw [upd_ne nq]; exact hl⟩
theorem Cm.mx {rows : Nat → List V} {Dl : Addr} {i : Nat} {H' : Hp} (p : Cm H rows Dl i H') : Mx K H' Dl i rows := let ⟨_, _, rs, p3, p4, p5⟩ := p; ⟨rs, sq_of p3, p4, fun j r hj => sq_of (p5 j r hj).2⟩
theorem ep_lcR {ta : TA} {j : Nat} {vs : List Nat} {n : Int} (rows : Nat → List V) (h : EvA ta σ H [.int n]) (hn : 0 ≤ n ∧ n ≤ 40000) (hw : ∀ x, wipe ((wipe σ vs).set j (some x)) vs = wipe σ vs)
    (he : ∀ (i : Nat) H1, Ex H H1 → (i : Int) < n → EvL te ((wipe σ vs).set j (some (.int (i : Int)))) H1 (rows i)) : EvP (tLc (iRng1 ta) (gName j) tYes te vs) σ H (fun v H' => ∃ p, v = .ref p ∧ Mx K H' p n.toNat rows) := fun H0 e Q q =>
  h H0 e _ fun H1 e1 => ⟨n, rfl, by omega, by omega, fun Dl hD => lc_range (lo := 0) (n := n.toNat) (Cm H1 rows Dl) ⟨hD, Ex.new hD, [], upd_same, rfl, fun j r hj => by simp at hj⟩
    (fun i H' hi p => by
      have z : (0 : Int) + (i : Int) = (i : Int) := Int.zero_add _
      refine ⟨hw _, ?_⟩
      show te ((wipe σ vs).set j (some (.int ((0 : Int) + (i : Int))))) H' fun y H4 => ∃ acc, H4 Dl = some (.lst acc) ∧ acc.length < sizeLine ∧ Cm H1 rows Dl (i + 1) (upd H4 Dl (.lst (acc ++ [y])))
      rw [z]
      exact cm_turn p (by omega) (he i H1 (e.trans e1) (by omega)))
    (fun H' p => q _ H' (e1.trans p.2.1) ⟨Dl, rfl, p.mx⟩)⟩
theorem ep_lcL {j n : Nat} {vs : List Nat} {G : List V → Hp → Prop} (rows : Nat → List V) (h : EvP tl σ H (fun v H' => ∃ a xs, v = .ref a ∧ SqL K H' a xs ∧ xs.length = n ∧ G xs H')) (hn : n ≤ 40000) (hw : ∀ x, wipe ((wipe σ vs).set j (some x)) vs = wipe σ vs)
    (he : ∀ (i : Nat) xs x H1, Ex H H1 → G xs H1 → xs[i]? = some x → EvL te ((wipe σ vs).set j (some x)) H1 (rows i)) : EvP (tLc (iList K tl) (gName j) tYes te vs) σ H (fun v H' => ∃ p, v = .ref p ∧ Mx K H' p n rows) := fun H0 e Q q =>
  h H0 e _ fun v H1 e1 ⟨a, xs, ev, hx, hl, g⟩ => ⟨a, ev, ⟨xs, hx⟩, fun Dl hD => lc_list (xs := xs) (Cm H1 rows Dl) ⟨hD, Ex.new hD, [], upd_same, rfl, fun j r hj => by simp at hj⟩ (fun i H' _ p => ex_l p.2.1 hx)
    (fun i x H' hi p => ⟨hw _, cm_turn p (by have := (List.getElem?_eq_some_iff.mp hi).1; omega) (he i xs x H1 (e.trans e1) g hi)⟩)
    (fun H' p => q _ H' (e1.trans p.2.1) ⟨Dl, rfl, by rw [← hl]; exact p.mx⟩)⟩
/-! ### comprehensions over two rows at once -/
theorem walk_zs {a b : Addr} {xs ys : List V} {n : Nat} (h1 : xs.length = n) (h2 : ys.length = n) : Walk (Izs K a b) n (fun H => SqL K H a xs ∧ SqL K H b ys) (YPair (fun i => xs[i]?) (fun i => ys[i]?)) :=
  ⟨fun i H hi g => ⟨xs, ys, _, _, g.1, g.2, List.getElem?_eq_getElem (by omega), List.getElem?_eq_getElem (by omega)⟩, fun H g => ⟨xs, ys, g.1, g.2, by omega, by omega⟩,
    fun i H v H' hi g y => let ⟨T, x, y, a1, a2, a3, a4, a5⟩ := y; ⟨T, x, y, a1, a2, a3, a4 _ g.1, a5 _ g.2⟩⟩
theorem el_lcZ {J : It} {wi : TI} {n j1 j2 : Nat} {vs : List Nat} {a b : Addr} {xs ys : List V} (w : Walk J n (fun H => SqL K H a xs ∧ SqL K H b ys) (YPair (fun i => xs[i]?) (fun i => ys[i]?)))
    (f : Nat → Bool) (v : Nat → V) (hx : SqL K H a xs) (hy : SqL K H b ys) (hz : n ≤ 40000)
    (hwi : ∀ H1, Ex H H1 → ∀ R : It → Hp → Prop, (∀ H2, Ex H1 H2 → R J H2) → wi σ H1 R) (hw : ∀ x y, wipe (((wipe σ vs).set j1 (some x)).set j2 (some y)) vs = wipe σ vs)
    (ht : ∀ (i : Nat) x y H1, Ex H H1 → xs[i]? = some x → ys[i]? = some y → EvT t (((wipe σ vs).set j1 (some x)).set j2 (some y)) H1 (f i))
    (he : ∀ (i : Nat) x y H1, Ex H H1 → xs[i]? = some x → ys[i]? = some y → f i = true → Ev te (((wipe σ vs).set j1 (some x)).set j2 (some y)) H1 (v i)) :
    EvL (tLc wi (gTup K 2 (gCons (gName j1) (gCons (gName j2) gNil))) t te vs) σ H (given n f v) := fun H0 e Q q => hwi H0 e _ fun H1 e1 Dl hD =>
  lc_it w (Cw H1 f v Dl) ⟨hD, Ex.new hD, upd_same⟩ (fun i H' _ p => ⟨ex_l ((e.trans e1).trans p.2.1) hx, ex_l ((e.trans e1).trans p.2.1) hy⟩) (fun i u H' H'' hi p y => by
    obtain ⟨T, x, y, rfl, nT, rfl, hxi, hyi⟩ := y
    have nD : Dl ≠ T := ne_of_none p.2.2 nT
    have p' : Cw H1 f v Dl i (upd H' T (.tup [x, y])) := ⟨p.1, p.2.1.trans (Ex.new nT), by rw [upd_ne nD]; exact p.2.2⟩
    exact ⟨T, [x, y], rfl, st_of upd_same, rfl, x, [y], rfl, y, [], rfl, rfl, hw x y, cw_turn p' (by omega) (ht i x y H1 (e.trans e1) hxi hyi) (he i x y H1 (e.trans e1) hxi hyi)⟩)
    fun H' p => q Dl H' (fresh_back e1 p.1) (e1.trans p.2.1) p.2.2
theorem wi_zs {ta tk : TA} {a b : Addr} {xs ys : List V} (h : EvA ta σ H [.ref a, .ref b]) (hk : EvA tk σ H [.bl true]) (hx : SqL K H a xs) (hy : SqL K H b ys) :
    ∀ H1, Ex H H1 → ∀ R : It → Hp → Prop, (∀ H2, Ex H1 H2 → R (Izs K a b) H2) → iZs K ta tk σ H1 R := fun H1 e R q =>
  h H1 e _ fun H2 e2 => hk H2 (e.trans e2) _ fun H3 e3 => ⟨a, b, xs, ys, rfl, rfl, ex_l ((e.trans e2).trans e3) hx, ex_l ((e.trans e2).trans e3) hy, q H3 (e2.trans e3)⟩
theorem wi_zip {ta : TA} {a b : Addr} {xs ys : List V} (h : EvA ta σ H [.ref a, .ref b]) (hx : SqL K H a xs) (hy : SqL K H b ys) :
    ∀ H1, Ex H H1 → ∀ R : It → Hp → Prop, (∀ H2, Ex H1 H2 → R (Itz K a b) H2) → iZip K ta σ H1 R := fun H1 e R q =>
  h H1 e _ fun H2 e2 => ⟨a, b, xs, ys, rfl, ex_l (e.trans e2) hx, ex_l (e.trans e2) hy, q H2 e2⟩
end
end K49

/-! the defs, first part: the checks of arguments -/
namespace K49
open PySem PySem.Spec PyProof.Rows L2 Evl
/-! ### the text -/
def topS (i : Nat) : Stmt := PySem.Challenge.pw_howeverwide_k49_whole_numbers_of_filling.main.body.getD i (.Pass ⟨0, 0, 0, 0⟩)
/-- a def that stands at a name and keeps its promise -/
structure Def (P : Program) (w : World) (K : PySem.W.Frag) (mg : Str → Option Value) (base : Heap) (k : Nat) (x : Str) (f : Addr) (fd : FuncData) (ps : List Str) (sp : Sp) : Prop where
  ok : FnOk P w K mg base CX0 k f fd ps sp
  gx : mg x = some (.ref f)
  kp : PySem.W.keepIn K (.ref f) = true
  bd : Binds K fd ps []
section
variable {X : Cx} {k j : Nat} {f : Addr} {fd : FuncData} {ps : List Str} {sp : Sp} {x : Str} {p pos : Pos} {e : Expr} {es : List Expr} {t : TA}
theorem pc (D : Def X.prog X.w X.K X.mg X.base k x f fd ps sp) (hr : Room j X.A) (ha : PA X (e :: es) t) (hk : k ≤ j := by decide) (hg : Gl X x := by rfl) (hdb : (x == ("__debug__" : Str)) = false := by decide)
    (he : starEach (e :: es) X.env = (false, eval e X.env) :: starEach es X.env := by rfl) (hpl : (backTo pos (starEach es X.env)).any (·.1) = false := by rfl) : PE X (.Call (.Name x p) (e :: es) [] pos) (tCall sp [] E0 t) :=
  pe_call D.ok (hr.mono hk) hg D.gx D.kp D.bd .nil pass0 ha hdb he hpl
end
/-! ### isinstance -/
section
variable {X : Cx} {e : Expr} {es : List Expr} {te : TE} {t : TA} {xB : Str} {B : String} {p p2 pos : Pos}
theorem pty (B : String) (hm : X.mg xB = none) (hv : bootBuiltins xB = some (.type B)) (hg : Gl X xB := by rfl) (hn : xB ≠ "__name__" := by decide) (hd : (xB == ("__debug__" : Str)) = false := by decide) : PE X (.Name xB pos) (tC (.ty B)) :=
  pe_bltn (v := .ty B) hg hm hv rfl hn hd
end
section
variable {K : PySem.W.Frag} {H : Hp} {σ : L2.St} {ta tb te : TE} {a : Addr} {xs : List V}
theorem ty_l (h : SqL K H a xs) : TyX K H (.ref a) (.type "list") := by
  rcases h with (h | ⟨o, h⟩) | ⟨o, its, n, h, c, _⟩
  · exact .base (.lst h)
  · exact .base (.frz h)
  · exact .kList h c
theorem ty_t (h : SqT K H a xs) : TyX K H (.ref a) (.type "tuple") := by
  rcases h with (h | ⟨o, h⟩) | ⟨o, its, n, h, c, _⟩
  · exact .base (.tup h)
  · exact .fTuple h
  · exact .kTuple h c
theorem ev_isi {x : V} {A B : String} {b : Bool} (ha : Ev ta σ H x) (ty : ∀ H1, Ex H H1 → TyX K H1 x (.type A)) (h : kitB A B = some b) : Ev (tCB (rIsi K) (tCons ta (tCons (tC (.ty B)) tNil))) σ H (.bl b) := fun H1 e Q q =>
  ha H1 e _ fun H2 e2 => ⟨x, .ty B, .type A, .type B, b, rfl, .ty B, ty H2 (e.trans e2), kit_ty h, q H2 e2⟩
theorem ev_isi_int {i : Int} {B : String} {b : Bool} (ha : Ev ta σ H (.int i)) (h : kitB "int" B = some b) : Ev (tCB (rIsi K) (tCons ta (tCons (tC (.ty B)) tNil))) σ H (.bl b) := ev_isi ha (fun _ _ => .base (.int i)) h
theorem ev_isi_bl {i : Bool} {B : String} {b : Bool} (ha : Ev ta σ H (.bl i)) (h : kitB "bool" B = some b) : Ev (tCB (rIsi K) (tCons ta (tCons (tC (.ty B)) tNil))) σ H (.bl b) := ev_isi ha (fun _ _ => .base (.bl i)) h
theorem ev_isi_l {B : String} {b : Bool} (ha : Ev ta σ H (.ref a)) (hx : SqL K H a xs) (h : kitB "list" B = some b) : Ev (tCB (rIsi K) (tCons ta (tCons (tC (.ty B)) tNil))) σ H (.bl b) := ev_isi ha (fun _ e => ty_l (ex_l e hx)) h
theorem ev_isi_t {B : String} {b : Bool} (ha : Ev ta σ H (.ref a)) (hx : SqT K H a xs) (h : kitB "tuple" B = some b) : Ev (tCB (rIsi K) (tCons ta (tCons (tC (.ty B)) tNil))) σ H (.bl b) := ev_isi ha (fun _ e => ty_t (ex_t e hx)) h
theorem k_ii : kitB "int" "int" = some true := by decide +kernel
theorem k_ib : kitB "int" "bool" = some false := by decide +kernel
theorem k_bb : kitB "bool" "bool" = some true := by decide +kernel
theorem k_ll : kitB "list" "list" = some true := by decide +kernel
theorem k_tt : kitB "tuple" "tuple" = some true := by decide +kernel
theorem b_isi : bootBuiltins "isinstance" = some (.builtin "isinstance") := by decide +kernel
theorem b_int : bootBuiltins "int" = some (.type "int") := by decide +kernel
theorem b_bool : bootBuiltins "bool" = some (.type "bool") := by decide +kernel
theorem b_list : bootBuiltins "list" = some (.type "list") := by decide +kernel
theorem b_tuple : bootBuiltins "tuple" = some (.type "tuple") := by decide +kernel
theorem b_len : bootBuiltins "len" = some (.builtin "len") := by decide +kernel
theorem b_sum : bootBuiltins "sum" = some (.builtin "sum") := by decide +kernel
theorem b_max : bootBuiltins "max" = some (.builtin "max") := by decide +kernel
theorem b_repr : bootBuiltins "repr" = some (.builtin "repr") := by decide +kernel
/-! ### == of a row and [] -/
theorem eq_nil_nil {p q : Addr} {H1 : Hp} (h1 : H1 p = some (.lst [])) (h2 : H1 q = some (.lst [])) : RV (rEqD K) (.ref p) (.ref q) H1 (.bl true) := fun H2 e _ k =>
  ⟨.list [], .list [], .lst (ex_l e (sq_of h1)) .nil, .lst (ex_l e (sq_of h2)) .nil, by decide, by decide, k H2 (Ex.refl H2)⟩
theorem ne_nil_nil {p q : Addr} {H1 : Hp} (h1 : H1 p = some (.lst [])) (h2 : H1 q = some (.lst [])) : RV (rNeD K) (.ref p) (.ref q) H1 (.bl false) := fun H2 e _ k =>
  ⟨.list [], .list [], .lst (ex_l e (sq_of h1)) .nil, .lst (ex_l e (sq_of h2)) .nil, by decide, by decide, k H2 (Ex.refl H2)⟩
theorem dp_bls : ∀ bs : List Bool, DpAll K H (bs.map V.bl) (bs.map PyData.bool)
  | [] => .nil
  | b :: r => .cons (.bl b) (dp_bls r)
theorem shaped_bls (bs : List Bool) : SeqAt.shaped (.list (bs.map PyData.bool)) = true := by
  have h1 : ∀ bs : List Bool, PyData.canLayAll0 (bs.map PyData.bool) = true := fun bs => by
    induction bs with
    | nil => simp [PyData.canLayAll0]
    | cons b r ih => simp [PyData.canLayAll0, PyData.canLay0, ih]
  have h2 : ∀ bs : List Bool, PyData.depthAll (bs.map PyData.bool) ≤ 1 := fun bs => by
    induction bs with
    | nil => simp [PyData.depthAll]
    | cons b r ih =>
      show max (PyData.depth (.bool b)) (PyData.depthAll (r.map PyData.bool)) ≤ 1
      have z : PyData.depth (.bool b) = 0 := by simp [PyData.depth]
      rw [z]
      omega
  unfold SeqAt.shaped
  have h3 := h2 bs
  rw [Bool.and_eq_true]
  refine ⟨?_, decide_eq_true ?_⟩
  · show PyData.canLayAll0 _ = true
    exact h1 bs
  · show PyData.depthAll _ + 1 ≤ 64
    omega
theorem vb_bls (n : Nat) (b : Nat → Bool) : vb n b = ((List.range n).map b).map V.bl := by unfold vb; rw [List.map_map]; rfl
theorem eq_bls_nil {p q : Addr} {H1 : Hp} {n : Nat} {b : Nat → Bool} (hn : 0 < n) (h1 : SqL K H1 p (vb n b)) (h2 : H1 q = some (.lst [])) : RV (rEqD K) (.ref p) (.ref q) H1 (.bl false) := fun H2 e Q k => by
  refine ⟨.list (((List.range n).map b).map PyData.bool), .list [], .lst (ex_l e h1) (by rw [vb_bls]; exact dp_bls _), .lst (ex_l e (sq_of h2)) .nil, shaped_bls _, by decide, ?_⟩
  have z : PyData.eqv (.list (((List.range n).map b).map PyData.bool)) (.list []) = false := by
    cases n with
    | zero => omega
    | succ n => rw [List.range_succ_eq_map]; simp [PyData.eqv, PyData.eqvAll]
  rw [z]
  exact k H2 (Ex.refl H2)
end
/-! ### is_whole, is_count, check_number, power_of_two -/
def rWhole (H : Hp) (b : Bool) (Q : VK) : Prop := ∀ H', Ex H H' → Q (.bl b) H'
def spWhole : Sp := fun vs H Q _ => ∃ i : Int, vs = [.int i] ∧ RetV (.bl true) H Q
def spCount : Sp := fun vs H Q _ => ∃ i : Int, vs = [.int i] ∧ RetV (.bl (decide (0 ≤ i))) H Q
def spNumber : Sp := fun vs H Q _ => ∃ i lo hi : Int, vs = [.int i, .int lo, .int hi] ∧ lo ≤ i ∧ i ≤ hi ∧ RetV .non H Q
def spTwo : Sp := fun vs H Q _ => ∃ m : Nat, vs = [.int m] ∧ m ≤ 100 ∧ RetV (.int ((2 ^ m : Nat) : Int)) H Q
section
variable {P : Program} {w : World} {K : PySem.W.Frag} {mg : Str → Option Value} {base : Heap} {f : Addr} {fd : FuncData}
theorem scWhole : FnScope ["value"] ["value"] (defScope (topS 8)) := ⟨rfl, rfl, rfl, by decide +kernel, rfl, by decide +kernel, by decide +kernel⟩
theorem ok_whole (F : Fun K "is_whole" "is_whole" (topS 8) f fd) (m1 : mg "isinstance" = none) (m2 : mg "int" = none) (m3 : mg "bool" = none) : FnOk P w K mg base CX0 1 f fd ["value"] spWhole := by
  refine F.ok scWhole (fun vs H Q E h => by obtain ⟨i, rfl, _⟩ := h; rfl) (fun cdv A outer s H vs Q E hr h => ?_)
  obtain ⟨i, rfl, q⟩ := h
  refine ⟨_, pss_one (ps_ret (pe_and (pe_callB call_isi (by rfl) m1 b_isi (pa_cons (pv 0) (pa_cons (pty "int" m2 b_int) pa_nil)))
    (pe_one (pe_not (pe_callB call_isi (by rfl) m1 b_isi (pa_cons (pv 0) (pa_cons (pty "bool" m3 b_bool) pa_nil))))))), ?_⟩
  exact s_ret (ev_andV (ev_isi_int (ev_var rfl) k_ii) fun _ => ev_notV (ev_isi_int (ev_var rfl) k_ib)) q
end
end K49

/-! the defs, second part: counts, tables judged -/
namespace K49
open PySem PySem.Spec PyProof.Rows L2 Evl
section
variable {P : Program} {w : World} {K : PySem.W.Frag} {mg : Str → Option Value} {base : Heap} {f : Addr} {fd : FuncData}
variable {σ : L2.St} {H : Hp}
theorem spv_whole {i : Int} : SpV spWhole [.int i] H (.bl true) := fun H1 e Q q E => ⟨i, rfl, q⟩
theorem spv_count {i : Int} : SpV spCount [.int i] H (.bl (decide (0 ≤ i))) := fun H1 e Q q E => ⟨i, rfl, q⟩
theorem spv_number {i lo hi : Int} (h1 : lo ≤ i) (h2 : i ≤ hi) : SpV spNumber [.int i, .int lo, .int hi] H .non := fun H1 e Q q E => ⟨i, lo, hi, rfl, h1, h2, q⟩
theorem spv_two {m : Nat} (h : m ≤ 100) : SpV spTwo [.int m] H (.int ((2 ^ m : Nat) : Int)) := fun H1 e Q q E => ⟨m, rfl, h, q⟩
theorem scCount : FnScope ["value"] ["value"] (defScope (topS 9)) := ⟨rfl, rfl, rfl, by decide +kernel, rfl, by decide +kernel, by decide +kernel⟩
theorem ok_count {fW : Addr} {dW : FuncData} (F : Fun K "is_count" "is_count" (topS 9) f fd) (W : Def P w K mg base 1 "is_whole" fW dW ["value"] spWhole) : FnOk P w K mg base CX0 2 f fd ["value"] spCount := by
  refine F.ok scCount (fun vs H Q E h => by obtain ⟨i, rfl, _⟩ := h; rfl) (fun cdv A outer s H vs Q E hr h => ?_)
  obtain ⟨i, rfl, q⟩ := h
  refine ⟨_, pss_one (ps_ret (pe_and (pc W hr (pa_cons (pv 0) pa_nil)) (pe_one (pe_cmpR op_ge (pv 0) pe_int (nomark _))))), ?_⟩
  exact s_ret (ev_andV (a := true) (ev_call (ea_cons (ev_var rfl) ea_nil) spv_whole) fun _ => ev_op (ev_var rfl) ev_c rv_I0) q
theorem scNumber : FnScope ["number", "low", "high"] ["number", "low", "high"] (defScope (topS 10)) := ⟨rfl, rfl, rfl, by decide +kernel, rfl, by decide +kernel, by decide +kernel⟩
theorem ok_number {fW : Addr} {dW : FuncData} (F : Fun K "check_number" "check_number" (topS 10) f fd) (W : Def P w K mg base 1 "is_whole" fW dW ["value"] spWhole) : FnOk P w K mg base CX0 2 f fd ["number", "low", "high"] spNumber := by
  refine F.ok scNumber (fun vs H Q E h => by obtain ⟨i, lo, hi, rfl, _⟩ := h; rfl) (fun cdv A outer s H vs Q E hr h => ?_)
  obtain ⟨i, lo, hi, rfl, h1, h2, q⟩ := h
  refine ⟨_, pss_one (ps_if (PW.pt (pw_or (pt_not (pt_val (pc W hr (pa_cons (pv 0) pa_nil))))
    (pw_or (PW.pt (pw_and (pt_cmpR op_notN (pv 1) pe_non (nomark _)) (pw_and1 (pt_cmpR op_lt (pv 0) (pv 1) (nomark _)))))
      (pw_or1 (PW.pt (pw_and (pt_cmpR op_notN (pv 2) pe_non (nomark _)) (pw_and1 (pt_cmpR op_gt (pv 0) (pv 2) (nomark _))))))))) pss_never pss_nil), ?_⟩
  refine s_if (b := false) (et_is (et_or (et_not (et_B (ev_call (ea_cons (ev_var rfl) ea_nil) spv_whole))) fun _ => et_or (et_and (a := true) (et_test (ev_op (ev_var rfl) ev_c (fun H1 e Q q => ⟨rfl, q H1 (Ex.refl H1)⟩))) fun _ => et_test (ev_op (ev_var rfl) (ev_var rfl) rv_I0))
    fun _ => et_and (a := true) (et_test (ev_op (ev_var rfl) ev_c (fun H1 e Q q => ⟨rfl, q H1 (Ex.refl H1)⟩))) fun _ => et_test (ev_op (ev_var rfl) (ev_var rfl) rv_I0)) ?_) (fun z => nomatch z) fun _ H1 e => q H1 e
  simp
  omega
theorem scTwo : FnScope ["many"] ["many"] (defScope (topS 11)) := ⟨rfl, rfl, rfl, by decide +kernel, rfl, by decide +kernel, by decide +kernel⟩
theorem ok_two (F : Fun K "power_of_two" "power_of_two" (topS 11) f fd) : FnOk P w K mg base CX0 1 f fd ["many"] spTwo := by
  refine F.ok scTwo (fun vs H Q E h => by obtain ⟨m, rfl, _⟩ := h; rfl) (fun cdv A outer s H vs Q E hr h => ?_)
  obtain ⟨m, rfl, hm, q⟩ := h
  refine ⟨_, pss_one (ps_ret (pe_op op_shl pe_int (pv 0))), ?_⟩
  refine s_ret (ev_is (ev_op ev_c (ev_var rfl) (rv_I ⟨by omega, by omega, by decide⟩)) ?_) q
  show V.int (1 * 2 ^ (m : Int).toNat) = _
  rw [Int.one_mul, Int.toNat_natCast, Int.natCast_pow]
  rfl
/-! ### are_stands -/
def spStands (K : PySem.W.Frag) : Sp := fun vs H Q _ => ∃ (n L : Nat) (p : Addr) (g : Nat → Int), vs = [.int n, .int L, .ref p] ∧ SqL K H p (vi L g) ∧ L ≤ 40000 ∧ (∀ l, l < L → 0 ≤ g l ∧ g l < n) ∧ RetV (.bl true) H Q
theorem scStands : FnScope ["most", "many", "value", "item"] ["most", "many", "value"] (defScope (topS 14)) := ⟨rfl, rfl, rfl, by decide +kernel, rfl, by decide +kernel, by decide +kernel⟩
theorem ok_stands {fC : Addr} {dC : FuncData} (F : Fun K "are_stands" "are_stands" (topS 14) f fd) (C : Def P w K mg base 2 "is_count" fC dC ["value"] spCount) (m1 : mg "isinstance" = none) (m2 : mg "list" = none) (m3 : mg "len" = none) :
    FnOk P w K mg base CX0 3 f fd ["most", "many", "value"] (spStands K) := by
  refine F.ok scStands (fun vs H Q E h => by obtain ⟨n, L, p, g, rfl, _⟩ := h; rfl) (fun cdv A outer s H vs Q E hr h => ?_)
  obtain ⟨n, L, p, g, rfl, hp, hL, hg, q⟩ := h
  refine ⟨_, pss_cons (ps_if (PW.pt (pw_or (pt_not (pt_val (pe_callB call_isi (by rfl) m1 b_isi (pa_cons (pv 2) (pa_cons (pty "list" m2 b_list) pa_nil)))))
      (pw_or1 (pt_cmpR op_ne (pe_callB call_len_seq (by rfl) m3 b_len (pa_cons (pv 2) pa_nil)) (pv 1) (nomark _))))) pss_never pss_nil)
    (pss_one (ps_ret (pe_cmpR (op_eqD hr.units) (pe_lc (own := [("item", 3)]) (g := gName 3) rfl scStands.nd (pi_list (pv 2)) (blkOk_by (by kernel_rfl)) (fun _ _ _ _ _ => pg_name (i := 3) scStands.nd rfl (Or.inl rfl))
      (fun _ _ _ _ _ => pts_one (PW.pt (pw_or (pt_not (pt_val (pc C hr (pa_cons (pv 3) pa_nil)))) (pw_or1 (pt_cmpR op_ge (pv 3) (pv 0) (nomark _)))))) (fun _ _ _ _ _ => pv 3)) (pe_lst pa_nil) (nomark _)))), ?_⟩
  refine q_when (b := false) (et_is (et_or (et_not (et_B (ev_isi_l (ev_var rfl) hp k_ll))) fun _ => et_test (ev_op (ev_seqLen (ev_var rfl) (Or.inl hp)) (ev_var rfl) (rv_ne rfl))) ?_) (fun z => nomatch z) fun _ H1 e1 => ?_
  · rw [vi_len]; simp
  refine s_ret (ev_opLL (el_is (el_lcL (fun _ => false) (fun _ => .non) (ev_var rfl) (ex_l e1 hp) (by rw [vi_len]; exact hL) (fun x => rfl) (fun i x H2 e2 hx => ?_) (fun i x H2 e2 hx z => nomatch z)) (given_none _ _)) (el_lst ea_nil (by decide)) fun a b H2 ha hb _ => eq_nil_nil ha hb) fun H2 e2 => q H2 (e1.trans e2)
  obtain ⟨hi, rfl⟩ := vi_get hx
  obtain ⟨g1, g2⟩ := hg i hi
  refine et_is (et_or (et_not (et_B (ev_call (ea_cons (ev_var rfl) ea_nil) spv_count))) fun _ => et_test (ev_op (ev_var rfl) (ev_var rfl) rv_I0)) ?_
  simp
  omega
end
end K49

/-! the defs, third part: a table judged -/
namespace K49
open PySem PySem.Spec PyProof.Rows L2 Evl
def spTable (K : PySem.W.Frag) : Sp := fun vs H Q _ => ∃ (t : Addr) (T : Tb), vs = [.ref t] ∧ TbAt K H t T ∧ T.Ok ∧ RetV (.bl true) H Q
def spCheck (K : PySem.W.Frag) : Sp := fun vs H Q _ => ∃ (t : Addr) (T : Tb), vs = [.ref t] ∧ TbAt K H t T ∧ T.Ok ∧ RetV .non H Q
section
variable {P : Program} {w : World} {K : PySem.W.Frag} {mg : Str → Option Value} {base : Heap} {f : Addr} {fd : FuncData}
variable {σ : L2.St} {H : Hp}
theorem spv_stands {n L : Nat} {p : Addr} {g : Nat → Int} (h1 : SqL K H p (vi L g)) (h2 : L ≤ 40000) (h3 : ∀ l, l < L → 0 ≤ g l ∧ g l < n) : SpV (spStands K) [.int n, .int L, .ref p] H (.bl true) := fun H1 e Q q E => ⟨n, L, p, g, rfl, ex_l e h1, h2, h3, q⟩
theorem spv_table {t : Addr} {T : Tb} (h : TbAt K H t T) (ok : T.Ok) : SpV (spTable K) [.ref t] H (.bl true) := fun H1 e Q q E => ⟨t, T, rfl, h.ex e, ok, q⟩
theorem spv_check {t : Addr} {T : Tb} (h : TbAt K H t T) (ok : T.Ok) : SpV (spCheck K) [.ref t] H .non := fun H1 e Q q E => ⟨t, T, rfl, h.ex e, ok, q⟩
theorem scTable : FnScope ["value", "many", "steps", "ends", "row", "item"] ["value"] (defScope (topS 12)) := ⟨rfl, rfl, rfl, by decide +kernel, rfl, by decide +kernel, by decide +kernel⟩
theorem ok_table {fC fS f2 : Addr} {dC dS d2 : FuncData} {t6 : Tok} (F : Fun K "is_table" "is_table" (topS 12) f fd) (C : Def P w K mg base 2 "is_count" fC dC ["value"] spCount) (S : Def P w K mg base 3 "are_stands" fS dS ["most", "many", "value"] (spStands K))
    (W2 : Def P w K mg base 1 "power_of_two" f2 d2 ["many"] spTwo) (m1 : mg "isinstance" = none) (m2 : mg "list" = none) (m3 : mg "len" = none) (m4 : mg "tuple" = none) (m5 : mg "bool" = none) (gN : mg "MOST_NAMES" = some (.int 6 t6)) :
    FnOk P w K mg base CX0 4 f fd ["value"] (spTable K) := by
  refine F.ok scTable (fun vs H Q E h => by obtain ⟨t, T, rfl, _⟩ := h; rfl) (fun cdv A outer s H vs Q E hr h => ?_)
  obtain ⟨t, T, rfl, hT, ok, q⟩ := h
  refine ⟨_, pss_cons (ps_if (PW.pt (pw_or (pt_not (pt_val (pe_callB (r := rIsi K) call_isi (by rfl) m1 b_isi (pa_cons (pv 0) (pa_cons (pty "tuple" m4 b_tuple) pa_nil)))))
      (pw_or (pt_cmpR op_ne (pe_callB (r := rLenS K) call_len_seq (by rfl) m3 b_len (pa_cons (pv 0) pa_nil)) pe_int (nomark _))
      (pw_or (pt_not (pt_val (pc C hr (pa_cons (pe_ix ix_tup (pv 0) pe_int (fun _ _ => rfl)) pa_nil))))
      (pw_or1 (pt_cmpR op_gt (pe_ix ix_tup (pv 0) pe_int (fun _ _ => rfl)) (pe_glob (v := .int 6) (by rfl) gN ⟨_, rfl⟩) (nomark _))))))) pss_never pss_nil)
    (pss_cons (ps_asg (pv 0) (pg_tup rfl (pgs_cons (pg_name (i := 1) scTable.nd rfl (Or.inr rfl)) (pgs_cons (pg_name (i := 2) scTable.nd rfl (Or.inl rfl)) (pgs_cons (pg_name (i := 3) scTable.nd rfl (Or.inr rfl)) pgs_nil)))))
    (pss_cons (ps_if (PW.pt (pw_or (pt_not (pt_val (pe_callB (r := rIsi K) call_isi (by rfl) m1 b_isi (pa_cons (pv 2) (pa_cons (pty "list" m2 b_list) pa_nil)))))
      (pw_or (pt_not (pt_val (pe_callB (r := rIsi K) call_isi (by rfl) m1 b_isi (pa_cons (pv 3) (pa_cons (pty "list" m2 b_list) pa_nil)))))
      (pw_or (pt_cmpR op_ne (pe_callB (r := rLenS K) call_len_seq (by rfl) m3 b_len (pa_cons (pv 2) pa_nil)) (pe_callB (r := rLenS K) call_len_seq (by rfl) m3 b_len (pa_cons (pv 3) pa_nil)) (nomark _))
      (pw_or1 (pt_cmpR (op_eqD hr.units) (pv 3) (pe_lst pa_nil) (nomark _))))))) pss_never pss_nil)
    (pss_cons (ps_if (pt_cmpR (op_neD hr.units) (pe_lc (own := [("row", 4)]) (g := gName 4) rfl scTable.nd (pi_list (pv 2)) (blkOk_by (by kernel_rfl)) (fun _ _ _ _ _ => pg_name (i := 4) scTable.nd rfl (Or.inl rfl))
        (fun _ _ _ _ _ => pts_one (pt_not (pt_val (pc S hr (pa_cons (pe_callB (r := rLenS K) call_len_seq (by rfl) m3 b_len (pa_cons (pv 3) pa_nil)) (pa_cons (pc W2 hr (pa_cons (pv 1) pa_nil)) (pa_cons (pv 4) pa_nil))))))) (fun _ _ _ _ _ => pv 4)) (pe_lst pa_nil) (nomark _)) pss_never pss_nil)
    (pss_one (ps_ret (pe_cmpR (op_eqD hr.units) (pe_lc (own := [("item", 5)]) (g := gName 5) rfl scTable.nd (pi_list (pv 3)) (blkOk_by (by kernel_rfl)) (fun _ _ _ _ _ => pg_name (i := 5) scTable.nd rfl (Or.inl rfl))
        (fun _ _ _ _ _ => pts_one (pt_not (pt_val (pe_callB (r := rIsi K) call_isi (by rfl) m1 b_isi (pa_cons (pv 5) (pa_cons (pty "bool" m5 b_bool) pa_nil)))))) (fun _ _ _ _ _ => pv 5)) (pe_lst pa_nil) (nomark _))))))), ?_⟩
  obtain ⟨s', e', hT, hS, hE⟩ := hT
  obtain ⟨rs, r1, r2, r3⟩ := hS
  have hm := ok.many
  have hn := ok.pos
  have hf := ok.few
  have hL := ok.L
  -- the kind, three parts, a count of at most six
  refine q_when (b := false) (et_is (et_or (et_not (et_B (ev_isi_t (ev_var rfl) hT k_tt))) fun _ => et_or (et_test (ev_op (ev_seqLen (ev_var rfl) (Or.inr hT)) ev_c (rv_ne rfl))) fun _ =>
    et_or (et_not (et_B (ev_call (ea_cons (ev_op (ev_var rfl) ev_c (rv_ixT hT rfl)) ea_nil) spv_count))) fun _ => et_test (ev_op (ev_op (ev_var rfl) ev_c (rv_ixT hT rfl)) ev_c rv_I0)) ?_) (fun z => nomatch z) fun _ H1 e1 => ?_
  · simp
    omega
  -- the three parts
  refine ⟨_, rfl, t, _, rfl, ex_t e1 hT, rfl, _, _, rfl, _, _, rfl, _, _, rfl, rfl, ?_⟩
  refine q_when (b := false) (et_is (et_or (et_not (et_B (ev_isi_l (ev_var rfl) (ex_l e1 r1) k_ll))) fun _ => et_or (et_not (et_B (ev_isi_l (ev_var rfl) (ex_l e1 hE) k_ll))) fun _ =>
    et_or (et_test (ev_op (ev_seqLen (ev_var rfl) (Or.inl (ex_l e1 r1))) (ev_seqLen (ev_var rfl) (Or.inl (ex_l e1 hE))) (rv_ne rfl))) fun _ => et_test (ev_opL (ev_var rfl) (el_lst ea_nil (by decide)) fun p H2 hp e2 => eq_bls_nil hn (ex_l (e1.trans e2) hE) hp)) ?_) (fun z => nomatch z) fun _ H2 e2 => ?_
  · rw [List.length_map, vb_len, r2]; simp
  replace e2 := e1.trans e2
  refine q_when (b := false) (et_test (ev_opLL (el_is (el_lcL (fun _ => false) (fun _ => .non) (ev_var rfl) (ex_l e2 r1) (by rw [List.length_map]; omega) (fun x => rfl) (fun i x H3 e3 hx => ?_) (fun i x H3 e3 hx z => nomatch z)) (given_none _ _)) (el_lst ea_nil (by decide))
    fun a b H3 ha hb _ => ne_nil_nil ha hb)) (fun z => nomatch z) fun _ H3 e3 => ?_
  · rw [List.getElem?_map] at hx
    obtain ⟨r, hr', rfl⟩ := Option.map_eq_some_iff.mp hx
    have hi : i < T.n := by have := (List.getElem?_eq_some_iff.mp hr').1; omega
    refine et_not (a := true) (et_B (ev_call (ea_cons (ev_is (ev_seqLen (ev_var rfl) (Or.inl (ex_l (e2.trans e3) hE))) ?_) (ea_cons (ev_call (ea_cons (ev_var rfl) ea_nil) (spv_two (m := T.many) (by omega))) (ea_cons (ev_var rfl) ea_nil))) (spv_stands (n := T.n) (ex_l (e2.trans e3) (r3 i r hr')) (Nat.le_trans hL (by decide)) fun l hl => ?_)))
    · rw [vb_len]
    · have := ok.st i l hi hl
      omega
  replace e3 := e2.trans e3
  refine s_ret (ev_opLL (el_is (el_lcL (fun _ => false) (fun _ => .non) (ev_var rfl) (ex_l e3 hE) (by rw [vb_len]; omega) (fun x => rfl) (fun i x H4 e4 hx => ?_) (fun i x H4 e4 hx z => nomatch z)) (given_none _ _)) (el_lst ea_nil (by decide)) fun a b H4 ha hb _ => eq_nil_nil ha hb) fun H4 e4 => q H4 (e3.trans e4)
  obtain ⟨hi, rfl⟩ := vb_get hx
  exact et_not (et_B (ev_isi_bl (ev_var rfl) k_bb))
theorem scTable2 : FnScope ["value"] ["value"] (defScope (topS 16)) := ⟨rfl, rfl, rfl, by decide +kernel, rfl, by decide +kernel, by decide +kernel⟩
theorem ok_table2 {fC : Addr} {dC : FuncData} (F : Fun K "is_table" "is_table" (topS 16) f fd) (C : Def P w K mg base 4 "is_table_kinds" fC dC ["value"] (spTable K)) : FnOk P w K mg base CX0 5 f fd ["value"] (spTable K) := by
  refine F.ok scTable2 (fun vs H Q E h => by obtain ⟨t, T, rfl, _⟩ := h; rfl) (fun cdv A outer s H vs Q E hr h => ?_)
  obtain ⟨t, T, rfl, hT, ok, q⟩ := h
  exact ⟨_, pss_one (ps_ret (pc C hr (pa_cons (pv 0) pa_nil))), s_ret (ev_call (ea_cons (ev_var rfl) ea_nil) (spv_table hT ok)) q⟩
theorem scCheck : FnScope ["table"] ["table"] (defScope (topS 18)) := ⟨rfl, rfl, rfl, by decide +kernel, rfl, by decide +kernel, by decide +kernel⟩
theorem ok_check {fC : Addr} {dC : FuncData} (F : Fun K "check_table" "check_table" (topS 18) f fd) (C : Def P w K mg base 5 "is_table_tables" fC dC ["value"] (spTable K)) : FnOk P w K mg base CX0 6 f fd ["table"] (spCheck K) := by
  refine F.ok scCheck (fun vs H Q E h => by obtain ⟨t, T, rfl, _⟩ := h; rfl) (fun cdv A outer s H vs Q E hr h => ?_)
  obtain ⟨t, T, rfl, hT, ok, q⟩ := h
  refine ⟨_, pss_one (ps_if (pt_not (pt_val (pc C hr (pa_cons (pv 0) pa_nil)))) pss_never pss_nil), ?_⟩
  exact s_if (et_not (a := true) (et_B (ev_call (ea_cons (ev_var rfl) ea_nil) (spv_table hT ok)))) (fun z => nomatch z) fun _ H1 e => q H1 e
theorem scFew : FnScope ["table"] ["table"] (defScope (topS 28)) := ⟨rfl, rfl, rfl, by decide +kernel, rfl, by decide +kernel, by decide +kernel⟩
theorem ok_few {t30 : Tok} (F : Fun K "check_few" "check_few" (topS 28) f fd) (m3 : mg "len" = none) (gN : mg "MOST_STANDS" = some (.int 30 t30)) : FnOk P w K mg base CX0 1 f fd ["table"] (spCheck K) := by
  refine F.ok scFew (fun vs H Q E h => by obtain ⟨t, T, rfl, _⟩ := h; rfl) (fun cdv A outer s H vs Q E hr h => ?_)
  obtain ⟨t, T, rfl, ⟨s', e', hT, ⟨rs, r1, r2, r3⟩, hE⟩, ok, q⟩ := h
  refine ⟨_, pss_one (ps_if (pt_cmpR op_gt (pe_callB (r := rLenS K) call_len_seq (by rfl) m3 b_len (pa_cons (pe_ix ix_tup (pv 0) pe_int (fun _ _ => rfl)) pa_nil)) (pe_glob (v := .int 30) (by rfl) gN ⟨_, rfl⟩) (nomark _)) pss_never pss_nil), ?_⟩
  refine s_if (b := false) (et_is (et_test (ev_op (ev_seqLen (ev_op (ev_var rfl) ev_c (rv_ixT hT rfl)) (Or.inl r1)) ev_c rv_I0)) ?_) (fun z => nomatch z) fun _ H1 e => q H1 e
  have := ok.few
  rw [List.length_map, r2]
  simp
  omega
end
end K49

/-! the defs, fourth part: letters counted -/
namespace K49
open PySem PySem.Spec PyProof.Rows L2 Evl
/-! ### a heap without one address -/
def er (g : Addr) (H : Hp) : Hp := fun a => if a = g then none else H a
section
variable {g a : Addr} {H H' H2 : Hp} {o : HO} {K : PySem.W.Frag}
theorem er_same : er g H g = none := if_pos rfl
theorem er_ne (h : a ≠ g) : er g H a = H a := if_neg h
theorem er_ex : Ex (er g H) H := fun a o e => by
  by_cases h : a = g
  · rw [h, er_same] at e; cases e
  · rw [er_ne h] at e; exact e
theorem er_mono (e : Ex H H') : Ex (er g H) (er g H') := fun a o h => by
  by_cases q : a = g
  · rw [q, er_same] at h; cases h
  · rw [er_ne q] at h ⊢; exact e a o h
theorem er_upd : er g (upd H g o) = er g H := by
  funext a
  by_cases q : a = g
  · rw [q, er_same, er_same]
  · rw [er_ne q, er_ne q, upd_ne q]
theorem er_in (n : H g = none) (e : Ex H H') : Ex H (er g H') := fun a o h => by
  have q : a ≠ g := fun z => by rw [z, n] at h; cases h
  rw [er_ne q]; exact e a o h
theorem er_at (h : H a = some o) (q : a ≠ g) : er g H a = some o := by rw [er_ne q]; exact h
theorem er_trans (a : Ex (er g H) H') (b : Ex (er g H') H2) : Ex (er g H) H2 := fun c o h => by
  have q : c ≠ g := fun z => by rw [z, er_same] at h; cases h
  exact b c o (by rw [er_ne q]; exact a c o h)
end
/-! ### a dict of counts -/
def ent (c : Nat → Int) (k : Nat) : Key × V := (Sum.inl (k : Int), .int (c k))
def Dc (H : Hp) (d : Addr) (c : Nat → Int) : Prop := ∃ ks : List Nat, ks.Nodup ∧ (∀ k, c k ≠ 0 ↔ k ∈ ks) ∧ ks.length ≤ 100 ∧ H d = some (.dK (ks.map (ent c)))
theorem Dc.ex {H H' : Hp} {d : Addr} {c : Nat → Int} (e : Ex H H') (h : Dc H d c) : Dc H' d c := let ⟨ks, a, b, l, x⟩ := h; ⟨ks, a, b, l, e _ _ x⟩
theorem inl_eq {k a : Nat} : ((Sum.inl (k : Int) : Key) = Sum.inl (a : Int)) ↔ k = a := ⟨fun h => by have := Sum.inl.inj h; omega, fun h => by rw [h]⟩
theorem ent_get (c : Nat → Int) (a : Nat) : ∀ ks : List Nat, valV (ks.map (ent c)) (Sum.inl (a : Int)) = if a ∈ ks then some (.int (c a)) else none
  | [] => rfl
  | k :: r => by
    rw [List.map_cons]
    by_cases h : k = a
    · subst h
      rw [valV_pos (p := ent c k) (k := Sum.inl (k : Int)) rfl, if_pos (by simp)]
      rfl
    · rw [valV_neg (p := ent c k) (fun z => h (inl_eq.mp z)), ent_get c a r]
      have : a ∈ k :: r ↔ a ∈ r := by simp [Ne.symm h]
      simp only [this]
theorem ent_put {c : Nat → Int} {ks : List Nat} {a : Nat} (hn : ks.Nodup) (hk : ∀ k, c k ≠ 0 ↔ k ∈ ks) (hp : ∀ k, 0 ≤ c k) :
    ∃ ks' : List Nat, ks'.Nodup ∧ (∀ k, c k + (if a = k then 1 else 0) ≠ 0 ↔ k ∈ ks') ∧ ks'.length ≤ ks.length + 1 ∧ putK (ks.map (ent c)) (Sum.inl (a : Int)) (.int (c a + 1)) = ks'.map (ent fun k => c k + (if a = k then 1 else 0)) := by
  by_cases h : a ∈ ks
  · refine ⟨ks, hn, fun k => ?_, Nat.le_succ _, ?_⟩
    · by_cases e : a = k
      · subst e
        rw [if_pos rfl]
        have := hp a
        exact ⟨fun _ => h, fun _ => by omega⟩
      · rw [if_neg e, Int.add_zero]; exact hk k
    · unfold putK
      rw [valV_any, ent_get, if_pos h, if_pos (by rfl), List.map_map]
      refine List.map_congr_left fun k _ => ?_
      show (if (Sum.inl (k : Int) : Key) = Sum.inl (a : Int) then ((Sum.inl (k : Int) : Key), V.int (c a + 1)) else ent c k) = _
      by_cases e : k = a
      · subst e
        rw [if_pos rfl]
        unfold ent
        dsimp only
        rw [if_pos rfl]
      · rw [if_neg (fun z => e (inl_eq.mp z))]
        unfold ent
        dsimp only
        rw [if_neg (Ne.symm e), Int.add_zero]
  · refine ⟨ks ++ [a], nd_snoc hn h, fun k => ?_, by rw [List.length_append]; exact Nat.le_refl _, ?_⟩
    · rw [List.mem_append, List.mem_singleton]
      by_cases e : a = k
      · subst e
        rw [if_pos rfl]
        have := hp a
        exact ⟨fun _ => Or.inr rfl, fun _ => by omega⟩
      · rw [if_neg e, Int.add_zero]
        exact ⟨fun z => Or.inl ((hk k).mp z), fun z => (hk k).mpr (z.resolve_right (Ne.symm e))⟩
    · have z0 : c a = 0 := Classical.byContradiction fun z => h ((hk a).mp z)
      rw [putK_new _ (by rw [ent_get, if_neg h]), List.map_append]
      congr 1
      · refine List.map_congr_left fun k hm => ?_
        unfold ent
        dsimp only
        rw [if_neg (show ¬ a = k from fun z => h (by rw [z]; exact hm)), Int.add_zero]
      · show [((Sum.inl (a : Int) : Key), V.int (c a + 1))] = [ent _ a]
        unfold ent
        dsimp only
        rw [if_pos rfl]
def DsAt (K : PySem.W.Frag) (H : Hp) (p : Addr) (T : Tb) : Prop := ∃ ds : List Addr, SqL K H p (ds.map V.ref) ∧ ds.length = T.n ∧ ∀ j d, ds[j]? = some d → Dc H d (T.c j)
theorem DsAt.ex {K : PySem.W.Frag} {H H' : Hp} {p : Addr} {T : Tb} (e : Ex H H') (h : DsAt K H p T) : DsAt K H' p T := let ⟨ds, a, b, c⟩ := h; ⟨ds, ex_l e a, b, fun j d hj => (c j d hj).ex e⟩
/-- a row that is read stands where all but a dict is kept -/
theorem sq_keep {K : PySem.W.Frag} {H H' : Hp} {p d : Addr} {xs : List V} {kvs : List (Key × V)} (h : SqL K H p xs) (hd : H d = some (.dK kvs)) (k : ∀ b o, b ≠ d → H b = some o → H' b = some o) : SqL K H' p xs := by
  rcases h with (h | ⟨ob, h⟩) | h
  · exact .inl (.inl (k _ _ (fun z => by rw [z, hd] at h; cases h) h))
  · exact .inl (.inr ⟨ob, k _ _ (fun z => by rw [z, hd] at h; cases h) h⟩)
  · exact .inr h
/-! ### steps_counted -/
def spSteps (K : PySem.W.Frag) : Sp := fun vs H Q _ => ∃ (t : Addr) (T : Tb), vs = [.ref t] ∧ TbAt K H t T ∧ T.Ok ∧ ∀ p H', Ex H H' → DsAt K H' p T → Q (.ref p) H'
/-- the dicts that are made so far -/
def Sd (p : Addr) (T : Tb) (i : Nat) (H' : Hp) : Prop := ∃ ds : List Addr, H' p = some (.lst (ds.map V.ref)) ∧ ds.length = i ∧ ∀ j d, ds[j]? = some d → d ≠ p ∧ Dc H' d (T.c j)
section
variable {P : Program} {w : World} {K : PySem.W.Frag} {mg : Str → Option Value} {base : Heap} {f : Addr} {fd : FuncData}
theorem scSteps : FnScope ["table", "found", "step", "known", "after"] ["table"] (defScope (topS 24)) := ⟨rfl, rfl, rfl, by decide +kernel, rfl, by decide +kernel, by decide +kernel⟩
theorem ok_steps (F : Fun K "steps_counted" "steps_counted" (topS 24) f fd) : FnOk P w K mg base CX0 1 f fd ["table"] (spSteps K) := by
  refine F.ok scSteps (fun vs H Q E h => by obtain ⟨t, T, rfl, _⟩ := h; rfl) (fun cdv A outer s H vs Q E hr h => ?_)
  obtain ⟨t, T, rfl, ⟨s', e', hT, ⟨rs, r1, r2, r3⟩, hE⟩, ok, q⟩ := h
  have hu := hu_of hr
  refine ⟨_, pss_cons (ps_set (i := 1) scSteps.nd rfl (.inl rfl) (pe_lst pa_nil))
    (pss_cons (ps_for PassesOwn.never rfl (pi_list (pe_ix ix_tup (pv 0) pe_int (fun _ _ => rfl))) (pg_name (i := 2) scSteps.nd rfl (.inl rfl))
      (pss_cons (ps_set (i := 3) scSteps.nd rfl (.inl rfl) pe_dnewK)
      (pss_cons (ps_for PassesOwn.never rfl (pi_list (pv 2)) (pg_name (i := 4) scSteps.nd rfl (.inl rfl))
        (pss_one (ps_dput hu (pv 3) (pv 4) (pe_op op_add (pe_dget2 hu (pv 3) (pv 4) pe_int ⟨rfl, rfl, rfl, rfl⟩) pe_int) rfl)))
      (pss_one (ps_expr (pe_bm PySem.F.plainAttrs_list PySem.F.slot_list_append PySem.F.type_list_append mt_append (pv 1) (pa_cons (pv 3) pa_nil)))))))
    (pss_one (ps_ret (pv 1)))), ?_⟩
  have hL := ok.L
  have hf := ok.few
  refine q_asgL (el_lst ea_nil (by decide)) fun p H1 np e1 h1 => ?_
  refine q_forLn (ev_op (ev_var rfl) ev_c (rv_ixT (ex_t e1 hT) rfl)) (ex_l e1 r1) (fun i σ' H' => ∃ y2 y3 y4, σ' = [some (.ref t), some (.ref p), y2, y3, y4] ∧ Ex H H' ∧ Sd p T i H')
    (fun H2 e2 => ⟨none, none, none, rfl, e1.trans e2, [], e2 _ _ h1, rfl, fun j d hj => by simp at hj⟩) (fun i σ' H' _ hP => let ⟨_, _, _, _, e, _⟩ := hP; ex_l e r1) (fun i x σ' H' hx hP => ?_) fun σ' H' hP => ?_
  · obtain ⟨y2, y3, y4, rfl, e2, ds, g1, g2, g3⟩ := hP
    rw [List.getElem?_map] at hx
    obtain ⟨r, hr', rfl⟩ := Option.map_eq_some_iff.mp hx
    have hi : i < T.n := by have := (List.getElem?_eq_some_iff.mp hr').1; omega
    have row := r3 i r hr'
    -- known = {}
    intro d nd
    have ndp : d ≠ p := fun z => by rw [z, g1] at nd; cases nd
    refine q_forLn (ev_var rfl) (ex_l (e2.trans (Ex.new nd)) row) (fun l σ' H2 => ∃ y4, σ' = [some (.ref t), some (.ref p), some (.ref r), some (.ref d), y4] ∧ Ex H' H2 ∧
        ∃ ks : List Nat, ks.Nodup ∧ (∀ k, S l (fun m => if T.st i m = k then 1 else 0) ≠ 0 ↔ k ∈ ks) ∧ ks.length ≤ l ∧ H2 d = some (.dK (ks.map (ent fun k => S l (fun m => if T.st i m = k then 1 else 0)))))
      (fun H2 e3 => ⟨y4, rfl, (Ex.new nd).trans e3, [], List.nodup_nil, fun k => ⟨fun z => (z rfl).elim, fun z => by simp at z⟩, Nat.le_refl _, e3 _ _ upd_same⟩) (fun l σ' H2 _ hP => let ⟨_, _, e, _⟩ := hP; ex_l (e2.trans e) row) (fun l x σ' H2 hx hP => ?_) fun σ' H2 hP => ?_
    · obtain ⟨y4, rfl, e3, ks, k1, k2, k3, k4⟩ := hP
      obtain ⟨hl, rfl⟩ := vi_get hx
      refine ⟨_, rfl, d, rfl, .inl ⟨_, .inl k4⟩, _, rfl, _, DGet.k (k := Sum.inl (T.st i l : Int)) k4, ?_⟩
      obtain ⟨ks', u1, u2, u3, u4⟩ := ent_put (a := T.st i l) k1 k2 (fun k => (S_bit l).1)
      have eg : (valV (ks.map (ent fun k => S l (fun m => if T.st i m = k then 1 else 0))) (Sum.inl (T.st i l : Int))).getD (.int 0) = .int (S l (fun m => if T.st i m = T.st i l then 1 else 0)) := by
        rw [ent_get]
        by_cases hm : T.st i l ∈ ks
        · rw [if_pos hm]; rfl
        · rw [if_neg hm]
          have z : S l (fun m => if T.st i m = T.st i l then 1 else 0) = 0 := Classical.byContradiction fun z => hm ((k2 _).mp z)
          rw [z]; rfl
      rw [eg]
      refine ⟨_, _, rfl, rfl, _, rfl, _, rfl, d, _, rfl, DPut.k (k := Sum.inl (T.st i l : Int)) k4 (sz_lt (by rw [List.length_map]; omega)), ?_⟩
      exact ⟨_, rfl, Ex.mut e3 nd, ks', u1, u2, by omega, by rw [upd_same, u4]; rfl⟩
    · obtain ⟨y4, rfl, e3, ks, k1, k2, k3, k4⟩ := hP
      rw [vi_len] at k2 k3 k4
      refine s_app (xs := ds.map V.ref) (e3 _ _ g1) (ev_var rfl) (ev_var rfl) (by rw [List.length_map]; omega) fun H3 e4 => ?_
      have np' : H p = none := np
      refine ⟨_, _, _, rfl, Ex.mut (e2.trans (e3.trans e4)) np', ds ++ [d], by rw [upd_same, List.map_append]; rfl, by rw [List.length_append, g2]; rfl, fun j d' hj => ?_⟩
      by_cases hlt : j < ds.length
      · rw [List.getElem?_append_left hlt] at hj
        obtain ⟨a, b⟩ := g3 j d' hj
        obtain ⟨kk, b1, b2, b3, b4⟩ := b
        exact ⟨a, kk, b1, b2, b3, by rw [upd_ne a]; exact e4 _ _ (e3 _ _ b4)⟩
      · rw [List.getElem?_append_right (by omega)] at hj
        have ej : j - ds.length = 0 := by
          cases h0 : j - ds.length with
          | zero => rfl
          | succ m => rw [h0] at hj; simp at hj
        rw [ej] at hj
        obtain rfl : d = d' := Option.some.inj hj
        obtain rfl : j = i := by omega
        exact ⟨ndp, ks, k1, k2, by omega, by rw [upd_ne ndp]; exact e4 _ _ k4⟩
  · obtain ⟨y2, y3, y4, rfl, e2, ds, g1, g2, g3⟩ := hP
    rw [List.length_map, r2] at g2
    exact ⟨_, rfl, q p H' e2 ⟨ds, sq_of g1, g2, fun j d hj => (g3 j d hj).2⟩⟩
end
end K49

/-! the defs, fifth part: one letter more -/
namespace K49
open PySem PySem.Spec PyProof.Rows L2 Evl
section
variable {K : PySem.W.Frag} {σ : L2.St} {H : Hp} {ta tb : TE} {D : Ends} {tu tz : TS}
theorem s_forE {t1 : TA} {a : Addr} {xs : List V} {j1 j2 : Nat} (h : EvA t1 σ H [.ref a]) (hx : SqL K H a xs) (Pv : Nat → L2.St → Hp → Prop) (h0 : ∀ H1, Ex H H1 → Pv 0 σ H1) (hl : ∀ i σ' H', i ≤ xs.length → Pv i σ' H' → SqL K H' a xs)
    (hs : ∀ (i : Nat) x σ' H' T, xs[i]? = some x → Pv i σ' H' → H' T = none → tu { D with nx := Pv (i + 1), ct := Pv (i + 1), bk := D.nx } ((σ'.set j1 (some (.int (i : Nat)))).set j2 (some x)) (upd H' T (.tup [.int (i : Nat), x]))) (hd : ∀ σ' H', Pv xs.length σ' H' → D.nx σ' H') :
    tFor (iEnum K t1) (gTup K 2 (gCons (gName j1) (gCons (gName j2) gNil))) tu D σ H := h H (Ex.refl H) _ fun H1 e => ⟨a, xs, rfl, ex_l e hx, for_it walk_enum Pv (h0 H1 e) hl (fun i x σ' H' H'' hi p y => by
    obtain ⟨T, u, v, rfl, nT, rfl, hu, hv⟩ := y
    obtain rfl := Option.some.inj hu
    exact ⟨T, _, rfl, st_of upd_same, rfl, _, _, rfl, _, _, rfl, rfl, hs i v σ' H' T hv p nT⟩) hd⟩
theorem q_forE {t1 : TA} {a : Addr} {xs : List V} {j1 j2 : Nat} (h : EvA t1 σ H [.ref a]) (hx : SqL K H a xs) (Pv : Nat → L2.St → Hp → Prop) (h0 : ∀ H1, Ex H H1 → Pv 0 σ H1) (hl : ∀ i σ' H', i ≤ xs.length → Pv i σ' H' → SqL K H' a xs)
    (hs : ∀ (i : Nat) x σ' H' T, xs[i]? = some x → Pv i σ' H' → H' T = none → tu { D with nx := Pv (i + 1), ct := Pv (i + 1), bk := tz D } ((σ'.set j1 (some (.int (i : Nat)))).set j2 (some x)) (upd H' T (.tup [.int (i : Nat), x]))) (hd : ∀ σ' H', Pv xs.length σ' H' → tz D σ' H') :
    tSeq (tFor (iEnum K t1) (gTup K 2 (gCons (gName j1) (gCons (gName j2) gNil))) tu) tz D σ H := s_forE (D := { D with nx := tz D }) h hx Pv h0 hl hs hd
theorem rep_one (x : V) : ∀ n : Nat, (List.replicate n [x]).flatten = List.replicate n x
  | 0 => rfl
  | n + 1 => by rw [List.replicate_succ, List.flatten_cons, rep_one x n]; rfl
theorem el_rep {x : V} {n : Nat} (ha : EvL ta σ H [x]) (hb : Ev tb σ H (.int (n : Int))) (hn : n ≤ 100000) : EvL (tOp rRep ta tb) σ H (List.replicate n x) := fun H1 e Q q =>
  ha H1 e _ fun p H2 np e2 hp => hb H2 (e.trans e2) _ fun H3 e3 => ⟨p, n, [x], rfl, rfl, e3 _ _ hp, by omega, by omega, by rw [Int.toNat_natCast]; show 1 * n ≤ sizeLine; rw [Nat.one_mul]; exact sz_of hn, fun l hl => by
    rw [Int.toNat_natCast, rep_one]
    exact q l _ (fresh_back (e2.trans e3) hl) ((e2.trans e3).trans (Ex.new hl)) upd_same⟩
theorem el_cat {xs ys : List V} (ha : EvL ta σ H xs) (hb : EvL tb σ H ys) (hn : xs.length + ys.length ≤ 100000) : EvL (tOp rCat ta tb) σ H (xs ++ ys) := fun H1 e Q q =>
  ha H1 e _ fun p H2 np e2 hp => hb H2 (e.trans e2) _ fun l H3 nl e3 h3 => ⟨p, l, xs, ys, rfl, rfl, e3 _ _ hp, h3, sz_of hn, fun u hl => q u _ (fresh_back (e2.trans e3) hl) ((e2.trans e3).trans (Ex.new hl)) upd_same⟩
theorem rep_vi (n : Nat) : List.replicate n (V.int 0) = vi n fun _ => 0 := by
  apply List.ext_getElem?
  intro j
  by_cases h : j < n
  · rw [vi_at h, List.getElem?_replicate, if_pos h]
  · rw [List.getElem?_eq_none (by rw [List.length_replicate]; omega), List.getElem?_eq_none (by rw [vi_len]; omega)]
theorem one_vi {n : Nat} (h : 0 < n) : [V.int 1] ++ List.replicate (n - 1) (V.int 0) = vi n e0 := by
  cases n with
  | zero => omega
  | succ n =>
    rw [Nat.add_sub_cancel]
    apply List.ext_getElem?
    intro j
    cases j with
    | zero => rw [vi_at h]; rfl
    | succ j =>
      by_cases hj : j < n
      · rw [vi_at (by omega)]
        show (List.replicate n (V.int 0))[j]? = _
        rw [List.getElem?_replicate, if_pos hj]
        rfl
      · rw [List.getElem?_eq_none (by simp; omega), List.getElem?_eq_none (by rw [vi_len]; omega)]
theorem c_zero {T : Tb} (ok : T.Ok) {j k : Nat} (hj : j < T.n) (hk : T.c j k ≠ 0) : k < T.n := by
  refine Classical.byContradiction fun z => hk ?_
  show S T.L (fun l => if T.st j l = k then 1 else 0) = 0
  rw [S_congr (g := fun _ => 0) fun l hl => if_neg fun e => z (by have := ok.st j l hj hl; omega), S_zero]
end
/-! ### moved -/
def spMoved (K : PySem.W.Frag) : Sp := fun vs H Q _ => ∃ (p a : Addr) (T : Tb) (v : Nat → Int), vs = [.ref p, .ref a] ∧ DsAt K H p T ∧ T.Ok ∧ SqL K H a (vi T.n v) ∧ RetL (vi T.n (stepF T.n T.c v)) H Q
section
variable {P : Program} {w : World} {K : PySem.W.Frag} {mg : Str → Option Value} {base : Heap} {f : Addr} {fd : FuncData}
theorem scMoved : FnScope ["steps", "ways", "found", "stand", "many", "after"] ["steps", "ways"] (defScope (topS 25)) := ⟨rfl, rfl, rfl, by decide +kernel, rfl, by decide +kernel, by decide +kernel⟩
theorem ok_moved (F : Fun K "moved" "moved" (topS 25) f fd) (m3 : mg "len" = none) (m6 : mg "enumerate" = none) : FnOk P w K mg base CX0 1 f fd ["steps", "ways"] (spMoved K) := by
  refine F.ok scMoved (fun vs H Q E h => by obtain ⟨p, a, T, v, rfl, _⟩ := h; rfl) (fun cdv A outer s H vs Q E hr h => ?_)
  obtain ⟨p, a, T, v, rfl, ⟨ds, d1, d2, d3⟩, ok, ha, q⟩ := h
  have hu := hu_of hr
  refine ⟨_, pss_cons (ps_set (i := 2) scMoved.nd rfl (.inl rfl) (pe_op op_rep (pe_lst (pa_cons pe_int pa_nil)) (pe_callB (r := rLenS K) call_len_seq (by rfl) m3 b_len (pa_cons (pv 0) pa_nil))))
    (pss_cons (ps_for PassesOwn.never rfl (pi_enum (by rfl) m6 (pa_cons (pv 1) pa_nil)) (pg_tup rfl (pgs_cons (pg_name (i := 3) scMoved.nd rfl (.inl rfl)) (pgs_cons (pg_name (i := 4) scMoved.nd rfl (.inl rfl)) pgs_nil)))
      (pss_one (ps_if (pt_cmpR op_ne (pv 4) pe_int (nomark _)) (pss_one (ps_lock (ps_for PassesOwn.never rfl (pi_keys (pe_ix ix_list (pv 0) (pv 3) (fun _ _ => rfl))) (pg_name (i := 5) scMoved.nd rfl (.inl rfl))
        (pss_one (ps_asg (pe_op op_add (pe_ix ix_list (pv 2) (pv 5) (fun _ _ => rfl)) (pe_op op_mul (pv 4) (pe_dget hu (pe_ix ix_list (pv 0) (pv 3) (fun _ _ => rfl)) (pv 5) (fun _ _ => rfl)))) (pg_sub (pv 2) (pv 5) set_list)))))) pss_nil)))
    (pss_one (ps_ret (pv 2)))), ?_⟩
  have hf := ok.few
  -- found = [0] * len(steps)
  refine q_asgL (el_is (el_rep (x := .int 0) (n := T.n) (el_lst (ea_cons ev_c ea_nil) (Nat.le_of_ble_eq_true rfl)) (ev_is (ev_seqLen (ev_var rfl) (Or.inl d1)) (by rw [List.length_map, d2])) (by omega)) (rep_vi _)) fun g H1 ng e1 h1 => ?_
  refine q_forE (ea_cons (ev_var rfl) ea_nil) (ex_l e1 ha) (fun i σ' H' => ∃ y3 y4 y5, σ' = [some (.ref p), some (.ref a), some (.ref g), y3, y4, y5] ∧ Ex H H' ∧ H' g = some (.lst (vi T.n fun k => S i fun j => v j * T.c j k)))
    (fun H2 e2 => ⟨none, none, none, rfl, e1.trans e2, e2 _ _ h1⟩) (fun i σ' H' _ hP => let ⟨_, _, _, _, e, _⟩ := hP; ex_l e ha) (fun i x σ' H' U hx hP nU => ?_) fun σ' H' hP => ?_
  · obtain ⟨y3, y4, y5, rfl, e2, hg⟩ := hP
    obtain ⟨hi, rfl⟩ := vi_get hx
    have e2 : Ex H (upd H' U (.tup [.int (i : Nat), .int (v i)])) := e2.trans (Ex.new nU)
    have hg : upd H' U (.tup [.int (i : Nat), .int (v i)]) g = some (.lst (vi T.n fun k => S i fun j => v j * T.c j k)) := by rw [upd_ne (ne_of_none hg nU)]; exact hg
    generalize upd H' U (.tup [.int (i : Nat), .int (v i)]) = H2 at e2 hg
    refine s_when (b := !decide (V.int (v i) = V.int 0)) (et_test (ev_op (ev_var rfl) ev_c (rv_ne rfl))) (fun hb H3 e3 => ?_) (fun hb H3 e3 => ?_)
    · -- for after in steps[stand], its dict locked
      replace e2 := e2.trans e3
      replace hg := e3 _ _ hg
      obtain ⟨d, hd⟩ : ∃ d, ds[i]? = some d := ⟨_, List.getElem?_eq_getElem (by omega)⟩
      obtain ⟨ks, k1, k2, k3, k4⟩ := d3 i d hd
      have hd3 := e2 _ _ k4
      have ngd : g ≠ d := fun z => by rw [z, hd3] at hg; cases hg
      have dv : (ds.map V.ref)[i]? = some (.ref d) := by rw [List.getElem?_map, hd]; rfl
      refine ⟨d, _, hd3, trivial, fun od => ?_⟩
      have look : ∀ {σ : L2.St} {H4 : Hp} {Q : VK}, σ[0]? = some (some (.ref p)) → σ[3]? = some (some (.int (i : Nat))) → SqL K H4 p (ds.map V.ref) → Q (.ref d) H4 → tOp (rIxL K) (tVar 0) (tVar 3) σ H4 Q := fun s0 s3 hs q =>
        ⟨_, s0, _, s3, p, _, _, _, rfl, rfl, hs, atI_nat dv, q⟩
      have keep0 : ∀ b o, b ≠ d → H b = some o → (upd H3 d (.frz od (.dK (ks.map (ent (T.c i)))))) b = some o := fun b o nb hb => by rw [upd_ne nb]; exact e2 _ _ hb
      refine look rfl rfl (sq_keep d1 k4 keep0) ⟨d, od, rfl, Or.inl ⟨_, upd_same, ?_⟩⟩
      refine for_it walk_keys (fun r σ' H4 => ∃ y5, σ' = [some (.ref p), some (.ref a), some (.ref g), some (.int (i : Nat)), some (.int (v i)), y5] ∧ H4 d = some (.frz od (.dK (ks.map (ent (T.c i))))) ∧ (∀ b o, b ≠ d → H b = some o → H4 b = some o) ∧
          H4 g = some (.lst (vi T.n fun k => (S i fun j => v j * T.c j k) + (if k ∈ ks.take r then v i * T.c i k else 0))))
        ⟨y5, rfl, upd_same, keep0, by rw [upd_ne ngd, hg]; congr 2; exact vi_congr fun k _ => by simp⟩ (fun r σ' H4 _ hP => let ⟨_, _, h, _⟩ := hP; h) (fun r x σ' H4 H5 hr' hP hy => ?_) (fun σ' H4 hP => ?_)
      · obtain ⟨y5, rfl, hd4, keep, hg4⟩ := hP
        have hp4 := sq_keep d1 k4 keep
        obtain ⟨rfl, k, u, hk, rfl⟩ := hy
        rw [List.length_map] at hr'
        rw [List.getElem?_map, List.getElem?_eq_getElem hr'] at hk
        have ek : (Sum.inl ((ks[r] : Nat) : Int), V.int (T.c i ks[r])) = (k, u) := Option.some.inj hk
        obtain ⟨rfl, rfl⟩ := Prod.mk.inj ek
        generalize hkk : ks[r] = kk
        have mem : kk ∈ ks := by rw [← hkk]; exact List.getElem_mem hr'
        have hlt : kk < T.n := c_zero ok hi ((k2 kk).mpr mem)
        have notin : kk ∉ ks.take r := fun z => by
          obtain ⟨m, hm, e⟩ := List.mem_iff_getElem.mp z
          rw [List.length_take] at hm
          rw [List.getElem_take] at e
          have := (List.getElem_inj k1).mp (e.trans hkk.symm)
          omega
        have dg : DGet H5 d (.int (kk : Int)) (some (.int (T.c i kk))) := .inl ⟨_, Sum.inl (kk : Int), .inr ⟨od, hd4⟩, rfl, by rw [ent_get, if_pos mem]⟩
        have c0 := T.c_nn i kk
        have c1 := T.c_le ok i kk
        refine ⟨_, rfl, _, rfl, g, _, _, _, rfl, rfl, sq_of hg4, atI_nat (vi_at hlt), _, rfl, look rfl rfl hp4 ⟨_, rfl, d, _, rfl, dg, _, _, rfl, rfl, .inr (by omega), _, _, rfl, rfl, _, rfl, _, rfl, g, _, _, kk, rfl, rfl, hg4, ixN_nat (by rw [vi_len]; exact hlt), ?_⟩⟩
        refine ⟨_, rfl, by rw [upd_ne (Ne.symm ngd)]; exact hd4, fun b o nb hb => ?_, ?_⟩
        · by_cases z : b = g
          · rw [z, ng] at hb; cases hb
          · rw [upd_ne z]; exact keep b o nb hb
        · rw [upd_same, vi_set hlt]
          congr 2
          refine vi_congr fun k hk => ?_
          have tk : ks.take (r + 1) = ks.take r ++ [kk] := by rw [List.take_add_one, List.getElem?_eq_getElem hr', hkk]; rfl
          rw [tk]
          by_cases z : k = kk
          · subst z
            rw [if_pos rfl, if_neg notin, if_pos (by simp)]
            simp
          · rw [if_neg z]
            simp [z]
      · obtain ⟨y5, rfl, hd4, keep, hg4⟩ := hP
        rw [List.length_map, List.take_length] at hg4
        refine ⟨hd4, _, _, _, rfl, fun b o hb => ?_, ?_⟩
        · by_cases z : b = d
          · rw [z, k4] at hb
            obtain rfl := Option.some.inj hb
            rw [z, upd_same]
          · rw [upd_ne z]; exact keep b o z hb
        · rw [upd_ne ngd, hg4]
          congr 2
          refine vi_congr fun k hk => ?_
          show _ = (S i fun j => v j * T.c j k) + v i * T.c i k
          by_cases z : k ∈ ks
          · rw [if_pos z]
          · rw [if_neg z, show T.c i k = 0 from Classical.byContradiction fun n => z ((k2 k).mp n), Int.mul_zero]
    · have z : v i = 0 := by simpa using hb
      refine ⟨_, _, _, rfl, e2.trans e3, ?_⟩
      rw [e3 _ _ hg]
      congr 2
      refine vi_congr fun k hk => ?_
      show _ = (S i fun j => v j * T.c j k) + v i * T.c i k
      rw [z, Int.zero_mul, Int.add_zero]
  · obtain ⟨y3, y4, y5, rfl, e2, hg⟩ := hP
    rw [vi_len] at hg
    exact ⟨_, rfl, q g H' ng e2 hg⟩
end
end K49

/-! the defs, sixth part: how many at the first widths -/
namespace K49
open PySem PySem.Spec PyProof.Rows L2 Evl
def spNumbers (K : PySem.W.Frag) : Sp := fun vs H Q _ => ∃ (t : Addr) (T : Tb) (m : Nat), vs = [.ref t, .int m] ∧ TbAt K H t T ∧ T.Ok ∧ m ≤ 3000 ∧ RetL (vi m T.num) H Q
def spMet (K : PySem.W.Frag) : Sp := fun vs H Q _ => ∃ (t : Addr) (T : Tb) (m : Nat), vs = [.ref t, .int m] ∧ TbAt K H t T ∧ T.Ok ∧ m ≤ 2000 ∧ RetV (.int (T.num m)) H Q
/-- a value's truth, as a test -/
def tTru (K : PySem.W.Frag) (ta : TE) : TT := fun σ H Q => ta σ H fun x H' => ∃ k, TruV K x H' k ∧ Q k H'
theorem given_tot (n : Nat) (en : Nat → Bool) (v : Nat → Int) : (((List.range n).filter en).map v).sum = tot n en v := S_filter en v n
section
variable {K : PySem.W.Frag} {σ : L2.St} {H : Hp} {ta tb te : TE} {a b : Addr} {n j1 j2 : Nat} {v : Nat → Int} {en : Nat → Bool}
/-- [way for way, end in zip(ways, ends) if end] -/
theorem el_ends {J : It} {wi : TI} {vs : List Nat} (w : Walk J n (fun H => SqL K H a (vi n v) ∧ SqL K H b (vb n en)) (YPair (fun i => (vi n v)[i]?) (fun i => (vb n en)[i]?))) (hx : SqL K H a (vi n v)) (hy : SqL K H b (vb n en)) (hn : n ≤ 30)
    (hwi : ∀ H1, Ex H H1 → ∀ R : It → Hp → Prop, (∀ H2, Ex H1 H2 → R J H2) → wi σ H1 R) (hw : ∀ x y, wipe (((wipe σ vs).set j1 (some x)).set j2 (some y)) vs = wipe σ vs)
    (g1 : ∀ x y : V, (((wipe σ vs).set j1 (some x)).set j2 (some y))[j1]? = some (some x)) (g2 : ∀ x y : V, (((wipe σ vs).set j1 (some x)).set j2 (some y))[j2]? = some (some y)) :
    EvL (tLc wi (gTup K 2 (gCons (gName j1) (gCons (gName j2) gNil))) (tTru K (tVar j2)) (tVar j1) vs) σ H ((((List.range n).filter en).map v).map V.int) := by
  rw [← given_ints]
  refine el_lcZ w en (fun k => .int (v k)) hx hy (by omega) hwi hw (fun i x y H1 e hx hy => ?_) fun i x y H1 e hx hy hf => ?_
  · obtain ⟨_, rfl⟩ := vi_get hx
    obtain ⟨_, rfl⟩ := vb_get hy
    exact fun H2 e2 Q q => ⟨_, g2 _ _, _, rfl, q H2 (Ex.refl H2)⟩
  · obtain ⟨_, rfl⟩ := vi_get hx
    exact ev_var (g1 _ _)
end
section
variable {X : Cx} {a : Expr} {ta : TE}
theorem pt_tru (ha : PE X a ta) (he : ∀ whole, isTrue a X.env whole = (do let v ← whole; standAt a.pos; holding [v] (truthy v)) := by intro _; rfl) : PT X a (tTru X.K ta) := pt_truth ha he
end
section
variable {P : Program} {w : World} {K : PySem.W.Frag} {mg : Str → Option Value} {base : Heap} {f : Addr} {fd : FuncData}
theorem scNumbers : FnScope ["table", "many", "steps", "ways", "found", "_", "way", "end"] ["table", "many"] (defScope (topS 26)) := ⟨rfl, rfl, rfl, by decide +kernel, rfl, by decide +kernel, by decide +kernel⟩
theorem ok_numbers {fS fM : Addr} {dS dM : FuncData} (F : Fun K "numbers_to" "numbers_to" (topS 26) f fd) (D1 : Def P w K mg base 1 "steps_counted" fS dS ["table"] (spSteps K)) (D2 : Def P w K mg base 1 "moved" fM dM ["steps", "ways"] (spMoved K))
    (m3 : mg "len" = none) (m7 : mg "range" = none) (m8 : mg "sum" = none) (m9 : mg "zip" = none) : FnOk P w K mg base CX0 2 f fd ["table", "many"] (spNumbers K) := by
  refine F.ok scNumbers (fun vs H Q E h => by obtain ⟨t, T, m, rfl, _⟩ := h; rfl) (fun cdv A outer s H vs Q E hr h => ?_)
  obtain ⟨t, T, m, rfl, hTb, ok, hm, q⟩ := h
  have hu := hu_of hr
  refine ⟨_, pss_cons (ps_par3 (i := 2) (j := 3) (l := 4) rfl scNumbers.nd rfl rfl rfl (by decide) (by decide) (by decide) rfl rfl rfl
      (pa_cons (pc D1 hr (pa_cons (pv 0) pa_nil)) (pa_cons (pe_op op_cat (pe_lst (pa_cons pe_int pa_nil)) (pe_op op_rep (pe_lst (pa_cons pe_int pa_nil)) (pe_op op_sub (pe_callB (r := rLenS K) call_len_seq (by rfl) m3 b_len (pa_cons (pe_ix ix_tup (pv 0) pe_int (fun _ _ => rfl)) pa_nil)) pe_int)))
        (pa_cons (pe_lst pa_nil) pa_nil))) (by rfl))
    (pss_cons (ps_for PassesOwn.never rfl (pi_range1 (by rfl) m7 (pa_cons (pv 1) pa_nil)) (pg_name (i := 5) scNumbers.nd rfl (.inl rfl))
      (pss_cons (ps_expr (pe_bm PySem.F.plainAttrs_list PySem.F.slot_list_append PySem.F.type_list_append mt_append (pv 4) (pa_cons (pe_callB (r := rSum K) (cr_sum rfl) (by rfl) m8 b_sum
          (pa_cons (pe_lc (own := [("way", 6), ("end", 7)]) (g := gTup K 2 (gCons (gName 6) (gCons (gName 7) gNil))) rfl scNumbers.nd (pi_zs (by rfl) m9 (pa_cons (pv 3) (pa_cons (pe_ix ix_tup (pv 0) pe_int (fun _ _ => rfl)) pa_nil)) (pk_cons pe_bl pk_nil)) (blkOk_by (by kernel_rfl))
            (fun _ _ _ _ _ => pg_tup rfl (pgs_cons (pg_name (i := 6) scNumbers.nd rfl (.inl rfl)) (pgs_cons (pg_name (i := 7) scNumbers.nd rfl (.inl rfl)) pgs_nil))) (fun _ _ _ _ _ => pts_one (t := tTru K (tVar 7)) (pt_tru (pv 7))) (fun _ _ _ _ _ => pv 6)) pa_nil)) pa_nil)))
      (pss_one (ps_set (i := 3) scNumbers.nd rfl (.inl rfl) (pc D2 hr (pa_cons (pv 2) (pa_cons (pv 3) pa_nil)))))))
    (pss_one (ps_ret (pv 4)))), ?_⟩
  obtain ⟨s', e', hT, ⟨rs, r1, r2, r3⟩, hE⟩ := id hTb
  have hf := ok.few
  have hp := ok.pos
  -- steps, ways, found
  refine ⟨_, rfl, t, T, rfl, hTb, ok, fun p H1 e1 hd => ?_⟩
  refine el_is (el_cat (el_lst (ea_cons ev_c ea_nil) (Nat.le_of_ble_eq_true rfl)) (el_rep (x := .int 0) (n := T.n - 1) (el_lst (ea_cons ev_c ea_nil) (Nat.le_of_ble_eq_true rfl)) (ev_is (ev_op (ev_seqLen (ev_op (ev_var rfl) ev_c (rv_ixT (ex_t e1 hT) rfl)) (Or.inl (ex_l e1 r1))) ev_c rv_I0) ?_) (by omega)) (by simp; omega)) (one_vi hp) H1 (Ex.refl _) _ fun wa H2 nw e2 hw => ?_
  · rw [List.length_map, r2]
    congr 1
    omega
  refine el_lst ea_nil (by decide) H2 (Ex.refl _) _ fun g H3 ng e3 hg => ⟨_, _, _, rfl, ?_⟩
  have eH := e1.trans e2
  replace hd := hd.ex e2
  refine q_forR1 (n := (m : Int)) (ea_cons (ev_var rfl) ea_nil) (by omega) (fun i σ' H' => ∃ wa y5, σ' = [some (.ref t), some (.int m), some (.ref p), some (.ref wa), some (.ref g), y5, none, none] ∧ Ex H2 H' ∧ SqL K (er g H') wa (vi T.n (T.ways i)) ∧ H' g = some (.lst (vi i T.num)))
    (fun H4 e4 => ⟨wa, none, rfl, e3.trans e4, ex_l (er_in ng (e3.trans e4)) (sq_of hw), e4 _ _ hg⟩) (fun i σ' H' hi hP => ?_) fun σ' H' hP => ?_
  · obtain ⟨wa, y5, rfl, e4, hw4, hg4⟩ := hP
    have hT4 := ex_t (eH.trans e4) hT
    have hE4 := ex_l (eH.trans e4) hE
    have hw4' := ex_l er_ex hw4
    refine q_app (xs := vi i T.num) hg4 (ev_var rfl) (ev_is (ev_sum (n := 0) (f := fun _ => 0) (el_ends (walk_zs (vi_len _ _) (vb_len _ _)) hw4' hE4 hf (wi_zs (ea_cons (ev_var rfl) (ea_cons (ev_op (ev_var rfl) ev_c (rv_ixT hT4 rfl)) ea_nil)) (ea_cons ev_c ea_nil) hw4' hE4) (fun x y => rfl) (fun x y => rfl) (fun x y => rfl)))
      (congrArg V.int (given_tot _ _ _))) (by rw [vi_len]; omega) fun H5 e5 => ?_
    have e6 : Ex H2 (upd H5 g (.lst (vi i T.num ++ [.int (tot T.n T.en (T.ways i))]))) := Ex.mut (e4.trans e5) ng
    have hw6 : SqL K (er g (upd H5 g (.lst (vi i T.num ++ [.int (tot T.n T.en (T.ways i))])))) wa (vi T.n (T.ways i)) := by rw [er_upd]; exact ex_l (er_mono e5) hw4
    have hg6 : upd H5 g (.lst (vi i T.num ++ [.int (tot T.n T.en (T.ways i))])) g = some (.lst (vi (i + 1) T.num)) := by rw [upd_same, ← vi_snoc]; rfl
    generalize upd H5 g (.lst (vi i T.num ++ [.int (tot T.n T.en (T.ways i))])) = H6 at e6 hw6 hg6
    refine ⟨_, rfl, _, rfl, p, wa, T, T.ways i, rfl, hd.ex e6, ok, ex_l er_ex hw6, fun wb H7 nb e7 hb => ?_⟩
    exact ⟨wb, _, rfl, e6.trans e7, sq_of (er_at hb fun z => by rw [z, hg6] at nb; cases nb), e7 _ _ hg6⟩
  · obtain ⟨wa, y5, rfl, e4, hw4, hg4⟩ := hP
    exact ⟨_, rfl, q g H' (fresh_back eH ng) (eH.trans e4) hg4⟩
theorem spl_numbers {t : Addr} {T : Tb} {m : Nat} {H : Hp} (h : TbAt K H t T) (ok : T.Ok) (hm : m ≤ 3000) : SpL (spNumbers K) [.ref t, .int m] H (vi m T.num) := fun H1 e Q q E => ⟨t, T, m, rfl, h.ex e, ok, hm, q⟩
theorem scMet : FnScope ["table", "width"] ["table", "width"] (defScope (topS 27)) := ⟨rfl, rfl, rfl, by decide +kernel, rfl, by decide +kernel, by decide +kernel⟩
theorem ok_met {fC fN fW : Addr} {dC dN dW : FuncData} {t2 : Tok} (F : Fun K "how_many_met" "how_many_met" (topS 27) f fd) (C : Def P w K mg base 6 "check_table" fC dC ["table"] (spCheck K)) (W : Def P w K mg base 2 "is_count" fW dW ["value"] spCount)
    (N : Def P w K mg base 2 "numbers_to" fN dN ["table", "many"] (spNumbers K)) (gN : mg "MOST_WIDTH" = some (.int 2000 t2)) : FnOk P w K mg base CX0 7 f fd ["table", "width"] (spMet K) := by
  refine F.ok scMet (fun vs H Q E h => by obtain ⟨t, T, m, rfl, _⟩ := h; rfl) (fun cdv A outer s H vs Q E hr h => ?_)
  obtain ⟨t, T, m, rfl, hT, ok, hm, q⟩ := h
  refine ⟨_, pss_cons (ps_expr (pc C hr (pa_cons (pv 0) pa_nil)))
    (pss_cons (ps_if (PW.pt (pw_or (pt_not (pt_val (pc W hr (pa_cons (pv 1) pa_nil)))) (pw_or1 (pt_cmpR op_gt (pv 1) (pe_glob (v := .int 2000) (by rfl) gN ⟨_, rfl⟩) (nomark _))))) pss_never pss_nil)
    (pss_one (ps_ret (pe_ix ix_list (pc N hr (pa_cons (pv 0) (pa_cons (pe_op op_add (pv 1) pe_int) pa_nil))) (pv 1) (fun _ _ => rfl))))), ?_⟩
  refine q_drop (ev_call (ea_cons (ev_var rfl) ea_nil) (spv_check hT ok)) fun H1 e1 => ?_
  refine q_when (b := false) (et_is (et_or (et_not (et_B (ev_call (ea_cons (ev_var rfl) ea_nil) spv_count))) fun _ => et_test (ev_op (ev_var rfl) ev_c rv_I0)) ?_) (fun z => nomatch z) fun _ H2 e2 => ?_
  · simp; omega
  refine s_ret (ev_opL1 (el_call (ea_cons (ev_var rfl) (ea_cons (ev_op (ev_var rfl) ev_c rv_I0) ea_nil)) (spl_numbers (m := m + 1) (hT.ex (e1.trans e2)) ok (by omega))) (fun H3 e3 => ev_var rfl) fun p H3 hp e3 => rv_ixL (sq_of hp) (atI_nat (vi_at (by omega)))) fun H3 e3 => q H3 ((e1.trans e2).trans e3)
end
end K49

/-! the defs, seventh part: products and powers by a number -/
namespace K49
open PySem PySem.Spec PyProof.Rows L2 Evl
def Bd (A : Nat → Nat → Int) : Prop := ∀ i k, 0 ≤ A i k ∧ A i k < 2 ^ 40
theorem bd_c {T : Tb} (ok : T.Ok) : Bd T.c := fun j k => ⟨T.c_nn j k, by have := T.c_le ok j k; omega⟩
theorem bd_mul {n : Nat} {m : Int} {A R : Nat → Nat → Int} (h1 : 2 ≤ m) (h2 : m ≤ 10 ^ 9) : Bd (mulF n m A R) := fun i k => by
  have a := Int.emod_nonneg (S n fun j => A i j * R j k) (show m ≠ 0 by omega)
  have b := Int.emod_lt_of_pos (S n fun j => A i j * R j k) (show 0 < m by omega)
  show 0 ≤ (S n fun j => A i j * R j k) % m ∧ (S n fun j => A i j * R j k) % m < 2 ^ 40
  omega
theorem bd_id {m : Int} (h1 : 2 ≤ m) (h2 : m ≤ 10 ^ 9) : Bd (idF m) := fun i k => by
  have a := Int.emod_nonneg (if k = i then (1 : Int) else 0) (show m ≠ 0 by omega)
  have b := Int.emod_lt_of_pos (if k = i then (1 : Int) else 0) (show 0 < m by omega)
  show 0 ≤ (if k = i then (1 : Int) else 0) % m ∧ (if k = i then (1 : Int) else 0) % m < 2 ^ 40
  omega
theorem bd_e0 : Bd fun _ => e0 := fun i k => by
  show 0 ≤ (if k = 0 then (1 : Int) else 0) ∧ (if k = 0 then (1 : Int) else 0) < 2 ^ 40
  split <;> omega
def spMul (K : PySem.W.Frag) : Sp := fun vs H Q _ => ∃ (a b : Addr) (m : Int) (r n : Nat) (A R : Nat → Nat → Int), vs = [.ref a, .ref b, .int m] ∧ Mx K H a r (fun i => vi n (A i)) ∧ Mx K H b n (fun j => vi n (R j)) ∧ 0 < m ∧ n ≤ 30 ∧ r ≤ 30 ∧ Bd A ∧
  ∀ p H', Ex H H' → Mx K H' p r (fun i => vi n (mulF n m A R i)) → Q (.ref p) H'
section
variable {K : PySem.W.Frag} {σ : L2.St} {H : Hp} {ta tb te : TE} {D : Ends} {rows : Nat → List V} {g : Addr} {i : Nat} {B : Hp}
/-- a row is put behind the rows that are made so far -/
theorem s_appM {j : Nat} (p : Cm B rows g i H) (hi : i < 50000) (hs : σ[j]? = some (some (.ref g))) (he : EvL te σ B (rows i)) (k : ∀ H2, Cm B rows g (i + 1) H2 → D.nx σ H2) :
    tDrop (tBM K "list" rAppend (tVar j) (tCons te tNil)) D σ H := by
  obtain ⟨p1, p2, rs, p3, p4, p5⟩ := p
  refine ⟨_, hs, Or.inl ⟨rfl, _, sq_of p3⟩, he H p2 _ fun q H4 hq e4 hl => ⟨g, rs.map V.ref, .ref q, rfl, rfl, e4 g _ p3, sz_lt (by rw [List.length_map]; omega), k _ ⟨p1, Ex.mut (p2.trans e4) p1, rs ++ [q], ?_, by rw [List.length_append, p4]; rfl, fun j r hj => ?_⟩⟩⟩
  · rw [upd_same, List.map_append]; rfl
  · have nq : q ≠ g := fun z => by rw [z, p3] at hq; cases hq
    by_cases hlt : j < rs.length
    · rw [List.getElem?_append_left hlt] at hj
      obtain ⟨a, b⟩ := p5 j r hj
      exact ⟨a, by rw [upd_ne a]; exact e4 _ _ b⟩
    · rw [List.getElem?_append_right (by omega)] at hj
      have ej : j - rs.length = 0 := by
        cases h0 : j - rs.length with
        | zero => rfl
        | succ m => rw [h0] at hj; simp at hj
      rw [ej] at hj
      obtain rfl : q = r := Option.some.inj hj
      obtain rfl : j = i := by omega
      exact ⟨nq, by rw [upd_ne nq]; exact hl⟩
theorem mx_get {p : Addr} {n j : Nat} {row : Nat → List V} {xs : List V} {x : V} (h : Mx K H p n row) (hx : SqL K H p xs) (same : ∀ ys, SqL K H p ys → ys = xs) (hj : xs[j]? = some x) : ∃ r, x = .ref r ∧ SqL K H r (row j) ∧ j < n := by
  obtain ⟨rs, a, b, c⟩ := h
  rw [← same _ a, List.getElem?_map] at hj
  obtain ⟨r, hr, rfl⟩ := Option.map_eq_some_iff.mp hj
  exact ⟨r, rfl, c j r hr, by have := (List.getElem?_eq_some_iff.mp hr).1; omega⟩
end
section
variable {P : Program} {w : World} {K : PySem.W.Frag} {mg : Str → Option Value} {base : Heap} {f : Addr} {fd : FuncData}
theorem scMul : FnScope ["one", "other", "by", "row", "columns", "found", "place", "low", "high", "column"] ["one", "other", "by"] (defScope (topS 29)) := ⟨rfl, rfl, rfl, by decide +kernel, rfl, by decide +kernel, by decide +kernel⟩
theorem ok_mul (F : Fun K "multiplied" "multiplied" (topS 29) f fd) (m3 : mg "len" = none) (m7 : mg "range" = none) (m8 : mg "sum" = none) (m9 : mg "zip" = none) : FnOk P w K mg base CX0 1 f fd ["one", "other", "by"] (spMul K) := by
  refine F.ok scMul (fun vs H Q E h => by obtain ⟨a, b, m, r, n, A, R, rfl, _⟩ := h; rfl) (fun cdv A' outer s H vs Q E hr h => ?_)
  obtain ⟨a, b, m, r, n, A, R, rfl, ha, hb, hm, hn, hr', bA, q⟩ := h
  refine ⟨_, pss_cons (ps_setLc (i := 4) (own := [("place", 6)]) (g := gName 6) rfl scMul.nd rfl rfl (sw_true rfl rfl rfl (by decide +kernel)) (pi_range1 (by rfl) m7 (pa_cons (pe_callB (r := rLenS K) call_len_seq (by rfl) m3 b_len (pa_cons (pv 1) pa_nil)) pa_nil)) (blkOk_by (by kernel_rfl))
      (fun _ _ _ _ _ => pg_name (i := 6) scMul.nd rfl (Or.inr rfl)) (fun _ _ _ _ _ => pts_nil)
      (fun _ _ _ _ _ => pe_lc (own := [("row", 3)]) (g := gName 3) (wi := iList K (tVar 1)) rfl scMul.nd (pi_list (pv 1)) (blkOk_by (by kernel_rfl)) (fun _ _ _ _ _ => pg_name (i := 3) scMul.nd rfl (Or.inl rfl)) (fun _ _ _ _ _ => pts_nil)
        (fun _ _ _ _ _ => pe_ix (r := rIxL K) ix_list (pv 3) (pv 6) (fun _ _ => rfl))))
    (pss_cons (ps_set (i := 5) scMul.nd rfl (.inl rfl) (pe_lst pa_nil))
    (pss_cons (ps_for PassesOwn.never rfl (pi_list (pv 0)) (pg_name (i := 3) scMul.nd rfl (.inr rfl))
      (pss_one (ps_expr (pe_bm PySem.F.plainAttrs_list PySem.F.slot_list_append PySem.F.type_list_append mt_append (pv 5) (pa_cons
        (pe_lc (own := [("column", 9)]) (g := gName 9) (wi := iList K (tVar 4)) rfl scMul.nd (pi_list (pv 4)) (blkOk_by (by kernel_rfl)) (fun _ _ _ _ _ => pg_name (i := 9) scMul.nd rfl (Or.inl rfl)) (fun _ _ _ _ _ => pts_nil)
          (fun _ _ _ _ _ => pe_op op_mod (pe_callB (r := rSum K) (cr_sum rfl) (by rfl) m8 b_sum (pa_cons
            (pe_lc (own := [("low", 7), ("high", 8)]) (g := gTup K 2 (gCons (gName 7) (gCons (gName 8) gNil))) (wi := iZs K (tCons (tVar 3) (tCons (tVar 9) tNil)) (tCons (tC (.bl true)) tNil)) rfl scMul.nd (pi_zs (by rfl) m9 (pa_cons (pv 3) (pa_cons (pv 9) pa_nil)) (pk_cons pe_bl pk_nil)) (blkOk_by (by kernel_rfl))
              (fun _ _ _ _ _ => pg_tup rfl (pgs_cons (pg_name (i := 7) scMul.nd rfl (.inl rfl)) (pgs_cons (pg_name (i := 8) scMul.nd rfl (.inl rfl)) pgs_nil))) (fun _ _ _ _ _ => pts_nil)
              (fun _ _ _ _ _ => pe_op op_mul (pv 7) (pv 8))) pa_nil)) (pv 2))) pa_nil)))))
    (pss_one (ps_ret (pv 5))))), ?_⟩
  obtain ⟨rs, b1, b2, b3⟩ := hb
  obtain ⟨qs, a1, a2, a3⟩ := ha
  -- columns
  refine q_asgP (ep_lcR (K := K) (n := (n : Int)) (fun k => vi n fun j => R j k) (ea_cons (ev_is (ev_seqLen (ev_var rfl) (Or.inl b1)) (by rw [List.length_map, b2])) ea_nil) (by omega) (fun x => rfl) (fun k H1 e1 hk => ?_)) fun v H1 e1 hv => ?_
  · refine el_is (el_lcL (fun _ => true) (fun j => .int (R j k)) (ev_var rfl) (ex_l e1 b1) (by rw [List.length_map]; omega) (fun x => rfl) (fun j x H2 e2 hx => fun H3 e3 Q q => q H3 (Ex.refl H3)) (fun j x H2 e2 hx _ => ?_)) (by rw [List.length_map, b2]; exact vi_given _ _)
    rw [List.getElem?_map] at hx
    obtain ⟨u, hu, rfl⟩ := Option.map_eq_some_iff.mp hx
    exact ev_op (ev_var rfl) (ev_var rfl) (rv_ixL (ex_l (e1.trans e2) (b3 j u hu)) (atI_nat (vi_at (by omega))))
  obtain ⟨c, rfl, hc⟩ := hv
  rw [Int.toNat_natCast] at hc
  obtain ⟨cs, c1, c2, c3⟩ := hc
  refine q_asgL (el_lst ea_nil (by decide)) fun g H2 ng e2 hg => ?_
  refine q_forLn (ev_var rfl) (ex_l (e1.trans e2) a1) (fun i σ' H' => ∃ y3, σ' = [some (.ref a), some (.ref b), some (.int m), y3, some (.ref c), some (.ref g), none, none, none, none] ∧ Cm H1 (fun i => vi n (mulF n m A R i)) g i H')
    (fun H3 e3 => ⟨none, rfl, ng, e2.trans e3, [], e3 _ _ hg, rfl, fun j r hj => by simp at hj⟩) (fun i σ' H' _ hP => let ⟨_, _, p⟩ := hP; ex_l (e1.trans p.2.1) a1) (fun i x σ' H' hx hP => ?_) fun σ' H' hP => ?_
  · obtain ⟨y3, rfl, cm⟩ := hP
    rw [List.getElem?_map] at hx
    obtain ⟨u, hu, rfl⟩ := Option.map_eq_some_iff.mp hx
    have hi : i < r := by have := (List.getElem?_eq_some_iff.mp hu).1; omega
    refine s_appM cm (by omega) rfl (el_is (el_lcL (fun _ => true) (fun k => .int (mulF n m A R i k)) (ev_var rfl) c1 (by rw [List.length_map]; omega) (fun x => rfl) (fun j x H2 e2 hx => fun H3 e3 Q q => q H3 (Ex.refl H3)) (fun k x H3 e3 hx _ => ?_)) (by rw [List.length_map, c2]; exact vi_given _ _)) fun H3 p3 => ⟨_, rfl, p3⟩
    rw [List.getElem?_map] at hx
    obtain ⟨z, hz, rfl⟩ := Option.map_eq_some_iff.mp hx
    have row := ex_l (e1.trans e3) (a3 i u hu)
    have col := ex_l e3 (c3 k z hz)
    refine ev_op (ev_sum (n := 0) (f := fun _ => 0) (xs := (List.range n).map fun j => A i j * R j k) (el_is (el_lcZ (walk_zs (vi_len _ _) (vi_len _ _)) (fun _ => true) (fun j => .int (A i j * R j k)) row col (by omega) (wi_zs (ea_cons (ev_var rfl) (ea_cons (ev_var rfl) ea_nil)) (ea_cons ev_c ea_nil) row col) (fun x y => rfl)
      (fun j x y H4 e4 h1 h2 => fun H3 e3 Q q => q H3 (Ex.refl H3)) (fun j x y H4 e4 h1 h2 _ => ?_)) (by rw [vi_given]; exact vi_ints _ _))) (ev_var rfl) ?_
    · obtain ⟨_, rfl⟩ := vi_get h1
      obtain ⟨_, rfl⟩ := vi_get h2
      have bb := bA i j
      exact ev_op (ev_var rfl) (ev_var rfl) (rv_I (.inl (by omega)))
    · rw [S_sum]
      exact rv_I (g := fun i j => V.int (i % j)) hm
  · obtain ⟨y3, rfl, cm⟩ := hP
    rw [List.length_map, a2] at cm
    exact ⟨_, rfl, q g H' (e1.trans cm.2.1) cm.mx⟩
end
end K49

/-! the defs, eighth part: powers, how many by a number -/
namespace K49
open PySem PySem.Spec PyProof.Rows L2 Evl
def spPow (K : PySem.W.Frag) : Sp := fun vs H Q _ => ∃ (a : Addr) (w : Nat) (m : Int) (n : Nat) (R : Nat → Nat → Int), vs = [.ref a, .int w, .int m] ∧ Mx K H a n (fun j => vi n (R j)) ∧ 2 ≤ m ∧ m ≤ 10 ^ 9 ∧ n ≤ 30 ∧ Bd R ∧
  ∀ p H', Ex H H' → Mx K H' p n (fun i => vi n (pw n m w (idF m) R i)) → Q (.ref p) H'
def spBy (K : PySem.W.Frag) : Sp := fun vs H Q _ => ∃ (t : Addr) (T : Tb) (w : Nat) (m : Int), vs = [.ref t, .int w, .int m] ∧ TbAt K H t T ∧ T.Ok ∧ w < 10 ^ 30 ∧ 2 ≤ m ∧ m ≤ 10 ^ 9 ∧ RetV (.int (T.byV m w)) H Q
section
variable {K : PySem.W.Frag} {σ : L2.St} {H : Hp} {ta tb td ty : TE} {D : Ends}
theorem ev_int_bl {b : Bool} (ha : Ev ta σ H (.bl b)) : Ev (tCB (fun xs H Q => (∃ i, xs = [.int i] ∧ Q (.int i) H) ∨ ∃ k, xs = [.bl k] ∧ Q (.int (if k then 1 else 0)) H) (tCons ta tNil)) σ H (.int (if b = true then 1 else 0)) := fun H1 e Q q =>
  ha H1 e _ fun H2 e2 => .inr ⟨b, rfl, q H2 e2⟩
theorem ev_int_int {i : Int} (ha : Ev ta σ H (.int i)) : Ev (tCB (fun xs H Q => (∃ i, xs = [.int i] ∧ Q (.int i) H) ∨ ∃ k, xs = [.bl k] ∧ Q (.int (if k then 1 else 0)) H) (tCons ta tNil)) σ H (.int i) := fun H1 e Q q =>
  ha H1 e _ fun H2 e2 => .inl ⟨i, rfl, q H2 e2⟩
theorem ev_dget {d : Addr} {c : Nat → Int} {k : Nat} (hd : Dc H d c) (h1 : Ev td σ H (.ref d)) (h2 : Ev ty σ H (.int (k : Int))) : Ev (tDGet2 td ty (tC (.int 0))) σ H (.int (c k)) := fun H1 e Q q =>
  h1 H1 e _ fun H2 e2 => by
    obtain ⟨ks, a, b, l, x⟩ := hd
    refine ⟨d, rfl, .inl ⟨_, .inl ((e.trans e2) _ _ x)⟩, h2 H2 (e.trans e2) _ fun H3 e3 => ⟨_, DGet.k (k := Sum.inl (k : Int)) (((e.trans e2).trans e3) _ _ x), ?_⟩⟩
    have z : (valV (ks.map (ent c)) (Sum.inl (k : Int))).getD (.int 0) = .int (c k) := by
      rw [ent_get]
      by_cases hm : k ∈ ks
      · rw [if_pos hm]; rfl
      · rw [if_neg hm, show c k = 0 from Classical.byContradiction fun z => hm ((b k).mp z)]; rfl
    rw [z]
    exact q H3 (e2.trans e3)
theorem spp_mul {a b : Addr} {m : Int} {r n : Nat} {A R : Nat → Nat → Int} (ha : Mx K H a r (fun i => vi n (A i))) (hb : Mx K H b n (fun j => vi n (R j))) (h0 : 0 < m) (h1 : n ≤ 30) (h2 : r ≤ 30) (hA : Bd A) :
    SpP (spMul K) [.ref a, .ref b, .int m] H (fun v H' => ∃ p, v = .ref p ∧ Mx K H' p r (fun i => vi n (mulF n m A R i))) := fun H1 e Q q E => ⟨a, b, m, r, n, A, R, rfl, ha.ex e, hb.ex e, h0, h1, h2, hA, fun p H' e' hm => q _ H' e' ⟨p, rfl, hm⟩⟩
end
section
variable {P : Program} {w : World} {K : PySem.W.Frag} {mg : Str → Option Value} {base : Heap} {f : Addr} {fd : FuncData}
theorem scPow : FnScope ["rows", "times", "by", "found", "place", "at"] ["rows", "times", "by"] (defScope (topS 30)) := ⟨rfl, rfl, rfl, by decide +kernel, rfl, by decide +kernel, by decide +kernel⟩
theorem ok_pow {fM : Addr} {dM : FuncData} (F : Fun K "power_by" "power_by" (topS 30) f fd) (M : Def P w K mg base 1 "multiplied" fM dM ["one", "other", "by"] (spMul K)) (m2 : mg "int" = none) (m3 : mg "len" = none) (m7 : mg "range" = none) :
    FnOk P w K mg base CX0 2 f fd ["rows", "times", "by"] (spPow K) := by
  refine F.ok scPow (fun vs H Q E h => by obtain ⟨a, w, m, n, R, rfl, _⟩ := h; rfl) (fun cdv A' outer s H vs Q E hr h => ?_)
  obtain ⟨a, t, m, n, R, rfl, ha, hm1, hm2, hn, bR, q⟩ := h
  refine ⟨_, pss_cons (ps_setLc (i := 3) (own := [("place", 4)]) (g := gName 4) rfl scPow.nd rfl rfl (sw_true rfl rfl rfl (by decide +kernel)) (pi_range1 (by rfl) m7 (pa_cons (pe_callB (r := rLenS K) call_len_seq (by rfl) m3 b_len (pa_cons (pv 0) pa_nil)) pa_nil)) (blkOk_by (by kernel_rfl))
      (fun _ _ _ _ _ => pg_name (i := 4) scPow.nd rfl (Or.inr rfl)) (fun _ _ _ _ _ => pts_nil)
      (fun _ _ _ _ _ => pe_lc (own := [("at", 5)]) (g := gName 5) rfl scPow.nd (pi_range1 (by rfl) m7 (pa_cons (pe_callB (r := rLenS K) call_len_seq (by rfl) m3 b_len (pa_cons (pv 0) pa_nil)) pa_nil)) (blkOk_by (by kernel_rfl)) (fun _ _ _ _ _ => pg_name (i := 5) scPow.nd rfl (Or.inl rfl)) (fun _ _ _ _ _ => pts_nil)
        (fun _ _ _ _ _ => pe_op op_mod (pe_callTy call_int1 (by rfl) m2 b_int (pa_cons (pe_cmpR op_eq (pv 5) (pv 4) (nomark _)) pa_nil)) (pv 2))))
    (pss_cons (ps_while PassesOwn.never (pt_cmpR op_gt (pv 1) pe_int (nomark _))
      (pss_cons (ps_if (pt_cmpR op_eq (pe_op op_mod (pv 1) pe_int) pe_int (nomark _)) (pss_one (ps_set (i := 3) scPow.nd rfl (.inl rfl) (pc M hr (pa_cons (pv 3) (pa_cons (pv 0) (pa_cons (pv 2) pa_nil)))))) pss_nil)
      (pss_one (ps_asg (pe_tup (pa_cons (pc M hr (pa_cons (pv 0) (pa_cons (pv 0) (pa_cons (pv 2) pa_nil)))) (pa_cons (pe_op op_fdiv (pv 1) pe_int) pa_nil)))
        (pg_tup rfl (pgs_cons (pg_name (i := 0) scPow.nd rfl (Or.inr rfl)) (pgs_cons (pg_name (i := 1) scPow.nd rfl (Or.inl rfl)) pgs_nil)))))))
    (pss_one (ps_ret (pv 3)))), ?_⟩
  obtain ⟨rs, b1, b2, b3⟩ := id ha
  have lenE : ∀ {σ : L2.St} {H1 : Hp}, Ex H H1 → σ[0]? = some (some (.ref a)) → Ev (tCB (rLenS K) (tCons (tVar 0) tNil)) σ H1 (.int (n : Int)) := fun e h => ev_is (ev_seqLen (ev_var h) (Or.inl (ex_l e b1))) (by rw [List.length_map, b2])
  refine q_asgP (ep_lcR (K := K) (n := (n : Int)) (fun i => vi n (idF m i)) (ea_cons (lenE (Ex.refl _) rfl) ea_nil) (by omega) (fun x => rfl) (fun i H1 e1 hi => ?_)) fun v H1 e1 hv => ?_
  · refine el_is (el_lcR1 (n := (n : Int)) (fun _ => true) (fun k => .int (idF m i k)) (ea_cons (lenE e1 rfl) ea_nil) (by omega) (fun x => rfl) (fun k H2 e2 hk => fun H3 e3 Q q => q H3 (Ex.refl H3)) (fun k H2 e2 hk _ => ?_)) (by rw [Int.toNat_natCast]; exact vi_given _ _)
    refine ev_is (ev_op (ev_int_bl (ev_op (ev_var rfl) (ev_var rfl) (rv_eq rfl))) (ev_var rfl) (rv_I (show 0 < m by omega))) ?_
    show V.int ((if decide (V.int (k : Int) = V.int (i : Int)) = true then 1 else 0) % m) = V.int ((if k = i then 1 else 0) % m)
    congr 2
    by_cases z : k = i
    · subst z; simp
    · rw [if_neg z, decide_eq_false (fun y => z (by have := V.int.inj y; omega))]; rfl
  obtain ⟨fa, rfl, hfa⟩ := hv
  rw [Int.toNat_natCast] at hfa
  refine q_while (fun μ σ' H' => ∃ (ra fa : Addr) (A R' : Nat → Nat → Int), σ' = [some (.ref ra), some (.int (μ : Nat)), some (.int m), some (.ref fa), none, none] ∧ Ex H H' ∧ Mx K H' ra n (fun j => vi n (R' j)) ∧ Mx K H' fa n (fun i => vi n (A i)) ∧ Bd A ∧ Bd R' ∧ pw n m μ A R' = pw n m t (idF m) R)
    t ⟨a, fa, idF m, R, rfl, e1, ha.ex e1, hfa, bd_id hm1 hm2, bR, rfl⟩ (fun μ σ' H' hW => ?_)
  obtain ⟨ra, fa, A, R', rfl, e2, h1, h2, bA, bR', hp⟩ := hW
  refine ⟨decide ((0 : Int) < (μ : Nat)), et_test (ev_op (ev_var rfl) ev_c rv_I0), fun hb H2 e3 => ?_, fun hb H2 e3 => ?_⟩
  · have hpos : 0 < μ := by have := of_decide_eq_true hb; omega
    refine ⟨fun σ' H' => ∃ (ra fa : Addr) (A R' : Nat → Nat → Int), σ' = [some (.ref ra), some (.int ((μ / 2 : Nat) : Int)), some (.int m), some (.ref fa), none, none] ∧ Ex H H' ∧ Mx K H' ra n (fun j => vi n (R' j)) ∧ Mx K H' fa n (fun i => vi n (A i)) ∧ Bd A ∧ Bd R' ∧ pw n m (μ / 2) A R' = pw n m t (idF m) R,
      fun σ' H' hN => ⟨μ / 2, by omega, hN⟩, ?_⟩
    replace e2 := e2.trans e3
    replace h1 := h1.ex e3
    replace h2 := h2.ex e3
    rw [pw_pos n m hpos] at hp
    have fin : ∀ (fa' : Addr) (A2 : Nat → Nat → Int) (H4 : Hp), Ex H2 H4 → Mx K H4 fa' n (fun i => vi n (A2 i)) → Bd A2 → A2 = (if μ % 2 = 1 then mulF n m A R' else A) →
        tAsg (tTup (tCons (tCall (spMul K) [] E0 (tCons (tVar 0) (tCons (tVar 0) (tCons (tVar 2) tNil)))) (tCons (tOp (rI CDiv fun i j => .int (i / j)) (tVar 1) (tC (.int 2))) tNil))) (gTup K 2 (gCons (gName 0) (gCons (gName 1) gNil)))
          { nx := fun σ' H' => ∃ (ra fa : Addr) (A R' : Nat → Nat → Int), σ' = [some (.ref ra), some (.int ((μ / 2 : Nat) : Int)), some (.int m), some (.ref fa), none, none] ∧ Ex H H' ∧ Mx K H' ra n (fun j => vi n (R' j)) ∧ Mx K H' fa n (fun i => vi n (A i)) ∧ Bd A ∧ Bd R' ∧ pw n m (μ / 2) A R' = pw n m t (idF m) R, rt := Q }
          [some (.ref ra), some (.int (μ : Nat)), some (.int m), some (.ref fa'), none, none] H4 := fun fa' A2 H4 e4 hA bA2 eA => by
      refine ep_call (ea_cons (ev_var rfl) (ea_cons (ev_var rfl) (ea_cons (ev_var rfl) ea_nil))) (spp_mul (h1.ex e4) (h1.ex e4) (by omega) hn hn bR') H4 (Ex.refl _) _ fun v H5 e5 hv => ?_
      obtain ⟨rb, rfl, hrb⟩ := hv
      refine ⟨_, rfl, _, _, rfl, rfl, ⟨by decide, by decide⟩, (by show 2 ≤ sizeLine; decide), fun u nu => ⟨u, _, rfl, st_of upd_same, rfl, _, _, rfl, _, _, rfl, rfl, rb, fa', A2, mulF n m R' R', ?_, ((e2.trans e4).trans e5).trans (Ex.new nu), hrb.ex (Ex.new nu), hA.ex (e5.trans (Ex.new nu)), bA2, bd_mul hm1 hm2, ?_⟩⟩
      · show [some (V.ref rb), some (V.int ((μ : Int) / 2)), _, _, _, _] = _
        rw [Int.natCast_ediv]
        rfl
      · rw [eA]; exact hp
    refine q_when (b := decide (V.int ((μ : Int) % 2) = V.int 1)) (et_test (ev_op (ev_op (ev_var rfl) ev_c (rv_I (by decide))) ev_c (rv_eq rfl))) (fun hb H4 e4 => ?_) (fun hb H4 e4 => ?_)
    · have odd : μ % 2 = 1 := by have := V.int.inj (of_decide_eq_true hb); omega
      refine s_asgP (ep_call (ea_cons (ev_var rfl) (ea_cons (ev_var rfl) (ea_cons (ev_var rfl) ea_nil))) (spp_mul (h2.ex e4) (h1.ex e4) (by omega) hn hn bA)) fun v H5 e5 hv => ?_
      obtain ⟨fb, rfl, hfb⟩ := hv
      exact fin fb _ H5 (e4.trans e5) hfb (bd_mul hm1 hm2) (if_pos odd).symm
    · have odd : ¬ μ % 2 = 1 := fun z => by
        have := of_decide_eq_false hb
        exact this (by congr 1; omega)
      exact fin fa A H4 e4 (h2.ex e4) bA (if_neg odd).symm
  · have hz : μ = 0 := by have := of_decide_eq_false hb; omega
    subst hz
    rw [pw_zero] at hp
    subst hp
    exact ⟨_, rfl, q fa H2 (e2.trans e3) (h2.ex e3)⟩
theorem spp_pow {a : Addr} {t : Nat} {m : Int} {n : Nat} {R : Nat → Nat → Int} {H : Hp} (ha : Mx K H a n (fun j => vi n (R j))) (h1 : 2 ≤ m) (h2 : m ≤ 10 ^ 9) (hn : n ≤ 30) (bR : Bd R) :
    SpP (spPow K) [.ref a, .int t, .int m] H (fun v H' => ∃ p, v = .ref p ∧ Mx K H' p n (fun i => vi n (pw n m t (idF m) R i))) := fun H1 e Q q E => ⟨a, t, m, n, R, rfl, ha.ex e, h1, h2, hn, bR, fun p H' e' h => q _ H' e' ⟨p, rfl, h⟩⟩
theorem scBy : FnScope ["table", "width", "by", "size", "rows", "reached", "after", "step", "ways", "end"] ["table", "width", "by"] (defScope (topS 31)) := ⟨rfl, rfl, rfl, by decide +kernel, rfl, by decide +kernel, by decide +kernel⟩
theorem ok_by2 {fC fW fN fF fS fP : Addr} {dC dW dN dF dS dP : FuncData} {tF tB : Tok} (F : Fun K "how_many_by" "how_many_by" (topS 31) f fd) (C : Def P w K mg base 6 "check_table" fC dC ["table"] (spCheck K)) (W : Def P w K mg base 2 "is_count" fW dW ["value"] spCount)
    (N : Def P w K mg base 2 "check_number" fN dN ["number", "low", "high"] spNumber) (Fw : Def P w K mg base 1 "check_few" fF dF ["table"] (spCheck K)) (D1 : Def P w K mg base 1 "steps_counted" fS dS ["table"] (spSteps K)) (D2 : Def P w K mg base 2 "power_by" fP dP ["rows", "times", "by"] (spPow K))
    (m3 : mg "len" = none) (m7 : mg "range" = none) (m8 : mg "sum" = none) (m9 : mg "zip" = none) (gF : mg "FAR" = some (.int 1000000000000000000000000000000 tF)) (gB : mg "MOST_BY" = some (.int 1000000000 tB)) :
    FnOk P w K mg base CX0 7 f fd ["table", "width", "by"] (spBy K) := by
  refine F.ok scBy (fun vs H Q E h => by obtain ⟨t, T, w, m, rfl, _⟩ := h; rfl) (fun cdv A' outer s H vs Q E hr h => ?_)
  obtain ⟨t, T, wd, m, rfl, hTb, ok, hw, hm1, hm2, q⟩ := h
  have hu := hu_of hr
  refine ⟨_, pss_cons (ps_expr (pc C hr (pa_cons (pv 0) pa_nil)))
    (pss_cons (ps_if (PW.pt (pw_or (pt_not (pt_val (pc W hr (pa_cons (pv 1) pa_nil)))) (pw_or1 (pt_cmpR op_ge (pv 1) (pe_glob (v := .int 1000000000000000000000000000000) (by rfl) gF ⟨_, rfl⟩) (nomark _))))) pss_never pss_nil)
    (pss_cons (ps_expr (pc N hr (pa_cons (pv 2) (pa_cons pe_int (pa_cons (pe_glob (v := .int 1000000000) (by rfl) gB ⟨_, rfl⟩) pa_nil)))))
    (pss_cons (ps_expr (pc Fw hr (pa_cons (pv 0) pa_nil)))
    (pss_cons (ps_set (i := 3) scBy.nd rfl (.inr rfl) (pe_callB (r := rLenS K) call_len_seq (by rfl) m3 b_len (pa_cons (pe_ix ix_tup (pv 0) pe_int (fun _ _ => rfl)) pa_nil)))
    (pss_cons (ps_setLc (i := 4) (own := [("step", 7)]) (g := gName 7) rfl scBy.nd rfl rfl (sw_true rfl rfl rfl (by decide +kernel)) (pi_list (pc D1 hr (pa_cons (pv 0) pa_nil))) (blkOk_by (by kernel_rfl))
      (fun _ _ _ _ _ => pg_name (i := 7) scBy.nd rfl (Or.inr rfl)) (fun _ _ _ _ _ => pts_nil)
      (fun _ _ _ _ _ => pe_lc (own := [("after", 6)]) (g := gName 6) rfl scBy.nd (pi_range1 (by rfl) m7 (pa_cons (pv 3) pa_nil)) (blkOk_by (by kernel_rfl)) (fun _ _ _ _ _ => pg_name (i := 6) scBy.nd rfl (Or.inl rfl)) (fun _ _ _ _ _ => pts_nil)
        (fun _ _ _ _ _ => pe_dget2 hu (pv 7) (pv 6) pe_int ⟨rfl, rfl, rfl, rfl⟩)))
    (pss_cons (ps_set (i := 5) scBy.nd rfl (.inl rfl) (pe_ix ix_list (pc D2 hr (pa_cons (pv 4) (pa_cons (pv 1) (pa_cons (pv 2) pa_nil)))) pe_int (fun _ _ => rfl)))
    (pss_one (ps_ret (pe_op op_mod (pe_callB (r := rSum K) (cr_sum rfl) (by rfl) m8 b_sum (pa_cons
      (pe_lc (own := [("ways", 8), ("end", 9)]) (g := gTup K 2 (gCons (gName 8) (gCons (gName 9) gNil))) rfl scBy.nd (pi_zs (by rfl) m9 (pa_cons (pv 5) (pa_cons (pe_ix ix_tup (pv 0) pe_int (fun _ _ => rfl)) pa_nil)) (pk_cons pe_bl pk_nil)) (blkOk_by (by kernel_rfl))
        (fun _ _ _ _ _ => pg_tup rfl (pgs_cons (pg_name (i := 8) scBy.nd rfl (.inl rfl)) (pgs_cons (pg_name (i := 9) scBy.nd rfl (.inl rfl)) pgs_nil))) (fun _ _ _ _ _ => pts_one (t := tTru K (tVar 9)) (pt_tru (pv 9))) (fun _ _ _ _ _ => pv 8)) pa_nil)) (pv 2)))))))))), ?_⟩
  obtain ⟨s', e', hT, ⟨rs, r1, r2, r3⟩, hE⟩ := id hTb
  have hf := ok.few
  refine q_drop (ev_call (ea_cons (ev_var rfl) ea_nil) (spv_check hTb ok)) fun H1 e1 => ?_
  refine q_when (b := false) (et_is (et_or (et_not (et_B (ev_call (ea_cons (ev_var rfl) ea_nil) spv_count))) fun _ => et_test (ev_op (ev_var rfl) ev_c rv_I0)) ?_) (fun z => nomatch z) fun _ H2 e2 => ?_
  · simp; omega
  refine q_drop (ev_call (ea_cons (ev_var rfl) (ea_cons ev_c (ea_cons ev_c ea_nil))) (spv_number hm1 hm2)) fun H3 e3 => ?_
  replace e3 := (e1.trans e2).trans e3
  refine q_drop (ev_call (ea_cons (ev_var rfl) ea_nil) (spv_check (hTb.ex e3) ok)) fun H4 e4 => ?_
  replace e4 := e3.trans e4
  refine q_asg (ev_is (ev_seqLen (ev_op (ev_var rfl) ev_c (rv_ixT (ex_t e4 hT) rfl)) (Or.inl (ex_l e4 r1))) (show V.int ((rs.map V.ref).length : Nat) = .int (T.n : Nat) by rw [List.length_map, r2])) fun H5 e5 => ?_
  replace e5 := e4.trans e5
  refine q_asgP (ep_lcL (K := K) (n := T.n) (G := fun xs H' => ∃ ds : List Addr, xs = ds.map V.ref ∧ ∀ j d, ds[j]? = some d → Dc H' d (T.c j)) (fun j => vi T.n (T.c j)) (ep_call (ea_cons (ev_var rfl) ea_nil) (fun H6 e6 Q q E => ⟨t, T, rfl, hTb.ex (e5.trans e6), ok, fun p H7 e7 hd => ?_⟩)) (by omega) (fun x => rfl) (fun j xs x H6 e6 hG hx => ?_)) fun v H6 e6 hv => ?_
  · obtain ⟨ds, d1, d2, d3⟩ := hd
    exact q _ H7 e7 ⟨p, _, rfl, d1, by rw [List.length_map, d2], ds, rfl, d3⟩
  · obtain ⟨ds, rfl, hG⟩ := hG
    rw [List.getElem?_map] at hx
    obtain ⟨d, hd, rfl⟩ := Option.map_eq_some_iff.mp hx
    exact el_is (el_lcR1 (n := (T.n : Int)) (fun _ => true) (fun k => .int (T.c j k)) (ea_cons (ev_var rfl) ea_nil) (by omega) (fun x => rfl) (fun k H2 e2 hk => fun H3 e3 Q q => q H3 (Ex.refl H3)) (fun k H7 e7 hk _ => ev_dget ((hG j d hd).ex e7) (ev_var rfl) (ev_var rfl))) (by rw [Int.toNat_natCast]; exact vi_given _ _)
  obtain ⟨rw', rfl, hrw⟩ := hv
  replace e6 := e5.trans e6
  refine q_asgP (P := fun v H' => ∃ u, v = .ref u ∧ SqL K H' u (vi T.n (pw T.n m wd (idF m) T.c 0))) (ep_opP (ep_call (ea_cons (ev_var rfl) (ea_cons (ev_var rfl) (ea_cons (ev_var rfl) ea_nil))) (spp_pow hrw hm1 hm2 hf (bd_c ok))) (fun _ _ => ev_c) fun v H7 e7 hv H8 e8 Q q => ?_) fun v H7 e7 hv => ?_
  · obtain ⟨p, rfl, hp⟩ := hv
    obtain ⟨xs, u, x1, x2, x3⟩ := (hp.ex e8).at_ ok.pos
    exact ⟨p, xs, 0, _, rfl, rfl, x1, atI_nat (j := 0) x2, q _ H8 (Ex.refl _) ⟨u, rfl, x3⟩⟩
  obtain ⟨u, rfl, hu'⟩ := hv
  replace e7 := e6.trans e7
  have hE7 := ex_l e7 hE
  refine s_ret (ev_op (ev_is (ev_sum (n := 0) (f := fun _ => 0) (el_ends (walk_zs (vi_len _ _) (vb_len _ _)) hu' hE7 hf (wi_zs (ea_cons (ev_var rfl) (ea_cons (ev_op (ev_var rfl) ev_c (rv_ixT (ex_t e7 hT) rfl)) ea_nil)) (ea_cons ev_c ea_nil) hu' hE7) (fun x y => rfl) (fun x y => rfl) (fun x y => rfl))) (congrArg V.int (given_tot _ _ _))) (ev_var rfl)
    (rv_I (g := fun i j => V.int (i % j)) (show 0 < m by omega))) fun H8 e8 => q H8 (e7.trans e8)
end
end K49

/-! the law's own defs, first part: draws -/
namespace K49
open PySem PySem.Spec PyProof.Rows L2 Evl
def hash1 (s i : Int) : Int := (s * 1140671 + 27644437 * i * i + 131 * i + 19) % 2147483629
def hash2 (s i : Int) : Int := (hash1 s i * hash1 s i + 62089 * i + 32416187) % 2147483587
def hash3 (s i : Int) : Int := (hash2 s i * 48271) % 2147483647
def spHash : Sp := fun vs H Q _ => ∃ s i : Int, vs = [.int s, .int i] ∧ 0 ≤ s ∧ s < 2 ^ 31 ∧ 0 ≤ i ∧ i < 2 ^ 32 ∧ RetV (.int (hash3 s i)) H Q
/-- a generator: three numbers in bounds, drawn from at most so often -/
def Gs (g : Addr) (m : Nat) (H : Hp) : Prop := ∃ a b c : Int, H g = some (.lst [.int a, .int b, .int c]) ∧ 0 ≤ b ∧ b < 2 ^ 31 ∧ 0 ≤ c ∧ c ≤ 10000 + 10 * m
def spRandom : Sp := fun vs H Q _ => ∃ (g : Addr) (u : Int) (m : Nat), vs = [.ref g, .int u] ∧ 0 < u ∧ u ≤ 10 ^ 30 ∧ m ≤ 100000 ∧ Gs g m H ∧ ∀ d H', Ex (er g H) H' → Gs g (m + 1) H' → 0 ≤ d → d < u → Q (.int d) H'
def spCell (K : PySem.W.Frag) : Sp := fun vs H Q _ => ∃ (a : Addr) (ns : List Int) (i : Nat), vs = [.ref a, .int i] ∧ SqL K H a (ns.map V.int) ∧ ns.length ≤ 63 ∧ ∀ z H', Ex H H' → Q (.int z) H'
def spGen (K : PySem.W.Frag) : Sp := fun vs H Q _ => ∃ (a : Addr) (ns : List Int) (i : Nat), vs = [.ref a, .int i] ∧ SqL K H a (ns.map V.int) ∧ ns.length ≤ 63 ∧ i ≤ 3 ∧ ∀ g H', H g = none → Ex H H' → Gs g 0 H' → Q (.ref g) H'
def spIs : Sp := fun vs H Q _ => ∃ i j : Int, vs = [.int i, .int j] ∧ RetV (.bl (decide (i = j))) H Q
def spPower : Sp := fun vs H Q _ => ∃ m : Nat, vs = [.int m] ∧ m ≤ 2000 ∧ RetV (.int (2 ^ m)) H Q
theorem Gs.ex {g : Addr} {m : Nat} {H H' : Hp} (e : Ex H H') (h : Gs g m H) : Gs g m H' := let ⟨a, b, c, h1, h2⟩ := h; ⟨a, b, c, e _ _ h1, h2⟩
section
variable {P : Program} {w : World} {K : PySem.W.Frag} {mg : Str → Option Value} {base : Heap} {f : Addr} {fd : FuncData}
theorem scHash : FnScope ["_law_seed", "_law_index", "_law_mixed"] ["_law_seed", "_law_index"] (defScope (topS 33)) := ⟨rfl, rfl, rfl, by decide +kernel, rfl, by decide +kernel, by decide +kernel⟩
theorem ok_hash (F : Fun K "_law_hash" "_law_hash" (topS 33) f fd) (m2 : mg "int" = none) : FnOk P w K mg base CX0 1 f fd ["_law_seed", "_law_index"] spHash := by
  refine F.ok scHash (fun vs H Q E h => by obtain ⟨s, i, rfl, _⟩ := h; rfl) (fun cdv A outer s0 H vs Q E hr h => ?_)
  obtain ⟨s, i, rfl, h1, h2, h3, h4, q⟩ := h
  refine ⟨_, pss_cons (ps_set (i := 2) scHash.nd rfl (.inl rfl) (pe_op op_mod (pe_callTy call_int1 (by rfl) m2 b_int (pa_cons
      (pe_op op_add (pe_op op_add (pe_op op_add (pe_op op_mul (pv 0) pe_int) (pe_op op_mul (pe_op op_mul pe_int (pv 1)) (pv 1))) (pe_op op_mul pe_int (pv 1))) pe_int) pa_nil)) pe_int))
    (pss_cons (ps_set (i := 2) scHash.nd rfl (.inl rfl) (pe_op op_mod (pe_callTy call_int1 (by rfl) m2 b_int (pa_cons
      (pe_op op_add (pe_op op_add (pe_op op_mul (pv 2) (pv 2)) (pe_op op_mul pe_int (pv 1))) pe_int) pa_nil)) pe_int))
    (pss_one (ps_ret (pe_op op_mod (pe_callTy call_int1 (by rfl) m2 b_int (pa_cons (pe_op op_mul (pv 2) pe_int) pa_nil)) pe_int)))), ?_⟩
  refine q_asg (v := .int (hash1 s i)) (ev_op (ev_int_int (ev_op (ev_op (ev_op (ev_op (ev_var rfl) ev_c (rv_I (.inr (by omega)))) (ev_op (ev_op ev_c (ev_var rfl) (rv_I (.inl (by omega)))) (ev_var rfl) (rv_I (.inr (by omega)))) rv_I0) (ev_op ev_c (ev_var rfl) (rv_I (.inl (by omega)))) rv_I0) ev_c rv_I0)) ev_c (rv_I (g := fun i j => V.int (i % j)) (by decide))) fun H1 e1 => ?_
  have b1 : 0 ≤ hash1 s i ∧ hash1 s i < 2147483629 := ⟨Int.emod_nonneg _ (by decide), Int.emod_lt_of_pos _ (by decide)⟩
  refine q_asg (v := .int (hash2 s i)) (ev_op (ev_int_int (ev_op (ev_op (ev_op (ev_var rfl) (ev_var rfl) (rv_I (.inl (by omega)))) (ev_op ev_c (ev_var rfl) (rv_I (.inl (by omega)))) rv_I0) ev_c rv_I0)) ev_c (rv_I (g := fun i j => V.int (i % j)) (by decide))) fun H2 e2 => ?_
  exact s_ret (ev_op (ev_int_int (ev_op (ev_var rfl) ev_c (rv_I (.inr (by omega))))) ev_c (rv_I (g := fun i j => V.int (i % j)) (by decide))) fun H3 e3 => q H3 ((e1.trans e2).trans e3)
theorem spv_hash {s i : Int} {H : Hp} (h1 : 0 ≤ s) (h2 : s < 2 ^ 31) (h3 : 0 ≤ i) (h4 : i < 2 ^ 32) : SpV spHash [.int s, .int i] H (.int (hash3 s i)) := fun H1 e Q q E => ⟨s, i, rfl, h1, h2, h3, h4, q⟩
theorem scRandom : FnScope ["_law_generator_here", "_law_bound", "_law_drawn", "_law_turn"] ["_law_generator_here", "_law_bound"] (defScope (topS 34)) := ⟨rfl, rfl, rfl, by decide +kernel, rfl, by decide +kernel, by decide +kernel⟩
theorem ok_random {fH : Addr} {dH : FuncData} (F : Fun K "_law_random" "_law_random" (topS 34) f fd) (D : Def P w K mg base 1 "_law_hash" fH dH ["_law_seed", "_law_index"] spHash) (m2 : mg "int" = none) (m7 : mg "range" = none) :
    FnOk P w K mg base CX0 2 f fd ["_law_generator_here", "_law_bound"] spRandom := by
  refine F.ok scRandom (fun vs H Q E h => by obtain ⟨g, u, m, rfl, _⟩ := h; rfl) (fun cdv A outer s0 H vs Q E hr h => ?_)
  obtain ⟨g, u, m, rfl, hu0, hu1, hm, ⟨a, b, c, hg, hb0, hb1, hc0, hc1⟩, q⟩ := h
  refine ⟨_, pss_cons (ps_if (pt_cmpR op_gt (pe_ix (r := rIxL K) ix_list (pv 0) pe_int (fun _ _ => rfl)) pe_int (nomark _))
      (pss_cons (ps_set (i := 2) scRandom.nd rfl (.inl rfl) (pe_op op_mod (pe_callTy call_int1 (by rfl) m2 b_int (pa_cons (pe_ix (r := rIxL K) ix_list (pv 0) pe_int (fun _ _ => rfl)) pa_nil)) (pv 1)))
      (pss_cons (ps_asg (pe_op op_fdivW (pe_ix (r := rIxL K) ix_list (pv 0) pe_int (fun _ _ => rfl)) (pv 1)) (pg_sub (pv 0) pe_int set_list))
      (pss_one (ps_ret (pv 2))))) pss_nil)
    (pss_cons (ps_set (i := 2) scRandom.nd rfl (.inl rfl) pe_int)
    (pss_cons (ps_for PassesOwn.never rfl (pi_range1 (by rfl) m7 (pa_cons (pe_op op_add pe_int (pe_op op_fdiv (pe_bits (pv 1)) pe_int)) pa_nil)) (pg_name (i := 3) scRandom.nd rfl (.inl rfl))
      (pss_cons (ps_asg (pe_op op_add (pe_ix (r := rIxL K) ix_list (pv 0) pe_int (fun _ _ => rfl)) pe_int) (pg_sub (pv 0) pe_int set_list))
      (pss_one (ps_set (i := 2) scRandom.nd rfl (.inl rfl) (pe_op op_add (pe_op op_mul (pv 2) pe_int) (pc D hr (pa_cons (pe_ix (r := rIxL K) ix_list (pv 0) pe_int (fun _ _ => rfl)) (pa_cons (pe_ix (r := rIxL K) ix_list (pv 0) pe_int (fun _ _ => rfl)) pa_nil))))))))
    (pss_one (ps_ret (pe_op op_mod (pe_callTy call_int1 (by rfl) m2 b_int (pa_cons (pv 2) pa_nil)) (pv 1)))))), ?_⟩
  have ix0 : ∀ {σ : L2.St} {H1 : Hp} {x y z : Int}, σ[0]? = some (some (.ref g)) → H1 g = some (.lst [.int x, .int y, .int z]) → Ev (tOp (rIxL K) (tVar 0) (tC (.int 0))) σ H1 (.int x) := fun h h1 => ev_op (ev_var h) ev_c (rv_ixL (sq_of h1) (atI_nat (j := 0) rfl))
  have ix1 : ∀ {σ : L2.St} {H1 : Hp} {x y z : Int}, σ[0]? = some (some (.ref g)) → H1 g = some (.lst [.int x, .int y, .int z]) → Ev (tOp (rIxL K) (tVar 0) (tC (.int 1))) σ H1 (.int y) := fun h h1 => ev_op (ev_var h) ev_c (rv_ixL (sq_of h1) (atI_nat (j := 1) rfl))
  have ix2 : ∀ {σ : L2.St} {H1 : Hp} {x y z : Int}, σ[0]? = some (some (.ref g)) → H1 g = some (.lst [.int x, .int y, .int z]) → Ev (tOp (rIxL K) (tVar 0) (tC (.int 2))) σ H1 (.int z) := fun h h1 => ev_op (ev_var h) ev_c (rv_ixL (sq_of h1) (atI_nat (j := 2) rfl))
  have un : u.natAbs < 2 ^ 100 := by
    have e : (10 : Int) ^ 30 < 2 ^ 100 := by decide
    omega
  refine q_when (b := decide (0 < a)) (et_test (ev_op (ix0 rfl hg) ev_c rv_I0)) (fun hb H1 e1 => ?_) (fun hb H1 e1 => ?_)
  · refine q_asg (ev_op (ev_int_int (ix0 rfl (e1 _ _ hg))) (ev_var rfl) (rv_I (g := fun i j => V.int (i % j)) hu0)) fun H2 e2 => ?_
    replace e2 := e1.trans e2
    refine q_setL (j := 0) (e2 _ _ hg) (ev_op (ix0 rfl (e2 _ _ hg)) (ev_var rfl) (rv_I (wide_div hu0 un (by decide) (by decide)))) (ev_var rfl) ev_c (Nat.zero_lt_succ _) fun H3 e3 => ?_
    replace e3 := e2.trans e3
    refine ⟨_, rfl, q _ _ (fun x o hx => ?_) ⟨a / u, b, c, upd_same, hb0, hb1, hc0, by omega⟩ (Int.emod_nonneg _ (by omega)) (Int.emod_lt_of_pos _ hu0)⟩
    have nx : x ≠ g := fun z => by rw [z, er_same] at hx; cases hx
    rw [upd_ne nx]
    rw [er_ne nx] at hx
    exact e3 _ _ hx
  · refine q_asg ev_c fun H2 e2 => ?_
    replace e2 := e1.trans e2
    have bl : Builtin.Int.intBits u ≤ 100 := PyProof.Rows.intBits_le un
    refine q_forR1 (n := 1 + (Builtin.Int.intBits u : Int) / 30) (ea_cons (ev_op ev_c (ev_op (fun H3 e3 Q q => ⟨_, rfl, u, rfl, q H3 (Ex.refl _)⟩) ev_c (rv_I ⟨by decide, by decide⟩)) rv_I0) ea_nil) (by omega)
      (fun i σ' H' => ∃ (d : Int) (y3 : Option V) (c' : Int), σ' = [some (.ref g), some (.int u), some (.int d), y3] ∧ Ex (er g H) H' ∧ H' g = some (.lst [.int a, .int b, .int c']) ∧ 0 ≤ c' ∧ c' ≤ c + i)
      (fun H3 e3 => ⟨0, none, c, rfl, er_ex.trans (e2.trans e3), (e2.trans e3) _ _ hg, hc0, by omega⟩) (fun i σ' H' hi hP => ?_) fun σ' H' hP => ?_
    · obtain ⟨d, y3, c', rfl, e3, hg3, c0, c1⟩ := hP
      refine q_setL (j := 2) hg3 (ev_op (ix2 rfl hg3) ev_c rv_I0) (ev_var rfl) ev_c (Nat.lt_succ_self _) fun H4 e4 => ?_
      have hg4 : upd H4 g (.lst ([V.int a, .int b, .int c'].set 2 (.int (c' + 1)))) g = some (.lst [.int a, .int b, .int (c' + 1)]) := upd_same
      have e5 : Ex (er g H) (upd H4 g (.lst ([V.int a, .int b, .int c'].set 2 (.int (c' + 1))))) := fun x o hx => by
        have nx : x ≠ g := fun z => by rw [z, er_same] at hx; cases hx
        rw [upd_ne nx]
        exact e4 _ _ (e3 _ _ hx)
      generalize upd H4 g (.lst ([V.int a, .int b, .int c'].set 2 (.int (c' + 1)))) = H5 at hg4 e5
      refine s_asg (ev_op (ev_op (ev_var rfl) ev_c (rv_I (.inr (by decide)))) (ev_call (ea_cons (ix1 rfl hg4) (ea_cons (ix2 rfl hg4) ea_nil)) (spv_hash hb0 hb1 (by omega) (by omega))) rv_I0) fun H6 e6 => ?_
      exact ⟨_, _, _, rfl, e5.trans e6, e6 _ _ hg4, by omega, by omega⟩
    · obtain ⟨d, y3, c', rfl, e3, hg3, c0, c1⟩ := hP
      exact s_ret (ev_op (ev_int_int (ev_var rfl)) (ev_var rfl) (rv_I (g := fun i j => V.int (i % j)) hu0)) fun H4 e4 => q _ _ (e3.trans e4) ⟨a, b, c', e4 _ _ hg3, hb0, hb1, c0, by omega⟩ (Int.emod_nonneg _ (by omega)) (Int.emod_lt_of_pos _ hu0)
end
end K49

/-! the law's own defs, second part: cells, generators, tables drawn -/
namespace K49
open PySem PySem.Spec PyProof.Rows L2 Evl
theorem cut_ints (ns : List Int) (lo hi : Option Int) : ∃ ms : List Int, cutV (ns.map V.int) lo hi = ms.map V.int := by
  unfold cutV
  rw [← List.map_drop, ← List.map_take]
  exact ⟨_, rfl⟩
section
variable {P : Program} {w : World} {K : PySem.W.Frag} {mg : Str → Option Value} {base : Heap} {f : Addr} {fd : FuncData}
theorem scCell : FnScope ["_law_script", "_law_index"] ["_law_script", "_law_index"] (defScope (topS 35)) := ⟨rfl, rfl, rfl, by decide +kernel, rfl, by decide +kernel, by decide +kernel⟩
theorem ok_cell (F : Fun K "_law_cell" "_law_cell" (topS 35) f fd) (m3 : mg "len" = none) (m8 : mg "sum" = none) : FnOk P w K mg base CX0 1 f fd ["_law_script", "_law_index"] (spCell K) := by
  refine F.ok scCell (fun vs H Q E h => by obtain ⟨a, ns, i, rfl, _⟩ := h; rfl) (fun cdv A outer s0 H vs Q E hr h => ?_)
  obtain ⟨a, ns, i, rfl, hS, hl, q⟩ := h
  refine ⟨_, pss_cons (ps_if (pt_cmpR op_lt (pv 1) (pe_callB (r := rLenS K) call_len_seq (by rfl) m3 b_len (pa_cons (pv 0) pa_nil)) (nomark _)) (pss_one (ps_ret (pe_ix (r := rIxL K) ix_list (pv 0) (pv 1) (fun _ _ => rfl)))) pss_nil)
    (pss_one (ps_ret (pe_op op_mod (pe_callB (r := rSum K) (cr_sum rfl) (by rfl) m8 b_sum (pa_cons (pe_slice sl_list (pv 0) po_none (po_some pe_int)) pa_nil)) pe_int))), ?_⟩
  refine q_when (b := decide ((i : Int) < (ns.map V.int).length)) (et_test (ev_op (ev_var rfl) (ev_seqLen (ev_var rfl) (Or.inl hS)) rv_I0)) (fun hb H1 e1 => ?_) (fun hb H1 e1 => ?_)
  · have hi : i < ns.length := by have := of_decide_eq_true hb; rw [List.length_map] at this; omega
    exact s_ret (ev_op (ev_var rfl) (ev_var rfl) (rv_ixL (ex_l e1 hS) (atI_nat (v := .int ns[i]) (by rw [List.getElem?_map, List.getElem?_eq_getElem hi]; rfl)))) fun H2 e2 => q _ _ (e1.trans e2)
  · obtain ⟨ms, hms⟩ := cut_ints ns none (some 1)
    exact s_ret (ev_op (ev_sum (n := 0) (f := fun _ => 0) (el_is (el_sl (ev_var rfl) eo_none (eo_some ev_c) (ex_l e1 hS)) hms)) ev_c (rv_I (g := fun i j => V.int (i % j)) (by decide))) fun H2 e2 => q _ _ (e1.trans e2)
theorem scGen : FnScope ["_law_script", "_law_index", "_law_seed"] ["_law_script", "_law_index"] (defScope (topS 36)) := ⟨rfl, rfl, rfl, by decide +kernel, rfl, by decide +kernel, by decide +kernel⟩
theorem ok_gen {fC : Addr} {dC : FuncData} (F : Fun K "_law_generator" "_law_generator" (topS 36) f fd) (C : Def P w K mg base 1 "_law_cell" fC dC ["_law_script", "_law_index"] (spCell K)) (m2 : mg "int" = none) (m10 : mg "max" = none) :
    FnOk P w K mg base CX0 2 f fd ["_law_script", "_law_index"] (spGen K) := by
  refine F.ok scGen (fun vs H Q E h => by obtain ⟨a, ns, i, rfl, _⟩ := h; rfl) (fun cdv A outer s0 H vs Q E hr h => ?_)
  obtain ⟨a, ns, i, rfl, hS, hl, hi, q⟩ := h
  refine ⟨_, pss_cons (ps_set (i := 2) scGen.nd rfl (.inl rfl) (pc C hr (pa_cons (pv 0) (pa_cons (pv 1) pa_nil))))
    (pss_one (ps_ret (pe_lst (pa_cons (pe_op op_mod (pe_callTy call_int1 (by rfl) m2 b_int (pa_cons (pe_callB (r := rMax2) (call_max2 rfl) (by rfl) m10 b_max (pa_cons (pe_op op_sub (pv 2) (pe_op op_pow pe_int pe_int)) (pa_cons pe_int pa_nil))) pa_nil)) (pe_op op_powW (pe_op op_pow pe_int pe_int) pe_int))
      (pa_cons (pe_op op_mod (pe_callTy call_int1 (by rfl) m2 b_int (pa_cons (pv 2) pa_nil)) pe_int) (pa_cons (pe_op op_mul pe_int (pv 1)) pa_nil)))))), ?_⟩
  refine q_asgP (P := fun v _ => ∃ z : Int, v = .int z) (ep_call (ea_cons (ev_var rfl) (ea_cons (ev_var rfl) ea_nil)) fun H1 e Q q E => ⟨a, ns, i, rfl, ex_l e hS, hl, fun z H2 e2 => q _ H2 e2 ⟨z, rfl⟩⟩) fun v H1 e1 hv => ?_
  obtain ⟨z, rfl⟩ := hv
  have big : CPowW ((10 : Int) ^ (60 : Int).toNat) 10 := ⟨by decide, by decide +kernel⟩
  have pos : (0 : Int) < ((10 : Int) ^ (60 : Int).toNat) ^ (10 : Int).toNat := by decide +kernel
  have pw : ∀ {σ : L2.St} {H1 : Hp} {i j : Int}, CPow i j → Ev (tOp (rI CPow fun i j => .int (i ^ j.toNat)) (tC (.int i)) (tC (.int j))) σ H1 (.int (i ^ j.toNat)) := fun c => ev_op ev_c ev_c (rv_I c)
  refine s_retL (el_lst (ea_cons (ev_op (ev_int_int (ev_max2 (ev_op (ev_var rfl) (pw ⟨by decide, by decide, by decide⟩) rv_I0) ev_c)) (ev_op (pw ⟨by decide, by decide, by decide⟩) ev_c (rv_I big)) (rv_I (g := fun i j => V.int (i % j)) pos))
    (ea_cons (ev_op (ev_int_int (ev_var rfl)) ev_c (rv_I (g := fun i j => V.int (i % j)) (by decide))) (ea_cons (ev_op ev_c (ev_var rfl) (rv_I (.inl (by decide)))) ea_nil))) (by show 3 ≤ 100000; decide)) fun g H2 ng e2 hg => ?_
  refine q g H2 (fresh_back e1 ng) (e1.trans e2) ⟨_, _, _, hg, Int.emod_nonneg _ (by decide), ?_, by omega, by omega⟩
  have := Int.emod_lt_of_pos z (show (0 : Int) < 2147483647 by decide)
  omega
theorem scIs : FnScope ["_law_told", "_law_due"] ["_law_told", "_law_due"] (defScope (topS 38)) := ⟨rfl, rfl, rfl, by decide +kernel, rfl, by decide +kernel, by decide +kernel⟩
theorem ok_is (F : Fun K "_law_is_whole" "_law_is_whole" (topS 38) f fd) (m1 : mg "isinstance" = none) (m2 : mg "int" = none) (m5 : mg "bool" = none) : FnOk P w K mg base CX0 1 f fd ["_law_told", "_law_due"] spIs := by
  refine F.ok scIs (fun vs H Q E h => by obtain ⟨i, j, rfl, _⟩ := h; rfl) (fun cdv A outer s0 H vs Q E hr h => ?_)
  obtain ⟨i, j, rfl, q⟩ := h
  refine ⟨_, pss_one (ps_ret (pe_and (pe_callB (r := rIsi K) call_isi (by rfl) m1 b_isi (pa_cons (pv 0) (pa_cons (pty "int" m2 b_int) pa_nil)))
    (pe_and (pe_not (pe_callB (r := rIsi K) call_isi (by rfl) m1 b_isi (pa_cons (pv 0) (pa_cons (pty "bool" m5 b_bool) pa_nil)))) (pe_one (pe_cmpR op_eq (pv 0) (pv 1) (nomark _)))))), ?_⟩
  refine s_ret (ev_is (ev_andV (ev_isi_int (ev_var rfl) k_ii) fun _ => ev_andV (ev_notV (ev_isi_int (ev_var rfl) k_ib)) fun _ => ev_op (ev_var rfl) (ev_var rfl) (rv_eq rfl)) ?_) q
  show V.bl (true && (!false && decide (V.int i = V.int j))) = V.bl (decide (i = j))
  by_cases h : i = j
  · subst h; simp
  · rw [decide_eq_false h, decide_eq_false (fun z => h (V.int.inj z))]; rfl
theorem spv_is {i j : Int} {H : Hp} : SpV spIs [.int i, .int j] H (.bl (decide (i = j))) := fun H1 e Q q E => ⟨i, j, rfl, q⟩
theorem scPower : FnScope ["_law_many", "_law_found", "_law_turn"] ["_law_many"] (defScope (topS 39)) := ⟨rfl, rfl, rfl, by decide +kernel, rfl, by decide +kernel, by decide +kernel⟩
theorem ok_power (F : Fun K "_law_power" "_law_power" (topS 39) f fd) (m7 : mg "range" = none) : FnOk P w K mg base CX0 1 f fd ["_law_many"] spPower := by
  refine F.ok scPower (fun vs H Q E h => by obtain ⟨m, rfl, _⟩ := h; rfl) (fun cdv A outer s0 H vs Q E hr h => ?_)
  obtain ⟨m, rfl, hm, q⟩ := h
  refine ⟨_, pss_cons (ps_set (i := 1) scPower.nd rfl (.inl rfl) pe_int)
    (pss_cons (ps_for PassesOwn.never rfl (pi_range1 (by rfl) m7 (pa_cons (pv 0) pa_nil)) (pg_name (i := 2) scPower.nd rfl (.inl rfl)) (pss_one (ps_set (i := 1) scPower.nd rfl (.inl rfl) (pe_op op_mul (pv 1) pe_int))))
    (pss_one (ps_ret (pv 1)))), ?_⟩
  refine q_asg ev_c fun H1 e1 => ?_
  refine q_forR1 (n := (m : Int)) (ea_cons (ev_var rfl) ea_nil) (by omega) (fun i σ' H' => ∃ y2, σ' = [some (.int m), some (.int (2 ^ i)), y2] ∧ Ex H H') (fun H2 e2 => ⟨none, rfl, e1.trans e2⟩) (fun i σ' H' hi hP => ?_) fun σ' H' hP => ?_
  · obtain ⟨y2, rfl, e2⟩ := hP
    refine s_asg (v := .int (2 ^ (i + 1))) (ev_is (ev_op (ev_var rfl) ev_c (rv_I (.inr (by decide)))) (by rw [Int.pow_succ])) fun H3 e3 => ⟨_, rfl, e2.trans e3⟩
  · obtain ⟨y2, rfl, e2⟩ := hP
    exact ⟨_, rfl, q H' e2⟩
theorem spv_power {m : Nat} {H : Hp} (h : m ≤ 2000) : SpV spPower [.int m] H (.int (2 ^ m)) := fun H1 e Q q E => ⟨m, rfl, h, q⟩
end
end K49

/-! the law's own defs, third part: a table drawn -/
namespace K49
open PySem PySem.Spec PyProof.Rows L2 Evl
theorem Gs.le {g : Addr} {m m' : Nat} {H : Hp} (h : Gs g m H) (e : m ≤ m') : Gs g m' H := let ⟨a, b, c, h1, h2, h3, h4, h5⟩ := h; ⟨a, b, c, h1, h2, h3, h4, by omega⟩
theorem Gs.ne {g d : Addr} {m : Nat} {H : Hp} (h : Gs g m H) (n : H d = none) : d ≠ g := fun z => by
  obtain ⟨a, b, c, h1, _⟩ := h
  rw [z, h1] at n; cases n
theorem Gs.upd {g d : Addr} {m : Nat} {H : Hp} {o : HO} (h : Gs g m H) (n : d ≠ g) : Gs g m (upd H d o) := let ⟨a, b, c, h1, h2⟩ := h; ⟨a, b, c, by rw [upd_ne (Ne.symm n)]; exact h1, h2⟩
theorem er_none {g d : Addr} {H : Hp} (n : H d = none) : er g H d = none := by
  by_cases z : d = g
  · rw [z]; exact er_same
  · rw [er_ne z]; exact n
theorem er_step {g d : Addr} {H H' : Hp} {o : HO} (e : Ex (er g H) H') (n : H d = none) : Ex (er g H) (upd H' d o) := Ex.mut e (er_none n)
/-- what is evaluated where something may change -/
def Im (te : TE) (σ : L2.St) (H : Hp) (P : V → Hp → Prop) : Prop := ∀ Q : VK, (∀ v H', P v H' → Q v H') → te σ H Q
theorem q_asgI {te : TE} {tz : TS} {D : Ends} {σ : L2.St} {H : Hp} {P : V → Hp → Prop} {i : Nat} (h : Im te σ H P) (k : ∀ v H1, P v H1 → tz D (σ.set i (some v)) H1) : tSeq (tAsg te (gName i)) tz D σ H := h _ k
section
variable {σ : L2.St} {H : Hp} {te : TE} {ta : TA} {g : Addr}
/-- [e for x in range(n)] where each e draws once -/
theorem lc_draw {α : Type} {j n m : Nat} {vs : List Nat} (mk : α → V) (C : α → Prop) (inh : α) (h : EvA ta σ H [.int (n : Int)]) (hn : n ≤ 40000) (hw : ∀ x, wipe ((wipe σ vs).set j (some x)) vs = wipe σ vs) (gs : Gs g m H)
    (he : ∀ (i : Nat) H', i < n → Ex (er g H) H' → Gs g (m + i) H' → ∀ Q : VK, (∀ x H2, Ex (er g H') H2 → Gs g (m + i + 1) H2 → C x → Q (mk x) H2) → te ((wipe σ vs).set j (some (.int (i : Int)))) H' Q)
    (Q : VK) (q : ∀ D H' (f : Nat → α), H D = none → Ex (er g H) H' → Gs g (m + n) H' → (∀ k, k < n → C (f k)) → H' D = some (.lst ((List.range n).map fun k => mk (f k))) → Q (.ref D) H') : tLc (iRng1 ta) (gName j) tYes te vs σ H Q :=
  h H (Ex.refl _) _ fun H1 e1 => ⟨n, rfl, by omega, by omega, fun D hD => by
    rw [Int.toNat_natCast]
    have nD := fresh_back e1 hD
    have nDg : D ≠ g := gs.ne nD
    refine lc_range (lo := 0) (n := n) (fun i H' => Ex (er g H) H' ∧ Gs g (m + i) H' ∧ ∃ f : Nat → α, (∀ k, k < i → C (f k)) ∧ H' D = some (.lst ((List.range i).map fun k => mk (f k))))
      ⟨er_step (er_ex.trans e1) nD, (gs.ex e1).upd nDg, fun _ => inh, fun k hk => by omega, upd_same⟩ (fun i H' hi hP => ?_) fun H' hP => ?_
    · obtain ⟨p1, p2, f, p3, p4⟩ := hP
      refine ⟨hw _, ?_⟩
      show te ((wipe σ vs).set j (some (.int ((0 : Int) + (i : Int))))) H' _
      rw [Int.zero_add]
      refine he i H' hi p1 p2 _ fun x H2 e2 g2 c => ⟨_, ?_, sz_lt (n := ((List.range i).map fun k => mk (f k)).length) (by rw [List.length_map, List.length_range]; omega), er_step (er_trans p1 e2) nD, g2.upd nDg, fun k => if k = i then x else f k, fun k hk => ?_, ?_⟩
      · exact e2 _ _ (er_at p4 nDg)
      · by_cases z : k = i
        · simp only [if_pos z]; exact c
        · simp only [if_neg z]; exact p3 k (by omega)
      · rw [upd_same, List.range_succ, List.map_append]
        congr 2
        congr 1
        · refine List.map_congr_left fun k hk => ?_
          have : k < i := List.mem_range.mp hk
          dsimp only
          rw [if_neg (by omega)]
        · show [mk x] = [mk (if i = i then x else f i)]
          rw [if_pos rfl]
    · obtain ⟨p1, p2, f, p3, p4⟩ := hP
      exact q D H' f nD p1 p2 p3 p4⟩
/-- one draw -/
theorem draw {u : Int} {m j : Nat} {tb : TE} (hs : σ[j]? = some (some (.ref g))) (hb : Ev tb σ H (.int u)) (h0 : 0 < u) (h1 : u ≤ 10 ^ 30) (hm : m ≤ 100000) (gs : Gs g m H) (Q : VK)
    (q : ∀ (d : Nat) H', Ex (er g H) H' → Gs g (m + 1) H' → (d : Int) < u → Q (.int (d : Int)) H') : tCall spRandom [] E0 (tCons (tVar j) (tCons tb tNil)) σ H Q :=
  ⟨_, hs, hb H (Ex.refl _) _ fun H1 e1 => ⟨g, u, m, rfl, h0, h1, hm, gs.ex e1, fun d H' e2 g2 d0 d1 => by
    have z : ((d.toNat : Nat) : Int) = d := Int.toNat_of_nonneg d0
    rw [← z]
    exact q d.toNat H' ((er_mono e1).trans e2) g2 (by omega)⟩⟩
end
def spDraw (K : PySem.W.Frag) : Sp := fun vs H Q _ => ∃ (g : Addr) (many most m : Nat), vs = [.ref g, .int many, .int most] ∧ many ≤ 5 ∧ 0 < most ∧ most ≤ 6 ∧ m ≤ 50000 ∧ Gs g m H ∧
  ∀ t T H', Ex (er g H) H' → Gs g (m + 1000) H' → TbAt K (er g H') t T → T.Ok → T.n ≤ 6 → T.many ≤ 5 → Q (.ref t) H'
section
variable {P : Program} {w : World} {K : PySem.W.Frag} {mg : Str → Option Value} {base : Heap} {f : Addr} {fd : FuncData}
theorem scDraw : FnScope ["_law_generator_here", "_law_many", "_law_most", "_law_size", "_law_steps", "_law_stand", "_law_letter"] ["_law_generator_here", "_law_many", "_law_most"] (defScope (topS 40)) := ⟨rfl, rfl, rfl, by decide +kernel, rfl, by decide +kernel, by decide +kernel⟩
theorem ok_draw {fR fP : Addr} {dR dP : FuncData} (F : Fun K "_law_table" "_law_table" (topS 40) f fd) (R : Def P w K mg base 2 "_law_random" fR dR ["_law_generator_here", "_law_bound"] spRandom) (Pw : Def P w K mg base 1 "_law_power" fP dP ["_law_many"] spPower)
    (m7 : mg "range" = none) : FnOk P w K mg base CX0 3 f fd ["_law_generator_here", "_law_many", "_law_most"] (spDraw K) := by
  refine F.ok scDraw (fun vs H Q E h => by obtain ⟨g, many, most, m, rfl, _⟩ := h; rfl) (fun cdv A outer s0 H vs Q E hr h => ?_)
  obtain ⟨g, many, most, m, rfl, hmany, ht0, ht1, hm, gs, q⟩ := h
  refine ⟨_, pss_cons (ps_set (i := 3) scDraw.nd rfl (.inr rfl) (pe_op op_add pe_int (pc R hr (pa_cons (pv 0) (pa_cons (pv 2) pa_nil)))))
    (pss_cons (ps_set (i := 4) scDraw.nd rfl (.inl rfl) (pe_lst pa_nil))
    (pss_cons (ps_for PassesOwn.never rfl (pi_range1 (by rfl) m7 (pa_cons (pv 3) pa_nil)) (pg_name (i := 5) scDraw.nd rfl (.inl rfl))
      (pss_one (ps_expr (pe_bm PySem.F.plainAttrs_list PySem.F.slot_list_append PySem.F.type_list_append mt_append (pv 4) (pa_cons
        (pe_lc (own := [("_law_letter", 6)]) (g := gName 6) rfl scDraw.nd (pi_range1 (by rfl) m7 (pa_cons (pc Pw hr (pa_cons (pv 1) pa_nil)) pa_nil)) (blkOk_by (by kernel_rfl)) (fun _ _ _ _ _ => pg_name (i := 6) scDraw.nd rfl (Or.inl rfl)) (fun _ _ _ _ _ => pts_nil)
          (fun _ _ _ _ _ => pc R hr (pa_cons (pv 0) (pa_cons (pv 3) pa_nil)))) pa_nil)))))
    (pss_one (ps_ret (pe_tup (pa_cons (pv 1) (pa_cons (pv 4) (pa_cons
      (pe_lc (own := [("_law_stand", 5)]) (g := gName 5) rfl scDraw.nd (pi_range1 (by rfl) m7 (pa_cons (pv 3) pa_nil)) (blkOk_by (by kernel_rfl)) (fun _ _ _ _ _ => pg_name (i := 5) scDraw.nd rfl (Or.inl rfl)) (fun _ _ _ _ _ => pts_nil)
        (fun _ _ _ _ _ => pe_cmpR op_eq (pc R hr (pa_cons (pv 0) (pa_cons pe_int pa_nil))) pe_int (nomark _))) pa_nil)))))))), ?_⟩
  -- size
  refine q_asgI (P := fun v H1 => ∃ n : Nat, v = .int n ∧ 0 < n ∧ n ≤ 6 ∧ Ex (er g H) H1 ∧ Gs g (m + 1) H1) (fun Q' k => draw (j := 0) rfl (ev_var rfl) (u := (most : Int)) (by omega) (by omega) (by omega) gs _ fun d H1 e1 g1 hd => ⟨_, _, rfl, rfl, k _ _ ⟨d + 1, ?_, by omega, by omega, e1, g1⟩⟩) fun v H1 hv => ?_
  · show V.int ((1 : Int) + (d : Int)) = .int ((d + 1 : Nat) : Int)
    congr 1
    omega
  obtain ⟨n, rfl, n0, n6, e1, g1⟩ := hv
  have hL : 2 ^ many ≤ 32 := Nat.le_trans (Nat.pow_le_pow_right (by decide) hmany) (by decide)
  generalize eL : 2 ^ many = L at hL
  refine q_asgL (el_lst ea_nil (by decide)) fun st H2 nst e2 hst => ?_
  have g2 := g1.ex e2
  have stg : st ≠ g := g1.ne nst
  refine q_forR1 (n := (n : Int)) (ea_cons (ev_var rfl) ea_nil) (by omega) (fun i σ' H' => ∃ y5, σ' = [some (.ref g), some (.int many), some (.int most), some (.int n), some (.ref st), y5, none] ∧ Ex (er g H1) H' ∧ Gs g (m + 1 + i * L) H' ∧
      ∃ (rs : List Addr) (fs : Nat → Nat → Nat), H' st = some (.lst (rs.map V.ref)) ∧ rs.length = i ∧ ∀ j r, rs[j]? = some r → r ≠ st ∧ r ≠ g ∧ H' r = some (.lst (vi L fun l => (fs j l : Int))) ∧ ∀ l, l < L → fs j l < n)
    (fun H3 e3 => ⟨none, rfl, er_ex.trans (e2.trans e3), (g2.ex e3).le (by omega), [], fun _ _ => 0, e3 _ _ hst, rfl, fun j r hj => by simp at hj⟩) (fun i σ' H' hi hP => ?_) fun σ' H' hP => ?_
  · obtain ⟨y5, rfl, e3, g3, rs, fs, r1, r2, r3⟩ := hP
    have hiL : i * L ≤ 6 * 32 := Nat.mul_le_mul (by omega) hL
    refine ⟨_, rfl, Or.inl ⟨rfl, _, sq_of r1⟩, ?_⟩
    refine lc_draw (g := g) (n := L) (m := m + 1 + i * L) (fun d : Nat => V.int (d : Int)) (fun d => d < n) 0 (ea_cons (ev_is (ev_call (ea_cons (ev_var rfl) ea_nil) (spv_power (m := many) (by omega))) (by rw [← eL, Int.natCast_pow]; rfl)) ea_nil) (by omega) (fun x => rfl) g3
      (fun k H4 hk e4 g4 Q q => draw (j := 0) rfl (ev_var rfl) (u := (n : Int)) (by omega) (by omega) (by omega) g4 _ fun d H5 e5 g5 hd => q d H5 e5 g5 (by omega)) _ fun D H4 ff nD e4 g4 hff hD => ?_
    have nDs : D ≠ st := fun z => by rw [z, r1] at nD; cases nD
    have nDg : D ≠ g := g3.ne nD
    refine ⟨st, rs.map V.ref, .ref D, rfl, rfl, e4 _ _ (er_at r1 stg), sz_lt (by rw [List.length_map]; omega), ?_⟩
    refine ⟨_, rfl, er_step (er_trans e3 e4) nst, (g4.le (by rw [Nat.succ_mul]; omega)).upd stg, rs ++ [D], fun j => if j = i then ff else fs j, by rw [upd_same, List.map_append]; rfl, by rw [List.length_append, r2]; rfl, fun j r hj => ?_⟩
    by_cases hlt : j < rs.length
    · rw [List.getElem?_append_left hlt] at hj
      obtain ⟨a1, a2, a3, a4⟩ := r3 j r hj
      simp only [if_neg (show ¬ j = i by omega)]
      exact ⟨a1, a2, by rw [upd_ne a1]; exact e4 _ _ (er_at a3 a2), a4⟩
    · rw [List.getElem?_append_right (by omega)] at hj
      have ej : j - rs.length = 0 := by
        cases h0 : j - rs.length with
        | zero => rfl
        | succ m => rw [h0] at hj; simp at hj
      rw [ej] at hj
      obtain rfl : D = r := Option.some.inj hj
      obtain rfl : j = i := by omega
      simp only [if_pos rfl]
      exact ⟨nDs, nDg, by rw [upd_ne nDs]; exact hD, hff⟩
  · obtain ⟨y5, rfl, e3, g3, rs, fs, r1, r2, r3⟩ := hP
    rw [Int.toNat_natCast] at g3 r2
    have hiL : n * L ≤ 6 * 32 := Nat.mul_le_mul n6 hL
    refine ⟨_, rfl, _, rfl, ?_⟩
    refine lc_draw (te := tOp rEq (tCall spRandom [] E0 (tCons (tVar 0) (tCons (tC (.int 2)) tNil))) (tC (.int 0))) (g := g) (n := n) (m := m + 1 + n * L) (fun b : Bool => V.bl b) (fun _ => True) false (ea_cons (ev_var rfl) ea_nil) (by omega) (fun x => rfl) g3
      (fun k H4 hk e4 g4 Q q => draw (j := 0) (g := g) rfl ev_c (u := 2) (by decide) (by decide) (by omega) g4 (fun x H1 => rEq x (.int 0) H1 Q) fun d H5 e5 g5 hd => ⟨rfl, q _ H5 e5 g5 trivial⟩) _ fun D H4 en nD e4 g4 _ hD => ?_
    have nDg : D ≠ g := g3.ne nD
    refine ⟨by show 3 ≤ sizeLine; decide, fun u nu => ?_⟩
    have nug : u ≠ g := g4.ne nu
    have up : ∀ {a : Addr} {o : HO}, H' a = some o → a ≠ g → er g (upd H4 u (.tup [.int many, .ref st, .ref D])) a = some o := fun {a o} ha na => by
      have := e4 _ _ (er_at ha na)
      exact er_at (by rw [upd_ne (ne_of_none this nu)]; exact this) na
    refine q u ⟨many, n, fs, en⟩ _ ?_ ((g4.le (by omega)).upd nug) ⟨st, D, st_of (er_at upd_same nug), ⟨rs, sq_of (up r1 stg), r2, fun j r hj => ?_⟩, sq_of (er_at (by rw [upd_ne (ne_of_none hD nu)]; exact hD) nDg)⟩ ⟨by show many ≤ 6; omega, n0, by show n ≤ 30; omega, fun j l hj hl => ?_⟩ n6 hmany
    · refine fun a o ha => ?_
      have na : a ≠ g := fun z => by rw [z, er_same] at ha; cases ha
      have h1 := e1 a o ha
      have h3 := e3 a o (er_at h1 na)
      have h4 := e4 _ _ (er_at h3 na)
      rw [upd_ne (ne_of_none h4 nu)]
      exact h4
    · obtain ⟨a1, a2, a3, a4⟩ := r3 j r hj
      have e : vi (2 ^ many) (fun l => (fs j l : Int)) = vi L (fun l => (fs j l : Int)) := by rw [eL]
      show SqL K _ r (vi (2 ^ many) fun l => (fs j l : Int))
      rw [e]
      exact sq_of (up a3 a2)
    · have hj' : j < rs.length := by rw [r2]; exact hj
      exact (r3 j rs[j] (List.getElem?_eq_getElem hj')).2.2.2 l (by rw [← eL]; exact hl)
end
end K49

/-! the law's own defs, fourth part: its own counts and products -/
namespace K49
open PySem PySem.Spec PyProof.Rows L2 Evl
section
variable {P : Program} {w : World} {K : PySem.W.Frag} {mg : Str → Option Value} {base : Heap} {f : Addr} {fd : FuncData}
theorem scNums : FnScope ["_law_table_here", "_law_many", "_law_ways", "_law_found", "_law_turn", "_law_after", "_law_stand", "_law_goal", "_law_way", "_law_end"] ["_law_table_here", "_law_many"] (defScope (topS 41)) := ⟨rfl, rfl, rfl, by decide +kernel, rfl, by decide +kernel, by decide +kernel⟩
theorem ok_nums (F : Fun K "_law_numbers" "_law_numbers" (topS 41) f fd) (m3 : mg "len" = none) (m7 : mg "range" = none) (m8 : mg "sum" = none) (m9 : mg "zip" = none) : FnOk P w K mg base CX0 1 f fd ["_law_table_here", "_law_many"] (spNumbers K) := by
  refine F.ok scNums (fun vs H Q E h => by obtain ⟨t, T, m, rfl, _⟩ := h; rfl) (fun cdv A outer s H vs Q E hr h => ?_)
  obtain ⟨t, T, m, rfl, hTb, ok, hm, q⟩ := h
  refine ⟨_, pss_cons (ps_par (i := 2) (j := 3) rfl scNums.nd rfl rfl (by decide) rfl rfl
      (pa_cons (pe_op op_cat (pe_lst (pa_cons pe_int pa_nil)) (pe_op op_rep (pe_lst (pa_cons pe_int pa_nil)) (pe_op op_sub (pe_callB (r := rLenS K) call_len_seq (by rfl) m3 b_len (pa_cons (pe_ix ix_tup (pv 0) pe_int (fun _ _ => rfl)) pa_nil)) pe_int))) (pa_cons (pe_lst pa_nil) pa_nil)) (by rfl))
    (pss_cons (ps_for PassesOwn.never rfl (pi_range1 (by rfl) m7 (pa_cons (pv 1) pa_nil)) (pg_name (i := 4) scNums.nd rfl (.inl rfl))
      (pss_cons (ps_expr (pe_bm PySem.F.plainAttrs_list PySem.F.slot_list_append PySem.F.type_list_append mt_append (pv 3) (pa_cons (pe_callB (r := rSum K) (cr_sum rfl) (by rfl) m8 b_sum
          (pa_cons (pe_lc (own := [("_law_way", 8), ("_law_end", 9)]) (g := gTup K 2 (gCons (gName 8) (gCons (gName 9) gNil))) rfl scNums.nd (pi_zip (by rfl) m9 (pa_cons (pv 2) (pa_cons (pe_ix ix_tup (pv 0) pe_int (fun _ _ => rfl)) pa_nil))) (blkOk_by (by kernel_rfl))
            (fun _ _ _ _ _ => pg_tup rfl (pgs_cons (pg_name (i := 8) scNums.nd rfl (.inl rfl)) (pgs_cons (pg_name (i := 9) scNums.nd rfl (.inl rfl)) pgs_nil))) (fun _ _ _ _ _ => pts_one (t := tTru K (tVar 9)) (pt_tru (pv 9))) (fun _ _ _ _ _ => pv 8)) pa_nil)) pa_nil)))
      (pss_cons (ps_set (i := 5) scNums.nd rfl (.inl rfl) (pe_op op_rep (pe_lst (pa_cons pe_int pa_nil)) (pe_callB (r := rLenS K) call_len_seq (by rfl) m3 b_len (pa_cons (pv 2) pa_nil))))
      (pss_cons (ps_for PassesOwn.never rfl (pi_range1 (by rfl) m7 (pa_cons (pe_callB (r := rLenS K) call_len_seq (by rfl) m3 b_len (pa_cons (pv 2) pa_nil)) pa_nil)) (pg_name (i := 6) scNums.nd rfl (.inl rfl))
        (pss_one (ps_for PassesOwn.never rfl (pi_list (pe_ix ix_list (pe_ix ix_tup (pv 0) pe_int (fun _ _ => rfl)) (pv 6) (fun _ _ => rfl))) (pg_name (i := 7) scNums.nd rfl (.inl rfl))
          (pss_one (ps_asg (pe_op op_add (pe_ix ix_list (pv 5) (pv 7) (fun _ _ => rfl)) (pe_ix ix_list (pv 2) (pv 6) (fun _ _ => rfl))) (pg_sub (pv 5) (pv 7) set_list))))))
      (pss_one (ps_set (i := 2) scNums.nd rfl (.inl rfl) (pv 5)))))))
    (pss_one (ps_ret (pv 3)))), ?_⟩
  obtain ⟨s', e', hT, ⟨rs, r1, r2, r3⟩, hE⟩ := id hTb
  have hf := ok.few
  have hp := ok.pos
  have hL := ok.L
  -- ways, found
  refine el_is (el_cat (el_lst (ea_cons ev_c ea_nil) (Nat.le_of_ble_eq_true rfl)) (el_rep (x := .int 0) (n := T.n - 1) (el_lst (ea_cons ev_c ea_nil) (Nat.le_of_ble_eq_true rfl)) (ev_is (ev_op (ev_seqLen (ev_op (ev_var rfl) ev_c (rv_ixT hT rfl)) (Or.inl hE)) ev_c rv_I0) ?_) (by omega)) (by simp; omega)) (one_vi hp) H (Ex.refl _) _ fun wa H2 nw e2 hw => ?_
  · rw [vb_len]
    congr 1
    omega
  refine el_lst ea_nil (by decide) H2 (Ex.refl _) _ fun g H3 ng e3 hg => ⟨_, _, rfl, ?_⟩
  refine q_forR1 (n := (m : Int)) (ea_cons (ev_var rfl) ea_nil) (by omega) (fun i σ' H' => ∃ wa y4 y5 y6 y7, σ' = [some (.ref t), some (.int m), some (.ref wa), some (.ref g), y4, y5, y6, y7, none, none] ∧ Ex H2 H' ∧ SqL K (er g H') wa (vi T.n (T.ways i)) ∧ H' g = some (.lst (vi i T.num)))
    (fun H4 e4 => ⟨wa, none, none, none, none, rfl, e3.trans e4, ex_l (er_in ng (e3.trans e4)) (sq_of hw), e4 _ _ hg⟩) (fun i σ' H' hi hP => ?_) fun σ' H' hP => ?_
  · obtain ⟨wa, y4, y5, y6, y7, rfl, e4, hw4, hg4⟩ := hP
    have hT4 := ex_t (e2.trans e4) hT
    have hE4 := ex_l (e2.trans e4) hE
    have hw4' := ex_l er_ex hw4
    refine q_app (xs := vi i T.num) hg4 (ev_var rfl) (ev_is (ev_sum (n := 0) (f := fun _ => 0) (el_ends (walk_zip (by rw [vi_len, vb_len]; exact (Nat.min_self _).symm)) hw4' hE4 hf (wi_zip (ea_cons (ev_var rfl) (ea_cons (ev_op (ev_var rfl) ev_c (rv_ixT hT4 rfl)) ea_nil)) hw4' hE4) (fun x y => rfl) (fun x y => rfl) (fun x y => rfl)))
      (congrArg V.int (given_tot _ _ _))) (by rw [vi_len]; omega) fun H5 e5 => ?_
    have e6 : Ex H2 (upd H5 g (.lst (vi i T.num ++ [.int (tot T.n T.en (T.ways i))]))) := Ex.mut (e4.trans e5) ng
    have hw6 : SqL K (er g (upd H5 g (.lst (vi i T.num ++ [.int (tot T.n T.en (T.ways i))])))) wa (vi T.n (T.ways i)) := by rw [er_upd]; exact ex_l (er_mono e5) hw4
    have hg6 : upd H5 g (.lst (vi i T.num ++ [.int (tot T.n T.en (T.ways i))])) g = some (.lst (vi (i + 1) T.num)) := by rw [upd_same, ← vi_snoc]; rfl
    generalize upd H5 g (.lst (vi i T.num ++ [.int (tot T.n T.en (T.ways i))])) = H6 at e6 hw6 hg6
    have hw7 := ex_l er_ex hw6
    -- after = [0] * len(ways)
    refine q_asgL (el_is (el_rep (x := .int 0) (n := T.n) (el_lst (ea_cons ev_c ea_nil) (Nat.le_of_ble_eq_true rfl)) (ev_is (ev_seqLen (ev_var rfl) (Or.inl hw7)) (by rw [vi_len])) (by omega)) (rep_vi _)) fun af H7 na e7 ha => ?_
    refine q_forR1 (n := (T.n : Int)) (ea_cons (ev_is (ev_seqLen (ev_var rfl) (Or.inl (ex_l e7 hw7))) (by rw [vi_len])) ea_nil) (by omega) (fun s σ' H' => ∃ y6 y7, σ' = [some (.ref t), some (.int m), some (.ref wa), some (.ref g), some (.int (i : Nat)), some (.ref af), y6, y7, none, none] ∧ Ex H6 H' ∧
        H' af = some (.lst (vi T.n fun k => S s fun j => T.ways i j * T.c j k)))
      (fun H8 e8 => ⟨_, _, rfl, e7.trans e8, e8 _ _ ha⟩) (fun s σ' H' hs hP => ?_) fun σ' H' hP => ?_
    · obtain ⟨y6, y7, rfl, e8, ha8⟩ := hP
      have hs' : s < T.n := by omega
      obtain ⟨r, hr'⟩ : ∃ r, rs[s]? = some r := ⟨_, List.getElem?_eq_getElem (by omega)⟩
      have e68 := (e2.trans e6).trans e8
      refine s_forLn (ev_op (ev_op (ev_var rfl) ev_c (rv_ixT (ex_t e68 hT) rfl)) (ev_var rfl) (rv_ixL (ex_l e68 r1) (atI_nat (v := V.ref r) (by rw [List.getElem?_map, hr']; rfl)))) (ex_l e68 (r3 s r hr'))
        (fun l σ' H' => ∃ y7, σ' = [some (.ref t), some (.int m), some (.ref wa), some (.ref g), some (.int (i : Nat)), some (.ref af), some (.int (s : Nat)), y7, none, none] ∧ Ex H6 H' ∧
          H' af = some (.lst (vi T.n fun k => (S s fun j => T.ways i j * T.c j k) + T.ways i s * S l (fun x => if T.st s x = k then 1 else 0))))
        (fun H9 e9 => ⟨_, rfl, e8.trans e9, by rw [e9 _ _ ha8]; congr 2; exact vi_congr fun k _ => by show _ = _ + T.ways i s * 0; rw [Int.mul_zero, Int.add_zero]⟩) (fun l σ' H' _ hP => let ⟨_, _, e, _⟩ := hP; ex_l ((e2.trans e6).trans e) (r3 s r hr')) (fun l x σ' H' hx hP => ?_) fun σ' H' hP => ?_
      · obtain ⟨y7, rfl, e9, ha9⟩ := hP
        obtain ⟨hl, rfl⟩ := vi_get hx
        have hk := ok.st s l hs' hl
        refine s_setL (j := T.st s l) ha9 (ev_op (ev_op (ev_var rfl) (ev_var rfl) (rv_ixL (sq_of ha9) (atI_nat (vi_at hk)))) (ev_op (ev_var rfl) (ev_var rfl) (rv_ixL (ex_l e9 hw7) (atI_nat (vi_at hs')))) rv_I0) (ev_var rfl) (ev_var rfl) (by rw [vi_len]; exact hk) fun H10 e10 => ?_
        refine ⟨_, rfl, Ex.mut (e9.trans e10) na, ?_⟩
        rw [upd_same, vi_set hk]
        congr 2
        refine vi_congr fun k _ => ?_
        show _ = (S s fun j => T.ways i j * T.c j k) + T.ways i s * (S l (fun x => if T.st s x = k then 1 else 0) + (if T.st s l = k then 1 else 0))
        by_cases z : k = T.st s l
        · subst z
          rw [if_pos rfl, if_pos rfl, Int.mul_add, Int.mul_one, Int.add_assoc]
        · rw [if_neg z, if_neg (Ne.symm z), Int.add_zero]
      · obtain ⟨y7, rfl, e9, ha9⟩ := hP
        rw [vi_len] at ha9
        exact ⟨_, _, rfl, e9, ha9⟩
    · obtain ⟨y6, y7, rfl, e8, ha8⟩ := hP
      rw [Int.toNat_natCast] at ha8
      refine s_asg (ev_var rfl) fun H9 e9 => ⟨af, _, _, _, _, rfl, (e6.trans e8).trans e9, sq_of (er_at (e9 _ _ ha8) fun z => by rw [z, hg6] at na; cases na), e9 _ _ (e8 _ _ hg6)⟩
  · obtain ⟨wa, y4, y5, y6, y7, rfl, e4, hw4, hg4⟩ := hP
    exact ⟨_, rfl, q g H' (fresh_back e2 ng) (e2.trans e4) hg4⟩
/-! ### _law_times -/
theorem scTimes : FnScope ["_law_one", "_law_other", "_law_by", "_law_found", "_law_row", "_law_made", "_law_place", "_law_item", "_law_line"] ["_law_one", "_law_other", "_law_by"] (defScope (topS 42)) := ⟨rfl, rfl, rfl, by decide +kernel, rfl, by decide +kernel, by decide +kernel⟩
theorem cm_push {B H : Hp} {rows : Nat → List V} {g q : Addr} {i : Nat} (p : Cm B rows g i H) (hq : H q = some (.lst (rows i))) (nq : q ≠ g) : ∃ rs : List Addr, H g = some (.lst (rs.map V.ref)) ∧ rs.length = i ∧ Cm B rows g (i + 1) (upd H g (.lst (rs.map V.ref ++ [.ref q]))) := by
  obtain ⟨p1, p2, rs, p3, p4, p5⟩ := p
  refine ⟨rs, p3, p4, p1, Ex.mut p2 p1, rs ++ [q], by rw [upd_same, List.map_append]; rfl, by rw [List.length_append, p4]; rfl, fun j r hj => ?_⟩
  by_cases hlt : j < rs.length
  · rw [List.getElem?_append_left hlt] at hj
    obtain ⟨a, b⟩ := p5 j r hj
    exact ⟨a, by rw [upd_ne a]; exact b⟩
  · rw [List.getElem?_append_right (by omega)] at hj
    have ej : j - rs.length = 0 := by
      cases h0 : j - rs.length with
      | zero => rfl
      | succ m => rw [h0] at hj; simp at hj
    rw [ej] at hj
    obtain rfl : q = r := Option.some.inj hj
    obtain rfl : j = i := by omega
    exact ⟨nq, by rw [upd_ne nq]; exact hq⟩
theorem Cm.ex {B H H' : Hp} {rows : Nat → List V} {g : Addr} {i : Nat} (e : Ex H H') (p : Cm B rows g i H) : Cm B rows g i H' := let ⟨p1, p2, rs, p3, p4, p5⟩ := p; ⟨p1, p2.trans e, rs, e _ _ p3, p4, fun j r hj => let ⟨a, b⟩ := p5 j r hj; ⟨a, e _ _ b⟩⟩
theorem ok_times (F : Fun K "_law_times" "_law_times" (topS 42) f fd) (m2 : mg "int" = none) (m3 : mg "len" = none) (m7 : mg "range" = none) (m8 : mg "sum" = none) (m9 : mg "zip" = none) : FnOk P w K mg base CX0 1 f fd ["_law_one", "_law_other", "_law_by"] (spMul K) := by
  refine F.ok scTimes (fun vs H Q E h => by obtain ⟨a, b, m, r, n, A, R, rfl, _⟩ := h; rfl) (fun cdv A' outer s H vs Q E hr h => ?_)
  obtain ⟨a, b, m, r, n, A, R, rfl, ha, hb, hm, hn, hr', bA, q⟩ := h
  refine ⟨_, pss_cons (ps_set (i := 3) scTimes.nd rfl (.inl rfl) (pe_lst pa_nil))
    (pss_cons (ps_for PassesOwn.never rfl (pi_list (pv 0)) (pg_name (i := 4) scTimes.nd rfl (.inl rfl))
      (pss_cons (ps_set (i := 5) scTimes.nd rfl (.inl rfl) (pe_lst pa_nil))
      (pss_cons (ps_for PassesOwn.never rfl (pi_range1 (by rfl) m7 (pa_cons (pe_callB (r := rLenS K) call_len_seq (by rfl) m3 b_len (pa_cons (pv 1) pa_nil)) pa_nil)) (pg_name (i := 6) scTimes.nd rfl (.inr rfl))
        (pss_one (ps_expr (pe_bm PySem.F.plainAttrs_list PySem.F.slot_list_append PySem.F.type_list_append mt_append (pv 5) (pa_cons (pe_op op_mod (pe_callTy call_int1 (by rfl) m2 b_int (pa_cons (pe_callB (r := rSum K) (cr_sum rfl) (by rfl) m8 b_sum (pa_cons
          (pe_lc (own := [("_law_item", 7), ("_law_line", 8)]) (g := gTup K 2 (gCons (gName 7) (gCons (gName 8) gNil))) rfl scTimes.nd (pi_zip (by rfl) m9 (pa_cons (pv 4) (pa_cons (pv 1) pa_nil))) (blkOk_by (by kernel_rfl))
            (fun _ _ _ _ _ => pg_tup rfl (pgs_cons (pg_name (i := 7) scTimes.nd rfl (.inl rfl)) (pgs_cons (pg_name (i := 8) scTimes.nd rfl (.inl rfl)) pgs_nil))) (fun _ _ _ _ _ => pts_nil)
            (fun _ _ _ _ _ => pe_op op_mul (pv 7) (pe_ix (r := rIxL K) ix_list (pv 8) (pv 6) (fun _ _ => rfl)))) pa_nil)) pa_nil)) (pv 2)) pa_nil)))))
      (pss_one (ps_expr (pe_bm PySem.F.plainAttrs_list PySem.F.slot_list_append PySem.F.type_list_append mt_append (pv 3) (pa_cons (pv 5) pa_nil)))))))
    (pss_one (ps_ret (pv 3)))), ?_⟩
  obtain ⟨rs, b1, b2, b3⟩ := hb
  obtain ⟨qs, a1, a2, a3⟩ := ha
  refine q_asgL (el_lst ea_nil (by decide)) fun g H2 ng e2 hg => ?_
  refine q_forLn (ev_var rfl) (ex_l e2 a1) (fun i σ' H' => ∃ y4 y5 y6, σ' = [some (.ref a), some (.ref b), some (.int m), some (.ref g), y4, y5, y6, none, none] ∧ Cm H (fun i => vi n (mulF n m A R i)) g i H')
    (fun H3 e3 => ⟨none, none, none, rfl, ng, e2.trans e3, [], e3 _ _ hg, rfl, fun j r hj => by simp at hj⟩) (fun i σ' H' _ hP => let ⟨_, _, _, _, p⟩ := hP; ex_l p.2.1 a1) (fun i x σ' H' hx hP => ?_) fun σ' H' hP => ?_
  · obtain ⟨y4, y5, y6, rfl, cm⟩ := hP
    rw [List.getElem?_map] at hx
    obtain ⟨u, hu, rfl⟩ := Option.map_eq_some_iff.mp hx
    have hi : i < r := by have := (List.getElem?_eq_some_iff.mp hu).1; omega
    refine q_asgL (el_lst ea_nil (by decide)) fun md H3 nm e3 hmd => ?_
    have cm3 := cm.ex e3
    have nmg : md ≠ g := fun z => by
      obtain ⟨_, _, rs', p3, _⟩ := cm
      rw [z, p3] at nm; cases nm
    refine q_forR1 (n := (n : Int)) (ea_cons (ev_is (ev_seqLen (ev_var rfl) (Or.inl (ex_l cm3.2.1 b1))) (by rw [List.length_map, b2])) ea_nil) (by omega) (fun k σ' H4 => ∃ y6, σ' = [some (.ref a), some (.ref b), some (.int m), some (.ref g), some (.ref u), some (.ref md), y6, none, none] ∧ Ex H' H4 ∧ H4 md = some (.lst (vi k (mulF n m A R i))))
      (fun H4 e4 => ⟨_, rfl, e3.trans e4, e4 _ _ hmd⟩) (fun k σ' H4 hk hP => ?_) fun σ' H4 hP => ?_
    · obtain ⟨y6, rfl, e4, h4⟩ := hP
      have eH := cm.2.1.trans e4
      have row := ex_l eH (a3 i u hu)
      have oth := ex_l eH b1
      refine s_app (xs := vi k (mulF n m A R i)) h4 (ev_var rfl) (v := .int (mulF n m A R i k)) (ev_op (ev_int_int (ev_sum (n := 0) (f := fun _ => 0) (xs := (List.range n).map fun j => A i j * R j k) (el_is (el_lcZ (walk_zip (n := n) (by rw [vi_len, List.length_map, b2]; exact (Nat.min_self _).symm)) (fun _ => true) (fun j => .int (A i j * R j k)) row oth (by omega) (wi_zip (ea_cons (ev_var rfl) (ea_cons (ev_var rfl) ea_nil)) row oth) (fun x y => rfl)
        (fun j x y H5 e5 h1 h2 => fun H3 e3 Q q => q H3 (Ex.refl H3)) (fun j x y H5 e5 h1 h2 _ => ?_)) (by rw [vi_given]; exact vi_ints _ _)))) (ev_var rfl) ?_) (by rw [vi_len]; omega) fun H5 e5 => ?_
      · obtain ⟨hj, rfl⟩ := vi_get h1
        rw [List.getElem?_map] at h2
        obtain ⟨z, hz, rfl⟩ := Option.map_eq_some_iff.mp h2
        have bb := bA i j
        exact ev_op (ev_var rfl) (ev_op (ev_var rfl) (ev_var rfl) (rv_ixL (ex_l (eH.trans e5) (b3 j z hz)) (atI_nat (vi_at (by omega))))) (rv_I (.inl (by omega)))
      · rw [S_sum]
        exact rv_I (g := fun i j => V.int (i % j)) hm
      · exact ⟨_, rfl, Ex.mut (e4.trans e5) nm, by rw [upd_same, vi_snoc]⟩
    · obtain ⟨y6, rfl, e4, h4⟩ := hP
      rw [Int.toNat_natCast] at h4
      obtain ⟨ss, s1, s2, s3⟩ := cm_push (cm.ex e4) h4 nmg
      exact ⟨_, rfl, Or.inl ⟨rfl, _, sq_of s1⟩, _, rfl, g, _, _, rfl, rfl, s1, sz_lt (by rw [List.length_map]; omega), _, _, _, rfl, s3⟩
  · obtain ⟨y4, y5, y6, rfl, cm⟩ := hP
    rw [List.length_map, a2] at cm
    exact ⟨_, rfl, q g H' cm.2.1 cm.mx⟩
end
end K49

/-! the law's own defs, fifth part: its own number at far widths -/
namespace K49
open PySem PySem.Spec PyProof.Rows L2 Evl
section
variable {K : PySem.W.Frag} {σ : L2.St} {H : Hp} {D : Ends} {tu tz : TS}
theorem q_forR1b {ta : TA} {j : Nat} {n : Int} (h : EvA ta σ H [.int n]) (hn : 0 ≤ n ∧ n ≤ 100000) (Pv : Nat → L2.St → Hp → Prop) (Fin : L2.St → Hp → Prop) (h0 : ∀ H1, Ex H H1 → Pv 0 σ H1)
    (hs : ∀ (i : Nat) σ' H' (B : L2.St → Hp → Prop), (∀ σ2 H2, Fin σ2 H2 → B σ2 H2) → (i : Int) < n → Pv i σ' H' → tu { D with nx := Pv (i + 1), ct := Pv (i + 1), bk := B } (σ'.set j (some (.int (i : Int)))) H') (hd : ∀ σ' H', Pv n.toNat σ' H' → Fin σ' H')
    (fin : ∀ σ' H', Fin σ' H' → tz D σ' H') : tSeq (tFor (iRng1 ta) (gName j) tu) tz D σ H :=
  q_forR1 h hn Pv h0 (fun i σ' H' hi hP => hs i σ' H' (tz D) fin hi hP) fun σ' H' hP => fin σ' H' (hd σ' H' hP)
theorem q_par1 {te tb : TE} {xs : List V} {v : V} {i j : Nat} (h : EvL te σ H xs) (hb : ∀ H1, Ex H H1 → Ev tb σ H1 v)
    (k : ∀ p l H', Ex H H' → SqL K H' p [.ref l] → SqL K H' l xs → tz D ((σ.set i (some (.ref p))).set j (some v)) H') : tSeq (tPar i j (tCons (tLst (tCons te tNil)) (tCons tb tNil))) tz D σ H :=
  h H (Ex.refl _) _ fun l H1 nl e1 hl => ⟨by show 1 ≤ sizeLine; decide, fun p np => hb _ (e1.trans (Ex.new np)) _ (Ex.refl _) _ fun H2 e2 =>
    ⟨_, _, rfl, k p l H2 ((e1.trans (Ex.new np)).trans e2) (ex_l e2 (sq_of upd_same)) (ex_l e2 (sq_of (by rw [upd_ne (ne_of_none hl np)]; exact hl)))⟩⟩
theorem len_goals (f : Nat → Nat) (k : Nat) (v : Nat → V) : ∀ n : Nat, ((given n (fun l => decide (f l = k)) v).length : Int) = S n fun l => if f l = k then 1 else 0
  | 0 => rfl
  | n + 1 => by
    have ih := len_goals f k v n
    have u : given (n + 1) (fun l => decide (f l = k)) v = given n (fun l => decide (f l = k)) v ++ (if f n = k then [v n] else []) := by
      unfold given
      rw [List.range_succ, List.filter_append, List.map_append]
      by_cases h : f n = k
      · simp [h]
      · simp [h]
    rw [u, List.length_append, Int.natCast_add, ih]
    show _ = (S n fun l => if f l = k then 1 else 0) + (if f n = k then 1 else 0)
    by_cases h : f n = k
    · rw [if_pos h, if_pos h]; rfl
    · rw [if_neg h, if_neg h]; rfl
end
section
variable {P : Program} {w : World} {K : PySem.W.Frag} {mg : Str → Option Value} {base : Heap} {f : Addr} {fd : FuncData}
theorem scFar : FnScope ["_law_table_here", "_law_width", "_law_by", "_law_size", "_law_rows", "_law_ways", "_law_left", "_law_turn", "_law_step", "_law_stand", "_law_goal", "_law_way", "_law_end"] ["_law_table_here", "_law_width", "_law_by"] (defScope (topS 43)) := ⟨rfl, rfl, rfl, by decide +kernel, rfl, by decide +kernel, by decide +kernel⟩
theorem ok_far {fT : Addr} {dT : FuncData} (F : Fun K "_law_far" "_law_far" (topS 43) f fd) (M : Def P w K mg base 1 "_law_times" fT dT ["_law_one", "_law_other", "_law_by"] (spMul K)) (m2 : mg "int" = none) (m3 : mg "len" = none) (m7 : mg "range" = none) (m8 : mg "sum" = none) (m9 : mg "zip" = none) :
    FnOk P w K mg base CX0 2 f fd ["_law_table_here", "_law_width", "_law_by"] (spBy K) := by
  refine F.ok scFar (fun vs H Q E h => by obtain ⟨t, T, w, m, rfl, _⟩ := h; rfl) (fun cdv A' outer s H vs Q E hr h => ?_)
  obtain ⟨t, T, wd, m, rfl, hTb, ok, hw, hm1, hm2, q⟩ := h
  refine ⟨_, pss_cons (ps_set (i := 3) scFar.nd rfl (.inr rfl) (pe_callB (r := rLenS K) call_len_seq (by rfl) m3 b_len (pa_cons (pe_ix ix_tup (pv 0) pe_int (fun _ _ => rfl)) pa_nil)))
    (pss_cons (ps_setLc (i := 4) (own := [("_law_step", 8)]) (g := gName 8) rfl scFar.nd rfl rfl (sw_true rfl rfl rfl (by decide +kernel)) (pi_list (pe_ix ix_tup (pv 0) pe_int (fun _ _ => rfl))) (blkOk_by (by kernel_rfl))
      (fun _ _ _ _ _ => pg_name (i := 8) scFar.nd rfl (Or.inr rfl)) (fun _ _ _ _ _ => pts_nil)
      (fun _ _ _ _ _ => pe_lc (own := [("_law_stand", 9)]) (g := gName 9) rfl scFar.nd (pi_range1 (by rfl) m7 (pa_cons (pv 3) pa_nil)) (blkOk_by (by kernel_rfl)) (fun _ _ _ _ _ => pg_name (i := 9) scFar.nd rfl (Or.inr rfl)) (fun _ _ _ _ _ => pts_nil)
        (fun _ _ _ _ _ => pe_callB (r := rLenS K) call_len_seq (by rfl) m3 b_len (pa_cons
          (pe_lc (own := [("_law_goal", 10)]) (g := gName 10) (wi := iList K (tVar 8)) rfl scFar.nd (pi_list (pv 8)) (blkOk_by (by kernel_rfl)) (fun _ _ _ _ _ => pg_name (i := 10) scFar.nd rfl (Or.inl rfl))
            (fun _ _ _ _ _ => pts_one (pt_cmpR op_eq (pv 10) (pv 9) (nomark _))) (fun _ _ _ _ _ => pv 10)) pa_nil))))
    (pss_cons (ps_par (i := 5) (j := 6) rfl scFar.nd rfl rfl (by decide) rfl rfl
      (pa_cons (pe_lst (pa_cons (pe_lc (own := [("_law_stand", 9)]) (g := gName 9) rfl scFar.nd (pi_range1 (by rfl) m7 (pa_cons (pv 3) pa_nil)) (blkOk_by (by kernel_rfl)) (fun _ _ _ _ _ => pg_name (i := 9) scFar.nd rfl (Or.inl rfl)) (fun _ _ _ _ _ => pts_nil)
        (fun _ _ _ _ _ => pe_callTy call_int1 (by rfl) m2 b_int (pa_cons (pe_cmpR op_eq (pv 9) pe_int (nomark _)) pa_nil))) pa_nil)) (pa_cons (pv 1) pa_nil)) (by rfl))
    (pss_cons (ps_for PassesOwn.never rfl (pi_range1 (by rfl) m7 (pa_cons pe_int pa_nil)) (pg_name (i := 7) scFar.nd rfl (.inl rfl))
      (pss_cons (ps_if (pt_cmpR op_eq (pv 6) pe_int (nomark _)) (pss_one ps_break) pss_nil)
      (pss_cons (ps_if (pt_cmpR op_eq (pe_op op_mod (pe_callTy call_int1 (by rfl) m2 b_int (pa_cons (pv 6) pa_nil)) pe_int) pe_int (nomark _)) (pss_one (ps_set (i := 5) scFar.nd rfl (.inl rfl) (pc M hr (pa_cons (pv 5) (pa_cons (pv 4) (pa_cons (pv 2) pa_nil)))))) pss_nil)
      (pss_one (ps_par (i := 4) (j := 6) rfl scFar.nd rfl rfl (by decide) rfl rfl
        (pa_cons (pc M hr (pa_cons (pv 4) (pa_cons (pv 4) (pa_cons (pv 2) pa_nil)))) (pa_cons (pe_op op_fdiv (pv 6) pe_int) pa_nil)) (by rfl))))))
    (pss_one (ps_ret (pe_op op_mod (pe_callTy call_int1 (by rfl) m2 b_int (pa_cons (pe_callB (r := rSum K) (cr_sum rfl) (by rfl) m8 b_sum (pa_cons
      (pe_lc (own := [("_law_way", 11), ("_law_end", 12)]) (g := gTup K 2 (gCons (gName 11) (gCons (gName 12) gNil))) rfl scFar.nd (pi_zip (by rfl) m9 (pa_cons (pe_ix ix_list (pv 5) pe_int (fun _ _ => rfl)) (pa_cons (pe_ix ix_tup (pv 0) pe_int (fun _ _ => rfl)) pa_nil))) (blkOk_by (by kernel_rfl))
        (fun _ _ _ _ _ => pg_tup rfl (pgs_cons (pg_name (i := 11) scFar.nd rfl (.inl rfl)) (pgs_cons (pg_name (i := 12) scFar.nd rfl (.inl rfl)) pgs_nil))) (fun _ _ _ _ _ => pts_one (t := tTru K (tVar 12)) (pt_tru (pv 12))) (fun _ _ _ _ _ => pv 11)) pa_nil)) pa_nil)) (pv 2))))))), ?_⟩
  obtain ⟨s', e', hT, ⟨rs, r1, r2, r3⟩, hE⟩ := id hTb
  have hf := ok.few
  have hp := ok.pos
  have hL := ok.L
  refine q_asg (ev_is (ev_seqLen (ev_op (ev_var rfl) ev_c (rv_ixT hT rfl)) (Or.inl hE)) (by rw [vb_len])) fun H1 e1 => ?_
  -- rows
  refine q_asgP (ep_lcL (K := K) (n := T.n) (G := fun xs _ => xs = rs.map V.ref) (fun j => vi T.n (T.c j)) (EvP.imp (ep_ev (ev_op (ev_var rfl) ev_c (rv_ixT (ex_t e1 hT) rfl))) fun v H2 e2 h => ⟨s', _, h, ex_l (e1.trans e2) r1, by rw [List.length_map, r2], rfl⟩) (by omega) (fun x => rfl) (fun j xs x H2 e2 hg hx => ?_)) fun v H2 e2 hv => ?_
  · subst hg
    rw [List.getElem?_map] at hx
    obtain ⟨u, hu, rfl⟩ := Option.map_eq_some_iff.mp hx
    refine el_is (el_lcR1 (n := (T.n : Int)) (fun _ => true) (fun k => .int (T.c j k)) (ea_cons (ev_var rfl) ea_nil) (by omega) (fun x => rfl) (fun k H3 e3 hk => fun H3 e3 Q q => q H3 (Ex.refl H3)) (fun k H3 e3 hk _ => ?_)) (by rw [Int.toNat_natCast]; exact vi_given _ _)
    have row : SqL K H3 u (vi T.L fun l => (T.st j l : Int)) := ex_l ((e1.trans e2).trans e3) (r3 j u hu)
    refine ev_is (ev_lenN (el_lcL (fun l => decide (T.st j l = k)) (fun l => .int (T.st j l)) (ev_var rfl) row (by rw [vi_len]; omega) (fun x => rfl) (fun l x H4 e4 hx => ?_) (fun l x H4 e4 hx _ => ?_))) (by rw [vi_len, len_goals]; rfl)
    · obtain ⟨_, rfl⟩ := vi_get hx
      refine et_is (et_test (ev_op (ev_var rfl) (ev_var rfl) (rv_eq rfl))) ?_
      by_cases z : T.st j l = k
      · subst z; simp
      · rw [decide_eq_false z, decide_eq_false (fun y => z (by have := V.int.inj y; omega))]
    · obtain ⟨_, rfl⟩ := vi_get hx
      exact ev_var rfl
  obtain ⟨ra, rfl, hra⟩ := hv
  -- ways, left
  refine q_par1 (K := K) (xs := vi T.n e0) (v := .int wd) (el_is (el_lcR1 (n := (T.n : Int)) (fun _ => true) (fun k => .int (e0 k)) (ea_cons (ev_var rfl) ea_nil) (by omega) (fun x => rfl) (fun k H3 e3 hk => fun H3 e3 Q q => q H3 (Ex.refl H3)) (fun k H3 e3 hk _ => ?_)) (by rw [Int.toNat_natCast]; exact vi_given _ _)) (fun H3 e3 => ev_var rfl) fun wa w0 H4 e4 hwa0 hw0 => ?_
  · refine ev_is (ev_int_bl (ev_op (ev_var rfl) ev_c (rv_eq rfl))) ?_
    show V.int (if decide (V.int (k : Int) = V.int 0) = true then 1 else 0) = V.int (if k = 0 then 1 else 0)
    congr 1
    by_cases z : k = 0
    · subst z; simp
    · rw [if_neg z, decide_eq_false (fun y => z (by have := V.int.inj y; omega))]; rfl
  have hwa : Mx K H4 wa 1 (fun i => vi T.n e0) := ⟨[w0], hwa0, rfl, fun j r hj => by
    match j, hj with
    | 0, hj =>
      obtain rfl := Option.some.inj hj
      exact hw0⟩
  have hra4 := hra.ex e4
  replace e4 := (e1.trans e2).trans e4
  refine q_forR1b (n := 101) (ea_cons ev_c ea_nil) (by decide) (fun i σ' H' => ∃ (ra wa : Addr) (μ : Nat) (A R : Nat → Nat → Int) (y7 : Option V), σ' = [some (.ref t), some (.int wd), some (.int m), some (.int T.n), some (.ref ra), some (.ref wa), some (.int μ), y7, none, none, none, none, none] ∧ Ex H H' ∧
        Mx K H' ra T.n (fun j => vi T.n (R j)) ∧ Mx K H' wa 1 (fun i => vi T.n (A i)) ∧ Bd A ∧ Bd R ∧ pw T.n m μ A R = pw T.n m wd (fun _ => e0) T.c ∧ μ < 2 ^ (101 - i))
      (fun σ' H' => ∃ (ra wa : Addr) (A : Nat → Nat → Int) (y6 y7 : Option V), σ' = [some (.ref t), some (.int wd), some (.int m), some (.int T.n), some (.ref ra), some (.ref wa), y6, y7, none, none, none, none, none] ∧ Ex H H' ∧ Mx K H' wa 1 (fun i => vi T.n (A i)) ∧ A = pw T.n m wd (fun _ => e0) T.c)
      (fun H5 e5 => ⟨ra, wa, wd, fun _ => e0, T.c, none, rfl, e4.trans e5, hra4.ex e5, hwa.ex e5, bd_e0, bd_c ok, rfl, Nat.lt_trans hw (by decide)⟩)
      (fun i σ' H' B fin hi hP => ?_) (fun σ' H' hP => ?_) (fun σ' H' hP => ?_)
  · obtain ⟨ra, wa, μ, A, R, y7, rfl, e5, h1, h2, bA, bR, hpw, hμ⟩ := hP
    refine q_when (b := decide (V.int (μ : Nat) = V.int 0)) (et_test (ev_op (ev_var rfl) ev_c (rv_eq rfl))) (fun hb H6 e6 => ?_) (fun hb H6 e6 => ?_)
    · have z : μ = 0 := by have := V.int.inj (of_decide_eq_true hb); omega
      subst z
      rw [pw_zero] at hpw
      exact fin _ _ ⟨ra, wa, A, _, _, rfl, e5.trans e6, h2.ex e6, hpw⟩
    · have hpos : 0 < μ := by
        have := of_decide_eq_false hb
        refine Nat.pos_of_ne_zero fun z => this ?_
        rw [z]; rfl
      replace e5 := e5.trans e6
      replace h1 := h1.ex e6
      replace h2 := h2.ex e6
      rw [pw_pos T.n m hpos] at hpw
      have hμ2 : μ / 2 < 2 ^ (101 - (i + 1)) := by
        have : 2 ^ (101 - i) = 2 * 2 ^ (101 - (i + 1)) := by
          rw [← Nat.pow_succ', show (101 - (i + 1)).succ = 101 - i by omega]
        omega
      have step : ∀ (wb : Addr) (A2 : Nat → Nat → Int) (H7 : Hp), Ex H6 H7 → Mx K H7 wb 1 (fun i => vi T.n (A2 i)) → Bd A2 → A2 = (if μ % 2 = 1 then mulF T.n m A R else A) →
          tPar 4 6 (tCons (tCall (spMul K) [] E0 (tCons (tVar 4) (tCons (tVar 4) (tCons (tVar 2) tNil)))) (tCons (tOp (rI CDiv fun i j => .int (i / j)) (tVar 6) (tC (.int 2))) tNil))
            { nx := fun σ' H' => ∃ (ra wa : Addr) (μ : Nat) (A R : Nat → Nat → Int) (y7 : Option V), σ' = [some (.ref t), some (.int wd), some (.int m), some (.int T.n), some (.ref ra), some (.ref wa), some (.int μ), y7, none, none, none, none, none] ∧ Ex H H' ∧
                Mx K H' ra T.n (fun j => vi T.n (R j)) ∧ Mx K H' wa 1 (fun i => vi T.n (A i)) ∧ Bd A ∧ Bd R ∧ pw T.n m μ A R = pw T.n m wd (fun _ => e0) T.c ∧ μ < 2 ^ (101 - (i + 1)), rt := Q }
            [some (.ref t), some (.int wd), some (.int m), some (.int T.n), some (.ref ra), some (.ref wb), some (.int μ), some (.int i), none, none, none, none, none] H7 := fun wb A2 H7 e7 hA bA2 eA => by
        refine ep_call (ea_cons (ev_var rfl) (ea_cons (ev_var rfl) (ea_cons (ev_var rfl) ea_nil))) (spp_mul (h1.ex e7) (h1.ex e7) (by omega) hf hf bR) H7 (Ex.refl _) _ fun v H8 e8 hv => ?_
        obtain ⟨rb, rfl, hrb⟩ := hv
        refine ⟨_, rfl, _, _, rfl, rfl, ⟨by decide, by decide⟩, _, _, rfl, rb, wb, μ / 2, A2, mulF T.n m R R, some (.int i), ?_, (e5.trans e7).trans e8, hrb, hA.ex e8, bA2, bd_mul hm1 hm2, by rw [eA]; exact hpw, hμ2⟩
        show [_, _, _, _, some (V.ref rb), _, some (V.int ((μ : Int) / 2)), _, _, _, _, _, _] = _
        rw [Int.natCast_ediv]
        rfl
      refine q_when (b := decide (V.int ((μ : Int) % 2) = V.int 1)) (et_test (ev_op (ev_op (ev_int_int (ev_var rfl)) ev_c (rv_I (by decide))) ev_c (rv_eq rfl))) (fun hb H7 e7 => ?_) (fun hb H7 e7 => ?_)
      · have odd : μ % 2 = 1 := by have := V.int.inj (of_decide_eq_true hb); omega
        refine s_asgP (ep_call (ea_cons (ev_var rfl) (ea_cons (ev_var rfl) (ea_cons (ev_var rfl) ea_nil))) (spp_mul (h2.ex e7) (h1.ex e7) (by omega) hf (by decide) bA)) fun v H8 e8 hv => ?_
        obtain ⟨wb, rfl, hwb⟩ := hv
        exact step wb _ H8 (e7.trans e8) hwb (bd_mul hm1 hm2) (if_pos odd).symm
      · have odd : ¬ μ % 2 = 1 := fun z => by
          have := of_decide_eq_false hb
          exact this (by congr 1; omega)
        exact step wa A H7 e7 (h2.ex e7) bA (if_neg odd).symm
  · obtain ⟨ra, wa, μ, A, R, y7, rfl, e5, h1, h2, bA, bR, hpw, hμ⟩ := hP
    have z : μ = 0 := by
      have : μ < 2 ^ (101 - 101) := hμ
      omega
    subst z
    rw [pw_zero] at hpw
    exact ⟨ra, wa, A, _, _, rfl, e5, h2, hpw⟩
  · obtain ⟨ra, wa, A, y6, y7, rfl, e5, h2, hA⟩ := hP
    obtain ⟨ws, w1, w2, w3⟩ := h2
    obtain ⟨r, hr0⟩ : ∃ r, ws[0]? = some r := ⟨_, List.getElem?_eq_getElem (by omega)⟩
    have row := w3 0 r hr0
    have hE5 := ex_l e5 hE
    refine s_ret (ev_is (ev_op (ev_int_int (ev_sum (n := 0) (f := fun _ => 0) (el_ends (walk_zip (by rw [vi_len, vb_len]; exact (Nat.min_self _).symm)) row hE5 hf (wi_zip (ea_cons (ev_op (ev_var rfl) ev_c (rv_ixL w1 (atI_nat (j := 0) (v := V.ref r) (by rw [List.getElem?_map, hr0]; rfl)))) (ea_cons (ev_op (ev_var rfl) ev_c (rv_ixT (ex_t e5 hT) rfl)) ea_nil)) row hE5) (fun x y => rfl) (fun x y => rfl) (fun x y => rfl)))) (ev_var rfl) (rv_I (g := fun i j => V.int (i % j)) (show 0 < m by omega))) ?_) fun H6 e6 => q H6 (e5.trans e6)
    rw [given_tot, hA, byV_far T hm1 wd]
end
end K49

/-! the law's own defs, sixth part: what repr shows, _law_same -/
namespace K49
open PySem PySem.Spec PyProof.Rows L2 Evl
/-! ### data that repr shows -/
structure Gd (k W : Nat) (d : PyData) : Prop where
  sh : d.showable = true
  nd : d.hasDict = false
  dp : d.depth ≤ k
  lv : d.leavesShort 13 = true
  wt : d.weight ≤ W
structure GdAll (k W : Nat) (ds : List PyData) : Prop where
  sh : PyData.showableAll ds = true
  nd : PyData.hasDictAll ds = false
  dp : PyData.depthAll ds ≤ k
  lv : PyData.leavesShortAll 13 ds = true
  wt : PyData.weightAll ds ≤ (W + 1) * ds.length
section
variable {k W n : Nat} {d : PyData} {ds : List PyData}
theorem Gd.mono {k' W' : Nat} (h : Gd k W d) (a : k ≤ k') (b : W ≤ W') : Gd k' W' d := ⟨h.sh, h.nd, Nat.le_trans h.dp a, h.lv, Nat.le_trans h.wt b⟩
theorem GdAll.of : ∀ {ds : List PyData}, (∀ d, d ∈ ds → Gd k W d) → GdAll k W ds
  | [], _ => ⟨rfl, rfl, Nat.zero_le _, rfl, Nat.zero_le _⟩
  | x :: r, h => by
    have a := h x List.mem_cons_self
    have b := GdAll.of fun d hd => h d (List.mem_cons_of_mem _ hd)
    refine ⟨?_, ?_, ?_, ?_, ?_⟩
    · show (x.showable && PyData.showableAll r) = true
      rw [a.sh, b.sh]; rfl
    · show (x.hasDict || PyData.hasDictAll r) = false
      rw [a.nd, b.nd]; rfl
    · show max x.depth (PyData.depthAll r) ≤ k
      exact Nat.max_le.mpr ⟨a.dp, b.dp⟩
    · show (x.leavesShort 13 && PyData.leavesShortAll 13 r) = true
      rw [a.lv, b.lv]; rfl
    · show x.weight + 1 + PyData.weightAll r ≤ (W + 1) * (r.length + 1)
      have := a.wt
      have := b.wt
      rw [Nat.mul_add]
      omega
theorem Gd.lst (h : ∀ d, d ∈ ds → Gd k W d) (hn : ds.length ≤ n) : Gd (k + 1) ((W + 1) * n) (.list ds) := by
  have a := GdAll.of h
  refine ⟨by simpa only [PyData.showable] using a.sh, by simpa only [PyData.hasDict] using a.nd, ?_, by simpa only [PyData.leavesShort] using a.lv, ?_⟩
  · have := a.dp
    simp only [PyData.depth]; omega
  · simp only [PyData.weight]
    exact Nat.le_trans a.wt (Nat.mul_le_mul_left _ hn)
theorem Gd.tup (h : ∀ d, d ∈ ds → Gd k W d) (hn : ds.length ≤ n) : Gd (k + 1) ((W + 1) * n) (.tuple ds) := by
  have a := GdAll.of h
  refine ⟨by simpa only [PyData.showable] using a.sh, by simpa only [PyData.hasDict] using a.nd, ?_, by simpa only [PyData.leavesShort] using a.lv, ?_⟩
  · have := a.dp
    simp only [PyData.depth]; omega
  · simp only [PyData.weight]
    exact Nat.le_trans a.wt (Nat.mul_le_mul_left _ hn)
theorem Gd.bl (b : Bool) : Gd 0 0 (.bool b) := ⟨by simp only [PyData.showable], by simp only [PyData.hasDict], by simp only [PyData.depth]; omega, by simp only [PyData.leavesShort], by simp only [PyData.weight]; omega⟩
theorem Gd.int {i : Int} (h : i.natAbs < 2 ^ 10) : Gd 0 10 (.int i) := by
  have l : i.natAbs.log2 < 10 := by
    by_cases z : i.natAbs = 0
    · rw [z]; decide
    · exact (Nat.log2_lt z).mpr h
  refine ⟨?_, by simp only [PyData.hasDict], by simp only [PyData.depth]; omega, ?_, ?_⟩
  · simp only [PyData.showable]; exact decide_eq_true (by omega)
  · simp only [PyData.leavesShort]; exact decide_eq_true (PyData.shown_int_le (Nat.lt_of_lt_of_le h (by decide)))
  · simp only [PyData.weight]
    split <;> omega
theorem Gd.fit (h : Gd k W d) (hW : W ≤ 2 ^ 20) : d.shown.length ≤ sizeLine := PyData.shown_fits (B := 13) (by decide) (by decide) h.lv (Nat.le_trans h.wt hW)
end
/-! ### data of rows, of tables -/
def rowD (n : Nat) (f : Nat → Int) : PyData := .list ((List.range n).map fun k => .int (f k))
def tabD (T : Tb) : PyData := .tuple [.int T.many, .list ((List.range T.n).map fun j => rowD T.L fun l => (T.st j l : Int)), .list ((List.range T.n).map fun j => .bool (T.en j))]
section
variable {K : PySem.W.Frag} {σ : L2.St} {H : Hp} {ta tb : TE} {t a : Addr} {T : Tb} {n : Nat} {f : Nat → Int}
theorem dpAll_of : ∀ {vs : List V} {ds : List PyData}, vs.length = ds.length → (∀ (i : Nat) v d, vs[i]? = some v → ds[i]? = some d → Dp K H v d) → DpAll K H vs ds
  | [], [], _, _ => .nil
  | [], _ :: _, h, _ => by simp at h
  | _ :: _, [], h, _ => by simp at h
  | v :: vs, d :: ds, h, k => .cons (k 0 v d rfl rfl) (dpAll_of (by simpa using h) fun i v d a b => k (i + 1) v d a b)
theorem range_get {α : Type} {n i : Nat} {g : Nat → α} {x : α} (h : ((List.range n).map g)[i]? = some x) : i < n ∧ x = g i := by
  have hi : i < n := by
    have := (List.getElem?_eq_some_iff.mp h).1
    simpa using this
  rw [List.getElem?_map, List.getElem?_range hi] at h
  exact ⟨hi, (Option.some.inj h).symm⟩
theorem dp_row (h : SqL K H a (vi n f)) : Dp K H (.ref a) (rowD n f) := .lst h (dpAll_of (by unfold vi; rw [List.length_map, List.length_map]) fun i v d hv hd => by
  obtain ⟨_, rfl⟩ := vi_get hv
  obtain ⟨_, rfl⟩ := range_get hd
  exact .int _)
theorem dp_tab (h : TbAt K H t T) : Dp K H (.ref t) (tabD T) := by
  obtain ⟨s, e, hT, ⟨rs, r1, r2, r3⟩, hE⟩ := h
  refine .tup hT (.cons (.int _) (.cons (.lst r1 (dpAll_of (by simp [r2]) fun i v d hv hd => ?_)) (.cons (.lst hE (dpAll_of (by unfold vb; simp) fun i v d hv hd => ?_)) .nil)))
  · obtain ⟨_, rfl⟩ := range_get hd
    rw [List.getElem?_map] at hv
    obtain ⟨r, hr, rfl⟩ := Option.map_eq_some_iff.mp hv
    exact dp_row (r3 i r hr)
  · obtain ⟨_, rfl⟩ := vb_get hv
    obtain ⟨_, rfl⟩ := range_get hd
    exact .bl _
theorem gd_tab (ok : T.Ok) : Gd 3 200000 (tabD T) := by
  have hf := ok.few
  have hL := ok.L
  refine Gd.mono (k := 3) (W := (21151 + 1) * 3) (Gd.tup (k := 2) (n := 3) (fun d hd => ?_) (Nat.le_refl 3)) (by decide) (by decide)
  rcases List.mem_cons.mp hd with rfl | hd
  · exact Gd.mono (Gd.int (by have := ok.many; omega)) (by decide) (by decide)
  rcases List.mem_cons.mp hd with rfl | hd
  · refine Gd.mono (k := 2) (W := (704 + 1) * 30) (Gd.lst (k := 1) (fun d hd => ?_) (by simpa using hf)) (by decide) (by decide)
    obtain ⟨j, hj, rfl⟩ := List.mem_map.mp hd
    have hj := List.mem_range.mp hj
    refine Gd.mono (k := 1) (W := (10 + 1) * 64) (Gd.lst (k := 0) (fun d hd => ?_) (by simpa using hL)) (by decide) (by decide)
    obtain ⟨l, hl, rfl⟩ := List.mem_map.mp hd
    have hl := List.mem_range.mp hl
    have hst := ok.st j l hj hl
    exact Gd.int (by rw [Int.natAbs_natCast]; omega)
  · obtain rfl := List.mem_singleton.mp hd
    refine Gd.mono (k := 1) (W := (0 + 1) * 30) (Gd.lst (k := 0) (fun d hd => ?_) (by simpa using hf)) (by decide) (by decide)
    obtain ⟨j, hj, rfl⟩ := List.mem_map.mp hd
    exact Gd.bl _
theorem dp_ints (ns : List Int) (h : SqL K H a (ns.map V.int)) : Dp K H (.ref a) (.list (ns.map PyData.int)) := .lst h (dpAll_of (by rw [List.length_map, List.length_map]) fun i v d hv hd => by
  rw [List.getElem?_map] at hv hd
  obtain ⟨x, hx, rfl⟩ := Option.map_eq_some_iff.mp hv
  obtain ⟨y, hy, rfl⟩ := Option.map_eq_some_iff.mp hd
  rw [hx] at hy
  obtain rfl := Option.some.inj hy
  exact .int _)
theorem gd_ints {ns : List Int} (h : ∀ i, i ∈ ns → i.natAbs < 2 ^ 10) (hn : ns.length ≤ 100) : Gd 1 1100 (.list (ns.map PyData.int)) := Gd.lst (k := 0) (W := 10) (n := 100) (fun d hd => by
  obtain ⟨i, hi, rfl⟩ := List.mem_map.mp hd
  exact Gd.int (h i hi)) (by rw [List.length_map]; exact hn)
/-- repr(a) -/
theorem ev_rep {d : PyData} {k W : Nat} (ha : Ev ta σ H (.ref a)) (h : Dp K H (.ref a) d) (ex : ∀ H1, Ex H H1 → Dp K H1 (.ref a) d) (g : Gd k W d) (hk : k ≤ 10) (hW : W ≤ 2 ^ 20) : Ev (tCB (rShow K) (tCons ta tNil)) σ H (.str d.shown) := fun H1 e Q q =>
  ha H1 e _ fun H2 e2 => ⟨a, d, rfl, ex H2 (e.trans e2), g.sh, g.nd, Nat.le_trans g.dp hk, g.fit hW, q H2 e2⟩
mutual
theorem dp_ex {H H' : Hp} (e : Ex H H') : ∀ {v : V} {d : PyData}, Dp K H v d → Dp K H' v d
  | _, _, .non => .non
  | _, _, .bl b => .bl b
  | _, _, .int i => .int i
  | _, _, .str x => .str x
  | _, _, .lst h a => .lst (ex_l e h) (dpAll_ex e a)
  | _, _, .tup h a => .tup (ex_t e h) (dpAll_ex e a)
theorem dpAll_ex {H H' : Hp} (e : Ex H H') : ∀ {vs : List V} {ds : List PyData}, DpAll K H vs ds → DpAll K H' vs ds
  | _, _, .nil => .nil
  | _, _, .cons a b => .cons (dp_ex e a) (dpAll_ex e b)
end
end
/-! ### defs called where no repr runs -/
structure DefG (P : Program) (w : World) (K : PySem.W.Frag) (mg : Str → Option Value) (base : Heap) (k : Nat) (x : Str) (f : Addr) (fd : FuncData) (ps : List Str) (sp : Sp) : Prop where
  ok : FnG P w K mg base k f fd ps sp
  gx : mg x = some (.ref f)
  kp : PySem.W.keepIn K (.ref f) = true
  bd : Binds K fd ps []
section
variable {X : Cx} {k j : Nat} {f : Addr} {fd : FuncData} {ps : List Str} {sp : Sp} {x : Str} {p pos : Pos} {e : Expr} {es : List Expr} {t : TA}
theorem pcG (gu : X.A.guards = some []) (D : DefG X.prog X.w X.K X.mg X.base k x f fd ps sp) (hr : Room j X.A) (ha : PA X (e :: es) t) (hk : k ≤ j := by decide) (hg : Gl X x := by rfl) (hdb : (x == ("__debug__" : Str)) = false := by decide)
    (he : starEach (e :: es) X.env = (false, eval e X.env) :: starEach es X.env := by rfl) (hpl : (backTo pos (starEach es X.env)).any (·.1) = false := by rfl) : PE X (.Call (.Name x p) (e :: es) [] pos) (tCall sp [] E0 t) :=
  pe_callG gu D.ok (hr.mono hk) hg D.gx D.kp D.bd ha hdb he hpl
end
def spSame (K : PySem.W.Frag) : Sp := fun vs H Q _ => ∃ (a b : Addr) (d : PyData), vs = [.ref a, .ref b] ∧ Dp K H (.ref a) d ∧ Dp K H (.ref b) d ∧ Gd 1 1100 d ∧ RetV (.bl true) H Q
section
variable {P : Program} {w : World} {K : PySem.W.Frag} {mg : Str → Option Value} {base : Heap} {f : Addr} {fd : FuncData}
theorem scSame : FnScope ["_law_told", "_law_due"] ["_law_told", "_law_due"] (defScope (topS 37)) := ⟨rfl, rfl, rfl, by decide +kernel, rfl, by decide +kernel, by decide +kernel⟩
theorem ok_same (F : Fun K "_law_same" "_law_same" (topS 37) f fd) (m11 : mg "repr" = none) : FnG P w K mg base 1 f fd ["_law_told", "_law_due"] (spSame K) := by
  refine gn_of F scSame (fun vs H Q E h => by obtain ⟨a, b, d, rfl, _⟩ := h; rfl) (fun cdv A outer s H vs Q E gu hr h => ?_)
  obtain ⟨a, b, d, rfl, ha, hb, g, q⟩ := h
  refine ⟨_, pss_one (ps_ret (pe_cmpR op_eq (pe_callB (r := rShow K) (call_rep gu hr.units) (by rfl) m11 b_repr (pa_cons (pv 0) pa_nil)) (pe_callB (r := rShow K) (call_rep gu hr.units) (by rfl) m11 b_repr (pa_cons (pv 1) pa_nil)) (nomark _))), ?_⟩
  refine s_ret (ev_is (ev_op (ev_rep (ev_var rfl) ha (fun _ e => dp_ex e ha) g (by decide) (by decide)) (ev_rep (ev_var rfl) hb (fun _ e => dp_ex e hb) g (by decide) (by decide)) (rv_eq rfl)) (by rw [decide_eq_true rfl])) q
end
end K49

/-! the law's own defs, seventh part: one generator's round -/
namespace K49
open PySem PySem.Spec PyProof.Rows L2 Evl
def flip2 {α : Type} (us ws : List α) : List α := match us, ws with
  | [], [a, b] => [b, a]
  | _, _ => []
def flip3 {α : Type} (us ws : List α) : List α := match us, ws with
  | [], [a, b, c] => [c, b, a]
  | _, _ => []
theorem kb2 {K : PySem.W.Frag} {fd : FuncData} {x y : Str} (h : ∀ a b : Value, bindArgs fd ⟨[], [(y, a), (x, b)]⟩ = pure [(x, b), (y, a)]) : KBinds K fd [x, y] [y, x] flip2 flip2 :=
  ⟨fun s us ws _ hl => by
    match us, ws, hl with
    | [], [a, b], _ => exact .of_eq (h a b)
    | [], [], hl => exact absurd hl (by simp [flip2])
    | [], [_], hl => exact absurd hl (by simp [flip2])
    | [], _ :: _ :: _ :: _, hl => exact absurd hl (by simp [flip2])
    | _ :: _, _, hl => exact absurd hl (by simp [flip2]),
  fun {vs us zs ws} r1 r2 => by
    match vs, us, zs, ws, r1, r2 with
    | [], [], [], [], _, _ => exact .nil
    | [], [], [_], [_], _, _ => exact .nil
    | [], [], [_, _], [_, _], _, .cons a (.cons b .nil) => exact .cons b (.cons a .nil)
    | [], [], _ :: _ :: _ :: _, _ :: _ :: _ :: _, _, _ => exact .nil
    | _ :: _, _ :: _, _, _, _, _ => exact .nil⟩
theorem kb3 {K : PySem.W.Frag} {fd : FuncData} {x y z : Str} (h : ∀ a b c : Value, bindArgs fd ⟨[], [(z, a), (y, b), (x, c)]⟩ = pure [(x, c), (y, b), (z, a)]) : KBinds K fd [x, y, z] [z, y, x] flip3 flip3 :=
  ⟨fun s us ws _ hl => by
    match us, ws, hl with
    | [], [a, b, c], _ => exact .of_eq (h a b c)
    | [], [], hl => exact absurd hl (by simp [flip3])
    | [], [_], hl => exact absurd hl (by simp [flip3])
    | [], [_, _], hl => exact absurd hl (by simp [flip3])
    | [], _ :: _ :: _ :: _ :: _, hl => exact absurd hl (by simp [flip3])
    | _ :: _, _, hl => exact absurd hl (by simp [flip3]),
  fun {vs us zs ws} r1 r2 => by
    match vs, us, zs, ws, r1, r2 with
    | [], [], [], [], _, _ => exact .nil
    | [], [], [_], [_], _, _ => exact .nil
    | [], [], [_, _], [_, _], _, _ => exact .nil
    | [], [], [_, _, _], [_, _, _], _, .cons a (.cons b (.cons c .nil)) => exact .cons c (.cons b (.cons a .nil))
    | [], [], _ :: _ :: _ :: _ :: _, _ :: _ :: _ :: _ :: _, _, _ => exact .nil
    | _ :: _, _ :: _, _, _, _, _ => exact .nil⟩
section
variable {X : Cx} {k j : Nat} {f : Addr} {fd : FuncData} {ps ks : List Str} {sp : Sp} {x : Str} {p pos : Pos} {kws : List Keyword} {tk : TA} {g : List Value → List Value → List Value} {gV : List V → List V → List V}
theorem pcK (D : Def X.prog X.w X.K X.mg X.base k x f fd ps sp) (hb : KBinds X.K fd ps ks g gV) (hr : Room j X.A) (hkw : PK X kws tk) (hk : k ≤ j := by decide) (hg : Gl X x := by rfl)
    (hall : (backToKw pos (keywordEach kws X.env)).all (·.1.isSome) = true := by rfl) (hks : (backToKw pos (keywordEach kws X.env)).filterMap (·.1) = ks := by rfl)
    (hdb : (x == ("__debug__" : Str)) = false := by decide) (hpl : ((backTo pos (starEach [] X.env)).any (·.1) || (backToKw pos (keywordEach kws X.env)).any (·.1.isNone)) = false := by rfl) :
    PE X (.Call (.Name x p) [] kws pos) (tCallK sp gV E0 tNil tk) := pe_callK0 D.ok (hr.mono hk) hg D.gx D.kp hb pass0 hkw hall hks hdb hpl
end
section
variable {K : PySem.W.Frag} {σ : L2.St} {H H' : Hp} {te tl tb : TE} {ta tk : TA} {g t a : Addr} {T : Tb} {m : Nat} {v z : V} {D : Ends} {tu tz : TS}
theorem ev_callK {sp : Sp} {gV : List V → List V → List V} {E : XK} {zs : List V} (h : EvA tk σ H zs) (hs : SpV sp (gV [] zs) H z) : Ev (tCallK sp gV E tNil tk) σ H z := fun H1 e Q q =>
  h H1 e _ fun H2 e2 => hs H2 (e.trans e2) Q (fun H3 e3 => q H3 (e2.trans e3)) E
theorem spv_met (h : TbAt K H t T) (ok : T.Ok) (hm : m ≤ 2000) : SpV (spMet K) [.ref t, .int m] H (.int (T.num m)) := fun H1 e Q q E => ⟨t, T, m, rfl, h.ex e, ok, hm, q⟩
theorem spv_by {b : Int} (h : TbAt K H t T) (ok : T.Ok) (hm : m < 10 ^ 30) (h1 : 2 ≤ b) (h2 : b ≤ 10 ^ 9) : SpV (spBy K) [.ref t, .int m, .int b] H (.int (T.byV b m)) := fun H1 e Q q E => ⟨t, T, m, b, rfl, h.ex e, ok, hm, h1, h2, q⟩
theorem spl_nums (h : TbAt K H t T) (ok : T.Ok) (hm : m ≤ 3000) : SpL (spNumbers K) [.ref t, .int m] H (vi m T.num) := fun H1 e Q q E => ⟨t, T, m, rfl, h.ex e, ok, hm, q⟩
theorem er_keep (e : Ex (er g H) H') : Ex (er g H) (er g H') := fun a o h => er_at (e a o h) fun z => by rw [z, er_same] at h; cases h
theorem ints_get {ns : List Int} {d : Nat} (h : (ns.map V.int)[d]? = some v) : ∃ u, u ∈ ns ∧ v = .int u := by
  rw [List.getElem?_map] at h
  obtain ⟨u, hu, rfl⟩ := Option.map_eq_some_iff.mp h
  exact ⟨u, List.mem_of_getElem? hu, rfl⟩
/-- one of some numbers, drawn -/
theorem im_pick {ns : List Int} {n j : Nat} (ha : EvA ta σ H (ns.map V.int)) (hl : (ns.map V.int).length ≤ sizeLine) (h0 : 0 < n) (hn : n ≤ 100) (hlen : n ≤ ns.length) (hs : σ[j]? = some (some (.ref g))) (hm : m ≤ 100000) (gs : Gs g m H) :
    Im (tOp (rIxL K) (tLst ta) (tCall spRandom [] E0 (tCons (tVar j) (tCons (tC (.int (n : Int))) tNil)))) σ H (fun v H1 => (∃ u, u ∈ ns ∧ v = .int u) ∧ Ex (er g H) H1 ∧ Gs g (m + 1) H1) := fun Q k =>
  ha H (Ex.refl _) _ fun H1 e1 => ⟨hl, fun p np => draw hs ev_c (by omega) (by omega) hm (gs.ex (e1.trans (Ex.new np))) (fun y H2 => rIxL K (.ref p) y H2 Q) fun d H2 e2 g2 hd => by
    have hd' : d < (ns.map V.int).length := by rw [List.length_map]; omega
    have np' : p ≠ g := (gs.ex e1).ne np
    refine ⟨p, ns.map V.int, d, (ns.map V.int)[d], rfl, rfl, sq_of (e2 _ _ (er_at upd_same np')), atI_nat (List.getElem?_eq_getElem hd'), k _ _ ⟨ints_get (List.getElem?_eq_getElem hd'), ?_, g2⟩⟩
    exact Ex.trans (er_mono (e1.trans (Ex.new np))) e2⟩
/-- a draw below what was drawn -/
theorem im_draw {Pp : Int → Prop} {j : Nat} (hs : σ[j]? = some (some (.ref g))) (hb : Im tb σ H (fun v H1 => (∃ u, Pp u ∧ v = .int u) ∧ Ex (er g H) H1 ∧ Gs g m H1)) (hp : ∀ u, Pp u → 0 < u ∧ u ≤ 10 ^ 30) (hm : m ≤ 100000) :
    Im (tCall spRandom [] E0 (tCons (tVar j) (tCons tb tNil))) σ H (fun v H1 => (∃ (u : Int) (d : Nat), Pp u ∧ (d : Int) < u ∧ v = .int d) ∧ Ex (er g H) H1 ∧ Gs g (m + 1) H1) := fun Q k =>
  ⟨_, hs, hb _ fun v H1 ⟨⟨u, hu, hv⟩, e1, g1⟩ => by
    subst hv
    refine ⟨g, u, m, rfl, (hp u hu).1, (hp u hu).2, hm, g1, fun d H2 e2 g2 d0 d1 => k _ _ ⟨⟨u, d.toNat, hu, by omega, by rw [Int.toNat_of_nonneg d0]⟩, er_trans e1 e2, g2⟩⟩⟩
theorem im_one {u : Int} {j : Nat} (hs : σ[j]? = some (some (.ref g))) (hb : Ev tb σ H (.int u)) (h0 : 0 < u) (h1 : u ≤ 10 ^ 30) (hm : m ≤ 100000) (gs : Gs g m H) :
    Im (tCall spRandom [] E0 (tCons (tVar j) (tCons tb tNil))) σ H (fun v H1 => (∃ d : Nat, (d : Int) < u ∧ v = .int d) ∧ Ex (er g H) H1 ∧ Gs g (m + 1) H1) := fun Q k => draw hs hb h0 h1 hm gs Q fun d H1 e1 g1 hd => k _ _ ⟨⟨d, hd, rfl⟩, e1, g1⟩
theorem q_forI {j : Nat} {R : Addr → List V → Hp → Prop} (h : Im tl σ H fun v H1 => ∃ a xs, v = .ref a ∧ SqL K H1 a xs ∧ R a xs H1)
    (k : ∀ a xs H1, SqL K H1 a xs → R a xs H1 → ∃ Pv : Nat → L2.St → Hp → Prop, Pv 0 σ H1 ∧ (∀ i σ' H', i ≤ xs.length → Pv i σ' H' → SqL K H' a xs) ∧
      (∀ i x σ' H', xs[i]? = some x → Pv i σ' H' → tu { D with nx := Pv (i + 1), ct := Pv (i + 1), bk := tz D } (σ'.set j (some x)) H') ∧ ∀ σ' H', Pv xs.length σ' H' → tz D σ' H') : tSeq (tFor (iList K tl) (gName j) tu) tz D σ H :=
  h _ fun v H1 ⟨a, xs, ev, hS, r⟩ => by
    obtain ⟨Pv, h0, hl, hs, hd⟩ := k a xs H1 hS r
    exact ⟨a, ev, ⟨xs, hS⟩, for_list (D := { D with nx := tz D }) Pv h0 hl hs hd⟩
theorem q_parE {te tb : TE} {xs : List V} {i j : Nat} (h : Ev te σ H v) (hb : ∀ H1, Ex H H1 → EvL tb σ H1 xs) (k : ∀ p H', H p = none → Ex H H' → H' p = some (.lst xs) → tz D ((σ.set i (some v)).set j (some (.ref p))) H') :
    tSeq (tPar i j (tCons te (tCons tb tNil))) tz D σ H := h H (Ex.refl _) _ fun H1 e1 => hb H1 e1 H1 (Ex.refl _) _ fun p H2 np e2 hp => ⟨_, _, rfl, k p H2 (fresh_back e1 np) (e1.trans e2) hp⟩
end
def spRight (K : PySem.W.Frag) : Sp := fun vs H Q _ => ∃ g : Addr, vs = [.ref g] ∧ Gs g 0 H ∧ ∀ H', Ex (er g H) H' → Q (.bl true) H'
section
variable {P : Program} {w : World} {K : PySem.W.Frag} {mg : Str → Option Value} {base : Heap} {f : Addr} {fd : FuncData}
theorem scRight : FnScope ["_law_generator_here", "_law_table_here", "_law_kept", "_law_numbers_here", "_law_by", "_law_width", "_law_far_here", "_law_wide"] ["_law_generator_here"] (defScope (topS 44)) := ⟨rfl, rfl, rfl, by decide +kernel, rfl, by decide +kernel, by decide +kernel⟩
theorem ok_right {fD fR fN fI fM fB fF : Addr} {dD dR dN dI dM dB dF : FuncData} (F : Fun K "_law_right" "_law_right" (topS 44) f fd) (Dw : Def P w K mg base 3 "_law_table" fD dD ["_law_generator_here", "_law_many", "_law_most"] (spDraw K))
    (R : Def P w K mg base 2 "_law_random" fR dR ["_law_generator_here", "_law_bound"] spRandom) (Nn : Def P w K mg base 1 "_law_numbers" fN dN ["_law_table_here", "_law_many"] (spNumbers K)) (Is : Def P w K mg base 1 "_law_is_whole" fI dI ["_law_told", "_law_due"] spIs)
    (M : Def P w K mg base 7 "how_many_met" fM dM ["table", "width"] (spMet K)) (B : Def P w K mg base 7 "how_many_by" fB dB ["table", "width", "by"] (spBy K)) (Fa : Def P w K mg base 2 "_law_far" fF dF ["_law_table_here", "_law_width", "_law_by"] (spBy K))
    (kM : KBinds K dM ["table", "width"] ["width", "table"] flip2 flip2) (kB : KBinds K dB ["table", "width", "by"] ["by", "width", "table"] flip3 flip3) (m2 : mg "int" = none) (m11 : mg "repr" = none) : FnG P w K mg base 8 f fd ["_law_generator_here"] (spRight K) := by
  refine gn_of F scRight (fun vs H Q E h => by obtain ⟨g, rfl, _⟩ := h; rfl) (fun cdv A outer s H vs Q E gu hr h => ?_)
  obtain ⟨g, rfl, gs, q⟩ := h
  refine ⟨_, pss_cons (ps_set (i := 1) scRight.nd rfl (.inl rfl) (pc Dw hr (pa_cons (pv 0) (pa_cons (pe_ix (r := rIxL K) ix_list (pe_lst (pa_cons pe_int (pa_cons pe_int (pa_cons pe_int (pa_cons pe_int (pa_cons pe_int (pa_cons pe_int pa_nil))))))) (pc R hr (pa_cons (pv 0) (pa_cons pe_int pa_nil))) (fun _ _ => rfl)) (pa_cons pe_int pa_nil)))))
    (pss_cons (ps_par (i := 2) (j := 3) rfl scRight.nd rfl rfl (by decide) rfl rfl (pa_cons (pe_callB (r := rShow K) (call_rep gu hr.units) (by rfl) m11 b_repr (pa_cons (pv 1) pa_nil)) (pa_cons (pc Nn hr (pa_cons (pv 1) (pa_cons pe_int pa_nil))) pa_nil)) (by rfl))
    (pss_cons (ps_set (i := 4) scRight.nd rfl (.inl rfl) (pe_op op_add pe_int (pc R hr (pa_cons (pv 0) (pa_cons (pe_ix (r := rIxL K) ix_list (pe_lst (pa_cons pe_int (pa_cons (pe_op op_sub (pe_op op_pow pe_int pe_int) pe_int) pa_nil))) (pc R hr (pa_cons (pv 0) (pa_cons pe_int pa_nil))) (fun _ _ => rfl)) pa_nil)))))
    (pss_cons (ps_for PassesOwn.never rfl (pi_list (pe_lst (pa_cons pe_int (pa_cons pe_int (pa_cons pe_int (pa_cons pe_int (pa_cons (pc R hr (pa_cons (pv 0) (pa_cons pe_int pa_nil))) (pa_cons pe_int pa_nil)))))))) (pg_name (i := 5) scRight.nd rfl (.inl rfl))
      (pss_cons (ps_if (pt_not (pt_val (pc Is hr (pa_cons (pc M hr (pa_cons (pv 1) (pa_cons (pv 5) pa_nil))) (pa_cons (pe_ix (r := rIxL K) ix_list (pv 3) (pv 5) (fun _ _ => rfl)) pa_nil))))) (pss_one (ps_ret pe_bl)) pss_nil)
      (pss_cons (ps_if (pt_not (pt_val (pc Is hr (pa_cons (pcK M kM hr (pk_cons (pv 5) (pk_cons (pv 1) pk_nil))) (pa_cons (pe_ix (r := rIxL K) ix_list (pv 3) (pv 5) (fun _ _ => rfl)) pa_nil))))) (pss_one (ps_ret pe_bl)) pss_nil)
      (pss_one (ps_if (pt_not (pt_val (pc Is hr (pa_cons (pc B hr (pa_cons (pv 1) (pa_cons (pv 5) (pa_cons (pv 4) pa_nil)))) (pa_cons (pe_op op_mod (pe_callTy call_int1 (by rfl) m2 b_int (pa_cons (pe_ix (r := rIxL K) ix_list (pv 3) (pv 5) (fun _ _ => rfl)) pa_nil)) (pv 4)) pa_nil))))) (pss_one (ps_ret pe_bl)) pss_nil)))))
    (pss_cons (ps_set (i := 6) scRight.nd rfl (.inl rfl) (pc R hr (pa_cons (pv 0) (pa_cons (pe_ix (r := rIxL K) ix_list (pe_lst (pa_cons (pe_op op_pow pe_int pe_int) (pa_cons (pe_op op_pow pe_int pe_int) pa_nil))) (pc R hr (pa_cons (pv 0) (pa_cons pe_int pa_nil))) (fun _ _ => rfl)) pa_nil))))
    (pss_cons (ps_if (pt_not (pt_val (pc Is hr (pa_cons (pcK B kB hr (pk_cons (pv 4) (pk_cons (pv 6) (pk_cons (pv 1) pk_nil)))) (pa_cons (pc Fa hr (pa_cons (pv 1) (pa_cons (pv 6) (pa_cons (pv 4) pa_nil)))) pa_nil))))) (pss_one (ps_ret pe_bl)) pss_nil)
    (pss_cons (ps_set (i := 7) scRight.nd rfl (.inl rfl) (pe_op op_add pe_int (pc R hr (pa_cons (pv 0) (pa_cons pe_int pa_nil)))))
    (pss_cons (ps_if (pt_not (pt_val (pc Is hr (pa_cons (pc M hr (pa_cons (pv 1) (pa_cons (pv 7) pa_nil))) (pa_cons (pe_ix (r := rIxL K) ix_list (pc Nn hr (pa_cons (pv 1) (pa_cons (pe_op op_add (pv 7) pe_int) pa_nil))) (pv 7) (fun _ _ => rfl)) pa_nil))))) (pss_one (ps_ret pe_bl)) pss_nil)
    (pss_one (ps_ret (pe_cmpR op_eq (pe_callB (r := rShow K) (call_rep gu hr.units) (by rfl) m11 b_repr (pa_cons (pv 1) pa_nil)) (pv 2) (nomark _))))))))))), ?_⟩
  -- the table
  refine q_asgI (P := fun v H1 => ∃ t T, v = .ref t ∧ Ex (er g H) H1 ∧ Gs g 2000 H1 ∧ TbAt K (er g H1) t T ∧ T.Ok) (fun Q' k => ⟨_, rfl, im_pick (ns := [0, 1, 2, 3, 2, 5]) (n := 6) (ea_cons ev_c (ea_cons ev_c (ea_cons ev_c (ea_cons ev_c (ea_cons ev_c (ea_cons ev_c ea_nil)))))) (Nat.le_of_ble_eq_true rfl) (by decide) (by decide) (by decide) rfl (by decide) gs _ fun v H1 hv => ?_⟩) fun v H1 hv => ?_
  · obtain ⟨⟨u, hu, rfl⟩, e1, g1⟩ := hv
    have hb : 0 ≤ u ∧ u ≤ 5 := (show ∀ u ∈ ([0, 1, 2, 3, 2, 5] : List Int), 0 ≤ u ∧ u ≤ 5 by decide) u hu
    refine ⟨g, u.toNat, 6, 1, by rw [Int.toNat_of_nonneg hb.1]; rfl, by omega, by decide, by decide, by decide, g1, fun t T H2 e2 g2 hT ok _ _ => k _ _ ⟨t, T, rfl, er_trans e1 e2, g2.le (by decide), hT, ok⟩⟩
  obtain ⟨t, T, rfl, e1, g1, hT1, ok⟩ := hv
  -- kept, numbers
  refine q_parE (ev_rep (ev_var rfl) (dp_tab (hT1.ex er_ex)) (fun _ e => dp_ex e (dp_tab (hT1.ex er_ex))) (gd_tab ok) (by decide) (by decide)) (fun H2 e2 => el_call (ea_cons (ev_var rfl) (ea_cons ev_c ea_nil)) (spl_nums (m := 61) ((hT1.ex er_ex).ex e2) ok (by decide))) fun nr H3 nn e3 hn => ?_
  have ng : nr ≠ g := g1.ne nn
  have g3 := g1.ex e3
  have hT3 := hT1.ex (er_mono e3)
  have e1 := e1.trans e3
  -- by
  have pw : ∀ {σ : L2.St} {H1 : Hp} {i j : Int}, CPow i j → Ev (tOp (rI CPow fun i j => .int (i ^ j.toNat)) (tC (.int i)) (tC (.int j))) σ H1 (.int (i ^ j.toNat)) := fun c => ev_op ev_c ev_c (rv_I c)
  refine q_asgI (P := fun v H4 => ∃ b : Int, v = .int b ∧ 2 ≤ b ∧ b ≤ 10 ^ 9 ∧ Ex (er g H3) H4 ∧ Gs g 3000 H4) (fun Q' k => ?_) fun v H4 hv => ?_
  · refine im_draw (Pp := fun u => u ∈ ([9, 10 ^ 9 - 1] : List Int)) rfl (im_pick (n := 2) (ea_cons ev_c (ea_cons (ev_op (pw ⟨by decide, by decide, by decide⟩) ev_c rv_I0) ea_nil)) (Nat.le_of_ble_eq_true rfl) (by decide) (by decide) (by decide) rfl (by decide) g3) (by decide) (by decide) _ fun v H4 hv => ?_
    obtain ⟨⟨u, d, hu, hd, rfl⟩, e4, g4⟩ := hv
    have hb : u ≤ 10 ^ 9 - 1 := (show ∀ u ∈ ([9, 10 ^ 9 - 1] : List Int), u ≤ 10 ^ 9 - 1 by decide) u hu
    exact ⟨_, _, rfl, rfl, k _ _ ⟨2 + d, rfl, by omega, by omega, e4, g4.le (by decide)⟩⟩
  obtain ⟨b, rfl, hb1, hb2, e4, g4⟩ := hv
  have hT4 := hT3.ex (er_keep e4)
  have hn4 := e4 _ _ (er_at hn ng)
  have e1 := er_trans e1 e4
  -- each width
  refine q_forI (R := fun a xs H5 => ∃ ws : List Nat, xs = ws.map (fun n : Nat => V.int (n : Int)) ∧ (∀ n, n ∈ ws → n ≤ 60) ∧ Ex (er g H4) H5 ∧ Gs g 3001 H5) (fun Q' k => by
      refine im_one (g := g) (j := 0) (m := 3000) (u := 61) rfl ev_c (by decide) (by decide) (by decide) g4 _ fun v H5 hv => ?_
      obtain ⟨⟨d, hd, rfl⟩, e5, g5⟩ := hv
      refine ⟨by show 6 ≤ sizeLine; decide, fun p np => k _ _ ⟨p, _, rfl, sq_of upd_same, [0, 1, 2, 3, d, 60], rfl, fun n hn => ?_, e5.trans (Ex.new np), g5.ex (Ex.new np)⟩⟩
      simp only [List.mem_cons, List.not_mem_nil, or_false] at hn
      omega) fun a xs H5 hS hR => ?_
  obtain ⟨ws, rfl, hws, e5, g5⟩ := hR
  have hT5 := hT4.ex (er_keep e5)
  have hn5 := e5 _ _ (er_at hn4 ng)
  have e1 := er_trans e1 e5
  have tb : ∀ {H6 : Hp}, Ex H5 H6 → TbAt K H6 t T := fun e => (hT5.ex er_ex).ex e
  refine ⟨fun i σ' H' => ∃ y5, σ' = [some (.ref g), some (.ref t), some (.str (tabD T).shown), some (.ref nr), some (.int b), y5, none, none] ∧ Ex H5 H', ⟨none, rfl, Ex.refl _⟩, fun i σ' H' _ hP => let ⟨_, _, e⟩ := hP; ex_l e hS, fun i x σ' H' hx hP => ?_, fun σ' H' hP => ?_⟩
  · obtain ⟨y5, rfl, e6⟩ := hP
    rw [List.getElem?_map] at hx
    obtain ⟨m, hm, rfl⟩ := Option.map_eq_some_iff.mp hx
    have hm60 := hws m (List.mem_of_getElem? hm)
    have num : ∀ {σ : L2.St} {H6 : Hp}, Ex H5 H6 → σ[3]? = some (some (.ref nr)) → σ[5]? = some (some (.int m)) → Ev (tOp (rIxL K) (tVar 3) (tVar 5)) σ H6 (.int (T.num m)) := fun e s3 s5 => ev_op (ev_var s3) (ev_var s5) (rv_ixL (ex_l e (sq_of hn5)) (atI_nat (vi_at (by omega))))
    have yes : ∀ i : Int, (!decide (i = i)) = false := fun i => by rw [decide_eq_true rfl]; rfl
    refine q_when (b := false) (et_is (et_not (et_B (ev_call (ea_cons (ev_call (ea_cons (ev_var rfl) (ea_cons (ev_var rfl) ea_nil)) (spv_met (tb e6) ok (by omega))) (ea_cons (num e6 rfl rfl) ea_nil)) spv_is))) (yes _)) (fun z => nomatch z) fun _ H7 e7 => ?_
    replace e6 := e6.trans e7
    refine q_when (b := false) (et_is (et_not (et_B (ev_call (ea_cons (ev_callK (ea_cons (ev_var rfl) (ea_cons (ev_var rfl) ea_nil)) (spv_met (tb e6) ok (by omega))) (ea_cons (num e6 rfl rfl) ea_nil)) spv_is))) (yes _)) (fun z => nomatch z) fun _ H8 e8 => ?_
    replace e6 := e6.trans e8
    refine s_when (b := false) (et_is (et_not (et_B (ev_call (ea_cons (ev_call (ea_cons (ev_var rfl) (ea_cons (ev_var rfl) (ea_cons (ev_var rfl) ea_nil))) (spv_by (m := m) (tb e6) ok (by omega) hb1 hb2)) (ea_cons (ev_op (ev_int_int (num e6 rfl rfl)) (ev_var rfl) (rv_I (g := fun i j => V.int (i % j)) (show 0 < b by omega))) ea_nil)) spv_is))) (by rw [byV_num]; exact yes _)) (fun z => nomatch z) fun _ H9 e9 => ⟨_, rfl, e6.trans e9⟩
  obtain ⟨y5, rfl, e6⟩ := hP
  have g6 := g5.ex e6
  have hT6 := hT5.ex (er_mono e6)
  have e1 := e1.trans e6
  generalize H' = H6 at e6 g6 hT6 e1
  -- far
  refine q_asgI (P := fun v H7 => ∃ n : Nat, v = .int n ∧ n < 10 ^ 30 ∧ Ex (er g H6) H7 ∧ Gs g 4000 H7) (fun Q' k => ?_) fun v H7 hv => ?_
  · refine im_draw (Pp := fun u => u ∈ ([10 ^ 4, 10 ^ 29] : List Int)) rfl (im_pick (n := 2) (ea_cons (pw ⟨by decide, by decide, by decide⟩) (ea_cons (pw ⟨by decide, by decide, by decide⟩) ea_nil)) (Nat.le_of_ble_eq_true rfl) (by decide) (by decide) (by decide) rfl (by decide) g6) (by decide) (by decide) _ fun v H7 hv => ?_
    obtain ⟨⟨u, d, hu, hd, rfl⟩, e7, g7⟩ := hv
    have hb : u ≤ 10 ^ 29 := (show ∀ u ∈ ([10 ^ 4, 10 ^ 29] : List Int), u ≤ 10 ^ 29 by decide) u hu
    exact k _ _ ⟨d, rfl, by omega, e7, g7.le (by decide)⟩
  obtain ⟨fw, rfl, hfw, e7, g7⟩ := hv
  have hT7 := hT6.ex (er_keep e7)
  have e1 := er_trans e1 e7
  have yes : ∀ i : Int, (!decide (i = i)) = false := fun i => by rw [decide_eq_true rfl]; rfl
  refine q_when (b := false) (et_is (et_not (et_B (ev_call (ea_cons (ev_callK (ea_cons (ev_var rfl) (ea_cons (ev_var rfl) (ea_cons (ev_var rfl) ea_nil))) (spv_by (m := fw) (hT7.ex er_ex) ok hfw hb1 hb2)) (ea_cons (ev_call (ea_cons (ev_var rfl) (ea_cons (ev_var rfl) (ea_cons (ev_var rfl) ea_nil))) (spv_by (m := fw) (hT7.ex er_ex) ok hfw hb1 hb2)) ea_nil)) spv_is))) (yes _)) (fun z => nomatch z) fun _ H8 e8 => ?_
  have g8 := g7.ex e8
  have hT8 := hT7.ex (er_mono e8)
  have e1 := e1.trans e8
  -- wide
  refine q_asgI (P := fun v H9 => ∃ n : Nat, v = .int n ∧ n ≤ 300 ∧ Ex (er g H8) H9) (fun Q' k => by
      refine im_one (g := g) (j := 0) (m := 4000) (u := 200) rfl ev_c (by decide) (by decide) (by decide) g8 _ fun v H9 hv => ?_
      obtain ⟨⟨d, hd, rfl⟩, e9, g9⟩ := hv
      exact ⟨_, _, rfl, rfl, k _ _ ⟨100 + d, rfl, by omega, e9⟩⟩) fun v H9 hv => ?_
  obtain ⟨n, rfl, hn, e9⟩ := hv
  have hT9 := hT8.ex e9
  have e1 := er_trans e1 e9
  refine q_when (b := false) (et_is (et_not (et_B (ev_call (ea_cons (ev_call (ea_cons (ev_var rfl) (ea_cons (ev_var rfl) ea_nil)) (spv_met (m := n) hT9 ok (by omega)))
    (ea_cons (ev_opL1 (el_call (ea_cons (ev_var rfl) (ea_cons (ev_is (ev_op (ev_var rfl) ev_c rv_I0) rfl) ea_nil)) (spl_nums (m := n + 1) hT9 ok (by omega))) (fun _ _ => ev_var rfl) fun p H10 hp _ => rv_ixL (sq_of hp) (atI_nat (vi_at (Nat.lt_succ_self n)))) ea_nil)) spv_is))) (yes _)) (fun z => nomatch z) fun _ H10 e10 => ?_
  have dp := dp_ex e10 (dp_tab hT9)
  exact s_ret (ev_is (ev_op (ev_rep (ev_var rfl) dp (fun _ e => dp_ex e dp) (gd_tab ok) (by decide) (by decide)) (ev_var rfl) (rv_eq rfl)) (by rw [decide_eq_true rfl])) fun H11 e11 => q H11 ((e1.trans e10).trans e11)
end
end K49

/-! the law -/
namespace K49
open PySem PySem.Spec PyProof.Rows L2 Evl
/-- a display of rows -/
def EvM (K : PySem.W.Frag) (tr : TA) (σ : L2.St) (H : Hp) (n : Nat) (row : Nat → List V) : Prop :=
  ∀ H1, Ex H H1 → ∀ Q : List V → Hp → Prop, (∀ (rs : List Addr) H2, Ex H1 H2 → rs.length = n → (∀ j r, rs[j]? = some r → SqL K H2 r (row j)) → Q (rs.map V.ref) H2) → tr σ H1 Q
section
variable {K : PySem.W.Frag} {σ : L2.St} {H : Hp} {te tb tw : TE} {tr : TA} {n m : Nat} {row : Nat → List V} {T U : Tb} {D : Ends} {tz : TS}
theorem em_nil : EvM K tNil σ H 0 row := fun H1 e Q q => q [] H1 (Ex.refl _) rfl fun j r hj => by simp at hj
theorem em_cons (h : EvL te σ H (row 0)) (hr : EvM K tr σ H n (fun j => row (j + 1))) : EvM K (tCons te tr) σ H (n + 1) row := fun H1 e Q q =>
  h H1 e _ fun p H2 _ e2 hp => hr H2 (e.trans e2) _ fun rs H3 e3 hl hrs => q (p :: rs) H3 (e2.trans e3) (by rw [List.length_cons, hl]) fun j r hj => by
    cases j with
    | zero =>
      obtain rfl := Option.some.inj hj
      exact sq_of (e3 _ _ hp)
    | succ j => exact hrs j r hj
/-- a display of a table -/
theorem ep_tab (T : Tb) (hR : EvM K tr σ H T.n (fun j => vi T.L fun l => (T.st j l : Int))) (hE : EvL te σ H (vb T.n T.en)) (hn : T.n ≤ 100000) :
    EvP (tTup (tCons (tC (.int T.many)) (tCons (tLst tr) (tCons te tNil)))) σ H (fun v H' => ∃ t, v = .ref t ∧ TbAt K H' t T) := fun H1 e Q q =>
  hR H1 e _ fun rs H2 e2 hl hrs => ⟨sz_of (by rw [List.length_map]; omega), fun p np => hE _ ((e.trans e2).trans (Ex.new np)) _ fun u H3 nu e3 hu => ⟨by show 3 ≤ sizeLine; decide, fun t nt => by
    have e3' : Ex H2 (upd H3 t (.tup [.int T.many, .ref p, .ref u])) := ((Ex.new np).trans e3).trans (Ex.new nt)
    exact q _ _ (e2.trans e3') ⟨t, rfl, p, u, st_of upd_same, ⟨rs, sq_of (Ex.new nt _ _ (e3 _ _ upd_same)), hl, fun j r hj => ex_l e3' (hrs j r hj)⟩, sq_of (Ex.new nt _ _ hu)⟩⟩⟩
theorem ev_metT (h : EvP te σ H (fun v H' => ∃ t, v = .ref t ∧ TbAt K H' t T)) (ok : T.Ok) (hw : ∀ H1, Ex H H1 → Ev tw σ H1 (.int (m : Int))) (hm : m ≤ 2000) : Ev (tCall (spMet K) [] E0 (tCons te (tCons tw tNil))) σ H (.int (T.num m)) := fun H1 e Q q =>
  h H1 e _ fun v H2 e2 ⟨t, hv, hT⟩ => hw H2 (e.trans e2) H2 (Ex.refl _) _ fun H3 e3 => by
    subst hv
    exact ⟨t, T, m, rfl, hT.ex e3, ok, hm, fun H4 e4 => q H4 ((e2.trans e3).trans e4)⟩
theorem ev_byT {b : Int} (h : EvP te σ H (fun v H' => ∃ t, v = .ref t ∧ TbAt K H' t T)) (ok : T.Ok) (hw : ∀ H1, Ex H H1 → Ev tw σ H1 (.int (m : Int))) (hm : m < 10 ^ 30) (h1 : 2 ≤ b) (h2 : b ≤ 10 ^ 9) :
    Ev (tCall (spBy K) [] E0 (tCons te (tCons tw (tCons (tC (.int b)) tNil)))) σ H (.int (T.byV b m)) := fun H1 e Q q =>
  h H1 e _ fun v H2 e2 ⟨t, hv, hT⟩ => hw H2 (e.trans e2) H2 (Ex.refl _) _ fun H3 e3 => by
    subst hv
    exact ⟨t, T, m, b, rfl, hT.ex e3, ok, hm, h1, h2, fun H4 e4 => q H4 ((e2.trans e3).trans e4)⟩
theorem q_parT {i j : Nat} (h1 : EvP te σ H (fun v H' => ∃ t, v = .ref t ∧ TbAt K H' t T)) (h2 : EvP tb σ H (fun v H' => ∃ t, v = .ref t ∧ TbAt K H' t U))
    (k : ∀ t u H', Ex H H' → TbAt K H' t T → TbAt K H' u U → tz D ((σ.set i (some (.ref t))).set j (some (.ref u))) H') : tSeq (tPar i j (tCons te (tCons tb tNil))) tz D σ H :=
  h1 H (Ex.refl _) _ fun v H2 e2 ⟨t, hv, hT⟩ => h2 H2 e2 _ fun w H3 e3 ⟨u, hw, hU⟩ => ⟨_, _, rfl, by
    subst hv hw
    exact k t u H3 (e2.trans e3) (hT.ex e3) hU⟩
theorem ev_same {ta tc : TE} {a : Addr} {ns : List Int} (ha : Ev ta σ H (.ref a)) (hs : SqL K H a (ns.map V.int)) (hc : EvL tc σ H (ns.map V.int)) (h1 : ∀ i, i ∈ ns → i.natAbs < 2 ^ 10) (h2 : ns.length ≤ 100) :
    Ev (tCall (spSame K) [] E0 (tCons ta (tCons tc tNil))) σ H (.bl true) := fun H1 e Q q =>
  ha H1 e _ fun H2 e2 => hc H2 (e.trans e2) _ fun p H3 _ e3 hp => ⟨a, p, _, rfl, dp_ints ns (ex_l ((e.trans e2).trans e3) hs), dp_ints ns (sq_of hp), gd_ints h1 h2, fun H4 e4 => q H4 ((e2.trans e3).trans e4)⟩
end
def spLaw (K : PySem.W.Frag) : Sp := fun vs H Q _ => ∃ (a : Addr) (ns : List Int), vs = [.ref a] ∧ SqL K H a (ns.map V.int) ∧ ns.length ≤ 63 ∧ RetV (.bl true) H Q
section
variable {P : Program} {w : World} {K : PySem.W.Frag} {mg : Str → Option Value} {base : Heap} {f : Addr} {fd : FuncData}
theorem told_due : [V.int (tBelow.num 2), V.int (tOdd.num 0), V.int (tOdd.num 10), V.int (tBelow.byV 7 (10 ^ 29))] = ([6, 0, 512, 1] : List Int).map V.int := by
  rw [below_two, odd_zero, odd_num 9, below_far]
  rfl
theorem scLaw : FnScope ["_law_script", "_law_index", "_law_below", "_law_odd", "_law_told"] ["_law_script"] (defScope (topS 45)) := ⟨rfl, rfl, rfl, by decide +kernel, rfl, by decide +kernel, by decide +kernel⟩
theorem ok_law {fG fR fM fB fS fP : Addr} {dG dR dM dB dS dP : FuncData} (F : Fun K "law" "law" (topS 45) f fd) (G : Def P w K mg base 2 "_law_generator" fG dG ["_law_script", "_law_index"] (spGen K))
    (R : DefG P w K mg base 8 "_law_right" fR dR ["_law_generator_here"] (spRight K)) (M : Def P w K mg base 7 "how_many_met" fM dM ["table", "width"] (spMet K)) (B : Def P w K mg base 7 "how_many_by" fB dB ["table", "width", "by"] (spBy K))
    (Sm : DefG P w K mg base 1 "_law_same" fS dS ["_law_told", "_law_due"] (spSame K)) (Pw : Def P w K mg base 1 "_law_power" fP dP ["_law_many"] spPower) (m7 : mg "range" = none) : FnG P w K mg base 9 f fd ["_law_script"] (spLaw K) := by
  refine gn_of F scLaw (fun vs H Q E h => by obtain ⟨a, ns, rfl, _⟩ := h; rfl) (fun cdv A outer s H vs Q E gu hr h => ?_)
  obtain ⟨a, ns, rfl, hS, hl, q⟩ := h
  refine ⟨_, pss_cons (ps_for PassesOwn.never rfl (pi_range1 (by rfl) m7 (pa_cons pe_int pa_nil)) (pg_name (i := 1) scLaw.nd rfl (.inl rfl)) (pss_one (ps_if (pt_not (pt_val (pcG gu R hr (pa_cons (pc G hr (pa_cons (pv 0) (pa_cons (pv 1) pa_nil))) pa_nil)))) (pss_one (ps_ret pe_bl)) pss_nil)))
    (pss_cons (ps_par (i := 2) (j := 3) rfl scLaw.nd rfl rfl (by decide) rfl rfl
      (pa_cons (pe_tup (pa_cons pe_int (pa_cons (pe_lst (pa_cons (pe_lst (pa_cons pe_int (pa_cons pe_int (pa_cons pe_int (pa_cons pe_int pa_nil))))) (pa_cons (pe_lst (pa_cons pe_int (pa_cons pe_int (pa_cons pe_int (pa_cons pe_int pa_nil))))) pa_nil))) (pa_cons (pe_lst (pa_cons pe_bl (pa_cons pe_bl pa_nil))) pa_nil))))
        (pa_cons (pe_tup (pa_cons pe_int (pa_cons (pe_lst (pa_cons (pe_lst (pa_cons pe_int (pa_cons pe_int pa_nil))) (pa_cons (pe_lst (pa_cons pe_int (pa_cons pe_int pa_nil))) pa_nil))) (pa_cons (pe_lst (pa_cons pe_bl (pa_cons pe_bl pa_nil))) pa_nil)))) pa_nil)) (by rfl))
    (pss_cons (ps_set (i := 4) scLaw.nd rfl (.inl rfl) (pe_lst (pa_cons (pc M hr (pa_cons (pv 2) (pa_cons pe_int pa_nil))) (pa_cons (pc M hr (pa_cons (pv 3) (pa_cons pe_int pa_nil))) (pa_cons (pc M hr (pa_cons (pv 3) (pa_cons pe_int pa_nil))) (pa_cons (pc B hr (pa_cons (pv 2) (pa_cons (pe_op op_pow pe_int pe_int) (pa_cons pe_int pa_nil)))) pa_nil))))))
    (pss_cons (ps_if (PW.pt (pw_or (pt_not (pt_val (pcG gu Sm hr (pa_cons (pv 4) (pa_cons (pe_lst (pa_cons pe_int (pa_cons pe_int (pa_cons pe_int (pa_cons pe_int pa_nil))))) pa_nil))))) (pw_or1 (pt_cmpR op_ne (pc M hr (pa_cons (pv 3) (pa_cons pe_int pa_nil))) (pc Pw hr (pa_cons pe_int pa_nil)) (nomark _))))) (pss_one (ps_ret pe_bl)) pss_nil)
    (pss_one (ps_ret (pe_and (pe_cmpR op_eq (pc M hr (pa_cons (pe_tup (pa_cons pe_int (pa_cons (pe_lst (pa_cons (pe_lst (pa_cons pe_int pa_nil)) pa_nil)) (pa_cons (pe_lst (pa_cons pe_bl pa_nil)) pa_nil)))) (pa_cons pe_int pa_nil))) pe_int (nomark _))
      (pe_one (pe_cmpR op_eq (pc B hr (pa_cons (pe_tup (pa_cons pe_int (pa_cons (pe_lst (pa_cons (pe_op op_rep (pe_lst (pa_cons pe_int pa_nil)) pe_int) pa_nil)) (pa_cons (pe_lst (pa_cons pe_bl pa_nil)) pa_nil)))) (pa_cons (pe_op op_sub (pe_op op_pow pe_int pe_int) pe_int) (pa_cons pe_int pa_nil)))) pe_int (nomark _))))))))), ?_⟩
  refine q_forR1 (n := 3) (ea_cons ev_c ea_nil) (by decide) (fun i σ' H' => ∃ y1, σ' = [some (.ref a), y1, none, none, none] ∧ Ex H H') (fun H1 e1 => ⟨none, rfl, e1⟩) (fun i σ' H' hi hP => ?_) fun σ' H' hP => ?_
  · obtain ⟨y1, rfl, e1⟩ := hP
    refine ⟨_, rfl, _, rfl, a, ns, i, rfl, ex_l e1 hS, hl, by omega, fun g H2 ng e2 gs => ⟨g, rfl, gs, fun H3 e3 => ⟨true, rfl, ?_⟩⟩⟩
    show ∃ y1', _ = [some (V.ref a), y1', none, none, none] ∧ _
    exact ⟨_, rfl, (e1.trans (er_in ng e2)).trans e3⟩
  obtain ⟨y1, rfl, e1⟩ := hP
  have pw : ∀ {σ : L2.St} {H1 : Hp} {i j : Int}, CPow i j → Ev (tOp (rI CPow fun i j => .int (i ^ j.toNat)) (tC (.int i)) (tC (.int j))) σ H1 (.int (i ^ j.toNat)) := fun c => ev_op ev_c ev_c (rv_I c)
  refine q_parT (ep_tab (K := K) tBelow (em_cons (el_is (el_lst (ea_cons ev_c (ea_cons ev_c (ea_cons ev_c (ea_cons ev_c ea_nil)))) (Nat.le_of_ble_eq_true rfl)) rfl) (em_cons (el_is (el_lst (ea_cons ev_c (ea_cons ev_c (ea_cons ev_c (ea_cons ev_c ea_nil)))) (Nat.le_of_ble_eq_true rfl)) rfl) em_nil)) (el_is (el_lst (ea_cons ev_c (ea_cons ev_c ea_nil)) (Nat.le_of_ble_eq_true rfl)) rfl) (by decide))
    (ep_tab (K := K) tOdd (em_cons (el_is (el_lst (ea_cons ev_c (ea_cons ev_c ea_nil)) (Nat.le_of_ble_eq_true rfl)) rfl) (em_cons (el_is (el_lst (ea_cons ev_c (ea_cons ev_c ea_nil)) (Nat.le_of_ble_eq_true rfl)) rfl) em_nil)) (el_is (el_lst (ea_cons ev_c (ea_cons ev_c ea_nil)) (Nat.le_of_ble_eq_true rfl)) rfl) (by decide)) fun tb to H2 e2 hB hO => ?_
  refine q_asgL (el_is (el_lst (ea_cons (ev_call (ea_cons (ev_var rfl) (ea_cons ev_c ea_nil)) (spv_met (m := 2) hB okBelow (by decide))) (ea_cons (ev_call (ea_cons (ev_var rfl) (ea_cons ev_c ea_nil)) (spv_met (m := 0) hO okOdd (by decide))) (ea_cons (ev_call (ea_cons (ev_var rfl) (ea_cons ev_c ea_nil)) (spv_met (m := 10) hO okOdd (by decide)))
    (ea_cons (ev_call (ea_cons (ev_var rfl) (ea_cons (ev_is (pw ⟨by decide, by decide, by decide⟩) (congrArg V.int (show (10 : Int) ^ (29 : Int).toNat = ((10 ^ 29 : Nat) : Int) by decide +kernel))) (ea_cons ev_c ea_nil))) (spv_by (m := 10 ^ 29) (b := 7) hB okBelow (by decide) (by decide) (by decide))) ea_nil)))) (Nat.le_of_ble_eq_true rfl)) told_due) fun td H3 nt e3 htd => ?_
  have hO3 := hO.ex e3
  refine q_when (b := false) (et_is (et_or (et_not (et_B (ev_same (ns := [6, 0, 512, 1]) (ev_var rfl) (sq_of htd) (el_lst (ea_cons ev_c (ea_cons ev_c (ea_cons ev_c (ea_cons ev_c ea_nil)))) (Nat.le_of_ble_eq_true rfl)) (by decide) (by decide)))) fun _ => et_test (ev_op (ev_call (ea_cons (ev_var rfl) (ea_cons ev_c ea_nil)) (spv_met (m := 2000) hO3 okOdd (by decide))) (ev_call (ea_cons ev_c ea_nil) (spv_power (m := 1999) (by decide))) (rv_ne rfl))) ?_) (fun z => nomatch z) fun _ H4 e4 => ?_
  · rw [odd_num 1999, decide_eq_true rfl]
    rfl
  refine s_ret (ev_is (ev_andV (ev_op (ev_metT (m := 2000) (ep_tab (K := K) tOne (em_cons (el_is (el_lst (ea_cons ev_c ea_nil) (Nat.le_of_ble_eq_true rfl)) rfl) em_nil) (el_is (el_lst (ea_cons ev_c ea_nil) (Nat.le_of_ble_eq_true rfl)) rfl) (by decide)) okOne (fun _ _ => ev_c) (by decide)) ev_c (rv_eq rfl)) fun _ =>
    ev_op (ev_byT (m := 10 ^ 30 - 1) (b := 2) (ep_tab (K := K) tWide (em_cons (el_is (el_rep (x := .int 0) (n := 64) (el_lst (ea_cons ev_c ea_nil) (Nat.le_of_ble_eq_true rfl)) ev_c (by decide)) rfl) em_nil) (el_is (el_lst (ea_cons ev_c ea_nil) (Nat.le_of_ble_eq_true rfl)) rfl) (by decide)) okWide
      (fun _ _ => ev_is (ev_op (pw ⟨by decide, by decide, by decide⟩) ev_c rv_I0) (congrArg V.int (show (10 : Int) ^ (30 : Int).toNat - 1 = ((10 ^ 30 - 1 : Nat) : Int) by decide +kernel))) (by decide) (by decide) (by decide)) ev_c (rv_eq rfl)) ?_) fun H5 e5 => q H5 ((((e1.trans e2).trans e3).trans e4).trans e5)
  rw [one_num, wide_far, decide_eq_true rfl, decide_eq_true rfl]
  rfl
end
end K49

/-! what the top has written; the law's own head -/
namespace K49
open PySem PySem.Spec PyProof.Rows L2 Evl
theorem all_mk {l : PySem.W.OpenLaw} {w : World} {K : PySem.W.Frag} {h : Heap} {mg : Str → Option Value} {fa : Addr} (X : K.In h) (G : h.Ns mainGlobals mg) (hfa : mg "law" = some (.ref fa))
    {f8 : Addr} {od8 an8 : Option Addr} {sl8 : Array (Option Value)} {oc8 kV8 dc8 pm8 cd8 ct8 : Value}
    {f9 : Addr} {od9 an9 : Option Addr} {sl9 : Array (Option Value)} {oc9 kV9 dc9 pm9 cd9 ct9 : Value}
    {f10 : Addr} {od10 an10 : Option Addr} {sl10 : Array (Option Value)} {oc10 kV10 dc10 pm10 cd10 ct10 : Value}
    {f11 : Addr} {od11 an11 : Option Addr} {sl11 : Array (Option Value)} {oc11 kV11 dc11 pm11 cd11 ct11 : Value}
    {f12 : Addr} {od12 an12 : Option Addr} {sl12 : Array (Option Value)} {oc12 kV12 dc12 pm12 cd12 ct12 : Value}
    {f14 : Addr} {od14 an14 : Option Addr} {sl14 : Array (Option Value)} {oc14 kV14 dc14 pm14 cd14 ct14 : Value}
    {f16 : Addr} {od16 an16 : Option Addr} {sl16 : Array (Option Value)} {oc16 kV16 dc16 pm16 cd16 ct16 : Value}
    {f18 : Addr} {od18 an18 : Option Addr} {sl18 : Array (Option Value)} {oc18 kV18 dc18 pm18 cd18 ct18 : Value}
    {f24 : Addr} {od24 an24 : Option Addr} {sl24 : Array (Option Value)} {oc24 kV24 dc24 pm24 cd24 ct24 : Value}
    {f25 : Addr} {od25 an25 : Option Addr} {sl25 : Array (Option Value)} {oc25 kV25 dc25 pm25 cd25 ct25 : Value}
    {f26 : Addr} {od26 an26 : Option Addr} {sl26 : Array (Option Value)} {oc26 kV26 dc26 pm26 cd26 ct26 : Value}
    {f27 : Addr} {od27 an27 : Option Addr} {sl27 : Array (Option Value)} {oc27 kV27 dc27 pm27 cd27 ct27 : Value}
    {f28 : Addr} {od28 an28 : Option Addr} {sl28 : Array (Option Value)} {oc28 kV28 dc28 pm28 cd28 ct28 : Value}
    {f29 : Addr} {od29 an29 : Option Addr} {sl29 : Array (Option Value)} {oc29 kV29 dc29 pm29 cd29 ct29 : Value}
    {f30 : Addr} {od30 an30 : Option Addr} {sl30 : Array (Option Value)} {oc30 kV30 dc30 pm30 cd30 ct30 : Value}
    {f31 : Addr} {od31 an31 : Option Addr} {sl31 : Array (Option Value)} {oc31 kV31 dc31 pm31 cd31 ct31 : Value}
    {f33 : Addr} {od33 an33 : Option Addr} {sl33 : Array (Option Value)} {oc33 kV33 dc33 pm33 cd33 ct33 : Value}
    {f34 : Addr} {od34 an34 : Option Addr} {sl34 : Array (Option Value)} {oc34 kV34 dc34 pm34 cd34 ct34 : Value}
    {f35 : Addr} {od35 an35 : Option Addr} {sl35 : Array (Option Value)} {oc35 kV35 dc35 pm35 cd35 ct35 : Value}
    {f36 : Addr} {od36 an36 : Option Addr} {sl36 : Array (Option Value)} {oc36 kV36 dc36 pm36 cd36 ct36 : Value}
    {f37 : Addr} {od37 an37 : Option Addr} {sl37 : Array (Option Value)} {oc37 kV37 dc37 pm37 cd37 ct37 : Value}
    {f38 : Addr} {od38 an38 : Option Addr} {sl38 : Array (Option Value)} {oc38 kV38 dc38 pm38 cd38 ct38 : Value}
    {f39 : Addr} {od39 an39 : Option Addr} {sl39 : Array (Option Value)} {oc39 kV39 dc39 pm39 cd39 ct39 : Value}
    {f40 : Addr} {od40 an40 : Option Addr} {sl40 : Array (Option Value)} {oc40 kV40 dc40 pm40 cd40 ct40 : Value}
    {f41 : Addr} {od41 an41 : Option Addr} {sl41 : Array (Option Value)} {oc41 kV41 dc41 pm41 cd41 ct41 : Value}
    {f42 : Addr} {od42 an42 : Option Addr} {sl42 : Array (Option Value)} {oc42 kV42 dc42 pm42 cd42 ct42 : Value}
    {f43 : Addr} {od43 an43 : Option Addr} {sl43 : Array (Option Value)} {oc43 kV43 dc43 pm43 cd43 ct43 : Value}
    {f44 : Addr} {od44 an44 : Option Addr} {sl44 : Array (Option Value)} {oc44 kV44 dc44 pm44 cd44 ct44 : Value}
    {f45 : Addr} {od45 an45 : Option Addr} {sl45 : Array (Option Value)} {oc45 kV45 dc45 pm45 cd45 ct45 : Value}
    {t_MOST_NAMES t_MOST_WIDTH t_FAR t_MOST_STANDS t_MOST_BY : Tok}
    (a8 : PySem.W.nsIn K mainGlobals "is_whole" = some (some (.ref f8))) (l8 : K.lookup f8 = some ⟨oc8, od8, .func (PySem.W.fnOf "is_whole" "is_whole" (defArgs (topS 8)) (defBody (topS 8)) (defScope (topS 8)) .none kV8 dc8 pm8 an8 cd8 ct8), sl8⟩) (c8 : PySem.W.codeIn K cd8 "is_whole" = true) (k8 : PySem.W.keepIn K (.ref f8) = true)
    (a9 : PySem.W.nsIn K mainGlobals "is_count" = some (some (.ref f9))) (l9 : K.lookup f9 = some ⟨oc9, od9, .func (PySem.W.fnOf "is_count" "is_count" (defArgs (topS 9)) (defBody (topS 9)) (defScope (topS 9)) .none kV9 dc9 pm9 an9 cd9 ct9), sl9⟩) (c9 : PySem.W.codeIn K cd9 "is_count" = true) (k9 : PySem.W.keepIn K (.ref f9) = true)
    (a10 : PySem.W.nsIn K mainGlobals "check_number" = some (some (.ref f10))) (l10 : K.lookup f10 = some ⟨oc10, od10, .func (PySem.W.fnOf "check_number" "check_number" (defArgs (topS 10)) (defBody (topS 10)) (defScope (topS 10)) .none kV10 dc10 pm10 an10 cd10 ct10), sl10⟩) (c10 : PySem.W.codeIn K cd10 "check_number" = true) (k10 : PySem.W.keepIn K (.ref f10) = true)
    (a11 : PySem.W.nsIn K mainGlobals "power_of_two" = some (some (.ref f11))) (l11 : K.lookup f11 = some ⟨oc11, od11, .func (PySem.W.fnOf "power_of_two" "power_of_two" (defArgs (topS 11)) (defBody (topS 11)) (defScope (topS 11)) .none kV11 dc11 pm11 an11 cd11 ct11), sl11⟩) (c11 : PySem.W.codeIn K cd11 "power_of_two" = true) (k11 : PySem.W.keepIn K (.ref f11) = true)
    (a12 : PySem.W.nsIn K mainGlobals "is_table_kinds" = some (some (.ref f12))) (l12 : K.lookup f12 = some ⟨oc12, od12, .func (PySem.W.fnOf "is_table" "is_table" (defArgs (topS 12)) (defBody (topS 12)) (defScope (topS 12)) .none kV12 dc12 pm12 an12 cd12 ct12), sl12⟩) (c12 : PySem.W.codeIn K cd12 "is_table" = true) (k12 : PySem.W.keepIn K (.ref f12) = true)
    (a14 : PySem.W.nsIn K mainGlobals "are_stands" = some (some (.ref f14))) (l14 : K.lookup f14 = some ⟨oc14, od14, .func (PySem.W.fnOf "are_stands" "are_stands" (defArgs (topS 14)) (defBody (topS 14)) (defScope (topS 14)) .none kV14 dc14 pm14 an14 cd14 ct14), sl14⟩) (c14 : PySem.W.codeIn K cd14 "are_stands" = true) (k14 : PySem.W.keepIn K (.ref f14) = true)
    (a16 : PySem.W.nsIn K mainGlobals "is_table_tables" = some (some (.ref f16))) (l16 : K.lookup f16 = some ⟨oc16, od16, .func (PySem.W.fnOf "is_table" "is_table" (defArgs (topS 16)) (defBody (topS 16)) (defScope (topS 16)) .none kV16 dc16 pm16 an16 cd16 ct16), sl16⟩) (c16 : PySem.W.codeIn K cd16 "is_table" = true) (k16 : PySem.W.keepIn K (.ref f16) = true)
    (a18 : PySem.W.nsIn K mainGlobals "check_table" = some (some (.ref f18))) (l18 : K.lookup f18 = some ⟨oc18, od18, .func (PySem.W.fnOf "check_table" "check_table" (defArgs (topS 18)) (defBody (topS 18)) (defScope (topS 18)) .none kV18 dc18 pm18 an18 cd18 ct18), sl18⟩) (c18 : PySem.W.codeIn K cd18 "check_table" = true) (k18 : PySem.W.keepIn K (.ref f18) = true)
    (a24 : PySem.W.nsIn K mainGlobals "steps_counted" = some (some (.ref f24))) (l24 : K.lookup f24 = some ⟨oc24, od24, .func (PySem.W.fnOf "steps_counted" "steps_counted" (defArgs (topS 24)) (defBody (topS 24)) (defScope (topS 24)) .none kV24 dc24 pm24 an24 cd24 ct24), sl24⟩) (c24 : PySem.W.codeIn K cd24 "steps_counted" = true) (k24 : PySem.W.keepIn K (.ref f24) = true)
    (a25 : PySem.W.nsIn K mainGlobals "moved" = some (some (.ref f25))) (l25 : K.lookup f25 = some ⟨oc25, od25, .func (PySem.W.fnOf "moved" "moved" (defArgs (topS 25)) (defBody (topS 25)) (defScope (topS 25)) .none kV25 dc25 pm25 an25 cd25 ct25), sl25⟩) (c25 : PySem.W.codeIn K cd25 "moved" = true) (k25 : PySem.W.keepIn K (.ref f25) = true)
    (a26 : PySem.W.nsIn K mainGlobals "numbers_to" = some (some (.ref f26))) (l26 : K.lookup f26 = some ⟨oc26, od26, .func (PySem.W.fnOf "numbers_to" "numbers_to" (defArgs (topS 26)) (defBody (topS 26)) (defScope (topS 26)) .none kV26 dc26 pm26 an26 cd26 ct26), sl26⟩) (c26 : PySem.W.codeIn K cd26 "numbers_to" = true) (k26 : PySem.W.keepIn K (.ref f26) = true)
    (a27 : PySem.W.nsIn K mainGlobals "how_many_met" = some (some (.ref f27))) (l27 : K.lookup f27 = some ⟨oc27, od27, .func (PySem.W.fnOf "how_many_met" "how_many_met" (defArgs (topS 27)) (defBody (topS 27)) (defScope (topS 27)) .none kV27 dc27 pm27 an27 cd27 ct27), sl27⟩) (c27 : PySem.W.codeIn K cd27 "how_many_met" = true) (k27 : PySem.W.keepIn K (.ref f27) = true)
    (a28 : PySem.W.nsIn K mainGlobals "check_few" = some (some (.ref f28))) (l28 : K.lookup f28 = some ⟨oc28, od28, .func (PySem.W.fnOf "check_few" "check_few" (defArgs (topS 28)) (defBody (topS 28)) (defScope (topS 28)) .none kV28 dc28 pm28 an28 cd28 ct28), sl28⟩) (c28 : PySem.W.codeIn K cd28 "check_few" = true) (k28 : PySem.W.keepIn K (.ref f28) = true)
    (a29 : PySem.W.nsIn K mainGlobals "multiplied" = some (some (.ref f29))) (l29 : K.lookup f29 = some ⟨oc29, od29, .func (PySem.W.fnOf "multiplied" "multiplied" (defArgs (topS 29)) (defBody (topS 29)) (defScope (topS 29)) .none kV29 dc29 pm29 an29 cd29 ct29), sl29⟩) (c29 : PySem.W.codeIn K cd29 "multiplied" = true) (k29 : PySem.W.keepIn K (.ref f29) = true)
    (a30 : PySem.W.nsIn K mainGlobals "power_by" = some (some (.ref f30))) (l30 : K.lookup f30 = some ⟨oc30, od30, .func (PySem.W.fnOf "power_by" "power_by" (defArgs (topS 30)) (defBody (topS 30)) (defScope (topS 30)) .none kV30 dc30 pm30 an30 cd30 ct30), sl30⟩) (c30 : PySem.W.codeIn K cd30 "power_by" = true) (k30 : PySem.W.keepIn K (.ref f30) = true)
    (a31 : PySem.W.nsIn K mainGlobals "how_many_by" = some (some (.ref f31))) (l31 : K.lookup f31 = some ⟨oc31, od31, .func (PySem.W.fnOf "how_many_by" "how_many_by" (defArgs (topS 31)) (defBody (topS 31)) (defScope (topS 31)) .none kV31 dc31 pm31 an31 cd31 ct31), sl31⟩) (c31 : PySem.W.codeIn K cd31 "how_many_by" = true) (k31 : PySem.W.keepIn K (.ref f31) = true)
    (a33 : PySem.W.nsIn K mainGlobals "_law_hash" = some (some (.ref f33))) (l33 : K.lookup f33 = some ⟨oc33, od33, .func (PySem.W.fnOf "_law_hash" "_law_hash" (defArgs (topS 33)) (defBody (topS 33)) (defScope (topS 33)) .none kV33 dc33 pm33 an33 cd33 ct33), sl33⟩) (c33 : PySem.W.codeIn K cd33 "_law_hash" = true) (k33 : PySem.W.keepIn K (.ref f33) = true)
    (a34 : PySem.W.nsIn K mainGlobals "_law_random" = some (some (.ref f34))) (l34 : K.lookup f34 = some ⟨oc34, od34, .func (PySem.W.fnOf "_law_random" "_law_random" (defArgs (topS 34)) (defBody (topS 34)) (defScope (topS 34)) .none kV34 dc34 pm34 an34 cd34 ct34), sl34⟩) (c34 : PySem.W.codeIn K cd34 "_law_random" = true) (k34 : PySem.W.keepIn K (.ref f34) = true)
    (a35 : PySem.W.nsIn K mainGlobals "_law_cell" = some (some (.ref f35))) (l35 : K.lookup f35 = some ⟨oc35, od35, .func (PySem.W.fnOf "_law_cell" "_law_cell" (defArgs (topS 35)) (defBody (topS 35)) (defScope (topS 35)) .none kV35 dc35 pm35 an35 cd35 ct35), sl35⟩) (c35 : PySem.W.codeIn K cd35 "_law_cell" = true) (k35 : PySem.W.keepIn K (.ref f35) = true)
    (a36 : PySem.W.nsIn K mainGlobals "_law_generator" = some (some (.ref f36))) (l36 : K.lookup f36 = some ⟨oc36, od36, .func (PySem.W.fnOf "_law_generator" "_law_generator" (defArgs (topS 36)) (defBody (topS 36)) (defScope (topS 36)) .none kV36 dc36 pm36 an36 cd36 ct36), sl36⟩) (c36 : PySem.W.codeIn K cd36 "_law_generator" = true) (k36 : PySem.W.keepIn K (.ref f36) = true)
    (a37 : PySem.W.nsIn K mainGlobals "_law_same" = some (some (.ref f37))) (l37 : K.lookup f37 = some ⟨oc37, od37, .func (PySem.W.fnOf "_law_same" "_law_same" (defArgs (topS 37)) (defBody (topS 37)) (defScope (topS 37)) .none kV37 dc37 pm37 an37 cd37 ct37), sl37⟩) (c37 : PySem.W.codeIn K cd37 "_law_same" = true) (k37 : PySem.W.keepIn K (.ref f37) = true)
    (a38 : PySem.W.nsIn K mainGlobals "_law_is_whole" = some (some (.ref f38))) (l38 : K.lookup f38 = some ⟨oc38, od38, .func (PySem.W.fnOf "_law_is_whole" "_law_is_whole" (defArgs (topS 38)) (defBody (topS 38)) (defScope (topS 38)) .none kV38 dc38 pm38 an38 cd38 ct38), sl38⟩) (c38 : PySem.W.codeIn K cd38 "_law_is_whole" = true) (k38 : PySem.W.keepIn K (.ref f38) = true)
    (a39 : PySem.W.nsIn K mainGlobals "_law_power" = some (some (.ref f39))) (l39 : K.lookup f39 = some ⟨oc39, od39, .func (PySem.W.fnOf "_law_power" "_law_power" (defArgs (topS 39)) (defBody (topS 39)) (defScope (topS 39)) .none kV39 dc39 pm39 an39 cd39 ct39), sl39⟩) (c39 : PySem.W.codeIn K cd39 "_law_power" = true) (k39 : PySem.W.keepIn K (.ref f39) = true)
    (a40 : PySem.W.nsIn K mainGlobals "_law_table" = some (some (.ref f40))) (l40 : K.lookup f40 = some ⟨oc40, od40, .func (PySem.W.fnOf "_law_table" "_law_table" (defArgs (topS 40)) (defBody (topS 40)) (defScope (topS 40)) .none kV40 dc40 pm40 an40 cd40 ct40), sl40⟩) (c40 : PySem.W.codeIn K cd40 "_law_table" = true) (k40 : PySem.W.keepIn K (.ref f40) = true)
    (a41 : PySem.W.nsIn K mainGlobals "_law_numbers" = some (some (.ref f41))) (l41 : K.lookup f41 = some ⟨oc41, od41, .func (PySem.W.fnOf "_law_numbers" "_law_numbers" (defArgs (topS 41)) (defBody (topS 41)) (defScope (topS 41)) .none kV41 dc41 pm41 an41 cd41 ct41), sl41⟩) (c41 : PySem.W.codeIn K cd41 "_law_numbers" = true) (k41 : PySem.W.keepIn K (.ref f41) = true)
    (a42 : PySem.W.nsIn K mainGlobals "_law_times" = some (some (.ref f42))) (l42 : K.lookup f42 = some ⟨oc42, od42, .func (PySem.W.fnOf "_law_times" "_law_times" (defArgs (topS 42)) (defBody (topS 42)) (defScope (topS 42)) .none kV42 dc42 pm42 an42 cd42 ct42), sl42⟩) (c42 : PySem.W.codeIn K cd42 "_law_times" = true) (k42 : PySem.W.keepIn K (.ref f42) = true)
    (a43 : PySem.W.nsIn K mainGlobals "_law_far" = some (some (.ref f43))) (l43 : K.lookup f43 = some ⟨oc43, od43, .func (PySem.W.fnOf "_law_far" "_law_far" (defArgs (topS 43)) (defBody (topS 43)) (defScope (topS 43)) .none kV43 dc43 pm43 an43 cd43 ct43), sl43⟩) (c43 : PySem.W.codeIn K cd43 "_law_far" = true) (k43 : PySem.W.keepIn K (.ref f43) = true)
    (a44 : PySem.W.nsIn K mainGlobals "_law_right" = some (some (.ref f44))) (l44 : K.lookup f44 = some ⟨oc44, od44, .func (PySem.W.fnOf "_law_right" "_law_right" (defArgs (topS 44)) (defBody (topS 44)) (defScope (topS 44)) .none kV44 dc44 pm44 an44 cd44 ct44), sl44⟩) (c44 : PySem.W.codeIn K cd44 "_law_right" = true) (k44 : PySem.W.keepIn K (.ref f44) = true)
    (a45 : PySem.W.nsIn K mainGlobals "law" = some (some (.ref f45))) (l45 : K.lookup f45 = some ⟨oc45, od45, .func (PySem.W.fnOf "law" "law" (defArgs (topS 45)) (defBody (topS 45)) (defScope (topS 45)) .none kV45 dc45 pm45 an45 cd45 ct45), sl45⟩) (c45 : PySem.W.codeIn K cd45 "law" = true) (k45 : PySem.W.keepIn K (.ref f45) = true)
    (z_isinstance : PySem.W.nsIn K mainGlobals "isinstance" = some none)
    (z_int : PySem.W.nsIn K mainGlobals "int" = some none)
    (z_bool : PySem.W.nsIn K mainGlobals "bool" = some none)
    (z_list : PySem.W.nsIn K mainGlobals "list" = some none)
    (z_tuple : PySem.W.nsIn K mainGlobals "tuple" = some none)
    (z_len : PySem.W.nsIn K mainGlobals "len" = some none)
    (z_range : PySem.W.nsIn K mainGlobals "range" = some none)
    (z_sum : PySem.W.nsIn K mainGlobals "sum" = some none)
    (z_zip : PySem.W.nsIn K mainGlobals "zip" = some none)
    (z_enumerate : PySem.W.nsIn K mainGlobals "enumerate" = some none)
    (z_max : PySem.W.nsIn K mainGlobals "max" = some none)
    (z_repr : PySem.W.nsIn K mainGlobals "repr" = some none)
    (v_MOST_NAMES : PySem.W.nsIn K mainGlobals "MOST_NAMES" = some (some (.int 6 t_MOST_NAMES)))
    (v_MOST_WIDTH : PySem.W.nsIn K mainGlobals "MOST_WIDTH" = some (some (.int 2000 t_MOST_WIDTH)))
    (v_FAR : PySem.W.nsIn K mainGlobals "FAR" = some (some (.int 1000000000000000000000000000000 t_FAR)))
    (v_MOST_STANDS : PySem.W.nsIn K mainGlobals "MOST_STANDS" = some (some (.int 30 t_MOST_STANDS)))
    (v_MOST_BY : PySem.W.nsIn K mainGlobals "MOST_BY" = some (some (.int 1000000000 t_MOST_BY)))
    : ∃ fd : FuncData, (∀ (s : Shared) (u : Value), BindsTo s fd ⟨[u], []⟩ [("_law_script", u)]) ∧ ∀ base : Heap, K.In base → base.Ns mainGlobals mg → FnG l.prog w K mg base 9 fa fd ["_law_script"] (spLaw K) := by
  have e := hfa.symm.trans (PySem.W.mg_of X G a45)
  cases e
  have n_isinstance := PySem.W.mg_none_of X G z_isinstance
  have n_int := PySem.W.mg_none_of X G z_int
  have n_bool := PySem.W.mg_none_of X G z_bool
  have n_list := PySem.W.mg_none_of X G z_list
  have n_tuple := PySem.W.mg_none_of X G z_tuple
  have n_len := PySem.W.mg_none_of X G z_len
  have n_range := PySem.W.mg_none_of X G z_range
  have n_sum := PySem.W.mg_none_of X G z_sum
  have n_zip := PySem.W.mg_none_of X G z_zip
  have n_enumerate := PySem.W.mg_none_of X G z_enumerate
  have n_max := PySem.W.mg_none_of X G z_max
  have n_repr := PySem.W.mg_none_of X G z_repr
  have c_MOST_NAMES := PySem.W.mg_of X G v_MOST_NAMES
  have c_MOST_WIDTH := PySem.W.mg_of X G v_MOST_WIDTH
  have c_FAR := PySem.W.mg_of X G v_FAR
  have c_MOST_STANDS := PySem.W.mg_of X G v_MOST_STANDS
  have c_MOST_BY := PySem.W.mg_of X G v_MOST_BY
  have g8 := PySem.W.mg_of X G a8
  have F8 := fun_mk (x := "is_whole") (qual := "is_whole") (st := topS 8) l8 c8 k8
  have b8 := F8.binds (ps := ["value"]) fun _ _ _ _ _ _ us hl => match us, hl with | [_], _ => rfl
  have g9 := PySem.W.mg_of X G a9
  have F9 := fun_mk (x := "is_count") (qual := "is_count") (st := topS 9) l9 c9 k9
  have b9 := F9.binds (ps := ["value"]) fun _ _ _ _ _ _ us hl => match us, hl with | [_], _ => rfl
  have g10 := PySem.W.mg_of X G a10
  have F10 := fun_mk (x := "check_number") (qual := "check_number") (st := topS 10) l10 c10 k10
  have b10 := F10.binds (ps := ["number", "low", "high"]) fun _ _ _ _ _ _ us hl => match us, hl with | [_, _, _], _ => rfl
  have g11 := PySem.W.mg_of X G a11
  have F11 := fun_mk (x := "power_of_two") (qual := "power_of_two") (st := topS 11) l11 c11 k11
  have b11 := F11.binds (ps := ["many"]) fun _ _ _ _ _ _ us hl => match us, hl with | [_], _ => rfl
  have g12 := PySem.W.mg_of X G a12
  have F12 := fun_mk (x := "is_table") (qual := "is_table") (st := topS 12) l12 c12 k12
  have b12 := F12.binds (ps := ["value"]) fun _ _ _ _ _ _ us hl => match us, hl with | [_], _ => rfl
  have g14 := PySem.W.mg_of X G a14
  have F14 := fun_mk (x := "are_stands") (qual := "are_stands") (st := topS 14) l14 c14 k14
  have b14 := F14.binds (ps := ["most", "many", "value"]) fun _ _ _ _ _ _ us hl => match us, hl with | [_, _, _], _ => rfl
  have g16 := PySem.W.mg_of X G a16
  have F16 := fun_mk (x := "is_table") (qual := "is_table") (st := topS 16) l16 c16 k16
  have b16 := F16.binds (ps := ["value"]) fun _ _ _ _ _ _ us hl => match us, hl with | [_], _ => rfl
  have g18 := PySem.W.mg_of X G a18
  have F18 := fun_mk (x := "check_table") (qual := "check_table") (st := topS 18) l18 c18 k18
  have b18 := F18.binds (ps := ["table"]) fun _ _ _ _ _ _ us hl => match us, hl with | [_], _ => rfl
  have g24 := PySem.W.mg_of X G a24
  have F24 := fun_mk (x := "steps_counted") (qual := "steps_counted") (st := topS 24) l24 c24 k24
  have b24 := F24.binds (ps := ["table"]) fun _ _ _ _ _ _ us hl => match us, hl with | [_], _ => rfl
  have g25 := PySem.W.mg_of X G a25
  have F25 := fun_mk (x := "moved") (qual := "moved") (st := topS 25) l25 c25 k25
  have b25 := F25.binds (ps := ["steps", "ways"]) fun _ _ _ _ _ _ us hl => match us, hl with | [_, _], _ => rfl
  have g26 := PySem.W.mg_of X G a26
  have F26 := fun_mk (x := "numbers_to") (qual := "numbers_to") (st := topS 26) l26 c26 k26
  have b26 := F26.binds (ps := ["table", "many"]) fun _ _ _ _ _ _ us hl => match us, hl with | [_, _], _ => rfl
  have g27 := PySem.W.mg_of X G a27
  have F27 := fun_mk (x := "how_many_met") (qual := "how_many_met") (st := topS 27) l27 c27 k27
  have b27 := F27.binds (ps := ["table", "width"]) fun _ _ _ _ _ _ us hl => match us, hl with | [_, _], _ => rfl
  have g28 := PySem.W.mg_of X G a28
  have F28 := fun_mk (x := "check_few") (qual := "check_few") (st := topS 28) l28 c28 k28
  have b28 := F28.binds (ps := ["table"]) fun _ _ _ _ _ _ us hl => match us, hl with | [_], _ => rfl
  have g29 := PySem.W.mg_of X G a29
  have F29 := fun_mk (x := "multiplied") (qual := "multiplied") (st := topS 29) l29 c29 k29
  have b29 := F29.binds (ps := ["one", "other", "by"]) fun _ _ _ _ _ _ us hl => match us, hl with | [_, _, _], _ => rfl
  have g30 := PySem.W.mg_of X G a30
  have F30 := fun_mk (x := "power_by") (qual := "power_by") (st := topS 30) l30 c30 k30
  have b30 := F30.binds (ps := ["rows", "times", "by"]) fun _ _ _ _ _ _ us hl => match us, hl with | [_, _, _], _ => rfl
  have g31 := PySem.W.mg_of X G a31
  have F31 := fun_mk (x := "how_many_by") (qual := "how_many_by") (st := topS 31) l31 c31 k31
  have b31 := F31.binds (ps := ["table", "width", "by"]) fun _ _ _ _ _ _ us hl => match us, hl with | [_, _, _], _ => rfl
  have g33 := PySem.W.mg_of X G a33
  have F33 := fun_mk (x := "_law_hash") (qual := "_law_hash") (st := topS 33) l33 c33 k33
  have b33 := F33.binds (ps := ["_law_seed", "_law_index"]) fun _ _ _ _ _ _ us hl => match us, hl with | [_, _], _ => rfl
  have g34 := PySem.W.mg_of X G a34
  have F34 := fun_mk (x := "_law_random") (qual := "_law_random") (st := topS 34) l34 c34 k34
  have b34 := F34.binds (ps := ["_law_generator_here", "_law_bound"]) fun _ _ _ _ _ _ us hl => match us, hl with | [_, _], _ => rfl
  have g35 := PySem.W.mg_of X G a35
  have F35 := fun_mk (x := "_law_cell") (qual := "_law_cell") (st := topS 35) l35 c35 k35
  have b35 := F35.binds (ps := ["_law_script", "_law_index"]) fun _ _ _ _ _ _ us hl => match us, hl with | [_, _], _ => rfl
  have g36 := PySem.W.mg_of X G a36
  have F36 := fun_mk (x := "_law_generator") (qual := "_law_generator") (st := topS 36) l36 c36 k36
  have b36 := F36.binds (ps := ["_law_script", "_law_index"]) fun _ _ _ _ _ _ us hl => match us, hl with | [_, _], _ => rfl
  have g37 := PySem.W.mg_of X G a37
  have F37 := fun_mk (x := "_law_same") (qual := "_law_same") (st := topS 37) l37 c37 k37
  have b37 := F37.binds (ps := ["_law_told", "_law_due"]) fun _ _ _ _ _ _ us hl => match us, hl with | [_, _], _ => rfl
  have g38 := PySem.W.mg_of X G a38
  have F38 := fun_mk (x := "_law_is_whole") (qual := "_law_is_whole") (st := topS 38) l38 c38 k38
  have b38 := F38.binds (ps := ["_law_told", "_law_due"]) fun _ _ _ _ _ _ us hl => match us, hl with | [_, _], _ => rfl
  have g39 := PySem.W.mg_of X G a39
  have F39 := fun_mk (x := "_law_power") (qual := "_law_power") (st := topS 39) l39 c39 k39
  have b39 := F39.binds (ps := ["_law_many"]) fun _ _ _ _ _ _ us hl => match us, hl with | [_], _ => rfl
  have g40 := PySem.W.mg_of X G a40
  have F40 := fun_mk (x := "_law_table") (qual := "_law_table") (st := topS 40) l40 c40 k40
  have b40 := F40.binds (ps := ["_law_generator_here", "_law_many", "_law_most"]) fun _ _ _ _ _ _ us hl => match us, hl with | [_, _, _], _ => rfl
  have g41 := PySem.W.mg_of X G a41
  have F41 := fun_mk (x := "_law_numbers") (qual := "_law_numbers") (st := topS 41) l41 c41 k41
  have b41 := F41.binds (ps := ["_law_table_here", "_law_many"]) fun _ _ _ _ _ _ us hl => match us, hl with | [_, _], _ => rfl
  have g42 := PySem.W.mg_of X G a42
  have F42 := fun_mk (x := "_law_times") (qual := "_law_times") (st := topS 42) l42 c42 k42
  have b42 := F42.binds (ps := ["_law_one", "_law_other", "_law_by"]) fun _ _ _ _ _ _ us hl => match us, hl with | [_, _, _], _ => rfl
  have g43 := PySem.W.mg_of X G a43
  have F43 := fun_mk (x := "_law_far") (qual := "_law_far") (st := topS 43) l43 c43 k43
  have b43 := F43.binds (ps := ["_law_table_here", "_law_width", "_law_by"]) fun _ _ _ _ _ _ us hl => match us, hl with | [_, _, _], _ => rfl
  have g44 := PySem.W.mg_of X G a44
  have F44 := fun_mk (x := "_law_right") (qual := "_law_right") (st := topS 44) l44 c44 k44
  have b44 := F44.binds (ps := ["_law_generator_here"]) fun _ _ _ _ _ _ us hl => match us, hl with | [_], _ => rfl
  have g45 := PySem.W.mg_of X G a45
  have F45 := fun_mk (x := "law") (qual := "law") (st := topS 45) l45 c45 k45
  have kM : KBinds K _ ["table", "width"] ["width", "table"] flip2 flip2 := kb2 (fd := PySem.W.fnOf "how_many_met" "how_many_met" (defArgs (topS 27)) (defBody (topS 27)) (defScope (topS 27)) .none kV27 dc27 pm27 an27 cd27 ct27) fun _ _ => rfl
  have kB : KBinds K _ ["table", "width", "by"] ["by", "width", "table"] flip3 flip3 := kb3 (fd := PySem.W.fnOf "how_many_by" "how_many_by" (defArgs (topS 31)) (defBody (topS 31)) (defScope (topS 31)) .none kV31 dc31 pm31 an31 cd31 ct31) fun _ _ _ => rfl
  refine ⟨PySem.W.fnOf "law" "law" (defArgs (topS 45)) (defBody (topS 45)) (defScope (topS 45)) .none kV45 dc45 pm45 an45 cd45 ct45, fun s v => .of_eq rfl, fun base _ _ => ?_⟩
  have D8 : Def l.prog w K mg base 1 "is_whole" _ _ ["value"] spWhole := ⟨ok_whole F8 n_isinstance n_int n_bool, g8, k8, b8⟩
  have D9 : Def l.prog w K mg base 2 "is_count" _ _ ["value"] spCount := ⟨ok_count F9 D8, g9, k9, b9⟩
  have D10 : Def l.prog w K mg base 2 "check_number" _ _ ["number", "low", "high"] spNumber := ⟨ok_number F10 D8, g10, k10, b10⟩
  have D11 : Def l.prog w K mg base 1 "power_of_two" _ _ ["many"] spTwo := ⟨ok_two F11, g11, k11, b11⟩
  have D14 : Def l.prog w K mg base 3 "are_stands" _ _ ["most", "many", "value"] (spStands K) := ⟨ok_stands F14 D9 n_isinstance n_list n_len, g14, k14, b14⟩
  have D12 : Def l.prog w K mg base 4 "is_table_kinds" _ _ ["value"] (spTable K) := ⟨ok_table F12 D9 D14 D11 n_isinstance n_list n_len n_tuple n_bool c_MOST_NAMES, g12, k12, b12⟩
  have D16 : Def l.prog w K mg base 5 "is_table_tables" _ _ ["value"] (spTable K) := ⟨ok_table2 F16 D12, g16, k16, b16⟩
  have D18 : Def l.prog w K mg base 6 "check_table" _ _ ["table"] (spCheck K) := ⟨ok_check F18 D16, g18, k18, b18⟩
  have D24 : Def l.prog w K mg base 1 "steps_counted" _ _ ["table"] (spSteps K) := ⟨ok_steps F24, g24, k24, b24⟩
  have D25 : Def l.prog w K mg base 1 "moved" _ _ ["steps", "ways"] (spMoved K) := ⟨ok_moved F25 n_len n_enumerate, g25, k25, b25⟩
  have D26 : Def l.prog w K mg base 2 "numbers_to" _ _ ["table", "many"] (spNumbers K) := ⟨ok_numbers F26 D24 D25 n_len n_range n_sum n_zip, g26, k26, b26⟩
  have D27 : Def l.prog w K mg base 7 "how_many_met" _ _ ["table", "width"] (spMet K) := ⟨ok_met F27 D18 D9 D26 c_MOST_WIDTH, g27, k27, b27⟩
  have D28 : Def l.prog w K mg base 1 "check_few" _ _ ["table"] (spCheck K) := ⟨ok_few F28 n_len c_MOST_STANDS, g28, k28, b28⟩
  have D29 : Def l.prog w K mg base 1 "multiplied" _ _ ["one", "other", "by"] (spMul K) := ⟨ok_mul F29 n_len n_range n_sum n_zip, g29, k29, b29⟩
  have D30 : Def l.prog w K mg base 2 "power_by" _ _ ["rows", "times", "by"] (spPow K) := ⟨ok_pow F30 D29 n_int n_len n_range, g30, k30, b30⟩
  have D31 : Def l.prog w K mg base 7 "how_many_by" _ _ ["table", "width", "by"] (spBy K) := ⟨ok_by2 F31 D18 D9 D10 D28 D24 D30 n_len n_range n_sum n_zip c_FAR c_MOST_BY, g31, k31, b31⟩
  have D33 : Def l.prog w K mg base 1 "_law_hash" _ _ ["_law_seed", "_law_index"] spHash := ⟨ok_hash F33 n_int, g33, k33, b33⟩
  have D34 : Def l.prog w K mg base 2 "_law_random" _ _ ["_law_generator_here", "_law_bound"] spRandom := ⟨ok_random F34 D33 n_int n_range, g34, k34, b34⟩
  have D35 : Def l.prog w K mg base 1 "_law_cell" _ _ ["_law_script", "_law_index"] (spCell K) := ⟨ok_cell F35 n_len n_sum, g35, k35, b35⟩
  have D36 : Def l.prog w K mg base 2 "_law_generator" _ _ ["_law_script", "_law_index"] (spGen K) := ⟨ok_gen F36 D35 n_int n_max, g36, k36, b36⟩
  have D37 : DefG l.prog w K mg base 1 "_law_same" _ _ ["_law_told", "_law_due"] (spSame K) := ⟨ok_same F37 n_repr, g37, k37, b37⟩
  have D38 : Def l.prog w K mg base 1 "_law_is_whole" _ _ ["_law_told", "_law_due"] spIs := ⟨ok_is F38 n_isinstance n_int n_bool, g38, k38, b38⟩
  have D39 : Def l.prog w K mg base 1 "_law_power" _ _ ["_law_many"] spPower := ⟨ok_power F39 n_range, g39, k39, b39⟩
  have D40 : Def l.prog w K mg base 3 "_law_table" _ _ ["_law_generator_here", "_law_many", "_law_most"] (spDraw K) := ⟨ok_draw F40 D34 D39 n_range, g40, k40, b40⟩
  have D41 : Def l.prog w K mg base 1 "_law_numbers" _ _ ["_law_table_here", "_law_many"] (spNumbers K) := ⟨ok_nums F41 n_len n_range n_sum n_zip, g41, k41, b41⟩
  have D42 : Def l.prog w K mg base 1 "_law_times" _ _ ["_law_one", "_law_other", "_law_by"] (spMul K) := ⟨ok_times F42 n_int n_len n_range n_sum n_zip, g42, k42, b42⟩
  have D43 : Def l.prog w K mg base 2 "_law_far" _ _ ["_law_table_here", "_law_width", "_law_by"] (spBy K) := ⟨ok_far F43 D42 n_int n_len n_range n_sum n_zip, g43, k43, b43⟩
  have D44 : DefG l.prog w K mg base 8 "_law_right" _ _ ["_law_generator_here"] (spRight K) := ⟨ok_right F44 D40 D34 D41 D38 D27 D31 D43 kM kB n_int n_repr, g44, k44, b44⟩
  exact ok_law F45 D36 D44 D27 D31 D37 D39 n_range
end K49
open PySem PySem.W PyProof.Rows
set_option maxHeartbeats 0 in
theorem PySem.Challenge.cw_howeverwide_k49_whole_numbers_of_filling_holds : PySem.Challenge.rw_howeverwide_k49_whole_numbers_of_filling.Holds := by
  w_on; o_law; k_head; (case hw => w_witness2)
  k_fill
  refine K49.walk_law (l := PySem.Challenge.rw_howeverwide_k49_whole_numbers_of_filling) (n := 63) (k := 9) (x := "_law_script") (sp := fun w => K49.spLaw _) rfl (by decide) rfl ⟨rfl, by decide, by decide⟩ (fun w h Y => PySem.W.kIn_of Y) ?F (fun _ _ a ns hl hS => ⟨a, ns, rfl, hS, hl, fun _ _ => rfl⟩)
  case F =>
    intro w mg fa h KX G hmg
    refine' K49.all_mk KX G hmg ?a8 ?l8 ?c8 ?k8 ?a9 ?l9 ?c9 ?k9 ?a10 ?l10 ?c10 ?k10 ?a11 ?l11 ?c11 ?k11 ?a12 ?l12 ?c12 ?k12 ?a14 ?l14 ?c14 ?k14 ?a16 ?l16 ?c16 ?k16 ?a18 ?l18 ?c18 ?k18 ?a24 ?l24 ?c24 ?k24 ?a25 ?l25 ?c25 ?k25 ?a26 ?l26 ?c26 ?k26 ?a27 ?l27 ?c27 ?k27 ?a28 ?l28 ?c28 ?k28 ?a29 ?l29 ?c29 ?k29 ?a30 ?l30 ?c30 ?k30 ?a31 ?l31 ?c31 ?k31 ?a33 ?l33 ?c33 ?k33 ?a34 ?l34 ?c34 ?k34 ?a35 ?l35 ?c35 ?k35 ?a36 ?l36 ?c36 ?k36 ?a37 ?l37 ?c37 ?k37 ?a38 ?l38 ?c38 ?k38 ?a39 ?l39 ?c39 ?k39 ?a40 ?l40 ?c40 ?k40 ?a41 ?l41 ?c41 ?k41 ?a42 ?l42 ?c42 ?k42 ?a43 ?l43 ?c43 ?k43 ?a44 ?l44 ?c44 ?k44 ?a45 ?l45 ?c45 ?k45 ?z_isinstance ?z_int ?z_bool ?z_list ?z_tuple ?z_len ?z_range ?z_sum ?z_zip ?z_enumerate ?z_max ?z_repr ?v_MOST_NAMES ?v_MOST_WIDTH ?v_FAR ?v_MOST_STANDS ?v_MOST_BY
    (case a8 => k_is); (case l8 => k_is); (case c8 => k_is); (case k8 => k_is); (case a9 => k_is); (case l9 => k_is); (case c9 => k_is); (case k9 => k_is); (case a10 => k_is); (case l10 => k_is); (case c10 => k_is); (case k10 => k_is); (case a11 => k_is); (case l11 => k_is); (case c11 => k_is); (case k11 => k_is); (case a12 => k_is); (case l12 => k_is); (case c12 => k_is); (case k12 => k_is); (case a14 => k_is); (case l14 => k_is); (case c14 => k_is); (case k14 => k_is); (case a16 => k_is); (case l16 => k_is); (case c16 => k_is); (case k16 => k_is); (case a18 => k_is); (case l18 => k_is); (case c18 => k_is); (case k18 => k_is); (case a24 => k_is); (case l24 => k_is); (case c24 => k_is); (case k24 => k_is); (case a25 => k_is); (case l25 => k_is); (case c25 => k_is); (case k25 => k_is); (case a26 => k_is); (case l26 => k_is); (case c26 => k_is); (case k26 => k_is); (case a27 => k_is); (case l27 => k_is); (case c27 => k_is); (case k27 => k_is); (case a28 => k_is); (case l28 => k_is); (case c28 => k_is); (case k28 => k_is); (case a29 => k_is); (case l29 => k_is); (case c29 => k_is); (case k29 => k_is); (case a30 => k_is); (case l30 => k_is); (case c30 => k_is); (case k30 => k_is); (case a31 => k_is); (case l31 => k_is); (case c31 => k_is); (case k31 => k_is); (case a33 => k_is); (case l33 => k_is); (case c33 => k_is); (case k33 => k_is); (case a34 => k_is); (case l34 => k_is); (case c34 => k_is); (case k34 => k_is); (case a35 => k_is); (case l35 => k_is); (case c35 => k_is); (case k35 => k_is); (case a36 => k_is); (case l36 => k_is); (case c36 => k_is); (case k36 => k_is); (case a37 => k_is); (case l37 => k_is); (case c37 => k_is); (case k37 => k_is); (case a38 => k_is); (case l38 => k_is); (case c38 => k_is); (case k38 => k_is); (case a39 => k_is); (case l39 => k_is); (case c39 => k_is); (case k39 => k_is); (case a40 => k_is); (case l40 => k_is); (case c40 => k_is); (case k40 => k_is); (case a41 => k_is); (case l41 => k_is); (case c41 => k_is); (case k41 => k_is); (case a42 => k_is); (case l42 => k_is); (case c42 => k_is); (case k42 => k_is); (case a43 => k_is); (case l43 => k_is); (case c43 => k_is); (case k43 => k_is); (case a44 => k_is); (case l44 => k_is); (case c44 => k_is); (case k44 => k_is); (case a45 => k_is); (case l45 => k_is); (case c45 => k_is); (case k45 => k_is); (case z_isinstance => k_is); (case z_int => k_is); (case z_bool => k_is); (case z_list => k_is); (case z_tuple => k_is); (case z_len => k_is); (case z_range => k_is); (case z_sum => k_is); (case z_zip => k_is); (case z_enumerate => k_is); (case z_max => k_is); (case z_repr => k_is); (case v_MOST_NAMES => k_is); (case v_MOST_WIDTH => k_is); (case v_FAR => k_is); (case v_MOST_STANDS => k_is); (case v_MOST_BY => k_is)
