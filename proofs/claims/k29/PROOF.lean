import PyProof.Rows.All
import Wide.All
import OpenK.AllK
import Wide.FinOn
import HandS.ForMost
import HandS.Wide
import HandS.WideMore
import HandS.TupAny
import HandS.TupMul
import HandS.Style
import HandS.Flow
import HandS.Exc
import HandS.ExcOwn
import HandS.WordsExc
import HandS.TryOnly
import HandS.Defaults
import HandS.CallSlots
import HandS.IsInst
import HandS.RaiseMore
import KE.KStateDown
import HandS.Head0
import HandS.Head1
import HandS.Head2
import HandS.HeadEnd
import HandS.HeadHook1
import HandS.HeadHook2
import KE.GoesEnum
import HandS.Walk
import HandS.Rev
import HandS.Zip
import KE.KUnpackStar
import HandS.ExcValue
import HandS.ExcIs
import HandS.HotCalls
import HandS.Deep
import HandS.Iter
import KE.KTupSum
import PyProof.Rows.ChunkEnd
import PyProof.Rows.IntBool
import PyProof.Rows.ReprOcc
import PyProof.StrLawsRepr
import PyProof.Rows.StrCase
import HandS.Text
import HandS.Dict
import KE.KExcInit
import HandS.ExcInit
import HandS.ExcField
import KE.GoesEnumKw
import HandS.HeadHook3
import HandS.Replace
import HandS.IntHex
import KE.KRevSl
import HandS.MakeKw
import HandS.MakeKwOnly
import HandS.Flt
import PyProof.InstNe
import HandS.DictComp
import HandS.Sort
import HandS.SortInts
import HandS.SetFor
import HandS.Strs
import HandS.WideBits
import HandS.Nested
import HandS.HeadWalk
import HandS.EndTab
import HandS.HeadHook4
import PySem.Challenge.RW_manyroads_k29_roads_alone_and_no_road
set_option Elab.async false
set_option linter.all false
set_option maxRecDepth 100000
set_option maxHeartbeats 4000000
namespace MR
open PySem PySem.Spec PyProof.Rows HT
section
variable {prog : Program} {w : World} {A : Around} {E : Value → Shared → Prop} {s : Shared}
theorem sliceApplied_rev {sl : Addr} {vl vu vs : Value} {n : Nat} {Q : Int × Int × Nat → Shared → Prop} (hs : s.heap.IsSliceOf sl vl vu vs) (pl : IsPart vl none) (pu : IsPart vu none) (ps : IsPart vs (some (-1)))
    (h : Q ((n : Int) - 1, -1, n) s) : wpAny (model prog w) A (Builtin.Slice.sliceApplied (.ref sl) (pure (n : Int))) Q E s := by
  have ⟨_, e1, _, e2⟩ := hs
  have fld : ∀ {x : Value} {j : Nat} {R : Value → Shared → Prop}, #[vl, vu, vs][j]? = some x → R x s → wpAny (model prog w) A (field (.ref sl) j) R E s := fun g r => wpAny_field e1 e2 g r
  unfold Builtin.Slice.sliceApplied
  unfold Builtin.Slice.sliceFields
  refine wpAny_bind (wpAny_bind (fld (x := vl) rfl (wpAny_bind (fld (x := vu) rfl (wpAny_bind (fld (x := vs) rfl (wpAny_pure (wpAny_bind (slicePart_ ps ?_)))))))))
  show wpAny _ _ (if ((-1 : Int) == 0) = true then _ else _) _ _ s
  rw [if_neg (by decide)]
  refine wpAny_bind (slicePart_ pl ?_)
  refine wpAny_bind (slicePart_ pu (wpAny_bind (wpAny_pure ?_)))
  have e1 : Builtin.Slice.sliceAdjust none none (-1) (n : Int) = ((n : Int) - 1, -1) := rfl
  have e2 : Builtin.Slice.slicePlaces ((n : Int) - 1) (-1) (-1) = n := by
    unfold Builtin.Slice.slicePlaces
    rw [if_neg (by decide)]
    by_cases c : (n : Int) - 1 > -1
    · rw [if_pos c]
      have hd : (- -1 : Int) = 1 := by decide
      have : ((n : Int) - 1 - -1 - 1) / (- -1) = (n : Int) - 1 := by
        rw [hd]
        omega
      rw [this]
      omega
    · rw [if_neg c]
      omega
  show wpAny _ _ (match Builtin.Slice.sliceAdjust none none (-1) (n : Int) with | (lo, hi) => pure (lo, (-1 : Int), Builtin.Slice.slicePlaces lo hi (-1))) _ _ s
  rw [e1]
  show wpAny _ _ (pure ((n : Int) - 1, (-1 : Int), Builtin.Slice.slicePlaces ((n : Int) - 1) (-1) (-1))) _ _ s
  rw [e2]
  exact wpAny_pure h
theorem fm_some {α β : Type} {f : α → Option β} {g : α → β} : ∀ {l : List α}, (∀ x ∈ l, f x = some (g x)) → l.filterMap f = l.map g
  | [], _ => rfl
  | a :: l, h => by
    rw [List.filterMap_cons, h a (List.mem_cons_self ..), List.map_cons, fm_some fun x hx => h x (List.mem_cons_of_mem _ hx)]
theorem pick_rev (xs : Array Value) : ((List.range xs.size).filterMap fun (m : Nat) => xs[(((xs.size : Nat) : Int) - 1 + (m : Int) * -1).toNat]?).toArray = xs.toList.reverse.toArray := by
  congr 1
  refine List.ext_getElem? fun i => ?_
  have e : (List.range xs.size).filterMap (fun (m : Nat) => xs[(((xs.size : Nat) : Int) - 1 + (m : Int) * -1).toNat]?) = (List.range xs.size).map (fun m => xs.toList.reverse.getD m Value.none) := by
    refine fm_some fun m hm => ?_
    have hm' := List.mem_range.mp hm
    have e1 : (((xs.size : Nat) : Int) - 1 + (m : Int) * -1).toNat = xs.size - 1 - m := by omega
    rw [e1]
    have h1 : xs.size - 1 - m < xs.size := by omega
    have h2 : m < xs.toList.reverse.length := by simp; omega
    rw [Array.getElem?_eq_getElem h1]
    rw [List.getD_eq_getElem?_getD, List.getElem?_eq_getElem h2, Option.getD_some, List.getElem_reverse]
    simp
  rw [e, List.getElem?_map]
  by_cases hi : i < xs.size
  · rw [List.getElem?_range hi]
    have h2 : i < xs.toList.reverse.length := by simp; omega
    simp only [Option.map_some]
    rw [List.getD_eq_getElem?_getD, List.getElem?_eq_getElem h2, Option.getD_some]
  · rw [List.getElem?_eq_none (by simp; omega), List.getElem?_eq_none (by simp; omega)]
    rfl
theorem getItem_tuple_rev {t sl : Addr} {items : Array Value} {vl vu vs : Value} {Q : Value → Shared → Prop} (ht : IsTup s.heap t items) (hs : s.heap.IsSliceOf sl vl vu vs) (pl : IsPart vl none) (pu : IsPart vu none) (ps : IsPart vs (some (-1)))
    (h : Q (.ref s.heap.objs.size) { s with heap := s.heap.push { cls := .type "tuple", data := .seq items.toList.reverse.toArray } }) (hsz : items.size ≤ sizeLine) : wpAny (model prog w) A (getItem (.ref t) (.ref sl)) Q E s := by
  have room : sizeOk (.seq items.toList.reverse.toArray) := by
    show items.toList.reverse.toArray.size ≤ sizeLine
    simpa using hsz
  have ⟨so, g1, g2, _⟩ := hs
  have isSl : s.TypeIs (.ref sl) "slice" := ⟨so, g1, g2⟩
  have neq : ¬ (((((items.size : Nat) : Int) - 1) == 0 && (-1 : Int) == 1 && items.size == items.size) = true) := fun q => by
    simp at q
  unfold getItem
  first
    | refine wpAny_bind (wpAny_sequenceKey ht.typeIs (by decide) ?_)
    | (refine wpAny_holding ?_; refine wpAny_bind (wpAny_sequenceKey ht.typeIs (by decide) ?_))
  have inner : ∀ {R : Option Value → Shared → Prop}, R (some (.ref s.heap.objs.size)) { s with heap := s.heap.push { cls := .type "tuple", data := .seq items.toList.reverse.toArray } } →
      wpAny (model prog w) A (callSpecial? (.ref t) (Str.ofString "__getitem__") [.ref sl] []) R E s := fun hR => by
    refine wpAny_callSpecial?_slot ht.typeIs PyProof.Rows.slot_tuple_getitem (wpAny_call_entry PyProof.Rows.slot_tuple_getitem ht.typeIs entry_tuple_getitem ?_ (args_tuple_getitem _ _))
    show wpAny _ _ (Builtin.Tuple.tupleItemsOf (.ref t) >>= _) _ _ s
    refine wpAny_bind (tupleItemsOf_ ht (wpAny_bind (wpAny_typeOf isSl ?_)))
    rw [if_pos (by decide)]
    refine wpAny_bind (sliceApplied_rev hs pl pu ps ?_)
    show wpAny _ _ (if ((((items.size : Nat) : Int) - 1) == 0 && (-1 : Int) == 1 && items.size == items.size) = true then _ else _) _ _ s
    rw [if_neg neq, pick_rev]
    first
      | exact wpAny_bind (wpAny_bind (m := Builtin.Tuple.tupleExact _) (wpAny_newObj_type (wpAny_pure (wpAny_pure ⟨_, rfl, hR⟩)) room))
      | exact wpAny_bind (m := Builtin.Tuple.tupleExact _) (wpAny_newObj_type (wpAny_pure ⟨_, rfl, hR⟩) room)
      | exact wpAny_bind (m := Builtin.Tuple.tupleExact _) (wpAny_newObj_type (wpAny_bind (wpAny_pure (wpAny_pure ⟨_, rfl, hR⟩))) room)
  first
    | exact wpAny_bind (inner (wpAny_pure h))
    | exact inner (wpAny_pure h)
    | exact wpAny_bind (inner h)
end
end MR
namespace MR
open PySem PySem.Spec L2
section
variable {X : Cx}
def rRev (K : PySem.W.Frag) : V → Hp → VK → Prop := fun x H Q => ∃ a xs, x = .ref a ∧
  ((SqT K H a xs ∧ ∀ p, H p = none → Q (.ref p) (upd H p (.tup xs.reverse))) ∨ (SqL K H a xs ∧ ∀ p, H p = none → Q (.ref p) (upd H p (.lst xs.reverse))))
/-- e[::-1], a tuple's or a list's -/
theorem pe_rev {e : Expr} {te : TE} {k : Nat} {p1 p2 p3 pos : Pos} (he : PE X e te) : PE X (.Subscript e (.Slice none none (some (.UnaryOp .USub (.Constant (.int 1) k p1) p2)) p3) pos) (tUn (rRev X.K) te) := ⟨fun pins s σ H Q I h => by
  have minus : PO X (some (.UnaryOp .USub (.Constant (.int 1) k p1) p2)) (tPart (tUn (rU fun i => .int (-i)) (tC (.int 1)))) := po_some (pe_un un_neg pe_int)
  refine PyProof.Rows.Subscript_ (thn (he.run pins s σ H _ I h) ?_)
  rintro v s1 ⟨x, H1, I1, r1, a, xs, rfl, q1⟩
  cases r1
  refine wpAny_Slice (thn (po_none.run pins s1 σ H1 (fun o H2 => o = none ∧ H2 = H1) I1 ⟨rfl, rfl⟩) ?_)
  rintro vl s2 ⟨_, _, I2, pl, rfl, rfl⟩
  refine thn (po_none.run pins s2 σ _ (fun o H3 => o = none ∧ H3 = _) I2 ⟨rfl, rfl⟩) ?_
  rintro vu s3 ⟨_, _, I3, pu, rfl, rfl⟩
  refine thn (minus.run pins s3 σ _ (fun o H4 => o = some (-1) ∧ H4 = _) I3 ⟨1, rfl, -1, rfl, rfl, rfl⟩) ?_
  rintro vs s4 ⟨_, H4, I4, ps, rfl, rfl⟩
  have isS := Heap.IsSliceOf.new s4.heap vl vu vs
  have I5 := I4.kept (h' := s4.heap.push { cls := .type "slice", data := .fields #[vl, vu, vs] }) (t' := s4.toks) fun b ob q => Heap.get?_push_of_some _ q
  refine (show wpAny (model X.prog X.w) X.A (PyProof.Rows.subscriptTail e (.Slice none none (some (.UnaryOp .USub (.Constant (.int 1) k p1) p2)) p3) (.ref a) (.ref s4.heap.objs.size)) (EP X pins σ Q) X.xe _ from ?_)
  rcases q1 with ⟨hx, q⟩ | ⟨hx, q⟩
  · obtain ⟨its, r, ht, hz⟩ := I5.tuple hx
    have hlen := r.length
    refine PyProof.Rows.tail_any (ops := [.ref a, .ref s4.heap.objs.size]) ht.typeIs PyProof.Rows.slot_tuple_getitem.lookup (getItem_tuple_rev ht isS pl pu ps ?_ (by simpa [← hlen] using hz)) (by with_unfolding_all rfl)
    refine ⟨.ref _, _, I5.laid (t' := s4.toks) (o := .tup xs.reverse) (fun b ob q => Heap.get?_push_of_some _ q) (Nat.le_refl _) ?_, rfl, q _ (I5.hok.fresh (Nat.le_refl _))⟩
    exact ⟨by simpa using hz, _, r.reverse, PyProof.Rows.IsTup.new _ _⟩
  · obtain ⟨its, r, ht, hz⟩ := I5.list hx
    have hlen := r.length
    refine PyProof.Rows.tail_any (ops := [.ref a, .ref s4.heap.objs.size]) ht.isList.typeIs PySem.slot_list_getitem.lookup (wpAny_getItem_list_slice ht.isList isS pl pu ps (by decide) ?_ (by simpa [← hlen] using hz)) (by with_unfolding_all rfl)
    rw [PySem.W.krv_pick]
    refine ⟨.ref _, _, I5.laid (t' := s4.toks) (o := .lst xs.reverse) (fun b ob q => Heap.get?_push_of_some _ q) (Nat.le_refl _) ?_, rfl, q _ (I5.hok.fresh (Nat.le_refl _))⟩
    exact ⟨by simpa using hz, _, 0, r.reverse, Heap.get?_push_size _ rfl⟩⟩
end
end MR
namespace MR
open PySem PySem.Spec L2
/-- the tuple's object as it stands -/
abbrev tupAt (h : Heap) (l : Addr) (items : Array Value) (n : Nat) (dd : Option Addr) (sl : Array (Option Value)) : Prop :=
  h.get? l = some { cls := .type "tuple", dict := dd, data := .seq items n, slots := sl }
section
open PyProof.Rows
variable {l : Addr} {items : Array Value} {n : Nat} {dd : Option Addr} {sl : Array (Option Value)} {x : Int} {u : Tok}
/-- none, or once: the tuple itself -/
theorem mul_once (c0 : (decide (x < -(2 ^ 63)) || decide (x ≥ 2 ^ 63)) = false) (c1 : (items.isEmpty || x == 1) = true) :
    Meets (Builtin.«tuple.__mul__» ⟨[.ref l, .int x u], []⟩) (fun _ R s => tupAt s.heap l items n dd sl ∧ R (.ok (.ret (Value.ref l))) s) := by
  refine .of_wp fun prog w A R s h => ?_
  cases s
  have ⟨hl, h⟩ := h
  have f1 := AutoSeq1.idx_int
  have n0 := decide_eq_false (p := (decide (x < -(2 ^ 63)) || decide (x ≥ 2 ^ 63)) = true) (fun z => by rw [c0] at z; cases z)
  wp_walk using wpAny_loadPart' hl
  repeat first
    | (refine wpAny_ite_false n0 ?_
       wp_walk using wpAny_loadPart' hl)
    | (refine wpAny_ite_true (decide_eq_true c1) ?_
       wp_walk using wpAny_loadPart' hl)
  exact ⟨_, rfl, h⟩
/-- less: a new empty one -/
theorem mul_less (c0 : (decide (x < -(2 ^ 63)) || decide (x ≥ 2 ^ 63)) = false) (c1 : (items.isEmpty || x == 1) = false) (c2 : (decide (x ≤ 0) || items.isEmpty) = true) :
    Meets (Builtin.«tuple.__mul__» ⟨[.ref l, .int x u], []⟩)
      (fun _ R s => tupAt s.heap l items n dd sl ∧ R (.ok (.ret (Value.ref s.heap.objs.size))) { s with heap := s.heap.push { cls := Value.type "tuple", data := Data.seq #[] }, toks := s.toks }) := by
  refine .of_wp fun prog w A R s h => ?_
  cases s
  have ⟨hl, h⟩ := h
  have f1 := AutoSeq1.idx_int
  have n0 := decide_eq_false (p := (decide (x < -(2 ^ 63)) || decide (x ≥ 2 ^ 63)) = true) (fun z => by rw [c0] at z; cases z)
  have n1 := decide_eq_false (p := (items.isEmpty || x == 1) = true) (fun z => by rw [c1] at z; cases z)
  wp_walk using wpAny_loadPart' hl
  repeat first
    | (refine wpAny_ite_false n0 ?_
       wp_walk using wpAny_loadPart' hl)
    | (refine wpAny_ite_false n1 ?_
       wp_walk using wpAny_loadPart' hl)
    | (refine wpAny_ite_true (decide_eq_true c2) ?_
       wp_walk using wpAny_loadPart' hl)
  exact ⟨_, rfl, h⟩
/-- t * k by the tuple's own method -/
theorem mul_by {prog : Program} {w : World} {A : Around} {E : Value → Shared → Prop} {s : Shared} {Q : Value → Shared → Prop} {S : Around → (Result → Shared → Prop) → Shared → Prop} (hl : tupAt s.heap l items n dd sl)
    (M : Meets (Builtin.«tuple.__mul__» ⟨[.ref l, .int x u], []⟩) S) (h : ∀ A' E', S A' (wants Q E') s) : wpAny (model prog w) A (binaryOp .Mult (.ref l) (.int x u)) Q E s := by
  have tT : s.TypeIs (.ref l) "tuple" := ⟨_, hl, rfl⟩
  have tI := typeIs_int s x u
  have byInt := fun (A' : Around) (Q' E' : Value → Shared → Prop) => call_meets (prog := prog) (w := w) (A := A') (E := E') (Q := Q') F.slot_int_rmul tI F.entry_int_rmul
    (F.args_int_rmul_2 _ _) (int_rmul_tuple x u l items n dd sl)
  have byTup := fun (A' : Around) (E' : Value → Shared → Prop) => call_meets (prog := prog) (w := w) (A := A') (E := E') (Q := Q) F.slot_tuple_mul tT F.entry_tuple_mul
    (F.args_tuple_mul_2 _ _) M (h A' E')
  exact wpAny_binaryOp_repeat_ref (T := "tuple") (U := "int") (by decide) tT (fun s' => typeIs_int s' x u)
    noFill_tuple_mul F.fills_int_mul F.slot_int_rmul repeat_tuple F.slot_int_index.lookup
    (byInt _ _ _ ⟨hl, rfl, tT, byTup _ _⟩)
end
def rRepA (K : PySem.W.Frag) : R2 := fun x y H Q => ∃ l k xs, x = .ref l ∧ y = .int k ∧ SqT K H l xs ∧ -(2 ^ 63) ≤ k ∧ k ≤ 1000 ∧ xs.length ≤ 1000 ∧
  ((xs = [] ∨ k = 1) → Q (.ref l) H) ∧ (xs ≠ [] → k ≤ 0 → ∀ p, H p = none → Q (.ref p) (upd H p (.tup []))) ∧ (xs ≠ [] → 2 ≤ k → ∀ p, H p = none → Q (.ref p) (upd H p (.tup (List.replicate k.toNat xs).flatten)))
section
variable {X : Cx}
theorem op_repA : OpR X (binaryOp .Mult) (rRepA X.K) := by
  rintro pins s σ H x y v u Q I rx ry ⟨l, k, xs, rfl, rfl, hT, b1, b2, hz, q1, q2, q3⟩
  by_cases hne : xs ≠ [] ∧ 2 ≤ k
  · exact op_repT pins s σ H _ _ v u Q I rx ry ⟨l, k, xs, rfl, rfl, hT, hne.1, hne.2, b2, hz, q3 hne.1 hne.2⟩
  cases rx
  obtain ⟨t, rfl⟩ := ry
  obtain ⟨its, r, ⟨⟨cls, dd, data, sl⟩, ho, rfl, n, rfl⟩, -⟩ := I.tuple hT
  have same : its = [] ↔ xs = [] := r.nil_iff
  have em : its.toArray.isEmpty = decide (xs = []) := by
    cases its with
    | nil => exact (decide_eq_true (same.mp rfl)).symm
    | cons a b => exact (decide_eq_false (fun e => nomatch same.mpr e)).symm
  have c0 : (decide (k < -(2 ^ 63)) || decide (k ≥ 2 ^ 63)) = false := by
    simp only [Bool.or_eq_false_iff, decide_eq_false_iff_not]
    omega
  by_cases h1 : xs = [] ∨ k = 1
  · refine mul_by ho (mul_once c0 ?_) fun _ _ => ⟨ho, .ref l, H, I, rfl, q1 h1⟩
    rw [em]
    rcases h1 with e | e
    · rw [decide_eq_true e]
      rfl
    · subst e
      simp
  · have hx : xs ≠ [] := fun e => h1 (.inl e)
    have hk : k ≤ 0 := by
      have a1 : ¬ 2 ≤ k := fun z => hne ⟨hx, z⟩
      have a2 : k ≠ 1 := fun z => h1 (.inr z)
      omega
    refine mul_by ho (mul_less c0 ?_ ?_) fun _ _ => ⟨ho, .ref s.heap.objs.size, _, I.laid (t' := s.toks) (o := .tup []) (fun b ob q => Heap.get?_push_of_some _ q) (Nat.le_refl _) ?_, rfl, q2 hx hk _ (I.hok.fresh (Nat.le_refl _))⟩
    · rw [em, decide_eq_false hx, Bool.false_or, beq_eq_false_iff_ne]
      omega
    · rw [decide_eq_true hk]
      rfl
    · exact ⟨Nat.zero_le _, [], .nil, PyProof.Rows.IsTup.new _ _⟩
end
end MR
namespace MR
open PySem PySem.Spec PyProof.Rows L2
structure FnG (P : Program) (w : World) (K : PySem.W.Frag) (mg : Str → Option Value) (base : Heap) (CX : CXT) (k : Nat) (f : Addr) (fd : FuncData) (ps : List Str) (sp : Sp) : Prop where
  len : ∀ {vs H Q E}, sp vs H Q E → vs.length = ps.length
  run : ∀ {A : Around} {outer : List PySem.Env} {s : Shared} {H : Hp} {args : Args} {us : List Value} {vs : List V} {Q : VK} {E : XK}, Room k A → A.guards = some [] → Env0 P w K mg base A outer s H → BindsTo s fd args (ps.zip us) → Vals vs us → sp vs H Q E →
    codeAny (model P w) A (.call (.ref f) args)
      (CR CX outer P w H s Q E) s
section
variable {P : Program} {w : World} {K : PySem.W.Frag} {mg : Str → Option Value} {base : Heap} {CX : CXT} {k : Nat} {f : Addr} {fd : FuncData} {ps : List Str} {sp : Sp}
theorem FnG.mono {j : Nat} (F : FnG P w K mg base CX j f fd ps sp) (h : j ≤ k) : FnG P w K mg base CX k f fd ps sp := ⟨F.len, fun hr => F.run (hr.mono h)⟩
/-- a def by its body -/
theorem FunD.okG {x qual : Str} {params : Arguments} {body : List Stmt} {scope : Scope} {dvs : List V} {kws : List (Str × V)} {N : List Str} (F : FunD K x qual params body scope dvs kws f fd) (S : FnScope N ps scope) (len : ∀ {vs H Q E}, sp vs H Q E → vs.length = ps.length)
    (hb : ∀ (cdv : Value) (A : Around) (outer : List PySem.Env) (s : Shared) (H : Hp) (vs : List V) (Q : VK) (E : XK), Room k (cxOf CX P w K mg base N qual scope f cdv A outer s H E).A → (cxOf CX P w K mg base N qual scope f cdv A outer s H E).A.guards = some [] → sp vs H Q E →
      ∃ t, PSs (cxOf CX P w K mg base N qual scope f cdv A outer s H E) body t ∧ t ⟨fun _ H' => Q .non H', Q, fun _ _ => False, fun _ _ => False⟩ (start N vs) H) : FnG P w K mg base CX (k + 1) f fd ps sp := by
  obtain ⟨oc, od, dV, kV, doc, pm, an, cdv, ct, osl, rfl, lk, hcd, -, -⟩ := F.ex
  refine ⟨len, @fun A outer s H args us vs Q E hr hG e0 hbi r hsp => ?_⟩
  have kin := e0.mod.kin.keeps fun b o e => (e0.bs b o e).1
  have lim := e0.mod.nolimit.keeps fun b o e => (e0.bs b o e).1
  refine Att.call_fn kin lim lk hcd hr.depth hbi ?_ (fun s1 x => ?_) S.co S.gen S.kind
  · rw [List.all_eq_true]
    rintro ⟨n, v⟩ hy
    rcases S.par n (List.of_mem_zip hy).1 with q | q
    · simp only [q]; rfl
    · simp only [q]; rfl
  · obtain ⟨t, ht, hq⟩ := hb cdv A outer s H vs Q E (hr.deeper _) hG hsp
    have I := inv_start (CX := CX) (cd := cdv) (E := E) S hr.hd e0 (len hsp) r x
    refine wpAny_mono (ht.run [] s1 (start N vs) H _ I hq) (fun fl s' hs => ?_) fun _ _ z => z
    match fl, hs with
    | .ret u, ⟨v, _, H', J, rv, q⟩ => exact ⟨v, H', J.os, J.bare, J.base, J.hok, rv, q⟩
    | .next, ⟨_, H', J, q⟩ => exact ⟨.non, H', J.os, J.bare, J.base, J.hok, rfl, q⟩
    | .brk, ⟨_, _, _, q⟩ => exact q.elim
    | .cont, ⟨_, _, _, q⟩ => exact q.elim
end
section
variable {P : Program} {w : World} {K : PySem.W.Frag} {mg mb : Str → Option Value} {k : Nat} {fa a : Addr} {fd : FuncData} {x : Str} {sp : Sp} {s₁ : Shared} {vs : List Value} {ns : List Int}
/-- the script alone, where it is none of the module's own objects -/
def scr (K : PySem.W.Frag) (a : Addr) (vs : List Value) (ns : List Int) : Hp := fun b =>
  if b = a ∧ K.lookup a = none then some (.frz { cls := .type "list", data := .seq vs.toArray } (.lst (ns.map V.int))) else none
theorem scr_some {b : Addr} {o : HO} (h : scr K a vs ns b = some o) : b = a ∧ K.lookup a = none ∧ o = .frz { cls := .type "list", data := .seq vs.toArray } (.lst (ns.map V.int)) := by
  unfold scr at h
  split at h
  · rename_i c
    exact ⟨c.1, c.2, (Option.some.inj h).symm⟩
  · cases h
theorem scr_none {b : Addr} (h : ¬ (b = a ∧ K.lookup a = none)) : scr K a vs ns b = none := if_neg h
end
end MR
namespace MR
open PySem PySem.Spec PyProof.Rows L2
/-- by places -/
def sel {α : Type} (idx : List Nat) (xs : List α) (d : α) : List α := idx.map fun i => xs.getD i d
theorem sel_vals {vs : List V} {us : List Value} (r : Vals vs us) : ∀ idx : List Nat, Vals (sel idx vs .non) (sel idx us .none)
  | [] => .nil
  | i :: idx => by
    refine .cons ?_ (sel_vals r idx)
    show L2.RelV (vs.getD i .non) (us.getD i .none)
    rw [List.getD_eq_getElem?_getD, List.getD_eq_getElem?_getD]
    cases e : vs[i]? with
    | none =>
      rw [r.none_of e]
      rfl
    | some v =>
      obtain ⟨u, e2, q⟩ := r.get e
      rw [e2]
      exact q
section
variable {K : PySem.W.Frag} {x qual : Str} {params : Arguments} {body : List Stmt} {scope : Scope} {kws : List (Str × V)} {f : Addr} {fd : FuncData} {ps : List Str}
/-- how a call's arguments are bound: n positional ones, keywords ks, of the keyword-only ones ms lack -/
theorem kb_of (F : FunD K x qual params body scope [] kws f fd) (n : Nat) (ks : List Str) (ms : List (Str × V)) (idx : List Nat) (hms : ∀ q ∈ ms, q ∈ kws)
    (h : ∀ (kV doc pm : Value) (an : Option Addr) (cdv ct : Value) (D : Addr) (us mv ws : List Value), us.length = n → mv.length = ms.length → ws.length = ks.length → (kws ≠ [] → kV = .ref D) →
      KwChain D ((ms.map (·.1)).zip mv) (bindArgs (PySem.W.fnOf x qual params body scope .none kV doc pm an cdv ct) ⟨us, ks.zip ws⟩) (ps.zip (sel idx (us ++ ws ++ mv) .none))) :
    ∃ mv : List Value, KBn K fd ps n ks (fun us ws => sel idx (us ++ ws ++ mv) .none) (fun vs zs => sel idx (vs ++ zs ++ ms.map (·.2)) .non) := by
  obtain ⟨oc, od, dV, kV, doc, pm, an, cdv, ct, osl, rfl, lk, hcd, hD, hK⟩ := F.ex
  rcases hD with ⟨-, rfl⟩ | ⟨e, -⟩
  · rcases hK with rfl | ⟨D, rfl, hq⟩
    · have e : ms = [] := List.eq_nil_iff_forall_not_mem.mpr fun q hq => nomatch hms q hq
      subst e
      refine ⟨[], ⟨fun s us ws KI l1 l2 => ?_, fun r1 r2 => sel_vals ((r1.append r2).append .nil) idx⟩⟩
      exact .of_eq (h kV doc pm an cdv ct 0 us [] ws l1 rfl l2 fun z => absurd rfl z)
    · obtain ⟨mv, l0, rk, hks⟩ := kwd_vals (ms := ms) fun q hm => hq q (hms q hm)
      refine ⟨mv, ⟨fun s us ws KI l1 l2 => ?_, fun r1 r2 => sel_vals ((r1.append r2).append rk) idx⟩⟩
      exact BindsTo.of_looks fun M => KwChain.looks KI hks (h _ doc pm an cdv ct D us mv ws l1 l0 l2 fun _ => rfl)
  · exact absurd rfl e
end
section
variable {X : Cx} {CX : CXT} {k n : Nat} {f : Addr} {fd : FuncData} {ps ks : List Str} {sp : Sp} {x : Str} {p pos : Pos} {e : Expr} {es : List Expr} {kws : List Keyword} {t tk : TA} {g : List Value → List Value → List Value} {gV : List V → List V → List V} {E : L2.St → XK}
/-- n positional values, m by keywords -/
def tCallG (n m : Nat) (sp : Sp) (gV : List V → List V → List V) (E : L2.St → XK) (t tk : TA) : TE := fun σ H Q => t σ H fun vs H1 => tk σ H1 fun zs H2 => vs.length = n ∧ zs.length = m ∧ sp (gV vs zs) H2 Q (E σ)
theorem run_g {pins : List (Addr × Obj)} {σ : L2.St} {H : Hp} {s : Shared} {Q : VK} {us ws : List Value} {vs zs : List V} (F : FnG X.prog X.w X.K X.mg X.base CX k f fd ps sp) (hr : Room k X.A) (hG : X.A.guards = some [])
    (hb : KBn X.K fd ps n ks g gV) (hx : PassesAt CX X σ (E σ)) (I : Inv X pins σ H s) (r : Vals vs us) (rz : Vals zs ws) (h : vs.length = n ∧ zs.length = ks.length ∧ sp (gV vs zs) H Q (E σ)) :
    wpAny (model X.prog X.w) X.A (call (.ref f) us (ks.zip ws)) (EP X pins σ Q) X.xe s := by
  have b := hb.to s us ws I.kIn (r.length.symm.trans h.1) (rz.length.symm.trans h.2.1)
  refine wpAny_call (codeAny_mono (F.run hr hG I.env0 b (hb.rel r rz) h.2.2) fun q s' hq => ?_)
  match q, hq with
  | .error e, hq => exact hx pins H s e s' I hq
  | .ok (.ret u), hq => exact I.after hq
  | .ok .next, hq => exact hq.elim
  | .ok .brk, hq => exact hq.elim
  | .ok .cont, hq => exact hq.elim
variable (F : FnG X.prog X.w X.K X.mg X.base CX k f fd ps sp) (hr : Room k X.A) (hG : X.A.guards = some []) (hg : Gl X x) (hm : X.mg x = some (.ref f)) (hk : PySem.W.keepIn X.K (.ref f) = true) (hx : ∀ σ, PassesAt CX X σ (E σ))
include F hr hG hg hm hk hx
theorem pe_g1 (hb : KBn X.K fd ps n [] g gV) (ha : PA X (e :: es) t) (hdb : (x == ("__debug__" : Str)) = false := by decide) (he : starEach (e :: es) X.env = (false, eval e X.env) :: starEach es X.env := by rfl)
    (hpl : (backTo pos (starEach es X.env)).any (·.1) = false := by rfl) : PE X (.Call (.Name x p) (e :: es) [] pos) (tCallG n 0 sp gV E t tNil) := ⟨fun pins s σ H Q I h =>
  wpAny_Call_Name_kw (ld_glob I hg hm (PySem.W.callWith_K (h₀ := X.base) I.ok.mod.kin hk (thn (ha.run pos pins s σ H _ I h) fun us s1 ⟨vs, H1, I1, r, q⟩ => ⟨I1.kIn, run_g F hr hG hb (hx σ) I1 (ws := []) r .nil q⟩) he hpl) hdb)⟩
theorem pe_g2 (hb : KBn X.K fd ps n ks g gV) (ha : PA X (e :: es) t) (hkw : PK X kws tk) (hall : (backToKw pos (keywordEach kws X.env)).all (·.1.isSome) = true := by rfl)
    (hks : (backToKw pos (keywordEach kws X.env)).filterMap (·.1) = ks := by rfl) (hdb : (x == ("__debug__" : Str)) = false := by decide) (he : starEach (e :: es) X.env = (false, eval e X.env) :: starEach es X.env := by rfl)
    (hpl : ((backTo pos (starEach (e :: es) X.env)).any (·.1) || (backToKw pos (keywordEach kws X.env)).any (·.1.isNone)) = false := by rfl) :
    PE X (.Call (.Name x p) (e :: es) kws pos) (tCallG n ks.length sp gV E t tk) := ⟨fun pins s σ H Q I h =>
  wpAny_Call_Name_kw (ld_glob I hg hm (PySem.W.callWith_KW (h₀ := X.base) I.ok.mod.kin hk hall
    (thn (ha.run pos pins s σ H _ I h) fun us s1 ⟨vs, H1, I1, r, q⟩ => thn (hkw.run pos pins s1 σ H1 _ I1 q) fun ws s2 ⟨zs, H2, I2, rz, q2⟩ => ⟨I2.kIn, by rw [hks]; exact run_g F hr hG hb (hx σ) I2 r rz q2⟩) hpl he) hdb)⟩
theorem pe_g3 (hb : KBn X.K fd ps 0 ks g gV) (hkw : PK X kws tk) (hall : (backToKw pos (keywordEach kws X.env)).all (·.1.isSome) = true := by rfl)
    (hks : (backToKw pos (keywordEach kws X.env)).filterMap (·.1) = ks := by rfl) (hdb : (x == ("__debug__" : Str)) = false := by decide)
    (hpl : ((backTo pos (starEach [] X.env)).any (·.1) || (backToKw pos (keywordEach kws X.env)).any (·.1.isNone)) = false := by rfl) :
    PE X (.Call (.Name x p) [] kws pos) (tCallG 0 ks.length sp gV E tNil tk) := ⟨fun pins s σ H Q I h =>
  wpAny_Call_Name_kw (ld_glob I hg hm (PySem.W.callWith_KW0 (h₀ := X.base) I.ok.mod.kin hk hall
    (thn (hkw.run pos pins s σ H _ I h) fun ws s2 ⟨zs, H2, I2, rz, q2⟩ => ⟨I2.kIn, by rw [hks]; exact run_g F hr hG hb (hx σ) I2 (us := []) .nil rz q2⟩) hpl) hdb)⟩
end
end MR
namespace MR
open PySem PySem.Spec PyProof.Rows L2
/-- enumerate of what begins: its object -/
theorem new_enum {ob : Obj} {G : Heap → Prop} {l : Addr} (b : Begins (.ref l) ob G) {oT : Obj} :
    Meets (Builtin.«enumerate.__new__» ⟨[.type "enumerate", .ref l], []⟩) (fun _ R s => (G s.heap ∧ s.heap.get? l = some oT) ∧
      R (.ok (.ret (.ref (s.heap.push ob).objs.size))) { s with heap := (s.heap.push ob).push { cls := .type "enumerate", data := .fields #[.none, .bool false, .ref s.heap.objs.size, rawInt 0, .none, .none] } }) :=
  .of_wp fun P w A R s q => by
    obtain ⟨h0, gs, dr, tk, os⟩ := s
    obtain ⟨⟨hG, hl⟩, q⟩ := q
    have sub1 := sub_enumerate
    have it1 : ∀ {B : Around} {E : Value → Shared → Prop} {Q : Value → Shared → Prop}, Q (.ref h0.objs.size) ⟨h0.push ob, gs, dr, tk, os⟩ → wpAny (model P w) B (pyIter (.ref l)) Q E ⟨h0, gs, dr, tk, os⟩ :=
      fun z => b.iter P w _ _ ⟨h0, gs, dr, tk, os⟩ _ hG z
    wp_walk using AutoSeq1.wpAny_loadPart' hl, it1
    refine wpAny_stack_any fun st => wpAny_pure ?_
    split
    · rename_i c _ _ _ _ _
      by_cases k : (c == Value.type "enumerate") = true
      all_goals
        simp only [k]
        wp_walk using AutoSeq1.wpAny_loadPart' hl, it1
        exact ⟨_, rfl, q⟩
    · wp_walk using AutoSeq1.wpAny_loadPart' hl, it1
      exact ⟨_, rfl, q⟩
section
variable {P : Program} {w : World} {A : Around} {E : Value → Shared → Prop} {s : Shared}
theorem enum_tup {a : Addr} {its : Array Value} {Q : Value → Shared → Prop} (ht : s.heap.IsTuple a its)
    (h : ∀ h', IsEnum h' (s.heap.objs.size + 1) s.heap.objs.size 0 .none → h'.IsTupleIter s.heap.objs.size a 0 → (∀ b o, s.heap.get? b = some o → h'.get? b = some o) → Q (.ref (s.heap.objs.size + 1)) { s with heap := h' }) :
    wpAny (model P w) A (call (.type "enumerate") [.ref a]) Q E s := by
  obtain ⟨oT, ho, hrest⟩ := id ht
  refine callType_new F.called_enumerate (by decide) (F.typeCall_enumerate_1 _) (F.newCall_enumerate_1 _) (fun obj => F.args_object_init_2 obj _) F.entry_enumerate_new (new_enum (begins_tuple a its) (oT := oT)) ⟨⟨ht, ho⟩, ?_⟩
  have z1 : (s.heap.push { cls := .type "tuple_iterator", data := .fields #[.ref a, .int 0 0] }).objs.size = s.heap.objs.size + 1 := Heap.size_push ..
  show _ ∧ _
  rw [z1]
  have en : IsEnum ((s.heap.push { cls := .type "tuple_iterator", data := .fields #[.ref a, .int 0 0] }).push
      { cls := .type "enumerate", data := .fields #[.none, .bool false, .ref s.heap.objs.size, rawInt 0, .none, .none] }) (s.heap.objs.size + 1) s.heap.objs.size 0 .none := by
    have q := Heap.get?_push_size (s.heap.push { cls := .type "tuple_iterator", data := .fields #[.ref a, .int 0 0] })
      (o := { cls := .type "enumerate", data := .fields #[.none, .bool false, .ref s.heap.objs.size, rawInt 0, .none, .none] }) rfl
    rw [z1] at q
    exact q
  exact ⟨⟨_, en, rfl⟩, h _ en ⟨_, Heap.get?_push_of_some _ (Heap.get?_push_size _ rfl), rfl, rfl⟩ fun b o x => Heap.get?_push_of_some _ (Heap.get?_push_of_some _ x)⟩
end
/-- a tuple's items in new pairs -/
def Itet (K : PySem.W.Frag) (a : Addr) : It :=
  ⟨fun i H => ∃ (xs : List V) (x : V), SqT K H a xs ∧ xs[i]? = some x, fun i H v H' => ∃ t x, v = .ref t ∧ H t = none ∧ H' = upd H t (.tup [.int (i : Nat), x]) ∧ ∀ xs, SqT K H a xs → xs[i]? = some x, fun i H => ∃ xs : List V, SqT K H a xs ∧ xs.length ≤ i⟩
theorem turn_enumT {P : Program} {w : World} {K : PySem.W.Frag} {elts : List Expr} {kk : Nat} {tpos : Pos} (a e it : Addr) :
    Turn P w K (.Tuple elts kk tpos) (Itet K a) [e, it] e (fun i h => (∃ old, IsEnum h e it ((i : Nat) : Int) old) ∧ h.IsTupleIter it a i ∧ e ≠ it) where
  mem := by simp
  obj := fun i h st b hb => by
    obtain ⟨⟨old, he⟩, ⟨o, ho, hc, hd⟩, _⟩ := st
    simp only [List.mem_cons, List.not_mem_nil, or_false] at hb
    rcases hb with rfl | rfl
    · exact ⟨_, he, fun v q => nomatch q⟩
    · exact ⟨o, ho, fun v q => by rw [hd] at q; cases q⟩
  keep := fun i h h' ⟨⟨old, he⟩, hi, hne⟩ k => ⟨⟨old, k e (by simp) _ he⟩, hi.at fun o q => k it (by simp) o q, hne⟩
  item := by
    intro X hP hw hK hc i pins s σ H E I hf st hg
    subst hP hw hK
    obtain ⟨⟨old, he⟩, hit, hne⟩ := st
    obtain ⟨xs, x, hq, hx⟩ := hg
    obtain ⟨its, rv, p, hz⟩ := I.tuple hq
    have p : s.heap.IsTuple a its.toArray := p
    obtain ⟨u, hu, ru⟩ := rv.get hx
    have hel : e < s.heap.objs.size := Heap.lt_size he
    have hil : it < s.heap.objs.size := by obtain ⟨_, q, _⟩ := hit; exact Heap.lt_size q
    have n1 : a ≠ it := fun z => by
      obtain ⟨o1, g1, c1, _⟩ := id p
      obtain ⟨o2, g2, c2, _⟩ := id hit
      rw [z, g2] at g1
      cases g1
      rw [c2] at c1
      injection c1 with c1
      exact absurd c1 (by decide)
    have n2 : e ≠ a := fun z => by
      obtain ⟨o1, g1, c1, _⟩ := id p
      have g2 := he
      unfold IsEnum at g2
      rw [z, g1] at g2
      cases g2
      injection c1 with c1
      exact absurd c1 (by decide)
    have hi : i < its.toArray.size := by
      have := (List.getElem?_eq_some_iff.mp hu).1
      simpa using this
    have hh : X.A.in1.handled = none := I.ok.hd hc
    refine wpAny_pyNext_enum_itemC (Draws.tuple hh it a n1 its.toArray) he ⟨hit, p⟩ hi hne (by simp [hne, n2]) fun y h' tk hy ho st' hT hsz hk => ?_
    have ey : y = u := by
      have h1 : its.toArray[i]? = some u := by simpa using hu
      rw [h1] at hy
      exact (Option.some.inj hy).symm
    subst ey
    refine ⟨_, rfl, wpAny_letOwnedTupleGo_enum (s := { s with heap := h', toks := tk + 1 }) ho fun h2 he2 sb => ?_⟩
    have hT2 : h2.get? s.heap.objs.size = some { cls := .type "tuple", data := .seq #[.int i tk, y] } := (sb.2 _ (Nat.ne_of_gt hel)).trans hT
    have fresh : ObjOk X.prog X.w (upd H s.heap.objs.size (.tup [.int (i : Nat), x])) h2 s.heap.objs.size (.tup [.int (i : Nat), x]) :=
      ⟨by show 2 ≤ sizeLine; decide, [.int i tk, y], .cons ⟨_, rfl⟩ (.cons ru .nil), ⟨_, hT2, rfl, _, rfl⟩⟩
    have I1 : Inv X pins σ (upd H s.heap.objs.size (.tup [.int (i : Nat), x])) { s with heap := h2, toks := tk + 1 } :=
      I.turnedNew (ch := [e, it]) (fun b ob hb q => (sb.2 b (fun z => hb (by simp [z]))).trans (hk b ob (fun z => hb (by simp [z])) (fun z => hb (by simp [z])) q)) hf (Nat.le_refl _) fresh
    refine ⟨.ref s.heap.objs.size, _, I1, rfl, ⟨_, x, rfl, I.hok.fresh (Nat.le_refl _), rfl, fun ys hy => by rw [I.tuple_inj hy hq]; exact hx⟩, ⟨⟨y, ?_⟩, st'.1.at fun o q => (sb.2 it (Ne.symm hne)).trans q, hne⟩, fun b hb => ?_⟩
    · rw [show ((i + 1 : Nat) : Int) = (i : Int) + 1 by omega]
      exact he2
    · have lt : b < s.heap.objs.size := by
        simp only [List.mem_cons, List.not_mem_nil, or_false] at hb
        rcases hb with rfl | rfl
        · exact hel
        · exact hil
      rw [upd_ne (Nat.ne_of_lt lt)]
      exact (hf b hb).1
  done := by
    intro X hP hw hK hc i pins s σ H E I hf st hg
    subst hP hw hK
    obtain ⟨⟨old, he⟩, hit, hne⟩ := st
    obtain ⟨xs, hq, hx⟩ := hg
    obtain ⟨its, rv, p, hz⟩ := I.tuple hq
    have p : s.heap.IsTuple a its.toArray := p
    obtain ⟨f0, f1, f2, f3, f4, f5⟩ := hf it (by simp)
    have hl := rv.length
    unfold pyNext
    have hT : s.TypeIs (.ref e) "enumerate" := ⟨_, he, rfl⟩
    refine wpAny_bind (wpAny_attempt (wpAny_callSpecial?_slot (name := Str.ofString "__next__") hT F.slot_enumerate_next
      (wpAny_call_entry F.slot_enumerate_next hT F.entry_enumerate_next ?_ (F.args_enumerate_next_1 _))))
    show wpAny _ _ (field (.ref e) 2 >>= _) _ _ _
    refine wpAny_bind (wpAny_field he rfl (x := .ref it) rfl ?_)
    refine wpAny_bind (wpAny_nextOf_tuple_end (I.ok.hd hc) hit p (by simp; omega) fun h' x eb hx' => ?_)
    obtain ⟨o, ho, hcl⟩ := hx'
    refine wpAny_bind (wpAny_isInstance (T := "StopIteration") (b := true) ⟨o, ho, hcl⟩ isSubtype_stop ?_)
    exact wpAny_pure ⟨rfl, I.turned (t' := s.toks) (fun b o hb q => eb b o hb q) f0 f1 f3 f4 f5⟩
  self := fun A i s Q E ⟨⟨_, he⟩, _⟩ h => wpAny_pyIter_enum he h
def iEnumT (K : PySem.W.Frag) (ta : TE) : TI := fun σ H R => ta σ H fun v H1 => ∃ a xs, v = .ref a ∧ SqT K H1 a xs ∧ R (Itet K a) H1
theorem pi_enumT {X : Cx} {e : Expr} {ta : TE} {p pos tpos : Pos} {elts : List Expr} {kk : Nat} (hg : Gl X "enumerate") (hm : X.mg "enumerate" = none) (ha : PE X e ta) (hs : starEach [e] X.env = [(false, eval e X.env)] := by rfl) :
    PI X (.Tuple elts kk tpos) (.Call (.Name "enumerate" p) [e] [] pos) (iEnumT X.K ta) := by
  refine ⟨fun pins s σ H R I h => ?_⟩
  have pa : PA X [e] (tCons ta tNil) := pa_cons ha pa_nil (by rw [hs]; rfl)
  refine Call_ (ld_blt I hg hm boot_enumerate (PyProof.Rows.callWith_type1 (thn (pa.run pos pins s σ H (fun vs H1 => ∃ v, vs = [v] ∧ ∃ a xs, v = .ref a ∧ SqT X.K H1 a xs ∧ R (Itet X.K a) H1) I ?_) fun us s1 ⟨vs, H1, I1, r1, q1⟩ => ?_) hs rfl))
  · show ta σ H _
    refine cast (congrArg (ta σ H) ?_) h
    funext v H1
    exact propext ⟨fun z => ⟨v, rfl, z⟩, fun ⟨v', e, z⟩ => by cases e; exact z⟩
  obtain ⟨v, rfl, a, xs, rfl, hq, q⟩ := q1
  cases r1 with
  | cons r rr =>
    cases rr
    cases r
    obtain ⟨its, rv, p', hz⟩ := I1.tuple hq
    refine enum_tup (show s1.heap.IsTuple a its.toArray from p') fun h' he hit hk => wpAny_pyIter_enum he ?_
    have I2 : Inv X pins σ H1 { s1 with heap := h' } := I1.kept (t' := s1.toks) hk
    refine ⟨s1.heap.objs.size + 1, [s1.heap.objs.size + 1, s1.heap.objs.size], _, _, H1, rfl, I2, turn_enumT a (s1.heap.objs.size + 1) s1.heap.objs.size, ⟨⟨.none, he⟩, hit, Nat.succ_ne_self _⟩, fun b hb => ?_, q⟩
    have le : s1.heap.objs.size ≤ b := by
      simp only [List.mem_cons, List.not_mem_nil, or_false] at hb
      rcases hb with rfl | rfl
      · exact Nat.le_add_right _ _
      · exact Nat.le_refl _
    exact I1.fpOk le (I1.hok.fresh le)
theorem walk_enumT {K : PySem.W.Frag} {a : Addr} {xs : List V} : Walk (Itet K a) xs.length (fun H => SqT K H a xs) (YPair (fun i => some (.int (i : Nat))) (fun i => xs[i]?)) := by
  refine ⟨fun i _ hi q => ⟨xs, xs[i], q, by simp [hi]⟩, fun _ q => ⟨xs, q, Nat.le_refl _⟩, fun i H v H' _ q y => ?_⟩
  obtain ⟨t, x, h1, h2, h3, h4⟩ := y
  exact ⟨t, .int (i : Nat), x, h1, h2, h3, rfl, h4 xs q⟩
end MR
namespace MR
open PySem PySem.Spec L2
/-- plain data -/
inductive D where
  | non | bl (b : Bool) | int (i : Int) | str (x : Str)
  | lst (xs : List D) | tup (xs : List D)
  | dct (ks : List Key) (xs : List D)
  | adr (a : Addr)
  | obj (C : Addr) (fs : List Str) (xs : List D)
mutual
inductive Rep (K : PySem.W.Frag) (B : Hp) : V → D → Prop
  | non : Rep K B .non .non
  | bl (b : Bool) : Rep K B (.bl b) (.bl b)
  | int (i : Int) : Rep K B (.int i) (.int i)
  | str (x : Str) : Rep K B (.str x) (.str x)
  | lst {a : Addr} {vs : List V} {ds : List D} : B a = some (.lst vs) → RepAll K B vs ds → Rep K B (.ref a) (.lst ds)
  | tup {a : Addr} {vs : List V} {ds : List D} : SqT K B a vs → RepAll K B vs ds → Rep K B (.ref a) (.tup ds)
  | dct {a : Addr} {kvs : List (Key × V)} {ds : List D} : B a = some (.dK kvs) → RepAll K B (kvs.map (·.2)) ds → Rep K B (.ref a) (.dct (kvs.map (·.1)) ds)
  | adr (a : Addr) : Rep K B (.ref a) (.adr a)
  | obj {a C dx : Addr} {fs : List Str} {vs : List V} {ds : List D} : B a = some (.ins C dx (fs.zip vs)) → vs.length = fs.length → RepAll K B vs ds → Rep K B (.ref a) (.obj C fs ds)
inductive RepAll (K : PySem.W.Frag) (B : Hp) : List V → List D → Prop
  | nil : RepAll K B [] []
  | cons {v : V} {vs : List V} {d : D} {ds : List D} : Rep K B v d → RepAll K B vs ds → RepAll K B (v :: vs) (d :: ds)
end
theorem Same.seqT {K : PySem.W.Frag} {H H' : Hp} {a : Addr} {xs : List V} (e : Same H H') (h : SqT K H a xs) : SqT K H' a xs := by
  rcases h with (h | ⟨o, h⟩) | h
  · exact .inl (.inl (e _ _ h))
  · exact .inl (.inr ⟨o, e _ _ h⟩)
  · exact .inr h
mutual
theorem Rep.mono {K : PySem.W.Frag} {B B' : Hp} (e : Same B B') : ∀ {v : V} {d : D}, Rep K B v d → Rep K B' v d
  | _, _, .non => .non
  | _, _, .bl b => .bl b
  | _, _, .int i => .int i
  | _, _, .str x => .str x
  | _, _, .lst h r => .lst (e _ _ h) (RepAll.mono e r)
  | _, _, .tup h r => .tup (Same.seqT e h) (RepAll.mono e r)
  | _, _, .dct h r => .dct (e _ _ h) (RepAll.mono e r)
  | _, _, .adr a => .adr a
  | _, _, .obj h l r => .obj (e _ _ h) l (RepAll.mono e r)
theorem RepAll.mono {K : PySem.W.Frag} {B B' : Hp} (e : Same B B') : ∀ {vs : List V} {ds : List D}, RepAll K B vs ds → RepAll K B' vs ds
  | _, _, .nil => .nil
  | _, _, .cons h r => .cons (Rep.mono e h) (RepAll.mono e r)
end
section
variable {K : PySem.W.Frag} {B : Hp}
theorem RepAll.length : ∀ {vs : List V} {ds : List D}, RepAll K B vs ds → vs.length = ds.length
  | _, _, .nil => rfl
  | _, _, .cons _ r => congrArg Nat.succ (RepAll.length r)
theorem RepAll.append : ∀ {vs ws : List V} {ds es : List D}, RepAll K B vs ds → RepAll K B ws es → RepAll K B (vs ++ ws) (ds ++ es)
  | _, _, _, _, .nil, s => s
  | _, _, _, _, .cons h r, s => .cons h (RepAll.append r s)
theorem RepAll.get : ∀ {vs : List V} {ds : List D} {i : Nat} {d : D}, RepAll K B vs ds → ds[i]? = some d → ∃ v, vs[i]? = some v ∧ Rep K B v d
  | _, _, _, _, .nil, e => by simp at e
  | _, _, 0, _, .cons h _, e => by
    simp only [List.getElem?_cons_zero, Option.some.injEq] at e
    subst e
    exact ⟨_, rfl, h⟩
  | _, _, i + 1, _, .cons _ r, e => by
    obtain ⟨v, a, b⟩ := RepAll.get (i := i) r (by simpa using e)
    exact ⟨v, by simpa using a, b⟩
theorem RepAll.set {v : V} {d : D} (h : Rep K B v d) : ∀ {vs : List V} {ds : List D} (i : Nat), RepAll K B vs ds → RepAll K B (vs.set i v) (ds.set i d)
  | _, _, _, .nil => .nil
  | _, _, 0, .cons _ r => .cons h r
  | _, _, i + 1, .cons q r => .cons q (RepAll.set h i r)
theorem RepAll.take : ∀ {vs : List V} {ds : List D} (n : Nat), RepAll K B vs ds → RepAll K B (vs.take n) (ds.take n)
  | _, _, 0, _ => .nil
  | _, _, _ + 1, .nil => .nil
  | _, _, n + 1, .cons h r => .cons h (RepAll.take n r)
theorem RepAll.drop : ∀ {vs : List V} {ds : List D} (n : Nat), RepAll K B vs ds → RepAll K B (vs.drop n) (ds.drop n)
  | _, _, 0, r => r
  | _, _, _ + 1, .nil => .nil
  | _, _, n + 1, .cons _ r => RepAll.drop n r
theorem RepAll.reverse : ∀ {vs : List V} {ds : List D}, RepAll K B vs ds → RepAll K B vs.reverse ds.reverse
  | _, _, .nil => .nil
  | _, _, .cons h r => by
    rw [List.reverse_cons, List.reverse_cons]
    exact (RepAll.reverse r).append (.cons h .nil)
theorem RepAll.rep {vs : List V} {ds : List D} (r : RepAll K B vs ds) : ∀ k : Nat, RepAll K B (List.replicate k vs).flatten (List.replicate k ds).flatten
  | 0 => .nil
  | k + 1 => by
    rw [List.replicate_succ, List.replicate_succ, List.flatten_cons, List.flatten_cons]
    exact r.append (RepAll.rep r k)
theorem RepAll.dropLast {vs : List V} {ds : List D} (r : RepAll K B vs ds) : RepAll K B vs.dropLast ds.dropLast := by
  rw [List.dropLast_eq_take, List.dropLast_eq_take, r.length]
  exact r.take _
theorem RepAll.ints : ∀ {ns : List Int}, RepAll K B (ns.map V.int) (ns.map D.int)
  | [] => .nil
  | n :: ns => .cons (.int n) (RepAll.ints (ns := ns))
theorem RepAll.of_ints : ∀ {vs : List V} {ns : List Int}, RepAll K B vs (ns.map D.int) → vs = ns.map V.int
  | _, [], .nil => rfl
  | _, n :: ns, .cons h r => by
    cases h
    rw [RepAll.of_ints r]
    rfl
end
structure Wd where
  W : Type
  foot : W → Addr → Prop
  holds : PySem.W.Frag → W → Hp → Hp → Prop
  some_ : ∀ {K ω B H a}, holds K ω B H → foot ω a → H a ≠ none
  free_ : ∀ {K ω B H a}, holds K ω B H → foot ω a → B a = none
  mono : ∀ {K ω B H B' H'}, holds K ω B H → Same B B' → (∀ a, foot ω a → H' a = H a) → (∀ a, foot ω a → B' a = none) → holds K ω B' H'
structure Hst (wd : Wd) (K : PySem.W.Frag) (F B : Hp) (ω : wd.W) (H : Hp) : Prop where
  sB : Same B H
  sF : Same F H
  dj : ∀ a o, F a = some o → B a = none
  fw : ∀ a, wd.foot ω a → F a = none
  wat : wd.holds K ω B H
inductive Ent where
  | d (x : D)
  | own (l : List D)
abbrev AEnv := List (Option Ent)
def EntOk (K : PySem.W.Frag) (F B : Hp) (s : Option (Option V)) : Ent → Prop
  | .d x => ∃ v, s = some (some v) ∧ Rep K B v x
  | .own l => ∃ p vs, s = some (some (.ref p)) ∧ F p = some (.lst vs) ∧ RepAll K B vs l
structure EnvOk (K : PySem.W.Frag) (F B : Hp) (ρ : AEnv) (σ : St) : Prop where
  len : ρ.length = σ.length
  ent : ∀ (i : Nat) (e : Ent), ρ[i]? = some (some e) → EntOk K F B σ[i]? e
  dist : ∀ (i j : Nat) (l l' : List D) (p : Addr), ρ[i]? = some (some (.own l)) → ρ[j]? = some (some (.own l')) → σ[i]? = some (some (.ref p)) → σ[j]? = some (some (.ref p)) → i = j
section
variable {K : PySem.W.Frag} {F B B' H H' : Hp} {ρ : AEnv} {σ : St} {wd : Wd} {ω : wd.W}
theorem EntOk.mono {s : Option (Option V)} {e : Ent} (h : EntOk K F B s e) (m : Same B B') : EntOk K F B' s e := by
  cases e with
  | d x =>
    obtain ⟨v, a, b⟩ := h
    exact ⟨v, a, b.mono m⟩
  | own l =>
    obtain ⟨p, vs, a, b, c⟩ := h
    exact ⟨p, vs, a, b, c.mono m⟩
theorem EnvOk.mono (h : EnvOk K F B ρ σ) (m : Same B B') : EnvOk K F B' ρ σ := ⟨h.len, fun i e q => (h.ent i e q).mono m, h.dist⟩
theorem Hst.lst (h : Hst wd K F B ω H) {p : Addr} {o : HO} (q : F p = some o ∨ B p = some o) : H p = some o := q.elim (h.sF _ _) (h.sB _ _)
theorem Or.up (m : Same B B') {p : Addr} {o : HO} (q : F p = some o ∨ B p = some o) : F p = some o ∨ B' p = some o := q.imp id (m _ _)
/-- a new object goes to the ground -/
theorem Hst.new (h : Hst wd K F B ω H) {p : Addr} {o : HO} (hp : H p = none) : Same B (upd B p o) ∧ Hst wd K F (upd B p o) ω (upd H p o) := by
  have nB : B p = none := h.sB.free hp
  have nF : F p = none := h.sF.free hp
  have nw : ¬ wd.foot ω p := fun z => h.wat |> fun w => wd.some_ w z hp
  have s1 : Same B (upd B p o) := fun b x e => by
    rw [upd_ne (ne_of_none e nB)]
    exact e
  refine ⟨s1, ⟨fun b x e => ?_, fun b x e => ?_, fun a x e => ?_, h.fw, wd.mono h.wat s1 (fun a z => ?_) (fun a z => ?_)⟩⟩
  · by_cases q : b = p
    · subst q
      rw [upd_same] at e ⊢
      exact e
    · rw [upd_ne q] at e ⊢
      exact h.sB _ _ e
  · rw [upd_ne (ne_of_none e nF)]
    exact h.sF _ _ e
  · rw [upd_ne (ne_of_none e nF)]
    exact h.dj _ _ e
  · rw [upd_ne (fun e => nw (by rw [← e]; exact z))]
  · rw [upd_ne (fun e => nw (by rw [← e]; exact z))]
    exact wd.free_ h.wat z
/-- a new object stays out of the ground -/
theorem Hst.keepOut (h : Hst wd K F B ω H) {p : Addr} {o : HO} (hp : H p = none) : Hst wd K F B ω (upd H p o) := by
  have nB : B p = none := h.sB.free hp
  have nF : F p = none := h.sF.free hp
  have nw : ¬ wd.foot ω p := fun z => wd.some_ h.wat z hp
  refine ⟨fun b x e => ?_, fun b x e => ?_, h.dj, h.fw, wd.mono h.wat (Same.refl _) (fun a z => ?_) (fun a z => wd.free_ h.wat z)⟩
  · rw [upd_ne (ne_of_none e nB)]
    exact h.sB _ _ e
  · rw [upd_ne (ne_of_none e nF)]
    exact h.sF _ _ e
  · rw [upd_ne (fun e => nw (by rw [← e]; exact z))]
end
structure EX where
  cls : Value
  fs : Option (List (Str × D))
def RepX (K : PySem.W.Frag) (B : Hp) (cls : Value) (dx : Option Addr) (x : EX) : Prop :=
  cls = x.cls ∧ match dx, x.fs with
    | none, none => True
    | some a, some fs => ∃ vs, B a = some (.xd ((fs.map (·.1)).zip vs)) ∧ RepAll K B vs (fs.map (·.2))
    | _, _ => False
section
variable (wd : Wd)
abbrev AQ := D → wd.W → Prop
abbrev AX := EX → wd.W → Prop
abbrev AE := AEnv → wd.W → AQ wd → AX wd → Prop
abbrev AA := AEnv → wd.W → (List D → wd.W → Prop) → AX wd → Prop
abbrev AT := AEnv → wd.W → (Bool → wd.W → Prop) → AX wd → Prop
/-- what a continuation is to bear: the value is held -/
def KOk (K : PySem.W.Frag) (F B : Hp) (Qa : AQ wd) (Q : VK) : Prop := ∀ B' ω' H' v d, Same B B' → Hst wd K F B' ω' H' → Rep K B' v d → Qa d ω' → Q v H'
def KAOk (K : PySem.W.Frag) (F B : Hp) (Qa : List D → wd.W → Prop) (Q : List V → Hp → Prop) : Prop := ∀ B' ω' H' vs ds, Same B B' → Hst wd K F B' ω' H' → RepAll K B' vs ds → Qa ds ω' → Q vs H'
def KTOk (K : PySem.W.Frag) (F B : Hp) (Qa : Bool → wd.W → Prop) (Q : Bool → Hp → Prop) : Prop := ∀ B' ω' H' b, Same B B' → Hst wd K F B' ω' H' → Qa b ω' → Q b H'
def XOk (K : PySem.W.Frag) (F B : Hp) (Ea : AX wd) (E : Value → Option Addr → Hp → Prop) : Prop := ∀ B' ω' H' cls dx x, Same B B' → Hst wd K F B' ω' H' → RepX K B' cls dx x → Ea x ω' → E cls dx H'
def RE (K : PySem.W.Frag) (W : WX) (t : TE) (g : AE wd) : Prop := ∀ F B ρ ω σ H Qa Ea Q, Hst wd K F B ω H → EnvOk K F B ρ σ → g ρ ω Qa Ea → KOk wd K F B Qa Q → XOk wd K F B Ea (fun c d h => W c d σ h) → t σ H Q
def RA (K : PySem.W.Frag) (W : WX) (t : TA) (g : AA wd) : Prop := ∀ F B ρ ω σ H Qa Ea Q, Hst wd K F B ω H → EnvOk K F B ρ σ → g ρ ω Qa Ea → KAOk wd K F B Qa Q → XOk wd K F B Ea (fun c d h => W c d σ h) → t σ H Q
def RT (K : PySem.W.Frag) (W : WX) (t : TT) (g : AT wd) : Prop := ∀ F B ρ ω σ H Qa Ea Q, Hst wd K F B ω H → EnvOk K F B ρ σ → g ρ ω Qa Ea → KTOk wd K F B Qa Q → XOk wd K F B Ea (fun c d h => W c d σ h) → t σ H Q
structure GE (X : Cx) (W : WX) (e : Expr) (g : AE wd) : Prop where
  ex : ∃ t, PE X e t ∧ RE wd X.K W t g
structure GA (X : Cx) (W : WX) (es : List Expr) (g : AA wd) : Prop where
  ex : ∃ t, PA X es t ∧ RA wd X.K W t g
structure GK (X : Cx) (W : WX) (kws : List Keyword) (g : AA wd) : Prop where
  ex : ∃ t, PK X kws t ∧ RA wd X.K W t g
structure GT (X : Cx) (W : WX) (e : Expr) (g : AT wd) : Prop where
  ex : ∃ t, PT X e t ∧ RT wd X.K W t g
structure GW (X : Cx) (W : WX) (e : Expr) (g : AT wd) : Prop where
  ex : ∃ t, PW X e t ∧ RT wd X.K W t g
/-- a list that is read: own or frozen; its items are of the ground -/
def KLOk (K : PySem.W.Frag) (F B : Hp) (Qa : List D → wd.W → Prop) (Q : VK) : Prop := ∀ B' ω' H' p vs ds, Same B B' → Hst wd K F B' ω' H' → (F p = some (.lst vs) ∨ B' p = some (.lst vs)) → RepAll K B' vs ds → Qa ds ω' → Q (.ref p) H'
def RL (K : PySem.W.Frag) (W : WX) (t : TE) (g : AA wd) : Prop := ∀ F B ρ ω σ H Qa Ea Q, Hst wd K F B ω H → EnvOk K F B ρ σ → g ρ ω Qa Ea → KLOk wd K F B Qa Q → XOk wd K F B Ea (fun c d h => W c d σ h) → t σ H Q
structure GL (X : Cx) (W : WX) (e : Expr) (g : AA wd) : Prop where
  ex : ∃ t, PE X e t ∧ RL wd X.K W t g
/-- a new list -/
def KFOk (K : PySem.W.Frag) (F B : Hp) (Qa : List D → wd.W → Prop) (Q : VK) : Prop := ∀ B' ω' H' p vs ds, Same B B' → Hst wd K F B' ω' H' → H' p = none → RepAll K B' vs ds → Qa ds ω' → Q (.ref p) (upd H' p (.lst vs))
def RF (K : PySem.W.Frag) (W : WX) (t : TE) (g : AA wd) : Prop := ∀ F B ρ ω σ H Qa Ea Q, Hst wd K F B ω H → EnvOk K F B ρ σ → g ρ ω Qa Ea → KFOk wd K F B Qa Q → XOk wd K F B Ea (fun c d h => W c d σ h) → t σ H Q
structure GF (X : Cx) (W : WX) (e : Expr) (g : AA wd) : Prop where
  ex : ∃ t, PE X e t ∧ RF wd X.K W t g
end
section
variable {wd : Wd} {K : PySem.W.Frag} {F B B' : Hp} {E : Value → Option Addr → Hp → Prop} {Ea : AX wd}
theorem XOk.mono (h : XOk wd K F B Ea E) (m : Same B B') : XOk wd K F B' Ea E := fun B2 ω' H' c d x s => h B2 ω' H' c d x (m.trans s)
theorem KOk.mono {Qa : AQ wd} {Q : VK} (h : KOk wd K F B Qa Q) (m : Same B B') : KOk wd K F B' Qa Q := fun B2 ω' H' v d s => h B2 ω' H' v d (m.trans s)
end
end MR
namespace MR
open PySem PySem.Spec L2
mutual
def toP : D → PyData
  | .non => .none
  | .bl b => .bool b
  | .int i => .int i
  | .str x => .str x
  | .lst xs => .list (toPs xs)
  | .tup xs => .tuple (toPs xs)
  | .dct _ _ => .none
  | .adr _ => .none
  | .obj _ _ _ => .none
def toPs : List D → List PyData
  | [] => []
  | x :: xs => toP x :: toPs xs
end
mutual
def pureD : D → Bool
  | .non => true
  | .bl _ => true
  | .int _ => true
  | .str _ => true
  | .lst xs => pureDs xs
  | .tup xs => pureDs xs
  | .dct _ _ => false
  | .adr _ => false
  | .obj _ _ _ => false
def pureDs : List D → Bool
  | [] => true
  | x :: xs => pureD x && pureDs xs
end
section
variable {K : PySem.W.Frag} {B H : Hp}
mutual
theorem Rep.dp (m : Same B H) : ∀ {v : V} {d : D}, Rep K B v d → pureD d = true → Dp K H v (toP d)
  | _, _, .non, _ => by rw [toP]; exact .non
  | _, _, .bl b, _ => by rw [toP]; exact .bl b
  | _, _, .int i, _ => by rw [toP]; exact .int i
  | _, _, .str x, _ => by rw [toP]; exact .str x
  | _, _, .lst h r, p => by
    rw [toP]
    rw [pureD] at p
    exact .lst (SqL.of (m _ _ h)) (RepAll.dp m r p)
  | _, _, .tup h r, p => by
    rw [toP]
    rw [pureD] at p
    exact .tup (Same.seqT m h) (RepAll.dp m r p)
  | _, _, .dct _ _, p => by rw [pureD] at p; cases p
  | _, _, .adr _, p => by rw [pureD] at p; cases p
  | _, _, .obj _ _ _, p => by rw [pureD] at p; cases p
theorem RepAll.dp (m : Same B H) : ∀ {vs : List V} {ds : List D}, RepAll K B vs ds → pureDs ds = true → DpAll K H vs (toPs ds)
  | _, _, .nil, _ => by rw [toPs]; exact .nil
  | _, _, .cons h r, p => by
    rw [pureDs, Bool.and_eq_true] at p
    rw [toPs]
    exact .cons (Rep.dp m h p.1) (RepAll.dp m r p.2)
end
end
def eqOk (d : D) : Bool := pureD d && SeqAt.shaped (toP d)
def deq (d e : D) : Bool := PyData.eqv (toP d) (toP e)
abbrev FD2 := D → D → (D → Prop) → Prop
def Op2 (K : PySem.W.Frag) (r : R2) (f : FD2) : Prop := ∀ (wd : Wd) (F B : Hp) (ω : wd.W) (H : Hp) (x y : V) (d e : D) (Qa : AQ wd) (Q : VK),
  Hst wd K F B ω H → Rep K B x d → Rep K B y e → f d e (fun z => Qa z ω) → KOk wd K F B Qa Q → r x y H Q
def fAdd : FD2
  | .int i, .int j, Q => Q (.int (i + j))
  | .str x, .str y, Q => x.length + y.length ≤ sizeLine ∧ Q (.str (x ++ y))
  | .tup xs, .tup ys, Q => xs.length + ys.length ≤ sizeLine ∧ Q (.tup (xs ++ ys))
  | .lst xs, .lst ys, Q => xs.length + ys.length ≤ sizeLine ∧ Q (.lst (xs ++ ys))
  | _, _, _ => False
def fSub : FD2
  | .int i, .int j, Q => Q (.int (i - j))
  | _, _, _ => False
def fMul : FD2
  | .int i, .int j, Q => CMulW i j ∧ Q (.int (i * j))
  | .tup xs, .int k, Q => -(2 ^ 63) ≤ k ∧ k ≤ 1000 ∧ xs.length ≤ 1000 ∧ Q (.tup (List.replicate k.toNat xs).flatten)
  | .lst xs, .int k, Q => -(2 ^ 63) ≤ k ∧ k < 2 ^ 63 ∧ xs.length * k.toNat ≤ sizeLine ∧ Q (.lst (List.replicate k.toNat xs).flatten)
  | _, _, _ => False
def fDiv : FD2
  | .int i, .int j, Q => CDivW i j ∧ Q (.int (i / j))
  | _, _, _ => False
def fMod : FD2
  | .int i, .int j, Q => 0 < j ∧ Q (.int (i % j))
  | _, _, _ => False
def fPow : FD2
  | .int i, .int j, Q => CPow i j ∧ Q (.int (i ^ j.toNat))
  | _, _, _ => False
def fEq : FD2
  | .int i, .int j, Q => Q (.bl (decide (i = j)))
  | .str x, .str y, Q => Q (.bl (decide (x = y)))
  | .bl x, .bl y, Q => Q (.bl (decide (x = y)))
  | .tup xs, .tup ys, Q => eqOk (.tup xs) = true ∧ eqOk (.tup ys) = true ∧ Q (.bl (deq (.tup xs) (.tup ys)))
  | .lst xs, .lst ys, Q => eqOk (.lst xs) = true ∧ eqOk (.lst ys) = true ∧ Q (.bl (deq (.lst xs) (.lst ys)))
  | d, e, Q => eqOk d = true ∧ eqOk e = true ∧ Q (.bl (deq d e))
def fNe : FD2
  | .int i, .int j, Q => Q (.bl (!decide (i = j)))
  | .str x, .str y, Q => Q (.bl (!decide (x = y)))
  | .bl x, .bl y, Q => Q (.bl (!decide (x = y)))
  | .tup xs, .tup ys, Q => eqOk (.tup xs) = true ∧ eqOk (.tup ys) = true ∧ Q (.bl (!deq (.tup xs) (.tup ys)))
  | .lst xs, .lst ys, Q => eqOk (.lst xs) = true ∧ eqOk (.lst ys) = true ∧ Q (.bl (!deq (.lst xs) (.lst ys)))
  | d, e, Q => eqOk d = true ∧ eqOk e = true ∧ Q (.bl (!deq d e))
/-- the ints of a list of ints -/
def asInts : List D → Option (List Int)
  | [] => some []
  | .int i :: r => (asInts r).map (i :: ·)
  | _ :: _ => none
theorem asInts_map : ∀ ns : List Int, asInts (ns.map D.int) = some ns
  | [] => rfl
  | n :: ns => by
    rw [List.map_cons, asInts, asInts_map ns]
    rfl
theorem asInts_eq : ∀ {ds : List D} {ns : List Int}, asInts ds = some ns → ds = ns.map D.int
  | [], ns, h => by
    rw [asInts] at h
    cases h
    rfl
  | .int i :: r, ns, h => by
    rw [asInts] at h
    cases e : asInts r with
    | none =>
      rw [e] at h
      cases h
    | some ms =>
      rw [e] at h
      cases h
      rw [asInts_eq e]
      rfl
  | .non :: _, _, h => by simp [asInts] at h
  | .bl _ :: _, _, h => by simp [asInts] at h
  | .str _ :: _, _, h => by simp [asInts] at h
  | .lst _ :: _, _, h => by simp [asInts] at h
  | .tup _ :: _, _, h => by simp [asInts] at h
  | .dct _ _ :: _, _, h => by simp [asInts] at h
  | .adr _ :: _, _, h => by simp [asInts] at h
  | .obj _ _ _ :: _, _, h => by simp [asInts] at h
def fLt : FD2
  | .int i, .int j, Q => Q (.bl (decide (i < j)))
  | .tup xs, .tup ys, Q => match asInts xs, asInts ys with
    | some ns, some ms => Q (.bl (HT.lexLt ns ms))
    | _, _ => False
  | _, _, _ => False
def fLe : FD2
  | .int i, .int j, Q => Q (.bl (decide (i ≤ j)))
  | _, _, _ => False
def fGt : FD2
  | .int i, .int j, Q => Q (.bl (decide (j < i)))
  | _, _, _ => False
def fGe : FD2
  | .int i, .int j, Q => Q (.bl (decide (j ≤ i)))
  | _, _, _ => False
def fIs : FD2
  | .bl a, .bl b, Q => Q (.bl (decide (a = b)))
  | _, _, _ => False
def fIsN : FD2
  | .bl a, .bl b, Q => Q (.bl (!decide (a = b)))
  | _, _, _ => False
abbrev rOr (r q : R2) : R2 := fun x y H Q => r x y H Q ∨ q x y H Q
section
variable {K : PySem.W.Frag}
theorem ro_new {wd : Wd} {F B : Hp} {ω : wd.W} {H : Hp} {Qa : AQ wd} {Q : VK} {vs : List V} {ds : List D} (hs : Hst wd K F B ω H) (r : RepAll K B vs ds) (q : Qa (.tup ds) ω) (k : KOk wd K F B Qa Q) {p : Addr} (hp : H p = none) : Q (.ref p) (upd H p (.tup vs)) := by
  obtain ⟨s1, h1⟩ := hs.new (o := .tup vs) hp
  exact k _ _ _ _ _ s1 h1 (.tup (SqT.of upd_same) (r.mono s1)) q
theorem ro_newL {wd : Wd} {F B : Hp} {ω : wd.W} {H : Hp} {Qa : AQ wd} {Q : VK} {vs : List V} {ds : List D} (hs : Hst wd K F B ω H) (r : RepAll K B vs ds) (q : Qa (.lst ds) ω) (k : KOk wd K F B Qa Q) {p : Addr} (hp : H p = none) : Q (.ref p) (upd H p (.lst vs)) := by
  obtain ⟨s1, h1⟩ := hs.new (o := .lst vs) hp
  exact k _ _ _ _ _ s1 h1 (.lst upd_same (r.mono s1)) q
theorem ro_same {wd : Wd} {F B : Hp} {ω : wd.W} {H : Hp} {Qa : AQ wd} {Q : VK} {v : V} {d : D} (hs : Hst wd K F B ω H) (r : Rep K B v d) (q : Qa d ω) (k : KOk wd K F B Qa Q) : Q v H := k _ _ _ _ _ (Same.refl _) hs r q
theorem op2_add : Op2 K (rOr (rI0 fun i j => .int (i + j)) (rOr (fun x y H Q => ∃ i j, x = .str i ∧ y = .str j ∧ i.length + j.length ≤ sizeLine ∧ Q (.str (i ++ j)) H) (rOr (rCatA K) rCat))) fAdd := by
  intro wd F B ω H x y d e Qa Q hs rx ry hf k
  cases d <;> cases e <;> try exact hf.elim
  case int.int i j =>
    cases rx; cases ry
    exact .inl ⟨i, j, rfl, rfl, ro_same hs (.int _) hf k⟩
  case str.str i j =>
    cases rx; cases ry
    exact .inr (.inl ⟨i, j, rfl, rfl, hf.1, ro_same hs (.str _) hf.2 k⟩)
  case tup.tup xs ys =>
    cases rx with
    | tup h1 r1 =>
      cases ry with
      | tup h2 r2 =>
        have l1 := r1.length
        have l2 := r2.length
        refine .inr (.inr (.inl ⟨_, _, _, _, rfl, rfl, Same.seqT hs.sB h1, Same.seqT hs.sB h2, by rw [l1, l2]; exact hf.1, fun e => ?_, fun _ e => ?_, fun _ _ p hp => ?_⟩))
        · subst e
          cases r1
          exact ro_same hs (.tup h2 r2) hf.2 k
        · subst e
          cases r2
          have q := hf.2
          rw [List.append_nil] at q
          exact ro_same hs (.tup h1 r1) q k
        · exact ro_new hs (r1.append r2) hf.2 k hp
  case lst.lst xs ys =>
    cases rx with
    | lst h1 r1 =>
      cases ry with
      | lst h2 r2 =>
        have l1 := r1.length
        have l2 := r2.length
        exact .inr (.inr (.inr ⟨_, _, _, _, rfl, rfl, hs.sB _ _ h1, hs.sB _ _ h2, by rw [l1, l2]; exact hf.1, fun p hp => ro_newL hs (r1.append r2) hf.2 k hp⟩))
theorem op2_sub : Op2 K (rI0 fun i j => .int (i - j)) fSub := by
  intro wd F B ω H x y d e Qa Q hs rx ry hf k
  cases d <;> cases e <;> try exact hf.elim
  case int.int i j =>
    cases rx; cases ry
    exact ⟨i, j, rfl, rfl, ro_same hs (.int _) hf k⟩
theorem op2_mul : Op2 K (rOr (rI CMulW fun i j => .int (i * j)) (rOr (rRepA K) rRep)) fMul := by
  intro wd F B ω H x y d e Qa Q hs rx ry hf k
  cases d <;> cases e <;> try exact hf.elim
  case int.int i j =>
    cases rx; cases ry
    exact .inl ⟨i, j, rfl, rfl, hf.1, ro_same hs (.int _) hf.2 k⟩
  case lst.int xs j =>
    cases ry
    cases rx with
    | lst h1 r1 =>
      have l1 := r1.length
      exact .inr (.inr ⟨_, _, _, rfl, rfl, hs.sB _ _ h1, hf.1, hf.2.1, by rw [l1]; exact hf.2.2.1, fun p hp => ro_newL hs (r1.rep _) hf.2.2.2 k hp⟩)
  case tup.int xs j =>
    cases ry
    cases rx with
    | tup h1 r1 =>
      have l1 := r1.length
      obtain ⟨c1, c2, c3, q⟩ := hf
      refine .inr (.inl ⟨_, _, _, rfl, rfl, Same.seqT hs.sB h1, c1, c2, by rw [l1]; exact c3, fun e => ?_, fun _ e p hp => ?_, fun _ _ p hp => ro_new hs (r1.rep _) q k hp⟩)
      · refine ro_same hs (.tup h1 r1) ?_ k
        rcases e with e | e
        · subst e
          cases r1
          have : (List.replicate j.toNat ([] : List D)).flatten = [] := by simp
          rw [this] at q
          exact q
        · subst e
          have : (List.replicate (1 : Int).toNat xs).flatten = xs := by
            show (List.replicate 1 xs).flatten = xs
            simp
          rw [this] at q
          exact q
      · have : (List.replicate j.toNat xs).flatten = [] := by
          have z : j.toNat = 0 := by omega
          rw [z]
          rfl
        rw [this] at q
        exact ro_new hs .nil q k hp
theorem op2_div : Op2 K (rI CDivW fun i j => .int (i / j)) fDiv := by
  intro wd F B ω H x y d e Qa Q hs rx ry hf k
  cases d <;> cases e <;> try exact hf.elim
  case int.int i j =>
    cases rx; cases ry
    exact ⟨i, j, rfl, rfl, hf.1, ro_same hs (.int _) hf.2 k⟩
theorem op2_mod : Op2 K (rI (fun _ j => 0 < j) fun i j => .int (i % j)) fMod := by
  intro wd F B ω H x y d e Qa Q hs rx ry hf k
  cases d <;> cases e <;> try exact hf.elim
  case int.int i j =>
    cases rx; cases ry
    exact ⟨i, j, rfl, rfl, hf.1, ro_same hs (.int _) hf.2 k⟩
theorem op2_pow : Op2 K (rI CPow fun i j => .int (i ^ j.toNat)) fPow := by
  intro wd F B ω H x y d e Qa Q hs rx ry hf k
  cases d <;> cases e <;> try exact hf.elim
  case int.int i j =>
    cases rx; cases ry
    exact ⟨i, j, rfl, rfl, hf.1, ro_same hs (.int _) hf.2 k⟩
theorem dec_V {i j : Int} : decide (V.int i = V.int j) = decide (i = j) := by
  by_cases e : i = j
  · subst e; simp
  · rw [decide_eq_false e, decide_eq_false (fun q => e (V.int.inj q))]
theorem dec_S {i j : Str} : decide (V.str i = V.str j) = decide (i = j) := by
  by_cases e : i = j
  · subst e; simp
  · rw [decide_eq_false e, decide_eq_false (fun q => e (V.str.inj q))]
theorem dec_B {i j : Bool} : decide (V.bl i = V.bl j) = decide (i = j) := by
  by_cases e : i = j
  · subst e; simp
  · rw [decide_eq_false e, decide_eq_false (fun q => e (V.bl.inj q))]
theorem eq_data {wd : Wd} {F B : Hp} {ω : wd.W} {H : Hp} {x y : V} {d e : D} {Qa : AQ wd} {Q : VK} (hs : Hst wd K F B ω H) (rx : Rep K B x d) (ry : Rep K B y e) (h1 : eqOk d = true) (h2 : eqOk e = true) (q : Qa (.bl (deq d e)) ω) (k : KOk wd K F B Qa Q) : rEqD K x y H Q := by
  unfold eqOk at h1 h2
  rw [Bool.and_eq_true] at h1 h2
  exact ⟨_, _, rx.dp hs.sB h1.1, ry.dp hs.sB h2.1, h1.2, h2.2, ro_same hs (.bl _) q k⟩
theorem ne_data {wd : Wd} {F B : Hp} {ω : wd.W} {H : Hp} {x y : V} {d e : D} {Qa : AQ wd} {Q : VK} (hs : Hst wd K F B ω H) (rx : Rep K B x d) (ry : Rep K B y e) (h1 : eqOk d = true) (h2 : eqOk e = true) (q : Qa (.bl (!deq d e)) ω) (k : KOk wd K F B Qa Q) : rNeD K x y H Q := by
  unfold eqOk at h1 h2
  rw [Bool.and_eq_true] at h1 h2
  exact ⟨_, _, rx.dp hs.sB h1.1, ry.dp hs.sB h2.1, h1.2, h2.2, ro_same hs (.bl _) q k⟩
theorem op2_eq : Op2 K (rOr rEq (rEqD K)) fEq := by
  intro wd F B ω H x y d e Qa Q hs rx ry hf k
  cases d <;> cases e
  case int.int i j =>
    cases rx; cases ry
    exact .inl ⟨rfl, by rw [dec_V]; exact ro_same hs (.bl _) hf k⟩
  case str.str i j =>
    cases rx; cases ry
    exact .inl ⟨rfl, by rw [dec_S]; exact ro_same hs (.bl _) hf k⟩
  case bl.bl i j =>
    cases rx; cases ry
    exact .inl ⟨rfl, by rw [dec_B]; exact ro_same hs (.bl _) hf k⟩
  all_goals exact .inr (eq_data hs rx ry hf.1 hf.2.1 hf.2.2 k)
theorem op2_ne : Op2 K (rOr rNe (rNeD K)) fNe := by
  intro wd F B ω H x y d e Qa Q hs rx ry hf k
  cases d <;> cases e
  case int.int i j =>
    cases rx; cases ry
    exact .inl ⟨rfl, by rw [dec_V]; exact ro_same hs (.bl _) hf k⟩
  case str.str i j =>
    cases rx; cases ry
    exact .inl ⟨rfl, by rw [dec_S]; exact ro_same hs (.bl _) hf k⟩
  case bl.bl i j =>
    cases rx; cases ry
    exact .inl ⟨rfl, by rw [dec_B]; exact ro_same hs (.bl _) hf k⟩
  all_goals exact .inr (ne_data hs rx ry hf.1 hf.2.1 hf.2.2 k)
theorem op2_lt : Op2 K (rOr (rI0 fun i j => .bl (decide (i < j))) (rLtT K)) fLt := by
  intro wd F B ω H x y d e Qa Q hs rx ry hf k
  cases d <;> cases e <;> try exact hf.elim
  case int.int i j =>
    cases rx; cases ry
    exact .inl ⟨i, j, rfl, rfl, ro_same hs (.bl _) hf k⟩
  case tup.tup xs ys =>
    simp only [fLt] at hf
    cases e1 : asInts xs with
    | none => simp only [e1] at hf
    | some ns =>
      cases e2 : asInts ys with
      | none => simp only [e1, e2] at hf
      | some ms =>
        simp only [e1, e2] at hf
        have a1 := asInts_eq e1
        have a2 := asInts_eq e2
        subst a1 a2
        cases rx with
        | tup h1 r1 =>
          cases ry with
          | tup h2 r2 =>
            have b1 := r1.of_ints
            have b2 := r2.of_ints
            subst b1 b2
            exact .inr ⟨_, _, ns, ms, rfl, rfl, Same.seqT hs.sB h1, Same.seqT hs.sB h2, ro_same hs (.bl _) hf k⟩
theorem op2_cmp {f : Int → Int → Bool} {g : FD2} (hg : ∀ d e Q, g d e Q → ∃ i j, d = .int i ∧ e = .int j ∧ Q (.bl (f i j))) : Op2 K (rI0 fun i j => .bl (f i j)) g := by
  intro wd F B ω H x y d e Qa Q hs rx ry hf k
  obtain ⟨i, j, rfl, rfl, q⟩ := hg _ _ _ hf
  cases rx; cases ry
  exact ⟨i, j, rfl, rfl, ro_same hs (.bl _) q k⟩
theorem op2_gt : Op2 K (rI0 fun i j => .bl (decide (j < i))) fGt := op2_cmp fun d e Q h => by
  cases d <;> cases e <;> first | exact h.elim | exact ⟨_, _, rfl, rfl, h⟩
theorem op2_ge : Op2 K (rI0 fun i j => .bl (decide (j ≤ i))) fGe := op2_cmp fun d e Q h => by
  cases d <;> cases e <;> first | exact h.elim | exact ⟨_, _, rfl, rfl, h⟩
end
section
variable {X : Cx}
theorem m_add : OpR X (binaryOp .Add) (rOr (rI0 fun i j => .int (i + j)) (rOr (fun x y H Q => ∃ i j, x = .str i ∧ y = .str j ∧ i.length + j.length ≤ sizeLine ∧ Q (.str (i ++ j)) H) (rOr (rCatA X.K) rCat))) := op_add.or (op_add_str.or (op_catA.or op_cat))
theorem m_mul : OpR X (binaryOp .Mult) (rOr (rI CMulW fun i j => .int (i * j)) (rOr (rRepA X.K) rRep)) := op_mulW.or (op_repA.or op_rep)
theorem m_eq (hu : X.A.units + 64 < cLine) : OpR X (compareOp .Eq) (rOr rEq (rEqD X.K)) := op_eq.or (op_eqD hu)
theorem m_ne (hu : X.A.units + 64 < cLine) : OpR X (compareOp .NotEq) (rOr rNe (rNeD X.K)) := op_ne.or (op_neD hu)
theorem m_lt (hu : X.A.units < cLine) : OpR X (compareOp .Lt) (rOr (rI0 fun i j => .bl (decide (i < j))) (rLtT X.K)) := op_lt.or (op_ltT hu)
end
end MR
namespace MR
open PySem PySem.Spec L2
section
variable {wd : Wd}
def gVar (i : Nat) : AE wd := fun ρ ω Q _ => match ρ[i]? with
  | some (some (.d x)) => Q x ω
  | _ => False
def gC (d : D) : AE wd := fun _ ω Q _ => Q d ω
def gOp (f : FD2) (ga gb : AE wd) : AE wd := fun ρ ω Q E => ga ρ ω (fun x ω1 => gb ρ ω1 (fun y ω2 => f x y (fun z => Q z ω2)) E) E
/-- a bool taken as a test -/
def bK (Q : Bool → wd.W → Prop) : AQ wd := fun x ω => match x with
  | .bl b => Q b ω
  | _ => False
def gB (g : AE wd) : AT wd := fun ρ ω Q E => g ρ ω (bK Q) E
/-- truth -/
def fTru (x : D) (Q : Bool → Prop) : Prop := match x with
  | .bl b => Q b
  | .non => Q false
  | .int i => Q (i != 0)
  | .str y => y.length ≤ sizeLine ∧ Q ((y.length : Int) != 0)
  | .lst xs => Q (!xs.isEmpty)
  | .tup xs => Q (!xs.isEmpty)
  | _ => False
def gTru (g : AE wd) : AT wd := fun ρ ω Q E => g ρ ω (fun x ω1 => fTru x (fun b => Q b ω1)) E
def gNotT (g : AT wd) : AT wd := fun ρ ω Q E => g ρ ω (fun b ω1 => Q (!b) ω1) E
def gAndT (g h : AT wd) : AT wd := fun ρ ω Q E => g ρ ω (fun b ω1 => if b = true then h ρ ω1 Q E else Q false ω1) E
def gOrT (g h : AT wd) : AT wd := fun ρ ω Q E => g ρ ω (fun b ω1 => if b = true then Q true ω1 else h ρ ω1 Q E) E
def gAndV (g h : AE wd) : AE wd := fun ρ ω Q E => g ρ ω (fun x ω1 => fTru x (fun b => if b = true then h ρ ω1 Q E else Q x ω1)) E
def gOrV (g h : AE wd) : AE wd := fun ρ ω Q E => g ρ ω (fun x ω1 => fTru x (fun b => if b = true then Q x ω1 else h ρ ω1 Q E)) E
def gNotV (g : AE wd) : AE wd := fun ρ ω Q E => g ρ ω (fun x ω1 => fTru x (fun b => Q (.bl (!b)) ω1)) E
def gIf (c : AT wd) (g h : AE wd) : AE wd := fun ρ ω Q E => c ρ ω (fun b ω1 => if b = true then g ρ ω1 Q E else h ρ ω1 Q E) E
def gChain (f f' : FD2) (ga gb gc : AE wd) : AE wd := fun ρ ω Q E => ga ρ ω (fun x ω1 => gb ρ ω1 (fun y ω2 => f x y (fun z => match z with
  | .bl b => if b = true then gc ρ ω2 (fun u ω3 => f' y u (fun z => Q z ω3)) E else Q (.bl false) ω2
  | _ => False)) E) E
def gNil : AA wd := fun _ ω Q _ => Q [] ω
def gCons (g : AE wd) (h : AA wd) : AA wd := fun ρ ω Q E => g ρ ω (fun x ω1 => h ρ ω1 (fun xs ω2 => Q (x :: xs) ω2) E) E
def gTup (g : AA wd) : AE wd := fun ρ ω Q E => g ρ ω (fun xs ω1 => xs.length ≤ sizeLine ∧ Q (.tup xs) ω1) E
def gLst (g : AA wd) : AA wd := fun ρ ω Q E => g ρ ω (fun xs ω1 => xs.length ≤ sizeLine ∧ Q xs ω1) E
/-- a new list, frozen at once -/
def gFz (g : AA wd) : AE wd := fun ρ ω Q E => g ρ ω (fun xs ω1 => Q (.lst xs) ω1) E
def gOwn (i : Nat) : AA wd := fun ρ ω Q _ => match ρ[i]? with
  | some (some (.own l)) => Q l ω
  | some (some (.d (.lst l))) => Q l ω
  | _ => False
def gAsL (g : AE wd) : AA wd := fun ρ ω Q E => g ρ ω (fun x ω1 => match x with
  | .lst l => Q l ω1
  | _ => False) E
end
section
variable {wd : Wd} {K : PySem.W.Frag} {W : WX}
theorem re_var {i : Nat} : RE wd K W (tVar i) (gVar i) := fun F B ρ ω σ H Qa Ea Q hs he hg hk hx => by
  unfold gVar at hg
  cases e : ρ[i]? with
  | none => simp only [e] at hg
  | some o =>
    cases o with
    | none => simp only [e] at hg
    | some en =>
      cases en with
      | own l => simp only [e] at hg
      | d x =>
        simp only [e] at hg
        obtain ⟨v, a, r⟩ := he.ent i _ e
        exact ⟨v, a, ro_same hs r hg hk⟩
theorem re_c {v : V} {d : D} (h : ∀ B, Rep K B v d) : RE wd K W (tC v) (gC d) := fun F B ρ ω σ H Qa Ea Q hs he hg hk hx => ro_same hs (h B) hg hk
theorem re_op {r : R2} {f : FD2} {ta tb : TE} {ga gb : AE wd} (hf : Op2 K r f) (ha : RE wd K W ta ga) (hb : RE wd K W tb gb) : RE wd K W (tOp r ta tb) (gOp f ga gb) := fun F B ρ ω σ H Qa Ea Q hs he hg hk hx =>
  ha F B ρ ω σ H _ Ea _ hs he hg (fun B1 ω1 H1 v1 d1 s1 hs1 r1 g1 => hb F B1 ρ ω1 σ H1 _ Ea _ hs1 (he.mono s1) g1 (fun B2 ω2 H2 v2 d2 s2 hs2 r2 g2 =>
    hf wd F B2 ω2 H2 v1 v2 d1 d2 Qa Q hs2 (r1.mono s2) r2 g2 (hk.mono (s1.trans s2))) (hx.mono s1)) hx
theorem rt_test {t : TE} {g : AE wd} (h : RE wd K W t g) : RT wd K W (tTest t) (gB g) := fun F B ρ ω σ H Qa Ea Q hs he hg hk hx =>
  h F B ρ ω σ H _ Ea _ hs he hg (fun B1 ω1 H1 v1 d1 s1 hs1 r1 g1 => by
    cases d1 <;> try exact g1.elim
    case bl b =>
      cases r1
      exact ⟨b, rfl, hk _ _ _ _ s1 hs1 g1⟩) hx
theorem tru_of {F B : Hp} {ω : wd.W} {H : Hp} {x : D} {v : V} {Q : Bool → Prop} (hs : Hst wd K F B ω H) (r : Rep K B v x) (h : fTru x Q) : ∃ k, TruV K v H k ∧ Q k := by
  cases r with
  | non => exact ⟨_, rfl, h⟩
  | bl b => exact ⟨_, rfl, h⟩
  | int i => exact ⟨_, rfl, h⟩
  | str y => exact ⟨_, ⟨h.1, rfl⟩, h.2⟩
  | lst e q =>
    refine ⟨_, .inl ⟨_, SqL.of (hs.sB _ _ e), rfl⟩, ?_⟩
    cases q <;> exact h
  | tup e q =>
    refine ⟨_, .inr (.inl ⟨_, Same.seqT hs.sB e, rfl⟩), ?_⟩
    cases q <;> exact h
  | dct _ _ => exact h.elim
  | adr _ => exact h.elim
  | obj _ _ _ => exact h.elim
theorem rt_tru {t : TE} {g : AE wd} (h : RE wd K W t g) : RT wd K W (fun σ H Q => t σ H fun x H' => ∃ k, TruV K x H' k ∧ Q k H') (gTru g) := fun F B ρ ω σ H Qa Ea Q hs he hg hk hx =>
  h F B ρ ω σ H _ Ea _ hs he hg (fun B1 ω1 H1 v1 d1 s1 hs1 r1 g1 => by
    obtain ⟨k, a, b⟩ := tru_of hs1 r1 g1
    exact ⟨k, a, hk _ _ _ _ s1 hs1 b⟩) hx
theorem rt_not {t : TT} {g : AT wd} (h : RT wd K W t g) : RT wd K W (tNot t) (gNotT g) := fun F B ρ ω σ H Qa Ea Q hs he hg hk hx =>
  h F B ρ ω σ H _ Ea _ hs he hg (fun B1 ω1 H1 b s1 hs1 g1 => hk _ _ _ _ s1 hs1 g1) hx
theorem rt_and {t u : TT} {g h : AT wd} (h1 : RT wd K W t g) (h2 : RT wd K W u h) : RT wd K W (tAnd t u) (gAndT g h) := fun F B ρ ω σ H Qa Ea Q hs he hg hk hx =>
  h1 F B ρ ω σ H _ Ea _ hs he hg (fun B1 ω1 H1 b s1 hs1 g1 => by
    cases b with
    | true => exact h2 F B1 ρ ω1 σ H1 Qa Ea Q hs1 (he.mono s1) g1 (fun B2 ω2 H2 c s2 => hk B2 ω2 H2 c (s1.trans s2)) (hx.mono s1)
    | false => exact hk _ _ _ _ s1 hs1 g1) hx
theorem rt_or {t u : TT} {g h : AT wd} (h1 : RT wd K W t g) (h2 : RT wd K W u h) : RT wd K W (tOr t u) (gOrT g h) := fun F B ρ ω σ H Qa Ea Q hs he hg hk hx =>
  h1 F B ρ ω σ H _ Ea _ hs he hg (fun B1 ω1 H1 b s1 hs1 g1 => by
    cases b with
    | false => exact h2 F B1 ρ ω1 σ H1 Qa Ea Q hs1 (he.mono s1) g1 (fun B2 ω2 H2 c s2 => hk B2 ω2 H2 c (s1.trans s2)) (hx.mono s1)
    | true => exact hk _ _ _ _ s1 hs1 g1) hx
theorem re_andV {t u : TE} {g h : AE wd} (h1 : RE wd K W t g) (h2 : RE wd K W u h) : RE wd K W (tAndT K t u) (gAndV g h) := fun F B ρ ω σ H Qa Ea Q hs he hg hk hx =>
  h1 F B ρ ω σ H _ Ea _ hs he hg (fun B1 ω1 H1 v1 d1 s1 hs1 r1 g1 => by
    obtain ⟨b, a, q⟩ := tru_of hs1 r1 g1
    refine ⟨b, a, ?_⟩
    cases b with
    | true => exact h2 F B1 ρ ω1 σ H1 Qa Ea Q hs1 (he.mono s1) q (hk.mono s1) (hx.mono s1)
    | false => exact hk _ _ _ _ _ s1 hs1 r1 q) hx
theorem re_orV {t u : TE} {g h : AE wd} (h1 : RE wd K W t g) (h2 : RE wd K W u h) : RE wd K W (tOrT K t u) (gOrV g h) := fun F B ρ ω σ H Qa Ea Q hs he hg hk hx =>
  h1 F B ρ ω σ H _ Ea _ hs he hg (fun B1 ω1 H1 v1 d1 s1 hs1 r1 g1 => by
    obtain ⟨b, a, q⟩ := tru_of hs1 r1 g1
    refine ⟨b, a, ?_⟩
    cases b with
    | false => exact h2 F B1 ρ ω1 σ H1 Qa Ea Q hs1 (he.mono s1) q (hk.mono s1) (hx.mono s1)
    | true => exact hk _ _ _ _ _ s1 hs1 r1 q) hx
theorem re_if {c : TT} {t u : TE} {gc : AT wd} {g h : AE wd} (hc : RT wd K W c gc) (h1 : RE wd K W t g) (h2 : RE wd K W u h) : RE wd K W (tIf c t u) (gIf gc g h) := fun F B ρ ω σ H Qa Ea Q hs he hg hk hx =>
  hc F B ρ ω σ H _ Ea _ hs he hg (fun B1 ω1 H1 b s1 hs1 g1 => by
    cases b with
    | true => exact h1 F B1 ρ ω1 σ H1 Qa Ea Q hs1 (he.mono s1) g1 (hk.mono s1) (hx.mono s1)
    | false => exact h2 F B1 ρ ω1 σ H1 Qa Ea Q hs1 (he.mono s1) g1 (hk.mono s1) (hx.mono s1)) hx
theorem ra_nil : RA wd K W tNil gNil := fun F B ρ ω σ H Qa Ea Q hs he hg hk hx => hk _ _ _ _ _ (Same.refl _) hs .nil hg
theorem ra_cons {t : TE} {u : TA} {g : AE wd} {h : AA wd} (h1 : RE wd K W t g) (h2 : RA wd K W u h) : RA wd K W (tCons t u) (gCons g h) := fun F B ρ ω σ H Qa Ea Q hs he hg hk hx =>
  h1 F B ρ ω σ H _ Ea _ hs he hg (fun B1 ω1 H1 v1 d1 s1 hs1 r1 g1 => h2 F B1 ρ ω1 σ H1 _ Ea _ hs1 (he.mono s1) g1 (fun B2 ω2 H2 vs ds s2 hs2 r2 g2 =>
    hk _ _ _ _ _ (s1.trans s2) hs2 (.cons (r1.mono s2) r2) g2) (hx.mono s1)) hx
theorem re_tup {t : TA} {g : AA wd} (h : RA wd K W t g) : RE wd K W (tTup t) (gTup g) := fun F B ρ ω σ H Qa Ea Q hs he hg hk hx =>
  h F B ρ ω σ H _ Ea _ hs he hg (fun B1 ω1 H1 vs ds s1 hs1 r1 g1 => ⟨by rw [r1.length]; exact g1.1, fun p hp => ro_new hs1 r1 g1.2 (hk.mono s1) hp⟩) hx
theorem rf_lst {t : TA} {g : AA wd} (h : RA wd K W t g) : RF wd K W (tLst t) (gLst g) := fun F B ρ ω σ H Qa Ea Q hs he hg hk hx =>
  h F B ρ ω σ H _ Ea _ hs he hg (fun B1 ω1 H1 vs ds s1 hs1 r1 g1 => ⟨by rw [r1.length]; exact g1.1, fun p hp => hk _ _ _ p _ _ s1 hs1 hp r1 g1.2⟩) hx
theorem re_fz {t : TE} {g : AA wd} (h : RF wd K W t g) : RE wd K W t (gFz g) := fun F B ρ ω σ H Qa Ea Q hs he hg hk hx =>
  h F B ρ ω σ H _ Ea _ hs he hg (fun B1 ω1 H1 p vs ds s1 hs1 hp r1 g1 => ro_newL hs1 r1 g1 (hk.mono s1) hp) hx
theorem rl_own {i : Nat} : RL wd K W (tVar i) (gOwn i) := fun F B ρ ω σ H Qa Ea Q hs he hg hk hx => by
  unfold gOwn at hg
  cases e : ρ[i]? with
  | none => simp only [e] at hg
  | some o =>
    cases o with
    | none => simp only [e] at hg
    | some en =>
      cases en with
      | own l =>
        simp only [e] at hg
        obtain ⟨p, vs, a, b, r⟩ := he.ent i _ e
        exact ⟨_, a, hk _ _ _ p vs l (Same.refl _) hs (.inl b) r hg⟩
      | d x =>
        cases x <;> simp only [e] at hg
        case lst l =>
          obtain ⟨v, a, r⟩ := he.ent i _ e
          cases r with
          | lst q r => exact ⟨_, a, hk _ _ _ _ _ l (Same.refl _) hs (.inr q) r hg⟩
theorem rl_of {t : TE} {g : AE wd} (h : RE wd K W t g) : RL wd K W t (gAsL g) := fun F B ρ ω σ H Qa Ea Q hs he hg hk hx =>
  h F B ρ ω σ H _ Ea _ hs he hg (fun B1 ω1 H1 v1 d1 s1 hs1 r1 g1 => by
    cases d1 <;> try exact g1.elim
    case lst l =>
      cases r1 with
      | lst q r => exact hk _ _ _ _ _ l s1 hs1 (.inr q) r g1) hx
theorem rl_fz {t : TE} {g : AA wd} (h : RF wd K W t g) : RL wd K W t g := fun F B ρ ω σ H Qa Ea Q hs he hg hk hx =>
  h F B ρ ω σ H _ Ea _ hs he hg (fun B1 ω1 H1 p vs ds s1 hs1 hp r1 g1 => by
    obtain ⟨s2, h2⟩ := hs1.new (o := .lst vs) hp
    exact hk _ _ _ p vs ds (s1.trans s2) h2 (.inr upd_same) (r1.mono s2) g1) hx
end
section
variable {wd : Wd} {X : Cx} {W : WX} {a b c e : Expr} {ga gb gc g h : AE wd} {pos : Pos}
theorem ge_var (i : Nat) {x : Str} {pos : Pos} (hN : X.N[i]? = some x := by rfl) (hv : Vis X.env.scope x := by first | exact Or.inl rfl | exact Or.inr (Or.inl rfl) | exact Or.inr (Or.inr rfl)) (hd : (x == ("__debug__" : Str)) = false := by decide)
    (hcd : (x == ("__classdict__" : Str)) = false := by decide) : GE wd X W (.Name x pos) (gVar i) := ⟨_, pe_var hN hv hd hcd, re_var⟩
theorem gl_own (i : Nat) {x : Str} {pos : Pos} (hN : X.N[i]? = some x := by rfl) (hv : Vis X.env.scope x := by first | exact Or.inl rfl | exact Or.inr (Or.inl rfl) | exact Or.inr (Or.inr rfl)) (hd : (x == ("__debug__" : Str)) = false := by decide)
    (hcd : (x == ("__classdict__" : Str)) = false := by decide) : GL wd X W (.Name x pos) (gOwn i) := ⟨_, pe_var hN hv hd hcd, rl_own⟩
theorem GE.gl (ha : GE wd X W e g) : GL wd X W e (gAsL g) := let ⟨_, p, r⟩ := ha.ex; ⟨_, p, rl_of r⟩
theorem GF.gl {g : AA wd} (ha : GF wd X W e g) : GL wd X W e g := let ⟨_, p, r⟩ := ha.ex; ⟨_, p, rl_fz r⟩
theorem GF.ge {g : AA wd} (ha : GF wd X W e g) : GE wd X W e (gFz g) := let ⟨_, p, r⟩ := ha.ex; ⟨_, p, re_fz r⟩
theorem ge_int {i j pos} : GE wd X W (.Constant (.int i) j pos) (gC (.int i)) := ⟨_, pe_int, re_c fun _ => .int i⟩
theorem ge_bl {b j pos} : GE wd X W (.Constant (.bool b) j pos) (gC (.bl b)) := ⟨_, pe_bl, re_c fun _ => .bl b⟩
theorem ge_non {j pos} : GE wd X W (.Constant .none j pos) (gC .non) := ⟨_, pe_non, re_c fun _ => .non⟩
theorem ge_str {x j pos} : GE wd X W (.Constant (.str x) j pos) (gC (.str x)) := ⟨_, pe_str, re_c fun _ => .str x⟩
theorem ge_op {op : Operator} {r : R2} {f : FD2} (ho : OpR X (binaryOp op) r) (hf : Op2 X.K r f) (ha : GE wd X W a ga) (hb : GE wd X W b gb) : GE wd X W (.BinOp a op b pos) (gOp f ga gb) :=
  let ⟨_, pa, ra⟩ := ha.ex; let ⟨_, pb, rb⟩ := hb.ex; ⟨_, pe_op ho pa pb, re_op hf ra rb⟩
theorem ge_add (ha : GE wd X W a ga) (hb : GE wd X W b gb) : GE wd X W (.BinOp a .Add b pos) (gOp fAdd ga gb) := ge_op m_add op2_add ha hb
theorem ge_sub (ha : GE wd X W a ga) (hb : GE wd X W b gb) : GE wd X W (.BinOp a .Sub b pos) (gOp fSub ga gb) := ge_op op_sub op2_sub ha hb
theorem ge_mul (ha : GE wd X W a ga) (hb : GE wd X W b gb) : GE wd X W (.BinOp a .Mult b pos) (gOp fMul ga gb) := ge_op m_mul op2_mul ha hb
theorem ge_div (ha : GE wd X W a ga) (hb : GE wd X W b gb) : GE wd X W (.BinOp a .FloorDiv b pos) (gOp fDiv ga gb) := ge_op op_fdivW op2_div ha hb
theorem ge_mod (ha : GE wd X W a ga) (hb : GE wd X W b gb) : GE wd X W (.BinOp a .Mod b pos) (gOp fMod ga gb) := ge_op op_mod op2_mod ha hb
theorem ge_pow (ha : GE wd X W a ga) (hb : GE wd X W b gb) : GE wd X W (.BinOp a .Pow b pos) (gOp fPow ga gb) := ge_op op_pow op2_pow ha hb
theorem ge_cmp {op : CmpOp} {r : R2} {f : FD2} (ho : OpR X (compareOp op) r) (hf : Op2 X.K r f) (hm : behindInMarks op b = false) (ha : GE wd X W a ga) (hb : GE wd X W b gb) : GE wd X W (.Compare a [op] [b] pos) (gOp f ga gb) :=
  let ⟨_, pa, ra⟩ := ha.ex; let ⟨_, pb, rb⟩ := hb.ex; ⟨_, pe_cmpR ho pa pb hm, re_op hf ra rb⟩
theorem gt_cmp {op : CmpOp} {r : R2} {f : FD2} (ho : OpR X (compareOp op) r) (hf : Op2 X.K r f) (hm : behindInMarks op b = false) (ha : GE wd X W a ga) (hb : GE wd X W b gb) : GT wd X W (.Compare a [op] [b] pos) (gB (gOp f ga gb)) :=
  let ⟨_, pa, ra⟩ := ha.ex; let ⟨_, pb, rb⟩ := hb.ex; ⟨_, pt_cmpR ho pa pb hm, rt_test (re_op hf ra rb)⟩
theorem gt_tru (ha : GE wd X W a ga) (he : ∀ whole, isTrue a X.env whole = (do let v ← whole; standAt a.pos; holding [v] (truthy v)) := by intro _; rfl) : GT wd X W a (gTru ga) :=
  let ⟨_, pa, ra⟩ := ha.ex; ⟨_, pt_truth pa he, rt_tru ra⟩
variable {ta tb : AT wd} {rest : List Expr}
theorem gt_not (ha : GT wd X W a ta) : GT wd X W (.UnaryOp .Not a pos) (gNotT ta) := let ⟨_, pa, ra⟩ := ha.ex; ⟨_, pt_not pa, rt_not ra⟩
theorem GW.gt (ha : GW wd X W a ta) : GT wd X W a ta := let ⟨_, pa, ra⟩ := ha.ex; ⟨_, pa.pt, ra⟩
theorem gw_and1 (ha : GT wd X W a ta) : GW wd X W (.BoolOp .And [a] pos) ta := let ⟨_, pa, ra⟩ := ha.ex; ⟨_, pw_and1 pa, ra⟩
theorem gw_or1 (ha : GT wd X W a ta) : GW wd X W (.BoolOp .Or [a] pos) ta := let ⟨_, pa, ra⟩ := ha.ex; ⟨_, pw_or1 pa, ra⟩
theorem gw_and (ha : GT wd X W a ta) (hb : GW wd X W (.BoolOp .And (b :: rest) pos) tb) : GW wd X W (.BoolOp .And (a :: b :: rest) pos) (gAndT ta tb) :=
  let ⟨_, pa, ra⟩ := ha.ex; let ⟨_, pb, rb⟩ := hb.ex; ⟨_, pw_and pa pb, rt_and ra rb⟩
theorem gw_or (ha : GT wd X W a ta) (hb : GW wd X W (.BoolOp .Or (b :: rest) pos) tb) : GW wd X W (.BoolOp .Or (a :: b :: rest) pos) (gOrT ta tb) :=
  let ⟨_, pa, ra⟩ := ha.ex; let ⟨_, pb, rb⟩ := hb.ex; ⟨_, pw_or pa pb, rt_or ra rb⟩
theorem ge_one {op} (ha : GE wd X W a ga) : GE wd X W (.BoolOp op [a] pos) ga := let ⟨_, pa, ra⟩ := ha.ex; ⟨_, pe_one pa, ra⟩
theorem ge_and (ha : GE wd X W a ga) (hb : GE wd X W (.BoolOp .And (b :: rest) pos) gb) : GE wd X W (.BoolOp .And (a :: b :: rest) pos) (gAndV ga gb) :=
  let ⟨_, pa, ra⟩ := ha.ex; let ⟨_, pb, rb⟩ := hb.ex; ⟨_, pe_andT pa pb, re_andV ra rb⟩
theorem ge_or (ha : GE wd X W a ga) (hb : GE wd X W (.BoolOp .Or (b :: rest) pos) gb) : GE wd X W (.BoolOp .Or (a :: b :: rest) pos) (gOrV ga gb) :=
  let ⟨_, pa, ra⟩ := ha.ex; let ⟨_, pb, rb⟩ := hb.ex; ⟨_, pe_orT pa pb, re_orV ra rb⟩
theorem ge_if {tc : AT wd} (hc : GT wd X W c tc) (ha : GE wd X W a ga) (hb : GE wd X W b gb) : GE wd X W (.IfExp c a b pos) (gIf tc ga gb) :=
  let ⟨_, pc, rc⟩ := hc.ex; let ⟨_, pa, ra⟩ := ha.ex; let ⟨_, pb, rb⟩ := hb.ex; ⟨_, pe_ifExp pc pa pb, re_if rc ra rb⟩
variable {es : List Expr} {gs : AA wd}
theorem ga_nil : GA wd X W [] gNil := ⟨_, pa_nil, ra_nil⟩
theorem ga_cons (ha : GE wd X W e ga) (hr : GA wd X W es gs) (hs : starEach (e :: es) X.env = (false, eval e X.env) :: starEach es X.env := by rfl) : GA wd X W (e :: es) (gCons ga gs) :=
  let ⟨_, pa, ra⟩ := ha.ex; let ⟨_, pb, rb⟩ := hr.ex; ⟨_, pa_cons pa pb hs, ra_cons ra rb⟩
theorem ge_tup {x1} (hr : GA wd X W es gs) : GE wd X W (.Tuple es x1 pos) (gTup gs) := let ⟨_, pb, rb⟩ := hr.ex; ⟨_, pe_tup pb, re_tup rb⟩
theorem gf_lst (hr : GA wd X W es gs) : GF wd X W (.List es pos) (gLst gs) := let ⟨_, pb, rb⟩ := hr.ex; ⟨_, pe_lst pb, rf_lst rb⟩
end
end MR
namespace MR
open PySem PySem.Spec L2
section
variable {K : PySem.W.Frag} {B : Hp}
theorem RepAll.atI {vs : List V} {ds : List D} {i : Int} {d : D} (r : RepAll K B vs ds) (h : atI ds i = some d) : ∃ v, L2.atI vs i = some v ∧ Rep K B v d := by
  unfold L2.atI at h ⊢
  rw [r.length]
  cases e : ixN ds.length i with
  | none =>
    rw [e] at h
    cases h
  | some j =>
    rw [e] at h
    exact r.get h
end
def fIx : FD2
  | .tup xs, .int i, Q => match L2.atI xs i with
    | some d => Q d
    | none => False
  | .lst xs, .int i, Q => match L2.atI xs i with
    | some d => Q d
    | none => False
  | .str z, .int i, Q => z.length ≤ sizeLine ∧ match L2.atI z.cps.toList i with
    | some c => Q (.str ⟨#[c]⟩)
    | none => False
  | _, _, _ => False
theorem op2_ix {K : PySem.W.Frag} : Op2 K (rIx K) fIx := by
  intro wd F B ω H x y d e Qa Q hs rx ry hf k
  cases d <;> cases e <;> try exact hf.elim
  case tup.int xs i =>
    cases ry
    cases rx with
    | tup h1 r1 =>
      simp only [fIx] at hf
      cases e : L2.atI xs i with
      | none => simp only [e] at hf
      | some d =>
        simp only [e] at hf
        obtain ⟨v, e2, r⟩ := r1.atI e
        exact .inr (.inl ⟨_, _, i, v, rfl, rfl, Same.seqT hs.sB h1, e2, ro_same hs r hf k⟩)
  case lst.int xs i =>
    cases ry
    cases rx with
    | lst h1 r1 =>
      simp only [fIx] at hf
      cases e : L2.atI xs i with
      | none => simp only [e] at hf
      | some d =>
        simp only [e] at hf
        obtain ⟨v, e2, r⟩ := r1.atI e
        exact .inl ⟨_, _, i, v, rfl, rfl, SqL.of (hs.sB _ _ h1), e2, ro_same hs r hf k⟩
  case str.int z i =>
    cases rx; cases ry
    simp only [fIx] at hf
    cases e : L2.atI z.cps.toList i with
    | none =>
      simp only [e] at hf
      exact hf.2.elim
    | some c =>
      simp only [e] at hf
      exact .inr (.inr ⟨z, i, c, rfl, rfl, hf.1, e, ro_same hs (.str _) hf.2 k⟩)
def cutD {α : Type} (xs : List α) (lo hi : Option Int) : List α := (xs.drop (HT.sIx xs.length 0 lo)).take (HT.sIx xs.length xs.length hi - HT.sIx xs.length 0 lo)
theorem cut_rep {K : PySem.W.Frag} {B : Hp} {vs : List V} {ds : List D} (r : RepAll K B vs ds) (lo hi : Option Int) : RepAll K B (cutV vs lo hi) (cutD ds lo hi) := by
  unfold cutV cutD
  rw [r.length]
  exact (r.drop _).take _
def fSl (x : D) (lo hi : Option Int) (Q : D → Prop) : Prop := match x with
  | .tup xs => Q (.tup (cutD xs lo hi))
  | .lst xs => Q (.lst (cutD xs lo hi))
  | .str z => z.length ≤ sizeLine ∧ Q (.str (cutS z lo hi))
  | _ => False
section
variable (wd : Wd)
abbrev AO := AEnv → wd.W → (Option Int → wd.W → Prop) → AX wd → Prop
def KOO (K : PySem.W.Frag) (F B : Hp) (Qa : Option Int → wd.W → Prop) (Q : Option Int → Hp → Prop) : Prop := ∀ B' ω' H' o, Same B B' → Hst wd K F B' ω' H' → Qa o ω' → Q o H'
def RO (K : PySem.W.Frag) (W : WX) (t : TO) (g : AO wd) : Prop := ∀ F B ρ ω σ H Qa Ea Q, Hst wd K F B ω H → EnvOk K F B ρ σ → g ρ ω Qa Ea → KOO wd K F B Qa Q → XOk wd K F B Ea (fun c d h => W c d σ h) → t σ H Q
structure GO (X : Cx) (W : WX) (e : Option Expr) (g : AO wd) : Prop where
  ex : ∃ t, PO X e t ∧ RO wd X.K W t g
end
section
variable {wd : Wd} {K : PySem.W.Frag} {W : WX} {X : Cx}
def gNo : AO wd := fun _ ω Q _ => Q none ω
def gPart (g : AE wd) : AO wd := fun ρ ω Q E => g ρ ω (fun x ω1 => match x with
  | .int i => Q (some i) ω1
  | _ => False) E
theorem go_none : GO wd X W none gNo := ⟨_, po_none, fun F B ρ ω σ H Qa Ea Q hs he hg hk hx => hk _ _ _ _ (Same.refl _) hs hg⟩
theorem go_some {e : Expr} {g : AE wd} (h : GE wd X W e g) : GO wd X W (some e) (gPart g) := by
  obtain ⟨t, p, r⟩ := h.ex
  refine ⟨_, po_some p, fun F B ρ ω σ H Qa Ea Q hs he hg hk hx => r F B ρ ω σ H _ Ea _ hs he hg (fun B1 ω1 H1 v1 d1 s1 hs1 r1 g1 => ?_) hx⟩
  cases d1 <;> try exact g1.elim
  case int i =>
    cases r1
    exact ⟨i, rfl, hk _ _ _ _ s1 hs1 g1⟩
def gSl (g : AE wd) (gl gh : AO wd) : AE wd := fun ρ ω Q E => g ρ ω (fun x ω1 => gl ρ ω1 (fun lo ω2 => gh ρ ω2 (fun hi ω3 => fSl x lo hi (fun z => Q z ω3)) E) E) E
/-- the slice of a list is a new one -/
def gSlF (g : AA wd) (gl gh : AO wd) : AA wd := fun ρ ω Q E => g ρ ω (fun x ω1 => gl ρ ω1 (fun lo ω2 => gh ρ ω2 (fun hi ω3 => Q (cutD x lo hi) ω3) E) E) E
abbrev rSlU (K : PySem.W.Frag) : V → Option Int → Option Int → Hp → VK → Prop := fun x lo hi H Q => rSlA K x lo hi H Q ∨ rSlL K x lo hi H Q ∨ rSlS x lo hi H Q
theorem sl_any : SlR X (rSlU X.K) := sl_tupA.or (sl_list.or sl_str)
theorem cut_whole {xs : List D} {lo hi : Option Int} (h : HT.sIx xs.length 0 lo = 0 ∧ HT.sIx xs.length xs.length hi = xs.length) : cutD xs lo hi = xs := by
  unfold cutD
  rw [h.1, h.2]
  simp
theorem ge_slice {e : Expr} {lo hi : Option Expr} {p2 pos : Pos} {g : AE wd} {gl gh : AO wd} (h : GE wd X W e g) (hl : GO wd X W lo gl) (hh : GO wd X W hi gh) : GE wd X W (.Subscript e (.Slice lo hi none p2) pos) (gSl g gl gh) := by
  obtain ⟨t, p, r⟩ := h.ex
  obtain ⟨tl, pl, rl⟩ := hl.ex
  obtain ⟨th, ph, rh⟩ := hh.ex
  refine ⟨_, pe_slice sl_any p pl ph, fun F B ρ ω σ H Qa Ea Q hs he hg hk hx => r F B ρ ω σ H _ Ea _ hs he hg (fun B1 ω1 H1 v1 d1 s1 hs1 r1 g1 =>
    rl F B1 ρ ω1 σ H1 _ Ea _ hs1 (he.mono s1) g1 (fun B2 ω2 H2 lo s2 hs2 g2 => rh F B2 ρ ω2 σ H2 _ Ea _ hs2 (he.mono (s1.trans s2)) g2 (fun B3 ω3 H3 hi s3 hs3 g3 => ?_) (hx.mono (s1.trans s2))) (hx.mono s1)) hx⟩
  have r3 := r1.mono (s2.trans s3)
  have hk3 := hk.mono ((s1.trans s2).trans s3)
  cases d1 <;> try exact g3.elim
  case tup xs =>
    cases r3 with
    | tup h1 r1 =>
      have l1 := r1.length
      refine .inl ⟨_, _, rfl, Same.seqT hs3.sB h1, fun e => ?_, fun _ p hp => ro_new hs3 (cut_rep r1 lo hi) g3 hk3 hp⟩
      rw [l1] at e
      have g3' : Qa (.tup (cutD xs lo hi)) ω3 := g3
      rw [cut_whole e] at g3'
      exact ro_same hs3 (.tup h1 r1) g3' hk3
  case lst xs =>
    cases r3 with
    | lst h1 r1 => exact .inr (.inl ⟨_, _, rfl, SqL.of (hs3.sB _ _ h1), fun p hp => ro_newL hs3 (cut_rep r1 lo hi) g3 hk3 hp⟩)
  case str z =>
    cases r3
    exact .inr (.inr ⟨z, rfl, g3.1, ro_same hs3 (.str _) g3.2 hk3⟩)
/-- e[::-1] -/
def fRev (x : D) (Q : D → Prop) : Prop := match x with
  | .tup xs => Q (.tup xs.reverse)
  | .lst xs => Q (.lst xs.reverse)
  | _ => False
def gUn (f : D → (D → Prop) → Prop) (g : AE wd) : AE wd := fun ρ ω Q E => g ρ ω (fun x ω1 => f x (fun z => Q z ω1)) E
def Op1 (K : PySem.W.Frag) (r : V → Hp → VK → Prop) (f : D → (D → Prop) → Prop) : Prop := ∀ (wd : Wd) (F B : Hp) (ω : wd.W) (H : Hp) (x : V) (d : D) (Qa : AQ wd) (Q : VK),
  Hst wd K F B ω H → Rep K B x d → f d (fun z => Qa z ω) → KOk wd K F B Qa Q → r x H Q
theorem re_un {r : V → Hp → VK → Prop} {f : D → (D → Prop) → Prop} {t : TE} {g : AE wd} (hf : Op1 K r f) (h : RE wd K W t g) : RE wd K W (tUn r t) (gUn f g) := fun F B ρ ω σ H Qa Ea Q hs he hg hk hx =>
  h F B ρ ω σ H _ Ea _ hs he hg (fun B1 ω1 H1 v1 d1 s1 hs1 r1 g1 => hf wd F B1 ω1 H1 v1 d1 Qa Q hs1 r1 g1 (hk.mono s1)) hx
theorem op1_rev : Op1 K (rRev K) fRev := by
  intro wd F B ω H x d Qa Q hs rx hf k
  cases d <;> try exact hf.elim
  case tup xs =>
    cases rx with
    | tup h1 r1 => exact ⟨_, _, rfl, .inl ⟨Same.seqT hs.sB h1, fun p hp => ro_new hs r1.reverse hf k hp⟩⟩
  case lst xs =>
    cases rx with
    | lst h1 r1 => exact ⟨_, _, rfl, .inr ⟨SqL.of (hs.sB _ _ h1), fun p hp => ro_newL hs r1.reverse hf k hp⟩⟩
theorem ge_rev {e : Expr} {k : Nat} {p1 p2 p3 pos : Pos} {g : AE wd} (h : GE wd X W e g) : GE wd X W (.Subscript e (.Slice none none (some (.UnaryOp .USub (.Constant (.int 1) k p1) p2)) p3) pos) (gUn fRev g) :=
  let ⟨_, p, r⟩ := h.ex; ⟨_, pe_rev p, re_un op1_rev r⟩
def fNeg (x : D) (Q : D → Prop) : Prop := match x with
  | .int i => Q (.int (-i))
  | _ => False
theorem op1_neg : Op1 K (rU fun i => .int (-i)) fNeg := by
  intro wd F B ω H x d Qa Q hs rx hf k
  cases d <;> try exact hf.elim
  case int i =>
    cases rx
    exact ⟨i, rfl, ro_same hs (.int _) hf k⟩
theorem ge_neg {e : Expr} {pos : Pos} {g : AE wd} (h : GE wd X W e g) : GE wd X W (.UnaryOp .USub e pos) (gUn fNeg g) := let ⟨_, p, r⟩ := h.ex; ⟨_, pe_un un_neg p, re_un op1_neg r⟩
theorem ge_ix {a b : Expr} {pos : Pos} {ga gb : AE wd} (ha : GE wd X W a ga) (hb : GE wd X W b gb) (hp : PlainIx b := by exact fun _ _ => rfl) : GE wd X W (.Subscript a b pos) (gOp fIx ga gb) :=
  let ⟨_, pa, ra⟩ := ha.ex; let ⟨_, pb, rb⟩ := hb.ex; ⟨_, pe_ix ix_seq pa pb hp, re_op op2_ix ra rb⟩
/-- an item of a list that is read -/
def gIxL (g : AA wd) (gb : AE wd) : AE wd := fun ρ ω Q E => g ρ ω (fun xs ω1 => gb ρ ω1 (fun y ω2 => match y with
  | .int i => match L2.atI xs i with
    | some d => Q d ω2
    | none => False
  | _ => False) E) E
theorem ge_ixL {a b : Expr} {pos : Pos} {ga : AA wd} {gb : AE wd} (ha : GL wd X W a ga) (hb : GE wd X W b gb) (hp : PlainIx b := by exact fun _ _ => rfl) : GE wd X W (.Subscript a b pos) (gIxL ga gb) := by
  obtain ⟨t, pa, ra⟩ := ha.ex
  obtain ⟨u, pb, rb⟩ := hb.ex
  refine ⟨_, pe_ix ix_seq pa pb hp, fun F B ρ ω σ H Qa Ea Q hs he hg hk hx => ra F B ρ ω σ H _ Ea _ hs he hg (fun B1 ω1 H1 p vs ds s1 hs1 l1 r1 g1 =>
    rb F B1 ρ ω1 σ H1 _ Ea _ hs1 (he.mono s1) g1 (fun B2 ω2 H2 v2 d2 s2 hs2 r2 g2 => ?_) (hx.mono s1)) hx⟩
  cases d2 <;> try exact g2.elim
  case int i =>
    cases r2
    simp only at g2
    cases e : L2.atI ds i with
    | none => simp only [e] at g2
    | some d =>
      simp only [e] at g2
      obtain ⟨v, e2, r⟩ := (r1.mono s2).atI e
      exact .inl ⟨p, vs, i, v, rfl, rfl, SqL.of (hs2.lst (Or.up s2 l1)), e2, hk _ _ _ _ _ (s1.trans s2) hs2 r g2⟩
abbrev FC := List D → (D → Prop) → Prop
def COp (K : PySem.W.Frag) (r : List V → Hp → VK → Prop) (f : FC) : Prop := ∀ (wd : Wd) (F B : Hp) (ω : wd.W) (H : Hp) (vs : List V) (ds : List D) (Qa : AQ wd) (Q : VK),
  Hst wd K F B ω H → RepAll K B vs ds → f ds (fun z => Qa z ω) → KOk wd K F B Qa Q → r vs H Q
def gFn (f : FC) (g : AA wd) : AE wd := fun ρ ω Q E => g ρ ω (fun xs ω1 => f xs (fun z => Q z ω1)) E
theorem re_fn {r : List V → Hp → VK → Prop} {f : FC} {t : TA} {g : AA wd} (hf : COp K r f) (h : RA wd K W t g) : RE wd K W (tCB r t) (gFn f g) := fun F B ρ ω σ H Qa Ea Q hs he hg hk hx =>
  h F B ρ ω σ H _ Ea _ hs he hg (fun B1 ω1 H1 vs ds s1 hs1 r1 g1 => hf wd F B1 ω1 H1 vs ds Qa Q hs1 r1 g1 (hk.mono s1)) hx
theorem ge_fn {id : String} {x : Str} {p pos : Pos} {e : Expr} {es : List Expr} {r : List V → Hp → VK → Prop} {f : FC} {g : AA wd} (hc : CallR X (.builtin id) r) (hf : COp X.K r f) (hm : X.mg x = none) (ha : GA wd X W (e :: es) g) (hg : Gl X x := by rfl) (hv : bootBuiltins x = some (.builtin id) := by decide +kernel)
    (hn : x ≠ "__name__" := by decide) (hdb : (x == ("__debug__" : Str)) = false := by decide) (he : starEach (e :: es) X.env = (false, eval e X.env) :: starEach es X.env := by rfl) (hpl : (backTo pos (starEach es X.env)).any (·.1) = false := by rfl) :
    GE wd X W (.Call (.Name x p) (e :: es) [] pos) (gFn f g) := let ⟨_, pa, ra⟩ := ha.ex; ⟨_, pe_callB hc hg hm hv pa hn hdb he hpl, re_fn hf ra⟩
theorem ge_ty {T : String} {x : Str} {p pos : Pos} {e : Expr} {es : List Expr} {r : List V → Hp → VK → Prop} {f : FC} {g : AA wd} (hc : CallR X (.type T) r) (hf : COp X.K r f) (hm : X.mg x = none) (ha : GA wd X W (e :: es) g) (hg : Gl X x := by rfl) (hv : bootBuiltins x = some (.type T) := by decide +kernel)
    (hn : x ≠ "__name__" := by decide) (hdb : (x == ("__debug__" : Str)) = false := by decide) (he : starEach (e :: es) X.env = (false, eval e X.env) :: starEach es X.env := by rfl) (hpl : (backTo pos (starEach es X.env)).any (·.1) = false := by rfl) :
    GE wd X W (.Call (.Name x p) (e :: es) [] pos) (gFn f g) := let ⟨_, pa, ra⟩ := ha.ex; ⟨_, pe_callTy hc hg hm hv pa hn hdb he hpl, re_fn hf ra⟩
end
end MR
namespace MR
open PySem PySem.Spec L2
section
variable {K : PySem.W.Frag}
def fLen : FC
  | [.tup xs], Q => Q (.int xs.length)
  | [.lst xs], Q => Q (.int xs.length)
  | [.str x], Q => x.length ≤ sizeLine ∧ Q (.int x.length)
  | _, _ => False
def rLen (K : PySem.W.Frag) : List V → Hp → VK → Prop := fun xs H Q => ∃ x n, xs = [x] ∧ LenV K x H n ∧ Q (.int n) H
theorem c_len : COp K (rLen K) fLen := by
  intro wd F B ω H vs ds Qa Q hs r hf k
  match ds, r, hf with
  | [.tup xs], .cons (.tup h1 r1) .nil, hf => exact ⟨_, _, rfl, .inr ⟨_, Same.seqT hs.sB h1, rfl⟩, by rw [r1.length]; exact ro_same hs (.int _) hf k⟩
  | [.lst xs], .cons (.lst h1 r1) .nil, hf => exact ⟨_, _, rfl, .inl ⟨_, SqL.of (hs.sB _ _ h1), rfl⟩, by rw [r1.length]; exact ro_same hs (.int _) hf k⟩
  | [.str x], .cons (.str _) .nil, hf => exact ⟨_, _, rfl, ⟨hf.1, rfl⟩, ro_same hs (.int _) hf.2 k⟩
def fInt : FC
  | [.int i], Q => Q (.int i)
  | [.bl b], Q => Q (.int (if b then 1 else 0))
  | _, _ => False
def rInt : List V → Hp → VK → Prop := fun xs H Q => (∃ i, xs = [.int i] ∧ Q (.int i) H) ∨ ∃ k, xs = [.bl k] ∧ Q (.int (if k then 1 else 0)) H
theorem c_int : COp K rInt fInt := by
  intro wd F B ω H vs ds Qa Q hs r hf k
  match ds, r, hf with
  | [.int i], .cons (.int _) .nil, hf => exact .inl ⟨i, rfl, ro_same hs (.int _) hf k⟩
  | [.bl b], .cons (.bl _) .nil, hf => exact .inr ⟨b, rfl, ro_same hs (.int _) hf k⟩
def fMin : FC
  | [.int i, .int j], Q => Q (.int (if j < i then j else i))
  | _, _ => False
def fMax : FC
  | [.int i, .int j], Q => Q (.int (if j > i then j else i))
  | _, _ => False
def rMax2 : List V → Hp → VK → Prop := fun xs H Q => ∃ i j, xs = [.int i, .int j] ∧ Q (.int (if j > i then j else i)) H
theorem c_max : COp K rMax2 fMax := by
  intro wd F B ω H vs ds Qa Q hs r hf k
  match ds, r, hf with
  | [.int i, .int j], .cons (.int _) (.cons (.int _) .nil), hf => exact ⟨i, j, rfl, ro_same hs (.int _) hf k⟩
def fDivmod : FC
  | [.int i, .int j], Q => CDiv i j ∧ Q (.tup [.int (i / j), .int (i % j)])
  | _, _ => False
def rDivmod : List V → Hp → VK → Prop := fun xs H Q => ∃ i j, xs = [.int i, .int j] ∧ CDiv i j ∧ ∀ p, H p = none → Q (.ref p) (upd H p (.tup [.int (i / j), .int (i % j)]))
theorem c_divmod : COp K rDivmod fDivmod := by
  intro wd F B ω H vs ds Qa Q hs r hf k
  match ds, r, hf with
  | [.int i, .int j], .cons (.int _) (.cons (.int _) .nil), hf => exact ⟨i, j, rfl, hf.1, fun p hp => ro_new hs (.cons (.int _) (.cons (.int _) .nil)) hf.2 k hp⟩
def fSum : FC
  | [.lst xs], Q => match asInts xs with
    | some ns => Q (.int ns.sum)
    | none => False
  | _, _ => False
theorem c_sum : COp K (rSum K) fSum := by
  intro wd F B ω H vs ds Qa Q hs r hf k
  match ds, r, hf with
  | [.lst xs], .cons (.lst h1 r1) .nil, hf =>
    simp only [fSum] at hf
    cases e : asInts xs with
    | none => simp only [e] at hf
    | some ns =>
      simp only [e] at hf
      have a := asInts_eq e
      subst a
      have b := r1.of_ints
      subst b
      exact ⟨_, ns, rfl, SqL.of (hs.sB _ _ h1), ro_same hs (.int _) hf k⟩
def asBls : List D → Option (List Bool)
  | [] => some []
  | .bl i :: r => (asBls r).map (i :: ·)
  | _ :: _ => none
def fAll : FC
  | [.lst xs], Q => match asBls xs with
    | some ns => Q (.bl (ns.all id))
    | none => False
  | _, _ => False
def fTuple : FC
  | [.tup xs], Q => Q (.tup xs)
  | [.lst xs], Q => Q (.tup xs)
  | _, _ => False
def rTuple (K : PySem.W.Frag) : List V → Hp → VK → Prop := fun xs H Q => ∃ p ys, xs = [.ref p] ∧ ((SqL K H p ys ∧ ∀ l, H l = none → Q (.ref l) (upd H l (.tup ys))) ∨ (SqT K H p ys ∧ Q (.ref p) H))
theorem c_tuple : COp K (rTuple K) fTuple := by
  intro wd F B ω H vs ds Qa Q hs r hf k
  match ds, r, hf with
  | [.tup xs], .cons (.tup h1 r1) .nil, hf => exact ⟨_, _, rfl, .inr ⟨Same.seqT hs.sB h1, ro_same hs (.tup h1 r1) hf k⟩⟩
  | [.lst xs], .cons (.lst h1 r1) .nil, hf => exact ⟨_, _, rfl, .inl ⟨SqL.of (hs.sB _ _ h1), fun p hp => ro_new hs r1 hf k hp⟩⟩
def shownD (d : D) : Str := (toP d).shown
def rOk (d : D) : Bool := pureD d && (toP d).showable && decide ((toP d).depth ≤ 64) && decide ((shownD d).length ≤ sizeLine)
def fRepr : FC
  | [d], Q => rOk d = true ∧ Q (.str (shownD d))
  | _, _ => False
def tyD : D → Option String
  | .non => some "NoneType"
  | .bl _ => some "bool"
  | .int _ => some "int"
  | .str _ => some "str"
  | .lst _ => some "list"
  | .tup _ => some "tuple"
  | .dct _ _ => some "dict"
  | .adr _ => none
  | .obj _ _ _ => none
def dInt : D → Bool
  | .int _ => true
  | .bl _ => true
  | _ => false
def dBool : D → Bool
  | .bl _ => true
  | _ => false
def dTup : D → Bool
  | .tup _ => true
  | _ => false
def dStr : D → Bool
  | .str _ => true
  | _ => false
def dLst : D → Bool
  | .lst _ => true
  | _ => false
def fIsi (f : D → Bool) (d : D) (Q : D → Prop) : Prop := match tyD d with
  | some _ => Q (.bl (f d))
  | none => False
end
section
variable {wd : Wd} {X : Cx} {W : WX}
abbrev ASp (wd : Wd) := List D → wd.W → AQ wd → AX wd → Prop
/-- the promise, told of plain data -/
def toSp (wd : Wd) (K : PySem.W.Frag) (n : Nat) (asp : ASp wd) : Sp := fun vs H Q E => vs.length = n ∧ ∃ (F B : Hp) (ω : wd.W) (ds : List D) (Qa : AQ wd) (Ea : AX wd),
  Hst wd K F B ω H ∧ RepAll K B vs ds ∧ asp ds ω Qa Ea ∧ KOk wd K F B Qa Q ∧ XOk wd K F B Ea E
theorem sel_rep {K : PySem.W.Frag} {B : Hp} {vs : List V} {ds : List D} (r : RepAll K B vs ds) : ∀ idx : List Nat, RepAll K B (sel idx vs .non) (sel idx ds .non)
  | [] => .nil
  | i :: idx => by
    refine .cons ?_ (sel_rep r idx)
    show Rep K B (vs.getD i .non) (ds.getD i .non)
    rw [List.getD_eq_getElem?_getD, List.getD_eq_getElem?_getD]
    cases e : ds[i]? with
    | none =>
      have : vs[i]? = none := by
        rw [List.getElem?_eq_none_iff] at e ⊢
        rw [r.length]
        exact e
      rw [this]
      exact .non
    | some d =>
      obtain ⟨v, e2, q⟩ := r.get e
      rw [e2]
      exact q
/-- a call: n positional values, m by keywords, the defaults dfl; idx: the parameters' order -/
def gCall (asp : ASp wd) (idx : List Nat) (n m : Nat) (dfl : List D) (ga gk : AA wd) : AE wd := fun ρ ω Q E => ga ρ ω (fun xs ω1 => gk ρ ω1 (fun zs ω2 => xs.length = n ∧ zs.length = m ∧ asp (sel idx (xs ++ zs ++ dfl) .non) ω2 Q E) E) E
theorem re_call {K : PySem.W.Frag} {t tk : TA} {ga gk : AA wd} {asp : ASp wd} {idx : List Nat} {n m : Nat} {dvs : List V} {dfl : List D} (hd : ∀ B, RepAll K B dvs dfl) (ha : RA wd K W t ga) (hk : RA wd K W tk gk) :
    RE wd K W (tCallG n m (toSp wd K idx.length asp) (fun vs zs => sel idx (vs ++ zs ++ dvs) .non) (WE W) t tk) (gCall asp idx n m dfl ga gk) := fun F B ρ ω σ H Qa Ea Q hs he hg hK hx =>
  ha F B ρ ω σ H _ Ea _ hs he hg (fun B1 ω1 H1 vs ds s1 hs1 r1 g1 => hk F B1 ρ ω1 σ H1 _ Ea _ hs1 (he.mono s1) g1 (fun B2 ω2 H2 zs es s2 hs2 r2 g2 =>
    ⟨by rw [r1.length]; exact g2.1, by rw [r2.length]; exact g2.2.1, by unfold sel; rw [List.length_map], F, B2, ω2, _, Qa, Ea, hs2, sel_rep (((r1.mono s2).append r2).append (hd B2)) idx, g2.2.2, hK.mono (s1.trans s2), hx.mono (s1.trans s2)⟩) (hx.mono s1)) hx
theorem gk_nil : GK wd X W [] gNil := ⟨_, pk_nil, ra_nil⟩
theorem gk_cons {nm : Option Str} {e : Expr} {kpos : Pos} {kws : List Keyword} {g : AE wd} {gs : AA wd} (he : GE wd X W e g) (hr : GK wd X W kws gs) : GK wd X W (⟨nm, e, kpos⟩ :: kws) (gCons g gs) :=
  let ⟨_, p, r⟩ := he.ex; let ⟨_, q, s⟩ := hr.ex; ⟨_, pk_cons p q, ra_cons r s⟩
/-- what a caller knows of a def: where it stands, its promise; how calls of a shape bind -/
structure Known (P : Program) (w : World) (K : PySem.W.Frag) (mg : Str → Option Value) (base : Heap) (k : Nat) (x : Str) (f : Addr) (fd : FuncData) (ps : List Str) (wd : Wd) (n : Nat) (asp : ASp wd) : Prop where
  at_ : mg x = some (.ref f)
  keep : PySem.W.keepIn K (.ref f) = true
  ok : FnG P w K mg base (L2.CX P w) k f fd ps (toSp wd K n asp)
def Bnd (K : PySem.W.Frag) (fd : FuncData) (ps : List Str) (n : Nat) (ks : List Str) (idx : List Nat) (dvs : List V) : Prop := ∃ g, KBn K fd ps n ks g (fun vs zs => sel idx (vs ++ zs ++ dvs) .non)
theorem bnd_of {K : PySem.W.Frag} {x qual : Str} {params : Arguments} {body : List Stmt} {scope : Scope} {kws : List (Str × V)} {f : Addr} {fd : FuncData} {ps : List Str} (F : FunD K x qual params body scope [] kws f fd) (n : Nat) (ks : List Str) (ms : List (Str × V)) (idx : List Nat) (dvs : List V) (hms : ∀ q ∈ ms, q ∈ kws) (hd : ms.map (·.2) = dvs)
    (h : ∀ (kV doc pm : Value) (an : Option Addr) (cdv ct : Value) (D : Addr) (us mv ws : List Value), us.length = n → mv.length = ms.length → ws.length = ks.length → (kws ≠ [] → kV = .ref D) →
      KwChain D ((ms.map (·.1)).zip mv) (bindArgs (PySem.W.fnOf x qual params body scope .none kV doc pm an cdv ct) ⟨us, ks.zip ws⟩) (ps.zip (sel idx (us ++ ws ++ mv) .none))) : Bnd K fd ps n ks idx dvs := by
  subst hd
  obtain ⟨mv, q⟩ := kb_of F n ks ms idx hms h
  exact ⟨_, q⟩
section
variable {k : Nat} {f : Addr} {fd : FuncData} {ps ks : List Str} {x : Str} {p pos : Pos} {e : Expr} {es : List Expr} {kws : List Keyword} {ga gk : AA wd} {asp : ASp wd} {idx : List Nat} {n : Nat} {dvs : List V} {dfl : List D} {g : List Value → List Value → List Value}
theorem ge_call1 {nn : Nat} (F : Known X.prog X.w X.K X.mg X.base k x f fd ps wd nn asp) (hr : Room k X.A) (hG : X.A.guards = some []) (tk : Takes X W) (hb : Bnd X.K fd ps n [] idx dvs) (hd : ∀ B, RepAll X.K B dvs dfl)
    (ha : GA wd X W (e :: es) ga) (hg : Gl X x := by rfl) (hdb : (x == ("__debug__" : Str)) = false := by decide) (he : starEach (e :: es) X.env = (false, eval e X.env) :: starEach es X.env := by rfl) (hpl : (backTo pos (starEach es X.env)).any (·.1) = false := by rfl) (hn : idx.length = nn := by rfl) :
    GE wd X W (.Call (.Name x p) (e :: es) [] pos) (gCall asp idx n 0 dfl ga gNil) :=
  have F : Known X.prog X.w X.K X.mg X.base k x f fd ps wd idx.length asp := hn ▸ F
  let ⟨_, hb⟩ := hb; let ⟨_, pa, ra⟩ := ha.ex; ⟨_, pe_g1 F.ok hr hG hg F.at_ F.keep (fun σ => passAt tk σ) hb pa hdb he hpl, re_call hd ra ra_nil⟩
theorem ge_call2 {nn : Nat} (F : Known X.prog X.w X.K X.mg X.base k x f fd ps wd nn asp) (hr : Room k X.A) (hG : X.A.guards = some []) (tk : Takes X W) (hb : Bnd X.K fd ps n ks idx dvs) (hd : ∀ B, RepAll X.K B dvs dfl)
    (ha : GA wd X W (e :: es) ga) (hkw : GK wd X W kws gk) (hg : Gl X x := by rfl) (hall : (backToKw pos (keywordEach kws X.env)).all (·.1.isSome) = true := by rfl) (hks : (backToKw pos (keywordEach kws X.env)).filterMap (·.1) = ks := by rfl) (hdb : (x == ("__debug__" : Str)) = false := by decide)
    (he : starEach (e :: es) X.env = (false, eval e X.env) :: starEach es X.env := by rfl) (hpl : ((backTo pos (starEach (e :: es) X.env)).any (·.1) || (backToKw pos (keywordEach kws X.env)).any (·.1.isNone)) = false := by rfl) (hn : idx.length = nn := by rfl) :
    GE wd X W (.Call (.Name x p) (e :: es) kws pos) (gCall asp idx n ks.length dfl ga gk) :=
  have F : Known X.prog X.w X.K X.mg X.base k x f fd ps wd idx.length asp := hn ▸ F
  let ⟨_, hb⟩ := hb; let ⟨_, pa, ra⟩ := ha.ex; let ⟨_, pb, rb⟩ := hkw.ex; ⟨_, pe_g2 F.ok hr hG hg F.at_ F.keep (fun σ => passAt tk σ) hb pa pb hall hks hdb he hpl, re_call hd ra rb⟩
theorem ge_call3 {nn : Nat} (F : Known X.prog X.w X.K X.mg X.base k x f fd ps wd nn asp) (hr : Room k X.A) (hG : X.A.guards = some []) (tk : Takes X W) (hb : Bnd X.K fd ps 0 ks idx dvs) (hd : ∀ B, RepAll X.K B dvs dfl)
    (hkw : GK wd X W kws gk) (hg : Gl X x := by rfl) (hall : (backToKw pos (keywordEach kws X.env)).all (·.1.isSome) = true := by rfl) (hks : (backToKw pos (keywordEach kws X.env)).filterMap (·.1) = ks := by rfl) (hdb : (x == ("__debug__" : Str)) = false := by decide)
    (hpl : ((backTo pos (starEach [] X.env)).any (·.1) || (backToKw pos (keywordEach kws X.env)).any (·.1.isNone)) = false := by rfl) (hn : idx.length = nn := by rfl) :
    GE wd X W (.Call (.Name x p) [] kws pos) (gCall asp idx 0 ks.length dfl gNil gk) :=
  have F : Known X.prog X.w X.K X.mg X.base k x f fd ps wd idx.length asp := hn ▸ F
  let ⟨_, hb⟩ := hb; let ⟨_, pb, rb⟩ := hkw.ex; ⟨_, pe_g3 F.ok hr hG hg F.at_ F.keep (fun σ => passAt tk σ) hb pb hall hks hdb hpl, re_call hd ra_nil rb⟩
end
end
end MR
namespace MR
open PySem PySem.Spec L2
structure Sim (wd : Wd) (K : PySem.W.Frag) (F0 F B : Hp) (ρ : AEnv) (ω : wd.W) (σ : St) (H : Hp) : Prop where
  st : Hst wd K F B ω H
  env : EnvOk K F B ρ σ
  f0 : Same F0 F
  own : ∀ (i : Nat) (l : List D) (p : Addr), ρ[i]? = some (some (.own l)) → σ[i]? = some (some (.ref p)) → F0 p = none
structure AEnds (wd : Wd) where
  nx : AEnv → wd.W → Prop
  rt : D → wd.W → Prop
  bk : AEnv → wd.W → Prop := fun _ _ => False
  ct : AEnv → wd.W → Prop := fun _ _ => False
  ex : EX → AEnv → wd.W → Prop := fun _ _ _ => False
structure EndsOk (wd : Wd) (K : PySem.W.Frag) (W : WX) (F0 B : Hp) (Da : AEnds wd) (E : Ends) : Prop where
  nx : ∀ {F' B' ρ' ω' σ' H'}, Same B B' → Sim wd K F0 F' B' ρ' ω' σ' H' → Da.nx ρ' ω' → E.nx σ' H'
  bk : ∀ {F' B' ρ' ω' σ' H'}, Same B B' → Sim wd K F0 F' B' ρ' ω' σ' H' → Da.bk ρ' ω' → E.bk σ' H'
  ct : ∀ {F' B' ρ' ω' σ' H'}, Same B B' → Sim wd K F0 F' B' ρ' ω' σ' H' → Da.ct ρ' ω' → E.ct σ' H'
  rt : ∀ {B' ω' H' v d}, Same B B' → Hst wd K F0 B' ω' H' → Rep K B' v d → Da.rt d ω' → E.rt v H'
  ex : ∀ {F' B' ρ' ω' σ' H' cls dx x}, Same B B' → Sim wd K F0 F' B' ρ' ω' σ' H' → RepX K B' cls dx x → Da.ex x ρ' ω' → W cls dx σ' H'
abbrev AS (wd : Wd) := AEnds wd → AEnv → wd.W → Prop
def RS (wd : Wd) (K : PySem.W.Frag) (W : WX) (t : TS) (g : AS wd) : Prop := ∀ F0 F B ρ ω σ H Da E, Sim wd K F0 F B ρ ω σ H → g Da ρ ω → EndsOk wd K W F0 B Da E → t E σ H
structure GS (wd : Wd) (X : Cx) (W : WX) (st : Stmt) (g : AS wd) : Prop where
  ex : ∃ t, PS X st t ∧ RS wd X.K W t g
structure GSs (wd : Wd) (X : Cx) (W : WX) (st : List Stmt) (g : AS wd) : Prop where
  ex : ∃ t, PSs X st t ∧ RS wd X.K W t g
/-- targets -/
abbrev AG := D → AEnv → (AEnv → Prop) → Prop
abbrev AGs := List D → AEnv → (AEnv → Prop) → Prop
def RG (wd : Wd) (K : PySem.W.Frag) (t : TG) (g : AG) : Prop := ∀ F0 F B ρ ω σ H v d Qa Q, Sim wd K F0 F B ρ ω σ H → Rep K B v d → g d ρ Qa → (∀ ρ' σ', Sim wd K F0 F B ρ' ω σ' H → Qa ρ' → Q σ' H) → t v σ H Q
def RGs (wd : Wd) (K : PySem.W.Frag) (t : TGs) (g : AGs) : Prop := ∀ F0 F B ρ ω σ H vs ds Qa Q, Sim wd K F0 F B ρ ω σ H → RepAll K B vs ds → g ds ρ Qa → (∀ ρ' σ', Sim wd K F0 F B ρ' ω σ' H → Qa ρ' → Q σ' H) → t vs σ H Q
structure GG (wd : Wd) (X : Cx) (tg : Expr) (g : AG) : Prop where
  ex : ∃ t, PG X tg t ∧ RG wd X.K t g
structure GGs (wd : Wd) (X : Cx) (ts : List Expr) (g : AGs) : Prop where
  ex : ∃ t, PGs X ts t ∧ RGs wd X.K t g
section
variable {wd : Wd} {K : PySem.W.Frag} {W : WX} {F0 F B B' H H' : Hp} {ρ : AEnv} {ω ω' : wd.W} {σ : St}
theorem Sim.up (s : Sim wd K F0 F B ρ ω σ H) (m : Same B B') (h : Hst wd K F B' ω' H') : Sim wd K F0 F B' ρ ω' σ H' := ⟨h, s.env.mono m, s.f0, s.own⟩
theorem Hst.back (h : Hst wd K F B ω H) (m : Same F0 F) : Hst wd K F0 B ω H := ⟨h.sB, m.trans h.sF, fun a o e => h.dj a o (m _ _ e), fun a z => m.free (h.fw a z), h.wat⟩
theorem EndsOk.mono {Da : AEnds wd} {E : Ends} (h : EndsOk wd K W F0 B Da E) (m : Same B B') : EndsOk wd K W F0 B' Da E :=
  ⟨fun s => h.nx (m.trans s), fun s => h.bk (m.trans s), fun s => h.ct (m.trans s), fun s => h.rt (m.trans s), fun s => h.ex (m.trans s)⟩
theorem EndsOk.xok {Da : AEnds wd} {E : Ends} (h : EndsOk wd K W F0 B Da E) (s : Sim wd K F0 F B ρ ω σ H) : XOk wd K F B (fun x ω' => Da.ex x ρ ω') (fun c d h => W c d σ h) :=
  fun B' ω' H' cls dx x m hs rx g => h.ex m (s.up m hs) rx g
/-- a slot stored with data -/
theorem Sim.set (s : Sim wd K F0 F B ρ ω σ H) (i : Nat) {v : V} {d : D} (r : Rep K B v d) : Sim wd K F0 F B (ρ.set i (some (.d d))) ω (σ.set i (some v)) H := by
  have hl : ρ.length = σ.length := s.env.len
  refine ⟨s.st, ⟨by simp [hl], fun j e h => ?_, fun j1 j2 l l' p h1 h2 h3 h4 => ?_⟩, s.f0, fun j l p h1 h2 => ?_⟩
  · by_cases q : i = j
    · subst q
      have hi : i < ρ.length := by
        have := (List.getElem?_eq_some_iff.mp h).1
        simpa using this
      rw [List.getElem?_set_self hi] at h
      cases h
      exact ⟨v, by rw [List.getElem?_set_self (by omega)], r⟩
    · rw [List.getElem?_set_ne q] at h ⊢
      exact s.env.ent j e h
  · have ne : ∀ {j : Nat} {l : List D}, (ρ.set i (some (Ent.d d)))[j]? = some (some (.own l)) → i ≠ j := fun {j l} h q => by
      subst q
      have hi : i < ρ.length := by
        have := (List.getElem?_eq_some_iff.mp h).1
        simpa using this
      rw [List.getElem?_set_self hi] at h
      cases h
    rw [List.getElem?_set_ne (ne h1)] at h3
    rw [List.getElem?_set_ne (ne h2)] at h4
    have n1 := ne h1
    have n2 := ne h2
    rw [List.getElem?_set_ne n1] at h1
    rw [List.getElem?_set_ne n2] at h2
    exact s.env.dist j1 j2 l l' p h1 h2 h3 h4
  · by_cases q : i = j
    · subst q
      have hi : i < ρ.length := by
        have := (List.getElem?_eq_some_iff.mp h1).1
        simpa using this
      rw [List.getElem?_set_self hi] at h1
      cases h1
    · rw [List.getElem?_set_ne q] at h1 h2
      exact s.own j l p h1 h2
/-- an own list is new, or changed: what stands at p is told of by slot i alone -/
theorem Sim.setOwn (s : Sim wd K F0 F B ρ ω σ H) (i : Nat) {p : Addr} {vs : List V} {l : List D} (h : Hst wd K (upd F p (.lst vs)) B ω H') (r : RepAll K B vs l) (h0 : F0 p = none)
    (hp : ∀ (j : Nat) (l' : List D), ρ[j]? = some (some (.own l')) → σ[j]? = some (some (.ref p)) → j = i) : Sim wd K F0 (upd F p (.lst vs)) B (ρ.set i (some (.own l))) ω (σ.set i (some (.ref p))) H' := by
  have hl : ρ.length = σ.length := s.env.len
  have lt : ∀ {x : Option Ent} {y : Option Ent}, (ρ.set i x)[i]? = some y → i < ρ.length := fun h => by
    have := (List.getElem?_eq_some_iff.mp h).1
    simpa using this
  refine ⟨h, ⟨by simp [hl], fun j e he => ?_, fun j1 j2 l1 l2 q h1 h2 h3 h4 => ?_⟩, fun a o e => ?_, fun j l' q h1 h2 => ?_⟩
  · by_cases q : i = j
    · subst q
      have hi := lt he
      rw [List.getElem?_set_self hi] at he
      cases he
      exact ⟨p, vs, by rw [List.getElem?_set_self (by omega)], upd_same, r⟩
    · rw [List.getElem?_set_ne q] at he ⊢
      have en := s.env.ent j e he
      cases e with
      | d x => exact en
      | own l' =>
        obtain ⟨p', vs', a, b, c⟩ := en
        refine ⟨p', vs', a, ?_, c⟩
        rw [upd_ne]
        · exact b
        · intro z
          subst z
          exact q (hp j l' he a).symm
  · have at_ : ∀ {j : Nat} {l' : List D}, (ρ.set i (some (Ent.own l)))[j]? = some (some (.own l')) → (σ.set i (some (V.ref p)))[j]? = some (some (.ref q)) → (j = i ∧ q = p) ∨ (j ≠ i ∧ ρ[j]? = some (some (.own l')) ∧ σ[j]? = some (some (.ref q))) := fun {j l'} a b => by
      by_cases e : i = j
      · subst e
        have hi := lt a
        rw [List.getElem?_set_self (by omega)] at b
        cases b
        exact .inl ⟨rfl, rfl⟩
      · rw [List.getElem?_set_ne e] at a b
        exact .inr ⟨fun z => e z.symm, a, b⟩
    rcases at_ h1 h3 with ⟨e1, e2⟩ | ⟨e1, a1, b1⟩
    · rcases at_ h2 h4 with ⟨f1, f2⟩ | ⟨f1, a2, b2⟩
      · rw [e1, f1]
      · rw [e2] at b2
        exact absurd (hp j2 l2 a2 b2) f1
    · rcases at_ h2 h4 with ⟨f1, f2⟩ | ⟨f1, a2, b2⟩
      · rw [f2] at b1
        exact absurd (hp j1 l1 a1 b1) e1
      · exact s.env.dist j1 j2 l1 l2 q a1 a2 b1 b2
  · rw [upd_ne (ne_of_none e h0)]
    exact s.f0 _ _ e
  · by_cases e : i = j
    · subst e
      have hi := lt h1
      rw [List.getElem?_set_self (by omega)] at h2
      cases h2
      exact h0
    · rw [List.getElem?_set_ne e] at h1 h2
      exact s.own j l' q h1 h2
/-- the state where an own list at p has changed -/
theorem Hst.wrote (h : Hst wd K F B ω H) {p : Addr} {vs ws : List V} (e : F p = some (.lst vs)) : Hst wd K (upd F p (.lst ws)) B ω (upd H p (.lst ws)) := by
  have nB : B p = none := h.dj _ _ e
  have nw : ¬ wd.foot ω p := fun z => by
    rw [h.fw p z] at e
    cases e
  refine ⟨fun a o q => ?_, fun a o q => ?_, fun a o q => ?_, fun a z => ?_, wd.mono h.wat (Same.refl _) (fun a z => ?_) (fun a z => wd.free_ h.wat z)⟩
  · rw [upd_ne (ne_of_none q nB)]
    exact h.sB _ _ q
  · by_cases c : a = p
    · subst c
      rw [upd_same] at q ⊢
      exact q
    · rw [upd_ne c] at q ⊢
      exact h.sF _ _ q
  · by_cases c : a = p
    · subst c
      exact nB
    · rw [upd_ne c] at q
      exact h.dj _ _ q
  · rw [upd_ne (fun c => nw (by rw [← c]; exact z))]
    exact h.fw a z
  · rw [upd_ne (fun c => nw (by rw [← c]; exact z))]
/-- a new list becomes own -/
theorem Hst.owned (h : Hst wd K F B ω H) {p : Addr} {vs : List V} (hp : H p = none) : Hst wd K (upd F p (.lst vs)) B ω (upd H p (.lst vs)) := by
  have k := h.keepOut (o := .lst vs) hp
  have nB : B p = none := h.sB.free hp
  have nF : F p = none := h.sF.free hp
  have nw : ¬ wd.foot ω p := fun z => wd.some_ h.wat z hp
  refine ⟨k.sB, fun a o q => ?_, fun a o q => ?_, fun a z => ?_, k.wat⟩
  · by_cases c : a = p
    · subst c
      rw [upd_same] at q ⊢
      exact q
    · rw [upd_ne c] at q ⊢
      exact h.sF _ _ q
  · by_cases c : a = p
    · subst c
      exact nB
    · rw [upd_ne c] at q
      exact h.dj _ _ q
  · rw [upd_ne (fun c => nw (by rw [← c]; exact z))]
    exact h.fw a z
/-- an own list is frozen -/
def frz (i : Nat) (ρ : AEnv) : AEnv := match ρ[i]? with
  | some (some (.own l)) => ρ.set i (some (.d (.lst l)))
  | _ => ρ
theorem Sim.freeze (s : Sim wd K F0 F B ρ ω σ H) (i : Nat) : ∃ F' B', Same B B' ∧ Sim wd K F0 F' B' (frz i ρ) ω σ H := by
  unfold frz
  cases e : ρ[i]? with
  | none => exact ⟨F, B, Same.refl _, s⟩
  | some o =>
    cases o with
    | none => exact ⟨F, B, Same.refl _, s⟩
    | some en =>
      cases en with
      | d x => exact ⟨F, B, Same.refl _, s⟩
      | own l =>
        obtain ⟨p, vs, a, b, c⟩ := s.env.ent i _ e
        have nB : B p = none := s.st.dj _ _ b
        have nw : ¬ wd.foot ω p := fun z => by
          rw [s.st.fw p z] at b
          cases b
        have n0 : F0 p = none := s.own i l p e a
        have sB' : Same B (upd B p (.lst vs)) := fun q o h => by
          rw [upd_ne (ne_of_none h nB)]
          exact h
        have nF : ∀ q o, (if q = p then none else F q) = some o → q ≠ p ∧ F q = some o := fun q o h => by
          by_cases z : q = p
          · rw [if_pos z] at h
            cases h
          · rw [if_neg z] at h
            exact ⟨z, h⟩
        have st' : Hst wd K (fun q => if q = p then none else F q) (upd B p (.lst vs)) ω H := by
          refine ⟨fun q o h => ?_, fun q o h => s.st.sF _ _ (nF q o h).2, fun q o h => ?_, fun q z => ?_, wd.mono s.st.wat sB' (fun _ _ => rfl) (fun q z => ?_)⟩
          · by_cases z : q = p
            · subst z
              rw [upd_same] at h
              rw [s.st.sF _ _ b]
              exact h
            · rw [upd_ne z] at h
              exact s.st.sB _ _ h
          · rw [upd_ne (nF q o h).1]
            exact s.st.dj _ _ (nF q o h).2
          · show (if q = p then none else F q) = none
            by_cases z' : q = p
            · rw [if_pos z']
            · rw [if_neg z']
              exact s.st.fw q z
          · rw [upd_ne (fun c => nw (by rw [← c]; exact z))]
            exact wd.free_ s.st.wat z
        have hi : i < ρ.length := (List.getElem?_eq_some_iff.mp e).1
        refine ⟨_, _, sB', ⟨st', ⟨by simp [s.env.len], fun j e2 h => ?_, fun j1 j2 l1 l2 q h1 h2 h3 h4 => ?_⟩, fun q o h => ?_, fun j l' q h1 h2 => ?_⟩⟩
        · by_cases z : i = j
          · subst z
            rw [List.getElem?_set_self hi] at h
            cases h
            exact ⟨_, a, .lst upd_same (c.mono sB')⟩
          · rw [List.getElem?_set_ne z] at h
            have en := s.env.ent j e2 h
            cases e2 with
            | d x => exact en.mono sB'
            | own l' =>
              obtain ⟨p', vs', a', b', c'⟩ := en
              refine ⟨p', vs', a', ?_, c'.mono sB'⟩
              show (if p' = p then none else F p') = _
              rw [if_neg]
              · exact b'
              · intro y
                subst y
                exact z (s.env.dist i j l l' p' e h a a')
        · have ne : ∀ {j : Nat} {l' : List D}, (ρ.set i (some (Ent.d (D.lst l))))[j]? = some (some (.own l')) → ρ[j]? = some (some (.own l')) := fun {j l'} h => by
            by_cases z : i = j
            · subst z
              rw [List.getElem?_set_self hi] at h
              cases h
            · rw [List.getElem?_set_ne z] at h
              exact h
          exact s.env.dist j1 j2 l1 l2 q (ne h1) (ne h2) h3 h4
        · show (if q = p then none else F q) = some o
          rw [if_neg (ne_of_none h n0)]
          exact s.f0 _ _ h
        · by_cases z : i = j
          · subst z
            rw [List.getElem?_set_self hi] at h1
            cases h1
          · rw [List.getElem?_set_ne z] at h1
            exact s.own j l' q h1 h2
end
end MR
namespace MR
open PySem PySem.Spec L2
section
variable {wd : Wd}
def sNil : AS wd := fun Da ρ ω => Da.nx ρ ω
def sSeq (g h : AS wd) : AS wd := fun Da ρ ω => g { Da with nx := h Da } ρ ω
def sDrop (g : AE wd) : AS wd := fun Da ρ ω => g ρ ω (fun _ ω' => Da.nx ρ ω') (fun x ω' => Da.ex x ρ ω')
def sRet (g : AE wd) : AS wd := fun Da ρ ω => g ρ ω Da.rt (fun x ω' => Da.ex x ρ ω')
def sRetN : AS wd := fun Da _ ω => Da.rt .non ω
def sBreak : AS wd := fun Da ρ ω => Da.bk ρ ω
def sCont : AS wd := fun Da ρ ω => Da.ct ρ ω
def sIf (c : AT wd) (g h : AS wd) : AS wd := fun Da ρ ω => c ρ ω (fun b ω' => if b = true then g Da ρ ω' else h Da ρ ω') (fun x ω' => Da.ex x ρ ω')
def sSet (i : Nat) (g : AE wd) : AS wd := fun Da ρ ω => g ρ ω (fun d ω' => Da.nx (ρ.set i (some (.d d))) ω') (fun x ω' => Da.ex x ρ ω')
def sOwn (i : Nat) (g : AA wd) : AS wd := fun Da ρ ω => g ρ ω (fun l ω' => Da.nx (ρ.set i (some (.own l))) ω') (fun x ω' => Da.ex x ρ ω')
def sAsg (g : AE wd) (t : AG) : AS wd := fun Da ρ ω => g ρ ω (fun d ω' => t d ρ (fun ρ' => Da.nx ρ' ω')) (fun x ω' => Da.ex x ρ ω')
def sPar (i j : Nat) (g h : AE wd) : AS wd := fun Da ρ ω => g ρ ω (fun d ω1 => h ρ ω1 (fun e ω2 => Da.nx ((ρ.set i (some (.d d))).set j (some (.d e))) ω2) (fun x ω' => Da.ex x ρ ω')) (fun x ω' => Da.ex x ρ ω')
def sAug (f : FD2) (i : Nat) (g : AE wd) : AS wd := fun Da ρ ω => match ρ[i]? with
  | some (some (.d x)) => g ρ ω (fun y ω' => f x y (fun z => Da.nx (ρ.set i (some (.d z))) ω')) (fun x ω' => Da.ex x ρ ω')
  | _ => False
def sFrz (i : Nat) (g : AS wd) : AS wd := fun Da ρ ω => g Da (frz i ρ) ω
def sApp (i : Nat) (g : AE wd) : AS wd := fun Da ρ ω => match ρ[i]? with
  | some (some (.own l)) => g ρ ω (fun y ω' => l.length < sizeLine ∧ Da.nx (ρ.set i (some (.own (l ++ [y])))) ω') (fun x ω' => Da.ex x ρ ω')
  | _ => False
/-- x[k] = e -/
def sPut (i : Nat) (gk g : AE wd) : AS wd := fun Da ρ ω => match ρ[i]? with
  | some (some (.own l)) => g ρ ω (fun y ω1 => gk ρ ω1 (fun k ω2 => match k with
    | .int k => match ixN l.length k with
      | some j => Da.nx (ρ.set i (some (.own (l.set j y)))) ω2
      | none => False
    | _ => False) (fun x ω' => Da.ex x ρ ω')) (fun x ω' => Da.ex x ρ ω')
  | _ => False
def aName (i : Nat) : AG := fun d ρ Q => Q (ρ.set i (some (.d d)))
def aTup (g : AGs) : AG := fun d ρ Q => match d with
  | .tup xs => g xs ρ Q
  | _ => False
def aNil : AGs := fun xs ρ Q => match xs with
  | [] => Q ρ
  | _ => False
def aCons (g : AG) (h : AGs) : AGs := fun xs ρ Q => match xs with
  | x :: r => g x ρ (fun ρ' => h r ρ' Q)
  | [] => False
end
section
variable {wd : Wd} {X : Cx} {W : WX} {st : Stmt} {rest : List Stmt} {pos : Pos} {e : Expr} {ge : AE wd} {g h : AS wd}
theorem gss_nil : GSs wd X W [] sNil := ⟨_, pss_nil, fun F0 F B ρ ω σ H Da E s q k => k.nx (Same.refl _) s q⟩
theorem gss_cons (h1 : GS wd X W st g) (h2 : GSs wd X W rest h) : GSs wd X W (st :: rest) (sSeq g h) :=
  let ⟨_, p, r⟩ := h1.ex; let ⟨_, p2, r2⟩ := h2.ex; ⟨_, pss_cons p p2, fun F0 F B ρ ω σ H Da E s q k =>
    r F0 F B ρ ω σ H _ _ s q ⟨fun {F' B' ρ' ω' σ' H'} m s' q' => r2 F0 F' B' ρ' ω' σ' H' Da E s' q' (k.mono m), k.bk, k.ct, k.rt, k.ex⟩⟩
theorem gss_one (h1 : GS wd X W st g) : GSs wd X W [st] g := let ⟨_, p, r⟩ := h1.ex; ⟨_, pss_one p, r⟩
theorem gss_frz (i : Nat) (h1 : GSs wd X W rest g) : GSs wd X W rest (sFrz i g) := let ⟨_, p, r⟩ := h1.ex; ⟨_, p, fun F0 F B ρ ω σ H Da E s q k =>
  let ⟨F', B', m, s'⟩ := s.freeze i
  r F0 F' B' _ ω σ H Da E s' q (k.mono m)⟩
theorem gs_ret (he : GE wd X W e ge) : GS wd X W (.Return (some e) pos) (sRet ge) :=
  let ⟨_, p, r⟩ := he.ex; ⟨_, ps_ret p, fun F0 F B ρ ω σ H Da E s q k => r F B ρ ω σ H _ _ _ s.st s.env q (fun B1 ω1 H1 v1 d1 s1 hs1 r1 g1 => k.rt s1 (hs1.back s.f0) r1 g1) (k.xok s)⟩
theorem gs_if {c : Expr} {a b : List Stmt} {tc : AT wd} (hc : GT wd X W c tc) (ha : GSs wd X W a g) (hb : GSs wd X W b h) : GS wd X W (.If c a b pos) (sIf tc g h) :=
  let ⟨_, pc, rc⟩ := hc.ex; let ⟨_, pa, ra⟩ := ha.ex; let ⟨_, pb, rb⟩ := hb.ex; ⟨_, ps_if pc pa pb, fun F0 F B ρ ω σ H Da E s q k =>
    rc F B ρ ω σ H _ _ _ s.st s.env q (fun B1 ω1 H1 b s1 hs1 g1 => by
      cases b with
      | true => exact ra F0 F B1 ρ ω1 σ H1 Da E (s.up s1 hs1) g1 (k.mono s1)
      | false => exact rb F0 F B1 ρ ω1 σ H1 Da E (s.up s1 hs1) g1 (k.mono s1)) (k.xok s)⟩
theorem gs_set (i : Nat) {x : Str} {pos' : Pos} (hN : X.N.Nodup) (he : GE wd X W e ge) (hi : X.N[i]? = some x := by rfl) (hx : Loc X.env.scope x := by first | exact .inl rfl | exact .inr rfl) (hs : swapsWith e (some (.Name x pos')) pos.line X.env = pure false := by rfl)
    (hf : X.fn x = true ∨ X.env.scope.names.lookup x = some .local := by first | exact .inl rfl | exact .inr rfl) : GS wd X W (.Assign [.Name x pos'] e pos) (sSet i ge) :=
  let ⟨_, p, r⟩ := he.ex; ⟨_, ps_set hN hi hx p hs hf, fun F0 F B ρ ω σ H Da E s q k => r F B ρ ω σ H _ _ _ s.st s.env q (fun B1 ω1 H1 v1 d1 s1 hs1 r1 g1 => k.nx s1 ((s.up s1 hs1).set i r1) g1) (k.xok s)⟩
theorem gs_own (i : Nat) {x : Str} {pos' : Pos} {ga : AA wd} (hN : X.N.Nodup) (he : GF wd X W e ga) (hi : X.N[i]? = some x := by rfl) (hx : Loc X.env.scope x := by first | exact .inl rfl | exact .inr rfl) (hs : swapsWith e (some (.Name x pos')) pos.line X.env = pure false := by rfl)
    (hf : X.fn x = true ∨ X.env.scope.names.lookup x = some .local := by first | exact .inl rfl | exact .inr rfl) : GS wd X W (.Assign [.Name x pos'] e pos) (sOwn i ga) :=
  let ⟨_, p, r⟩ := he.ex; ⟨_, ps_set hN hi hx p hs hf, fun F0 F B ρ ω σ H Da E s q k => r F B ρ ω σ H _ _ _ s.st s.env q (fun B1 ω1 H1 p vs ds s1 hs1 hp r1 g1 =>
    k.nx s1 ((s.up s1 hs1).setOwn i (hs1.owned hp) r1 (s.f0.free (hs1.sF.free hp)) fun j l' a b => by
      obtain ⟨p', vs', a', b', c'⟩ := s.env.ent j _ a
      rw [b] at a'
      cases a'
      rw [hs1.sF _ _ b'] at hp
      cases hp) g1) (k.xok s)⟩
theorem gg_name (i : Nat) {x : Str} (hN : X.N.Nodup) (hi : X.N[i]? = some x := by rfl) (hx : Loc X.env.scope x := by first | exact .inl rfl | exact .inr rfl) (hf : X.fn x = true ∨ X.env.scope.names.lookup x = some .local := by first | exact .inl rfl | exact .inr rfl) : GG wd X (.Name x pos) (aName i) :=
  ⟨_, pg_name hN hi hx hf, fun F0 F B ρ ω σ H v d Qa Q s r q k => k _ _ (s.set i r) q⟩
theorem ggs_nil : GGs wd X [] aNil := ⟨_, pgs_nil, fun F0 F B ρ ω σ H vs ds Qa Q s r q k => by
  cases r with
  | nil => exact ⟨rfl, k _ _ s q⟩
  | cons _ _ => exact q.elim⟩
theorem ggs_cons {es : List Expr} {a : AG} {b : AGs} (h1 : GG wd X e a) (h2 : GGs wd X es b) (hs : (assignEach (e :: es) X.env).map (·.2) = assign e X.env :: (assignEach es X.env).map (·.2) := by rfl) : GGs wd X (e :: es) (aCons a b) :=
  let ⟨_, p, r⟩ := h1.ex; let ⟨_, p2, r2⟩ := h2.ex; ⟨_, pgs_cons p p2 hs, fun F0 F B ρ ω σ H vs ds Qa Q s r0 q k => by
    cases r0 with
    | nil => exact q.elim
    | cons h1 h2 => exact ⟨_, _, rfl, r F0 F B ρ ω σ H _ _ _ _ s h1 q fun ρ' σ' s' q' => r2 F0 F B ρ' ω σ' H _ _ _ _ s' h2 q' k⟩⟩
theorem gg_tup {es : List Expr} {k n : Nat} {b : AGs} (hc : X.calm = true) (h : GGs wd X es b) (hb : ∀ xs ρ Q, b xs ρ Q → xs.length = n) (hn : (assignEach es X.env).length = n := by rfl) (hst : (assignEach es X.env).findIdx? (·.1) = none := by rfl) : GG wd X (.Tuple es k pos) (aTup b) :=
  let ⟨_, p, r⟩ := h.ex; ⟨_, pg_tup hc p hn hst, fun F0 F B ρ ω σ H v d Qa Q s r0 q k => by
    cases d <;> try exact q.elim
    case tup xs =>
      cases r0 with
      | tup h1 r1 => exact ⟨_, _, rfl, Same.seqT s.st.sB h1, r1.length.trans (hb _ _ _ q), r F0 F B ρ ω σ H _ _ _ _ s r1 q k⟩⟩
theorem gs_asg {tg : Expr} {a : AG} (he : GE wd X W e ge) (hg : GG wd X tg a) (hs : swapsWithSole [tg] e pos.line X.env = pure false := by rfl) (hw : swappedStores [tg] e X.env = pure none := by rfl) (h1 : (assignEach [tg] X.env).map (·.2) = [assign tg X.env] := by rfl) :
    GS wd X W (.Assign [tg] e pos) (sAsg ge a) :=
  let ⟨_, p, r⟩ := he.ex; let ⟨_, p2, r2⟩ := hg.ex; ⟨_, ps_asg p p2 hs hw h1, fun F0 F B ρ ω σ H Da E s q k => r F B ρ ω σ H _ _ _ s.st s.env q (fun B1 ω1 H1 v1 d1 s1 hs1 rv g1 =>
    r2 F0 F B1 ρ ω1 σ H1 v1 d1 _ _ (s.up s1 hs1) rv g1 fun ρ' σ' s' q' => k.nx s1 s' q') (k.xok s)⟩
theorem gs_par (i j : Nat) {x y : Str} {a b : Expr} {ga gb : AE wd} {px py pt : Pos} {kt k2 pt2} (hc : X.calm = true) (hN : X.N.Nodup) (ha : GE wd X W a ga) (hb : GE wd X W b gb) (hi : X.N[i]? = some x := by rfl) (hj : X.N[j]? = some y := by rfl) (hij : i ≠ j := by decide)
    (hx : X.env.scope.names.lookup x = some .local := by rfl) (hy : X.env.scope.names.lookup y = some .local := by rfl)
    (hw : swappedStores [.Tuple [.Name x px, .Name y py] kt pt] (.Tuple [a, b] k2 pt2) X.env = pure (some [x, y]) := by rfl)
    (hs : swapsWithSole [.Tuple [.Name x px, .Name y py] kt pt] (.Tuple [a, b] k2 pt2) pos.line X.env = pure false := by rfl)
    (hsa : starEach [a, b] X.env = (false, eval a X.env) :: starEach [b] X.env := by rfl) (hsb : starEach [b] X.env = (false, eval b X.env) :: starEach [] X.env := by rfl) :
    GS wd X W (.Assign [.Tuple [.Name x px, .Name y py] kt pt] (.Tuple [a, b] k2 pt2) pos) (sPar i j ga gb) :=
  let ⟨_, pa, ra⟩ := ha.ex; let ⟨_, pb, rb⟩ := hb.ex; ⟨_, ps_par hc hN hi hj hij hx hy (pa_cons pa (pa_cons pb pa_nil hsb) hsa) hw hs, fun F0 F B ρ ω σ H Da E s q k => ra F B ρ ω σ H _ _ _ s.st s.env q (fun B1 ω1 H1 v1 d1 s1 hs1 r1 g1 =>
    rb F B1 ρ ω1 σ H1 _ _ _ hs1 (s.env.mono s1) g1 (fun B2 ω2 H2 v2 d2 s2 hs2 r2 g2 => ⟨v1, v2, rfl, k.nx (s1.trans s2) (((s.up (s1.trans s2) hs2).set i (r1.mono s2)).set j r2) g2⟩) ((k.xok s).mono s1)) (k.xok s)⟩
theorem gs_aug (i : Nat) {x : Str} {op : Operator} {f : FD2} {r : R2} {pos' : Pos} (hN : X.N.Nodup) (ho : OpR X (inplaceOp op) r) (hf2 : Op2 X.K r f) (he : GE wd X W e ge) (hi : X.N[i]? = some x := by rfl) (hx : Loc X.env.scope x := by first | exact .inl rfl | exact .inr rfl)
    (hf : X.fn x = true ∨ X.env.scope.names.lookup x = some .local := by first | exact .inl rfl | exact .inr rfl) : GS wd X W (.AugAssign (.Name x pos') op e pos) (sAug f i ge) :=
  let ⟨_, p, r⟩ := he.ex; ⟨_, ps_aug hN hi hx p ho hf, fun F0 F B ρ ω σ H Da E s q k => by
    unfold sAug at q
    cases en : ρ[i]? with
    | none => simp only [en] at q
    | some o =>
      cases o with
      | none => simp only [en] at q
      | some y =>
        cases y with
        | own l => simp only [en] at q
        | d x =>
          simp only [en] at q
          obtain ⟨v, a, rv⟩ := s.env.ent i _ en
          exact ⟨v, a, r F B ρ ω σ H _ _ _ s.st s.env q (fun B1 ω1 H1 v1 d1 s1 hs1 r1 g1 => hf2 wd F B1 ω1 H1 v v1 x d1 (fun z ω' => Da.nx (ρ.set i (some (.d z))) ω') _ hs1 (rv.mono s1) r1 g1 (fun B2 ω2 H2 v2 d2 s2 hs2 r2 g2 => k.nx (s1.trans s2) ((s.up (s1.trans s2) hs2).set i r2) g2)) (k.xok s)⟩⟩
theorem gs_app (i : Nat) {x : Str} {p1 p2 p3 : Pos} (he : GE wd X W e ge) (hi : X.N[i]? = some x := by rfl) (hv : Vis X.env.scope x := by first | exact Or.inl rfl | exact Or.inr (Or.inl rfl) | exact Or.inr (Or.inr rfl)) (hd : (x == ("__debug__" : Str)) = false := by decide) (hcd : (x == ("__classdict__" : Str)) = false := by decide)
    (hst : starEach [e] X.env = (false, eval e X.env) :: starEach [] X.env := by rfl) (hs : swapsWith (.Call (.Attribute (.Name x p1) "append" p2) [e] [] p3) none pos.line X.env = pure false := by rfl)
    (hbase : attributeBase (.Name x p1) "append" X.env (eval (.Name x p1) X.env) = eval (.Name x p1) X.env := by rfl) (hfew : ((backTo p3 (starEach [e] X.env)).all (fun x => !x.1) && (backToKw p3 (keywordEach [] X.env)).all (fun x => x.1.isSome) && decide (([e] : List Expr).length + ([] : List Keyword).length + (if ([] : List Keyword).isEmpty then 0 else 1) < 30)) = true := by rfl)
    (hline : (p2.endLine == p3.line) = true := by rfl) (hplain : (backTo p3 (starEach [] X.env)).any (·.1) = false := by rfl) :
    GS wd X W (.Expr (.Call (.Attribute (.Name x p1) "append" p2) [e] [] p3) pos) (sApp i ge) := by
  have hp := pe_bm PySem.F.plainAttrs_list PySem.F.slot_list_append PySem.F.type_list_append mt_append (pe_var hi hv hd hcd) (pa_cons (Classical.choose_spec he.ex).1 pa_nil hst) hbase hfew hline hst hplain
  refine ⟨_, ps_expr hp hs, fun F0 F B ρ ω σ H Da E s q k => ?_⟩
  have r := (Classical.choose_spec he.ex).2
  unfold sApp at q
  cases en : ρ[i]? with
  | none => simp only [en] at q
  | some o =>
    cases o with
    | none => simp only [en] at q
    | some y =>
      cases y with
      | d x => simp only [en] at q
      | own l =>
        simp only [en] at q
        obtain ⟨p, vs, a, b, c⟩ := s.env.ent i _ en
        refine ⟨.ref p, a, .inl ⟨rfl, vs, SqL.of (s.st.sF _ _ b)⟩, r F B ρ ω σ H _ _ _ s.st s.env q (fun B1 ω1 H1 v1 d1 s1 hs1 r1 g1 => ?_) (k.xok s)⟩
        have hl := (c.mono s1).length
        refine ⟨p, vs, v1, rfl, rfl, hs1.sF _ _ b, by rw [hl]; exact g1.1, ?_⟩
        have z := (s.up s1 hs1).setOwn i (hs1.wrote (ws := vs ++ [v1]) b) ((c.mono s1).append (.cons r1 .nil)) (s.own i l p en a) fun j l' h1 h2 => s.env.dist j i l' l p h1 en h2 a
        have e2 : σ.set i (some (.ref p)) = σ := by
          refine List.ext_getElem? fun j => ?_
          by_cases c : i = j
          · subst c
            rw [a, List.getElem?_set_self (List.getElem?_eq_some_iff.mp a).1]
          · rw [List.getElem?_set_ne c]
        rw [e2] at z
        exact k.nx s1 z g1.2
end
end MR
namespace MR
open PySem PySem.Spec L2
/-- a list or a tuple, walked -/
def iSeq (K : PySem.W.Frag) (tl : TE) : TI := fun σ H R => tl σ H fun x H1 => ∃ a, x = .ref a ∧ (((∃ xs, SqL K H1 a xs) ∧ R (Itl K a) H1) ∨ ((∃ xs, SqT K H1 a xs) ∧ R (Itt K a) H1))
theorem pi_seq {X : Cx} {tg l : Expr} {tl : TE} (hl : PE X l tl) : PI X tg l (iSeq X.K tl) := ⟨fun pins s σ H R I h => thn (hl.run pins s σ H _ I h) fun v s1 ⟨x, H1, I1, r1, a, ex, q⟩ => by
  subst ex
  cases r1
  have grown : ∀ {o : Obj}, Inv X pins σ H1 { s1 with heap := s1.heap.push o } := fun {o} => I1.kept (t' := s1.toks) fun b ob e => Heap.get?_push_of_some _ e
  have fresh : ∀ b ∈ [s1.heap.objs.size], FpOk X pins H1 b := fun b hb => by
    rw [List.mem_singleton] at hb
    rw [hb]
    exact I1.fpOk (Nat.le_refl _) (I1.hok.fresh (Nat.le_refl _))
  rcases q with ⟨⟨xs, hq⟩, q⟩ | ⟨⟨xs, hq⟩, q⟩
  · obtain ⟨its, -, pl, -⟩ := I1.list hq
    exact wpAny_pyIter_list pl.isList ⟨_, [_], _, _, H1, rfl, grown, turn_list a _, ⟨_, Heap.get?_push_size _ rfl, rfl, rfl⟩, fresh, q⟩
  · obtain ⟨its, -, pt, -⟩ := I1.tuple hq
    exact wpAny_pyIter_tuple (show s1.heap.IsTuple a its.toArray from pt) ⟨_, [_], _, _, H1, rfl, grown, turn_tuple a _, ⟨_, Heap.get?_push_size _ rfl, rfl, rfl⟩, fresh, q⟩⟩
section
variable {wd : Wd}
/-- a walk over known things: an invariant by the turn -/
def aFor (ds : List D) (t : AG) (body : AS wd) : AS wd := fun Da ρ ω => ∃ Iv : Nat → AEnv → wd.W → Prop, Iv 0 ρ ω ∧
  (∀ i d ρ ω, ds[i]? = some d → Iv i ρ ω → t d ρ (fun ρ' => body { Da with nx := Iv (i + 1), ct := Iv (i + 1), bk := Da.nx } ρ' ω)) ∧ (∀ ρ ω, Iv ds.length ρ ω → Da.nx ρ ω)
def sFor (g : AE wd) (t : AG) (body : AS wd) : AS wd := fun Da ρ ω => g ρ ω (fun d ω1 => match d with
  | .tup xs => aFor xs t body Da ρ ω1
  | .lst xs => aFor xs t body Da ρ ω1
  | _ => False) (fun x ω' => Da.ex x ρ ω')
def rng (lo : Int) (n : Nat) : List D := (List.range n).map fun (i : Nat) => .int (lo + (i : Int))
def sForR1 (g : AE wd) (t : AG) (body : AS wd) : AS wd := fun Da ρ ω => g ρ ω (fun d ω1 => match d with
  | .int n => -(2 ^ 62) ≤ n ∧ n < 2 ^ 62 ∧ aFor (rng 0 n.toNat) t body Da ρ ω1
  | _ => False) (fun x ω' => Da.ex x ρ ω')
def sForR2 (g h : AE wd) (t : AG) (body : AS wd) : AS wd := fun Da ρ ω => g ρ ω (fun d ω1 => h ρ ω1 (fun e ω2 => match d, e with
  | .int i, .int j => (-(2 ^ 62) ≤ i ∧ i < 2 ^ 62 ∧ -(2 ^ 62) ≤ j ∧ j < 2 ^ 62) ∧ aFor (rng i (j - i).toNat) t body Da ρ ω2
  | _, _ => False) (fun x ω' => Da.ex x ρ ω')) (fun x ω' => Da.ex x ρ ω')
def sWhile (c : AT wd) (body : AS wd) : AS wd := fun Da ρ ω => ∃ Iv : Nat → AEnv → wd.W → Prop, (∃ m, Iv m ρ ω) ∧ ∀ m ρ ω, Iv m ρ ω →
  c ρ ω (fun b ω' => if b = true then body { Da with nx := fun ρ' ω' => ∃ m', m' < m ∧ Iv m' ρ' ω', ct := fun ρ' ω' => ∃ m', m' < m ∧ Iv m' ρ' ω', bk := Da.nx } ρ ω' else Da.nx ρ ω') (fun x ω' => Da.ex x ρ ω')
end
theorem rng_at {lo : Int} {n i : Nat} (h : i < n) : (rng lo n)[i]? = some (.int (lo + (i : Int))) := by
  unfold rng
  rw [List.getElem?_map, List.getElem?_range h]
  rfl
theorem rng_len {lo : Int} {n : Nat} : (rng lo n).length = n := by
  unfold rng
  rw [List.length_map, List.length_range]
section
variable {wd : Wd} {K : PySem.W.Frag} {W : WX} {F0 B H : Hp} {ω : wd.W} {σ : St} {ρ : AEnv} {t : AG} {g : TG} {body : AS wd} {tb : TS} {Da : AEnds wd} {E : Ends} {ds : List D}
/-- the invariant at a turn, over the heap -/
def Pv (wd : Wd) (K : PySem.W.Frag) (F0 B : Hp) (Iv : Nat → AEnv → wd.W → Prop) (i : Nat) (σ : St) (H : Hp) : Prop := ∃ F' B' ρ' ω', Same B B' ∧ Sim wd K F0 F' B' ρ' ω' σ H ∧ Iv i ρ' ω'
theorem EndsOk.loop (k : EndsOk wd K W F0 B Da E) {B' : Hp} (m : Same B B') (P : AEnv → wd.W → Prop) (Q : St → Hp → Prop) (hP : ∀ {F' B' ρ' ω' σ' H'}, Same B B' → Sim wd K F0 F' B' ρ' ω' σ' H' → P ρ' ω' → Q σ' H') :
    EndsOk wd K W F0 B' { Da with nx := P, ct := P, bk := Da.nx } { E with nx := Q, ct := Q, bk := E.nx } :=
  ⟨fun s => hP (m.trans s), fun s => k.nx (m.trans s), fun s => hP (m.trans s), fun s => k.rt (m.trans s), fun s => k.ex (m.trans s)⟩
theorem turn_of (hb : RS wd K W tb body) (hg : RG wd K g t) (k : EndsOk wd K W F0 B Da E) {Iv : Nat → AEnv → wd.W → Prop}
    (hs : ∀ i d ρ ω, ds[i]? = some d → Iv i ρ ω → t d ρ (fun ρ' => body { Da with nx := Iv (i + 1), ct := Iv (i + 1), bk := Da.nx } ρ' ω)) {i : Nat} {v : V} {d : D} {σ : St} {H : Hp} (hd : ds[i]? = some d)
    (p : ∃ F' B' ρ' ω', Same B B' ∧ Sim wd K F0 F' B' ρ' ω' σ H ∧ Rep K B' v d ∧ Iv i ρ' ω') : g v σ H fun σ2 H2 => tb { E with nx := Pv wd K F0 B Iv (i + 1), ct := Pv wd K F0 B Iv (i + 1), bk := E.nx } σ2 H2 := by
  obtain ⟨F', B', ρ', ω', m, s, r, iv⟩ := p
  exact hg F0 F' B' ρ' ω' σ H v d _ _ s r (hs i d ρ' ω' hd iv) fun ρ2 σ2 s2 q2 => hb F0 F' B' ρ2 ω' σ2 H _ _ s2 q2 (k.loop m _ _ fun m' s' iv' => ⟨_, _, _, _, m', s', iv'⟩)
theorem rs_for {te : TE} {ge : AE wd} (he : RE wd K W te ge) (hg : RG wd K g t) (hb : RS wd K W tb body) : RS wd K W (tFor (iSeq K te) g tb) (sFor ge t body) := fun F0 F B ρ ω σ H Da E s q k =>
  he F B ρ ω σ H _ _ _ s.st s.env q (fun B1 ω1 H1 v1 d1 s1 hs1 r1 g1 => by
    cases d1 <;> try exact g1.elim
    case tup xs =>
      obtain ⟨Iv, h0, hs, hd⟩ := g1
      cases r1 with
      | tup h1 r1 =>
        refine ⟨_, rfl, .inr ⟨⟨_, Same.seqT hs1.sB h1⟩, for_tup (Pv wd K F0 B1 Iv) ⟨F, B1, ρ, ω1, Same.refl _, s.up s1 hs1, h0⟩ (fun i σ H _ ⟨F', B', ρ', ω', m, s', _⟩ => Same.seqT (m.trans s'.st.sB) h1) (fun i x σ H hx p => ?_) fun σ H ⟨F', B', ρ', ω', m, s', iv⟩ => ?_⟩⟩
        · have hi : i < xs.length := by
            rw [← r1.length]
            exact (List.getElem?_eq_some_iff.mp hx).1
          have hd := List.getElem?_eq_getElem hi
          obtain ⟨v, e1, e2⟩ := r1.get hd
          rw [hx] at e1
          cases e1
          obtain ⟨F', B', ρ', ω', m, s', iv⟩ := p
          exact turn_of hb hg (k.mono s1) hs hd ⟨F', B', ρ', ω', m, s', e2.mono m, iv⟩
        · rw [r1.length] at iv
          exact k.nx (s1.trans m) s' (hd _ _ iv)
    case lst xs =>
      obtain ⟨Iv, h0, hs, hd⟩ := g1
      cases r1 with
      | lst h1 r1 =>
        refine ⟨_, rfl, .inl ⟨⟨_, SqL.of (hs1.sB _ _ h1)⟩, for_list (Pv wd K F0 B1 Iv) ⟨F, B1, ρ, ω1, Same.refl _, s.up s1 hs1, h0⟩ (fun i σ H _ ⟨F', B', ρ', ω', m, s', _⟩ => SqL.of ((m.trans s'.st.sB) _ _ h1)) (fun i x σ H hx p => ?_) fun σ H ⟨F', B', ρ', ω', m, s', iv⟩ => ?_⟩⟩
        · have hi : i < xs.length := by
            rw [← r1.length]
            exact (List.getElem?_eq_some_iff.mp hx).1
          have hd := List.getElem?_eq_getElem hi
          obtain ⟨v, e1, e2⟩ := r1.get hd
          rw [hx] at e1
          cases e1
          obtain ⟨F', B', ρ', ω', m, s', iv⟩ := p
          exact turn_of hb hg (k.mono s1) hs hd ⟨F', B', ρ', ω', m, s', e2.mono m, iv⟩
        · rw [r1.length] at iv
          exact k.nx (s1.trans m) s' (hd _ _ iv)) (k.xok s)
theorem range_go (hg : RG wd K g t) (hb : RS wd K W tb body) {F : Hp} {lo : Int} {n : Nat} (s : Sim wd K F0 F B ρ ω σ H) (k : EndsOk wd K W F0 B Da E) (q : aFor (rng lo n) t body Da ρ ω) :
    ∃ W' : Nat → Nat → St → Hp → Prop, (∃ m, W' 0 m σ H) ∧ ∀ i m σ H, W' i m σ H →
      ((Itr lo n).stop i H ∧ E.nx σ H) ∨ ((Itr lo n).go i H ∧ ∃ N : St → Hp → Prop, (∀ σ' H', N σ' H' → ∃ m', m' < m ∧ W' (i + 1) m' σ' H') ∧ ∀ x H', (Itr lo n).yld i H x H' → g x σ H' fun σ2 H2 => tb { E with nx := N, ct := N, bk := E.nx } σ2 H2) := by
  obtain ⟨Iv, h0, hs, hd⟩ := q
  refine for_range (Pv wd K F0 B Iv) ⟨F, B, ρ, ω, Same.refl _, s, h0⟩ (fun i σ H hi p => ?_) fun σ H ⟨F', B', ρ', ω', m, s', iv⟩ => ?_
  · obtain ⟨F', B', ρ', ω', m, s', iv⟩ := p
    exact turn_of hb hg k hs (rng_at hi) ⟨F', B', ρ', ω', m, s', .int _, iv⟩
  · exact k.nx m s' (hd _ _ (by rw [rng_len]; exact iv))
theorem rs_forR1 {te : TE} {ge : AE wd} (he : RE wd K W te ge) (hg : RG wd K g t) (hb : RS wd K W tb body) : RS wd K W (tFor (iRng1 (tCons te tNil)) g tb) (sForR1 ge t body) := fun F0 F B ρ ω σ H Da E s q k =>
  he F B ρ ω σ H _ _ _ s.st s.env q (fun B1 ω1 H1 v1 d1 s1 hs1 r1 g1 => by
    cases d1 <;> try exact g1.elim
    case int n =>
      cases r1
      exact ⟨n, rfl, g1.1, g1.2.1, range_go hg hb (s.up s1 hs1) (k.mono s1) g1.2.2⟩) (k.xok s)
theorem rs_forR2 {ta te : TE} {ga ge : AE wd} (ha : RE wd K W ta ga) (he : RE wd K W te ge) (hg : RG wd K g t) (hb : RS wd K W tb body) : RS wd K W (tFor (iRng2 (tCons ta (tCons te tNil))) g tb) (sForR2 ga ge t body) := fun F0 F B ρ ω σ H Da E s q k =>
  ha F B ρ ω σ H _ _ _ s.st s.env q (fun B1 ω1 H1 v1 d1 s1 hs1 r1 g1 => he F B1 ρ ω1 σ H1 _ _ _ hs1 (s.env.mono s1) g1 (fun B2 ω2 H2 v2 d2 s2 hs2 r2 g2 => by
    cases d1 <;> cases d2 <;> try exact g2.elim
    case int.int i j =>
      cases r1
      cases r2
      exact ⟨i, j, rfl, g2.1, range_go hg hb (s.up (s1.trans s2) hs2) (k.mono (s1.trans s2)) g2.2⟩) ((k.xok s).mono s1)) (k.xok s)
theorem rs_while {tc : TT} {c : AT wd} (hc : RT wd K W tc c) (hb : RS wd K W tb body) : RS wd K W (tWhile tc tb) (sWhile c body) := fun F0 F B ρ ω σ H Da E s q k => by
  obtain ⟨Iv, ⟨m0, h0⟩, hs⟩ := q
  refine ⟨fun m σ H => Pv wd K F0 B Iv m σ H, ⟨m0, F, B, ρ, ω, Same.refl _, s, h0⟩, ?_⟩
  rintro m σ1 H1 ⟨F', B', ρ', ω', mm, s', iv⟩
  refine hc F' B' ρ' ω' σ1 H1 _ _ _ s'.st s'.env (hs m ρ' ω' iv) (fun B2 ω2 H2 b s2 hs2 g2 => ?_) ((k.mono mm).xok s')
  cases b with
  | false => exact k.nx (mm.trans s2) (s'.up s2 hs2) g2
  | true => exact ⟨fun σ' H' => ∃ m', m' < m ∧ Pv wd K F0 B Iv m' σ' H', fun σ' H' z => z, hb F0 F' B2 ρ' ω2 σ1 H2 _ _ (s'.up s2 hs2) g2 (k.loop (mm.trans s2) _ _ fun m' s3 ⟨j, lt, iv'⟩ => ⟨j, lt, _, _, _, _, m', s3, iv'⟩)⟩
end
section
variable {wd : Wd} {X : Cx} {W : WX} {tg : Expr} {body : List Stmt} {pos p p2 : Pos} {t : AG} {g : AS wd} {e e2 : Expr} {ge ge2 : AE wd}
theorem gs_for (hp : PassesOwn (model X.prog X.w) X.A X.env X.xe) (hc : X.calm = true) (he : GE wd X W e ge) (hg : GG wd X tg t) (hb : GSs wd X W body g) (hs : ∀ x, foldedSetIterable e X.env x = pure x := by intro _; rfl) : GS wd X W (.For tg e body [] pos) (sFor ge t g) :=
  let ⟨_, pe, re⟩ := he.ex; let ⟨_, pg, rg⟩ := hg.ex; let ⟨_, pb, rb⟩ := hb.ex; ⟨_, ps_for hp hc (pi_seq pe) pg pb hs, rs_for re rg rb⟩
theorem gs_forR1 (hp : PassesOwn (model X.prog X.w) X.A X.env X.xe) (hc : X.calm = true) (hm : X.mg "range" = none) (he : GE wd X W e ge) (hg : GG wd X tg t) (hb : GSs wd X W body g) (hgr : Gl X "range" := by rfl) (hst : starEach [e] X.env = [(false, eval e X.env)] := by rfl)
    (hs : ∀ x, foldedSetIterable (.Call (.Name "range" p) [e] [] p2) X.env x = pure x := by intro _; rfl) : GS wd X W (.For tg (.Call (.Name "range" p) [e] [] p2) body [] pos) (sForR1 ge t g) :=
  let ⟨_, pe, re⟩ := he.ex; let ⟨_, pg, rg⟩ := hg.ex; let ⟨_, pb, rb⟩ := hb.ex; ⟨_, ps_for hp hc (pi_range1 hgr hm (pa_cons pe pa_nil hst) hst) pg pb hs, rs_forR1 re rg rb⟩
theorem gs_forR2 (hp : PassesOwn (model X.prog X.w) X.A X.env X.xe) (hc : X.calm = true) (hm : X.mg "range" = none) (he : GE wd X W e ge) (he2 : GE wd X W e2 ge2) (hg : GG wd X tg t) (hb : GSs wd X W body g) (hgr : Gl X "range" := by rfl) (hst : starEach [e, e2] X.env = [(false, eval e X.env), (false, eval e2 X.env)] := by rfl) (hst2 : starEach [e2] X.env = [(false, eval e2 X.env)] := by rfl)
    (hs : ∀ x, foldedSetIterable (.Call (.Name "range" p) [e, e2] [] p2) X.env x = pure x := by intro _; rfl) : GS wd X W (.For tg (.Call (.Name "range" p) [e, e2] [] p2) body [] pos) (sForR2 ge ge2 t g) :=
  let ⟨_, pe, re⟩ := he.ex; let ⟨_, pe2, re2⟩ := he2.ex; let ⟨_, pg, rg⟩ := hg.ex; let ⟨_, pb, rb⟩ := hb.ex
  ⟨_, ps_for hp hc (pi_range2 hgr hm (pa_cons pe (pa_cons pe2 pa_nil hst2) (by rw [hst, hst2])) hst hst2) pg pb hs, rs_forR2 re re2 rg rb⟩
theorem gs_while {c : Expr} {gc : AT wd} (hp : PassesOwn (model X.prog X.w) X.A X.env X.xe) (hc : GT wd X W c gc) (hb : GSs wd X W body g) : GS wd X W (.While c body [] pos) (sWhile gc g) :=
  let ⟨_, pc, rc⟩ := hc.ex; let ⟨_, pb, rb⟩ := hb.ex; ⟨_, ps_while hp pc pb, rs_while rc rb⟩
end
end MR
namespace MR
open PySem PySem.Spec L2
def startA (N : List Str) (ds : List D) : AEnv := ds.map (fun d => some (Ent.d d)) ++ List.replicate (N.length - ds.length) none
theorem sim_start {wd : Wd} {K : PySem.W.Frag} {F B H : Hp} {ω : wd.W} {N : List Str} {vs : List V} {ds : List D} (hs : Hst wd K F B ω H) (r : RepAll K B vs ds) : Sim wd K F F B (startA N ds) ω (L2.start N vs) H := by
  have noOwn : ∀ (i : Nat) (l : List D), (startA N ds)[i]? = some (some (.own l)) → False := fun i l h => by
    unfold startA at h
    by_cases c : i < ds.length
    · rw [List.getElem?_append_left (by simpa using c), List.getElem?_map, List.getElem?_eq_getElem c] at h
      cases h
    · rw [List.getElem?_append_right (by simpa using c), List.getElem?_replicate] at h
      split at h <;> cases h
  refine ⟨hs, ⟨by simp [startA, L2.start, r.length], fun i e h => ?_, fun i _ l _ _ h _ _ _ => (noOwn i l h).elim⟩, Same.refl _, fun i l _ h _ => (noOwn i l h).elim⟩
  unfold startA at h
  by_cases c : i < ds.length
  · rw [List.getElem?_append_left (by simpa using c), List.getElem?_map, List.getElem?_eq_getElem c] at h
    cases h
    obtain ⟨v, e1, e2⟩ := r.get (List.getElem?_eq_getElem c)
    refine ⟨v, ?_, e2⟩
    unfold L2.start
    rw [List.getElem?_append_left (by simpa [r.length] using c), List.getElem?_map, e1]
    rfl
  · rw [List.getElem?_append_right (by simpa using c), List.getElem?_replicate] at h
    split at h <;> cases h
section
variable {P : Program} {w : World} {K : PySem.W.Frag} {mg : Str → Option Value} {base : Heap} {k : Nat} {f : Addr} {fd : FuncData} {ps N : List Str} {x qual : Str} {params : Arguments} {body : List Stmt} {scope : Scope} {kws : List (Str × V)}
/-- the body's end -/
abbrev aEnd {wd : Wd} (Qa : AQ wd) (Ea : AX wd) : AEnds wd := { nx := fun _ ω => Qa .non ω, rt := Qa, ex := fun x _ ω => Ea x ω }
/-- a def: its body keeps the promise -/
theorem fn_ok (wd : Wd) (asp : ASp wd) (F : FunD K x qual params body scope [] kws f fd) (S : FnScope N ps scope)
    (hb : ∀ (cdv : Value) (A : Around) (outer : List PySem.Env) (s : Shared) (H : Hp) (E : XK), Room k (cxOf (L2.CX P w) P w K mg base N qual scope f cdv A outer s H E).A → (cxOf (L2.CX P w) P w K mg base N qual scope f cdv A outer s H E).A.guards = some [] →
      ∃ g, GSs wd (cxOf (L2.CX P w) P w K mg base N qual scope f cdv A outer s H E) (fun cls d _ H => E cls d H) body g ∧ ∀ ds ω Qa Ea, asp ds ω Qa Ea → ds.length = ps.length → g (aEnd Qa Ea) (startA N ds) ω) : FnG P w K mg base (L2.CX P w) (k + 1) f fd ps (toSp wd K ps.length asp) :=
  FunD.okG F S (fun h => h.1) fun cdv A outer s H vs Q E hr hG hsp => by
    obtain ⟨hl, F', B, ω, ds, Qa, Ea, hs, r, ha, hk, hx⟩ := hsp
    obtain ⟨g, gs, q⟩ := hb cdv A outer s H E hr hG
    obtain ⟨t, p, rt⟩ := gs.ex
    refine ⟨t, p, rt F' F' B (startA N ds) ω (L2.start N vs) H _ _ (sim_start hs r) (q ds ω Qa Ea ha (r.length ▸ hl)) ⟨fun m s z => ?_, fun m s z => z.elim, fun m s z => z.elim, fun m h r z => hk _ _ _ _ _ m h r z, fun m s r z => hx _ _ _ _ _ _ m (s.st.back s.f0) r z⟩⟩
    exact hk _ _ _ _ _ m (s.st.back s.f0) .non z
/-- a def that lets nothing out -/
theorem fn_ok0 (wd : Wd) (asp : ASp wd) (F : FunD K x qual params body scope [] kws f fd) (S : FnScope N ps scope)
    (hb : ∀ (cdv : Value) (A : Around) (outer : List PySem.Env) (s : Shared) (H : Hp) (E : XK), Room k (cxOf CX0 P w K mg base N qual scope f cdv A outer s H E).A → (cxOf CX0 P w K mg base N qual scope f cdv A outer s H E).A.guards = some [] →
      ∃ g, GSs wd (cxOf CX0 P w K mg base N qual scope f cdv A outer s H E) (fun _ _ _ _ => False) body g ∧ ∀ ds ω Qa, asp ds ω Qa (fun _ _ => False) → ds.length = ps.length → g (aEnd Qa fun _ _ => False) (startA N ds) ω)
    (hE : ∀ ds ω Qa Ea, asp ds ω Qa Ea → asp ds ω Qa fun _ _ => False) : FnG P w K mg base CX0 (k + 1) f fd ps (toSp wd K ps.length asp) :=
  FunD.okG F S (fun h => h.1) fun cdv A outer s H vs Q E hr hG hsp => by
    obtain ⟨hl, F', B, ω, ds, Qa, Ea, hs, r, ha, hk, hx⟩ := hsp
    obtain ⟨g, gs, q⟩ := hb cdv A outer s H E hr hG
    obtain ⟨t, p, rt⟩ := gs.ex
    refine ⟨t, p, rt F' F' B (startA N ds) ω (L2.start N vs) H _ _ (sim_start hs r) (q ds ω Qa (hE _ _ _ _ ha) (r.length ▸ hl)) ⟨fun m s z => ?_, fun m s z => z.elim, fun m s z => z.elim, fun m h r z => hk _ _ _ _ _ m h r z, fun m s r z => z.elim⟩⟩
    exact hk _ _ _ _ _ m (s.st.back s.f0) .non z
theorem tk_cx {qual : Str} {cdv : Value} {A : Around} {outer : List PySem.Env} {s : Shared} {H : Hp} {E : XK} : Takes (cxOf (L2.CX P w) P w K mg base N qual scope f cdv A outer s H E) (fun cls d _ H => E cls d H) := takes_of rfl rfl rfl rfl
theorem po_cx {CX : CXT} {qual : Str} {cdv : Value} {A : Around} {outer : List PySem.Env} {s : Shared} {H : Hp} {E : XK} : PassesOwn (model P w) (cxOf CX P w K mg base N qual scope f cdv A outer s H E).A (cxOf CX P w K mg base N qual scope f cdv A outer s H E).env (cxOf CX P w K mg base N qual scope f cdv A outer s H E).xe := passes_of rfl
end
def wipeA (ρ : AEnv) : List Nat → AEnv
  | [] => ρ
  | v :: vs => (wipeA ρ vs).set v none
theorem wipeA_len (ρ : AEnv) : ∀ vs, (wipeA ρ vs).length = ρ.length
  | [] => rfl
  | v :: vs => by rw [wipeA, List.length_set, wipeA_len ρ vs]
theorem wipe_at {σ : St} {i : Nat} : ∀ {vs : List Nat}, i ∉ vs → (wipe σ vs)[i]? = σ[i]? := fun h => L2.wipe_out h
theorem wipeA_at {ρ : AEnv} {i : Nat} {e : Ent} : ∀ {vs : List Nat}, (wipeA ρ vs)[i]? = some (some e) → ρ[i]? = some (some e) ∧ i ∉ vs
  | [], h => ⟨h, by simp⟩
  | v :: vs, h => by
    rw [wipeA] at h
    by_cases c : v = i
    · subst c
      have hi := (List.getElem?_eq_some_iff.mp h).1
      rw [List.length_set] at hi
      rw [List.getElem?_set_self hi] at h
      cases h
    · rw [List.getElem?_set_ne c] at h
      obtain ⟨a, b⟩ := wipeA_at h
      exact ⟨a, by simp [b, Ne.symm c]⟩
/-- a target within a comprehension: it stores into the wiped slots alone -/
def Only (vs : List Nat) (t : TG) : Prop := ∀ v σ H Q, t v σ H Q → t v σ H fun σ2 H2 => wipe σ2 vs = wipe σ vs ∧ Q σ2 H2
def Onlys (vs : List Nat) (t : TGs) : Prop := ∀ xs σ H Q, t xs σ H Q → t xs σ H fun σ2 H2 => wipe σ2 vs = wipe σ vs ∧ Q σ2 H2
theorem wipe_set {σ : St} {i : Nat} {v : V} {vs : List Nat} (h : i ∈ vs) : wipe (σ.set i (some v)) vs = wipe σ vs := by
  have flat : ∀ τ : St, ∀ j, j ∈ vs → (wipe τ vs)[j]? = if j < τ.length then some none else none := fun τ j hj => by
    by_cases q : j < τ.length
    · rw [if_pos q]
      have hl : j < (wipe τ vs).length := by rw [wipe_length]; exact q
      cases e : (wipe τ vs)[j] with
      | none => rw [List.getElem?_eq_getElem hl, e]
      | some x => exact absurd hj (wipe_some (x := x) (by rw [List.getElem?_eq_getElem hl, e])).2
    · rw [if_neg q, List.getElem?_eq_none (by rw [wipe_length]; omega)]
  refine List.ext_getElem? fun j => ?_
  by_cases c : j ∈ vs
  · rw [flat _ j c, flat _ j c, List.length_set]
  · rw [wipe_at c, wipe_at c, List.getElem?_set_ne (fun e => c (by rw [← e]; exact h))]
theorem only_name {i : Nat} {vs : List Nat} (h : i ∈ vs) : Only vs (gName i) := fun v σ H Q q => ⟨wipe_set h, q⟩
theorem onlys_nil {vs : List Nat} : Onlys vs L2.gNil := fun xs σ H Q ⟨e, q⟩ => ⟨e, rfl, q⟩
theorem onlys_cons {t : TG} {u : TGs} {vs : List Nat} (mono : ∀ v σ H Q Q', (∀ s h, Q s h → Q' s h) → t v σ H Q → t v σ H Q') (h1 : Only vs t) (h2 : Onlys vs u) : Onlys vs (L2.gCons t u) := fun xs σ H Q ⟨v, r, e, q⟩ =>
  ⟨v, r, e, mono _ _ _ _ _ (fun σ1 H1 ⟨a, q1⟩ => by
    have := h2 r σ1 H1 Q q1
    rw [a] at this
    exact this) (h1 _ _ _ _ q)⟩
section
variable {wd : Wd}
/-- the list that a comprehension makes: an invariant by the turn and the items so far -/
def aComp (ds : List D) (t : AG) (tt : AT wd) (te : AE wd) (vs : List Nat) : AA wd := fun ρ ω Q E => ∃ Iv : Nat → List D → wd.W → Prop, Iv 0 [] ω ∧
  (∀ i d acc ω, ds[i]? = some d → Iv i acc ω → t d (wipeA ρ vs) (fun ρ' => tt ρ' ω (fun b ω1 => if b = true then te ρ' ω1 (fun y ω2 => acc.length < sizeLine ∧ Iv (i + 1) (acc ++ [y]) ω2) (fun _ _ => False) else Iv (i + 1) acc ω1) (fun _ _ => False))) ∧
  ∀ acc ω, Iv ds.length acc ω → Q acc ω
def gComp (g : AE wd) (t : AG) (tt : AT wd) (te : AE wd) (vs : List Nat) : AA wd := fun ρ ω Q E => g ρ ω (fun d ω1 => match d with
  | .tup xs => aComp xs t tt te vs ρ ω1 Q E
  | .lst xs => aComp xs t tt te vs ρ ω1 Q E
  | _ => False) E
def gCompR (g : AE wd) (t : AG) (tt : AT wd) (te : AE wd) (vs : List Nat) : AA wd := fun ρ ω Q E => g ρ ω (fun d ω1 => match d with
  | .int n => -(2 ^ 62) ≤ n ∧ n < 2 ^ 62 ∧ aComp (rng 0 n.toNat) t tt te vs ρ ω1 Q E
  | _ => False) E
def gYes : AT wd := fun _ ω Q _ => Q true ω
end
section
variable {wd : Wd} {K : PySem.W.Frag} {W : WX} {F B H : Hp} {ω : wd.W} {σ : St} {ρ : AEnv}
theorem EnvOk.wiped (h : EnvOk K F B ρ σ) (vs : List Nat) {F' : Hp} (hF : Same F F') : EnvOk K F' B (wipeA ρ vs) (wipe σ vs) := by
  refine ⟨by rw [wipeA_len, wipe_length, h.len], fun i e q => ?_, fun i j l l' p h1 h2 h3 h4 => ?_⟩
  rotate_left
  · obtain ⟨a1, b1⟩ := wipeA_at h1
    obtain ⟨a2, b2⟩ := wipeA_at h2
    rw [wipe_at b1] at h3
    rw [wipe_at b2] at h4
    exact h.dist i j l l' p a1 a2 h3 h4
  obtain ⟨a, b⟩ := wipeA_at q
  have en := h.ent i e a
  rw [wipe_at b]
  cases e with
  | d x => exact en
  | own l =>
    obtain ⟨p, vs', z1, z2, z3⟩ := en
    exact ⟨p, vs', z1, hF _ _ z2, z3⟩
/-- in a turn: the list so far stands at Dl, out of the ground -/
def Cv (wd : Wd) (K : PySem.W.Frag) (F B : Hp) (Dl : Addr) (Iv : Nat → List D → wd.W → Prop) (i : Nat) (H : Hp) : Prop := ∃ B' ω' accV acc, Same B B' ∧ Hst wd K (upd F Dl (.lst accV)) B' ω' H ∧ RepAll K B' accV acc ∧ Iv i acc ω'
variable {g : TG} {t : AG} {tt : TT} {ta : AT wd} {te : TE} {ge : AE wd} {vs : List Nat} {ds : List D}
theorem comp_turn {Dl : Addr} (hF : F Dl = none) (he : EnvOk K F B ρ σ) (rg : RG wd K g t) (ro : ∀ v σ H Q, g v σ H Q → g v σ H fun σ2 H2 => wipe σ2 vs = wipe σ vs ∧ Q σ2 H2) (rt : RT wd K (fun _ _ _ _ => False) tt ta) (re : RE wd K (fun _ _ _ _ => False) te ge)
    {Iv : Nat → List D → wd.W → Prop} (hs : ∀ i d acc ω, ds[i]? = some d → Iv i acc ω → t d (wipeA ρ vs) (fun ρ' => ta ρ' ω (fun b ω1 => if b = true then ge ρ' ω1 (fun y ω2 => acc.length < sizeLine ∧ Iv (i + 1) (acc ++ [y]) ω2) (fun _ _ => False) else Iv (i + 1) acc ω1) (fun _ _ => False)))
    {i : Nat} {v : V} {d : D} {H : Hp} (hd : ds[i]? = some d) (p : ∃ B' ω' accV acc, Same B B' ∧ Hst wd K (upd F Dl (.lst accV)) B' ω' H ∧ RepAll K B' accV acc ∧ Rep K B' v d ∧ Iv i acc ω') :
    g v (wipe σ vs) H fun σ2 H2 => wipe σ2 vs = wipe σ vs ∧ tt σ2 H2 fun b H3 =>
      if b = true then te σ2 H3 fun y H4 => ∃ acc, H4 Dl = some (.lst acc) ∧ acc.length < sizeLine ∧ Cv wd K F B Dl Iv (i + 1) (upd H4 Dl (.lst (acc ++ [y]))) else Cv wd K F B Dl Iv (i + 1) H3 := by
  obtain ⟨B1, ω1, accV, acc, m, st, ra, rv, iv⟩ := p
  have sF : Same F (upd F Dl (.lst accV)) := fun q o e => by
    rw [upd_ne (ne_of_none e hF)]
    exact e
  have env := (he.mono m).wiped vs sF
  have w2 : wipe (wipe σ vs) vs = wipe σ vs := by
    refine List.ext_getElem? fun j => ?_
    by_cases c : j ∈ vs
    · have hl : ∀ τ : St, τ.length = σ.length → (wipe τ vs)[j]? = if j < σ.length then some none else none := fun τ hτ => by
        by_cases q : j < σ.length
        · rw [if_pos q]
          have hj : j < (wipe τ vs).length := by rw [wipe_length]; omega
          cases e : (wipe τ vs)[j] with
          | none => rw [List.getElem?_eq_getElem hj, e]
          | some x => exact absurd c (wipe_some (x := x) (by rw [List.getElem?_eq_getElem hj, e])).2
        · rw [if_neg q, List.getElem?_eq_none (by rw [wipe_length]; omega)]
      rw [hl _ (wipe_length _ _), hl _ rfl]
    · rw [wipe_at c]
  have step := ro v (wipe σ vs) H _ (rg (fun _ => none) (upd F Dl (.lst accV)) B1 (wipeA ρ vs) ω1 (wipe σ vs) H v d _ (fun σ2 H2 => tt σ2 H2 fun b H3 =>
      if b = true then te σ2 H3 fun y H4 => ∃ acc, H4 Dl = some (.lst acc) ∧ acc.length < sizeLine ∧ Cv wd K F B Dl Iv (i + 1) (upd H4 Dl (.lst (acc ++ [y]))) else Cv wd K F B Dl Iv (i + 1) H3) ?sim rv (hs i d acc ω1 hd iv) ?go)
  case sim => exact ⟨st, env, (fun _ _ e => nomatch e), fun _ _ _ _ _ => rfl⟩
  case go =>
    intro ρ2 σ2 s2 q2
    refine rt _ B1 ρ2 ω1 σ2 H _ _ _ s2.st s2.env q2 (fun B2 ω2 H2 b m2 st2 g2 => ?_) (fun _ _ _ _ _ _ _ _ _ z => z)
    cases b with
    | false => exact ⟨B2, ω2, accV, acc, m.trans m2, st2, ra.mono m2, g2⟩
    | true =>
      refine re _ B2 ρ2 ω2 σ2 H2 _ _ _ st2 (s2.env.mono m2) g2 (fun B3 ω3 H3 v3 d3 m3 st3 r3 g3 => ?_) (fun _ _ _ _ _ _ _ _ _ z => z)
      refine ⟨accV, st3.sF _ _ upd_same, by rw [(ra).length]; exact g3.1, B3, ω3, accV ++ [v3], acc ++ [d3], (m.trans m2).trans m3, ?_, (ra.mono (m2.trans m3)).append (.cons r3 .nil), g3.2⟩
      have := st3.wrote (ws := accV ++ [v3]) upd_same
      rw [upd_upd] at this
      exact this
  rw [w2] at step
  exact step
end
/-- a target in the block of a comprehension -/
structure GC (wd : Wd) (X : Cx) (tg : Expr) (vs : List Nat) (t : TG) (g : AG) : Prop where
  pg : PG X tg t
  rg : RG wd X.K t g
  only : Only vs t
  mono : ∀ v σ H Q Q', (∀ s h, Q s h → Q' s h) → t v σ H Q → t v σ H Q'
structure GCs (wd : Wd) (X : Cx) (ts : List Expr) (vs : List Nat) (t : TGs) (g : AGs) : Prop where
  pg : PGs X ts t
  rg : RGs wd X.K t g
  only : Onlys vs t
  mono : ∀ v σ H Q Q', (∀ s h, Q s h → Q' s h) → t v σ H Q → t v σ H Q'
section
variable {wd : Wd} {X : Cx} {W : WX} {pos : Pos} {vs : List Nat}
theorem gc_name (i : Nat) {x : Str} (hN : X.N.Nodup) (hv : i ∈ vs := by decide) (hi : X.N[i]? = some x := by rfl) (hx : Loc X.env.scope x := by first | exact .inl rfl | exact .inr rfl) (hf : X.fn x = true ∨ X.env.scope.names.lookup x = some .local := by first | exact .inl rfl | exact .inr rfl) : GC wd X (.Name x pos) vs (gName i) (aName i) :=
  ⟨pg_name hN hi hx hf, fun F0 F B ρ ω σ H v d Qa Q s r q k => k _ _ (s.set i r) q, only_name hv, fun _ _ _ _ _ m q => m _ _ q⟩
theorem gcs_nil : GCs wd X [] vs L2.gNil aNil := ⟨pgs_nil, fun F0 F B ρ ω σ H vs ds Qa Q s r q k => by
  cases r with
  | nil => exact ⟨rfl, k _ _ s q⟩
  | cons _ _ => exact q.elim, onlys_nil, fun _ _ _ _ _ m q => ⟨q.1, m _ _ q.2⟩⟩
theorem gcs_cons {e : Expr} {es : List Expr} {t : TG} {u : TGs} {a : AG} {b : AGs} (h1 : GC wd X e vs t a) (h2 : GCs wd X es vs u b) (hs : (assignEach (e :: es) X.env).map (·.2) = assign e X.env :: (assignEach es X.env).map (·.2) := by rfl) : GCs wd X (e :: es) vs (L2.gCons t u) (aCons a b) :=
  ⟨pgs_cons h1.pg h2.pg hs, fun F0 F B ρ ω σ H vs ds Qa Q s r0 q k => by
    cases r0 with
    | nil => exact q.elim
    | cons r1 r2 => exact ⟨_, _, rfl, h1.rg F0 F B ρ ω σ H _ _ _ _ s r1 q fun ρ' σ' s' q' => h2.rg F0 F B ρ' ω σ' H _ _ _ _ s' r2 q' k⟩, onlys_cons h1.mono h1.only h2.only,
    fun _ _ _ _ _ m ⟨v, r, e, q⟩ => ⟨v, r, e, h1.mono _ _ _ _ _ (fun _ _ z => h2.mono _ _ _ _ _ m z) q⟩⟩
theorem gc_tup (K' : PySem.W.Frag) {es : List Expr} {k n : Nat} {t : TGs} {b : AGs} (hc : X.calm = true) (h : GCs wd X es vs t b) (hb : ∀ xs ρ Q, b xs ρ Q → xs.length = n) (hn : (assignEach es X.env).length = n := by rfl) (hst : (assignEach es X.env).findIdx? (·.1) = none := by rfl) (hK : X.K = K' := by rfl) : GC wd X (.Tuple es k pos) vs (L2.gTup K' n t) (aTup b) := by
  subst hK
  exact ⟨pg_tup hc h.pg hn hst, fun F0 F B ρ ω σ H v d Qa Q s r0 q k => by
    cases d <;> try exact q.elim
    case tup xs =>
      cases r0 with
      | tup h1 r1 => exact ⟨_, _, rfl, Same.seqT s.st.sB h1, r1.length.trans (hb _ _ _ q), h.rg F0 F B ρ ω σ H _ _ _ _ s r1 q k⟩,
    fun v σ H Q ⟨a, xs, e1, e2, e3, q⟩ => ⟨a, xs, e1, e2, e3, h.only _ _ _ _ q⟩, fun _ _ _ _ _ m ⟨a, xs, e1, e2, e3, q⟩ => ⟨a, xs, e1, e2, e3, h.mono _ _ _ _ _ m q⟩⟩
structure GTs (wd : Wd) (X : Cx) (W : WX) (ifs : List Expr) (g : AT wd) : Prop where
  ex : ∃ t, PTs X ifs t ∧ RT wd X.K W t g
theorem gts_nil : GTs wd X W [] gYes := ⟨_, pts_nil, fun F B ρ ω σ H Qa Ea Q hs he hg hk hx => hk _ _ _ _ (Same.refl _) hs hg⟩
theorem gts_one {c : Expr} {g : AT wd} (h : GT wd X W c g) : GTs wd X W [c] g := let ⟨_, p, r⟩ := h.ex; ⟨_, pts_one p, r⟩
/-- the blocks of X's comprehensions -/
abbrev Blk (X : Cx) (scope : Scope) (f : Cx → Prop) : Prop := ∀ (s : Shared) (H : Hp) (C : Addr) (cl : List (Str × Addr)) (fp : List Addr), f (X.blk s H scope (compEnvC scope cl C X.env) fp)
abbrev W0 : WX := fun _ _ _ _ => False
variable {scope : Scope}
theorem blk_ge {e : Expr} {g : AE wd} (h : Blk X scope fun Y => GE wd Y W0 e g) : ∃ t, (Blk X scope fun Y => PE Y e t) ∧ RE wd X.K W0 t g :=
  ⟨fun σ H Q => ∀ s H' C cl fp, Classical.choose (h s H' C cl fp).ex σ H Q, fun s H' C cl fp => ⟨fun pins s1 σ H1 Q I q => (Classical.choose_spec (h s H' C cl fp).ex).1.run pins s1 σ H1 Q I (q s H' C cl fp)⟩,
    fun F B ρ ω σ H Qa Ea Q hs he hg hk hx s H' C cl fp => (Classical.choose_spec (h s H' C cl fp).ex).2 F B ρ ω σ H Qa Ea Q hs he hg hk hx⟩
theorem blk_gt {ifs : List Expr} {g : AT wd} (h : Blk X scope fun Y => GTs wd Y W0 ifs g) : ∃ t, (Blk X scope fun Y => PTs Y ifs t) ∧ RT wd X.K W0 t g :=
  ⟨fun σ H Q => ∀ s H' C cl fp, Classical.choose (h s H' C cl fp).ex σ H Q, fun s H' C cl fp => ⟨fun pins s1 σ H1 Q I q => (Classical.choose_spec (h s H' C cl fp).ex).1.run pins s1 σ H1 Q I (q s H' C cl fp)⟩,
    fun F B ρ ω σ H Qa Ea Q hs he hg hk hx s H' C cl fp => (Classical.choose_spec (h s H' C cl fp).ex).2 F B ρ ω σ H Qa Ea Q hs he hg hk hx⟩
theorem Hst.popped {K : PySem.W.Frag} {F B H : Hp} {ω : wd.W} {p : Addr} {vs : List V} (hF : F p = none) (h : Hst wd K (upd F p (.lst vs)) B ω H) : ∃ H', H = upd H' p (.lst vs) ∧ H' p = none ∧ Hst wd K F B ω H' := by
  have hp : H p = some (.lst vs) := h.sF _ _ upd_same
  have nB : B p = none := h.dj _ _ upd_same
  have ne : ∀ q, wd.foot ω q → q ≠ p := fun q z e => by
    have := h.fw q z
    rw [e, upd_same] at this
    cases this
  refine ⟨fun q => if q = p then none else H q, ?_, if_pos rfl, ⟨fun q o e => ?_, fun q o e => ?_, fun q o e => ?_, fun q z => ?_, wd.mono h.wat (Same.refl _) (fun q z => if_neg (ne q z)) (fun q z => wd.free_ h.wat z)⟩⟩
  · funext q
    by_cases c : q = p
    · subst c
      rw [upd_same, hp]
    · rw [upd_ne c, if_neg c]
  · show (if q = p then none else H q) = some o
    rw [if_neg (ne_of_none e nB)]
    exact h.sB _ _ e
  · show (if q = p then none else H q) = some o
    rw [if_neg (ne_of_none e hF)]
    refine h.sF _ _ ?_
    rw [upd_ne (ne_of_none e hF)]
    exact e
  · refine h.dj q o ?_
    rw [upd_ne (ne_of_none e hF)]
    exact e
  · have := h.fw q z
    rw [upd_ne (ne q z)] at this
    exact this
variable {elt tg iter : Expr} {ifs : List Expr} {own : List (Str × Nat)} {t : TG} {a : AG} {gi gel : AE wd} {gt : AT wd}
theorem comp_end {F B : Hp} {Dl : Addr} {Qa : List D → wd.W → Prop} {Q : VK} {K : PySem.W.Frag} (hF : F Dl = none) (hk : KFOk wd K F B Qa Q) {Iv : Nat → List D → wd.W → Prop} {n : Nat} (hd : ∀ acc ω, Iv n acc ω → Qa acc ω) {H : Hp} (p : Cv wd K F B Dl Iv n H) : Q (.ref Dl) H := by
  obtain ⟨B', ω', accV, acc, m, st, r, iv⟩ := p
  obtain ⟨H', e, h0, st'⟩ := st.popped hF
  rw [e]
  exact hk _ _ _ _ _ _ m st' h0 r (hd _ _ iv)
theorem gf_comp (hc : X.calm = true) (hN : X.N.Nodup) (he : GE wd X W iter gi) (ok : BlkOk X.N X.env.scope scope own) (hg : Blk X scope fun Y => GC wd Y tg (own.map (·.2)) t a) (ht : Blk X scope fun Y => GTs wd Y W0 ifs gt) (hel : Blk X scope fun Y => GE wd Y W0 elt gel)
    (hs : ∀ x, foldedSetIterable iter X.env x = pure x := by intro _; rfl) : GF wd X W (.ListComp elt [⟨tg, iter, ifs, 0⟩] scope pos) (gComp gi a gt gel (own.map (·.2))) := by
  obtain ⟨ti, pi, ri⟩ := he.ex
  obtain ⟨tt, pt, rt⟩ := blk_gt ht
  obtain ⟨te, pe, re⟩ := blk_ge hel
  have rg : RG wd X.K t a := (hg X.s_0 (fun _ => none) 0 [] []).rg
  have ro : Only (own.map (·.2)) t := (hg X.s_0 (fun _ => none) 0 [] []).only
  refine ⟨_, pe_lc hc hN (pi_seq pi) ok (fun s H C cl fp => (hg s H C cl fp).pg) pt pe hs, fun F B ρ ω σ H Qa Ea Q hst henv q hk hx => ri F B ρ ω σ H _ _ _ hst henv q (fun B1 ω1 H1 v1 d1 s1 hs1 r1 g1 => ?_) hx⟩
  have hk1 : KFOk wd X.K F B1 Qa Q := fun B2 ω2 H2 p vs ds m => hk B2 ω2 H2 p vs ds (s1.trans m)
  have first : ∀ {Dl : Addr}, H1 Dl = none → Hst wd X.K (upd F Dl (.lst [])) B1 ω1 (upd H1 Dl (.lst [])) := fun hD => hs1.owned hD
  cases d1 <;> try exact g1.elim
  case tup xs =>
    obtain ⟨Iv, h0, hstep, hd⟩ := g1
    cases r1 with
    | tup h1 r1 =>
      refine ⟨_, rfl, .inr ⟨⟨_, Same.seqT hs1.sB h1⟩, fun Dl hD => ?_⟩⟩
      have hF := hs1.sF.free hD
      refine lc_tup (Cv wd X.K F B1 Dl Iv) ⟨B1, ω1, [], [], Same.refl _, first hD, .nil, h0⟩ (fun i H _ ⟨B', ω', accV, acc, m, st, _, _⟩ => Same.seqT (m.trans st.sB) h1) (fun i x H hx2 p => ?_) fun H p => comp_end hF hk1 hd (by rw [r1.length] at p; exact p)
      have hi : i < xs.length := by
        rw [← r1.length]
        exact (List.getElem?_eq_some_iff.mp hx2).1
      have hdd := List.getElem?_eq_getElem hi
      obtain ⟨v, e1, e2⟩ := r1.get hdd
      rw [hx2] at e1
      cases e1
      obtain ⟨B', ω', accV, acc, m, st, ra, iv⟩ := p
      exact comp_turn hF (henv.mono s1) rg ro rt re hstep hdd ⟨B', ω', accV, acc, m, st, ra, e2.mono m, iv⟩
  case lst xs =>
    obtain ⟨Iv, h0, hstep, hd⟩ := g1
    cases r1 with
    | lst h1 r1 =>
      refine ⟨_, rfl, .inl ⟨⟨_, SqL.of (hs1.sB _ _ h1)⟩, fun Dl hD => ?_⟩⟩
      have hF := hs1.sF.free hD
      refine lc_list (Cv wd X.K F B1 Dl Iv) ⟨B1, ω1, [], [], Same.refl _, first hD, .nil, h0⟩ (fun i H _ ⟨B', ω', accV, acc, m, st, _, _⟩ => SqL.of ((m.trans st.sB) _ _ h1)) (fun i x H hx2 p => ?_) fun H p => comp_end hF hk1 hd (by rw [r1.length] at p; exact p)
      have hi : i < xs.length := by
        rw [← r1.length]
        exact (List.getElem?_eq_some_iff.mp hx2).1
      have hdd := List.getElem?_eq_getElem hi
      obtain ⟨v, e1, e2⟩ := r1.get hdd
      rw [hx2] at e1
      cases e1
      obtain ⟨B', ω', accV, acc, m, st, ra, iv⟩ := p
      exact comp_turn hF (henv.mono s1) rg ro rt re hstep hdd ⟨B', ω', accV, acc, m, st, ra, e2.mono m, iv⟩
theorem gf_compR {p p2 : Pos} (hc : X.calm = true) (hN : X.N.Nodup) (hm : X.mg "range" = none) (he : GE wd X W iter gi) (ok : BlkOk X.N X.env.scope scope own) (hg : Blk X scope fun Y => GC wd Y tg (own.map (·.2)) t a) (ht : Blk X scope fun Y => GTs wd Y W0 ifs gt) (hel : Blk X scope fun Y => GE wd Y W0 elt gel)
    (hgr : Gl X "range" := by rfl) (hst : starEach [iter] X.env = [(false, eval iter X.env)] := by rfl) (hs : ∀ x, foldedSetIterable (.Call (.Name "range" p) [iter] [] p2) X.env x = pure x := by intro _; rfl) : GF wd X W (.ListComp elt [⟨tg, .Call (.Name "range" p) [iter] [] p2, ifs, 0⟩] scope pos) (gCompR gi a gt gel (own.map (·.2))) := by
  obtain ⟨ti, pi, ri⟩ := he.ex
  obtain ⟨tt, pt, rt⟩ := blk_gt ht
  obtain ⟨te, pe, re⟩ := blk_ge hel
  have rg : RG wd X.K t a := (hg X.s_0 (fun _ => none) 0 [] []).rg
  have ro : Only (own.map (·.2)) t := (hg X.s_0 (fun _ => none) 0 [] []).only
  refine ⟨_, pe_lc hc hN (pi_range1 hgr hm (pa_cons pi pa_nil hst) hst) ok (fun s H C cl fp => (hg s H C cl fp).pg) pt pe hs, fun F B ρ ω σ H Qa Ea Q hst henv q hk hx => ri F B ρ ω σ H _ _ _ hst henv q (fun B1 ω1 H1 v1 d1 s1 hs1 r1 g1 => ?_) hx⟩
  have hk1 : KFOk wd X.K F B1 Qa Q := fun B2 ω2 H2 p vs ds m => hk B2 ω2 H2 p vs ds (s1.trans m)
  cases d1 <;> try exact g1.elim
  case int n =>
    obtain ⟨b1, b2, Iv, h0, hstep, hd⟩ := g1
    cases r1
    refine ⟨n, rfl, b1, b2, fun Dl hD => ?_⟩
    have hF := hs1.sF.free hD
    refine lc_range (Cv wd X.K F B1 Dl Iv) ⟨B1, ω1, [], [], Same.refl _, hs1.owned hD, .nil, h0⟩ (fun i H hi p => ?_) fun H p => comp_end hF hk1 hd (by rw [rng_len]; exact p)
    obtain ⟨B', ω', accV, acc, m, st, ra, iv⟩ := p
    exact comp_turn hF (henv.mono s1) rg ro rt re hstep (rng_at hi) ⟨B', ω', accV, acc, m, st, ra, .int _, iv⟩
end
end MR
namespace MR
open PySem PySem.Spec L2
section
variable {wd : Wd} {X : Cx} {W : WX} {pos : Pos} {e ek : Expr} {ge gk : AE wd} {K : PySem.W.Frag}
theorem ge_glob {x : Str} {v : V} {u : Value} {d : D} (hm : X.mg x = some u) (r : RelV v u) (hd : ∀ B, Rep X.K B v d) (hg : Gl X x := by rfl) (hdb : (x == ("__debug__" : Str)) = false := by decide) : GE wd X W (.Name x pos) (gC d) := ⟨_, pe_glob hg hm r hdb, re_c hd⟩
def mInt (mg : Str → Option Value) (x : Str) (i : Int) : Prop := ∃ t, mg x = some (.int i t)
theorem ge_gint {x : Str} {i : Int} (hm : mInt X.mg x i) (hg : Gl X x := by rfl) (hdb : (x == ("__debug__" : Str)) = false := by decide) : GE wd X W (.Name x pos) (gC (.int i)) := let ⟨_, h⟩ := hm; ge_glob (v := .int i) h ⟨_, rfl⟩ (fun _ => .int i) hg hdb
/-- len of a list that is read -/
def gLenL (g : AA wd) : AE wd := fun ρ ω Q E => g ρ ω (fun l ω1 => Q (.int l.length) ω1) E
theorem set_same {σ : St} {i : Nat} {v : V} (h : σ[i]? = some (some v)) : σ.set i (some v) = σ := by
  refine List.ext_getElem? fun j => ?_
  by_cases c : i = j
  · subst c
    rw [h, List.getElem?_set_self (List.getElem?_eq_some_iff.mp h).1]
  · rw [List.getElem?_set_ne c]
/-- x[k] = e, x an own list -/
theorem gs_put (i : Nat) {x : Str} {p1 p2 : Pos} (he : GE wd X W e ge) (hk : GE wd X W ek gk) (hi : X.N[i]? = some x := by rfl) (hv : Vis X.env.scope x := by first | exact Or.inl rfl | exact Or.inr (Or.inl rfl) | exact Or.inr (Or.inr rfl)) (hd : (x == ("__debug__" : Str)) = false := by decide) (hcd : (x == ("__classdict__" : Str)) = false := by decide)
    (hs : swapsWithSole [.Subscript (.Name x p1) ek p2] e pos.line X.env = pure false := by rfl) (hw : swappedStores [.Subscript (.Name x p1) ek p2] e X.env = pure none := by rfl) (h1 : (assignEach [.Subscript (.Name x p1) ek p2] X.env).map (·.2) = [assign (.Subscript (.Name x p1) ek p2) X.env] := by rfl)
    (ha : ∀ v, assign (.Subscript (.Name x p1) ek p2) X.env v = (do
      let ov ← holding [v] (eval (.Name x p1) X.env)
      let iv ← holding [v, ov] (eval ek X.env)
      standAt p2
      holding [v, ov, iv] (setItem ov iv v)
      release [v, ov, iv] []) := by intro _; rfl) : GS wd X W (.Assign [.Subscript (.Name x p1) ek p2] e pos) (sPut i gk ge) := by
  obtain ⟨t, pe, r⟩ := he.ex
  obtain ⟨tk, pk, rk⟩ := hk.ex
  refine ⟨_, ps_asg pe (pg_sub (pe_var hi hv hd hcd) pk set_list ha) hs hw h1, fun F0 F B ρ ω σ H Da E s q k => ?_⟩
  unfold sPut at q
  cases en : ρ[i]? with
  | none => simp only [en] at q
  | some o =>
    cases o with
    | none => simp only [en] at q
    | some y =>
      cases y with
      | d x => simp only [en] at q
      | own l =>
        simp only [en] at q
        obtain ⟨p, vs, a, b, c⟩ := s.env.ent i _ en
        refine r F B ρ ω σ H _ _ _ s.st s.env q (fun B1 ω1 H1 v1 d1 s1 hs1 r1 g1 => ⟨.ref p, a, rk F B1 ρ ω1 σ H1 _ _ _ hs1 (s.env.mono s1) g1 (fun B2 ω2 H2 v2 d2 s2 hs2 r2 g2 => ?_) ((k.xok s).mono s1)⟩) (k.xok s)
        cases d2 <;> try exact g2.elim
        case int z =>
          cases r2
          simp only at g2
          have m := s1.trans s2
          have hl := c.length
          cases ej : ixN l.length z with
          | none => simp only [ej] at g2
          | some j =>
            simp only [ej] at g2
            refine ⟨p, vs, z, j, rfl, rfl, hs2.sF _ _ b, by rw [hl]; exact ej, ?_⟩
            have z2 := (s.up m hs2).setOwn i (hs2.wrote (ws := vs.set j v1) b) (RepAll.set (r1.mono s2) j (c.mono m)) (s.own i l p en a) fun j l' h1 h2 => s.env.dist j i l' l p h1 en h2 a
            rw [set_same a] at z2
            exact k.nx m z2 g2
/-- x.extend(e), x an own list -/
def sExt (i : Nat) (g : AA wd) : AS wd := fun Da ρ ω => match ρ[i]? with
  | some (some (.own l)) => g ρ ω (fun ys ω' => l.length + ys.length ≤ sizeLine ∧ Da.nx (ρ.set i (some (.own (l ++ ys)))) ω') (fun x ω' => Da.ex x ρ ω')
  | _ => False
end
structure DW where
  scr : Option (Addr × List Int)
  dk : Option (Addr × Addr × List Int × Int × Int)
def DWd : Wd where
  W := DW
  foot := fun ω a => ∃ p c cs s t, ω.dk = some (p, c, cs, s, t) ∧ (a = p ∨ a = c)
  holds := fun K ω B H => (∀ a ns, ω.scr = some (a, ns) → SqL K B a (ns.map V.int)) ∧
    ∀ p c cs s t, ω.dk = some (p, c, cs, s, t) → p ≠ c ∧ B p = none ∧ B c = none ∧ H p = some (.lst [.ref c, .int s, .int t]) ∧ H c = some (.lst (cs.map V.int))
  some_ := fun {K ω B H a} h ⟨p, c, cs, s, t, e, z⟩ => by
    obtain ⟨_, _, _, h1, h2⟩ := h.2 p c cs s t e
    rcases z with z | z
    · rw [z, h1]; intro q; cases q
    · rw [z, h2]; intro q; cases q
  free_ := fun {K ω B H a} h ⟨p, c, cs, s, t, e, z⟩ => by
    obtain ⟨_, h1, h2, _, _⟩ := h.2 p c cs s t e
    rcases z with z | z
    · rw [z]; exact h1
    · rw [z]; exact h2
  mono := fun {K ω B H B' H'} h m hH hB => ⟨fun a ns e => m.seq (h.1 a ns e), fun p c cs s t e => by
    obtain ⟨h0, h1, h2, h3, h4⟩ := h.2 p c cs s t e
    exact ⟨h0, hB p ⟨p, c, cs, s, t, e, .inl rfl⟩, hB c ⟨p, c, cs, s, t, e, .inr rfl⟩, by rw [hH p ⟨p, c, cs, s, t, e, .inl rfl⟩]; exact h3, by rw [hH c ⟨p, c, cs, s, t, e, .inr rfl⟩]; exact h4⟩⟩
/-- a deck stands at p that was drawn from at most T times -/
def Dk (ω : DW) (p : Addr) (T : Int) : Prop := ∃ c cs s t, ω.dk = some (p, c, cs, s, t) ∧ 0 ≤ t ∧ t ≤ T ∧ cs.length ≤ 63
theorem Dk.le {ω : DW} {p : Addr} {T T' : Int} (h : Dk ω p T) (l : T ≤ T') : Dk ω p T' := let ⟨c, cs, s, t, e, h1, h2, h3⟩ := h; ⟨c, cs, s, t, e, h1, Int.le_trans h2 l, h3⟩
/-- the world's own cells have changed -/
theorem Hst.world {wd : Wd} {K : PySem.W.Frag} {F B H H' : Hp} {ω ω' : wd.W} (h : Hst wd K F B ω H) (k : ∀ a, ¬ wd.foot ω a → H' a = H a) (hf : ∀ a, wd.foot ω' a → wd.foot ω a) (hw : wd.holds K ω' B H') : Hst wd K F B ω' H' := by
  refine ⟨fun a o e => ?_, fun a o e => ?_, h.dj, fun a z => h.fw a (hf a z), hw⟩
  · rw [k a]
    · exact h.sB _ _ e
    · intro z
      rw [wd.free_ h.wat z] at e
      cases e
  · rw [k a]
    · exact h.sF _ _ e
    · intro z
      rw [h.fw a z] at e
      cases e
end MR
namespace MR
open PySem PySem.Spec L2
theorem DW.at_ {K : PySem.W.Frag} {F B H : Hp} {ω : DW} {p c : Addr} {cs : List Int} {s t : Int} (h : Hst DWd K F B ω H) (e : ω.dk = some (p, c, cs, s, t)) : p ≠ c ∧ H p = some (.lst [.ref c, .int s, .int t]) ∧ H c = some (.lst (cs.map V.int)) :=
  let z := h.wat.2 p c cs s t e; ⟨z.1, z.2.2.2.1, z.2.2.2.2⟩
/-- the deck's own cells are stored anew -/
theorem DW.wrote {K : PySem.W.Frag} {F B H : Hp} {ω : DW} {p c : Addr} {cs : List Int} {s t : Int} (h : Hst DWd K F B ω H) (e : ω.dk = some (p, c, cs, s, t)) (cs' : List Int) (t' : Int) :
    Hst DWd K F B { ω with dk := some (p, c, cs', s, t') } (upd (upd H p (.lst [.ref c, .int s, .int t'])) c (.lst (cs'.map V.int))) := by
  obtain ⟨n, b1, b2, _, _⟩ := h.wat.2 p c cs s t e
  refine h.world (fun a na => ?_) (fun a ⟨p', c', cs2, s2, t2, e2, z⟩ => ?_) ⟨h.wat.1, fun p' c' cs2 s2 t2 e2 => ?_⟩
  · have n1 : a ≠ p := fun z => na ⟨p, c, cs, s, t, e, .inl z⟩
    have n2 : a ≠ c := fun z => na ⟨p, c, cs, s, t, e, .inr z⟩
    rw [upd_ne n2, upd_ne n1]
  · cases e2
    exact ⟨p, c, cs, s, t, e, z⟩
  · cases e2
    exact ⟨n, b1, b2, by rw [upd_ne n, upd_same], upd_same⟩
theorem upd_id {H : Hp} {p : Addr} {o : HO} (h : H p = some o) : upd H p o = H := by
  funext a
  by_cases c : a = p
  · subst c
    rw [upd_same, h]
  · rw [upd_ne c]
theorem dp_ints {K : PySem.W.Frag} {H : Hp} : ∀ cs : List Int, DpAll K H (cs.map V.int) (cs.map PyData.int)
  | [] => .nil
  | c :: cs => .cons (.int c) (dp_ints cs)
theorem lay_ints : ∀ cs : List Int, PyData.canLayAll0 (cs.map PyData.int) = true
  | [] => by rw [List.map_nil, PyData.canLayAll0]
  | c :: cs => by rw [List.map_cons, PyData.canLayAll0, lay_ints cs, PyData.canLay0]; rfl
theorem depth_ints : ∀ cs : List Int, PyData.depthAll (cs.map PyData.int) ≤ 1
  | [] => by rw [List.map_nil, PyData.depthAll]; omega
  | c :: cs => by
    have ih := depth_ints cs
    rw [List.map_cons, PyData.depthAll, PyData.depth]
    omega
theorem shaped_ints (cs : List Int) : SeqAt.shaped (.list (cs.map PyData.int)) = true := by
  have h := depth_ints cs
  unfold SeqAt.shaped
  rw [PyData.canLay0, lay_ints, PyData.depth, Bool.true_and, decide_eq_true_eq]
  omega
theorem eqv_nil (cs : List Int) : PyData.eqv (.list (cs.map PyData.int)) (.list []) = cs.isEmpty := by
  cases cs with
  | nil => decide
  | cons c cs => simp [PyData.eqv, PyData.eqvAll]
section
variable {X : Cx} {W : WX}
/-- where the deck stands -/
def At (ρ : AEnv) (i : Nat) (ω : DW) (p c : Addr) (cs : List Int) (s t : Int) : Prop := ρ[i]? = some (some (.d (.adr p))) ∧ ω.dk = some (p, c, cs, s, t)
theorem At.slot {K : PySem.W.Frag} {F B : Hp} {ρ : AEnv} {σ : St} {ω : DW} {i : Nat} {p c : Addr} {cs : List Int} {s t : Int} (h : At ρ i ω p c cs s t) (he : EnvOk K F B ρ σ) : σ[i]? = some (some (.ref p)) := by
  obtain ⟨v, a, r⟩ := he.ent i _ h.1
  cases r
  exact a
def gDkT (i : Nat) : AE DWd := fun ρ ω Q _ => ∃ p c cs s t, At ρ i ω p c cs s t ∧ Q (.int t) ω
def gDkS (i : Nat) : AE DWd := fun ρ ω Q _ => ∃ p c cs s t, At ρ i ω p c cs s t ∧ Q (.int s) ω
def gDkNe (i : Nat) : AT DWd := fun ρ ω Q _ => ∃ p c cs s t, At ρ i ω p c cs s t ∧ Q (!cs.isEmpty) ω
def gDkPop (i : Nat) : AE DWd := fun ρ ω Q _ => ∃ p c cs x s t, At ρ i ω p c (cs ++ [x]) s t ∧ Q (.int x) { ω with dk := some (p, c, cs, s, t) }
def sDkApp (i : Nat) (g : AE DWd) : AS DWd := fun Da ρ ω => ∃ p c cs s t, At ρ i ω p c cs s t ∧ g ρ ω (fun y ω1 => ω1 = ω ∧ ∃ x, y = .int x ∧ cs.length < sizeLine ∧ Da.nx ρ { ω with dk := some (p, c, cs ++ [x], s, t) }) (fun x ω' => Da.ex x ρ ω')
def sDkPut (i : Nat) (g : AE DWd) : AS DWd := fun Da ρ ω => ∃ p c cs s t, At ρ i ω p c cs s t ∧ g ρ ω (fun y ω1 => ω1 = ω ∧ ∃ x, y = .int x ∧ Da.nx ρ { ω with dk := some (p, c, cs, s, x) }) (fun x ω' => Da.ex x ρ ω')
variable (i : Nat) {x : Str} {p1 p2 p3 pos : Pos} {k : Nat}
theorem ge_dkT (hN : X.N[i]? = some x := by rfl) (hv : Vis X.env.scope x := by first | exact Or.inl rfl | exact Or.inr (Or.inl rfl) | exact Or.inr (Or.inr rfl)) (hd : (x == ("__debug__" : Str)) = false := by decide) (hcd : (x == ("__classdict__" : Str)) = false := by decide) :
    GE DWd X W (.Subscript (.Name x p1) (.Constant (.int 2) k p2) pos) (gDkT i) :=
  ⟨_, pe_ix ix_seq (pe_var hN hv hd hcd) pe_int (fun _ _ => rfl), fun F B ρ ω σ H Qa Ea Q hs he hg hk hx => by
    obtain ⟨p, c, cs, s, t, a, q⟩ := hg
    obtain ⟨n, h1, h2⟩ := DW.at_ hs a.2
    exact ⟨.ref p, a.slot he, .inl ⟨p, _, 2, .int t, rfl, rfl, SqL.of h1, rfl, ro_same hs (.int _) q hk⟩⟩⟩
theorem ge_dkS (hN : X.N[i]? = some x := by rfl) (hv : Vis X.env.scope x := by first | exact Or.inl rfl | exact Or.inr (Or.inl rfl) | exact Or.inr (Or.inr rfl)) (hd : (x == ("__debug__" : Str)) = false := by decide) (hcd : (x == ("__classdict__" : Str)) = false := by decide) :
    GE DWd X W (.Subscript (.Name x p1) (.Constant (.int 1) k p2) pos) (gDkS i) :=
  ⟨_, pe_ix ix_seq (pe_var hN hv hd hcd) pe_int (fun _ _ => rfl), fun F B ρ ω σ H Qa Ea Q hs he hg hk hx => by
    obtain ⟨p, c, cs, s, t, a, q⟩ := hg
    obtain ⟨n, h1, h2⟩ := DW.at_ hs a.2
    exact ⟨.ref p, a.slot he, .inl ⟨p, _, 1, .int s, rfl, rfl, SqL.of h1, rfl, ro_same hs (.int _) q hk⟩⟩⟩
theorem gt_dkNe (hu : X.A.units + 64 < cLine) (hN : X.N[i]? = some x := by rfl) (hv : Vis X.env.scope x := by first | exact Or.inl rfl | exact Or.inr (Or.inl rfl) | exact Or.inr (Or.inr rfl)) (hd : (x == ("__debug__" : Str)) = false := by decide) (hcd : (x == ("__classdict__" : Str)) = false := by decide) :
    GT DWd X W (.Compare (.Subscript (.Name x p1) (.Constant (.int 0) k p2) p3) [.NotEq] [.List [] pos] pos') (gDkNe i) :=
  ⟨_, pt_cmpR (op_neD hu) (pe_ix ix_seq (pe_var hN hv hd hcd) pe_int (fun _ _ => rfl)) (pe_lst pa_nil) (nomark _), fun F B ρ ω σ H Qa Ea Q hs he hg hk hx => by
    obtain ⟨p, c, cs, s, t, a, q⟩ := hg
    obtain ⟨n, h1, h2⟩ := DW.at_ hs a.2
    refine ⟨.ref p, a.slot he, .inl ⟨p, _, 0, .ref c, rfl, rfl, SqL.of h1, rfl, (by show 0 ≤ sizeLine; decide), fun z hz => ?_⟩⟩
    obtain ⟨s1, hs1⟩ := hs.new (o := .lst []) hz
    have nc : c ≠ z := fun e => by
      rw [e] at h2
      rw [h2] at hz
      cases hz
    refine ⟨.list (cs.map PyData.int), .list [], .lst (SqL.of (by rw [upd_ne nc]; exact h2)) (dp_ints cs), .lst (SqL.of upd_same) .nil, shaped_ints cs, rfl, ?_⟩
    rw [eqv_nil]
    exact ⟨_, rfl, hk _ _ _ _ s1 hs1 q⟩⟩
theorem ge_dkPop {pa : Pos} (hN : X.N[i]? = some x := by rfl) (hv : Vis X.env.scope x := by first | exact Or.inl rfl | exact Or.inr (Or.inl rfl) | exact Or.inr (Or.inr rfl)) (hd : (x == ("__debug__" : Str)) = false := by decide) (hcd : (x == ("__classdict__" : Str)) = false := by decide)
    (hbase : attributeBase (.Subscript (.Name x p1) (.Constant (.int 0) k p2) p3) "pop" X.env (eval (.Subscript (.Name x p1) (.Constant (.int 0) k p2) p3) X.env) = eval (.Subscript (.Name x p1) (.Constant (.int 0) k p2) p3) X.env := by rfl) (hline : (pa.endLine == pos.line) = true := by rfl) :
    GE DWd X W (.Call (.Attribute (.Subscript (.Name x p1) (.Constant (.int 0) k p2) p3) "pop" pa) [] [] pos) (gDkPop i) := by
  have hp := pe_bm0 PySem.F.plainAttrs_list PySem.F.slot_list_pop PySem.F.type_list_pop mt_pop (pe_ix ix_seq (pe_var hN hv hd hcd) pe_int (fun _ _ => rfl)) hbase hline
  refine ⟨_, hp, fun F B ρ ω σ H Qa Ea Q hs he hg hk hx => ?_⟩
  obtain ⟨p, c, cs, y, s, t, a, q⟩ := hg
  obtain ⟨n, h1, h2⟩ := DW.at_ hs a.2
  refine ⟨.ref p, a.slot he, .inl ⟨p, _, 0, .ref c, rfl, rfl, SqL.of h1, rfl, .inl ⟨rfl, _, SqL.of h2⟩, c, (cs ++ [y]).map V.int, .int y, rfl, rfl, h2, ?_, ?_⟩⟩
  · simp
  · have w := DW.wrote hs a.2 cs t
    rw [upd_id h1] at w
    have e : ((cs ++ [y]).map V.int).dropLast = cs.map V.int := by simp
    rw [e]
    exact hk _ _ _ _ _ (Same.refl _) w (.int _) q
theorem gs_dkApp {pa pe : Pos} {e : Expr} {ge : AE DWd} (he : GE DWd X W e ge) (hN : X.N[i]? = some x := by rfl) (hv : Vis X.env.scope x := by first | exact Or.inl rfl | exact Or.inr (Or.inl rfl) | exact Or.inr (Or.inr rfl)) (hd : (x == ("__debug__" : Str)) = false := by decide) (hcd : (x == ("__classdict__" : Str)) = false := by decide)
    (hst : starEach [e] X.env = (false, eval e X.env) :: starEach [] X.env := by rfl) (hs : swapsWith (.Call (.Attribute (.Subscript (.Name x p1) (.Constant (.int 0) k p2) p3) "append" pa) [e] [] pos) none pe.line X.env = pure false := by rfl)
    (hbase : attributeBase (.Subscript (.Name x p1) (.Constant (.int 0) k p2) p3) "append" X.env (eval (.Subscript (.Name x p1) (.Constant (.int 0) k p2) p3) X.env) = eval (.Subscript (.Name x p1) (.Constant (.int 0) k p2) p3) X.env := by rfl) (hfew : ((backTo pos (starEach [e] X.env)).all (fun x => !x.1) && (backToKw pos (keywordEach [] X.env)).all (fun x => x.1.isSome) && decide (([e] : List Expr).length + ([] : List Keyword).length + (if ([] : List Keyword).isEmpty then 0 else 1) < 30)) = true := by rfl)
    (hline : (pa.endLine == pos.line) = true := by rfl) (hplain : (backTo pos (starEach [] X.env)).any (·.1) = false := by rfl) :
    GS DWd X W (.Expr (.Call (.Attribute (.Subscript (.Name x p1) (.Constant (.int 0) k p2) p3) "append" pa) [e] [] pos) pe) (sDkApp i ge) := by
  have hp := pe_bm PySem.F.plainAttrs_list PySem.F.slot_list_append PySem.F.type_list_append mt_append (pe_ix ix_seq (pe_var hN hv hd hcd) pe_int (fun _ _ => rfl)) (pa_cons (Classical.choose_spec he.ex).1 pa_nil hst) hbase hfew hline hst hplain
  refine ⟨_, ps_expr hp hs, fun F0 F B ρ ω σ H Da E s q kk => ?_⟩
  have r := (Classical.choose_spec he.ex).2
  obtain ⟨p, c, cs, sd, t, a, q⟩ := q
  obtain ⟨n, h1, h2⟩ := DW.at_ s.st a.2
  refine ⟨.ref p, a.slot s.env, .inl ⟨p, _, 0, .ref c, rfl, rfl, SqL.of h1, rfl, .inl ⟨rfl, _, SqL.of h2⟩, r F B ρ ω σ H _ _ _ s.st s.env q (fun B1 ω1 H1 v1 d1 s1 hs1 r1 g1 => ?_) (kk.xok s)⟩⟩
  obtain ⟨rfl, y, rfl, hz, nx⟩ := g1
  cases r1
  obtain ⟨n, h1, h2⟩ := DW.at_ hs1 a.2
  refine ⟨c, cs.map V.int, .int y, rfl, rfl, h2, by simpa using hz, ?_⟩
  have w := DW.wrote hs1 a.2 (cs ++ [y]) t
  rw [upd_id h1, List.map_append] at w
  exact kk.nx s1 (s.up s1 w) nx
theorem gs_dkPut {e : Expr} {ge : AE DWd} {pe : Pos} (he : GE DWd X W e ge) (hN : X.N[i]? = some x := by rfl) (hv : Vis X.env.scope x := by first | exact Or.inl rfl | exact Or.inr (Or.inl rfl) | exact Or.inr (Or.inr rfl)) (hd : (x == ("__debug__" : Str)) = false := by decide) (hcd : (x == ("__classdict__" : Str)) = false := by decide)
    (hs : swapsWithSole [.Subscript (.Name x p1) (.Constant (.int 2) k p2) p3] e pe.line X.env = pure false := by rfl) (hw : swappedStores [.Subscript (.Name x p1) (.Constant (.int 2) k p2) p3] e X.env = pure none := by rfl) (h1 : (assignEach [.Subscript (.Name x p1) (.Constant (.int 2) k p2) p3] X.env).map (·.2) = [assign (.Subscript (.Name x p1) (.Constant (.int 2) k p2) p3) X.env] := by rfl)
    (ha : ∀ v, assign (.Subscript (.Name x p1) (.Constant (.int 2) k p2) p3) X.env v = (do
      let ov ← holding [v] (eval (.Name x p1) X.env)
      let iv ← holding [v, ov] (eval (.Constant (.int 2) k p2) X.env)
      standAt p3
      holding [v, ov, iv] (setItem ov iv v)
      release [v, ov, iv] []) := by intro _; rfl) :
    GS DWd X W (.Assign [.Subscript (.Name x p1) (.Constant (.int 2) k p2) p3] e pe) (sDkPut i ge) := by
  obtain ⟨t, p0, r⟩ := he.ex
  refine ⟨_, ps_asg p0 (pg_sub (pe_var hN hv hd hcd) pe_int set_list ha) hs hw h1, fun F0 F B ρ ω σ H Da E s q kk => ?_⟩
  obtain ⟨p, c, cs, sd, t0, a, q⟩ := q
  refine r F B ρ ω σ H _ _ _ s.st s.env q (fun B1 ω1 H1 v1 d1 s1 hs1 r1 g1 => ?_) (kk.xok s)
  obtain ⟨rfl, y, rfl, nx⟩ := g1
  cases r1
  obtain ⟨n, h1, h2⟩ := DW.at_ hs1 a.2
  refine ⟨.ref p, a.slot s.env, p, _, 2, 2, rfl, rfl, h1, rfl, ?_⟩
  have w := DW.wrote hs1 a.2 cs y
  rw [upd_id (by rw [upd_ne n.symm]; exact h2)] at w
  exact kk.nx s1 (s.up s1 w) nx
/-- a slice of the script -/
def gScr (i : Nat) (hi : Int) : AA DWd := fun ρ ω Q _ => ∃ a ns, ρ[i]? = some (some (.d (.adr a))) ∧ ω.scr = some (a, ns) ∧ Q (cutD (ns.map D.int) none (some hi)) ω
theorem gf_scr {hi : Int} {p4 : Pos} (hN : X.N[i]? = some x := by rfl) (hv : Vis X.env.scope x := by first | exact Or.inl rfl | exact Or.inr (Or.inl rfl) | exact Or.inr (Or.inr rfl)) (hd : (x == ("__debug__" : Str)) = false := by decide) (hcd : (x == ("__classdict__" : Str)) = false := by decide) :
    GF DWd X W (.Subscript (.Name x p1) (.Slice none (some (.Constant (.int hi) k p2)) none p3) p4) (gScr i hi) :=
  ⟨_, pe_slice sl_list (pe_var hN hv hd hcd) po_none (po_some pe_int), fun F B ρ ω σ H Qa Ea Q hs he hg hk hx => by
    obtain ⟨a, ns, e1, e2, q⟩ := hg
    obtain ⟨v, b, r⟩ := he.ent i _ e1
    cases r
    have hq : SqL X.K H a (ns.map V.int) := hs.sB.seq (hs.wat.1 a ns e2)
    exact ⟨.ref a, b, hi, rfl, a, _, rfl, hq, fun p hp => hk _ _ _ p _ _ (Same.refl _) hs hp (cut_rep RepAll.ints none (some hi)) q⟩⟩
theorem gf_list {e : Expr} {g : AA DWd} (hm : X.mg "list" = none) (h : GL DWd X W e g) (hg : Gl X "list" := by rfl) (hst : starEach [e] X.env = (false, eval e X.env) :: starEach [] X.env := by rfl) (hpl : (backTo pos (starEach [] X.env)).any (·.1) = false := by rfl) :
    GF DWd X W (.Call (.Name "list" p1) [e] [] pos) g := by
  obtain ⟨t, pe, r⟩ := h.ex
  refine ⟨_, pe_callTy call_list_of hg hm (by decide +kernel) (pa_cons pe pa_nil hst) (by decide) (by decide) hst hpl, fun F B ρ ω σ H Qa Ea Q hs he hg hk hx => r F B ρ ω σ H _ _ _ hs he hg (fun B1 ω1 H1 p vs ds s1 hs1 l1 r1 g1 => ?_) hx⟩
  exact ⟨p, vs, rfl, .inl (SqL.of (hs1.lst l1)), fun l hl => hk _ _ _ l _ _ s1 hs1 hl r1 g1⟩
/-- a list that is read, the other way about: a new one -/
theorem gf_rev {e : Expr} {g : AA DWd} {q1 q2 q3 : Pos} (h : GL DWd X W e g) : GF DWd X W (.Subscript e (.Slice none none (some (.UnaryOp .USub (.Constant (.int 1) k q1) q2)) q3) pos) (fun ρ ω Q E => g ρ ω (fun l ω1 => Q l.reverse ω1) E) := by
  obtain ⟨t, pe, r⟩ := h.ex
  refine ⟨_, pe_rev pe, fun F B ρ ω σ H Qa Ea Q hs he hg hk hx => r F B ρ ω σ H _ _ _ hs he hg (fun B1 ω1 H1 p vs ds s1 hs1 l1 r1 g1 => ?_) hx⟩
  exact ⟨p, vs, rfl, .inr ⟨SqL.of (hs1.lst l1), fun l hl => hk _ _ _ l _ _ s1 hs1 hl r1.reverse g1⟩⟩
def sDeck (g1 : AA DWd) (g2 g3 : AE DWd) : AS DWd := fun Da ρ ω => ω.dk = none ∧ g1 ρ ω (fun l ω1 => ω1 = ω ∧ ∃ cs : List Int, l = cs.map D.int ∧ g2 ρ ω (fun d2 ω2 => ω2 = ω ∧ ∃ s, d2 = .int s ∧ g3 ρ ω (fun d3 ω3 => ω3 = ω ∧ ∃ t, d3 = .int t ∧
  ∀ p c, Da.rt (.adr p) { ω with dk := some (p, c, cs, s, t) }) (fun _ _ => False)) (fun _ _ => False)) (fun _ _ => False)
theorem EnvOk.upF {K : PySem.W.Frag} {F F' B : Hp} {ρ : AEnv} {σ : St} (h : EnvOk K F B ρ σ) (m : Same F F') : EnvOk K F' B ρ σ := ⟨h.len, fun i e q => by
  have z := h.ent i e q
  cases e with
  | d x => exact z
  | own l =>
    obtain ⟨p, vs, a, b, c⟩ := z
    exact ⟨p, vs, a, m _ _ b, c⟩, h.dist⟩
theorem gs_deck {a b c : Expr} {g1 : AA DWd} {g2 g3 : AE DWd} (h1 : GF DWd X (fun _ _ _ _ => False) a g1) (h2 : GE DWd X (fun _ _ _ _ => False) b g2) (h3 : GE DWd X (fun _ _ _ _ => False) c g3)
    (e1 : starEach [a, b, c] X.env = (false, eval a X.env) :: starEach [b, c] X.env := by rfl) (e2 : starEach [b, c] X.env = (false, eval b X.env) :: starEach [c] X.env := by rfl) (e3 : starEach [c] X.env = (false, eval c X.env) :: starEach [] X.env := by rfl) :
    GS DWd X W (.Return (some (.List [a, b, c] p1)) pos) (sDeck g1 g2 g3) := by
  obtain ⟨t1, q1, r1⟩ := h1.ex
  obtain ⟨t2, q2, r2⟩ := h2.ex
  obtain ⟨t3, q3, r3⟩ := h3.ex
  refine ⟨_, ps_ret (pe_lst (pa_cons q1 (pa_cons q2 (pa_cons q3 pa_nil e3) e2) e1)), fun F0 F B ρ ω σ H Da E s q kk => ?_⟩
  obtain ⟨hn, q⟩ := q
  have no : ∀ {B : Hp} {Ea : AX DWd} {F : Hp}, (∀ x ω, ¬ Ea x ω) → XOk DWd X.K F B Ea (fun _ _ _ => False) := fun z B' ω' H' cls dx x _ _ _ g => z _ _ g
  refine r1 F B ρ ω σ H _ (fun _ _ => False) _ s.st s.env q (fun B1 ω1 H1 p vs ds s1 hs1 hp rr g => ?_) (no fun _ _ z => z)
  obtain ⟨rfl, cs, rfl, g⟩ := g
  have hv := rr.of_ints
  subst hv
  have o1 := hs1.owned (vs := cs.map V.int) hp
  have nF := hs1.sF.free hp
  have sF : Same F (upd F p (.lst (cs.map V.int))) := fun y o e => by
    rw [upd_ne (ne_of_none e nF)]
    exact e
  refine r2 _ B1 ρ ω1 σ _ _ (fun _ _ => False) _ o1 ((s.env.mono s1).upF sF) g (fun B2 ω2 H2 v2 d2 s2 hs2 rr2 g => ?_) (no fun _ _ z => z)
  obtain ⟨rfl, sd, rfl, g⟩ := g
  cases rr2
  refine r3 _ B2 ρ ω2 σ _ _ (fun _ _ => False) _ hs2 ((s.env.mono (s1.trans s2)).upF sF) g (fun B3 ω3 H3 v3 d3 s3 hs3 rr3 g => ?_) (no fun _ _ z => z)
  obtain ⟨rfl, t, rfl, g⟩ := g
  cases rr3
  refine ⟨(by show 3 ≤ sizeLine; decide), fun z hz => ?_⟩
  have n3 : z ≠ p := fun e => by
    rw [e, hs3.sF _ _ upd_same] at hz
    cases hz
  have hp3 : H3 p = some (.lst (cs.map V.int)) := hs3.sF _ _ upd_same
  have bz : B3 z = none := hs3.sB.free hz
  have bp : B3 p = none := hs3.dj _ _ upd_same
  have fz : F z = none := by
    have := hs3.sF.free hz
    rw [upd_ne n3] at this
    exact this
  refine kk.rt ((s1.trans s2).trans s3) (B' := B3) (d := .adr z) (ω' := { ω3 with dk := some (z, p, cs, sd, t) }) ⟨fun y o e => ?_, fun y o e => ?_, fun y o e => ?_, fun y ⟨p', c', cs', s', t', e, w⟩ => ?_, ⟨fun y ns e => hs3.wat.1 y ns e, fun p' c' cs' s' t' e => ?_⟩⟩ (.adr _) (g z p)
  · rw [upd_ne (ne_of_none e bz)]
    exact hs3.sB _ _ e
  · have ey := s.f0 _ _ e
    rw [upd_ne (ne_of_none ey fz)]
    exact hs3.sF _ _ (sF _ _ ey)
  · exact hs3.dj y o (sF _ _ (s.f0 _ _ e))
  · cases e
    rcases w with rfl | rfl
    · exact s.f0.free fz
    · exact s.f0.free nF
  · cases e
    exact ⟨n3, bz, bp, upd_same, by rw [upd_ne n3.symm]; exact hp3⟩
end
end MR
namespace MR
open PySem PySem.Spec PyProof.Rows L2
theorem takes0 {X : Cx} : Takes X W0 := fun u s' ⟨_, _, _, _, _, _, _, _, _, _, _, _, _, _, _, _, w⟩ => w.elim
theorem un64 {k : Nat} {A : Around} (h : Room k A) : A.units + 64 < cLine := by have := h.un; omega
theorem un0 {k : Nat} {A : Around} (h : Room k A) : A.units < cLine := by have := h.un; omega
theorem un100 {k : Nat} {A : Around} (h : Room k A) : A.units + 100 < cLine := by have := h.un; omega
def AEx (g : AG) : Prop := ∀ d ρ P, g d ρ P → ∃ ρ', P ρ'
def AL (n : Nat) (b : AGs) : Prop := ∀ xs ρ Q, b xs ρ Q → xs.length = n ∧ ∃ ρ', Q ρ'
theorem aex_name {i : Nat} : AEx (aName i) := fun _ _ _ h => ⟨_, h⟩
theorem al_nil : AL 0 aNil := fun xs ρ Q h => by
  cases xs with
  | nil => exact ⟨rfl, _, h⟩
  | cons _ _ => exact h.elim
theorem al_cons {n : Nat} {g : AG} {b : AGs} (h1 : AEx g) (h2 : AL n b) : AL (n + 1) (aCons g b) := fun xs ρ Q h => by
  cases xs with
  | nil => exact h.elim
  | cons x r =>
    obtain ⟨ρ', q⟩ := h1 _ _ _ h
    obtain ⟨a, c⟩ := h2 _ _ _ q
    exact ⟨congrArg Nat.succ a, c⟩
theorem aex_tup {n : Nat} {b : AGs} (h : AL n b) : AEx (aTup b) := fun d ρ P q => by
  cases d <;> try exact q.elim
  case tup xs => exact (h _ _ _ q).2
theorem AL.len {n : Nat} {b : AGs} (h : AL n b) : ∀ xs ρ Q, b xs ρ Q → xs.length = n := fun xs ρ Q q => (h xs ρ Q q).1
def fAddI : FD2
  | .int i, .int j, Q => Q (.int (i + j))
  | _, _, _ => False
theorem op2_addI {K : PySem.W.Frag} : Op2 K (rI0 fun i j => .int (i + j)) fAddI := by
  intro wd F B ω H x y d e Qa Q hs rx ry hf k
  cases d <;> cases e <;> try exact hf.elim
  case int.int i j =>
    cases rx; cases ry
    exact ⟨i, j, rfl, rfl, ro_same hs (.int _) hf k⟩
theorem fund_same {K : PySem.W.Frag} {x q x' q' : Str} {pa pa' : Arguments} {b b' : List Stmt} {sc sc' : Scope} {dv dv' : List V} {kw kw' : List (Str × V)} {f : Addr} {fd fd' : FuncData} (F : FunD K x q pa b sc dv kw f fd) (G : FunD K x' q' pa' b' sc' dv' kw' f fd') : fd = fd' := by
  obtain ⟨_, _, _, _, _, _, _, _, _, _, _, l1, _⟩ := F.ex
  obtain ⟨_, _, _, _, _, _, _, _, _, _, _, l2, _⟩ := G.ex
  rw [l1] at l2
  simp only [Option.some.injEq, Obj.mk.injEq, Data.func.injEq] at l2
  exact l2.2.2.1
theorem log_lt {i : Int} {n : Nat} (h0 : 0 ≤ i) (h : i < 2 ^ n) (hn : 0 < n) : i.natAbs.log2 < n := by
  by_cases z : i.natAbs = 0
  · rw [z]
    exact hn
  · rw [Nat.log2_lt z]
    have e : (i.natAbs : Int) = i := Int.natAbs_of_nonneg h0
    have : ((i.natAbs : Nat) : Int) < ((2 ^ n : Nat) : Int) := by
      rw [e]
      exact_mod_cast h
    exact_mod_cast this
theorem mulw {i j : Int} (a b : Nat) (h1 : 0 ≤ i) (h2 : i < 2 ^ a) (h3 : 0 ≤ j) (h4 : j < 2 ^ b) (ha : 0 < a) (hb : 0 < b) (h : a + b ≤ 1000000) : CMulW i j := by
  have x := log_lt h1 h2 ha
  have y := log_lt h3 h4 hb
  show i.natAbs.log2 + j.natAbs.log2 < 1000000
  omega
theorem divw {i j : Int} (h : 0 < j) (h2 : j < 2 ^ 8999) : CDivW i j := ⟨h, Nat.lt_trans (log_lt (Int.le_of_lt h) h2 (by decide)) (by decide)⟩
section
/-- the law: asked with any script it answers True -/
def aLaw : ASp DWd := fun ds ω Q _ => ∃ a ns, ds = [.adr a] ∧ ω.scr = some (a, ns) ∧ ns.length ≤ 63 ∧ ω.dk = none ∧ ∀ ω', Q (.bl true) ω'
end
/-- what a deck promises -/
def aDeck : ASp DWd := fun ds ω Q _ => ∃ a ns, ds = [.adr a] ∧ ω.scr = some (a, ns) ∧ ns.length ≤ 63 ∧ ω.dk = none ∧ ∀ p ω', Dk ω' p 0 → Q (.adr p) ω'
def bigM : Int := 2 ^ 8999
/-- what a draw promises -/
def aDraw : ASp DWd := fun ds ω Q _ => ∃ p m T, ds = [.adr p, .int m] ∧ Dk ω p T ∧ 0 < m ∧ m < bigM ∧ T < 2 ^ 60 ∧ ∀ r ω', 0 ≤ r → r < m → Dk ω' p (T + 1) → Q (.int r) ω'
end MR
namespace MR
open PySem PySem.Spec L2
theorem line1000 {n : Nat} (h : n ≤ 1000000) : n ≤ sizeLine := Nat.le_trans h (by decide)
theorem line1000l {n : Nat} (h : n ≤ 1000000) : n < sizeLine := Nat.lt_of_le_of_lt h (by decide)
theorem cut_hi {α : Type} {xs : List α} {k : Int} (h : 0 ≤ k) : cutD xs none (some k) = xs.take k.toNat := by
  have e : HT.sIx xs.length xs.length (some k) = min k.toNat xs.length := if_neg (by omega)
  unfold cutD
  rw [e]
  show ((xs.drop 0).take (min k.toNat xs.length - 0)) = _
  · rw [Nat.sub_zero, List.drop_zero]
    by_cases q : k.toNat ≤ xs.length
    · rw [Nat.min_eq_left q]
    · rw [Nat.min_eq_right (by omega), List.take_of_length_le (by omega), List.take_of_length_le (by omega)]
theorem cut_lo {α : Type} {xs : List α} {k : Int} (h : 0 ≤ k) : cutD xs (some k) none = xs.drop k.toNat := by
  have e : HT.sIx xs.length 0 (some k) = min k.toNat xs.length := if_neg (by omega)
  unfold cutD
  rw [e]
  show ((xs.drop (min k.toNat xs.length)).take (xs.length - min k.toNat xs.length)) = _
  · by_cases q : k.toNat ≤ xs.length
    · rw [Nat.min_eq_left q, List.take_of_length_le (by rw [List.length_drop]; omega)]
    · rw [Nat.min_eq_right (by omega), List.drop_of_length_le (by omega), List.drop_of_length_le (by omega)]
      simp
/-- a comprehension that leaves the world as it is -/
theorem comp_by {wd : Wd} {ds : List D} {t : AG} {tt : AT wd} {te : AE wd} {vs : List Nat} {ρ : AEnv} {ω : wd.W} {Q : List D → wd.W → Prop} {E : AX wd} (f : D → List D) (hf : ∀ d, (f d).length ≤ 1) (hl : ds.length ≤ 1000000) (h0 : Q (ds.flatMap f) ω)
    (step : ∀ (i : Nat) (d : D) (acc : List D) (P : List D → Prop), ds[i]? = some d → acc.length < sizeLine → P (acc ++ f d) → t d (wipeA ρ vs) (fun ρ' => tt ρ' ω (fun b ω1 => if b = true then te ρ' ω1 (fun y ω2 => acc.length < sizeLine ∧ ω2 = ω ∧ P (acc ++ [y])) (fun _ _ => False) else ω1 = ω ∧ P acc) (fun _ _ => False))) : aComp ds t tt te vs ρ ω Q E := by
  have ln : ∀ l : List D, (l.flatMap f).length ≤ l.length := fun l => by
    induction l with
    | nil => exact Nat.le_refl _
    | cons a l ih =>
      have := hf a
      rw [List.flatMap_cons, List.length_append, List.length_cons]
      omega
  refine ⟨fun i acc ω' => ω' = ω ∧ acc = (ds.take i).flatMap f, ⟨rfl, by rw [List.take_zero]; rfl⟩, fun i d acc ω' hd ⟨e1, e2⟩ => ?_, fun acc ω' ⟨e1, e2⟩ => ?_⟩
  · subst e1
    refine step i d acc (fun z => z = (ds.take (i + 1)).flatMap f) hd ?_ ?_
    · have h1 := ln (ds.take i)
      have h2 := List.length_take_le i ds
      rw [e2]
      exact line1000l (by rw [List.length_take] at h1; omega)
    · show acc ++ f d = _
      rw [e2, List.take_add_one, hd, List.flatMap_append]
      simp
  · subst e1 e2
    rw [List.take_length]
    exact h0
theorem flat_ints (g : Int → Int) (ns : List Int) (f : D → List D) (h : ∀ n, f (.int n) = [.int (g n)]) : (ns.map D.int).flatMap f = (ns.map g).map D.int := by
  induction ns with
  | nil => rfl
  | cons n ns ih => rw [List.map_cons, List.flatMap_cons, h, ih]; rfl
theorem at_ints {ns : List Int} {i : Nat} {d : D} (h : (ns.map D.int)[i]? = some d) : ∃ n, ns[i]? = some n ∧ d = .int n := by
  rw [List.getElem?_map] at h
  cases e : ns[i]? with
  | none =>
    rw [e] at h
    cases h
  | some n =>
    rw [e] at h
    cases h
    exact ⟨n, rfl, rfl⟩
end MR
namespace MR
open PySem PySem.Spec L2
/-- data that repr may show: depth k, text of n signs at most -/
structure Sh (k n : Nat) (d : D) : Prop where
  pu : pureD d = true
  sh : (toP d).showable = true
  dp : (toP d).depth ≤ k
  ln : (shownD d).length ≤ n
structure Shs (k n : Nat) (ds : List D) : Prop where
  pu : pureDs ds = true
  sh : PyData.showableAll (toPs ds) = true
  dp : PyData.depthAll (toPs ds) ≤ k
  ln : piled (PyData.shownAll (toPs ds)) ≤ n
theorem Shs.nil {k : Nat} : Shs k 0 [] := ⟨by rw [pureDs], by rw [toPs, PyData.showableAll], by rw [toPs, PyData.depthAll]; omega, by rw [toPs, PyData.shownAll]; exact Nat.le_refl _⟩
theorem Shs.cons {k n m : Nat} {d : D} {ds : List D} (h : Sh k n d) (r : Shs k m ds) : Shs k (n + 2 + m) (d :: ds) :=
  ⟨by rw [pureDs, h.pu, r.pu]; rfl, by rw [toPs, PyData.showableAll, h.sh, r.sh]; rfl, by rw [toPs, PyData.depthAll]; exact Nat.max_le.mpr ⟨h.dp, r.dp⟩, by
    have h1 := h.ln
    have h2 := r.ln
    unfold shownD at h1
    rw [toPs, PyData.shownAll, piled_cons]
    omega⟩
theorem Sh.mono {k n k' n' : Nat} {d : D} (h : Sh k n d) (hk : k ≤ k') (hn : n ≤ n') : Sh k' n' d := ⟨h.pu, h.sh, Nat.le_trans h.dp hk, Nat.le_trans h.ln hn⟩
theorem Shs.mono {k n k' n' : Nat} {d : List D} (h : Shs k n d) (hk : k ≤ k') (hn : n ≤ n') : Shs k' n' d := ⟨h.pu, h.sh, Nat.le_trans h.dp hk, Nat.le_trans h.ln hn⟩
theorem Sh.int {i : Int} (h : i.natAbs.log2 < 1920) : Sh 1 1921 (.int i) := ⟨by rw [pureD], by rw [toP, PyData.showable]; exact decide_eq_true h, by rw [toP, PyData.depth]; omega, by
  have := int_text_length_le (k := 1920) (by decide) h
  unfold shownD
  rw [toP, PyData.shown]
  show (Str.ofString (toString i)).length ≤ 1921
  rw [ofString_length]
  exact this⟩
theorem Sh.bl {b : Bool} : Sh 1 5 (.bl b) := ⟨by rw [pureD], by rw [toP, PyData.showable], by rw [toP, PyData.depth]; omega, by
  unfold shownD
  rw [toP, PyData.shown]
  cases b <;> decide⟩
theorem Sh.non : Sh 1 5 .non := ⟨by rw [pureD], by rw [toP, PyData.showable], by rw [toP, PyData.depth]; omega, by
  unfold shownD
  rw [toP, PyData.shown]
  decide⟩
theorem tup_len (ts : List Str) : (tupleText ts).length ≤ piled ts + 3 := by
  unfold tupleText
  rw [strLen_append, strLen_append]
  have e1 : ((("(" : String) : Str)).length = 1 := rfl
  have e3 : (((if ts.length == 1 then ",)" else ")" : String) : Str)).length ≤ 2 := by split <;> decide
  by_cases h : ts = []
  · subst h
    decide
  · have := join_length_add ts h
    omega
theorem from_len : ∀ (ts : List Str) (k : Nat) (acc : Str), (textFrom k acc ts).length ≤ acc.length + piled ts
  | [], k, acc => by show acc.length ≤ acc.length + 0; omega
  | t :: r, k, acc => by
    have h1 := from_len r (k + 1) (acc ++ (if k > 0 then ", " else "" : String) ++ t)
    have e : (acc ++ (if k > 0 then ", " else "" : String) ++ t).length = acc.length + (if k > 0 then 2 else 0) + t.length := by
      rw [strLen_append, strLen_append]
      split <;> rfl
    show (textFrom (k + 1) (acc ++ (if k > 0 then ", " else "" : String) ++ t) r).length ≤ _
    rw [piled_cons]
    have : (if k > 0 then 2 else 0) ≤ 2 := by split <;> omega
    omega
theorem Sh.tup {k n : Nat} {ds : List D} (h : Shs k n ds) : Sh (k + 1) (n + 3) (.tup ds) := ⟨by rw [pureD]; exact h.pu, by rw [toP, PyData.showable]; exact h.sh, by rw [toP, PyData.depth]; have := h.dp; omega, by
  have h1 := h.ln
  have h2 := tup_len (PyData.shownAll (toPs ds))
  unfold shownD
  rw [toP, PyData.shown]
  omega⟩
theorem Sh.lst {k n : Nat} {ds : List D} (h : Shs k n ds) : Sh (k + 1) (n + 3) (.lst ds) := ⟨by rw [pureD]; exact h.pu, by rw [toP, PyData.showable]; exact h.sh, by rw [toP, PyData.depth]; have := h.dp; omega, by
  have h1 := h.ln
  have h2 := from_len (PyData.shownAll (toPs ds)) 0 "["
  unfold shownD
  rw [toP, PyData.shown]
  show (textFrom 0 "[" (PyData.shownAll (toPs ds)) ++ ("]" : String)).length ≤ _
  rw [strLen_append]
  have e1 : ((("[" : String) : Str)).length = 1 := rfl
  have e2 : ((("]" : String) : Str)).length = 1 := rfl
  omega⟩
theorem Sh.ok {k n : Nat} {d : D} (h : Sh k n d) (hk : k ≤ 64) (hn : n ≤ 16000000) : rOk d = true := by
  unfold rOk
  rw [h.pu, h.sh, Bool.true_and, Bool.true_and, Bool.and_eq_true, decide_eq_true_eq, decide_eq_true_eq]
  have h1 := h.dp
  have h2 := h.ln
  have h3 : sizeLine = 16777216 := by decide
  omega
theorem toPs_ints : ∀ ns : List Int, toPs (ns.map D.int) = ns.map PyData.int
  | [] => by rw [List.map_nil, toPs]; rfl
  | n :: ns => by rw [List.map_cons, toPs, toPs_ints ns, toP]; rfl
theorem pure_ints : ∀ ns : List Int, pureDs (ns.map D.int) = true
  | [] => by rw [List.map_nil, pureDs]
  | n :: ns => by rw [List.map_cons, pureDs, pure_ints ns, pureD]; rfl
theorem eqOk_row (ns : List Int) : eqOk (.tup (ns.map D.int)) = true := by
  have h := depth_ints ns
  unfold eqOk SeqAt.shaped
  rw [pureD, pure_ints, toP, PyData.canLay0, toPs_ints, lay_ints, PyData.depth, Bool.true_and, Bool.true_and, decide_eq_true_eq]
  omega
theorem eqOk_rowL (ns : List Int) : eqOk (.lst (ns.map D.int)) = true := by
  have h := depth_ints ns
  unfold eqOk SeqAt.shaped
  rw [pureD, pure_ints, toP, PyData.canLay0, toPs_ints, lay_ints, PyData.depth, Bool.true_and, Bool.true_and, decide_eq_true_eq]
  omega
theorem eqv_ints : ∀ ns ms : List Int, PyData.eqvAll (ns.map PyData.int) (ms.map PyData.int) = decide (ns = ms)
  | [], [] => by simp [PyData.eqvAll]
  | [], m :: ms => by simp [PyData.eqvAll]
  | n :: ns, [] => by simp [PyData.eqvAll]
  | n :: ns, m :: ms => by
    rw [List.map_cons, List.map_cons, PyData.eqvAll, eqv_ints ns ms, PyData.eqv]
    by_cases a : n = m <;> by_cases c : ns = ms <;> simp [a, c]
theorem deq_row (ns ms : List Int) : deq (.tup (ns.map D.int)) (.tup (ms.map D.int)) = decide (ns = ms) := by
  unfold deq
  rw [toP, toP, toPs_ints, toPs_ints, PyData.eqv, eqv_ints]
theorem deq_rowL (ns ms : List Int) : deq (.lst (ns.map D.int)) (.lst (ms.map D.int)) = decide (ns = ms) := by
  unfold deq
  rw [toP, toP, toPs_ints, toPs_ints, PyData.eqv, eqv_ints]
theorem deq_refl {d : D} (h : eqOk d = true) : deq d d = true := by
  unfold eqOk at h
  rw [Bool.and_eq_true] at h
  exact SeqAt.eqv_refl _ (SeqAt.canLay_of_shaped h.2)
abbrev row (ns : List Int) : D := .tup (ns.map D.int)
theorem ipow_le {b : Int} (hb : 1 ≤ b) {m n : Nat} (h : m ≤ n) : b ^ m ≤ b ^ n := by
  obtain ⟨k, rfl⟩ := Nat.exists_eq_add_of_le h
  induction k with
  | zero => exact Int.le_refl _
  | succ k ih =>
    have p : (0:Int) < b ^ (m + k) := Int.pow_pos (by omega)
    have e : b ^ (m + (k + 1)) = b ^ (m + k) * b := Int.pow_succ _ _
    have q : b ^ (m + k) * 1 ≤ b ^ (m + k) * b := Int.mul_le_mul_of_nonneg_left hb (by omega)
    have := ih (by omega)
    omega
def limbs (b : Int) (ns : List Int) : Prop := ∀ n ∈ ns, 0 ≤ n ∧ n < b
structure isRow (b : Int) (ns : List Int) : Prop where
  lim : limbs b ns
  top : ns.getLast? ≠ some 0
def wor (b : Int) : List Int → Int
  | [] => 0
  | x :: r => x + b * wor b r
/-- without noughts at the end -/
def strip : List Int → List Int
  | [] => []
  | x :: r => if strip r = [] ∧ x = 0 then [] else x :: strip r
def digs (b n : Int) : List Int := if h : 2 ≤ b ∧ 0 < n then n % b :: digs b (n / b) else []
termination_by n.toNat
decreasing_by
  have h1 := Int.ediv_lt_self_of_pos_of_ne_one h.2 (by omega : b ≠ 1) |> fun z => z
  have h2 := Int.ediv_nonneg (Int.le_of_lt h.2) (by omega : (0:Int) ≤ b)
  omega
theorem limbs.tail {b x : Int} {r : List Int} (h : limbs b (x :: r)) : limbs b r := fun n hn => h n (by simp [hn])
theorem wor_nn {b : Int} (hb : 0 ≤ b) : ∀ {ns : List Int}, limbs b ns → 0 ≤ wor b ns
  | [], _ => Int.le_refl 0
  | x :: r, h => by
    have h1 := wor_nn hb h.tail
    have h2 := (h x (by simp)).1
    have h3 := Int.mul_nonneg hb h1
    show 0 ≤ x + b * wor b r
    omega
theorem wor_lt {b : Int} (hb : 1 ≤ b) : ∀ {ns : List Int}, limbs b ns → wor b ns < b ^ ns.length
  | [], _ => by show (0 : Int) < b ^ 0; rw [Int.pow_zero]; decide
  | x :: r, h => by
    have h1 := wor_lt hb h.tail
    have h2 := (h x (by simp)).2
    have h3 : b * (wor b r + 1) ≤ b * b ^ r.length := Int.mul_le_mul_of_nonneg_left (by omega) (by omega)
    show x + b * wor b r < b ^ (r.length + 1)
    rw [Int.pow_succ, Int.mul_comm (b ^ r.length) b]
    rw [Int.mul_add] at h3
    omega
theorem wor_append (b : Int) : ∀ (xs ys : List Int), wor b (xs ++ ys) = wor b xs + b ^ xs.length * wor b ys
  | [], ys => by show wor b ys = 0 + b ^ 0 * wor b ys; rw [Int.pow_zero]; omega
  | x :: xs, ys => by
    show x + b * wor b (xs ++ ys) = x + b * wor b xs + b ^ (xs.length + 1) * wor b ys
    rw [wor_append b xs ys, Int.pow_succ, Int.mul_add, ← Int.mul_assoc, Int.mul_comm b (b ^ xs.length)]
    omega
theorem wor_nought (b : Int) : ∀ k : Nat, wor b (List.replicate k 0) = 0
  | 0 => rfl
  | k + 1 => by
    show 0 + b * wor b (List.replicate k 0) = 0
    rw [wor_nought b k]
    omega
theorem digs_nil {b n : Int} (h : n ≤ 0) : digs b n = [] := by
  rw [digs, dif_neg (by omega)]
theorem digs_cons {b n : Int} (hb : 2 ≤ b) (h : 0 < n) : digs b n = n % b :: digs b (n / b) := by
  rw [digs, dif_pos ⟨hb, h⟩]
theorem div_less {b n : Int} (hb : 2 ≤ b) (h : 0 < n) : 0 ≤ n / b ∧ n / b < n := ⟨Int.ediv_nonneg (by omega) (by omega), Int.ediv_lt_self_of_pos_of_ne_one h (by omega)⟩
theorem digs_row {b : Int} (hb : 2 ≤ b) : ∀ (k : Nat) (n : Int), n < k → 0 ≤ n → isRow b (digs b n) ∧ wor b (digs b n) = n
  | 0, n, h, h0 => by omega
  | k + 1, n, h, h0 => by
    by_cases c : n = 0
    · subst c
      rw [digs_nil (Int.le_refl 0)]
      exact ⟨⟨(fun _ h => nomatch h), by simp⟩, rfl⟩
    · have hp : 0 < n := by omega
      obtain ⟨d0, d1⟩ := div_less hb hp
      obtain ⟨⟨r1, r2⟩, r3⟩ := digs_row hb k (n / b) (by omega) d0
      have e := Int.emod_add_mul_ediv n b
      rw [digs_cons hb hp]
      refine ⟨⟨fun x hx => ?_, ?_⟩, ?_⟩
      · rcases List.mem_cons.mp hx with rfl | hx
        · exact ⟨Int.emod_nonneg _ (by omega), Int.emod_lt_of_pos _ (by omega)⟩
        · exact r1 x hx
      · rw [List.getLast?_cons]
        cases q : (digs b (n / b)).getLast? with
        | none =>
          have qe : digs b (n / b) = [] := by simpa using q
          rw [qe] at r3
          have r3' : n / b = 0 := r3.symm
          rw [r3'] at e
          intro z
          simp only [Option.getD_none, Option.some.injEq] at z
          omega
        | some y =>
          rw [q] at r2
          intro z
          simp only [Option.getD_some, Option.some.injEq] at z
          exact r2 (by rw [z])
      · show n % b + b * wor b (digs b (n / b)) = n
        rw [r3]
        exact e
theorem isRow.tail {b x : Int} {r : List Int} (h : isRow b (x :: r)) : isRow b r := ⟨h.lim.tail, fun z => by
  have := h.top
  rw [List.getLast?_cons, z] at this
  exact this rfl⟩
theorem isRow.pos {b : Int} (hb : 2 ≤ b) : ∀ {ns : List Int}, isRow b ns → ns ≠ [] → 0 < wor b ns
  | [], _, h => absurd rfl h
  | x :: r, h, _ => by
    have hx := h.lim x (by simp)
    show 0 < x + b * wor b r
    by_cases c : r = []
    · subst c
      have := h.top
      have e : wor b [] = 0 := rfl
      rw [e]
      simp at this
      omega
    · have h1 := isRow.pos hb h.tail c
      have h2 := Int.mul_pos (by omega : (0:Int) < b) h1
      omega
theorem digs_wor {b : Int} (hb : 2 ≤ b) : ∀ {ns : List Int}, isRow b ns → digs b (wor b ns) = ns
  | [], _ => digs_nil (Int.le_refl 0)
  | x :: r, h => by
    have hx := h.lim x (by simp)
    have hp := isRow.pos hb h (by simp)
    have e1 : (x + b * wor b r) % b = x := by
      rw [Int.add_mul_emod_self_left]
      exact Int.emod_eq_of_lt hx.1 hx.2
    have e2 : (x + b * wor b r) / b = wor b r := by
      rw [Int.add_mul_ediv_left _ _ (by omega), Int.ediv_eq_zero_of_lt hx.1 hx.2]
      omega
    rw [digs_cons hb hp]
    show (x + b * wor b r) % b :: digs b ((x + b * wor b r) / b) = x :: r
    rw [e1, e2, digs_wor hb h.tail]
theorem row_len {b : Int} (hb : 2 ≤ b) : ∀ {ns : List Int}, isRow b ns → ns ≠ [] → b ^ (ns.length - 1) ≤ wor b ns
  | [], _, h => absurd rfl h
  | x :: r, h, _ => by
    have hx := h.lim x (by simp)
    by_cases c : r = []
    · subst c
      have := isRow.pos hb h (by simp)
      show b ^ 0 ≤ _
      rw [Int.pow_zero]
      omega
    · have h1 := row_len hb h.tail c
      have h2 : b * b ^ (r.length - 1) ≤ b * wor b r := Int.mul_le_mul_of_nonneg_left h1 (by omega)
      have h3 : b * b ^ (r.length - 1) = b ^ ((x :: r).length - 1) := by
        have hl : 0 < r.length := List.length_pos_iff.mpr c
        rw [Int.mul_comm, ← Int.pow_succ]
        congr 1
        rw [List.length_cons]
        omega
      rw [← h3]
      show _ ≤ x + b * wor b r
      omega
theorem digs_len {b n : Int} (hb : 2 ≤ b) {k : Nat} (h : n < b ^ k) : (digs b n).length ≤ k := by
  by_cases c : n ≤ 0
  · rw [digs_nil c]
    exact Nat.zero_le _
  · obtain ⟨r, e⟩ := digs_row hb (n.toNat + 1) n (by omega) (by omega)
    by_cases z : digs b n = []
    · rw [z]
      exact Nat.zero_le _
    · have h1 := row_len hb r z
      rw [e] at h1
      refine Nat.le_of_not_lt fun q => ?_
      have h2 : b ^ k ≤ b ^ ((digs b n).length - 1) := ipow_le (by omega) (by omega)
      omega
theorem wor_strip (b : Int) : ∀ ns : List Int, wor b (strip ns) = wor b ns
  | [] => rfl
  | x :: r => by
    rw [strip]
    have ih := wor_strip b r
    split
    · rename_i c
      rw [c.1] at ih
      show 0 = x + b * wor b r
      rw [← ih, c.2]
      show (0:Int) = 0 + b * 0
      omega
    · show x + b * wor b (strip r) = x + b * wor b r
      rw [ih]
theorem strip_sub : ∀ {ns : List Int} {n : Int}, n ∈ strip ns → n ∈ ns
  | x :: r, n, h => by
    rw [strip] at h
    split at h
    · cases h
    · rcases List.mem_cons.mp h with rfl | h
      · simp
      · exact List.mem_cons_of_mem _ (strip_sub h)
theorem strip_top : ∀ ns : List Int, (strip ns).getLast? ≠ some 0
  | [] => by simp [strip]
  | x :: r => by
    rw [strip]
    have ih := strip_top r
    split
    · simp
    · rename_i c
      rw [List.getLast?_cons]
      cases q : (strip r).getLast? with
      | none =>
        have qe : strip r = [] := by simpa using q
        intro z
        simp only [Option.getD_none, Option.some.injEq] at z
        exact c ⟨qe, z⟩
      | some y =>
        rw [q] at ih
        intro z
        simp only [Option.getD_some, Option.some.injEq] at z
        exact ih (by rw [z])
theorem strip_row {b : Int} {ns : List Int} (h : limbs b ns) : isRow b (strip ns) := ⟨fun n hn => h n (strip_sub hn), strip_top ns⟩
theorem strip_snoc (ns : List Int) : strip (ns ++ [0]) = strip ns := by
  induction ns with
  | nil => simp [strip]
  | cons x r ih => rw [List.cons_append, strip, strip, ih]
theorem strip_keep (ns : List Int) {x : Int} (h : x ≠ 0) : strip (ns ++ [x]) = ns ++ [x] := by
  induction ns with
  | nil => simp [strip, h]
  | cons y r ih =>
    rw [List.cons_append, strip, ih, if_neg]
    simp
theorem digs_strip {b : Int} (hb : 2 ≤ b) {ns : List Int} (h : limbs b ns) : digs b (wor b ns) = strip ns := by
  rw [← wor_strip]
  exact digs_wor hb (strip_row h)
theorem limbs.take {b : Int} {ns : List Int} (h : limbs b ns) (k : Nat) : limbs b (ns.take k) := fun n hn => h n (List.mem_of_mem_take hn)
theorem limbs.drop {b : Int} {ns : List Int} (h : limbs b ns) (k : Nat) : limbs b (ns.drop k) := fun n hn => h n (List.mem_of_mem_drop hn)
theorem isRow.drop {b : Int} : ∀ {ns : List Int} (k : Nat), isRow b ns → isRow b (ns.drop k)
  | _, 0, h => h
  | [], k + 1, h => h
  | x :: r, k + 1, h => isRow.drop k h.tail
/-- cut there: low and high -/
theorem wor_cut {b : Int} (hb : 2 ≤ b) {ns : List Int} (h : limbs b ns) (k : Nat) : wor b (ns.take k) = wor b ns % b ^ k ∧ wor b (ns.drop k) = wor b ns / b ^ k := by
  have hp : (0:Int) < b ^ k := Int.pow_pos (by omega)
  by_cases c : k ≤ ns.length
  · have e : wor b ns = wor b (ns.take k) + b ^ k * wor b (ns.drop k) := by
      have := wor_append b (ns.take k) (ns.drop k)
      rw [List.take_append_drop, List.length_take, Nat.min_eq_left c] at this
      exact this
    have l1 := wor_nn (by omega : (0:Int) ≤ b) (h.take k)
    have l2 := wor_lt (by omega : (1:Int) ≤ b) (h.take k)
    rw [List.length_take, Nat.min_eq_left c] at l2
    rw [e, Int.add_mul_emod_self_left, Int.emod_eq_of_lt l1 l2, Int.add_mul_ediv_left _ _ (by omega), Int.ediv_eq_zero_of_lt l1 l2]
    exact ⟨rfl, by omega⟩
  · have l1 := wor_nn (by omega : (0:Int) ≤ b) h
    have l2 := wor_lt (by omega : (1:Int) ≤ b) h
    have l3 : b ^ ns.length ≤ b ^ k := ipow_le (by omega) (by omega)
    rw [List.take_of_length_le (by omega), List.drop_of_length_le (by omega), Int.emod_eq_of_lt l1 (by omega), Int.ediv_eq_zero_of_lt l1 (by omega)]
    exact ⟨rfl, rfl⟩
end MR
namespace MR
open PySem PySem.Spec L2
theorem pow14 {b : Int} (h0 : 0 ≤ b) (h : b ≤ 10000) : ∀ k : Nat, b ^ k ≤ 2 ^ (14 * k)
  | 0 => by rw [Int.pow_zero]; decide
  | k + 1 => by
    have ih := pow14 h0 h k
    have p : (0:Int) ≤ b ^ k := Int.pow_nonneg h0
    have q : (0:Int) < 2 ^ (14 * k) := Int.pow_pos (by decide)
    have e1 : b ^ (k + 1) = b ^ k * b := Int.pow_succ _ _
    have e2 : (2:Int) ^ (14 * (k + 1)) = 2 ^ (14 * k) * 16384 := by rw [Nat.mul_add, Int.pow_add]; rfl
    have m1 : b ^ k * b ≤ b ^ k * 10000 := Int.mul_le_mul_of_nonneg_left h p
    omega
theorem mulw_row {b i j : Int} {k : Nat} (h0 : 0 ≤ i) (h : i ≤ b ^ k) (b0 : 0 ≤ b) (hb : b ≤ 10000) (hk : k ≤ 60000) (j0 : 0 ≤ j) (hj : j ≤ 10000) : CMulW i j := by
  have h1 := pow14 b0 hb k
  have h2 : (2:Int) ^ (14 * k) < 2 ^ (14 * k + 1) := by
    have q : (0:Int) < 2 ^ (14 * k) := Int.pow_pos (by decide)
    rw [Int.pow_succ]
    omega
  exact mulw (14 * k + 1) 14 h0 (by omega) j0 (by omega) (by omega) (by decide) (by omega)
theorem divw10 {j : Int} (h : 0 < j) (h2 : j ≤ 10000) : CDivW i j := divw h (by
  have : (2:Int) ^ 14 ≤ 2 ^ 8999 := ipow_le (by decide) (by decide)
  omega)
theorem small_m {m : Int} (h : m ≤ 1000000) : m < bigM := by
  show m < 2 ^ 8999
  have : (2:Int) ^ 20 ≤ 2 ^ 8999 := ipow_le (by decide) (by decide)
  omega
/-- bases -/
def base_ (b : Int) : Prop := 2 ≤ b ∧ b ≤ 10000
def aAnyBase : ASp DWd := fun ds ω Q _ => ∃ p T, ds = [.adr p] ∧ Dk ω p T ∧ T < 2 ^ 59 ∧ ∀ b ω', base_ b → Dk ω' p (T + 3) → Q (.int b) ω'
def aRow : ASp DWd := fun ds ω Q _ => ∃ p b m T, ds = [.adr p, .int b, .int m] ∧ Dk ω p T ∧ T < 2 ^ 59 ∧ base_ b ∧ 0 ≤ m ∧ m ≤ 200 ∧ ∀ ns ω', isRow b ns → (ns.length : Int) ≤ m → Dk ω' p (T + m + 4) → Q (row ns) ω'
def aWorth : ASp DWd := fun ds ω Q _ => ∃ ns b, ds = [row ns, .int b] ∧ base_ b ∧ limbs b ns ∧ ns.length ≤ 50000 ∧ Q (.int (wor b ns)) ω
def aRowOf : ASp DWd := fun ds ω Q _ => ∃ n b, ds = [.int n, .int b] ∧ base_ b ∧ (∃ k, n < b ^ k ∧ k ≤ 50000) ∧ Q (row (digs b n)) ω
def aWithout : ASp DWd := fun ds ω Q _ => ∃ ns : List Int, (ds = [row ns] ∨ ds = [.lst (ns.map .int)]) ∧ Q (row (strip ns)) ω
def shift_ (ns : List Int) (k : Nat) : List Int := if ns = [] then [] else List.replicate k 0 ++ ns
def aShifted : ASp DWd := fun ds ω Q _ => ∃ ns k, ds = [row ns, .int k] ∧ 0 ≤ k ∧ k ≤ 1000 ∧ ns.length ≤ 50000 ∧ Q (row (shift_ ns k.toNat)) ω
def aCut : ASp DWd := fun ds ω Q _ => ∃ ns k, ds = [row ns, .int k] ∧ 0 ≤ k ∧ Q (.tup [row (strip (ns.take k.toNat)), row (ns.drop k.toNat)]) ω
theorem wor_shift (b : Int) (ns : List Int) (k : Nat) : wor b (shift_ ns k) = b ^ k * wor b ns := by
  unfold shift_
  split
  · rename_i c
    subst c
    show (0:Int) = b ^ k * 0
    omega
  · rw [wor_append, wor_nought, List.length_replicate]
    omega
theorem limbs.append {b : Int} {xs ys : List Int} (h1 : limbs b xs) (h2 : limbs b ys) : limbs b (xs ++ ys) := fun n hn => (List.mem_append.mp hn).elim (h1 n) (h2 n)
theorem nil_eq : eqOk (.lst []) = true := eqOk_rowL []
theorem nil_deq : deq (.lst []) (.lst []) = true := deq_refl nil_eq
theorem Dk.now {ω : DW} {p : Addr} {T T' : Int} (h : Dk ω p T) (l : T ≤ T') : Dk ω p T' := h.le l
theorem atI_ints {ns : List Int} {i : Nat} {n : Int} (h : ns[i]? = some n) : L2.atI (ns.map D.int) (i : Int) = some (.int n) := by
  unfold L2.atI
  have hi := (List.getElem?_eq_some_iff.mp h).1
  have e : L2.ixN (ns.map D.int).length (i : Int) = some i := by
    unfold L2.ixN
    rw [List.length_map, if_pos (by omega), if_pos (by omega), Int.toNat_natCast]
  rw [e]
  show (ns.map D.int)[i]? = _
  rw [List.getElem?_map, h]
  rfl
theorem atI_at {ds : List D} {k : Int} (h0 : 0 ≤ k) (h : k < ds.length) : ∃ d, ds[k.toNat]? = some d ∧ L2.atI ds k = some d := by
  have hi : k.toNat < ds.length := by omega
  refine ⟨ds[k.toNat], List.getElem?_eq_getElem hi, ?_⟩
  unfold L2.atI L2.ixN
  rw [if_pos h0, if_pos h]
  exact List.getElem?_eq_getElem hi
theorem atI_all {ds : List D} {k : Int} {P : D → Prop} (h : ∀ d ∈ ds, P d) (h0 : 0 ≤ k) (hk : k < ds.length) : match L2.atI ds k with
    | some d => P d
    | none => False := by
  obtain ⟨d, e, a⟩ := atI_at h0 hk
  rw [a]
  exact h d (List.mem_of_getElem? e)
theorem atI_last {ns : List Int} {n : Int} (h : ns.getLast? = some n) : L2.atI (ns.map D.int) (-1) = some (.int n) := by
  have hn : ns ≠ [] := by intro z; rw [z] at h; cases h
  have hl : 0 < ns.length := List.length_pos_iff.mpr hn
  unfold L2.atI L2.ixN
  rw [List.length_map, if_neg (by decide), if_pos (by omega)]
  show (ns.map D.int)[(-1 + (ns.length : Int)).toNat]? = _
  have e : (-1 + (ns.length : Int)).toNat = ns.length - 1 := by omega
  rw [e, List.getElem?_map, ← List.getLast?_eq_getElem?, h]
  rfl
theorem ixN_last {n : Nat} (h : 0 < n) : L2.ixN n (-1) = some (n - 1) := by
  unfold L2.ixN
  rw [if_neg (by decide), if_pos (by omega)]
  congr 1
  omega
theorem set_last {ns : List Int} (x : Int) (h : ns ≠ []) : (ns.map D.int).set (ns.length - 1) (.int x) = (ns.dropLast ++ [x]).map D.int := by
  have e : ns = ns.dropLast ++ [ns.getLast h] := (List.dropLast_concat_getLast h).symm
  have el : ns.length - 1 = ns.dropLast.length := by rw [List.length_dropLast]
  rw [el]
  generalize ns.getLast h = y at e
  rw [e]
  simp
theorem fl_rep (k : Nat) : (List.replicate k [D.int 0]).flatten = (List.replicate k (0:Int)).map D.int := by
  induction k with
  | zero => rfl
  | succ k ih => rw [List.replicate_succ, List.flatten_cons, ih, List.replicate_succ]; rfl
end MR
namespace MR
open PySem PySem.Spec L2
/-- one step of a quotient by a limb -/
theorem part_step {b l x r : Int} (hb : 2 ≤ b) (hx : 0 ≤ x ∧ x < b) (hl : 0 < l) (hr : 0 ≤ r ∧ r < l) : 0 ≤ (r * b + x) / l ∧ (r * b + x) / l < b ∧ 0 ≤ (r * b + x) % l ∧ (r * b + x) % l < l ∧ (r * b + x) / l * l + (r * b + x) % l = r * b + x ∧ 0 ≤ r * b := by
  have p : 0 ≤ r * b := Int.mul_nonneg hr.1 (by omega)
  have q : r * b ≤ (l - 1) * b := Int.mul_le_mul_of_nonneg_right (by omega) (by omega)
  have q2 : (l - 1) * b = l * b - b := by rw [Int.sub_mul, Int.one_mul]
  refine ⟨Int.ediv_nonneg (by omega) (by omega), Int.ediv_lt_of_lt_mul hl ?_, Int.emod_nonneg _ (by omega), Int.emod_lt_of_pos _ hl, ?_, p⟩
  · rw [Int.mul_comm b l]
    omega
  · have := Int.mul_ediv_add_emod (r * b + x) l
    rw [Int.mul_comm] at this
    exact this
theorem take_snoc {ns : List Int} {i : Nat} {n : Int} (h : ns[i]? = some n) : ns.take (i + 1) = ns.take i ++ [n] := by
  rw [List.take_add_one, h]
  rfl
theorem drop_cons {ns : List Int} {i : Nat} {n : Int} (h : ns[i]? = some n) : ns.drop i = n :: ns.drop (i + 1) := by
  obtain ⟨h1, h2⟩ := List.getElem?_eq_some_iff.mp h
  rw [List.drop_eq_getElem_cons h1, h2]
theorem len_take {ns : List Int} {i : Nat} {n : Int} (h : ns[i]? = some n) : (ns.take i).length = i := by
  have := (List.getElem?_eq_some_iff.mp h).1
  rw [List.length_take]
  omega
theorem rev_at {ns : List Int} {i : Nat} {n : Int} (h : ns.reverse[i]? = some n) : i < ns.length ∧ ns.drop (ns.length - (i + 1)) = n :: ns.drop (ns.length - i) := by
  have hi : i < ns.length := by
    have := (List.getElem?_eq_some_iff.mp h).1
    rwa [List.length_reverse] at this
  refine ⟨hi, ?_⟩
  rw [List.getElem?_reverse hi] at h
  have h1 : ns.length - 1 - i = ns.length - (i + 1) := by omega
  have h2 : ns.length - i = ns.length - (i + 1) + 1 := by omega
  rw [h1] at h
  rw [h2]
  exact drop_cons h
theorem qr_of {w q r l : Int} (hl : 0 < l) (h : q * l + r = w) (h0 : 0 ≤ r) (h1 : r < l) : w / l = q ∧ w % l = r := by
  subst h
  rw [Int.add_comm, Int.mul_comm, Int.add_mul_ediv_left _ _ (by omega), Int.ediv_eq_zero_of_lt h0 h1, Int.add_mul_emod_self_left, Int.emod_eq_of_lt h0 h1]
  exact ⟨by omega, rfl⟩
end MR
namespace MR
open PySem PySem.Spec L2
section
variable {wd : Wd} {X : Cx} {W : WX} {a b e : Expr} {pos : Pos}
def gRepL (g : AA wd) (gb : AE wd) : AA wd := fun ρ ω Q E => g ρ ω (fun xs ω1 => gb ρ ω1 (fun y ω2 => match y with
  | .int k => (-(2 ^ 63) ≤ k ∧ k < 2 ^ 63 ∧ xs.length * k.toNat ≤ sizeLine) ∧ Q (List.replicate k.toNat xs).flatten ω2
  | _ => False) E) E
def gCatL (g h : AA wd) : AA wd := fun ρ ω Q E => g ρ ω (fun xs ω1 => h ρ ω1 (fun ys ω2 => xs.length + ys.length ≤ sizeLine ∧ Q (xs ++ ys) ω2) E) E
theorem gf_rep {g : AA wd} {gb : AE wd} (ha : GL wd X W a g) (hb : GE wd X W b gb) : GF wd X W (.BinOp a .Mult b pos) (gRepL g gb) := by
  obtain ⟨t, pa, ra⟩ := ha.ex
  obtain ⟨u, pb, rb⟩ := hb.ex
  refine ⟨_, pe_op op_rep pa pb, fun F B ρ ω σ H Qa Ea Q hs he hg hk hx => ra F B ρ ω σ H _ Ea _ hs he hg (fun B1 ω1 H1 p vs ds s1 hs1 l1 r1 g1 =>
    rb F B1 ρ ω1 σ H1 _ Ea _ hs1 (he.mono s1) g1 (fun B2 ω2 H2 v2 d2 s2 hs2 r2 g2 => ?_) (hx.mono s1)) hx⟩
  cases d2 <;> try exact g2.elim
  case int k =>
    cases r2
    exact ⟨p, k, vs, rfl, rfl, hs2.lst (Or.up s2 l1), g2.1.1, g2.1.2.1, by rw [r1.length]; exact g2.1.2.2, fun z hz => hk _ _ _ z _ _ (s1.trans s2) hs2 hz ((r1.mono s2).rep _) g2.2⟩
def rGetN (K : PySem.W.Frag) : V → V → Hp → VK → Prop := fun x y H Q => ∃ p xs i v, x = .ref p ∧ y = .int i ∧ SqL K H p xs ∧ 0 ≤ i ∧ xs[i.toNat]? = some v ∧ Q v H
theorem get_n : PGet X (rGetN X.K) := by
  intro pins s σ H o i ov iv Q I ro ri h
  obtain ⟨p, xs, k, v, rfl, rfl, hq, k0, hv, q⟩ := h
  cases ro
  obtain ⟨t, rfl⟩ := ri
  obtain ⟨its, r, pl, hz⟩ := I.list hq
  obtain ⟨w, ew, rw'⟩ := r.get hv
  have hl := r.length
  have hn := line63
  have hi := (List.getElem?_eq_some_iff.mp hv).1
  exact wpAny_getItem_list pl.isList k0 (by omega) (by simpa using ew) ⟨v, H, I, rw', q⟩
def sAugP (i : Nat) (gk g : AE wd) : AS wd := fun Da ρ ω => match ρ[i]? with
  | some (some (.own l)) => gk ρ ω (fun k ω1 => match k with
    | .int k => 0 ≤ k ∧ match l[k.toNat]? with
      | some (.int o) => g ρ ω1 (fun y ω2 => match y with
        | .int y => Da.nx (ρ.set i (some (.own (l.set k.toNat (.int (o + y)))))) ω2
        | _ => False) (fun x ω' => Da.ex x ρ ω')
      | _ => False
    | _ => False) (fun x ω' => Da.ex x ρ ω')
  | _ => False
theorem gs_augP (i : Nat) {x : Str} {ek : Expr} {p1 tp : Pos} {ge gk : AE wd} (he : GE wd X W e ge) (hk : GE wd X W ek gk) (hi : X.N[i]? = some x := by rfl) (hv : Vis X.env.scope x := by first | exact Or.inl rfl | exact Or.inr (Or.inl rfl) | exact Or.inr (Or.inr rfl)) (hd : (x == ("__debug__" : Str)) = false := by decide) (hcd : (x == ("__classdict__" : Str)) = false := by decide)
    (ha : ∀ ov iv new, augStore ek ov iv new = (do holding [new, ov, iv] (setItem ov iv new); release [new, ov, iv] []; pure .next) := by intros; rfl) : GS wd X W (.AugAssign (.Subscript (.Name x p1) ek tp) .Add e pos) (sAugP i gk ge) := by
  obtain ⟨t, pe, r⟩ := he.ex
  obtain ⟨tk, pk, rk⟩ := hk.ex
  refine ⟨_, ps_augS (pe_var hi hv hd hcd) pk get_n pe ip_add set_list ha, fun F0 F B ρ ω σ H Da E s q k => ?_⟩
  unfold sAugP at q
  cases en : ρ[i]? with
  | none => simp only [en] at q
  | some o =>
    cases o with
    | none => simp only [en] at q
    | some y =>
      cases y with
      | d x => simp only [en] at q
      | own l =>
        simp only [en] at q
        obtain ⟨p, vs, a, b, c⟩ := s.env.ent i _ en
        refine ⟨.ref p, a, rk F B ρ ω σ H _ _ _ s.st s.env q (fun B1 ω1 H1 v1 d1 s1 hs1 r1 g1 => ?_) (k.xok s)⟩
        cases d1 <;> try exact g1.elim
        case int z =>
          cases r1
          simp only at g1
          obtain ⟨z0, g1⟩ := g1
          cases el : l[z.toNat]? with
          | none => simp only [el] at g1
          | some old =>
            cases old <;> simp only [el] at g1
            case int o =>
              obtain ⟨vo, e1, e2⟩ := (c.mono s1).get el
              cases e2
              have hp1 := hs1.sF _ _ b
              refine ⟨p, vs, z, .int o, rfl, rfl, SqL.of hp1, z0, e1, r F B1 ρ ω1 σ H1 _ _ _ hs1 (s.env.mono s1) g1 (fun B2 ω2 H2 v2 d2 s2 hs2 r2 g2 => ?_) ((k.xok s).mono s1)⟩
              cases d2 <;> try exact g2.elim
              case int y =>
                cases r2
                simp only at g2
                have m := s1.trans s2
                have hz := (List.getElem?_eq_some_iff.mp e1).1
                refine ⟨o, y, rfl, rfl, p, vs, z, z.toNat, rfl, rfl, hs2.sF _ _ b, ?_, ?_⟩
                · unfold ixN
                  rw [if_pos z0, if_pos (by omega)]
                · have z2 := (s.up m hs2).setOwn i (hs2.wrote (ws := vs.set z.toNat (.int (o + y))) b) (RepAll.set (.int _) z.toNat (c.mono m)) (s.own i l p en a) fun j l' h1 h2 => s.env.dist j i l' l p h1 en h2 a
                  rw [set_same a] at z2
                  exact k.nx m z2 g2
end
def enumD (xs : List D) : List D := xs.mapIdx fun i d => .tup [.int (i : Nat), d]
theorem enum_at {xs : List D} {i : Nat} {d : D} (h : xs[i]? = some d) : (enumD xs)[i]? = some (.tup [.int (i : Nat), d]) := by
  unfold enumD
  rw [List.getElem?_mapIdx, h]
  rfl
theorem enum_len (xs : List D) : (enumD xs).length = xs.length := List.length_mapIdx
theorem enum_of {xs : List D} {i : Nat} {d : D} (h : (enumD xs)[i]? = some d) : ∃ x, xs[i]? = some x ∧ d = .tup [.int (i : Nat), x] := by
  have hi := (List.getElem?_eq_some_iff.mp h).1
  rw [enum_len] at hi
  have h2 := enum_at (List.getElem?_eq_getElem hi)
  rw [h2] at h
  exact ⟨_, List.getElem?_eq_getElem hi, (Option.some.inj h).symm⟩
def sForE {wd : Wd} (g : AE wd) (t : AG) (body : AS wd) : AS wd := fun Da ρ ω => g ρ ω (fun d ω1 => match d with
  | .tup xs => aFor (enumD xs) t body Da ρ ω1
  | _ => False) (fun x ω' => Da.ex x ρ ω')
theorem rs_forE {wd : Wd} {K : PySem.W.Frag} {W : WX} {te : TE} {ge : AE wd} {g : TG} {t : AG} {body : AS wd} {tb : TS} (he : RE wd K W te ge) (hg : RG wd K g t) (hb : RS wd K W tb body) : RS wd K W (tFor (iEnumT K te) g tb) (sForE ge t body) := fun F0 F B ρ ω σ H Da E s q k =>
  he F B ρ ω σ H _ _ _ s.st s.env q (fun B1 ω1 H1 v1 d1 s1 hs1 r1 g1 => by
    cases d1 <;> try exact g1.elim
    case tup xs =>
      obtain ⟨Iv, h0, hs, hd⟩ := g1
      cases r1 with
      | tup h1 r1 =>
        refine ⟨_, _, rfl, Same.seqT hs1.sB h1, for_it walk_enumT (Pv wd K F0 B1 Iv) ⟨F, B1, ρ, ω1, Same.refl _, s.up s1 hs1, h0⟩ (fun i σ H _ ⟨F', B', ρ', ω', m, s', _⟩ => Same.seqT (m.trans s'.st.sB) h1) (fun i x σ H H' hi p y => ?_) fun σ H ⟨F', B', ρ', ω', m, s', iv⟩ => ?_⟩
        · obtain ⟨T, x1, x2, rfl, hT, rfl, y1, y2⟩ := y
          cases y1
          obtain ⟨F', B', ρ', ω', m, s', iv⟩ := p
          have hi2 : i < xs.length := by
            rw [← r1.length]
            exact hi
          have hdd := List.getElem?_eq_getElem hi2
          obtain ⟨v, e1, e2⟩ := r1.get hdd
          cases (Eq.symm y2).trans e1
          obtain ⟨s2, st2⟩ := s'.st.new (o := .tup [.int (i : Nat), x2]) hT
          exact turn_of hb hg (k.mono s1) hs (enum_at hdd) ⟨F', upd B' T (.tup [.int (i : Nat), x2]), ρ', ω', m.trans s2, s'.up s2 st2, .tup (.inl (.inl upd_same)) (.cons (.int _) (.cons (e2.mono (m.trans s2)) .nil)), iv⟩
        · rw [r1.length, ← enum_len] at iv
          exact k.nx (s1.trans m) s' (hd _ _ iv)) (k.xok s)
theorem gs_forE {wd : Wd} {X : Cx} {W : WX} {body : List Stmt} {pos p p2 tp : Pos} {elts : List Expr} {kk : Nat} {t : AG} {g : AS wd} {e : Expr} {ge : AE wd} (hp : PassesOwn (model X.prog X.w) X.A X.env X.xe) (hc : X.calm = true) (hm : X.mg "enumerate" = none) (he : GE wd X W e ge) (hg : GG wd X (.Tuple elts kk tp) t) (hb : GSs wd X W body g) (hgr : Gl X "enumerate" := by rfl) (hst : starEach [e] X.env = [(false, eval e X.env)] := by rfl)
    (hs : ∀ x, foldedSetIterable (.Call (.Name "enumerate" p) [e] [] p2) X.env x = pure x := by intro _; rfl) : GS wd X W (.For (.Tuple elts kk tp) (.Call (.Name "enumerate" p) [e] [] p2) body [] pos) (sForE ge t g) :=
  let ⟨_, pe, re⟩ := he.ex; let ⟨_, pg, rg⟩ := hg.ex; let ⟨_, pb, rb⟩ := hb.ex; ⟨_, ps_for hp hc (pi_enumT hgr hm pe hst) pg pb hs, rs_forE re rg rb⟩
end MR
namespace MR
open PySem PySem.Spec L2
/-- a column of the product -/
def co : List Int → List Int → Nat → Int
  | [], _, _ => 0
  | x :: xs, ys, 0 => x * ys.getD 0 0
  | x :: xs, ys, k + 1 => x * ys.getD (k + 1) 0 + co xs ys k
def cols (xs ys : List Int) : List Int := if xs = [] ∨ ys = [] then [] else (List.range (xs.length + ys.length - 1)).map (co xs ys)
/-- carried on: limbs, carries, what is left -/
def cLow (b : Int) : Int → List Int → List Int
  | _, [] => []
  | c, s :: ss => (c + s) % b :: cLow b ((c + s) / b) ss
def cCar (b : Int) : Int → List Int → List Int
  | _, [] => []
  | c, s :: ss => (c + s) / b :: cCar b ((c + s) / b) ss
def cFin (b : Int) : Int → List Int → Int
  | c, [] => c
  | c, s :: ss => cFin b ((c + s) / b) ss
def cAll (b : Int) (ss : List Int) : List Int := cLow b 0 ss ++ (if 0 < cFin b 0 ss then [cFin b 0 ss] else [])
theorem cLow_len (b : Int) : ∀ (c : Int) (ss : List Int), (cLow b c ss).length = ss.length
  | _, [] => rfl
  | c, s :: ss => congrArg (· + 1) (cLow_len b _ ss)
theorem cLow_lim {b : Int} (hb : 2 ≤ b) : ∀ (c : Int) (ss : List Int), limbs b (cLow b c ss)
  | _, [] => fun _ h => nomatch h
  | c, s :: ss => fun n hn => by
    rcases List.mem_cons.mp hn with rfl | hn
    · exact ⟨Int.emod_nonneg _ (by omega), Int.emod_lt_of_pos _ (by omega)⟩
    · exact cLow_lim hb _ ss n hn
theorem cFin_nn {b : Int} (hb : 2 ≤ b) : ∀ (c : Int) (ss : List Int), 0 ≤ c → (∀ s ∈ ss, 0 ≤ s) → 0 ≤ cFin b c ss ∧ ∀ y ∈ cCar b c ss, 0 ≤ y
  | c, [], h, _ => ⟨h, fun _ h => nomatch h⟩
  | c, s :: ss, h, hs => by
    have h1 := hs s (by simp)
    have h2 : 0 ≤ (c + s) / b := Int.ediv_nonneg (by omega) (by omega)
    obtain ⟨h3, h4⟩ := cFin_nn hb ((c + s) / b) ss h2 fun t ht => hs t (by simp [ht])
    refine ⟨h3, fun y hy => ?_⟩
    rcases List.mem_cons.mp hy with rfl | hy
    · exact h2
    · exact h4 y hy
theorem cLow_wor {b : Int} (hb : 2 ≤ b) : ∀ (c : Int) (ss : List Int), wor b (cLow b c ss) + b ^ ss.length * cFin b c ss = c + wor b ss
  | c, [] => by show (0:Int) + b ^ 0 * c = c + 0; rw [Int.pow_zero]; omega
  | c, s :: ss => by
    have ih := cLow_wor hb ((c + s) / b) ss
    have e := Int.emod_add_mul_ediv (c + s) b
    show (c + s) % b + b * wor b (cLow b ((c + s) / b) ss) + b ^ (ss.length + 1) * cFin b ((c + s) / b) ss = c + (s + b * wor b ss)
    have e2 : b ^ (ss.length + 1) * cFin b ((c + s) / b) ss = b * (b ^ ss.length * cFin b ((c + s) / b) ss) := by
      rw [Int.pow_succ, Int.mul_comm (b ^ ss.length) b, Int.mul_assoc]
    rw [e2, Int.add_assoc, ← Int.mul_add, ih, Int.mul_add]
    omega
/-- what is carried on from sums of a worth between the powers is the row of it -/
theorem cAll_row {b : Int} (hb : 2 ≤ b) {ss : List Int} (hs : ∀ s ∈ ss, 0 ≤ s) (h1 : wor b ss < b ^ (ss.length + 1)) (h2 : ss ≠ [] → b ^ (ss.length - 1) ≤ wor b ss) : cAll b ss = digs b (wor b ss) := by
  have f0 := (cFin_nn hb 0 ss (Int.le_refl 0) hs).1
  have w := cLow_wor hb 0 ss
  have lim := cLow_lim hb 0 ss
  have len := cLow_len b 0 ss
  have l0 := wor_nn (by omega : (0:Int) ≤ b) lim
  have pp : (0:Int) < b ^ ss.length := Int.pow_pos (by omega)
  rw [Int.zero_add] at w
  unfold cAll
  split
  · rename_i c
    have fb : cFin b 0 ss < b := by
      refine Int.not_le.mp fun q => ?_
      have m := Int.mul_le_mul_of_nonneg_left q (Int.le_of_lt pp)
      rw [Int.pow_succ] at h1
      omega
    have lim2 : limbs b (cLow b 0 ss ++ [cFin b 0 ss]) := lim.append fun n hn => by
      rw [List.mem_singleton] at hn
      subst hn
      exact ⟨f0, fb⟩
    have e : wor b (cLow b 0 ss ++ [cFin b 0 ss]) = wor b ss := by
      rw [wor_append, len, ← w]
      have a1 : wor b [cFin b 0 ss] = cFin b 0 ss + b * 0 := rfl
      rw [a1, Int.mul_zero, Int.add_zero]
    rw [← e, digs_strip hb lim2, strip_keep _ (by omega)]
  · rename_i c
    have z : cFin b 0 ss = 0 := by omega
    rw [z, Int.mul_zero, Int.add_zero] at w
    rw [List.append_nil, ← w]
    refine (digs_wor hb ⟨lim, fun top => ?_⟩).symm
    have hn : ss ≠ [] := fun e => by
      rw [e] at top
      simp [cLow] at top
    have q := h2 hn
    obtain ⟨r, er⟩ := List.getLast?_eq_some_iff.mp top
    have rl : r.length = ss.length - 1 := by
      rw [← len, er, List.length_append]
      rfl
    have lr : limbs b r := fun n hm => lim n (by rw [er]; exact List.mem_append_left _ hm)
    have wr := wor_lt (by omega : (1:Int) ≤ b) lr
    rw [rl] at wr
    have e2 : wor b (cLow b 0 ss) = wor b r := by
      rw [er, wor_append]
      show wor b r + b ^ r.length * (0 + b * 0) = wor b r
      rw [Int.mul_zero, Int.add_zero, Int.mul_zero, Int.add_zero]
    omega
def sumB (b : Int) (f : Nat → Int) : Nat → Int
  | 0 => 0
  | n + 1 => f 0 + b * sumB b (fun k => f (k + 1)) n
theorem wor_range (b : Int) : ∀ (n : Nat) (f : Nat → Int), wor b ((List.range n).map f) = sumB b f n
  | 0, f => rfl
  | n + 1, f => by
    rw [List.range_succ_eq_map, List.map_cons, List.map_map]
    show f 0 + b * wor b ((List.range n).map (f ∘ Nat.succ)) = f 0 + b * sumB b (fun k => f (k + 1)) n
    rw [wor_range b n]
    rfl
theorem sumB_add (b : Int) : ∀ (n : Nat) (f g : Nat → Int), sumB b (fun k => f k + g k) n = sumB b f n + sumB b g n
  | 0, _, _ => rfl
  | n + 1, f, g => by
    show f 0 + g 0 + b * sumB b (fun k => f (k + 1) + g (k + 1)) n = f 0 + b * _ + (g 0 + b * _)
    rw [sumB_add b n, Int.mul_add]
    omega
theorem sumB_mul (b x : Int) : ∀ (n : Nat) (f : Nat → Int), sumB b (fun k => x * f k) n = x * sumB b f n
  | 0, _ => (Int.mul_zero x).symm
  | n + 1, f => by
    show x * f 0 + b * sumB b (fun k => x * f (k + 1)) n = x * (f 0 + b * _)
    rw [sumB_mul b x n, Int.mul_add, ← Int.mul_assoc, Int.mul_comm b x, Int.mul_assoc]
theorem sumB_zero (b : Int) : ∀ n : Nat, sumB b (fun _ => 0) n = 0
  | 0 => rfl
  | n + 1 => by
    show 0 + b * sumB b (fun _ => 0) n = 0
    rw [sumB_zero b n]
    omega
theorem sumB_get (b : Int) : ∀ (n : Nat) (ys : List Int), ys.length ≤ n → sumB b (fun k => ys.getD k 0) n = wor b ys
  | n, [], _ => by
    have e : (fun k => ([] : List Int).getD k 0) = fun _ => 0 := by
      funext k
      simp
    rw [e]
    exact sumB_zero b n
  | n + 1, y :: ys, h => by
    show y + b * sumB b (fun k => ys.getD k 0) n = y + b * wor b ys
    rw [sumB_get b n ys (by rw [List.length_cons] at h; omega)]
  | 0, y :: ys, h => by
    rw [List.length_cons] at h
    omega
theorem sumB_co (b : Int) (ys : List Int) : ∀ (xs : List Int) (n : Nat), xs.length + ys.length ≤ n + 1 → sumB b (co xs ys) n = wor b xs * wor b ys ∨ (xs ≠ [] ∧ ys = [])
  | [], n, _ => .inl (by
    have e : co [] ys = fun _ => 0 := by
      funext k
      rfl
    rw [e, sumB_zero]
    show 0 = 0 * wor b ys
    rw [Int.zero_mul])
  | x :: xs, n, h => by
    by_cases y0 : ys = []
    · exact .inr ⟨by simp, y0⟩
    · refine .inl ?_
      have hy : 0 < ys.length := List.length_pos_iff.mpr y0
      rw [List.length_cons] at h
      obtain ⟨n, rfl⟩ : ∃ m, n = m + 1 := ⟨n - 1, by omega⟩
      have ih := (sumB_co b ys xs n (by omega)).resolve_right fun z => y0 z.2
      have e : co (x :: xs) ys = fun k => x * ys.getD k 0 + (match k with | 0 => 0 | k + 1 => co xs ys k) := by
        funext k
        cases k with
        | zero => exact (Int.add_zero _).symm
        | succ k => rfl
      rw [e, sumB_add, sumB_mul, sumB_get b _ ys (by omega)]
      show x * wor b ys + (0 + b * sumB b (co xs ys) n) = (x + b * wor b xs) * wor b ys
      rw [ih, Int.add_mul, Int.zero_add, Int.mul_assoc]
theorem cols_wor (b : Int) (xs ys : List Int) : wor b (cols xs ys) = wor b xs * wor b ys := by
  unfold cols
  split
  · rename_i c
    rcases c with rfl | rfl
    · show 0 = 0 * wor b ys
      rw [Int.zero_mul]
    · show 0 = wor b xs * 0
      rw [Int.mul_zero]
  · rename_i c
    rw [wor_range]
    exact (sumB_co b ys xs _ (by omega)).resolve_right fun z => c (.inr z.2)
theorem cols_len (xs ys : List Int) (h1 : xs ≠ []) (h2 : ys ≠ []) : (cols xs ys).length = xs.length + ys.length - 1 := by
  unfold cols
  rw [if_neg (by simp [h1, h2]), List.length_map, List.length_range]
theorem co_nn : ∀ (xs ys : List Int) (k : Nat), (∀ x ∈ xs, 0 ≤ x) → (∀ y ∈ ys, 0 ≤ y) → 0 ≤ co xs ys k
  | [], _, _, _, _ => Int.le_refl 0
  | x :: xs, ys, k, h1, h2 => by
    have g : ∀ j, 0 ≤ ys.getD j 0 := fun j => by
      rw [List.getD_eq_getElem?_getD]
      cases e : ys[j]? with
      | none => exact Int.le_refl 0
      | some y => exact h2 y (List.mem_of_getElem? e)
    have hx := h1 x (by simp)
    cases k with
    | zero => exact Int.mul_nonneg hx (g 0)
    | succ k =>
      have ih := co_nn xs ys k (fun z hz => h1 z (by simp [hz])) h2
      have := Int.mul_nonneg hx (g (k + 1))
      show 0 ≤ x * ys.getD (k + 1) 0 + co xs ys k
      omega
theorem cols_nn {xs ys : List Int} (h1 : ∀ x ∈ xs, 0 ≤ x) (h2 : ∀ y ∈ ys, 0 ≤ y) : ∀ s ∈ cols xs ys, 0 ≤ s := fun s hs => by
  unfold cols at hs
  split at hs
  · cases hs
  · obtain ⟨k, _, rfl⟩ := List.mem_map.mp hs
    exact co_nn xs ys k h1 h2
/-- one more limb -/
theorem co_snoc : ∀ (xs : List Int) (x : Int) (ys : List Int) (k : Nat), co (xs ++ [x]) ys k = co xs ys k + (if xs.length ≤ k then x * ys.getD (k - xs.length) 0 else 0)
  | [], x, ys, k => by
    cases k with
    | zero => show x * ys.getD 0 0 = 0 + x * ys.getD 0 0; omega
    | succ k => show x * ys.getD (k + 1) 0 + 0 = 0 + x * ys.getD (k + 1) 0; omega
  | z :: xs, x, ys, 0 => by
    show z * ys.getD 0 0 = z * ys.getD 0 0 + (if xs.length + 1 ≤ 0 then _ else 0)
    rw [if_neg (by omega)]
    omega
  | z :: xs, x, ys, k + 1 => by
    show z * ys.getD (k + 1) 0 + co (xs ++ [x]) ys k = z * ys.getD (k + 1) 0 + co xs ys k + (if xs.length + 1 ≤ k + 1 then x * ys.getD (k + 1 - (xs.length + 1)) 0 else 0)
    rw [co_snoc xs x ys k, Nat.add_sub_add_right]
    by_cases c : xs.length ≤ k
    · rw [if_pos c, if_pos (by omega)]
      omega
    · rw [if_neg c, if_neg (by omega)]
      omega
/-- the product's worth lies between the powers -/
theorem prod_between {b : Int} (hb : 2 ≤ b) {xs ys : List Int} (h1 : isRow b xs) (h2 : isRow b ys) (n1 : xs ≠ []) (n2 : ys ≠ []) : wor b xs * wor b ys < b ^ (xs.length + ys.length) ∧ b ^ (xs.length + ys.length - 2) ≤ wor b xs * wor b ys := by
  have a1 := wor_lt (by omega : (1:Int) ≤ b) h1.lim
  have a2 := wor_lt (by omega : (1:Int) ≤ b) h2.lim
  have z1 := wor_nn (by omega : (0:Int) ≤ b) h1.lim
  have z2 := wor_nn (by omega : (0:Int) ≤ b) h2.lim
  have c1 := row_len hb h1 n1
  have c2 := row_len hb h2 n2
  have l1 : 0 < xs.length := List.length_pos_iff.mpr n1
  have l2 : 0 < ys.length := List.length_pos_iff.mpr n2
  have p1 : (0:Int) < b ^ (xs.length - 1) := Int.pow_pos (by omega)
  have p2 : (0:Int) < b ^ (ys.length - 1) := Int.pow_pos (by omega)
  have p3 : (0:Int) < b ^ ys.length := Int.pow_pos (by omega)
  refine ⟨?_, ?_⟩
  · rw [Int.pow_add]
    have m1 : wor b xs * wor b ys ≤ wor b xs * b ^ ys.length := Int.mul_le_mul_of_nonneg_left (by omega) z1
    have m2 : wor b xs * b ^ ys.length < b ^ xs.length * b ^ ys.length := Int.mul_lt_mul_of_pos_right a1 p3
    omega
  · have e : xs.length + ys.length - 2 = (xs.length - 1) + (ys.length - 1) := by omega
    rw [e, Int.pow_add]
    have m1 : b ^ (xs.length - 1) * b ^ (ys.length - 1) ≤ wor b xs * b ^ (ys.length - 1) := Int.mul_le_mul_of_nonneg_right c1 (by omega)
    have m2 : wor b xs * b ^ (ys.length - 1) ≤ wor b xs * wor b ys := Int.mul_le_mul_of_nonneg_left c2 z1
    omega
theorem prod_row {b : Int} (hb : 2 ≤ b) {xs ys : List Int} (h1 : isRow b xs) (h2 : isRow b ys) : cAll b (cols xs ys) = digs b (wor b xs * wor b ys) := by
  by_cases n1 : xs = []
  · subst n1
    have e : cols [] ys = [] := if_pos (.inl rfl)
    rw [e]
    show ([] : List Int) ++ (if (0:Int) < 0 then [0] else []) = digs b (0 * wor b ys)
    rw [if_neg (by decide), Int.zero_mul, digs_nil (Int.le_refl 0)]
    rfl
  · by_cases n2 : ys = []
    · subst n2
      have e : cols xs [] = [] := if_pos (.inr rfl)
      rw [e]
      show ([] : List Int) ++ (if (0:Int) < 0 then [0] else []) = digs b (wor b xs * 0)
      rw [if_neg (by decide), Int.mul_zero, digs_nil (Int.le_refl 0)]
      rfl
    · have l1 : 0 < xs.length := List.length_pos_iff.mpr n1
      have l2 : 0 < ys.length := List.length_pos_iff.mpr n2
      have bt := prod_between hb h1 h2 n1 n2
      have e := cols_wor b xs ys
      have el := cols_len xs ys n1 n2
      rw [← e]
      refine cAll_row hb (cols_nn (fun x hx => (h1.lim x hx).1) (fun y hy => (h2.lim y hy).1)) ?_ fun _ => ?_
      · rw [e, el]
        have : xs.length + ys.length - 1 + 1 = xs.length + ys.length := by omega
        rw [this]
        exact bt.1
      · rw [e, el]
        have : xs.length + ys.length - 1 - 1 = xs.length + ys.length - 2 := by omega
        rw [this]
        exact bt.2
theorem set_range {N K : Nat} {f g : Nat → Int} {v : Int} (h : ∀ k, k < N → g k = if k = K then v else f k) : (((List.range N).map f).map D.int).set K (.int v) = ((List.range N).map g).map D.int := by
  refine List.ext_getElem (by simp) fun k h1 h2 => ?_
  have hk : k < N := by simpa using h2
  have e := h k hk
  rw [List.getElem_set]
  simp only [List.getElem_map, List.getElem_range]
  by_cases c : K = k
  · subst c
    rw [if_pos rfl] at e
    rw [if_pos rfl, e]
  · rw [if_neg (fun z => c z.symm)] at e
    rw [if_neg c, e]
theorem init_range (ys : List Int) (N : Nat) : (List.replicate N [D.int 0]).flatten = ((List.range N).map (co [] ys)).map D.int := by
  rw [fl_rep]
  refine List.ext_getElem (by simp) fun k h1 h2 => ?_
  simp [co]
/-- a row's columns while a limb's are put in -/
def mid (xs ys : List Int) (x : Int) (j k : Nat) : Int := co xs ys k + (if xs.length ≤ k ∧ k < xs.length + j then x * ys.getD (k - xs.length) 0 else 0)
theorem mid_zero (xs ys : List Int) (x : Int) : mid xs ys x 0 = co xs ys := by
  funext k
  unfold mid
  rw [if_neg (by omega)]
  omega
theorem mid_end (xs ys : List Int) (x : Int) : mid xs ys x ys.length = co (xs ++ [x]) ys := by
  funext k
  unfold mid
  rw [co_snoc]
  by_cases c : xs.length ≤ k
  · rw [if_pos c]
    by_cases d : k < xs.length + ys.length
    · rw [if_pos ⟨c, d⟩]
    · rw [if_neg (by omega), List.getD_eq_getElem?_getD, List.getElem?_eq_none (by omega)]
      show _ + 0 = _ + x * 0
      rw [Int.mul_zero]
  · rw [if_neg c, if_neg (by omega)]
theorem mid_step {xs ys : List Int} {x y : Int} {j : Nat} (h : ys[j]? = some y) (k : Nat) : mid xs ys x (j + 1) k = if k = xs.length + j then mid xs ys x j (xs.length + j) + x * y else mid xs ys x j k := by
  unfold mid
  by_cases c : k = xs.length + j
  · subst c
    rw [if_pos rfl, if_pos (by omega), if_neg (by omega)]
    have e : xs.length + j - xs.length = j := by omega
    rw [e, List.getD_eq_getElem?_getD, h]
    show _ + x * y = _
    omega
  · rw [if_neg c]
    by_cases d : xs.length ≤ k ∧ k < xs.length + j
    · rw [if_pos d, if_pos (by omega)]
    · rw [if_neg d, if_neg (by omega)]
theorem mulw_rows {b : Int} (hb : base_ b) {xs ys : List Int} (h1 : limbs b xs) (h2 : limbs b ys) (l1 : xs.length ≤ 30000) (l2 : ys.length ≤ 30000) : CMulW (wor b xs) (wor b ys) := by
  have b1 := hb.1
  have a1 := wor_lt (by omega : (1:Int) ≤ b) h1
  have a2 := wor_lt (by omega : (1:Int) ≤ b) h2
  have z1 := wor_nn (by omega : (0:Int) ≤ b) h1
  have z2 := wor_nn (by omega : (0:Int) ≤ b) h2
  have q1 := pow14 (by omega : (0:Int) ≤ b) hb.2 xs.length
  have q2 := pow14 (by omega : (0:Int) ≤ b) hb.2 ys.length
  have e : ∀ n : Nat, (2:Int) ^ n < 2 ^ (n + 1) := fun n => by
    have q : (0:Int) < 2 ^ n := Int.pow_pos (by decide)
    rw [Int.pow_succ]
    omega
  have e1 := e (14 * xs.length)
  have e2 := e (14 * ys.length)
  exact mulw (14 * xs.length + 1) (14 * ys.length + 1) z1 (by omega) z2 (by omega) (by omega) (by omega) (by omega)
theorem wor_snoc (b : Int) (ys : List Int) (l : Int) : wor b (ys ++ [l]) = wor b ys + l * b ^ ys.length := by
  rw [wor_append]
  show wor b ys + b ^ ys.length * (l + b * 0) = _
  rw [Int.mul_zero, Int.add_zero, Int.mul_comm]
/-- the row of a number: its limbs, its worth, its length -/
theorem digs_ok {b n : Int} (hb : 2 ≤ b) (h0 : 0 ≤ n) {k : Nat} (h : n < b ^ k) : isRow b (digs b n) ∧ wor b (digs b n) = n ∧ (digs b n).length ≤ k :=
  ⟨(digs_row hb (n.toNat + 1) n (by omega) h0).1, (digs_row hb (n.toNat + 1) n (by omega) h0).2, digs_len hb h⟩
def small_ (ns : List Int) : Prop := ∀ n ∈ ns, 0 ≤ n ∧ n < 10000
theorem limbs.small {b : Int} {ns : List Int} (h : limbs b ns) (hb : b ≤ 10000) : small_ ns := fun n hn => ⟨(h n hn).1, by have := (h n hn).2; omega⟩
def aColumns : ASp DWd := fun ds ω Q _ => ∃ xs ys, ds = [row xs, row ys] ∧ small_ xs ∧ small_ ys ∧ xs.length ≤ 20000 ∧ ys.length ≤ 20000 ∧ Q (row (cols xs ys)) ω
def aCarried : ASp DWd := fun ds ω Q _ => ∃ ss b, (ds = [row ss, .int b] ∨ ds = [.lst (ss.map D.int), .int b]) ∧ base_ b ∧ ss.length ≤ 50000 ∧ Q (.tup [row (cAll b ss), row (cCar b 0 ss)]) ω
def aPlain : ASp DWd := fun ds ω Q _ => ∃ xs ys b, ds = [row xs, row ys, .int b] ∧ base_ b ∧ isRow b xs ∧ isRow b ys ∧ xs.length ≤ 20000 ∧ ys.length ≤ 20000 ∧ Q (row (digs b (wor b xs * wor b ys))) ω
def aPlainC : ASp DWd := fun ds ω Q _ => ∃ xs ys b, ds = [row xs, row ys, .int b] ∧ base_ b ∧ isRow b xs ∧ isRow b ys ∧ xs.length ≤ 20000 ∧ ys.length ≤ 20000 ∧ Q (row (cCar b 0 (cols xs ys))) ω
end MR
namespace MR
open PySem PySem.Spec L2
theorem fTru_bl (b : Bool) (Q : Bool → Prop) : fTru (.bl b) Q = Q b := rfl
theorem fTru_non (Q : Bool → Prop) : fTru .non Q = Q false := rfl
theorem fTru_int (i : Int) (Q : Bool → Prop) : fTru (.int i) Q = Q (i != 0) := rfl
theorem fTru_str (y : Str) (Q : Bool → Prop) : fTru (.str y) Q = (y.length ≤ sizeLine ∧ Q ((y.length : Int) != 0)) := rfl
theorem fTru_lst (xs : List D) (Q : Bool → Prop) : fTru (.lst xs) Q = Q (!xs.isEmpty) := rfl
theorem fTru_tup (xs : List D) (Q : Bool → Prop) : fTru (.tup xs) Q = Q (!xs.isEmpty) := rfl
theorem fAdd_int (i j : Int) (Q : D → Prop) : fAdd (.int i) (.int j) Q = Q (.int (i + j)) := rfl
theorem fAdd_str (x y : Str) (Q : D → Prop) : fAdd (.str x) (.str y) Q = (x.length + y.length ≤ sizeLine ∧ Q (.str (x ++ y))) := rfl
theorem fAdd_tup (xs ys : List D) (Q : D → Prop) : fAdd (.tup xs) (.tup ys) Q = (xs.length + ys.length ≤ sizeLine ∧ Q (.tup (xs ++ ys))) := rfl
theorem fAdd_lst (xs ys : List D) (Q : D → Prop) : fAdd (.lst xs) (.lst ys) Q = (xs.length + ys.length ≤ sizeLine ∧ Q (.lst (xs ++ ys))) := rfl
theorem fMul_int (i j : Int) (Q : D → Prop) : fMul (.int i) (.int j) Q = (CMulW i j ∧ Q (.int (i * j))) := rfl
theorem fMul_tup (xs : List D) (k : Int) (Q : D → Prop) : fMul (.tup xs) (.int k) Q = (-(2 ^ 63) ≤ k ∧ k ≤ 1000 ∧ xs.length ≤ 1000 ∧ Q (.tup (List.replicate k.toNat xs).flatten)) := rfl
theorem fMul_lst (xs : List D) (k : Int) (Q : D → Prop) : fMul (.lst xs) (.int k) Q = (-(2 ^ 63) ≤ k ∧ k < 2 ^ 63 ∧ xs.length * k.toNat ≤ sizeLine ∧ Q (.lst (List.replicate k.toNat xs).flatten)) := rfl
theorem fEq_int (x y : Int) (Q : D → Prop) : fEq (.int x) (.int y) Q = Q (.bl (decide (x = y))) := rfl
theorem fEq_str (x y : Str) (Q : D → Prop) : fEq (.str x) (.str y) Q = Q (.bl (decide (x = y))) := rfl
theorem fEq_bl (x y : Bool) (Q : D → Prop) : fEq (.bl x) (.bl y) Q = Q (.bl (decide (x = y))) := rfl
theorem fEq_tup_tup (xs : List D) (ys : List D) (Q : D → Prop) : fEq (.tup xs) (.tup ys) Q = (eqOk (.tup xs) = true ∧ eqOk (.tup ys) = true ∧ Q (.bl (deq (.tup xs) (.tup ys)))) := rfl
theorem fEq_tup_lst (xs : List D) (ys : List D) (Q : D → Prop) : fEq (.tup xs) (.lst ys) Q = (eqOk (.tup xs) = true ∧ eqOk (.lst ys) = true ∧ Q (.bl (deq (.tup xs) (.lst ys)))) := rfl
theorem fEq_tup_int (xs : List D) (j : Int) (Q : D → Prop) : fEq (.tup xs) (.int j) Q = (eqOk (.tup xs) = true ∧ eqOk (.int j) = true ∧ Q (.bl (deq (.tup xs) (.int j)))) := rfl
theorem fEq_tup_non (xs : List D) (Q : D → Prop) : fEq (.tup xs) .non Q = (eqOk (.tup xs) = true ∧ eqOk .non = true ∧ Q (.bl (deq (.tup xs) .non))) := rfl
theorem fEq_tup_str (xs : List D) (t : Str) (Q : D → Prop) : fEq (.tup xs) (.str t) Q = (eqOk (.tup xs) = true ∧ eqOk (.str t) = true ∧ Q (.bl (deq (.tup xs) (.str t)))) := rfl
theorem fEq_tup_bl (xs : List D) (c : Bool) (Q : D → Prop) : fEq (.tup xs) (.bl c) Q = (eqOk (.tup xs) = true ∧ eqOk (.bl c) = true ∧ Q (.bl (deq (.tup xs) (.bl c)))) := rfl
theorem fEq_lst_tup (xs : List D) (ys : List D) (Q : D → Prop) : fEq (.lst xs) (.tup ys) Q = (eqOk (.lst xs) = true ∧ eqOk (.tup ys) = true ∧ Q (.bl (deq (.lst xs) (.tup ys)))) := rfl
theorem fEq_lst_lst (xs : List D) (ys : List D) (Q : D → Prop) : fEq (.lst xs) (.lst ys) Q = (eqOk (.lst xs) = true ∧ eqOk (.lst ys) = true ∧ Q (.bl (deq (.lst xs) (.lst ys)))) := rfl
theorem fEq_lst_int (xs : List D) (j : Int) (Q : D → Prop) : fEq (.lst xs) (.int j) Q = (eqOk (.lst xs) = true ∧ eqOk (.int j) = true ∧ Q (.bl (deq (.lst xs) (.int j)))) := rfl
theorem fEq_lst_non (xs : List D) (Q : D → Prop) : fEq (.lst xs) .non Q = (eqOk (.lst xs) = true ∧ eqOk .non = true ∧ Q (.bl (deq (.lst xs) .non))) := rfl
theorem fEq_lst_str (xs : List D) (t : Str) (Q : D → Prop) : fEq (.lst xs) (.str t) Q = (eqOk (.lst xs) = true ∧ eqOk (.str t) = true ∧ Q (.bl (deq (.lst xs) (.str t)))) := rfl
theorem fEq_lst_bl (xs : List D) (c : Bool) (Q : D → Prop) : fEq (.lst xs) (.bl c) Q = (eqOk (.lst xs) = true ∧ eqOk (.bl c) = true ∧ Q (.bl (deq (.lst xs) (.bl c)))) := rfl
theorem fEq_int_tup (i : Int) (ys : List D) (Q : D → Prop) : fEq (.int i) (.tup ys) Q = (eqOk (.int i) = true ∧ eqOk (.tup ys) = true ∧ Q (.bl (deq (.int i) (.tup ys)))) := rfl
theorem fEq_int_lst (i : Int) (ys : List D) (Q : D → Prop) : fEq (.int i) (.lst ys) Q = (eqOk (.int i) = true ∧ eqOk (.lst ys) = true ∧ Q (.bl (deq (.int i) (.lst ys)))) := rfl
theorem fEq_int_non (i : Int) (Q : D → Prop) : fEq (.int i) .non Q = (eqOk (.int i) = true ∧ eqOk .non = true ∧ Q (.bl (deq (.int i) .non))) := rfl
theorem fEq_int_str (i : Int) (t : Str) (Q : D → Prop) : fEq (.int i) (.str t) Q = (eqOk (.int i) = true ∧ eqOk (.str t) = true ∧ Q (.bl (deq (.int i) (.str t)))) := rfl
theorem fEq_int_bl (i : Int) (c : Bool) (Q : D → Prop) : fEq (.int i) (.bl c) Q = (eqOk (.int i) = true ∧ eqOk (.bl c) = true ∧ Q (.bl (deq (.int i) (.bl c)))) := rfl
theorem fEq_non_tup (ys : List D) (Q : D → Prop) : fEq .non (.tup ys) Q = (eqOk .non = true ∧ eqOk (.tup ys) = true ∧ Q (.bl (deq .non (.tup ys)))) := rfl
theorem fEq_non_lst (ys : List D) (Q : D → Prop) : fEq .non (.lst ys) Q = (eqOk .non = true ∧ eqOk (.lst ys) = true ∧ Q (.bl (deq .non (.lst ys)))) := rfl
theorem fEq_non_int (j : Int) (Q : D → Prop) : fEq .non (.int j) Q = (eqOk .non = true ∧ eqOk (.int j) = true ∧ Q (.bl (deq .non (.int j)))) := rfl
theorem fEq_non_non  (Q : D → Prop) : fEq .non .non Q = (eqOk .non = true ∧ eqOk .non = true ∧ Q (.bl (deq .non .non))) := rfl
theorem fEq_non_str (t : Str) (Q : D → Prop) : fEq .non (.str t) Q = (eqOk .non = true ∧ eqOk (.str t) = true ∧ Q (.bl (deq .non (.str t)))) := rfl
theorem fEq_non_bl (c : Bool) (Q : D → Prop) : fEq .non (.bl c) Q = (eqOk .non = true ∧ eqOk (.bl c) = true ∧ Q (.bl (deq .non (.bl c)))) := rfl
theorem fEq_str_tup (s : Str) (ys : List D) (Q : D → Prop) : fEq (.str s) (.tup ys) Q = (eqOk (.str s) = true ∧ eqOk (.tup ys) = true ∧ Q (.bl (deq (.str s) (.tup ys)))) := rfl
theorem fEq_str_lst (s : Str) (ys : List D) (Q : D → Prop) : fEq (.str s) (.lst ys) Q = (eqOk (.str s) = true ∧ eqOk (.lst ys) = true ∧ Q (.bl (deq (.str s) (.lst ys)))) := rfl
theorem fEq_str_int (s : Str) (j : Int) (Q : D → Prop) : fEq (.str s) (.int j) Q = (eqOk (.str s) = true ∧ eqOk (.int j) = true ∧ Q (.bl (deq (.str s) (.int j)))) := rfl
theorem fEq_str_non (s : Str) (Q : D → Prop) : fEq (.str s) .non Q = (eqOk (.str s) = true ∧ eqOk .non = true ∧ Q (.bl (deq (.str s) .non))) := rfl
theorem fEq_str_bl (s : Str) (c : Bool) (Q : D → Prop) : fEq (.str s) (.bl c) Q = (eqOk (.str s) = true ∧ eqOk (.bl c) = true ∧ Q (.bl (deq (.str s) (.bl c)))) := rfl
theorem fEq_bl_tup (b : Bool) (ys : List D) (Q : D → Prop) : fEq (.bl b) (.tup ys) Q = (eqOk (.bl b) = true ∧ eqOk (.tup ys) = true ∧ Q (.bl (deq (.bl b) (.tup ys)))) := rfl
theorem fEq_bl_lst (b : Bool) (ys : List D) (Q : D → Prop) : fEq (.bl b) (.lst ys) Q = (eqOk (.bl b) = true ∧ eqOk (.lst ys) = true ∧ Q (.bl (deq (.bl b) (.lst ys)))) := rfl
theorem fEq_bl_int (b : Bool) (j : Int) (Q : D → Prop) : fEq (.bl b) (.int j) Q = (eqOk (.bl b) = true ∧ eqOk (.int j) = true ∧ Q (.bl (deq (.bl b) (.int j)))) := rfl
theorem fEq_bl_non (b : Bool) (Q : D → Prop) : fEq (.bl b) .non Q = (eqOk (.bl b) = true ∧ eqOk .non = true ∧ Q (.bl (deq (.bl b) .non))) := rfl
theorem fEq_bl_str (b : Bool) (t : Str) (Q : D → Prop) : fEq (.bl b) (.str t) Q = (eqOk (.bl b) = true ∧ eqOk (.str t) = true ∧ Q (.bl (deq (.bl b) (.str t)))) := rfl
theorem fNe_int (x y : Int) (Q : D → Prop) : fNe (.int x) (.int y) Q = Q (.bl (!decide (x = y))) := rfl
theorem fNe_str (x y : Str) (Q : D → Prop) : fNe (.str x) (.str y) Q = Q (.bl (!decide (x = y))) := rfl
theorem fNe_bl (x y : Bool) (Q : D → Prop) : fNe (.bl x) (.bl y) Q = Q (.bl (!decide (x = y))) := rfl
theorem fNe_tup_tup (xs : List D) (ys : List D) (Q : D → Prop) : fNe (.tup xs) (.tup ys) Q = (eqOk (.tup xs) = true ∧ eqOk (.tup ys) = true ∧ Q (.bl (!deq (.tup xs) (.tup ys)))) := rfl
theorem fNe_tup_lst (xs : List D) (ys : List D) (Q : D → Prop) : fNe (.tup xs) (.lst ys) Q = (eqOk (.tup xs) = true ∧ eqOk (.lst ys) = true ∧ Q (.bl (!deq (.tup xs) (.lst ys)))) := rfl
theorem fNe_tup_int (xs : List D) (j : Int) (Q : D → Prop) : fNe (.tup xs) (.int j) Q = (eqOk (.tup xs) = true ∧ eqOk (.int j) = true ∧ Q (.bl (!deq (.tup xs) (.int j)))) := rfl
theorem fNe_tup_non (xs : List D) (Q : D → Prop) : fNe (.tup xs) .non Q = (eqOk (.tup xs) = true ∧ eqOk .non = true ∧ Q (.bl (!deq (.tup xs) .non))) := rfl
theorem fNe_tup_str (xs : List D) (t : Str) (Q : D → Prop) : fNe (.tup xs) (.str t) Q = (eqOk (.tup xs) = true ∧ eqOk (.str t) = true ∧ Q (.bl (!deq (.tup xs) (.str t)))) := rfl
theorem fNe_tup_bl (xs : List D) (c : Bool) (Q : D → Prop) : fNe (.tup xs) (.bl c) Q = (eqOk (.tup xs) = true ∧ eqOk (.bl c) = true ∧ Q (.bl (!deq (.tup xs) (.bl c)))) := rfl
theorem fNe_lst_tup (xs : List D) (ys : List D) (Q : D → Prop) : fNe (.lst xs) (.tup ys) Q = (eqOk (.lst xs) = true ∧ eqOk (.tup ys) = true ∧ Q (.bl (!deq (.lst xs) (.tup ys)))) := rfl
theorem fNe_lst_lst (xs : List D) (ys : List D) (Q : D → Prop) : fNe (.lst xs) (.lst ys) Q = (eqOk (.lst xs) = true ∧ eqOk (.lst ys) = true ∧ Q (.bl (!deq (.lst xs) (.lst ys)))) := rfl
theorem fNe_lst_int (xs : List D) (j : Int) (Q : D → Prop) : fNe (.lst xs) (.int j) Q = (eqOk (.lst xs) = true ∧ eqOk (.int j) = true ∧ Q (.bl (!deq (.lst xs) (.int j)))) := rfl
theorem fNe_lst_non (xs : List D) (Q : D → Prop) : fNe (.lst xs) .non Q = (eqOk (.lst xs) = true ∧ eqOk .non = true ∧ Q (.bl (!deq (.lst xs) .non))) := rfl
theorem fNe_lst_str (xs : List D) (t : Str) (Q : D → Prop) : fNe (.lst xs) (.str t) Q = (eqOk (.lst xs) = true ∧ eqOk (.str t) = true ∧ Q (.bl (!deq (.lst xs) (.str t)))) := rfl
theorem fNe_lst_bl (xs : List D) (c : Bool) (Q : D → Prop) : fNe (.lst xs) (.bl c) Q = (eqOk (.lst xs) = true ∧ eqOk (.bl c) = true ∧ Q (.bl (!deq (.lst xs) (.bl c)))) := rfl
theorem fNe_int_tup (i : Int) (ys : List D) (Q : D → Prop) : fNe (.int i) (.tup ys) Q = (eqOk (.int i) = true ∧ eqOk (.tup ys) = true ∧ Q (.bl (!deq (.int i) (.tup ys)))) := rfl
theorem fNe_int_lst (i : Int) (ys : List D) (Q : D → Prop) : fNe (.int i) (.lst ys) Q = (eqOk (.int i) = true ∧ eqOk (.lst ys) = true ∧ Q (.bl (!deq (.int i) (.lst ys)))) := rfl
theorem fNe_int_non (i : Int) (Q : D → Prop) : fNe (.int i) .non Q = (eqOk (.int i) = true ∧ eqOk .non = true ∧ Q (.bl (!deq (.int i) .non))) := rfl
theorem fNe_int_str (i : Int) (t : Str) (Q : D → Prop) : fNe (.int i) (.str t) Q = (eqOk (.int i) = true ∧ eqOk (.str t) = true ∧ Q (.bl (!deq (.int i) (.str t)))) := rfl
theorem fNe_int_bl (i : Int) (c : Bool) (Q : D → Prop) : fNe (.int i) (.bl c) Q = (eqOk (.int i) = true ∧ eqOk (.bl c) = true ∧ Q (.bl (!deq (.int i) (.bl c)))) := rfl
theorem fNe_non_tup (ys : List D) (Q : D → Prop) : fNe .non (.tup ys) Q = (eqOk .non = true ∧ eqOk (.tup ys) = true ∧ Q (.bl (!deq .non (.tup ys)))) := rfl
theorem fNe_non_lst (ys : List D) (Q : D → Prop) : fNe .non (.lst ys) Q = (eqOk .non = true ∧ eqOk (.lst ys) = true ∧ Q (.bl (!deq .non (.lst ys)))) := rfl
theorem fNe_non_int (j : Int) (Q : D → Prop) : fNe .non (.int j) Q = (eqOk .non = true ∧ eqOk (.int j) = true ∧ Q (.bl (!deq .non (.int j)))) := rfl
theorem fNe_non_non  (Q : D → Prop) : fNe .non .non Q = (eqOk .non = true ∧ eqOk .non = true ∧ Q (.bl (!deq .non .non))) := rfl
theorem fNe_non_str (t : Str) (Q : D → Prop) : fNe .non (.str t) Q = (eqOk .non = true ∧ eqOk (.str t) = true ∧ Q (.bl (!deq .non (.str t)))) := rfl
theorem fNe_non_bl (c : Bool) (Q : D → Prop) : fNe .non (.bl c) Q = (eqOk .non = true ∧ eqOk (.bl c) = true ∧ Q (.bl (!deq .non (.bl c)))) := rfl
theorem fNe_str_tup (s : Str) (ys : List D) (Q : D → Prop) : fNe (.str s) (.tup ys) Q = (eqOk (.str s) = true ∧ eqOk (.tup ys) = true ∧ Q (.bl (!deq (.str s) (.tup ys)))) := rfl
theorem fNe_str_lst (s : Str) (ys : List D) (Q : D → Prop) : fNe (.str s) (.lst ys) Q = (eqOk (.str s) = true ∧ eqOk (.lst ys) = true ∧ Q (.bl (!deq (.str s) (.lst ys)))) := rfl
theorem fNe_str_int (s : Str) (j : Int) (Q : D → Prop) : fNe (.str s) (.int j) Q = (eqOk (.str s) = true ∧ eqOk (.int j) = true ∧ Q (.bl (!deq (.str s) (.int j)))) := rfl
theorem fNe_str_non (s : Str) (Q : D → Prop) : fNe (.str s) .non Q = (eqOk (.str s) = true ∧ eqOk .non = true ∧ Q (.bl (!deq (.str s) .non))) := rfl
theorem fNe_str_bl (s : Str) (c : Bool) (Q : D → Prop) : fNe (.str s) (.bl c) Q = (eqOk (.str s) = true ∧ eqOk (.bl c) = true ∧ Q (.bl (!deq (.str s) (.bl c)))) := rfl
theorem fNe_bl_tup (b : Bool) (ys : List D) (Q : D → Prop) : fNe (.bl b) (.tup ys) Q = (eqOk (.bl b) = true ∧ eqOk (.tup ys) = true ∧ Q (.bl (!deq (.bl b) (.tup ys)))) := rfl
theorem fNe_bl_lst (b : Bool) (ys : List D) (Q : D → Prop) : fNe (.bl b) (.lst ys) Q = (eqOk (.bl b) = true ∧ eqOk (.lst ys) = true ∧ Q (.bl (!deq (.bl b) (.lst ys)))) := rfl
theorem fNe_bl_int (b : Bool) (j : Int) (Q : D → Prop) : fNe (.bl b) (.int j) Q = (eqOk (.bl b) = true ∧ eqOk (.int j) = true ∧ Q (.bl (!deq (.bl b) (.int j)))) := rfl
theorem fNe_bl_non (b : Bool) (Q : D → Prop) : fNe (.bl b) .non Q = (eqOk (.bl b) = true ∧ eqOk .non = true ∧ Q (.bl (!deq (.bl b) .non))) := rfl
theorem fNe_bl_str (b : Bool) (t : Str) (Q : D → Prop) : fNe (.bl b) (.str t) Q = (eqOk (.bl b) = true ∧ eqOk (.str t) = true ∧ Q (.bl (!deq (.bl b) (.str t)))) := rfl
theorem fLt_int (i j : Int) (Q : D → Prop) : fLt (.int i) (.int j) Q = Q (.bl (decide (i < j))) := rfl
theorem fIx_tup (xs : List D) (i : Int) (Q : D → Prop) : fIx (.tup xs) (.int i) Q = (match L2.atI xs i with
    | some d => Q d
    | none => False) := rfl
theorem fSl_tup (xs : List D) (lo hi : Option Int) (Q : D → Prop) : fSl (.tup xs) lo hi Q = Q (.tup (cutD xs lo hi)) := rfl
theorem fLen_tup (xs : List D) (Q : D → Prop) : fLen [.tup xs] Q = Q (.int xs.length) := rfl
theorem fTuple_tup (xs : List D) (Q : D → Prop) : fTuple [.tup xs] Q = Q (.tup xs) := rfl
theorem fRev_tup (xs : List D) (Q : D → Prop) : fRev (.tup xs) Q = Q (.tup xs.reverse) := rfl
theorem fIx_lst (xs : List D) (i : Int) (Q : D → Prop) : fIx (.lst xs) (.int i) Q = (match L2.atI xs i with
    | some d => Q d
    | none => False) := rfl
theorem fSl_lst (xs : List D) (lo hi : Option Int) (Q : D → Prop) : fSl (.lst xs) lo hi Q = Q (.lst (cutD xs lo hi)) := rfl
theorem fLen_lst (xs : List D) (Q : D → Prop) : fLen [.lst xs] Q = Q (.int xs.length) := rfl
theorem fTuple_lst (xs : List D) (Q : D → Prop) : fTuple [.lst xs] Q = Q (.tup xs) := rfl
theorem fRev_lst (xs : List D) (Q : D → Prop) : fRev (.lst xs) Q = Q (.lst xs.reverse) := rfl
theorem fIx_str (z : Str) (i : Int) (Q : D → Prop) : fIx (.str z) (.int i) Q = (z.length ≤ sizeLine ∧ match L2.atI z.cps.toList i with
    | some c => Q (.str ⟨#[c]⟩)
    | none => False) := rfl
theorem fSl_str (z : Str) (lo hi : Option Int) (Q : D → Prop) : fSl (.str z) lo hi Q = (z.length ≤ sizeLine ∧ Q (.str (cutS z lo hi))) := rfl
theorem fLen_str (z : Str) (Q : D → Prop) : fLen [.str z] Q = (z.length ≤ sizeLine ∧ Q (.int z.length)) := rfl
theorem fInt_int (i : Int) (Q : D → Prop) : fInt [.int i] Q = Q (.int i) := rfl
theorem fInt_bl (b : Bool) (Q : D → Prop) : fInt [.bl b] Q = Q (.int (if b then 1 else 0)) := rfl
end MR
namespace MR
open PySem PySem.Spec L2
end MR
namespace MR
open PySem PySem.Spec L2
structure Eo (k : Nat) (d : D) : Prop where
  pu : pureD d = true
  la : (toP d).canLay0 = true
  dp : (toP d).depth ≤ k
structure Eos (k : Nat) (ds : List D) : Prop where
  pu : pureDs ds = true
  la : PyData.canLayAll0 (toPs ds) = true
  dp : PyData.depthAll (toPs ds) ≤ k
theorem Eos.nil {k : Nat} : Eos k [] := ⟨by rw [pureDs], by rw [toPs, PyData.canLayAll0], by rw [toPs, PyData.depthAll]; omega⟩
theorem Eos.cons {k : Nat} {d : D} {ds : List D} (h : Eo k d) (r : Eos k ds) : Eos k (d :: ds) :=
  ⟨by rw [pureDs, h.pu, r.pu]; rfl, by rw [toPs, PyData.canLayAll0, h.la, r.la]; rfl, by rw [toPs, PyData.depthAll]; exact Nat.max_le.mpr ⟨h.dp, r.dp⟩⟩
theorem Eo.int {k : Nat} (i : Int) (hk : 1 ≤ k) : Eo k (.int i) := ⟨by rw [pureD], by rw [toP, PyData.canLay0], by rw [toP, PyData.depth]; omega⟩
theorem Eo.bl {k : Nat} (b : Bool) (hk : 1 ≤ k) : Eo k (.bl b) := ⟨by rw [pureD], by rw [toP, PyData.canLay0], by rw [toP, PyData.depth]; omega⟩
theorem Eo.tup {k : Nat} {ds : List D} (h : Eos k ds) : Eo (k + 1) (.tup ds) := ⟨by rw [pureD]; exact h.pu, by rw [toP, PyData.canLay0]; exact h.la, by rw [toP, PyData.depth]; have := h.dp; omega⟩
theorem Eo.lst {k : Nat} {ds : List D} (h : Eos k ds) : Eo (k + 1) (.lst ds) := ⟨by rw [pureD]; exact h.pu, by rw [toP, PyData.canLay0]; exact h.la, by rw [toP, PyData.depth]; have := h.dp; omega⟩
theorem Eo.mono {k j : Nat} {d : D} (h : Eo k d) (q : k ≤ j) : Eo j d := ⟨h.pu, h.la, Nat.le_trans h.dp q⟩
theorem Eos.ints {k : Nat} (hk : 1 ≤ k) : ∀ ns : List Int, Eos k (ns.map D.int)
  | [] => .nil
  | n :: ns => .cons (.int n hk) (Eos.ints hk ns)
theorem Eo.row {k : Nat} (ns : List Int) (hk : 2 ≤ k) : Eo k (row ns) := (Eo.tup (Eos.ints (Nat.le_refl 1) ns)).mono hk
theorem Eo.ok {k : Nat} {d : D} (h : Eo k d) (hk : k ≤ 64) : eqOk d = true := by
  unfold eqOk SeqAt.shaped
  rw [h.pu, h.la, Bool.true_and, Bool.true_and, decide_eq_true_eq]
  exact Nat.le_trans h.dp hk
end MR
namespace MR
open PySem PySem.Spec L2 RZ
section
variable {wd : Wd} {X : Cx} {W : WX}
def sNever : AS wd := fun _ _ _ => False
def gNever : AE wd := fun _ _ _ _ => False
def tNev : AT wd := fun _ _ _ _ => False
theorem gs_never {st : Stmt} : GS wd X W st sNever := ⟨_, ps_never, fun _ _ _ _ _ _ _ _ _ _ q _ => q.elim⟩
end
structure WD (wd : Wd) (K : PySem.W.Frag) (B : Hp) (J : It) (ds : List D) : Prop where
  ex : ∃ (G : Hp → Prop) (Y : Nat → Hp → V → Hp → Prop), Walk J ds.length G Y ∧ (∀ F' B' ω' H', Same B B' → Hst wd K F' B' ω' H' → G H') ∧
    ∀ i F' B' ω' H v H', i < ds.length → Same B B' → Hst wd K F' B' ω' H → Y i H v H' → ∃ B'' d, Same B' B'' ∧ Hst wd K F' B'' ω' H' ∧ ds[i]? = some d ∧ Rep K B'' v d
def RI (wd : Wd) (K : PySem.W.Frag) (W : WX) (wi : TI) (g : AA wd) : Prop := ∀ F B ρ ω σ H Qa Ea R, Hst wd K F B ω H → EnvOk K F B ρ σ → g ρ ω Qa Ea →
  (∀ B' ω' H' J ds, Same B B' → Hst wd K F B' ω' H' → WD wd K B' J ds → Qa ds ω' → R J H') → XOk wd K F B Ea (fun c d h => W c d σ h) → wi σ H R
structure GI (wd : Wd) (X : Cx) (W : WX) (tg it : Expr) (g : AA wd) : Prop where
  ex : ∃ wi, PI X tg it wi ∧ RI wd X.K W wi g
section
variable {wd : Wd} {K : PySem.W.Frag} {W : WX} {t : AG} {g : TG} {body : AS wd} {tb : TS}
def sForG (g : AA wd) (t : AG) (body : AS wd) : AS wd := fun Da ρ ω => g ρ ω (fun ds ω1 => aFor ds t body Da ρ ω1) (fun x ω' => Da.ex x ρ ω')
theorem rs_forG {wi : TI} {gi : AA wd} (hi : RI wd K W wi gi) (hg : RG wd K g t) (hb : RS wd K W tb body) : RS wd K W (tFor wi g tb) (sForG gi t body) := fun F0 F B ρ ω σ H Da E s q k =>
  hi F B ρ ω σ H _ _ _ s.st s.env q (fun B1 ω1 H1 J ds s1 hs1 w g1 => by
    obtain ⟨Iv, h0, hs, hd⟩ := g1
    obtain ⟨G, Y, wk, hG, hY⟩ := w.ex
    refine for_it wk (Pv wd K F0 B1 Iv) ⟨F, B1, ρ, ω1, Same.refl _, s.up s1 hs1, h0⟩ (fun i σ H _ ⟨F', B', ρ', ω', m, s', _⟩ => hG _ _ _ _ m s'.st) (fun i x σ H H' hi p y => ?_) fun σ H ⟨F', B', ρ', ω', m, s', iv⟩ => k.nx (s1.trans m) s' (hd _ _ iv)
    obtain ⟨F', B', ρ', ω', m, s', iv⟩ := p
    obtain ⟨B'', d, m2, st2, hd2, r⟩ := hY i F' B' ω' H x H' hi m s'.st y
    exact turn_of hb hg (k.mono s1) hs hd2 ⟨F', B'', ρ', ω', m.trans m2, s'.up m2 st2, r, iv⟩) (k.xok s)
theorem gs_forG {X : Cx} {tg e : Expr} {body : List Stmt} {pos : Pos} {gb : AS wd} {gi : AA wd} (hp : PassesOwn (model X.prog X.w) X.A X.env X.xe) (hc : X.calm = true) (hi : GI wd X W tg e gi) (hg : GG wd X tg t) (hb : GSs wd X W body gb)
    (hs : ∀ x, foldedSetIterable e X.env x = pure x := by intro _; rfl) : GS wd X W (.For tg e body [] pos) (sForG gi t gb) :=
  let ⟨_, pi, ri⟩ := hi.ex; let ⟨_, pg, rg⟩ := hg.ex; let ⟨_, pb, rb⟩ := hb.ex; ⟨_, ps_for hp hc pi pg pb hs, rs_forG ri rg rb⟩
end
section
variable {wd : Wd} {X : Cx} {W : WX} {pos : Pos} {elt tg iter : Expr} {ifs : List Expr} {own : List (Str × Nat)} {t : TG} {a : AG} {gi : AA wd} {gel : AE wd} {gt : AT wd} {scope : Scope}
def gCompG (g : AA wd) (t : AG) (tt : AT wd) (te : AE wd) (vs : List Nat) : AA wd := fun ρ ω Q E => g ρ ω (fun ds ω1 => aComp ds t tt te vs ρ ω1 Q E) E
theorem rf_compG {K : PySem.W.Frag} {ti : TI} {tt : TT} {te : TE} {vs : List Nat} (ri : RI wd K W ti gi) (rg : RG wd K t a) (ro : Only vs t) (rt : RT wd K W0 tt gt) (re : RE wd K W0 te gel) : RF wd K W (tLc ti t tt te vs) (gCompG gi a gt gel vs) := fun F B ρ ω σ H Qa Ea Q hst henv q hk hx => ri F B ρ ω σ H _ _ _ hst henv q (fun B1 ω1 H1 J ds s1 hs1 w g1 => by
  have hk1 : KFOk wd K F B1 Qa Q := fun B2 ω2 H2 p vs ds m => hk B2 ω2 H2 p vs ds (s1.trans m)
  obtain ⟨Iv, h0, hstep, hd⟩ := g1
  obtain ⟨G, Y, wk, hG, hY⟩ := w.ex
  intro Dl hD
  have hF := hs1.sF.free hD
  refine lc_it wk (Cv wd K F B1 Dl Iv) ⟨B1, ω1, [], [], Same.refl _, hs1.owned hD, .nil, h0⟩ (fun i H _ ⟨B', ω', accV, acc, m, st, _, _⟩ => hG _ _ _ _ m st) (fun i x H H' hi p y => ?_) fun H p => comp_end hF hk1 hd p
  obtain ⟨B', ω', accV, acc, m, st, ra, iv⟩ := p
  obtain ⟨B'', d, m2, st2, hd2, r⟩ := hY i _ B' ω' H x H' hi m st y
  exact comp_turn hF (henv.mono s1) rg ro rt re hstep hd2 ⟨B'', ω', accV, acc, m.trans m2, st2, ra.mono m2, r, iv⟩) hx
theorem gf_compG (hc : X.calm = true) (hN : X.N.Nodup) (hi : GI wd X W tg iter gi) (ok : BlkOk X.N X.env.scope scope own) (hg : Blk X scope fun Y => GC wd Y tg (own.map (·.2)) t a) (ht : Blk X scope fun Y => GTs wd Y W0 ifs gt) (hel : Blk X scope fun Y => GE wd Y W0 elt gel)
    (hs : ∀ x, foldedSetIterable iter X.env x = pure x := by intro _; rfl) : GF wd X W (.ListComp elt [⟨tg, iter, ifs, 0⟩] scope pos) (gCompG gi a gt gel (own.map (·.2))) := by
  obtain ⟨ti, pi, ri⟩ := hi.ex
  obtain ⟨tt, pt, rt⟩ := blk_gt ht
  obtain ⟨te, pe, re⟩ := blk_ge hel
  exact ⟨_, pe_lc hc hN pi ok (fun s H C cl fp => (hg s H C cl fp).pg) pt pe hs, rf_compG ri (hg X.s_0 (fun _ => none) 0 [] []).rg (hg X.s_0 (fun _ => none) 0 [] []).only rt re⟩
/-- x = [..] on one line, x a local -/
theorem gs_setLc (i : Nat) {y : Str} {py spos : Pos} (hc : X.calm = true) (hN : X.N.Nodup) (hi : GI wd X W tg iter gi) (ok : BlkOk X.N X.env.scope scope own) (hg : Blk X scope fun Y => GC wd Y tg (own.map (·.2)) t a) (ht : Blk X scope fun Y => GTs wd Y W0 ifs gt) (hel : Blk X scope fun Y => GE wd Y W0 elt gel)
    (hy : X.N[i]? = some y := by rfl) (hyl : X.env.scope.names.lookup y = some .local := by rfl) (hsw : swapsWith (.ListComp elt [⟨tg, iter, ifs, 0⟩] scope pos) (some (.Name y py)) spos.line X.env = pure true := by exact sw_true rfl rfl rfl rfl)
    (hs : ∀ x, foldedSetIterable iter X.env x = pure x := by intro _; rfl) : GS wd X W (.Assign [.Name y py] (.ListComp elt [⟨tg, iter, ifs, 0⟩] scope pos) spos) (sSet i (gFz (gCompG gi a gt gel (own.map (·.2))))) := by
  obtain ⟨ti, pi, ri⟩ := hi.ex
  obtain ⟨tt, pt, rt⟩ := blk_gt ht
  obtain ⟨te, pe, re⟩ := blk_ge hel
  have r := rf_compG (W := W) ri (hg X.s_0 (fun _ => none) 0 [] []).rg (hg X.s_0 (fun _ => none) 0 [] []).only rt re
  refine ⟨_, ps_setLc hc hN hy hyl hsw pi ok (fun s H C cl fp => (hg s H C cl fp).pg) pt pe hs, fun F0 F B ρ ω σ H Da E s q k => r F B ρ ω σ H _ _ _ s.st s.env q (fun B1 ω1 H1 p vs ds s1 hs1 hp r1 g1 => ?_) (k.xok s)⟩
  obtain ⟨s2, h2⟩ := hs1.new (o := .lst vs) hp
  exact k.nx (s1.trans s2) ((s.up (s1.trans s2) h2).set i (.lst upd_same (r1.mono s2))) g1
end
theorem Walk.cast {J : It} {n m : Nat} {G : Hp → Prop} {Y : Nat → Hp → V → Hp → Prop} (e : n = m) (w : Walk J n G Y) : Walk J m G Y := e ▸ w
section
variable {wd : Wd} {X : Cx} {W : WX} {tg e e2 e3 : Expr} {p pos tpos : Pos} {elts : List Expr} {kk : Nat}
theorem wd_tup {K : PySem.W.Frag} {B : Hp} {p : Addr} {vs : List V} {ds : List D} (h : SqT K B p vs) (r : RepAll K B vs ds) : WD wd K B (Itt K p) ds := by
  refine ⟨_, _, Walk.cast r.length (walk_tup (xs := vs)), fun F' B' ω' H' m st => Same.seqT (m.trans st.sB) h, fun i F' B' ω' H v H' hi m st y => ?_⟩
  obtain ⟨rfl, hv⟩ := y
  have hd := List.getElem?_eq_getElem hi
  obtain ⟨v', e1, e2⟩ := r.get hd
  rw [hv] at e1
  cases e1
  exact ⟨B', _, Same.refl _, st, hd, e2.mono m⟩
theorem wd_lst {K : PySem.W.Frag} {B : Hp} {p : Addr} {vs : List V} {ds : List D} (h : B p = some (.lst vs)) (r : RepAll K B vs ds) : WD wd K B (Itl K p) ds := by
  refine ⟨_, _, Walk.cast r.length (walk_list (xs := vs)), fun F' B' ω' H' m st => SqL.of ((m.trans st.sB) _ _ h), fun i F' B' ω' H v H' hi m st y => ?_⟩
  obtain ⟨rfl, hv⟩ := y
  have hd := List.getElem?_eq_getElem hi
  obtain ⟨v', e1, e2⟩ := r.get hd
  rw [hv] at e1
  cases e1
  exact ⟨B', _, Same.refl _, st, hd, e2.mono m⟩
/-- what an expression's value is walked as -/
def seqD : D → Option (List D)
  | .tup xs => some xs
  | .lst xs => some xs
  | _ => none
def iSeqG (g : AE wd) : AA wd := fun ρ ω Q E => g ρ ω (fun d ω1 => match d with
  | .tup xs => Q xs ω1
  | .lst xs => Q xs ω1
  | _ => False) E
theorem gi_seq {g : AE wd} (h : GE wd X W e g) : GI wd X W tg e (iSeqG g) := by
  obtain ⟨te, pe, re⟩ := h.ex
  refine ⟨_, pi_seq pe, fun F B ρ ω σ H Qa Ea R hs he hg hk hx => re F B ρ ω σ H _ _ _ hs he hg (fun B1 ω1 H1 v1 d1 s1 hs1 r1 g1 => ?_) hx⟩
  cases d1 <;> try exact g1.elim
  case tup xs =>
    cases r1 with
    | tup h1 r1 => exact ⟨_, rfl, .inr ⟨⟨_, Same.seqT hs1.sB h1⟩, hk _ _ _ _ _ s1 hs1 (wd_tup h1 r1) g1⟩⟩
  case lst xs =>
    cases r1 with
    | lst h1 r1 => exact ⟨_, rfl, .inl ⟨⟨_, SqL.of (hs1.sB _ _ h1)⟩, hk _ _ _ _ _ s1 hs1 (wd_lst h1 r1) g1⟩⟩
def iR1G (g : AE wd) : AA wd := fun ρ ω Q E => g ρ ω (fun d ω1 => match d with
  | .int n => -(2 ^ 62) ≤ n ∧ n < 2 ^ 62 ∧ Q (rng 0 n.toNat) ω1
  | _ => False) E
def iR2G (g h : AE wd) : AA wd := fun ρ ω Q E => g ρ ω (fun d ω1 => h ρ ω1 (fun f ω2 => match d, f with
  | .int i, .int j => (-(2 ^ 62) ≤ i ∧ i < 2 ^ 62 ∧ -(2 ^ 62) ≤ j ∧ j < 2 ^ 62) ∧ Q (rng i (j - i).toNat) ω2
  | _, _ => False) E) E
/-- zip -/
def zipD (xs ys : List D) : List D := List.zipWith (fun x y => .tup [x, y]) xs ys
def iZipG (g h : AE wd) : AA wd := fun ρ ω Q E => g ρ ω (fun d ω1 => h ρ ω1 (fun f ω2 => match d, f with
  | .tup xs, .tup ys => Q (zipD xs ys) ω2
  | .lst xs, .lst ys => Q (zipD xs ys) ω2
  | _, _ => False) E) E
def iEnumG (g : AE wd) : AA wd := fun ρ ω Q E => g ρ ω (fun d ω1 => match d with
  | .tup xs => Q (enumD xs) ω1
  | _ => False) E
def iEnumLG (g : AE wd) : AA wd := fun ρ ω Q E => g ρ ω (fun d ω1 => match d with
  | .lst xs => Q (enumD xs) ω1
  | _ => False) E
/-- reversed -/
theorem wd_rev {K : PySem.W.Frag} {B : Hp} {J : It} {vs : List V} {xs : List D} {G : Hp → Prop} (r1 : RepAll K B vs xs) (w : Walk J vs.length G (fun i H x H' => H' = H ∧ vs[vs.length - 1 - i]? = some x))
    (hG : ∀ F' B' ω' H', Same B B' → Hst wd K F' B' ω' H' → G H') : WD wd K B J xs.reverse := by
  have e : xs.reverse.length = vs.length := by rw [List.length_reverse, r1.length]
  refine ⟨_, _, Walk.cast e.symm w, hG, fun i F' B' ω' H v H' hi m st y => ?_⟩
  obtain ⟨rfl, hv⟩ := y
  rw [List.length_reverse] at hi
  have hd := List.getElem?_eq_getElem (by omega : xs.length - 1 - i < xs.length)
  obtain ⟨v', e1, e2⟩ := r1.get hd
  rw [r1.length, e1] at hv
  cases hv
  exact ⟨B', _, Same.refl _, st, (List.getElem?_reverse hi).trans hd, e2.mono m⟩
theorem walk_revT {K : PySem.W.Frag} {a : Addr} {xs : List V} : Walk (RT.ItvT K a xs.length) xs.length (fun H => SqT K H a xs) (fun i H x H' => H' = H ∧ xs[xs.length - 1 - i]? = some x) :=
  ⟨fun i _ hi q => ⟨hi, xs, _, q, List.getElem?_eq_getElem (by omega)⟩, fun _ _ => Nat.le_refl _, fun i H v H' _ q y => ⟨y.1, y.2 xs q⟩⟩
def iRevG (g : AE wd) : AA wd := fun ρ ω Q E => g ρ ω (fun d ω1 => match d with
  | .tup xs => Q xs.reverse ω1
  | .lst xs => Q xs.reverse ω1
  | _ => False) E
theorem gi_rev {g : AE wd} (hm : X.mg "reversed" = none) (h : GE wd X W e g) (hgr : Gl X "reversed" := by rfl) (hst : starEach [e] X.env = (false, eval e X.env) :: starEach [] X.env := by rfl) : GI wd X W tg (.Call (.Name "reversed" p) [e] [] pos) (iRevG g) := by
  obtain ⟨te, pe, re⟩ := h.ex
  refine ⟨_, RT.pi_revA hgr hm pe hst, fun F B ρ ω σ H Qa Ea R hs he hg hk hx => re F B ρ ω σ H _ _ _ hs he hg (fun B1 ω1 H1 v1 d1 s1 hs1 r1 g1 => ?_) hx⟩
  cases d1 <;> try exact g1.elim
  case tup xs =>
    cases r1 with
    | tup h1 r1 => exact ⟨_, _, rfl, .inr ⟨Same.seqT hs1.sB h1, hk _ _ _ _ _ s1 hs1 (wd_rev r1 walk_revT fun F' B' ω' H' m st => Same.seqT (m.trans st.sB) h1) g1⟩⟩
  case lst xs =>
    cases r1 with
    | lst h1 r1 => exact ⟨_, _, rfl, .inl ⟨SqL.of (hs1.sB _ _ h1), hk _ _ _ _ _ s1 hs1 (wd_rev r1 walk_rev fun F' B' ω' H' m st => SqL.of ((m.trans st.sB) _ _ h1)) g1⟩⟩
end
section
variable {wd : Wd} {X : Cx} {W : WX} {e : Expr} {ge : AE wd} {pos : Pos}
def sAsg2 (g : AE wd) (t u : AG) : AS wd := fun Da ρ ω => g ρ ω (fun d ω' => t d ρ (fun ρ' => u d ρ' (fun ρ2 => Da.nx ρ2 ω'))) (fun x ω' => Da.ex x ρ ω')
/-- a, b = [], [] : both own -/
def sParO (i j : Nat) (g h : AA wd) : AS wd := fun Da ρ ω => g ρ ω (fun l ω1 => h ρ ω1 (fun m ω2 => Da.nx ((ρ.set i (some (.own l))).set j (some (.own m))) ω2) (fun x ω' => Da.ex x ρ ω')) (fun x ω' => Da.ex x ρ ω')
end
end MR
namespace MR
open PySem PySem.Spec L2
theorem sRet_e {wd : Wd} (g : AE wd) (Da : AEnds wd) (ρ : AEnv) (ω : wd.W) : sRet g Da ρ ω = g ρ ω Da.rt (fun x ω' => Da.ex x ρ ω') := Eq.trans rfl rfl
theorem sl : sizeLine = 16777216 := by decide
theorem map_int_inj {xs ys : List Int} : (xs.map D.int = ys.map D.int) = (xs = ys) := propext ⟨fun h => by
  have e : ∀ {as bs : List Int}, as.map D.int = bs.map D.int → as = bs := fun {as} => by
    induction as with
    | nil => intro bs h; cases bs with
      | nil => rfl
      | cons b bs => cases h
    | cons a as ih => intro bs h; cases bs with
      | nil => cases h
      | cons b bs =>
        simp only [List.map_cons, List.cons.injEq, D.int.injEq] at h
        rw [h.1, ih h.2]
  exact e h, fun h => by rw [h]⟩
theorem nil_map_int {xs : List Int} : (([] : List D) = xs.map D.int) = ([] = xs) := by cases xs <;> simp
theorem cons_map_int {a : Int} {l : List D} {xs : List Int} : (D.int a :: l = xs.map D.int) = ∃ ys : List Int, a :: ys = xs ∧ l = ys.map D.int := propext ⟨fun h => by
  cases xs with
  | nil => cases h
  | cons x xs =>
    simp only [List.map_cons, List.cons.injEq, D.int.injEq] at h
    exact ⟨xs, by rw [h.1], h.2⟩, fun ⟨ys, e1, e2⟩ => by rw [← e1, e2]; rfl⟩
theorem eqOk_nil : eqOk (.tup []) = true := eqOk_row []
theorem deq_nilr (ns : List Int) : deq (.tup (ns.map D.int)) (.tup []) = decide (ns = []) := deq_row ns []
theorem deq_nill (ns : List Int) : deq (.tup []) (.tup (ns.map D.int)) = decide ([] = ns) := deq_row [] ns
theorem deq_nils : deq (.tup []) (.tup []) = true := deq_refl eqOk_nil
theorem isE_map (ns : List Int) : (ns.map D.int).isEmpty = ns.isEmpty := by cases ns <;> rfl
theorem rng_zero {lo : Int} : rng lo 0 = [] := rfl
theorem cCar_snoc {b : Int} : ∀ (c : Int) (ss : List Int) (s : Int), cCar b c (ss ++ [s]) = cCar b c ss ++ [(cFin b c ss + s) / b] ∧ cLow b c (ss ++ [s]) = cLow b c ss ++ [(cFin b c ss + s) % b] ∧ cFin b c (ss ++ [s]) = (cFin b c ss + s) / b
  | c, [], s => ⟨rfl, rfl, rfl⟩
  | c, t :: ss, s => by
    obtain ⟨h1, h2, h3⟩ := cCar_snoc (b := b) ((c + t) / b) ss s
    refine ⟨?_, ?_, h3⟩
    · show (c + t) / b :: cCar b ((c + t) / b) (ss ++ [s]) = _
      rw [h1]
      rfl
    · show (c + t) % b :: cLow b ((c + t) / b) (ss ++ [s]) = _
      rw [h2]
      rfl
theorem fl_repx (k : Nat) (x : Int) : (List.replicate k [D.int x]).flatten = (List.replicate k x).map D.int := by
  induction k with
  | zero => rfl
  | succ k ih => rw [List.replicate_succ, List.flatten_cons, ih, List.replicate_succ]; rfl
theorem rng_of {lo : Int} {n i : Nat} {d : D} (h : (rng lo n)[i]? = some d) : i < n ∧ d = .int (lo + (i : Int)) := by
  have hi := (List.getElem?_eq_some_iff.mp h).1
  rw [rng_len] at hi
  rw [rng_at hi] at h
  exact ⟨hi, (Option.some.inj h).symm⟩
theorem aFor_nil {wd : Wd} {t : AG} {body : AS wd} {Da : AEnds wd} {ρ : AEnv} {ω : wd.W} : aFor [] t body Da ρ ω = Da.nx ρ ω :=
  propext ⟨fun ⟨Iv, h0, _, hd⟩ => hd ρ ω h0, fun h => ⟨fun _ ρ' ω' => ρ' = ρ ∧ ω' = ω, ⟨rfl, rfl⟩, (fun i d _ _ hd => by simp at hd), fun ρ' ω' ⟨e1, e2⟩ => by rw [e1, e2]; exact h⟩⟩
theorem aComp_nil {wd : Wd} {t : AG} {tt : AT wd} {te : AE wd} {vs : List Nat} {ρ : AEnv} {ω : wd.W} {Q : List D → wd.W → Prop} {E : AX wd} : aComp [] t tt te vs ρ ω Q E = Q [] ω :=
  propext ⟨fun ⟨Iv, h0, _, hd⟩ => hd [] ω h0, fun h => ⟨fun _ acc ω' => acc = [] ∧ ω' = ω, ⟨rfl, rfl⟩, (fun i d _ _ hd => by simp at hd), fun acc ω' ⟨e1, e2⟩ => by rw [e1, e2]; exact h⟩⟩
end MR
namespace MR
open PySem PySem.Spec L2
structure okD (d : D) : Prop where
  ty : tyD d ≠ none
  it : ∀ xs, d = .tup xs → xs.length ≤ 1000000 ∧ ∀ x ∈ xs, tyD x ≠ none
def psum (xs ys : List Int) : List Int := (List.range (max xs.length ys.length)).map fun k => xs.getD k 0 + ys.getD k 0
theorem psum_len (xs ys : List Int) : (psum xs ys).length = max xs.length ys.length := by
  unfold psum
  rw [List.length_map, List.length_range]
theorem psum_at {xs ys : List Int} {k : Nat} (h : k < max xs.length ys.length) : (psum xs ys)[k]? = some (xs.getD k 0 + ys.getD k 0) := by
  unfold psum
  rw [List.getElem?_map, List.getElem?_range h]
  rfl
theorem psum_wor (b : Int) (xs ys : List Int) : wor b (psum xs ys) = wor b xs + wor b ys := by
  unfold psum
  rw [wor_range, sumB_add, sumB_get b _ xs (Nat.le_max_left ..), sumB_get b _ ys (Nat.le_max_right ..)]
theorem lim_getD {b : Int} (hb : 1 ≤ b) {xs : List Int} (h : limbs b xs) (k : Nat) : 0 ≤ xs.getD k 0 ∧ xs.getD k 0 ≤ b - 1 := by
  rw [List.getD_eq_getElem?_getD]
  cases e : xs[k]? with
  | none => exact ⟨Int.le_refl 0, by show (0:Int) ≤ b - 1; omega⟩
  | some x =>
    have := h x (List.mem_of_getElem? e)
    exact ⟨this.1, by show x ≤ b - 1; omega⟩
theorem psum_le {b : Int} (hb : 2 ≤ b) {xs ys : List Int} (h1 : limbs b xs) (h2 : limbs b ys) : ∀ s ∈ psum xs ys, 0 ≤ s ∧ s ≤ 2 * (b - 1) := fun s hs => by
  obtain ⟨k, _, rfl⟩ := List.mem_map.mp hs
  have a1 := lim_getD (by omega : (1:Int) ≤ b) h1 k
  have a2 := lim_getD (by omega : (1:Int) ≤ b) h2 k
  show 0 ≤ xs.getD k 0 + ys.getD k 0 ∧ xs.getD k 0 + ys.getD k 0 ≤ 2 * (b - 1)
  omega
theorem car01 {b : Int} (hb : 2 ≤ b) : ∀ (c : Int) (ss : List Int), 0 ≤ c → c ≤ 1 → (∀ s ∈ ss, 0 ≤ s ∧ s ≤ 2 * (b - 1)) → (∀ y ∈ cCar b c ss, 0 ≤ y ∧ y ≤ 1) ∧ 0 ≤ cFin b c ss ∧ cFin b c ss ≤ 1
  | c, [], h0, h1, _ => ⟨(fun _ h => nomatch h), h0, h1⟩
  | c, s :: ss, h0, h1, hs => by
    have s1 := hs s (by simp)
    have n0 : 0 ≤ (c + s) / b := Int.ediv_nonneg (by omega) (by omega)
    have n1 : (c + s) / b ≤ 1 := by
      refine Int.le_of_lt_add_one (Int.ediv_lt_of_lt_mul (by omega) ?_)
      omega
    obtain ⟨i1, i2, i3⟩ := car01 hb ((c + s) / b) ss n0 n1 fun t ht => hs t (by simp [ht])
    refine ⟨fun y hy => ?_, i2, i3⟩
    rcases List.mem_cons.mp hy with rfl | hy
    · exact ⟨n0, n1⟩
    · exact i1 y hy
theorem row_ge {b : Int} (hb : 2 ≤ b) : ∀ {xs : List Int}, isRow b xs → xs ≠ [] → b ^ (xs.length - 1) ≤ wor b xs
  | [], _, h => absurd rfl h
  | [x], h, _ => by
    have h1 := h.lim x (by simp)
    have h2 := h.top
    have h3 : x ≠ 0 := fun z => h2 (by rw [z]; rfl)
    show b ^ 0 ≤ x + b * 0
    rw [Int.pow_zero, Int.mul_zero]
    omega
  | x :: y :: r, h, _ => by
    have ih := row_ge hb h.tail (by simp)
    have h1 := h.lim x (by simp)
    have m := Int.mul_le_mul_of_nonneg_left ih (by omega : (0:Int) ≤ b)
    show b ^ (r.length + 1) ≤ x + b * wor b (y :: r)
    have e : b ^ (r.length + 1) = b * b ^ r.length := by rw [Int.pow_succ, Int.mul_comm]
    have e2 : (y :: r).length - 1 = r.length := rfl
    rw [e2] at m
    omega
/-- the sum's row, by its carries -/
theorem sum_row {b : Int} (hb : 2 ≤ b) {xs ys : List Int} (h1 : isRow b xs) (h2 : isRow b ys) : cAll b (psum xs ys) = digs b (wor b xs + wor b ys) := by
  have w := psum_wor b xs ys
  have l := psum_len xs ys
  have u1 := wor_lt (by omega : (1:Int) ≤ b) h1.lim
  have u2 := wor_lt (by omega : (1:Int) ≤ b) h2.lim
  have z1 := wor_nn (by omega : (0:Int) ≤ b) h1.lim
  have z2 := wor_nn (by omega : (0:Int) ≤ b) h2.lim
  have p1 : b ^ xs.length ≤ b ^ max xs.length ys.length := ipow_le (by omega) (Nat.le_max_left ..)
  have p2 : b ^ ys.length ≤ b ^ max xs.length ys.length := ipow_le (by omega) (Nat.le_max_right ..)
  have pp : (0:Int) < b ^ max xs.length ys.length := Int.pow_pos (by omega)
  rw [← w]
  refine cAll_row hb (fun s hs => (psum_le hb h1.lim h2.lim s hs).1) ?_ fun hn => ?_
  · rw [l, w, Int.pow_succ]
    have := Int.mul_le_mul_of_nonneg_left hb (Int.le_of_lt pp)
    omega
  · rw [l, w]
    by_cases c : ys.length ≤ xs.length
    · rw [Nat.max_eq_left c]
      have n1 : xs ≠ [] := fun z => by
        subst z
        have : ys = [] := List.eq_nil_of_length_eq_zero (by simpa using c)
        subst this
        exact hn rfl
      have := row_ge hb h1 n1
      omega
    · rw [Nat.max_eq_right (by omega)]
      have n1 : ys ≠ [] := fun z => by
        subst z
        exact c (Nat.zero_le _)
      have := row_ge hb h2 n1
      omega
def aLimbAt : ASp DWd := fun ds ω Q _ => ∃ xs k, ds = [row xs, .int k] ∧ 0 ≤ k ∧ Q (.int (xs.getD k.toNat 0)) ω
end MR
namespace MR
open PySem PySem.Spec L2
def strRep (s : Str) (k : Int) : Str := ⟨(List.replicate k.toNat s.cps).foldl (· ++ ·) #[]⟩
def fMulS : FD2
  | .str s, .int k, Q => (2 ≤ k ∧ k ≤ 1000 ∧ 0 < s.length ∧ s.length ≤ 1000 ∧ (strRep s k).length ≤ sizeLine) ∧ Q (.str (strRep s k))
  | _, _, _ => False
def fIntS : FC
  | [.str a], Q => ∃ n, intText? a = some n ∧ a.length ≤ 640 ∧ Q (.int n)
  | _, _ => False
theorem fMulS_str (s : Str) (k : Int) (Q : D → Prop) : fMulS (.str s) (.int k) Q = ((2 ≤ k ∧ k ≤ 1000 ∧ 0 < s.length ∧ s.length ≤ 1000 ∧ (strRep s k).length ≤ sizeLine) ∧ Q (.str (strRep s k))) := Eq.trans rfl rfl
theorem fIntS_str (a : Str) (Q : D → Prop) : fIntS [.str a] Q = ∃ n, intText? a = some n ∧ a.length ≤ 640 ∧ Q (.int n) := Eq.trans rfl rfl
end MR
namespace MR
open PySem PySem.Spec L2
theorem lexLt_rev {b : Int} (hb : 2 ≤ b) : ∀ (us vs : List Int), us.length = vs.length → limbs b us → limbs b vs → HT.lexLt us vs = decide (wor b us.reverse < wor b vs.reverse)
  | [], [], _, _, _ => by
    show false = decide ((0:Int) < 0)
    decide
  | [], _ :: _, h, _, _ => by cases h
  | _ :: _, [], h, _, _ => by cases h
  | u :: us, v :: vs, h, h1, h2 => by
    have hl : us.length = vs.length := by simpa using h
    have ih := lexLt_rev hb us vs hl h1.tail h2.tail
    have a1 := h1 u (by simp)
    have a2 := h2 v (by simp)
    have r1 : limbs b us.reverse := fun n hn => h1.tail n (List.mem_reverse.mp hn)
    have r2 : limbs b vs.reverse := fun n hn => h2.tail n (List.mem_reverse.mp hn)
    have z1 := wor_nn (by omega : (0:Int) ≤ b) r1
    have z2 := wor_nn (by omega : (0:Int) ≤ b) r2
    have w1 := wor_lt (by omega : (1:Int) ≤ b) r1
    have w2 := wor_lt (by omega : (1:Int) ≤ b) r2
    rw [List.length_reverse] at w1 w2
    have pp : (0:Int) < b ^ us.length := Int.pow_pos (by omega)
    show (if u = v then HT.lexLt us vs else decide (u < v)) = _
    rw [List.reverse_cons, List.reverse_cons, wor_snoc, wor_snoc, List.length_reverse, List.length_reverse, ← hl]
    rw [← hl] at w2
    by_cases c : u = v
    · subst c
      rw [if_pos rfl, ih]
      exact decide_eq_decide.mpr ⟨fun q => by omega, fun q => by omega⟩
    · rw [if_neg c]
      refine decide_eq_decide.mpr ⟨fun q => ?_, fun q => ?_⟩
      · have m : (u + 1) * b ^ us.length ≤ v * b ^ us.length := Int.mul_le_mul_of_nonneg_right (by omega) (by omega)
        rw [Int.add_mul, Int.one_mul] at m
        omega
      · refine Int.not_le.mp fun z => ?_
        have m : (v + 1) * b ^ us.length ≤ u * b ^ us.length := Int.mul_le_mul_of_nonneg_right (by omega) (by omega)
        rw [Int.add_mul, Int.one_mul] at m
        omega
/-- of rows the longer one is the greater one -/
theorem row_longer {b : Int} (hb : 2 ≤ b) {xs ys : List Int} (h1 : limbs b xs) (h2 : isRow b ys) (h : xs.length < ys.length) : wor b xs < wor b ys := by
  have w1 := wor_lt (by omega : (1:Int) ≤ b) h1
  have w2 := row_ge hb h2 (by intro z; rw [z] at h; exact absurd h (Nat.not_lt_zero _))
  have := ipow_le (by omega : (1:Int) ≤ b) (by omega : xs.length ≤ ys.length - 1)
  omega
theorem row_lenle {b : Int} (hb : 2 ≤ b) {xs ys : List Int} (h1 : isRow b xs) (h2 : isRow b ys) (h : wor b ys ≤ wor b xs) : ys.length ≤ xs.length :=
  Nat.not_lt.mp fun z => by have := row_longer hb h1.lim h2 z; omega
theorem asIntsRev (ns : List Int) : asInts ((ns.map D.int).reverse) = some ns.reverse := by rw [← List.map_reverse, asInts_map]
theorem worT (b : Int) (ys : List Int) (i : Nat) : wor b (ys.take (i + 1)) = wor b (ys.take i) + b ^ i * ys.getD i 0 := by
  by_cases c : i < ys.length
  · have hy := List.getElem?_eq_getElem c
    rw [take_snoc hy, wor_append, len_take hy, List.getD_eq_getElem?_getD, hy]
    show _ + b ^ i * (ys[i] + b * 0) = _
    rw [Int.mul_zero, Int.add_zero]
    rfl
  · rw [List.take_of_length_le (by omega), List.take_of_length_le (by omega), List.getD_eq_getElem?_getD, List.getElem?_eq_none (by omega)]
    show _ = _ + _ * 0
    omega
def aIsLess : ASp DWd := fun ds ω Q _ => ∃ xs ys b, ds = [row xs, row ys] ∧ 2 ≤ b ∧ isRow b xs ∧ isRow b ys ∧ Q (.bl (decide (wor b xs < wor b ys))) ω
def aSummed : ASp DWd := fun ds ω Q _ => ∃ xs ys b, ds = [row xs, row ys, .int b] ∧ base_ b ∧ isRow b xs ∧ isRow b ys ∧ xs.length ≤ 20000 ∧ ys.length ≤ 20000 ∧ Q (row (digs b (wor b xs + wor b ys))) ω
def aLess : ASp DWd := fun ds ω Q _ => ∃ xs ys b, ds = [row xs, row ys, .int b] ∧ base_ b ∧ isRow b xs ∧ isRow b ys ∧ xs.length ≤ 20000 ∧ wor b ys ≤ wor b xs ∧ Q (row (digs b (wor b xs - wor b ys))) ω
end MR
namespace MR
open PySem PySem.Spec L2
end MR
namespace MR
open PySem PySem.Spec PyProof.Rows PySem.W
end MR
namespace MR
open PySem PySem.Spec L2
def pickV {α : Type} (xs : List α) (lo hi st : Option Int) : List α := (sliceRange (sliceBounds lo hi st xs.length).1 (sliceBounds lo hi st xs.length).2.1 (sliceBounds lo hi st xs.length).2.2).filterMap (xs[·]?)
section
variable {wd : Wd} {X : Cx} {W : WX} {pos : Pos} {e : Expr} {ge : AE wd}
def gStp (g : AA wd) (gl gh gs : AO wd) : AA wd := fun ρ ω Q E => g ρ ω (fun x ω1 => gl ρ ω1 (fun lo ω2 => gh ρ ω2 (fun hi ω3 => gs ρ ω3 (fun st ω4 => st ≠ some 0 ∧ Q (pickV x lo hi st) ω4) E) E) E) E
/-- targets, one of them starred -/
def sStar (n i : Nat) (g : AE wd) (t : AGs) : AS wd := fun Da ρ ω => g ρ ω (fun d ω' => match seqD d with
  | some xs => i < n ∧ n ≤ xs.length + 1 ∧ xs.length ≤ 16384 ∧ t (xs.take i ++ (.lst ((xs.drop i).take (xs.length + 1 - n)) :: (xs.drop i).drop (xs.length + 1 - n))) ρ (fun ρ' => Da.nx ρ' ω')
  | none => False) (fun x ω' => Da.ex x ρ ω')
/-- targets of a tuple or a list -/
def aSeq (g : AGs) : AG := fun d ρ Q => match d with
  | .tup xs => g xs ρ Q
  | .lst xs => g xs ρ Q
  | _ => False
end
theorem seq_opq {wd : Wd} {A B : AS wd} {Da : AEnds wd} {ρ : AEnv} {ω : wd.W} (h : ∀ N, N = B Da → A { Da with nx := N } ρ ω) : sSeq A B Da ρ ω := h _ rfl
theorem sRet_f {wd : Wd} (g : AE wd) (Da : AEnds wd) : sRet g Da = fun ρ ω => g ρ ω Da.rt (fun x ω' => Da.ex x ρ ω') := Eq.trans rfl rfl
end MR
namespace MR
open PySem PySem.Spec L2
/-- for each limb a guess and the quotient's limb, r the rest so far -/
def gl (b Y B t : Int) : Int → List Int → List (Int × Int)
  | _, [] => []
  | r, u :: us => (min (b - 1) ((r * b + u) / B / t), (r * b + u) / Y) :: gl b Y B t ((r * b + u) % Y) us
/-- a high row's top -/
structure High (b : Int) (ys : List Int) (t : Int) : Prop where
  r : isRow b ys
  ne : ys ≠ []
  top : ys.getLast? = some t
  hi : b / 2 ≤ t
theorem High.lt {b : Int} {ys : List Int} {t : Int} (h : High b ys t) : 1 ≤ t ∧ t < b := by
  have a := h.r.lim t (by
    have := h.top
    exact List.mem_of_getLast? this)
  have c := h.r.top
  rw [h.top] at c
  have : t ≠ 0 := fun z => c (by rw [z])
  omega
theorem High.pos {b : Int} (hb : 2 ≤ b) {ys : List Int} {t : Int} (h : High b ys t) : 0 < wor b ys := by
  have := row_ge hb h.r h.ne
  have p : (0:Int) < b ^ (ys.length - 1) := Int.pow_pos (by omega)
  omega
end MR
namespace MR
open PySem PySem.Spec L2
abbrev FB : Type := PySem.W.Frag → Bool
def bsAll (bs : List FB) (K : PySem.W.Frag) : Bool := bs.all fun f => f K
theorem bs_at {bs : List FB} {K : PySem.W.Frag} (c : bsAll bs K = true) (i : Nat) {f : FB} (h : bs[i]? = some f := by rfl) : f K = true := List.all_eq_true.mp c f (List.mem_of_getElem? h)
def aeB : List Value := [.type "ArithmeticError", .type "Exception", .type "BaseException", .type "object"]
def kitFB (x : Str) (c : PySem.W.Frag → Value) (b : Bool) : FB := fun K => decide (PySem.W.kitOne K (.ref (He.ga K x)) (c K) = some b)
def exmFB (x y : Str) (b : Bool) : FB := fun K => decide (PySem.W.exmOne K (.ref (He.ga K x)) (.ref (He.ga K y)) = some b)
theorem kit_ok {x : Str} {c : PySem.W.Frag → Value} {b : Bool} {K : PySem.W.Frag} (h : kitFB x c b K = true) : PySem.W.kitOne K (.ref (He.ga K x)) (c K) = some b := of_decide_eq_true h
theorem exm_ok2 {x y : Str} {b : Bool} {K : PySem.W.Frag} (h : exmFB x y b K = true) : PySem.W.exmOne K (.ref (He.ga K x)) (.ref (He.ga K y)) = some b := of_decide_eq_true h
section
variable {wd : Wd} {X : Cx} {W : WX}
def sRaise (c : Value) : AS wd := fun Da ρ ω => Da.ex ⟨c, none⟩ ρ ω
end
def tAll (vs : List V) : TA := fun _ H Q => Q vs H
structure CV (X : Cx) (es : List Expr) (vs : List V) (cs : List Value) : Prop where
  pa : PA X es (tAll vs)
  vl : ∀ us, Vals vs us → us = cs
section
variable {X : Cx} {p pos : Pos} {es : List Expr} {vs : List V} {cs : List Value}
theorem cv_nil : CV X [] [] [] := ⟨⟨fun pos pins s σ H Q I h => pa_nil.run pos pins s σ H Q I h⟩, fun us r => by cases r; rfl⟩
theorem cv_own {x : Str} {C : Addr} (hm : X.mg x = some (.ref C)) (h : CV X es vs cs) (hg : Gl X x := by rfl) (hdb : (x == ("__debug__" : Str)) = false := by decide) (hs : starEach (.Name x p :: es) X.env = (false, eval (.Name x p) X.env) :: starEach es X.env := by rfl) : CV X (.Name x p :: es) (.ref C :: vs) (.ref C :: cs) :=
  ⟨⟨fun pos pins s σ H Q I q => (pa_cons (pe_glob (v := .ref C) hg hm rfl hdb) h.pa hs).run pos pins s σ H Q I q⟩, fun us r => by
    cases r with
    | cons r1 r2 =>
      rw [h.vl _ r2, show _ = Value.ref C from r1]⟩
theorem cv_ty {x : Str} {T : String} (hm : X.mg x = none) (h : CV X es vs cs) (hg : Gl X x := by rfl) (hv : bootBuiltins x = some (.type T) := by decide +kernel) (hn : x ≠ "__name__" := by decide) (hdb : (x == ("__debug__" : Str)) = false := by decide)
    (hs : starEach (.Name x p :: es) X.env = (false, eval (.Name x p) X.env) :: starEach es X.env := by rfl) : CV X (.Name x p :: es) (.ty T :: vs) (.type T :: cs) :=
  ⟨⟨fun pos pins s σ H Q I q => (pa_cons (pe_bltn (v := .ty T) hg hm hv rfl hn hdb) h.pa hs).run pos pins s σ H Q I q⟩, fun us r => by
    cases r with
    | cons r1 r2 =>
      rw [h.vl _ r2, show _ = Value.type T from r1]⟩
end
theorem kit_single {K : PySem.W.Frag} {t c : Value} {b : Bool} (h : PySem.W.kitAny K t [c] = some b) : PySem.W.kitOne K t c = some b := by
  unfold PySem.W.kitAny at h
  split at h
  · rename_i e
    rw [e]
    exact h
  · rename_i e
    rw [e]
    exact h
  · cases h
section
variable {wd : Wd} {X : Cx} {W : WX} {a : Addr} {oe : Obj} {cls : Value} {d : Option Addr} {pn : List (Addr × Obj)} {x : EX}
def gIsE (K : PySem.W.Frag) (a : Addr) (x : EX) (i : Nat) (cs : List Value) : AE wd := fun ρ ω Q E => ∃ (D : Addr) (b : Bool), x.cls = .ref D ∧ x.fs = none ∧ ExcC K D ∧ ρ[i]? = some (some (.d (.adr a))) ∧ PySem.W.kitAny K (.ref D) cs = some b ∧ Q (.bl b) ω
theorem slot_adr {K : PySem.W.Frag} {F B : Hp} {ρ : AEnv} {σ : St} {i : Nat} (he : EnvOk K F B ρ σ) (h : ρ[i]? = some (some (.d (.adr a)))) : σ[i]? = some (some (.ref a)) := by
  obtain ⟨v, e, r⟩ := he.ent i _ h
  cases r
  exact e
end
section
variable {wd : Wd} {K : PySem.W.Frag} {F0 F B H : Hp} {ρ : AEnv} {ω : wd.W} {σ : St}
theorem Sim.gone (s : Sim wd K F0 F B ρ ω σ H) (i : Nat) : Sim wd K F0 F B (ρ.set i none) ω (σ.set i none) H := by
  have ne : ∀ {j : Nat} {e : Ent}, (ρ.set i none)[j]? = some (some e) → i ≠ j := fun {j e} h q => by
    subst q
    have hi : i < ρ.length := by
      have := (List.getElem?_eq_some_iff.mp h).1
      simpa using this
    rw [List.getElem?_set_self hi] at h
    cases h
  refine ⟨s.st, ⟨by simp [s.env.len], fun j e h => ?_, fun j1 j2 l l' p h1 h2 h3 h4 => ?_⟩, s.f0, fun j l p h1 h2 => ?_⟩
  · have n := ne h
    rw [List.getElem?_set_ne n] at h ⊢
    exact s.env.ent j e h
  · have n1 := ne h1
    have n2 := ne h2
    rw [List.getElem?_set_ne n1] at h1 h3
    rw [List.getElem?_set_ne n2] at h2 h4
    exact s.env.dist j1 j2 l l' p h1 h2 h3 h4
  · have n := ne h1
    rw [List.getElem?_set_ne n] at h1 h2
    exact s.own j l p h1 h2
def sTryAs (K : PySem.W.Frag) (i : Nat) (c : Value) (g : AS wd) (gs : Addr → EX → AS wd) : AS wd := fun Da ρ ω =>
  g { Da with ex := fun x ρ' ω' => ∃ b, PySem.W.exmOne K x.cls c = some b ∧ (b = true → ∀ a, gs a x { nx := fun ρ2 ω2 => Da.nx (ρ2.set i none) ω2, rt := Da.rt, bk := fun ρ2 ω2 => Da.bk (ρ2.set i none) ω2, ct := fun ρ2 ω2 => Da.ct (ρ2.set i none) ω2 } (ρ'.set i (some (.d (.adr a)))) ω') ∧ (b = false → Da.ex x ρ' ω') } ρ ω
def sTry (K : PySem.W.Frag) (c : Value) (g : AS wd) (gs : Addr → EX → AS wd) : AS wd := fun Da ρ ω =>
  g { Da with ex := fun x ρ' ω' => ∃ b, PySem.W.exmOne K x.cls c = some b ∧ (b = true → ∀ a, gs a x { nx := Da.nx, rt := Da.rt, bk := Da.bk, ct := Da.ct } ρ' ω') ∧ (b = false → Da.ex x ρ' ω') } ρ ω
end
section
variable {wd : Wd} {X : Cx} {W : WX} {x n : Str} {c : Value} {body suite : List Stmt} {b₀ : Stmt} {np pos pos' : Pos} {g : AS wd} {gs : Addr → EX → AS wd}
/-- the body's judgement, in any context of a try -/
abbrev TB (wd : Wd) (X : Cx) (body : List Stmt) (g : AS wd) : Prop := ∀ (W : WX) (pn : List (Addr × Obj)) (xe : Value → Shared → Prop), Takes (X.tr pn xe) W → PassesOwn (model X.prog X.w) X.A X.env xe → GSs wd (X.tr pn xe) W body g
def tbOf (h : TB wd X body g) : WX → TS := fun W D σ H => ∀ pn xe (tk : Takes (X.tr pn xe) W) po, Classical.choose (h W pn xe tk po).ex D σ H
theorem tb_ps (h : TB wd X body g) (W : WX) (pn : List (Addr × Obj)) (xe : Value → Shared → Prop) (tk : Takes (X.tr pn xe) W) (po : PassesOwn (model X.prog X.w) X.A X.env xe) : PSs (X.tr pn xe) body (tbOf h W) :=
  ⟨fun pins s σ H D I q => (Classical.choose_spec (h W pn xe tk po).ex).1.run pins s σ H D I (q pn xe tk po)⟩
theorem tb_rs (h : TB wd X body g) (W : WX) : RS wd X.K W (tbOf h W) g := fun F0 F B ρ ω σ H Da E s q k pn xe tk po => (Classical.choose_spec (h W pn xe tk po).ex).2 F0 F B ρ ω σ H Da E s q k
theorem repx_fs {K : PySem.W.Frag} {B : Hp} {cls : Value} {dx : Option Addr} {x : EX} (r : RepX K B cls dx x) : cls = x.cls ∧ (x.fs = none → dx = none) := by
  obtain ⟨r1, r2⟩ := r
  refine ⟨r1, fun z => ?_⟩
  cases dx with
  | none => rfl
  | some q =>
    rw [z] at r2
    exact r2.elim
end
end MR
namespace MR
open PySem PySem.Spec L2
/-- the turn behind -/
def nx (n t : Int) : Int := (t + n / t) / 2
end MR
namespace MR
open PySem PySem.Spec L2
end MR
namespace MR
open PySem PySem.Spec L2
end MR
namespace MR
open PySem PySem.Spec L2
def gAsS {wd : Wd} (g : AE wd) : AA wd := fun ρ ω Q E => g ρ ω (fun x ω1 => match x with
  | .lst l => Q l ω1
  | .tup l => Q l ω1
  | _ => False) E
end MR
namespace MR
open PySem PySem.Spec L2
end MR
namespace MR
open PySem PySem.Spec PyProof.Rows L2
def dIn (d : D) (xs : List D) : Bool := xs.any fun z => deq z d
/-- the sign of a text of one sign -/
def sg1 (x : Str) : Option Nat := match x.cps.toList with
  | [c] => some c
  | _ => none
def fIn (neg : Bool) : FD2
  | d, .lst xs, Q => eqOk d = true ∧ eqOk (.lst xs) = true ∧ Q (.bl (xor neg (dIn d xs)))
  | d, .tup xs, Q => eqOk d = true ∧ eqOk (.tup xs) = true ∧ Q (.bl (xor neg (dIn d xs)))
  | .str x, .str z, Q => match sg1 x with
    | some c => Q (.bl (xor neg (decide (c ∈ z.cps.toList))))
    | none => False
  | _, _, _ => False
theorem fIn_lst (neg : Bool) (d : D) (xs : List D) (Q : D → Prop) : fIn neg d (.lst xs) Q = (eqOk d = true ∧ eqOk (.lst xs) = true ∧ Q (.bl (xor neg (dIn d xs)))) := by cases d <;> exact Eq.trans rfl rfl
theorem fIn_tup (neg : Bool) (d : D) (xs : List D) (Q : D → Prop) : fIn neg d (.tup xs) Q = (eqOk d = true ∧ eqOk (.tup xs) = true ∧ Q (.bl (xor neg (dIn d xs)))) := by cases d <;> exact Eq.trans rfl rfl
theorem fIn_str (neg : Bool) (x z : Str) (Q : D → Prop) : fIn neg (.str x) (.str z) Q = (match sg1 x with
    | some c => Q (.bl (xor neg (decide (c ∈ z.cps.toList))))
    | none => False) := Eq.trans rfl rfl
end MR
namespace MR
open PySem PySem.Spec L2
def rngC (lo c : Int) (n : Nat) : List D := (List.range n).map fun (i : Nat) => .int (lo + (i : Int) * c)
section
variable {wd : Wd} {X : Cx} {W : WX} {tg e e2 e3 : Expr} {p pos : Pos}
def iR3G (g h l : AE wd) : AA wd := fun ρ ω Q E => g ρ ω (fun d ω1 => h ρ ω1 (fun f ω2 => l ρ ω2 (fun k ω3 => match d, f, k with
  | .int i, .int j, .int c => ∃ n, RgC i j c n ∧ Q (rngC i c n) ω3
  | _, _, _ => False) E) E) E
end
def aPick : ASp DWd := fun ds ω Q _ => ∃ p xs T, (ds = [.adr p, .lst xs] ∨ ds = [.adr p, .tup xs]) ∧ Dk ω p T ∧ T < 2 ^ 59 ∧ xs ≠ [] ∧ xs.length ≤ 1000000 ∧ ∀ d ∈ xs, ∀ ω', Dk ω' p (T + 1) → Q d ω'
end MR
namespace MR
open PySem PySem.Spec PyProof.Rows L2
def b2I (b : Bool) : Int := if b = true then 1 else 0
def fAddX : FD2
  | .bl k, .int i, Q => Q (.int (b2I k + i))
  | d, e, Q => fAdd d e Q
def fSubX : FD2
  | .bl k, .int i, Q => Q (.int (b2I k - i))
  | .int i, .bl k, Q => Q (.int (i - b2I k))
  | d, e, Q => fSub d e Q
theorem fAddX_bl (k : Bool) (i : Int) (Q : D → Prop) : fAddX (.bl k) (.int i) Q = Q (.int (b2I k + i)) := Eq.trans rfl rfl
theorem fAddX_int (i j : Int) (Q : D → Prop) : fAddX (.int i) (.int j) Q = Q (.int (i + j)) := Eq.trans rfl rfl
theorem fAddX_str (i j : Str) (Q : D → Prop) : fAddX (.str i) (.str j) Q = (i.length + j.length ≤ sizeLine ∧ Q (.str (i ++ j))) := Eq.trans rfl rfl
theorem fAddX_tup (i j : List D) (Q : D → Prop) : fAddX (.tup i) (.tup j) Q = (i.length + j.length ≤ sizeLine ∧ Q (.tup (i ++ j))) := Eq.trans rfl rfl
theorem fAddX_lst (i j : List D) (Q : D → Prop) : fAddX (.lst i) (.lst j) Q = (i.length + j.length ≤ sizeLine ∧ Q (.lst (i ++ j))) := Eq.trans rfl rfl
theorem fSubX_bl (k : Bool) (i : Int) (Q : D → Prop) : fSubX (.bl k) (.int i) Q = Q (.int (b2I k - i)) := Eq.trans rfl rfl
theorem fSubX_ib (k : Bool) (i : Int) (Q : D → Prop) : fSubX (.int i) (.bl k) Q = Q (.int (i - b2I k)) := Eq.trans rfl rfl
theorem fSubX_int (i j : Int) (Q : D → Prop) : fSubX (.int i) (.int j) Q = Q (.int (i - j)) := Eq.trans rfl rfl
def fEqN : FD2
  | .tup xs, .tup [], Q => Q (.bl xs.isEmpty)
  | d, e, Q => fEq d e Q
theorem fEqN_nil (xs : List D) (Q : D → Prop) : fEqN (.tup xs) (.tup []) Q = Q (.bl xs.isEmpty) := Eq.trans rfl rfl
def gDct0 {wd : Wd} : AE wd := fun _ ω Q _ => Q (.dct [] []) ω
def gDct1 {wd : Wd} (k : Int) (g : AE wd) : AE wd := fun ρ ω Q E => g ρ ω (fun d ω1 => Q (.dct [.inl k] [d]) ω1) E
def keyP : Key → PyData
  | .inl i => .int i
  | .inr x => .str x
mutual
def toX : D → PyData
  | .non => .none
  | .bl b => .bool b
  | .int i => .int i
  | .str x => .str x
  | .lst xs => .list (toXs xs)
  | .tup xs => .tuple (toXs xs)
  | .dct ks xs => .dict ((ks.map keyP).zip (toXs xs))
  | .adr _ => .none
  | .obj _ _ _ => .none
def toXs : List D → List PyData
  | [] => []
  | x :: xs => toX x :: toXs xs
end
mutual
def pureX : D → Bool
  | .non => true
  | .bl _ => true
  | .int _ => true
  | .str _ => true
  | .lst xs => pureXs xs
  | .tup xs => pureXs xs
  | .dct ks xs => decide (ks.length = xs.length) && pureXs xs
  | .adr _ => false
  | .obj _ _ _ => false
def pureXs : List D → Bool
  | [] => true
  | x :: xs => pureX x && pureXs xs
end
theorem toXs_len : ∀ xs : List D, (toXs xs).length = xs.length
  | [] => rfl
  | x :: xs => by rw [toXs, List.length_cons, List.length_cons, toXs_len xs]
/-- the module of modules is a dict -/
def SysK (K : PySem.W.Frag) : Prop := ∃ o es n, K.lookup sysModules = some o ∧ o.data = .dict es n
def sysFB : PySem.W.Frag → Bool := fun K => match K.lookup sysModules with
  | some o => match o.data with
    | .dict _ _ => true
    | _ => false
  | none => false
theorem sys_ok {K : PySem.W.Frag} (h : sysFB K = true) : SysK K := by
  unfold sysFB at h
  split at h
  · rename_i o e
    split at h
    · rename_i es n e2
      exact ⟨o, es, n, e, e2⟩
    · cases h
  · cases h
theorem pairs_keys {P : Program} {w : World} {h : Heap} : ∀ {es : List DictEntry} {vs : List (Key × Value)}, Pairs (mixKind P w) es vs → ReadsAll h (es.map (·.key)) ((vs.map (·.1)).map keyP) []
  | _, _, .nil => .nil
  | _, _, .cons (e := e) (kv := kv) h1 _ r => by
    have ih := pairs_keys (h := h) r
    obtain ⟨i, t, e1, e2⟩ | ⟨x, t, e1, e2⟩ := keyIs_shape (k := kv.1) (v := e.key) h1
    · rw [List.map_cons, List.map_cons, List.map_cons, e1, e2]
      exact ReadsAll.cons (Reads.int i t) ih
    · rw [List.map_cons, List.map_cons, List.map_cons, e1, e2]
      exact ReadsAll.cons (Reads.str x t) ih
theorem pairs_vals {P : Program} {w : World} : ∀ {es : List DictEntry} {vs : List (Key × Value)}, Pairs (mixKind P w) es vs → es.map (·.val) = vs.map (·.2)
  | _, _, .nil => rfl
  | _, _, .cons _ h2 r => by rw [List.map_cons, List.map_cons, h2, pairs_vals r]
theorem kv_split {kvs : List (Key × V)} {vs : List (Key × Value)} (r : KV kvs vs) : kvs.map (·.1) = vs.map (·.1) ∧ Vals (kvs.map (·.2)) (vs.map (·.2)) := by
  unfold KV at r
  induction r with
  | nil => exact ⟨rfl, .nil⟩
  | cons h t ih => exact ⟨by rw [List.map_cons, List.map_cons, h.1, ih.1], .cons h.2 ih.2⟩
section
variable {X : Cx} {pins : List (Addr × Obj)} {σ : L2.St} {B H : Hp} {s : Shared}
theorem sys_ne (I : Inv X pins σ H s) (sk : SysK X.K) {a : Addr} {o : Obj} (h : s.heap.get? a = some o) (hd : ∀ es n, o.data ≠ .dict es n) : sysModules ≠ a := by
  obtain ⟨o', es, n, hk, e⟩ := sk
  intro z
  have := I.kIn sysModules o' hk
  rw [z, h] at this
  cases this
  exact hd _ _ e
mutual
theorem Rep.rx (I : Inv X pins σ H s) (sk : SysK X.K) (m : Same B H) : ∀ {v : V} {d : D} (u : Value), Rep X.K B v d → RelV v u → pureX d = true → ∃ as, Reads s.heap u (toX d) as ∧ sysModules ∉ as
  | _, _, u, .non, r, _ => by cases r; rw [toX]; exact ⟨_, Reads.none, by simp⟩
  | _, _, u, .bl b, r, _ => by cases r; rw [toX]; exact ⟨_, Reads.bool b, by simp⟩
  | _, _, u, .int i, r, _ => by obtain ⟨t, rfl⟩ := r; rw [toX]; exact ⟨_, Reads.int i t, by simp⟩
  | _, _, u, .str x, r, _ => by obtain ⟨t, rfl⟩ := r; rw [toX]; exact ⟨_, Reads.str x t, by simp⟩
  | _, _, u, .lst h r1, r, p => by
    cases r
    rw [pureX] at p
    rw [toX]
    obtain ⟨its, rv, ⟨o, n, ho, hc, _, hd⟩, _⟩ := I.list (SqL.of (K := X.K) (m _ _ h))
    obtain ⟨as, hr, na⟩ := RepAll.rx I sk m its r1 rv p
    refine ⟨_, Reads.list ho hc hd hr, fun z => ?_⟩
    rcases List.mem_cons.mp z with z | z
    · exact sys_ne I sk ho (fun es n q => by rw [hd] at q; cases q) z
    · exact na z
  | _, _, u, .tup h r1, r, p => by
    cases r
    rw [pureX] at p
    rw [toX]
    obtain ⟨its, rv, ⟨o, ho, hc, n, hd⟩, _⟩ := I.tuple (Same.seqT m h)
    obtain ⟨as, hr, na⟩ := RepAll.rx I sk m its r1 rv p
    exact ⟨_, Reads.tuple ho hc hd hr, na⟩
  | _, _, u, .dct (kvs := kvs) (ds := ds) h r1, r, p => by
    cases r
    rw [pureX, Bool.and_eq_true] at p
    rw [toX]
    obtain ⟨z, hns, vs, rel, o, es, ep, hg, hex, hdat, hkeys, hpairs, hnd⟩ := I.hok _ _ (m _ _ h)
    obtain ⟨e1, rv⟩ := kv_split rel
    obtain ⟨bs, hr, nb⟩ := RepAll.rx I sk m _ r1 rv p.2
    have ln : (kvs.map (·.1)).length = ds.length := of_decide_eq_true p.1
    have ek : (((kvs.map (·.1)).map keyP).zip (toXs ds)).map (·.1) = (vs.map (·.1)).map keyP := by
      rw [List.map_fst_zip (by rw [List.length_map, ln, toXs_len]; exact Nat.le_refl _), e1]
    have ev : (((kvs.map (·.1)).map keyP).zip (toXs ds)).map (·.2) = toXs ds := by
      rw [List.map_snd_zip (by rw [List.length_map, ln, toXs_len]; exact Nat.le_refl _)]
    refine ⟨_, Reads.dict hg hex.1 hdat (by rw [ek]; exact pairs_keys hpairs) (by rw [ev, pairs_vals hpairs]; exact hr), fun q => ?_⟩
    rcases List.mem_cons.mp (by simpa using q) with q | q
    · rw [← q] at hns
      simp at hns
    · exact nb q
  | _, _, u, .adr a, _, p => by rw [pureX] at p; cases p
  | _, _, u, .obj _ _ _, _, p => by rw [pureX] at p; cases p
theorem RepAll.rx (I : Inv X pins σ H s) (sk : SysK X.K) (m : Same B H) : ∀ {vs : List V} {ds : List D} (us : List Value), RepAll X.K B vs ds → Vals vs us → pureXs ds = true → ∃ as, ReadsAll s.heap us (toXs ds) as ∧ sysModules ∉ as
  | _, _, us, .nil, r, _ => by cases r; rw [toXs]; exact ⟨_, .nil, by simp⟩
  | _, _, us, .cons h r1, r, p => by
    rw [pureXs, Bool.and_eq_true] at p
    rw [toXs]
    cases r with
    | cons ra rb =>
      obtain ⟨as, q1, n1⟩ := Rep.rx I sk m _ h ra p.1
      obtain ⟨bs, q2, n2⟩ := RepAll.rx I sk m _ r1 rb p.2
      exact ⟨_, .cons q1 q2, fun z => (List.mem_append.mp z).elim n1 n2⟩
end
end
def shownX (d : D) : Str := (toX d).shown
def rOkX (d : D) : Bool := pureX d && (toX d).showable && decide ((toX d).depth ≤ 64) && decide ((shownX d).length ≤ sizeLine)
def fReprX : FC
  | [d], Q => rOkX d = true ∧ Q (.str (shownX d))
  | _, _ => False
def rReprX (K : PySem.W.Frag) : List V → Hp → VK → Prop := fun xs H Q => ∃ x d B, xs = [x] ∧ Same B H ∧ Rep K B x d ∧ pureX d = true ∧ (toX d).showable = true ∧ (toX d).depth ≤ 64 ∧ (shownX d).length ≤ sizeLine ∧ Q (.str (shownX d)) H
theorem call_reprX {X : Cx} (sk : SysK X.K) (hG : X.A.guards = some []) (hu : X.A.units + 100 < cLine) : CallR X (.builtin "repr") (rReprX X.K) := by
  rintro pins s σ H xs us Q I r ⟨x, d, B, rfl, m, rp, h0, h1, h3, h4, q⟩
  obtain ⟨u, rfl, rx⟩ := vals1 r
  obtain ⟨as, rd, na⟩ := Rep.rx I sk m u rp rx h0
  unfold shownX at h4 q
  cases d with
  | non =>
    cases rp
    cases rx
    exact PySem.P.repr_of_none ⟨.str _, H, I.tok _, ⟨_, rfl⟩, by rw [toX, PyData.shown] at q; exact q⟩
  | bl b =>
    cases rp
    cases rx
    exact PySem.P.repr_of_bool ⟨.str _, H, I.tok _, ⟨_, rfl⟩, by rw [toX, PyData.shown] at q; exact q⟩
  | int i =>
    cases rp
    obtain ⟨t, rfl⟩ := rx
    rw [toX, PyData.showable] at h1
    exact PySem.P.repr_of_int (of_decide_eq_true h1) ⟨.str _, H, I.tok _, ⟨_, rfl⟩, by rw [toX, PyData.shown] at q; exact q⟩
  | str y =>
    cases rp
    obtain ⟨t, rfl⟩ := rx
    rw [toX, PyData.shown] at h4 q
    exact PySem.P.repr_of_str ⟨.str _, H, I.tok _, ⟨_, rfl⟩, q⟩ h4
  | lst xs =>
    cases rp
    cases rx
    exact repr_of_reads' rd h1 (fun _ => na) hG (by omega) (fun _ _ e => e) (fun h' u tk hk => ⟨.str _, H, I.kept hk, ⟨_, rfl⟩, q⟩) h4
  | tup xs =>
    cases rp
    cases rx
    exact repr_of_reads' rd h1 (fun _ => na) hG (by omega) (fun _ _ e => e) (fun h' u tk hk => ⟨.str _, H, I.kept hk, ⟨_, rfl⟩, q⟩) h4
  | dct ks xs =>
    cases rp
    cases rx
    exact repr_of_reads' rd h1 (fun _ => na) hG (by omega) (fun _ _ e => e) (fun h' u tk hk => ⟨.str _, H, I.kept hk, ⟨_, rfl⟩, q⟩) h4
  | adr a => rw [pureX] at h0; cases h0
  | obj a b c => rw [pureX] at h0; cases h0
theorem c_reprX {K : PySem.W.Frag} : COp K (rReprX K) fReprX := by
  intro wd F B ω H vs ds Qa Q hs r hf k
  match ds, r, hf with
  | [d], .cons r1 .nil, hf =>
    obtain ⟨h, q⟩ := hf
    unfold rOkX at h
    simp only [Bool.and_eq_true, decide_eq_true_eq] at h
    exact ⟨_, d, B, rfl, hs.sB, r1, h.1.1.1, h.1.1.2, h.1.2, h.2, ro_same hs (.str _) q k⟩
def fUpper (x : D) (Q : D → Prop) : Prop := match x with
  | .str z => z.length ≤ 5592405 ∧ Q (.str (Txt.upper z))
  | _ => False
def boolS (b : Bool) : Str := if b then "True" else "False"
def fStr : FC
  | [.int i], Q => i.natAbs.log2 < 1920 ∧ Q (.str (toString i))
  | [.bl b], Q => Q (.str (boolS b))
  | _, _ => False
theorem fStr_int (i : Int) (Q : D → Prop) : fStr [.int i] Q = (i.natAbs.log2 < 1920 ∧ Q (.str (toString i))) := Eq.trans rfl rfl
theorem fStr_bl (b : Bool) (Q : D → Prop) : fStr [.bl b] Q = Q (.str (boolS b)) := Eq.trans rfl rfl
end MR
namespace MR
open PySem PySem.Spec PyProof.Rows L2
mutual
def siz : D → Nat
  | .str x => 10 * x.length + 4
  | .int _ => 64
  | .lst xs => sizs xs + 4
  | .tup xs => sizs xs + 4
  | .dct ks xs => sizs xs + 2010 * ks.length + 4
  | _ => 10
def sizs : List D → Nat
  | [] => 0
  | x :: xs => siz x + 4 + sizs xs
end
mutual
def dep : D → Nat
  | .lst xs => deps xs + 1
  | .tup xs => deps xs + 1
  | .dct _ xs => deps xs + 1
  | _ => 1
def deps : List D → Nat
  | [] => 0
  | x :: xs => max (dep x) (deps xs)
end
def asciiB (x : Str) : Bool := x.cps.toList.all fun c => decide (c < 128)
def keyB : Key → Bool
  | .inl i => decide (0 ≤ i) && decide (i ≤ 100)
  | .inr _ => false
mutual
def okB (M : Int) : D → Bool
  | .non => true
  | .bl _ => true
  | .int i => decide (-M ≤ i) && decide (i ≤ M)
  | .str x => asciiB x
  | .lst xs => okBs M xs
  | .tup xs => okBs M xs
  | .dct ks xs => decide (ks.length = xs.length) && (ks.all keyB && okBs M xs)
  | .adr _ => false
  | .obj _ _ _ => false
def okBs (M : Int) : List D → Bool
  | [] => true
  | x :: xs => okB M x && okBs M xs
end
/-- a thing: ints to M, at most k deep, of size n at most -/
structure Th (M : Int) (k n : Nat) (d : D) : Prop where
  ok : okB M d = true
  dp : dep d ≤ k
  sz : siz d ≤ n
theorem Th.le {M M' : Int} {k k' n n' : Nat} {d : D} (h : Th M k n d) (hM : M ≤ M') (hk : k ≤ k') (hn : n ≤ n') : Th M' k' n' d := by
  refine ⟨?_, Nat.le_trans h.dp hk, Nat.le_trans h.sz hn⟩
  have go : (∀ d : D, okB M d = true → okB M' d = true) ∧ ∀ ds : List D, okBs M ds = true → okBs M' ds = true := by
    refine ⟨?_, ?_⟩
    · intro d
      exact go1 M M' hM d
    · intro ds
      exact go2 M M' hM ds
  exact go.1 d h.ok
where
  go1 (M M' : Int) (hM : M ≤ M') : ∀ d : D, okB M d = true → okB M' d = true
    | .non, _ => by rw [okB]
    | .bl _, _ => by rw [okB]
    | .int i, h => by
      rw [okB] at h ⊢
      simp only [Bool.and_eq_true, decide_eq_true_eq] at h ⊢
      omega
    | .str x, h => by rw [okB] at h ⊢; exact h
    | .lst xs, h => by rw [okB] at h ⊢; exact go2 M M' hM xs h
    | .tup xs, h => by rw [okB] at h ⊢; exact go2 M M' hM xs h
    | .dct ks xs, h => by
      rw [okB] at h ⊢
      simp only [Bool.and_eq_true] at h ⊢
      exact ⟨h.1, h.2.1, go2 M M' hM xs h.2.2⟩
    | .adr _, h => by rw [okB] at h; cases h
    | .obj _ _ _, h => by rw [okB] at h; cases h
  go2 (M M' : Int) (hM : M ≤ M') : ∀ ds : List D, okBs M ds = true → okBs M' ds = true
    | [], _ => by rw [okBs]
    | d :: ds, h => by
      rw [okBs, Bool.and_eq_true] at h
      rw [okBs, go1 M M' hM d h.1, go2 M M' hM ds h.2]
      rfl
theorem okBs_all {M : Int} : ∀ {ds : List D}, okBs M ds = true ↔ ∀ d ∈ ds, okB M d = true
  | [] => by rw [okBs]; simp
  | d :: ds => by
    rw [okBs, Bool.and_eq_true, okBs_all (ds := ds)]
    simp
theorem dep_le {k : Nat} : ∀ {ds : List D}, deps ds ≤ k ↔ ∀ d ∈ ds, dep d ≤ k
  | [] => by rw [deps]; simp
  | d :: ds => by
    rw [deps, Nat.max_le, dep_le (ds := ds)]
    simp
theorem Th.tup {M : Int} {k n : Nat} {ds : List D} (h : ∀ d ∈ ds, okB M d = true ∧ dep d ≤ k) (hs : sizs ds + 4 ≤ n) : Th M (k + 1) n (.tup ds) :=
  ⟨by rw [okB]; exact okBs_all.mpr fun d hd => (h d hd).1, by rw [dep]; have := (dep_le (k := k) (ds := ds)).mpr fun d hd => (h d hd).2; omega, by rw [siz]; exact hs⟩
theorem Th.lst {M : Int} {k n : Nat} {ds : List D} (h : ∀ d ∈ ds, okB M d = true ∧ dep d ≤ k) (hs : sizs ds + 4 ≤ n) : Th M (k + 1) n (.lst ds) :=
  ⟨by rw [okB]; exact okBs_all.mpr fun d hd => (h d hd).1, by rw [dep]; have := (dep_le (k := k) (ds := ds)).mpr fun d hd => (h d hd).2; omega, by rw [siz]; exact hs⟩
theorem log_abs {i M : Int} (h1 : -M ≤ i) (h2 : i ≤ M) (hM : M < 2 ^ 190) : i.natAbs.log2 < 190 := by
  by_cases c : 0 ≤ i
  · exact log_lt c (by omega) (by decide)
  · have := log_lt (i := -i) (n := 190) (by omega) (by omega) (by decide)
    rwa [Int.natAbs_neg] at this
theorem dict_len (ts : List Str) : (dictText ts).length ≤ piled ts + 3 := by
  unfold dictText
  rw [strLen_append, strLen_append]
  have e1 : ((("{" : String) : Str)).length = 1 := rfl
  have e3 : ((("}" : String) : Str)).length = 1 := rfl
  by_cases h : ts = []
  · subst h
    decide
  · have := join_length_add ts h
    omega
theorem ascii_mem {x : Str} (h : asciiB x = true) : ∀ c ∈ x.cps.toList, c < 128 := fun c hc => of_decide_eq_true (List.all_eq_true.mp h c hc)
structure Kn (k n : Nat) (d : D) : Prop where
  pu : pureX d = true
  sh : (toX d).showable = true
  dp : (toX d).depth ≤ k
  ln : (shownX d).length ≤ n
structure Kns (k n : Nat) (ds : List D) : Prop where
  pu : pureXs ds = true
  sh : PyData.showableAll (toXs ds) = true
  dp : PyData.depthAll (toXs ds) ≤ k
  ln : piled (PyData.shownAll (toXs ds)) ≤ n
theorem int_text {i : Int} (h : i.natAbs.log2 < 1920) : True ∧ ((toString i : String) : Str).length ≤ 1921 := by
  have := (Sh.int h).ln
  unfold shownD at this
  rw [toP, PyData.shown] at this
  exact ⟨trivial, this⟩
theorem kv_dep : ∀ (ks : List Key) (xs : List D), ks.all keyB = true → PyData.depthKv ((ks.map keyP).zip (toXs xs)) ≤ PyData.depthAll (toXs xs)
  | [], xs, _ => by
    rw [List.map_nil, List.zip_nil_left, PyData.depthKv]
    omega
  | _ :: _, [], _ => by
    rw [toXs, List.zip_nil_right, PyData.depthKv]
    omega
  | c :: ks, x :: xs, h => by
    rw [List.all_cons, Bool.and_eq_true] at h
    have ih := kv_dep ks xs h.2
    rw [toXs, List.map_cons, List.zip_cons_cons, PyData.depthKv, PyData.depthAll]
    cases c with
    | inr z => exact absurd h.1 (by simp [keyB])
    | inl i =>
      rw [keyP, PyData.depth]
      omega
theorem kvs_known {k n : Nat} : ∀ (ks : List Key) (xs : List D), ks.all keyB = true → PyData.showableAll (toXs xs) = true → PyData.depthAll (toXs xs) ≤ k → 1 ≤ k →
    PyData.showableKv ((ks.map keyP).zip (toXs xs)) = true ∧ PyData.depthKv ((ks.map keyP).zip (toXs xs)) ≤ k ∧ piled (PyData.shownKv ((ks.map keyP).zip (toXs xs))) ≤ piled (PyData.shownAll (toXs xs)) + 2010 * ks.length
  | [], xs, _, _, _, _ => by
    rw [List.map_nil, List.zip_nil_left]
    refine ⟨by rw [PyData.showableKv], by rw [PyData.depthKv]; omega, by rw [PyData.shownKv, piled_nil]; omega⟩
  | _ :: _, [], _, _, _, _ => by
    rw [toXs, List.zip_nil_right]
    refine ⟨by rw [PyData.showableKv], by rw [PyData.depthKv]; omega, by rw [PyData.shownKv, piled_nil]; omega⟩
  | c :: ks, x :: xs, h1, h2, h3, h4 => by
    rw [toXs, PyData.showableAll, Bool.and_eq_true] at h2
    rw [toXs, PyData.depthAll] at h3
    rw [List.all_cons, Bool.and_eq_true] at h1
    obtain ⟨a1, a2, a3⟩ := kvs_known (n := n) ks xs h1.2 h2.2 (by omega) h4
    cases c with
    | inr z => exact absurd h1.1 (by simp [keyB])
    | inl i =>
      have hi : 0 ≤ i ∧ i ≤ 100 := by
        have := h1.1
        simp only [keyB, Bool.and_eq_true, decide_eq_true_eq] at this
        exact this
      have li : i.natAbs.log2 < 1920 := Nat.lt_trans (log_lt hi.1 (by omega : i < 2 ^ 7) (by decide)) (by decide)
      rw [toXs, List.map_cons, List.zip_cons_cons]
      refine ⟨?_, ?_, ?_⟩
      · rw [PyData.showableKv, a1, h2.1, keyP, PyData.showable, decide_eq_true li]
        rfl
      · rw [PyData.depthKv, keyP, PyData.depth]
        omega
      · rw [PyData.shownKv, piled_cons, PyData.shownAll, piled_cons, List.length_cons]
        have := (int_text li).2
        have e2 : (((": " : String) : Str)).length = 2 := rfl
        rw [keyP, PyData.shown, strLen_append, strLen_append]
        omega
mutual
theorem Th.known {M : Int} (hM : M < 2 ^ 190) : ∀ d : D, okB M d = true → Kn (dep d) (siz d) d
  | .non, _ => ⟨by rw [pureX], by rw [toX, PyData.showable], by rw [toX, PyData.depth]; omega, by unfold shownX; rw [toX, PyData.shown]; simp [siz]; decide⟩
  | .bl b, _ => ⟨by rw [pureX], by rw [toX, PyData.showable], by rw [toX, PyData.depth]; omega, by unfold shownX; rw [toX, PyData.shown]; simp only [siz]; cases b <;> decide⟩
  | .int i, h => by
    rw [okB] at h
    simp only [Bool.and_eq_true, decide_eq_true_eq] at h
    have l := log_abs h.1 h.2 hM
    refine ⟨by rw [pureX], by rw [toX, PyData.showable]; exact decide_eq_true (by omega), by rw [toX, PyData.depth]; omega, ?_⟩
    unfold shownX
    rw [toX, PyData.shown, siz]
    have l10 : i.natAbs < 10 ^ 58 := by
      have : (2 : Int) ^ 190 < 10 ^ 58 := by decide +kernel
      have h1 := h.1
      have h2 := h.2
      omega
    have := int_text_length_le10 (k := 58) (by decide) l10
    show (Str.ofString (toString i)).length ≤ 64
    rw [PySem.ofString_length]
    omega
  | .str x, h => by
    rw [okB] at h
    refine ⟨by rw [pureX], by rw [toX, PyData.showable], by rw [toX, PyData.depth]; omega, ?_⟩
    unfold shownX
    rw [toX, PyData.shown, siz]
    have := PySem.StrLaws.reprText_len x fun c hc => Nat.lt_trans (ascii_mem h c hc) (by decide)
    omega
  | .lst xs, h => by
    rw [okB] at h
    obtain ⟨h1, h2, h3, h4⟩ := Th.knowns hM xs h
    refine ⟨by rw [pureX]; exact h1, by rw [toX, PyData.showable]; exact h2, by rw [toX, PyData.depth, dep]; omega, ?_⟩
    have h2 := from_len (PyData.shownAll (toXs xs)) 0 "["
    unfold shownX
    rw [toX, PyData.shown, siz]
    show (textFrom 0 "[" (PyData.shownAll (toXs xs)) ++ ("]" : String)).length ≤ _
    rw [strLen_append]
    have e1 : ((("[" : String) : Str)).length = 1 := rfl
    have e2 : ((("]" : String) : Str)).length = 1 := rfl
    omega
  | .tup xs, h => by
    rw [okB] at h
    obtain ⟨h1, h2, h3, h4⟩ := Th.knowns hM xs h
    refine ⟨by rw [pureX]; exact h1, by rw [toX, PyData.showable]; exact h2, by rw [toX, PyData.depth, dep]; omega, ?_⟩
    have h2 := tup_len (PyData.shownAll (toXs xs))
    unfold shownX
    rw [toX, PyData.shown, siz]
    omega
  | .dct ks xs, h => by
    rw [okB] at h
    simp only [Bool.and_eq_true] at h
    obtain ⟨h1, h2, h3, h4⟩ := Th.knowns hM xs h.2.2
    obtain ⟨a1, a2, a3⟩ := kvs_known (k := deps xs + 1) (n := 0) ks xs h.2.1 h2 (by omega) (by omega)
    refine ⟨by rw [pureX, h.1, h1]; rfl, by rw [toX, PyData.showable]; exact a1, ?_, ?_⟩
    · rw [toX, PyData.depth, dep]
      have b := kv_dep ks xs h.2.1
      omega
    · have h2 := dict_len (PyData.shownKv ((ks.map keyP).zip (toXs xs)))
      unfold shownX
      rw [toX, PyData.shown, siz]
      omega
  | .adr _, h => by rw [okB] at h; cases h
  | .obj _ _ _, h => by rw [okB] at h; cases h
theorem Th.knowns {M : Int} (hM : M < 2 ^ 190) : ∀ ds : List D, okBs M ds = true → Kns (deps ds) (sizs ds) ds
  | [], _ => ⟨by rw [pureXs], by rw [toXs, PyData.showableAll], by rw [toXs, PyData.depthAll]; omega, by rw [toXs, PyData.shownAll, piled_nil]; omega⟩
  | d :: ds, h => by
    rw [okBs, Bool.and_eq_true] at h
    obtain ⟨a1, a2, a3, a4⟩ := Th.known hM d h.1
    obtain ⟨b1, b2, b3, b4⟩ := Th.knowns hM ds h.2
    refine ⟨by rw [pureXs, a1, b1]; rfl, by rw [toXs, PyData.showableAll, a2, b2]; rfl, by rw [toXs, PyData.depthAll, deps]; omega, ?_⟩
    rw [toXs, PyData.shownAll, piled_cons, sizs]
    unfold shownX at a4
    omega
end
theorem Th.rok {M : Int} {k n : Nat} {d : D} (h : Th M k n d) (hM : M < 2 ^ 190) (hk : k ≤ 64) (hn : n ≤ 16000000) : rOkX d = true := by
  obtain ⟨a1, a2, a3, a4⟩ := Th.known hM d h.ok
  have := h.dp
  have := h.sz
  have e : sizeLine = 16777216 := by decide
  unfold rOkX
  rw [a1, a2, decide_eq_true (by omega : (toX d).depth ≤ 64), decide_eq_true (by omega : (shownX d).length ≤ sizeLine)]
  rfl
end MR
namespace MR
open PySem PySem.Spec PyProof.Rows L2
end MR
namespace MR
open PySem PySem.Spec PyProof.Rows L2
def gd (a b : Int) : Int := (Nat.gcd a.toNat b.toNat : Int)
def posI (ms : List Int) : Prop := ∀ m ∈ ms, 1 ≤ m
theorem posI.cons {m : Int} {ms : List Int} (h : posI (m :: ms)) : 1 ≤ m ∧ posI ms := ⟨h m (by simp), fun a ha => h a (by simp [ha])⟩
theorem posI.take {ms : List Int} (h : posI ms) (i : Nat) : posI (ms.take i) := fun m hm => h m (List.mem_of_mem_take hm)
end MR
namespace MR
open PySem PySem.Spec PyProof.Rows L2
def cg (m a b : Int) : Prop := a % m = b % m
theorem cg.rfl {m a : Int} : cg m a a := Eq.refl _
theorem cg.symm {m a b : Int} (h : cg m a b) : cg m b a := Eq.symm h
theorem cg.trans {m a b c : Int} (h : cg m a b) (h2 : cg m b c) : cg m a c := Eq.trans h h2
theorem cg.of {m a b : Int} (h : a = b) : cg m a b := by rw [h]; exact .rfl
theorem cg.add {m a b c d : Int} (h : cg m a b) (h2 : cg m c d) : cg m (a + c) (b + d) := by
  unfold cg at *
  rw [Int.add_emod, h, h2, ← Int.add_emod]
theorem cg.sub {m a b c d : Int} (h : cg m a b) (h2 : cg m c d) : cg m (a - c) (b - d) := by
  unfold cg at *
  rw [Int.sub_emod, h, h2, ← Int.sub_emod]
theorem cg.mul {m a b c d : Int} (h : cg m a b) (h2 : cg m c d) : cg m (a * c) (b * d) := by
  unfold cg at *
  rw [Int.mul_emod, h, h2, ← Int.mul_emod]
theorem cg.mod (m a : Int) : cg m (a % m) a := Int.emod_emod ..
/-- a sum of so many -/
def sm : Nat → (Nat → Int) → Int
  | 0, _ => 0
  | n + 1, f => sm n f + f n
/-- w is half a turn of 2^k -/
def rt (m : Int) (k : Nat) (w : Int) : Prop := k = 0 ∨ cg m (w ^ 2 ^ (k - 1)) (-1)
end MR
namespace MR
open PySem PySem.Spec L2
section
variable {wd : Wd} {X : Cx} {W : WX}
def sPar3 (i j l : Nat) (g h f : AE wd) : AS wd := fun Da ρ ω => g ρ ω (fun d ω1 => h ρ ω1 (fun e ω2 => f ρ ω2 (fun c ω3 => Da.nx (((ρ.set i (some (.d d))).set j (some (.d e))).set l (some (.d c))) ω3) (fun x ω' => Da.ex x ρ ω')) (fun x ω' => Da.ex x ρ ω')) (fun x ω' => Da.ex x ρ ω')
theorem gs_par3 (i j l : Nat) {x y z : Str} {a b c : Expr} {ga gb gc : AE wd} {px py pz pt pos : Pos} {kt k2 pt2} (hc : X.calm = true) (hN : X.N.Nodup) (ha : GE wd X W a ga) (hb : GE wd X W b gb) (hcc : GE wd X W c gc) (hi : X.N[i]? = some x := by rfl) (hj : X.N[j]? = some y := by rfl) (hl : X.N[l]? = some z := by rfl) (hij : i ≠ j := by decide) (hil : i ≠ l := by decide) (hjl : j ≠ l := by decide)
    (hx : X.env.scope.names.lookup x = some .local := by rfl) (hy : X.env.scope.names.lookup y = some .local := by rfl) (hz : X.env.scope.names.lookup z = some .local := by rfl)
    (hw : swappedStores [.Tuple [.Name x px, .Name y py, .Name z pz] kt pt] (.Tuple [a, b, c] k2 pt2) X.env = pure (some [x, y, z]) := by rfl)
    (hs : swapsWithSole [.Tuple [.Name x px, .Name y py, .Name z pz] kt pt] (.Tuple [a, b, c] k2 pt2) pos.line X.env = pure false := by rfl)
    (hsa : starEach [a, b, c] X.env = (false, eval a X.env) :: starEach [b, c] X.env := by rfl) (hsb : starEach [b, c] X.env = (false, eval b X.env) :: starEach [c] X.env := by rfl) (hsc : starEach [c] X.env = (false, eval c X.env) :: starEach [] X.env := by rfl) :
    GS wd X W (.Assign [.Tuple [.Name x px, .Name y py, .Name z pz] kt pt] (.Tuple [a, b, c] k2 pt2) pos) (sPar3 i j l ga gb gc) :=
  let ⟨_, pa, ra⟩ := ha.ex; let ⟨_, pb, rb⟩ := hb.ex; let ⟨_, pc, rc⟩ := hcc.ex; ⟨_, ps_par3 hc hN hi hj hl hij hil hjl hx hy hz (pa_cons pa (pa_cons pb (pa_cons pc pa_nil hsc) hsb) hsa) hw hs, fun F0 F B ρ ω σ H Da E s q k => ra F B ρ ω σ H _ _ _ s.st s.env q (fun B1 ω1 H1 v1 d1 s1 hs1 r1 g1 =>
    rb F B1 ρ ω1 σ H1 _ _ _ hs1 (s.env.mono s1) g1 (fun B2 ω2 H2 v2 d2 s2 hs2 r2 g2 =>
      rc F B2 ρ ω2 σ H2 _ _ _ hs2 (s.env.mono (s1.trans s2)) g2 (fun B3 ω3 H3 v3 d3 s3 hs3 r3 g3 =>
        ⟨v1, v2, v3, rfl, k.nx ((s1.trans s2).trans s3) ((((s.up ((s1.trans s2).trans s3) hs3).set i (r1.mono (s2.trans s3))).set j (r2.mono s3)).set l r3) g3⟩) ((k.xok s).mono (s1.trans s2))) ((k.xok s).mono s1)) (k.xok s)⟩
end
end MR
namespace MR
open PySem PySem.Spec PyProof.Rows L2
section
variable {wd : Wd} {X : Cx} {W : WX} {e e2 : Expr} {p pos tpos : Pos} {elts : List Expr} {kk : Nat}
def iZipMG (g h : AE wd) : AA wd := fun ρ ω Q E => g ρ ω (fun d ω1 => h ρ ω1 (fun f ω2 => match d, f with
  | .tup xs, .tup ys => Q (zipD xs ys) ω2
  | .lst xs, .lst ys => Q (zipD xs ys) ω2
  | .tup xs, .lst ys => Q (zipD xs ys) ω2
  | _, _ => False) E) E
end
end MR
namespace MR
open PySem PySem.Spec PyProof.Rows L2
end MR
namespace MR
open PySem PySem.Spec L2
def sca : D → Bool
  | .int _ | .bl _ | .str _ | .non => true
  | _ => false
theorem DWd.down {K : PySem.W.Frag} {ω : DW} {B B1 H H1 : Hp} (h : DWd.holds K ω B H) (h1 : DWd.holds K ω B1 H1) : DWd.holds K ω B H1 := by
  refine ⟨h.1, fun p c cs s t e => ?_⟩
  obtain ⟨a1, a2, a3, _, _⟩ := h.2 p c cs s t e
  obtain ⟨_, _, _, b4, b5⟩ := h1.2 p c cs s t e
  exact ⟨a1, a2, a3, b4, b5⟩
def gBor (i : Nat) (g : AE DWd) : AE DWd := fun ρ ω Q _ => g (frz i ρ) ω (fun d ω' => sca d = true ∧ ω' = ω ∧ Q d ω) (fun _ _ => False)
/-- frozen for a while -/
theorem bor_core {K : PySem.W.Frag} {F B H : Hp} {ρ : AEnv} {ω : DW} {σ : L2.St} (i : Nat) (hs : Hst DWd K F B ω H) (he : EnvOk K F B ρ σ) : ∃ F' B', Same B B' ∧ Hst DWd K F' B' ω H ∧ EnvOk K F' B' (frz i ρ) σ ∧ ∀ B1 H1, Same B' B1 → Hst DWd K F' B1 ω H1 → Hst DWd K F B ω H1 := by
  have sim : Sim DWd K (fun q => open Classical in if (∃ (j : Nat) (l : List D), ρ[j]? = some (some (Ent.own l)) ∧ σ[j]? = some (some (V.ref q))) then none else F q) F B ρ ω σ H := by
    refine ⟨hs, he, fun q o z => ?_, fun j l q h1 h2 => if_pos ⟨j, l, h1, h2⟩⟩
    by_cases c : ∃ (j : Nat) (l : List D), ρ[j]? = some (some (Ent.own l)) ∧ σ[j]? = some (some (V.ref q))
    · rw [if_pos c] at z
      cases z
    · rw [if_neg c] at z
      exact z
  obtain ⟨F', B', m, s'⟩ := sim.freeze i
  refine ⟨F', B', m, s'.st, s'.env, fun B1 H1 m1 hs1 => ⟨fun q o z => hs1.sB _ _ (m1 _ _ (m _ _ z)), fun q o z => ?_, hs.dj, hs.fw, DWd.down hs.wat hs1.wat⟩⟩
  have hq := hs.sF _ _ z
  by_cases c : ∃ (j : Nat) (l : List D), ρ[j]? = some (some (Ent.own l)) ∧ σ[j]? = some (some (V.ref q))
  · obtain ⟨j, l, h1, h2⟩ := c
    by_cases y : i = j
    · subst y
      have e1 : (frz i ρ)[i]? = some (some (.d (.lst l))) := by
        unfold frz
        rw [h1]
        exact List.getElem?_set_self (List.getElem?_eq_some_iff.mp h1).1
      obtain ⟨v2, e2, rv2⟩ := s'.env.ent i _ e1
      rw [h2] at e2
      cases e2
      cases rv2 with
      | lst b1 _ =>
        have e3 := s'.st.sB _ _ b1
        rw [hq] at e3
        rw [e3]
        exact hs1.sB _ _ (m1 _ _ b1)
    · have e1 : (frz i ρ)[j]? = some (some (.own l)) := by
        unfold frz
        split
        · rw [List.getElem?_set_ne y]
          exact h1
        · exact h1
      obtain ⟨p2, vs, e2, f1, _⟩ := s'.env.ent j _ e1
      rw [h2] at e2
      cases e2
      have e3 := s'.st.sF _ _ f1
      rw [hq] at e3
      rw [e3]
      exact hs1.sF _ _ f1
  · have f1 := s'.f0 q o (by rw [if_neg c]; exact z)
    exact hs1.sF _ _ f1
def gBorT (i : Nat) (g : AT DWd) : AT DWd := fun ρ ω Q _ => g (frz i ρ) ω (fun b ω' => ω' = ω ∧ Q b ω) (fun _ _ => False)
theorem gt_bor {X : Cx} {W : WX} {e : Expr} {g : AT DWd} (i : Nat) (h : GT DWd X W e g) : GT DWd X W e (gBorT i g) := by
  obtain ⟨t, p, r⟩ := h.ex
  refine ⟨t, p, fun F B ρ ω σ H Qa Ea Q hs he hg hk hx => ?_⟩
  obtain ⟨F', B', m, st, ev, back⟩ := bor_core i hs he
  refine r F' B' (frz i ρ) ω σ H _ _ Q st ev hg (fun B1 ω1 H1 b m1 hs1 z => ?_) (fun _ _ _ _ _ _ _ _ _ z => z.elim)
  obtain ⟨ew, q⟩ := z
  subst ew
  exact hk B ω1 H1 b (Same.refl _) (back B1 H1 m1 hs1) q
end MR
namespace MR
open PySem PySem.Spec PyProof.Rows L2
end MR
namespace MR
open PySem PySem.Spec L2
section
variable {wd : Wd} {X : Cx} {W : WX} {e : Expr}
def get3 (k1 v1 k2 v2 k3 v3 c n : Int) : Int := if k1 = n then v1 else if k2 = n then v2 else if k3 = n then v3 else c
def gGet3 (k1 v1 k2 v2 k3 v3 c : Int) (g : AE wd) : AE wd := fun ρ ω Q E => g ρ ω (fun x ω1 => match x with
  | .int n => Q (.int (get3 k1 v1 k2 v2 k3 v3 c n)) ω1
  | _ => False) E
end
end MR
namespace MR
open PySem PySem.Spec L2
end MR
namespace MR
open PySem PySem.Spec L2
/-- own classes ahead of ArithmeticError's line -/
def refsAE : List Value → Bool
  | .ref _ :: r => refsAE r
  | l => l == aeB
theorem refsAE_ind {P : List Value → Prop} (h0 : P aeB) (h1 : ∀ c r, P r → P (.ref c :: r)) : ∀ l, refsAE l = true → P l
  | [], e => absurd e (by decide)
  | .ref c :: r, e => h1 c r (refsAE_ind h0 h1 r e)
  | .none :: _, e => by rw [beq_iff_eq.mp e]; exact h0
  | .ellipsis :: _, e => by rw [beq_iff_eq.mp e]; exact h0
  | .notImplemented :: _, e => by rw [beq_iff_eq.mp e]; exact h0
  | .bool _ :: _, e => by rw [beq_iff_eq.mp e]; exact h0
  | .int _ _ :: _, e => by rw [beq_iff_eq.mp e]; exact h0
  | .float _ _ :: _, e => by rw [beq_iff_eq.mp e]; exact h0
  | .str _ _ :: _, e => by rw [beq_iff_eq.mp e]; exact h0
  | .bytes _ _ :: _, e => by rw [beq_iff_eq.mp e]; exact h0
  | .type _ :: _, e => by rw [beq_iff_eq.mp e]; exact h0
  | .builtin _ :: _, e => by rw [beq_iff_eq.mp e]; exact h0
theorem ae_pass (self : Value) {l : List Value} (e : refsAE l = true) : refuseLoop self "__setattr__" l = pure () :=
  refsAE_ind (P := fun l => refuseLoop self "__setattr__" l = pure ()) (PySem.F.store_ArithmeticError.passes self) (fun c r ih => by rw [refuseLoop_ref]; exact ih) l e
theorem ae_has (Y : String) {l : List Value} (e : refsAE l = true) : l.contains (.type Y) = aeB.contains (.type Y) :=
  refsAE_ind (P := fun l => l.contains (.type Y) = aeB.contains (.type Y)) rfl (fun c r ih => by rw [List.contains_cons, ih]; rfl) l e
theorem ae_ne {l : List Value} (e : refsAE l = true) : l.isEmpty = false := refsAE_ind (P := fun l => l.isEmpty = false) rfl (fun _ _ _ => rfl) l e
open Builtin Builtin.ObjectAttr
section
variable {prog : Program} {w : World} {A : Around} {R : Result → Shared → Prop} {hp : Heap} {g : Array GenState} {d : Drawn} {t : Nat} {os : OsState}
theorem ae_front {K : PySem.W.Frag} {name : Str} {tk : Tok} {v : Value} {x C : Addr} {ox : Obj} {od : Option Obj} {cd : ClassData}
    (X : K.In hp) (I : PySem.W.InstAt hp x ox C od) (hcd : PySem.W.clsIn K C = some cd) (hm : refsAE cd.mro = true) (ha : PySem.W.findIn K (.ref C) name = some none)
    (h : wpAny (model prog w) A.in1 (storeInOwnDict (.ref x) (.ref C) (.str name tk) name v false) (fun fin s' => match fin with
      | .done f => R (.ok f) s'
      | .again c' => c'.quiet = true ∧ codeAny (model prog w) A c' R s') (fun e s' => R (.error e) s') ⟨hp, g, d, t, os⟩) : codeAny (model prog w) A (.call (.builtin "object.__setattr__") ⟨[.ref x, .str name tk, v], []⟩) R ⟨hp, g, d, t, os⟩ := by
  have S := PySem.F.store_object
  have hob : cd.mro.contains (.type "object") = true := (ae_has "object" hm).trans (by decide +kernel)
  have sub : PySem.W.Looks (model prog w) hp (isInstance (.ref x) (.type "object")) true := I.type.andThen (PySem.W.looks_mroIn X (by unfold PySem.W.mroIn; rw [hcd, Option.bind_some, if_neg (by rw [ae_ne hm]; decide), hob]))
  have line : PySem.W.Looks (model prog w) hp (mroOf (.ref C)) cd.mro := (PySem.W.looks_clsIn X hcd).andThen .now
  have no : PySem.W.Looks (model prog w) hp (storeTaker? none) none := .now
  refine codeAny_call_builtin S.slot.plain S.entry (@PySem.W.check_slot (model prog w) _ _ ⟨hp, g, d, t, os⟩ "object.__setattr__" "object" "__setattr__" (.ref x) [.str name tk, v] [] _ S.kind S.split sub (S.args (.ref x) (.str name tk) v) ?_)
  rw [PySem.W.osa_eq, refuse_eq]
  refine wpAny_bind (wpAny_bind (I.type.at (wpAny_bind (line.at ?_))))
  rw [ae_pass _ hm]
  refine wpAny_pure (wpAny_bind (I.type.at (wpAny_bind ((PySem.W.looks_findIn X ha).at (wpAny_bind (no.at ?_))))))
  exact h
variable {K : PySem.W.Frag} {name : Str} {tk : Tok} {v : Value} {x C dx : Addr} {fv : Array Value} {cd : ClassData}
theorem ae_first (X : K.In hp) (hx : hp.get? x = some { cls := .ref C, data := .fields fv }) (hcd : PySem.W.clsIn K C = some cd) (hm : refsAE cd.mro = true) (hh : cd.hasDict = true) (ha : PySem.W.findIn K (.ref C) name = some none)
    (hq : ∀ h' tk' dx, (∀ b o, b ≠ x → hp.get? b = some o → h'.get? b = some o) → hp.objs.size ≤ dx → dx ≠ x → h'.get? x = some { cls := .ref C, dict := some dx, data := .fields fv } →
      h'.Ns1 dx (fun y => if y = name then some v else none) → R (.ok (.ret .none)) ⟨h', g, d, tk', os⟩) :
    codeAny (model prog w) A (.call (.builtin "object.__setattr__") ⟨[.ref x, .str name tk, v], []⟩) R ⟨hp, g, d, t, os⟩ := by
  have far : x ≠ hp.objs.size := Nat.ne_of_lt (Heap.lt_size hx)
  have look : PySem.W.Looks (model prog w) hp (classData C) cd := PySem.W.looks_clsIn X hcd
  refine ae_front X (ox := { cls := .ref C, data := .fields fv }) (od := none) ⟨hx, rfl, rfl, trivial⟩ hcd hm ha ?_
  cases cd
  subst hh
  unfold storeInOwnDict ownDictForStores
  repeat (first | with_reducible refine PySem.HandSPX.store_in_new ?_ ?_ | with_reducible refine wpAny_loadPart_at hx ?_ | with_reducible refine look.at ?_ | wp_step)
  · exact ⟨_, #[], _, (Heap.get?_update_ne _ _ _ _ far.symm).trans (Heap.get?_push_at rfl rfl), rfl, fun e he => absurd he (by simp), fun _ => rfl⟩
  · intro h' tk' n hs
    have hx₁ : (hp.push { cls := .type "dict", data := .dict #[] }).get? x = some { cls := .ref C, data := .fields fv } := Heap.get?_push_of_some _ hx
    exact hq h' tk' hp.objs.size (fun b o hb ho => (hs.2 b (Nat.ne_of_lt (Heap.lt_size ho))).trans ((Heap.get?_update_ne _ _ _ _ hb).trans (Heap.get?_push_of_some _ ho))) (Nat.le_refl _) far.symm ((hs.2 x far).trans (Heap.get?_update_self _ hx₁ rfl)) n
theorem ae_more {m0 : Str → Option Value} {nl : List Str} (X : K.In hp) (hx : hp.get? x = some { cls := .ref C, dict := some dx, data := .fields fv }) (hns : hp.Ns1 dx m0) (hw : Within m0 nl) (hz : nl.length ≤ 1000) (hcd : PySem.W.clsIn K C = some cd) (hm : refsAE cd.mro = true) (hh : cd.hasDict = true) (ha : PySem.W.findIn K (.ref C) name = some none)
    (hq : ∀ h' tk', (∀ b o, b ≠ dx → hp.get? b = some o → h'.get? b = some o) → h'.Ns1 dx (fun y => if y = name then some v else m0 y) → R (.ok (.ret .none)) ⟨h', g, d, tk', os⟩) :
    codeAny (model prog w) A (.call (.builtin "object.__setattr__") ⟨[.ref x, .str name tk, v], []⟩) R ⟨hp, g, d, t, os⟩ := by
  obtain ⟨oD, _, _, hoD, _, _⟩ := hns.count hw
  have look : PySem.W.Looks (model prog w) hp (classData C) cd := PySem.W.looks_clsIn X hcd
  refine ae_front X (ox := { cls := .ref C, dict := some dx, data := .fields fv }) (od := some oD) ⟨hx, rfl, rfl, hoD⟩ hcd hm ha ?_
  cases cd
  subst hh
  unfold storeInOwnDict ownDictForStores
  repeat (first | with_reducible refine PySem.OEX.store_in_old hns hw hz ?_ | with_reducible refine wpAny_loadPart_at hx ?_ | with_reducible refine look.at ?_ | wp_step)
  intro h' tk' n hs
  exact hq h' tk' (fun b o hb ho => (hs.2 b hb).trans ho) n
end
end MR
namespace MR
open PySem PySem.Spec PyProof.Rows L2
/-- what the written part says of such a class -/
structure ExA (K : PySem.W.Frag) (C : Addr) : Prop where
  cls : ∃ nm q N bs bm sn sub ab col dd k0 k1 k2 k3 k5, K.lookup C = some (excClassObj nm q C N bs bm true sn sub ab col dd k0 k1 k2 k3 k5 "ArithmeticError.__new__") ∧ refsAE bm = true
  sa : PySem.W.findIn K (.ref C) "__setattr__" = some (some (.builtin "object.__setattr__"))
  exC : PySem.W.subIn K (.ref C) (.type "BaseException") = some true
  tyC : PySem.W.typeIn K (.ref C) = some (.type "type")
  kC : PySem.W.keepIn K (.ref C) = true
def exaB (K : PySem.W.Frag) (C : Addr) : Bool := match K.lookup C with
  | some ⟨.type "type", _, .cls cd, sl⟩ => (match cd.mro, sl.toList with
    | .ref C' :: bm, [_, _, _, _, some (.builtin n), _] => decide (C' = C) && (n == "ArithmeticError.__new__" && (!cd.hasDel && (cd.hasDict && refsAE bm)))
    | _, _ => false)
  | _ => false
theorem exa_of {K : PySem.W.Frag} {C : Addr} (q : exaB K C = true) : ∃ nm qn N bs bm sn sub ab col dd k0 k1 k2 k3 k5, K.lookup C = some (excClassObj nm qn C N bs bm true sn sub ab col dd k0 k1 k2 k3 k5 "ArithmeticError.__new__") ∧ refsAE bm = true := by
  unfold exaB at q
  split at q
  · rename_i dd cd sl ho
    split at q
    · rename_i C' bm k0 k1 k2 k3 n k5 hm hs
      simp only [Bool.and_eq_true, beq_iff_eq, Bool.not_eq_true', decide_eq_true_eq] at q
      obtain ⟨rfl, rfl, hdel, hd1, hr⟩ := q
      obtain ⟨nm, bs, mro, ns, qn, hd, sn, sub, ab, col, del⟩ := cd
      dsimp only at hm hdel hd1
      subst hm hdel hd1
      have hsl : sl = #[k0, k1, k2, k3, some (.builtin "ArithmeticError.__new__"), k5] := by
        obtain ⟨l⟩ := sl
        simp only at hs
        rw [hs]
      subst hsl
      exact ⟨nm, qn, ns, bs, bm, sn, sub, ab, col, dd, k0, k1, k2, k3, k5, ho, hr⟩
    · cases q
  · cases q
theorem ExA.data {K : PySem.W.Frag} {C : Addr} (T : ExA K C) : ∃ cd : ClassData, PySem.W.clsIn K C = some cd ∧ refsAE cd.mro = true ∧ cd.hasDict = true := by
  obtain ⟨nm, q, N, bs, bm, sn, sub, ab, col, dd, k0, k1, k2, k3, k5, hC, hbm⟩ := T.cls
  exact ⟨{ name := nm, bases := bs, mro := .ref C :: bm, ns := N, qualname := q, hasDict := true, slotNames := sn, subclasses := sub, abstract := ab, collection := col, hasDel := false }, by unfold PySem.W.clsIn; rw [hC] <;> rfl, hbm, rfl⟩
section
variable {X : Cx} {pins : List (Addr × Obj)} {σ : L2.St} {H : Hp} {s : Shared} {a C dx : Addr} {f : Str} {y : V} {u : Value} {fs : List (Str × V)} {Q : Unit → Shared → Prop} {E : Value → Shared → Prop} {A : Around}
theorem ax_first (T : ExA X.K C) (I : Inv X pins σ H s) (e : H a = some (exo a C none)) (hno : PySem.W.findIn X.K (.ref C) f = some none) (ry : RelV y u)
    (h : ∀ dx s', H dx = none → dx ≠ a → Inv X pins σ (upd (upd H dx (exd dx [(f, y)])) a (exo a C (some dx))) s' → Q () s') : wpAny (model X.prog X.w) A (setAttr (.ref a) f u) Q E s := by
  obtain ⟨cd, hcl, hm, hd⟩ := T.data
  obtain ⟨t1, ho⟩ := exo_at I.hok e
  obtain ⟨hp, g, dr, t, os⟩ := s
  refine PySem.W.set_plain I.kIn (ox := { cls := .ref C, dict := none, data := .fields #[.ref t1, .none, .none, .none, .bool false, .none] }) (od := none) ⟨ho, rfl, rfl, trivial⟩ T.sa ?_
  refine ae_first I.kIn ho hcl hm hd hno (fun h' tk' dx k dn dne hx hn => ?_)
  have hnd : H dx = none := I.hok.fresh dn
  have far : ∀ {b : Addr} {o : Obj}, hp.get? b = some o → b ≠ dx := fun {b o} q => Nat.ne_of_lt (Nat.lt_of_lt_of_le (Heap.lt_size q) dn)
  have na : ∀ {b : Addr}, H b = none → b ≠ a := fun {b} n z => by
    rw [z, e] at n
    cases n
  have U : Un X.fs [] H (upd (upd H dx (exd dx [(f, y)])) a (exo a C (some dx))) hp h' := {
    keep := fun b o q n _ _ => k b o (na n) q
    slot := fun b o q n _ _ => ⟨o.slots, k b o (na n) q⟩
    free := fun b o q n _ => by rw [upd_ne (na n), upd_ne (far q)]; exact n
    there := fun b o q _ => by
      by_cases hb : b = a
      · exact ⟨_, by rw [hb]; exact hx⟩
      · exact ⟨o, k b o hb q⟩
    tups := fun b xs q => by rw [upd_ne (at_ne e q exo_tup), upd_ne (ne_of_none q hnd)]; exact q
    frzs := fun b o v q => by rw [upd_ne (at_ne e q exo_frz), upd_ne (ne_of_none q hnd)]; exact q
    tbls := fun b ps q => ⟨#[], by rw [upd_ne (at_ne e q exo_tbl), upd_ne (ne_of_none q hnd), q]; simp⟩ }
  refine h dx _ hnd dne (I.un (t' := tk') U fun b o q => ?_)
  by_cases hb : b = a
  · subst hb
    rw [upd_same] at q
    cases q
    exact exo_ok hx
  rw [upd_ne hb] at q
  by_cases hd : b = dx
  · subst hd
    rw [upd_same] at q
    cases q
    exact exd_ok hn (relO_put (fs := []) ry fun g => True.intro)
  rw [upd_ne hd] at q
  exact (I.hok b o q).stay (fun c v hc z => k c v (hc.elim (fun w => by rw [w]; exact hb) (fun w => at_ne e w exo_own)) z)
    (fun c hc => by rw [upd_ne (at_ne e hc exo_own), upd_ne (ne_of_none hc hnd)]; exact hc) (fun c xs hc => by rw [upd_ne (at_ne e hc exo_tup), upd_ne (ne_of_none hc hnd)]; exact hc)
theorem ax_more (T : ExA X.K C) (I : Inv X pins σ H s) (e : H a = some (exo a C (some dx))) (ed : H dx = some (exd dx fs)) (hl : fs.length ≤ 900) (hno : PySem.W.findIn X.K (.ref C) f = some none) (ry : RelV y u)
    (h : ∀ s', Inv X pins σ (upd H dx (exd dx ((f, y) :: fs))) s' → Q () s') : wpAny (model X.prog X.w) A (setAttr (.ref a) f u) Q E s := by
  obtain ⟨cd, hcl, hm, hd⟩ := T.data
  obtain ⟨t1, ho⟩ := exo_at I.hok e
  obtain ⟨mA, hns, rel⟩ := exd_at I.hok ed
  have hw := within_of rel
  obtain ⟨hp, g, dr, t, os⟩ := s
  obtain ⟨oD, _, _, hoD, _, _⟩ := hns.count hw
  refine PySem.W.set_plain I.kIn (ox := { cls := .ref C, dict := some dx, data := .fields #[.ref t1, .none, .none, .none, .bool false, .none] }) (od := some oD) ⟨ho, rfl, rfl, hoD⟩ T.sa ?_
  refine ae_more I.kIn ho hns hw (by rw [List.length_map]; omega) hcl hm hd hno (fun h' tk' k hn => ?_)
  exact h _ (I.write (t' := tk') (x := dx) (e := dx) (o := exd dx ((f, y) :: fs)) (by rw [ed]; exact True.intro) (.inl rfl) k (by
    obtain ⟨o, _, _, e', _⟩ := hn
    exact ⟨o, e'⟩) (exd_ok hn (relO_put ry rel)))
theorem ax_init {us : List Value} {Q : Value → Shared → Prop} (T : ExA X.K C) (I : Inv X pins σ H s) (e : H a = some (exo a C none)) (hl : us.length ≤ sizeLine) (h : ∀ s', Inv X pins σ H s' → Q .none s') :
    wpAny (model X.prog X.w) A (call (.builtin "ArithmeticError.__init__") (.ref a :: us)) Q E s := by
  obtain ⟨nm, q, N, bs, bm, sn, sub, ab, col, dd, k0, k1, k2, k3, k5, hC, hbm⟩ := T.cls
  obtain ⟨t1, ho⟩ := exo_at I.hok e
  obtain ⟨hp, g, dr, t, os⟩ := s
  refine wpAny_call (PySem.HandSPX.init_base PySem.F.excBase_ArithmeticError (fun Y => ae_has Y hbm) (I.kIn _ _ hC) ho hl fun h' t2 k hx => ?_)
  have J := I.write (t' := t) (x := a) (e := a) (o := exo a C none) (by rw [e]; exact True.intro) (.inl rfl) k ⟨_, hx⟩ (exo_ok hx)
  have eu : upd H a (exo a C none) = H := by
    funext b
    by_cases hb : b = a
    · rw [hb, upd_same, e]
    · rw [upd_ne hb]
  rw [eu] at J
  exact h _ J
end
end MR
namespace MR
open PySem PySem.Spec L2
/-- B.__init__(self, ..), B an own class that takes it from ArithmeticError -/
def tBaseI (K : PySem.W.Frag) (ta : TA) : TE := fun σ H Q => ta σ H fun vs H1 => ∃ (a C : Addr) (ws : List V), vs = .ref a :: ws ∧ ws.length ≤ 1000 ∧ ExA K C ∧ H1 a = some (exo a C none) ∧ Q .non H1
/-- self.f = e -/
def tFld (K : PySem.W.Frag) (f : Str) (to te : TE) : TS := fun D σ H => te σ H fun y H1 => to σ H1 fun x H2 => ∃ a C : Addr, x = .ref a ∧ ExA K C ∧ PySem.W.findIn K (.ref C) f = some none ∧
  ((H2 a = some (exo a C none) ∧ ∀ dx, H2 dx = none → dx ≠ a → D.nx σ (upd (upd H2 dx (exd dx [(f, y)])) a (exo a C (some dx)))) ∨
    ∃ (dx : Addr) (fs : List (Str × V)), H2 a = some (exo a C (some dx)) ∧ H2 dx = some (exd dx fs) ∧ fs.length ≤ 900 ∧ D.nx σ (upd H2 dx (exd dx ((f, y) :: fs))))
section
variable {X : Cx} {o e : Expr} {es : List Expr} {to te : TE} {ta : TA} {f : Str} {p p' p1 p2 pos : Pos}
theorem pe_baseI {x : Str} {C : Addr} {pl : Sem Bool} (hg : Gl X x) (hm : X.mg x = some (.ref C)) (ga : PySem.W.specialIn X.K (.ref C) "__getattribute__" = some (some (.builtin "type.__getattribute__"))) {mc : Value} (hr : PySem.W.readsIn X.K C mc = true)
    (ef : PySem.W.findCls X.K (.ref C) mc "__init__" = some (.val (.builtin "ArithmeticError.__init__"))) (ha : PA X (e :: es) ta) (hdb : (x == ("__debug__" : Str)) = false := by decide)
    (hc : eval (.Call (.Attribute (.Name x p1) "__init__" p2) (e :: es) [] pos) X.env = (do
      let ov ← eval (.Name x p1) X.env
      standAt p2.atName
      let (f, first) ← holding [ov] (getMethod ov "__init__" pl)
      callWith pos f first (backTo pos (starEach (e :: es) X.env)) (backToKw pos (keywordEach [] X.env))) := by rfl)
    (he : starEach (e :: es) X.env = (false, eval e X.env) :: starEach es X.env := by rfl) (hpl : (backTo pos (starEach es X.env)).any (·.1) = false := by rfl) :
    PE X (.Call (.Attribute (.Name x p1) "__init__" p2) (e :: es) [] pos) (tBaseI X.K ta) := by
  refine ⟨fun pins s σ H Q I h => ?_⟩
  refine PySem.W.methodCall_KW (ld_glob I hg hm ?_ hdb) hc
  refine PySem.W.method_cls I.kIn ga (PySem.W.cls_value I.kIn hr ef (by decide +kernel) ?_)
  show wpAny _ _ (callWith pos (Value.builtin "ArithmeticError.__init__") [] (backTo pos (starEach (e :: es) X.env)) []) _ _ _
  refine PyProof.Rows.callWith_method1 (thn (ha.run pos pins _ σ H _ (I.tok _) h) fun us s1 ⟨vs, H1, I1, r1, a, C', ws, ev, hl, T, ea, q⟩ => ?_) he hpl
  subst ev
  cases r1 with
  | @cons _ u0 _ ur ra rw' =>
    obtain rfl : u0 = Value.ref a := ra
    exact ax_init T I1 ea (by have := rw'.length; rw [sizeLine_eq]; omega) fun s' J => ⟨.non, H1, J, rfl, q⟩
theorem ps_fld (ho : PE X o to) (he : PE X e te) (hs : swapsWith e (some (.Attribute o f p')) pos.line X.env = pure false := by rfl) : PS X (.Assign [.Attribute o f p'] e pos) (tFld X.K f to te) := by
  refine ⟨fun pins s σ H D I h => ?_⟩
  refine plainObj_wpAny_Assign_Attribute (thn (he.run pins s σ H _ I h) fun v s1 ⟨y, H1, I1, r1, q1⟩ => thn (ho.run pins s1 σ H1 _ I1 q1) fun u s2 ⟨x, H2, I2, r2, a, C, ex, T, hno, q⟩ => ?_) hs
  subst ex
  obtain rfl : u = Value.ref a := r2
  rcases q with ⟨ea, q⟩ | ⟨dx, fs, ea, ed, hl, q⟩
  · exact ax_first T I2 ea hno r1 fun dx s' n ne J => ⟨σ, _, J, q dx n ne⟩
  · exact ax_more T I2 ea ed hl hno r1 fun s' J => ⟨σ, _, J, q⟩
/-- C(e, ..), C's own `__init__` being walked -/
theorem pmk_exa {CX : CXT} {x : Str} {C fI : Addr} {k : Nat} {fd : FuncData} {ps : List Str} {sp : Sp} {ds : List Value} {dvs : List V} (T : ExA X.K C) (iC : PySem.W.findIn X.K (.ref C) "__init__" = some (some (.ref fI))) (tI : PySem.W.typeIn X.K (.ref fI) = some (.type "function"))
    (F1 : FnOk X.prog X.w X.K X.mg X.base CX k fI fd ps sp) (hr : Room (k + 1) X.A) (hb : Binds X.K fd ps ds) (hd : Vals dvs ds) (hx : Passes CX X (fun _ _ _ => False)) (hg : Gl X x) (hm : X.mg x = some (.ref C)) (ha : PA X (e :: es) ta)
    (hdb : (x == ("__debug__" : Str)) = false := by decide) (he : starEach (e :: es) X.env = (false, eval e X.env) :: starEach es X.env := by rfl) (hpl : (backTo pos (starEach es X.env)).any (·.1) = false := by rfl) :
    PMk X (.Call (.Name x p) (e :: es) [] pos) (tMkO C sp dvs ta) := by
  intro pins s σ H Q I h
  obtain ⟨nm, q, N, bs, bm, sn, sub, ab, col, dd, k0, k1, k2, k3, k5, hC, hbm⟩ := T.cls
  refine wpAny_Call_Name_kw (ld_glob I hg hm ?_ hdb)
  refine PySem.W.callWith_K (h₀ := X.base) I.ok.mod.kin T.kC (thn (ha.run pos pins s σ H _ I h) fun us s1 ⟨vs, H1, I1, r1, hz, q1⟩ => ⟨I1.kIn, ?_⟩) he hpl
  show wpAny _ _ (call (.ref C) us) _ _ _
  obtain ⟨hp, g, dr, tk, os⟩ := s1
  obtain ⟨n, hn⟩ : ∃ n, n = hp.objs.size + 1 := ⟨_, rfl⟩
  have le : hp.objs.size ≤ n := by omega
  have hq := q1 n (I1.hok.fresh le)
  have old : ∀ b o, hp.get? b = some o → ((hp.push (PySem.W.kdv_tup us)).push (PySem.HandSPX.excO C hp.objs.size)).get? b = some o := fun b o e => Heap.get?_push_of_some _ (Heap.get?_push_of_some _ e)
  have new : ((hp.push (PySem.W.kdv_tup us)).push (PySem.HandSPX.excO C hp.objs.size)).get? n = some (PySem.HandSPX.excO C hp.objs.size) := by rw [hn]; heap_get
  have I2 : L2.Inv X pins σ (upd H1 n (exo n C none)) ⟨(hp.push (PySem.W.kdv_tup us)).push (PySem.HandSPX.excO C hp.objs.size), g, dr, tk, os⟩ :=
    I1.laid (t' := tk) (a := n) (o := exo n C none) (h' := (hp.push (PySem.W.kdv_tup us)).push (PySem.HandSPX.excO C hp.objs.size)) old le (exo_ok new)
  have r2 : Vals (V.ref n :: (vs ++ dvs)) (Value.ref n :: (us ++ ds)) := .cons rfl (r1.append hd)
  have hl : (Value.ref n :: us ++ ds).length = ps.length := by
    have e := r2.length
    rw [F1.len _ _ _ _ hq] at e
    exact e.symm
  have hus : us.length ≤ sizeLine := by
    have := r1.length
    rw [sizeLine_eq]
    omega
  have run := F1.run _ X.stack _ _ ⟨Value.ref n :: us, []⟩ (Value.ref n :: (us ++ ds)) _ _ (fun _ _ _ => False) (hr.make C us []) (I2.env0.make C us []) (hb _ (Value.ref n :: us) I2.kIn hl) r2 hq
  rw [hn] at run
  refine wpAny_call (PySem.HandSPX.call_own PySem.F.excBase_ArithmeticError (fun Y => ae_has Y hbm) (I1.kIn _ _ hC) (PySem.W.looks_findIn I1.kIn iC) (fun self => PySem.W.bind_fn I1.kIn self tI) hus (codeAny_mono run fun r s' hq' => ?_))
  rw [← hn] at hq' ⊢
  rcases r with er | fl
  · exact hx pins σ _ _ er s' I2 hq'
  cases fl with
  | ret u =>
    obtain ⟨v, H2, os2, bare2, un2, hok2, rv, ev, d, fs, ea, ed, hd1, q2⟩ := hq'
    subst ev
    obtain ⟨h2, g2, d2, t2, os'⟩ := s'
    exact ⟨rv, mk_end (raises_own T.exC T.tyC) I1 le old un2 hok2 os2 bare2 ea ed hd1 q2⟩
  | _ => exact False.elim hq'
end
end MR
namespace MR
open PySem PySem.Spec L2
section
variable {wd : Wd} {X : Cx} {W : WX}
def sRaise2 (c : Value) (n1 n2 : Str) (g : AA wd) : AS wd := fun Da ρ ω => g ρ ω (fun ds ω' => match ds with
  | [x, y] => Da.ex ⟨c, some [(n2, y), (n1, x)]⟩ ρ ω'
  | _ => False) (fun x ω' => Da.ex x ρ ω')
end
end MR
namespace MR
open PySem PySem.Spec PySem.W PySem.Calls PyProof.Rows
section
variable {prog : Program} {w : World} {A : Around} {E : Value → Shared → Prop} {s : Shared} {K : Frag} {x D : Addr} {ox : Obj} {od : Option Obj}
theorem findObj_dataO {C : Addr} {name : Str} {a g : Value} (hc : (clsIn K C).isSome = true) (ha : findIn K (.ref C) name = some (some a)) (hg : specialIn K a "__get__" = some (some g)) (ht : takesIn K a = some true) : findObj K C od name = some (.bind g a) := by
  obtain ⟨cd, hc⟩ := Option.isSome_iff_exists.mp hc
  unfold findObj
  rw [hc, Option.bind_some, ha, Option.bind_some]
  simp [hg, ht]
theorem kin_classO {Q : Option Value → Shared → Prop} (C : L2.ExcC K D) (X : K.In s.heap) (I : InstAt s.heap x ox D od) (h : Q (some (.ref D)) { s with toks := s.toks + 1 }) : wpAny (model prog w) A (getAttr? (.ref x) "__class__") Q E s := by
  have hf : findObj K D od "__class__" = some (.bind (.builtin "getset_descriptor.__get__") (.builtin "object.__class__")) := findObj_dataO (by obtain ⟨cd, hc, _⟩ := any_some C.hd; rw [hc]; rfl) C.ha C.hn C.ht
  obtain ⟨hp, g, d, t, os⟩ := s
  have L0 := I.type (M := model prog w)
  have L1 := looks_findIn (M := model prog w) X C.hg
  have L2 := looks_findIn (M := model prog w) X C.hk
  have L3 := looks_find (M := model prog w) X I hf
  have sub : Looks (model prog w) hp (isInstance (.ref x) (.type "BaseException")) true := L0.andThen (looks_subIn X C.hs)
  have n0 : (false && onTheHeap (Value.builtin "BaseException.__getattribute__")) = false := rfl
  have n1 : (onTheHeap (Value.ref D) && Value.builtin "BaseException.__getattribute__" == Value.builtin "object.__getattribute__") = false := by
    rw [show (Value.builtin "BaseException.__getattribute__" == Value.builtin "object.__getattribute__") = false by decide +kernel]
    rfl
  unfold getAttr? getAttrBy? getAttrBy
  refine wpAny_bind (wpAny_mkText (wpAny_bind (wpAny_attempt (wpAny_holding (wpAny_bind (L0.at (wpAny_bind (L1.at ?_))))))))
  show wpAny _ _ (if (onTheHeap (Value.ref D) && Value.builtin "BaseException.__getattribute__" == Value.builtin "object.__getattribute__") = true then _ else _) _ _ _
  rw [n1, if_neg Bool.false_ne_true]
  unfold getAttrByItsOwn hookBefore
  refine wpAny_bind ?_
  rw [if_pos (show onTheHeap (Value.ref D) = true from rfl)]
  refine L2.at ?_
  refine wpAny_bind (wpAny_attempt (wpAny_holding ?_))
  unfold callGetattribute
  rw [n0, if_neg Bool.false_ne_true]
  unfold boundAndCalled
  rw [PySem.F.excAttr_ValueError.ga.bind (.ref x)]
  refine wpAny_bind (wpAny_pure ?_)
  show wpAny _ _ (call (.builtin "BaseException.__getattribute__") [.ref x, .str "__class__" t]) _ _ _
  refine wpAny_call (codeAny_call_builtin PySem.F.excAttr_ValueError.ga.plain PySem.F.entry_bexc_ga ?_)
  refine @check_slot (model prog w) _ _ ⟨hp, g, d, t + 1, os⟩ "BaseException.__getattribute__" "BaseException" "__getattribute__" (.ref x) [.str "__class__" t] [] _ (by decide +kernel) (by decide +kernel) sub (PySem.F.args_bexc_ga (.ref x) (.str "__class__" t)) ?_
  unfold Builtin.«object.__getattribute__»
  refine wpAny_bind (wpAny_of_eq (a := ((Value.ref x : Value), [Value.str "__class__" t])) (by first | rfl | (simp only [slotArgs]; rfl)) ?_)
  refine wpAny_bind (wpAny_pure (wpAny_bind (L0.at (wpAny_bind (L3.at ?_)))))
  show wpAny _ _ (holding [Value.builtin "object.__class__"] (call (.builtin "getset_descriptor.__get__") [.builtin "object.__class__", .ref x, .ref D]) >>= ret) _ _ _
  refine wpAny_bind (wpAny_holding (wpAny_call (class_get (s := ⟨hp, g, d, t + 1, os⟩) (ox := ox) (od := od) X I C.hm ?_)))
  refine wpAny_pure ?_
  show wpAny _ _ (handedOut (.ref D)) _ _ _
  rw [handedOut_of (v := .ref D) rfl]
  first
    | exact wpAny_pure (wpAny_pure h)
    | exact wpAny_pure h
    | exact wpAny_pure (wpAny_bind (wpAny_pure (wpAny_pure h)))
theorem kit_excO (C : L2.ExcC K D) : KitX K (.ref x) (.ref D) (fun h => InstAt h x ox D od) where
  ty := fun _ _ _ I => I.type
  it := fun _ _ X _ => by
    obtain ⟨cd, hc, _⟩ := any_some C.hd
    unfold clsIn at hc
    split at hc
    · rename_i ho
      intro A' Q' E' s' k q
      unfold isType loadHead
      exact wpAny_bind (wpAny_loadPart (k _ _ (X _ _ ho)) (wpAny_pure q))
    · cases hc
  ne := fun h tp dd its n sl X htp => (handS_kitx_exc (x := x) (ox := ox) C.hg C.hk C.hs C.hd C.ha C.hn C.ht C.hm).ne h tp dd its n sl X htp
  ca := fun X I k => kin_classO C X I k
end
end MR
namespace MR
open PySem PySem.Spec L2
def wdB (wd : Wd) (B0 : Hp) : Wd where
  W := wd.W
  foot := wd.foot
  holds := fun K ω B H => wd.holds K ω B H ∧ Same B0 B
  some_ := fun h => wd.some_ h.1
  free_ := fun h => wd.free_ h.1
  mono := fun h m a b => ⟨wd.mono h.1 m a b, h.2.trans m⟩
theorem Hst.inB {wd : Wd} {K : PySem.W.Frag} {F B B0 H : Hp} {ω : wd.W} (h : Hst wd K F B ω H) (m : Same B0 B) : Hst (wdB wd B0) K F B ω H := ⟨h.sB, h.sF, h.dj, h.fw, h.wat, m⟩
theorem Hst.outB {wd : Wd} {K : PySem.W.Frag} {F B B0 H : Hp} {ω : wd.W} (h : Hst (wdB wd B0) K F B ω H) : Hst wd K F B ω H ∧ Same B0 B := ⟨⟨h.sB, h.sF, h.dj, h.fw, h.wat.1⟩, h.wat.2⟩
theorem Sim.inB {wd : Wd} {K : PySem.W.Frag} {F0 F B B0 H : Hp} {ρ : AEnv} {ω : wd.W} {σ : St} (s : Sim wd K F0 F B ρ ω σ H) (m : Same B0 B) : Sim (wdB wd B0) K F0 F B ρ ω σ H := ⟨s.st.inB m, s.env, s.f0, s.own⟩
theorem Sim.outB {wd : Wd} {K : PySem.W.Frag} {F0 F B B0 H : Hp} {ρ : AEnv} {ω : wd.W} {σ : St} (s : Sim (wdB wd B0) K F0 F B ρ ω σ H) : Sim wd K F0 F B ρ ω σ H := ⟨s.st.outB.1, s.env, s.f0, s.own⟩
def sTryF (K : PySem.W.Frag) (i : Nat) (c : Value) {wd : Wd} (g : AS wd) (gs : (B0 : Hp) → Addr → EX → AS (wdB wd B0)) : AS wd := fun Da ρ ω =>
  g { Da with ex := fun x ρ' ω' => ∃ b, PySem.W.exmOne K x.cls c = some b ∧ (b = true → ∀ B0 a, gs B0 a x { nx := fun ρ2 ω2 => Da.nx (ρ2.set i none) ω2, rt := Da.rt, bk := fun ρ2 ω2 => Da.bk (ρ2.set i none) ω2, ct := fun ρ2 ω2 => Da.ct (ρ2.set i none) ω2 } (ρ'.set i (some (.d (.adr a)))) ω') ∧ (b = false → Da.ex x ρ' ω') } ρ ω
section
variable {wd : Wd} {X : Cx} {W : WX} {x n : Str} {c : Value} {body suite : List Stmt} {b₀ : Stmt} {np pos pos' : Pos} {g : AS wd} {gs : (B0 : Hp) → Addr → EX → AS (wdB wd B0)}
abbrev SUF (wd : Wd) (X : Cx) (suite : List Stmt) (gs : (B0 : Hp) → Addr → EX → AS (wdB wd B0)) : Prop := ∀ (B0 : Hp) (a : Addr) (oe : Obj) (cls : Value) (d : Option Addr) (pn : List (Addr × Obj)) (x : EX), Zc cls d oe → (∃ vs, oe.data = .fields vs) → RepX X.K B0 cls d x → GSs (wdB wd B0) (X.suite a ((a, oe) :: pn)) (fun _ _ _ _ => False) suite (gs B0 a x)
def tsfOf (h : SUF wd X suite gs) : Addr → Value → Option Addr → TS := fun a cls d D σ H => ∃ (x : EX) (B0 : Hp) (r : RepX X.K B0 cls d x), ∀ oe pn (hz : Zc cls d oe) (hf : ∃ vs, oe.data = .fields vs), Classical.choose (h B0 a oe cls d pn x hz hf r).ex D σ H
theorem tsf_ps (h : SUF wd X suite gs) (a : Addr) (oe : Obj) (cls : Value) (d : Option Addr) (pn : List (Addr × Obj)) (hz : Zc cls d oe) (hf : ∃ vs, oe.data = .fields vs) : PSs (X.suite a ((a, oe) :: pn)) suite (tsfOf h a cls d) :=
  ⟨fun pins s σ H D I q => by
    obtain ⟨x, B0, r, q⟩ := q
    exact (Classical.choose_spec (h B0 a oe cls d pn x hz hf r).ex).1.run pins s σ H D I (q oe pn hz hf)⟩
theorem gs_tryF (K' : PySem.W.Frag) (i : Nat) (hs : X.stack = X.env :: X.outer) (hf : X.env.frame = some X.env.locals) (hN : X.N.Nodup) (tk : Takes X W) (gC : X.mg x = some c) (hb : TB wd X body g) (hsu : SUF wd X (b₀ :: suite) gs) (hi : X.N[i]? = some n := by rfl) (hln : X.env.kindOf n = some .local := by rfl) (hgx : Gl X x := by rfl) (hdx : (x == ("__debug__" : Str)) = false := by decide) (hK : X.K = K' := by rfl) :
    GS wd X W (.Try body [.ExceptHandler (some (.Name x np)) (some n) (b₀ :: suite) pos'] [] [] pos) (sTryF K' i c g gs) := by
  subst hK
  exact ⟨_, ps_try_as hs hf hN hi hln ⟨hgx, hdx, .inl gC⟩ tk (tb_ps hb) (tsf_ps hsu), fun F0 F B ρ ω σ H Da E s q k => tb_rs hb _ F0 F B ρ ω σ H _ E s q ⟨k.nx, k.bk, k.ct, k.rt, fun {F' B' ρ' ω' σ' H' cls dx x} m s' rx q' => by
    obtain ⟨b, e, q1, q2⟩ := q'
    have r1 := (repx_fs rx).1
    refine ⟨b, by rw [r1]; exact e, fun hb1 a na => ?_, fun hb0 => k.ex m s' rx (q2 hb0)⟩
    refine ⟨x, B', rx, fun oe pn hz hff => (Classical.choose_spec (hsu B' a oe cls dx pn x hz hff rx).ex).2 F0 F' B' _ ω' _ H' _ _ ((s'.set i (.adr a)).inB (Same.refl _)) (q1 hb1 B' a) ⟨fun m2 s2 z => k.nx (m.trans m2) (s2.outB.gone i) z, fun m2 s2 z => k.bk (m.trans m2) (s2.outB.gone i) z, fun m2 s2 z => k.ct (m.trans m2) (s2.outB.gone i) z, fun m2 h2 rr z => k.rt (m.trans m2) h2.outB.1 rr z, fun _ _ _ z => z.elim⟩⟩⟩⟩
end
end MR
namespace MR
open PySem PySem.Spec L2
/-- the exception's dict is there -/
def DctOk (d : Option Addr) (H : Hp) : Prop := ∀ dd, d = some dd → ∃ fs : List (Str × V), H dd = some (.xd fs)
section
variable {X : Cx} {a D : Addr} {oe : Obj} {cls : Value} {d : Option Addr} {pn : List (Addr × Obj)}
theorem inst_of {P : Program} {w : World} {H : Hp} {h : Heap} (hz : Zc (.ref D) d oe) (hf : ∃ vs, oe.data = .fields vs) (hok : HOk P w H h) (hget : h.get? a = some oe) (hd : DctOk d H) : ∃ od, PySem.W.InstAt h a oe D od := by
  obtain ⟨vs, hv⟩ := hf
  have no : PySem.W.notCls oe = true := by unfold PySem.W.notCls; rw [hv] <;> rfl
  cases d with
  | none => exact ⟨none, hget, hz.1, no, by rw [hz.2]; trivial⟩
  | some dd =>
    obtain ⟨fs, e⟩ := hd dd rfl
    obtain ⟨mA, hns, hr⟩ := (show ObjOk P w H h dd (.xd fs) from hok dd _ e)
    obtain ⟨od, ho, hl⟩ := lookIn_ns hns
    exact ⟨some od, hget, hz.1, no, by rw [hz.2]; exact ho⟩
def rIsF (K : PySem.W.Frag) (D a : Addr) (d : Option Addr) (c : V) (cv : Value) : List V → Hp → VK → Prop := fun xs H Q => ∃ b : Bool, xs = [.ref a, c] ∧ DctOk d H ∧ PySem.W.kitOne K (.ref D) cv = some b ∧ Q (.bl b) H
def rIsFT (K : PySem.W.Frag) (D a : Addr) (d : Option Addr) (vs : List V) (cs : List Value) : List V → Hp → VK → Prop := fun xs H Q => ∃ (t : Addr) (b : Bool), xs = [.ref a, .ref t] ∧ DctOk d H ∧ H t = some (.tup vs) ∧ PySem.W.kitAny K (.ref D) cs = some b ∧ Q (.bl b) H
theorem call_isF {c : V} {cv : Value} (C : ExcC X.K D) (hz : Zc (.ref D) d oe) (hf : ∃ vs, oe.data = .fields vs) (hcv : ∀ u, RelV c u → u = cv) : CallR (X.suite a ((a, oe) :: pn)) (.builtin "isinstance") (rIsF X.K D a d c cv) := by
  intro pins s σ H xs us Q I r h
  obtain ⟨b, rfl, hd, e, q⟩ := h
  cases r with
  | cons rx rr =>
    cases rr with
    | cons rt rr =>
      cases rr
      cases rx
      have ec := hcv _ rt
      subst ec
      obtain ⟨hget, _⟩ := I.pin (a, oe) (List.mem_append.mpr (.inl List.mem_cons_self))
      obtain ⟨od, J⟩ := inst_of hz hf I.hok hget hd
      exact PySem.W.kia_one (kit_excO C) I.kIn J e (fun z => nomatch z) fun tk => ⟨.bl b, H, I.kept (t' := tk) fun _ _ z => z, rfl, q⟩
theorem call_isFT {vs : List V} {cs : List Value} (C : ExcC X.K D) (hz : Zc (.ref D) d oe) (hf : ∃ vs, oe.data = .fields vs) (hv : ∀ us, Vals vs us → us = cs) : CallR (X.suite a ((a, oe) :: pn)) (.builtin "isinstance") (rIsFT X.K D a d vs cs) := by
  intro pins s σ H xs us Q I r h
  obtain ⟨t, b, rfl, hd, e, ek, q⟩ := h
  cases r with
  | cons rx rr =>
    cases rr with
    | cons rt rr =>
      cases rr
      cases rx
      cases rt
      obtain ⟨hget, _⟩ := I.pin (a, oe) (List.mem_append.mpr (.inl List.mem_cons_self))
      obtain ⟨od, J⟩ := inst_of hz hf I.hok hget hd
      obtain ⟨_, its, rv, o, h1, h2, n, h3⟩ := (show ObjOk X.prog X.w H s.heap t (.tup vs) from I.hok t _ e)
      have e3 := hv _ rv
      subst e3
      obtain ⟨oc, od2, dt, sl⟩ := o
      simp only at h2 h3
      subst h2 h3
      exact PySem.W.kia_tup (kit_excO C) I.kIn J h1 ek (fun z => nomatch z) fun tk => ⟨.bl b, H, I.kept (t' := tk) fun _ _ z => z, rfl, q⟩
theorem pe_isF {n : Str} {i : Nat} {ce : Expr} {cV : V} {c : Value} {p p1 pos : Pos} (hz : Zc cls d oe) (hf : ∃ vs, oe.data = .fields vs) (hce : CV (X.suite a ((a, oe) :: pn)) [ce] [cV] [c]) (hm : X.mg "isinstance" = none) (hN : X.N[i]? = some n) (hv : Vis X.env.scope n)
    (hd : (n == ("__debug__" : Str)) = false) (hcd : (n == ("__classdict__" : Str)) = false) (hg : Gl (X.suite a ((a, oe) :: pn)) "isinstance")
    (hst : starEach [.Name n p1, ce] X.env = (false, eval (.Name n p1) X.env) :: starEach [ce] X.env) (hpl : (backTo pos (starEach [ce] X.env)).any (·.1) = false) :
    PE (X.suite a ((a, oe) :: pn)) (.Call (.Name "isinstance" p) [.Name n p1, ce] [] pos) (fun σ H Q => ∃ (D : Addr) (b : Bool), cls = .ref D ∧ DctOk d H ∧ ExcC X.K D ∧ σ[i]? = some (some (.ref a)) ∧ PySem.W.kitAny X.K (.ref D) [c] = some b ∧ Q (.bl b) H) := ⟨fun pins s σ H Q I h => by
  obtain ⟨D, b, rfl, hdc, C, hs, e, q⟩ := h
  exact (pe_callB (call_isF C hz hf (fun u r => by
    have := hce.vl [u] (.cons r .nil)
    simpa using this)) hg hm (by decide +kernel) (pa_cons (pe_var (i := i) hN hv hd hcd) hce.pa hst) (by decide) (by decide) hst hpl).run pins s σ H Q I ⟨.ref a, hs, b, rfl, hdc, kit_single e, q⟩⟩
theorem pe_isFT {n : Str} {i : Nat} {es : List Expr} {vs : List V} {cs : List Value} {p p1 p2 pos : Pos} {kk : Nat} (hz : Zc cls d oe) (hf : ∃ vs, oe.data = .fields vs) (hce : CV (X.suite a ((a, oe) :: pn)) es vs cs) (hm : X.mg "isinstance" = none) (hN : X.N[i]? = some n) (hv : Vis X.env.scope n)
    (hd : (n == ("__debug__" : Str)) = false) (hcd : (n == ("__classdict__" : Str)) = false) (hg : Gl (X.suite a ((a, oe) :: pn)) "isinstance") (hl : vs.length ≤ 1000)
    (hst : starEach [.Name n p1, .Tuple es kk p2] X.env = (false, eval (.Name n p1) X.env) :: starEach [.Tuple es kk p2] X.env) (hst2 : starEach [.Tuple es kk p2] X.env = (false, eval (.Tuple es kk p2) X.env) :: starEach [] X.env) (hpl : (backTo pos (starEach [.Tuple es kk p2] X.env)).any (·.1) = false) :
    PE (X.suite a ((a, oe) :: pn)) (.Call (.Name "isinstance" p) [.Name n p1, .Tuple es kk p2] [] pos) (fun σ H Q => ∃ (D : Addr) (b : Bool), cls = .ref D ∧ DctOk d H ∧ ExcC X.K D ∧ σ[i]? = some (some (.ref a)) ∧ PySem.W.kitAny X.K (.ref D) cs = some b ∧ ∀ t, H t = none → Q (.bl b) (upd H t (.tup vs))) := ⟨fun pins s σ H Q I h => by
  obtain ⟨D, b, rfl, hdc, C, hs, e, q⟩ := h
  exact (pe_callB (call_isFT C hz hf hce.vl) hg hm (by decide +kernel) (pa_cons (pe_var (i := i) hN hv hd hcd) (pa_cons (pe_tup hce.pa) pa_nil hst2) hst) (by decide) (by decide) hst hpl).run pins s σ H Q I
    ⟨.ref a, hs, line1000 (by omega), fun t ht => ⟨t, b, rfl, fun dd ed => by
      obtain ⟨fs, z⟩ := hdc dd ed
      exact ⟨fs, by rw [upd_ne (ne_of_none z ht)]; exact z⟩, upd_same, e, q t ht⟩⟩⟩
end
end MR
namespace MR
open PySem PySem.Spec L2
theorem rep_lookup {K : PySem.W.Frag} {B : Hp} {f : Str} {v : D} : ∀ {fs : List (Str × D)} {vs : List V}, RepAll K B vs (fs.map (·.2)) → fs.lookup f = some v → ∃ u, ((fs.map (·.1)).zip vs).lookup f = some u ∧ Rep K B u v
  | [], _, _, h => nomatch h
  | (g, d) :: fs, _, .cons (v := u) (vs := us) r rr, h => by
    rw [List.map_cons, List.zip_cons_cons, lookup_put]
    have h2 : (if f = g then some d else fs.lookup f) = some v := by
      rw [← h]
      by_cases e : f = g
      · subst e
        simp [List.lookup]
      · have e2 : (f == g) = false := by simpa using e
        rw [if_neg e]
        simp [List.lookup, e2]
    by_cases e : f = g
    · rw [if_pos e] at h2 ⊢
      cases h2
      exact ⟨u, rfl, r⟩
    · rw [if_neg e] at h2 ⊢
      exact rep_lookup rr h2
section
variable {wd : Wd} {X : Cx} {W : WX} {a : Addr} {oe : Obj} {cls : Value} {d : Option Addr} {pn : List (Addr × Obj)} {x : EX} {B0 : Hp}
theorem dct_of {K : PySem.W.Frag} {F B H : Hp} {ω : wd.W} (rx : RepX K B0 cls d x) (h : Hst (wdB wd B0) K F B ω H) : DctOk d H := fun dd e => by
  subst e
  obtain ⟨c, fs⟩ := x
  cases fs with
  | none => exact absurd rx.2 id
  | some fs =>
    obtain ⟨_, vs, e, _⟩ := rx
    exact ⟨_, h.sB _ _ (h.wat.2 _ _ e)⟩
def gIsF (K : PySem.W.Frag) {wd : Wd} (a : Addr) (x : EX) (i : Nat) (cs : List Value) : AE wd := fun ρ ω Q E => ∃ (D : Addr) (b : Bool), x.cls = .ref D ∧ ExcC K D ∧ ρ[i]? = some (some (.d (.adr a))) ∧ PySem.W.kitAny K (.ref D) cs = some b ∧ Q (.bl b) ω
def gFld {wd : Wd} (c : Value) (a : Addr) (x : EX) (i : Nat) (f : Str) : AE wd := fun ρ ω Q E => ∃ (fs : List (Str × D)) (v : D), x.cls = c ∧ x.fs = some fs ∧ fs.lookup f = some v ∧ ρ[i]? = some (some (.d (.adr a))) ∧ Q v ω
theorem ge_isF1 (K' : PySem.W.Frag) (i : Nat) {n : Str} {ce : Expr} {cV : V} {c : Value} {p p1 pos : Pos} (hz : Zc cls d oe) (hf : ∃ vs, oe.data = .fields vs) (rx : RepX X.K B0 cls d x) (hm : X.mg "isinstance" = none) (hce : CV (X.suite a ((a, oe) :: pn)) [ce] [cV] [c]) (hN : X.N[i]? = some n := by rfl) (hv : Vis X.env.scope n := by first | exact Or.inl rfl | exact Or.inr (Or.inl rfl) | exact Or.inr (Or.inr rfl))
    (hd : (n == ("__debug__" : Str)) = false := by decide) (hcd : (n == ("__classdict__" : Str)) = false := by decide) (hg : Gl (X.suite a ((a, oe) :: pn)) "isinstance" := by rfl)
    (hst : starEach [.Name n p1, ce] X.env = (false, eval (.Name n p1) X.env) :: starEach [ce] X.env := by rfl) (hpl : (backTo pos (starEach [ce] X.env)).any (·.1) = false := by rfl) (hK : X.K = K' := by rfl) :
    GE (wdB wd B0) (X.suite a ((a, oe) :: pn)) W (.Call (.Name "isinstance" p) [.Name n p1, ce] [] pos) (gIsF K' a x i [c]) := by
  subst hK
  exact ⟨_, pe_isF hz hf hce hm hN hv hd hcd hg hst hpl, fun F B ρ ω σ H Qa Ea Q hs he ⟨D, b, e1, C, e3, e4, q⟩ hk hx => ⟨D, b, rx.1.trans e1, dct_of rx hs, C, slot_adr he e3, e4, ro_same hs (.bl b) q hk⟩⟩
theorem ge_isFT (K' : PySem.W.Frag) (i : Nat) {n : Str} {es : List Expr} {vs : List V} {cs : List Value} {p p1 p2 pos : Pos} {kk : Nat} (hz : Zc cls d oe) (hf : ∃ vs, oe.data = .fields vs) (rx : RepX X.K B0 cls d x) (hm : X.mg "isinstance" = none) (hce : CV (X.suite a ((a, oe) :: pn)) es vs cs) (hl : vs.length ≤ 1000 := by simp) (hN : X.N[i]? = some n := by rfl) (hv : Vis X.env.scope n := by first | exact Or.inl rfl | exact Or.inr (Or.inl rfl) | exact Or.inr (Or.inr rfl))
    (hd : (n == ("__debug__" : Str)) = false := by decide) (hcd : (n == ("__classdict__" : Str)) = false := by decide) (hg : Gl (X.suite a ((a, oe) :: pn)) "isinstance" := by rfl)
    (hst : starEach [.Name n p1, .Tuple es kk p2] X.env = (false, eval (.Name n p1) X.env) :: starEach [.Tuple es kk p2] X.env := by rfl) (hst2 : starEach [.Tuple es kk p2] X.env = (false, eval (.Tuple es kk p2) X.env) :: starEach [] X.env := by rfl) (hpl : (backTo pos (starEach [.Tuple es kk p2] X.env)).any (·.1) = false := by rfl) (hK : X.K = K' := by rfl) :
    GE (wdB wd B0) (X.suite a ((a, oe) :: pn)) W (.Call (.Name "isinstance" p) [.Name n p1, .Tuple es kk p2] [] pos) (gIsF K' a x i cs) := by
  subst hK
  exact ⟨_, pe_isFT hz hf hce hm hN hv hd hcd hg hl hst hst2 hpl, fun F B ρ ω σ H Qa Ea Q hs he ⟨D, b, e1, C, e3, e4, q⟩ hk hx => ⟨D, b, rx.1.trans e1, dct_of rx hs, C, slot_adr he e3, e4, fun t ht => by
    obtain ⟨s1, hs1⟩ := hs.new (o := .tup vs) ht
    exact hk _ _ _ _ _ s1 hs1 (.bl b) q⟩⟩
theorem ge_fld {C : Addr} {f n : Str} (i : Nat) {p1 pos : Pos} (T : XfC X.K C) (hno : PySem.W.findIn X.K (.ref C) f = some none) (hz : Zc cls d oe) (hf : ∃ vs, oe.data = .fields vs) (rx : RepX X.K B0 cls d x) (hN : X.N[i]? = some n := by rfl) (hv : Vis X.env.scope n := by first | exact Or.inl rfl | exact Or.inr (Or.inl rfl) | exact Or.inr (Or.inr rfl))
    (hd : (n == ("__debug__" : Str)) = false := by decide) (hcd : (n == ("__classdict__" : Str)) = false := by decide) (hb : attributeBase (.Name n p1) f X.env (eval (.Name n p1) X.env) = eval (.Name n p1) X.env := by rfl) :
    GE (wdB wd B0) (X.suite a ((a, oe) :: pn)) W (.Attribute (.Name n p1) f pos) (gFld (.ref C) a x i f) := by
  refine ⟨_, pe_xf T hno hz hf (pe_var (i := i) hN hv hd hcd) hb, fun F B ρ ω σ H Qa Ea Q hs he ⟨fs, v, e1, e2, e3, e4, q⟩ hk hx => ?_⟩
  obtain ⟨xc, xf⟩ := x
  dsimp only at e1 e2
  subst e1 e2
  obtain ⟨r1, r2⟩ := rx
  cases d with
  | none => exact absurd r2 id
  | some dd =>
    obtain ⟨vs, e, ra⟩ := r2
    obtain ⟨u, l, ru⟩ := rep_lookup ra e3
    refine ⟨.ref a, slot_adr he e4, rfl, r1, dd, _, u, rfl, hs.sB _ _ (hs.wat.2 _ _ e), l, ?_⟩
    exact ro_same hs (ru.mono hs.wat.2) q hk
end
end MR
namespace MR
open PySem PySem.Spec L2
def clsDef (s : Stmt) (i : Nat) : Stmt := (match s with | .ClassDef _ _ _ b _ _ _ _ _ _ _ => b | _ => []).getD i (.Pass ⟨0, 0, 0, 0⟩)
structure ExF (K : PySem.W.Frag) (x b : Str) (fs : List Str) : Prop where
  ea : ExA K (He.ga K x)
  en : PySem.W.findIn K (.ref (He.ga K x)) "__init__" = some (some (.ref (He.ma K (He.ga K x) "__init__")))
  et : PySem.W.typeIn K (.ref (He.ma K (He.ga K x) "__init__")) = some (.type "function")
  os : ∀ f ∈ fs, PySem.W.findIn K (.ref (He.ga K x)) f = some none
  cc : ExcC K (He.ga K x)
  xf : XfC K (He.ga K x)
  rg : PySem.W.specialIn K (.ref (He.ga K b)) "__getattribute__" = some (some (.builtin "type.__getattribute__"))
  rr : PySem.W.readsIn K (He.ga K b) (.type "type") = true
  rf : PySem.W.findCls K (.ref (He.ga K b)) (.type "type") "__init__" = some (.val (.builtin "ArithmeticError.__init__"))
def isAI : Option PySem.W.CFound → Bool
  | some (.val (.builtin n)) => n == "ArithmeticError.__init__"
  | _ => false
theorem isAI_ok {o : Option PySem.W.CFound} (h : isAI o = true) : o = some (.val (.builtin "ArithmeticError.__init__")) := by
  unfold isAI at h
  split at h
  · rw [beq_iff_eq.mp h]
  · cases h
def exFB (x b : Str) (fs : List Str) : FB := fun K => exaB K (He.ga K x) && (decide (PySem.W.findIn K (.ref (He.ga K x)) "__setattr__" = some (some (.builtin "object.__setattr__"))) && (PySem.W.keepIn K (.ref (He.ga K x)) && (decide (PySem.W.subIn K (.ref (He.ga K x)) (.type "BaseException") = some true) && (decide (PySem.W.typeIn K (.ref (He.ga K x)) = some (.type "type")) &&
  (decide (PySem.W.findIn K (.ref (He.ga K x)) "__init__" = some (some (.ref (He.ma K (He.ga K x) "__init__")))) && (decide (PySem.W.typeIn K (.ref (He.ma K (He.ga K x) "__init__")) = some (.type "function")) && (fs.all (fun f => decide (PySem.W.findIn K (.ref (He.ga K x)) f = some none)) &&
  (decide (PySem.W.findIn K (.ref (He.ga K x)) "__getattribute__" = some (some (.builtin "BaseException.__getattribute__"))) && (decide (PySem.W.findIn K (.ref (He.ga K x)) "__getattr__" = some none) && (PySem.W.hasDictIn K (He.ga K x) &&
  (decide (PySem.W.findIn K (.ref (He.ga K x)) "__class__" = some (some (.builtin "object.__class__"))) && (decide (PySem.W.specialIn K (.builtin "object.__class__") "__get__" = some (some (.builtin "getset_descriptor.__get__"))) &&
  (decide (PySem.W.takesIn K (.builtin "object.__class__") = some true) && (decide (PySem.W.mroIn K (He.ga K x) (.type "object") = some true) &&
  (decide (PySem.W.specialIn K (.ref (He.ga K b)) "__getattribute__" = some (some (.builtin "type.__getattribute__"))) && (PySem.W.readsIn K (He.ga K b) (.type "type") && isAI (PySem.W.findCls K (.ref (He.ga K b)) (.type "type") "__init__")))))))))))))))))
theorem exF_ok {x b : Str} {fs : List Str} {K : PySem.W.Frag} (c : exFB x b fs K = true) : ExF K x b fs := by
  obtain ⟨c1, c⟩ := He.ba c
  obtain ⟨c2, c⟩ := He.ba c
  obtain ⟨c3, c⟩ := He.ba c
  obtain ⟨c4, c⟩ := He.ba c
  obtain ⟨c5, c⟩ := He.ba c
  obtain ⟨c6, c⟩ := He.ba c
  obtain ⟨c7, c⟩ := He.ba c
  obtain ⟨c8, c⟩ := He.ba c
  obtain ⟨c10, c⟩ := He.ba c
  obtain ⟨c11, c⟩ := He.ba c
  obtain ⟨c12, c⟩ := He.ba c
  obtain ⟨c13, c⟩ := He.ba c
  obtain ⟨c14, c⟩ := He.ba c
  obtain ⟨c15, c⟩ := He.ba c
  obtain ⟨c16, c⟩ := He.ba c
  obtain ⟨c17, c⟩ := He.ba c
  obtain ⟨c18, c19⟩ := He.ba c
  replace c2 := of_decide_eq_true c2
  replace c4 := of_decide_eq_true c4
  replace c5 := of_decide_eq_true c5
  replace c6 := of_decide_eq_true c6
  replace c7 := of_decide_eq_true c7
  replace c10 := of_decide_eq_true c10
  replace c11 := of_decide_eq_true c11
  replace c13 := of_decide_eq_true c13
  replace c14 := of_decide_eq_true c14
  replace c15 := of_decide_eq_true c15
  replace c16 := of_decide_eq_true c16
  replace c17 := of_decide_eq_true c17
  exact ⟨⟨exa_of c1, c2, c4, c5, c3⟩, c6, c7, fun f hf => of_decide_eq_true (List.all_eq_true.mp c8 f hf), ⟨c10, c11, c4, c12, c13, c14, c15, c16⟩, ⟨c10, c11, c4, c12⟩, c17, c18, isAI_ok c19⟩
/-- what an `__init__` that keeps one field promises -/
def spOne (C : Addr) (n1 : Str) : Sp := fun vs H Q _ => ∃ (a : Addr) (x : V), vs = [.ref a, x] ∧ H a = some (exo a C none) ∧ ∀ d, H d = none → d ≠ a → Q .non (upd (upd H d (exd d [(n1, x)])) a (exo a C (some d)))
section
variable {wd : Wd} {X : Cx} {W : WX}
def sRaise1 (c : Value) (n1 : Str) (g : AA wd) : AS wd := fun Da ρ ω => g ρ ω (fun ds ω' => match ds with
  | [x] => Da.ex ⟨c, some [(n1, x)]⟩ ρ ω'
  | _ => False) (fun x ω' => Da.ex x ρ ω')
theorem gs_raise1 {CX : CXT} {x : Str} {C fI : Addr} {k : Nat} {fd : FuncData} {ps : List Str} {n1 : Str} {e1 : Expr} {es : List Expr} {g : AA wd} {p pos rpos : Pos} (T : ExA X.K C) (iC : PySem.W.findIn X.K (.ref C) "__init__" = some (some (.ref fI))) (tI : PySem.W.typeIn X.K (.ref fI) = some (.type "function"))
    (F1 : FnOk X.prog X.w X.K X.mg X.base CX k fI fd ps (spOne C n1)) (hr : Room (k + 1) X.A) (hb : Binds X.K fd ps []) (hx : Passes CX X (fun _ _ _ => False)) (hm : X.mg x = some (.ref C)) (tk : Takes X W) (ha : GA wd X W (e1 :: es) g) (hc : X.calm = true := by rfl) (hg : Gl X x := by rfl)
    (hdb : (x == ("__debug__" : Str)) = false := by decide) (he : starEach (e1 :: es) X.env = (false, eval e1 X.env) :: starEach es X.env := by rfl) (hpl : (backTo pos (starEach es X.env)).any (·.1) = false := by rfl) :
    GS wd X W (.Raise (some (.Call (.Name x p) (e1 :: es) [] pos)) none rpos) (sRaise1 (.ref C) n1 g) := by
  obtain ⟨ta, pa, ra⟩ := ha.ex
  refine ⟨_, ps_raise hc tk (pmk_exa T iC tI F1 hr hb .nil hx hg hm pa hdb he hpl), fun F0 F B ρ ω σ H Da E s q kk => ?_⟩
  refine ra F B ρ ω σ H _ _ _ s.st s.env q (fun B1 ω1 H1 vs ds s1 hs1 r1 q1 => ?_) (kk.xok s)
  match ds, vs, r1, q1 with
  | [d1], [v1], .cons ra1 .nil, q1 =>
    refine ⟨by simp, fun a na => ⟨a, v1, rfl, upd_same, fun d nd da => ⟨rfl, d, _, by rw [upd_same], by rw [upd_ne da, upd_same], by rw [upd_ne da] at nd; exact nd, ?_⟩⟩⟩
    have nd1 : H1 d = none := by rw [upd_ne da] at nd; exact nd
    have eu : upd (del (upd (upd (upd H1 a (exo a C none)) d (exd d [(n1, v1)])) a (exo a C (some d))) a) d (.xd [(n1, v1)]) = upd H1 d (.xd [(n1, v1)]) := by
      funext b
      by_cases hd : b = d
      · rw [hd, upd_same, upd_same]
      · rw [upd_ne hd, upd_ne hd]
        by_cases hba : b = a
        · rw [hba, del_same, na]
        · rw [del_ne hba, upd_ne hba, upd_ne hd, upd_ne hba]
    rw [eu]
    obtain ⟨s2, hs2⟩ := hs1.new (o := .xd [(n1, v1)]) nd1
    have rx : RepX X.K (upd B1 d (.xd [(n1, v1)])) (.ref C) (some d) ⟨.ref C, some [(n1, d1)]⟩ := ⟨rfl, [v1], upd_same, .cons (ra1.mono s2) .nil⟩
    exact kk.ex (s1.trans s2) (s.up (s1.trans s2) hs2) rx q1
end
section
variable {P : Program} {w : World} {K : PySem.W.Frag} {mg : Str → Option Value} {base : Heap}
/-- an `__init__` as a law's raise wants it -/
def IniOk (P : Program) (w : World) (K : PySem.W.Frag) (mg : Str → Option Value) (base : Heap) (x : Str) (ps : List Str) (sp : Addr → Sp) : Prop := ∃ fd, FnOk P w K mg base CX0 1 (He.ma K (He.ga K x) "__init__") fd ps (sp (He.ga K x)) ∧ Binds K fd ps []
end
end MR
namespace MR
def NoSh (ms : List Int) (i k : Nat) : Prop := ∀ (i' k' : Nat) (x y : Int), ms[i']? = some x → ms[k']? = some y → i' < k' → (i' < i ∨ i' = i ∧ k' < k) → ¬ 1 < gd x y
def Fst2 (ms : List Int) (i k : Nat) : Prop := (∃ x y, ms[i]? = some x ∧ ms[k]? = some y ∧ i < k ∧ 1 < gd x y) ∧ NoSh ms i k
theorem Fst2.lt {ms : List Int} {i k : Nat} (h : Fst2 ms i k) : i < k ∧ k < ms.length := by
  obtain ⟨⟨x, y, e1, e2, l, _⟩, _⟩ := h
  exact ⟨l, (List.getElem?_eq_some_iff.mp e2).1⟩
end MR
namespace MR
open PySem PySem.Spec L2
structure Ths (M : Int) (k n : Nat) (ds : List D) : Prop where
  ok : okBs M ds = true
  dp : deps ds ≤ k
  sz : sizs ds ≤ n
theorem Ths.nil {M : Int} {k : Nat} : Ths M k 0 [] := ⟨by rw [okBs], by rw [deps]; omega, by rw [sizs]; omega⟩
theorem Ths.cons {M : Int} {k n m : Nat} {d : D} {ds : List D} (h : Th M k n d) (r : Ths M k m ds) : Ths M k (n + 4 + m) (d :: ds) :=
  ⟨by rw [okBs, h.ok, r.ok]; rfl, by rw [deps]; exact Nat.max_le.mpr ⟨h.dp, r.dp⟩, by rw [sizs]; have := h.sz; have := r.sz; omega⟩
theorem Ths.tup {M : Int} {k n : Nat} {ds : List D} (h : Ths M k n ds) : Th M (k + 1) (n + 4) (.tup ds) :=
  ⟨by rw [okB]; exact h.ok, by rw [dep]; have := h.dp; omega, by rw [siz]; have := h.sz; omega⟩
theorem Ths.lst {M : Int} {k n : Nat} {ds : List D} (h : Ths M k n ds) : Th M (k + 1) (n + 4) (.lst ds) :=
  ⟨by rw [okB]; exact h.ok, by rw [dep]; have := h.dp; omega, by rw [siz]; have := h.sz; omega⟩
theorem Th.int {M : Int} {i : Int} (h0 : -M ≤ i) (h1 : i ≤ M) : Th M 1 64 (.int i) := ⟨by rw [okB, decide_eq_true h0, decide_eq_true h1]; rfl, by rw [dep] <;> simp, by rw [siz]; omega⟩
theorem Th.bl {M : Int} (b : Bool) : Th M 1 2000 (.bl b) := ⟨by rw [okB], by rw [dep] <;> simp, by simp [siz]⟩
theorem Th.non {M : Int} : Th M 1 2000 .non := ⟨by rw [okB], by rw [dep] <;> simp, by simp [siz]⟩
theorem Th.str {M : Int} {x : Str} (h : asciiB x = true) : Th M 1 (10 * x.length + 4) (.str x) := ⟨by rw [okB, h], by rw [dep] <;> simp, by rw [siz]; omega⟩
theorem Ths.ints {M : Int} : ∀ {ns : List Int}, (∀ n ∈ ns, -M ≤ n ∧ n ≤ M) → Ths M 1 (68 * ns.length) (ns.map D.int)
  | [], _ => .nil
  | n :: ns, h => by
    have r := Ths.cons (Th.int (M := M) (h n (by simp)).1 (h n (by simp)).2) (Ths.ints (ns := ns) fun m hm => h m (by simp [hm]))
    exact ⟨r.ok, r.dp, by have := r.sz; rw [List.length_cons]; rw [List.map_cons]; omega⟩
theorem Th.row {M : Int} {ns : List Int} (h : ∀ n ∈ ns, -M ≤ n ∧ n ≤ M) : Th M 2 (68 * ns.length + 4) (MR.row ns) := (Ths.ints h).tup
theorem Ths.le {M M' : Int} {k k' n n' : Nat} {ds : List D} (h : Ths M k n ds) (hM : M ≤ M') (hk : k ≤ k') (hn : n ≤ n') : Ths M' k' n' ds := by
  have t := h.tup.le hM (Nat.succ_le_succ hk) (Nat.add_le_add_right hn 4)
  refine ⟨by have := t.ok; rw [okB] at this; exact this, by have := t.dp; rw [dep] at this; omega, by have := t.sz; rw [siz] at this; omega⟩
end MR
namespace MR
open PySem PySem.Spec PyProof.Rows L2
def isND : D → Bool
  | .non => true
  | _ => false
def isBD (b : Bool) : D → Bool
  | .bl c => decide (c = b)
  | _ => false
def fIsX (n : Bool) (d e : D) (Q : D → Prop) : Prop := match e with
  | .non => Q (.bl (xor n (isND d)))
  | .bl b => Q (.bl (xor n (isBD b d)))
  | _ => False
theorem fIsX_non (n : Bool) (d : D) (Q : D → Prop) : fIsX n d .non Q = Q (.bl (xor n (isND d))) := Eq.trans rfl rfl
theorem fIsX_bl (n b : Bool) (d : D) (Q : D → Prop) : fIsX n d (.bl b) Q = Q (.bl (xor n (isBD b d))) := Eq.trans rfl rfl
theorem isND_non : isND .non = true := Eq.trans rfl rfl
theorem isND_bl (b : Bool) : isND (.bl b) = false := Eq.trans rfl rfl
theorem isND_int (i : Int) : isND (.int i) = false := Eq.trans rfl rfl
theorem isND_str (i : Str) : isND (.str i) = false := Eq.trans rfl rfl
theorem isND_lst (i : List D) : isND (.lst i) = false := Eq.trans rfl rfl
theorem isND_tup (i : List D) : isND (.tup i) = false := Eq.trans rfl rfl
theorem isBD_non (b : Bool) : isBD b .non = false := Eq.trans rfl rfl
theorem isBD_bl (b c : Bool) : isBD b (.bl c) = decide (c = b) := Eq.trans rfl rfl
theorem isBD_int (b : Bool) (i : Int) : isBD b (.int i) = false := Eq.trans rfl rfl
theorem isBD_str (b : Bool) (i : Str) : isBD b (.str i) = false := Eq.trans rfl rfl
theorem isBD_lst (b : Bool) (i : List D) : isBD b (.lst i) = false := Eq.trans rfl rfl
theorem isBD_tup (b : Bool) (i : List D) : isBD b (.tup i) = false := Eq.trans rfl rfl
end MR
namespace MR
open PySem PySem.Spec PyProof.Rows L2
section
variable {M : Model} {A : Around} {E : Value → Shared → Prop} {s : Shared} {env : Env}
theorem callWith_typeKw0 {pos : Pos} {id : String} {first : List Value} {args : List (Bool × Sem Value)} {keywords : List (Option Str × Sem Value)} {Q : Value → Shared → Prop}
    (hplain : args.any (·.1) = false) (hkw : keywords.any (·.1.isNone) = false)
    (h : wpAny M A (evalArgs (.type id) true args keywords) (fun a s₁ => wpAny M A (call (.type id) (first ++ a.pos) a.kw) Q E s₁) E s) :
    wpAny M A (callWith pos (.type id) first args keywords) Q E s := by
  unfold callWith
  refine wpAny_bind (wpAny_holding (wpAny_mono h (fun a s₁ h₁ => wpAny_bind (wpAny_standAt ?_)) fun _ _ x => x))
  simp only [hplain, hkw, Bool.or_false]
  refine wpAny_bind (wpAny_pure ?_)
  exact wpAny_bind (wpAny_mono h₁ (fun r s₂ hr => wpAny_bind (wpAny_holding (wpAny_point (wpAny_pure hr)))) fun _ _ x => x)
theorem callWith_typeKw {pos : Pos} {id : String} {e : Expr} {rest : List Expr} {kws : List Keyword} {Q : Value → Shared → Prop}
    (h : wpAny M A (spliced (backTo pos (starEach (e :: rest) env))) (fun vs s₁ => wpAny M A (evalAll ((backToKw pos (keywordEach kws env)).map (·.2)))
      (fun kvs s₂ => wpAny M A (call (.type id) vs (((backToKw pos (keywordEach kws env)).filterMap (·.1)).zip kvs)) Q E s₂) E s₁) E s)
    (he : backTo pos (starEach (e :: rest) env) = (false, eval e env) :: backTo pos (starEach rest env) := by rfl)
    (hplain : (backTo pos (starEach (e :: rest) env)).any (·.1) = false := by rfl)
    (hall : (backToKw pos (keywordEach kws env)).all (·.1.isSome) = true := by rfl)
    (hkw : (backToKw pos (keywordEach kws env)).any (·.1.isNone) = false := by rfl) :
    wpAny M A (callWith pos (.type id) [] (backTo pos (starEach (e :: rest) env)) (backToKw pos (keywordEach kws env))) Q E s := by
  refine callWith_typeKw0 hplain hkw ?_
  rw [he] at h ⊢
  exact evalArgs_kwB hall h
end
def enumK (c : Int) (xs : List D) : List D := xs.mapIdx fun i d => .tup [.int (c + (i : Nat)), d]
section
variable {wd : Wd} {X : Cx} {W : WX} {e : Expr} {p pos tpos p1 kp : Pos} {j : Nat} {elts : List Expr} {kk : Nat} {c : Int}
def iEnumKG {wd : Wd} (c : Int) (g : AE wd) : AA wd := fun ρ ω Q E => g ρ ω (fun d ω1 => match d with
  | .tup xs => Q (enumK c xs) ω1
  | _ => False) E
end
end MR
namespace MR
open PySem PySem.Spec PyProof.Rows L2
def all2 {α β : Type} (f : α → β → Bool) : List α → List β → Bool
  | [], [] => true
  | x :: xs, y :: ys => f x y && all2 f xs ys
  | _, _ => false
def datS (K : PySem.W.Frag) (f : Value → D → Bool) (v : Value) (d : D) : Bool := match v, d with
  | .none, .non => true
  | .bool b, .bl c => decide (b = c)
  | .int i _, .int j => decide (i = j)
  | .str x _, .str y => decide (x = y)
  | .ref a, .tup ds => (match K.lookup a with
    | some ⟨.type c, _, .seq its _, _⟩ => decide (c = "tuple") && (decide (its.size ≤ sizeLine) && all2 f its.toList ds)
    | _ => false)
  | _, _ => false
def datB (K : PySem.W.Frag) : Nat → Value → D → Bool
  | 0 => fun _ _ => false
  | n + 1 => datS K (datB K n)
def Dat (K : PySem.W.Frag) (v : Value) (d : D) : Prop := ∃ x : V, L2.RelV x v ∧ ∀ B, Rep K B x d
theorem dat_all {K : PySem.W.Frag} {n : Nat} (ih : ∀ v d, datB K n v d = true → Dat K v d) : ∀ {vs : List Value} {ds : List D}, all2 (datB K n) vs ds = true → ∃ xs : List V, Vals xs vs ∧ ∀ B, RepAll K B xs ds
  | [], [], _ => ⟨[], .nil, fun _ => .nil⟩
  | v :: vs, d :: ds, h => by
    rw [all2, Bool.and_eq_true] at h
    obtain ⟨x, r, p⟩ := ih v d h.1
    obtain ⟨xs, rs, ps⟩ := dat_all ih h.2
    exact ⟨x :: xs, .cons r rs, fun B => .cons (p B) (ps B)⟩
  | [], _ :: _, h => by cases h
  | _ :: _, [], h => by cases h
theorem dat_ok {K : PySem.W.Frag} : ∀ (n : Nat) (v : Value) (d : D), datB K n v d = true → Dat K v d
  | 0, _, _, h => by cases h
  | n + 1, v, d, h => by
    replace h : datS K (datB K n) v d = true := h
    unfold datS at h
    split at h
    · exact ⟨.non, rfl, fun _ => .non⟩
    · exact ⟨.bl _, congrArg Value.bool (of_decide_eq_true h), fun _ => .bl _⟩
    · exact ⟨.int _, ⟨_, by rw [of_decide_eq_true h]⟩, fun _ => .int _⟩
    · exact ⟨.str _, ⟨_, by rw [of_decide_eq_true h]⟩, fun _ => .str _⟩
    · rename_i a ds
      split at h
      · rename_i c od its m sl e
        rw [Bool.and_eq_true, Bool.and_eq_true] at h
        obtain ⟨h1, h2, h3⟩ := h
        obtain rfl : c = "tuple" := of_decide_eq_true h1
        obtain ⟨xs, rs, ps⟩ := dat_all (fun v d q => dat_ok n v d q) h3
        exact ⟨.ref a, rfl, fun B => .tup (.inr ⟨_, its, m, e, rfl, rfl, of_decide_eq_true h2, rs⟩) (ps B)⟩
      · cases h
    · cases h
/-- a constant of the top -/
def mDat (K : PySem.W.Frag) (mg : Str → Option Value) (x : Str) (d : D) : Prop := ∃ v, mg x = some v ∧ Dat K v d
def datFB (x : Str) (d : D) : FB := fun K => datB K 5 (.ref (He.ga K x)) d
theorem mDat_glo {K : PySem.W.Frag} {mg : Str → Option Value} {x : Str} {d : D} (h : mg x = some (.ref (He.ga K x))) (c : datFB x d K = true) : mDat K mg x d := ⟨_, h, dat_ok 5 _ d c⟩
def KTab (K : PySem.W.Frag) (w : World) (a : Addr) (kvs : List (Str × D)) : Prop := ∀ q ∈ kvs, ∃ y : V, KDct K w a q.1 y ∧ ∀ B, Rep K B y q.2
def tabFB (x : Str) (kvs : List (Str × D)) : FB := fun K => kvs.all fun q => match PySem.W.nsIn K (He.ga K x) q.1 with
  | some (some u) => datB K 5 u q.2
  | _ => false
theorem ktab_of {K : PySem.W.Frag} {w : World} {x : Str} {kvs : List (Str × D)} (h : ∃ es n, KDict K w (He.ga K x) es n) (c : tabFB x kvs K = true) : KTab K w (He.ga K x) kvs := fun q hq => by
  obtain ⟨es, n, D⟩ := h
  have c2 := List.all_eq_true.mp c q hq
  split at c2
  · rename_i u e
    obtain ⟨y, r, p⟩ := dat_ok 5 u q.2 c2
    exact ⟨y, ⟨es, n, u, D.at_, D.lit, e, r⟩, p⟩
  · cases c2
def fKd (kvs : List (Str × D)) (d : D) (Q : D → Prop) : Prop := match d with
  | .str z => (match kvs.lookup z with
    | some v => Q v
    | none => False)
  | _ => False
theorem lookup_mem {α β : Type} [BEq α] [LawfulBEq α] {k : α} {v : β} : ∀ {l : List (α × β)}, l.lookup k = some v → (k, v) ∈ l
  | [], h => by cases h
  | (a, b) :: r, h => by
    rw [List.lookup] at h
    split at h
    · rename_i e
      cases h
      rw [show k = a from eq_of_beq e]
      exact List.mem_cons_self
    · exact List.mem_cons_of_mem _ (lookup_mem h)
theorem ge_kd {wd : Wd} {X : Cx} {W : WX} {x : Str} {a : Addr} {kvs : List (Str × D)} {b : Expr} {pos p : Pos} {g : AE wd} (hm : X.mg x = some (.ref a)) (ht : KTab X.K X.w a kvs) (hb : GE wd X W b g) (hp : PlainIx b := by exact fun _ _ => rfl) (hg : Gl X x := by rfl) (hd : (x == ("__debug__" : Str)) = false := by decide) :
    GE wd X W (.Subscript (.Name x p) b pos) (gUn (fKd kvs) g) := by
  obtain ⟨tb, pb, rb⟩ := hb.ex
  refine ⟨_, pe_ix ix_kdict (pe_glob (v := .ref a) hg hm rfl hd) pb hp, fun F B ρ ω σ H Qa Ea Q hs he h hk hx => ?_⟩
  refine rb F B ρ ω σ H _ Ea _ hs he h (fun B1 ω1 H1 v1 d1 s1 hs1 r1 g1 => ?_) hx
  cases d1 <;> try exact g1.elim
  case str z =>
    cases r1
    simp only [fKd] at g1
    split at g1
    · rename_i v e
      obtain ⟨y, k, p⟩ := ht _ (lookup_mem e)
      exact ⟨a, z, y, rfl, rfl, k, hk _ _ _ _ _ s1 hs1 (p B1) g1⟩
    · exact g1.elim
end MR
namespace MR
open PySem PySem.Spec PyProof.Rows L2
def gDct1S {wd : Wd} (k : Str) (g : AE wd) : AE wd := fun ρ ω Q E => g ρ ω (fun d ω1 => Q (.dct [.inr k] [d]) ω1) E
def isRd (z : Str) : Bool := decide (z = "plain") || (decide (z = "halves") || decide (z = "thirds"))
def thd (n : Int) : Int := (n + 2) / 3
def spr (b : Int) : Int := if 7 ≤ b then 1 else if b = 2 then 3 else 2
def goB (z : Str) (n b : Int) : Bool := if z = "plain" then decide (1 ≤ n) else if z = "halves" then decide (2 ≤ n) else decide (5 ≤ n) && decide (thd n + spr b < n)
theorem road_cases {z : Str} (h : isRd z = true) : z = "plain" ∨ z = "halves" ∨ z = "thirds" := by
  unfold isRd at h
  simp only [Bool.or_eq_true, decide_eq_true_eq] at h
  exact h
theorem few_p (Q : D → Prop) : fKd [("plain", .int 1), ("halves", .int 2), ("thirds", .int 5)] (.str "plain") Q = Q (.int 1) := Eq.trans rfl rfl
theorem few_h (Q : D → Prop) : fKd [("plain", .int 1), ("halves", .int 2), ("thirds", .int 5)] (.str "halves") Q = Q (.int 2) := Eq.trans rfl rfl
theorem few_t (Q : D → Prop) : fKd [("plain", .int 1), ("halves", .int 2), ("thirds", .int 5)] (.str "thirds") Q = Q (.int 5) := Eq.trans rfl rfl
theorem rd_ne : ¬ ("halves" : Str) = "plain" ∧ ¬ ("thirds" : Str) = "plain" ∧ ¬ ("thirds" : Str) = "halves" ∧ ¬ ("plain" : Str) = "thirds" ∧ ¬ ("halves" : Str) = "thirds" ∧ ¬ ("plain" : Str) = "halves" := by decide +kernel
theorem go_p (n b : Int) : goB "plain" n b = decide (1 ≤ n) := by unfold goB; rw [if_pos rfl]
theorem go_h (n b : Int) : goB "halves" n b = decide (2 ≤ n) := by unfold goB; rw [if_neg rd_ne.1, if_pos rfl]
theorem go_t (n b : Int) : goB "thirds" n b = (decide (5 ≤ n) && decide (thd n + spr b < n)) := by unfold goB; rw [if_neg rd_ne.2.1, if_neg rd_ne.2.2.1]
theorem thd_count : ∀ n : Nat, (((List.range n).filter fun (k : Nat) => decide (3 * k < n)).length : Int) = thd n := by
  have go : ∀ n m : Nat, m ≤ n → ((List.range m).filter fun (k : Nat) => decide (3 * k < n)).length = min m ((n + 2) / 3) := by
    intro n m
    induction m with
    | zero => intro _; simp
    | succ m ih =>
      intro h
      rw [List.range_succ, List.filter_append, List.length_append, ih (by omega)]
      by_cases c : 3 * m < n
      · rw [List.filter_cons_of_pos (by simp [c]), List.filter_nil, List.length_singleton]
        omega
      · rw [List.filter_cons_of_neg (by simp [c]), List.filter_nil, List.length_nil]
        omega
  intro n
  rw [go n n (Nat.le_refl _)]
  unfold thd
  omega
def pickP (p : Int → Bool) : D → List D
  | .int k => if p k = true then [.int k] else []
  | _ => []
theorem pickP_le (p : Int → Bool) (d : D) : (pickP p d).length ≤ 1 := by
  cases d <;> simp [pickP]
  split <;> simp
theorem rng_pick (p : Int → Bool) : ∀ m : Nat, (rng 0 m).flatMap (pickP p) = ((List.range m).filter fun (k : Nat) => p (k : Int)).map fun (k : Nat) => D.int k := by
  intro m
  unfold rng
  rw [List.flatMap_map]
  induction m with
  | zero => rfl
  | succ m ih =>
    rw [List.range_succ, List.flatMap_append, ih, List.filter_append, List.map_append]
    congr 1
    rw [List.flatMap_singleton]
    unfold pickP
    simp only [Int.zero_add]
    by_cases c : p (m : Int) = true
    · rw [if_pos c, List.filter_cons_of_pos (by simpa using c)]; rfl
    · rw [if_neg c, List.filter_cons_of_neg (by simpa using c)]; rfl
theorem Eo.str {k : Nat} {a : Str} (h : PyData.strOk a = true) (hk : 1 ≤ k) : Eo k (.str a) := ⟨by rw [pureD], by rw [toP, PyData.canLay0]; exact h, by rw [toP, PyData.depth]; omega⟩
end MR
namespace MR
open PySem
def wB (w : World) (b : Bool) : World := { w with params := { w.params with followText := fun x => if x == "special-get-raises" then b else w.params.followText x } }
theorem wB_eq (w : World) : wB w (w.params.followText "special-get-raises") = w := by
  have e : (fun x : String => if (x == "special-get-raises") = true then w.params.followText "special-get-raises" else w.params.followText x) = w.params.followText := by
    funext x
    by_cases c : x = "special-get-raises"
    · subst c; simp
    · have : (x == "special-get-raises") = false := by simpa using c
      simp [this]
  unfold wB
  rw [e]
theorem run_cases {P : World → Prop} (h1 : ∀ w, P (wB w true)) (h2 : ∀ w, P (wB w false)) (w : World) : P w := by
  have e := wB_eq w
  cases hb : w.params.followText "special-get-raises" with
  | true => rw [hb] at e; rw [← e]; exact h1 w
  | false => rw [hb] at e; rw [← e]; exact h2 w
end MR
namespace MR
open PySem PySem.Spec PyProof.Rows L2
def asStrs : List D → Option (List Str)
  | [] => some []
  | .str i :: r => (asStrs r).map (i :: ·)
  | _ :: _ => none
theorem asStrs_map : ∀ ns : List Str, asStrs (ns.map D.str) = some ns
  | [] => rfl
  | n :: ns => by
    rw [List.map_cons, asStrs, asStrs_map ns]
    rfl
section
variable {wd : Wd} {X : Cx} {W : WX}
/-- a text's method of one argument -/
def gM1 {wd : Wd} (f : Str → D → (D → Prop) → Prop) (g1 g2 : AE wd) : AE wd := fun ρ ω Q E => g1 ρ ω (fun d ω1 => match d with
  | .str a => g2 ρ ω1 (fun y ω2 => f a y (fun z => Q z ω2)) E
  | _ => False) E
def fJoin (a : Str) (d : D) (Q : D → Prop) : Prop := match d with
  | .lst xs => (match asStrs xs with
    | some ys => (ys.map (·.length)).sum + ys.length * a.length ≤ 16777216 ∧ Q (.str (Txt.join a ys))
    | none => False)
  | .tup xs => (match asStrs xs with
    | some ys => (ys.map (·.length)).sum + ys.length * a.length ≤ 16777216 ∧ Q (.str (Txt.join a ys))
    | none => False)
  | _ => False
def fIndex (a : Str) (d : D) (Q : D → Prop) : Prop := match d with
  | .str b => ∃ i rest, Builtin.Str.occurrences a b 0 a.length 1 = i :: rest ∧ Q (.int (i : Nat))
  | _ => False
def sgs (z : Str) : List D := z.cps.toList.map fun c => D.str ⟨#[c]⟩
def iStrG {wd : Wd} (g : AE wd) : AA wd := fun ρ ω Q E => g ρ ω (fun d ω1 => match d with
  | .str z => Q (sgs z) ω1
  | _ => False) E
end
def revS (z : Str) : Str := ⟨z.cps.toList.reverse.toArray⟩
section
variable {wd : Wd} {X : Cx} {W : WX}
def fRevS (x : D) (Q : D → Prop) : Prop := match x with
  | .str z => z.length ≤ sizeLine ∧ Q (.str (revS z))
  | _ => False
end
end MR
namespace MR
open PySem PySem.Spec PyProof.Rows L2
namespace Sg
open PySem.NumText PySem.Calls L2.Hx
def IsSg (c : Nat) : Prop := (48 ≤ c ∧ c ≤ 57) ∨ (97 ≤ c ∧ c ≤ 122)
/-- what a sign is worth -/
def sv (c : Nat) : Nat := if c ≤ 57 then c - 48 else c - 87
end Sg
def fInt36 : FC
  | [.str z, .int b], Q => b = 36 ∧ (match sg1 z with
    | some c => Sg.IsSg c ∧ Q (.int ((Sg.sv c : Nat) : Int))
    | none => False)
  | _, _ => False
theorem fInt36_str (z : Str) (b : Int) (Q : D → Prop) : fInt36 [.str z, .int b] Q = (b = 36 ∧ (match sg1 z with
    | some c => Sg.IsSg c ∧ Q (.int ((Sg.sv c : Nat) : Int))
    | none => False)) := Eq.trans rfl rfl
end MR
namespace MR
open PySem PySem.Spec PyProof.Rows HT
end MR
namespace MR
open PySem PySem.Spec L2
section
variable {wd : Wd} {X : Cx} {W : WX}
def fBack (x : D) (Q : D → Prop) : Prop := match x with
  | .tup xs => 1 ≤ xs.length ∧ Q (.tup (xs.drop 1).reverse)
  | _ => False
end
end MR
namespace MR
open PySem PySem.Spec PyProof.Rows L2
theorem fJoin_lst (a : Str) (ys : List Str) (Q : D → Prop) : fJoin a (.lst (ys.map D.str)) Q = ((ys.map (·.length)).sum + ys.length * a.length ≤ 16777216 ∧ Q (.str (Txt.join a ys))) := by
  unfold fJoin
  simp only [asStrs_map]
theorem fIndex_str (a b : Str) (Q : D → Prop) : fIndex a (.str b) Q = ∃ i rest, Builtin.Str.occurrences a b 0 a.length 1 = i :: rest ∧ Q (.int (i : Nat)) := Eq.trans rfl rfl
theorem fRevS_str (z : Str) (Q : D → Prop) : fRevS (.str z) Q = (z.length ≤ sizeLine ∧ Q (.str (revS z))) := Eq.trans rfl rfl
theorem fBack_tup (xs : List D) (Q : D → Prop) : fBack (.tup xs) Q = (1 ≤ xs.length ∧ Q (.tup (xs.drop 1).reverse)) := Eq.trans rfl rfl
def fEqDS : FD2
  | .dct _ _, .str _, Q => Q (.bl false)
  | d, e, Q => fEq d e Q
theorem fEqDS_dct (ks : List Key) (xs : List D) (z : Str) (Q : D → Prop) : fEqDS (.dct ks xs) (.str z) Q = Q (.bl false) := Eq.trans rfl rfl
theorem fEqDS_str (x z : Str) (Q : D → Prop) : fEqDS (.str x) (.str z) Q = Q (.bl (decide (x = z))) := Eq.trans rfl rfl
theorem fEqDS_non (z : Str) (Q : D → Prop) : fEqDS .non (.str z) Q = fEq .non (.str z) Q := Eq.trans rfl rfl
theorem fEqDS_bl (b : Bool) (z : Str) (Q : D → Prop) : fEqDS (.bl b) (.str z) Q = fEq (.bl b) (.str z) Q := Eq.trans rfl rfl
theorem fEqDS_int (b : Int) (z : Str) (Q : D → Prop) : fEqDS (.int b) (.str z) Q = fEq (.int b) (.str z) Q := Eq.trans rfl rfl
theorem fEqDS_lst (b : List D) (z : Str) (Q : D → Prop) : fEqDS (.lst b) (.str z) Q = fEq (.lst b) (.str z) Q := Eq.trans rfl rfl
theorem fEqDS_tup (b : List D) (z : Str) (Q : D → Prop) : fEqDS (.tup b) (.str z) Q = fEq (.tup b) (.str z) Q := Eq.trans rfl rfl
end MR
namespace MR
open PySem PySem.Spec PyProof.Rows L2
section
variable {wd : Wd} {X : Cx} {all names : List Str}
/-- what a caller of C(..) is promised -/
abbrev IS (wd : Wd) := List D → wd.W → (List D → wd.W → Prop) → Prop
end
section
variable {wd : Wd} {X : Cx} {W : WX}
def gMake (asp : IS wd) (C : Addr) (names : List Str) (idx : List Nat) (n m : Nat) (dfl : List D) (ga gk : AA wd) : AE wd := fun ρ ω Q E => ga ρ ω (fun xs ω1 => gk ρ ω1 (fun zs ω2 => xs.length = n ∧ zs.length = m ∧
  asp (sel idx (xs ++ zs ++ dfl) .non) ω2 (fun es ω3 => Q (.obj C names es) ω3)) E) E
end
section
variable {wd : Wd} {X : Cx} {W : WX}
/-- one of these classes with these fields -/
def okC : List (Addr × List Str) → Addr → List Str → Prop
  | [], _, _ => False
  | q :: r, C, fs => (q.1 = C ∧ q.2 = fs) ∨ okC r C fs
theorem okC_0 (C : Addr) (fs : List Str) (r : List (Addr × List Str)) : okC ((C, fs) :: r) C fs = True := eq_true (.inl ⟨rfl, rfl⟩)
theorem okC_1 (C : Addr) (fs : List Str) (q : Addr × List Str) (r : List (Addr × List Str)) : okC (q :: (C, fs) :: r) C fs = True := eq_true (.inr (.inl ⟨rfl, rfl⟩))
/-- the field at place j of an instance of one of these classes -/
def fO (cs : List (Addr × List Str)) (j : Nat) (x : D) (k : D → Prop) : Prop := match x with
  | .obj C fs xs => okC cs C fs ∧ match xs[j]? with
    | some d => k d
    | none => False
  | _ => False
theorem fO_obj (cs : List (Addr × List Str)) (j : Nat) (C : Addr) (fs : List Str) (xs : List D) (k : D → Prop) : fO cs j (.obj C fs xs) k = (okC cs C fs ∧ match xs[j]? with
    | some d => k d
    | none => False) := Eq.trans rfl rfl
def gFldO (cs : List (Addr × List Str)) (j : Nat) (g : AE wd) : AE wd := fun ρ ω Q E => g ρ ω (fun x ω1 => fO cs j x (fun d => Q d ω1)) E
/-- an instance of this class -/
def mO (C : Addr) (fs : List Str) (o : D) (k : Prop) : Prop := match o with
  | .obj C' fs' _ => C' = C ∧ fs' = fs ∧ k
  | _ => False
theorem mO_obj (C : Addr) (fs : List Str) (xs : List D) (k : Prop) : mO C fs (.obj C fs xs) k = k := propext ⟨fun h => h.2.2, fun h => ⟨rfl, rfl, h⟩⟩
/-- e.m(..) -/
def gMeth (C : Addr) (fs : List Str) (asp : ASp wd) (idx : List Nat) (n m : Nat) (dfl : List D) (go : AE wd) (ga gk : AA wd) : AE wd := fun ρ ω Q E => go ρ ω (fun o ω0 => mO C fs o (ga ρ ω0 (fun xs ω1 => gk ρ ω1 (fun zs ω2 => xs.length = n ∧ zs.length = m ∧ asp (sel idx (o :: (xs ++ zs ++ dfl)) .non) ω2 Q E) E) E)) E
end
section
variable {wd : Wd} {X : Cx} {W : WX}
/-- what a thing is, for isinstance with the class at C -/
def fIsO (C : Addr) (d : D) (Q : D → Prop) : Prop := match d with
  | .obj C' _ _ => C' = C ∧ Q (.bl true)
  | d => match tyD d with
    | some _ => Q (.bl false)
    | none => False
theorem fIsO_obj (C : Addr) (fs : List Str) (xs : List D) (Q : D → Prop) : fIsO C (.obj C fs xs) Q = Q (.bl true) := propext ⟨fun h => h.2, fun h => ⟨rfl, h⟩⟩
theorem fIsO_non (C : Addr) (Q : D → Prop) : fIsO C .non Q = Q (.bl false) := Eq.trans rfl rfl
theorem fIsO_int (C : Addr) (i : Int) (Q : D → Prop) : fIsO C (.int i) Q = Q (.bl false) := Eq.trans rfl rfl
theorem fIsO_bl (C : Addr) (i : Bool) (Q : D → Prop) : fIsO C (.bl i) Q = Q (.bl false) := Eq.trans rfl rfl
theorem fIsO_str (C : Addr) (i : Str) (Q : D → Prop) : fIsO C (.str i) Q = Q (.bl false) := Eq.trans rfl rfl
theorem fIsO_tup (C : Addr) (i : List D) (Q : D → Prop) : fIsO C (.tup i) Q = Q (.bl false) := Eq.trans rfl rfl
theorem fIsO_lst (C : Addr) (i : List D) (Q : D → Prop) : fIsO C (.lst i) Q = Q (.bl false) := Eq.trans rfl rfl
/-- abs of an int -/
def fAbs : FC
  | [.int i], Q => Q (.int (if i < 0 then -i else i))
  | _, _ => False
end
end MR
namespace MR
open PySem PySem.Spec L2
/-- the Long of a whole number -/
def lg (K : PySem.W.Frag) (b z : Int) : D := .obj (He.ga K "Long") ["row", "base", "below"] [row (digs b z.natAbs), .int b, .bl (decide (z < 0))]
theorem digs_isnil {b n : Int} (hb : 2 ≤ b) : digs b n = [] ↔ n ≤ 0 := by
  constructor
  · intro h
    by_cases c : 0 < n
    · rw [digs_cons hb c] at h
      cases h
    · omega
  · exact digs_nil
theorem fO_lg0 {K : PySem.W.Frag} (cs : List (Addr × List Str)) (b z : Int) (k : D → Prop) : fO cs 0 (lg K b z) k = (okC cs (He.ga K "Long") ["row", "base", "below"] ∧ k (row (digs b z.natAbs))) := Eq.trans rfl rfl
theorem fO_lg1 {K : PySem.W.Frag} (cs : List (Addr × List Str)) (b z : Int) (k : D → Prop) : fO cs 1 (lg K b z) k = (okC cs (He.ga K "Long") ["row", "base", "below"] ∧ k (.int b)) := Eq.trans rfl rfl
theorem fO_lg2 {K : PySem.W.Frag} (cs : List (Addr × List Str)) (b z : Int) (k : D → Prop) : fO cs 2 (lg K b z) k = (okC cs (He.ga K "Long") ["row", "base", "below"] ∧ k (.bl (decide (z < 0)))) := Eq.trans rfl rfl
theorem mO_lg {K : PySem.W.Frag} (b z : Int) (k : Prop) : mO (He.ga K "Long") ["row", "base", "below"] (lg K b z) k = k := mO_obj _ _ _ _
theorem fIsO_lg {K : PySem.W.Frag} (b z : Int) (Q : D → Prop) : fIsO (He.ga K "Long") (lg K b z) Q = Q (.bl true) := fIsO_obj _ _ _ _
end MR
namespace MR
open PySem PySem.Spec L2
abbrev T3 := Int × Int × Int
structure ExtI (M : Int) (a l : T3) : Prop where
  r0 : 0 ≤ a.1
  r1 : 0 ≤ l.1
  a0 : a.1 ≤ M
  l0 : l.1 ≤ M
  a1 : (a.2.1.natAbs : Int) ≤ M
  l1 : (l.2.1.natAbs : Int) ≤ M
  a2 : (a.2.2.natAbs : Int) ≤ M
  l2 : (l.2.2.natAbs : Int) ≤ M
  ex : (a.2.1.natAbs : Int) * l.1 + l.2.1.natAbs * a.1 ≤ M
  ey : (a.2.2.natAbs : Int) * l.1 + l.2.2.natAbs * a.1 ≤ M
theorem ExtI.start {f s M : Int} (hf : 0 ≤ f) (hs : 0 ≤ s) (h1 : f ≤ M) (h2 : s ≤ M) (h3 : 1 ≤ M) : ExtI M (f, 1, 0) (s, 0, 1) := by
  refine ⟨hf, hs, h1, h2, ?_, ?_, ?_, ?_, ?_, ?_⟩ <;> simp <;> omega
/-- a part: a row, and how often by Longs -/
def pt (K : PySem.W.Frag) (b : Int) (t : T3) : D := .obj (He.ga K "Part") ["row", "a", "b"] [row (digs b t.1), lg K b t.2.1, lg K b t.2.2]
theorem fO_pt0 {K : PySem.W.Frag} (cs : List (Addr × List Str)) (b : Int) (t : T3) (k : D → Prop) : fO cs 0 (pt K b t) k = (okC cs (He.ga K "Part") ["row", "a", "b"] ∧ k (row (digs b t.1))) := Eq.trans rfl rfl
theorem fO_pt1 {K : PySem.W.Frag} (cs : List (Addr × List Str)) (b : Int) (t : T3) (k : D → Prop) : fO cs 1 (pt K b t) k = (okC cs (He.ga K "Part") ["row", "a", "b"] ∧ k (lg K b t.2.1)) := Eq.trans rfl rfl
theorem fO_pt2 {K : PySem.W.Frag} (cs : List (Addr × List Str)) (b : Int) (t : T3) (k : D → Prop) : fO cs 2 (pt K b t) k = (okC cs (He.ga K "Part") ["row", "a", "b"] ∧ k (lg K b t.2.2)) := Eq.trans rfl rfl
theorem mO_pt {K : PySem.W.Frag} (b : Int) (t : T3) (k : Prop) : mO (He.ga K "Part") ["row", "a", "b"] (pt K b t) k = k := mO_obj _ _ _ _
end MR
namespace MR
open PySem PySem.Spec L2
def fMax3 : FC
  | [.int i, .int j, .int k], Q => Q (.int (if (if i < j then j else i) < k then k else (if i < j then j else i)))
  | _, _ => False
end MR
namespace MR
open PySem PySem.Spec PyProof.Rows L2
structure NeC (K : PySem.W.Frag) (C f : Addr) : Prop where
  cls : ∃ nm q N bs hd sn sub ab col dd k0 k1 k2 k3 k5, K.lookup C = some (excClassObj nm q C N bs [.type "object"] hd sn sub ab col dd k0 k1 k2 k3 k5 "object.__new__") ∧
    ∃ od dx es ep sl, K.lookup N = some ⟨od, dx, .dict es ep, sl⟩ ∧ StrKeys es ∧ nsFind es "__eq__" = some (.ref f) ∧ nsFind es "__ne__" = none
  fn : ∃ of, K.lookup f = some of ∧ of.cls = .type "function"
theorem lk_object_eq : ∃ y, typeLookup (.type "object") "__eq__" = pure y := ⟨some (.builtin "object.__eq__"), by rw [typeLookup_type, builtinLookup_eq_fast]; kernel_rfl⟩
theorem NeC.at {K : PySem.W.Frag} {C f x : Addr} {h : Heap} {o : Obj} (c : NeC K C f) (X : K.In h) (hx : h.get? x = some o) (hc : o.cls = .ref C) : h.OwnEqNoNe x C f "object" [.type "object"] := by
  obtain ⟨nm, q, N, bs, hd, sn, sub, ab, col, dd, k0, k1, k2, k3, k5, hC, od, dx, es, ep, sl, hN, hS, h1, h2⟩ := c.cls
  obtain ⟨of, hf, hfc⟩ := c.fn
  obtain ⟨y, hy⟩ := lk_object_eq
  exact ⟨o, of, nm, q, N, bs, hd, sn, sub, ab, col, dd, k0, k1, k2, k3, k5, "object.__new__", fun n => nsFind es n, y, hx, hc, X _ _ hC, ⟨_, es, ep, X _ _ hN, rfl, hS, fun _ => rfl⟩, h1, X _ _ hf, hfc, PySem.F.mro_object, hy, h2⟩
/-- != by it -/
def fNeO (C : Addr) (fs : List Str) (asp : ASp DWd) : AE DWd → AE DWd → AE DWd := fun ga gb ρ ω Q E => ga ρ ω (fun x ω1 => gb ρ ω1 (fun y ω2 => mO C fs x (mO C fs y (asp [x, y] ω2 (fun z ω3 => match z with
  | .bl c => Q (.bl (!c)) ω3
  | _ => False) (fun _ _ => False)))) E) E
end MR
namespace MR
open PySem PySem.Spec PyProof.Rows L2
def CDivZ (_ j : Int) : Prop := j ≠ 0 ∧ j.natAbs.log2 < 9000
def fFdivZ : FD2
  | .int i, .int j, Q => CDivZ i j ∧ Q (.int (i.fdiv j))
  | _, _, _ => False
end MR
namespace MR
open PySem PySem.Spec PyProof.Rows L2 RZ
def keyD : Key → D
  | .inl i => .int i
  | .inr x => .str x
def aDComp {wd : Wd} (ds : List D) (t : AG) (tt : AT wd) (tk tv : AE wd) (vs : List Nat) : AE wd := fun ρ ω Q E => ∃ Iv : Nat → List Key → List D → wd.W → Prop, Iv 0 [] [] ω ∧
  (∀ i d ks zs ω, ds[i]? = some d → Iv i ks zs ω → ks.length = zs.length → t d (wipeA ρ vs) (fun ρ' => tt ρ' ω (fun b ω1 => if b = true then tk ρ' ω1 (fun y ω2 => tv ρ' ω2 (fun z ω3 => ∃ k, y = keyD k ∧ k ∉ ks ∧ ks.length < sizeLine ∧ Iv (i + 1) (ks ++ [k]) (zs ++ [z]) ω3) (fun _ _ => False)) (fun _ _ => False) else Iv (i + 1) ks zs ω1) (fun _ _ => False))) ∧
  ∀ ks zs ω, Iv ds.length ks zs ω → ks.length = zs.length → Q (.dct ks zs) ω
def gDComp {wd : Wd} (g : AA wd) (t : AG) (tt : AT wd) (tk tv : AE wd) (vs : List Nat) : AE wd := fun ρ ω Q E => g ρ ω (fun ds ω1 => aDComp ds t tt tk tv vs ρ ω1 Q E) E
def minL : List Int → Int
  | [] => 0
  | [a] => a
  | a :: b :: r => min a (minL (b :: r))
def gMinV {wd : Wd} (g : AE wd) : AE wd := fun ρ ω Q E => g ρ ω (fun d ω1 => match d with
  | .dct _ xs => ∃ is : List Int, xs = is.map D.int ∧ is ≠ [] ∧ Q (.int (minL is)) ω1
  | _ => False) E
end MR
namespace MR
open PySem PySem.Spec PyProof.Rows L2 RZ
def selK (m : Int) (ks : List Key) (is : List Int) : List Key := ((ks.zip is).filter fun p => decide (p.2 = m)).map (·.1)
def gSelK {wd : Wd} (i j r : Nat) : AA wd := fun ρ ω Q E => gVar i ρ ω (fun d ω1 => gVar j ρ ω1 (fun e ω2 => match d, e with
  | .dct ks xs, .int m => ∃ is : List Int, xs = is.map D.int ∧ ks.length = is.length ∧ ks.Nodup ∧ ks.length < sizeLine ∧ r < ρ.length ∧ Q ((selK m ks is).map keyD) ω2
  | _, _ => False) E) E
def aComp2 {wd : Wd} (ds : List D) (t : AG) (tt : AT wd) (g1 : AA wd) (t1 : AG) (tt1 : AT wd) (te : AE wd) (vs vs1 : List Nat) : AA wd := fun ρ ω Q E => ∃ Iv : Nat → List D → wd.W → Prop, Iv 0 [] ω ∧
  (∀ i d acc ω, ds[i]? = some d → Iv i acc ω → t d (wipeA ρ vs) (fun ρ' => tt ρ' ω (fun b ω1 => if b = true then g1 ρ' ω1 (fun es ω2 => ∃ Jv : Nat → List D → wd.W → Prop, Jv 0 acc ω2 ∧
    (∀ j e acc ω, es[j]? = some e → Jv j acc ω → t1 e (wipeA ρ' vs1) (fun ρ2 => tt1 ρ2 ω (fun b ω1 => if b = true then te ρ2 ω1 (fun y ω2 => acc.length < sizeLine ∧ Jv (j + 1) (acc ++ [y]) ω2) (fun _ _ => False) else Jv (j + 1) acc ω1) (fun _ _ => False))) ∧
    ∀ acc ω, Jv es.length acc ω → Iv (i + 1) acc ω) (fun _ _ => False) else Iv (i + 1) acc ω1) (fun _ _ => False))) ∧
  ∀ acc ω, Iv ds.length acc ω → Q acc ω
def gComp2 {wd : Wd} (g : AA wd) (t : AG) (tt : AT wd) (g1 : AA wd) (t1 : AG) (tt1 : AT wd) (te : AE wd) (vs vs1 : List Nat) : AA wd := fun ρ ω Q E => g ρ ω (fun ds ω1 => aComp2 ds t tt g1 t1 tt1 te vs vs1 ρ ω1 Q E) E
theorem Hst.less {wd : Wd} {K : PySem.W.Frag} {F B H : Hp} {ω : wd.W} {p : Addr} {o : HO} (hF : F p = none) (h : Hst wd K (upd F p o) B ω H) : Hst wd K F B ω H := by
  have up : ∀ q u, F q = some u → upd F p o q = some u := fun q u e => by
    rw [upd_ne (ne_of_none e hF)]
    exact e
  refine ⟨h.sB, fun q u e => h.sF _ _ (up _ _ e), fun q u e => h.dj _ _ (up _ _ e), fun q z => ?_, h.wat⟩
  have := h.fw q z
  by_cases c : q = p
  · rw [c]; exact hF
  · rw [upd_ne c] at this
    exact this
end MR
namespace MR
open PySem PySem.Spec PyProof.Rows L2
def rdsAt (b k : Int) : List Str := (if goB "plain" k b = true then [("plain" : Str)] else []) ++ ((if goB "halves" k b = true then [("halves" : Str)] else []) ++ if goB "thirds" k b = true then [("thirds" : Str)] else [])
def isPl (b : Int) (zs : List Str) : Prop := ∀ (i : Nat) z, zs[i]? = some z → isRd z = true ∧ goB z (1 + i) b = true
def cAt (cs : List Int) (i : Int) : Int := cs.getD i.toNat 0
def cb (z : Str) (n : Int) (cs : List Int) (b : Int) : Int := if z = "plain" then n * n else if z = "halves" then 2 * cAt cs ((n + 1) / 2) + cAt cs (n - (n + 1) / 2) else cAt cs (thd n) + 3 * cAt cs (thd n + spr b) + cAt cs (n - 2 * thd n)
theorem spr_pos (b : Int) : 1 ≤ spr b ∧ spr b ≤ 3 := by
  unfold spr
  split
  · omega
  · split <;> omega
theorem thd_go {n b : Int} (h : goB "thirds" n b = true) : 5 ≤ n ∧ 0 ≤ thd n ∧ thd n < n ∧ thd n + spr b < n ∧ 0 ≤ n - 2 * thd n ∧ n - 2 * thd n < n := by
  rw [go_t, Bool.and_eq_true] at h
  have h1 : 5 ≤ n := of_decide_eq_true h.1
  have h2 : thd n + spr b < n := of_decide_eq_true h.2
  have h3 := spr_pos b
  have h4 : thd n = (n + 2) / 3 := rfl
  omega
def cntA (b : Int) (cs : List Int) : List Str → List Int
  | [] => cs
  | z :: zs => cntA b (cs ++ [cb z cs.length cs b]) zs
def cnt (b : Int) (zs : List Str) : List Int := cntA b [0] zs
def lst (b : Int) : Nat → List Int
  | 0 => [0]
  | k + 1 => lst b k ++ [minL ((rdsAt b (1 + (k : Int))).map fun z => cb z (1 + (k : Int)) (lst b k) b)]
def lpl (b : Int) : Nat → List Str
  | 0 => []
  | k + 1 => lpl b k ++ [((rdsAt b (1 + (k : Int))).filter fun z => decide (cb z (1 + (k : Int)) (lst b k) b = minL ((rdsAt b (1 + (k : Int))).map fun z => cb z (1 + (k : Int)) (lst b k) b))).headD "plain"]
/-- a plan with its counts -/
def pc (b : Int) (zs : List Str) : D := .tup [.tup (zs.map D.str), row (cnt b zs)]
def lp (b : Int) (n : Nat) : D := .tup [.tup ((lpl b n).map D.str), row (lst b n)]
end MR
namespace MR
open PySem PySem.Spec PyProof.Rows L2
end MR
namespace MR
open PySem PySem.Spec PyProof.Rows L2
theorem str_keyD (s : Str) (k : Key) : (D.str s = keyD k) = (k = .inr s) := by
  cases k with
  | inl i => simp [keyD]
  | inr x =>
    simp only [keyD, D.str.injEq, Sum.inr.injEq]
    exact propext eq_comm
end MR
namespace MR
open PySem PySem.Spec PyProof.Rows L2
def rdF (b k : Int) : D → List D
  | .str z => if goB z k b = true then [.str z] else []
  | _ => []
theorem rdF_le (b k : Int) (d : D) : (rdF b k d).length ≤ 1 := by
  cases d <;> simp [rdF]
  split <;> simp
theorem rdF_flat (b k : Int) : [D.str "plain", .str "halves", .str "thirds"].flatMap (rdF b k) = (rdsAt b k).map D.str := by
  unfold rdsAt
  simp only [List.flatMap_cons, List.flatMap_nil, rdF, List.append_nil, List.map_append]
  congr 1
  · split <;> rfl
  · congr 1
    · split <;> rfl
    · split <;> rfl
end MR
namespace MR
open PySem PySem.Spec L2
def fMinL : FC
  | [.lst xs], Q => ∃ is : List Int, xs = is.map D.int ∧ is ≠ [] ∧ Q (.int (minL is))
  | _, _ => False
end MR
namespace MR
open PySem PySem.Spec PyProof.Rows L2
end MR
namespace MR
open PySem PySem.Spec PyProof.Rows L2
/-- == by it -/
def fEqO (C : Addr) (fs : List Str) (asp : ASp DWd) : AE DWd → AE DWd → AE DWd := fun ga gb ρ ω Q E => ga ρ ω (fun x ω1 => gb ρ ω1 (fun y ω2 => mO C fs x (mO C fs y (asp [x, y] ω2 (fun z ω3 => match z with
  | .bl c => Q (.bl c) ω3
  | _ => False) (fun _ _ => False)))) E) E
end MR
namespace MR
open PySem PySem.Spec L2
theorem sizs_one : ∀ ns : List Int, sizs (ns.map D.int) = 68 * ns.length
  | [] => rfl
  | n :: ns => by rw [List.map_cons, sizs, sizs_one ns, siz, List.length_cons]; omega
/-- a thing, what is in it, what is in that: known to be looked at -/
def ok3 (d : D) : Prop := okD d ∧ ∀ xs, d = .tup xs → ∀ x ∈ xs, okD x ∧ ∀ ys, x = .tup ys → ∀ y ∈ ys, okD y
theorem row_T {b : Int} (hb : base_ b) {xs : List Int} (h : isRow b xs) {l : Nat} (hl : xs.length ≤ l) : Th (10 ^ 40) 2 (68 * l + 4) (row xs) := by
  refine Th.tup (k := 1) (fun d hd => ?_) ?_
  · obtain ⟨n, hn, rfl⟩ := List.mem_map.mp hd
    have := h.lim n hn
    have := hb.2
    refine ⟨?_, by simp [dep]⟩
    rw [okB, Bool.and_eq_true, decide_eq_true_eq, decide_eq_true_eq]
    omega
  · rw [sizs_one]
    have := Nat.mul_le_mul_left 68 hl
    omega
end MR
namespace MR
open PySem PySem.Spec PyProof.Rows L2
abbrev Memo := List (Int × Int)
def mget (kvs : Memo) (n : Int) : Option Int := (kvs.find? fun p => decide (p.1 = n)).map (·.2)
def mput (kvs : Memo) (k v : Int) : Memo := if (kvs.any fun p => decide (p.1 = k)) = true then kvs.map (fun p => if p.1 = k then (p.1, v) else p) else kvs ++ [(k, v)]
def mcv (p : Int × Int) : Key × V := (Sum.inl p.1, V.int p.2)
def mcell (kvs : Memo) : HO := .dK (kvs.map mcv)
def MWd : Wd where
  W := DW × Option (Addr × Memo)
  foot := fun ω a => DWd.foot ω.1 a ∨ ∃ kvs, ω.2 = some (a, kvs)
  holds := fun K ω B H => DWd.holds K ω.1 B H ∧ ∀ a kvs, ω.2 = some (a, kvs) → B a = none ∧ ¬ DWd.foot ω.1 a ∧ H a = some (mcell kvs)
  some_ := fun {K ω B H a} h z => by
    rcases z with z | ⟨kvs, e⟩
    · exact DWd.some_ h.1 z
    · rw [(h.2 _ _ e).2.2]
      intro q
      cases q
  free_ := fun {K ω B H a} h z => by
    rcases z with z | ⟨kvs, e⟩
    · exact DWd.free_ h.1 z
    · exact (h.2 _ _ e).1
  mono := fun {K ω B H B' H'} h m hH hB => ⟨DWd.mono h.1 m (fun a z => hH a (.inl z)) (fun a z => hB a (.inl z)), fun a kvs e => ⟨hB a (.inr ⟨kvs, e⟩), (h.2 a kvs e).2.1, by rw [hH a (.inr ⟨kvs, e⟩)]; exact (h.2 a kvs e).2.2⟩⟩
section
variable {K : PySem.W.Frag} {F B H : Hp}
theorem FnG.imp {P : Program} {w : World} {mg : Str → Option Value} {base : Heap} {CX : CXT} {k : Nat} {f : Addr} {fd : FuncData} {ps : List Str} {sp sp' : Sp} (G : FnG P w K mg base CX k f fd ps sp) (h : ∀ vs H Q E, sp' vs H Q E → sp vs H Q E) : FnG P w K mg base CX k f fd ps sp' :=
  ⟨fun z => G.len (h _ _ _ _ z), fun hr hG e0 hb r z => G.run hr hG e0 hb r (h _ _ _ _ z)⟩
end
section
variable {X : Cx} {W : WX} {e ek : Expr} {g gk : AE MWd} {pos : Pos}
def gMNew : AE MWd := fun _ ω Q _ => ω.2 = none ∧ ∀ p, Q (.adr p) (ω.1, some (p, []))
def gMNot (i : Nat) (g : AE MWd) : AE MWd := fun ρ ω Q E => ∃ p, ρ[i]? = some (some (.d (.adr p))) ∧ g ρ ω (fun d ω1 => ∃ n kvs, d = .int n ∧ ω1.2 = some (p, kvs) ∧ Q (.bl (!(mget kvs n).isSome)) ω1) E
def gMGet (i : Nat) (g : AE MWd) : AE MWd := fun ρ ω Q E => ∃ p, ρ[i]? = some (some (.d (.adr p))) ∧ g ρ ω (fun d ω1 => ∃ n kvs v, d = .int n ∧ ω1.2 = some (p, kvs) ∧ mget kvs n = some v ∧ Q (.int v) ω1) E
def sMPut (i : Nat) (gk g : AE MWd) : AS MWd := fun Da ρ ω => ∃ p, ρ[i]? = some (some (.d (.adr p))) ∧ g ρ ω (fun d ω1 => ∃ v, d = .int v ∧ gk ρ ω1 (fun k ω2 => ∃ n kvs, k = .int n ∧ ω2.2 = some (p, kvs) ∧ kvs.length < sizeLine ∧ Da.nx ρ (ω2.1, some (p, mput kvs n v))) (fun x ω' => Da.ex x ρ ω')) (fun x ω' => Da.ex x ρ ω')
end
end MR
namespace MR
open PySem PySem.Spec PyProof.Rows L2
section
variable {wd : Wd} {X : Cx} {W : WX} {e : Expr} {g : AE wd} {pos p : Pos}
/-- what such a dict tells of a text -/
def gFTab (K : PySem.W.Frag) (kvs : List (Str × Str)) (g : AE wd) : AE wd := fun ρ ω Q E => g ρ ω (fun d ω1 => ∃ z f, d = .str z ∧ kvs.lookup z = some f ∧ Q (.adr (He.ga K f)) ω1) E
/-- whether it has the text -/
def gFHas (kvs : List (Str × Str)) (neg : Bool) (g : AE wd) : AE wd := fun ρ ω Q E => g ρ ω (fun d ω1 => ∃ z, d = .str z ∧ Q (.bl (xor neg (kvs.lookup z).isSome)) ω1) E
end
end MR
namespace MR
open PySem PySem.Spec PyProof.Rows L2
section
variable {wd : Wd} {X : Cx} {W : WX} {e : Expr} {es : List Expr} {pos p : Pos}
/-- a def that stands ready to be called with n values by place -/
structure LK (X : Cx) (wd : Wd) (n : Nat) (idx : List Nat) (f : Addr) (asp : ASp wd) : Prop where
  ex : ∃ k fd ps, FnG X.prog X.w X.K X.mg X.base (L2.CX X.prog X.w) k f fd ps (toSp wd X.K idx.length asp) ∧ Room k X.A ∧ PySem.W.keepIn X.K (.ref f) = true ∧ Bnd X.K fd ps n [] idx []
def gCallF (i n : Nat) (idx : List Nat) (tbl : List (Addr × ASp wd)) (ga : AA wd) : AE wd := fun ρ ω Q E => ∃ f asp, (f, asp) ∈ tbl ∧ ρ[i]? = some (some (.d (.adr f))) ∧ ga ρ ω (fun xs ω1 => xs.length = n ∧ asp (sel idx xs .non) ω1 Q E) E
end
end MR
namespace MR
open PySem
abbrev ZipS (h : Heap) (z u v : Addr) (f : Value) : Prop := h.get? z = some { cls := .type "zip", dict := none, data := .fields #[f, .bool false, .bool true, .ref u, .ref v], slots := #[] }
section
variable {P : Program} {w : World} {A : Around} {E : Value → Shared → Prop}
theorem oe_item {it : Addr} {fp : List Addr} {n i : Nat} {Y : Nat → Value → Prop} {St : Nat → Heap → Prop} {s : Shared} {Q : Option Value → Shared → Prop} (D : Draws P w A it fp n Y St) (hi : i < n) (st : St i s.heap)
    (h : ∀ x h' tk, Y i x → St (i + 1) h' → Heap.SameBut it s.heap h' → Q (some x) { s with heap := h', toks := tk }) : wpAny (model P w) A (Builtin.SmallTypes.nextOrEnd (.ref it)) Q E s := by
  unfold Builtin.SmallTypes.nextOrEnd
  exact wpAny_bind (wpAny_attempt (D.item i s _ _ hi st fun x h' tk a b c => wpAny_pure (h x h' tk a b c)))
theorem oe_end {it : Addr} {fp : List Addr} {n : Nat} {Y : Nat → Value → Prop} {St : Nat → Heap → Prop} {s : Shared} {Q : Option Value → Shared → Prop} (D : Draws P w A it fp n Y St) (st : St n s.heap)
    (h : ∀ h', Heap.ExtBut it s.heap h' → Q none { s with heap := h' }) : wpAny (model P w) A (Builtin.SmallTypes.nextOrEnd (.ref it)) Q E s := by
  unfold Builtin.SmallTypes.nextOrEnd
  refine wpAny_bind (wpAny_attempt (D.done s _ _ st fun h' e a b => ?_))
  obtain ⟨o, ho, hc⟩ := b
  exact wpAny_bind (wpAny_isInstance (T := "StopIteration") (b := true) ⟨o, ho, hc⟩ isSubtype_stop (wpAny_pure (h h' a)))
theorem stop_now {α : Type} {s : Shared} {Q : α → Shared → Prop} (hh : A.handled = none) (h : ∀ h' e, (∀ c o, s.heap.get? c = some o → h'.get? c = some o) → (∃ o, h'.get? e = some o ∧ o.cls = .type "StopIteration") → E (.ref e) { s with heap := h' }) :
    wpAny (model P w) A (Builtin.SmallTypes.stopIteration : Sem α) Q E s := by
  unfold Builtin.SmallTypes.stopIteration newExc newTuple raiseNew
  refine wpAny_bind (wpAny_bind (wpAny_newObj_type (wpAny_bind (m := firstArgMember _ _) (wpAny_of_eq (a := Value.none) rfl (wpAny_newObj_type ?_ (by size_fits)))) (by size_fits)))
  refine wpAny_bind (wpAny_handled ?_); rw [hh]
  exact wpAny_bind (wpAny_pure (wpAny_throw (h _ _ (fun c o g => Heap.get?_push_of_some _ (Heap.get?_push_of_some _ g)) ⟨_, Heap.get?_push_size _ rfl, rfl⟩)))
variable {s : Shared} {z u v i1 i2 : Addr} {fp1 fp2 : List Addr} {n i : Nat} {Y1 Y2 : Nat → Value → Prop} {St1 St2 : Nat → Heap → Prop} {a1 a2 : Value}
end
end MR
namespace MR
open PySem
end MR
namespace MR
open PySem PySem.Spec PyProof.Rows L2
theorem zs_go {P : Program} {w : World} {A : Around} {E : Value → Shared → Prop} {s : Shared} {elts : List Expr} {k : Nat} {pos : Pos} {z u v T : Addr} {Q : Unit → Shared → Prop} (hz : ZipS s.heap z u v (rawInt T))
    (h : ∀ h', ZipS h' z u v .none → Heap.SameBut z s.heap h' → Q () { s with heap := h' }) : wpAny (model P w) A (letOwnedTupleGo (.Tuple elts k pos) (.ref z) (.ref T)) Q E s := by
  unfold letOwnedTupleGo; refine wpAny_bind (wpAny_load hz ?_)
  show wpAny _ _ (if (["enumerate", "zip", "dict_itemiterator", "dict_reverseitemiterator", "odict_iterator", "itertools.zip_longest", "itertools.pairwise"].contains "zip" && (#[rawInt T, .bool false, .bool true, .ref u, .ref v] : Array Value)[0]? == some (rawInt T)) = true then _ else _) Q E s
  rw [if_pos (by simp)]; refine wpAny_bind (wpAny_rule ?_)
  exact wpAny_setField_rec hz (by simp) fun h' a b => h h' a b
theorem zs_iter {P : Program} {w : World} {A : Around} {E : Value → Shared → Prop} {s : Shared} {z u v : Addr} {f : Value} {Q : Value → Shared → Prop} (hz : ZipS s.heap z u v f) (h : Q (.ref z) s) : wpAny (model P w) A (pyIter (.ref z)) Q E s := by
  have T : s.TypeIs (.ref z) "zip" := ⟨_, hz, rfl⟩
  refine wpAny_pyIter_slot T F.slot_zip_iter (wpAny_call_entry F.slot_zip_iter T F.entry_zip_iter ?_ (F.args_zip_iter_1 _)); show wpAny _ _ (ret (.ref z)) _ _ s
  exact wpAny_pure ⟨_, rfl, "zip", _, T, F.slot_zip_next.lookup, h⟩
section
variable {wd : Wd} {X : Cx} {W : WX} {e e2 : Expr} {p pos tpos p1 kp : Pos} {j : Nat} {elts : List Expr} {kk : Nat}
def iZipSG (g h : AE wd) : AA wd := fun ρ ω Q E => g ρ ω (fun d ω1 => h ρ ω1 (fun f ω2 => match d, f with
  | .tup xs, .tup ys => xs.length = ys.length ∧ Q (zipD xs ys) ω2
  | .tup xs, .lst ys => xs.length = ys.length ∧ Q (zipD xs ys) ω2
  | _, _ => False) E) E
end
end MR
namespace MR
open PySem PySem.Spec PyProof.Rows L2
def fMulI : FD2
  | .int i, .int j, Q => CMulW i j ∧ Q (.int (i * j))
  | _, _, _ => False
end MR
namespace MR
open PySem
def zf (f : Value) : Prop := f = .none ∨ ∃ T : Nat, f = rawInt T
end MR
namespace MR
open PySem PySem.Spec PyProof.Rows L2
section
variable {wd : Wd} {X : Cx} {W : WX} {e e2 : Expr} {p pos tpos p1 kp pe pos2 : Pos} {j : Nat} {elts : List Expr} {kk : Nat}
def iEzG (g h : AE wd) : AA wd := fun ρ ω Q E => g ρ ω (fun d ω1 => h ρ ω1 (fun f ω2 => match d, f with
  | .tup xs, .tup ys => xs.length = ys.length ∧ Q (enumK 0 (zipD xs ys)) ω2
  | _, _ => False) E) E
end
end MR
namespace MR
open PySem PySem.Spec PyProof.Rows L2
section
variable {X : Cx} {pins : List (Addr × Obj)}
theorem repAll_ints {K : PySem.W.Frag} {B : Hp} : ∀ (ns : List Int), RepAll K B (ns.map V.int) (ns.map D.int)
  | [] => .nil
  | i :: r => .cons (.int i) (repAll_ints r)
theorem repAll_ints_of {K : PySem.W.Frag} {B : Hp} : ∀ {vs : List V} (ns : List Int), RepAll K B vs (ns.map D.int) → vs = ns.map V.int
  | _, [], r => by
    cases r
    rfl
  | _, i :: ns, r => by
    cases r with
    | cons h1 h2 =>
      cases h1
      rw [repAll_ints_of ns h2]
      rfl
end
section
variable {wd : Wd} {X : Cx} {W : WX} {pos p1 p2 pos2 : Pos} {e : Expr} {g : AE wd}
/-- sorted(t) of ints -/
def gSrt {wd : Wd} (g : AE wd) : AA wd := fun ρ ω Q E => g ρ ω (fun d ω1 => match d with
  | .tup xs => ∃ ns : List Int, xs = ns.map D.int ∧ ∀ us : List Int, us.Perm ns → us.Pairwise (· ≤ ·) → Q (us.map D.int) ω1
  | .lst xs => ∃ ns : List Int, xs = ns.map D.int ∧ ∀ us : List Int, us.Perm ns → us.Pairwise (· ≤ ·) → Q (us.map D.int) ω1
  | _ => False) E
end
section
variable {P : Program} {w : World} {A : Around} {a : Addr} {s : Shared} {E : Value → Shared → Prop}
theorem sorted_setB {S : Int → Bool} {n : Nat} {Q : Value → Shared → Prop} (R : SetR w s.heap a S n) (hh : A.handled = none) (h64 : n ≤ 1000)
    (hQ : ∀ s' p (out : Array Value) (c : Nat) (ns : List Int), (∀ b o, s.heap.get? b = some o → s'.heap.get? b = some o) → s'.gens = s.gens → s'.os = s.os → s.heap.objs.size ≤ p →
      s'.heap.get? p = some (seqObj "list" out c) → IntsAre out.toList ns → ns.Pairwise (· < ·) → (∀ k, k ∈ ns ↔ S k = true) → ns.length = n → Q (.ref p) s') :
    wpAny (model P w) A (call (.builtin "sorted") [.ref a]) Q E s := by
  obtain ⟨o, es, ep, t, ho, hex, hd, g, nd, hm, hb, hf, hn, hr, hl⟩ := R
  refine Calls.call_function_entry kind_sorted plain_sorted entry_sorted (args_sorted1 _) ?_
  unfold Builtin.«sorted»
  refine wpAny_bind (m := checkCount "sorted" 1 1 _) (wpAny_pure ?_)
  refine wpAny_bind (collect_set (A := A.in1) hh ⟨o, ho, hex.1, hd⟩ hf hb hr hl fun s1 vs k1 hz g1 o1 pm => ?_)
  have hvl : vs.length = n := by rw [pm.length_eq, List.length_map, Array.length_toList]; exact hn
  have hI : IntsAre vs (vs.map Builtin.Re.reRawOf) := ints_of vs fun v hv => by
    obtain ⟨e, he, q⟩ := List.mem_map.mp (pm.mem_iff.mp hv)
    obtain ⟨k, tk, h1, _⟩ := g e he
    exact ⟨k, tk, by rw [← q]; exact h1⟩
  have pk : (vs.map Builtin.Re.reRawOf).Perm (es.toList.map keyOf) := by
    have q := pm.map Builtin.Re.reRawOf
    rw [List.map_map] at q
    exact q
  refine wpAny_bind (wpAny_newList ?_ (by rw [hvl, sizeLine_eq]; omega))
  have hoL : (s1.heap.push (seqObj "list" vs.toArray 0)).get? s1.heap.objs.size = some (seqObj "list" vs.toArray 0) := Heap.get?_push_size _ rfl
  refine wpAny_bind (wpAny_holding (wpAny_call_entry slot_list_sort ⟨_, hoL, rfl⟩ entry_list_sort (SrtO.list_sort_ord SrtO.swo_int hoL (by rw [hvl, sizeLine_eq]; omega) (fun h2 => SrtO.ints_sortable hI h2) fun out h1 h2 => ⟨_, rfl, ?_⟩) (args_list_sort _)))
  obtain ⟨a1, a2, a3⟩ := SrtO.ints_out hI h1 h2
  obtain ⟨c, hc⟩ := sortedHeap_at (vs := vs) (out := out.toArray) hoL
  have pn : (out.map SrtO.iv).Perm (es.toList.map keyOf) := a2.trans pk
  refine wpAny_pure ⟨_, rfl, hQ _ s1.heap.objs.size out.toArray c (out.map SrtO.iv) (fun b u e => ?_) g1 o1 hz hc (by simpa using a1) (lt_of_le_nodup _ a3 (pn.nodup_iff.mpr nd)) (fun k => by rw [pn.mem_iff, ← hm k]) ?_⟩
  · have q := k1 b u e
    have hlt := Heap.lt_size q
    show (sortedHeap (s1.heap.push (seqObj "list" vs.toArray 0)) s1.heap.objs.size vs out.toArray).get? b = some u
    rw [sortedHeap_old (Nat.ne_of_lt hlt) (by rw [size_push']; exact Nat.lt_succ_of_lt hlt)]
    exact Heap.get?_push_of_some _ q
  · rw [pn.length_eq, List.length_map, Array.length_toList]; exact hn
end
section
variable {wd : Wd} {X : Cx} {W : WX} {pos p1 p2 pos2 : Pos} {e : Expr} {g : AE wd}
/-- sorted(found), of any size -/
def rSortedSetB (w : World) : List V → Hp → VK → Prop := fun vs H Q => ∃ (a : Addr) (S : Int → Bool) (n : Nat), vs = [V.ref a] ∧ H a = some (SetO w a S n) ∧ n ≤ 1000 ∧
  ∀ (ns : List Int) (p : Addr), ns.Pairwise (· < ·) → (∀ k : Int, k ∈ ns ↔ S k = true) → ns.length = n → H p = none → Q (.ref p) (upd H p (.lst (ns.map V.int)))
theorem cr_sortedSetB (hc : X.calm = true) : CallR X (.builtin "sorted") (rSortedSetB X.w) := by
  intro pins s σ H vs us Q I r h
  obtain ⟨a, S, n, rfl, ha, h64, q⟩ := h
  have R := setO_get I ha
  rw [Vals.ref1 r]
  refine sorted_setB R (I.ok.hd hc) h64 fun s' p out c ns k g o hp hg hi hs hm hl => ?_
  have hlen : (ns.map V.int).length ≤ sizeLine := by rw [List.length_map, hl, sizeLine_eq]; omega
  have hn : H p = none := I.hok.fresh hp
  have J : Inv X pins σ (upd H p (.lst (ns.map V.int))) { s with heap := s'.heap, gens := s'.gens, drawn := s'.drawn, toks := s'.toks } :=
    I.call (ch := []) (Un.laid k hp hn) (I.hok.laid k hp ⟨hlen, out.toList, c, vals_of_ints hi, hg⟩) (by rw [g]; exact I.bare) (fun _ z => nomatch z)
  have e : s' = { s with heap := s'.heap, gens := s'.gens, drawn := s'.drawn, toks := s'.toks } := by
    cases s'
    cases s
    cases o
    rfl
  rw [e]
  exact ⟨.ref p, _, J, rfl, q ns p hs hm hl hn⟩
/-- sorted(set(t)) of at most 1000 ints -/
def gSrtS {wd : Wd} (g : AE wd) : AA wd := fun ρ ω Q E => g ρ ω (fun d ω1 => match d with
  | .tup xs => ∃ ns : List Int, xs = ns.map D.int ∧ ns.length ≤ 1000 ∧ ∀ us : List Int, us.Pairwise (· < ·) → (∀ k, k ∈ us ↔ k ∈ ns) → Q (us.map D.int) ω1
  | _ => False) E
/-- x, y = [], e : the first own -/
def sParF (i j : Nat) (g : AA wd) (h : AE wd) : AS wd := fun Da ρ ω => g ρ ω (fun l ω1 => h ρ ω1 (fun d ω2 => Da.nx ((ρ.set i (some (.own l))).set j (some (.d d))) ω2) (fun x ω' => Da.ex x ρ ω')) (fun x ω' => Da.ex x ρ ω')
/-- x = own.pop(e) -/
def sPopA (i j : Nat) (ge : AE wd) : AS wd := fun Da ρ ω => match ρ[i]? with
  | some (some (.own l)) => ge ρ ω (fun d ω1 => match d with
    | .int z => 0 ≤ z ∧ l.length ≤ 1000000 ∧ ∃ y, l[z.toNat]? = some y ∧ Da.nx ((ρ.set i (some (.own (l.eraseIdx z.toNat)))).set j (some (.d y))) ω1
    | _ => False) (fun x ω' => Da.ex x ρ ω')
  | _ => False
end
end MR
namespace MR
open PySem PySem.Spec PyProof.Rows L2
end MR
namespace MR
open PySem PySem.Spec PyProof.Rows L2
end MR
namespace MR
open PySem PySem.Spec PyProof.Rows L2
def ab (x : Int) : Int := (x.natAbs : Int)
theorem ab_nn (x : Int) : 0 ≤ ab x := Int.natCast_nonneg _
theorem ab_of {x : Int} (h : 0 ≤ x) : ab x = x := Int.natAbs_of_nonneg h
theorem ab_neg {x : Int} (h : x ≤ 0) : ab x = -x := by unfold ab; omega
def sgP (c : Prop) [Decidable c] : Int := if c then -1 else 1
theorem mul_thirds {x0 x1 x2 y0 y1 y2 F : Int} : x0 * y0 + F * (x0 * y1 + x1 * y0 + F * (x0 * y2 + x1 * y1 + x2 * y0 + F * (x1 * y2 + x2 * y1 + F * (x2 * y2)))) = (x0 + F * (x1 + F * x2)) * (y0 + F * (y1 + F * y2)) := by grind
theorem ab_sgn (u v : Int) : ab u * ab v * sgP ((u < 0) ≠ (v < 0)) = u * v := by
  unfold sgP
  by_cases h1 : u < 0 <;> by_cases h2 : v < 0
  · rw [ab_neg (by omega), ab_neg (by omega), if_neg (by simp [h1, h2])]
    grind
  · rw [ab_neg (by omega), ab_of (by omega), if_pos (by simp [h1, h2])]
    grind
  · rw [ab_of (by omega), ab_neg (by omega), if_pos (by simp [h1, h2])]
    grind
  · rw [ab_of (by omega), ab_of (by omega), if_neg (by simp [h1, h2])]
    grind
end MR
namespace MR
open PySem PySem.Spec PyProof.Rows L2
theorem pow_mono {a c : Int} (h0 : 0 ≤ a) (h : a ≤ c) : ∀ n : Nat, a ^ n ≤ c ^ n
  | 0 => by rw [Int.pow_zero, Int.pow_zero]; exact Int.le_refl 1
  | n + 1 => by
    rw [Int.pow_succ, Int.pow_succ]
    exact Int.mul_le_mul (pow_mono h0 h n) h h0 (Int.pow_nonneg (by omega))
/-- a number of so many limbs -/
structure nb (b x : Int) (l : Nat) : Prop where
  nn : 0 ≤ x
  lt : x < b ^ l
theorem nb.ok {b x : Int} {l : Nat} (h : nb b x l) (hb : base_ b) : isRow b (digs b x) ∧ wor b (digs b x) = x ∧ (digs b x).length ≤ l := digs_ok hb.1 h.nn h.lt
theorem nb.is {b x : Int} {l : Nat} (h : nb b x l) (hb : base_ b) : isRow b (digs b x) := (h.ok hb).1
theorem nb.w {b x : Int} {l : Nat} (h : nb b x l) (hb : base_ b) : wor b (digs b x) = x := (h.ok hb).2.1
theorem nb.len {b x : Int} {l : Nat} (h : nb b x l) (hb : base_ b) : (digs b x).length ≤ l := (h.ok hb).2.2
theorem nb.of {b : Int} {xs : List Int} (hb : base_ b) (h : isRow b xs) {l : Nat} (hl : xs.length ≤ l) : nb b (wor b xs) l :=
  ⟨wor_nn (by have := hb.1; omega) h.lim, Int.lt_of_lt_of_le (wor_lt (by have := hb.1; omega) h.lim) (ipow_le (by have := hb.1; omega) hl)⟩
theorem nb.le {b x : Int} {l m : Nat} (h : nb b x l) (hb : base_ b) (hl : l ≤ m) : nb b x m := ⟨h.nn, Int.lt_of_lt_of_le h.lt (ipow_le (by have := hb.1; omega) hl)⟩
theorem nb.less {b x y : Int} {l : Nat} (h : nb b x l) (h0 : 0 ≤ y) (hy : y ≤ x) : nb b y l := ⟨h0, Int.lt_of_le_of_lt hy h.lt⟩
theorem bpow {b : Int} (hb : base_ b) (k : Nat) : 0 < b ^ k := Int.pow_pos (by have := hb.1; omega)
theorem emod_self_le {x F : Int} (h : 0 ≤ x) (hF : 0 < F) : x % F ≤ x := by
  have h1 := Int.emod_add_mul_ediv x F
  have h2 : 0 ≤ F * (x / F) := Int.mul_nonneg (by omega) (Int.ediv_nonneg h (by omega))
  omega
theorem nb.mod {b x : Int} {l : Nat} (h : nb b x l) (hb : base_ b) (k : Nat) : nb b (x % b ^ k) l :=
  h.less (Int.emod_nonneg _ (by have := bpow hb k; omega)) (emod_self_le h.nn (bpow hb k))
theorem nb.modk {b x : Int} (hb : base_ b) (k : Nat) : nb b (x % b ^ k) k := ⟨Int.emod_nonneg _ (by have := bpow hb k; omega), Int.emod_lt_of_pos _ (bpow hb k)⟩
theorem nb.div {b x : Int} {l : Nat} (h : nb b x l) (hb : base_ b) (k : Nat) : nb b (x / b ^ k) l :=
  h.less (Int.ediv_nonneg h.nn (Int.le_of_lt (bpow hb k))) (Int.ediv_le_self _ h.nn)
theorem nb.sub {b x y : Int} {l : Nat} (h : nb b x l) (h2 : nb b y l) : nb b (ab (x - y)) l := by
  obtain ⟨a1, a2⟩ := h
  obtain ⟨b1, b2⟩ := h2
  unfold ab
  exact ⟨by omega, by omega⟩
theorem two_pow {b : Int} (hb : base_ b) (l : Nat) : b ^ l * 2 ≤ b ^ (l + 1) := by
  rw [Int.pow_succ]
  exact Int.mul_le_mul_of_nonneg_left hb.1 (Int.le_of_lt (bpow hb l))
theorem nb.add {b x y : Int} {l : Nat} (h : nb b x l) (h2 : nb b y l) (hb : base_ b) : nb b (x + y) (l + 1) := by
  obtain ⟨a1, a2⟩ := h
  obtain ⟨b1, b2⟩ := h2
  have := two_pow hb l
  exact ⟨by omega, by omega⟩
theorem nb.mul {b x y : Int} {l m : Nat} (h : nb b x l) (h2 : nb b y m) (hb : base_ b) : nb b (x * y) (l + m) := by
  refine ⟨Int.mul_nonneg h.nn h2.nn, ?_⟩
  rw [Int.pow_add]
  exact Int.lt_of_le_of_lt (Int.mul_le_mul_of_nonneg_left (Int.le_of_lt h2.lt) h.nn) (Int.mul_lt_mul_of_pos_right h.lt (bpow hb m))
theorem digs_zero {b : Int} (hb : base_ b) : digs b 0 = [] := by
  have h := digs_wor hb.1 (ns := []) (show isRow b [] from ⟨fun n (hn : n ∈ ([] : List Int)) => (nomatch hn), fun e => nomatch e⟩)
  exact h
theorem nb.low {b x : Int} {l : Nat} (h : nb b x l) (hb : base_ b) (k : Nat) : strip ((digs b x).take k) = digs b (x % b ^ k) := by
  rw [← digs_strip hb.1 ((h.is hb).lim.take k), (wor_cut hb.1 (h.is hb).lim k).1, h.w hb]
theorem nb.high {b x : Int} {l : Nat} (h : nb b x l) (hb : base_ b) (k : Nat) : (digs b x).drop k = digs b (x / b ^ k) := by
  rw [← digs_wor hb.1 ((h.is hb).drop k), (wor_cut hb.1 (h.is hb).lim k).2, h.w hb]
theorem nb.shift {b x : Int} {l : Nat} (h : nb b x l) (hb : base_ b) (k : Nat) : shift_ (digs b x) k = digs b (b ^ k * x) := by
  have hr := h.is hb
  have hw : wor b (shift_ (digs b x) k) = b ^ k * x := by rw [wor_shift, h.w hb]
  rw [← hw]
  refine (digs_wor hb.1 ⟨fun n hn => ?_, ?_⟩).symm
  · unfold shift_ at hn
    split at hn
    · cases hn
    · rcases List.mem_append.mp hn with m | m
      · rw [(List.mem_replicate.mp m).2]
        have := hb.1
        omega
      · exact hr.lim n m
  · unfold shift_
    split
    · simp
    · rename_i c
      rw [List.getLast?_append]
      have := hr.top
      cases e : (digs b x).getLast? with
      | none => exact absurd (List.getLast?_eq_none_iff.mp e) c
      | some z =>
        rw [e] at this
        exact this
end MR
namespace MR
open PySem
section
variable {P : Program} {w : World} {A : Around} {E : Value → Shared → Prop}
variable {s : Shared} {z u v i1 i2 : Addr} {fp1 fp2 : List Addr} {n i : Nat} {Y1 Y2 : Nat → Value → Prop} {St1 St2 : Nat → Heap → Prop} {a1 a2 f : Value} {b : Bool}
/-- strict or not -/
abbrev ZipB (h : Heap) (z u v : Addr) (f : Value) (b st : Bool) : Prop := h.get? z = some { cls := .type "zip", dict := none, data := .fields #[f, .bool b, .bool st, .ref u, .ref v], slots := #[] }
variable {st : Bool}
end
end MR
namespace MR
open PySem PySem.Spec L2
/-- a tuple or a list -/
def SqE (t : Bool) (K : PySem.W.Frag) (H : Hp) (p : Addr) (us : List V) : Prop := match t with
  | true => SqT K H p us
  | false => SqL K H p us
def ItE (t : Bool) (h : Heap) (i p : Addr) (k : Nat) : Prop := match t with
  | true => h.IsTupleIter i p k
  | false => h.IsListIter i p k
def HvE (t : Bool) (h : Heap) (p : Addr) (a : Array Value) : Prop := match t with
  | true => h.IsTuple p a
  | false => h.IsList p a
theorem ItE.at {t : Bool} {h h' : Heap} {i p : Addr} {k : Nat} (x : ItE t h i p k) (g : ∀ o, h.get? i = some o → h'.get? i = some o) : ItE t h' i p k := by
  cases t with
  | true => exact Heap.IsTupleIter.at x g
  | false => exact Heap.IsListIter.at x g
theorem ItE.obj {t : Bool} {h : Heap} {i p : Addr} {k : Nat} (x : ItE t h i p k) : i < h.objs.size := by
  cases t with
  | true => obtain ⟨o, g, _⟩ := (show h.IsTupleIter i p k from x); exact Heap.lt_size g
  | false => obtain ⟨o, g, _⟩ := (show h.IsListIter i p k from x); exact Heap.lt_size g
theorem SqE.get {X : Cx} {pins : List (Addr × Obj)} {σ : L2.St} {H : Hp} {s : Shared} {t : Bool} {p : Addr} {us : List V} (I : Inv X pins σ H s) (g : SqE t X.K H p us) : ∃ as : List Value, Vals us as ∧ HvE t s.heap p as.toArray ∧ us.length ≤ sizeLine ∧ p < s.heap.objs.size := by
  cases t with
  | true =>
    obtain ⟨as, r, q, z⟩ := I.tuple g
    have q : s.heap.IsTuple p as.toArray := q
    exact ⟨as, r, q, z, Heap.lt_size q.choose_spec.1⟩
  | false =>
    obtain ⟨as, r, q, z⟩ := I.list g
    have q : s.heap.IsList p as.toArray := q.isList
    exact ⟨as, r, q, z, Heap.lt_size q.choose_spec.1⟩
theorem SqE.up {K : PySem.W.Frag} {H : Hp} {t : Bool} {p q : Addr} {us : List V} {ob : HO} (hq : H q = none) (g : SqE t K H p us) : SqE t K (upd H q ob) p us := by
  have m : Same H (upd H q ob) := fun a u e => by
    have n : a ≠ q := fun z => by rw [z, hq] at e; cases e
    rw [upd_ne n]
    exact e
  cases t with
  | true => exact Same.seqT m g
  | false =>
    rcases (show SqL K H p us from g) with g | g
    · rcases g with g | ⟨o, g⟩
      · exact .inl (.inl (m _ _ g))
      · exact .inl (.inr ⟨o, m _ _ g⟩)
    · exact .inr g
section
variable {X : Cx} {pins : List (Addr × Obj)} {σ : L2.St} {z u v i j p q S : Addr} {st t1 t2 : Bool} {us vs : List V} {A1 : Around} {Rs : Result → Shared → Prop} {Pk : Nat → List V → Hp → Prop}
structure TnE (z u v i j p q : Addr) (st t1 t2 : Bool) (k : Nat) (h : Heap) : Prop where
  hz : ∃ f b, zf f ∧ ZipB h z u v f b st
  hu : IsTupOf2 h u (.ref i) (.ref j)
  hv : ∃ x y, IsTupOf2 h v x y
  hi : ItE t1 h i p k
  hj : ItE t2 h j q k
end
end MR
namespace MR
open PySem PySem.Spec L2
section
variable {X : Cx} {pins : List (Addr × Obj)} {σ : L2.St} {H : Hp} {s : Shared} {z u v i j p q : Addr} {st t1 t2 : Bool} {us vs : List V} {Pk : Nat → List V → Hp → Prop} {Q : VK}
theorem TnE.keep {k : Nat} {h h' : Heap} (T : TnE z u v i j p q st t1 t2 k h) (g : ∀ c ∈ [z, u, v, i, j], ∀ o, h.get? c = some o → h'.get? c = some o) : TnE z u v i j p q st t1 t2 k h' := by
  obtain ⟨⟨f, b, zff, hz⟩, hu, ⟨x0, y0, hv⟩, hi, hj⟩ := T
  exact ⟨⟨f, b, zff, g z (by simp) _ hz⟩, g u (by simp) _ hu, ⟨x0, y0, g v (by simp) _ hv⟩, hi.at (g i (by simp)), hj.at (g j (by simp))⟩
end
end MR
namespace MR
open PySem PySem.Spec PyProof.Rows L2
/-- the pairs of two things of one length -/
def gLz {wd : Wd} (g h : AE wd) : AA wd := fun ρ ω Q E => g ρ ω (fun d ω1 => h ρ ω1 (fun f ω2 => match d, f with
  | .tup xs, .tup ys => xs.length = ys.length ∧ Q (zipD xs ys) ω2
  | .lst xs, .lst ys => xs.length = ys.length ∧ Q (zipD xs ys) ω2
  | .lst xs, .tup ys => xs.length = ys.length ∧ Q (zipD xs ys) ω2
  | .tup xs, .lst ys => xs.length = ys.length ∧ Q (zipD xs ys) ω2
  | _, _ => False) E) E
end MR
namespace MR
open PySem PySem.Spec PyProof.Rows L2
def fives (F n : Int) : List Int := [n % F, n % F + n / F % F + n / F / F, ab (n % F - n / F % F + n / F / F), n % F + 2 * (n / F % F) + 4 * (n / F / F), n / F / F]
end MR
namespace MR
open PySem PySem.Spec PyProof.Rows L2
theorem Th.pos {M : Int} {k n : Nat} {d : D} (h : Th M k n d) : 1 ≤ k := by
  have := h.dp
  have e : 1 ≤ dep d := by cases d <;> simp [dep]
  omega
/-- papers of casts have few moduli -/
def c64h : List D → Bool
  | _ => true
mutual
def c64 : D → Bool
  | .tup xs => decide (xs.length ≤ 16000) && (c64h xs && c64s xs)
  | .lst xs => c64s xs
  | _ => true
def c64s : List D → Bool
  | [] => true
  | x :: xs => c64 x && c64s xs
end
end MR
namespace MR
open PySem PySem.Spec PyProof.Rows L2
theorem Eo.non {k : Nat} (hk : 1 ≤ k) : Eo k .non := ⟨by rw [pureD], by rw [toP, PyData.canLay0], by rw [toP, PyData.depth]; omega⟩
end MR
namespace MR
open PySem PySem.Spec PyProof.Rows L2
end MR
namespace MR
open PySem PySem.Spec PyProof.Rows L2
end MR
namespace MR
open PySem PySem.Spec PyProof.Rows L2
def fDivmodW : FC
  | [.int i, .int j], Q => CDivW i j ∧ Q (.tup [.int (i / j), .int (i % j)])
  | _, _ => False
end MR
namespace MR
open PySem PySem.Spec PyProof.Rows L2
mutual
/-- every tuple has at most so many items -/
def tl (n : Nat) : D → Bool
  | .tup xs => decide (xs.length ≤ n) && tls n xs
  | .lst xs => tls n xs
  | .dct _ xs => tls n xs
  | _ => true
def tls (n : Nat) : List D → Bool
  | [] => true
  | x :: xs => tl n x && tls n xs
end
theorem c64s_all : ∀ {xs : List D}, (∀ d ∈ xs, c64 d = true) → c64s xs = true
  | [], _ => by rw [c64s]
  | x :: xs, h => by rw [c64s, h x (by simp), c64s_all fun d hd => h d (by simp [hd])]; rfl
theorem c64_of {xs : List D} (hl : xs.length ≤ 16000) (hh : c64h xs = true) (h : ∀ d ∈ xs, c64 d = true) : c64 (.tup xs) = true := by
  rw [c64, decide_eq_true hl, hh, c64s_all h]
  rfl
end MR
namespace MR
open PySem PySem.Spec PyProof.Rows L2
end MR
namespace MR
open PySem PySem.Spec PyProof.Rows L2
end MR
namespace MR
open PySem PySem.Spec PyProof.Rows L2
end MR
namespace MR
open PySem PySem.Spec PyProof.Rows L2
section
variable {wd : Wd} {X : Cx} {W : WX} {e e2 : Expr} {p pos tpos : Pos} {elts : List Expr} {kk : Nat}
def iZipQG (g h : AE wd) : AA wd := fun ρ ω Q E => g ρ ω (fun d ω1 => h ρ ω1 (fun f ω2 => match d, f with
  | .lst xs, .tup ys => Q (zipD xs ys) ω2
  | _, _ => False) E) E
end
end MR
namespace MR
open PySem PySem.Spec PyProof.Rows L2
end MR
namespace MR
open PySem PySem.Spec PyProof.Rows L2
/-- a part of a paper -/
def bitD (d : D) : Prop := okB (10 ^ 50) d = true ∧ dep d ≤ 10 ∧ c64 d = true ∧ ∃ ys, d = .tup ys
theorem c64h_tup {ps : List D} (_ : ∀ d ∈ ps, ∃ ys, d = .tup ys) : c64h ps = true := rfl
/-- parts of a paper, put together -/
theorem bitD.tup {xs : List D} (h : ∀ d ∈ xs, bitD d) (l : xs.length ≤ 100) : okB (10 ^ 50) (.tup xs) = true ∧ dep (.tup xs) ≤ 11 ∧ c64 (.tup xs) = true := by
  have t := Th.tup (M := 10 ^ 50) (k := 10) (n := sizs xs + 4) (ds := xs) (fun d hd => ⟨(h d hd).1, (h d hd).2.1⟩) (Nat.le_refl _)
  exact ⟨t.ok, t.dp, c64_of (by omega) (c64h_tup fun d hd => (h d hd).2.2.2) fun d hd => (h d hd).2.2.1⟩
end MR
namespace MR
open PySem PySem.Spec PyProof.Rows L2
end MR
namespace MR
open PySem PySem.Spec PyProof.Rows L2 LamX
abbrev TL := List (Addr × Str)
/-- the table at P: each code object that it tells is of the ground and bears the name q -/
def TabG (B H : Hp) (P : Addr) (q : Str) : Prop := ∃ ps : Array Value, H P = some (.tbl ps) ∧ TriplesOk ps.toList ∧ ∀ (pos : Pos) (cv : Value), codeAmong pos ps.toList = some cv → ∃ c, cv = .ref c ∧ B c = some (CodeO c q)
theorem TabG.mono {B B' H H' : Hp} {P : Addr} {q : Str} (t : TabG B H P q) (m : Same B B') (e : H' P = H P) : TabG B' H' P q := by
  obtain ⟨ps, h1, h2, h3⟩ := t
  refine ⟨ps, by rw [e]; exact h1, h2, fun pos cv hc => ?_⟩
  obtain ⟨c, e1, e2⟩ := h3 pos cv hc
  exact ⟨c, e1, m _ _ e2⟩
theorem TabG.some_ {B H : Hp} {P : Addr} {q : Str} (t : TabG B H P q) : H P ≠ none := by
  obtain ⟨ps, h1, _⟩ := t
  rw [h1]
  intro z
  cases z
def TWd (T : TL) : Wd where
  W := DW
  foot := fun ω a => DWd.foot ω a ∨ ∃ q, (a, q) ∈ T
  holds := fun K ω B H => DWd.holds K ω B H ∧ ∀ p ∈ T, ¬ DWd.foot ω p.1 ∧ B p.1 = none ∧ TabG B H p.1 p.2
  some_ := fun {K ω B H a} h z => by
    rcases z with z | ⟨q, e⟩
    · exact DWd.some_ h.1 z
    · exact (h.2 _ e).2.2.some_
  free_ := fun {K ω B H a} h z => by
    rcases z with z | ⟨q, e⟩
    · exact DWd.free_ h.1 z
    · exact (h.2 _ e).2.1
  mono := fun {K ω B H B' H'} h m hH hB => ⟨DWd.mono h.1 m (fun a z => hH a (.inl z)) (fun a z => hB a (.inl z)), fun p hp => ⟨(h.2 p hp).1, hB _ (.inr ⟨p.2, hp⟩), (h.2 p hp).2.2.mono m (hH _ (.inr ⟨p.2, hp⟩))⟩⟩
/-- what a def that knows no tables must leave as it is -/
noncomputable def Ft (T : TL) (F H : Hp) : Hp := fun a => @ite _ (∃ q, (a, q) ∈ T) (Classical.propDecidable _) (H a) (F a)
theorem ft_in {T : TL} {F H : Hp} {a : Addr} (h : ∃ q, (a, q) ∈ T) : Ft T F H a = H a := by
  unfold Ft
  rw [if_pos h]
theorem ft_out {T : TL} {F H : Hp} {a : Addr} (h : ¬ ∃ q, (a, q) ∈ T) : Ft T F H a = F a := by
  unfold Ft
  rw [if_neg h]
section
variable {K : PySem.W.Frag} {F B H : Hp} {T : TL} {ω : DW}
theorem Hst.toT (h : Hst (TWd T) K F B ω H) : Hst DWd K (Ft T F H) B ω H := by
  refine ⟨h.sB, fun a o e => ?_, fun a o e => ?_, fun a z => ?_, h.wat.1⟩
  · by_cases c : ∃ q, (a, q) ∈ T
    · rw [ft_in c] at e
      exact e
    · rw [ft_out c] at e
      exact h.sF a o e
  · by_cases c : ∃ q, (a, q) ∈ T
    · obtain ⟨q, c⟩ := c
      exact (h.wat.2 _ c).2.1
    · rw [ft_out c] at e
      exact h.dj a o e
  · by_cases c : ∃ q, (a, q) ∈ T
    · obtain ⟨q, c⟩ := c
      exact absurd z (h.wat.2 _ c).1
    · rw [ft_out c]
      exact h.fw a (.inl z)
theorem Hst.ofT {B' H' : Hp} {ω' : DW} (h : Hst (TWd T) K F B ω H) (m : Same B B') (h' : Hst DWd K (Ft T F H) B' ω' H') : Hst (TWd T) K F B' ω' H' := by
  have out : ∀ a o, F a = some o → ¬ ∃ q, (a, q) ∈ T := fun a o e c => by
    have := h.fw a (.inr c)
    rw [e] at this
    cases this
  refine ⟨h'.sB, fun a o e => h'.sF a o (by rw [ft_out (out a o e)]; exact e), fun a o e => h'.dj a o (by rw [ft_out (out a o e)]; exact e), fun a z => ?_, h'.wat, fun p hp => ?_⟩
  · rcases z with z | z
    · by_cases c : ∃ q, (a, q) ∈ T
      · exact h.fw a (.inr c)
      · have := h'.fw a z
        rwa [ft_out c] at this
    · exact h.fw a (.inr z)
  · have t := (h.wat.2 p hp).2.2
    have e : Ft T F H p.1 = H p.1 := ft_in ⟨p.2, hp⟩
    obtain ⟨ps, e1, e2, e3⟩ := t
    have e4 : H' p.1 = H p.1 := by
      rw [e1]
      exact h'.sF _ _ (by rw [e]; exact e1)
    refine ⟨fun z => ?_, h'.dj p.1 (.tbl ps) (by rw [e]; exact e1), (h.wat.2 p hp).2.2.mono m e4⟩
    have := h'.fw _ z
    rw [e, e1] at this
    cases this
theorem toSp_T {n : Nat} {asp : ASp DWd} {vs : List V} {Q : VK} {E : XK} (h : toSp (TWd T) K n asp vs H Q E) : toSp DWd K n asp vs H Q E := by
  obtain ⟨l, F, B, ω, ds, Qa, Ea, hs, r, a, k, x⟩ := h
  exact ⟨l, Ft T F H, B, ω, ds, Qa, Ea, hs.toT, r, a, fun B' ω' H' v d s h' rr q => k B' ω' H' v d s (hs.ofT s h') rr q, fun B' ω' H' cls dx y s h' rr q => x B' ω' H' cls dx y s (hs.ofT s h') rr q⟩
theorem toSp_B {wd : Wd} {B0 : Hp} {n : Nat} {asp : ASp wd} {vs : List V} {Q : VK} {E : XK} (h : toSp (wdB wd B0) K n asp vs H Q E) : toSp wd K n asp vs H Q E := by
  obtain ⟨l, F, B, ω, ds, Qa, Ea, hs, r, a, k, x⟩ := h
  have hb := hs.outB
  exact ⟨l, F, B, ω, ds, Qa, Ea, hb.1, r, a, fun B' ω' H' v d s h' rr q => k B' ω' H' v d s (h'.inB (hb.2.trans s)) rr q, fun B' ω' H' cls dx y s h' rr q => x B' ω' H' cls dx y s (h'.inB (hb.2.trans s)) rr q⟩
end
section
variable {P : Program} {w : World} {K : PySem.W.Frag} {mg : Str → Option Value} {base : Heap} {k n : Nat} {x : Str} {f : Addr} {fd : FuncData} {ps : List Str}
theorem Known.liftT {asp : ASp DWd} (h : Known P w K mg base k x f fd ps DWd n asp) (T : TL) : Known P w K mg base k x f fd ps (TWd T) n asp := ⟨h.at_, h.keep, h.ok.imp fun _ _ _ _ z => toSp_T z⟩
theorem Known.liftB {wd : Wd} {asp : ASp wd} (h : Known P w K mg base k x f fd ps wd n asp) (B0 : Hp) : Known P w K mg base k x f fd ps (wdB wd B0) n asp := ⟨h.at_, h.keep, h.ok.imp fun _ _ _ _ z => toSp_B z⟩
end
/-- the law is asked where tables stand, empty yet -/
theorem law_spT {K : PySem.W.Frag} {H : Hp} {T : TL} {a : Addr} {ns : List Int} (hl : ns.length ≤ 63) (hT : ∀ p ∈ T, H p.1 = some (.tbl #[])) (hB : ∃ B : Hp, Same B H ∧ (∀ p ∈ T, B p.1 = none) ∧ SqL K B a (ns.map V.int)) : toSp (TWd T) K 1 aLaw [.ref a] H (fun v _ => v = .bl true) E0 := by
  obtain ⟨B, m, nB, hS⟩ := hB
  refine ⟨rfl, fun _ => none, B, { scr := some (a, ns), dk := none }, [.adr a], fun d _ => d = .bl true, fun _ _ => False, ⟨m, (fun _ _ e => nomatch e), (fun _ _ e => nomatch e), fun _ _ => rfl, ⟨⟨fun a' ns' e => ?_, fun _ _ _ _ _ e => nomatch e⟩, fun p hp => ⟨fun z => ?_, nB p hp, #[], hT p hp, True.intro, fun pos cv hc => ?_⟩⟩⟩, .cons (.adr a) .nil, ⟨a, ns, rfl, rfl, hl, rfl, fun _ => rfl⟩, fun B' ω' H' v d _ _ r e => ?_, fun _ _ _ _ _ _ _ _ _ z => z.elim⟩
  · cases e
    exact hS
  · obtain ⟨_, _, _, _, _, e, _⟩ := z
    cases e
  · have z : codeAmong pos [] = some cv := hc
    simp [codeAmong] at z
  · subst e
    cases r
    rfl
end MR
namespace MR
open PySem PySem.Spec PyProof.Rows L2 LamX
/-- untracked objects that stand, no frames -/
def AtS (h : Heap) (H : Hp) (fs : List Addr) (S : List (Addr × Obj)) : Prop := ∀ p ∈ S, h.get? p.1 = some p.2 ∧ H p.1 = none ∧ p.1 ∉ fs
/-- the same, of the ground that is fixed -/
def AtB (base : Heap) (S : List (Addr × Obj)) : Prop := ∀ p ∈ S, base.get? p.1 = some p.2
theorem AtB.up {base base' : Heap} {S : List (Addr × Obj)} (a : AtB base S) (u : ∀ b o, base.get? b = some o → base'.get? b = some o) : AtB base' S := fun p hp => u _ _ (a p hp)
section
variable {P : Program} {w : World} {K : PySem.W.Frag} {mg : Str → Option Value} {base base' : Heap} {A : Around} {outer : List PySem.Env} {s : Shared} {H : Hp}
theorem AtB.at_ {S : List (Addr × Obj)} (a : AtB base S) (e0 : Env0 P w K mg base A outer s H) : AtS s.heap H (frs outer) S := fun p hp => ⟨(e0.bs _ _ (a p hp)).1, (e0.bs _ _ (a p hp)).2, fun hm => by
  have := (e0.funs.mem hm).1
  rw [a p hp] at this
  cases this⟩
/-- the ground that is fixed, smaller -/
theorem env0_less (e0 : Env0 P w K mg base' A outer s H) (m : Mod K mg base) (u : ∀ b o, base.get? b = some o → base'.get? b = some o) (z : base.objs.size ≤ base'.objs.size) : Env0 P w K mg base A outer s H :=
  ⟨e0.frames, m, fun b o e => e0.bs b o (u b o e), Nat.le_trans z e0.bsz, funFrames_none e0.funs (fun L hL => by
    cases q : base.get? L with
    | none => rfl
    | some o =>
      have := (e0.funs.mem hL).1
      rw [u L o q] at this
      cases this), e0.frf, e0.hok, e0.bare⟩
theorem mod_up (m : Mod K mg base) (u : ∀ b o, base.get? b = some o → base'.get? b = some o) : Mod K mg base' :=
  ⟨m.kin.keeps u, m.glob.keeps u, let ⟨mb, h1, h2⟩ := m.blt; ⟨mb, h1.keeps u, h2⟩, m.nolimit.keeps u⟩
/-- a larger ground -/
structure Up (K : PySem.W.Frag) (mg : Str → Option Value) (base base' : Heap) : Prop where
  up : ∀ b o, base.get? b = some o → base'.get? b = some o
  sz : base.objs.size ≤ base'.objs.size
  mod : Mod K mg base
theorem Up.trans {b1 b2 b3 : Heap} (a : Up K mg b1 b2) (b : Up K mg b2 b3) : Up K mg b1 b3 := ⟨fun x o e => b.up x o (a.up x o e), Nat.le_trans a.sz b.sz, a.mod⟩
theorem tabB_up {c T : Addr} (t : TabB base mg c T) (u : Up K mg base base') : TabB base' mg c T := ⟨t.code.keeps u.up, t.bm.keeps u.up, t.gP⟩
/-- at a def's entry: all that is untracked and no frame becomes ground -/
theorem newBase (e0 : Env0 P w K mg base A outer s H) : ∃ base' : Heap, Env0 P w K mg base' A outer s H ∧ Up K mg base base' ∧ ∀ S, AtS s.heap H (frs outer) S → AtB base' S := by
  have g : ∀ b o, s.heap.get? b = some o → H b = none → b ∉ frs outer → (PySem.W.hideAll s.heap (trk s.heap H ++ frs outer)).get? b = some o := fun b o e n nf => PySem.W.hideAll_get _ e fun hm => by
    rcases List.mem_append.mp hm with hm | hm
    · have q : (H b).isSome = true := (List.mem_filter.mp hm).2
      rw [n] at q
      simp at q
    · exact nf hm
  have u : ∀ b o, base.get? b = some o → (PySem.W.hideAll s.heap (trk s.heap H ++ frs outer)).get? b = some o := fun b o e => g b o (e0.bs b o e).1 (e0.bs b o e).2 fun hm => by
    have := (e0.funs.mem hm).1
    rw [e] at this
    cases this
  have z : (PySem.W.hideAll s.heap (trk s.heap H ++ frs outer)).objs.size = s.heap.objs.size := PySem.W.hideAll_size _ _
  refine ⟨_, ⟨e0.frames, mod_up e0.mod u, fun b o e => ?_, Nat.le_of_eq z, funFrames_none e0.funs (fun L hL => PySem.W.hideAll_none _ (List.mem_append_right _ hL)), e0.frf, e0.hok, e0.bare⟩, ⟨u, Nat.le_trans e0.bsz (Nat.le_of_eq z.symm), e0.mod⟩, fun S hS p hp => g _ _ (hS p hp).1 (hS p hp).2.1 (hS p hp).2.2⟩
  have e' : s.heap.get? b = some o := PySem.W.of_hideAll _ e
  refine ⟨e', ?_⟩
  cases q : H b with
  | none => rfl
  | some x =>
    have hm : b ∈ trk s.heap H ++ frs outer := List.mem_append_left _ (List.mem_filter.mpr ⟨List.mem_range.mpr (Heap.lt_size e'), by simp [q]⟩)
    rw [PySem.W.hideAll_none _ hm] at e
    cases e
end
section
variable (P : Program) (w : World) (K : PySem.W.Frag) (mg : Str → Option Value) (base : Heap)
/-- what is known of the closure r: at any heap where these objects stand, and from a ground of which B0 is a part, it keeps its promise -/
structure CloRun (k : Nat) (wd : Wd) (S : List (Addr × Obj)) (B0 : Hp) (r : Addr) (m : Nat) (asp : ASp wd) : Prop where
  fn : ∃ fd : FuncData, (r, ({ cls := .type "function", data := .func fd } : Obj)) ∈ S
  run : ∀ {A : Around} {outer : List PySem.Env} {s : Shared} {H : Hp} {us : List Value} {vs : List V} {Q : VK} {E : XK}, Room k A → A.guards = some [] → Env0 P w K mg base A outer s H → AtS s.heap H (frs outer) S → Vals vs us → toSp (wdB wd B0) K m asp vs H Q E →
    codeAny (model P w) A (.call (.ref r) ⟨us, []⟩) (CR (L2.CX P w) outer P w H s Q E) s
def CloAt (k : Nat) (wd : Wd) (m : Nat) (asp : ASp wd) (r : Addr) (h : Heap) (H B : Hp) (fs : List Addr) : Prop := ∃ (S : List (Addr × Obj)) (B0 : Hp), Same B0 B ∧ AtS h H fs S ∧ CloRun P w K mg base k wd S B0 r m asp
/-- a def that gets a closure: its promise, told of the very state -/
structure FnC (k : Nat) (f : Addr) (fd : FuncData) (ps : List Str) (i : Nat) (wd : Wd) {Θ : Type} (asp : Θ → ASp wd) (kc m : Nat) (aspc : Θ → ASp wd) : Prop where
  run : ∀ {A : Around} {outer : List PySem.Env} {s : Shared} {H : Hp} {args : Args} {us : List Value} {vs : List V} {Q : VK} {E : XK}, Room k A → A.guards = some [] → Env0 P w K mg base A outer s H → BindsTo s fd args (ps.zip us) → Vals vs us → vs.length = ps.length →
    (∃ (F B : Hp) (ω : wd.W) (ds : List D) (Qa : AQ wd) (Ea : AX wd) (r : Addr) (θ : Θ), Hst wd K F B ω H ∧ RepAll K B vs ds ∧ ds[i]? = some (.adr r) ∧ asp θ ds ω Qa Ea ∧ KOk wd K F B Qa Q ∧ XOk wd K F B Ea E ∧ CloAt P w K mg base kc wd m (aspc θ) r s.heap H B (frs outer)) →
    codeAny (model P w) A (.call (.ref f) args) (CR (L2.CX P w) outer P w H s Q E) s
end
section
variable {P : Program} {w : World} {K : PySem.W.Frag} {mg : Str → Option Value} {base : Heap}
theorem CloRun.mono {j k : Nat} {wd : Wd} {S : List (Addr × Obj)} {B0 : Hp} {r : Addr} {m : Nat} {asp : ASp wd} (c : CloRun P w K mg base j wd S B0 r m asp) (h : j ≤ k) : CloRun P w K mg base k wd S B0 r m asp := ⟨c.fn, fun hr => c.run (hr.mono h)⟩
theorem CloRun.up {base' : Heap} {k : Nat} {wd : Wd} {S : List (Addr × Obj)} {B0 : Hp} {r : Addr} {m : Nat} {asp : ASp wd} (c : CloRun P w K mg base k wd S B0 r m asp) (u : Up K mg base base') : CloRun P w K mg base' k wd S B0 r m asp :=
  ⟨c.fn, fun hr hG e0 => c.run hr hG (env0_less e0 u.mod u.up u.sz)⟩
theorem FnC.mono {j k : Nat} {f : Addr} {fd : FuncData} {ps : List Str} {i : Nat} {wd : Wd} {Θ : Type} {asp : Θ → ASp wd} {kc m : Nat} {aspc : Θ → ASp wd} (F : FnC P w K mg base j f fd ps i wd asp kc m aspc) (h : j ≤ k) : FnC P w K mg base k f fd ps i wd asp kc m aspc := ⟨fun hr => F.run (hr.mono h)⟩
/-- a def that gets a closure, by its body: read in the world that knows the closure's ground -/
theorem fn_okC {k kc m i : Nat} {f : Addr} {fd : FuncData} {ps N : List Str} {x qual : Str} {params : Arguments} {body : List Stmt} {scope : Scope} {kws : List (Str × V)} {wd : Wd} {Θ : Type} (asp : Θ → ASp wd) (aspc : Θ → ASp wd)
    (F : FunD K x qual params body scope [] kws f fd) (S : FnScope N ps scope)
    (hb : ∀ (cdv : Value), fd.code = cdv → ∀ (base' : Heap), Up K mg base base' → ∀ (A : Around) (outer : List PySem.Env) (s : Shared) (H : Hp) (E : XK), Room k (cxOf (L2.CX P w) P w K mg base' N qual scope f cdv A outer s H E).A → (cxOf (L2.CX P w) P w K mg base' N qual scope f cdv A outer s H E).A.guards = some [] →
      ∀ (θ : Θ) (r : Addr) (So : List (Addr × Obj)) (B0 : Hp), AtB base' So → CloRun P w K mg base' kc wd So B0 r m (aspc θ) →
      ∃ g, GSs (wdB wd B0) (cxOf (L2.CX P w) P w K mg base' N qual scope f cdv A outer s H E) (fun cls d _ H => E cls d H) body g ∧ ∀ ds ω Qa Ea, asp θ ds ω Qa Ea → ds[i]? = some (.adr r) → ds.length = ps.length → g (aEnd Qa Ea) (startA N ds) ω) :
    FnC P w K mg base (k + 1) f fd ps i wd asp kc m aspc := by
  obtain ⟨oc, od, dV, kV, doc, pm, an, cdv, ct, osl, rfl, lk, hcd, -, -⟩ := F.ex
  refine ⟨@fun A outer s H args us vs Q E hr hG e0 hbi r hlen hsp => ?_⟩
  have kin := e0.mod.kin.keeps fun b o e => (e0.bs b o e).1
  have lim := e0.mod.nolimit.keeps fun b o e => (e0.bs b o e).1
  refine Att.call_fn kin lim lk hcd hr.depth hbi ?_ (fun s1 x => ?_) S.co S.gen S.kind
  · rw [List.all_eq_true]
    rintro ⟨n, v⟩ hy
    rcases S.par n (List.of_mem_zip hy).1 with q | q
    · simp only [q]; rfl
    · simp only [q]; rfl
  · obtain ⟨F', B, ω, ds, Qa, Ea, cr, θ, hs, rr, hcr, ha, hk, hx, So, B0, hB0, hat, hrun⟩ := hsp
    obtain ⟨base', e1, up, toB⟩ := newBase e0
    obtain ⟨g, gs, q⟩ := hb cdv rfl base' up A outer s H E (hr.deeper _) hG θ cr So B0 (toB _ hat) (hrun.up up)
    obtain ⟨t, ht, rt⟩ := gs.ex
    have hq : t ⟨fun _ H' => Q .non H', Q, fun _ _ => False, fun _ _ => False⟩ (L2.start N vs) H := rt F' F' B (startA N ds) ω (L2.start N vs) H _ _ (sim_start (hs.inB hB0) rr) (q ds ω Qa Ea ha hcr (rr.length ▸ hlen))
      ⟨fun m s z => hk _ _ _ _ _ m (s.st.back s.f0).outB.1 .non z, fun m s z => z.elim, fun m s z => z.elim, fun m h r z => hk _ _ _ _ _ m h.outB.1 r z, fun m s r z => hx _ _ _ _ _ _ m (s.st.back s.f0).outB.1 r z⟩
    have I := inv_start (CX := L2.CX P w) (cd := cdv) (E := E) S hr.hd e1 hlen r x
    refine wpAny_mono (ht.run [] s1 (start N vs) H _ I hq) (fun fl s' hs => ?_) fun _ _ z => z
    match fl, hs with
    | .ret u, ⟨v, _, H', J, rv, q⟩ => exact ⟨v, H', J.os, J.bare, J.base, J.hok, rv, q⟩
    | .next, ⟨_, H', J, q⟩ => exact ⟨.non, H', J.os, J.bare, J.base, J.hok, rfl, q⟩
    | .brk, ⟨_, _, _, q⟩ => exact q.elim
    | .cont, ⟨_, _, _, q⟩ => exact q.elim
/-- a def that makes closures, by its body -/
theorem fn_okT {k : Nat} {f : Addr} {fd : FuncData} {ps N : List Str} {x qual : Str} {params : Arguments} {body : List Stmt} {scope : Scope} {kws : List (Str × V)} (wd : Wd) (asp : ASp wd)
    (F : FunD K x qual params body scope [] kws f fd) (S : FnScope N ps scope)
    (hb : ∀ (cdv : Value), fd.code = cdv → ∀ (A : Around) (outer : List PySem.Env) (s : Shared) (H : Hp) (E : XK), Room k (cxOf (L2.CX P w) P w K mg base N qual scope f cdv A outer s H E).A → (cxOf (L2.CX P w) P w K mg base N qual scope f cdv A outer s H E).A.guards = some [] →
      ∃ g, GSs (wdB wd fun _ => none) (cxOf (L2.CX P w) P w K mg base N qual scope f cdv A outer s H E) (fun cls d _ H => E cls d H) body g ∧ ∀ ds ω Qa Ea, asp ds ω Qa Ea → ds.length = ps.length → g (aEnd Qa Ea) (startA N ds) ω) :
    FnG P w K mg base (L2.CX P w) (k + 1) f fd ps (toSp wd K ps.length asp) := by
  obtain ⟨oc, od, dV, kV, doc, pm, an, cdv, ct, osl, rfl, lk, hcd, -, -⟩ := F.ex
  refine ⟨fun h => h.1, @fun A outer s H args us vs Q E hr hG e0 hbi r hsp => ?_⟩
  have kin := e0.mod.kin.keeps fun b o e => (e0.bs b o e).1
  have lim := e0.mod.nolimit.keeps fun b o e => (e0.bs b o e).1
  refine Att.call_fn kin lim lk hcd hr.depth hbi ?_ (fun s1 x => ?_) S.co S.gen S.kind
  · rw [List.all_eq_true]
    rintro ⟨n, v⟩ hy
    rcases S.par n (List.of_mem_zip hy).1 with q | q
    · simp only [q]; rfl
    · simp only [q]; rfl
  · obtain ⟨hlen, F', B, ω, ds, Qa, Ea, hs, rr, ha, hk, hx⟩ := hsp
    obtain ⟨g, gs, q⟩ := hb cdv rfl A outer s H E (hr.deeper _) hG
    obtain ⟨t, ht, rt⟩ := gs.ex
    have hB0 : Same (fun _ => none) B := fun a o e => nomatch e
    have hq : t ⟨fun _ H' => Q .non H', Q, fun _ _ => False, fun _ _ => False⟩ (L2.start N vs) H := rt F' F' B (startA N ds) ω (L2.start N vs) H _ _ (sim_start (hs.inB hB0) rr) (q ds ω Qa Ea ha (rr.length ▸ hlen))
      ⟨fun m s z => hk _ _ _ _ _ m (s.st.back s.f0).outB.1 .non z, fun m s z => z.elim, fun m s z => z.elim, fun m h r z => hk _ _ _ _ _ m h.outB.1 r z, fun m s r z => hx _ _ _ _ _ _ m (s.st.back s.f0).outB.1 r z⟩
    have I := inv_start (CX := L2.CX P w) (cd := cdv) (E := E) S hr.hd e0 hlen r x
    refine wpAny_mono (ht.run [] s1 (start N vs) H _ I hq) (fun fl s' hs => ?_) fun _ _ z => z
    match fl, hs with
    | .ret u, ⟨v, _, H', J, rv, q⟩ => exact ⟨v, H', J.os, J.bare, J.base, J.hok, rv, q⟩
    | .next, ⟨_, H', J, q⟩ => exact ⟨.non, H', J.os, J.bare, J.base, J.hok, rfl, q⟩
    | .brk, ⟨_, _, _, q⟩ => exact q.elim
    | .cont, ⟨_, _, _, q⟩ => exact q.elim
end
section
variable {wd : Wd} {X : Cx} {W : WX} {x : Str} {p pos : Pos} {e : Expr} {es : List Expr} {ga : AA wd} {So : List (Addr × Obj)} {B0 : Hp} {r : Addr} {m k kc : Nat} {asp : ASp wd}
/-- a call of the closure r, which the name in slot i holds -/
def gCallC {wd : Wd} (i : Nat) (r : Addr) (m : Nat) (asp : ASp wd) (ga : AA wd) : AE wd := fun ρ ω Q E => ρ[i]? = some (some (.d (.adr r))) ∧ ga ρ ω (fun xs ω1 => xs.length = m ∧ asp xs ω1 Q E) E
def tCallC (wd : Wd) (K : PySem.W.Frag) (i : Nat) (r : Addr) (m : Nat) (asp : ASp wd) (W : WX) (t : TA) : TE := fun σ H Q => σ[i]? = some (some (.ref r)) ∧ t σ H fun vs H1 => toSp wd K m asp vs H1 Q (WE W σ)
theorem fnAt_S {h : Heap} {H : Hp} {fs : List Addr} (a : AtS h H fs So) (f : ∃ fd : FuncData, (r, ({ cls := .type "function", data := .func fd } : Obj)) ∈ So) : PySem.W.FnAt r h := by
  obtain ⟨fd, hm⟩ := f
  obtain ⟨e, _⟩ := a _ hm
  exact ⟨_, _, fd, _, e⟩
theorem ge_callC (i : Nat) (hat : AtB X.base So) (hrun : CloRun X.prog X.w X.K X.mg X.base kc wd So B0 r m asp) (hr : Room k X.A) (hk : kc ≤ k) (hG : X.A.guards = some []) (tk : Takes X W) (ha : GA (wdB wd B0) X W (e :: es) ga)
    (hN : X.N[i]? = some x := by rfl) (hv : Vis X.env.scope x := by first | exact Or.inl rfl | exact Or.inr (Or.inl rfl) | exact Or.inr (Or.inr rfl)) (hd : (x == ("__debug__" : Str)) = false := by decide) (hcd : (x == ("__classdict__" : Str)) = false := by decide)
    (he : starEach (e :: es) X.env = (false, eval e X.env) :: starEach es X.env := by rfl) (hpl : (backTo pos (starEach es X.env)).any (·.1) = false := by rfl) :
    GE (wdB wd B0) X W (.Call (.Name x p) (e :: es) [] pos) (gCallC i r m asp ga) := by
  obtain ⟨t, pa, ra⟩ := ha.ex
  refine ⟨tCallC (wdB wd B0) X.K i r m asp W t, ⟨fun pins s σ H Q I h => ?_⟩, fun F B ρ ω σ H Qa Ea Q hs he' hg hK hx => ?_⟩
  · obtain ⟨hs, ht⟩ := h
    have at_ : ∀ {σ' H' s'}, Inv X pins σ' H' s' → AtS s'.heap H' (frs X.stack) So := fun I' => hat.at_ I'.env0
    refine wpAny_Call_Name_kw (thn ((pe_var (pos := p) hN hv hd hcd).run pins s σ H (fun v H1 => v = .ref r ∧ H1 = H) I ⟨.ref r, hs, rfl, rfl⟩) fun u s1 ⟨v, H1, I1, r1, q1⟩ => ?_)
    obtain ⟨ev, eH⟩ := q1
    subst ev
    rw [eH] at I1
    obtain rfl : u = Value.ref r := r1
    refine PySem.W.callWith_F (first := []) (fnAt_S (at_ I1) hrun.fn) (thn (pa.run pos pins s1 σ H _ I1 ht) fun us s2 ⟨vs, H2, I2, rv, q⟩ => ⟨fnAt_S (at_ I2) hrun.fn, ?_⟩) he hpl
    show wpAny _ _ (call (.ref r) us) _ _ _
    refine wpAny_call (codeAny_mono (hrun.run (hr.mono hk) hG I2.env0 (at_ I2) rv q) fun fl s' hq => ?_)
    match fl, hq with
    | .error e, hq => exact passAt tk σ pins H2 s2 e s' I2 hq
    | .ok (.ret u), hq => exact I2.after hq
    | .ok .next, hq => exact hq.elim
    | .ok .brk, hq => exact hq.elim
    | .ok .cont, hq => exact hq.elim
  · obtain ⟨hi, hg⟩ := hg
    obtain ⟨v, e1, e2⟩ := he'.ent i _ hi
    cases e2
    refine ⟨e1, ra F B ρ ω σ H _ Ea _ hs he' hg (fun B1 ω1 H1 vs ds s1 hs1 r1 g1 => ?_) hx⟩
    exact ⟨by rw [r1.length]; exact g1.1, F, B1, ω1, ds, Qa, Ea, hs1, r1, g1.2, hK.mono s1, hx.mono s1⟩
end
end MR
namespace MR
open PySem PySem.Spec PyProof.Rows L2 LamX
/-- the tracked heap behind a lambda's making: as it was, or the table has one more, and the code object is known -/
inductive Coded (B H : Hp) (P : Addr) (q : Str) (c : Addr) : Hp → Hp → Prop
  | hit (h : B c = some (CodeO c q)) : Coded B H P q c B H
  | new (ps more : Array Value) (hP : H P = some (.tbl ps)) (hc : H c = none) (ok : TriplesOk (ps ++ more).toList) (al : ∀ (pos : Pos) (cv : Value), codeAmong pos (ps ++ more).toList = some cv → codeAmong pos ps.toList = some cv ∨ cv = .ref c) :
      Coded B H P q c (upd B c (CodeO c q)) (upd (upd H P (.tbl (ps ++ more))) c (CodeO c q))
section
variable {K : PySem.W.Frag} {F B H B1 H1 : Hp} {T : TL} {ω : DW} {P c : Addr} {q : Str}
theorem Hst.coded (h : Hst (TWd T) K F B ω H) (hm : (P, q) ∈ T) (hu : ∀ p ∈ T, p.1 = P → p.2 = q) (k : Coded B H P q c B1 H1) : Same B B1 ∧ B1 c = some (CodeO c q) ∧ Hst (TWd T) K F B1 ω H1 := by
  cases k with
  | hit e => exact ⟨Same.refl _, e, h⟩
  | new ps more hP hc ok al =>
    have tP := h.wat.2 _ hm
    have nB : B c = none := h.sB.free hc
    have nF : F c = none := h.sF.free hc
    have nPc : P ≠ c := ne_of_none hP hc
    have neP : ∀ a, H a ≠ none → a ≠ c := fun a n e => n (by rw [e]; exact hc)
    have m : Same B (upd B c (CodeO c q)) := fun b o e => (upd_ne (ne_of_none e nB)).trans e
    refine ⟨m, upd_same, fun b o e => ?_, fun b o e => ?_, fun a o e => ?_, h.fw, DWd.mono h.wat.1 m (fun a z => ?_) (fun a z => ?_), fun p hp => ?_⟩
    · by_cases hb : b = c
      · rw [hb, upd_same] at e ⊢
        exact e
      · rw [upd_ne hb] at e ⊢
        rw [upd_ne (fun z => by rw [z, tP.2.1] at e; cases e)]
        exact h.sB _ _ e
    · have hb : b ≠ c := ne_of_none e nF
      have hP' : b ≠ P := fun z => by
        have := h.fw P (.inr ⟨q, hm⟩)
        rw [← z, e] at this
        cases this
      rw [upd_ne hb, upd_ne hP']
      exact h.sF _ _ e
    · rw [upd_ne (ne_of_none e nF)]
      exact h.dj _ _ e
    · rw [upd_ne (neP a (DWd.some_ h.wat.1 z)), upd_ne (fun e => tP.1 (by rw [← e]; exact z))]
    · rw [upd_ne (neP a (DWd.some_ h.wat.1 z))]
      exact DWd.free_ h.wat.1 z
    · obtain ⟨t1, t2, t3⟩ := h.wat.2 p hp
      have hpc := neP p.1 t3.some_
      refine ⟨t1, by rw [upd_ne hpc]; exact t2, ?_⟩
      by_cases hb : p.1 = P
      · obtain ⟨ps', e1, _, e3⟩ := t3
        rw [hu p hp hb] at e3 ⊢
        rw [hb] at e1 ⊢
        rw [hP] at e1
        cases e1
        refine ⟨_, by rw [upd_ne nPc, upd_same], ok, fun pos cv hcv => ?_⟩
        rcases al pos cv hcv with z | z
        · obtain ⟨c0, g1, g2⟩ := e3 pos cv z
          exact ⟨c0, g1, m _ _ g2⟩
        · exact ⟨c, z, upd_same⟩
      · exact t3.mono m (by rw [upd_ne hpc, upd_ne hb])
end
section
variable {X : Cx} {pins : List (Addr × Obj)} {σ : L2.St} {H : Hp} {s : Shared}
/-- the lambda is made: its code object is new, or found in the table; told exactly -/
theorem lam_make3 {B : Hp} {c P : Addr} {params : Arguments} {body : Expr} {scope : Scope} {pos : Pos} {E : Value → Shared → Prop} {Q : Value → Shared → Prop} (I : Inv X pins σ H s) (TB : TabB X.base X.mg c P) (hcode : X.env.code = .ref c)
    (hB : Same B H) (hT : TabG B H P (X.env.qual ++ "<lambda>")) (hdef : defaultsOf params X.env = ([], [])) (hfree : ∀ y ∈ scope.names, y.2 = .free → ∃ c, X.env.cells.lookup y.1 = some c)
    (h : ∀ (f c' : Addr) (pm ctv : Value) (B1 H1 : Hp) (s' : Shared), Inv X pins σ H1 s' → Coded B H P (X.env.qual ++ "<lambda>") c' B1 H1 →
      s'.heap.get? f = some (PySem.W.kla_obj "<lambda>" (X.env.qual ++ "<lambda>") params body scope (cloFrom X.env.cells scope.names []) pm c' ctv) → H1 f = none → s.heap.objs.size ≤ f → Q (.ref f) s') :
    wpAny (model X.prog X.w) X.A (eval (.Lambda params body scope pos) X.env) Q E s := by
  obtain ⟨ps, hP, ht, ha⟩ := hT
  refine PySem.W.kla_eval hdef ?_
  have bP : s.heap.BuiltinsAt X.mg P := TB.bm.keeps I.bk
  have hP' : s.heap.get? P = some { cls := .none, data := .fields ps } := I.hok P _ hP
  cases hc : codeAmong pos ps.toList with
  | none =>
    refine PySem.W.kla_makeFunction (mg := X.mg) (c := c) (P := P) (ps := ps) (closure_ok hfree) I.ok.glob (I.mod.glob.keeps I.bk) hcode (TB.code.keeps I.bk) hP' ht hc TB.gP bP fun c' ctv h' tk hx hge hlt hrec htb => ?_
    obtain ⟨c2, oc, vs, t, e2, hoc, hd, hv⟩ := hrec
    cases e2
    have hsz : s.heap.objs.size ≤ h'.objs.size := Nat.le_trans hge (Nat.le_of_lt hlt)
    have nC : H c' = none := I.hok.fresh hge
    have I1 := inv_table (t' := tk) (more := #[rawInt pos.line, rawInt pos.col, .ref c']) (h' := h'.push (PySem.W.kla_obj "<lambda>" (X.env.qual ++ "<lambda>") params body scope (cloFrom X.env.cells scope.names []) ((X.mg "__name__").getD .none) c' ctv)) I hP
      (fun b o hb e => Heap.get?_push_of_some _ (hx b o hb e)) (Heap.get?_push_of_some _ htb) hge ⟨oc, vs, t, Heap.get?_push_of_some _ hoc, hd, hv⟩
    have eL : (ps ++ #[rawInt pos.line, rawInt pos.col, .ref c']).toList = ps.toList ++ [rawInt pos.line, rawInt pos.col, .ref c'] := by simp
    refine h h'.objs.size c' ((X.mg "__name__").getD .none) ctv _ _ _ I1 (.new ps #[rawInt pos.line, rawInt pos.col, .ref c'] hP nC (by rw [eL]; exact PySem.TriplesOk_snoc _ _ _ _ ht) fun p' cv hcv => ?_) (Heap.get?_push_size _ rfl) ?_ hsz
    · rw [eL] at hcv
      exact among_app _ ht hcv
    · have n1 : h'.objs.size ≠ c' := Nat.ne_of_gt hlt
      have n2 : h'.objs.size ≠ P := Nat.ne_of_gt (Nat.lt_of_lt_of_le (Heap.lt_size hP') hsz)
      rw [upd_ne n1, upd_ne n2]
      exact I.hok.fresh hsz
  | some cv =>
    obtain ⟨c', e, hco⟩ := ha pos cv hc
    subst e
    refine PySem.W.kla_makeFunctionHit (mg := X.mg) (c := c) (P := P) (ps := ps) (closure_ok hfree) I.ok.glob (I.mod.glob.keeps I.bk) hcode (TB.code.keeps I.bk) hP' ht hc bP fun ctv h' tk hx hsz => ?_
    have I1 : Inv X pins σ H { s with heap := h'.push (PySem.W.kla_obj "<lambda>" (X.env.qual ++ "<lambda>") params body scope (cloFrom X.env.cells scope.names []) ((X.mg "__name__").getD .none) c' ctv), toks := tk } := I.kept fun b o e => Heap.get?_push_of_some _ (hx b o e)
    exact h h'.objs.size c' ((X.mg "__name__").getD .none) ctv B H _ I1 (.hit hco) (Heap.get?_push_size _ rfl) (I.hok.fresh hsz) hsz
end
end MR
namespace MR
open PySem PySem.Spec PyProof.Rows L2 LamX NdefX
/-- the names at a lambda's entry: its parameters, what it captured -/
def startL (N : List Str) (ds caps : List D) : AEnv := ds.map (fun d => some (Ent.d d)) ++ (caps.map (fun d => some (Ent.d d)) ++ List.replicate (N.length - ds.length - caps.length) none)
theorem env_startL {K : PySem.W.Frag} {F B : Hp} {N : List Str} {vs ws : List V} {ds caps : List D} (r : RepAll K B vs ds) (rc : RepAll K B ws caps) : EnvOk K F B (startL N ds caps) (startF N vs (ws.map some)) := by
  have l1 := r.length
  have l2 := rc.length
  have noOwn : ∀ (i : Nat) (l : List D), (startL N ds caps)[i]? = some (some (.own l)) → False := fun i l h => by
    unfold startL at h
    by_cases c : i < ds.length
    · rw [List.getElem?_append_left (by simpa using c), List.getElem?_map, List.getElem?_eq_getElem c] at h
      cases h
    · rw [List.getElem?_append_right (by simpa using c), List.length_map] at h
      by_cases c2 : i - ds.length < caps.length
      · rw [List.getElem?_append_left (by simpa using c2), List.getElem?_map, List.getElem?_eq_getElem c2] at h
        cases h
      · rw [List.getElem?_append_right (by simpa using c2), List.getElem?_replicate] at h
        split at h <;> cases h
  refine ⟨by simp [startL, startF, l1, l2], fun i e h => ?_, fun i _ l _ _ h _ _ _ => (noOwn i l h).elim⟩
  unfold startL at h
  unfold startF
  by_cases c : i < ds.length
  · rw [List.getElem?_append_left (by simpa using c), List.getElem?_map, List.getElem?_eq_getElem c] at h
    cases h
    obtain ⟨v, e1, e2⟩ := r.get (List.getElem?_eq_getElem c)
    refine ⟨v, ?_, e2⟩
    rw [List.getElem?_append_left (by simpa [l1] using c), List.getElem?_map, e1]
    rfl
  · rw [List.getElem?_append_right (by simpa using c), List.length_map] at h
    by_cases c2 : i - ds.length < caps.length
    · rw [List.getElem?_append_left (by simpa using c2), List.getElem?_map, List.getElem?_eq_getElem c2] at h
      cases h
      obtain ⟨v, e1, e2⟩ := rc.get (List.getElem?_eq_getElem c2)
      refine ⟨v, ?_, e2⟩
      have e0 : (vs.map (some : V → Option V)).length = ds.length := by rw [List.length_map, l1]
      rw [List.getElem?_append_right (by rw [e0]; omega), e0, List.getElem?_append_left (by rw [List.length_map, l2]; exact c2), List.getElem?_map, e1]
      rfl
    · rw [List.getElem?_append_right (by simpa using c2), List.getElem?_replicate] at h
      split at h <;> cases h
section
variable {P : Program} {w : World} {K : PySem.W.Frag} {mg : Str → Option Value} {base : Heap}
theorem lam_run {wd : Wd} {So : List (Addr × Obj)} {B0 : Hp} {r : Addr} {k : Nat} {asp : ASp wd} {N ps fr : List Str} {qual : Str} {params : Arguments} {body : Expr} {scope : Scope} {cl : List (Str × Addr)} {pm ctv : Value} {c' : Addr} (S : NScope N ps fr scope)
    (hbind : ∀ us : List Value, us.length = ps.length → bindArgs (PySem.W.kla_fn "<lambda>" qual params body scope cl pm (.ref c') ctv) ⟨us, []⟩ = pure (ps.zip us))
    (hr : (r, PySem.W.kla_obj "<lambda>" qual params body scope cl pm c' ctv) ∈ So)
    (hall : ∀ y c, cl.lookup y = some c → ∃ (o : Obj) (v : Option Value), (c, o) ∈ So ∧ o.data = .cell v) (hinj : ∀ x y c, cl.lookup x = some c → cl.lookup y = some c → x = y)
    {ws : List V} (hws : ws.length = fr.length)
    (hhas : ∀ (i : Nat) (y : Str), fr[i]? = some y → ∃ c, cl.lookup y = some c ∧ ∀ v, ws[i]? = some v → ∃ (u : Value) (o : Obj), L2.RelV v u ∧ (c, o) ∈ So ∧ o.data = .cell (some u))
    {caps : List D} (hrep : RepAll K B0 ws caps) (hcode : B0 c' = some (CodeO c' qual))
    (hb : ∀ (base' : Heap), Up K mg base base' → ∀ (A : Around) (outer : List PySem.Env) (s : Shared) (H : Hp) (E : XK), Room k (ncx (L2.CX P w) P w K mg base' N ⟨"<lambda>", qual, params, [], scope, cl, c'⟩ r A outer s H E).A → (ncx (L2.CX P w) P w K mg base' N ⟨"<lambda>", qual, params, [], scope, cl, c'⟩ r A outer s H E).A.guards = some [] → AtB base' So →
      ∃ g, GE (wdB wd B0) (ncx (L2.CX P w) P w K mg base' N ⟨"<lambda>", qual, params, [], scope, cl, c'⟩ r A outer s H E) (fun cls d _ H => E cls d H) body g ∧ ∀ ds ω Qa Ea, asp ds ω Qa Ea → ds.length = ps.length → g (startL N ds caps) ω Qa Ea) :
    CloRun P w K mg base (k + 1) wd So B0 r ps.length asp := by
  refine ⟨⟨_, hr⟩, @fun A outer s H us vs Q E hrm hG e0 hat rv hsp => ?_⟩
  obtain ⟨hl, F', B, ω, ds, Qa, Ea, hs, rr, ha, hk, hx⟩ := hsp
  obtain ⟨ho, hn, -⟩ := hat _ hr
  obtain ⟨base', e1, up, toB⟩ := newBase e0
  have hB0 := hs.outB.2
  have hco : H c' = some (CodeO c' qual) := hs.sB _ _ (hB0 _ _ hcode)
  obtain ⟨⟨oc, vs', t', hoc, hdc, hvc⟩, _, _⟩ := e0.hok c' _ hco
  have lim : s.heap.NoLimit := e0.mod.nolimit.keeps fun b o e => (e0.bs b o e).1
  refine PySem.W.kla_callFunE hrm.depth ho rfl S.co S.gen rfl ⟨c', oc, vs', t', rfl, hoc, hdc, hvc⟩ ?_
  have hus : us.length = ps.length := by rw [← rv.length]; exact hl
  rw [hbind us hus]
  refine wpAny_pure (wpAny_newFunctionEnv S.nocell (fun ⟨n, _⟩ hy => S.par n (List.of_mem_zip hy).1) (fun h₁ hns hsb => ⟨lim.fresh _ hsb, ?_⟩) S.kind)
  show codeAny _ _ (.expr body (envF ⟨"<lambda>", qual, params, [], scope, cl, c'⟩ r s.heap.objs.size)) _ _
  have kp : ∀ b o, s.heap.get? b = some o → h₁.get? b = some o := fun b o e => hsb.extBut b o (Nat.ne_of_lt (Heap.lt_size e)) (Heap.get?_push_of_some _ e)
  have isC : ∀ {c : Addr} {o : Obj} {v : Option Value}, (c, o) ∈ So → o.data = .cell v → H c = none ∧ s.heap.IsCell c v := fun {c o v} hm hd => by
    obtain ⟨e2, n2, -⟩ := hat _ hm
    exact ⟨n2, _, e2, hd⟩
  have C : CellsAt cl fr (ws.map some) s.heap H := by
    refine ⟨by rw [List.length_map]; exact hws, fun y c e => ?_, hinj, fun i y e => ?_⟩
    · obtain ⟨o, v, hm, hd⟩ := hall y c e
      have z := isC hm hd
      exact ⟨z.1, v, z.2⟩
    · obtain ⟨c, e1, e2⟩ := hhas i y e
      refine ⟨c, e1, fun v ev => ?_⟩
      rw [List.getElem?_map] at ev
      obtain ⟨v', ev', ee⟩ := Option.map_eq_some_iff.mp ev
      cases ee
      obtain ⟨u, o, ru, hm, hd⟩ := e2 v ev'
      exact ⟨u, ru, (isC hm hd).2⟩
  have I : Inv (ncx (L2.CX P w) P w K mg base' N ⟨"<lambda>", qual, params, [], scope, cl, c'⟩ r A outer s H E) [] (startF N vs (ws.map some)) H { s with heap := h₁, toks := s.toks + (ps.zip us).length } := inv_startN (F := ⟨"<lambda>", qual, params, [], scope, cl, c'⟩) S hrm.hd e1 hl rv C hns kp
  obtain ⟨g, hg, q⟩ := hb base' up A outer s H E (hrm.deeper _) hG (toB _ hat)
  obtain ⟨t, pe, re⟩ := hg.ex
  refine PySem.W.kla_codeExpr (wpAny_mono (pe.run [] _ _ H Q I (re F' B (startL N ds caps) ω (startF N vs (ws.map some)) H Qa Ea Q hs (env_startL rr (hrep.mono hB0)) (q ds ω Qa Ea ha (rr.length ▸ hl)) hk hx)) (fun v s' hq => ?_) fun e s' hq => hq)
  obtain ⟨w', H', J', rv', q'⟩ := hq
  exact ⟨w', H', J'.os, J'.bare, J'.base, J'.hok, rv', q'⟩
end
end MR
namespace MR
open PySem PySem.Spec PyProof.Rows L2 LamX NdefX
theorem Inv.pinned {X : Cx} {pins : List (Addr × Obj)} {σ : L2.St} {H : Hp} {s : Shared} {f : Addr} {o : Obj} (I : Inv X pins σ H s) (h1 : s.heap.get? f = some o) (h2 : H f = none) (h3 : f ≠ X.env.locals) (h4 : f ∉ X.fs) (h5 : ∀ v, o.data ≠ .cell v) : Inv X ((f, o) :: pins) σ H s :=
  ⟨I.ok, I.os, I.bare, I.base, I.loc, I.cell, I.free, I.freeC, fun p hp => by
    rcases List.mem_append.mp hp with z | z
    · exact I.pin p (List.mem_append_left _ z)
    · rcases List.mem_cons.mp z with rfl | z
      · exact ⟨h1, h2, h3, h4, h5⟩
      · exact I.pin p (List.mem_append_right _ z), I.hok, I.len⟩
theorem Inv.unpin {X : Cx} {pins : List (Addr × Obj)} {σ : L2.St} {H : Hp} {s : Shared} {p : Addr × Obj} (I : Inv X (p :: pins) σ H s) : Inv X pins σ H s :=
  ⟨I.ok, I.os, I.bare, I.base, I.loc, I.cell, I.free, I.freeC, fun q hq => by
    rcases List.mem_append.mp hq with z | z
    · exact I.pin q (List.mem_append_left _ z)
    · exact I.pin q (List.mem_append_right _ (List.mem_cons_of_mem _ z)), I.hok, I.len⟩
/-- the captured cells, as they stand -/
theorem cells_list {X : Cx} {pins : List (Addr × Obj)} {σ : L2.St} {H : Hp} {s : Shared} (I : Inv X pins σ H s) (hfn : ∀ x, X.fn x = true) : ∀ fr : List Str, ∃ Sc : List (Addr × Obj), AtS s.heap H (frs X.stack) Sc ∧ ∀ y ∈ fr, ∀ c, X.env.cells.lookup y = some c → ∃ (o : Obj) (v : Option Value), (c, o) ∈ Sc ∧ s.heap.get? c = some o ∧ o.data = .cell v
  | [] => ⟨[], (fun _ h => nomatch h), (fun _ h => nomatch h)⟩
  | y :: fr => by
    obtain ⟨Sc, h1, h2⟩ := cells_list I hfn fr
    cases e : X.env.cells.lookup y with
    | none =>
      refine ⟨Sc, h1, fun z hz c hc => ?_⟩
      rcases List.mem_cons.mp hz with rfl | hz
      · rw [e] at hc
        cases hc
      · exact h2 z hz c hc
    | some c0 =>
      obtain ⟨v, o, ho, hd⟩ := I.cell y c0 e
      refine ⟨(c0, o) :: Sc, fun p hp => ?_, fun z hz c hc => ?_⟩
      · rcases List.mem_cons.mp hp with rfl | hp
        · refine ⟨ho, I.freeC y c0 e, fun hm => ?_⟩
          have hm' : c0 ∈ frs X.stack := hm
          rcases List.mem_cons.mp (I.stkSub c0 hm') with z | z
          · exact I.cne y c0 e z
          · obtain ⟨_, o', ho', _⟩ := I.ok.funs.mem z
            exact Nat.lt_irrefl _ (Nat.lt_of_lt_of_le (Heap.lt_size ho') (I.ok.cab y c0 (hfn y) e))
        · exact h1 p hp
      · rcases List.mem_cons.mp hz with rfl | hz
        · rw [e] at hc
          cases hc
          exact ⟨o, v, List.mem_cons_self, ho, hd⟩
        · obtain ⟨o', v', a, b⟩ := h2 z hz c hc
          exact ⟨o', v', List.mem_cons_of_mem _ a, b⟩
/-- the values that names hold -/
def capsAt (ρ : AEnv) (js : List Nat) (caps : List D) : Prop := js.map (fun j => ρ[j]?) = caps.map fun d => some (some (Ent.d d))
theorem caps_vals {K : PySem.W.Frag} {F B : Hp} {ρ : AEnv} {σ : L2.St} (he : EnvOk K F B ρ σ) : ∀ {js : List Nat} {caps : List D}, capsAt ρ js caps → ∃ ws : List V, RepAll K B ws caps ∧ js.map (fun j => σ[j]?) = ws.map fun v => some (some v)
  | [], [], _ => ⟨[], .nil, rfl⟩
  | [], _ :: _, h => by cases h
  | _ :: _, [], h => by cases h
  | j :: js, d :: caps, h => by
    obtain ⟨h1, h2⟩ := List.cons.inj h
    obtain ⟨ws, r, e⟩ := caps_vals he h2
    obtain ⟨v, e1, e2⟩ := he.ent j _ h1
    exact ⟨v :: ws, .cons e2 r, by rw [List.map_cons, List.map_cons, e, e1]⟩
section
variable {T : TL} {B00 : Hp} {X : Cx} {W : WX} {Θ : Type} {asp aspc : Θ → ASp (TWd T)} {k kc m i : Nat} {f : Addr} {fd : FuncData} {psF : List Str}
/-- the lambda just made keeps its promise -/
theorem lam_at {pins : List (Addr × Obj)} {σ : L2.St} {H : Hp} {s : Shared} {F B : Hp} {ρ : AEnv} {r c' : Addr} {pm ctv : Value} {params : Arguments} {body : Expr} {scope : Scope} {Nl psl fr : List Str} {js : List Nat} {caps : List D} {So0 : List (Addr × Obj)} {a : ASp (TWd T)}
    (I : Inv X pins σ H s) (hfn : ∀ x, X.fn x = true) (hat0 : AtB X.base So0) (hrs : r ∉ frs X.stack) (hobj : s.heap.get? r = some (PySem.W.kla_obj "<lambda>" (X.env.qual ++ "<lambda>") params body scope (cloFrom X.env.cells scope.names []) pm c' ctv)) (hrn : H r = none) (hc : B c' = some (CodeO c' (X.env.qual ++ "<lambda>")))
    (he : EnvOk X.K F B ρ σ) (hcap : capsAt ρ js caps) (S : NScope Nl psl fr scope) (hfree : ∀ y ∈ scope.names, y.2 = .free → X.env.scope.names.lookup y.1 = some .cell ∨ X.env.scope.names.lookup y.1 = some .free) (hjs : js.map (fun j => X.N[j]?) = fr.map some)
    (hbind : ∀ (q : Str) (cl : List (Str × Addr)) (pm cv ctv : Value) (us : List Value), us.length = psl.length → bindArgs (PySem.W.kla_fn "<lambda>" q params body scope cl pm cv ctv) ⟨us, []⟩ = pure (psl.zip us))
    (hb : ∀ (cl : List (Str × Addr)) (So : List (Addr × Obj)) (base' : Heap), Up X.K X.mg X.base base' → ∀ (A : Around) (outer : List PySem.Env) (s : Shared) (H : Hp) (E : XK), (∀ p ∈ So0, p ∈ So) → Room k (ncx (L2.CX X.prog X.w) X.prog X.w X.K X.mg base' Nl ⟨"<lambda>", X.env.qual ++ "<lambda>", params, [], scope, cl, c'⟩ r A outer s H E).A → (ncx (L2.CX X.prog X.w) X.prog X.w X.K X.mg base' Nl ⟨"<lambda>", X.env.qual ++ "<lambda>", params, [], scope, cl, c'⟩ r A outer s H E).A.guards = some [] → AtB base' So →
      ∃ g, GE (wdB (TWd T) B) (ncx (L2.CX X.prog X.w) X.prog X.w X.K X.mg base' Nl ⟨"<lambda>", X.env.qual ++ "<lambda>", params, [], scope, cl, c'⟩ r A outer s H E) (fun cls d _ H => E cls d H) body g ∧ ∀ ds ω Qa Ea, a ds ω Qa Ea → ds.length = psl.length → g (startL Nl ds caps) ω Qa Ea) :
    ∃ So, AtS s.heap H (frs X.stack) So ∧ CloRun X.prog X.w X.K X.mg X.base (k + 1) (TWd T) So B r psl.length a := by
  obtain ⟨Sc, hSc, hcs⟩ := cells_list I hfn fr
  have hf : ∀ y ∈ scope.names, y.2 = .free → ∃ c, X.env.cells.lookup y.1 = some c := fun y hy e => (hfree y hy e).elim (fun z => I.ok.has _ (.inl z)) fun z => I.ok.has _ (.inr z)
  obtain ⟨ws, rw_, ews⟩ := caps_vals he hcap
  have lfr : ws.length = fr.length := by
    have e1 := congrArg List.length ews
    have e2 := congrArg List.length hjs
    simp only [List.length_map] at e1 e2
    omega
  refine ⟨(r, PySem.W.kla_obj "<lambda>" (X.env.qual ++ "<lambda>") params body scope (cloFrom X.env.cells scope.names []) pm c' ctv) :: (Sc ++ So0), fun p hp => ?_, ?_⟩
  · rcases List.mem_cons.mp hp with rfl | hp
    · exact ⟨hobj, hrn, hrs⟩
    · rcases List.mem_append.mp hp with hp | hp
      · exact hSc p hp
      · exact hat0.at_ I.env0 p hp
  · have inFr : ∀ {y c}, (cloFrom X.env.cells scope.names []).lookup y = some c → y ∈ fr := fun {y c} e => by
      rcases cloFrom_mem (PySem.mem_of_lookup e) with hm | ⟨h1, h2⟩
      · cases hm
      · exact S.free _ h1 rfl
    refine lam_run (ws := ws) (caps := caps) S (hbind _ _ _ _ _) List.mem_cons_self (fun y c e => ?_) (fun x y c e1 e2 => I.ok.inj x y c (clo_cm hf e1) (clo_cm hf e2)) lfr (fun j y e => ?_) rw_ hc (fun base' up A outer s H E hr hG hat => hb _ _ base' up A outer s H E (fun p hp => List.mem_cons_of_mem _ (List.mem_append_right _ hp)) hr hG hat)
    · obtain ⟨o, v, hm, _, hd⟩ := hcs y (inFr e) c (clo_cm hf e)
      exact ⟨o, v, List.mem_cons_of_mem _ (List.mem_append_left _ hm), hd⟩
    · have hy : y ∈ fr := List.mem_of_getElem? e
      have hfy : (y, NameKind.free) ∈ scope.names := PySem.mem_of_lookup (S.frk y hy)
      obtain ⟨c, hcl⟩ := mem_lookup (cloFrom_has (cells := X.env.cells) (acc := []) hfy)
      have hce := clo_cm hf hcl
      refine ⟨c, hcl, fun v hv => ?_⟩
      obtain ⟨o, v0, hm, ho, hd⟩ := hcs y hy c hce
      have hj : ∃ jj, js[j]? = some jj ∧ X.N[jj]? = some y ∧ σ[jj]? = some (some v) := by
        have e1 := congrArg (fun l : List (Option Str) => l[j]?) hjs
        have e2 := congrArg (fun l : List (Option (Option V)) => l[j]?) ews
        simp only [List.getElem?_map, e, hv, Option.map_some] at e1 e2
        obtain ⟨jj, ej, en⟩ := Option.map_eq_some_iff.mp e1
        refine ⟨jj, ej, en, ?_⟩
        rw [ej] at e2
        exact Option.some.inj e2
      obtain ⟨jj, _, eN, eσ⟩ := hj
      obtain ⟨mm, hn, hl⟩ := I.loc
      have hk := hfree _ hfy rfl
      obtain ⟨u, ru, q⟩ := hl jj y v eN eσ (hk.elim (fun k => .inr (.inl k)) (fun k => .inr (.inr k)))
      rcases q with ⟨k', _⟩ | ⟨_, c3, e', z⟩
      · have k' : X.env.scope.names.lookup y = some .local := k'
        rcases hk with k2 | k2 <;> rw [show X.env.scope.names.lookup y = _ from k2] at k' <;> cases k'
      · rw [hce] at e'
        cases e'
        obtain ⟨o2, ho2, hd2⟩ := z
        rw [ho] at ho2
        cases ho2
        exact ⟨u, o, ru, List.mem_cons_of_mem _ (List.mem_append_left _ hm), hd2⟩
end
end MR
namespace MR
open PySem PySem.Spec PyProof.Rows L2 LamX NdefX
section
variable {T : TL} {B00 : Hp}
/-- three values, a lambda, keywords: js the slots that the lambda captures, LK what its promise asks of them -/
def gCallL {Θ : Type} (asp : Θ → ASp (TWd T)) (idx js : List Nat) (nk : Nat) (LK : Θ → List D → Prop) (dfl : List D) (a1 a2 a3 : AE (wdB (TWd T) B00)) (gk : AA (wdB (TWd T) B00)) : AE (wdB (TWd T) B00) :=
  fun ρ ω Q E => a1 ρ ω (fun d1 ω1 => a2 ρ ω1 (fun d2 ω2 => a3 ρ ω2 (fun d3 ω3 => gk ρ ω3 (fun zs ω4 => zs.length = nk ∧ ∃ θ caps, capsAt ρ js caps ∧ LK θ caps ∧ ∀ r, asp θ (sel idx ([d1, d2, d3, .adr r] ++ zs ++ dfl) .non) ω4 Q E) E) E) E) E
variable {X : Cx} {W : WX} {Θ : Type} {asp aspc : Θ → ASp (TWd T)} {k kl m i : Nat} {f : Addr} {fd : FuncData} {psF ks : List Str} {idx js : List Nat} {dvs : List V} {dfl : List D} {e1 e2 e3 : Expr} {a1 a2 a3 : AE (wdB (TWd T) B00)} {gk : AA (wdB (TWd T) B00)} {kws : List Keyword}
  {c P : Addr} {params : Arguments} {body : Expr} {scope : Scope} {lpos pos : Pos} {Nl psl fr : List Str} {So0 : List (Addr × Obj)} {LK : Θ → List D → Prop}
theorem callL_core (hfn : ∀ x, X.fn x = true) (F : FnC X.prog X.w X.K X.mg X.base k f fd psF i (TWd T) asp (kl + 1) psl.length aspc) (hk : PySem.W.keepIn X.K (.ref f) = true) (hr : Room k X.A) (hG : X.A.guards = some []) (tk : Takes X W) (hb : Bnd X.K fd psF 4 ks idx dvs) (hd : ∀ B, RepAll X.K B dvs dfl) (hi : idx[i]? = some 3) (hln : idx.length = psF.length)
    (g1 : GE (wdB (TWd T) B00) X W e1 a1) (g2 : GE (wdB (TWd T) B00) X W e2 a2) (g3 : GE (wdB (TWd T) B00) X W e3 a3) (hkw : GK (wdB (TWd T) B00) X W kws gk)
    (TB : TabB X.base X.mg c P) (hcode : X.env.code = .ref c) (hmT : (P, X.env.qual ++ "<lambda>") ∈ T) (hu : ∀ p ∈ T, p.1 = P → p.2 = X.env.qual ++ "<lambda>") (hdef : defaultsOf params X.env = ([], []))
    (S : NScope Nl psl fr scope) (hfree : ∀ y ∈ scope.names, y.2 = .free → X.env.scope.names.lookup y.1 = some .cell ∨ X.env.scope.names.lookup y.1 = some .free) (hjs : js.map (fun j => X.N[j]?) = fr.map some)
    (hbind : ∀ (q : Str) (cl : List (Str × Addr)) (pm cv ctv : Value) (us : List Value), us.length = psl.length → bindArgs (PySem.W.kla_fn "<lambda>" q params body scope cl pm cv ctv) ⟨us, []⟩ = pure (psl.zip us))
    (hat0 : AtB X.base So0)
    (hlam : ∀ θ caps, LK θ caps → ∀ (B : Hp) (r c' : Addr) (cl : List (Str × Addr)) (So : List (Addr × Obj)) (base' : Heap), Up X.K X.mg X.base base' → ∀ (A : Around) (outer : List PySem.Env) (s : Shared) (H : Hp) (E : XK), Same B00 B → (∀ p ∈ So0, p ∈ So) → Room kl (ncx (L2.CX X.prog X.w) X.prog X.w X.K X.mg base' Nl ⟨"<lambda>", X.env.qual ++ "<lambda>", params, [], scope, cl, c'⟩ r A outer s H E).A → (ncx (L2.CX X.prog X.w) X.prog X.w X.K X.mg base' Nl ⟨"<lambda>", X.env.qual ++ "<lambda>", params, [], scope, cl, c'⟩ r A outer s H E).A.guards = some [] → AtB base' So →
      ∃ g, GE (wdB (TWd T) B) (ncx (L2.CX X.prog X.w) X.prog X.w X.K X.mg base' Nl ⟨"<lambda>", X.env.qual ++ "<lambda>", params, [], scope, cl, c'⟩ r A outer s H E) (fun cls d _ H => E cls d H) body g ∧ ∀ ds ω Qa Ea, aspc θ ds ω Qa Ea → ds.length = psl.length → g (startL Nl ds caps) ω Qa Ea)
    (hall : (backToKw pos (keywordEach kws X.env)).all (·.1.isSome) = true) (hks : (backToKw pos (keywordEach kws X.env)).filterMap (·.1) = ks)
    (he : starEach [e1, e2, e3, .Lambda params body scope lpos] X.env = (false, eval e1 X.env) :: starEach [e2, e3, .Lambda params body scope lpos] X.env)
    (he4 : backTo pos (starEach [e1, e2, e3, .Lambda params body scope lpos] X.env) = [(false, eval e1 X.env), (false, eval e2 X.env), (false, eval e3 X.env), (false, eval (.Lambda params body scope lpos) X.env)])
    (hpl : ((backTo pos (starEach [e1, e2, e3, .Lambda params body scope lpos] X.env)).any (·.1) || (backToKw pos (keywordEach kws X.env)).any (·.1.isNone)) = false)
    {F0 B H : Hp} {ρ : AEnv} {ω : DW} {σ : L2.St} {Qa : D → DW → Prop} {Ea : AX (wdB (TWd T) B00)} {Q : VK} {pins : List (Addr × Obj)} {s : Shared}
    (hs : Hst (wdB (TWd T) B00) X.K F0 B ω H) (hev : EnvOk X.K F0 B ρ σ) (hg : gCallL (B00 := B00) asp idx js ks.length LK dfl a1 a2 a3 gk ρ ω Qa Ea) (hK : KOk (wdB (TWd T) B00) X.K F0 B Qa Q) (hx : XOk (wdB (TWd T) B00) X.K F0 B Ea (fun c d h => W c d σ h)) (I : Inv X pins σ H s) :
    wpAny (model X.prog X.w) X.A (callWith pos (.ref f) [] (backTo pos (starEach [e1, e2, e3, .Lambda params body scope lpos] X.env)) (backToKw pos (keywordEach kws X.env))) (EP X pins σ Q) X.xe s := by
  obtain ⟨t1, p1, r1⟩ := g1.ex
  obtain ⟨t2, p2, r2⟩ := g2.ex
  obtain ⟨t3, p3, r3⟩ := g3.ex
  obtain ⟨tk4, p4, r4⟩ := hkw.ex
  refine PySem.W.callWith_KW (h₀ := X.base) I.ok.mod.kin hk hall ?_ hpl he
  rw [he4]
  refine Calls.spliced_cons (thn (p1.run pins s σ H (fun v H1 => ∃ B1 ω1 d1, Same B B1 ∧ Hst (wdB (TWd T) B00) X.K F0 B1 ω1 H1 ∧ Rep X.K B1 v d1 ∧ _) I (r1 F0 B ρ ω σ H _ Ea _ hs hev hg (fun B1 ω1 H1 v d m h r q => ⟨B1, ω1, d, m, h, r, q⟩) hx)) fun u1 s1 ⟨v1, H1, I1, rv1, B1, ω1, d1, m1, h1, rr1, q1⟩ => ?_)
  have hev1 := hev.mono m1
  have hx1 := hx.mono m1
  refine Calls.spliced_cons (thn (p2.run pins s1 σ H1 (fun v H2 => ∃ B2 ω2 d2, Same B1 B2 ∧ Hst (wdB (TWd T) B00) X.K F0 B2 ω2 H2 ∧ Rep X.K B2 v d2 ∧ _) I1 (r2 F0 B1 ρ ω1 σ H1 _ Ea _ h1 hev1 q1 (fun B2 ω2 H2 v d m h r q => ⟨B2, ω2, d, m, h, r, q⟩) hx1)) fun u2 s2 ⟨v2, H2, I2, rv2, B2, ω2, d2, m2, h2, rr2, q2⟩ => ?_)
  have hev2 := hev1.mono m2
  have hx2 := hx1.mono m2
  refine Calls.spliced_cons (thn (p3.run pins s2 σ H2 (fun v H3 => ∃ B3 ω3 d3, Same B2 B3 ∧ Hst (wdB (TWd T) B00) X.K F0 B3 ω3 H3 ∧ Rep X.K B3 v d3 ∧ _) I2 (r3 F0 B2 ρ ω2 σ H2 _ Ea _ h2 hev2 q2 (fun B3 ω3 H3 v d m h r q => ⟨B3, ω3, d, m, h, r, q⟩) hx2)) fun u3 s3 ⟨v3, H3, I3, rv3, B3, ω3, d3, m3, h3, rr3, q3⟩ => ?_)
  have hev3 := hev2.mono m3
  have hx3 := hx2.mono m3
  have fr1 : ∀ y ∈ scope.names, y.2 = .free → ∃ c, X.env.cells.lookup y.1 = some c := fun y hy e => (hfree y hy e).elim (fun z => I.ok.has _ (.inl z)) fun z => I.ok.has _ (.inr z)
  obtain ⟨h3a, h3b⟩ := h3.outB
  have hT3 := (h3a.wat.2 _ hmT).2.2
  refine Calls.spliced_cons (lam_make3 I3 TB hcode h3.sB hT3 hdef fr1 fun r c' pm ctv B4 H4 s4 I4 cod hobj hrn hge => ?_)
  obtain ⟨m4, hc4, h4⟩ := h3a.coded hmT hu cod
  have h4' : Hst (wdB (TWd T) B00) X.K F0 B4 ω3 H4 := h4.inB (h3b.trans m4)
  have hev4 := hev3.mono m4
  have hx4 := hx3.mono m4
  refine Calls.spliced_nil ?_
  have hrs : r ∉ frs X.stack := fun hm => (List.mem_cons.mp (I3.stkSub r hm)).elim (fun e => by have := I3.lt; rw [← e] at this; exact Nat.lt_irrefl _ (Nat.lt_of_lt_of_le this hge)) (I3.nofs hge)
  have I4p : Inv X ((r, _) :: pins) σ H4 s4 := MR.Inv.pinned I4 hobj hrn (fun e => by have := I3.lt; rw [← e] at this; exact Nat.lt_irrefl _ (Nat.lt_of_lt_of_le this hge)) (I3.nofs hge) (fun v z => by cases z)
  refine thn (p4.run pos _ s4 σ H4 (fun vs H5 => ∃ B5 ω5 ds, Same B4 B5 ∧ Hst (wdB (TWd T) B00) X.K F0 B5 ω5 H5 ∧ RepAll X.K B5 vs ds ∧ _) I4p (r4 F0 B4 ρ ω3 σ H4 _ Ea _ h4' hev4 q3 (fun B5 ω5 H5 vs ds m h r q => ⟨B5, ω5, ds, m, h, r, q⟩) hx4)) fun ws s5 ⟨zs, H5, I5, rz, B5, ω5, ds, m5, h5, rrz, q5⟩ => ?_
  refine ⟨I5.kIn, ?_⟩
  rw [hks]
  obtain ⟨hpin1, hpin2, _⟩ := I5.pin (r, _) (List.mem_append_right _ List.mem_cons_self)
  have I6 := MR.Inv.unpin I5
  have hev5 := hev4.mono m5
  have hx5 := hx4.mono m5
  obtain ⟨lz, θ, caps, hcap, hLK, q6⟩ := q5
  have q6 := q6 r
  obtain ⟨So, hatS, hrun⟩ := lam_at (k := kl) (a := aspc θ) I6 hfn hat0 hrs hpin1 hpin2 hc4 hev4 hcap S hfree hjs hbind (fun cl So base' up A outer s H E hsub hr' hG' hat' => hlam θ caps hLK B4 r c' cl So base' up A outer s H E (h3b.trans m4) hsub hr' hG' hat')
  obtain ⟨gf, hbn⟩ := hb
  have rall : RepAll X.K B5 ([v1, v2, v3, .ref r] ++ zs ++ dvs) ([d1, d2, d3, .adr r] ++ ds ++ dfl) :=
    ((RepAll.cons ((rr1.mono (m2.trans (m3.trans (m4.trans m5))))) (.cons (rr2.mono (m3.trans (m4.trans m5))) (.cons (rr3.mono (m4.trans m5)) (.cons (.adr r) .nil)))).append rrz).append (hd B5)
  have vall : Vals [v1, v2, v3, .ref r] [u1, u2, u3, .ref r] := .cons rv1 (.cons rv2 (.cons rv3 (.cons rfl .nil)))
  have b := hbn.to s5 [u1, u2, u3, .ref r] ws I6.kIn rfl (by rw [← rz.length, rrz.length]; exact lz)
  refine wpAny_call (codeAny_mono (F.run hr hG I6.env0 b (hbn.rel vall rz) (by unfold sel; rw [List.length_map]; exact hln) ⟨F0, B5, ω5, _, Qa, Ea, r, θ, h5.outB.1, sel_rep rall idx, ?_, q6, fun B' ω' H' v d m h => hK B' ω' H' v d (m1.trans (m2.trans (m3.trans (m4.trans (m5.trans m))))) (h.inB (h3b.trans (m4.trans (m5.trans m)))), fun B' ω' H' cls dx x m h => hx5 B' ω' H' cls dx x m (h.inB (h3b.trans (m4.trans (m5.trans m)))), So, B4, m5, hatS, hrun⟩) fun fl s' hq => ?_)
  · unfold sel
    rw [List.getElem?_map, hi]
    rfl
  · match fl, hq with
    | .error e, hq => exact passAt tk σ _ H5 s5 e s' I6 hq
    | .ok (.ret u), hq => exact I6.after hq
    | .ok .next, hq => exact hq.elim
    | .ok .brk, hq => exact hq.elim
    | .ok .cont, hq => exact hq.elim
end
end MR
namespace MR
open PySem PySem.Spec PyProof.Rows L2 LamX NdefX
section
variable {T : TL} {B00 : Hp}
variable {X : Cx} {W : WX} {Θ : Type} {asp aspc : Θ → ASp (TWd T)} {k kl m i : Nat} {f : Addr} {fd : FuncData} {psF ks : List Str} {idx js : List Nat} {dvs : List V} {dfl : List D} {e1 e2 e3 : Expr} {a1 a2 a3 : AE (wdB (TWd T) B00)} {gk : AA (wdB (TWd T) B00)} {kws : List Keyword}
  {c P : Addr} {params : Arguments} {body : Expr} {scope : Scope} {lpos pos : Pos} {Nl psl fr : List Str} {So0 : List (Addr × Obj)} {LK : Θ → List D → Prop} {x : Str} {p : Pos}
/-- f(e1, e2, e3, lambda .., k=..): a def of the module -/
theorem ge_callL (hm : X.mg x = some (.ref f)) (hfn : ∀ x, X.fn x = true) (F : FnC X.prog X.w X.K X.mg X.base k f fd psF i (TWd T) asp (kl + 1) psl.length aspc) (hk : PySem.W.keepIn X.K (.ref f) = true) (hr : Room k X.A) (hG : X.A.guards = some []) (tk : Takes X W) (hb : Bnd X.K fd psF 4 ks idx dvs) (hd : ∀ B, RepAll X.K B dvs dfl) (hi : idx[i]? = some 3) (hln : idx.length = psF.length)
    (g1 : GE (wdB (TWd T) B00) X W e1 a1) (g2 : GE (wdB (TWd T) B00) X W e2 a2) (g3 : GE (wdB (TWd T) B00) X W e3 a3) (hkw : GK (wdB (TWd T) B00) X W kws gk)
    (TB : TabB X.base X.mg c P) (hcode : X.env.code = .ref c) (hmT : (P, X.env.qual ++ "<lambda>") ∈ T) (hu : ∀ p ∈ T, p.1 = P → p.2 = X.env.qual ++ "<lambda>") (hdef : defaultsOf params X.env = ([], []))
    (S : NScope Nl psl fr scope) (hfree : ∀ y ∈ scope.names, y.2 = .free → X.env.scope.names.lookup y.1 = some .cell ∨ X.env.scope.names.lookup y.1 = some .free) (hjs : js.map (fun j => X.N[j]?) = fr.map some)
    (hbind : ∀ (q : Str) (cl : List (Str × Addr)) (pm cv ctv : Value) (us : List Value), us.length = psl.length → bindArgs (PySem.W.kla_fn "<lambda>" q params body scope cl pm cv ctv) ⟨us, []⟩ = pure (psl.zip us))
    (hat0 : AtB X.base So0)
    (hlam : ∀ θ caps, LK θ caps → ∀ (B : Hp) (r c' : Addr) (cl : List (Str × Addr)) (So : List (Addr × Obj)) (base' : Heap), Up X.K X.mg X.base base' → ∀ (A : Around) (outer : List PySem.Env) (s : Shared) (H : Hp) (E : XK), Same B00 B → (∀ p ∈ So0, p ∈ So) → Room kl (ncx (L2.CX X.prog X.w) X.prog X.w X.K X.mg base' Nl ⟨"<lambda>", X.env.qual ++ "<lambda>", params, [], scope, cl, c'⟩ r A outer s H E).A → (ncx (L2.CX X.prog X.w) X.prog X.w X.K X.mg base' Nl ⟨"<lambda>", X.env.qual ++ "<lambda>", params, [], scope, cl, c'⟩ r A outer s H E).A.guards = some [] → AtB base' So →
      ∃ g, GE (wdB (TWd T) B) (ncx (L2.CX X.prog X.w) X.prog X.w X.K X.mg base' Nl ⟨"<lambda>", X.env.qual ++ "<lambda>", params, [], scope, cl, c'⟩ r A outer s H E) (fun cls d _ H => E cls d H) body g ∧ ∀ ds ω Qa Ea, aspc θ ds ω Qa Ea → ds.length = psl.length → g (startL Nl ds caps) ω Qa Ea)
    (hall : (backToKw pos (keywordEach kws X.env)).all (·.1.isSome) = true := by rfl) (hks : (backToKw pos (keywordEach kws X.env)).filterMap (·.1) = ks := by rfl)
    (he : starEach [e1, e2, e3, .Lambda params body scope lpos] X.env = (false, eval e1 X.env) :: starEach [e2, e3, .Lambda params body scope lpos] X.env := by rfl)
    (he4 : backTo pos (starEach [e1, e2, e3, .Lambda params body scope lpos] X.env) = [(false, eval e1 X.env), (false, eval e2 X.env), (false, eval e3 X.env), (false, eval (.Lambda params body scope lpos) X.env)] := by rfl)
    (hpl : ((backTo pos (starEach [e1, e2, e3, .Lambda params body scope lpos] X.env)).any (·.1) || (backToKw pos (keywordEach kws X.env)).any (·.1.isNone)) = false := by rfl)
    (hg : Gl X x := by rfl) (hdb : (x == ("__debug__" : Str)) = false := by decide) :
    GE (wdB (TWd T) B00) X W (.Call (.Name x p) [e1, e2, e3, .Lambda params body scope lpos] kws pos) (gCallL (B00 := B00) asp idx js ks.length LK dfl a1 a2 a3 gk) :=
  ⟨fun σ H Q => ∀ pins s, L2.Inv X pins σ H s → wpAny (model X.prog X.w) X.A (eval (.Call (.Name x p) [e1, e2, e3, .Lambda params body scope lpos] kws pos) X.env) (EP X pins σ Q) X.xe s, ⟨fun pins s σ H Q I h => h pins s I⟩, fun F0 B ρ ω σ H Qa Ea Q hs hev hgg hK hx pins s I =>
    wpAny_Call_Name_kw (ld_glob I hg hm (callL_core hfn F hk hr hG tk hb hd hi hln g1 g2 g3 hkw TB hcode hmT hu hdef S hfree hjs hbind hat0 hlam hall hks he he4 hpl hs hev hgg hK hx I) hdb)⟩
/-- the same where a name holds the def -/
theorem ge_callLn (jn : Nat) (hfn : ∀ x, X.fn x = true) (F : FnC X.prog X.w X.K X.mg X.base k f fd psF i (TWd T) asp (kl + 1) psl.length aspc) (hk : PySem.W.keepIn X.K (.ref f) = true) (hr : Room k X.A) (hG : X.A.guards = some []) (tk : Takes X W) (hb : Bnd X.K fd psF 4 ks idx dvs) (hd : ∀ B, RepAll X.K B dvs dfl) (hi : idx[i]? = some 3) (hln : idx.length = psF.length)
    (g1 : GE (wdB (TWd T) B00) X W e1 a1) (g2 : GE (wdB (TWd T) B00) X W e2 a2) (g3 : GE (wdB (TWd T) B00) X W e3 a3) (hkw : GK (wdB (TWd T) B00) X W kws gk)
    (TB : TabB X.base X.mg c P) (hcode : X.env.code = .ref c) (hmT : (P, X.env.qual ++ "<lambda>") ∈ T) (hu : ∀ p ∈ T, p.1 = P → p.2 = X.env.qual ++ "<lambda>") (hdef : defaultsOf params X.env = ([], []))
    (S : NScope Nl psl fr scope) (hfree : ∀ y ∈ scope.names, y.2 = .free → X.env.scope.names.lookup y.1 = some .cell ∨ X.env.scope.names.lookup y.1 = some .free) (hjs : js.map (fun j => X.N[j]?) = fr.map some)
    (hbind : ∀ (q : Str) (cl : List (Str × Addr)) (pm cv ctv : Value) (us : List Value), us.length = psl.length → bindArgs (PySem.W.kla_fn "<lambda>" q params body scope cl pm cv ctv) ⟨us, []⟩ = pure (psl.zip us))
    (hat0 : AtB X.base So0)
    (hlam : ∀ θ caps, LK θ caps → ∀ (B : Hp) (r c' : Addr) (cl : List (Str × Addr)) (So : List (Addr × Obj)) (base' : Heap), Up X.K X.mg X.base base' → ∀ (A : Around) (outer : List PySem.Env) (s : Shared) (H : Hp) (E : XK), Same B00 B → (∀ p ∈ So0, p ∈ So) → Room kl (ncx (L2.CX X.prog X.w) X.prog X.w X.K X.mg base' Nl ⟨"<lambda>", X.env.qual ++ "<lambda>", params, [], scope, cl, c'⟩ r A outer s H E).A → (ncx (L2.CX X.prog X.w) X.prog X.w X.K X.mg base' Nl ⟨"<lambda>", X.env.qual ++ "<lambda>", params, [], scope, cl, c'⟩ r A outer s H E).A.guards = some [] → AtB base' So →
      ∃ g, GE (wdB (TWd T) B) (ncx (L2.CX X.prog X.w) X.prog X.w X.K X.mg base' Nl ⟨"<lambda>", X.env.qual ++ "<lambda>", params, [], scope, cl, c'⟩ r A outer s H E) (fun cls d _ H => E cls d H) body g ∧ ∀ ds ω Qa Ea, aspc θ ds ω Qa Ea → ds.length = psl.length → g (startL Nl ds caps) ω Qa Ea)
    (hall : (backToKw pos (keywordEach kws X.env)).all (·.1.isSome) = true := by rfl) (hks : (backToKw pos (keywordEach kws X.env)).filterMap (·.1) = ks := by rfl)
    (he : starEach [e1, e2, e3, .Lambda params body scope lpos] X.env = (false, eval e1 X.env) :: starEach [e2, e3, .Lambda params body scope lpos] X.env := by rfl)
    (he4 : backTo pos (starEach [e1, e2, e3, .Lambda params body scope lpos] X.env) = [(false, eval e1 X.env), (false, eval e2 X.env), (false, eval e3 X.env), (false, eval (.Lambda params body scope lpos) X.env)] := by rfl)
    (hpl : ((backTo pos (starEach [e1, e2, e3, .Lambda params body scope lpos] X.env)).any (·.1) || (backToKw pos (keywordEach kws X.env)).any (·.1.isNone)) = false := by rfl)
    (hN : X.N[jn]? = some x := by rfl) (hv : Vis X.env.scope x := by first | exact Or.inl rfl | exact Or.inr (Or.inl rfl) | exact Or.inr (Or.inr rfl)) (hd' : (x == ("__debug__" : Str)) = false := by decide) (hcd : (x == ("__classdict__" : Str)) = false := by decide) :
    GE (wdB (TWd T) B00) X W (.Call (.Name x p) [e1, e2, e3, .Lambda params body scope lpos] kws pos) (fun ρ ω Q E => ρ[jn]? = some (some (.d (.adr f))) ∧ gCallL (B00 := B00) asp idx js ks.length LK dfl a1 a2 a3 gk ρ ω Q E) :=
  ⟨fun σ H Q => ∀ pins s, L2.Inv X pins σ H s → wpAny (model X.prog X.w) X.A (eval (.Call (.Name x p) [e1, e2, e3, .Lambda params body scope lpos] kws pos) X.env) (EP X pins σ Q) X.xe s, ⟨fun pins s σ H Q I h => h pins s I⟩, fun F0 B ρ ω σ H Qa Ea Q hs hev hgg hK hx pins s I => by
    obtain ⟨hj, hgg⟩ := hgg
    obtain ⟨v, ev, rv⟩ := hev.ent jn _ hj
    cases rv
    refine wpAny_Call_Name_kw (thn ((pe_var (pos := p) hN hv hd' hcd).run pins s σ H (fun v H1 => v = .ref f ∧ H1 = H) I ⟨.ref f, ev, rfl, rfl⟩) fun u s1 ⟨v, H1, I1, r1, q1⟩ => ?_)
    obtain ⟨eu, eH⟩ := q1
    subst eu
    rw [eH] at I1
    obtain rfl : u = Value.ref f := r1
    exact callL_core hfn F hk hr hG tk hb hd hi hln g1 g2 g3 hkw TB hcode hmT hu hdef S hfree hjs hbind hat0 hlam hall hks he he4 hpl hs hev hgg hK hx I1⟩
/-- either of two readings -/
theorem GE.or {wd : Wd} {e : Expr} {g1 g2 : AE wd} (h1 : GE wd X W e g1) (h2 : GE wd X W e g2) : GE wd X W e (fun ρ ω Q E => g1 ρ ω Q E ∨ g2 ρ ω Q E) := by
  obtain ⟨t1, p1, r1⟩ := h1.ex
  obtain ⟨t2, p2, r2⟩ := h2.ex
  refine ⟨fun σ H Q => t1 σ H Q ∨ t2 σ H Q, ⟨fun pins s σ H Q I h => h.elim (p1.run pins s σ H Q I) (p2.run pins s σ H Q I)⟩, fun F0 B ρ ω σ H Qa Ea Q hs hev hg hK hx => ?_⟩
  exact hg.elim (fun z => .inl (r1 F0 B ρ ω σ H Qa Ea Q hs hev z hK hx)) fun z => .inr (r2 F0 B ρ ω σ H Qa Ea Q hs hev z hK hx)
/-- a def's name as a value -/
theorem ge_gdef {wd : Wd} {x : Str} {f : Addr} {pos : Pos} (hm : X.mg x = some (.ref f)) (hg : Gl X x := by rfl) (hd : (x == ("__debug__" : Str)) = false := by decide) : GE wd X W (.Name x pos) (gC (.adr f)) :=
  ⟨_, pe_glob (v := .ref f) hg hm rfl hd, fun F B ρ ω σ H Qa Ea Q hs he h hk hx => ro_same hs (.adr f) h hk⟩
/-- a call of a def that gets a closure: a closure that is at hand -/
def gCallFC {wd : Wd} (asp : ASp wd) (idx : List Nat) (n nk i : Nat) (r : Addr) (dfl : List D) (ga gk : AA (wdB wd B00)) : AE (wdB wd B00) := fun ρ ω Q E => ga ρ ω (fun xs ω1 => gk ρ ω1 (fun zs ω2 => xs.length = n ∧ zs.length = nk ∧ (sel idx (xs ++ zs ++ dfl) .non)[i]? = some (.adr r) ∧ asp (sel idx (xs ++ zs ++ dfl) .non) ω2 Q E) E) E
theorem ge_callFC {wd : Wd} {asp aspc : Θ → ASp wd} {e : Expr} {es : List Expr} {ga gk : AA (wdB wd B00)} {n kc : Nat} {B0 : Hp} {r : Addr} {θ : Θ} (hm : X.mg x = some (.ref f)) (F : FnC X.prog X.w X.K X.mg X.base k f fd psF i wd asp kc m aspc) (hk : PySem.W.keepIn X.K (.ref f) = true) (hr : Room k X.A) (hG : X.A.guards = some []) (tk : Takes X W) (hb : Bnd X.K fd psF n ks idx dvs) (hd : ∀ B, RepAll X.K B dvs dfl) (hln : idx.length = psF.length)
    (hat0 : AtB X.base So0) (hrun : CloRun X.prog X.w X.K X.mg X.base kc wd So0 B0 r m (aspc θ)) (hB : Same B0 B00)
    (ha : GA (wdB wd B00) X W (e :: es) ga) (hkw : GK (wdB wd B00) X W kws gk) (hall : (backToKw pos (keywordEach kws X.env)).all (·.1.isSome) = true := by rfl) (hks : (backToKw pos (keywordEach kws X.env)).filterMap (·.1) = ks := by rfl) (he : starEach (e :: es) X.env = (false, eval e X.env) :: starEach es X.env := by rfl) (hpl : ((backTo pos (starEach (e :: es) X.env)).any (·.1) || (backToKw pos (keywordEach kws X.env)).any (·.1.isNone)) = false := by rfl)
    (hg : Gl X x := by rfl) (hdb : (x == ("__debug__" : Str)) = false := by decide) :
    GE (wdB wd B00) X W (.Call (.Name x p) (e :: es) kws pos) (gCallFC (B00 := B00) (asp θ) idx n ks.length i r dfl ga gk) := by
  obtain ⟨t, pa, ra⟩ := ha.ex
  obtain ⟨tk4, pk, rk⟩ := hkw.ex
  refine ⟨fun σ H Q => ∀ pins s, L2.Inv X pins σ H s → wpAny (model X.prog X.w) X.A (eval (.Call (.Name x p) (e :: es) kws pos) X.env) (EP X pins σ Q) X.xe s, ⟨fun pins s σ H Q I h => h pins s I⟩, fun F0 B ρ ω σ H Qa Ea Q hs hev hgg hK hx pins s I => ?_⟩
  refine wpAny_Call_Name_kw (ld_glob I hg hm (PySem.W.callWith_KW (h₀ := X.base) I.ok.mod.kin hk hall ?_ hpl he) hdb)
  refine thn (pa.run pos pins s σ H (fun vs H1 => ∃ B1 ω1 ds, Same B B1 ∧ Hst (wdB wd B00) X.K F0 B1 ω1 H1 ∧ RepAll X.K B1 vs ds ∧ _) I (ra F0 B ρ ω σ H _ Ea _ hs hev hgg (fun B1 ω1 H1 vs ds m h r q => ⟨B1, ω1, ds, m, h, r, q⟩) hx)) fun us s1 ⟨vs, H1, I1, rv, B1, ω1, ds, m1, h1, rr1, q1⟩ => ?_
  have hev1 := hev.mono m1
  have hx1 := hx.mono m1
  refine thn (pk.run pos pins s1 σ H1 (fun vs H2 => ∃ B2 ω2 ds, Same B1 B2 ∧ Hst (wdB wd B00) X.K F0 B2 ω2 H2 ∧ RepAll X.K B2 vs ds ∧ _) I1 (rk F0 B1 ρ ω1 σ H1 _ Ea _ h1 hev1 q1 (fun B2 ω2 H2 vs ds m h r q => ⟨B2, ω2, ds, m, h, r, q⟩) hx1)) fun ws s2 ⟨zs, H2, I2, rz, B2, ω2, es2, m2, h2, rr2, l1, l2, hir, q2⟩ => ?_
  refine ⟨I2.kIn, ?_⟩
  rw [hks]
  have hx2 := hx1.mono m2
  obtain ⟨gf, hbn⟩ := hb
  have rall := sel_rep (((rr1.mono m2).append rr2).append (hd B2)) idx
  have b := hbn.to s2 us ws I2.kIn (by rw [← rv.length, rr1.length]; exact l1) (by rw [← rz.length, rr2.length]; exact l2)
  refine wpAny_call (codeAny_mono (F.run hr hG I2.env0 b (hbn.rel rv rz) (by unfold sel; rw [List.length_map]; exact hln) ⟨F0, B2, ω2, _, Qa, Ea, r, θ, h2.outB.1, rall, hir, q2, fun B' ω' H' v d m h => hK B' ω' H' v d (m1.trans (m2.trans m)) (h.inB (h2.outB.2.trans m)), fun B' ω' H' cls dx x m h => hx2 B' ω' H' cls dx x m (h.inB (h2.outB.2.trans m)), So0, B0, hB.trans h2.outB.2, hat0.at_ I2.env0, hrun⟩) fun fl s' hq => ?_)
  match fl, hq with
  | .error e, hq => exact passAt tk σ _ H2 s2 e s' I2 hq
  | .ok (.ret u), hq => exact I2.after hq
  | .ok .next, hq => exact hq.elim
  | .ok .brk, hq => exact hq.elim
  | .ok .cont, hq => exact hq.elim
end
end MR
namespace MR
open PySem PySem.Spec PyProof.Rows L2 LamX
section
variable {P : Program} {w : World} {K : PySem.W.Frag} {mg mb : Str → Option Value} {k : Nat} {fa a : Addr} {cs : List (Addr × Addr)} {fd : FuncData} {x : Str} {sp : Sp} {s₁ : Shared} {vs : List Value} {ns : List Int}
/-- the script and the tables, empty yet -/
def scrT (K : PySem.W.Frag) (cs : List (Addr × Addr)) (a : Addr) (vs : List Value) (ns : List Int) : Hp := fun b => if b ∈ cs.map (·.2) then some (.tbl #[]) else scr K a vs ns b
theorem scrT_out {b : Addr} (h : b ∉ cs.map (·.2)) : scrT K cs a vs ns b = scr K a vs ns b := if_neg h
theorem scrT_in {b : Addr} (h : b ∈ cs.map (·.2)) : scrT K cs a vs ns b = some (.tbl #[]) := if_pos h
theorem calledT (KX : K.In s₁.heap) (hns : s₁.heap.Ns mainGlobals mg) (hb : s₁.heap.Ns builtinsNs mb) (hbb : ∀ x : Str, x ≠ "__name__" → mb x = bootBuiltins x) (hlim : s₁.heap.NoLimit) (hg : s₁.gens = #[])
    (hT : ∀ p ∈ cs, s₁.heap.get? p.2 = some { cls := .none, data := .fields #[] }) (nT : ∀ p ∈ cs, K.lookup p.2 = none) (C : ∀ p ∈ cs, PySem.W.CodeHd s₁.heap p.1 p.2)
    (hbm : ∃ (bm : Addr) (ob : Obj), mg "__builtins__" = some (.ref bm) ∧ bm ≠ builtinsNs ∧ s₁.heap.get? bm = some ob ∧ ob.cls = .type "module" ∧ ob.dict = some builtinsNs ∧ ob.data = .plain)
    (ha : s₁.heap.get? a = some ⟨.type "list", none, .seq vs.toArray 0, #[]⟩) (hi : IntsAre vs ns) (hl : ns.length ≤ sizeLine) (hr : Room k callerA)
    (F : ∀ base : Heap, K.In base → base.Ns mainGlobals mg → (∀ p ∈ cs, TabB base mg p.1 p.2) → FnG P w K mg base CX0 k fa fd [x] sp) (hbind : ∀ (s : Shared) (u : Value), BindsTo s fd ⟨[u], []⟩ [(x, u)])
    (hsp : ∀ H : Hp, (∀ p ∈ cs, H p.2 = some (.tbl #[])) → (∃ B : Hp, Same B H ∧ (∀ p ∈ cs, B p.2 = none) ∧ SqL K B a (ns.map V.int)) → sp [.ref a] H (fun v _ => v = .bl true) E0) :
    codeAny (model P w) callerA (.call (.ref fa) ⟨[.ref a], []⟩)
      (fun r s' => r = .ok (.ret (.bool true)) ∧ OldK s₁.heap s'.heap ∧ s'.os = s₁.os ∧ AllBare s'.gens) s₁ := by
  have rv := vals_ints hi
  have isT : ∀ b : Addr, b ∈ cs.map (·.2) → s₁.heap.get? b = some { cls := .none, data := .fields #[] } := fun b hb => by
    obtain ⟨p, hp, e⟩ := List.mem_map.mp hb
    rw [← e]
    exact hT p hp
  have memT : ∀ p ∈ cs, p.2 ∈ cs.map (·.2) := fun p hp => List.mem_map.mpr ⟨p, hp, rfl⟩
  have aT : a ∉ cs.map (·.2) := fun z => by
    have q := isT a z
    rw [ha] at q
    cases q
  -- what is neither a list nor an empty record is not tracked
  have out : ∀ {b : Addr} {o : Obj}, s₁.heap.get? b = some o → (∀ vs n, o.data ≠ .seq vs n) → o.data ≠ .fields #[] → scrT K cs a vs ns b = none := fun {b o} e h1 h2 => by
    by_cases c : b ∈ cs.map (·.2)
    · rw [isT b c] at e
      cases e
      exact (h2 rfl).elim
    · rw [scrT_out c]
      refine scr_none fun z => ?_
      rw [z.1, ha] at e
      cases e
      exact (h1 _ _ rfl).elim
  have up : ∀ {b : Addr} {m : Str → Option Value}, s₁.heap.Ns b m → (hidT s₁.heap (scrT K cs a vs ns)).Ns b m := fun ⟨o, es, ep, e, d, r⟩ => ⟨o, es, ep, hidT_get e (out e (fun _ _ z => by rw [d] at z; cases z) (fun z => by rw [d] at z; cases z)), d, r⟩
  have kb : K.In (hidT s₁.heap (scrT K cs a vs ns)) := fun b o e => hidT_get (KX b o e) (by
    by_cases c : b ∈ cs.map (·.2)
    · obtain ⟨p, hp, ep⟩ := List.mem_map.mp c
      rw [← ep, nT p hp] at e
      cases e
    · rw [scrT_out c]
      exact scr_none fun c => by rw [c.1, c.2] at e; cases e)
  have md : Mod K mg (hidT s₁.heap (scrT K cs a vs ns)) := ⟨kb, up hns, ⟨mb, up hb, hbb⟩, let ⟨mc, h1, h2⟩ := hlim; ⟨mc, up h1, h2⟩⟩
  have hok : HOk P w (scrT K cs a vs ns) s₁.heap := fun b o e => by
    by_cases c : b ∈ cs.map (·.2)
    · rw [scrT_in c] at e
      cases e
      exact isT b c
    · rw [scrT_out c] at e
      obtain ⟨rfl, -, rfl⟩ := scr_some e
      exact ⟨ha, by simpa using hl, vs, 0, rv, ha⟩
  have read : SqL K (scr K a vs ns) a (ns.map V.int) := by
    cases c : K.lookup a with
    | none => exact .inl (.inr ⟨_, if_pos ⟨rfl, c⟩⟩)
    | some o =>
      have e := KX a o c
      rw [ha] at e
      cases e
      exact .inr ⟨_, vs.toArray, _, c, rfl, rfl, rfl, by simpa [hi.length] using hl, by simpa using rv⟩
  have nS : ∀ p ∈ cs, scr K a vs ns p.2 = none := fun p hp => scr_none fun c => aT (by rw [← c.1]; exact memT p hp)
  have TB : ∀ p ∈ cs, TabB (hidT s₁.heap (scrT K cs a vs ns)) mg p.1 p.2 := fun p hp => by
    have hTp := hT p hp
    refine ⟨?_, ?_, fun z => ?_⟩
    · obtain ⟨o, us, file, tf, flags, tg, inF, text, tt, e1, r1, r2, r3, r4, r5, r6, r7, r8, hne⟩ := C p hp
      refine ⟨o, us, file, tf, flags, tg, inF, text, tt, hidT_get e1 (out e1 (fun vs n z => ?_) fun z => ?_), r1, r2, r3, r4, r5, r6, r7, r8, hne⟩
      · rw [r2] at z
        cases z
      · rw [r2] at z
        cases z
        simp at r3
    · obtain ⟨bm, ob, b1, b2, b3, b4, b5, b6⟩ := hbm
      have nG : bm ≠ mainGlobals := fun q => by
        obtain ⟨o, es, ep, e, hd, _⟩ := hns
        rw [q, e] at b3
        cases b3
        rw [hd] at b6
        cases b6
      have nP : bm ≠ p.2 := fun q => by
        rw [q, hTp] at b3
        cases b3
        cases b6
      refine ⟨bm, ob, b1, b2, nG, nP, hidT_get b3 (out b3 (fun vs n z => ?_) fun z => ?_), b4, b5, b6⟩
      · rw [b6] at z
        cases z
      · rw [b6] at z
        cases z
    · obtain ⟨o, es, ep, e, hd, _⟩ := hns
      rw [z, hTp] at e
      cases e
      cases hd
  have e0 : Env0 P w K mg (hidT s₁.heap (scrT K cs a vs ns)) callerA [] s₁ (scrT K cs a vs ns) :=
    ⟨rfl, md, fun b o e => of_hidT e, Nat.le_of_eq (hidT_size _ _), trivial, (fun b hb => nomatch hb), hok, .of_eq hg⟩
  have sm : Same (scr K a vs ns) (scrT K cs a vs ns) := fun b o e => by
    have c : b ∉ cs.map (·.2) := fun z => by
      obtain ⟨p, hp, ep⟩ := List.mem_map.mp z
      rw [← ep, nS p hp] at e
      cases e
    rw [scrT_out c]
    exact e
  refine codeAny_mono ((F _ kb (up hns) TB).run hr rfl e0 (us := [.ref a]) (vs := [V.ref a]) (hbind s₁ (.ref a)) (.cons rfl .nil) (hsp _ (fun p hp => scrT_in (memT p hp)) ⟨_, sm, nS, read⟩)) fun r s' h => ?_
  match r, h with
  | .error e, h => exact h.elim
  | .ok .next, h => exact h.elim
  | .ok .brk, h => exact h.elim
  | .ok .cont, h => exact h.elim
  | .ok (.ret u), ⟨_, H', os, bare, un, hok', r', q⟩ =>
    subst q
    obtain rfl : u = Value.bool true := r'
    have key : ∀ b o, b ∉ cs.map (·.2) → s₁.heap.get? b = some o → s'.heap.get? b = some o := fun b o nb e => by
      cases c : scr K a vs ns b with
      | none => exact un.keep b o e ((scrT_out nb).trans c) (by intro z; cases z) (by intro z; cases z)
      | some u =>
        have c' := (scrT_out (K := K) (a := a) (vs := vs) (ns := ns) nb).trans c
        obtain ⟨rfl, -, rfl⟩ := scr_some c
        have z := (hok' _ _ (un.frzs _ _ _ c')).1
        rw [ha] at e
        cases e
        exact z
    have grown : ∀ p ∈ cs, ∃ more : Array Value, s'.heap.get? p.2 = some { cls := .none, data := .fields more } := fun p hp => by
      obtain ⟨more, z⟩ := un.tbls p.2 #[] (scrT_in (memT p hp))
      exact ⟨_, hok' p.2 _ z⟩
    refine ⟨rfl, ⟨fun b o e => ?_, fun b o e => ?_⟩, os, bare⟩
    · by_cases hb : b ∈ cs.map (·.2)
      · obtain ⟨p, hp, ep⟩ := List.mem_map.mp hb
        obtain ⟨more, hm⟩ := grown p hp
        rw [← ep] at e ⊢
        rw [hT p hp] at e
        cases e
        exact .inr (.inl ⟨((C p hp).tab (hT p hp)).isCodeTable, rfl, #[], more, rfl, by rw [Array.empty_append]; exact hm⟩)
      · exact .inl (key b o hb e)
    · by_cases hb : b ∈ cs.map (·.2)
      · obtain ⟨p, hp, ep⟩ := List.mem_map.mp hb
        obtain ⟨more, hm⟩ := grown p hp
        rw [← ep]
        exact ⟨_, hm⟩
      · exact ⟨o, key b o hb e⟩
end
/-- where the tables of these defs are, told by the head's view: none of them is of the head's own objects, no two are one -/
def tabsOf (K : PySem.W.Frag) (xs : List Str) : List (Addr × Addr) := xs.filterMap (PySem.W.tabIn K)
def tabsB (xs : List Str) (K : PySem.W.Frag) : Bool := xs.all (fun x => (PySem.W.tabIn K x).isSome) && (tabsOf K xs).all (fun p => (K.lookup p.2).isNone) && decide ((tabsOf K xs).map (·.2)).Nodup
end MR
namespace MR
open PySem PySem.Spec PyProof.Rows L2 LamX
/-- the code object and the table of the def x -/
def cT (K : PySem.W.Frag) (x : Str) : Addr × Addr := (PySem.W.tabIn K x).getD (0, 0)
theorem tabsB_at {xs : List Str} {K : PySem.W.Frag} (h : tabsB xs K = true) {x : Str} (hx : x ∈ xs) : PySem.W.tabIn K x = some (cT K x) ∧ cT K x ∈ tabsOf K xs := by
  unfold tabsB at h
  simp only [Bool.and_eq_true] at h
  obtain ⟨p, hp⟩ := Option.isSome_iff_exists.mp (List.all_eq_true.mp h.1.1 x hx)
  have e : cT K x = p := by unfold cT; rw [hp]; rfl
  exact ⟨by rw [e]; exact hp, List.mem_filterMap.mpr ⟨x, hx, by rw [e]; exact hp⟩⟩
/-- the tables with the lambdas' names -/
def tlOf (K : PySem.W.Frag) (xs : List (Str × Str)) : TL := xs.map fun p => ((cT K p.1).2, p.2)
theorem tlOf_mem {K : PySem.W.Frag} {xs : List (Str × Str)} {x q : Str} (h : (x, q) ∈ xs) : ((cT K x).2, q) ∈ tlOf K xs := List.mem_map.mpr ⟨(x, q), h, rfl⟩
theorem tabsOf_eq {K : PySem.W.Frag} : ∀ {xs : List Str}, (xs.all fun x => (PySem.W.tabIn K x).isSome) = true → tabsOf K xs = xs.map (cT K)
  | [], _ => rfl
  | x :: xs, h => by
    simp only [List.all_cons, Bool.and_eq_true] at h
    obtain ⟨p, hp⟩ := Option.isSome_iff_exists.mp h.1
    have e : cT K x = p := by unfold cT; rw [hp]; rfl
    have ih := tabsOf_eq h.2
    unfold tabsOf at ih ⊢
    rw [List.filterMap_cons, hp, ih, List.map_cons, e]
theorem tlOf_uniq {K : PySem.W.Frag} {xs : List (Str × Str)} (h : tabsB (xs.map (·.1)) K = true) {x q : Str} (hx : (x, q) ∈ xs) : ∀ p ∈ tlOf K xs, p.1 = (cT K x).2 → p.2 = q := fun p hp e => by
  have hB := h
  unfold tabsB at h
  simp only [Bool.and_eq_true, decide_eq_true_eq] at h
  obtain ⟨⟨h1, _⟩, h3⟩ := h
  rw [tabsOf_eq h1, List.map_map, List.map_map] at h3
  obtain ⟨⟨y, r⟩, hy, rfl⟩ := List.mem_map.mp hp
  have nd : (xs.map fun z => (cT K z.1).2).Nodup := h3
  have key : ∀ {l : List (Str × Str)}, (l.map fun z => (cT K z.1).2).Nodup → ∀ a ∈ l, ∀ b ∈ l, (cT K a.1).2 = (cT K b.1).2 → a = b := by
    intro l
    induction l with
    | nil => intro _ a ha; cases ha
    | cons z l ih =>
      intro nd a ha b hb e
      rw [List.map_cons, List.nodup_cons] at nd
      rcases List.mem_cons.mp ha with ea | ha'
      · rcases List.mem_cons.mp hb with eb | hb'
        · rw [ea, eb]
        · rw [ea] at e
          exact absurd (List.mem_map.mpr ⟨b, hb', e.symm⟩) nd.1
      · rcases List.mem_cons.mp hb with eb | hb'
        · rw [eb] at e
          exact absurd (List.mem_map.mpr ⟨a, ha', e⟩) nd.1
        · exact ih nd.2 a ha' b hb' e
  have := key nd (y, r) hy (x, q) hx e
  exact congrArg Prod.snd this
/-- the code object of the def x is the one at cT -/
theorem code_cT {K : PySem.W.Frag} {x q : Str} {params : Arguments} {body : List Stmt} {scope : Scope} {kws : List (Str × V)} {f : Addr} {fd : FuncData} (F : FunD K x q params body scope [] kws f fd) (hf : PySem.W.nsIn K mainGlobals x = some (some (.ref f))) (ht : PySem.W.tabIn K x = some (cT K x)) : fd.code = .ref (cT K x).1 := by
  obtain ⟨oc, od, dV, kV, doc, pm, an, cdv, ct, osl, rfl, lk, -⟩ := F.ex
  generalize cT K x = p at ht
  unfold PySem.W.tabIn at ht
  rw [hf] at ht
  dsimp only at ht
  rw [lk] at ht
  dsimp only at ht
  split at ht
  · rename_i c hc
    split at ht
    · split at ht
      · cases ht
        rfl
      · cases ht
    · cases ht
  · cases ht
end MR
namespace MR
open PySem PySem.Spec PyProof.Rows L2 LamX NdefX
section
variable (P : Program) (w : World) (K : PySem.W.Frag) (mg : Str → Option Value) (base : Heap)
structure KnownC (k : Nat) (x : Str) (f : Addr) (fd : FuncData) (ps : List Str) (i : Nat) (wd : Wd) {Θ : Type} (asp : Θ → ASp wd) (kc m : Nat) (aspc : Θ → ASp wd) : Prop where
  at_ : mg x = some (.ref f)
  keep : PySem.W.keepIn K (.ref f) = true
  ok : FnC P w K mg base k f fd ps i wd asp kc m aspc
end
/-- the free names of a lambda are the cells of its maker -/
def freeB (sc so : Scope) : Bool := sc.names.all fun y => !decide (y.2 = .free) || (decide (so.names.lookup y.1 = some .cell) || decide (so.names.lookup y.1 = some .free))
theorem free_by {sc so : Scope} (h : freeB sc so = true) : ∀ y ∈ sc.names, y.2 = .free → so.names.lookup y.1 = some .cell ∨ so.names.lookup y.1 = some .free := fun y hy e => by
  have z := List.all_eq_true.mp h y hy
  simp only [Bool.or_eq_true, Bool.not_eq_true', decide_eq_false_iff_not, decide_eq_true_eq] at z
  rcases z with z | z | z
  · exact (z e).elim
  · exact .inl z
  · exact .inr z
/-- where the def x stands, by its table -/
theorem nsIn_tab {K : PySem.W.Frag} {x : Str} {p : Addr × Addr} (ht : PySem.W.tabIn K x = some p) : PySem.W.nsIn K mainGlobals x = some (some (.ref (He.ga K x))) := by
  unfold PySem.W.tabIn at ht
  split at ht
  · rename_i f hf
    unfold He.ga
    rw [hf]
  · cases ht
theorem code_at {K : PySem.W.Frag} {xs : List Str} {x q : Str} {params : Arguments} {body : List Stmt} {scope : Scope} {kws : List (Str × V)} {fd : FuncData} (hB : tabsB xs K = true) (hx : x ∈ xs) (F : FunD K x q params body scope [] kws (He.ga K x) fd) : fd.code = .ref (cT K x).1 :=
  code_cT F (nsIn_tab (tabsB_at hB hx).1) (tabsB_at hB hx).1
/-- the law is asked: its script, the tables -/
theorem law_spTl {K : PySem.W.Frag} {H : Hp} {xs : List (Str × Str)} {a : Addr} {ns : List Int} (hl : ns.length ≤ 63) (h1 : tabsB (xs.map (·.1)) K = true) (hT : ∀ p ∈ tabsOf K (xs.map (·.1)), H p.2 = some (.tbl #[])) (hB : ∃ B : Hp, Same B H ∧ (∀ p ∈ tabsOf K (xs.map (·.1)), B p.2 = none) ∧ SqL K B a (ns.map V.int)) :
    toSp (TWd (tlOf K xs)) K 1 aLaw [.ref a] H (fun v _ => v = .bl true) E0 := by
  have key : ∀ p ∈ tlOf K xs, ∃ q ∈ tabsOf K (xs.map (·.1)), q.2 = p.1 := fun p hp => by
    obtain ⟨⟨y, r⟩, hy, rfl⟩ := List.mem_map.mp hp
    exact ⟨cT K y, (tabsB_at h1 (List.mem_map.mpr ⟨_, hy, rfl⟩)).2, rfl⟩
  obtain ⟨B, m, nB, hS⟩ := hB
  refine law_spT hl (fun p hp => ?_) ⟨B, m, fun p hp => ?_, hS⟩
  · obtain ⟨q, hq, e⟩ := key p hp
    rw [← e]
    exact hT q hq
  · obtain ⟨q, hq, e⟩ := key p hp
    rw [← e]
    exact nB q hq
end MR
namespace MR
open PySem PySem.Spec PyProof.Rows L2 LamX NdefX
theorem tk_ncx {P : Program} {w : World} {K : PySem.W.Frag} {mg : Str → Option Value} {base : Heap} {N : List Str} {f : Addr} {F : NF} {A : Around} {outer : List PySem.Env} {s : Shared} {H : Hp} {E : XK} : Takes (ncx (L2.CX P w) P w K mg base N F f A outer s H E) (fun cls d _ H => E cls d H) := takes_of rfl rfl rfl rfl
theorem fnC_no {P : Program} {w : World} {K : PySem.W.Frag} {mg : Str → Option Value} {base : Heap} {k kc m i : Nat} {f : Addr} {fd : FuncData} {ps : List Str} {wd : Wd} {Θ : Type} {asp aspc : Θ → ASp wd} (h : ∀ θ ds ω Q E, ¬ asp θ ds ω Q E) : FnC P w K mg base k f fd ps i wd asp kc m aspc :=
  ⟨fun _ _ _ _ _ _ ⟨_, _, _, _, _, _, _, _, _, _, _, ha, _⟩ => (h _ _ _ _ _ ha).elim⟩
end MR
namespace MR
open PySem PySem.Spec PyProof.Rows L2
/-- what `deal` is for: base, how many limbs, the papers of fewer -/
structure DlT where
  b : Int
  n : Int
  pap : Int → Int → Int → D
def cDeal (θ : DlT) : ASp DWd := fun ds ω Q _ => ∃ x y h, ds = [row (digs θ.b x), row (digs θ.b y), .int h] ∧ 1 ≤ h ∧ h < θ.n ∧ nb θ.b x h.toNat ∧ nb θ.b y h.toNat ∧ Q (.tup [row (digs θ.b (x * y)), θ.pap h x y]) ω
/-- the paper by halves -/
def papH (b : Int) (pap : Int → Int → Int → D) (n x y : Int) : D :=
  .tup [.str "halves", .int ((n + 1) / 2),
    .tup [row (digs b (x % b ^ ((n + 1) / 2).toNat * (y % b ^ ((n + 1) / 2).toNat))), pap ((n + 1) / 2) (x % b ^ ((n + 1) / 2).toNat) (y % b ^ ((n + 1) / 2).toNat)],
    .tup [row (digs b (x / b ^ ((n + 1) / 2).toNat * (y / b ^ ((n + 1) / 2).toNat))), pap (n - (n + 1) / 2) (x / b ^ ((n + 1) / 2).toNat) (y / b ^ ((n + 1) / 2).toNat)],
    .tup [row (digs b (ab (x % b ^ ((n + 1) / 2).toNat - x / b ^ ((n + 1) / 2).toNat) * ab (y % b ^ ((n + 1) / 2).toNat - y / b ^ ((n + 1) / 2).toNat))), pap ((n + 1) / 2) (ab (x % b ^ ((n + 1) / 2).toNat - x / b ^ ((n + 1) / 2).toNat)) (ab (y % b ^ ((n + 1) / 2).toNat - y / b ^ ((n + 1) / 2).toNat))]]
def aByHalves (θ : DlT) : ASp DWd := fun ds ω Q _ => ∃ x y r, ds = [row (digs θ.b x), row (digs θ.b y), .int θ.n, .adr r, .int θ.b] ∧ base_ θ.b ∧ 2 ≤ θ.n ∧ θ.n ≤ 1000 ∧ nb θ.b x θ.n.toNat ∧ nb θ.b y θ.n.toNat ∧ Q (.tup [row (digs θ.b (x * y)), papH θ.b θ.pap θ.n x y]) ω
/-- a part of a paper: the product's row, the paper -/
def dealt (b : Int) (pap : Int → Int → Int → D) (h x y : Int) : D := .tup [row (digs b (x * y)), pap h x y]
/-- the paper by thirds -/
def papT (b : Int) (pap : Int → Int → Int → D) (n x y : Int) : D :=
  .tup [.str "thirds", .int (thd n), .tup [
    dealt b pap (thd n) (x % b ^ (thd n).toNat) (y % b ^ (thd n).toNat),
    dealt b pap (thd n + spr b) (x % b ^ (thd n).toNat + x / b ^ (thd n).toNat % b ^ (thd n).toNat + x / b ^ (thd n).toNat / b ^ (thd n).toNat) (y % b ^ (thd n).toNat + y / b ^ (thd n).toNat % b ^ (thd n).toNat + y / b ^ (thd n).toNat / b ^ (thd n).toNat),
    dealt b pap (thd n + spr b) (ab (x % b ^ (thd n).toNat - x / b ^ (thd n).toNat % b ^ (thd n).toNat + x / b ^ (thd n).toNat / b ^ (thd n).toNat)) (ab (y % b ^ (thd n).toNat - y / b ^ (thd n).toNat % b ^ (thd n).toNat + y / b ^ (thd n).toNat / b ^ (thd n).toNat)),
    dealt b pap (thd n + spr b) (x % b ^ (thd n).toNat + 2 * (x / b ^ (thd n).toNat % b ^ (thd n).toNat) + 4 * (x / b ^ (thd n).toNat / b ^ (thd n).toNat)) (y % b ^ (thd n).toNat + 2 * (y / b ^ (thd n).toNat % b ^ (thd n).toNat) + 4 * (y / b ^ (thd n).toNat / b ^ (thd n).toNat)),
    dealt b pap (n - 2 * thd n) (x / b ^ (thd n).toNat / b ^ (thd n).toNat) (y / b ^ (thd n).toNat / b ^ (thd n).toNat)],
   .tup [row (digs b (x % b ^ (thd n).toNat * (y / b ^ (thd n).toNat % b ^ (thd n).toNat) + x / b ^ (thd n).toNat % b ^ (thd n).toNat * (y % b ^ (thd n).toNat))),
    row (digs b (x % b ^ (thd n).toNat * (y / b ^ (thd n).toNat / b ^ (thd n).toNat) + x / b ^ (thd n).toNat % b ^ (thd n).toNat * (y / b ^ (thd n).toNat % b ^ (thd n).toNat) + x / b ^ (thd n).toNat / b ^ (thd n).toNat * (y % b ^ (thd n).toNat))),
    row (digs b (x / b ^ (thd n).toNat % b ^ (thd n).toNat * (y / b ^ (thd n).toNat / b ^ (thd n).toNat) + x / b ^ (thd n).toNat / b ^ (thd n).toNat * (y / b ^ (thd n).toNat % b ^ (thd n).toNat)))]]
def aByThirds (θ : DlT) : ASp DWd := fun ds ω Q _ => ∃ x y r, ds = [row (digs θ.b x), row (digs θ.b y), .int θ.n, .adr r, .int θ.b] ∧ base_ θ.b ∧ goB "thirds" θ.n θ.b = true ∧ θ.n ≤ 1000 ∧ nb θ.b x θ.n.toNat ∧ nb θ.b y θ.n.toNat ∧ Q (.tup [row (digs θ.b (x * y)), papT θ.b θ.pap θ.n x y]) ω
/-- the paper of two numbers of at most n limbs by roads -/
def pap (b : Int) (road : Int → Str) : Nat → Int → Int → Int → D
  | 0, _, _, _ => .tup [.str "plain", .tup []]
  | f + 1, n, x, y => if x = 0 ∨ y = 0 then .tup [.str "plain", .tup []] else if road n = "plain" then .tup [.str "plain", row (cCar b 0 (cols (digs b x) (digs b y)))] else if road n = "halves" then papH b (pap b road f) n x y else papT b (pap b road f) n x y
/-- what `road_of` is for -/
structure RdT where
  b : Int
  m : Int
  road : Int → Str
def cRoad (θ : RdT) : ASp DWd := fun ds ω Q _ => ∃ k, ds = [.int k] ∧ 1 ≤ k ∧ k ≤ θ.m ∧ Q (.str (θ.road k)) ω
/-- roads by which papers come to an end -/
def RdT.ok (θ : RdT) : Prop := ∀ k, 1 ≤ k → k ≤ θ.m → isRd (θ.road k) = true ∧ goB (θ.road k) k θ.b = true
def aPaperOf : Nat → RdT → ASp DWd
  | 0, _ => fun _ _ _ _ => False
  | dd + 1, θ => fun ds ω Q _ => ∃ x y n r, ds = [row (digs θ.b x), row (digs θ.b y), .int n, .adr r, .int θ.b] ∧ base_ θ.b ∧ 0 ≤ n ∧ n ≤ dd ∧ n ≤ θ.m ∧ θ.m ≤ 1000 ∧ θ.ok ∧ nb θ.b x n.toNat ∧ nb θ.b y n.toNat ∧ Q (.tup [row (digs θ.b (x * y)), pap θ.b θ.road (dd + 1) n x y]) ω
theorem dat_rep {K : PySem.W.Frag} {a : Addr} {d : D} (h : Dat K (.ref a) d) (B : Hp) : Rep K B (.ref a) d := by
  obtain ⟨x, r, p⟩ := h
  cases x <;> first | (obtain ⟨_, e⟩ := r; cases e; done) | (cases r; exact p B) | (cases r; done)
/-- a plan in place of roads -/
def LKpp (θ : RdT) (caps : List D) : Prop := ∃ ps : List Str, caps = [.tup (ps.map D.str)] ∧ ∀ k, 1 ≤ k → k ≤ θ.m → ps[(k - 1).toNat]? = some (θ.road k)
def roadOf (ps : List Str) (k : Int) : Str := ps.getD (k - 1).toNat "plain"
/-- the lambda that paper_of hands on -/
def LKp (dd : Nat) (θ : RdT) (r : Addr) (θ' : DlT) (caps : List D) : Prop := θ' = ⟨θ.b, θ'.n, pap θ.b θ.road dd⟩ ∧ θ'.n ≤ dd ∧ θ'.n ≤ θ.m ∧ θ.m ≤ 1000 ∧ θ.ok ∧ base_ θ.b ∧ caps = [.adr r, .int θ.b]
end MR
namespace MR
open PySem PySem.Spec PyProof.Rows L2
section
variable {X : Cx} {W : WX} {wd : Wd} {pos : Pos}
def sParR (i j : Nat) (g : AE wd) (h : AA wd) : AS wd := fun Da ρ ω => g ρ ω (fun d ω1 => h ρ ω1 (fun l ω2 => Da.nx ((ρ.set j (some (.own l))).set i (some (.d d))) ω2) (fun x ω' => Da.ex x ρ ω')) (fun x ω' => Da.ex x ρ ω')
end
end MR
namespace MR
open PySem PySem.Spec PyProof.Rows L2
theorem ab_mulE {x0 x1 y0 y1 : Int} (h : decide (x0 < x1) = decide (y0 < y1)) : x0 * y0 + x1 * y1 - ab (x0 - x1) * ab (y0 - y1) = x0 * y1 + x1 * y0 := by
  by_cases c : x0 < x1
  · have d : y0 < y1 := by
      rw [decide_eq_true c] at h
      exact of_decide_eq_true h.symm
    rw [show ab (x0 - x1) = x1 - x0 by unfold ab; omega, show ab (y0 - y1) = y1 - y0 by unfold ab; omega]
    simp only [Int.sub_mul, Int.mul_sub]
    omega
  · have d : ¬ y0 < y1 := by
      rw [decide_eq_false c] at h
      exact of_decide_eq_false h.symm
    rw [show ab (x0 - x1) = x0 - x1 by unfold ab; omega, show ab (y0 - y1) = y0 - y1 by unfold ab; omega]
    simp only [Int.sub_mul, Int.mul_sub]
    omega
theorem ab_mulN {x0 x1 y0 y1 : Int} (h : ¬ decide (x0 < x1) = decide (y0 < y1)) : x0 * y0 + x1 * y1 + ab (x0 - x1) * ab (y0 - y1) = x0 * y1 + x1 * y0 := by
  by_cases c : x0 < x1
  · have d : ¬ y0 < y1 := fun d => h (by rw [decide_eq_true c, decide_eq_true d])
    rw [show ab (x0 - x1) = x1 - x0 by unfold ab; omega, show ab (y0 - y1) = y0 - y1 by unfold ab; omega]
    simp only [Int.sub_mul, Int.mul_sub]
    omega
  · have d : y0 < y1 := by
      by_cases d : y0 < y1
      · exact d
      · exact (h (by rw [decide_eq_false c, decide_eq_false d])).elim
    rw [show ab (x0 - x1) = x0 - x1 by unfold ab; omega, show ab (y0 - y1) = y1 - y0 by unfold ab; omega]
    simp only [Int.sub_mul, Int.mul_sub]
    omega
theorem halves_total {x y F : Int} : x % F * (y % F) + F * (x % F * (y / F) + x / F * (y % F) + F * (x / F * (y / F))) = x * y := by
  have ex := Int.emod_add_mul_ediv x F
  have ey := Int.emod_add_mul_ediv y F
  generalize x % F = x0 at *
  generalize x / F = x1 at *
  generalize y % F = y0 at *
  generalize y / F = y1 at *
  subst ex ey
  simp only [Int.add_mul, Int.mul_add]
  rw [show x0 * (F * y1) = F * (x0 * y1) by rw [Int.mul_left_comm], show F * x1 * y0 = F * (x1 * y0) by rw [Int.mul_assoc], show F * x1 * (F * y1) = F * (F * (x1 * y1)) by rw [Int.mul_assoc, Int.mul_left_comm x1]]
  omega
theorem nb_top {b x : Int} {l h m : Nat} (hb : base_ b) (hx : nb b x l) (e : l ≤ h + m) : nb b (x / b ^ h) m := by
  have hp := bpow hb h
  refine ⟨Int.ediv_nonneg hx.nn (Int.le_of_lt hp), ?_⟩
  refine Int.ediv_lt_of_lt_mul hp ?_
  have := (hx.le hb e).lt
  rwa [Nat.add_comm, Int.pow_add] at this
theorem digs_nil0 {b x : Int} {l : Nat} (h : nb b x l) (hb : base_ b) : digs b x = [] ↔ x = 0 := by
  refine ⟨fun e => ?_, fun e => by rw [e, digs_zero hb]⟩
  have w := h.w hb
  rw [e] at w
  exact w.symm
theorem nb_none {b x : Int} (h : nb b x (0 : Int).toNat) : x = 0 := by
  have h1 := h.nn
  have h2 := h.lt
  simp at h2
  omega
end MR
namespace MR
open PySem
section
variable {P : Program} {w : World} {A : Around} {E : Value → Shared → Prop}
variable {s : Shared} {z u v i1 i2 i3 : Addr} {fp1 fp2 fp3 : List Addr} {n i : Nat} {Y1 Y2 Y3 : Nat → Value → Prop} {St1 St2 St3 : Nat → Heap → Prop} {a1 a2 a3 : Value}
theorem zs3_item {Q : Value → Shared → Prop} (S : ZipSep3 z u v i1 i2 i3 fp1 fp2 fp3) (D1 : Draws P w A i1 fp1 n Y1 St1) (D2 : Draws P w A i2 fp2 n Y2 St2) (D3 : Draws P w A i3 fp3 n Y3 St3)
    (hz : ZipS s.heap z u v .none) (hu : IsTupOf3 s.heap u (.ref i1) (.ref i2) (.ref i3)) (hv : IsTupOf3 s.heap v a1 a2 a3) (st1 : St1 i s.heap) (st2 : St2 i s.heap) (st3 : St3 i s.heap) (hi : i < n)
    (hQ : ∀ x1 x2 x3 h' tk, Y1 i x1 → Y2 i x2 → Y3 i x3 → ZipS h' z u v (rawInt s.heap.objs.size) → IsTupOf3 h' v x1 x2 x3 → St1 (i + 1) h' → St2 (i + 1) h' → St3 (i + 1) h' → IsTupOf3 h' s.heap.objs.size x1 x2 x3 → h'.objs.size = s.heap.objs.size + 1 →
      (∀ c o, c ≠ z → c ≠ v → c ≠ i1 → c ≠ i2 → c ≠ i3 → s.heap.get? c = some o → h'.get? c = some o) → Q (.ref s.heap.objs.size) { s with heap := h', toks := tk }) :
    wpAny (model P w) A (Builtin.«zip.__next__» ⟨[.ref z], []⟩) (fun fin s' => ∃ y, fin = .done (.ret y) ∧ Q y s') E s := by
  obtain ⟨H0, gs, dr, t0, os⟩ := s
  show wpAny _ _ (field (.ref z) 2 >>= _) _ _ _; refine wpAny_bind (wpAny_field hz rfl (x := .bool true) rfl ?_)
  show wpAny _ _ (field (.ref z) 3 >>= _) _ _ _; refine wpAny_bind (wpAny_field hz rfl (x := .ref u) rfl (wpAny_bind (wpAny_seqItems hu rfl ?_)))
  show wpAny _ _ (Builtin.SmallTypes.ownedTupleIsFree (.ref z) >>= _) _ _ _; refine wpAny_bind ?_; unfold Builtin.SmallTypes.ownedTupleIsFree
  refine wpAny_bind (wpAny_field hz rfl (x := .none) rfl (wpAny_pure ?_)); simp only [if_true]
  refine wpAny_bind (wpAny_rule (wpAny_bind (wpAny_field hz rfl (x := .ref v) rfl (wpAny_bind (wpAny_setField_rec hz (by simp) fun H1 z1 b1 => ?_)))))
  replace z1 : ZipS H1 z u v .ellipsis := z1
  replace b1 : Heap.SameBut z H0 H1 := b1
  refine wpAny_bind ?_; simp only [List.zipIdx_cons, List.zipIdx_nil, List.forIn_cons, List.forIn_nil]
  refine wpAny_bind (wpAny_bind (wpAny_onRaise ?_)); show wpAny _ _ (Builtin.SmallTypes.nextOrEnd (.ref i1)) _ _ ⟨H1, gs, dr, t0, os⟩
  refine oe_item D1 hi (D1.over st1 b1 S.zf1) fun x1 H2 t1 y1 m1 b2 => ?_
  replace b2 : Heap.SameBut i1 H1 H2 := b2
  have v2 : IsTupOf3 H2 v a1 a2 a3 := b2.extBut _ _ S.Ti1 (b1.extBut _ _ S.TOz hv)
  refine wpAny_bind (wpAny_seqItems (s := ⟨H2, gs, dr, t1, os⟩) v2 rfl (wpAny_bind (updateSeq_IsTupOf3 (s := ⟨H2, gs, dr, t1, os⟩) v2 fun H3 v3 b3 => ?_)))
  replace v3 : IsTupOf3 H3 v x1 a2 a3 := v3
  replace b3 : Heap.SameBut v H2 H3 := b3
  refine wpAny_bind (wpAny_letGo (wpAny_pure (wpAny_bind (wpAny_bind (wpAny_onRaise ?_))))); show wpAny _ _ (Builtin.SmallTypes.nextOrEnd (.ref i2)) _ _ ⟨H3, gs, dr, t1, os⟩
  refine oe_item D2 hi (D2.over (D2.over (D2.over st2 b1 S.zf2) b2 S.sep1_2) b3 S.Tf2) fun x2 H4 t2 y2 m2 b4 => ?_
  replace b4 : Heap.SameBut i2 H3 H4 := b4
  have v4 : IsTupOf3 H4 v x1 a2 a3 := b4.extBut _ _ S.Ti2 v3
  refine wpAny_bind (wpAny_seqItems (s := ⟨H4, gs, dr, t2, os⟩) v4 rfl (wpAny_bind (updateSeq_IsTupOf3 (s := ⟨H4, gs, dr, t2, os⟩) v4 fun H5 v5 b5 => ?_)))
  replace v5 : IsTupOf3 H5 v x1 x2 a3 := v5
  replace b5 : Heap.SameBut v H4 H5 := b5
  refine wpAny_bind (wpAny_letGo (wpAny_pure (wpAny_bind (wpAny_bind (wpAny_onRaise ?_))))); show wpAny _ _ (Builtin.SmallTypes.nextOrEnd (.ref i3)) _ _ ⟨H5, gs, dr, t2, os⟩
  refine oe_item D3 hi (D3.over (D3.over (D3.over (D3.over (D3.over st3 b1 S.zf3) b2 S.sep1_3) b3 S.Tf3) b4 S.sep2_3) b5 S.Tf3) fun x3 H6 t3 y3 m3 b6 => ?_
  replace b6 : Heap.SameBut i3 H5 H6 := b6
  have v6 : IsTupOf3 H6 v x1 x2 a3 := b6.extBut _ _ S.Ti3 v5
  refine wpAny_bind (wpAny_seqItems (s := ⟨H6, gs, dr, t3, os⟩) v6 rfl (wpAny_bind (updateSeq_IsTupOf3 (s := ⟨H6, gs, dr, t3, os⟩) v6 fun H7 v7 b7 => ?_)))
  replace v7 : IsTupOf3 H7 v x1 x2 x3 := v7
  replace b7 : Heap.SameBut v H6 H7 := b7
  refine wpAny_bind (wpAny_letGo (wpAny_pure (wpAny_pure (wpAny_bind (wpAny_seqItems (s := ⟨H7, gs, dr, t3, os⟩) v7 rfl (wpAny_bind (wpAny_newTuple ?_)))))))
  have size : H7.objs.size = H0.objs.size := by rw [b7.1, b6.1, b5.1, b4.1, b3.1, b2.1, b1.1]
  have z5 : ZipS H7 z u v .ellipsis := b7.extBut _ _ S.TOz.symm (b6.extBut _ _ S.zi3 (b5.extBut _ _ S.TOz.symm (b4.extBut _ _ S.zi2 (b3.extBut _ _ S.TOz.symm (b2.extBut _ _ S.zi1 z1)))))
  have keep : ∀ c o, c ≠ z → c ≠ v → c ≠ i1 → c ≠ i2 → c ≠ i3 → H0.get? c = some o → H7.get? c = some o := fun c o e1 e2 e3 e4 e5 g => b7.extBut _ _ e2 (b6.extBut _ _ e5 (b5.extBut _ _ e2 (b4.extBut _ _ e4 (b3.extBut _ _ e2 (b2.extBut _ _ e3 (b1.extBut _ _ e1 g))))))
  have k1 : St1 (i + 1) H7 := D1.over (D1.over (D1.over (D1.over (D1.over m1 b3 S.Tf1) b4 S.sep2_1) b5 S.Tf1) b6 S.sep3_1) b7 S.Tf1
  have k2 : St2 (i + 1) H7 := D2.over (D2.over (D2.over m2 b5 S.Tf2) b6 S.sep3_2) b7 S.Tf2
  have k3 : St3 (i + 1) H7 := D3.over m3 b7 S.Tf3
  have zl : z < H7.objs.size := Heap.lt_size z5
  show wpAny _ _ (Builtin.SmallTypes.ownedTupleHandOut (.ref z) (.ref H7.objs.size) >>= _) _ _ ⟨H7.push { cls := .type "tuple", data := .seq #[x1, x2, x3] }, gs, dr, t3, os⟩
  refine wpAny_bind ?_; unfold Builtin.SmallTypes.ownedTupleHandOut
  have z6 : ZipS (H7.push { cls := .type "tuple", data := .seq #[x1, x2, x3] }) z u v .ellipsis := Heap.get?_push_of_some _ z5
  refine wpAny_bind (wpAny_setField_rec z6 (by simp) fun H8 z7 b8 => ?_)
  replace z7 : ZipS H8 z u v (rawInt H7.objs.size) := z7
  refine wpAny_setField_rec z7 (by simp) fun H9 z8 b9 => ?_
  replace z8 : ZipS H9 z u v (rawInt H7.objs.size) := z8
  replace b8 : Heap.SameBut z (H7.push { cls := .type "tuple", data := .seq #[x1, x2, x3] }) H8 := b8
  replace b9 : Heap.SameBut z H8 H9 := b9
  have lift : ∀ c o, c ≠ z → H7.get? c = some o → H9.get? c = some o := fun c o e g => b9.extBut _ _ e (b8.extBut _ _ e (Heap.get?_push_of_some _ g))
  have new8 : IsTupOf3 H9 H7.objs.size x1 x2 x3 := b9.extBut _ _ (Nat.ne_of_gt zl) (b8.extBut _ _ (Nat.ne_of_gt zl) (Heap.get?_push_size _ rfl))
  have size8 : H9.objs.size = H7.objs.size + 1 := by rw [b9.1, b8.1, Heap.size_push]
  rw [size] at z8 new8 size8
  refine wpAny_pure ⟨_, rfl, ?_⟩
  show Q (.ref H7.objs.size) ⟨H9, gs, dr, t3, os⟩
  rw [size]
  exact hQ x1 x2 x3 H9 t3 y1 y2 y3 z8 (lift _ _ S.TOz v7) (D1.frame _ _ _ k1 fun b hb o g => lift b o (fun q => S.zf1 (q ▸ hb)) g) (D2.frame _ _ _ k2 fun b hb o g => lift b o (fun q => S.zf2 (q ▸ hb)) g) (D3.frame _ _ _ k3 fun b hb o g => lift b o (fun q => S.zf3 (q ▸ hb)) g) new8 size8 fun c o e1 e2 e3 e4 e5 g => lift c o e1 (keep c o e1 e2 e3 e4 e5 g)
theorem zs3_end {Q : Fin → Shared → Prop} (hh : A.handled = none) (S : ZipSep3 z u v i1 i2 i3 fp1 fp2 fp3) (D1 : Draws P w A i1 fp1 n Y1 St1) (D2 : Draws P w A i2 fp2 n Y2 St2) (D3 : Draws P w A i3 fp3 n Y3 St3)
    (hz : ZipS s.heap z u v .none) (hu : IsTupOf3 s.heap u (.ref i1) (.ref i2) (.ref i3)) (hv : IsTupOf3 s.heap v a1 a2 a3) (st1 : St1 n s.heap) (st2 : St2 n s.heap) (st3 : St3 n s.heap)
    (hE : ∀ h' tk e, (∀ c o, c ≠ z → c ≠ v → c ≠ i1 → c ≠ i2 → c ≠ i3 → s.heap.get? c = some o → h'.get? c = some o) → (∃ o, h'.get? e = some o ∧ o.cls = .type "StopIteration") → E (.ref e) { s with heap := h', toks := tk }) :
    wpAny (model P w) A (Builtin.«zip.__next__» ⟨[.ref z], []⟩) Q E s := by
  obtain ⟨H0, gs, dr, t0, os⟩ := s
  show wpAny _ _ (field (.ref z) 2 >>= _) _ _ _; refine wpAny_bind (wpAny_field hz rfl (x := .bool true) rfl ?_)
  show wpAny _ _ (field (.ref z) 3 >>= _) _ _ _; refine wpAny_bind (wpAny_field hz rfl (x := .ref u) rfl (wpAny_bind (wpAny_seqItems hu rfl ?_)))
  show wpAny _ _ (Builtin.SmallTypes.ownedTupleIsFree (.ref z) >>= _) _ _ _; refine wpAny_bind ?_; unfold Builtin.SmallTypes.ownedTupleIsFree
  refine wpAny_bind (wpAny_field hz rfl (x := .none) rfl (wpAny_pure ?_)); simp only [if_true]
  refine wpAny_bind (wpAny_rule (wpAny_bind (wpAny_field hz rfl (x := .ref v) rfl (wpAny_bind (wpAny_setField_rec hz (by simp) fun H1 z1 b1 => ?_)))))
  replace z1 : ZipS H1 z u v .ellipsis := z1
  replace b1 : Heap.SameBut z H0 H1 := b1
  refine wpAny_bind ?_; simp only [List.zipIdx_cons, List.zipIdx_nil, List.forIn_cons, List.forIn_nil]
  refine wpAny_bind (wpAny_bind (wpAny_onRaise ?_)); show wpAny _ _ (Builtin.SmallTypes.nextOrEnd (.ref i1)) _ _ ⟨H1, gs, dr, t0, os⟩
  refine oe_end D1 (D1.over st1 b1 S.zf1) fun H2 b2 => ?_
  replace b2 : Heap.ExtBut i1 H1 H2 := b2
  have z2 : ZipS H2 z u v .ellipsis := b2 _ _ S.zi1 z1
  refine wpAny_bind (wpAny_setField_rec (s := ⟨H2, gs, dr, t0, os⟩) z2 (by simp) fun H3 z3 b3 => wpAny_bind ?_)
  replace z3 : ZipS H3 z u v .none := z3
  replace b3 : Heap.SameBut z H2 H3 := b3
  show wpAny _ _ (forIn (List.zipIdx [Value.ref i2, Value.ref i3] 1) PUnit.unit _ >>= _) _ _ ⟨H3, gs, dr, t0, os⟩
  refine wpAny_bind ?_; simp only [List.zipIdx_cons, List.zipIdx_nil, List.forIn_cons, List.forIn_nil]
  refine wpAny_bind (wpAny_bind (oe_end D2 (D2.over (D2.frame _ _ _ (D2.over st2 b1 S.zf2) fun b hb o g => b2 _ _ (fun q => S.sep1_2 (q ▸ hb)) g) b3 S.zf2) fun H4 b4 => ?_))
  replace b4 : Heap.ExtBut i2 H3 H4 := b4
  refine wpAny_pure (wpAny_bind (wpAny_bind (oe_end D3 (D3.frame _ _ _ (D3.over (D3.frame _ _ _ (D3.over st3 b1 S.zf3) fun b hb o g => b2 _ _ (fun q => S.sep1_3 (q ▸ hb)) g) b3 S.zf3) fun b hb o g => b4 _ _ (fun q => S.sep2_3 (q ▸ hb)) g) fun H5 b5 => ?_)))
  replace b5 : Heap.ExtBut i3 H4 H5 := b5
  refine wpAny_pure (wpAny_pure (wpAny_bind (wpAny_rule (stop_now hh fun H6 e g5 he => ?_))))
  exact hE H6 t0 e (fun c o e1 e2 e3 e4 e5 g => g5 c o (b5 _ _ e5 (b4 _ _ e4 (b3.extBut _ _ e1 (b2 _ _ e3 (b1.extBut _ _ e1 g)))))) he
theorem zs3_next {Q : Option Value → Shared → Prop} (S : ZipSep3 z u v i1 i2 i3 fp1 fp2 fp3) (D1 : Draws P w A.in1 i1 fp1 n Y1 St1) (D2 : Draws P w A.in1 i2 fp2 n Y2 St2) (D3 : Draws P w A.in1 i3 fp3 n Y3 St3)
    (hz : ZipS s.heap z u v .none) (hu : IsTupOf3 s.heap u (.ref i1) (.ref i2) (.ref i3)) (hv : IsTupOf3 s.heap v a1 a2 a3) (st1 : St1 i s.heap) (st2 : St2 i s.heap) (st3 : St3 i s.heap) (hi : i < n)
    (hQ : ∀ x1 x2 x3 h' tk, Y1 i x1 → Y2 i x2 → Y3 i x3 → ZipS h' z u v (rawInt s.heap.objs.size) → IsTupOf3 h' v x1 x2 x3 → St1 (i + 1) h' → St2 (i + 1) h' → St3 (i + 1) h' → IsTupOf3 h' s.heap.objs.size x1 x2 x3 → h'.objs.size = s.heap.objs.size + 1 →
      (∀ c o, c ≠ z → c ≠ v → c ≠ i1 → c ≠ i2 → c ≠ i3 → s.heap.get? c = some o → h'.get? c = some o) → Q (some (.ref s.heap.objs.size)) { s with heap := h', toks := tk }) : wpAny (model P w) A (pyNext (.ref z)) Q E s := by
  have T : s.TypeIs (.ref z) "zip" := ⟨_, hz, rfl⟩
  unfold pyNext; exact wpAny_bind (wpAny_attempt (wpAny_callSpecial?_slot (name := Str.ofString "__next__") T F.slot_zip_next (wpAny_call_entry F.slot_zip_next T F.entry_zip_next
    (zs3_item S D1 D2 D3 hz hu hv st1 st2 st3 hi fun x1 x2 x3 h' tk y1 y2 y3 c1 c2 c3 c4 c5 c6 c7 c8 => wpAny_pure (hQ x1 x2 x3 h' tk y1 y2 y3 c1 c2 c3 c4 c5 c6 c7 c8)) (F.args_zip_next_1 _))))
theorem zs3_over {Q : Option Value → Shared → Prop} (hh : A.in1.handled = none) (S : ZipSep3 z u v i1 i2 i3 fp1 fp2 fp3) (D1 : Draws P w A.in1 i1 fp1 n Y1 St1) (D2 : Draws P w A.in1 i2 fp2 n Y2 St2) (D3 : Draws P w A.in1 i3 fp3 n Y3 St3)
    (hz : ZipS s.heap z u v .none) (hu : IsTupOf3 s.heap u (.ref i1) (.ref i2) (.ref i3)) (hv : IsTupOf3 s.heap v a1 a2 a3) (st1 : St1 n s.heap) (st2 : St2 n s.heap) (st3 : St3 n s.heap)
    (hQ : ∀ h' tk, (∀ c o, c ≠ z → c ≠ v → c ≠ i1 → c ≠ i2 → c ≠ i3 → s.heap.get? c = some o → h'.get? c = some o) → Q none { s with heap := h', toks := tk }) : wpAny (model P w) A (pyNext (.ref z)) Q E s := by
  have T : s.TypeIs (.ref z) "zip" := ⟨_, hz, rfl⟩
  unfold pyNext; refine wpAny_bind (wpAny_attempt (wpAny_callSpecial?_slot (name := Str.ofString "__next__") T F.slot_zip_next (wpAny_call_entry F.slot_zip_next T F.entry_zip_next
    (zs3_end hh S D1 D2 D3 hz hu hv st1 st2 st3 fun h' tk e hk he => ?_) (F.args_zip_next_1 _))))
  obtain ⟨o, ho, hc⟩ := he
  exact wpAny_bind (wpAny_isInstance (T := "StopIteration") (b := true) ⟨o, ho, hc⟩ isSubtype_stop (wpAny_pure (hQ _ _ hk)))
end
theorem zs3Type (a b d c : Value) : checkTypeCall "zip" ⟨[a, b, d], [(Str.ofString "strict", c)]⟩ = pure () := by kernel_rfl
theorem zs3New (a b d c : Value) : checkBuiltinCall "zip.__new__" ⟨[.type "zip", a, b, d], [(Str.ofString "strict", c)]⟩ = pure () := by kernel_rfl
theorem zs3Init (x a b d c : Value) : argsOk "object.__init__" ⟨[x, a, b, d], [(Str.ofString "strict", c)]⟩ := by unfold argsOk; kernel_rfl
abbrev z3T (h : Heap) (o1 o2 o3 : Obj) : Heap := (((h.push o1).push o2).push o3).push { cls := .type "tuple", data := .seq #[.ref h.objs.size, .ref (h.push o1).objs.size, .ref ((h.push o1).push o2).objs.size] }
abbrev z3O (h : Heap) (o1 o2 o3 : Obj) : Heap := (z3T h o1 o2 o3).push { cls := .type "tuple", data := .seq #[.none, .none, .none] }
abbrev z3Z (h : Heap) (o1 o2 o3 : Obj) : Heap := (z3O h o1 o2 o3).push { cls := .type "zip", data := .fields #[.none, .bool false, .bool true, .ref (((h.push o1).push o2).push o3).objs.size, .ref (z3T h o1 o2 o3).objs.size] }
theorem zs3_made {v1 v2 v3 : Value} {o1 o2 o3 : Obj} {G1 G2 G3 : Heap → Prop} (B1 : Begins v1 o1 G1) (B2 : Begins v2 o2 G2) (B3 : Begins v3 o3 G3) :
    Meets (Builtin.«zip.__new__» ⟨[.type "zip", v1, v2, v3], [(Str.ofString "strict", .bool true)]⟩) (fun _ R s => (G1 s.heap ∧ G2 s.heap ∧ G3 s.heap) ∧ R (.ok (.ret (.ref (z3O s.heap o1 o2 o3).objs.size))) { s with heap := z3Z s.heap o1 o2 o3 }) :=
  .of_wp fun P w A R s h => by
    obtain ⟨H0, gs, dr, tk, os⟩ := s
    obtain ⟨⟨h1, h2, h3⟩, h⟩ := h
    have hsub := sub_zip
    have r1 : ∀ {A' : Around} {E : Value → Shared → Prop} {Q : Value → Shared → Prop}, Q (.ref H0.objs.size) ⟨H0.push o1, gs, dr, tk, os⟩ → wpAny (model P w) A' (pyIter v1) Q E ⟨H0, gs, dr, tk, os⟩ := fun q => B1.iter P w _ _ ⟨H0, gs, dr, tk, os⟩ _ h1 q
    have r2 : ∀ {A' : Around} {E : Value → Shared → Prop} {Q : Value → Shared → Prop}, Q (.ref (H0.push o1).objs.size) ⟨(H0.push o1).push o2, gs, dr, tk, os⟩ → wpAny (model P w) A' (pyIter v2) Q E ⟨H0.push o1, gs, dr, tk, os⟩ := fun q => B2.iter P w _ _ ⟨H0.push o1, gs, dr, tk, os⟩ _ (B2.keeps _ _ h2 fun c o g => Heap.get?_push_of_some _ g) q
    have r3 : ∀ {A' : Around} {E : Value → Shared → Prop} {Q : Value → Shared → Prop}, Q (.ref ((H0.push o1).push o2).objs.size) ⟨((H0.push o1).push o2).push o3, gs, dr, tk, os⟩ → wpAny (model P w) A' (pyIter v3) Q E ⟨(H0.push o1).push o2, gs, dr, tk, os⟩ := fun q => B3.iter P w _ _ ⟨(H0.push o1).push o2, gs, dr, tk, os⟩ _ (B3.keeps _ _ h3 fun c o g => Heap.get?_push_of_some _ (Heap.get?_push_of_some _ g)) q
    have e1 : (Str.ofString "strict" == ("strict" : Str)) = true := by decide +kernel
    have e2 : (Str.ofString "strict" != ("strict" : Str)) = false := by decide +kernel
    wp_walk using r1, r2, r3
    exact ⟨_, rfl, h⟩
section
variable {P : Program} {w : World} {A : Around} {E : Value → Shared → Prop} {s : Shared}
/-- its six new cells -/
theorem zs3_begins {v1 v2 v3 : Value} {o1 o2 o3 : Obj} {G1 G2 G3 : Heap → Prop} {Q : Value → Shared → Prop} (B1 : Begins v1 o1 G1) (B2 : Begins v2 o2 G2) (B3 : Begins v3 o3 G3) (h1 : G1 s.heap) (h2 : G2 s.heap) (h3 : G3 s.heap)
    (h : ∀ h', ZipS h' (s.heap.objs.size + 5) (s.heap.objs.size + 3) (s.heap.objs.size + 4) .none → IsTupOf3 h' (s.heap.objs.size + 3) (.ref s.heap.objs.size) (.ref (s.heap.objs.size + 1)) (.ref (s.heap.objs.size + 2)) → IsTupOf3 h' (s.heap.objs.size + 4) .none .none .none →
      h'.get? s.heap.objs.size = some o1 → h'.get? (s.heap.objs.size + 1) = some o2 → h'.get? (s.heap.objs.size + 2) = some o3 → (∀ c o, s.heap.get? c = some o → h'.get? c = some o) → Q (.ref (s.heap.objs.size + 5)) { s with heap := h' }) :
    wpAny (model P w) A (call (.type "zip") [v1, v2, v3] [(Str.ofString "strict", .bool true)]) Q E s := by
  refine callType_newKw F.called_zip (by decide) (zs3Type _ _ _ _) (zs3New _ _ _ _) (fun x => zs3Init x _ _ _ _) F.entry_zip_new (zs3_made B1 B2 B3) ⟨⟨h1, h2, h3⟩, ?_⟩
  have n1 : (s.heap.push o1).objs.size = s.heap.objs.size + 1 := Heap.size_push ..
  have n2 : ((s.heap.push o1).push o2).objs.size = s.heap.objs.size + 2 := (Heap.size_push ..).trans (by rw [n1])
  have n2' : (((s.heap.push o1).push o2).push o3).objs.size = s.heap.objs.size + 3 := (Heap.size_push ..).trans (by rw [n2])
  have n3 : (z3T s.heap o1 o2 o3).objs.size = s.heap.objs.size + 4 := (Heap.size_push ..).trans (by rw [n2'])
  have n4 : (z3O s.heap o1 o2 o3).objs.size = s.heap.objs.size + 5 := (Heap.size_push ..).trans (by rw [n3])
  have up : ∀ {g : Heap} {c : Addr} {x y : Obj}, g.get? c = some x → (g.push y).get? c = some x := fun e => Heap.get?_push_of_some _ e
  have gZ : ZipS (z3Z s.heap o1 o2 o3) (z3O s.heap o1 o2 o3).objs.size (((s.heap.push o1).push o2).push o3).objs.size (z3T s.heap o1 o2 o3).objs.size .none := Heap.get?_push_size _ rfl
  have gO : IsTupOf3 (z3Z s.heap o1 o2 o3) (z3T s.heap o1 o2 o3).objs.size .none .none .none := up (Heap.get?_push_size _ rfl)
  have gT : IsTupOf3 (z3Z s.heap o1 o2 o3) (((s.heap.push o1).push o2).push o3).objs.size (.ref s.heap.objs.size) (.ref (s.heap.push o1).objs.size) (.ref ((s.heap.push o1).push o2).objs.size) := up (up (Heap.get?_push_size _ rfl))
  have g1 : (z3Z s.heap o1 o2 o3).get? s.heap.objs.size = some o1 := up (up (up (up (up (Heap.get?_push_size _ B1.free)))))
  have g2 : (z3Z s.heap o1 o2 o3).get? (s.heap.push o1).objs.size = some o2 := up (up (up (up (Heap.get?_push_size _ B2.free))))
  have g3 : (z3Z s.heap o1 o2 o3).get? ((s.heap.push o1).push o2).objs.size = some o3 := up (up (up (Heap.get?_push_size _ B3.free)))
  rw [n4, n3, n2'] at gZ
  rw [n3] at gO
  rw [n2', n2, n1] at gT
  rw [n1] at g2
  rw [n2] at g3
  show _ ∧ _
  rw [n4]
  exact ⟨⟨_, gZ, rfl⟩, h _ gZ gT gO g1 g2 g3 fun c o e => up (up (up (up (up (up e)))))⟩
end
end MR
namespace MR
open PySem PySem.Spec PyProof.Rows L2
theorem sep3 {n p q r : Nat} (hp : p < n) (hq : q < n) (hr : r < n) : ZipSep3 (n + 5) (n + 3) (n + 4) n (n + 1) (n + 2) [n, p] [n + 1, q] [n + 2, r] := by
  have hp : (p : Nat) < n := hp
  refine ⟨?_, ?_, ?_, ?_, ?_, ?_, ?_, ?_, ?_, ?_, ?_, ?_, ?_, ?_, ?_, ?_, ?_, ?_, ?_, ?_, ?_⟩ <;> first | exact List.mem_cons_self | (intro h; try simp only [List.mem_cons, List.not_mem_nil, or_false] at h; try (rcases h with h | h)) <;> (have h : (_ : Nat) = _ := h; omega)
theorem six6 {z u v i j l c : Addr} (h : c ∈ [z, u, v, i, j, l]) : c = z ∨ c = u ∨ c = v ∨ c = i ∨ c = j ∨ c = l := by simpa using h
theorem fresh6 {X : Cx} {pins : List (Addr × Obj)} {σ : L2.St} {H : Hp} {s : Shared} (I : Inv X pins σ H s) : ∀ c, c ∈ [s.heap.objs.size + 5, s.heap.objs.size + 3, s.heap.objs.size + 4, s.heap.objs.size, s.heap.objs.size + 1, s.heap.objs.size + 2] → FpOk X pins H c := fun c hc => by
  have le : s.heap.objs.size ≤ c := by
    rcases six6 hc with rfl | rfl | rfl | rfl | rfl | rfl
    all_goals first | exact Nat.le_add_right _ _ | exact Nat.le_refl _
  exact I.fpOk le (I.hok.fresh le)
def It3 (K : PySem.W.Frag) (p q r : Addr) : It := ⟨
  fun k H => ∃ us vs ws x y t, SqT K H p us ∧ SqT K H q vs ∧ SqT K H r ws ∧ us.length = vs.length ∧ us.length = ws.length ∧ us[k]? = some x ∧ vs[k]? = some y ∧ ws[k]? = some t,
  fun k H v H' => ∃ a x y t, v = .ref a ∧ H a = none ∧ H' = upd H a (.tup [x, y, t]) ∧ (∀ l, SqT K H p l → l[k]? = some x) ∧ (∀ l, SqT K H q l → l[k]? = some y) ∧ ∀ l, SqT K H r l → l[k]? = some t,
  fun k H => ∃ us vs ws, SqT K H p us ∧ SqT K H q vs ∧ SqT K H r ws ∧ us.length = vs.length ∧ us.length = ws.length ∧ k = us.length⟩
def tns3 (z u v i j l p q r : Addr) (k : Nat) (h : Heap) : Prop := ZipS h z u v .none ∧ IsTupOf3 h u (.ref i) (.ref j) (.ref l) ∧ (∃ x y t, IsTupOf3 h v x y t) ∧ h.IsTupleIter i p k ∧ h.IsTupleIter j q k ∧ h.IsTupleIter l r k
theorem turn_zs3 {P : Program} {w : World} {K : PySem.W.Frag} {elts : List Expr} {kk : Nat} {tpos : Pos} {p q r z u v i j l : Addr} (D : ZipSep3 z u v i j l [i, p] [j, q] [l, r]) (d1 : p ≠ i) (d2 : q ≠ j) (d3 : r ≠ l) :
    Turn P w K (.Tuple elts kk tpos) (It3 K p q r) [z, u, v, i, j, l] z (tns3 z u v i j l p q r) where
  mem := List.mem_cons_self ..
  obj := fun k h st c hc => by
    obtain ⟨hz, hu, ⟨x, y, t, hv⟩, ⟨oi, gi, _, di⟩, ⟨oj, gj, _, dj⟩, ⟨ol, gl, _, dl⟩⟩ := st
    rcases six6 hc with rfl | rfl | rfl | rfl | rfl | rfl
    · exact ⟨_, hz, fun _ e => nomatch e⟩
    · exact ⟨_, hu, fun _ e => nomatch e⟩
    · exact ⟨_, hv, fun _ e => nomatch e⟩
    · exact ⟨oi, gi, fun _ e => nomatch (di.symm.trans e)⟩
    · exact ⟨oj, gj, fun _ e => nomatch (dj.symm.trans e)⟩
    · exact ⟨ol, gl, fun _ e => nomatch (dl.symm.trans e)⟩
  keep := fun k h h' st g => by
    obtain ⟨hz, hu, ⟨x, y, t, hv⟩, hi, hj, hl⟩ := st
    exact ⟨g _ (by simp) _ hz, g _ (by simp) _ hu, ⟨x, y, t, g _ (by simp) _ hv⟩, hi.at (g _ (by simp)), hj.at (g _ (by simp)), hl.at (g _ (by simp))⟩
  item := by
    intro X e1 e2 e3 hc k pins s σ H E I hf st hg
    subst e1 e2 e3
    obtain ⟨hz, hu, ⟨x0, y0, t0, hv⟩, hi, hj, hl⟩ := st
    obtain ⟨us, vs, ws, x, y, t, gu, gv, gw, gl, gl2, hx, hy, ht⟩ := hg
    obtain ⟨as, ra, pa, _⟩ := I.tuple gu
    obtain ⟨bs, rb, pb, _⟩ := I.tuple gv
    obtain ⟨cs, rc, pc, _⟩ := I.tuple gw
    have pa : s.heap.IsTuple p as.toArray := pa
    have pb : s.heap.IsTuple q bs.toArray := pb
    have pc : s.heap.IsTuple r cs.toArray := pc
    obtain ⟨a, ha, xa⟩ := ra.get hx
    obtain ⟨b, hb, yb⟩ := rb.get hy
    obtain ⟨c, hc', tc⟩ := rc.get ht
    have hh : X.A.in1.handled = none := I.ok.hd hc
    have ez : bs.toArray.size = as.toArray.size := by rw [List.size_toArray, List.size_toArray, ← ra.length, ← rb.length, gl]
    have ez2 : cs.toArray.size = as.toArray.size := by rw [List.size_toArray, List.size_toArray, ← ra.length, ← rc.length, gl2]
    have la : k < as.toArray.size := by simpa using (List.getElem?_eq_some_iff.mp ha).1
    have zl : z < s.heap.objs.size := Heap.lt_size hz
    refine zs3_next D (Draws.tuple hh i p d1 as.toArray) (ez ▸ Draws.tuple hh j q d2 bs.toArray) (ez2 ▸ Draws.tuple hh l r d3 cs.toArray) hz hu hv ⟨hi, pa⟩ ⟨hj, pb⟩ ⟨hl, pc⟩ la fun a' b' c' h' tk f1 f2 f3 nz nv ni nj nl nt sz hk => ?_
    have ea : a' = a := by
      rw [List.getElem?_toArray, ha] at f1
      exact (Option.some.inj f1).symm
    have eb : b' = b := by
      rw [List.getElem?_toArray, hb] at f2
      exact (Option.some.inj f2).symm
    have ec : c' = c := by
      rw [List.getElem?_toArray, hc'] at f3
      exact (Option.some.inj f3).symm
    subst ea eb ec
    refine ⟨_, rfl, zs_go (s := { s with heap := h', toks := tk }) nz fun h2 nz2 sb => ?_⟩
    have nt2 := (sb.2 _ (Nat.ne_of_gt zl)).trans nt
    have fresh : ObjOk X.prog X.w (upd H s.heap.objs.size (.tup [x, y, t])) h2 s.heap.objs.size (.tup [x, y, t]) :=
      ⟨by show 3 ≤ sizeLine; decide, [a', b', c'], .cons xa (.cons yb (.cons tc .nil)), ⟨_, nt2, rfl, _, rfl⟩⟩
    have I1 : Inv X pins σ (upd H s.heap.objs.size (.tup [x, y, t])) { s with heap := h2, toks := tk } :=
      I.turnedNew (ch := [z, u, v, i, j, l]) (fun c o hn g => (sb.2 c fun e => hn (by simp [e])).trans (hk c o (fun e => hn (by simp [e])) (fun e => hn (by simp [e])) (fun e => hn (by simp [e])) (fun e => hn (by simp [e])) (fun e => hn (by simp [e])) g)) hf (Nat.le_refl _) fresh
    refine ⟨.ref s.heap.objs.size, _, I1, rfl, ⟨_, x, y, t, rfl, I.hok.fresh (Nat.le_refl _), rfl, fun l hl => by rw [I.tuple_inj hl gu]; exact hx, fun l hl => by rw [I.tuple_inj hl gv]; exact hy, fun l hl => by rw [I.tuple_inj hl gw]; exact ht⟩, ⟨nz2, ?_, ⟨a', b', c', ?_⟩, ?_, ?_, ?_⟩, fun c hm => ?_⟩
    · exact (sb.2 _ D.TIz).trans (hk _ _ D.TIz D.TITO D.TIi1 D.TIi2 D.TIi3 hu)
    · exact (sb.2 _ D.TOz).trans nv
    · exact ni.1.at fun o g => (sb.2 _ D.zi1.symm).trans g
    · exact nj.1.at fun o g => (sb.2 _ D.zi2.symm).trans g
    · exact nl.1.at fun o g => (sb.2 _ D.zi3.symm).trans g
    · have lt : c < s.heap.objs.size := by
        rcases six6 hm with rfl | rfl | rfl | rfl | rfl | rfl
        · exact zl
        · exact Heap.lt_size hu
        · exact Heap.lt_size hv
        · exact Heap.lt_size hi.choose_spec.1
        · exact Heap.lt_size hj.choose_spec.1
        · exact Heap.lt_size hl.choose_spec.1
      rw [upd_ne (Nat.ne_of_lt lt)]
      exact (hf c hm).1
  done := by
    intro X e1 e2 e3 hc k pins s σ H E I hf st hg
    subst e1 e2 e3
    obtain ⟨hz, hu, ⟨x0, y0, t0, hv⟩, hi, hj, hl⟩ := st
    obtain ⟨us, vs, ws, gu, gv, gw, gl, gl2, rfl⟩ := hg
    obtain ⟨as, ra, pa, _⟩ := I.tuple gu
    obtain ⟨bs, rb, pb, _⟩ := I.tuple gv
    obtain ⟨cs, rc, pc, _⟩ := I.tuple gw
    have pa : s.heap.IsTuple p as.toArray := pa
    have pb : s.heap.IsTuple q bs.toArray := pb
    have pc : s.heap.IsTuple r cs.toArray := pc
    have ea : as.toArray.size = us.length := by rw [List.size_toArray, ra.length]
    have ez : bs.toArray.size = as.toArray.size := by rw [List.size_toArray, List.size_toArray, ← ra.length, ← rb.length, gl]
    have ez2 : cs.toArray.size = as.toArray.size := by rw [List.size_toArray, List.size_toArray, ← ra.length, ← rc.length, gl2]
    have hh : X.A.in1.handled = none := I.ok.hd hc
    rw [← ea] at hi hj hl
    exact zs3_over hh D (Draws.tuple hh i p d1 as.toArray) (ez ▸ Draws.tuple hh j q d2 bs.toArray) (ez2 ▸ Draws.tuple hh l r d3 cs.toArray) hz hu hv ⟨hi, pa⟩ ⟨hj, pb⟩ ⟨hl, pc⟩ fun h' tk g =>
      ⟨rfl, I.turnedL (ch := [z, u, v, i, j, l]) (fun c o hn e => g c o (fun e => hn (by simp [e])) (fun e => hn (by simp [e])) (fun e => hn (by simp [e])) (fun e => hn (by simp [e])) (fun e => hn (by simp [e])) e) hf⟩
  self := fun A k s Q E st h => zs_iter st.1 h
def iZip3X (K : PySem.W.Frag) (ta : TA) : TI := fun σ H R => ta σ H fun vs H1 => ∃ p q r us ws xs, vs = [.ref p, .ref q, .ref r] ∧ SqT K H1 p us ∧ SqT K H1 q ws ∧ SqT K H1 r xs ∧ R (It3 K p q r) H1
theorem pi_zip3 {X : Cx} {e f g : Expr} {ta : TA} {p pos tpos p1 kp : Pos} {j : Nat} {elts : List Expr} {kk : Nat} (hg : Gl X "zip") (hm : X.mg "zip" = none) (ha : PA X [e, f, g] ta)
    (hs : starEach [e, f, g] X.env = (false, eval e X.env) :: starEach [f, g] X.env := by rfl) (hl : (backTo pos (starEach [f, g] X.env)).any (·.1) = false := by rfl) :
    PI X (.Tuple elts kk tpos) (.Call (.Name "zip" p) [e, f, g] [⟨some "strict", .Constant (.bool true) j p1, kp⟩] pos) (iZip3X X.K ta) := by
  refine ⟨fun pins s σ H R I h => ?_⟩
  have pk : PK X [⟨some "strict", .Constant (.bool true) j p1, kp⟩] (tCons (tC (.bl true)) tNil) := pk_cons pe_bl pk_nil
  refine wpAny_Call_Name_kw (ld_blt I hg hm boot_zip (callWith_typeKw (thn (ha.run pos pins s σ H _ I h) fun us s1 ⟨vs, H1, I1, r1, q1⟩ => ?_) (by rw [hs]; rfl) (by rw [hs]; exact hl)))
  obtain ⟨p, q, r, xs, ys, ws, rfl, gx, gy, gz, q1⟩ := q1
  refine thn (pk.run pos pins s1 σ H1 (fun vs H2 => vs = [.bl true] ∧ H2 = H1) I1 ⟨rfl, rfl⟩) fun ks s2 ⟨kvs, H2, I2, rk, ek, eh⟩ => ?_
  subst ek eh
  cases r1 with
  | cons r1 rr =>
    cases rr with
    | cons r' rr =>
      cases rr with
      | cons r'' rr =>
        cases rr
        cases r1
        cases r'
        cases r''
        cases rk with
        | cons rc rcr =>
          cases rcr
          cases rc
          obtain ⟨as, _, pa, _⟩ := I2.tuple gx
          obtain ⟨bs, _, pb, _⟩ := I2.tuple gy
          obtain ⟨cs, _, pc, _⟩ := I2.tuple gz
          have pa : s2.heap.IsTuple p as.toArray := pa
          have pb : s2.heap.IsTuple q bs.toArray := pb
          have pc : s2.heap.IsTuple r cs.toArray := pc
          exact zs3_begins (begins_tuple p as.toArray) (begins_tuple q bs.toArray) (begins_tuple r cs.toArray) pa pb pc fun h' hz hu hv g1 g2 g3 hk => zs_iter hz
            ⟨_, _, _, _, H2, rfl, I2.kept (t' := s2.toks) hk, turn_zs3 (sep3 (Heap.lt_size pa.choose_spec.1) (Heap.lt_size pb.choose_spec.1) (Heap.lt_size pc.choose_spec.1)) (Nat.ne_of_lt (Heap.lt_size pa.choose_spec.1)) (Nat.ne_of_lt (Nat.lt_succ_of_lt (Heap.lt_size pb.choose_spec.1))) (Nat.ne_of_lt (Nat.lt_succ_of_lt (Nat.lt_succ_of_lt (Heap.lt_size pc.choose_spec.1)))), ⟨hz, hu, ⟨_, _, _, hv⟩, ⟨_, g1, rfl, rfl⟩, ⟨_, g2, rfl, rfl⟩, ⟨_, g3, rfl, rfl⟩⟩, fresh6 I2, q1⟩
def YTri (f g e : Nat → Option V) : Nat → Hp → V → Hp → Prop := fun k H v H' => ∃ a x y t, v = .ref a ∧ H a = none ∧ H' = upd H a (.tup [x, y, t]) ∧ f k = some x ∧ g k = some y ∧ e k = some t
theorem walk_zs3 {K : PySem.W.Frag} {p q r : Addr} {us vs ws : List V} (he : us.length = vs.length) (he2 : us.length = ws.length) : Walk (It3 K p q r) us.length (fun H => SqT K H p us ∧ SqT K H q vs ∧ SqT K H r ws) (YTri (fun i => us[i]?) (fun i => vs[i]?) fun i => ws[i]?) := by
  refine ⟨fun k _ hk g => ?_, fun _ g => ⟨us, vs, ws, g.1, g.2.1, g.2.2, he, he2, rfl⟩, fun k H v H' _ g y => ?_⟩
  · have h2 : k < vs.length := by omega
    have h3 : k < ws.length := by omega
    exact ⟨us, vs, ws, us[k], vs[k], ws[k], g.1, g.2.1, g.2.2, he, he2, by simp [hk], by simp [h2], by simp [h3]⟩
  · obtain ⟨t, x, z, w, h1, h2, h3, h4, h5, h6⟩ := y
    exact ⟨t, x, z, w, h1, h2, h3, h4 us g.1, h5 vs g.2.1, h6 ws g.2.2⟩
def zip3D : List D → List D → List D → List D
  | x :: xs, y :: ys, z :: zs => .tup [x, y, z] :: zip3D xs ys zs
  | _, _, _ => []
theorem zip3_len : ∀ {xs ys zs : List D}, xs.length = ys.length → xs.length = zs.length → (zip3D xs ys zs).length = xs.length
  | [], _, _, _, _ => rfl
  | x :: xs, [], _, h, _ => by cases h
  | x :: xs, y :: ys, [], _, h => by cases h
  | x :: xs, y :: ys, z :: zs, h1, h2 => by
    simp only [List.length_cons, Nat.add_right_cancel_iff] at h1 h2
    rw [zip3D, List.length_cons, List.length_cons, zip3_len h1 h2]
theorem zip3_at : ∀ {xs ys zs : List D} {i : Nat} {x y z : D}, xs[i]? = some x → ys[i]? = some y → zs[i]? = some z → (zip3D xs ys zs)[i]? = some (.tup [x, y, z])
  | [], _, _, _, _, _, _, h, _, _ => by simp at h
  | _ :: _, [], _, _, _, _, _, _, h, _ => by simp at h
  | _ :: _, _ :: _, [], _, _, _, _, _, _, h => by simp at h
  | a :: xs, b :: ys, c :: zs, 0, x, y, z, h1, h2, h3 => by
    simp only [List.getElem?_cons_zero, Option.some.injEq] at h1 h2 h3
    subst h1 h2 h3
    rfl
  | a :: xs, b :: ys, c :: zs, i + 1, x, y, z, h1, h2, h3 => by
    simp only [List.getElem?_cons_succ] at h1 h2 h3
    rw [zip3D, List.getElem?_cons_succ]
    exact zip3_at h1 h2 h3
section
variable {wd : Wd} {X : Cx} {W : WX} {e e2 e3 : Expr} {p pos tpos p1 kp : Pos} {j : Nat} {elts : List Expr} {kk : Nat}
theorem wd_tri {K : PySem.W.Frag} {B : Hp} {J : It} {us vs ws : List V} {xs ys zs : List D} {G : Hp → Prop} (r1 : RepAll K B us xs) (r2 : RepAll K B vs ys) (r3 : RepAll K B ws zs) (h1 : xs.length = ys.length) (h2 : xs.length = zs.length)
    (w : Walk J us.length G (YTri (fun i => us[i]?) (fun i => vs[i]?) fun i => ws[i]?)) (hG : ∀ F' B' ω' H', Same B B' → Hst wd K F' B' ω' H' → G H') : WD wd K B J (zip3D xs ys zs) := by
  have e : (zip3D xs ys zs).length = us.length := by rw [zip3_len h1 h2, r1.length]
  refine ⟨_, _, Walk.cast e.symm w, hG, fun i F' B' ω' H v H' hi m st y => ?_⟩
  obtain ⟨T, x, z, t, rfl, hT, rfl, hx, hz, ht⟩ := y
  rw [zip3_len h1 h2] at hi
  have g1 := List.getElem?_eq_getElem hi
  have g2 := List.getElem?_eq_getElem (by omega : i < ys.length)
  have g3 := List.getElem?_eq_getElem (by omega : i < zs.length)
  obtain ⟨u1, f1, q1⟩ := r1.get g1
  obtain ⟨u2, f2, q2⟩ := r2.get g2
  obtain ⟨u3, f3, q3⟩ := r3.get g3
  cases (Eq.symm hx).trans f1
  cases (Eq.symm hz).trans f2
  cases (Eq.symm ht).trans f3
  obtain ⟨s2, st2⟩ := st.new (o := .tup [x, z, t]) hT
  exact ⟨_, _, s2, st2, zip3_at g1 g2 g3, .tup (.inl (.inl upd_same)) (.cons (q1.mono (m.trans s2)) (.cons (q2.mono (m.trans s2)) (.cons (q3.mono (m.trans s2)) .nil)))⟩
def iZip3G (g h f : AE wd) : AA wd := fun ρ ω Q E => g ρ ω (fun d ω1 => h ρ ω1 (fun d2 ω2 => f ρ ω2 (fun d3 ω3 => match d, d2, d3 with
  | .tup xs, .tup ys, .tup zs => xs.length = ys.length ∧ xs.length = zs.length ∧ Q (zip3D xs ys zs) ω3
  | _, _, _ => False) E) E) E
theorem gi_zip3 {g h f : AE wd} (hm : X.mg "zip" = none) (h1 : GE wd X W e g) (h2 : GE wd X W e2 h) (h3 : GE wd X W e3 f) (hgr : Gl X "zip" := by rfl) (hst : starEach [e, e2, e3] X.env = (false, eval e X.env) :: starEach [e2, e3] X.env := by rfl) (hst2 : starEach [e2, e3] X.env = (false, eval e2 X.env) :: starEach [e3] X.env := by rfl) (hst3 : starEach [e3] X.env = (false, eval e3 X.env) :: starEach [] X.env := by rfl) (hpl : (backTo pos (starEach [e2, e3] X.env)).any (·.1) = false := by rfl) :
    GI wd X W (.Tuple elts kk tpos) (.Call (.Name "zip" p) [e, e2, e3] [⟨some "strict", .Constant (.bool true) j p1, kp⟩] pos) (iZip3G g h f) := by
  obtain ⟨ta, pa, ra⟩ := h1.ex
  obtain ⟨tb, pb, rb⟩ := h2.ex
  obtain ⟨tc, pc, rc⟩ := h3.ex
  refine ⟨_, pi_zip3 hgr hm (pa_cons pa (pa_cons pb (pa_cons pc pa_nil hst3) hst2) hst) hst hpl, fun F B ρ ω σ H Qa Ea R hs he hg hk hx => ra F B ρ ω σ H _ _ _ hs he hg (fun B1 ω1 H1 v1 d1 s1 hs1 r1 g1 =>
    rb F B1 ρ ω1 σ H1 _ _ _ hs1 (he.mono s1) g1 (fun B2 ω2 H2 v2 d2 s2 hs2 r2 g2 => rc F B2 ρ ω2 σ H2 _ _ _ hs2 (he.mono (s1.trans s2)) g2 (fun B3 ω3 H3 v3 d3 s3 hs3 r3 g3 => ?_) (hx.mono (s1.trans s2))) (hx.mono s1)) hx⟩
  have r1 := r1.mono (s2.trans s3)
  have r2 := r2.mono s3
  cases d1 <;> cases d2 <;> cases d3 <;> try exact g3.elim
  case tup.tup.tup xs ys zs =>
    cases r1 with
    | tup h1 r1 =>
      cases r2 with
      | tup h2 r2 =>
        cases r3 with
        | tup h3 r3 =>
          obtain ⟨l1, l2, g3⟩ := g3
          exact ⟨_, _, _, _, _, _, rfl, Same.seqT hs3.sB h1, Same.seqT hs3.sB h2, Same.seqT hs3.sB h3, hk _ _ _ _ _ (s1.trans (s2.trans s3)) hs3 (wd_tri r1 r2 r3 l1 l2 (walk_zs3 (by rw [r1.length, r2.length]; exact l1) (by rw [r1.length, r3.length]; exact l2)) fun F' B' ω' H' m st => ⟨Same.seqT (m.trans st.sB) h1, Same.seqT (m.trans st.sB) h2, Same.seqT (m.trans st.sB) h3⟩) g3⟩
end
end MR
namespace MR
open PySem PySem.Spec PyProof.Rows L2
/-- a comprehension that keeps every item, its results in a row -/
theorem comp_rs {wd : Wd} {ds : List D} {t : AG} {tt : AT wd} {te : AE wd} {vs : List Nat} {ρ : AEnv} {ω : wd.W} {Q : List D → wd.W → Prop} {E : AX wd} (rs : List D) (he : rs.length = ds.length) (hl : ds.length ≤ 1000000) (h0 : Q rs ω)
    (step : ∀ (i : Nat) (d : D) (acc : List D) (P : List D → Prop), ds[i]? = some d → acc.length < sizeLine → (∀ r, rs[i]? = some r → P (acc ++ [r])) → t d (wipeA ρ vs) (fun ρ' => tt ρ' ω (fun b ω1 => if b = true then te ρ' ω1 (fun y ω2 => acc.length < sizeLine ∧ ω2 = ω ∧ P (acc ++ [y])) (fun _ _ => False) else ω1 = ω ∧ P acc) (fun _ _ => False))) : aComp ds t tt te vs ρ ω Q E := by
  refine ⟨fun i acc ω' => acc = rs.take i ∧ ω' = ω, ⟨rfl, rfl⟩, ?_, ?_⟩
  · rintro i d acc ω' hd ⟨rfl, rfl⟩
    have hi := (List.getElem?_eq_some_iff.mp hd).1
    have hlen : (rs.take i).length < sizeLine := by
      have : sizeLine = 16777216 := sizeLine_eq
      have := List.length_take_le i rs
      omega
    have z := step i d (rs.take i) (fun l => l = rs.take (i + 1)) hd hlen fun r hr => by rw [List.take_succ, hr]; rfl
    have e : ∀ {A B : Prop}, (A ∧ B) = (B ∧ A) := propext And.comm
    simpa only [e (B := _ = ω')] using z
  · rintro acc ω' ⟨rfl, rfl⟩
    rw [← he, List.take_length]
    exact h0
theorem dbl_nb {b x : Int} {l : Nat} (hb : base_ b) (hx : nb b x l) : ∀ i : Nat, nb b (x * 2 ^ i) (l + i)
  | 0 => by rw [Int.pow_zero, Int.mul_one]; exact hx
  | i + 1 => by
    have h := dbl_nb hb hx i
    rw [Int.pow_succ, ← Int.mul_assoc, show x * 2 ^ i * 2 = x * 2 ^ i + x * 2 ^ i by omega]
    exact h.add h hb
/-- a step of parting by a small number -/
theorem few_step {b f q r v x : Int} (hb : 2 ≤ b) (hx : 0 ≤ x ∧ x < b) (f0 : 0 < f) (hq : 0 ≤ q) (hr : 0 ≤ r ∧ r < f) (h : q * f + r = v) :
    0 ≤ q * b + (r * b + x) / f ∧ (q * b + (r * b + x) / f) * f + (r * b + x) % f = x + b * v ∧ (0 ≤ (r * b + x) % f ∧ (r * b + x) % f < f) ∧
      digs b (q * b + (r * b + x) / f) = (if digs b q = [] ∧ r * b + x < f then [] else (r * b + x) / f :: digs b q) := by
  obtain ⟨s1, s2, s3, s4, s5, s6⟩ := part_step hb hx f0 hr
  refine ⟨Int.add_nonneg (Int.mul_nonneg hq (by omega)) s1, ?_, ⟨s3, s4⟩, ?_⟩
  · rw [← h, Int.add_mul, Int.mul_add, Int.mul_comm b (q * f), Int.mul_right_comm q b f, Int.mul_comm b r]
    omega
  · generalize hd : (r * b + x) / f = d at *
    by_cases z : digs b q = [] ∧ r * b + x < f
    · rw [if_pos z]
      have q0 : q ≤ 0 := (digs_isnil hb).mp z.1
      have d0 : d = 0 := by
        rw [← hd]
        exact Int.ediv_eq_zero_of_lt (by omega) z.2
      rw [d0, show q = 0 by omega, Int.zero_mul]
      exact digs_nil (Int.le_refl 0)
    · rw [if_neg z]
      have pos : 0 < q * b + d := by
        by_cases c : 0 < q
        · have := Int.mul_pos c (by omega : 0 < b)
          omega
        · have q0 : q = 0 := by omega
          have : ¬ r * b + x < f := fun g => z ⟨by rw [q0]; exact digs_nil (Int.le_refl 0), g⟩
          have : 1 ≤ d := by
            rw [← hd]
            exact (Int.le_ediv_iff_mul_le f0).mpr (by omega)
          rw [q0]
          omega
      rw [digs_cons hb pos]
      have e1 : (q * b + d) % b = d := by rw [Int.add_comm, Int.add_mul_emod_self_right, Int.emod_eq_of_lt s1 s2]
      have e2 : (q * b + d) / b = q := by rw [Int.add_comm, Int.add_mul_ediv_right _ _ (by omega), Int.ediv_eq_zero_of_lt s1 s2]; omega
      rw [e1, e2]
theorem nb8 {b : Int} (hb : base_ b) (l : Nat) : b ^ l * 256 ≤ b ^ (l + 8) := by
  rw [Int.pow_add]
  refine Int.mul_le_mul_of_nonneg_left ?_ (Int.le_of_lt (bpow hb l))
  have : (2 : Int) ^ 8 ≤ b ^ 8 := pow_mono (by decide) hb.1 8
  exact this
theorem nb.sh {b x : Int} {l : Nat} (h : nb b x l) (hb : base_ b) (k : Nat) : nb b (b ^ k * x) (k + l) := by
  refine ⟨Int.mul_nonneg (Int.le_of_lt (bpow hb k)) h.nn, ?_⟩
  rw [Int.pow_add]
  exact Int.mul_lt_mul_of_pos_left h.lt (bpow hb k)
/-- by Horner -/
def hor (F u : Int) (L : List Int) : Int := L.foldl (fun t x => F * t + x) u
theorem hor_take {F u x : Int} {L : List Int} {i : Nat} (h : L[i]? = some x) : hor F u (L.take (i + 1)) = F * hor F u (L.take i) + x := by
  unfold hor
  rw [List.take_succ, h, Option.toList_some, List.foldl_append]
  rfl
theorem hor_nb {b u : Int} {l h : Nat} (hb : base_ b) (hu : nb b u l) {L : List Int} (hL : ∀ x ∈ L, nb b x l) : ∀ i, nb b (hor (b ^ h) u (L.take i)) (l + i * (h + 1))
  | 0 => by rw [Nat.zero_mul]; exact hu
  | i + 1 => by
    have ih := hor_nb (h := h) hb hu hL i
    cases e : L[i]? with
    | none =>
      rw [List.take_succ, e, Option.toList_none, List.append_nil]
      exact ih.le hb (Nat.add_le_add_left (Nat.mul_le_mul_right _ (Nat.le_succ i)) l)
    | some x =>
      rw [hor_take e, Nat.add_mul]
      have := (ih.sh hb h).add ((hL x (List.mem_of_getElem? e)).le hb (show l ≤ h + (l + i * (h + 1)) by omega)) hb
      exact this.le hb (by omega)
/-- numbers that are small besides b ^ l -/
theorem nb_few {b v : Int} {l : Nat} (hb : base_ b) (h0 : 0 ≤ v) (h : v < b ^ l * 256) : nb b v (l + 8) := ⟨h0, Int.lt_of_lt_of_le h (nb8 hb l)⟩
theorem spr_seven {b : Int} (hb : base_ b) : 7 ≤ b ^ (spr b).toNat := by
  have b2 := hb.1
  unfold spr
  by_cases c : 7 ≤ b
  · rw [if_pos c]
    show 7 ≤ b ^ 1
    rw [Int.pow_one]
    exact c
  · rw [if_neg c]
    by_cases c2 : b = 2
    · rw [if_pos c2, c2]
      decide
    · rw [if_neg c2]
      have : (3 : Int) ^ 2 ≤ b ^ 2 := pow_mono (by decide) (by omega) 2
      exact Int.le_trans (by decide) this
theorem nb_wide {b v h : Int} (hb : base_ b) (hh : 0 ≤ h) (h0 : 0 ≤ v) (h7 : v < b ^ h.toNat * 7) : nb b v (h + spr b).toNat := by
  have := spr_pos b
  rw [show (h + spr b).toNat = h.toNat + (spr b).toNat by omega]
  refine ⟨h0, Int.lt_of_lt_of_le h7 ?_⟩
  rw [Int.pow_add]
  exact Int.mul_le_mul_of_nonneg_left (spr_seven hb) (Int.le_of_lt (bpow hb _))
/-- what by_thirds puts together -/
theorem thirds_total {x y F : Int} : x % F * (y % F) + F * (x % F * (y / F % F) + x / F % F * (y % F) + F * (x % F * (y / F / F) + x / F % F * (y / F % F) + x / F / F * (y % F) + F * (x / F % F * (y / F / F) + x / F / F * (y / F % F) + F * (x / F / F * (y / F / F))))) = x * y := by
  rw [mul_thirds, Int.emod_add_mul_ediv, Int.emod_add_mul_ediv, Int.emod_add_mul_ediv, Int.emod_add_mul_ediv]
/-- five results of the middles -/
theorem five_of_mid (x0 x1 x2 y0 y1 y2 : Int) : (x0 + x1 + x2) * (y0 + y1 + y2) = x0 * y0 + (x0 * y1 + x1 * y0) + (x0 * y2 + x1 * y1 + x2 * y0) + (x1 * y2 + x2 * y1) + x2 * y2 ∧
    ab (x0 - x1 + x2) * ab (y0 - y1 + y2) * (if decide (x0 - x1 + x2 < 0) ≠ decide (y0 - y1 + y2 < 0) then -1 else 1) = x0 * y0 - (x0 * y1 + x1 * y0) + (x0 * y2 + x1 * y1 + x2 * y0) - (x1 * y2 + x2 * y1) + x2 * y2 ∧
    (x0 + 2 * x1 + 4 * x2) * (y0 + 2 * y1 + 4 * y2) = x0 * y0 + 2 * (x0 * y1 + x1 * y0) + 4 * (x0 * y2 + x1 * y1 + x2 * y0) + 8 * (x1 * y2 + x2 * y1) + 16 * (x2 * y2) := by
  refine ⟨by grind, ?_, by grind⟩
  have h := ab_sgn (x0 - x1 + x2) (y0 - y1 + y2)
  have e : (if decide (x0 - x1 + x2 < 0) ≠ decide (y0 - y1 + y2 < 0) then (-1 : Int) else 1) = sgP ((x0 - x1 + x2 < 0) ≠ (y0 - y1 + y2 < 0)) := by
    unfold sgP
    by_cases h1 : x0 - x1 + x2 < 0 <;> by_cases h2 : y0 - y1 + y2 < 0 <;> simp [h1, h2]
  rw [e, h]
  clear e h
  grind
end MR
namespace MR
open PySem PySem.Spec PyProof.Rows L2
def roadFor (z : Str) (n b : Int) : Str := if goB z n b = true then z else if 2 ≤ n then "halves" else "plain"
theorem roadFor_ok {z : Str} {n b : Int} (hz : isRd z = true) (h : 1 ≤ n) : isRd (roadFor z n b) = true ∧ goB (roadFor z n b) n b = true := by
  unfold roadFor
  by_cases c : goB z n b = true
  · rw [if_pos c]
    exact ⟨hz, c⟩
  · rw [if_neg c]
    by_cases d : 2 ≤ n
    · rw [if_pos d]
      exact ⟨by decide, by rw [go_h]; exact decide_eq_true d⟩
    · rw [if_neg d]
      exact ⟨by decide, by rw [go_p]; exact decide_eq_true h⟩
def LKpb (θ : RdT) (caps : List D) : Prop := ∃ z : Str, caps = [.str z, .int θ.b] ∧ isRd z = true ∧ base_ θ.b ∧ θ.m ≤ 1000 ∧ ∀ k, 1 ≤ k → k ≤ θ.m → θ.road k = roadFor z k θ.b
def aRoadFor : ASp DWd := fun ds ω Q _ => ∃ z n b, ds = [.str z, .int n, .int b] ∧ isRd z = true ∧ 0 ≤ n ∧ n ≤ 1000 ∧ base_ b ∧ Q (.str (roadFor z n b)) ω
def aProductBy : ASp DWd := fun ds ω Q _ => ∃ z x y b l, ds = [.str z, row (digs b x), row (digs b y), .int b] ∧ isRd z = true ∧ base_ b ∧ nb b x l ∧ nb b y l ∧ l ≤ 40 ∧ Q (row (digs b (x * y))) ω
end MR
namespace MR
open PySem PySem.Spec PyProof.Rows L2
/-- a plan for base b, with thirds or without -/
structure PlanOk (th : Bool) (b : Int) (ps : List Str) : Prop where
  le : ps.length ≤ 40
  ok : RdT.ok ⟨b, ps.length, roadOf ps⟩
  no : th = false → ∀ z ∈ ps, z ≠ "thirds"
def papP (b : Int) (ps : List Str) (n x y : Int) : D := pap b (roadOf ps) 41 n x y
theorem road_at {ps : List Str} {n : Int} (h1 : 1 ≤ n) (h2 : n ≤ ps.length) : L2.atI (ps.map D.str) (n - 1) = some (.str (roadOf ps n)) ∧ roadOf ps n ∈ ps := by
  have hlt : (n - 1).toNat < ps.length := by omega
  have e : ps[(n - 1).toNat]? = some (roadOf ps n) := by
    unfold roadOf
    rw [List.getD_eq_getElem?_getD, List.getElem?_eq_getElem hlt]
    rfl
  refine ⟨?_, List.mem_of_getElem? e⟩
  rw [show n - 1 = ((n - 1).toNat : Int) by omega]
  exact atI_nat (by rw [List.getElem?_map, e]; rfl)
end MR
namespace MR
open PySem PySem.Spec PyProof.Rows L2
theorem dep_int (i : Int) : dep (.int i) = 1 := by simp [dep]
theorem dep_str (z : Str) : dep (.str z) = 1 := by simp [dep]
end MR
namespace MR
open PySem PySem.Spec PyProof.Rows L2
def hal (zs : List Str) : Prop := ∀ (i : Nat) z, zs[i]? = some z → z = "plain" ∨ z = "halves" ∧ 1 ≤ i
theorem hal.plan {zs : List Str} (h : hal zs) (hl : zs.length ≤ 40) (b : Int) : PlanOk false b zs := by
  refine ⟨hl, fun k h1 h2 => ?_, fun _ z hz e => ?_⟩
  · have h1 : 1 ≤ k := h1
    have h2 : k ≤ (zs.length : Int) := h2
    obtain ⟨_, rm⟩ := road_at h1 h2
    have e : zs[(k - 1).toNat]? = some (roadOf zs k) := by
      unfold roadOf
      rw [List.getD_eq_getElem?_getD, List.getElem?_eq_getElem (by omega : (k - 1).toNat < zs.length)]
      rfl
    show isRd (roadOf zs k) = true ∧ goB (roadOf zs k) k b = true
    rcases h _ _ e with r | ⟨r, g⟩
    · rw [r, go_p]
      exact ⟨by decide, decide_eq_true h1⟩
    · rw [r, go_h]
      exact ⟨by decide, decide_eq_true (by omega)⟩
  · obtain ⟨i, hi⟩ := List.getElem?_of_mem hz
    rcases h i z hi with r | ⟨r, _⟩
    · rw [r] at e
      exact absurd e (by decide)
    · rw [r] at e
      exact absurd e (by decide)
end MR
namespace MR
open PySem PySem.Spec PyProof.Rows L2 LamX
def refB (T : Addr) : Option Value → Bool
  | some (.ref a) => decide (a = T)
  | _ => false
def strB : Value → Bool
  | .str _ _ => true
  | _ => false
def intB : Value → Bool
  | .int _ _ => true
  | _ => false
def boolB : Value → Bool
  | .bool _ => true
  | _ => false
def clsB (z : String) : Value → Bool
  | .type y => decide (y = z)
  | _ => false
def codB (c T : Addr) (o : Obj) : Bool := clsB "code" o.cls && match o.data with
  | .fields vs => refB T vs[11]? && (strB (vs.getD 18 .none) && (intB (vs.getD 7 .none) && (boolB (vs.getD 9 .none) && (intB (vs.getD 10 .none) && !decide (c = T)))))
  | _ => false
def codeB (g : Addr → Option Obj) (p : Addr × Addr) : Bool := ((g p.2).map He.emptyTab).getD false && ((g p.1).map (codB p.1 p.2)).getD false
theorem refB_of {T : Addr} {v : Option Value} (h : refB T v = true) : v = some (.ref T) := by
  unfold refB at h
  split at h
  · rw [of_decide_eq_true h]
  · cases h
theorem codeB_ok {h : Heap} {p : Addr × Addr} (e : codeB h.get? p = true) : PySem.W.CodeHd h p.1 p.2 ∧ h.get? p.2 = some { cls := .none, data := .fields #[] } := by
  unfold codeB at e
  rw [Bool.and_eq_true] at e
  obtain ⟨e1, e2⟩ := e
  cases h2 : h.get? p.2 with
  | none => rw [h2] at e1; cases e1
  | some o2 =>
    rw [h2] at e1
    have e1 : He.emptyTab o2 = true := e1
    cases h1 : h.get? p.1 with
    | none => rw [h1] at e2; cases e2
    | some o =>
      rw [h1] at e2
      have e2 : codB p.1 p.2 o = true := e2
      refine ⟨?_, by rw [He.emptyTab_eq e1]⟩
      unfold codB at e2
      rw [Bool.and_eq_true] at e2
      obtain ⟨c0, e2⟩ := e2
      split at e2
      · rename_i vs hvs
        simp only [Bool.and_eq_true] at e2
        obtain ⟨c1, c2, c3, c4, c5, c6⟩ := e2
        have hc : o.cls = .type "code" := by
          unfold clsB at c0
          split at c0
          · rename_i y hy
            rw [hy, of_decide_eq_true c0]
          · cases c0
        have r11 := refB_of c1
        have g11 : vs.getD 11 .none = .ref p.2 := by rw [Array.getD_eq_getD_getElem?, r11]; rfl
        obtain ⟨f, tf, k18⟩ : ∃ f tf, vs.getD 18 .none = .str f tf := by
          unfold strB at c2
          split at c2
          · rename_i a b e; exact ⟨a, b, e⟩
          · cases c2
        obtain ⟨i7, t7, k7⟩ : ∃ f tf, vs.getD 7 .none = .int f tf := by
          unfold intB at c3
          split at c3
          · rename_i a b e; exact ⟨a, b, e⟩
          · cases c3
        obtain ⟨b9, k9⟩ : ∃ f, vs.getD 9 .none = .bool f := by
          unfold boolB at c4
          split at c4
          · rename_i a e; exact ⟨a, e⟩
          · cases c4
        obtain ⟨i10, t10, k10⟩ : ∃ f tf, vs.getD 10 .none = .int f tf := by
          unfold intB at c5
          split at c5
          · rename_i a b e; exact ⟨a, b, e⟩
          · cases c5
        exact ⟨o, vs, f, tf, i7, t7, b9, i10, t10, h1, hc, hvs, r11, g11, k18, k7, k9, k10, by simpa using c6⟩
      · cases e2
def obT2 (n : Nat) (fa : List He.Fa) (fn : List He.DefD) (bs : List FB) (ts : List He.Tab) (xs : List Str) (g : Addr → Option Obj) : Bool × He.AlT :=
  let K := He.frT g (sysModules :: cStatics :: He.asD g n)
  (bsAll bs K && (tabsOf K xs).all (codeB g), He.obsT fa fn ts K)
def hookT2 (n : Nat) (fa : List He.Fa) (fn : List He.DefD) (bs : List FB) (ts : List He.Tab) (xs : List Str) : PySem.W.Hook where
  α := Bool × He.AlT
  obs := fun s => obT2 n fa fn bs ts xs s.heap.get?
  val := fun w => (true, He.valT fn ts w)
  says := fun w h => ∃ K : PySem.W.Frag, K.In h ∧ He.SaysT fa fn ts w K ∧ bsAll bs K = true ∧ ∀ p ∈ tabsOf K xs, PySem.W.CodeHd h p.1 p.2 ∧ h.get? p.2 = some { cls := .none, data := .fields #[] }
  of := fun _ _ e => by
    have z := (Prod.mk.inj e).1
    rw [Bool.and_eq_true] at z
    exact ⟨_, He.frT_in, (Prod.mk.inj e).2, z.1, fun p hp => codeB_ok (List.all_eq_true.mp z.2 p hp)⟩
  keeps := fun _ _ _ ⟨K, hK, c, d, e⟩ k => ⟨K, PySem.W.Frag.In.keeps hK k, c, d, fun p hp => ⟨PySem.W.CodeHd.keeps (e p hp).1 k, k _ _ (e p hp).2⟩⟩
theorem obT2_eq {n : Nat} {fa : List He.Fa} {fn : List He.DefD} {bs : List FB} {ts : List He.Tab} {xs : List Str} {g : Addr → Option Obj} {s : Shared} (h : ∀ a, g a = s.heap.get? a) : obT2 n fa fn bs ts xs g = (hookT2 n fa fn bs ts xs).obs s := by
  have e : g = s.heap.get? := funext h
  rw [e]
  rfl
theorem walk_toT2 {l : PySem.W.OpenLaw} {n k : Nat} {q : Program} {loose : List Str} {XP : (Str → Option Value) → Heap → Prop} {YP : World → Heap → Prop} {d : DefRec} {x : Str} (xs : List Str)
    (hn : l.most = some n) (hn2 : n ≤ sizeLine) (hdf : d.params.defaults = []) (hr : Room k callerA)
    (F : ∀ (w : World) (mg : Str → Option Value) (fa : Addr) (h : Heap), YP w h → h.Ns mainGlobals mg → mg d.name = some (.ref fa) →
      ∃ (K : PySem.W.Frag) (fd : FuncData) (sp : Sp), K.In h ∧ tabsB xs K = true ∧ (∀ p ∈ tabsOf K xs, PySem.W.CodeHd h p.1 p.2 ∧ h.get? p.2 = some { cls := .none, data := .fields #[] }) ∧ (∀ (s : Shared) (u : Value), BindsTo s fd ⟨[u], []⟩ [(x, u)]) ∧
        (∀ (H : Hp) (a : Addr) (ns : List Int), ns.length ≤ n → (∀ p ∈ tabsOf K xs, H p.2 = some (.tbl #[])) → (∃ B : Hp, Same B H ∧ (∀ p ∈ tabsOf K xs, B p.2 = none) ∧ SqL K B a (ns.map V.int)) → sp [.ref a] H (fun v _ => v = .bl true) E0) ∧
        ∀ base : Heap, K.In base → base.Ns mainGlobals mg → (∀ p ∈ tabsOf K xs, TabB base mg p.1 p.2) → FnG l.prog w K mg base CX0 k fa fd [x] sp) :
    PySem.W.WalkO q loose XP YP l.row.toRowW d [] (fun f vs => PySem.call f vs) :=
  Att.attach_call hn hdf fun w s₀ s₁ mg mb fa o pm cd doc a vs ns G Y ho hd hcd hmg hobj hints hlen hg => by
    obtain ⟨K, fd, sp, KX, hB, hT, hb, hsp, hF⟩ := F w mg fa _ Y G.T.g hmg
    unfold tabsB at hB
    simp only [Bool.and_eq_true] at hB
    obtain ⟨⟨_, h2⟩, _⟩ := hB
    exact calledT KX G.T.g G.T.b G.T.builtins G.T.nolimit hg (fun p hp => (hT p hp).2) (fun p hp => Option.isNone_iff_eq_none.mp (List.all_eq_true.mp h2 p hp)) (fun p hp => (hT p hp).1) G.T.bmain hobj hints (Nat.le_trans hlen hn2) hr hF hb fun H h1 h2 => hsp H a ns hlen h1 h2
end MR
namespace MR
open PySem PySem.Spec PyProof.Rows L2
theorem isPl.plan {b : Int} {zs : List Str} (h : isPl b zs) (hl : zs.length ≤ 40) : PlanOk true b zs := by
  refine ⟨hl, fun k h1 h2 => ?_, fun e => nomatch e⟩
  have h1 : 1 ≤ k := h1
  have h2 : k ≤ (zs.length : Int) := h2
  have hlt : (k - 1).toNat < zs.length := by omega
  have e : zs[(k - 1).toNat]? = some (roadOf zs k) := by
    unfold roadOf
    rw [List.getD_eq_getElem?_getD, List.getElem?_eq_getElem hlt]
    rfl
  have z := h _ _ e
  rw [show (1 : Int) + ((k - 1).toNat : Nat) = k by omega] at z
  exact z
end MR
namespace MR
open PySem PySem.Spec PyProof.Rows L2
section
variable {P : Program} {w : World} {A : Around} {E : Value → Shared → Prop} {s : Shared}
abbrev setNu (w : World) : Obj := { cls := .type "set", dict := none, data := .set #[] 0 (.fresh 0 0 (!w.params.followText "set-order")) }
theorem set_lstI {l : Addr} {us : Array Value} (ns : List Int) {Q : Value → Shared → Prop} (hh : A.handled = none) (hl : s.heap.IsList l us) (hi : IntsAre us.toList ns) (hb : ns.length + 1 < scanBound)
    (q : ∀ (h' : Heap) (tk c : Nat), SetR w h' s.heap.objs.size (fun j => decide (j ∈ ns)) c → c ≤ ns.length → (∀ b o, s.heap.get? b = some o → h'.get? b = some o) → Q (.ref s.heap.objs.size) { s with heap := h', toks := tk }) :
    wpAny (model P w) A (call (.type "set") [.ref l]) Q E s := by
  have sz : us.size = ns.length := by rw [← Array.length_toList]; exact IntsAre.length hi
  obtain ⟨c, tl, hmro⟩ := F.called_set.mro
  have hmade := F.called_set.made; have hsub := F.called_set.sub
  refine wpAny_call (codeAny_of_tree ?_); show wpAny _ _ (callAny (.type "set") _) _ _ _
  refine wpAny_pure ⟨Code.quiet_builtin _ (by decide +kernel), codeAny_builtin F.entry_type_call ?_⟩; rw [Around.under_plain (weight_type_call_type "set" [.ref l] []) rfl]
  have h1 := F.called_set.notType; have h2 := F.called_set.canCreate; have hct := F.typeCall_set_1 (.ref l)
  repeat (any_goals (first | assumption | wp_step))
  refine codeAny_mono (code_set_led1 (.ref l) (E := E) (Q₁ := fun obj s₁ => obj = .ref s.heap.objs.size ∧ s₁ = { s with heap := s.heap.push (setNu w) }) ⟨rfl, rfl⟩) fun r s₁ hr => ?_
  cases r with
  | error e => exact hr
  | ok fl =>
    cases fl with
    | ret obj =>
      obtain ⟨rfl, rfl⟩ := hr
      have hS : (s.heap.push (setNu w)).get? s.heap.objs.size = some (setNu w) := Heap.get?_push_size _ rfl
      have hT : Shared.TypeIs { s with heap := s.heap.push (setNu w) } (.ref s.heap.objs.size) "set" := ⟨_, hS, rfl⟩
      have hli := F.called_set.init.lookup; have hbi := F.called_set.init.bind (.ref s.heap.objs.size)
      repeat (any_goals (first | assumption | wp_step))
      refine codeAny_mono (codeAny_call_builtin (R := wants (fun r s₂ => r = .none ∧ ∃ h' tk c, s₂ = { s with heap := h', toks := tk } ∧ SetR w h' s.heap.objs.size (fun j => decide (j ∈ ns)) c ∧ c ≤ ns.length ∧ (∀ b o, s.heap.get? b = some o → h'.get? b = some o)) E) F.called_set.init.plain F.entry_set_init (check_set_init_1 hT ?_)) fun r₂ s₂ hr₂ => ?_
      · obtain ⟨ol, hol, hcl, nl, hdl⟩ := hl
        obtain ⟨ocls, odict, odata, oslots⟩ := ol
        simp only at hcl hdl; subst hcl; subst hdl
        have hol' : (s.heap.push (setNu w)).get? l = some { cls := .type "list", dict := odict, data := .seq us nl, slots := oslots } := Heap.get?_push_of_some _ hol
        have e1 := F.sub_list_set; have e2 := F.sub_list_frozenset
        have hne : (Value.type "list" == Value.type "dict") = false := by decide
        have hl1 : (s.heap.push (setNu w)).IsList l us := ⟨_, hol', rfl, nl, rfl⟩
        unfold Builtin.«set.__init__» noKeywords Builtin.Frozenset.updateFrom; generalize hPI : pyIter = PI
        wp_walk
        subst hPI
        refine wpAny_pyIter_list hl1 ?_; refine wpAny_bind (wpAny_runValue ?_)
        have hlS : l < s.heap.objs.size := Heap.lt_size hol
        have hh3 : A.in1.in1.in1.handled = none := by simp [hh]
        have z1 : (s.heap.push (setNu w)).objs.size = s.heap.objs.size + 1 := Heap.size_push ..
        have nI : l ≠ (s.heap.push (setNu w)).objs.size := by rw [z1]; exact Nat.ne_of_lt (Nat.lt_succ_of_lt hlS)
        have sI : s.heap.objs.size ∉ [(s.heap.push (setNu w)).objs.size, l] := by
          rw [z1]; simp only [List.mem_cons, List.mem_singleton, List.not_mem_nil, or_false, not_or]; exact ⟨Nat.ne_of_lt (Nat.lt_succ_self _), Nat.ne_of_gt hlS⟩
        have val : ∀ (i : Nat) (v : Value), us[i]? = some v → ∃ k t, ns[i]? = some k ∧ v = .int k t := fun i v hv => by
          have li : i < ns.length := by rw [← sz]; exact (Array.getElem?_eq_some_iff.mp hv).1
          obtain ⟨t, e⟩ := PyProof.Rows.IntsAre.int_at hi i v (by rw [Array.getElem?_toList]; exact hv)
          exact ⟨ns[i], t, List.getElem?_eq_getElem li, by rw [e, List.getD_eq_getElem?_getD, List.getElem?_eq_getElem li]; rfl⟩
        refine set_update_ints ((Walks.list hh3 _ l nI us).toS) s.heap.objs.size sI ns sz hb val (us.size - 0) 0 _ (by omega) (Nat.zero_le _) ⟨⟨_, Heap.get?_push_size _ rfl, rfl, rfl⟩, (hl1.push _)⟩ ?hS0 ?hR
        case hS0 => exact ⟨0, Nat.le_refl 0, setR_new_at (Heap.get?_push_of_some _ hS)⟩
        case hR =>
          intro s' c' hm hc' hS'
          obtain ⟨h', g2, d', tk', os'⟩ := s'
          obtain rfl : g2 = s.gens := hm.gens
          obtain rfl : d' = s.drawn := hm.drawn
          obtain rfl : os' = s.os := hm.os
          show wpAny _ _ _ _ _ _
          refine wpAny_pure ?_; show wpAny _ _ (ret Value.none) _ _ _
          rw [sz] at hc'
          refine wpAny_pure ⟨rfl, h', tk', c', rfl, hS', hc', fun b o e => ?_⟩
          have b0 : b < s.heap.objs.size := Heap.lt_size e
          have b2 : b ≠ (s.heap.push (setNu w)).objs.size := by rw [z1]; exact Nat.ne_of_lt (Nat.lt_succ_of_lt b0)
          exact hm.heap b o (by simp only [List.mem_cons, List.mem_singleton, List.not_mem_nil, or_false, not_or]; exact ⟨Nat.ne_of_lt b0, b2⟩) (Heap.get?_push_of_some _ (Heap.get?_push_of_some _ e))
      · cases r₂ with
        | error e => exact hr₂
        | ok fl₂ =>
          cases fl₂ with
          | ret r =>
            obtain ⟨rfl, h', tk, c', rfl, hS', hc', hk'⟩ := hr₂
            repeat (any_goals (first | assumption | wp_step))
            exact q _ _ _ hS' hc' hk'
          | _ => exact hr₂.elim
    | _ => exact hr.elim
end
section
variable {X : Cx}
def rSetL2 (K : PySem.W.Frag) (w : World) : List V → Hp → VK → Prop := fun vs H Q => ∃ (p : Addr) (ns : List Int), vs = [V.ref p] ∧ SqL K H p (ns.map V.int) ∧ ns.length ≤ 1000 ∧
  ∀ a c, c ≤ ns.length → H a = none → Q (.ref a) (upd H a (SetO w a (fun j => decide (j ∈ ns)) c))
theorem cr_setL2 (hc : X.calm = true) : CallR X (.type "set") (rSetL2 X.K X.w) := by
  intro pins s σ H vs us Q I r h
  obtain ⟨p, ns, rfl, hq, hl, q⟩ := h
  rw [Vals.ref1 r]
  obtain ⟨its, rv, pt, hz⟩ := I.list hq
  have hi : IntsAre its.toArray.toList ns := ints_of_vals rv
  refine set_lstI ns (I.ok.hd hc) (show s.heap.IsList p its.toArray from pt.isList) hi (by unfold scanBound; omega) fun h' tk c R hcn k => ?_
  exact ⟨.ref s.heap.objs.size, _, I.laid (t' := tk) k (Nat.le_refl _) (setO_new R), rfl, q _ c hcn (I.hok.fresh (Nat.le_refl _))⟩
end
section
variable {wd : Wd} {X : Cx} {W : WX} {pos p1 p2 pos2 : Pos} {e : Expr} {g : AE wd}
/-- sorted(set(l)) of at most 1000 ints, l a list -/
def gSrtL {wd : Wd} (g : AE wd) : AA wd := fun ρ ω Q E => g ρ ω (fun d ω1 => match d with
  | .lst xs => ∃ ns : List Int, xs = ns.map D.int ∧ ns.length ≤ 1000 ∧ ∀ us : List Int, us.Pairwise (· < ·) → (∀ k, k ∈ us ↔ k ∈ ns) → Q (us.map D.int) ω1
  | _ => False) E
theorem gf_srtL (hc : X.calm = true) (hm : X.mg "sorted" = none) (hm2 : X.mg "set" = none) (h : GE wd X W e g) (hg : Gl X "sorted" := by rfl) (hg2 : Gl X "set" := by rfl)
    (hst : starEach [e] X.env = (false, eval e X.env) :: starEach [] X.env := by rfl) (hpl : (backTo pos2 (starEach [] X.env)).any (·.1) = false := by rfl)
    (hst2 : starEach [.Call (.Name "set" p2) [e] [] pos2] X.env = (false, eval (.Call (.Name "set" p2) [e] [] pos2) X.env) :: starEach [] X.env := by rfl) (hpl2 : (backTo pos (starEach [] X.env)).any (·.1) = false := by rfl) :
    GF wd X W (.Call (.Name "sorted" p1) [.Call (.Name "set" p2) [e] [] pos2] [] pos) (gSrtL g) := by
  obtain ⟨t, pe, r⟩ := h.ex
  have ps := pe_callTy (p := p2) (pos := pos2) (cr_setL2 hc) hg2 hm2 PyProof.Rows.boot_set (pa_cons pe pa_nil hst) (by decide) (by decide) hst hpl
  refine ⟨_, pe_callB (cr_sortedSetB hc) hg hm (by decide +kernel) (pa_cons ps pa_nil hst2) (by decide) (by decide) hst2 hpl2, fun F B ρ ω σ H Qa Ea Q hs he hg hk hx => r F B ρ ω σ H _ _ _ hs he hg (fun B1 ω1 H1 v d s1 hs1 rv g1 => ?_) hx⟩
  cases d <;> try exact g1.elim
  case lst xs =>
    obtain ⟨ns, rfl, hl, g1⟩ := g1
    cases rv with
    | lst h1 r1 =>
      obtain rfl := repAll_ints_of ns r1
      refine ⟨_, ns, rfl, SqL.of (hs1.sB _ _ h1), by omega, fun a c hcn ha => ⟨a, _, c, rfl, upd_same, by omega, fun us p u1 u2 u3 u4 => ?_⟩⟩
      obtain ⟨s2, hs2⟩ := hs1.new (o := SetO X.w a (fun j => decide (j ∈ ns)) c) ha
      exact hk _ _ _ p _ _ (s1.trans s2) hs2 u4 (repAll_ints us) (g1 us u1 fun k => by rw [u2 k, decide_eq_true_eq])
end
end MR
namespace MR
open PySem PySem.Spec PyProof.Rows L2
end MR
namespace MR
open PySem PySem.Spec PyProof.Rows L2
end MR
namespace MR.Lk29
open PySem PySem.Spec PyProof.Rows L2 MR
abbrev dd_PLAN : D := .tup [.str "plain", .str "plain", .str "plain", .str "plain", .str "plain", .str "plain", .str "plain", .str "plain", .str "halves", .str "halves", .str "halves", .str "halves", .str "halves", .str "halves", .str "halves", .str "halves", .str "halves", .str "halves", .str "halves", .str "halves", .str "halves", .str "halves", .str "halves", .str "halves", .str "halves", .str "halves", .str "halves", .str "halves", .str "halves", .str "halves", .str "halves", .str "halves", .str "halves", .str "halves", .str "halves", .str "halves", .str "halves", .str "halves", .str "halves", .str "halves"]
local macro_rules | `(tactic| erw [$[$rs:term],*]) => `(tactic| simp -implicitDefEqProofs only [MR.sNil, MR.sSeq, MR.sDrop, MR.sRet_e, MR.sRet_f, MR.sRetN, MR.sBreak, MR.sCont, MR.sIf, MR.sSet, MR.sOwn, MR.sAsg, MR.sPar, MR.sAug, MR.sFrz, MR.sApp, MR.sPut, MR.sExt, MR.aName, MR.aTup, MR.aNil, MR.aCons, MR.frz,
    MR.gVar, MR.gC, MR.gOp, MR.gB, MR.bK, MR.gTru, MR.gNotT, MR.gAndT, MR.gOrT, MR.gAndV, MR.gOrV, MR.gNotV, MR.gIf, MR.gChain, MR.gNil, MR.gCons, MR.gTup, MR.gLst, MR.gFz, MR.gOwn, MR.gAsL, MR.gNo, MR.gPart, MR.gSl, MR.gSlF, MR.gUn, MR.gIxL, MR.gFn, MR.gLenL, MR.gYes,
    MR.fAddI, MR.fSub, MR.fDiv, MR.fMod, MR.fPow, MR.fLe, MR.fGt, MR.fGe, MR.fIs, MR.fIsN, MR.fNeg, MR.fMin, MR.fMax, MR.fDivmod, MR.fSum, MR.fAll, MR.fRepr, MR.fIsi, MR.tyD, MR.dInt, MR.dBool, MR.dTup, MR.dStr, MR.dLst,
    MR.gDkT, MR.gDkS, MR.gDkNe, MR.gDkPop, MR.sDkApp, MR.sDkPut, MR.gScr, MR.sDeck, MR.gCall, MR.sel, MR.sFor, MR.sForR1, MR.sForR2, MR.sWhile, MR.sForE, MR.sAugP, MR.gRepL, MR.gCatL, MR.gComp, MR.gCompR, MR.startA, MR.wipeA, MR.sNever, MR.gNever, MR.tNev, MR.sAsg2, MR.fMulS_str, MR.fIntS_str, MR.sParO, MR.sForG, MR.gCompG, MR.iSeqG, MR.iR1G, MR.iR2G, MR.iR3G, MR.iZipG, MR.iEnumG, MR.iEnumLG, MR.iRevG,
    MR.fTru_bl, MR.fTru_non, MR.fTru_int, MR.fTru_str, MR.fTru_lst, MR.fTru_tup, MR.fAdd_int, MR.fAdd_str, MR.fAdd_tup, MR.fAdd_lst, MR.fMul_int, MR.fMul_tup, MR.fMul_lst, MR.fEq_int, MR.fEq_str, MR.fEq_bl, MR.fEq_tup_tup, MR.fEq_tup_lst, MR.fEq_tup_int, MR.fEq_tup_non, MR.fEq_tup_str, MR.fEq_tup_bl, MR.fEq_lst_tup, MR.fEq_lst_lst, MR.fEq_lst_int, MR.fEq_lst_non, MR.fEq_lst_str, MR.fEq_lst_bl, MR.fEq_int_tup, MR.fEq_int_lst, MR.fEq_int_non, MR.fEq_int_str, MR.fEq_int_bl, MR.fEq_non_tup, MR.fEq_non_lst, MR.fEq_non_int, MR.fEq_non_non, MR.fEq_non_str, MR.fEq_non_bl, MR.fEq_str_tup, MR.fEq_str_lst, MR.fEq_str_int, MR.fEq_str_non, MR.fEq_str_bl, MR.fEq_bl_tup, MR.fEq_bl_lst, MR.fEq_bl_int, MR.fEq_bl_non, MR.fEq_bl_str, MR.fNe_int, MR.fNe_str, MR.fNe_bl, MR.fNe_tup_tup, MR.fNe_tup_lst, MR.fNe_tup_int, MR.fNe_tup_non, MR.fNe_tup_str, MR.fNe_tup_bl, MR.fNe_lst_tup, MR.fNe_lst_lst, MR.fNe_lst_int, MR.fNe_lst_non, MR.fNe_lst_str, MR.fNe_lst_bl, MR.fNe_int_tup, MR.fNe_int_lst, MR.fNe_int_non, MR.fNe_int_str, MR.fNe_int_bl, MR.fNe_non_tup, MR.fNe_non_lst, MR.fNe_non_int, MR.fNe_non_non, MR.fNe_non_str, MR.fNe_non_bl, MR.fNe_str_tup, MR.fNe_str_lst, MR.fNe_str_int, MR.fNe_str_non, MR.fNe_str_bl, MR.fNe_bl_tup, MR.fNe_bl_lst, MR.fNe_bl_int, MR.fNe_bl_non, MR.fNe_bl_str, MR.fLt_int, MR.fIx_tup, MR.fSl_tup, MR.fLen_tup, MR.fTuple_tup, MR.fRev_tup, MR.fIx_lst, MR.fSl_lst, MR.fLen_lst, MR.fTuple_lst, MR.fRev_lst, MR.fIx_str, MR.fSl_str, MR.fLen_str, MR.fInt_int, MR.fInt_bl,
    List.map_cons, List.map_nil, List.cons_append, List.nil_append, List.append_nil, List.length_cons, List.length_nil, List.replicate_succ, List.replicate_zero, List.set_cons_zero, List.set_cons_succ, List.getElem?_cons_zero, List.getElem?_cons_succ, List.getD_cons_zero, List.getD_cons_succ, Nat.reduceAdd, Nat.reduceSub, Nat.zero_add, Option.some.injEq, reduceIte, Bool.not_true, Bool.not_false, true_and, and_true, MR.iZip3G, MR.sParR, MR.gCallC, MR.gCallFC, MR.gCallL, MR.gLz, MR.iZipQG, MR.fDivmodW, MR.fMinL, MR.str_keyD, MR.gDComp, MR.gMinV, MR.gSelK, MR.gComp2, MR.gMake, MR.gMeth, MR.gFldO, MR.fO_obj, MR.mO_obj, MR.fO_lg0, MR.fO_lg1, MR.fO_lg2, MR.mO_lg, MR.fIsO_lg, MR.fMax3, MR.fMulI, MR.gFTab, MR.gFHas, MR.gCallF, MR.iZipSG, MR.iEzG, MR.gSrt, MR.gSrtS, MR.gSrtL, MR.sParF, MR.sPopA, MR.gMNew, MR.gMNot, MR.gMGet, MR.sMPut, MR.fNeO, MR.fEqO, MR.fFdivZ, MR.fO_pt0, MR.fO_pt1, MR.fO_pt2, MR.mO_pt,  MR.okC_0, MR.okC_1, MR.fIsO_obj, MR.fIsO_non, MR.fIsO_int, MR.fIsO_tup, MR.fIsO_str, MR.fIsO_bl, MR.fIsO_lst, MR.fAbs, MR.gM1, MR.fJoin_lst, MR.fIndex_str, MR.fRevS_str, MR.fBack_tup, MR.iStrG, MR.fInt36_str, MR.fEqDS_dct, MR.fEqDS_str, MR.fEqDS_non, MR.fEqDS_bl, MR.fEqDS_int, MR.fEqDS_lst, MR.fEqDS_tup, MR.gDct1S, MR.iEnumKG, MR.fIsX_non, MR.fIsX_bl, MR.isND_non, MR.isND_bl, MR.isND_int, MR.isND_str, MR.isND_lst, MR.isND_tup, MR.isBD_non, MR.isBD_bl, MR.isBD_int, MR.isBD_str, MR.isBD_lst, MR.isBD_tup, MR.sRaise1, MR.sRaise2, MR.sTryF, MR.gIsF, MR.gFld, MR.gGet3, MR.gBor, MR.gBorT, MR.sca, MR.sPar3, MR.iZipMG, MR.gDct0, MR.gDct1, MR.fUpper, MR.fStr_int, MR.fStr_bl, MR.fAddX_bl, MR.fAddX_int, MR.fAddX_str, MR.fAddX_tup, MR.fAddX_lst, MR.fSubX_bl, MR.fSubX_ib, MR.fSubX_int, MR.fEqN_nil, MR.fReprX, MR.fIn_lst, MR.fIn_tup, MR.fIn_str, Bool.false_xor, Bool.true_xor, MR.gAsS, true_implies, false_implies, implies_true, MR.sRaise, MR.sTryAs, MR.sTry, MR.gIsE, PySem.W.kitAny, PySem.Value.ref.injEq, MR.sStar, MR.aSeq, MR.seqD, MR.gStp, List.take_succ_cons, List.take_zero, List.drop_succ_cons, List.drop_zero, MR.sl, MR.aFor_nil, MR.aComp_nil, Int.zero_add, MR.map_int_inj, MR.nil_map_int, MR.cons_map_int, List.map_eq_nil_iff, MR.eqOk_row, MR.eqOk_rowL, MR.eqOk_nil, MR.nil_eq, MR.nil_deq, MR.deq_row, MR.deq_rowL, MR.deq_nilr, MR.deq_nill, MR.deq_nils, MR.rng_zero, MR.isE_map, List.length_map, List.length_append, List.length_reverse,
    Nat.reduceLeDiff, Nat.reduceLT, Int.reduceLE, Int.reduceLT, Int.reducePow, Int.reduceNeg, Int.toNat_zero, Int.reduceToNat, Bool.not_eq_eq_eq_not, Bool.not_eq_true', decide_eq_false_iff_not, decide_eq_true_eq, Bool.false_eq_true, ite_not, ite_false, ite_true, decide_true, decide_false, not_true_eq_false, not_false_eq_true, List.cons.injEq, MR.D.tup.injEq, MR.D.lst.injEq, MR.D.int.injEq, MR.D.str.injEq, MR.D.bl.injEq, MR.D.adr.injEq, MR.Ent.d.injEq, MR.Ent.own.injEq, Option.some.injEq, Prod.mk.injEq, MR.fl_repx, List.length_replicate, exists_eq, exists_eq', and_assoc, exists_and_left, exists_and_right, exists_eq_left, exists_eq_left', exists_eq_right, exists_eq_right', ne_eq, eq_self, and_self, reduceCtorEq, false_and, and_false, or_false, false_or, Int.reduceEq, Int.reduceSub, Int.reduceAdd, Int.reduceMul, Nat.reduceMul, $[$rs:term],*])
def top (i : Nat) : Stmt := PySem.Challenge.pw_manyroads_k29_roads_alone_and_no_road.main.body.getD i (.Pass ⟨0, 0, 0, 0⟩)
abbrev s__law_deck : Stmt := top 51
abbrev n__law_deck : List Str := ["_law_script", "_law_cells", "_law_cell"]
theorem S__law_deck : FnScope n__law_deck ["_law_script"] (defScope s__law_deck) := ⟨rfl, rfl, rfl, by decide +kernel, rfl, by decide +kernel, by decide +kernel⟩
abbrev s__law_draw : Stmt := top 52
abbrev n__law_draw : List Str := ["_law_deck_here", "_law_most", "_law_cell", "_law_number"]
theorem S__law_draw : FnScope n__law_draw ["_law_deck_here", "_law_most"] (defScope s__law_draw) := ⟨rfl, rfl, rfl, by decide +kernel, rfl, by decide +kernel, by decide +kernel⟩
abbrev s__law_any_base : Stmt := top 54
abbrev n__law_any_base : List Str := ["_law_deck_here", "_law_way", "_law_some"]
theorem S__law_any_base : FnScope n__law_any_base ["_law_deck_here"] (defScope s__law_any_base) := ⟨rfl, rfl, rfl, by decide +kernel, rfl, by decide +kernel, by decide +kernel⟩
abbrev s__law_row_of : Stmt := top 60
abbrev n__law_row_of : List Str := ["_law_rest", "_law_to", "_law_found"]
theorem S__law_row_of : FnScope n__law_row_of ["_law_rest", "_law_to"] (defScope s__law_row_of) := ⟨rfl, rfl, rfl, by decide +kernel, rfl, by decide +kernel, by decide +kernel⟩
abbrev s_half_of : Stmt := top 28
abbrev n_half_of : List Str := ["many"]
theorem S_half_of : FnScope n_half_of ["many"] (defScope s_half_of) := ⟨rfl, rfl, rfl, by decide +kernel, rfl, by decide +kernel, by decide +kernel⟩
abbrev s_limb_at : Stmt := top 17
abbrev n_limb_at : List Str := ["row", "place"]
theorem S_limb_at : FnScope n_limb_at ["row", "place"] (defScope s_limb_at) := ⟨rfl, rfl, rfl, by decide +kernel, rfl, by decide +kernel, by decide +kernel⟩
abbrev s_summed : Stmt := top 19
abbrev n_summed : List Str := ["one", "other", "base", "limbs", "carry", "place", "limb"]
theorem S_summed : FnScope n_summed ["one", "other", "base"] (defScope s_summed) := ⟨rfl, rfl, rfl, by decide +kernel, rfl, by decide +kernel, by decide +kernel⟩
abbrev s_without_noughts : Stmt := top 16
abbrev n_without_noughts : List Str := ["limbs", "many"]
theorem S_without_noughts : FnScope n_without_noughts ["limbs"] (defScope s_without_noughts) := ⟨rfl, rfl, rfl, by decide +kernel, rfl, by decide +kernel, by decide +kernel⟩
abbrev s_cut_at : Stmt := top 22
abbrev n_cut_at : List Str := ["row", "many"]
theorem S_cut_at : FnScope n_cut_at ["row", "many"] (defScope s_cut_at) := ⟨rfl, rfl, rfl, by decide +kernel, rfl, by decide +kernel, by decide +kernel⟩
abbrev s_is_less : Stmt := top 18
abbrev n_is_less : List Str := ["one", "other"]
theorem S_is_less : FnScope n_is_less ["one", "other"] (defScope s_is_less) := ⟨rfl, rfl, rfl, by decide +kernel, rfl, by decide +kernel, by decide +kernel⟩
abbrev s_lessened : Stmt := top 20
abbrev n_lessened : List Str := ["one", "other", "base", "limbs", "lent", "place", "limb", "here"]
theorem S_lessened : FnScope n_lessened ["one", "other", "base"] (defScope s_lessened) := ⟨rfl, rfl, rfl, by decide +kernel, rfl, by decide +kernel, by decide +kernel⟩
abbrev s_apart : Stmt := top 32
abbrev n_apart : List Str := ["one", "other", "base"]
theorem S_apart : FnScope n_apart ["one", "other", "base"] (defScope s_apart) := ⟨rfl, rfl, rfl, by decide +kernel, rfl, by decide +kernel, by decide +kernel⟩
abbrev s_shifted : Stmt := top 21
abbrev n_shifted : List Str := ["row", "many"]
theorem S_shifted : FnScope n_shifted ["row", "many"] (defScope s_shifted) := ⟨rfl, rfl, rfl, by decide +kernel, rfl, by decide +kernel, by decide +kernel⟩
abbrev s_by_halves : Stmt := top 33
abbrev n_by_halves : List Str := ["one", "other", "many", "deal", "base", "h", "x", "far_x", "y", "far_y", "low", "high", "cross", "middle", "total"]
theorem S_by_halves : FnScope n_by_halves ["one", "other", "many", "deal", "base"] (defScope s_by_halves) := ⟨rfl, rfl, rfl, by decide +kernel, rfl, by decide +kernel, by decide +kernel⟩
abbrev s_third_of : Stmt := top 29
abbrev n_third_of : List Str := ["many"]
theorem S_third_of : FnScope n_third_of ["many"] (defScope s_third_of) := ⟨rfl, rfl, rfl, by decide +kernel, rfl, by decide +kernel, by decide +kernel⟩
abbrev s_part_of : Stmt := top 41
abbrev n_part_of : List Str := ["row", "few", "base", "found", "rest", "limb"]
theorem S_part_of : FnScope n_part_of ["row", "few", "base"] (defScope s_part_of) := ⟨rfl, rfl, rfl, by decide +kernel, rfl, by decide +kernel, by decide +kernel⟩
abbrev s_doubled : Stmt := top 40
abbrev n_doubled : List Str := ["row", "times", "base", "turn"]
theorem S_doubled : FnScope n_doubled ["row", "times", "base"] (defScope s_doubled) := ⟨rfl, rfl, rfl, by decide +kernel, rfl, by decide +kernel, by decide +kernel⟩
abbrev s_middles_of : Stmt := top 43
abbrev n_middles_of : List Str := ["rows", "turned", "base", "p", "q", "s", "t", "u", "low", "high", "odd", "b", "less", "away", "c"]
theorem S_middles_of : FnScope n_middles_of ["rows", "turned", "base"] (defScope s_middles_of) := ⟨rfl, rfl, rfl, by decide +kernel, rfl, by decide +kernel, by decide +kernel⟩
abbrev s_spare_of : Stmt := top 27
abbrev n_spare_of : List Str := ["base", "spare", "power"]
theorem S_spare_of : FnScope n_spare_of ["base"] (defScope s_spare_of) := ⟨rfl, rfl, rfl, by decide +kernel, rfl, by decide +kernel, by decide +kernel⟩
abbrev s_at_points : Stmt := top 42
abbrev n_at_points : List Str := ["row", "h", "base", "near", "behind", "middle", "far", "ends", "below", "between", "twice"]
theorem S_at_points : FnScope n_at_points ["row", "h", "base"] (defScope s_at_points) := ⟨rfl, rfl, rfl, by decide +kernel, rfl, by decide +kernel, by decide +kernel⟩
abbrev s_by_thirds : Stmt := top 44
abbrev n_by_thirds : List Str := ["one", "other", "many", "deal", "base", "h", "wide", "ones", "below_one", "others", "below_other", "lengths", "parts", "x", "y", "limbs", "rows", "row", "paper", "middles", "a", "b", "c", "total"]
theorem S_by_thirds : FnScope n_by_thirds ["one", "other", "many", "deal", "base"] (defScope s_by_thirds) := ⟨rfl, rfl, rfl, by decide +kernel, rfl, by decide +kernel, by decide +kernel⟩
abbrev s_carried : Stmt := top 36
abbrev n_carried : List Str := ["sums", "base", "limbs", "carries", "carry", "number", "limb"]
theorem S_carried : FnScope n_carried ["sums", "base"] (defScope s_carried) := ⟨rfl, rfl, rfl, by decide +kernel, rfl, by decide +kernel, by decide +kernel⟩
abbrev s_column_sums : Stmt := top 35
abbrev n_column_sums : List Str := ["one", "other", "found", "i", "limb", "j", "more"]
theorem S_column_sums : FnScope n_column_sums ["one", "other"] (defScope s_column_sums) := ⟨rfl, rfl, rfl, by decide +kernel, rfl, by decide +kernel, by decide +kernel⟩
abbrev s_plain_product : Stmt := top 37
abbrev n_plain_product : List Str := ["one", "other", "base", "limbs", "carries"]
theorem S_plain_product : FnScope n_plain_product ["one", "other", "base"] (defScope s_plain_product) := ⟨rfl, rfl, rfl, by decide +kernel, rfl, by decide +kernel, by decide +kernel⟩
abbrev s_plain_carries : Stmt := top 38
abbrev n_plain_carries : List Str := ["one", "other", "base", "limbs", "carries"]
theorem S_plain_carries : FnScope n_plain_carries ["one", "other", "base"] (defScope s_plain_carries) := ⟨rfl, rfl, rfl, by decide +kernel, rfl, by decide +kernel, by decide +kernel⟩
abbrev s_paper_of : Stmt := top 46
abbrev n_paper_of : List Str := ["one", "other", "many", "road_of", "base", "road", "by_road"]
theorem S_paper_of : FnScope n_paper_of ["one", "other", "many", "road_of", "base"] (defScope s_paper_of) := ⟨rfl, rfl, rfl, by decide +kernel, rfl, by decide +kernel, by decide +kernel⟩
abbrev s_may_go : Stmt := top 30
abbrev n_may_go : List Str := ["road", "many", "base"]
theorem S_may_go : FnScope n_may_go ["road", "many", "base"] (defScope s_may_go) := ⟨rfl, rfl, rfl, by decide +kernel, rfl, by decide +kernel, by decide +kernel⟩
abbrev s_road_for : Stmt := top 48
abbrev n_road_for : List Str := ["road", "many", "base", "some"]
theorem S_road_for : FnScope n_road_for ["road", "many", "base"] (defScope s_road_for) := ⟨rfl, rfl, rfl, by decide +kernel, rfl, by decide +kernel, by decide +kernel⟩
abbrev s_product_by : Stmt := top 49
abbrev n_product_by : List Str := ["road", "one", "other", "base", "many"]
theorem S_product_by : FnScope n_product_by ["road", "one", "other", "base"] (defScope s_product_by) := ⟨rfl, rfl, rfl, by decide +kernel, rfl, by decide +kernel, by decide +kernel⟩
abbrev s__law_limbs : Stmt := top 58
abbrev n__law_limbs : List Str := ["_law_deck_here", "_law_to", "_law_most", "_law_way", "_law_size", "_law_found", "_law_k", "_law_limb"]
theorem S__law_limbs : FnScope n__law_limbs ["_law_deck_here", "_law_to", "_law_most"] (defScope s__law_limbs) := ⟨rfl, rfl, rfl, by decide +kernel, rfl, by decide +kernel, by decide +kernel⟩
abbrev s__law_worth : Stmt := top 59
abbrev n__law_worth : List Str := ["_law_limbs_here", "_law_to", "_law_found", "_law_digit"]
theorem S__law_worth : FnScope n__law_worth ["_law_limbs_here", "_law_to"] (defScope s__law_worth) := ⟨rfl, rfl, rfl, by decide +kernel, rfl, by decide +kernel, by decide +kernel⟩
abbrev s__law_by_roads : Stmt := top 62
abbrev n__law_by_roads : List Str := ["_law_x", "_law_y", "_law_to", "_law_due", "_law_word", "_law_found"]
theorem S__law_by_roads : FnScope n__law_by_roads ["_law_x", "_law_y", "_law_to", "_law_due"] (defScope s__law_by_roads) := ⟨rfl, rfl, rfl, by decide +kernel, rfl, by decide +kernel, by decide +kernel⟩
abbrev s__law_spare : Stmt := top 55
abbrev n__law_spare : List Str := ["_law_to", "_law_found", "_law_power"]
theorem S__law_spare : FnScope n__law_spare ["_law_to"] (defScope s__law_spare) := ⟨rfl, rfl, rfl, by decide +kernel, rfl, by decide +kernel, by decide +kernel⟩
abbrev s__law_goes : Stmt := top 56
abbrev n__law_goes : List Str := ["_law_word", "_law_limbs_here", "_law_to", "_law_h", "_law_k"]
theorem S__law_goes : FnScope n__law_goes ["_law_word", "_law_limbs_here", "_law_to"] (defScope s__law_goes) := ⟨rfl, rfl, rfl, by decide +kernel, rfl, by decide +kernel, by decide +kernel⟩
abbrev s__law_pick : Stmt := top 53
abbrev n__law_pick : List Str := ["_law_deck_here", "_law_some"]
theorem S__law_pick : FnScope n__law_pick ["_law_deck_here", "_law_some"] (defScope s__law_pick) := ⟨rfl, rfl, rfl, by decide +kernel, rfl, by decide +kernel, by decide +kernel⟩
abbrev s__law_drawn_plan : Stmt := top 57
abbrev n__law_drawn_plan : List Str := ["_law_deck_here", "_law_limbs_here", "_law_to", "_law_way", "_law_found", "_law_k", "_law_some", "_law_word"]
theorem S__law_drawn_plan : FnScope n__law_drawn_plan ["_law_deck_here", "_law_limbs_here", "_law_to"] (defScope s__law_drawn_plan) := ⟨rfl, rfl, rfl, by decide +kernel, rfl, by decide +kernel, by decide +kernel⟩
abbrev s_product_paper : Stmt := top 47
abbrev n_product_paper : List Str := ["one", "other", "base", "plan", "many"]
theorem S_product_paper : FnScope n_product_paper ["one", "other", "base", "plan"] (defScope s_product_paper) := ⟨rfl, rfl, rfl, by decide +kernel, rfl, by decide +kernel, by decide +kernel⟩
abbrev s__law_heard : Stmt := top 61
abbrev n__law_heard : List Str := ["_law_x", "_law_y", "_law_to", "_law_own", "_law_found", "e", "_law_odd"]
theorem S__law_heard : FnScope n__law_heard ["_law_x", "_law_y", "_law_to", "_law_own"] (defScope s__law_heard) := ⟨rfl, rfl, rfl, by decide +kernel, rfl, by decide +kernel, by decide +kernel⟩
abbrev s__law_short_right : Stmt := top 63
abbrev n__law_short_right : List Str := ["_law_deck_here", "_law_x", "_law_y", "_law_to", "_law_due", "_law_limbs_here", "_law_size", "_law_own", "_law_wanted"]
theorem S__law_short_right : FnScope n__law_short_right ["_law_deck_here", "_law_x", "_law_y", "_law_to", "_law_due"] (defScope s__law_short_right) := ⟨rfl, rfl, rfl, by decide +kernel, rfl, by decide +kernel, by decide +kernel⟩
abbrev s_law : Stmt := top 64
abbrev n_law : List Str := ["_law_script", "_law_deck_here", "_law_turn", "_law_great", "_law_long", "_law_way", "_law_to", "_law_most", "_law_x", "_law_y", "_law_due", "_law_told"]
theorem S_law : FnScope n_law ["_law_script"] (defScope s_law) := ⟨rfl, rfl, rfl, by decide +kernel, rfl, by decide +kernel, by decide +kernel⟩
abbrev si_NoRoad : Stmt := clsDef (top 8) 0
abbrev ni_NoRoad : List Str := ["self", "many"]
theorem Si_NoRoad : FnScope ni_NoRoad ["self", "many"] (defScope si_NoRoad) := ⟨rfl, rfl, rfl, by decide +kernel, rfl, by decide +kernel, by decide +kernel⟩
def di_NoRoad : He.DefD := ⟨("NoRoad", some "__init__"), "__init__", "NoRoad.__init__", defArgs si_NoRoad, defBody si_NoRoad, defScope si_NoRoad, [], []⟩
def d__law_deck : He.DefD := ⟨("_law_deck", none), "_law_deck", "_law_deck", defArgs s__law_deck, defBody s__law_deck, defScope s__law_deck, [], []⟩
def d__law_draw : He.DefD := ⟨("_law_draw", none), "_law_draw", "_law_draw", defArgs s__law_draw, defBody s__law_draw, defScope s__law_draw, [], []⟩
def d__law_any_base : He.DefD := ⟨("_law_any_base", none), "_law_any_base", "_law_any_base", defArgs s__law_any_base, defBody s__law_any_base, defScope s__law_any_base, [], []⟩
def d__law_row_of : He.DefD := ⟨("_law_row_of", none), "_law_row_of", "_law_row_of", defArgs s__law_row_of, defBody s__law_row_of, defScope s__law_row_of, [], []⟩
def d_half_of : He.DefD := ⟨("half_of", none), "half_of", "half_of", defArgs s_half_of, defBody s_half_of, defScope s_half_of, [], []⟩
def d_limb_at : He.DefD := ⟨("limb_at", none), "limb_at", "limb_at", defArgs s_limb_at, defBody s_limb_at, defScope s_limb_at, [], []⟩
def d_summed : He.DefD := ⟨("summed", none), "summed", "summed", defArgs s_summed, defBody s_summed, defScope s_summed, [], [("base", .int 10)]⟩
def d_without_noughts : He.DefD := ⟨("without_noughts", none), "without_noughts", "without_noughts", defArgs s_without_noughts, defBody s_without_noughts, defScope s_without_noughts, [], []⟩
def d_cut_at : He.DefD := ⟨("cut_at", none), "cut_at", "cut_at", defArgs s_cut_at, defBody s_cut_at, defScope s_cut_at, [], []⟩
def d_is_less : He.DefD := ⟨("is_less", none), "is_less", "is_less", defArgs s_is_less, defBody s_is_less, defScope s_is_less, [], []⟩
def d_lessened : He.DefD := ⟨("lessened", none), "lessened", "lessened", defArgs s_lessened, defBody s_lessened, defScope s_lessened, [], [("base", .int 10)]⟩
def d_apart : He.DefD := ⟨("apart", none), "apart", "apart", defArgs s_apart, defBody s_apart, defScope s_apart, [], [("base", .int 10)]⟩
def d_shifted : He.DefD := ⟨("shifted", none), "shifted", "shifted", defArgs s_shifted, defBody s_shifted, defScope s_shifted, [], []⟩
def d_by_halves : He.DefD := ⟨("by_halves", none), "by_halves", "by_halves", defArgs s_by_halves, defBody s_by_halves, defScope s_by_halves, [], [("base", .int 10)]⟩
def d_third_of : He.DefD := ⟨("third_of", none), "third_of", "third_of", defArgs s_third_of, defBody s_third_of, defScope s_third_of, [], []⟩
def d_part_of : He.DefD := ⟨("part_of", none), "part_of", "part_of", defArgs s_part_of, defBody s_part_of, defScope s_part_of, [], [("base", .int 10)]⟩
def d_doubled : He.DefD := ⟨("doubled", none), "doubled", "doubled", defArgs s_doubled, defBody s_doubled, defScope s_doubled, [], [("base", .int 10)]⟩
def d_middles_of : He.DefD := ⟨("middles_of", none), "middles_of", "middles_of", defArgs s_middles_of, defBody s_middles_of, defScope s_middles_of, [], [("base", .int 10)]⟩
def d_spare_of : He.DefD := ⟨("spare_of", none), "spare_of", "spare_of", defArgs s_spare_of, defBody s_spare_of, defScope s_spare_of, [], []⟩
def d_at_points : He.DefD := ⟨("at_points", none), "at_points", "at_points", defArgs s_at_points, defBody s_at_points, defScope s_at_points, [], [("base", .int 10)]⟩
def d_by_thirds : He.DefD := ⟨("by_thirds", none), "by_thirds", "by_thirds", defArgs s_by_thirds, defBody s_by_thirds, defScope s_by_thirds, [], [("base", .int 10)]⟩
def d_carried : He.DefD := ⟨("carried", none), "carried", "carried", defArgs s_carried, defBody s_carried, defScope s_carried, [], []⟩
def d_column_sums : He.DefD := ⟨("column_sums", none), "column_sums", "column_sums", defArgs s_column_sums, defBody s_column_sums, defScope s_column_sums, [], []⟩
def d_plain_product : He.DefD := ⟨("plain_product", none), "plain_product", "plain_product", defArgs s_plain_product, defBody s_plain_product, defScope s_plain_product, [], [("base", .int 10)]⟩
def d_plain_carries : He.DefD := ⟨("plain_carries", none), "plain_carries", "plain_carries", defArgs s_plain_carries, defBody s_plain_carries, defScope s_plain_carries, [], [("base", .int 10)]⟩
def d_paper_of : He.DefD := ⟨("paper_of", none), "paper_of", "paper_of", defArgs s_paper_of, defBody s_paper_of, defScope s_paper_of, [], [("base", .int 10)]⟩
def d_may_go : He.DefD := ⟨("may_go", none), "may_go", "may_go", defArgs s_may_go, defBody s_may_go, defScope s_may_go, [], [("base", .int 10)]⟩
def d_road_for : He.DefD := ⟨("road_for", none), "road_for", "road_for", defArgs s_road_for, defBody s_road_for, defScope s_road_for, [], [("base", .int 10)]⟩
def d_product_by : He.DefD := ⟨("product_by", none), "product_by", "product_by", defArgs s_product_by, defBody s_product_by, defScope s_product_by, [], [("base", .int 10)]⟩
def d__law_limbs : He.DefD := ⟨("_law_limbs", none), "_law_limbs", "_law_limbs", defArgs s__law_limbs, defBody s__law_limbs, defScope s__law_limbs, [], []⟩
def d__law_worth : He.DefD := ⟨("_law_worth", none), "_law_worth", "_law_worth", defArgs s__law_worth, defBody s__law_worth, defScope s__law_worth, [], []⟩
def d__law_by_roads : He.DefD := ⟨("_law_by_roads", none), "_law_by_roads", "_law_by_roads", defArgs s__law_by_roads, defBody s__law_by_roads, defScope s__law_by_roads, [], []⟩
def d__law_spare : He.DefD := ⟨("_law_spare", none), "_law_spare", "_law_spare", defArgs s__law_spare, defBody s__law_spare, defScope s__law_spare, [], []⟩
def d__law_goes : He.DefD := ⟨("_law_goes", none), "_law_goes", "_law_goes", defArgs s__law_goes, defBody s__law_goes, defScope s__law_goes, [], []⟩
def d__law_pick : He.DefD := ⟨("_law_pick", none), "_law_pick", "_law_pick", defArgs s__law_pick, defBody s__law_pick, defScope s__law_pick, [], []⟩
def d__law_drawn_plan : He.DefD := ⟨("_law_drawn_plan", none), "_law_drawn_plan", "_law_drawn_plan", defArgs s__law_drawn_plan, defBody s__law_drawn_plan, defScope s__law_drawn_plan, [], []⟩
def d_product_paper : He.DefD := ⟨("product_paper", none), "product_paper", "product_paper", defArgs s_product_paper, defBody s_product_paper, defScope s_product_paper, [], [("base", .int 10), ("plan", .adr (fun K => He.ga K "PLAN"))]⟩
def d__law_heard : He.DefD := ⟨("_law_heard", none), "_law_heard", "_law_heard", defArgs s__law_heard, defBody s__law_heard, defScope s__law_heard, [], []⟩
def d__law_short_right : He.DefD := ⟨("_law_short_right", none), "_law_short_right", "_law_short_right", defArgs s__law_short_right, defBody s__law_short_right, defScope s__law_short_right, [], []⟩
def d_law : He.DefD := ⟨("law", none), "law", "law", defArgs s_law, defBody s_law, defScope s_law, [], []⟩
def fn : List He.DefD := ([d__law_deck, d__law_draw, d__law_any_base, d__law_row_of, d_half_of, d_limb_at, d_summed, d_without_noughts, d_cut_at, d_is_less, d_lessened, d_apart, d_shifted, d_by_halves, d_third_of, d_part_of, d_doubled, d_middles_of, d_spare_of, d_at_points, d_by_thirds, d_carried, d_column_sums, d_plain_product, d_plain_carries, d_paper_of, d_may_go, d_road_for, d_product_by, d__law_limbs] : List He.DefD) ++ ([d__law_worth, d__law_by_roads, d__law_spare, d__law_goes, d__law_pick, d__law_drawn_plan, d_product_paper, d__law_heard, d__law_short_right, d_law] : List He.DefD) ++ ([di_NoRoad] : List He.DefD)
def fa : List He.Fa := ([.glo "_law_deck", .glo "_law_draw", .glo "_law_any_base", .glo "_law_row_of", .glo "half_of", .glo "limb_at", .glo "summed", .glo "without_noughts", .glo "cut_at", .glo "is_less", .glo "lessened", .glo "apart", .glo "shifted", .glo "by_halves", .glo "third_of", .glo "part_of", .glo "doubled", .glo "middles_of", .glo "spare_of", .glo "at_points", .glo "by_thirds", .glo "carried", .glo "column_sums", .glo "plain_product", .glo "plain_carries", .glo "paper_of", .glo "may_go", .glo "road_for", .glo "product_by", .glo "_law_limbs"] : List He.Fa) ++ ([.glo "_law_worth", .glo "_law_by_roads", .glo "_law_spare", .glo "_law_goes", .glo "_law_pick", .glo "_law_drawn_plan", .glo "product_paper", .glo "_law_heard", .glo "_law_short_right", .glo "law", .free "ArithmeticError", .free "divmod", .free "enumerate", .free "int", .free "isinstance", .free "len", .free "list", .free "max", .free "range", .free "repr", .free "reversed", .free "set", .free "sorted", .free "sum", .free "tuple", .free "zip", .int "BASE" 10, .int "GREATEST_TIMES" 7, .glo "RoadError", .glo "NoText"] : List He.Fa) ++ ([.glo "TooGreat", .glo "NoQuotient", .glo "NoRing", .glo "NoDeed", .glo "NotSame", .glo "NoRoad", .glo "NoShare", .glo "NoName", .glo "Taken", .glo "NoRow", .glo "NoBack", .glo "PLAN", .glo "FEWEST"] : List He.Fa)
abbrev xs_ : List (Str × Str) := [("paper_of", ("paper_of" ++ ".<locals>.") ++ "<lambda>"), ("product_by", ("product_by" ++ ".<locals>.") ++ "<lambda>"), ("product_paper", ("product_paper" ++ ".<locals>.") ++ "<lambda>")]
abbrev PR : Program := PySem.Challenge.rw_manyroads_k29_roads_alone_and_no_road.prog
abbrev R : PySem.W.OpenRow := PySem.W.OpenLaw.row PySem.Challenge.rw_manyroads_k29_roads_alone_and_no_road
def bs : List FB := ([exFB "NoRoad" "RoadError" ["many"], exmFB "NoRoad" "RoadError" true, kitFB "NoRoad" (fun K => .ref (He.ga K "NoBack")) false, kitFB "NoRoad" (fun K => .ref (He.ga K "NoDeed")) false, kitFB "NoRoad" (fun K => .ref (He.ga K "NoName")) false, kitFB "NoRoad" (fun K => .ref (He.ga K "NoQuotient")) false, kitFB "NoRoad" (fun K => .ref (He.ga K "NoRing")) false, kitFB "NoRoad" (fun K => .ref (He.ga K "NoRow")) false, kitFB "NoRoad" (fun K => .ref (He.ga K "NoShare")) false, kitFB "NoRoad" (fun K => .ref (He.ga K "NotSame")) false, kitFB "NoRoad" (fun K => .ref (He.ga K "NoText")) false, kitFB "NoRoad" (fun K => .ref (He.ga K "Taken")) false, kitFB "NoRoad" (fun K => .ref (He.ga K "NoRoad")) true, kitFB "NoRoad" (fun K => .type "ArithmeticError") true, kitFB "NoRoad" (fun K => .ref (He.ga K "TooGreat")) false, sysFB, tabsB (xs_.map (·.1)), datFB "PLAN" dd_PLAN, tabFB "FEWEST" [("plain", .int 1), ("halves", .int 2), ("thirds", .int 5)]] : List FB)
def ts : List He.Tab := [(fun K => He.ga K "FEWEST", ["plain", "halves", "thirds"])]
abbrev hk : PySem.W.Hook := hookT2 6 fa fn bs ts (xs_.map (·.1))
def ob (s : PySem.W.SharedT) : Bool × He.AlT := obT2 6 fa fn bs ts (xs_.map (·.1)) (HandSHeadRun.getT s)
theorem ob_eq (s : PySem.W.SharedT) : ob s = hk.obs s.abs := obT2_eq (HandSHeadRun.getT_eq s)
def others : List PySem.Str := (["without_noughts", "limb_at", "is_less", "summed", "lessened", "shifted", "cut_at", "spare_of", "half_of", "third_of", "may_go", "apart", "by_halves", "column_sums", "carried", "plain_product", "plain_carries", "doubled", "part_of", "at_points", "middles_of", "by_thirds", "paper_of", "product_paper", "road_for", "product_by", "_law_deck", "_law_draw", "_law_pick", "_law_any_base"] : List PySem.Str) ++ (["_law_spare", "_law_goes", "_law_drawn_plan", "_law_limbs", "_law_worth", "_law_row_of", "_law_heard", "_law_by_roads", "_law_short_right", "BASE", "FEWEST", "GREATEST_TIMES", "PLAN", "RoadError", "NoText", "TooGreat", "NoQuotient", "NoRing", "NoDeed", "NotSame", "NoRoad", "NoShare", "NoName", "Taken", "NoRow", "NoBack"] : List PySem.Str)
abbrev RunP (w : World) : Prop := HandSHeadRun.RunEq R (PySem.W.view R.prog [64]) hk ob 20000 others w
theorem run1 (w : World) : RunP (wB w true) := by
  intro os
  kernel_rfl
theorem run2 (w : World) : RunP (wB w false) := by
  intro os
  kernel_rfl
theorem run (w : World) : HandSHeadRun.RunEq R (PySem.W.view R.prog [64]) hk ob 20000 others w := run_cases (P := RunP) run1 run2 w
structure T (w : World) (K : PySem.W.Frag) (mg : Str → Option Value) : Prop where
  f__law_deck : ∃ fd, FunD K "_law_deck" "_law_deck" (defArgs s__law_deck) (defBody s__law_deck) (defScope s__law_deck) [] [] (He.ga K "_law_deck") fd
  g__law_deck : mg "_law_deck" = some (.ref (He.ga K "_law_deck"))
  f__law_draw : ∃ fd, FunD K "_law_draw" "_law_draw" (defArgs s__law_draw) (defBody s__law_draw) (defScope s__law_draw) [] [] (He.ga K "_law_draw") fd
  g__law_draw : mg "_law_draw" = some (.ref (He.ga K "_law_draw"))
  f__law_any_base : ∃ fd, FunD K "_law_any_base" "_law_any_base" (defArgs s__law_any_base) (defBody s__law_any_base) (defScope s__law_any_base) [] [] (He.ga K "_law_any_base") fd
  g__law_any_base : mg "_law_any_base" = some (.ref (He.ga K "_law_any_base"))
  f__law_row_of : ∃ fd, FunD K "_law_row_of" "_law_row_of" (defArgs s__law_row_of) (defBody s__law_row_of) (defScope s__law_row_of) [] [] (He.ga K "_law_row_of") fd
  g__law_row_of : mg "_law_row_of" = some (.ref (He.ga K "_law_row_of"))
  f_half_of : ∃ fd, FunD K "half_of" "half_of" (defArgs s_half_of) (defBody s_half_of) (defScope s_half_of) [] [] (He.ga K "half_of") fd
  g_half_of : mg "half_of" = some (.ref (He.ga K "half_of"))
  f_limb_at : ∃ fd, FunD K "limb_at" "limb_at" (defArgs s_limb_at) (defBody s_limb_at) (defScope s_limb_at) [] [] (He.ga K "limb_at") fd
  g_limb_at : mg "limb_at" = some (.ref (He.ga K "limb_at"))
  f_summed : ∃ fd, FunD K "summed" "summed" (defArgs s_summed) (defBody s_summed) (defScope s_summed) [] [("base", .int 10)] (He.ga K "summed") fd
  g_summed : mg "summed" = some (.ref (He.ga K "summed"))
  f_without_noughts : ∃ fd, FunD K "without_noughts" "without_noughts" (defArgs s_without_noughts) (defBody s_without_noughts) (defScope s_without_noughts) [] [] (He.ga K "without_noughts") fd
  g_without_noughts : mg "without_noughts" = some (.ref (He.ga K "without_noughts"))
  f_cut_at : ∃ fd, FunD K "cut_at" "cut_at" (defArgs s_cut_at) (defBody s_cut_at) (defScope s_cut_at) [] [] (He.ga K "cut_at") fd
  g_cut_at : mg "cut_at" = some (.ref (He.ga K "cut_at"))
  f_is_less : ∃ fd, FunD K "is_less" "is_less" (defArgs s_is_less) (defBody s_is_less) (defScope s_is_less) [] [] (He.ga K "is_less") fd
  g_is_less : mg "is_less" = some (.ref (He.ga K "is_less"))
  f_lessened : ∃ fd, FunD K "lessened" "lessened" (defArgs s_lessened) (defBody s_lessened) (defScope s_lessened) [] [("base", .int 10)] (He.ga K "lessened") fd
  g_lessened : mg "lessened" = some (.ref (He.ga K "lessened"))
  f_apart : ∃ fd, FunD K "apart" "apart" (defArgs s_apart) (defBody s_apart) (defScope s_apart) [] [("base", .int 10)] (He.ga K "apart") fd
  g_apart : mg "apart" = some (.ref (He.ga K "apart"))
  f_shifted : ∃ fd, FunD K "shifted" "shifted" (defArgs s_shifted) (defBody s_shifted) (defScope s_shifted) [] [] (He.ga K "shifted") fd
  g_shifted : mg "shifted" = some (.ref (He.ga K "shifted"))
  f_by_halves : ∃ fd, FunD K "by_halves" "by_halves" (defArgs s_by_halves) (defBody s_by_halves) (defScope s_by_halves) [] [("base", .int 10)] (He.ga K "by_halves") fd
  g_by_halves : mg "by_halves" = some (.ref (He.ga K "by_halves"))
  f_third_of : ∃ fd, FunD K "third_of" "third_of" (defArgs s_third_of) (defBody s_third_of) (defScope s_third_of) [] [] (He.ga K "third_of") fd
  g_third_of : mg "third_of" = some (.ref (He.ga K "third_of"))
  f_part_of : ∃ fd, FunD K "part_of" "part_of" (defArgs s_part_of) (defBody s_part_of) (defScope s_part_of) [] [("base", .int 10)] (He.ga K "part_of") fd
  g_part_of : mg "part_of" = some (.ref (He.ga K "part_of"))
  f_doubled : ∃ fd, FunD K "doubled" "doubled" (defArgs s_doubled) (defBody s_doubled) (defScope s_doubled) [] [("base", .int 10)] (He.ga K "doubled") fd
  g_doubled : mg "doubled" = some (.ref (He.ga K "doubled"))
  f_middles_of : ∃ fd, FunD K "middles_of" "middles_of" (defArgs s_middles_of) (defBody s_middles_of) (defScope s_middles_of) [] [("base", .int 10)] (He.ga K "middles_of") fd
  g_middles_of : mg "middles_of" = some (.ref (He.ga K "middles_of"))
  f_spare_of : ∃ fd, FunD K "spare_of" "spare_of" (defArgs s_spare_of) (defBody s_spare_of) (defScope s_spare_of) [] [] (He.ga K "spare_of") fd
  g_spare_of : mg "spare_of" = some (.ref (He.ga K "spare_of"))
  f_at_points : ∃ fd, FunD K "at_points" "at_points" (defArgs s_at_points) (defBody s_at_points) (defScope s_at_points) [] [("base", .int 10)] (He.ga K "at_points") fd
  g_at_points : mg "at_points" = some (.ref (He.ga K "at_points"))
  f_by_thirds : ∃ fd, FunD K "by_thirds" "by_thirds" (defArgs s_by_thirds) (defBody s_by_thirds) (defScope s_by_thirds) [] [("base", .int 10)] (He.ga K "by_thirds") fd
  g_by_thirds : mg "by_thirds" = some (.ref (He.ga K "by_thirds"))
  f_carried : ∃ fd, FunD K "carried" "carried" (defArgs s_carried) (defBody s_carried) (defScope s_carried) [] [] (He.ga K "carried") fd
  g_carried : mg "carried" = some (.ref (He.ga K "carried"))
  f_column_sums : ∃ fd, FunD K "column_sums" "column_sums" (defArgs s_column_sums) (defBody s_column_sums) (defScope s_column_sums) [] [] (He.ga K "column_sums") fd
  g_column_sums : mg "column_sums" = some (.ref (He.ga K "column_sums"))
  f_plain_product : ∃ fd, FunD K "plain_product" "plain_product" (defArgs s_plain_product) (defBody s_plain_product) (defScope s_plain_product) [] [("base", .int 10)] (He.ga K "plain_product") fd
  g_plain_product : mg "plain_product" = some (.ref (He.ga K "plain_product"))
  f_plain_carries : ∃ fd, FunD K "plain_carries" "plain_carries" (defArgs s_plain_carries) (defBody s_plain_carries) (defScope s_plain_carries) [] [("base", .int 10)] (He.ga K "plain_carries") fd
  g_plain_carries : mg "plain_carries" = some (.ref (He.ga K "plain_carries"))
  f_paper_of : ∃ fd, FunD K "paper_of" "paper_of" (defArgs s_paper_of) (defBody s_paper_of) (defScope s_paper_of) [] [("base", .int 10)] (He.ga K "paper_of") fd
  g_paper_of : mg "paper_of" = some (.ref (He.ga K "paper_of"))
  f_may_go : ∃ fd, FunD K "may_go" "may_go" (defArgs s_may_go) (defBody s_may_go) (defScope s_may_go) [] [("base", .int 10)] (He.ga K "may_go") fd
  g_may_go : mg "may_go" = some (.ref (He.ga K "may_go"))
  f_road_for : ∃ fd, FunD K "road_for" "road_for" (defArgs s_road_for) (defBody s_road_for) (defScope s_road_for) [] [("base", .int 10)] (He.ga K "road_for") fd
  g_road_for : mg "road_for" = some (.ref (He.ga K "road_for"))
  f_product_by : ∃ fd, FunD K "product_by" "product_by" (defArgs s_product_by) (defBody s_product_by) (defScope s_product_by) [] [("base", .int 10)] (He.ga K "product_by") fd
  g_product_by : mg "product_by" = some (.ref (He.ga K "product_by"))
  f__law_limbs : ∃ fd, FunD K "_law_limbs" "_law_limbs" (defArgs s__law_limbs) (defBody s__law_limbs) (defScope s__law_limbs) [] [] (He.ga K "_law_limbs") fd
  g__law_limbs : mg "_law_limbs" = some (.ref (He.ga K "_law_limbs"))
  f__law_worth : ∃ fd, FunD K "_law_worth" "_law_worth" (defArgs s__law_worth) (defBody s__law_worth) (defScope s__law_worth) [] [] (He.ga K "_law_worth") fd
  g__law_worth : mg "_law_worth" = some (.ref (He.ga K "_law_worth"))
  f__law_by_roads : ∃ fd, FunD K "_law_by_roads" "_law_by_roads" (defArgs s__law_by_roads) (defBody s__law_by_roads) (defScope s__law_by_roads) [] [] (He.ga K "_law_by_roads") fd
  g__law_by_roads : mg "_law_by_roads" = some (.ref (He.ga K "_law_by_roads"))
  f__law_spare : ∃ fd, FunD K "_law_spare" "_law_spare" (defArgs s__law_spare) (defBody s__law_spare) (defScope s__law_spare) [] [] (He.ga K "_law_spare") fd
  g__law_spare : mg "_law_spare" = some (.ref (He.ga K "_law_spare"))
  f__law_goes : ∃ fd, FunD K "_law_goes" "_law_goes" (defArgs s__law_goes) (defBody s__law_goes) (defScope s__law_goes) [] [] (He.ga K "_law_goes") fd
  g__law_goes : mg "_law_goes" = some (.ref (He.ga K "_law_goes"))
  f__law_pick : ∃ fd, FunD K "_law_pick" "_law_pick" (defArgs s__law_pick) (defBody s__law_pick) (defScope s__law_pick) [] [] (He.ga K "_law_pick") fd
  g__law_pick : mg "_law_pick" = some (.ref (He.ga K "_law_pick"))
  f__law_drawn_plan : ∃ fd, FunD K "_law_drawn_plan" "_law_drawn_plan" (defArgs s__law_drawn_plan) (defBody s__law_drawn_plan) (defScope s__law_drawn_plan) [] [] (He.ga K "_law_drawn_plan") fd
  g__law_drawn_plan : mg "_law_drawn_plan" = some (.ref (He.ga K "_law_drawn_plan"))
  f_product_paper : ∃ fd, FunD K "product_paper" "product_paper" (defArgs s_product_paper) (defBody s_product_paper) (defScope s_product_paper) [] [("base", .int 10), ("plan", .ref (He.ga K "PLAN"))] (He.ga K "product_paper") fd
  g_product_paper : mg "product_paper" = some (.ref (He.ga K "product_paper"))
  f__law_heard : ∃ fd, FunD K "_law_heard" "_law_heard" (defArgs s__law_heard) (defBody s__law_heard) (defScope s__law_heard) [] [] (He.ga K "_law_heard") fd
  g__law_heard : mg "_law_heard" = some (.ref (He.ga K "_law_heard"))
  f__law_short_right : ∃ fd, FunD K "_law_short_right" "_law_short_right" (defArgs s__law_short_right) (defBody s__law_short_right) (defScope s__law_short_right) [] [] (He.ga K "_law_short_right") fd
  g__law_short_right : mg "_law_short_right" = some (.ref (He.ga K "_law_short_right"))
  f_law : ∃ fd, FunD K "law" "law" (defArgs s_law) (defBody s_law) (defScope s_law) [] [] (He.ga K "law") fd
  g_law : mg "law" = some (.ref (He.ga K "law"))
  fi_NoRoad : ∃ fd, FunD K "__init__" "NoRoad.__init__" (defArgs si_NoRoad) (defBody si_NoRoad) (defScope si_NoRoad) [] [] (He.ma K (He.ga K "NoRoad") "__init__") fd
  z_ArithmeticError : mg "ArithmeticError" = none
  z_divmod : mg "divmod" = none
  z_enumerate : mg "enumerate" = none
  z_int : mg "int" = none
  z_isinstance : mg "isinstance" = none
  z_len : mg "len" = none
  z_list : mg "list" = none
  z_max : mg "max" = none
  z_range : mg "range" = none
  z_repr : mg "repr" = none
  z_reversed : mg "reversed" = none
  z_set : mg "set" = none
  z_sorted : mg "sorted" = none
  z_sum : mg "sum" = none
  z_tuple : mg "tuple" = none
  z_zip : mg "zip" = none
  i_BASE : mInt mg "BASE" 10
  i_GREATEST_TIMES : mInt mg "GREATEST_TIMES" 7
  c_RoadError : mg "RoadError" = some (.ref (He.ga K "RoadError"))
  c_NoText : mg "NoText" = some (.ref (He.ga K "NoText"))
  c_TooGreat : mg "TooGreat" = some (.ref (He.ga K "TooGreat"))
  c_NoQuotient : mg "NoQuotient" = some (.ref (He.ga K "NoQuotient"))
  c_NoRing : mg "NoRing" = some (.ref (He.ga K "NoRing"))
  c_NoDeed : mg "NoDeed" = some (.ref (He.ga K "NoDeed"))
  c_NotSame : mg "NotSame" = some (.ref (He.ga K "NotSame"))
  c_NoRoad : mg "NoRoad" = some (.ref (He.ga K "NoRoad"))
  c_NoShare : mg "NoShare" = some (.ref (He.ga K "NoShare"))
  c_NoName : mg "NoName" = some (.ref (He.ga K "NoName"))
  c_Taken : mg "Taken" = some (.ref (He.ga K "Taken"))
  c_NoRow : mg "NoRow" = some (.ref (He.ga K "NoRow"))
  c_NoBack : mg "NoBack" = some (.ref (He.ga K "NoBack"))
  x_NoRoad : ExF K "NoRoad" "RoadError" ["many"]
  xm_NoRoad_RoadError : PySem.W.exmOne K (.ref (He.ga K "NoRoad")) (.ref (He.ga K "RoadError")) = some true
  xk_NoRoad_NoBack : PySem.W.kitOne K (.ref (He.ga K "NoRoad")) (.ref (He.ga K "NoBack")) = some false
  xk_NoRoad_NoDeed : PySem.W.kitOne K (.ref (He.ga K "NoRoad")) (.ref (He.ga K "NoDeed")) = some false
  xk_NoRoad_NoName : PySem.W.kitOne K (.ref (He.ga K "NoRoad")) (.ref (He.ga K "NoName")) = some false
  xk_NoRoad_NoQuotient : PySem.W.kitOne K (.ref (He.ga K "NoRoad")) (.ref (He.ga K "NoQuotient")) = some false
  xk_NoRoad_NoRing : PySem.W.kitOne K (.ref (He.ga K "NoRoad")) (.ref (He.ga K "NoRing")) = some false
  xk_NoRoad_NoRow : PySem.W.kitOne K (.ref (He.ga K "NoRoad")) (.ref (He.ga K "NoRow")) = some false
  xk_NoRoad_NoShare : PySem.W.kitOne K (.ref (He.ga K "NoRoad")) (.ref (He.ga K "NoShare")) = some false
  xk_NoRoad_NotSame : PySem.W.kitOne K (.ref (He.ga K "NoRoad")) (.ref (He.ga K "NotSame")) = some false
  xk_NoRoad_NoText : PySem.W.kitOne K (.ref (He.ga K "NoRoad")) (.ref (He.ga K "NoText")) = some false
  xk_NoRoad_Taken : PySem.W.kitOne K (.ref (He.ga K "NoRoad")) (.ref (He.ga K "Taken")) = some false
  xk_NoRoad_NoRoad : PySem.W.kitOne K (.ref (He.ga K "NoRoad")) (.ref (He.ga K "NoRoad")) = some true
  xk_NoRoad_ArithmeticError : PySem.W.kitOne K (.ref (He.ga K "NoRoad")) (.type "ArithmeticError") = some true
  xk_NoRoad_TooGreat : PySem.W.kitOne K (.ref (He.ga K "NoRoad")) (.ref (He.ga K "TooGreat")) = some false
  sysk : SysK K
  tB : tabsB (xs_.map (·.1)) K = true
  i_PLAN : mDat K mg "PLAN" dd_PLAN
  p_PLAN : ∀ B, Rep K B (.ref (He.ga K "PLAN")) dd_PLAN
  c_FEWEST : mg "FEWEST" = some (.ref (He.ga K "FEWEST"))
  k_FEWEST : KTab K w (He.ga K "FEWEST") [("plain", .int 1), ("halves", .int 2), ("thirds", .int 5)]
abbrev Tb (K : PySem.W.Frag) (mg : Str → Option Value) (base : Heap) : Prop := ∀ p ∈ tabsOf K (xs_.map (·.1)), LamX.TabB base mg p.1 p.2
section
variable {w : World} {K : PySem.W.Frag} {mg : Str → Option Value} {base : Heap}
theorem ki_NoRoad (t : T w K mg) : IniOk PR w K mg base "NoRoad" ["self", "many"] (fun C => spOne C "many") := by
  obtain ⟨fd, F⟩ := t.fi_NoRoad
  have T := t.x_NoRoad
  refine ⟨fd, F.ok (N := ni_NoRoad) Si_NoRoad (fun vs H Q E h => by obtain ⟨a, x, e, _⟩ := h; rw [e]; rfl) fun cdv A outer s H vs Q E hR h => ?_, FunD.bindsN F fun _ _ _ _ _ _ us hl => match us, hl with | [_, _], _ => rfl⟩
  obtain ⟨a, x, rfl, e, q⟩ := h
  refine ⟨_, pss_cons (ps_expr (pe_baseI (by rfl) t.c_RoadError T.rg T.rr T.rf (pa_cons (pe_var (i := 0) (by rfl) (by first | exact Or.inl rfl | exact Or.inr (Or.inl rfl) | exact Or.inr (Or.inr rfl)) (by decide) (by decide)) (pa_cons pe_str pa_nil)))) (pss_one (ps_fld (pe_var (i := 0) (by rfl) (by first | exact Or.inl rfl | exact Or.inr (Or.inl rfl) | exact Or.inr (Or.inr rfl)) (by decide) (by decide)) (pe_var (i := 1) (by rfl) (by first | exact Or.inl rfl | exact Or.inr (Or.inl rfl) | exact Or.inr (Or.inr rfl)) (by decide) (by decide)))), ?_⟩
  refine ⟨.ref a, rfl, a, He.ga K "NoRoad", [.str "too few roads"], rfl, by simp, T.ea, e, ?_⟩
  exact ⟨x, rfl, .ref a, rfl, a, He.ga K "NoRoad", rfl, T.ea, T.os "many" (by simp), .inl ⟨e, fun dx nd da => q dx nd da⟩⟩
theorem kn__law_deck (t : T w K mg) : ∃ fd, Known PR w K mg base 1 "_law_deck" (He.ga K "_law_deck") fd ["_law_script"] DWd 1 aDeck ∧ Bnd K fd ["_law_script"] 1 [] [0] [] := by
  obtain ⟨fd, F⟩ := t.f__law_deck
  have ok : FnG PR w K mg base (L2.CX PR w) 1 (He.ga K "_law_deck") fd ["_law_script"] (toSp DWd K 1 aDeck) := by
    refine fn_ok (N := n__law_deck) DWd aDeck F S__law_deck fun cdv A outer s H E hr hG => ?_
    have S := S__law_deck
    refine ⟨_, (gss_cons (gs_set 1 S.nd (GF.ge (gf_list t.z_list (GF.gl (gf_scr 0)))))
      (gss_one (gs_deck (gf_rev (GE.gl (ge_var 1))) (ge_add (ge_fn (cr_sum rfl) c_sum t.z_sum (ga_cons (GF.ge (gf_comp rfl S.nd (ge_var 1) (blkOk_by (own := [("_law_cell", 2)]) rfl) (fun s2 H2 C2 cl2 fp2 => (gc_name 2 S.nd)) (fun s2 H2 C2 cl2 fp2 => gts_nil) (fun s2 H2 C2 cl2 fp2 => (ge_mod (ge_var 2) ge_int)))) ga_nil)) (ge_mul ge_int (ge_fn call_len c_len t.z_len (ga_cons (ge_var 1) ga_nil)))) ge_int))), ?_⟩
    clear S hr hG F t
    rintro ds ω Qa Ea ⟨a, ns, rfl, e, hl, hn, q⟩ _
    simp (maxSteps := 2000000) only [MR.sNil, MR.sSeq, MR.sDrop, MR.sRet, MR.sRetN, MR.sBreak, MR.sCont, MR.sIf, MR.sSet, MR.sOwn, MR.sAsg, MR.sPar, MR.sAug, MR.sFrz, MR.sApp, MR.sPut, MR.sExt, MR.aName, MR.aTup, MR.aNil, MR.aCons, MR.frz,
        MR.gVar, MR.gC, MR.gOp, MR.gB, MR.bK, MR.gTru, MR.gNotT, MR.gAndT, MR.gOrT, MR.gAndV, MR.gOrV, MR.gNotV, MR.gIf, MR.gChain, MR.gNil, MR.gCons, MR.gTup, MR.gLst, MR.gFz, MR.gOwn, MR.gAsL, MR.gNo, MR.gPart, MR.gSl, MR.gSlF, MR.gUn, MR.gIxL, MR.gFn, MR.gLenL, MR.gYes,
        MR.fAddI, MR.fSub, MR.fDiv, MR.fMod, MR.fPow, MR.fLe, MR.fGt, MR.fGe, MR.fIs, MR.fIsN, MR.fNeg, MR.fMin, MR.fMax, MR.fDivmod, MR.fSum, MR.fAll, MR.fRepr, MR.fIsi, MR.tyD, MR.dInt, MR.dBool, MR.dTup, MR.dStr, MR.dLst,
        MR.gDkT, MR.gDkS, MR.gDkNe, MR.gDkPop, MR.sDkApp, MR.sDkPut, MR.gScr, MR.sDeck, MR.gCall, MR.sel, MR.sFor, MR.sForR1, MR.sForR2, MR.sWhile, MR.sForE, MR.sAugP, MR.gRepL, MR.gCatL, MR.gComp, MR.gCompR, MR.startA, MR.wipeA, MR.sNever, MR.gNever, MR.tNev, MR.sAsg2, MR.fMulS_str, MR.fIntS_str, MR.sParO, MR.sForG, MR.gCompG, MR.iSeqG, MR.iR1G, MR.iR2G, MR.iR3G, MR.iZipG, MR.iEnumG, MR.iEnumLG, MR.iRevG,
        MR.fTru_bl, MR.fTru_non, MR.fTru_int, MR.fTru_str, MR.fTru_lst, MR.fTru_tup, MR.fAdd_int, MR.fAdd_str, MR.fAdd_tup, MR.fAdd_lst, MR.fMul_int, MR.fMul_tup, MR.fMul_lst, MR.fEq_int, MR.fEq_str, MR.fEq_bl, MR.fEq_tup_tup, MR.fEq_tup_lst, MR.fEq_tup_int, MR.fEq_tup_non, MR.fEq_tup_str, MR.fEq_tup_bl, MR.fEq_lst_tup, MR.fEq_lst_lst, MR.fEq_lst_int, MR.fEq_lst_non, MR.fEq_lst_str, MR.fEq_lst_bl, MR.fEq_int_tup, MR.fEq_int_lst, MR.fEq_int_non, MR.fEq_int_str, MR.fEq_int_bl, MR.fEq_non_tup, MR.fEq_non_lst, MR.fEq_non_int, MR.fEq_non_non, MR.fEq_non_str, MR.fEq_non_bl, MR.fEq_str_tup, MR.fEq_str_lst, MR.fEq_str_int, MR.fEq_str_non, MR.fEq_str_bl, MR.fEq_bl_tup, MR.fEq_bl_lst, MR.fEq_bl_int, MR.fEq_bl_non, MR.fEq_bl_str, MR.fNe_int, MR.fNe_str, MR.fNe_bl, MR.fNe_tup_tup, MR.fNe_tup_lst, MR.fNe_tup_int, MR.fNe_tup_non, MR.fNe_tup_str, MR.fNe_tup_bl, MR.fNe_lst_tup, MR.fNe_lst_lst, MR.fNe_lst_int, MR.fNe_lst_non, MR.fNe_lst_str, MR.fNe_lst_bl, MR.fNe_int_tup, MR.fNe_int_lst, MR.fNe_int_non, MR.fNe_int_str, MR.fNe_int_bl, MR.fNe_non_tup, MR.fNe_non_lst, MR.fNe_non_int, MR.fNe_non_non, MR.fNe_non_str, MR.fNe_non_bl, MR.fNe_str_tup, MR.fNe_str_lst, MR.fNe_str_int, MR.fNe_str_non, MR.fNe_str_bl, MR.fNe_bl_tup, MR.fNe_bl_lst, MR.fNe_bl_int, MR.fNe_bl_non, MR.fNe_bl_str, MR.fLt_int, MR.fIx_tup, MR.fSl_tup, MR.fLen_tup, MR.fTuple_tup, MR.fRev_tup, MR.fIx_lst, MR.fSl_lst, MR.fLen_lst, MR.fTuple_lst, MR.fRev_lst, MR.fIx_str, MR.fSl_str, MR.fLen_str, MR.fInt_int, MR.fInt_bl,
        List.map_cons, List.map_nil, List.cons_append, List.nil_append, List.append_nil, List.length_cons, List.length_nil, List.replicate_succ, List.replicate_zero, List.set_cons_zero, List.set_cons_succ, List.getElem?_cons_zero, List.getElem?_cons_succ, List.getD_cons_zero, List.getD_cons_succ, Nat.reduceAdd, Nat.reduceSub, Nat.zero_add, Option.some.injEq, reduceIte, Bool.not_true, Bool.not_false, true_and, and_true]
    have ec : cutD (ns.map D.int) none (some 63) = ns.map D.int := by
      rw [cut_hi (by decide), List.take_of_length_le (by rw [List.length_map]; exact hl)]
    refine ⟨a, ns, rfl, e, hn, ns.reverse, by rw [ec, List.map_reverse], ?_⟩
    rw [ec]
    refine comp_by (fun d => match d with | .int i => [.int (i % 1000003)] | _ => []) (fun d => by cases d <;> simp) (by rw [List.length_map]; omega) ?_ (fun i d acc P hd hl hP => ?_)
    · rw [flat_ints (fun i => i % 1000003) ns _ (fun n => rfl)]
      simp only [asInts_map]
      refine ⟨mulw 20 20 (by decide) (by decide) (by omega) (by rw [List.length_map]; omega) (by decide) (by decide) (by decide), ?_⟩
      exact ⟨trivial, _, rfl, _, rfl, fun p c => q p _ ⟨c, _, _, _, rfl, Int.le_refl 0, Int.le_refl 0, by rw [List.length_reverse]; exact hl⟩⟩
    · obtain ⟨n, e1, rfl⟩ := at_ints hd
      simp (maxSteps := 2000000) only [MR.sNil, MR.sSeq, MR.sDrop, MR.sRet, MR.sRetN, MR.sBreak, MR.sCont, MR.sIf, MR.sSet, MR.sOwn, MR.sAsg, MR.sPar, MR.sAug, MR.sFrz, MR.sApp, MR.sPut, MR.sExt, MR.aName, MR.aTup, MR.aNil, MR.aCons, MR.frz,
        MR.gVar, MR.gC, MR.gOp, MR.gB, MR.bK, MR.gTru, MR.gNotT, MR.gAndT, MR.gOrT, MR.gAndV, MR.gOrV, MR.gNotV, MR.gIf, MR.gChain, MR.gNil, MR.gCons, MR.gTup, MR.gLst, MR.gFz, MR.gOwn, MR.gAsL, MR.gNo, MR.gPart, MR.gSl, MR.gSlF, MR.gUn, MR.gIxL, MR.gFn, MR.gLenL, MR.gYes,
        MR.fAddI, MR.fSub, MR.fDiv, MR.fMod, MR.fPow, MR.fLe, MR.fGt, MR.fGe, MR.fIs, MR.fIsN, MR.fNeg, MR.fMin, MR.fMax, MR.fDivmod, MR.fSum, MR.fAll, MR.fRepr, MR.fIsi, MR.tyD, MR.dInt, MR.dBool, MR.dTup, MR.dStr, MR.dLst,
        MR.gDkT, MR.gDkS, MR.gDkNe, MR.gDkPop, MR.sDkApp, MR.sDkPut, MR.gScr, MR.sDeck, MR.gCall, MR.sel, MR.sFor, MR.sForR1, MR.sForR2, MR.sWhile, MR.sForE, MR.sAugP, MR.gRepL, MR.gCatL, MR.gComp, MR.gCompR, MR.startA, MR.wipeA, MR.sNever, MR.gNever, MR.tNev, MR.sAsg2, MR.fMulS_str, MR.fIntS_str, MR.sParO, MR.sForG, MR.gCompG, MR.iSeqG, MR.iR1G, MR.iR2G, MR.iR3G, MR.iZipG, MR.iEnumG, MR.iEnumLG, MR.iRevG,
        MR.fTru_bl, MR.fTru_non, MR.fTru_int, MR.fTru_str, MR.fTru_lst, MR.fTru_tup, MR.fAdd_int, MR.fAdd_str, MR.fAdd_tup, MR.fAdd_lst, MR.fMul_int, MR.fMul_tup, MR.fMul_lst, MR.fEq_int, MR.fEq_str, MR.fEq_bl, MR.fEq_tup_tup, MR.fEq_tup_lst, MR.fEq_tup_int, MR.fEq_tup_non, MR.fEq_tup_str, MR.fEq_tup_bl, MR.fEq_lst_tup, MR.fEq_lst_lst, MR.fEq_lst_int, MR.fEq_lst_non, MR.fEq_lst_str, MR.fEq_lst_bl, MR.fEq_int_tup, MR.fEq_int_lst, MR.fEq_int_non, MR.fEq_int_str, MR.fEq_int_bl, MR.fEq_non_tup, MR.fEq_non_lst, MR.fEq_non_int, MR.fEq_non_non, MR.fEq_non_str, MR.fEq_non_bl, MR.fEq_str_tup, MR.fEq_str_lst, MR.fEq_str_int, MR.fEq_str_non, MR.fEq_str_bl, MR.fEq_bl_tup, MR.fEq_bl_lst, MR.fEq_bl_int, MR.fEq_bl_non, MR.fEq_bl_str, MR.fNe_int, MR.fNe_str, MR.fNe_bl, MR.fNe_tup_tup, MR.fNe_tup_lst, MR.fNe_tup_int, MR.fNe_tup_non, MR.fNe_tup_str, MR.fNe_tup_bl, MR.fNe_lst_tup, MR.fNe_lst_lst, MR.fNe_lst_int, MR.fNe_lst_non, MR.fNe_lst_str, MR.fNe_lst_bl, MR.fNe_int_tup, MR.fNe_int_lst, MR.fNe_int_non, MR.fNe_int_str, MR.fNe_int_bl, MR.fNe_non_tup, MR.fNe_non_lst, MR.fNe_non_int, MR.fNe_non_non, MR.fNe_non_str, MR.fNe_non_bl, MR.fNe_str_tup, MR.fNe_str_lst, MR.fNe_str_int, MR.fNe_str_non, MR.fNe_str_bl, MR.fNe_bl_tup, MR.fNe_bl_lst, MR.fNe_bl_int, MR.fNe_bl_non, MR.fNe_bl_str, MR.fLt_int, MR.fIx_tup, MR.fSl_tup, MR.fLen_tup, MR.fTuple_tup, MR.fRev_tup, MR.fIx_lst, MR.fSl_lst, MR.fLen_lst, MR.fTuple_lst, MR.fRev_lst, MR.fIx_str, MR.fSl_str, MR.fLen_str, MR.fInt_int, MR.fInt_bl,
        List.map_cons, List.map_nil, List.cons_append, List.nil_append, List.append_nil, List.length_cons, List.length_nil, List.replicate_succ, List.replicate_zero, List.set_cons_zero, List.set_cons_succ, List.getElem?_cons_zero, List.getElem?_cons_succ, List.getD_cons_zero, List.getD_cons_succ, Nat.reduceAdd, Nat.reduceSub, Nat.zero_add, Option.some.injEq, reduceIte, Bool.not_true, Bool.not_false, true_and, and_true]
      exact ⟨by decide, hl, hP⟩
  refine ⟨fd, ⟨t.g__law_deck, F.kp, ok⟩, ?_⟩
  · refine bnd_of F 1 [] [] [0] [] (by simp) rfl ?_
    intro kV doc pm an cdv ct D us mv ws h1 h2 h3 h4
    match us, mv, ws, h1, h2, h3 with
    | [u0], [], [], _, _, _ => exact rfl
theorem kn__law_draw (t : T w K mg) : ∃ fd, Known PR w K mg base 1 "_law_draw" (He.ga K "_law_draw") fd ["_law_deck_here", "_law_most"] DWd 2 aDraw ∧ Bnd K fd ["_law_deck_here", "_law_most"] 2 [] [0, 1] [] := by
  obtain ⟨fd, F⟩ := t.f__law_draw
  have ok : FnG PR w K mg base (L2.CX PR w) 1 (He.ga K "_law_draw") fd ["_law_deck_here", "_law_most"] (toSp DWd K 2 aDraw) := by
    refine fn_ok (N := n__law_draw) DWd aDraw F S__law_draw fun cdv A outer s H E hr hG => ?_
    have S := S__law_draw
    refine ⟨_, (gss_cons (gs_dkPut 0 (ge_add (ge_dkT 0) ge_int))
      (gss_cons (gs_set 2 S.nd (ge_dkS 0))
      (gss_cons (gs_if (gt_dkNe 0 (un64 hr))
      (gss_cons (gs_set 2 S.nd (ge_dkPop 0))
      (gss_one (gs_if (gt_cmp op_ge op2_ge (nomark _) (ge_var 2) (ge_pow ge_int ge_int))
      (gss_cons (gs_dkApp 0 (ge_div (ge_var 2) (ge_var 1)))
      (gss_one (gs_ret (ge_mod (ge_var 2) (ge_var 1)))))
      gss_nil)))
      gss_nil)
      (gss_cons (gs_set 3 S.nd (ge_mod (ge_mul (ge_add (ge_add (ge_mod (ge_var 2) ge_int) (ge_mul ge_int (ge_dkT 0))) ge_int) ge_int) ge_int))
      (gss_cons (gs_set 3 S.nd (ge_mod (ge_add (ge_add (ge_mul (ge_var 3) (ge_var 3)) (ge_mul ge_int (ge_dkT 0))) ge_int) ge_int))
      (gss_one (gs_ret (ge_mod (ge_div (ge_mod (ge_add (ge_mul (ge_var 3) (ge_var 3)) (ge_mul ge_int (ge_var 3))) ge_int) ge_int) (ge_var 1))))))))), ?_⟩
    clear S hr hG F t
    rintro ds ω Qa Ea ⟨p, m, T, rfl, ⟨c, cs, s, t, e, t0, tT, hc⟩, h0, hm, hT, q⟩ _
    simp (maxSteps := 2000000) only [MR.sNil, MR.sSeq, MR.sDrop, MR.sRet, MR.sRetN, MR.sBreak, MR.sCont, MR.sIf, MR.sSet, MR.sOwn, MR.sAsg, MR.sPar, MR.sAug, MR.sFrz, MR.sApp, MR.sPut, MR.sExt, MR.aName, MR.aTup, MR.aNil, MR.aCons, MR.frz,
        MR.gVar, MR.gC, MR.gOp, MR.gB, MR.bK, MR.gTru, MR.gNotT, MR.gAndT, MR.gOrT, MR.gAndV, MR.gOrV, MR.gNotV, MR.gIf, MR.gChain, MR.gNil, MR.gCons, MR.gTup, MR.gLst, MR.gFz, MR.gOwn, MR.gAsL, MR.gNo, MR.gPart, MR.gSl, MR.gSlF, MR.gUn, MR.gIxL, MR.gFn, MR.gLenL, MR.gYes,
        MR.fAddI, MR.fSub, MR.fDiv, MR.fMod, MR.fPow, MR.fLe, MR.fGt, MR.fGe, MR.fIs, MR.fIsN, MR.fNeg, MR.fMin, MR.fMax, MR.fDivmod, MR.fSum, MR.fAll, MR.fRepr, MR.fIsi, MR.tyD, MR.dInt, MR.dBool, MR.dTup, MR.dStr, MR.dLst,
        MR.gDkT, MR.gDkS, MR.gDkNe, MR.gDkPop, MR.sDkApp, MR.sDkPut, MR.gScr, MR.sDeck, MR.gCall, MR.sel, MR.sFor, MR.sForR1, MR.sForR2, MR.sWhile, MR.sForE, MR.sAugP, MR.gRepL, MR.gCatL, MR.gComp, MR.gCompR, MR.startA, MR.wipeA, MR.sNever, MR.gNever, MR.tNev, MR.sAsg2, MR.fMulS_str, MR.fIntS_str, MR.sParO, MR.sForG, MR.gCompG, MR.iSeqG, MR.iR1G, MR.iR2G, MR.iR3G, MR.iZipG, MR.iEnumG, MR.iEnumLG, MR.iRevG,
        MR.fTru_bl, MR.fTru_non, MR.fTru_int, MR.fTru_str, MR.fTru_lst, MR.fTru_tup, MR.fAdd_int, MR.fAdd_str, MR.fAdd_tup, MR.fAdd_lst, MR.fMul_int, MR.fMul_tup, MR.fMul_lst, MR.fEq_int, MR.fEq_str, MR.fEq_bl, MR.fEq_tup_tup, MR.fEq_tup_lst, MR.fEq_tup_int, MR.fEq_tup_non, MR.fEq_tup_str, MR.fEq_tup_bl, MR.fEq_lst_tup, MR.fEq_lst_lst, MR.fEq_lst_int, MR.fEq_lst_non, MR.fEq_lst_str, MR.fEq_lst_bl, MR.fEq_int_tup, MR.fEq_int_lst, MR.fEq_int_non, MR.fEq_int_str, MR.fEq_int_bl, MR.fEq_non_tup, MR.fEq_non_lst, MR.fEq_non_int, MR.fEq_non_non, MR.fEq_non_str, MR.fEq_non_bl, MR.fEq_str_tup, MR.fEq_str_lst, MR.fEq_str_int, MR.fEq_str_non, MR.fEq_str_bl, MR.fEq_bl_tup, MR.fEq_bl_lst, MR.fEq_bl_int, MR.fEq_bl_non, MR.fEq_bl_str, MR.fNe_int, MR.fNe_str, MR.fNe_bl, MR.fNe_tup_tup, MR.fNe_tup_lst, MR.fNe_tup_int, MR.fNe_tup_non, MR.fNe_tup_str, MR.fNe_tup_bl, MR.fNe_lst_tup, MR.fNe_lst_lst, MR.fNe_lst_int, MR.fNe_lst_non, MR.fNe_lst_str, MR.fNe_lst_bl, MR.fNe_int_tup, MR.fNe_int_lst, MR.fNe_int_non, MR.fNe_int_str, MR.fNe_int_bl, MR.fNe_non_tup, MR.fNe_non_lst, MR.fNe_non_int, MR.fNe_non_non, MR.fNe_non_str, MR.fNe_non_bl, MR.fNe_str_tup, MR.fNe_str_lst, MR.fNe_str_int, MR.fNe_str_non, MR.fNe_str_bl, MR.fNe_bl_tup, MR.fNe_bl_lst, MR.fNe_bl_int, MR.fNe_bl_non, MR.fNe_bl_str, MR.fLt_int, MR.fIx_tup, MR.fSl_tup, MR.fLen_tup, MR.fTuple_tup, MR.fRev_tup, MR.fIx_lst, MR.fSl_lst, MR.fLen_lst, MR.fTuple_lst, MR.fRev_lst, MR.fIx_str, MR.fSl_str, MR.fLen_str, MR.fInt_int, MR.fInt_bl,
        List.map_cons, List.map_nil, List.cons_append, List.nil_append, List.append_nil, List.length_cons, List.length_nil, List.replicate_succ, List.replicate_zero, List.set_cons_zero, List.set_cons_succ, List.getElem?_cons_zero, List.getElem?_cons_succ, List.getD_cons_zero, List.getD_cons_succ, Nat.reduceAdd, Nat.reduceSub, Nat.zero_add, Option.some.injEq, reduceIte, Bool.not_true, Bool.not_false, true_and, and_true]
    refine ⟨p, c, cs, s, t, ⟨rfl, e⟩, p, c, cs, s, t, ⟨rfl, e⟩, t + 1, rfl, ?_⟩
    refine ⟨p, c, cs, s, t + 1, ⟨rfl, rfl⟩, p, c, cs, s, t + 1, ⟨rfl, rfl⟩, ?_⟩
    have big : (t + 1) < 2 ^ 61 := by omega
    split
    · rename_i ne
      have e2 : cs = cs.dropLast ++ [cs.getLast (by intro z; subst z; exact absurd ne (by decide))] := (List.dropLast_concat_getLast _).symm
      refine ⟨p, c, cs.dropLast, cs.getLast (by intro z; subst z; exact absurd ne (by decide)), s, t + 1, ⟨rfl, by rw [← e2]⟩, ⟨by decide, by decide, by decide⟩, ?_⟩
      generalize cs.getLast (by intro z; subst z; exact absurd ne (by decide)) = x
      have hc2 : cs.dropLast.length + 1 ≤ 63 ∨ cs.dropLast.length + 1 ≤ 63 := by
        have : cs.length ≠ 0 := by intro z; rw [List.eq_nil_of_length_eq_zero z] at ne; exact absurd ne (by decide)
        rw [List.length_dropLast]
        omega
      have hc3 : cs.dropLast.length + 1 ≤ 63 := hc2.elim id id
      split
      · exact ⟨p, c, cs.dropLast, s, t + 1, ⟨rfl, rfl⟩, divw h0 hm, rfl, x / m, rfl, line1000l (by omega), h0, q _ _ (Int.emod_nonneg _ (by omega)) (Int.emod_lt_of_pos _ h0) ⟨c, _, s, t + 1, rfl, by omega, by omega, by rw [List.length_append]; exact hc3⟩⟩
      · refine ⟨by decide, p, c, cs.dropLast, s, t + 1, ⟨rfl, rfl⟩, mulw 100 100 (by omega) (by omega) (by omega) (by omega) (by decide) (by decide) (by decide), mulw 100 100 (by omega) (by omega) (by omega) (by omega) (by decide) (by decide) (by decide), by decide, mulw 100 100 (by omega) (by omega) (by omega) (by omega) (by decide) (by decide) (by decide), ?_⟩
        refine ⟨p, c, cs.dropLast, s, t + 1, ⟨rfl, rfl⟩, mulw 100 100 (by omega) (by omega) (by omega) (by omega) (by decide) (by decide) (by decide), by decide, mulw 100 100 (by omega) (by omega) (by omega) (by omega) (by decide) (by decide) (by decide), mulw 100 100 (by omega) (by omega) (by omega) (by omega) (by decide) (by decide) (by decide), by decide, ⟨by decide, by decide⟩, h0, ?_⟩
        exact q _ _ (Int.emod_nonneg _ (by omega)) (Int.emod_lt_of_pos _ h0) ⟨c, _, s, t + 1, rfl, by omega, by omega, by omega⟩
    · refine ⟨by decide, p, c, cs, s, t + 1, ⟨rfl, rfl⟩, mulw 100 100 (by omega) (by omega) (by omega) (by omega) (by decide) (by decide) (by decide), mulw 100 100 (by omega) (by omega) (by omega) (by omega) (by decide) (by decide) (by decide), by decide, mulw 100 100 (by omega) (by omega) (by omega) (by omega) (by decide) (by decide) (by decide), ?_⟩
      refine ⟨p, c, cs, s, t + 1, ⟨rfl, rfl⟩, mulw 100 100 (by omega) (by omega) (by omega) (by omega) (by decide) (by decide) (by decide), by decide, mulw 100 100 (by omega) (by omega) (by omega) (by omega) (by decide) (by decide) (by decide), mulw 100 100 (by omega) (by omega) (by omega) (by omega) (by decide) (by decide) (by decide), by decide, ⟨by decide, by decide⟩, h0, ?_⟩
      exact q _ _ (Int.emod_nonneg _ (by omega)) (Int.emod_lt_of_pos _ h0) ⟨c, _, s, t + 1, rfl, by omega, by omega, by omega⟩
  refine ⟨fd, ⟨t.g__law_draw, F.kp, ok⟩, ?_⟩
  · refine bnd_of F 2 [] [] [0, 1] [] (by simp) rfl ?_
    intro kV doc pm an cdv ct D us mv ws h1 h2 h3 h4
    match us, mv, ws, h1, h2, h3 with
    | [u0, u1], [], [], _, _, _ => exact rfl
theorem kn__law_any_base (t : T w K mg) : ∃ fd, Known PR w K mg base 2 "_law_any_base" (He.ga K "_law_any_base") fd ["_law_deck_here"] DWd 1 aAnyBase ∧ Bnd K fd ["_law_deck_here"] 1 [] [0] [] := by
  obtain ⟨fd, F⟩ := t.f__law_any_base
  obtain ⟨fd__law_draw, k__law_draw, b__law_draw_0⟩ := kn__law_draw (w := w) (base := base) t
  have ok : FnG PR w K mg base (L2.CX PR w) 2 (He.ga K "_law_any_base") fd ["_law_deck_here"] (toSp DWd K 1 aAnyBase) := by
    refine fn_ok (N := n__law_any_base) DWd aAnyBase F S__law_any_base fun cdv A outer s H E hr hG => ?_
    have S := S__law_any_base
    refine ⟨_, (gss_cons (gs_set 1 S.nd (ge_call1 k__law_draw (Room.mono hr (by decide)) hG tk_cx b__law_draw_0 (fun B => .nil) (ga_cons (ge_var 0) (ga_cons ge_int ga_nil))))
      (gss_cons (gs_set 2 S.nd (GF.ge (gf_lst (ga_cons ge_int (ga_cons ge_int (ga_cons ge_int (ga_cons ge_int (ga_cons (ge_add ge_int (ge_call1 k__law_draw (Room.mono hr (by decide)) hG tk_cx b__law_draw_0 (fun B => .nil) (ga_cons (ge_var 0) (ga_cons ge_int ga_nil)))) (ga_cons ge_int (ga_cons (ge_add ge_int (ge_call1 k__law_draw (Room.mono hr (by decide)) hG tk_cx b__law_draw_0 (fun B => .nil) (ga_cons (ge_var 0) (ga_cons ge_int ga_nil)))) (ga_cons ge_int ga_nil)))))))))))
      (gss_one (gs_ret (ge_ix (ge_var 2) (ge_var 1)))))), ?_⟩
    clear S hr hG F t k__law_draw b__law_draw_0
    rintro ds ω Qa Ea ⟨p, T, rfl, hk, hT, q⟩ _
    simp (maxSteps := 2000000) only [MR.sNil, MR.sSeq, MR.sDrop, MR.sRet, MR.sRetN, MR.sBreak, MR.sCont, MR.sIf, MR.sSet, MR.sOwn, MR.sAsg, MR.sPar, MR.sAug, MR.sFrz, MR.sApp, MR.sPut, MR.sExt, MR.aName, MR.aTup, MR.aNil, MR.aCons, MR.frz,
        MR.gVar, MR.gC, MR.gOp, MR.gB, MR.bK, MR.gTru, MR.gNotT, MR.gAndT, MR.gOrT, MR.gAndV, MR.gOrV, MR.gNotV, MR.gIf, MR.gChain, MR.gNil, MR.gCons, MR.gTup, MR.gLst, MR.gFz, MR.gOwn, MR.gAsL, MR.gNo, MR.gPart, MR.gSl, MR.gSlF, MR.gUn, MR.gIxL, MR.gFn, MR.gLenL, MR.gYes,
        MR.fAddI, MR.fSub, MR.fDiv, MR.fMod, MR.fPow, MR.fLe, MR.fGt, MR.fGe, MR.fIs, MR.fIsN, MR.fNeg, MR.fMin, MR.fMax, MR.fDivmod, MR.fSum, MR.fAll, MR.fRepr, MR.fIsi, MR.tyD, MR.dInt, MR.dBool, MR.dTup, MR.dStr, MR.dLst,
        MR.gDkT, MR.gDkS, MR.gDkNe, MR.gDkPop, MR.sDkApp, MR.sDkPut, MR.gScr, MR.sDeck, MR.gCall, MR.sel, MR.sFor, MR.sForR1, MR.sForR2, MR.sWhile, MR.sForE, MR.sAugP, MR.gRepL, MR.gCatL, MR.gComp, MR.gCompR, MR.startA, MR.wipeA, MR.sNever, MR.gNever, MR.tNev, MR.sAsg2, MR.fMulS_str, MR.fIntS_str, MR.sParO, MR.sForG, MR.gCompG, MR.iSeqG, MR.iR1G, MR.iR2G, MR.iR3G, MR.iZipG, MR.iEnumG, MR.iEnumLG, MR.iRevG,
        MR.fTru_bl, MR.fTru_non, MR.fTru_int, MR.fTru_str, MR.fTru_lst, MR.fTru_tup, MR.fAdd_int, MR.fAdd_str, MR.fAdd_tup, MR.fAdd_lst, MR.fMul_int, MR.fMul_tup, MR.fMul_lst, MR.fEq_int, MR.fEq_str, MR.fEq_bl, MR.fEq_tup_tup, MR.fEq_tup_lst, MR.fEq_tup_int, MR.fEq_tup_non, MR.fEq_tup_str, MR.fEq_tup_bl, MR.fEq_lst_tup, MR.fEq_lst_lst, MR.fEq_lst_int, MR.fEq_lst_non, MR.fEq_lst_str, MR.fEq_lst_bl, MR.fEq_int_tup, MR.fEq_int_lst, MR.fEq_int_non, MR.fEq_int_str, MR.fEq_int_bl, MR.fEq_non_tup, MR.fEq_non_lst, MR.fEq_non_int, MR.fEq_non_non, MR.fEq_non_str, MR.fEq_non_bl, MR.fEq_str_tup, MR.fEq_str_lst, MR.fEq_str_int, MR.fEq_str_non, MR.fEq_str_bl, MR.fEq_bl_tup, MR.fEq_bl_lst, MR.fEq_bl_int, MR.fEq_bl_non, MR.fEq_bl_str, MR.fNe_int, MR.fNe_str, MR.fNe_bl, MR.fNe_tup_tup, MR.fNe_tup_lst, MR.fNe_tup_int, MR.fNe_tup_non, MR.fNe_tup_str, MR.fNe_tup_bl, MR.fNe_lst_tup, MR.fNe_lst_lst, MR.fNe_lst_int, MR.fNe_lst_non, MR.fNe_lst_str, MR.fNe_lst_bl, MR.fNe_int_tup, MR.fNe_int_lst, MR.fNe_int_non, MR.fNe_int_str, MR.fNe_int_bl, MR.fNe_non_tup, MR.fNe_non_lst, MR.fNe_non_int, MR.fNe_non_non, MR.fNe_non_str, MR.fNe_non_bl, MR.fNe_str_tup, MR.fNe_str_lst, MR.fNe_str_int, MR.fNe_str_non, MR.fNe_str_bl, MR.fNe_bl_tup, MR.fNe_bl_lst, MR.fNe_bl_int, MR.fNe_bl_non, MR.fNe_bl_str, MR.fLt_int, MR.fIx_tup, MR.fSl_tup, MR.fLen_tup, MR.fTuple_tup, MR.fRev_tup, MR.fIx_lst, MR.fSl_lst, MR.fLen_lst, MR.fTuple_lst, MR.fRev_lst, MR.fIx_str, MR.fSl_str, MR.fLen_str, MR.fInt_int, MR.fInt_bl,
        List.map_cons, List.map_nil, List.cons_append, List.nil_append, List.append_nil, List.length_cons, List.length_nil, List.replicate_succ, List.replicate_zero, List.set_cons_zero, List.set_cons_succ, List.getElem?_cons_zero, List.getElem?_cons_succ, List.getD_cons_zero, List.getD_cons_succ, Nat.reduceAdd, Nat.reduceSub, Nat.zero_add, Option.some.injEq, reduceIte, Bool.not_true, Bool.not_false, true_and, and_true]
    refine ⟨p, 8, T, rfl, hk, by decide, small_m (by decide), by omega, fun w1 ω1 a1 b1 k1 => ?_⟩
    simp (maxSteps := 2000000) only [MR.sNil, MR.sSeq, MR.sDrop, MR.sRet, MR.sRetN, MR.sBreak, MR.sCont, MR.sIf, MR.sSet, MR.sOwn, MR.sAsg, MR.sPar, MR.sAug, MR.sFrz, MR.sApp, MR.sPut, MR.sExt, MR.aName, MR.aTup, MR.aNil, MR.aCons, MR.frz,
        MR.gVar, MR.gC, MR.gOp, MR.gB, MR.bK, MR.gTru, MR.gNotT, MR.gAndT, MR.gOrT, MR.gAndV, MR.gOrV, MR.gNotV, MR.gIf, MR.gChain, MR.gNil, MR.gCons, MR.gTup, MR.gLst, MR.gFz, MR.gOwn, MR.gAsL, MR.gNo, MR.gPart, MR.gSl, MR.gSlF, MR.gUn, MR.gIxL, MR.gFn, MR.gLenL, MR.gYes,
        MR.fAddI, MR.fSub, MR.fDiv, MR.fMod, MR.fPow, MR.fLe, MR.fGt, MR.fGe, MR.fIs, MR.fIsN, MR.fNeg, MR.fMin, MR.fMax, MR.fDivmod, MR.fSum, MR.fAll, MR.fRepr, MR.fIsi, MR.tyD, MR.dInt, MR.dBool, MR.dTup, MR.dStr, MR.dLst,
        MR.gDkT, MR.gDkS, MR.gDkNe, MR.gDkPop, MR.sDkApp, MR.sDkPut, MR.gScr, MR.sDeck, MR.gCall, MR.sel, MR.sFor, MR.sForR1, MR.sForR2, MR.sWhile, MR.sForE, MR.sAugP, MR.gRepL, MR.gCatL, MR.gComp, MR.gCompR, MR.startA, MR.wipeA, MR.sNever, MR.gNever, MR.tNev, MR.sAsg2, MR.fMulS_str, MR.fIntS_str, MR.sParO, MR.sForG, MR.gCompG, MR.iSeqG, MR.iR1G, MR.iR2G, MR.iR3G, MR.iZipG, MR.iEnumG, MR.iEnumLG, MR.iRevG,
        MR.fTru_bl, MR.fTru_non, MR.fTru_int, MR.fTru_str, MR.fTru_lst, MR.fTru_tup, MR.fAdd_int, MR.fAdd_str, MR.fAdd_tup, MR.fAdd_lst, MR.fMul_int, MR.fMul_tup, MR.fMul_lst, MR.fEq_int, MR.fEq_str, MR.fEq_bl, MR.fEq_tup_tup, MR.fEq_tup_lst, MR.fEq_tup_int, MR.fEq_tup_non, MR.fEq_tup_str, MR.fEq_tup_bl, MR.fEq_lst_tup, MR.fEq_lst_lst, MR.fEq_lst_int, MR.fEq_lst_non, MR.fEq_lst_str, MR.fEq_lst_bl, MR.fEq_int_tup, MR.fEq_int_lst, MR.fEq_int_non, MR.fEq_int_str, MR.fEq_int_bl, MR.fEq_non_tup, MR.fEq_non_lst, MR.fEq_non_int, MR.fEq_non_non, MR.fEq_non_str, MR.fEq_non_bl, MR.fEq_str_tup, MR.fEq_str_lst, MR.fEq_str_int, MR.fEq_str_non, MR.fEq_str_bl, MR.fEq_bl_tup, MR.fEq_bl_lst, MR.fEq_bl_int, MR.fEq_bl_non, MR.fEq_bl_str, MR.fNe_int, MR.fNe_str, MR.fNe_bl, MR.fNe_tup_tup, MR.fNe_tup_lst, MR.fNe_tup_int, MR.fNe_tup_non, MR.fNe_tup_str, MR.fNe_tup_bl, MR.fNe_lst_tup, MR.fNe_lst_lst, MR.fNe_lst_int, MR.fNe_lst_non, MR.fNe_lst_str, MR.fNe_lst_bl, MR.fNe_int_tup, MR.fNe_int_lst, MR.fNe_int_non, MR.fNe_int_str, MR.fNe_int_bl, MR.fNe_non_tup, MR.fNe_non_lst, MR.fNe_non_int, MR.fNe_non_non, MR.fNe_non_str, MR.fNe_non_bl, MR.fNe_str_tup, MR.fNe_str_lst, MR.fNe_str_int, MR.fNe_str_non, MR.fNe_str_bl, MR.fNe_bl_tup, MR.fNe_bl_lst, MR.fNe_bl_int, MR.fNe_bl_non, MR.fNe_bl_str, MR.fLt_int, MR.fIx_tup, MR.fSl_tup, MR.fLen_tup, MR.fTuple_tup, MR.fRev_tup, MR.fIx_lst, MR.fSl_lst, MR.fLen_lst, MR.fTuple_lst, MR.fRev_lst, MR.fIx_str, MR.fSl_str, MR.fLen_str, MR.fInt_int, MR.fInt_bl,
        List.map_cons, List.map_nil, List.cons_append, List.nil_append, List.append_nil, List.length_cons, List.length_nil, List.replicate_succ, List.replicate_zero, List.set_cons_zero, List.set_cons_succ, List.getElem?_cons_zero, List.getElem?_cons_succ, List.getD_cons_zero, List.getD_cons_succ, Nat.reduceAdd, Nat.reduceSub, Nat.zero_add, Option.some.injEq, reduceIte, Bool.not_true, Bool.not_false, true_and, and_true]
    refine ⟨p, 8, T + 1, rfl, k1, by decide, small_m (by decide), by omega, fun w2 ω2 a2 b2 k2 => ?_⟩
    simp (maxSteps := 2000000) only [MR.sNil, MR.sSeq, MR.sDrop, MR.sRet, MR.sRetN, MR.sBreak, MR.sCont, MR.sIf, MR.sSet, MR.sOwn, MR.sAsg, MR.sPar, MR.sAug, MR.sFrz, MR.sApp, MR.sPut, MR.sExt, MR.aName, MR.aTup, MR.aNil, MR.aCons, MR.frz,
        MR.gVar, MR.gC, MR.gOp, MR.gB, MR.bK, MR.gTru, MR.gNotT, MR.gAndT, MR.gOrT, MR.gAndV, MR.gOrV, MR.gNotV, MR.gIf, MR.gChain, MR.gNil, MR.gCons, MR.gTup, MR.gLst, MR.gFz, MR.gOwn, MR.gAsL, MR.gNo, MR.gPart, MR.gSl, MR.gSlF, MR.gUn, MR.gIxL, MR.gFn, MR.gLenL, MR.gYes,
        MR.fAddI, MR.fSub, MR.fDiv, MR.fMod, MR.fPow, MR.fLe, MR.fGt, MR.fGe, MR.fIs, MR.fIsN, MR.fNeg, MR.fMin, MR.fMax, MR.fDivmod, MR.fSum, MR.fAll, MR.fRepr, MR.fIsi, MR.tyD, MR.dInt, MR.dBool, MR.dTup, MR.dStr, MR.dLst,
        MR.gDkT, MR.gDkS, MR.gDkNe, MR.gDkPop, MR.sDkApp, MR.sDkPut, MR.gScr, MR.sDeck, MR.gCall, MR.sel, MR.sFor, MR.sForR1, MR.sForR2, MR.sWhile, MR.sForE, MR.sAugP, MR.gRepL, MR.gCatL, MR.gComp, MR.gCompR, MR.startA, MR.wipeA, MR.sNever, MR.gNever, MR.tNev, MR.sAsg2, MR.fMulS_str, MR.fIntS_str, MR.sParO, MR.sForG, MR.gCompG, MR.iSeqG, MR.iR1G, MR.iR2G, MR.iR3G, MR.iZipG, MR.iEnumG, MR.iEnumLG, MR.iRevG,
        MR.fTru_bl, MR.fTru_non, MR.fTru_int, MR.fTru_str, MR.fTru_lst, MR.fTru_tup, MR.fAdd_int, MR.fAdd_str, MR.fAdd_tup, MR.fAdd_lst, MR.fMul_int, MR.fMul_tup, MR.fMul_lst, MR.fEq_int, MR.fEq_str, MR.fEq_bl, MR.fEq_tup_tup, MR.fEq_tup_lst, MR.fEq_tup_int, MR.fEq_tup_non, MR.fEq_tup_str, MR.fEq_tup_bl, MR.fEq_lst_tup, MR.fEq_lst_lst, MR.fEq_lst_int, MR.fEq_lst_non, MR.fEq_lst_str, MR.fEq_lst_bl, MR.fEq_int_tup, MR.fEq_int_lst, MR.fEq_int_non, MR.fEq_int_str, MR.fEq_int_bl, MR.fEq_non_tup, MR.fEq_non_lst, MR.fEq_non_int, MR.fEq_non_non, MR.fEq_non_str, MR.fEq_non_bl, MR.fEq_str_tup, MR.fEq_str_lst, MR.fEq_str_int, MR.fEq_str_non, MR.fEq_str_bl, MR.fEq_bl_tup, MR.fEq_bl_lst, MR.fEq_bl_int, MR.fEq_bl_non, MR.fEq_bl_str, MR.fNe_int, MR.fNe_str, MR.fNe_bl, MR.fNe_tup_tup, MR.fNe_tup_lst, MR.fNe_tup_int, MR.fNe_tup_non, MR.fNe_tup_str, MR.fNe_tup_bl, MR.fNe_lst_tup, MR.fNe_lst_lst, MR.fNe_lst_int, MR.fNe_lst_non, MR.fNe_lst_str, MR.fNe_lst_bl, MR.fNe_int_tup, MR.fNe_int_lst, MR.fNe_int_non, MR.fNe_int_str, MR.fNe_int_bl, MR.fNe_non_tup, MR.fNe_non_lst, MR.fNe_non_int, MR.fNe_non_non, MR.fNe_non_str, MR.fNe_non_bl, MR.fNe_str_tup, MR.fNe_str_lst, MR.fNe_str_int, MR.fNe_str_non, MR.fNe_str_bl, MR.fNe_bl_tup, MR.fNe_bl_lst, MR.fNe_bl_int, MR.fNe_bl_non, MR.fNe_bl_str, MR.fLt_int, MR.fIx_tup, MR.fSl_tup, MR.fLen_tup, MR.fTuple_tup, MR.fRev_tup, MR.fIx_lst, MR.fSl_lst, MR.fLen_lst, MR.fTuple_lst, MR.fRev_lst, MR.fIx_str, MR.fSl_str, MR.fLen_str, MR.fInt_int, MR.fInt_bl,
        List.map_cons, List.map_nil, List.cons_append, List.nil_append, List.append_nil, List.length_cons, List.length_nil, List.replicate_succ, List.replicate_zero, List.set_cons_zero, List.set_cons_succ, List.getElem?_cons_zero, List.getElem?_cons_succ, List.getD_cons_zero, List.getD_cons_succ, Nat.reduceAdd, Nat.reduceSub, Nat.zero_add, Option.some.injEq, reduceIte, Bool.not_true, Bool.not_false, true_and, and_true]
    refine ⟨p, 9999, T + 1 + 1, rfl, k2, by decide, small_m (by decide), by omega, fun w3 ω3 a3 b3 k3 => ?_⟩
    simp (maxSteps := 2000000) only [MR.sNil, MR.sSeq, MR.sDrop, MR.sRet, MR.sRetN, MR.sBreak, MR.sCont, MR.sIf, MR.sSet, MR.sOwn, MR.sAsg, MR.sPar, MR.sAug, MR.sFrz, MR.sApp, MR.sPut, MR.sExt, MR.aName, MR.aTup, MR.aNil, MR.aCons, MR.frz,
        MR.gVar, MR.gC, MR.gOp, MR.gB, MR.bK, MR.gTru, MR.gNotT, MR.gAndT, MR.gOrT, MR.gAndV, MR.gOrV, MR.gNotV, MR.gIf, MR.gChain, MR.gNil, MR.gCons, MR.gTup, MR.gLst, MR.gFz, MR.gOwn, MR.gAsL, MR.gNo, MR.gPart, MR.gSl, MR.gSlF, MR.gUn, MR.gIxL, MR.gFn, MR.gLenL, MR.gYes,
        MR.fAddI, MR.fSub, MR.fDiv, MR.fMod, MR.fPow, MR.fLe, MR.fGt, MR.fGe, MR.fIs, MR.fIsN, MR.fNeg, MR.fMin, MR.fMax, MR.fDivmod, MR.fSum, MR.fAll, MR.fRepr, MR.fIsi, MR.tyD, MR.dInt, MR.dBool, MR.dTup, MR.dStr, MR.dLst,
        MR.gDkT, MR.gDkS, MR.gDkNe, MR.gDkPop, MR.sDkApp, MR.sDkPut, MR.gScr, MR.sDeck, MR.gCall, MR.sel, MR.sFor, MR.sForR1, MR.sForR2, MR.sWhile, MR.sForE, MR.sAugP, MR.gRepL, MR.gCatL, MR.gComp, MR.gCompR, MR.startA, MR.wipeA, MR.sNever, MR.gNever, MR.tNev, MR.sAsg2, MR.fMulS_str, MR.fIntS_str, MR.sParO, MR.sForG, MR.gCompG, MR.iSeqG, MR.iR1G, MR.iR2G, MR.iR3G, MR.iZipG, MR.iEnumG, MR.iEnumLG, MR.iRevG,
        MR.fTru_bl, MR.fTru_non, MR.fTru_int, MR.fTru_str, MR.fTru_lst, MR.fTru_tup, MR.fAdd_int, MR.fAdd_str, MR.fAdd_tup, MR.fAdd_lst, MR.fMul_int, MR.fMul_tup, MR.fMul_lst, MR.fEq_int, MR.fEq_str, MR.fEq_bl, MR.fEq_tup_tup, MR.fEq_tup_lst, MR.fEq_tup_int, MR.fEq_tup_non, MR.fEq_tup_str, MR.fEq_tup_bl, MR.fEq_lst_tup, MR.fEq_lst_lst, MR.fEq_lst_int, MR.fEq_lst_non, MR.fEq_lst_str, MR.fEq_lst_bl, MR.fEq_int_tup, MR.fEq_int_lst, MR.fEq_int_non, MR.fEq_int_str, MR.fEq_int_bl, MR.fEq_non_tup, MR.fEq_non_lst, MR.fEq_non_int, MR.fEq_non_non, MR.fEq_non_str, MR.fEq_non_bl, MR.fEq_str_tup, MR.fEq_str_lst, MR.fEq_str_int, MR.fEq_str_non, MR.fEq_str_bl, MR.fEq_bl_tup, MR.fEq_bl_lst, MR.fEq_bl_int, MR.fEq_bl_non, MR.fEq_bl_str, MR.fNe_int, MR.fNe_str, MR.fNe_bl, MR.fNe_tup_tup, MR.fNe_tup_lst, MR.fNe_tup_int, MR.fNe_tup_non, MR.fNe_tup_str, MR.fNe_tup_bl, MR.fNe_lst_tup, MR.fNe_lst_lst, MR.fNe_lst_int, MR.fNe_lst_non, MR.fNe_lst_str, MR.fNe_lst_bl, MR.fNe_int_tup, MR.fNe_int_lst, MR.fNe_int_non, MR.fNe_int_str, MR.fNe_int_bl, MR.fNe_non_tup, MR.fNe_non_lst, MR.fNe_non_int, MR.fNe_non_non, MR.fNe_non_str, MR.fNe_non_bl, MR.fNe_str_tup, MR.fNe_str_lst, MR.fNe_str_int, MR.fNe_str_non, MR.fNe_str_bl, MR.fNe_bl_tup, MR.fNe_bl_lst, MR.fNe_bl_int, MR.fNe_bl_non, MR.fNe_bl_str, MR.fLt_int, MR.fIx_tup, MR.fSl_tup, MR.fLen_tup, MR.fTuple_tup, MR.fRev_tup, MR.fIx_lst, MR.fSl_lst, MR.fLen_lst, MR.fTuple_lst, MR.fRev_lst, MR.fIx_str, MR.fSl_str, MR.fLen_str, MR.fInt_int, MR.fInt_bl,
        List.map_cons, List.map_nil, List.cons_append, List.nil_append, List.append_nil, List.length_cons, List.length_nil, List.replicate_succ, List.replicate_zero, List.set_cons_zero, List.set_cons_succ, List.getElem?_cons_zero, List.getElem?_cons_succ, List.getD_cons_zero, List.getD_cons_succ, Nat.reduceAdd, Nat.reduceSub, Nat.zero_add, Option.some.injEq, reduceIte, Bool.not_true, Bool.not_false, true_and, and_true]
    refine ⟨by decide, atI_all (fun d hd => ?_) a1 b1⟩
    simp only [List.mem_cons, List.not_mem_nil, or_false] at hd
    rcases hd with rfl | rfl | rfl | rfl | rfl | rfl | rfl | rfl <;> exact q _ _ ⟨by omega, by omega⟩ (k3.le (by omega))
  refine ⟨fd, ⟨t.g__law_any_base, F.kp, ok⟩, ?_⟩
  · refine bnd_of F 1 [] [] [0] [] (by simp) rfl ?_
    intro kV doc pm an cdv ct D us mv ws h1 h2 h3 h4
    match us, mv, ws, h1, h2, h3 with
    | [u0], [], [], _, _, _ => exact rfl
theorem kn__law_row_of (t : T w K mg) : ∃ fd, Known PR w K mg base 1 "_law_row_of" (He.ga K "_law_row_of") fd ["_law_rest", "_law_to"] DWd 2 aRowOf ∧ Bnd K fd ["_law_rest", "_law_to"] 2 [] [0, 1] [] := by
  obtain ⟨fd, F⟩ := t.f__law_row_of
  have ok : FnG PR w K mg base (L2.CX PR w) 1 (He.ga K "_law_row_of") fd ["_law_rest", "_law_to"] (toSp DWd K 2 aRowOf) := by
    refine fn_ok (N := n__law_row_of) DWd aRowOf F S__law_row_of fun cdv A outer s H E hr hG => ?_
    have S := S__law_row_of
    refine ⟨_, (gss_cons (gs_own 2 S.nd (gf_lst ga_nil))
      (gss_cons (gs_while po_cx (gt_cmp op_gt op2_gt (nomark _) (ge_var 0) ge_int)
      (gss_cons (gs_app 2 (ge_mod (ge_var 0) (ge_var 1)))
      (gss_one (gs_set 0 S.nd (ge_div (ge_var 0) (ge_var 1))))))
      (gss_frz 2 (gss_one (gs_ret (ge_ty call_tuple_of c_tuple t.z_tuple (ga_cons (ge_var 2) ga_nil))))))), ?_⟩
    clear S hr hG F t
    rintro ds ω Qa Ea ⟨n, b, rfl, hb, ⟨k, hn, hk⟩, q⟩ _
    simp (maxSteps := 2000000) only [MR.sNil, MR.sSeq, MR.sDrop, MR.sRet, MR.sRetN, MR.sBreak, MR.sCont, MR.sIf, MR.sSet, MR.sOwn, MR.sAsg, MR.sPar, MR.sAug, MR.sFrz, MR.sApp, MR.sPut, MR.sExt, MR.aName, MR.aTup, MR.aNil, MR.aCons, MR.frz,
        MR.gVar, MR.gC, MR.gOp, MR.gB, MR.bK, MR.gTru, MR.gNotT, MR.gAndT, MR.gOrT, MR.gAndV, MR.gOrV, MR.gNotV, MR.gIf, MR.gChain, MR.gNil, MR.gCons, MR.gTup, MR.gLst, MR.gFz, MR.gOwn, MR.gAsL, MR.gNo, MR.gPart, MR.gSl, MR.gSlF, MR.gUn, MR.gIxL, MR.gFn, MR.gLenL, MR.gYes,
        MR.fAddI, MR.fSub, MR.fDiv, MR.fMod, MR.fPow, MR.fLe, MR.fGt, MR.fGe, MR.fIs, MR.fIsN, MR.fNeg, MR.fMin, MR.fMax, MR.fDivmod, MR.fSum, MR.fAll, MR.fRepr, MR.fIsi, MR.tyD, MR.dInt, MR.dBool, MR.dTup, MR.dStr, MR.dLst,
        MR.gDkT, MR.gDkS, MR.gDkNe, MR.gDkPop, MR.sDkApp, MR.sDkPut, MR.gScr, MR.sDeck, MR.gCall, MR.sel, MR.sFor, MR.sForR1, MR.sForR2, MR.sWhile, MR.sForE, MR.sAugP, MR.gRepL, MR.gCatL, MR.gComp, MR.gCompR, MR.startA, MR.wipeA, MR.sNever, MR.gNever, MR.tNev, MR.sAsg2, MR.fMulS_str, MR.fIntS_str, MR.sParO, MR.sForG, MR.gCompG, MR.iSeqG, MR.iR1G, MR.iR2G, MR.iR3G, MR.iZipG, MR.iEnumG, MR.iEnumLG, MR.iRevG,
        MR.fTru_bl, MR.fTru_non, MR.fTru_int, MR.fTru_str, MR.fTru_lst, MR.fTru_tup, MR.fAdd_int, MR.fAdd_str, MR.fAdd_tup, MR.fAdd_lst, MR.fMul_int, MR.fMul_tup, MR.fMul_lst, MR.fEq_int, MR.fEq_str, MR.fEq_bl, MR.fEq_tup_tup, MR.fEq_tup_lst, MR.fEq_tup_int, MR.fEq_tup_non, MR.fEq_tup_str, MR.fEq_tup_bl, MR.fEq_lst_tup, MR.fEq_lst_lst, MR.fEq_lst_int, MR.fEq_lst_non, MR.fEq_lst_str, MR.fEq_lst_bl, MR.fEq_int_tup, MR.fEq_int_lst, MR.fEq_int_non, MR.fEq_int_str, MR.fEq_int_bl, MR.fEq_non_tup, MR.fEq_non_lst, MR.fEq_non_int, MR.fEq_non_non, MR.fEq_non_str, MR.fEq_non_bl, MR.fEq_str_tup, MR.fEq_str_lst, MR.fEq_str_int, MR.fEq_str_non, MR.fEq_str_bl, MR.fEq_bl_tup, MR.fEq_bl_lst, MR.fEq_bl_int, MR.fEq_bl_non, MR.fEq_bl_str, MR.fNe_int, MR.fNe_str, MR.fNe_bl, MR.fNe_tup_tup, MR.fNe_tup_lst, MR.fNe_tup_int, MR.fNe_tup_non, MR.fNe_tup_str, MR.fNe_tup_bl, MR.fNe_lst_tup, MR.fNe_lst_lst, MR.fNe_lst_int, MR.fNe_lst_non, MR.fNe_lst_str, MR.fNe_lst_bl, MR.fNe_int_tup, MR.fNe_int_lst, MR.fNe_int_non, MR.fNe_int_str, MR.fNe_int_bl, MR.fNe_non_tup, MR.fNe_non_lst, MR.fNe_non_int, MR.fNe_non_non, MR.fNe_non_str, MR.fNe_non_bl, MR.fNe_str_tup, MR.fNe_str_lst, MR.fNe_str_int, MR.fNe_str_non, MR.fNe_str_bl, MR.fNe_bl_tup, MR.fNe_bl_lst, MR.fNe_bl_int, MR.fNe_bl_non, MR.fNe_bl_str, MR.fLt_int, MR.fIx_tup, MR.fSl_tup, MR.fLen_tup, MR.fTuple_tup, MR.fRev_tup, MR.fIx_lst, MR.fSl_lst, MR.fLen_lst, MR.fTuple_lst, MR.fRev_lst, MR.fIx_str, MR.fSl_str, MR.fLen_str, MR.fInt_int, MR.fInt_bl,
        List.map_cons, List.map_nil, List.cons_append, List.nil_append, List.append_nil, List.length_cons, List.length_nil, List.replicate_succ, List.replicate_zero, List.set_cons_zero, List.set_cons_succ, List.getElem?_cons_zero, List.getElem?_cons_succ, List.getD_cons_zero, List.getD_cons_succ, Nat.reduceAdd, Nat.reduceSub, Nat.zero_add, Option.some.injEq, reduceIte, Bool.not_true, Bool.not_false, true_and, and_true]
    have hb1 := hb.1
    have dl := digs_len hb1 hn
    refine ⟨by decide, fun m' ρ ω' => ω' = ω ∧ ∃ r acc, ρ = [some (.d (.int r)), some (.d (.int b)), some (.own (acc.map D.int))] ∧ acc ++ digs b r = digs b n ∧ m' = r.toNat, ⟨n.toNat, rfl, n, [], rfl, rfl, rfl⟩, fun m' ρ ω' ⟨e1, r, acc, e2, e3, e4⟩ => ?_⟩
    subst e1 e2
    simp (maxSteps := 2000000) only [MR.sNil, MR.sSeq, MR.sDrop, MR.sRet, MR.sRetN, MR.sBreak, MR.sCont, MR.sIf, MR.sSet, MR.sOwn, MR.sAsg, MR.sPar, MR.sAug, MR.sFrz, MR.sApp, MR.sPut, MR.sExt, MR.aName, MR.aTup, MR.aNil, MR.aCons, MR.frz,
        MR.gVar, MR.gC, MR.gOp, MR.gB, MR.bK, MR.gTru, MR.gNotT, MR.gAndT, MR.gOrT, MR.gAndV, MR.gOrV, MR.gNotV, MR.gIf, MR.gChain, MR.gNil, MR.gCons, MR.gTup, MR.gLst, MR.gFz, MR.gOwn, MR.gAsL, MR.gNo, MR.gPart, MR.gSl, MR.gSlF, MR.gUn, MR.gIxL, MR.gFn, MR.gLenL, MR.gYes,
        MR.fAddI, MR.fSub, MR.fDiv, MR.fMod, MR.fPow, MR.fLe, MR.fGt, MR.fGe, MR.fIs, MR.fIsN, MR.fNeg, MR.fMin, MR.fMax, MR.fDivmod, MR.fSum, MR.fAll, MR.fRepr, MR.fIsi, MR.tyD, MR.dInt, MR.dBool, MR.dTup, MR.dStr, MR.dLst,
        MR.gDkT, MR.gDkS, MR.gDkNe, MR.gDkPop, MR.sDkApp, MR.sDkPut, MR.gScr, MR.sDeck, MR.gCall, MR.sel, MR.sFor, MR.sForR1, MR.sForR2, MR.sWhile, MR.sForE, MR.sAugP, MR.gRepL, MR.gCatL, MR.gComp, MR.gCompR, MR.startA, MR.wipeA, MR.sNever, MR.gNever, MR.tNev, MR.sAsg2, MR.fMulS_str, MR.fIntS_str, MR.sParO, MR.sForG, MR.gCompG, MR.iSeqG, MR.iR1G, MR.iR2G, MR.iR3G, MR.iZipG, MR.iEnumG, MR.iEnumLG, MR.iRevG,
        MR.fTru_bl, MR.fTru_non, MR.fTru_int, MR.fTru_str, MR.fTru_lst, MR.fTru_tup, MR.fAdd_int, MR.fAdd_str, MR.fAdd_tup, MR.fAdd_lst, MR.fMul_int, MR.fMul_tup, MR.fMul_lst, MR.fEq_int, MR.fEq_str, MR.fEq_bl, MR.fEq_tup_tup, MR.fEq_tup_lst, MR.fEq_tup_int, MR.fEq_tup_non, MR.fEq_tup_str, MR.fEq_tup_bl, MR.fEq_lst_tup, MR.fEq_lst_lst, MR.fEq_lst_int, MR.fEq_lst_non, MR.fEq_lst_str, MR.fEq_lst_bl, MR.fEq_int_tup, MR.fEq_int_lst, MR.fEq_int_non, MR.fEq_int_str, MR.fEq_int_bl, MR.fEq_non_tup, MR.fEq_non_lst, MR.fEq_non_int, MR.fEq_non_non, MR.fEq_non_str, MR.fEq_non_bl, MR.fEq_str_tup, MR.fEq_str_lst, MR.fEq_str_int, MR.fEq_str_non, MR.fEq_str_bl, MR.fEq_bl_tup, MR.fEq_bl_lst, MR.fEq_bl_int, MR.fEq_bl_non, MR.fEq_bl_str, MR.fNe_int, MR.fNe_str, MR.fNe_bl, MR.fNe_tup_tup, MR.fNe_tup_lst, MR.fNe_tup_int, MR.fNe_tup_non, MR.fNe_tup_str, MR.fNe_tup_bl, MR.fNe_lst_tup, MR.fNe_lst_lst, MR.fNe_lst_int, MR.fNe_lst_non, MR.fNe_lst_str, MR.fNe_lst_bl, MR.fNe_int_tup, MR.fNe_int_lst, MR.fNe_int_non, MR.fNe_int_str, MR.fNe_int_bl, MR.fNe_non_tup, MR.fNe_non_lst, MR.fNe_non_int, MR.fNe_non_non, MR.fNe_non_str, MR.fNe_non_bl, MR.fNe_str_tup, MR.fNe_str_lst, MR.fNe_str_int, MR.fNe_str_non, MR.fNe_str_bl, MR.fNe_bl_tup, MR.fNe_bl_lst, MR.fNe_bl_int, MR.fNe_bl_non, MR.fNe_bl_str, MR.fLt_int, MR.fIx_tup, MR.fSl_tup, MR.fLen_tup, MR.fTuple_tup, MR.fRev_tup, MR.fIx_lst, MR.fSl_lst, MR.fLen_lst, MR.fTuple_lst, MR.fRev_lst, MR.fIx_str, MR.fSl_str, MR.fLen_str, MR.fInt_int, MR.fInt_bl,
        List.map_cons, List.map_nil, List.cons_append, List.nil_append, List.append_nil, List.length_cons, List.length_nil, List.replicate_succ, List.replicate_zero, List.set_cons_zero, List.set_cons_succ, List.getElem?_cons_zero, List.getElem?_cons_succ, List.getD_cons_zero, List.getD_cons_succ, Nat.reduceAdd, Nat.reduceSub, Nat.zero_add, Option.some.injEq, reduceIte, Bool.not_true, Bool.not_false, true_and, and_true]
    split
    · rename_i c
      have hr : 0 < r := of_decide_eq_true c
      rw [digs_cons hb1 hr] at e3
      have dv := div_less hb1 hr
      have l3 : acc.length + 1 ≤ 50000 := by
        have := congrArg List.length e3
        rw [List.length_append, List.length_cons] at this
        omega
      refine ⟨by omega, line1000l (by rw [List.length_map]; omega), divw10 (by omega) hb.2, (r / b).toNat, by omega, r / b, acc ++ [r % b], by rw [List.map_append]; rfl, by rw [List.append_assoc]; exact e3, rfl⟩
    · rename_i c
      have hr : ¬ 0 < r := fun z => c (decide_eq_true z)
      rw [digs_nil (by omega), List.append_nil] at e3
      rw [e3]
      exact q
  refine ⟨fd, ⟨t.g__law_row_of, F.kp, ok⟩, ?_⟩
  · refine bnd_of F 2 [] [] [0, 1] [] (by simp) rfl ?_
    intro kV doc pm an cdv ct D us mv ws h1 h2 h3 h4
    match us, mv, ws, h1, h2, h3 with
    | [u0, u1], [], [], _, _, _ => exact rfl
def aHalf : ASp DWd := fun ds ω Q _ => ∃ n, ds = [.int n] ∧ 0 ≤ n ∧ n ≤ 10000 ∧ Q (.int ((n + 1) / 2)) ω
theorem kn_half_of (t : T w K mg) : ∃ fd, Known PR w K mg base 1 "half_of" (He.ga K "half_of") fd ["many"] DWd 1 aHalf ∧ Bnd K fd ["many"] 1 [] [0] [] := by
  obtain ⟨fd, F⟩ := t.f_half_of
  have ok : FnG PR w K mg base (L2.CX PR w) 1 (He.ga K "half_of") fd ["many"] (toSp DWd K 1 aHalf) := by
    refine fn_ok (N := n_half_of) DWd aHalf F S_half_of fun cdv A outer s H E hr hG => ?_
    have S := S_half_of
    refine ⟨_, (gss_one (gs_ret (ge_div (ge_add (ge_var 0) ge_int) ge_int))), ?_⟩
    clear S hr hG F t
    rintro ds ω Qa Ea ⟨n, rfl, n0, n1, q⟩ _
    have dv : CDivW (n + 1) 2 := divw10 (by decide) (by decide)
    erw [dv]
    exact q
  refine ⟨fd, ⟨t.g_half_of, F.kp, ok⟩, ?_⟩
  · refine bnd_of F 1 [] [] [0] [] (by simp) rfl ?_
    intro kV doc pm an cdv ct D us mv ws h1 h2 h3 h4
    match us, mv, ws, h1, h2, h3 with
    | [u0], [], [], _, _, _ => exact rfl
theorem kn_limb_at (t : T w K mg) : ∃ fd, Known PR w K mg base 1 "limb_at" (He.ga K "limb_at") fd ["row", "place"] DWd 2 aLimbAt ∧ Bnd K fd ["row", "place"] 2 [] [0, 1] [] := by
  obtain ⟨fd, F⟩ := t.f_limb_at
  have ok : FnG PR w K mg base (L2.CX PR w) 1 (He.ga K "limb_at") fd ["row", "place"] (toSp DWd K 2 aLimbAt) := by
    refine fn_ok (N := n_limb_at) DWd aLimbAt F S_limb_at fun cdv A outer s H E hr hG => ?_
    have S := S_limb_at
    refine ⟨_, (gss_cons (gs_if (gt_cmp (m_lt (un0 hr)) op2_lt (nomark _) (ge_var 1) (ge_fn call_len c_len t.z_len (ga_cons (ge_var 0) ga_nil)))
      (gss_one (gs_ret (ge_ix (ge_var 0) (ge_var 1))))
      gss_nil)
      (gss_one (gs_ret ge_int))), ?_⟩
    clear S hr hG F t
    rintro ds ω Qa Ea ⟨xs, k, rfl, k0, q⟩ _
    erw []
    split
    · rename_i c
      have hx := List.getElem?_eq_getElem (by omega : k.toNat < xs.length)
      have e : k = ((k.toNat : Nat) : Int) := by omega
      rw [List.getD_eq_getElem?_getD, hx] at q
      rw [e, atI_ints hx]
      exact q
    · rename_i c
      rw [List.getD_eq_getElem?_getD, List.getElem?_eq_none (by omega)] at q
      exact q
  refine ⟨fd, ⟨t.g_limb_at, F.kp, ok⟩, ?_⟩
  · refine bnd_of F 2 [] [] [0, 1] [] (by simp) rfl ?_
    intro kV doc pm an cdv ct D us mv ws h1 h2 h3 h4
    match us, mv, ws, h1, h2, h3 with
    | [u0, u1], [], [], _, _, _ => exact rfl
theorem kn_summed (t : T w K mg) : ∃ fd, Known PR w K mg base 2 "summed" (He.ga K "summed") fd ["one", "other", "base"] DWd 3 aSummed ∧ Bnd K fd ["one", "other", "base"] 2 ["base"] [0, 1, 2] [] := by
  obtain ⟨fd, F⟩ := t.f_summed
  obtain ⟨fd_limb_at, k_limb_at, b_limb_at_0⟩ := kn_limb_at (w := w) (base := base) t
  have ok : FnG PR w K mg base (L2.CX PR w) 2 (He.ga K "summed") fd ["one", "other", "base"] (toSp DWd K 3 aSummed) := by
    refine fn_ok (N := n_summed) DWd aSummed F S_summed fun cdv A outer s H E hr hG => ?_
    have S := S_summed
    refine ⟨_, (gss_cons (gs_own 3 S.nd (gf_lst ga_nil))
      (gss_cons (gs_set 4 S.nd ge_int)
      (gss_cons (gs_forR1 po_cx rfl t.z_range (ge_fn (call_max2 rfl) c_max t.z_max (ga_cons (ge_fn call_len c_len t.z_len (ga_cons (ge_var 0) ga_nil)) (ga_cons (ge_fn call_len c_len t.z_len (ga_cons (ge_var 1) ga_nil)) ga_nil))) (gg_name 5 S.nd)
      (gss_cons (gs_asg (ge_fn call_divmod c_divmod t.z_divmod (ga_cons (ge_add (ge_add (ge_call1 k_limb_at (Room.mono hr (by decide)) hG tk_cx b_limb_at_0 (fun B => .nil) (ga_cons (ge_var 0) (ga_cons (ge_var 5) ga_nil))) (ge_call1 k_limb_at (Room.mono hr (by decide)) hG tk_cx b_limb_at_0 (fun B => .nil) (ga_cons (ge_var 1) (ga_cons (ge_var 5) ga_nil)))) (ge_var 4)) (ga_cons (ge_var 2) ga_nil))) (gg_tup rfl (ggs_cons (gg_name 4 S.nd) (ggs_cons (gg_name 6 S.nd) ggs_nil)) (AL.len (al_cons aex_name (al_cons aex_name al_nil)))))
      (gss_one (gs_app 3 (ge_var 6)))))
      (gss_frz 3 (gss_one (gs_ret (ge_ty call_tuple_of c_tuple t.z_tuple (ga_cons (ge_add (ge_var 3) (GF.ge (gf_rep (GF.gl (gf_lst (ga_cons ge_int ga_nil))) (ge_var 4)))) ga_nil)))))))), ?_⟩
    clear S hr hG F t k_limb_at b_limb_at_0
    rintro ds ω Qa Ea ⟨xs, ys, b, rfl, hb, h1, h2, l1, l2, q⟩ _
    have hb1 := hb.1
    have hb2 := hb.2
    have e1 : (if (ys.length : Int) > (xs.length : Int) then (ys.length : Int) else (xs.length : Int)) = ((max xs.length ys.length : Nat) : Int) := by split <;> omega
    erw [e1]
    refine ⟨by omega, by omega, fun i ρ ω' => ω' = ω ∧ ∃ x5 x6, ρ = [some (.d (row xs)), some (.d (row ys)), some (.d (.int b)), some (.own ((cLow b 0 ((psum xs ys).take i)).map D.int)), some (.d (.int (cFin b 0 ((psum xs ys).take i)))), x5, x6], ⟨rfl, none, none, rfl⟩, fun i d ρ ω' hd ⟨e1, x5, x6, e2⟩ => ?_, fun ρ ω' ⟨e1, x5, x6, e2⟩ => ?_⟩
    · subst e1 e2
      obtain ⟨hi, rfl⟩ := rng_of hd
      have hi : i < max xs.length ys.length := by omega
      obtain ⟨s1, s2, s3⟩ := cCar_snoc (b := b) 0 ((psum xs ys).take i) (xs.getD i 0 + ys.getD i 0)
      rw [← take_snoc (psum_at hi)] at s1 s2 s3
      erw [aLimbAt, Int.toNat_natCast, cLow_len, List.length_take]
      refine ⟨by omega, by omega, ⟨by omega, by omega⟩, by omega, ?_⟩
      rw [s2, s3, Int.add_comm (xs.getD i 0 + ys.getD i 0)]
      simp
    · subst e1 e2
      rw [rng_len]
      have e4 : (((max xs.length ys.length : Nat) : Int)).toNat = (psum xs ys).length := by rw [psum_len]; omega
      rw [e4, List.take_length]
      have f := (car01 hb1 0 (psum xs ys) (Int.le_refl 0) (by decide) (psum_le hb1 h1.lim h2.lim)).2
      have sr := sum_row hb1 h1 h2
      have er : cLow b 0 (psum xs ys) ++ List.replicate (cFin b 0 (psum xs ys)).toNat 1 = digs b (wor b xs + wor b ys) := by
        rw [← sr]
        unfold cAll
        by_cases c : cFin b 0 (psum xs ys) = 0
        · rw [c]
          rfl
        · have : cFin b 0 (psum xs ys) = 1 := by omega
          rw [this]
          rfl
      have nt : (cFin b 0 (psum xs ys)).toNat ≤ 1 := by omega
      erw [cLow_len, psum_len, Nat.one_mul]
      refine ⟨by omega, by omega, by omega, by omega, ?_⟩
      rw [← er] at q
      simpa [row] using q
  refine ⟨fd, ⟨t.g_summed, F.kp, ok⟩, ?_⟩
  · refine bnd_of F 2 ["base"] [] [0, 1, 2] [] (by simp) rfl ?_
    intro kV doc pm an cdv ct D us mv ws h1 h2 h3 h4
    match us, mv, ws, h1, h2, h3 with
    | [u0, u1], [], [v0], _, _, _ => exact rfl
theorem kn_without_noughts (t : T w K mg) : ∃ fd, Known PR w K mg base 1 "without_noughts" (He.ga K "without_noughts") fd ["limbs"] DWd 1 aWithout ∧ Bnd K fd ["limbs"] 1 [] [0] [] := by
  obtain ⟨fd, F⟩ := t.f_without_noughts
  have ok : FnG PR w K mg base (L2.CX PR w) 1 (He.ga K "without_noughts") fd ["limbs"] (toSp DWd K 1 aWithout) := by
    refine fn_ok (N := n_without_noughts) DWd aWithout F S_without_noughts fun cdv A outer s H E hr hG => ?_
    have S := S_without_noughts
    refine ⟨_, (gss_cons (gs_set 1 S.nd (ge_fn call_len c_len t.z_len (ga_cons (ge_var 0) ga_nil)))
      (gss_cons (gs_while po_cx (GW.gt (gw_and (gt_cmp op_gt op2_gt (nomark _) (ge_var 1) ge_int) (gw_and1 (gt_cmp (m_eq (un64 hr)) op2_eq (nomark _) (ge_ix (ge_var 0) (ge_sub (ge_var 1) ge_int)) ge_int))))
      (gss_one (gs_aug 1 S.nd ip_sub op2_sub ge_int)))
      (gss_one (gs_ret (ge_ty call_tuple_of c_tuple t.z_tuple (ga_cons (ge_slice (ge_var 0) go_none (go_some (ge_var 1))) ga_nil)))))), ?_⟩
    clear S hr hG F t
    rintro ds ω Qa Ea ⟨ns, rfl | rfl, q⟩ _
    · simp (maxSteps := 2000000) only [MR.sNil, MR.sSeq, MR.sDrop, MR.sRet, MR.sRetN, MR.sBreak, MR.sCont, MR.sIf, MR.sSet, MR.sOwn, MR.sAsg, MR.sPar, MR.sAug, MR.sFrz, MR.sApp, MR.sPut, MR.sExt, MR.aName, MR.aTup, MR.aNil, MR.aCons, MR.frz,
        MR.gVar, MR.gC, MR.gOp, MR.gB, MR.bK, MR.gTru, MR.gNotT, MR.gAndT, MR.gOrT, MR.gAndV, MR.gOrV, MR.gNotV, MR.gIf, MR.gChain, MR.gNil, MR.gCons, MR.gTup, MR.gLst, MR.gFz, MR.gOwn, MR.gAsL, MR.gNo, MR.gPart, MR.gSl, MR.gSlF, MR.gUn, MR.gIxL, MR.gFn, MR.gLenL, MR.gYes,
        MR.fAddI, MR.fSub, MR.fDiv, MR.fMod, MR.fPow, MR.fLe, MR.fGt, MR.fGe, MR.fIs, MR.fIsN, MR.fNeg, MR.fMin, MR.fMax, MR.fDivmod, MR.fSum, MR.fAll, MR.fRepr, MR.fIsi, MR.tyD, MR.dInt, MR.dBool, MR.dTup, MR.dStr, MR.dLst,
        MR.gDkT, MR.gDkS, MR.gDkNe, MR.gDkPop, MR.sDkApp, MR.sDkPut, MR.gScr, MR.sDeck, MR.gCall, MR.sel, MR.sFor, MR.sForR1, MR.sForR2, MR.sWhile, MR.sForE, MR.sAugP, MR.gRepL, MR.gCatL, MR.gComp, MR.gCompR, MR.startA, MR.wipeA, MR.sNever, MR.gNever, MR.tNev, MR.sAsg2, MR.fMulS_str, MR.fIntS_str, MR.sParO, MR.sForG, MR.gCompG, MR.iSeqG, MR.iR1G, MR.iR2G, MR.iR3G, MR.iZipG, MR.iEnumG, MR.iEnumLG, MR.iRevG,
        MR.fTru_bl, MR.fTru_non, MR.fTru_int, MR.fTru_str, MR.fTru_lst, MR.fTru_tup, MR.fAdd_int, MR.fAdd_str, MR.fAdd_tup, MR.fAdd_lst, MR.fMul_int, MR.fMul_tup, MR.fMul_lst, MR.fEq_int, MR.fEq_str, MR.fEq_bl, MR.fEq_tup_tup, MR.fEq_tup_lst, MR.fEq_tup_int, MR.fEq_tup_non, MR.fEq_tup_str, MR.fEq_tup_bl, MR.fEq_lst_tup, MR.fEq_lst_lst, MR.fEq_lst_int, MR.fEq_lst_non, MR.fEq_lst_str, MR.fEq_lst_bl, MR.fEq_int_tup, MR.fEq_int_lst, MR.fEq_int_non, MR.fEq_int_str, MR.fEq_int_bl, MR.fEq_non_tup, MR.fEq_non_lst, MR.fEq_non_int, MR.fEq_non_non, MR.fEq_non_str, MR.fEq_non_bl, MR.fEq_str_tup, MR.fEq_str_lst, MR.fEq_str_int, MR.fEq_str_non, MR.fEq_str_bl, MR.fEq_bl_tup, MR.fEq_bl_lst, MR.fEq_bl_int, MR.fEq_bl_non, MR.fEq_bl_str, MR.fNe_int, MR.fNe_str, MR.fNe_bl, MR.fNe_tup_tup, MR.fNe_tup_lst, MR.fNe_tup_int, MR.fNe_tup_non, MR.fNe_tup_str, MR.fNe_tup_bl, MR.fNe_lst_tup, MR.fNe_lst_lst, MR.fNe_lst_int, MR.fNe_lst_non, MR.fNe_lst_str, MR.fNe_lst_bl, MR.fNe_int_tup, MR.fNe_int_lst, MR.fNe_int_non, MR.fNe_int_str, MR.fNe_int_bl, MR.fNe_non_tup, MR.fNe_non_lst, MR.fNe_non_int, MR.fNe_non_non, MR.fNe_non_str, MR.fNe_non_bl, MR.fNe_str_tup, MR.fNe_str_lst, MR.fNe_str_int, MR.fNe_str_non, MR.fNe_str_bl, MR.fNe_bl_tup, MR.fNe_bl_lst, MR.fNe_bl_int, MR.fNe_bl_non, MR.fNe_bl_str, MR.fLt_int, MR.fIx_tup, MR.fSl_tup, MR.fLen_tup, MR.fTuple_tup, MR.fRev_tup, MR.fIx_lst, MR.fSl_lst, MR.fLen_lst, MR.fTuple_lst, MR.fRev_lst, MR.fIx_str, MR.fSl_str, MR.fLen_str, MR.fInt_int, MR.fInt_bl,
        List.map_cons, List.map_nil, List.cons_append, List.nil_append, List.append_nil, List.length_cons, List.length_nil, List.replicate_succ, List.replicate_zero, List.set_cons_zero, List.set_cons_succ, List.getElem?_cons_zero, List.getElem?_cons_succ, List.getD_cons_zero, List.getD_cons_succ, Nat.reduceAdd, Nat.reduceSub, Nat.zero_add, Option.some.injEq, reduceIte, Bool.not_true, Bool.not_false, true_and, and_true, List.length_map]
      refine ⟨fun m' ρ ω' => ω' = ω ∧ ∃ m : Int, ρ = [some (.d (D.tup (ns.map D.int))), some (.d (.int m))] ∧ 0 ≤ m ∧ m ≤ ns.length ∧ strip (ns.take m.toNat) = strip ns ∧ m' = m.toNat, ⟨ns.length, rfl, ns.length, rfl, by omega, by omega, by rw [Int.toNat_natCast, List.take_length], by omega⟩, fun m' ρ ω' ⟨e1, m, e2, m0, ml, e3, e4⟩ => ?_⟩
      subst e1 e2
      simp (maxSteps := 2000000) only [MR.sNil, MR.sSeq, MR.sDrop, MR.sRet, MR.sRetN, MR.sBreak, MR.sCont, MR.sIf, MR.sSet, MR.sOwn, MR.sAsg, MR.sPar, MR.sAug, MR.sFrz, MR.sApp, MR.sPut, MR.sExt, MR.aName, MR.aTup, MR.aNil, MR.aCons, MR.frz,
        MR.gVar, MR.gC, MR.gOp, MR.gB, MR.bK, MR.gTru, MR.gNotT, MR.gAndT, MR.gOrT, MR.gAndV, MR.gOrV, MR.gNotV, MR.gIf, MR.gChain, MR.gNil, MR.gCons, MR.gTup, MR.gLst, MR.gFz, MR.gOwn, MR.gAsL, MR.gNo, MR.gPart, MR.gSl, MR.gSlF, MR.gUn, MR.gIxL, MR.gFn, MR.gLenL, MR.gYes,
        MR.fAddI, MR.fSub, MR.fDiv, MR.fMod, MR.fPow, MR.fLe, MR.fGt, MR.fGe, MR.fIs, MR.fIsN, MR.fNeg, MR.fMin, MR.fMax, MR.fDivmod, MR.fSum, MR.fAll, MR.fRepr, MR.fIsi, MR.tyD, MR.dInt, MR.dBool, MR.dTup, MR.dStr, MR.dLst,
        MR.gDkT, MR.gDkS, MR.gDkNe, MR.gDkPop, MR.sDkApp, MR.sDkPut, MR.gScr, MR.sDeck, MR.gCall, MR.sel, MR.sFor, MR.sForR1, MR.sForR2, MR.sWhile, MR.sForE, MR.sAugP, MR.gRepL, MR.gCatL, MR.gComp, MR.gCompR, MR.startA, MR.wipeA, MR.sNever, MR.gNever, MR.tNev, MR.sAsg2, MR.fMulS_str, MR.fIntS_str, MR.sParO, MR.sForG, MR.gCompG, MR.iSeqG, MR.iR1G, MR.iR2G, MR.iR3G, MR.iZipG, MR.iEnumG, MR.iEnumLG, MR.iRevG,
        MR.fTru_bl, MR.fTru_non, MR.fTru_int, MR.fTru_str, MR.fTru_lst, MR.fTru_tup, MR.fAdd_int, MR.fAdd_str, MR.fAdd_tup, MR.fAdd_lst, MR.fMul_int, MR.fMul_tup, MR.fMul_lst, MR.fEq_int, MR.fEq_str, MR.fEq_bl, MR.fEq_tup_tup, MR.fEq_tup_lst, MR.fEq_tup_int, MR.fEq_tup_non, MR.fEq_tup_str, MR.fEq_tup_bl, MR.fEq_lst_tup, MR.fEq_lst_lst, MR.fEq_lst_int, MR.fEq_lst_non, MR.fEq_lst_str, MR.fEq_lst_bl, MR.fEq_int_tup, MR.fEq_int_lst, MR.fEq_int_non, MR.fEq_int_str, MR.fEq_int_bl, MR.fEq_non_tup, MR.fEq_non_lst, MR.fEq_non_int, MR.fEq_non_non, MR.fEq_non_str, MR.fEq_non_bl, MR.fEq_str_tup, MR.fEq_str_lst, MR.fEq_str_int, MR.fEq_str_non, MR.fEq_str_bl, MR.fEq_bl_tup, MR.fEq_bl_lst, MR.fEq_bl_int, MR.fEq_bl_non, MR.fEq_bl_str, MR.fNe_int, MR.fNe_str, MR.fNe_bl, MR.fNe_tup_tup, MR.fNe_tup_lst, MR.fNe_tup_int, MR.fNe_tup_non, MR.fNe_tup_str, MR.fNe_tup_bl, MR.fNe_lst_tup, MR.fNe_lst_lst, MR.fNe_lst_int, MR.fNe_lst_non, MR.fNe_lst_str, MR.fNe_lst_bl, MR.fNe_int_tup, MR.fNe_int_lst, MR.fNe_int_non, MR.fNe_int_str, MR.fNe_int_bl, MR.fNe_non_tup, MR.fNe_non_lst, MR.fNe_non_int, MR.fNe_non_non, MR.fNe_non_str, MR.fNe_non_bl, MR.fNe_str_tup, MR.fNe_str_lst, MR.fNe_str_int, MR.fNe_str_non, MR.fNe_str_bl, MR.fNe_bl_tup, MR.fNe_bl_lst, MR.fNe_bl_int, MR.fNe_bl_non, MR.fNe_bl_str, MR.fLt_int, MR.fIx_tup, MR.fSl_tup, MR.fLen_tup, MR.fTuple_tup, MR.fRev_tup, MR.fIx_lst, MR.fSl_lst, MR.fLen_lst, MR.fTuple_lst, MR.fRev_lst, MR.fIx_str, MR.fSl_str, MR.fLen_str, MR.fInt_int, MR.fInt_bl,
        List.map_cons, List.map_nil, List.cons_append, List.nil_append, List.append_nil, List.length_cons, List.length_nil, List.replicate_succ, List.replicate_zero, List.set_cons_zero, List.set_cons_succ, List.getElem?_cons_zero, List.getElem?_cons_succ, List.getD_cons_zero, List.getD_cons_succ, Nat.reduceAdd, Nat.reduceSub, Nat.zero_add, Option.some.injEq, reduceIte, Bool.not_true, Bool.not_false, true_and, and_true]
      split
      · rename_i c
        have hm : 0 < m := of_decide_eq_true c
        obtain ⟨x, hx⟩ : ∃ x, ns[m.toNat - 1]? = some x := ⟨ns[m.toNat - 1]'(by omega), List.getElem?_eq_getElem _⟩
        have e5 : (m - 1) = ((m.toNat - 1 : Nat) : Int) := by omega
        have tk : ns.take m.toNat = ns.take (m.toNat - 1) ++ [x] := by
          have : m.toNat = m.toNat - 1 + 1 := by omega
          rw [this, List.take_add_one, Nat.add_sub_cancel, hx]
          rfl
        rw [e5, atI_ints hx]
        simp (maxSteps := 2000000) only [MR.sNil, MR.sSeq, MR.sDrop, MR.sRet, MR.sRetN, MR.sBreak, MR.sCont, MR.sIf, MR.sSet, MR.sOwn, MR.sAsg, MR.sPar, MR.sAug, MR.sFrz, MR.sApp, MR.sPut, MR.sExt, MR.aName, MR.aTup, MR.aNil, MR.aCons, MR.frz,
        MR.gVar, MR.gC, MR.gOp, MR.gB, MR.bK, MR.gTru, MR.gNotT, MR.gAndT, MR.gOrT, MR.gAndV, MR.gOrV, MR.gNotV, MR.gIf, MR.gChain, MR.gNil, MR.gCons, MR.gTup, MR.gLst, MR.gFz, MR.gOwn, MR.gAsL, MR.gNo, MR.gPart, MR.gSl, MR.gSlF, MR.gUn, MR.gIxL, MR.gFn, MR.gLenL, MR.gYes,
        MR.fAddI, MR.fSub, MR.fDiv, MR.fMod, MR.fPow, MR.fLe, MR.fGt, MR.fGe, MR.fIs, MR.fIsN, MR.fNeg, MR.fMin, MR.fMax, MR.fDivmod, MR.fSum, MR.fAll, MR.fRepr, MR.fIsi, MR.tyD, MR.dInt, MR.dBool, MR.dTup, MR.dStr, MR.dLst,
        MR.gDkT, MR.gDkS, MR.gDkNe, MR.gDkPop, MR.sDkApp, MR.sDkPut, MR.gScr, MR.sDeck, MR.gCall, MR.sel, MR.sFor, MR.sForR1, MR.sForR2, MR.sWhile, MR.sForE, MR.sAugP, MR.gRepL, MR.gCatL, MR.gComp, MR.gCompR, MR.startA, MR.wipeA, MR.sNever, MR.gNever, MR.tNev, MR.sAsg2, MR.fMulS_str, MR.fIntS_str, MR.sParO, MR.sForG, MR.gCompG, MR.iSeqG, MR.iR1G, MR.iR2G, MR.iR3G, MR.iZipG, MR.iEnumG, MR.iEnumLG, MR.iRevG,
        MR.fTru_bl, MR.fTru_non, MR.fTru_int, MR.fTru_str, MR.fTru_lst, MR.fTru_tup, MR.fAdd_int, MR.fAdd_str, MR.fAdd_tup, MR.fAdd_lst, MR.fMul_int, MR.fMul_tup, MR.fMul_lst, MR.fEq_int, MR.fEq_str, MR.fEq_bl, MR.fEq_tup_tup, MR.fEq_tup_lst, MR.fEq_tup_int, MR.fEq_tup_non, MR.fEq_tup_str, MR.fEq_tup_bl, MR.fEq_lst_tup, MR.fEq_lst_lst, MR.fEq_lst_int, MR.fEq_lst_non, MR.fEq_lst_str, MR.fEq_lst_bl, MR.fEq_int_tup, MR.fEq_int_lst, MR.fEq_int_non, MR.fEq_int_str, MR.fEq_int_bl, MR.fEq_non_tup, MR.fEq_non_lst, MR.fEq_non_int, MR.fEq_non_non, MR.fEq_non_str, MR.fEq_non_bl, MR.fEq_str_tup, MR.fEq_str_lst, MR.fEq_str_int, MR.fEq_str_non, MR.fEq_str_bl, MR.fEq_bl_tup, MR.fEq_bl_lst, MR.fEq_bl_int, MR.fEq_bl_non, MR.fEq_bl_str, MR.fNe_int, MR.fNe_str, MR.fNe_bl, MR.fNe_tup_tup, MR.fNe_tup_lst, MR.fNe_tup_int, MR.fNe_tup_non, MR.fNe_tup_str, MR.fNe_tup_bl, MR.fNe_lst_tup, MR.fNe_lst_lst, MR.fNe_lst_int, MR.fNe_lst_non, MR.fNe_lst_str, MR.fNe_lst_bl, MR.fNe_int_tup, MR.fNe_int_lst, MR.fNe_int_non, MR.fNe_int_str, MR.fNe_int_bl, MR.fNe_non_tup, MR.fNe_non_lst, MR.fNe_non_int, MR.fNe_non_non, MR.fNe_non_str, MR.fNe_non_bl, MR.fNe_str_tup, MR.fNe_str_lst, MR.fNe_str_int, MR.fNe_str_non, MR.fNe_str_bl, MR.fNe_bl_tup, MR.fNe_bl_lst, MR.fNe_bl_int, MR.fNe_bl_non, MR.fNe_bl_str, MR.fLt_int, MR.fIx_tup, MR.fSl_tup, MR.fLen_tup, MR.fTuple_tup, MR.fRev_tup, MR.fIx_lst, MR.fSl_lst, MR.fLen_lst, MR.fTuple_lst, MR.fRev_lst, MR.fIx_str, MR.fSl_str, MR.fLen_str, MR.fInt_int, MR.fInt_bl,
        List.map_cons, List.map_nil, List.cons_append, List.nil_append, List.append_nil, List.length_cons, List.length_nil, List.replicate_succ, List.replicate_zero, List.set_cons_zero, List.set_cons_succ, List.getElem?_cons_zero, List.getElem?_cons_succ, List.getD_cons_zero, List.getD_cons_succ, Nat.reduceAdd, Nat.reduceSub, Nat.zero_add, Option.some.injEq, reduceIte, Bool.not_true, Bool.not_false, true_and, and_true]
        split
        · rename_i c2
          have hx0 : x = 0 := of_decide_eq_true c2
          subst hx0
          refine ⟨m.toNat - 1, by omega, m - 1, by rw [← e5], by omega, by omega, ?_, by omega⟩
          have e6 : (m - 1).toNat = m.toNat - 1 := by omega
          rw [e6, ← e3, tk, strip_snoc]
        · rename_i c2
          have hx0 : x ≠ 0 := fun z => c2 (decide_eq_true z)
          rw [cut_hi m0, ← List.map_take]
          rw [tk, strip_keep _ hx0] at e3
          rw [tk, e3]
          exact q
      · rename_i c
        have hm : ¬ 0 < m := fun z => c (decide_eq_true z)
        have e6 : m.toNat = 0 := by omega
        rw [cut_hi m0, ← List.map_take, e6, List.take_zero]
        rw [e6, List.take_zero] at e3
        rw [← e3] at q
        exact q
    · simp (maxSteps := 2000000) only [MR.sNil, MR.sSeq, MR.sDrop, MR.sRet, MR.sRetN, MR.sBreak, MR.sCont, MR.sIf, MR.sSet, MR.sOwn, MR.sAsg, MR.sPar, MR.sAug, MR.sFrz, MR.sApp, MR.sPut, MR.sExt, MR.aName, MR.aTup, MR.aNil, MR.aCons, MR.frz,
        MR.gVar, MR.gC, MR.gOp, MR.gB, MR.bK, MR.gTru, MR.gNotT, MR.gAndT, MR.gOrT, MR.gAndV, MR.gOrV, MR.gNotV, MR.gIf, MR.gChain, MR.gNil, MR.gCons, MR.gTup, MR.gLst, MR.gFz, MR.gOwn, MR.gAsL, MR.gNo, MR.gPart, MR.gSl, MR.gSlF, MR.gUn, MR.gIxL, MR.gFn, MR.gLenL, MR.gYes,
        MR.fAddI, MR.fSub, MR.fDiv, MR.fMod, MR.fPow, MR.fLe, MR.fGt, MR.fGe, MR.fIs, MR.fIsN, MR.fNeg, MR.fMin, MR.fMax, MR.fDivmod, MR.fSum, MR.fAll, MR.fRepr, MR.fIsi, MR.tyD, MR.dInt, MR.dBool, MR.dTup, MR.dStr, MR.dLst,
        MR.gDkT, MR.gDkS, MR.gDkNe, MR.gDkPop, MR.sDkApp, MR.sDkPut, MR.gScr, MR.sDeck, MR.gCall, MR.sel, MR.sFor, MR.sForR1, MR.sForR2, MR.sWhile, MR.sForE, MR.sAugP, MR.gRepL, MR.gCatL, MR.gComp, MR.gCompR, MR.startA, MR.wipeA, MR.sNever, MR.gNever, MR.tNev, MR.sAsg2, MR.fMulS_str, MR.fIntS_str, MR.sParO, MR.sForG, MR.gCompG, MR.iSeqG, MR.iR1G, MR.iR2G, MR.iR3G, MR.iZipG, MR.iEnumG, MR.iEnumLG, MR.iRevG,
        MR.fTru_bl, MR.fTru_non, MR.fTru_int, MR.fTru_str, MR.fTru_lst, MR.fTru_tup, MR.fAdd_int, MR.fAdd_str, MR.fAdd_tup, MR.fAdd_lst, MR.fMul_int, MR.fMul_tup, MR.fMul_lst, MR.fEq_int, MR.fEq_str, MR.fEq_bl, MR.fEq_tup_tup, MR.fEq_tup_lst, MR.fEq_tup_int, MR.fEq_tup_non, MR.fEq_tup_str, MR.fEq_tup_bl, MR.fEq_lst_tup, MR.fEq_lst_lst, MR.fEq_lst_int, MR.fEq_lst_non, MR.fEq_lst_str, MR.fEq_lst_bl, MR.fEq_int_tup, MR.fEq_int_lst, MR.fEq_int_non, MR.fEq_int_str, MR.fEq_int_bl, MR.fEq_non_tup, MR.fEq_non_lst, MR.fEq_non_int, MR.fEq_non_non, MR.fEq_non_str, MR.fEq_non_bl, MR.fEq_str_tup, MR.fEq_str_lst, MR.fEq_str_int, MR.fEq_str_non, MR.fEq_str_bl, MR.fEq_bl_tup, MR.fEq_bl_lst, MR.fEq_bl_int, MR.fEq_bl_non, MR.fEq_bl_str, MR.fNe_int, MR.fNe_str, MR.fNe_bl, MR.fNe_tup_tup, MR.fNe_tup_lst, MR.fNe_tup_int, MR.fNe_tup_non, MR.fNe_tup_str, MR.fNe_tup_bl, MR.fNe_lst_tup, MR.fNe_lst_lst, MR.fNe_lst_int, MR.fNe_lst_non, MR.fNe_lst_str, MR.fNe_lst_bl, MR.fNe_int_tup, MR.fNe_int_lst, MR.fNe_int_non, MR.fNe_int_str, MR.fNe_int_bl, MR.fNe_non_tup, MR.fNe_non_lst, MR.fNe_non_int, MR.fNe_non_non, MR.fNe_non_str, MR.fNe_non_bl, MR.fNe_str_tup, MR.fNe_str_lst, MR.fNe_str_int, MR.fNe_str_non, MR.fNe_str_bl, MR.fNe_bl_tup, MR.fNe_bl_lst, MR.fNe_bl_int, MR.fNe_bl_non, MR.fNe_bl_str, MR.fLt_int, MR.fIx_tup, MR.fSl_tup, MR.fLen_tup, MR.fTuple_tup, MR.fRev_tup, MR.fIx_lst, MR.fSl_lst, MR.fLen_lst, MR.fTuple_lst, MR.fRev_lst, MR.fIx_str, MR.fSl_str, MR.fLen_str, MR.fInt_int, MR.fInt_bl,
        List.map_cons, List.map_nil, List.cons_append, List.nil_append, List.append_nil, List.length_cons, List.length_nil, List.replicate_succ, List.replicate_zero, List.set_cons_zero, List.set_cons_succ, List.getElem?_cons_zero, List.getElem?_cons_succ, List.getD_cons_zero, List.getD_cons_succ, Nat.reduceAdd, Nat.reduceSub, Nat.zero_add, Option.some.injEq, reduceIte, Bool.not_true, Bool.not_false, true_and, and_true, List.length_map]
      refine ⟨fun m' ρ ω' => ω' = ω ∧ ∃ m : Int, ρ = [some (.d (D.lst (ns.map D.int))), some (.d (.int m))] ∧ 0 ≤ m ∧ m ≤ ns.length ∧ strip (ns.take m.toNat) = strip ns ∧ m' = m.toNat, ⟨ns.length, rfl, ns.length, rfl, by omega, by omega, by rw [Int.toNat_natCast, List.take_length], by omega⟩, fun m' ρ ω' ⟨e1, m, e2, m0, ml, e3, e4⟩ => ?_⟩
      subst e1 e2
      simp (maxSteps := 2000000) only [MR.sNil, MR.sSeq, MR.sDrop, MR.sRet, MR.sRetN, MR.sBreak, MR.sCont, MR.sIf, MR.sSet, MR.sOwn, MR.sAsg, MR.sPar, MR.sAug, MR.sFrz, MR.sApp, MR.sPut, MR.sExt, MR.aName, MR.aTup, MR.aNil, MR.aCons, MR.frz,
        MR.gVar, MR.gC, MR.gOp, MR.gB, MR.bK, MR.gTru, MR.gNotT, MR.gAndT, MR.gOrT, MR.gAndV, MR.gOrV, MR.gNotV, MR.gIf, MR.gChain, MR.gNil, MR.gCons, MR.gTup, MR.gLst, MR.gFz, MR.gOwn, MR.gAsL, MR.gNo, MR.gPart, MR.gSl, MR.gSlF, MR.gUn, MR.gIxL, MR.gFn, MR.gLenL, MR.gYes,
        MR.fAddI, MR.fSub, MR.fDiv, MR.fMod, MR.fPow, MR.fLe, MR.fGt, MR.fGe, MR.fIs, MR.fIsN, MR.fNeg, MR.fMin, MR.fMax, MR.fDivmod, MR.fSum, MR.fAll, MR.fRepr, MR.fIsi, MR.tyD, MR.dInt, MR.dBool, MR.dTup, MR.dStr, MR.dLst,
        MR.gDkT, MR.gDkS, MR.gDkNe, MR.gDkPop, MR.sDkApp, MR.sDkPut, MR.gScr, MR.sDeck, MR.gCall, MR.sel, MR.sFor, MR.sForR1, MR.sForR2, MR.sWhile, MR.sForE, MR.sAugP, MR.gRepL, MR.gCatL, MR.gComp, MR.gCompR, MR.startA, MR.wipeA, MR.sNever, MR.gNever, MR.tNev, MR.sAsg2, MR.fMulS_str, MR.fIntS_str, MR.sParO, MR.sForG, MR.gCompG, MR.iSeqG, MR.iR1G, MR.iR2G, MR.iR3G, MR.iZipG, MR.iEnumG, MR.iEnumLG, MR.iRevG,
        MR.fTru_bl, MR.fTru_non, MR.fTru_int, MR.fTru_str, MR.fTru_lst, MR.fTru_tup, MR.fAdd_int, MR.fAdd_str, MR.fAdd_tup, MR.fAdd_lst, MR.fMul_int, MR.fMul_tup, MR.fMul_lst, MR.fEq_int, MR.fEq_str, MR.fEq_bl, MR.fEq_tup_tup, MR.fEq_tup_lst, MR.fEq_tup_int, MR.fEq_tup_non, MR.fEq_tup_str, MR.fEq_tup_bl, MR.fEq_lst_tup, MR.fEq_lst_lst, MR.fEq_lst_int, MR.fEq_lst_non, MR.fEq_lst_str, MR.fEq_lst_bl, MR.fEq_int_tup, MR.fEq_int_lst, MR.fEq_int_non, MR.fEq_int_str, MR.fEq_int_bl, MR.fEq_non_tup, MR.fEq_non_lst, MR.fEq_non_int, MR.fEq_non_non, MR.fEq_non_str, MR.fEq_non_bl, MR.fEq_str_tup, MR.fEq_str_lst, MR.fEq_str_int, MR.fEq_str_non, MR.fEq_str_bl, MR.fEq_bl_tup, MR.fEq_bl_lst, MR.fEq_bl_int, MR.fEq_bl_non, MR.fEq_bl_str, MR.fNe_int, MR.fNe_str, MR.fNe_bl, MR.fNe_tup_tup, MR.fNe_tup_lst, MR.fNe_tup_int, MR.fNe_tup_non, MR.fNe_tup_str, MR.fNe_tup_bl, MR.fNe_lst_tup, MR.fNe_lst_lst, MR.fNe_lst_int, MR.fNe_lst_non, MR.fNe_lst_str, MR.fNe_lst_bl, MR.fNe_int_tup, MR.fNe_int_lst, MR.fNe_int_non, MR.fNe_int_str, MR.fNe_int_bl, MR.fNe_non_tup, MR.fNe_non_lst, MR.fNe_non_int, MR.fNe_non_non, MR.fNe_non_str, MR.fNe_non_bl, MR.fNe_str_tup, MR.fNe_str_lst, MR.fNe_str_int, MR.fNe_str_non, MR.fNe_str_bl, MR.fNe_bl_tup, MR.fNe_bl_lst, MR.fNe_bl_int, MR.fNe_bl_non, MR.fNe_bl_str, MR.fLt_int, MR.fIx_tup, MR.fSl_tup, MR.fLen_tup, MR.fTuple_tup, MR.fRev_tup, MR.fIx_lst, MR.fSl_lst, MR.fLen_lst, MR.fTuple_lst, MR.fRev_lst, MR.fIx_str, MR.fSl_str, MR.fLen_str, MR.fInt_int, MR.fInt_bl,
        List.map_cons, List.map_nil, List.cons_append, List.nil_append, List.append_nil, List.length_cons, List.length_nil, List.replicate_succ, List.replicate_zero, List.set_cons_zero, List.set_cons_succ, List.getElem?_cons_zero, List.getElem?_cons_succ, List.getD_cons_zero, List.getD_cons_succ, Nat.reduceAdd, Nat.reduceSub, Nat.zero_add, Option.some.injEq, reduceIte, Bool.not_true, Bool.not_false, true_and, and_true]
      split
      · rename_i c
        have hm : 0 < m := of_decide_eq_true c
        obtain ⟨x, hx⟩ : ∃ x, ns[m.toNat - 1]? = some x := ⟨ns[m.toNat - 1]'(by omega), List.getElem?_eq_getElem _⟩
        have e5 : (m - 1) = ((m.toNat - 1 : Nat) : Int) := by omega
        have tk : ns.take m.toNat = ns.take (m.toNat - 1) ++ [x] := by
          have : m.toNat = m.toNat - 1 + 1 := by omega
          rw [this, List.take_add_one, Nat.add_sub_cancel, hx]
          rfl
        rw [e5, atI_ints hx]
        simp (maxSteps := 2000000) only [MR.sNil, MR.sSeq, MR.sDrop, MR.sRet, MR.sRetN, MR.sBreak, MR.sCont, MR.sIf, MR.sSet, MR.sOwn, MR.sAsg, MR.sPar, MR.sAug, MR.sFrz, MR.sApp, MR.sPut, MR.sExt, MR.aName, MR.aTup, MR.aNil, MR.aCons, MR.frz,
        MR.gVar, MR.gC, MR.gOp, MR.gB, MR.bK, MR.gTru, MR.gNotT, MR.gAndT, MR.gOrT, MR.gAndV, MR.gOrV, MR.gNotV, MR.gIf, MR.gChain, MR.gNil, MR.gCons, MR.gTup, MR.gLst, MR.gFz, MR.gOwn, MR.gAsL, MR.gNo, MR.gPart, MR.gSl, MR.gSlF, MR.gUn, MR.gIxL, MR.gFn, MR.gLenL, MR.gYes,
        MR.fAddI, MR.fSub, MR.fDiv, MR.fMod, MR.fPow, MR.fLe, MR.fGt, MR.fGe, MR.fIs, MR.fIsN, MR.fNeg, MR.fMin, MR.fMax, MR.fDivmod, MR.fSum, MR.fAll, MR.fRepr, MR.fIsi, MR.tyD, MR.dInt, MR.dBool, MR.dTup, MR.dStr, MR.dLst,
        MR.gDkT, MR.gDkS, MR.gDkNe, MR.gDkPop, MR.sDkApp, MR.sDkPut, MR.gScr, MR.sDeck, MR.gCall, MR.sel, MR.sFor, MR.sForR1, MR.sForR2, MR.sWhile, MR.sForE, MR.sAugP, MR.gRepL, MR.gCatL, MR.gComp, MR.gCompR, MR.startA, MR.wipeA, MR.sNever, MR.gNever, MR.tNev, MR.sAsg2, MR.fMulS_str, MR.fIntS_str, MR.sParO, MR.sForG, MR.gCompG, MR.iSeqG, MR.iR1G, MR.iR2G, MR.iR3G, MR.iZipG, MR.iEnumG, MR.iEnumLG, MR.iRevG,
        MR.fTru_bl, MR.fTru_non, MR.fTru_int, MR.fTru_str, MR.fTru_lst, MR.fTru_tup, MR.fAdd_int, MR.fAdd_str, MR.fAdd_tup, MR.fAdd_lst, MR.fMul_int, MR.fMul_tup, MR.fMul_lst, MR.fEq_int, MR.fEq_str, MR.fEq_bl, MR.fEq_tup_tup, MR.fEq_tup_lst, MR.fEq_tup_int, MR.fEq_tup_non, MR.fEq_tup_str, MR.fEq_tup_bl, MR.fEq_lst_tup, MR.fEq_lst_lst, MR.fEq_lst_int, MR.fEq_lst_non, MR.fEq_lst_str, MR.fEq_lst_bl, MR.fEq_int_tup, MR.fEq_int_lst, MR.fEq_int_non, MR.fEq_int_str, MR.fEq_int_bl, MR.fEq_non_tup, MR.fEq_non_lst, MR.fEq_non_int, MR.fEq_non_non, MR.fEq_non_str, MR.fEq_non_bl, MR.fEq_str_tup, MR.fEq_str_lst, MR.fEq_str_int, MR.fEq_str_non, MR.fEq_str_bl, MR.fEq_bl_tup, MR.fEq_bl_lst, MR.fEq_bl_int, MR.fEq_bl_non, MR.fEq_bl_str, MR.fNe_int, MR.fNe_str, MR.fNe_bl, MR.fNe_tup_tup, MR.fNe_tup_lst, MR.fNe_tup_int, MR.fNe_tup_non, MR.fNe_tup_str, MR.fNe_tup_bl, MR.fNe_lst_tup, MR.fNe_lst_lst, MR.fNe_lst_int, MR.fNe_lst_non, MR.fNe_lst_str, MR.fNe_lst_bl, MR.fNe_int_tup, MR.fNe_int_lst, MR.fNe_int_non, MR.fNe_int_str, MR.fNe_int_bl, MR.fNe_non_tup, MR.fNe_non_lst, MR.fNe_non_int, MR.fNe_non_non, MR.fNe_non_str, MR.fNe_non_bl, MR.fNe_str_tup, MR.fNe_str_lst, MR.fNe_str_int, MR.fNe_str_non, MR.fNe_str_bl, MR.fNe_bl_tup, MR.fNe_bl_lst, MR.fNe_bl_int, MR.fNe_bl_non, MR.fNe_bl_str, MR.fLt_int, MR.fIx_tup, MR.fSl_tup, MR.fLen_tup, MR.fTuple_tup, MR.fRev_tup, MR.fIx_lst, MR.fSl_lst, MR.fLen_lst, MR.fTuple_lst, MR.fRev_lst, MR.fIx_str, MR.fSl_str, MR.fLen_str, MR.fInt_int, MR.fInt_bl,
        List.map_cons, List.map_nil, List.cons_append, List.nil_append, List.append_nil, List.length_cons, List.length_nil, List.replicate_succ, List.replicate_zero, List.set_cons_zero, List.set_cons_succ, List.getElem?_cons_zero, List.getElem?_cons_succ, List.getD_cons_zero, List.getD_cons_succ, Nat.reduceAdd, Nat.reduceSub, Nat.zero_add, Option.some.injEq, reduceIte, Bool.not_true, Bool.not_false, true_and, and_true]
        split
        · rename_i c2
          have hx0 : x = 0 := of_decide_eq_true c2
          subst hx0
          refine ⟨m.toNat - 1, by omega, m - 1, by rw [← e5], by omega, by omega, ?_, by omega⟩
          have e6 : (m - 1).toNat = m.toNat - 1 := by omega
          rw [e6, ← e3, tk, strip_snoc]
        · rename_i c2
          have hx0 : x ≠ 0 := fun z => c2 (decide_eq_true z)
          rw [cut_hi m0, ← List.map_take]
          rw [tk, strip_keep _ hx0] at e3
          rw [tk, e3]
          exact q
      · rename_i c
        have hm : ¬ 0 < m := fun z => c (decide_eq_true z)
        have e6 : m.toNat = 0 := by omega
        rw [cut_hi m0, ← List.map_take, e6, List.take_zero]
        rw [e6, List.take_zero] at e3
        rw [← e3] at q
        exact q
  refine ⟨fd, ⟨t.g_without_noughts, F.kp, ok⟩, ?_⟩
  · refine bnd_of F 1 [] [] [0] [] (by simp) rfl ?_
    intro kV doc pm an cdv ct D us mv ws h1 h2 h3 h4
    match us, mv, ws, h1, h2, h3 with
    | [u0], [], [], _, _, _ => exact rfl
theorem kn_cut_at (t : T w K mg) : ∃ fd, Known PR w K mg base 2 "cut_at" (He.ga K "cut_at") fd ["row", "many"] DWd 2 aCut ∧ Bnd K fd ["row", "many"] 2 [] [0, 1] [] := by
  obtain ⟨fd, F⟩ := t.f_cut_at
  obtain ⟨fd_without_noughts, k_without_noughts, b_without_noughts_0⟩ := kn_without_noughts (w := w) (base := base) t
  have ok : FnG PR w K mg base (L2.CX PR w) 2 (He.ga K "cut_at") fd ["row", "many"] (toSp DWd K 2 aCut) := by
    refine fn_ok (N := n_cut_at) DWd aCut F S_cut_at fun cdv A outer s H E hr hG => ?_
    have S := S_cut_at
    refine ⟨_, (gss_one (gs_ret (ge_tup (ga_cons (ge_call1 k_without_noughts (Room.mono hr (by decide)) hG tk_cx b_without_noughts_0 (fun B => .nil) (ga_cons (ge_slice (ge_var 0) go_none (go_some (ge_var 1))) ga_nil)) (ga_cons (ge_slice (ge_var 0) (go_some (ge_var 1)) go_none) ga_nil))))), ?_⟩
    clear S hr hG F t k_without_noughts b_without_noughts_0
    rintro ds ω Qa Ea ⟨ns, k, rfl, k0, q⟩ _
    simp (maxSteps := 2000000) only [MR.sNil, MR.sSeq, MR.sDrop, MR.sRet, MR.sRetN, MR.sBreak, MR.sCont, MR.sIf, MR.sSet, MR.sOwn, MR.sAsg, MR.sPar, MR.sAug, MR.sFrz, MR.sApp, MR.sPut, MR.sExt, MR.aName, MR.aTup, MR.aNil, MR.aCons, MR.frz,
        MR.gVar, MR.gC, MR.gOp, MR.gB, MR.bK, MR.gTru, MR.gNotT, MR.gAndT, MR.gOrT, MR.gAndV, MR.gOrV, MR.gNotV, MR.gIf, MR.gChain, MR.gNil, MR.gCons, MR.gTup, MR.gLst, MR.gFz, MR.gOwn, MR.gAsL, MR.gNo, MR.gPart, MR.gSl, MR.gSlF, MR.gUn, MR.gIxL, MR.gFn, MR.gLenL, MR.gYes,
        MR.fAddI, MR.fSub, MR.fDiv, MR.fMod, MR.fPow, MR.fLe, MR.fGt, MR.fGe, MR.fIs, MR.fIsN, MR.fNeg, MR.fMin, MR.fMax, MR.fDivmod, MR.fSum, MR.fAll, MR.fRepr, MR.fIsi, MR.tyD, MR.dInt, MR.dBool, MR.dTup, MR.dStr, MR.dLst,
        MR.gDkT, MR.gDkS, MR.gDkNe, MR.gDkPop, MR.sDkApp, MR.sDkPut, MR.gScr, MR.sDeck, MR.gCall, MR.sel, MR.sFor, MR.sForR1, MR.sForR2, MR.sWhile, MR.sForE, MR.sAugP, MR.gRepL, MR.gCatL, MR.gComp, MR.gCompR, MR.startA, MR.wipeA, MR.sNever, MR.gNever, MR.tNev, MR.sAsg2, MR.fMulS_str, MR.fIntS_str, MR.sParO, MR.sForG, MR.gCompG, MR.iSeqG, MR.iR1G, MR.iR2G, MR.iR3G, MR.iZipG, MR.iEnumG, MR.iEnumLG, MR.iRevG,
        MR.fTru_bl, MR.fTru_non, MR.fTru_int, MR.fTru_str, MR.fTru_lst, MR.fTru_tup, MR.fAdd_int, MR.fAdd_str, MR.fAdd_tup, MR.fAdd_lst, MR.fMul_int, MR.fMul_tup, MR.fMul_lst, MR.fEq_int, MR.fEq_str, MR.fEq_bl, MR.fEq_tup_tup, MR.fEq_tup_lst, MR.fEq_tup_int, MR.fEq_tup_non, MR.fEq_tup_str, MR.fEq_tup_bl, MR.fEq_lst_tup, MR.fEq_lst_lst, MR.fEq_lst_int, MR.fEq_lst_non, MR.fEq_lst_str, MR.fEq_lst_bl, MR.fEq_int_tup, MR.fEq_int_lst, MR.fEq_int_non, MR.fEq_int_str, MR.fEq_int_bl, MR.fEq_non_tup, MR.fEq_non_lst, MR.fEq_non_int, MR.fEq_non_non, MR.fEq_non_str, MR.fEq_non_bl, MR.fEq_str_tup, MR.fEq_str_lst, MR.fEq_str_int, MR.fEq_str_non, MR.fEq_str_bl, MR.fEq_bl_tup, MR.fEq_bl_lst, MR.fEq_bl_int, MR.fEq_bl_non, MR.fEq_bl_str, MR.fNe_int, MR.fNe_str, MR.fNe_bl, MR.fNe_tup_tup, MR.fNe_tup_lst, MR.fNe_tup_int, MR.fNe_tup_non, MR.fNe_tup_str, MR.fNe_tup_bl, MR.fNe_lst_tup, MR.fNe_lst_lst, MR.fNe_lst_int, MR.fNe_lst_non, MR.fNe_lst_str, MR.fNe_lst_bl, MR.fNe_int_tup, MR.fNe_int_lst, MR.fNe_int_non, MR.fNe_int_str, MR.fNe_int_bl, MR.fNe_non_tup, MR.fNe_non_lst, MR.fNe_non_int, MR.fNe_non_non, MR.fNe_non_str, MR.fNe_non_bl, MR.fNe_str_tup, MR.fNe_str_lst, MR.fNe_str_int, MR.fNe_str_non, MR.fNe_str_bl, MR.fNe_bl_tup, MR.fNe_bl_lst, MR.fNe_bl_int, MR.fNe_bl_non, MR.fNe_bl_str, MR.fLt_int, MR.fIx_tup, MR.fSl_tup, MR.fLen_tup, MR.fTuple_tup, MR.fRev_tup, MR.fIx_lst, MR.fSl_lst, MR.fLen_lst, MR.fTuple_lst, MR.fRev_lst, MR.fIx_str, MR.fSl_str, MR.fLen_str, MR.fInt_int, MR.fInt_bl,
        List.map_cons, List.map_nil, List.cons_append, List.nil_append, List.append_nil, List.length_cons, List.length_nil, List.replicate_succ, List.replicate_zero, List.set_cons_zero, List.set_cons_succ, List.getElem?_cons_zero, List.getElem?_cons_succ, List.getD_cons_zero, List.getD_cons_succ, Nat.reduceAdd, Nat.reduceSub, Nat.zero_add, Option.some.injEq, reduceIte, Bool.not_true, Bool.not_false, true_and, and_true]
    rw [cut_hi k0, cut_lo k0, ← List.map_take, ← List.map_drop]
    refine ⟨ns.take k.toNat, .inl rfl, by decide, q⟩
  refine ⟨fd, ⟨t.g_cut_at, F.kp, ok⟩, ?_⟩
  · refine bnd_of F 2 [] [] [0, 1] [] (by simp) rfl ?_
    intro kV doc pm an cdv ct D us mv ws h1 h2 h3 h4
    match us, mv, ws, h1, h2, h3 with
    | [u0, u1], [], [], _, _, _ => exact rfl
theorem kn_is_less (t : T w K mg) : ∃ fd, Known PR w K mg base 1 "is_less" (He.ga K "is_less") fd ["one", "other"] DWd 2 aIsLess ∧ Bnd K fd ["one", "other"] 2 [] [0, 1] [] := by
  obtain ⟨fd, F⟩ := t.f_is_less
  have ok : FnG PR w K mg base (L2.CX PR w) 1 (He.ga K "is_less") fd ["one", "other"] (toSp DWd K 2 aIsLess) := by
    refine fn_ok (N := n_is_less) DWd aIsLess F S_is_less fun cdv A outer s H E hr hG => ?_
    have S := S_is_less
    refine ⟨_, (gss_cons (gs_if (gt_cmp (m_ne (un64 hr)) op2_ne (nomark _) (ge_fn call_len c_len t.z_len (ga_cons (ge_var 0) ga_nil)) (ge_fn call_len c_len t.z_len (ga_cons (ge_var 1) ga_nil)))
      (gss_one (gs_ret (ge_cmp (m_lt (un0 hr)) op2_lt (nomark _) (ge_fn call_len c_len t.z_len (ga_cons (ge_var 0) ga_nil)) (ge_fn call_len c_len t.z_len (ga_cons (ge_var 1) ga_nil)))))
      gss_nil)
      (gss_one (gs_ret (ge_cmp (m_lt (un0 hr)) op2_lt (nomark _) (ge_rev (ge_var 0)) (ge_rev (ge_var 1)))))), ?_⟩
    clear S hr hG F t
    rintro ds ω Qa Ea ⟨xs, ys, b, rfl, hb, h1, h2, q⟩ _
    erw [asIntsRev]
    split
    case isTrue c =>
      have c : xs.length = ys.length := by omega
      simp only [fLt, asIntsRev]
      rw [lexLt_rev hb xs.reverse ys.reverse (by simp [c]) (fun n hn => h1.lim n (List.mem_reverse.mp hn)) (fun n hn => h2.lim n (List.mem_reverse.mp hn)), List.reverse_reverse, List.reverse_reverse]
      exact q
    case isFalse c =>
      have e : decide ((xs.length : Int) < (ys.length : Int)) = decide (wor b xs < wor b ys) := decide_eq_decide.mpr ⟨fun z => row_longer hb h1.lim h2 (by omega), fun z => by
        have : ¬ ys.length < xs.length := fun y => by have := row_longer hb h2.lim h1 y; omega
        omega⟩
      rw [e]
      exact q
  refine ⟨fd, ⟨t.g_is_less, F.kp, ok⟩, ?_⟩
  · refine bnd_of F 2 [] [] [0, 1] [] (by simp) rfl ?_
    intro kV doc pm an cdv ct D us mv ws h1 h2 h3 h4
    match us, mv, ws, h1, h2, h3 with
    | [u0, u1], [], [], _, _, _ => exact rfl
theorem kn_lessened (t : T w K mg) : ∃ fd, Known PR w K mg base 2 "lessened" (He.ga K "lessened") fd ["one", "other", "base"] DWd 3 aLess ∧ Bnd K fd ["one", "other", "base"] 2 ["base"] [0, 1, 2] [] := by
  obtain ⟨fd, F⟩ := t.f_lessened
  obtain ⟨fd_is_less, k_is_less, b_is_less_0⟩ := kn_is_less (w := w) (base := base) t
  obtain ⟨fd_without_noughts, k_without_noughts, b_without_noughts_0⟩ := kn_without_noughts (w := w) (base := base) t
  obtain ⟨fd_limb_at, k_limb_at, b_limb_at_0⟩ := kn_limb_at (w := w) (base := base) t
  have ok : FnG PR w K mg base (L2.CX PR w) 2 (He.ga K "lessened") fd ["one", "other", "base"] (toSp DWd K 3 aLess) := by
    refine fn_ok (N := n_lessened) DWd aLess F S_lessened fun cdv A outer s H E hr hG => ?_
    have S := S_lessened
    refine ⟨_, (gss_cons (gs_if (gt_tru (ge_call1 k_is_less (Room.mono hr (by decide)) hG tk_cx b_is_less_0 (fun B => .nil) (ga_cons (ge_var 0) (ga_cons (ge_var 1) ga_nil))))
      (gss_one gs_never)
      gss_nil)
      (gss_cons (gs_own 3 S.nd (gf_lst ga_nil))
      (gss_cons (gs_set 4 S.nd ge_int)
      (gss_cons (gs_forE po_cx rfl t.z_enumerate (ge_var 0) (gg_tup rfl (ggs_cons (gg_name 5 S.nd) (ggs_cons (gg_name 6 S.nd) ggs_nil)) (AL.len (al_cons aex_name (al_cons aex_name al_nil))))
      (gss_cons (gs_set 7 S.nd (ge_sub (ge_sub (ge_var 6) (ge_call1 k_limb_at (Room.mono hr (by decide)) hG tk_cx b_limb_at_0 (fun B => .nil) (ga_cons (ge_var 1) (ga_cons (ge_var 5) ga_nil)))) (ge_var 4)))
      (gss_cons (gs_set 4 S.nd (ge_ty call_int1 c_int t.z_int (ga_cons (ge_cmp (m_lt (un0 hr)) op2_lt (nomark _) (ge_var 7) ge_int) ga_nil)))
      (gss_one (gs_app 3 (ge_add (ge_var 7) (ge_mul (ge_var 4) (ge_var 2))))))))
      (gss_frz 3 (gss_one (gs_ret (ge_call1 k_without_noughts (Room.mono hr (by decide)) hG tk_cx b_without_noughts_0 (fun B => .nil) (ga_cons (ge_var 3) ga_nil))))))))), ?_⟩
    clear S hr hG F t k_is_less b_is_less_0 k_without_noughts b_without_noughts_0 k_limb_at b_limb_at_0
    rintro ds ω Qa Ea ⟨xs, ys, b, rfl, hb, h1, h2, l1, hle, q⟩ _
    have hb1 := hb.1
    have hb2 := hb.2
    have hlen := row_lenle hb1 h1 h2 hle
    have nl : ¬ wor b xs < wor b ys := by omega
    erw [aIsLess]
    refine ⟨b, hb1, h1, h2, ?_⟩
    erw [nl]
    obtain ⟨Iv, hIv⟩ : ∃ Iv : Nat → AEnv → DWd.W → Prop, ∀ i ρ ω', Iv i ρ ω' ↔ (ω' = ω ∧ ∃ x5 x6 x7, ∃ (as : List Int) (lent : Int), ρ = [some (.d (row xs)), some (.d (row ys)), some (.d (.int b)), some (.own (as.map D.int)), some (.d (.int lent)), x5, x6, x7] ∧ limbs b as ∧ as.length = i ∧ 0 ≤ lent ∧ lent ≤ 1 ∧ wor b as = wor b (xs.take i) - wor b (ys.take i) + b ^ i * lent) := ⟨_, fun _ _ _ => Iff.rfl⟩
    refine ⟨Iv, (hIv _ _ _).mpr ⟨rfl, none, none, none, [], 0, rfl, (fun _ h => nomatch h), rfl, by decide, by decide, by simp [wor]⟩, fun i d ρ ω' hd hv => ?_, fun ρ ω' hv => ?_⟩
    · replace hv := (hIv _ _ _).mp hv
      obtain ⟨e1, x5, x6, x7, as, lent, e2, e3, e4, e5, e6, e7⟩ := hv
      subst e1 e2
      obtain ⟨w, hw, rfl⟩ := enum_of hd
      obtain ⟨x, hx, rfl⟩ := at_ints hw
      have lx := h1.lim x (List.mem_of_getElem? hx)
      have ly := lim_getD (by omega : (1:Int) ≤ b) h2.lim i
      have hi := (List.getElem?_eq_some_iff.mp hx).1
      have tx : wor b (xs.take (i + 1)) = wor b (xs.take i) + b ^ i * x := by rw [worT, List.getD_eq_getElem?_getD, hx]; rfl
      have ty := worT b ys i
      have key : ∀ (l : Int), (l = 0 ∨ l = 1) → 0 ≤ x - ys.getD i 0 - lent + l * b → x - ys.getD i 0 - lent + l * b < b → limbs b (as ++ [x - ys.getD i 0 - lent + l * b]) ∧ (as ++ [x - ys.getD i 0 - lent + l * b]).length = i + 1 ∧ 0 ≤ l ∧ l ≤ 1 ∧ wor b (as ++ [x - ys.getD i 0 - lent + l * b]) = wor b (xs.take (i + 1)) - wor b (ys.take (i + 1)) + b ^ (i + 1) * l := fun l hl k0 k1 => by
        refine ⟨e3.append fun n hn => by rw [List.mem_singleton] at hn; subst hn; exact ⟨k0, k1⟩, by rw [List.length_append, e4]; rfl, by omega, by omega, ?_⟩
        rw [wor_snoc, e7, tx, ty, e4, Int.pow_succ, Int.mul_comm _ (b ^ i), Int.mul_add, Int.mul_sub, Int.mul_sub, Int.mul_assoc (b ^ i) b l, Int.mul_comm b l]
        omega
      erw [aLimbAt, Int.toNat_natCast]
      by_cases c : x - ys.getD i 0 - lent < 0
      · obtain ⟨k1, k2, k3, k4, k5⟩ := key 1 (.inr rfl) (by omega) (by omega)
        simp -implicitDefEqProofs only [MR.sNil, MR.sSeq, MR.sDrop, MR.sRet_e, MR.sRet_f, MR.sRetN, MR.sBreak, MR.sCont, MR.sIf, MR.sSet, MR.sOwn, MR.sAsg, MR.sPar, MR.sAug, MR.sFrz, MR.sApp, MR.sPut, MR.sExt, MR.aName, MR.aTup, MR.aNil, MR.aCons, MR.frz,
        MR.gVar, MR.gC, MR.gOp, MR.gB, MR.bK, MR.gTru, MR.gNotT, MR.gAndT, MR.gOrT, MR.gAndV, MR.gOrV, MR.gNotV, MR.gIf, MR.gChain, MR.gNil, MR.gCons, MR.gTup, MR.gLst, MR.gFz, MR.gOwn, MR.gAsL, MR.gNo, MR.gPart, MR.gSl, MR.gSlF, MR.gUn, MR.gIxL, MR.gFn, MR.gLenL, MR.gYes,
        MR.fAddI, MR.fSub, MR.fDiv, MR.fMod, MR.fPow, MR.fLe, MR.fGt, MR.fGe, MR.fIs, MR.fIsN, MR.fNeg, MR.fMin, MR.fMax, MR.fDivmod, MR.fSum, MR.fAll, MR.fRepr, MR.fIsi, MR.tyD, MR.dInt, MR.dBool, MR.dTup, MR.dStr, MR.dLst,
        MR.gDkT, MR.gDkS, MR.gDkNe, MR.gDkPop, MR.sDkApp, MR.sDkPut, MR.gScr, MR.sDeck, MR.gCall, MR.sel, MR.sFor, MR.sForR1, MR.sForR2, MR.sWhile, MR.sForE, MR.sAugP, MR.gRepL, MR.gCatL, MR.gComp, MR.gCompR, MR.startA, MR.wipeA, MR.sNever, MR.gNever, MR.tNev, MR.sAsg2, MR.fMulS_str, MR.fIntS_str, MR.sParO, MR.sForG, MR.gCompG, MR.iSeqG, MR.iR1G, MR.iR2G, MR.iR3G, MR.iZipG, MR.iEnumG, MR.iEnumLG, MR.iRevG,
        MR.fTru_bl, MR.fTru_non, MR.fTru_int, MR.fTru_str, MR.fTru_lst, MR.fTru_tup, MR.fAdd_int, MR.fAdd_str, MR.fAdd_tup, MR.fAdd_lst, MR.fMul_int, MR.fMul_tup, MR.fMul_lst, MR.fEq_int, MR.fEq_str, MR.fEq_bl, MR.fEq_tup_tup, MR.fEq_tup_lst, MR.fEq_tup_int, MR.fEq_tup_non, MR.fEq_tup_str, MR.fEq_tup_bl, MR.fEq_lst_tup, MR.fEq_lst_lst, MR.fEq_lst_int, MR.fEq_lst_non, MR.fEq_lst_str, MR.fEq_lst_bl, MR.fEq_int_tup, MR.fEq_int_lst, MR.fEq_int_non, MR.fEq_int_str, MR.fEq_int_bl, MR.fEq_non_tup, MR.fEq_non_lst, MR.fEq_non_int, MR.fEq_non_non, MR.fEq_non_str, MR.fEq_non_bl, MR.fEq_str_tup, MR.fEq_str_lst, MR.fEq_str_int, MR.fEq_str_non, MR.fEq_str_bl, MR.fEq_bl_tup, MR.fEq_bl_lst, MR.fEq_bl_int, MR.fEq_bl_non, MR.fEq_bl_str, MR.fNe_int, MR.fNe_str, MR.fNe_bl, MR.fNe_tup_tup, MR.fNe_tup_lst, MR.fNe_tup_int, MR.fNe_tup_non, MR.fNe_tup_str, MR.fNe_tup_bl, MR.fNe_lst_tup, MR.fNe_lst_lst, MR.fNe_lst_int, MR.fNe_lst_non, MR.fNe_lst_str, MR.fNe_lst_bl, MR.fNe_int_tup, MR.fNe_int_lst, MR.fNe_int_non, MR.fNe_int_str, MR.fNe_int_bl, MR.fNe_non_tup, MR.fNe_non_lst, MR.fNe_non_int, MR.fNe_non_non, MR.fNe_non_str, MR.fNe_non_bl, MR.fNe_str_tup, MR.fNe_str_lst, MR.fNe_str_int, MR.fNe_str_non, MR.fNe_str_bl, MR.fNe_bl_tup, MR.fNe_bl_lst, MR.fNe_bl_int, MR.fNe_bl_non, MR.fNe_bl_str, MR.fLt_int, MR.fIx_tup, MR.fSl_tup, MR.fLen_tup, MR.fTuple_tup, MR.fRev_tup, MR.fIx_lst, MR.fSl_lst, MR.fLen_lst, MR.fTuple_lst, MR.fRev_lst, MR.fIx_str, MR.fSl_str, MR.fLen_str, MR.fInt_int, MR.fInt_bl,
        List.map_cons, List.map_nil, List.cons_append, List.nil_append, List.append_nil, List.length_cons, List.length_nil, List.replicate_succ, List.replicate_zero, List.set_cons_zero, List.set_cons_succ, List.getElem?_cons_zero, List.getElem?_cons_succ, List.getD_cons_zero, List.getD_cons_succ, Nat.reduceAdd, Nat.reduceSub, Nat.zero_add, Option.some.injEq, reduceIte, Bool.not_true, Bool.not_false, true_and, and_true, MR.iZip3G, MR.sParR, MR.gCallC, MR.gCallFC, MR.gCallL, MR.gLz, MR.iZipQG, MR.fDivmodW, MR.fMinL, MR.str_keyD, MR.gDComp, MR.gMinV, MR.gSelK, MR.gComp2, MR.gMake, MR.gMeth, MR.gFldO, MR.fO_obj, MR.mO_obj, MR.fO_lg0, MR.fO_lg1, MR.fO_lg2, MR.mO_lg, MR.fIsO_lg, MR.fMax3, MR.fMulI, MR.gFTab, MR.gFHas, MR.gCallF, MR.iZipSG, MR.iEzG, MR.gSrt, MR.gSrtS, MR.gSrtL, MR.sParF, MR.sPopA, MR.gMNew, MR.gMNot, MR.gMGet, MR.sMPut, MR.fNeO, MR.fEqO, MR.fFdivZ, MR.fO_pt0, MR.fO_pt1, MR.fO_pt2, MR.mO_pt,  MR.okC_0, MR.okC_1, MR.fIsO_obj, MR.fIsO_non, MR.fIsO_int, MR.fIsO_tup, MR.fIsO_str, MR.fIsO_bl, MR.fIsO_lst, MR.fAbs, MR.gM1, MR.fJoin_lst, MR.fIndex_str, MR.fRevS_str, MR.fBack_tup, MR.iStrG, MR.fInt36_str, MR.fEqDS_dct, MR.fEqDS_str, MR.fEqDS_non, MR.fEqDS_bl, MR.fEqDS_int, MR.fEqDS_lst, MR.fEqDS_tup, MR.gDct1S, MR.iEnumKG, MR.fIsX_non, MR.fIsX_bl, MR.isND_non, MR.isND_bl, MR.isND_int, MR.isND_str, MR.isND_lst, MR.isND_tup, MR.isBD_non, MR.isBD_bl, MR.isBD_int, MR.isBD_str, MR.isBD_lst, MR.isBD_tup, MR.sRaise1, MR.sRaise2, MR.sTryF, MR.gIsF, MR.gFld, MR.gGet3, MR.gBor, MR.gBorT, MR.sca, MR.sPar3, MR.iZipMG, MR.gDct0, MR.gDct1, MR.fUpper, MR.fStr_int, MR.fStr_bl, MR.fAddX_bl, MR.fAddX_int, MR.fAddX_str, MR.fAddX_tup, MR.fAddX_lst, MR.fSubX_bl, MR.fSubX_ib, MR.fSubX_int, MR.fEqN_nil, MR.fReprX, MR.fIn_lst, MR.fIn_tup, MR.fIn_str, Bool.false_xor, Bool.true_xor, MR.gAsS, true_implies, false_implies, implies_true, MR.sRaise, MR.sTryAs, MR.sTry, MR.gIsE, PySem.W.kitAny, PySem.Value.ref.injEq, MR.sStar, MR.aSeq, MR.seqD, MR.gStp, List.take_succ_cons, List.take_zero, List.drop_succ_cons, List.drop_zero, MR.sl, MR.aFor_nil, MR.aComp_nil, Int.zero_add, MR.map_int_inj, MR.nil_map_int, MR.cons_map_int, List.map_eq_nil_iff, MR.eqOk_row, MR.eqOk_rowL, MR.eqOk_nil, MR.nil_eq, MR.nil_deq, MR.deq_row, MR.deq_rowL, MR.deq_nilr, MR.deq_nill, MR.deq_nils, MR.rng_zero, MR.isE_map, List.length_map, List.length_append, List.length_reverse,
        Nat.reduceLeDiff, Nat.reduceLT, Int.reduceLE, Int.reduceLT, Int.reducePow, Int.reduceNeg, Int.toNat_zero, Int.reduceToNat, Bool.not_eq_eq_eq_not, Bool.not_eq_true', decide_eq_false_iff_not, decide_eq_true_eq, Bool.false_eq_true, ite_not, ite_false, ite_true, decide_true, decide_false, not_true_eq_false, not_false_eq_true, List.cons.injEq, MR.D.tup.injEq, MR.D.lst.injEq, MR.D.int.injEq, MR.D.str.injEq, MR.D.bl.injEq, MR.D.adr.injEq, MR.Ent.d.injEq, MR.Ent.own.injEq, Option.some.injEq, Prod.mk.injEq, MR.fl_repx, List.length_replicate, exists_eq, exists_eq', and_assoc, exists_and_left, exists_and_right, exists_eq_left, exists_eq_left', exists_eq_right, exists_eq_right', ne_eq, eq_self, and_self, reduceCtorEq, false_and, and_false, or_false, false_or, Int.reduceEq, Int.reduceSub, Int.reduceAdd, Int.reduceMul, Nat.reduceMul, c, Int.one_mul] at k1 k2 k3 k4 k5 ⊢
        refine ⟨by omega, mulw 20 20 (by decide) (by decide) (by omega) (by omega) (by decide) (by decide) (by decide), by omega, ?_⟩
        refine (hIv _ _ _).mpr ?_
        exact ⟨rfl, _, _, _, as ++ [x - ys.getD i 0 - lent + b], 1, by rw [List.map_append]; rfl, k1, by rw [List.length_append, e4]; rfl, by decide, by decide, k5⟩
      · obtain ⟨k1, k2, k3, k4, k5⟩ := key 0 (.inl rfl) (by omega) (by omega)
        simp -implicitDefEqProofs only [MR.sNil, MR.sSeq, MR.sDrop, MR.sRet_e, MR.sRet_f, MR.sRetN, MR.sBreak, MR.sCont, MR.sIf, MR.sSet, MR.sOwn, MR.sAsg, MR.sPar, MR.sAug, MR.sFrz, MR.sApp, MR.sPut, MR.sExt, MR.aName, MR.aTup, MR.aNil, MR.aCons, MR.frz,
        MR.gVar, MR.gC, MR.gOp, MR.gB, MR.bK, MR.gTru, MR.gNotT, MR.gAndT, MR.gOrT, MR.gAndV, MR.gOrV, MR.gNotV, MR.gIf, MR.gChain, MR.gNil, MR.gCons, MR.gTup, MR.gLst, MR.gFz, MR.gOwn, MR.gAsL, MR.gNo, MR.gPart, MR.gSl, MR.gSlF, MR.gUn, MR.gIxL, MR.gFn, MR.gLenL, MR.gYes,
        MR.fAddI, MR.fSub, MR.fDiv, MR.fMod, MR.fPow, MR.fLe, MR.fGt, MR.fGe, MR.fIs, MR.fIsN, MR.fNeg, MR.fMin, MR.fMax, MR.fDivmod, MR.fSum, MR.fAll, MR.fRepr, MR.fIsi, MR.tyD, MR.dInt, MR.dBool, MR.dTup, MR.dStr, MR.dLst,
        MR.gDkT, MR.gDkS, MR.gDkNe, MR.gDkPop, MR.sDkApp, MR.sDkPut, MR.gScr, MR.sDeck, MR.gCall, MR.sel, MR.sFor, MR.sForR1, MR.sForR2, MR.sWhile, MR.sForE, MR.sAugP, MR.gRepL, MR.gCatL, MR.gComp, MR.gCompR, MR.startA, MR.wipeA, MR.sNever, MR.gNever, MR.tNev, MR.sAsg2, MR.fMulS_str, MR.fIntS_str, MR.sParO, MR.sForG, MR.gCompG, MR.iSeqG, MR.iR1G, MR.iR2G, MR.iR3G, MR.iZipG, MR.iEnumG, MR.iEnumLG, MR.iRevG,
        MR.fTru_bl, MR.fTru_non, MR.fTru_int, MR.fTru_str, MR.fTru_lst, MR.fTru_tup, MR.fAdd_int, MR.fAdd_str, MR.fAdd_tup, MR.fAdd_lst, MR.fMul_int, MR.fMul_tup, MR.fMul_lst, MR.fEq_int, MR.fEq_str, MR.fEq_bl, MR.fEq_tup_tup, MR.fEq_tup_lst, MR.fEq_tup_int, MR.fEq_tup_non, MR.fEq_tup_str, MR.fEq_tup_bl, MR.fEq_lst_tup, MR.fEq_lst_lst, MR.fEq_lst_int, MR.fEq_lst_non, MR.fEq_lst_str, MR.fEq_lst_bl, MR.fEq_int_tup, MR.fEq_int_lst, MR.fEq_int_non, MR.fEq_int_str, MR.fEq_int_bl, MR.fEq_non_tup, MR.fEq_non_lst, MR.fEq_non_int, MR.fEq_non_non, MR.fEq_non_str, MR.fEq_non_bl, MR.fEq_str_tup, MR.fEq_str_lst, MR.fEq_str_int, MR.fEq_str_non, MR.fEq_str_bl, MR.fEq_bl_tup, MR.fEq_bl_lst, MR.fEq_bl_int, MR.fEq_bl_non, MR.fEq_bl_str, MR.fNe_int, MR.fNe_str, MR.fNe_bl, MR.fNe_tup_tup, MR.fNe_tup_lst, MR.fNe_tup_int, MR.fNe_tup_non, MR.fNe_tup_str, MR.fNe_tup_bl, MR.fNe_lst_tup, MR.fNe_lst_lst, MR.fNe_lst_int, MR.fNe_lst_non, MR.fNe_lst_str, MR.fNe_lst_bl, MR.fNe_int_tup, MR.fNe_int_lst, MR.fNe_int_non, MR.fNe_int_str, MR.fNe_int_bl, MR.fNe_non_tup, MR.fNe_non_lst, MR.fNe_non_int, MR.fNe_non_non, MR.fNe_non_str, MR.fNe_non_bl, MR.fNe_str_tup, MR.fNe_str_lst, MR.fNe_str_int, MR.fNe_str_non, MR.fNe_str_bl, MR.fNe_bl_tup, MR.fNe_bl_lst, MR.fNe_bl_int, MR.fNe_bl_non, MR.fNe_bl_str, MR.fLt_int, MR.fIx_tup, MR.fSl_tup, MR.fLen_tup, MR.fTuple_tup, MR.fRev_tup, MR.fIx_lst, MR.fSl_lst, MR.fLen_lst, MR.fTuple_lst, MR.fRev_lst, MR.fIx_str, MR.fSl_str, MR.fLen_str, MR.fInt_int, MR.fInt_bl,
        List.map_cons, List.map_nil, List.cons_append, List.nil_append, List.append_nil, List.length_cons, List.length_nil, List.replicate_succ, List.replicate_zero, List.set_cons_zero, List.set_cons_succ, List.getElem?_cons_zero, List.getElem?_cons_succ, List.getD_cons_zero, List.getD_cons_succ, Nat.reduceAdd, Nat.reduceSub, Nat.zero_add, Option.some.injEq, reduceIte, Bool.not_true, Bool.not_false, true_and, and_true, MR.iZip3G, MR.sParR, MR.gCallC, MR.gCallFC, MR.gCallL, MR.gLz, MR.iZipQG, MR.fDivmodW, MR.fMinL, MR.str_keyD, MR.gDComp, MR.gMinV, MR.gSelK, MR.gComp2, MR.gMake, MR.gMeth, MR.gFldO, MR.fO_obj, MR.mO_obj, MR.fO_lg0, MR.fO_lg1, MR.fO_lg2, MR.mO_lg, MR.fIsO_lg, MR.fMax3, MR.fMulI, MR.gFTab, MR.gFHas, MR.gCallF, MR.iZipSG, MR.iEzG, MR.gSrt, MR.gSrtS, MR.gSrtL, MR.sParF, MR.sPopA, MR.gMNew, MR.gMNot, MR.gMGet, MR.sMPut, MR.fNeO, MR.fEqO, MR.fFdivZ, MR.fO_pt0, MR.fO_pt1, MR.fO_pt2, MR.mO_pt,  MR.okC_0, MR.okC_1, MR.fIsO_obj, MR.fIsO_non, MR.fIsO_int, MR.fIsO_tup, MR.fIsO_str, MR.fIsO_bl, MR.fIsO_lst, MR.fAbs, MR.gM1, MR.fJoin_lst, MR.fIndex_str, MR.fRevS_str, MR.fBack_tup, MR.iStrG, MR.fInt36_str, MR.fEqDS_dct, MR.fEqDS_str, MR.fEqDS_non, MR.fEqDS_bl, MR.fEqDS_int, MR.fEqDS_lst, MR.fEqDS_tup, MR.gDct1S, MR.iEnumKG, MR.fIsX_non, MR.fIsX_bl, MR.isND_non, MR.isND_bl, MR.isND_int, MR.isND_str, MR.isND_lst, MR.isND_tup, MR.isBD_non, MR.isBD_bl, MR.isBD_int, MR.isBD_str, MR.isBD_lst, MR.isBD_tup, MR.sRaise1, MR.sRaise2, MR.sTryF, MR.gIsF, MR.gFld, MR.gGet3, MR.gBor, MR.gBorT, MR.sca, MR.sPar3, MR.iZipMG, MR.gDct0, MR.gDct1, MR.fUpper, MR.fStr_int, MR.fStr_bl, MR.fAddX_bl, MR.fAddX_int, MR.fAddX_str, MR.fAddX_tup, MR.fAddX_lst, MR.fSubX_bl, MR.fSubX_ib, MR.fSubX_int, MR.fEqN_nil, MR.fReprX, MR.fIn_lst, MR.fIn_tup, MR.fIn_str, Bool.false_xor, Bool.true_xor, MR.gAsS, true_implies, false_implies, implies_true, MR.sRaise, MR.sTryAs, MR.sTry, MR.gIsE, PySem.W.kitAny, PySem.Value.ref.injEq, MR.sStar, MR.aSeq, MR.seqD, MR.gStp, List.take_succ_cons, List.take_zero, List.drop_succ_cons, List.drop_zero, MR.sl, MR.aFor_nil, MR.aComp_nil, Int.zero_add, MR.map_int_inj, MR.nil_map_int, MR.cons_map_int, List.map_eq_nil_iff, MR.eqOk_row, MR.eqOk_rowL, MR.eqOk_nil, MR.nil_eq, MR.nil_deq, MR.deq_row, MR.deq_rowL, MR.deq_nilr, MR.deq_nill, MR.deq_nils, MR.rng_zero, MR.isE_map, List.length_map, List.length_append, List.length_reverse,
        Nat.reduceLeDiff, Nat.reduceLT, Int.reduceLE, Int.reduceLT, Int.reducePow, Int.reduceNeg, Int.toNat_zero, Int.reduceToNat, Bool.not_eq_eq_eq_not, Bool.not_eq_true', decide_eq_false_iff_not, decide_eq_true_eq, Bool.false_eq_true, ite_not, ite_false, ite_true, decide_true, decide_false, not_true_eq_false, not_false_eq_true, List.cons.injEq, MR.D.tup.injEq, MR.D.lst.injEq, MR.D.int.injEq, MR.D.str.injEq, MR.D.bl.injEq, MR.D.adr.injEq, MR.Ent.d.injEq, MR.Ent.own.injEq, Option.some.injEq, Prod.mk.injEq, MR.fl_repx, List.length_replicate, exists_eq, exists_eq', and_assoc, exists_and_left, exists_and_right, exists_eq_left, exists_eq_left', exists_eq_right, exists_eq_right', ne_eq, eq_self, and_self, reduceCtorEq, false_and, and_false, or_false, false_or, Int.reduceEq, Int.reduceSub, Int.reduceAdd, Int.reduceMul, Nat.reduceMul, c, Int.zero_mul, Int.add_zero] at k1 k2 k3 k4 k5 ⊢
        refine ⟨by omega, mulw 20 20 (by decide) (by decide) (by omega) (by omega) (by decide) (by decide) (by decide), by omega, ?_⟩
        refine (hIv _ _ _).mpr ?_
        exact ⟨rfl, _, _, _, as ++ [x - ys.getD i 0 - lent], 0, by rw [List.map_append]; rfl, k1, by rw [List.length_append, e4]; rfl, by decide, by decide, k5⟩
    · replace hv := (hIv _ _ _).mp hv
      obtain ⟨e1, x5, x6, x7, as, lent, e2, e3, e4, e5, e6, e7⟩ := hv
      subst e1 e2
      rw [enum_len, List.length_map] at e4 e7
      rw [List.take_length, List.take_of_length_le hlen] at e7
      have wl := wor_lt (by omega : (1:Int) ≤ b) e3
      rw [e4] at wl
      have l0 : lent = 0 := by
        by_cases c : lent = 1
        · subst c
          rw [Int.mul_one] at e7
          omega
        · omega
      subst l0
      rw [Int.mul_zero, Int.add_zero] at e7
      erw [aWithout]
      rw [← digs_strip hb1 e3, e7]
      exact q
  refine ⟨fd, ⟨t.g_lessened, F.kp, ok⟩, ?_⟩
  · refine bnd_of F 2 ["base"] [] [0, 1, 2] [] (by simp) rfl ?_
    intro kV doc pm an cdv ct D us mv ws h1 h2 h3 h4
    match us, mv, ws, h1, h2, h3 with
    | [u0, u1], [], [v0], _, _, _ => exact rfl
def aApart : ASp DWd := fun ds ω Q _ => ∃ x y b l, ds = [row (digs b x), row (digs b y), .int b] ∧ base_ b ∧ nb b x l ∧ nb b y l ∧ l ≤ 9000 ∧ Q (row (digs b (ab (x - y)))) ω
theorem kn_apart (t : T w K mg) : ∃ fd, Known PR w K mg base 3 "apart" (He.ga K "apart") fd ["one", "other", "base"] DWd 3 aApart ∧ Bnd K fd ["one", "other", "base"] 2 ["base"] [0, 1, 2] [] := by
  obtain ⟨fd, F⟩ := t.f_apart
  obtain ⟨fd_is_less, k_is_less, b_is_less_0⟩ := kn_is_less (w := w) (base := base) t
  obtain ⟨fd_lessened, k_lessened, b_lessened_0⟩ := kn_lessened (w := w) (base := base) t
  have ok : FnG PR w K mg base (L2.CX PR w) 3 (He.ga K "apart") fd ["one", "other", "base"] (toSp DWd K 3 aApart) := by
    refine fn_ok (N := n_apart) DWd aApart F S_apart fun cdv A outer s H E hr hG => ?_
    have S := S_apart
    refine ⟨_, (gss_cons (gs_if (gt_tru (ge_call1 k_is_less (Room.mono hr (by decide)) hG tk_cx b_is_less_0 (fun B => .nil) (ga_cons (ge_var 0) (ga_cons (ge_var 1) ga_nil))))
      (gss_one (gs_ret (ge_call2 k_lessened (Room.mono hr (by decide)) hG tk_cx b_lessened_0 (fun B => .nil) (ga_cons (ge_var 1) (ga_cons (ge_var 0) ga_nil)) (gk_cons (ge_var 2) gk_nil))))
      gss_nil)
      (gss_one (gs_ret (ge_call2 k_lessened (Room.mono hr (by decide)) hG tk_cx b_lessened_0 (fun B => .nil) (ga_cons (ge_var 0) (ga_cons (ge_var 1) ga_nil)) (gk_cons (ge_var 2) gk_nil))))), ?_⟩
    clear S hr hG F t k_is_less b_is_less_0 k_lessened b_lessened_0
    rintro ds ω Qa Ea ⟨x, y, b, l, rfl, hb, hx, hy, hl, q⟩ _
    have lx := hx.len hb
    have ly := hy.len hb
    erw [aIsLess, aLess]
    refine ⟨b, hb.1, hx.is hb, hy.is hb, ?_⟩
    rw [hx.w hb, hy.w hb]
    by_cases c : x < y
    · rw [if_pos c]
      refine ⟨hb, hy.is hb, hx.is hb, by omega, by omega, ?_⟩
      rw [show y - x = ab (x - y) by unfold ab; omega]
      exact q
    · rw [if_neg c]
      refine ⟨hb, hx.is hb, hy.is hb, by omega, by omega, ?_⟩
      rw [show x - y = ab (x - y) by unfold ab; omega]
      exact q
  refine ⟨fd, ⟨t.g_apart, F.kp, ok⟩, ?_⟩
  · refine bnd_of F 2 ["base"] [] [0, 1, 2] [] (by simp) rfl ?_
    intro kV doc pm an cdv ct D us mv ws h1 h2 h3 h4
    match us, mv, ws, h1, h2, h3 with
    | [u0, u1], [], [v0], _, _, _ => exact rfl
theorem kn_shifted (t : T w K mg) : ∃ fd, Known PR w K mg base 1 "shifted" (He.ga K "shifted") fd ["row", "many"] DWd 2 aShifted ∧ Bnd K fd ["row", "many"] 2 [] [0, 1] [] := by
  obtain ⟨fd, F⟩ := t.f_shifted
  have ok : FnG PR w K mg base (L2.CX PR w) 1 (He.ga K "shifted") fd ["row", "many"] (toSp DWd K 2 aShifted) := by
    refine fn_ok (N := n_shifted) DWd aShifted F S_shifted fun cdv A outer s H E hr hG => ?_
    have S := S_shifted
    refine ⟨_, (gss_cons (gs_if (gt_cmp (m_eq (un64 hr)) op2_eq (nomark _) (ge_var 0) (ge_tup ga_nil))
      (gss_one (gs_ret (ge_tup ga_nil)))
      gss_nil)
      (gss_one (gs_ret (ge_add (ge_mul (ge_tup (ga_cons ge_int ga_nil)) (ge_var 1)) (ge_var 0))))), ?_⟩
    clear S hr hG F t
    rintro ds ω Qa Ea ⟨ns, k, rfl, k0, hk, hl, q⟩ _
    simp (maxSteps := 2000000) only [MR.sNil, MR.sSeq, MR.sDrop, MR.sRet, MR.sRetN, MR.sBreak, MR.sCont, MR.sIf, MR.sSet, MR.sOwn, MR.sAsg, MR.sPar, MR.sAug, MR.sFrz, MR.sApp, MR.sPut, MR.sExt, MR.aName, MR.aTup, MR.aNil, MR.aCons, MR.frz,
        MR.gVar, MR.gC, MR.gOp, MR.gB, MR.bK, MR.gTru, MR.gNotT, MR.gAndT, MR.gOrT, MR.gAndV, MR.gOrV, MR.gNotV, MR.gIf, MR.gChain, MR.gNil, MR.gCons, MR.gTup, MR.gLst, MR.gFz, MR.gOwn, MR.gAsL, MR.gNo, MR.gPart, MR.gSl, MR.gSlF, MR.gUn, MR.gIxL, MR.gFn, MR.gLenL, MR.gYes,
        MR.fAddI, MR.fSub, MR.fDiv, MR.fMod, MR.fPow, MR.fLe, MR.fGt, MR.fGe, MR.fIs, MR.fIsN, MR.fNeg, MR.fMin, MR.fMax, MR.fDivmod, MR.fSum, MR.fAll, MR.fRepr, MR.fIsi, MR.tyD, MR.dInt, MR.dBool, MR.dTup, MR.dStr, MR.dLst,
        MR.gDkT, MR.gDkS, MR.gDkNe, MR.gDkPop, MR.sDkApp, MR.sDkPut, MR.gScr, MR.sDeck, MR.gCall, MR.sel, MR.sFor, MR.sForR1, MR.sForR2, MR.sWhile, MR.sForE, MR.sAugP, MR.gRepL, MR.gCatL, MR.gComp, MR.gCompR, MR.startA, MR.wipeA, MR.sNever, MR.gNever, MR.tNev, MR.sAsg2, MR.fMulS_str, MR.fIntS_str, MR.sParO, MR.sForG, MR.gCompG, MR.iSeqG, MR.iR1G, MR.iR2G, MR.iR3G, MR.iZipG, MR.iEnumG, MR.iEnumLG, MR.iRevG,
        MR.fTru_bl, MR.fTru_non, MR.fTru_int, MR.fTru_str, MR.fTru_lst, MR.fTru_tup, MR.fAdd_int, MR.fAdd_str, MR.fAdd_tup, MR.fAdd_lst, MR.fMul_int, MR.fMul_tup, MR.fMul_lst, MR.fEq_int, MR.fEq_str, MR.fEq_bl, MR.fEq_tup_tup, MR.fEq_tup_lst, MR.fEq_tup_int, MR.fEq_tup_non, MR.fEq_tup_str, MR.fEq_tup_bl, MR.fEq_lst_tup, MR.fEq_lst_lst, MR.fEq_lst_int, MR.fEq_lst_non, MR.fEq_lst_str, MR.fEq_lst_bl, MR.fEq_int_tup, MR.fEq_int_lst, MR.fEq_int_non, MR.fEq_int_str, MR.fEq_int_bl, MR.fEq_non_tup, MR.fEq_non_lst, MR.fEq_non_int, MR.fEq_non_non, MR.fEq_non_str, MR.fEq_non_bl, MR.fEq_str_tup, MR.fEq_str_lst, MR.fEq_str_int, MR.fEq_str_non, MR.fEq_str_bl, MR.fEq_bl_tup, MR.fEq_bl_lst, MR.fEq_bl_int, MR.fEq_bl_non, MR.fEq_bl_str, MR.fNe_int, MR.fNe_str, MR.fNe_bl, MR.fNe_tup_tup, MR.fNe_tup_lst, MR.fNe_tup_int, MR.fNe_tup_non, MR.fNe_tup_str, MR.fNe_tup_bl, MR.fNe_lst_tup, MR.fNe_lst_lst, MR.fNe_lst_int, MR.fNe_lst_non, MR.fNe_lst_str, MR.fNe_lst_bl, MR.fNe_int_tup, MR.fNe_int_lst, MR.fNe_int_non, MR.fNe_int_str, MR.fNe_int_bl, MR.fNe_non_tup, MR.fNe_non_lst, MR.fNe_non_int, MR.fNe_non_non, MR.fNe_non_str, MR.fNe_non_bl, MR.fNe_str_tup, MR.fNe_str_lst, MR.fNe_str_int, MR.fNe_str_non, MR.fNe_str_bl, MR.fNe_bl_tup, MR.fNe_bl_lst, MR.fNe_bl_int, MR.fNe_bl_non, MR.fNe_bl_str, MR.fLt_int, MR.fIx_tup, MR.fSl_tup, MR.fLen_tup, MR.fTuple_tup, MR.fRev_tup, MR.fIx_lst, MR.fSl_lst, MR.fLen_lst, MR.fTuple_lst, MR.fRev_lst, MR.fIx_str, MR.fSl_str, MR.fLen_str, MR.fInt_int, MR.fInt_bl,
        List.map_cons, List.map_nil, List.cons_append, List.nil_append, List.append_nil, List.length_cons, List.length_nil, List.replicate_succ, List.replicate_zero, List.set_cons_zero, List.set_cons_succ, List.getElem?_cons_zero, List.getElem?_cons_succ, List.getD_cons_zero, List.getD_cons_succ, Nat.reduceAdd, Nat.reduceSub, Nat.zero_add, Option.some.injEq, reduceIte, Bool.not_true, Bool.not_false, true_and, and_true]
    refine ⟨by decide, eqOk_row ns, eqOk_row [], ?_⟩
    have e : deq (.tup (ns.map D.int)) (.tup []) = decide (ns = []) := deq_row ns []
    rw [e]
    unfold shift_ at q
    split
    · rename_i c
      rw [if_pos (of_decide_eq_true c)] at q
      exact ⟨by decide, q⟩
    · rename_i c
      rw [if_neg (fun z => c (decide_eq_true z))] at q
      refine ⟨by decide, by omega, hk, by decide, ?_⟩
      rw [fl_rep]
      refine ⟨line1000 (by rw [List.length_map, List.length_map, List.length_replicate]; omega), ?_⟩
      rw [← List.map_append]
      exact q
  refine ⟨fd, ⟨t.g_shifted, F.kp, ok⟩, ?_⟩
  · refine bnd_of F 2 [] [] [0, 1] [] (by simp) rfl ?_
    intro kV doc pm an cdv ct D us mv ws h1 h2 h3 h4
    match us, mv, ws, h1, h2, h3 with
    | [u0, u1], [], [], _, _, _ => exact rfl
theorem kn_by_halves (t : T w K mg) (kc : Nat) (hkc : 4 ≤ kc) : ∃ fd, KnownC PR w K mg base (kc + 1) "by_halves" (He.ga K "by_halves") fd ["one", "other", "many", "deal", "base"] 3 (TWd (tlOf K xs_)) aByHalves kc 3 cDeal ∧ Bnd K fd ["one", "other", "many", "deal", "base"] 4 ["base"] [0, 1, 2, 3, 4] [] := by
  obtain ⟨fd, F⟩ := t.f_by_halves
  have ok : FnC PR w K mg base (kc + 1) (He.ga K "by_halves") fd ["one", "other", "many", "deal", "base"] 3 (TWd (tlOf K xs_)) aByHalves kc 3 cDeal := by
    refine fn_okC (wd := TWd (tlOf K xs_)) (N := n_by_halves) aByHalves cDeal F S_by_halves fun cdv hcd base1 up A outer s H E hr hG θ r So B0 hat hrun => ?_
    obtain ⟨fd_half_of, k_half_of, b_half_of_0⟩ := kn_half_of (w := w) (base := base1) t
    replace k_half_of := (k_half_of.liftT (tlOf K xs_)).liftB B0
    obtain ⟨fd_summed, k_summed, b_summed_0⟩ := kn_summed (w := w) (base := base1) t
    replace k_summed := (k_summed.liftT (tlOf K xs_)).liftB B0
    obtain ⟨fd_cut_at, k_cut_at, b_cut_at_0⟩ := kn_cut_at (w := w) (base := base1) t
    replace k_cut_at := (k_cut_at.liftT (tlOf K xs_)).liftB B0
    obtain ⟨fd_apart, k_apart, b_apart_0⟩ := kn_apart (w := w) (base := base1) t
    replace k_apart := (k_apart.liftT (tlOf K xs_)).liftB B0
    obtain ⟨fd_is_less, k_is_less, b_is_less_0⟩ := kn_is_less (w := w) (base := base1) t
    replace k_is_less := (k_is_less.liftT (tlOf K xs_)).liftB B0
    obtain ⟨fd_lessened, k_lessened, b_lessened_0⟩ := kn_lessened (w := w) (base := base1) t
    replace k_lessened := (k_lessened.liftT (tlOf K xs_)).liftB B0
    obtain ⟨fd_shifted, k_shifted, b_shifted_0⟩ := kn_shifted (w := w) (base := base1) t
    replace k_shifted := (k_shifted.liftT (tlOf K xs_)).liftB B0
    have S := S_by_halves
    refine ⟨_, (gss_cons (gs_set 5 S.nd (ge_call1 k_half_of (Room.mono hr (by omega)) hG tk_cx b_half_of_0 (fun B => .nil) (ga_cons (ge_var 2) ga_nil)))
      (gss_cons (gs_asg (ge_tup (ga_cons (ge_call1 k_cut_at (Room.mono hr (by omega)) hG tk_cx b_cut_at_0 (fun B => .nil) (ga_cons (ge_var 0) (ga_cons (ge_var 5) ga_nil))) (ga_cons (ge_call1 k_cut_at (Room.mono hr (by omega)) hG tk_cx b_cut_at_0 (fun B => .nil) (ga_cons (ge_var 1) (ga_cons (ge_var 5) ga_nil))) ga_nil))) (gg_tup rfl (ggs_cons (gg_tup rfl (ggs_cons (gg_name 6 S.nd) (ggs_cons (gg_name 7 S.nd) ggs_nil)) (AL.len (al_cons aex_name (al_cons aex_name al_nil)))) (ggs_cons (gg_tup rfl (ggs_cons (gg_name 8 S.nd) (ggs_cons (gg_name 9 S.nd) ggs_nil)) (AL.len (al_cons aex_name (al_cons aex_name al_nil)))) ggs_nil)) (AL.len (al_cons (aex_tup (al_cons aex_name (al_cons aex_name al_nil))) (al_cons (aex_tup (al_cons aex_name (al_cons aex_name al_nil))) al_nil)))))
      (gss_cons (gs_set 10 S.nd (ge_callC 3 hat hrun hr (by omega) hG tk_cx (ga_cons (ge_var 6) (ga_cons (ge_var 8) (ga_cons (ge_var 5) ga_nil)))))
      (gss_cons (gs_set 11 S.nd (ge_callC 3 hat hrun hr (by omega) hG tk_cx (ga_cons (ge_var 7) (ga_cons (ge_var 9) (ga_cons (ge_sub (ge_var 2) (ge_var 5)) ga_nil)))))
      (gss_cons (gs_set 12 S.nd (ge_callC 3 hat hrun hr (by omega) hG tk_cx (ga_cons (ge_call2 k_apart (Room.mono hr (by omega)) hG tk_cx b_apart_0 (fun B => .nil) (ga_cons (ge_var 6) (ga_cons (ge_var 7) ga_nil)) (gk_cons (ge_var 4) gk_nil)) (ga_cons (ge_call2 k_apart (Room.mono hr (by omega)) hG tk_cx b_apart_0 (fun B => .nil) (ga_cons (ge_var 8) (ga_cons (ge_var 9) ga_nil)) (gk_cons (ge_var 4) gk_nil)) (ga_cons (ge_var 5) ga_nil)))))
      (gss_cons (gs_set 13 S.nd (ge_call2 k_summed (Room.mono hr (by omega)) hG tk_cx b_summed_0 (fun B => .nil) (ga_cons (ge_ix (ge_var 10) ge_int) (ga_cons (ge_ix (ge_var 11) ge_int) ga_nil)) (gk_cons (ge_var 4) gk_nil)))
      (gss_cons (gs_if (gt_cmp (m_eq (un64 hr)) op2_eq (nomark _) (ge_call1 k_is_less (Room.mono hr (by omega)) hG tk_cx b_is_less_0 (fun B => .nil) (ga_cons (ge_var 6) (ga_cons (ge_var 7) ga_nil))) (ge_call1 k_is_less (Room.mono hr (by omega)) hG tk_cx b_is_less_0 (fun B => .nil) (ga_cons (ge_var 8) (ga_cons (ge_var 9) ga_nil))))
      (gss_one (gs_set 13 S.nd (ge_call2 k_lessened (Room.mono hr (by omega)) hG tk_cx b_lessened_0 (fun B => .nil) (ga_cons (ge_var 13) (ga_cons (ge_ix (ge_var 12) ge_int) ga_nil)) (gk_cons (ge_var 4) gk_nil))))
      (gss_one (gs_set 13 S.nd (ge_call2 k_summed (Room.mono hr (by omega)) hG tk_cx b_summed_0 (fun B => .nil) (ga_cons (ge_var 13) (ga_cons (ge_ix (ge_var 12) ge_int) ga_nil)) (gk_cons (ge_var 4) gk_nil)))))
      (gss_cons (gs_set 14 S.nd (ge_call2 k_summed (Room.mono hr (by omega)) hG tk_cx b_summed_0 (fun B => .nil) (ga_cons (ge_var 13) (ga_cons (ge_call1 k_shifted (Room.mono hr (by omega)) hG tk_cx b_shifted_0 (fun B => .nil) (ga_cons (ge_ix (ge_var 11) ge_int) (ga_cons (ge_var 5) ga_nil))) ga_nil)) (gk_cons (ge_var 4) gk_nil)))
      (gss_cons (gs_set 14 S.nd (ge_call2 k_summed (Room.mono hr (by omega)) hG tk_cx b_summed_0 (fun B => .nil) (ga_cons (ge_ix (ge_var 10) ge_int) (ga_cons (ge_call1 k_shifted (Room.mono hr (by omega)) hG tk_cx b_shifted_0 (fun B => .nil) (ga_cons (ge_var 14) (ga_cons (ge_var 5) ga_nil))) ga_nil)) (gk_cons (ge_var 4) gk_nil)))
      (gss_one (gs_ret (ge_tup (ga_cons (ge_var 14) (ga_cons (ge_tup (ga_cons ge_str (ga_cons (ge_var 5) (ga_cons (ge_var 10) (ga_cons (ge_var 11) (ga_cons (ge_var 12) ga_nil)))))) ga_nil)))))))))))))), ?_⟩
    clear S hr hG hat hrun k_half_of b_half_of_0 k_summed b_summed_0 k_cut_at b_cut_at_0 k_apart b_apart_0 k_is_less b_is_less_0 k_lessened b_lessened_0 k_shifted b_shifted_0
    rintro ds ω Qa Ea ⟨x, y, r', e, hb, h2, hn, hx, hy, q⟩ hr3 _
    subst e
    obtain ⟨b, n, pap⟩ := θ
    simp only at hb h2 hn hx hy q
    have er : r' = r := D.adr.inj (Option.some.inj hr3)
    subst er
    have lx := hx.len hb
    have ly := hy.len hb
    obtain ⟨h, hh⟩ : ∃ h, h = (n + 1) / 2 := ⟨_, rfl⟩
    unfold papH at q
    rw [← hh] at q
    have h1 : 1 ≤ h ∧ h < n ∧ 1 ≤ n - h ∧ n - h ≤ h := by omega
    have x0 : nb b (x % b ^ h.toNat) h.toNat := nb.modk hb _
    have y0 : nb b (y % b ^ h.toNat) h.toNat := nb.modk hb _
    have x1 : nb b (x / b ^ h.toNat) (n - h).toNat := nb_top hb hx (by omega)
    have y1 : nb b (y / b ^ h.toNat) (n - h).toNat := nb_top hb hy (by omega)
    have x1' := x1.le hb (show (n - h).toNat ≤ h.toNat by omega)
    have y1' := y1.le hb (show (n - h).toNat ≤ h.toNat by omega)
    show sSeq _ _ _ _ _
    refine seq_opq fun N hN => ?_
    erw [aHalf]
    refine ⟨by omega, by omega, ?_⟩
    rw [← hh]
    show N _ _
    rw [hN]
    clear hN
    show sSeq _ _ _ _ _
    refine seq_opq fun N hN => ?_
    erw [aCut]
    refine ⟨by omega, by omega, ?_⟩
    rw [hx.low hb, hx.high hb, hy.low hb, hy.high hb]
    generalize hF : b ^ h.toNat = F at *
    have tot := halves_total (x := x) (y := y) (F := F)
    generalize x % F = u at *
    generalize x / F = v at *
    generalize y % F = u' at *
    generalize y / F = v' at *
    have m0 := x0.mul y0 hb
    have m1 := x1'.mul y1' hb
    have c0 := x0.sub x1'
    have c1 := y0.sub y1'
    have m2 := c0.mul c1 hb
    show N _ _
    rw [hN]
    clear hN
    show sSeq _ _ _ _ _
    refine seq_opq fun N hN => ?_
    erw [cDeal]
    refine ⟨u, rfl, u', rfl, by omega, by omega, x0, y0, ?_⟩
    show N _ _
    rw [hN]
    clear hN
    show sSeq _ _ _ _ _
    refine seq_opq fun N hN => ?_
    erw [cDeal]
    refine ⟨v, rfl, v', rfl, by omega, by omega, x1, y1, ?_⟩
    show N _ _
    rw [hN]
    clear hN
    show sSeq _ _ _ _ _
    refine seq_opq fun N hN => ?_
    erw [aApart, cDeal]
    refine ⟨u, v, b, rfl, rfl, rfl, hb, h.toNat, x0, x1', by omega, u', v', b, rfl, rfl, rfl, hb, h.toNat, y0, y1', by omega, _, rfl, _, rfl, by omega, by omega, c0, c1, ?_⟩
    have i0 : ∀ d e : D, atI [d, e] 0 = some d := fun _ _ => rfl
    have l0 := m0.len hb
    have l1 := m1.len hb
    have l2 := m2.len hb
    have s0 := m0.add (m1.le hb (Nat.le_refl _)) hb
    have ls := s0.len hb
    show N _ _
    rw [hN]
    clear hN
    show sSeq _ _ _ _ _
    refine seq_opq fun N hN => ?_
    erw [i0, aSummed]
    refine ⟨hb, m0.is hb, m1.is hb, by omega, by omega, ?_⟩
    rw [m0.w hb, m1.w hb]
    have mid : nb b (u * v' + v * u') (h.toNat + h.toNat + 2) := (((x0.mul y1' hb).add (x1'.mul y0 hb) hb).le hb (by omega))
    have lm := mid.len hb
    have m2' := m2.le hb (show h.toNat + h.toNat ≤ h.toNat + h.toNat + 1 by omega)
    have m3 := s0.add m2' hb
    have iN : ∀ (P Q : Prop) [Decidable P], (if P then Q else Q) = Q := fun P Q _ => by split <;> rfl
    show N _ _
    rw [hN]
    clear hN
    show sSeq _ _ _ _ _
    refine seq_opq fun N hN => ?_
    erw [aIsLess]
    refine ⟨b, hb.1, x0.is hb, x1'.is hb, b, hb.1, y0.is hb, y1'.is hb, ?_⟩
    rw [x0.w hb, x1'.w hb, y0.w hb, y1'.w hb]
    have fin : N [some (.d (row (digs b x))), some (.d (row (digs b y))), some (.d (.int n)), some (.d (.adr r')), some (.d (.int b)), some (.d (.int h)), some (.d (row (digs b u))), some (.d (row (digs b v))), some (.d (row (digs b u'))), some (.d (row (digs b v'))), some (.d (.tup [row (digs b (u * u')), pap h u u'])), some (.d (.tup [row (digs b (v * v')), pap (n - h) v v'])), some (.d (.tup [row (digs b (ab (u - v) * ab (u' - v'))), pap h (ab (u - v)) (ab (u' - v'))])), some (.d (row (digs b (u * v' + v * u')))), none] ω := by
      have ms := m1.shift hb h.toNat
      have m4 := m1.sh hb h.toNat
      have m5 := (mid.le hb (show h.toNat + h.toNat + 2 ≤ h.toNat + (h.toNat + h.toNat) + 2 by omega)).add (m4.le hb (show _ ≤ h.toNat + (h.toNat + h.toNat) + 2 by omega)) hb
      have m6 := m5.sh hb h.toNat
      have mt := m5.shift hb h.toNat
      have l4 := m4.len hb
      have l5 := m5.len hb
      have l6 := m6.len hb
      rw [hF] at ms m4 m5 m6 mt l4 l5 l6
      show N _ _
      rw [hN]
      clear hN
      show sSeq _ _ _ _ _
      refine seq_opq fun N hN => ?_
      erw [i0, aShifted, ms, aSummed]
      refine ⟨by omega, by omega, by omega, ?_⟩
      refine ⟨hb, mid.is hb, m4.is hb, by omega, by omega, ?_⟩
      rw [mid.w hb, m4.w hb]
      show N _ _
      rw [hN]
      clear hN
      show sSeq _ _ _ _ _
      refine seq_opq fun N hN => ?_
      erw [i0, aShifted, mt, aSummed]
      refine ⟨by omega, by omega, by omega, hb, m0.is hb, m6.is hb, by omega, by omega, ?_⟩
      rw [m0.w hb, m6.w hb, tot]
      show N _ _
      rw [hN]
      clear hN
      erw []
      exact q
    by_cases c : decide (u < v) = decide (u' < v')
    · rw [if_pos c]
      erw [i0, aLess]
      refine ⟨hb, s0.is hb, m2.is hb, by omega, ?_⟩
      have le := ab_mulE c
      rw [s0.w hb, m2.w hb, le]
      refine ⟨?_, fin⟩
      have := mid.nn
      omega
    · rw [if_neg c]
      erw [i0, aSummed]
      refine ⟨hb, s0.is hb, m2.is hb, by omega, by omega, ?_⟩
      rw [s0.w hb, m2.w hb, ab_mulN c]
      exact fin
  refine ⟨fd, ⟨t.g_by_halves, F.kp, ok⟩, ?_⟩
  · refine bnd_of F 4 ["base"] [] [0, 1, 2, 3, 4] [] (by simp) rfl ?_
    intro kV doc pm an cdv ct D us mv ws h1 h2 h3 h4
    match us, mv, ws, h1, h2, h3 with
    | [u0, u1, u2, u3], [], [v0], _, _, _ => exact rfl
def aThird : ASp DWd := fun ds ω Q _ => ∃ n, ds = [.int n] ∧ 0 ≤ n ∧ n ≤ 10000 ∧ Q (.int (thd n)) ω
theorem kn_third_of (t : T w K mg) : ∃ fd, Known PR w K mg base 1 "third_of" (He.ga K "third_of") fd ["many"] DWd 1 aThird ∧ Bnd K fd ["many"] 1 [] [0] [] := by
  obtain ⟨fd, F⟩ := t.f_third_of
  have ok : FnG PR w K mg base (L2.CX PR w) 1 (He.ga K "third_of") fd ["many"] (toSp DWd K 1 aThird) := by
    refine fn_ok (N := n_third_of) DWd aThird F S_third_of fun cdv A outer s H E hr hG => ?_
    have S := S_third_of
    refine ⟨_, (gss_one (gs_ret (ge_div (ge_add (ge_var 0) ge_int) ge_int))), ?_⟩
    clear S hr hG F t
    rintro ds ω Qa Ea ⟨n, rfl, n0, n1, q⟩ _
    have dv : CDivW (n + 2) 3 := divw10 (by decide) (by decide)
    erw [dv]
    exact q
  refine ⟨fd, ⟨t.g_third_of, F.kp, ok⟩, ?_⟩
  · refine bnd_of F 1 [] [] [0] [] (by simp) rfl ?_
    intro kV doc pm an cdv ct D us mv ws h1 h2 h3 h4
    match us, mv, ws, h1, h2, h3 with
    | [u0], [], [], _, _, _ => exact rfl
def aPartOf : ASp DWd := fun ds ω Q _ => ∃ x f b l, ds = [row (digs b x), .int f, .int b] ∧ base_ b ∧ nb b x l ∧ l ≤ 9000 ∧ 1 ≤ f ∧ f ≤ 10 ∧ Q (row (digs b (x / f))) ω
theorem kn_part_of (t : T w K mg) : ∃ fd, Known PR w K mg base 1 "part_of" (He.ga K "part_of") fd ["row", "few", "base"] DWd 3 aPartOf ∧ Bnd K fd ["row", "few", "base"] 2 ["base"] [0, 1, 2] [] := by
  obtain ⟨fd, F⟩ := t.f_part_of
  have ok : FnG PR w K mg base (L2.CX PR w) 1 (He.ga K "part_of") fd ["row", "few", "base"] (toSp DWd K 3 aPartOf) := by
    refine fn_ok (N := n_part_of) DWd aPartOf F S_part_of fun cdv A outer s H E hr hG => ?_
    have S := S_part_of
    refine ⟨_, (gss_cons (gs_own 3 S.nd (gf_lst ga_nil))
      (gss_cons (gs_set 4 S.nd ge_int)
      (gss_cons (gs_forG po_cx rfl (gi_rev t.z_reversed (ge_var 0)) (gg_name 5 S.nd)
      (gss_cons (gs_set 4 S.nd (ge_add (ge_mul (ge_var 4) (ge_var 2)) (ge_var 5)))
      (gss_cons (gs_if (GW.gt (gw_or (gt_bor 3 (gt_cmp (m_ne (un64 hr)) op2_ne (nomark _) (ge_var 3) (GF.ge (gf_lst ga_nil)))) (gw_or1 (gt_cmp op_ge op2_ge (nomark _) (ge_var 4) (ge_var 1)))))
      (gss_one (gs_app 3 (ge_div (ge_var 4) (ge_var 1))))
      gss_nil)
      (gss_one (gs_set 4 S.nd (ge_sub (ge_var 4) (ge_mul (ge_div (ge_var 4) (ge_var 1)) (ge_var 1))))))))
      (gss_one (gs_ret (ge_ty call_tuple_of c_tuple t.z_tuple (ga_cons (GF.ge (gf_rev (gl_own 3))) ga_nil))))))), ?_⟩
    clear S hr hG F t
    rintro ds ω Qa Ea ⟨x, f, b, l, rfl, hb, hx, hl, f0, f1, q⟩ _
    have hr := hx.is hb
    have hlen := hx.len hb
    have hw := hx.w hb
    generalize digs b x = ns at *
    have lm := hr.lim
    obtain ⟨Jv, hJv⟩ : ∃ Jv : Nat → AEnv → DWd.W → Prop, ∀ i ρ ω', Jv i ρ ω' ↔ (ω' = ω ∧ ∃ x5 v r, ρ = [some (.d (row ns)), some (.d (.int f)), some (.d (.int b)), some (.own ((digs b v).reverse.map D.int)), some (.d (.int r)), x5] ∧ 0 ≤ v ∧ (0 ≤ r ∧ r < f) ∧ v * f + r = wor b (ns.drop (ns.length - i)) ∧ (digs b v).length ≤ i) := ⟨_, fun _ _ _ => Iff.rfl⟩
    show sSeq _ _ _ _ _
    refine seq_opq fun N hN => ?_
    erw []
    show N _ _
    rw [hN]
    clear hN
    show sSeq _ _ _ _ _
    refine seq_opq fun N hN => ?_
    erw []
    show N _ _
    rw [hN]
    clear hN
    show sSeq _ _ _ _ _
    refine seq_opq fun N hN => ?_
    erw []
    refine ⟨Jv, (hJv _ _ _).mpr ⟨rfl, none, 0, 0, by rw [digs_zero hb]; rfl, Int.le_refl 0, ⟨Int.le_refl 0, by omega⟩, by rw [Nat.sub_zero, List.drop_length]; show (0:Int) * f + 0 = 0; omega, by rw [digs_zero hb]; exact Nat.le_refl 0⟩, fun i d ρ ω' hd hv => ?_, fun ρ ω' hv => ?_⟩
    · replace hv := (hJv _ _ _).mp hv
      obtain ⟨rfl, x5, v, r, rfl, v0, hr2, hv, hvl⟩ := hv
      rw [← List.map_reverse] at hd
      obtain ⟨n, hn, rfl⟩ := at_ints hd
      have ln := lm n (List.mem_reverse.mp (List.mem_of_getElem? hn))
      obtain ⟨hi, ed⟩ := rev_at hn
      obtain ⟨s1, s2, s3, s4⟩ := few_step hb.1 ln f0 v0 hr2 hv
      clear hN hd
      simp only [MR.aName]
      have mk : CMulW r b := mulw 100 100 hr2.1 (by omega) (by have := hb.1; omega) (by have := hb.2; omega) (by decide) (by decide) (by decide)
      have s1' := s3.1
      have dv : CDivW (r * b + n) f := divw10 (by omega) (by omega)
      refine seq_opq fun N2 hN2 => ?_
      erw [mk]
      show N2 _ _
      rw [hN2]
      clear hN2
      refine seq_opq fun N2 hN2 => ?_
      erw [dv]
      have dq : deq (.lst ((digs b v).reverse.map D.int)) (.lst []) = decide ((digs b v).reverse = []) := deq_rowL _ []
      have dvn : (r * b + n) - (r * b + n) / f * f = (r * b + n) % f := by
        have := Int.emod_add_mul_ediv (r * b + n) f
        rw [Int.mul_comm f] at this
        omega
      have bl : (r * b + n) / f ≤ r * b + n := Int.ediv_le_self _ (by have := s3.1; have : 0 ≤ r * b := Int.mul_nonneg hr2.1 (by have := hb.1; omega); omega)
      have d0 : 0 ≤ (r * b + n) / f := Int.ediv_nonneg (by have : 0 ≤ r * b := Int.mul_nonneg hr2.1 (by have := hb.1; omega); omega) (by omega)
      have rb : r * b ≤ 10 * 10000 := Int.mul_le_mul (by omega) hb.2 (by have := hb.1; omega) (by omega)
      have mk2 : CMulW ((r * b + n) / f) f := mulw 1000 100 d0 (by have := hb.2; omega) (by omega) (by omega) (by decide) (by decide) (by decide)
      have fin : ∀ G : List D, G = (digs b (v * b + (r * b + n) / f)).reverse.map D.int → (digs b (v * b + (r * b + n) / f)).length ≤ i + 1 → N2 [some (.d (row ns)), some (.d (.int f)), some (.d (.int b)), some (.own G), some (.d (.int (r * b + n))), some (.d (.int n))] ω' := fun G hG hl2 => by
        rw [hN2]
        clear hN2
        erw [dv, mk2]
        rw [dvn, hG]
        exact (hJv _ _ _).mpr ⟨rfl, _, _, _, rfl, s1, s3, by rw [s2, ed]; rfl, hl2⟩
      have keep : digs b v = [] → r * b + n < f → N2 [some (.d (row ns)), some (.d (.int f)), some (.d (.int b)), some (.own ((digs b v).reverse.map D.int)), some (.d (.int (r * b + n))), some (.d (.int n))] ω' := fun z1 z2 => by
        refine fin _ ?_ ?_
        · rw [s4, if_pos ⟨z1, z2⟩, z1]
        · rw [s4, if_pos ⟨z1, z2⟩]
          exact Nat.zero_le _
      have app : ¬ (digs b v = [] ∧ r * b + n < f) → N2 [some (.d (row ns)), some (.d (.int f)), some (.d (.int b)), some (.own ((digs b v).reverse.map D.int ++ [D.int ((r * b + n) / f)])), some (.d (.int (r * b + n))), some (.d (.int n))] ω' := fun z => by
        refine fin _ ?_ ?_
        · rw [s4, if_neg z, List.reverse_cons, List.map_append]
          rfl
        · rw [s4, if_neg z, List.length_cons]
          omega
      clear fin
      have hi2 : (digs b v).length < 16777216 := by omega
      by_cases c1 : digs b v = []
      · rw [dq, c1, List.reverse_nil, decide_eq_true rfl, if_neg (by decide)]
        rw [c1] at keep app hi2
        by_cases c2 : f ≤ r * b + n
        · rw [if_pos c2]
          exact ⟨hi2, app fun h => by omega⟩
        · rw [if_neg c2]
          exact keep rfl (by omega)
      · rw [dq, decide_eq_false (fun h => c1 (List.reverse_eq_nil_iff.mp h)), if_pos rfl]
        exact ⟨hi2, app fun h => c1 h.1⟩
    · replace hv := (hJv _ _ _).mp hv
      obtain ⟨rfl, x5, v, r, rfl, v0, hr2, hv, hvl⟩ := hv
      rw [List.length_reverse, List.length_map, Nat.sub_self, List.drop_zero, hw] at hv
      obtain ⟨w1, _⟩ := qr_of f0 hv hr2.1 hr2.2
      rw [w1] at q
      show N _ _
      rw [hN]
      clear hN
      erw []
      rw [List.map_reverse, List.reverse_reverse]
      exact q
  refine ⟨fd, ⟨t.g_part_of, F.kp, ok⟩, ?_⟩
  · refine bnd_of F 2 ["base"] [] [0, 1, 2] [] (by simp) rfl ?_
    intro kV doc pm an cdv ct D us mv ws h1 h2 h3 h4
    match us, mv, ws, h1, h2, h3 with
    | [u0, u1], [], [v0], _, _, _ => exact rfl
def aDoubled : ASp DWd := fun ds ω Q _ => ∃ x t b l, ds = [row (digs b x), .int t, .int b] ∧ base_ b ∧ nb b x l ∧ l ≤ 8000 ∧ 0 ≤ t ∧ t ≤ 10 ∧ Q (row (digs b (x * 2 ^ t.toNat))) ω
theorem kn_doubled (t : T w K mg) : ∃ fd, Known PR w K mg base 3 "doubled" (He.ga K "doubled") fd ["row", "times", "base"] DWd 3 aDoubled ∧ Bnd K fd ["row", "times", "base"] 2 ["base"] [0, 1, 2] [] := by
  obtain ⟨fd, F⟩ := t.f_doubled
  obtain ⟨fd_summed, k_summed, b_summed_0⟩ := kn_summed (w := w) (base := base) t
  have ok : FnG PR w K mg base (L2.CX PR w) 3 (He.ga K "doubled") fd ["row", "times", "base"] (toSp DWd K 3 aDoubled) := by
    refine fn_ok (N := n_doubled) DWd aDoubled F S_doubled fun cdv A outer s H E hr hG => ?_
    have S := S_doubled
    refine ⟨_, (gss_cons (gs_forR1 po_cx rfl t.z_range (ge_var 1) (gg_name 3 S.nd)
      (gss_one (gs_set 0 S.nd (ge_call2 k_summed (Room.mono hr (by decide)) hG tk_cx b_summed_0 (fun B => .nil) (ga_cons (ge_var 0) (ga_cons (ge_var 0) ga_nil)) (gk_cons (ge_var 2) gk_nil)))))
      (gss_one (gs_ret (ge_var 0)))), ?_⟩
    clear S hr hG F t k_summed b_summed_0
    rintro ds ω Qa Ea ⟨x, t, b, l, rfl, hb, hx, hl, t0, t1, q⟩ _
    obtain ⟨Jv, hJv⟩ : ∃ Jv : Nat → AEnv → DWd.W → Prop, ∀ i ρ ω', Jv i ρ ω' ↔ (ω' = ω ∧ ∃ x3, ρ = [some (.d (row (digs b (x * 2 ^ i)))), some (.d (.int t)), some (.d (.int b)), x3]) := ⟨_, fun _ _ _ => Iff.rfl⟩
    show sSeq _ _ _ _ _
    refine seq_opq fun N hN => ?_
    erw []
    refine ⟨by omega, by omega, Jv, (hJv _ _ _).mpr ⟨rfl, none, by rw [Int.pow_zero, Int.mul_one]⟩, fun i d ρ ω' hd hv => ?_, fun ρ ω' hv => ?_⟩
    · replace hv := (hJv _ _ _).mp hv
      obtain ⟨rfl, x3, rfl⟩ := hv
      have hi : i < t.toNat := by
        have := (List.getElem?_eq_some_iff.mp hd).1
        rwa [rng_len] at this
      have bi := dbl_nb hb hx i
      have l1 := bi.len hb
      clear hN
      simp only [MR.aName]
      erw [aSummed, bi.w hb]
      refine ⟨hb, bi.is hb, bi.is hb, by omega, by omega, (hJv _ _ _).mpr ⟨rfl, some (.d d), ?_⟩⟩
      rw [Int.pow_succ, ← Int.mul_assoc, show x * 2 ^ i * 2 = x * 2 ^ i + x * 2 ^ i by omega]
    · replace hv := (hJv _ _ _).mp hv
      obtain ⟨rfl, x3, rfl⟩ := hv
      rw [rng_len]
      show N _ _
      rw [hN]
      clear hN
      erw []
      exact q
  refine ⟨fd, ⟨t.g_doubled, F.kp, ok⟩, ?_⟩
  · refine bnd_of F 2 ["base"] [] [0, 1, 2] [] (by simp) rfl ?_
    intro kV doc pm an cdv ct D us mv ws h1 h2 h3 h4
    match us, mv, ws, h1, h2, h3 with
    | [u0, u1], [], [v0], _, _, _ => exact rfl
def aMiddlesOf : ASp DWd := fun ds ω Q _ => ∃ p q s t u A B C b tn l, ds = [.tup [row (digs b p), row (digs b q), row (digs b s), row (digs b t), row (digs b u)], .bl tn, .int b] ∧ base_ b ∧ l ≤ 7000 ∧ nb b p l ∧ nb b u l ∧ nb b A l ∧ nb b B l ∧ nb b C l ∧ 0 ≤ s ∧ q = p + A + B + C + u ∧ s * (if tn = true then -1 else 1) = p - A + B - C + u ∧ t = p + 2 * A + 4 * B + 8 * C + 16 * u ∧ Q (.tup [row (digs b A), row (digs b B), row (digs b C)]) ω
theorem kn_middles_of (t : T w K mg) : ∃ fd, Known PR w K mg base 4 "middles_of" (He.ga K "middles_of") fd ["rows", "turned", "base"] DWd 3 aMiddlesOf ∧ Bnd K fd ["rows", "turned", "base"] 2 ["base"] [0, 1, 2] [] := by
  obtain ⟨fd, F⟩ := t.f_middles_of
  obtain ⟨fd_part_of, k_part_of, b_part_of_0⟩ := kn_part_of (w := w) (base := base) t
  obtain ⟨fd_lessened, k_lessened, b_lessened_0⟩ := kn_lessened (w := w) (base := base) t
  obtain ⟨fd_summed, k_summed, b_summed_0⟩ := kn_summed (w := w) (base := base) t
  obtain ⟨fd_doubled, k_doubled, b_doubled_0⟩ := kn_doubled (w := w) (base := base) t
  have ok : FnG PR w K mg base (L2.CX PR w) 4 (He.ga K "middles_of") fd ["rows", "turned", "base"] (toSp DWd K 3 aMiddlesOf) := by
    refine fn_ok (N := n_middles_of) DWd aMiddlesOf F S_middles_of fun cdv A outer s H E hr hG => ?_
    have S := S_middles_of
    refine ⟨_, (gss_cons (gs_asg (ge_var 0) (gg_tup rfl (ggs_cons (gg_name 3 S.nd) (ggs_cons (gg_name 4 S.nd) (ggs_cons (gg_name 5 S.nd) (ggs_cons (gg_name 6 S.nd) (ggs_cons (gg_name 7 S.nd) ggs_nil))))) (AL.len (al_cons aex_name (al_cons aex_name (al_cons aex_name (al_cons aex_name (al_cons aex_name al_nil))))))))
      (gss_cons (gs_par 8 9 rfl S.nd (ge_call2 k_lessened (Room.mono hr (by decide)) hG tk_cx b_lessened_0 (fun B => .nil) (ga_cons (ge_var 4) (ga_cons (ge_var 5) ga_nil)) (gk_cons (ge_var 2) gk_nil)) (ge_call2 k_summed (Room.mono hr (by decide)) hG tk_cx b_summed_0 (fun B => .nil) (ga_cons (ge_var 4) (ga_cons (ge_var 5) ga_nil)) (gk_cons (ge_var 2) gk_nil)))
      (gss_cons (gs_if (gt_not (gt_tru (ge_var 1)))
      (gss_one (gs_par 8 9 rfl S.nd (ge_var 9) (ge_var 8)))
      gss_nil)
      (gss_cons (gs_set 10 S.nd (ge_call2 k_part_of (Room.mono hr (by decide)) hG tk_cx b_part_of_0 (fun B => .nil) (ga_cons (ge_var 9) (ga_cons ge_int ga_nil)) (gk_cons (ge_var 2) gk_nil)))
      (gss_cons (gs_set 11 S.nd (ge_call2 k_lessened (Room.mono hr (by decide)) hG tk_cx b_lessened_0 (fun B => .nil) (ga_cons (ge_call2 k_part_of (Room.mono hr (by decide)) hG tk_cx b_part_of_0 (fun B => .nil) (ga_cons (ge_var 8) (ga_cons ge_int ga_nil)) (gk_cons (ge_var 2) gk_nil)) (ga_cons (ge_call2 k_summed (Room.mono hr (by decide)) hG tk_cx b_summed_0 (fun B => .nil) (ga_cons (ge_var 3) (ga_cons (ge_var 7) ga_nil)) (gk_cons (ge_var 2) gk_nil)) ga_nil)) (gk_cons (ge_var 2) gk_nil)))
      (gss_cons (gs_set 12 S.nd (ge_call2 k_summed (Room.mono hr (by decide)) hG tk_cx b_summed_0 (fun B => .nil) (ga_cons (ge_var 3) (ga_cons (ge_call2 k_doubled (Room.mono hr (by decide)) hG tk_cx b_doubled_0 (fun B => .nil) (ga_cons (ge_call2 k_summed (Room.mono hr (by decide)) hG tk_cx b_summed_0 (fun B => .nil) (ga_cons (ge_var 11) (ga_cons (ge_call2 k_doubled (Room.mono hr (by decide)) hG tk_cx b_doubled_0 (fun B => .nil) (ga_cons (ge_var 7) (ga_cons ge_int ga_nil)) (gk_cons (ge_var 2) gk_nil)) ga_nil)) (gk_cons (ge_var 2) gk_nil)) (ga_cons ge_int ga_nil)) (gk_cons (ge_var 2) gk_nil)) ga_nil)) (gk_cons (ge_var 2) gk_nil)))
      (gss_cons (gs_set 13 S.nd (ge_call2 k_part_of (Room.mono hr (by decide)) hG tk_cx b_part_of_0 (fun B => .nil) (ga_cons (ge_call2 k_lessened (Room.mono hr (by decide)) hG tk_cx b_lessened_0 (fun B => .nil) (ga_cons (ge_var 6) (ga_cons (ge_var 12) ga_nil)) (gk_cons (ge_var 2) gk_nil)) (ga_cons ge_int ga_nil)) (gk_cons (ge_var 2) gk_nil)))
      (gss_cons (gs_set 14 S.nd (ge_call2 k_part_of (Room.mono hr (by decide)) hG tk_cx b_part_of_0 (fun B => .nil) (ga_cons (ge_call2 k_lessened (Room.mono hr (by decide)) hG tk_cx b_lessened_0 (fun B => .nil) (ga_cons (ge_var 13) (ga_cons (ge_var 10) ga_nil)) (gk_cons (ge_var 2) gk_nil)) (ga_cons ge_int ga_nil)) (gk_cons (ge_var 2) gk_nil)))
      (gss_one (gs_ret (ge_tup (ga_cons (ge_call2 k_lessened (Room.mono hr (by decide)) hG tk_cx b_lessened_0 (fun B => .nil) (ga_cons (ge_var 10) (ga_cons (ge_var 14) ga_nil)) (gk_cons (ge_var 2) gk_nil)) (ga_cons (ge_var 11) (ga_cons (ge_var 14) ga_nil)))))))))))))), ?_⟩
    clear S hr hG F t k_part_of b_part_of_0 k_lessened b_lessened_0 k_summed b_summed_0 k_doubled b_doubled_0
    rintro ds ω Qa Ea ⟨p, q, s, t, u, A, B, C, b, tn, l, rfl, hb, hl, hp, hu, hA, hB, hC, s0, eq, es, et, Q0⟩ _
    have P0 := bpow hb l
    have b2 := hb.1
    have p0 := hp.nn
    have p1 := hp.lt
    have u0 := hu.nn
    have u1 := hu.lt
    have A0 := hA.nn
    have A1 := hA.lt
    have B0 := hB.nn
    have B1 := hB.lt
    have C0 := hC.nn
    have C1 := hC.lt
    obtain ⟨sq, hlow⟩ : s ≤ q ∧ (tn = true → q - s = 2 * (p + B + u) ∧ q + s = 2 * (A + C)) ∧ (tn = false → q + s = 2 * (p + B + u) ∧ q - s = 2 * (A + C)) := by
      cases tn
      · rw [if_neg (by decide)] at es
        exact ⟨by omega, fun h => (nomatch h), fun _ => ⟨by omega, by omega⟩⟩
      · rw [if_pos rfl] at es
        exact ⟨by omega, fun _ => ⟨by omega, by omega⟩, fun h => (nomatch h)⟩
    have nq : nb b q (l + 8) := nb_few hb (by omega) (by omega)
    have ns : nb b s (l + 8) := nb_few hb (by omega) (by omega)
    have nt : nb b t (l + 8) := nb_few hb (by omega) (by omega)
    have nlow : nb b (2 * (p + B + u)) (l + 8) := nb_few hb (by omega) (by omega)
    have nhigh : nb b (2 * (A + C)) (l + 8) := nb_few hb (by omega) (by omega)
    have nodd : nb b (A + C) (l + 8) := nb_few hb (by omega) (by omega)
    have neven : nb b (p + B + u) (l + 8) := nb_few hb (by omega) (by omega)
    have npu : nb b (p + u) (l + 8) := nb_few hb (by omega) (by omega)
    have nB : nb b B (l + 8) := nb_few hb (by omega) (by omega)
    have nA : nb b A (l + 8) := nb_few hb (by omega) (by omega)
    have nC : nb b C (l + 8) := nb_few hb (by omega) (by omega)
    have n4 : nb b (B + 4 * u) (l + 8) := nb_few hb (by omega) (by omega)
    have n4' : nb b (4 * u) (l + 8) := nb_few hb (by omega) (by omega)
    have n16 : nb b (4 * (B + 4 * u)) (l + 8) := nb_few hb (by omega) (by omega)
    have nless : nb b (p + 4 * (B + 4 * u)) (l + 8) := nb_few hb (by omega) (by omega)
    have naw2 : nb b (2 * (A + 4 * C)) (l + 8) := nb_few hb (by omega) (by omega)
    have naw : nb b (A + 4 * C) (l + 8) := nb_few hb (by omega) (by omega)
    have n3 : nb b (3 * C) (l + 8) := nb_few hb (by omega) (by omega)
    have e1 : 2 * (A + C) / 2 = A + C := by omega
    have e2 : 2 * (p + B + u) / 2 = p + B + u := by omega
    have e3 : p + B + u - (p + u) = B := by omega
    have e4 : t - (p + 4 * (B + 4 * u)) = 2 * (A + 4 * C) := by omega
    have e5 : 2 * (A + 4 * C) / 2 = A + 4 * C := by omega
    have e6 : A + 4 * C - (A + C) = 3 * C := by omega
    have e7 : 3 * C / 3 = C := by omega
    have e8 : A + C - C = A := by omega
    have e9 : u * 2 ^ (2 : Int).toNat = 4 * u := by show u * 2 ^ 2 = _; omega
    have e10 : (B + 4 * u) * 2 ^ (2 : Int).toNat = 4 * (B + 4 * u) := by show (B + 4 * u) * 2 ^ 2 = _; omega
    have b10 : b ≤ 10000 := hb.2
    have len : ∀ {v}, nb b v (l + 8) → (digs b v).length ≤ 7008 := fun h => Nat.le_trans (h.len hb) (by omega)
    have lp := hp.le hb (show l ≤ l + 8 by omega)
    have lu := hu.le hb (show l ≤ l + 8 by omega)
    have lessG : ∀ (x y z : Int) (Q : D → DWd.W → Prop) (E : AX DWd) (ω : DWd.W), nb b x (l + 8) → nb b y (l + 8) → y ≤ x → x - y = z → Q (row (digs b z)) ω → aLess [row (digs b x), row (digs b y), .int b] ω Q E := fun x y z Q E ω hx hy h e q => ⟨_, _, _, rfl, hb, hx.is hb, hy.is hb, by have := len hx; omega, by rw [hx.w hb, hy.w hb]; exact h, by rw [hx.w hb, hy.w hb, e]; exact q⟩
    have sumG : ∀ (x y z : Int) (Q : D → DWd.W → Prop) (E : AX DWd) (ω : DWd.W), nb b x (l + 8) → nb b y (l + 8) → x + y = z → Q (row (digs b z)) ω → aSummed [row (digs b x), row (digs b y), .int b] ω Q E := fun x y z Q E ω hx hy e q => ⟨_, _, _, rfl, hb, hx.is hb, hy.is hb, by have := len hx; omega, by have := len hy; omega, by rw [hx.w hb, hy.w hb, e]; exact q⟩
    have partG : ∀ (x f z : Int) (Q : D → DWd.W → Prop) (E : AX DWd) (ω : DWd.W), nb b x (l + 8) → 1 ≤ f → f ≤ 10 → x / f = z → Q (row (digs b z)) ω → aPartOf [row (digs b x), .int f, .int b] ω Q E := fun x f z Q E ω hx h1 h2 e q => ⟨_, _, _, _, rfl, hb, hx, by omega, h1, h2, by rw [e]; exact q⟩
    have dblG : ∀ (x z : Int) (Q : D → DWd.W → Prop) (E : AX DWd) (ω : DWd.W), nb b x (l + 8) → x * 2 ^ (2 : Int).toNat = z → Q (row (digs b z)) ω → aDoubled [row (digs b x), .int 2, .int b] ω Q E := fun x z Q E ω hx e q => ⟨_, _, _, _, rfl, hb, hx, by omega, by omega, by omega, by rw [e]; exact q⟩
    show sSeq _ _ _ _ _
    refine seq_opq fun N hN => ?_
    erw []
    show N _ _
    rw [hN]
    clear hN
    show sSeq _ _ _ _ _
    refine seq_opq fun N hN => ?_
    erw []
    refine lessG q s _ _ _ _ nq ns sq rfl ?_
    refine sumG q s _ _ _ _ nq ns rfl ?_
    show N _ _
    rw [hN]
    clear hN
    show sSeq _ _ _ _ _
    refine seq_opq fun N hN => ?_
    erw []
    have fin : N [some (.d (.tup [row (digs b p), row (digs b q), row (digs b s), row (digs b t), row (digs b u)])), some (.d (.bl tn)), some (.d (.int b)), some (.d (row (digs b p))), some (.d (row (digs b q))), some (.d (row (digs b s))), some (.d (row (digs b t))), some (.d (row (digs b u))), some (.d (row (digs b (2 * (p + B + u))))), some (.d (row (digs b (2 * (A + C))))), none, none, none, none, none] ω := by
      show N _ _
      rw [hN]
      clear hN
      show sSeq _ _ _ _ _
      refine seq_opq fun N hN => ?_
      erw []
      refine partG _ _ _ _ _ _ nhigh (by decide) (by decide) e1 ?_
      show N _ _
      rw [hN]
      clear hN
      show sSeq _ _ _ _ _
      refine seq_opq fun N hN => ?_
      erw []
      refine partG _ _ _ _ _ _ nlow (by decide) (by decide) e2 ?_
      refine sumG _ _ _ _ _ _ lp lu rfl ?_
      refine lessG _ _ _ _ _ _ neven npu (by omega) e3 ?_
      show N _ _
      rw [hN]
      clear hN
      show sSeq _ _ _ _ _
      refine seq_opq fun N hN => ?_
      erw []
      refine dblG _ _ _ _ _ lu e9 ?_
      refine sumG _ _ _ _ _ _ nB n4' rfl ?_
      refine dblG _ _ _ _ _ n4 e10 ?_
      refine sumG _ _ _ _ _ _ lp n16 rfl ?_
      show N _ _
      rw [hN]
      clear hN
      show sSeq _ _ _ _ _
      refine seq_opq fun N hN => ?_
      erw []
      refine lessG _ _ _ _ _ _ nt nless (by omega) e4 ?_
      refine partG _ _ _ _ _ _ naw2 (by decide) (by decide) e5 ?_
      show N _ _
      rw [hN]
      clear hN
      show sSeq _ _ _ _ _
      refine seq_opq fun N hN => ?_
      erw []
      refine lessG _ _ _ _ _ _ naw nodd (by omega) e6 ?_
      refine partG _ _ _ _ _ _ n3 (by decide) (by decide) e7 ?_
      show N _ _
      rw [hN]
      clear hN
      erw []
      refine lessG _ _ _ _ _ _ nodd nC (by omega) e8 ?_
      exact Q0
    cases tn
    · obtain ⟨f1, f2⟩ := hlow.2 rfl
      rw [if_pos rfl, f1, f2]
      exact fin
    · obtain ⟨f1, f2⟩ := hlow.1 rfl
      rw [if_neg (by decide), f1, f2]
      exact fin
  refine ⟨fd, ⟨t.g_middles_of, F.kp, ok⟩, ?_⟩
  · refine bnd_of F 2 ["base"] [] [0, 1, 2] [] (by simp) rfl ?_
    intro kV doc pm an cdv ct D us mv ws h1 h2 h3 h4
    match us, mv, ws, h1, h2, h3 with
    | [u0, u1], [], [v0], _, _, _ => exact rfl
def aSpare : ASp DWd := fun ds ω Q _ => ∃ b, ds = [.int b] ∧ 2 ≤ b ∧ b ≤ 20000 ∧ Q (.int (spr b)) ω
theorem kn_spare_of (t : T w K mg) : ∃ fd, Known PR w K mg base 1 "spare_of" (He.ga K "spare_of") fd ["base"] DWd 1 aSpare ∧ Bnd K fd ["base"] 1 [] [0] [] := by
  obtain ⟨fd, F⟩ := t.f_spare_of
  have ok : FnG PR w K mg base (L2.CX PR w) 1 (He.ga K "spare_of") fd ["base"] (toSp DWd K 1 aSpare) := by
    refine fn_ok (N := n_spare_of) DWd aSpare F S_spare_of fun cdv A outer s H E hr hG => ?_
    have S := S_spare_of
    refine ⟨_, (gss_cons (gs_set 1 S.nd ge_int)
      (gss_cons (gs_set 2 S.nd (ge_var 0))
      (gss_cons (gs_while po_cx (gt_cmp (m_lt (un0 hr)) op2_lt (nomark _) (ge_var 2) (ge_gint t.i_GREATEST_TIMES))
      (gss_cons (gs_set 2 S.nd (ge_mul (ge_var 2) (ge_var 0)))
      (gss_one (gs_aug 1 S.nd ip_add op2_addI ge_int))))
      (gss_one (gs_ret (ge_var 1)))))), ?_⟩
    clear S hr hG F t
    rintro ds ω Qa Ea ⟨b, rfl, b2, bM, q⟩ _
    obtain ⟨Jv, hJv⟩ : ∃ Jv : Nat → AEnv → DWd.W → Prop, ∀ s ρ ω', Jv s ρ ω' ↔ (ω' = ω ∧ ∃ (n pw : Int), ρ = [some (.d (.int b)), some (.d (.int n)), some (.d (.int pw))] ∧ s = (3 - n).toNat ∧ (n = 1 ∧ pw = b ∨ n = 2 ∧ pw = b * b ∧ b < 7 ∨ n = 3 ∧ pw = 8 ∧ b = 2)) := ⟨_, fun _ _ _ => Iff.rfl⟩
    show sSeq _ _ _ _ _
    refine seq_opq fun N hN => ?_
    erw []
    show N _ _
    rw [hN]
    clear hN
    show sSeq _ _ _ _ _
    refine seq_opq fun N hN => ?_
    erw []
    show N _ _
    rw [hN]
    clear hN
    show sSeq _ _ _ _ _
    refine seq_opq fun N hN => ?_
    erw []
    refine ⟨Jv, ⟨_, (hJv _ _ _).mpr ⟨rfl, 1, b, rfl, rfl, .inl ⟨rfl, rfl⟩⟩⟩, fun s ρ ω' hv => ?_⟩
    replace hv := (hJv _ _ _).mp hv
    obtain ⟨rfl, n, pw, rfl, rfl, h⟩ := hv
    have bb : b < 7 → b * b < 49 := fun h => by
      have := Int.mul_le_mul (by omega : b ≤ 6) (by omega : b ≤ 6) (by omega) (by decide)
      omega
    have bb2 : 4 ≤ b * b := by
      have := Int.mul_le_mul (by omega : 2 ≤ b) (by omega : 2 ≤ b) (by decide) (by omega)
      omega
    have bb3 : 3 ≤ b → 9 ≤ b * b := fun h => by
      have := Int.mul_le_mul h h (by decide) (by omega)
      omega
    by_cases z : pw < 7
    · have mk : CMulW pw b := mulw 60 60 (by omega) (by omega) (by omega) (by omega) (by decide) (by decide) (by decide)
      have st : Jv (3 - (n + 1)).toNat [some (.d (.int b)), some (.d (.int (n + 1))), some (.d (.int (pw * b)))] ω' := by
        refine (hJv _ _ _).mpr ⟨rfl, _, _, rfl, rfl, ?_⟩
        rcases h with ⟨rfl, rfl⟩ | ⟨rfl, rfl, h⟩ | ⟨rfl, rfl, h⟩
        · exact .inr (.inl ⟨rfl, rfl, z⟩)
        · refine .inr (.inr ⟨rfl, ?_, ?_⟩)
          · have : b = 2 := by
              by_cases c : 3 ≤ b
              · have := bb3 c; omega
              · omega
            subst this
            decide
          · by_cases c : 3 ≤ b
            · have := bb3 c; omega
            · omega
        · omega
      have lt : (3 - (n + 1)).toNat < (3 - n).toNat := by omega
      erw [z, mk]
      exact ⟨_, lt, st⟩
    · have e : spr b = n := by
        unfold spr
        rcases h with ⟨rfl, rfl⟩ | ⟨rfl, rfl, h⟩ | ⟨rfl, rfl, h⟩
        · rw [if_pos (by omega)]
        · rw [if_neg (by omega), if_neg (by rintro rfl; omega)]
        · rw [if_neg (by omega), if_pos h]
      rw [e] at q
      erw [z]
      show N _ _
      rw [hN]
      clear hN
      erw []
      exact q
  refine ⟨fd, ⟨t.g_spare_of, F.kp, ok⟩, ?_⟩
  · refine bnd_of F 1 [] [] [0] [] (by simp) rfl ?_
    intro kV doc pm an cdv ct D us mv ws h1 h2 h3 h4
    match us, mv, ws, h1, h2, h3 with
    | [u0], [], [], _, _, _ => exact rfl
def aAtPoints : ASp DWd := fun ds ω Q _ => ∃ x h b l, ds = [row (digs b x), .int h, .int b] ∧ base_ b ∧ nb b x l ∧ l ≤ 7000 ∧ 0 ≤ h ∧ Q (.tup [.tup ((fives (b ^ h.toNat) x).map fun y => row (digs b y)), .bl (decide (x % b ^ h.toNat - x / b ^ h.toNat % b ^ h.toNat + x / b ^ h.toNat / b ^ h.toNat < 0))]) ω
theorem kn_at_points (t : T w K mg) : ∃ fd, Known PR w K mg base 4 "at_points" (He.ga K "at_points") fd ["row", "h", "base"] DWd 3 aAtPoints ∧ Bnd K fd ["row", "h", "base"] 2 ["base"] [0, 1, 2] [] := by
  obtain ⟨fd, F⟩ := t.f_at_points
  obtain ⟨fd_cut_at, k_cut_at, b_cut_at_0⟩ := kn_cut_at (w := w) (base := base) t
  obtain ⟨fd_summed, k_summed, b_summed_0⟩ := kn_summed (w := w) (base := base) t
  obtain ⟨fd_is_less, k_is_less, b_is_less_0⟩ := kn_is_less (w := w) (base := base) t
  obtain ⟨fd_doubled, k_doubled, b_doubled_0⟩ := kn_doubled (w := w) (base := base) t
  obtain ⟨fd_lessened, k_lessened, b_lessened_0⟩ := kn_lessened (w := w) (base := base) t
  have ok : FnG PR w K mg base (L2.CX PR w) 4 (He.ga K "at_points") fd ["row", "h", "base"] (toSp DWd K 3 aAtPoints) := by
    refine fn_ok (N := n_at_points) DWd aAtPoints F S_at_points fun cdv A outer s H E hr hG => ?_
    have S := S_at_points
    refine ⟨_, (gss_cons (gs_asg (ge_call1 k_cut_at (Room.mono hr (by decide)) hG tk_cx b_cut_at_0 (fun B => .nil) (ga_cons (ge_var 0) (ga_cons (ge_var 1) ga_nil))) (gg_tup rfl (ggs_cons (gg_name 3 S.nd) (ggs_cons (gg_name 4 S.nd) ggs_nil)) (AL.len (al_cons aex_name (al_cons aex_name al_nil)))))
      (gss_cons (gs_asg (ge_call1 k_cut_at (Room.mono hr (by decide)) hG tk_cx b_cut_at_0 (fun B => .nil) (ga_cons (ge_var 4) (ga_cons (ge_var 1) ga_nil))) (gg_tup rfl (ggs_cons (gg_name 5 S.nd) (ggs_cons (gg_name 6 S.nd) ggs_nil)) (AL.len (al_cons aex_name (al_cons aex_name al_nil)))))
      (gss_cons (gs_set 7 S.nd (ge_call2 k_summed (Room.mono hr (by decide)) hG tk_cx b_summed_0 (fun B => .nil) (ga_cons (ge_var 3) (ga_cons (ge_var 6) ga_nil)) (gk_cons (ge_var 2) gk_nil)))
      (gss_cons (gs_set 8 S.nd (ge_call1 k_is_less (Room.mono hr (by decide)) hG tk_cx b_is_less_0 (fun B => .nil) (ga_cons (ge_var 7) (ga_cons (ge_var 5) ga_nil))))
      (gss_cons (gs_if (gt_tru (ge_var 8))
      (gss_one (gs_set 9 S.nd (ge_call2 k_lessened (Room.mono hr (by decide)) hG tk_cx b_lessened_0 (fun B => .nil) (ga_cons (ge_var 5) (ga_cons (ge_var 7) ga_nil)) (gk_cons (ge_var 2) gk_nil))))
      (gss_one (gs_set 9 S.nd (ge_call2 k_lessened (Room.mono hr (by decide)) hG tk_cx b_lessened_0 (fun B => .nil) (ga_cons (ge_var 7) (ga_cons (ge_var 5) ga_nil)) (gk_cons (ge_var 2) gk_nil)))))
      (gss_cons (gs_set 10 S.nd (ge_call2 k_doubled (Room.mono hr (by decide)) hG tk_cx b_doubled_0 (fun B => .nil) (ga_cons (ge_call2 k_summed (Room.mono hr (by decide)) hG tk_cx b_summed_0 (fun B => .nil) (ga_cons (ge_var 5) (ga_cons (ge_call2 k_doubled (Room.mono hr (by decide)) hG tk_cx b_doubled_0 (fun B => .nil) (ga_cons (ge_var 6) (ga_cons ge_int ga_nil)) (gk_cons (ge_var 2) gk_nil)) ga_nil)) (gk_cons (ge_var 2) gk_nil)) (ga_cons ge_int ga_nil)) (gk_cons (ge_var 2) gk_nil)))
      (gss_one (gs_ret (ge_tup (ga_cons (ge_tup (ga_cons (ge_var 3) (ga_cons (ge_call2 k_summed (Room.mono hr (by decide)) hG tk_cx b_summed_0 (fun B => .nil) (ga_cons (ge_var 7) (ga_cons (ge_var 5) ga_nil)) (gk_cons (ge_var 2) gk_nil)) (ga_cons (ge_var 9) (ga_cons (ge_call2 k_summed (Room.mono hr (by decide)) hG tk_cx b_summed_0 (fun B => .nil) (ga_cons (ge_var 3) (ga_cons (ge_var 10) ga_nil)) (gk_cons (ge_var 2) gk_nil)) (ga_cons (ge_var 6) ga_nil)))))) (ga_cons (ge_var 8) ga_nil))))))))))), ?_⟩
    clear S hr hG F t k_cut_at b_cut_at_0 k_summed b_summed_0 k_is_less b_is_less_0 k_doubled b_doubled_0 k_lessened b_lessened_0
    rintro ds ω Qa Ea ⟨x, h, b, l, rfl, hb, hx, hl, h0, q⟩ _
    have b0 := hx.mod hb h.toNat
    have b3 := hx.div hb h.toNat
    have b1 := b3.mod hb h.toNat
    have b2 := b3.div hb h.toNat
    show sSeq _ _ _ _ _
    refine seq_opq fun N hN => ?_
    erw [aCut]
    rw [hx.low hb, hx.high hb]
    refine ⟨h0, ?_⟩
    show N _ _
    rw [hN]
    clear hN
    show sSeq _ _ _ _ _
    refine seq_opq fun N hN => ?_
    erw [aCut]
    rw [b3.low hb, b3.high hb]
    refine ⟨h0, ?_⟩
    unfold fives at q
    generalize x % b ^ h.toNat = u0 at b0 q ⊢
    generalize x / b ^ h.toNat % b ^ h.toNat = u1 at b1 q ⊢
    generalize x / b ^ h.toNat / b ^ h.toNat = u2 at b2 q ⊢
    have s1 := b0.add b2 hb
    have k0 := b0.len hb
    have k1 := b1.len hb
    have k2 := b2.len hb
    have k3 := s1.len hb
    have b1' := b1.le hb (Nat.le_succ l)
    have k1' := b1'.len hb
    show N _ _
    rw [hN]
    clear hN
    show sSeq _ _ _ _ _
    refine seq_opq fun N hN => ?_
    erw [aSummed, b0.w hb, b2.w hb]
    refine ⟨hb, b0.is hb, b2.is hb, by omega, by omega, ?_⟩
    show N _ _
    rw [hN]
    clear hN
    show sSeq _ _ _ _ _
    refine seq_opq fun N hN => ?_
    erw [aIsLess]
    refine ⟨b, hb.1, s1.is hb, b1.is hb, ?_⟩
    rw [s1.w hb, b1.w hb]
    have e3 : decide (u0 + u2 < u1) = decide (u0 - u1 + u2 < 0) := decide_eq_decide.mpr (by omega)
    have c1 := b1.add b2 hb
    have c2 := c1.add c1 hb
    have d1 := b2.add b2 hb
    have d2 := b1.le hb (Nat.le_succ l)
    have d3 := d1.add d2 hb
    show N _ _
    rw [hN]
    clear hN
    show sSeq _ _ _ _ _
    refine seq_opq fun N hN => ?_
    erw [aLess]
    have fin : N [some (.d (row (digs b x))), some (.d (.int h)), some (.d (.int b)), some (.d (row (digs b u0))), some (.d (row (digs b (x / b ^ h.toNat)))), some (.d (row (digs b u1))), some (.d (row (digs b u2))), some (.d (row (digs b (u0 + u2)))), some (.d (.bl (decide (u0 + u2 < u1)))), some (.d (row (digs b (ab (u0 - u1 + u2))))), none] ω := by
      show N _ _
      rw [hN]
      clear hN
      show sSeq _ _ _ _ _
      refine seq_opq fun N hN => ?_
      erw [aDoubled, aSummed, b1.w hb]
      have e1 : u2 * 2 ^ (1 : Int).toNat = u2 + u2 := by show u2 * 2 ^ 1 = _; omega
      have kd := d1.len hb
      have kd3 := d3.len hb
      have c3 := (d3.add d3 hb)
      have kc3 := c3.len hb
      refine ⟨u2, 1, b, rfl, rfl, rfl, hb, l, b2, by omega, by omega, by omega, ?_⟩
      rw [e1, d1.w hb]
      refine ⟨hb, b1.is hb, d1.is hb, by omega, by omega, u1 + (u2 + u2), 1, b, rfl, rfl, rfl, hb, l + 1 + 1, by rw [Int.add_comm]; exact d3, by omega, by omega, by omega, ?_⟩
      have e2 : (u1 + (u2 + u2)) * 2 ^ (1 : Int).toNat = u2 + u2 + u1 + (u2 + u2 + u1) := by show (u1 + (u2 + u2)) * 2 ^ 1 = _; omega
      rw [e2]
      have kk := b0.le hb (show l ≤ l + 1 + 1 + 1 by omega)
      show N _ _
      rw [hN]
      clear hN
      erw [aSummed, s1.w hb, b1.w hb, b0.w hb, c3.w hb]
      refine ⟨hb, s1.is hb, b1.is hb, by omega, by omega, hb, b0.is hb, c3.is hb, by omega, by omega, ?_⟩
      rw [show u0 + u2 + u1 = u0 + u1 + u2 by omega, show u0 + (u2 + u2 + u1 + (u2 + u2 + u1)) = u0 + 2 * u1 + 4 * u2 by omega, e3]
      exact q
    rw [s1.w hb, b1.w hb]
    by_cases c : u0 + u2 < u1
    · rw [if_pos c]
      refine ⟨hb, b1.is hb, s1.is hb, by omega, by omega, ?_⟩
      rw [show u1 - (u0 + u2) = ab (u0 - u1 + u2) by unfold ab; omega]
      exact fin
    · rw [if_neg c]
      refine ⟨hb, s1.is hb, b1.is hb, by omega, by omega, ?_⟩
      rw [show u0 + u2 - u1 = ab (u0 - u1 + u2) by unfold ab; omega]
      exact fin
  refine ⟨fd, ⟨t.g_at_points, F.kp, ok⟩, ?_⟩
  · refine bnd_of F 2 ["base"] [] [0, 1, 2] [] (by simp) rfl ?_
    intro kV doc pm an cdv ct D us mv ws h1 h2 h3 h4
    match us, mv, ws, h1, h2, h3 with
    | [u0, u1], [], [v0], _, _, _ => exact rfl
theorem kn_by_thirds (t : T w K mg) (kc : Nat) (hkc : 4 ≤ kc) : ∃ fd, KnownC PR w K mg base (kc + 1) "by_thirds" (He.ga K "by_thirds") fd ["one", "other", "many", "deal", "base"] 3 (TWd (tlOf K xs_)) aByThirds kc 3 cDeal ∧ Bnd K fd ["one", "other", "many", "deal", "base"] 4 ["base"] [0, 1, 2, 3, 4] [] := by
  obtain ⟨fd, F⟩ := t.f_by_thirds
  have ok : FnC PR w K mg base (kc + 1) (He.ga K "by_thirds") fd ["one", "other", "many", "deal", "base"] 3 (TWd (tlOf K xs_)) aByThirds kc 3 cDeal := by
    refine fn_okC (wd := TWd (tlOf K xs_)) (N := n_by_thirds) aByThirds cDeal F S_by_thirds fun cdv hcd base1 up A outer s H E hr hG θ r So B0 hat hrun => ?_
    obtain ⟨fd_third_of, k_third_of, b_third_of_0⟩ := kn_third_of (w := w) (base := base1) t
    replace k_third_of := (k_third_of.liftT (tlOf K xs_)).liftB B0
    obtain ⟨fd_middles_of, k_middles_of, b_middles_of_0⟩ := kn_middles_of (w := w) (base := base1) t
    replace k_middles_of := (k_middles_of.liftT (tlOf K xs_)).liftB B0
    obtain ⟨fd_spare_of, k_spare_of, b_spare_of_0⟩ := kn_spare_of (w := w) (base := base1) t
    replace k_spare_of := (k_spare_of.liftT (tlOf K xs_)).liftB B0
    obtain ⟨fd_at_points, k_at_points, b_at_points_0⟩ := kn_at_points (w := w) (base := base1) t
    replace k_at_points := (k_at_points.liftT (tlOf K xs_)).liftB B0
    obtain ⟨fd_summed, k_summed, b_summed_0⟩ := kn_summed (w := w) (base := base1) t
    replace k_summed := (k_summed.liftT (tlOf K xs_)).liftB B0
    obtain ⟨fd_shifted, k_shifted, b_shifted_0⟩ := kn_shifted (w := w) (base := base1) t
    replace k_shifted := (k_shifted.liftT (tlOf K xs_)).liftB B0
    have S := S_by_thirds
    refine ⟨_, (gss_cons (gs_set 5 S.nd (ge_call1 k_third_of (Room.mono hr (by omega)) hG tk_cx b_third_of_0 (fun B => .nil) (ga_cons (ge_var 2) ga_nil)))
      (gss_cons (gs_set 6 S.nd (ge_add (ge_var 5) (ge_call1 k_spare_of (Room.mono hr (by omega)) hG tk_cx b_spare_of_0 (fun B => .nil) (ga_cons (ge_var 4) ga_nil))))
      (gss_cons (gs_asg (ge_tup (ga_cons (ge_call2 k_at_points (Room.mono hr (by omega)) hG tk_cx b_at_points_0 (fun B => .nil) (ga_cons (ge_var 0) (ga_cons (ge_var 5) ga_nil)) (gk_cons (ge_var 4) gk_nil)) (ga_cons (ge_call2 k_at_points (Room.mono hr (by omega)) hG tk_cx b_at_points_0 (fun B => .nil) (ga_cons (ge_var 1) (ga_cons (ge_var 5) ga_nil)) (gk_cons (ge_var 4) gk_nil)) ga_nil))) (gg_tup rfl (ggs_cons (gg_tup rfl (ggs_cons (gg_name 7 S.nd) (ggs_cons (gg_name 8 S.nd) ggs_nil)) (AL.len (al_cons aex_name (al_cons aex_name al_nil)))) (ggs_cons (gg_tup rfl (ggs_cons (gg_name 9 S.nd) (ggs_cons (gg_name 10 S.nd) ggs_nil)) (AL.len (al_cons aex_name (al_cons aex_name al_nil)))) ggs_nil)) (AL.len (al_cons (aex_tup (al_cons aex_name (al_cons aex_name al_nil))) (al_cons (aex_tup (al_cons aex_name (al_cons aex_name al_nil))) al_nil)))))
      (gss_cons (gs_set 11 S.nd (ge_tup (ga_cons (ge_var 5) (ga_cons (ge_var 6) (ga_cons (ge_var 6) (ga_cons (ge_var 6) (ga_cons (ge_sub (ge_var 2) (ge_mul ge_int (ge_var 5))) ga_nil)))))))
      (gss_cons (gs_set 12 S.nd (ge_ty call_tuple_of c_tuple t.z_tuple (ga_cons (GF.ge (gf_compG rfl S.nd (gi_zip3 t.z_zip (ge_var 7) (ge_var 9) (ge_var 11)) (blkOk_by (own := [("x", 13), ("y", 14), ("limbs", 15)]) rfl) (fun s2 H2 C2 cl2 fp2 => (gc_tup K rfl (gcs_cons (gc_name 13 S.nd) (gcs_cons (gc_name 14 S.nd) (gcs_cons (gc_name 15 S.nd) gcs_nil))) (AL.len (al_cons aex_name (al_cons aex_name (al_cons aex_name al_nil)))))) (fun s2 H2 C2 cl2 fp2 => gts_nil) (fun s2 H2 C2 cl2 fp2 => (ge_callC 3 hat hrun hr (by omega) hG takes0 (ga_cons (ge_var 13) (ga_cons (ge_var 14) (ga_cons (ge_var 15) ga_nil))))))) ga_nil)))
      (gss_cons (gs_set 16 S.nd (ge_ty call_tuple_of c_tuple t.z_tuple (ga_cons (GF.ge (gf_comp rfl S.nd (ge_var 12) (blkOk_by (own := [("row", 17), ("paper", 18)]) rfl) (fun s2 H2 C2 cl2 fp2 => (gc_tup K rfl (gcs_cons (gc_name 17 S.nd) (gcs_cons (gc_name 18 S.nd) gcs_nil)) (AL.len (al_cons aex_name (al_cons aex_name al_nil))))) (fun s2 H2 C2 cl2 fp2 => gts_nil) (fun s2 H2 C2 cl2 fp2 => (ge_var 17)))) ga_nil)))
      (gss_cons (gs_set 19 S.nd (ge_call2 k_middles_of (Room.mono hr (by omega)) hG tk_cx b_middles_of_0 (fun B => .nil) (ga_cons (ge_var 16) (ga_cons (ge_cmp (m_ne (un64 hr)) op2_ne (nomark _) (ge_var 8) (ge_var 10)) ga_nil)) (gk_cons (ge_var 4) gk_nil)))
      (gss_cons (gs_asg (ge_var 19) (gg_tup rfl (ggs_cons (gg_name 20 S.nd) (ggs_cons (gg_name 21 S.nd) (ggs_cons (gg_name 22 S.nd) ggs_nil))) (AL.len (al_cons aex_name (al_cons aex_name (al_cons aex_name al_nil))))))
      (gss_cons (gs_set 23 S.nd (ge_ix (ge_var 16) ge_int))
      (gss_cons (gs_for po_cx rfl (ge_tup (ga_cons (ge_var 22) (ga_cons (ge_var 21) (ga_cons (ge_var 20) (ga_cons (ge_ix (ge_var 16) ge_int) ga_nil))))) (gg_name 17 S.nd)
      (gss_one (gs_set 23 S.nd (ge_call2 k_summed (Room.mono hr (by omega)) hG tk_cx b_summed_0 (fun B => .nil) (ga_cons (ge_call1 k_shifted (Room.mono hr (by omega)) hG tk_cx b_shifted_0 (fun B => .nil) (ga_cons (ge_var 23) (ga_cons (ge_var 5) ga_nil))) (ga_cons (ge_var 17) ga_nil)) (gk_cons (ge_var 4) gk_nil)))))
      (gss_one (gs_ret (ge_tup (ga_cons (ge_var 23) (ga_cons (ge_tup (ga_cons ge_str (ga_cons (ge_var 5) (ga_cons (ge_var 12) (ga_cons (ge_var 19) ga_nil))))) ga_nil))))))))))))))), ?_⟩
    clear S hr hG hat hrun k_third_of b_third_of_0 k_middles_of b_middles_of_0 k_spare_of b_spare_of_0 k_at_points b_at_points_0 k_summed b_summed_0 k_shifted b_shifted_0
    rintro ds ω Qa Ea ⟨x, y, r', e, hb, hg, hn, hx, hy, q⟩ hr3 _
    subst e
    obtain ⟨b, n, pap⟩ := θ
    simp only at hb hg hn hx hy q
    have er : r' = r := D.adr.inj (Option.some.inj hr3)
    subst er
    obtain ⟨a0, a1, a2, a3, a4, a5⟩ := thd_go hg
    have sp := spr_pos b
    have s3 : spr b ≤ 3 := by unfold spr; split <;> (try split) <;> omega
    have b1 := hb.1
    have b2 := hb.2
    obtain ⟨h, hh⟩ : ∃ h, h = thd n := ⟨_, rfl⟩
    have h3 : n ≤ 3 * h := by rw [hh]; unfold thd; omega
    have h4 : 1 ≤ n - 2 * h := by rw [hh]; unfold thd; omega
    have x0 : nb b (x % b ^ h.toNat) h.toNat := nb.modk hb _
    have x1 : nb b (x / b ^ h.toNat % b ^ h.toNat) h.toNat := nb.modk hb _
    have x2 : nb b (x / b ^ h.toNat / b ^ h.toNat) (n - 2 * h).toNat := nb_top hb (nb_top hb hx (show n.toNat ≤ h.toNat + (n - h).toNat by omega)) (by omega)
    have y0 : nb b (y % b ^ h.toNat) h.toNat := nb.modk hb _
    have y1 : nb b (y / b ^ h.toNat % b ^ h.toNat) h.toNat := nb.modk hb _
    have y2 : nb b (y / b ^ h.toNat / b ^ h.toNat) (n - 2 * h).toNat := nb_top hb (nb_top hb hy (show n.toNat ≤ h.toNat + (n - h).toNat by omega)) (by omega)
    unfold papT dealt at q
    rw [← hh] at q
    show sSeq _ _ _ _ _
    refine seq_opq fun N hN => ?_
    erw [aThird]
    refine ⟨by omega, by omega, ?_⟩
    rw [← hh]
    show N _ _
    rw [hN]
    clear hN
    show sSeq _ _ _ _ _
    refine seq_opq fun N hN => ?_
    erw [aSpare]
    refine ⟨by omega, by omega, ?_⟩
    show N _ _
    rw [hN]
    clear hN
    show sSeq _ _ _ _ _
    refine seq_opq fun N hN => ?_
    erw [aAtPoints]
    refine ⟨x, h, b, rfl, rfl, rfl, hb, n.toNat, hx, by omega, by omega, y, h, b, rfl, rfl, rfl, hb, n.toNat, hy, by omega, by omega, ?_⟩
    unfold fives
    have tot := thirds_total (x := x) (y := y) (F := b ^ h.toNat)
    generalize hF : b ^ h.toNat = F at *
    generalize x % F = u0 at *
    generalize x / F % F = u1 at *
    generalize x / F / F = u2 at *
    generalize y % F = v0 at *
    generalize y / F % F = v1 at *
    generalize y / F / F = v2 at *
    have x2' := x2.le hb (show (n - 2 * h).toNat ≤ h.toNat by omega)
    have y2' := y2.le hb (show (n - 2 * h).toNat ≤ h.toNat by omega)
    obtain ⟨w1, w2, w3⟩ : nb b (u0 + u1 + u2) (h + spr b).toNat ∧ nb b (ab (u0 - u1 + u2)) (h + spr b).toNat ∧ nb b (u0 + 2 * u1 + 4 * u2) (h + spr b).toNat := by
      have p0 := x0.nn
      have p1 := x1.nn
      have p2 := x2.nn
      have q0 := x0.lt
      have q1 := x1.lt
      have q2 := x2'.lt
      rw [hF] at q0 q1 q2
      refine ⟨nb_wide hb (by omega) (by omega) (by rw [hF]; omega), nb_wide hb (by omega) (ab_nn _) (by rw [hF]; unfold ab; omega), nb_wide hb (by omega) (by omega) (by rw [hF]; omega)⟩
    obtain ⟨w1', w2', w3'⟩ : nb b (v0 + v1 + v2) (h + spr b).toNat ∧ nb b (ab (v0 - v1 + v2)) (h + spr b).toNat ∧ nb b (v0 + 2 * v1 + 4 * v2) (h + spr b).toNat := by
      have p0 := y0.nn
      have p1 := y1.nn
      have p2 := y2.nn
      have q0 := y0.lt
      have q1 := y1.lt
      have q2 := y2'.lt
      rw [hF] at q0 q1 q2
      refine ⟨nb_wide hb (by omega) (by omega) (by rw [hF]; omega), nb_wide hb (by omega) (ab_nn _) (by rw [hF]; unfold ab; omega), nb_wide hb (by omega) (by omega) (by rw [hF]; omega)⟩
    have m2 : CMulW 2 h := mulw 10 20 (by decide) (by decide) (by omega) (by omega) (by decide) (by decide) (by decide)
    show N _ _
    rw [hN]
    clear hN
    show sSeq _ _ _ _ _
    refine seq_opq fun N hN => ?_
    erw [m2]
    show N _ _
    rw [hN]
    clear hN
    show sSeq _ _ _ _ _
    refine seq_opq fun N hN => ?_
    erw []
    have items : ∀ (i : Nat) (d : D), (zip3D [row (digs b u0), row (digs b (u0 + u1 + u2)), row (digs b (ab (u0 - u1 + u2))), row (digs b (u0 + 2 * u1 + 4 * u2)), row (digs b u2)]
          [row (digs b v0), row (digs b (v0 + v1 + v2)), row (digs b (ab (v0 - v1 + v2))), row (digs b (v0 + 2 * v1 + 4 * v2)), row (digs b v2)]
          [D.int h, D.int (h + spr b), D.int (h + spr b), D.int (h + spr b), D.int (n - 2 * h)])[i]? = some d →
        ∃ u v k, d = .tup [row (digs b u), row (digs b v), .int k] ∧ 1 ≤ k ∧ k < n ∧ nb b u k.toNat ∧ nb b v k.toNat ∧
          [D.tup [row (digs b (u0 * v0)), pap h u0 v0], D.tup [row (digs b ((u0 + u1 + u2) * (v0 + v1 + v2))), pap (h + spr b) (u0 + u1 + u2) (v0 + v1 + v2)], D.tup [row (digs b (ab (u0 - u1 + u2) * ab (v0 - v1 + v2))), pap (h + spr b) (ab (u0 - u1 + u2)) (ab (v0 - v1 + v2))], D.tup [row (digs b ((u0 + 2 * u1 + 4 * u2) * (v0 + 2 * v1 + 4 * v2))), pap (h + spr b) (u0 + 2 * u1 + 4 * u2) (v0 + 2 * v1 + 4 * v2)], D.tup [row (digs b (u2 * v2)), pap (n - 2 * h) u2 v2]][i]? = some (.tup [row (digs b (u * v)), pap k u v]) := by
      intro i d hd
      match i with
      | 0 => exact ⟨_, _, _, (Option.some.inj hd).symm, by omega, by omega, x0, y0, rfl⟩
      | 1 => exact ⟨_, _, _, (Option.some.inj hd).symm, by omega, by omega, w1, w1', rfl⟩
      | 2 => exact ⟨_, _, _, (Option.some.inj hd).symm, by omega, by omega, w2, w2', rfl⟩
      | 3 => exact ⟨_, _, _, (Option.some.inj hd).symm, by omega, by omega, w3, w3', rfl⟩
      | 4 => exact ⟨_, _, _, (Option.some.inj hd).symm, by omega, by omega, x2, y2, rfl⟩
      | i + 5 => cases hd
    refine comp_rs [D.tup [row (digs b (u0 * v0)), pap h u0 v0], D.tup [row (digs b ((u0 + u1 + u2) * (v0 + v1 + v2))), pap (h + spr b) (u0 + u1 + u2) (v0 + v1 + v2)], D.tup [row (digs b (ab (u0 - u1 + u2) * ab (v0 - v1 + v2))), pap (h + spr b) (ab (u0 - u1 + u2)) (ab (v0 - v1 + v2))], D.tup [row (digs b ((u0 + 2 * u1 + 4 * u2) * (v0 + 2 * v1 + 4 * v2))), pap (h + spr b) (u0 + 2 * u1 + 4 * u2) (v0 + 2 * v1 + 4 * v2)], D.tup [row (digs b (u2 * v2)), pap (n - 2 * h) u2 v2]] rfl (show 5 ≤ 1000000 by decide) ?main (fun i d acc P hd hl hP => ?step)
    case step =>
      obtain ⟨u, v, k, rfl, k0, k1, hu, hv, hr⟩ := items i d hd
      have hP := hP _ hr
      clear items hN hd hr
      simp only [MR.aTup, MR.aCons, MR.aNil, MR.aName]
      erw [cDeal]
      exact ⟨u, rfl, v, rfl, by omega, by omega, hu, hv, hl, rfl, hP⟩
    clear items
    show N _ _
    rw [hN]
    clear hN
    show sSeq _ _ _ _ _
    refine seq_opq fun N hN => ?_
    erw []
    refine comp_rs [row (digs b (u0 * v0)), row (digs b ((u0 + u1 + u2) * (v0 + v1 + v2))), row (digs b (ab (u0 - u1 + u2) * ab (v0 - v1 + v2))), row (digs b ((u0 + 2 * u1 + 4 * u2) * (v0 + 2 * v1 + 4 * v2))), row (digs b (u2 * v2))] rfl (show 5 ≤ 1000000 by decide) ?main2 (fun i d acc P hd hl hP => ?step2)
    case step2 =>
      obtain ⟨z, e, rfl, hr⟩ : ∃ z e, d = .tup [z, e] ∧ [row (digs b (u0 * v0)), row (digs b ((u0 + u1 + u2) * (v0 + v1 + v2))), row (digs b (ab (u0 - u1 + u2) * ab (v0 - v1 + v2))), row (digs b ((u0 + 2 * u1 + 4 * u2) * (v0 + 2 * v1 + 4 * v2))), row (digs b (u2 * v2))][i]? = some z := by
        match i with
        | 0 => exact ⟨_, _, (Option.some.inj hd).symm, rfl⟩
        | 1 => exact ⟨_, _, (Option.some.inj hd).symm, rfl⟩
        | 2 => exact ⟨_, _, (Option.some.inj hd).symm, rfl⟩
        | 3 => exact ⟨_, _, (Option.some.inj hd).symm, rfl⟩
        | 4 => exact ⟨_, _, (Option.some.inj hd).symm, rfl⟩
        | i + 5 => cases hd
      have hP := hP _ hr
      clear hN hd hr
      simp only [MR.aTup, MR.aCons, MR.aNil, MR.aName]
      erw []
      exact ⟨hl, rfl, hP⟩
    obtain ⟨mq, ms, mt⟩ := five_of_mid u0 u1 u2 v0 v1 v2
    have nbX : ∀ {x y : Int}, nb b x h.toNat → nb b y h.toNat → nb b (x * y) (h.toNat + h.toNat + 8) := fun hx hy => (hx.mul hy hb).le hb (by omega)
    have nb2 : ∀ {x y u v : Int}, nb b x h.toNat → nb b y h.toNat → nb b u h.toNat → nb b v h.toNat → nb b (x * y + u * v) (h.toNat + h.toNat + 8) := fun hx hy hu hv => ((hx.mul hy hb).add (hu.mul hv hb) hb).le hb (by omega)
    have nb3 : ∀ {x y u v z w : Int}, nb b x h.toNat → nb b y h.toNat → nb b u h.toNat → nb b v h.toNat → nb b z h.toNat → nb b w h.toNat → nb b (x * y + u * v + z * w) (h.toNat + h.toNat + 8) := fun hx hy hu hv hz hw => (((hx.mul hy hb).add (hu.mul hv hb) hb).add ((hz.mul hw hb).le hb (Nat.le_succ _)) hb).le hb (by omega)
    have kA := nb2 x0 y1 x1 y0
    have kB := nb3 x0 y2' x1 y1 x2' y0
    have kC := nb2 x1 y2' x2' y1
    have kp := nbX x0 y0
    have ku := nbX x2' y2'
    show N _ _
    rw [hN]
    clear hN
    show sSeq _ _ _ _ _
    refine seq_opq fun N hN => ?_
    erw []
    have es' : ∀ A B : Bool, (if (!decide (A = B)) = true then (-1 : Int) else 1) = if A ≠ B then -1 else 1 := by decide
    refine ⟨_, _, _, _, _, _, _, _, b, _, _, rfl, hb, show h.toNat + h.toNat + 8 ≤ 7000 by omega, kp, ku, kA, kB, kC, Int.mul_nonneg (ab_nn _) (ab_nn _), mq, by rw [es']; exact ms, mt, ?_⟩
    clear es' mq ms mt w1 w2 w3 w1' w2' w3'
    show N _ _
    rw [hN]
    clear hN
    show sSeq _ _ _ _ _
    refine seq_opq fun N hN => ?_
    erw []
    show N _ _
    rw [hN]
    clear hN
    show sSeq _ _ _ _ _
    refine seq_opq fun N hN => ?_
    erw []
    have i4 : ∀ d0 d1 d2 d3 d4 : D, atI [d0, d1, d2, d3, d4] 4 = some d4 := fun _ _ _ _ _ => rfl
    have i0 : ∀ d0 d1 d2 d3 d4 : D, atI [d0, d1, d2, d3, d4] 0 = some d0 := fun _ _ _ _ _ => rfl
    erw [i4]
    have loop : ∀ (A B C p u : Int) (e7 e8 e9 e10 e11 e12 e19 : D), nb b A (h.toNat + h.toNat + 8) → nb b B (h.toNat + h.toNat + 8) → nb b C (h.toNat + h.toNat + 8) → nb b p (h.toNat + h.toNat + 8) → nb b u (h.toNat + h.toNat + 8) → p + F * (A + F * (B + F * (C + F * u))) = x * y → Qa (.tup [row (digs b (x * y)), .tup [.str "thirds", .int h, e12, e19]]) ω → ∀ r1 r2 r3 : D,
        N [some (.d (row (digs b x))), some (.d (row (digs b y))), some (.d (.int n)), some (.d (.adr r')), some (.d (.int b)), some (.d (.int h)), some (.d (.int (h + spr b))), some (.d e7), some (.d e8), some (.d e9), some (.d e10), some (.d e11), some (.d e12), none, none, none, some (.d (.tup [row (digs b p), r1, r2, r3, row (digs b u)])), none, none, some (.d e19), some (.d (row (digs b A))), some (.d (row (digs b B))), some (.d (row (digs b C))), some (.d (row (digs b u)))] ω := by
      clear q tot x0 x1 x2 y0 y1 y2 x2' y2' kA kB kC kp ku nbX nb2 nb3
      intro A B C p u e7 e8 e9 e10 e11 e12 e19 nA nB nC np nu et q r1 r2 r3
      have nL : ∀ v ∈ [C, B, A, p], nb b v (h.toNat + h.toNat + 8) := fun v hv => by
        simp only [List.mem_cons, List.not_mem_nil, or_false] at hv
        rcases hv with rfl | rfl | rfl | rfl <;> assumption
      have hnb := hor_nb (h := h.toNat) hb nu nL
      rw [hF] at hnb
      obtain ⟨Jv, hJv⟩ : ∃ Jv : Nat → AEnv → DWd.W → Prop, ∀ i ρ ω', Jv i ρ ω' ↔ (ω' = ω ∧ ∃ e17, ρ = [some (.d (row (digs b x))), some (.d (row (digs b y))), some (.d (.int n)), some (.d (.adr r')), some (.d (.int b)), some (.d (.int h)), some (.d (.int (h + spr b))), some (.d e7), some (.d e8), some (.d e9), some (.d e10), some (.d e11), some (.d e12), none, none, none, some (.d (.tup [row (digs b p), r1, r2, r3, row (digs b u)])), e17, none, some (.d e19), some (.d (row (digs b A))), some (.d (row (digs b B))), some (.d (row (digs b C))), some (.d (row (digs b (hor F u ([C, B, A, p].take i)))))]) := ⟨_, fun _ _ _ => Iff.rfl⟩
      show N _ _
      rw [hN]
      clear hN
      show sSeq _ _ _ _ _
      refine seq_opq fun N hN => ?_
      erw [i0]
      refine ⟨Jv, (hJv _ _ _).mpr ⟨rfl, none, rfl⟩, fun i d ρ ω' hd hv => ?_, fun ρ ω' hv => ?_⟩
      · replace hv := (hJv _ _ _).mp hv
        obtain ⟨rfl, e17, rfl⟩ := hv
        obtain ⟨v, hv, rfl⟩ : ∃ v, [C, B, A, p][i]? = some v ∧ d = row (digs b v) := by
          match i with
          | 0 => exact ⟨_, rfl, (Option.some.inj hd).symm⟩
          | 1 => exact ⟨_, rfl, (Option.some.inj hd).symm⟩
          | 2 => exact ⟨_, rfl, (Option.some.inj hd).symm⟩
          | 3 => exact ⟨_, rfl, (Option.some.inj hd).symm⟩
          | i + 4 => cases hd
        have hi : i < 4 := (List.getElem?_eq_some_iff.mp hv).1
        have z1 := hnb i
        have z2 := hnb (i + 1)
        rw [hor_take hv] at z2
        have z3 := nL v (List.mem_of_getElem? hv)
        have im : i * (h.toNat + 1) ≤ 4 * (h.toNat + 1) := Nat.mul_le_mul_right _ (by omega)
        have im2 : (i + 1) * (h.toNat + 1) ≤ 4 * (h.toNat + 1) := Nat.mul_le_mul_right _ (by omega)
        have z4 := z1.sh hb h.toNat
        have zs := z1.shift hb h.toNat
        rw [hF] at z4 zs
        have l1 := z1.len hb
        have l3 := z3.len hb
        have l4 := z4.len hb
        have et := hor_take (F := F) (u := u) hv
        clear hN hd
        simp only [MR.aName]
        erw [aShifted, zs, aSummed]
        refine ⟨by omega, by omega, by omega, hb, z4.is hb, z3.is hb, by omega, by omega, (hJv _ _ _).mpr ⟨rfl, some (.d (row (digs b v))), ?_⟩⟩
        rw [z4.w hb, z3.w hb, et]
      · replace hv := (hJv _ _ _).mp hv
        obtain ⟨rfl, e17, rfl⟩ := hv
        have e : hor F u ([C, B, A, p].take 4) = x * y := by
          rw [← et]
          show F * (F * (F * (F * u + C) + B) + A) + p = _
          rw [Int.add_comm _ p, Int.add_comm _ A, Int.add_comm _ B, Int.add_comm _ C]
        show N _ _
        rw [hN]
        clear hN
        erw []
        rw [show hor F u [C, B, A, p] = x * y from e]
        exact q
    exact loop _ _ _ _ _ _ _ _ _ _ _ _ kA kB kC kp ku tot q _ _ _
  refine ⟨fd, ⟨t.g_by_thirds, F.kp, ok⟩, ?_⟩
  · refine bnd_of F 4 ["base"] [] [0, 1, 2, 3, 4] [] (by simp) rfl ?_
    intro kV doc pm an cdv ct D us mv ws h1 h2 h3 h4
    match us, mv, ws, h1, h2, h3 with
    | [u0, u1, u2, u3], [], [v0], _, _, _ => exact rfl
theorem kn_carried (t : T w K mg) : ∃ fd, Known PR w K mg base 1 "carried" (He.ga K "carried") fd ["sums", "base"] DWd 2 aCarried ∧ Bnd K fd ["sums", "base"] 2 [] [0, 1] [] := by
  obtain ⟨fd, F⟩ := t.f_carried
  have ok : FnG PR w K mg base (L2.CX PR w) 1 (He.ga K "carried") fd ["sums", "base"] (toSp DWd K 2 aCarried) := by
    refine fn_ok (N := n_carried) DWd aCarried F S_carried fun cdv A outer s H E hr hG => ?_
    have S := S_carried
    refine ⟨_, (gss_cons (gs_own 2 S.nd (gf_lst ga_nil))
      (gss_cons (gs_own 3 S.nd (gf_lst ga_nil))
      (gss_cons (gs_set 4 S.nd ge_int)
      (gss_cons (gs_for po_cx rfl (ge_var 0) (gg_name 5 S.nd)
      (gss_cons (gs_asg (ge_fn call_divmod c_divmod t.z_divmod (ga_cons (ge_add (ge_var 4) (ge_var 5)) (ga_cons (ge_var 1) ga_nil))) (gg_tup rfl (ggs_cons (gg_name 4 S.nd) (ggs_cons (gg_name 6 S.nd) ggs_nil)) (AL.len (al_cons aex_name (al_cons aex_name al_nil)))))
      (gss_cons (gs_app 2 (ge_var 6))
      (gss_one (gs_app 3 (ge_var 4))))))
      (gss_cons (gs_if (gt_cmp op_gt op2_gt (nomark _) (ge_var 4) ge_int)
      (gss_one (gs_app 2 (ge_var 4)))
      gss_nil)
      (gss_frz 3 (gss_frz 2 (gss_one (gs_ret (ge_tup (ga_cons (ge_ty call_tuple_of c_tuple t.z_tuple (ga_cons (ge_var 2) ga_nil)) (ga_cons (ge_ty call_tuple_of c_tuple t.z_tuple (ga_cons (ge_var 3) ga_nil)) ga_nil)))))))))))), ?_⟩
    clear S hr hG F t
    rintro ds ω Qa Ea ⟨ss, b, rfl | rfl, hb, hl, q⟩ _
    · skip
      have hb1 := hb.1
      have hb2 := hb.2
      simp (maxSteps := 2000000) only [MR.sNil, MR.sSeq, MR.sDrop, MR.sRet, MR.sRetN, MR.sBreak, MR.sCont, MR.sIf, MR.sSet, MR.sOwn, MR.sAsg, MR.sPar, MR.sAug, MR.sFrz, MR.sApp, MR.sPut, MR.sExt, MR.aName, MR.aTup, MR.aNil, MR.aCons, MR.frz,
        MR.gVar, MR.gC, MR.gOp, MR.gB, MR.bK, MR.gTru, MR.gNotT, MR.gAndT, MR.gOrT, MR.gAndV, MR.gOrV, MR.gNotV, MR.gIf, MR.gChain, MR.gNil, MR.gCons, MR.gTup, MR.gLst, MR.gFz, MR.gOwn, MR.gAsL, MR.gNo, MR.gPart, MR.gSl, MR.gSlF, MR.gUn, MR.gIxL, MR.gFn, MR.gLenL, MR.gYes,
        MR.fAddI, MR.fSub, MR.fDiv, MR.fMod, MR.fPow, MR.fLe, MR.fGt, MR.fGe, MR.fIs, MR.fIsN, MR.fNeg, MR.fMin, MR.fMax, MR.fDivmod, MR.fSum, MR.fAll, MR.fRepr, MR.fIsi, MR.tyD, MR.dInt, MR.dBool, MR.dTup, MR.dStr, MR.dLst,
        MR.gDkT, MR.gDkS, MR.gDkNe, MR.gDkPop, MR.sDkApp, MR.sDkPut, MR.gScr, MR.sDeck, MR.gCall, MR.sel, MR.sFor, MR.sForR1, MR.sForR2, MR.sWhile, MR.sForE, MR.sAugP, MR.gRepL, MR.gCatL, MR.gComp, MR.gCompR, MR.startA, MR.wipeA, MR.sNever, MR.gNever, MR.tNev, MR.sAsg2, MR.fMulS_str, MR.fIntS_str, MR.sParO, MR.sForG, MR.gCompG, MR.iSeqG, MR.iR1G, MR.iR2G, MR.iR3G, MR.iZipG, MR.iEnumG, MR.iEnumLG, MR.iRevG,
        MR.fTru_bl, MR.fTru_non, MR.fTru_int, MR.fTru_str, MR.fTru_lst, MR.fTru_tup, MR.fAdd_int, MR.fAdd_str, MR.fAdd_tup, MR.fAdd_lst, MR.fMul_int, MR.fMul_tup, MR.fMul_lst, MR.fEq_int, MR.fEq_str, MR.fEq_bl, MR.fEq_tup_tup, MR.fEq_tup_lst, MR.fEq_tup_int, MR.fEq_tup_non, MR.fEq_tup_str, MR.fEq_tup_bl, MR.fEq_lst_tup, MR.fEq_lst_lst, MR.fEq_lst_int, MR.fEq_lst_non, MR.fEq_lst_str, MR.fEq_lst_bl, MR.fEq_int_tup, MR.fEq_int_lst, MR.fEq_int_non, MR.fEq_int_str, MR.fEq_int_bl, MR.fEq_non_tup, MR.fEq_non_lst, MR.fEq_non_int, MR.fEq_non_non, MR.fEq_non_str, MR.fEq_non_bl, MR.fEq_str_tup, MR.fEq_str_lst, MR.fEq_str_int, MR.fEq_str_non, MR.fEq_str_bl, MR.fEq_bl_tup, MR.fEq_bl_lst, MR.fEq_bl_int, MR.fEq_bl_non, MR.fEq_bl_str, MR.fNe_int, MR.fNe_str, MR.fNe_bl, MR.fNe_tup_tup, MR.fNe_tup_lst, MR.fNe_tup_int, MR.fNe_tup_non, MR.fNe_tup_str, MR.fNe_tup_bl, MR.fNe_lst_tup, MR.fNe_lst_lst, MR.fNe_lst_int, MR.fNe_lst_non, MR.fNe_lst_str, MR.fNe_lst_bl, MR.fNe_int_tup, MR.fNe_int_lst, MR.fNe_int_non, MR.fNe_int_str, MR.fNe_int_bl, MR.fNe_non_tup, MR.fNe_non_lst, MR.fNe_non_int, MR.fNe_non_non, MR.fNe_non_str, MR.fNe_non_bl, MR.fNe_str_tup, MR.fNe_str_lst, MR.fNe_str_int, MR.fNe_str_non, MR.fNe_str_bl, MR.fNe_bl_tup, MR.fNe_bl_lst, MR.fNe_bl_int, MR.fNe_bl_non, MR.fNe_bl_str, MR.fLt_int, MR.fIx_tup, MR.fSl_tup, MR.fLen_tup, MR.fTuple_tup, MR.fRev_tup, MR.fIx_lst, MR.fSl_lst, MR.fLen_lst, MR.fTuple_lst, MR.fRev_lst, MR.fIx_str, MR.fSl_str, MR.fLen_str, MR.fInt_int, MR.fInt_bl,
        List.map_cons, List.map_nil, List.cons_append, List.nil_append, List.append_nil, List.length_cons, List.length_nil, List.replicate_succ, List.replicate_zero, List.set_cons_zero, List.set_cons_succ, List.getElem?_cons_zero, List.getElem?_cons_succ, List.getD_cons_zero, List.getD_cons_succ, Nat.reduceAdd, Nat.reduceSub, Nat.zero_add, Option.some.injEq, reduceIte, Bool.not_true, Bool.not_false, true_and, and_true]
      refine ⟨by decide, by decide, fun i ρ ω' => ω' = ω ∧ ∃ x5 x6 as cs c, ρ = [some (.d (row ss)), some (.d (.int b)), some (.own (as.map D.int)), some (.own (cs.map D.int)), some (.d (.int c)), x5, x6] ∧ as.length = i ∧ cs.length = i ∧ as ++ cLow b c (ss.drop i) = cLow b 0 ss ∧ cs ++ cCar b c (ss.drop i) = cCar b 0 ss ∧ cFin b c (ss.drop i) = cFin b 0 ss, ⟨rfl, none, none, [], [], 0, rfl, rfl, rfl, rfl, rfl, rfl⟩, fun i d ρ ω' hd ⟨e1, x5, x6, as, cs, c, e2, e3, e4, e5, e6, e7⟩ => ?_, fun ρ ω' ⟨e1, x5, x6, as, cs, c, e2, e3, e4, e5, e6, e7⟩ => ?_⟩
      · subst e1 e2
        obtain ⟨x, hx, rfl⟩ := at_ints hd
        have hi := (List.getElem?_eq_some_iff.mp hx).1
        rw [drop_cons hx] at e5 e6 e7
        simp (maxSteps := 2000000) only [MR.sNil, MR.sSeq, MR.sDrop, MR.sRet, MR.sRetN, MR.sBreak, MR.sCont, MR.sIf, MR.sSet, MR.sOwn, MR.sAsg, MR.sPar, MR.sAug, MR.sFrz, MR.sApp, MR.sPut, MR.sExt, MR.aName, MR.aTup, MR.aNil, MR.aCons, MR.frz,
        MR.gVar, MR.gC, MR.gOp, MR.gB, MR.bK, MR.gTru, MR.gNotT, MR.gAndT, MR.gOrT, MR.gAndV, MR.gOrV, MR.gNotV, MR.gIf, MR.gChain, MR.gNil, MR.gCons, MR.gTup, MR.gLst, MR.gFz, MR.gOwn, MR.gAsL, MR.gNo, MR.gPart, MR.gSl, MR.gSlF, MR.gUn, MR.gIxL, MR.gFn, MR.gLenL, MR.gYes,
        MR.fAddI, MR.fSub, MR.fDiv, MR.fMod, MR.fPow, MR.fLe, MR.fGt, MR.fGe, MR.fIs, MR.fIsN, MR.fNeg, MR.fMin, MR.fMax, MR.fDivmod, MR.fSum, MR.fAll, MR.fRepr, MR.fIsi, MR.tyD, MR.dInt, MR.dBool, MR.dTup, MR.dStr, MR.dLst,
        MR.gDkT, MR.gDkS, MR.gDkNe, MR.gDkPop, MR.sDkApp, MR.sDkPut, MR.gScr, MR.sDeck, MR.gCall, MR.sel, MR.sFor, MR.sForR1, MR.sForR2, MR.sWhile, MR.sForE, MR.sAugP, MR.gRepL, MR.gCatL, MR.gComp, MR.gCompR, MR.startA, MR.wipeA, MR.sNever, MR.gNever, MR.tNev, MR.sAsg2, MR.fMulS_str, MR.fIntS_str, MR.sParO, MR.sForG, MR.gCompG, MR.iSeqG, MR.iR1G, MR.iR2G, MR.iR3G, MR.iZipG, MR.iEnumG, MR.iEnumLG, MR.iRevG,
        MR.fTru_bl, MR.fTru_non, MR.fTru_int, MR.fTru_str, MR.fTru_lst, MR.fTru_tup, MR.fAdd_int, MR.fAdd_str, MR.fAdd_tup, MR.fAdd_lst, MR.fMul_int, MR.fMul_tup, MR.fMul_lst, MR.fEq_int, MR.fEq_str, MR.fEq_bl, MR.fEq_tup_tup, MR.fEq_tup_lst, MR.fEq_tup_int, MR.fEq_tup_non, MR.fEq_tup_str, MR.fEq_tup_bl, MR.fEq_lst_tup, MR.fEq_lst_lst, MR.fEq_lst_int, MR.fEq_lst_non, MR.fEq_lst_str, MR.fEq_lst_bl, MR.fEq_int_tup, MR.fEq_int_lst, MR.fEq_int_non, MR.fEq_int_str, MR.fEq_int_bl, MR.fEq_non_tup, MR.fEq_non_lst, MR.fEq_non_int, MR.fEq_non_non, MR.fEq_non_str, MR.fEq_non_bl, MR.fEq_str_tup, MR.fEq_str_lst, MR.fEq_str_int, MR.fEq_str_non, MR.fEq_str_bl, MR.fEq_bl_tup, MR.fEq_bl_lst, MR.fEq_bl_int, MR.fEq_bl_non, MR.fEq_bl_str, MR.fNe_int, MR.fNe_str, MR.fNe_bl, MR.fNe_tup_tup, MR.fNe_tup_lst, MR.fNe_tup_int, MR.fNe_tup_non, MR.fNe_tup_str, MR.fNe_tup_bl, MR.fNe_lst_tup, MR.fNe_lst_lst, MR.fNe_lst_int, MR.fNe_lst_non, MR.fNe_lst_str, MR.fNe_lst_bl, MR.fNe_int_tup, MR.fNe_int_lst, MR.fNe_int_non, MR.fNe_int_str, MR.fNe_int_bl, MR.fNe_non_tup, MR.fNe_non_lst, MR.fNe_non_int, MR.fNe_non_non, MR.fNe_non_str, MR.fNe_non_bl, MR.fNe_str_tup, MR.fNe_str_lst, MR.fNe_str_int, MR.fNe_str_non, MR.fNe_str_bl, MR.fNe_bl_tup, MR.fNe_bl_lst, MR.fNe_bl_int, MR.fNe_bl_non, MR.fNe_bl_str, MR.fLt_int, MR.fIx_tup, MR.fSl_tup, MR.fLen_tup, MR.fTuple_tup, MR.fRev_tup, MR.fIx_lst, MR.fSl_lst, MR.fLen_lst, MR.fTuple_lst, MR.fRev_lst, MR.fIx_str, MR.fSl_str, MR.fLen_str, MR.fInt_int, MR.fInt_bl,
        List.map_cons, List.map_nil, List.cons_append, List.nil_append, List.append_nil, List.length_cons, List.length_nil, List.replicate_succ, List.replicate_zero, List.set_cons_zero, List.set_cons_succ, List.getElem?_cons_zero, List.getElem?_cons_succ, List.getD_cons_zero, List.getD_cons_succ, Nat.reduceAdd, Nat.reduceSub, Nat.zero_add, Option.some.injEq, reduceIte, Bool.not_true, Bool.not_false, true_and, and_true]
        refine ⟨⟨by omega, by omega⟩, line1000l (by rw [List.length_map]; omega), line1000l (by rw [List.length_map]; omega), _, _, as ++ [(c + x) % b], cs ++ [(c + x) / b], (c + x) / b, by rw [List.map_append, List.map_append]; rfl, by rw [List.length_append]; exact congrArg (· + 1) e3, by rw [List.length_append]; exact congrArg (· + 1) e4, by rw [List.append_assoc]; exact e5, by rw [List.append_assoc]; exact e6, e7⟩
      · subst e1 e2
        rw [List.length_map] at e3 e4 e5 e6 e7
        rw [List.drop_length] at e5 e6 e7
        have e7 : c = cFin b 0 ss := e7
        have e5 : as ++ [] = cLow b 0 ss := e5
        have e6 : cs ++ [] = cCar b 0 ss := e6
        rw [List.append_nil] at e5 e6
        have g : ∀ xs : List Int, xs = cAll b ss → Qa (D.tup [row xs, row cs]) ω' := fun xs z => by
          rw [z, e6]
          exact q
        simp (maxSteps := 2000000) only [MR.sNil, MR.sSeq, MR.sDrop, MR.sRet, MR.sRetN, MR.sBreak, MR.sCont, MR.sIf, MR.sSet, MR.sOwn, MR.sAsg, MR.sPar, MR.sAug, MR.sFrz, MR.sApp, MR.sPut, MR.sExt, MR.aName, MR.aTup, MR.aNil, MR.aCons, MR.frz,
        MR.gVar, MR.gC, MR.gOp, MR.gB, MR.bK, MR.gTru, MR.gNotT, MR.gAndT, MR.gOrT, MR.gAndV, MR.gOrV, MR.gNotV, MR.gIf, MR.gChain, MR.gNil, MR.gCons, MR.gTup, MR.gLst, MR.gFz, MR.gOwn, MR.gAsL, MR.gNo, MR.gPart, MR.gSl, MR.gSlF, MR.gUn, MR.gIxL, MR.gFn, MR.gLenL, MR.gYes,
        MR.fAddI, MR.fSub, MR.fDiv, MR.fMod, MR.fPow, MR.fLe, MR.fGt, MR.fGe, MR.fIs, MR.fIsN, MR.fNeg, MR.fMin, MR.fMax, MR.fDivmod, MR.fSum, MR.fAll, MR.fRepr, MR.fIsi, MR.tyD, MR.dInt, MR.dBool, MR.dTup, MR.dStr, MR.dLst,
        MR.gDkT, MR.gDkS, MR.gDkNe, MR.gDkPop, MR.sDkApp, MR.sDkPut, MR.gScr, MR.sDeck, MR.gCall, MR.sel, MR.sFor, MR.sForR1, MR.sForR2, MR.sWhile, MR.sForE, MR.sAugP, MR.gRepL, MR.gCatL, MR.gComp, MR.gCompR, MR.startA, MR.wipeA, MR.sNever, MR.gNever, MR.tNev, MR.sAsg2, MR.fMulS_str, MR.fIntS_str, MR.sParO, MR.sForG, MR.gCompG, MR.iSeqG, MR.iR1G, MR.iR2G, MR.iR3G, MR.iZipG, MR.iEnumG, MR.iEnumLG, MR.iRevG,
        MR.fTru_bl, MR.fTru_non, MR.fTru_int, MR.fTru_str, MR.fTru_lst, MR.fTru_tup, MR.fAdd_int, MR.fAdd_str, MR.fAdd_tup, MR.fAdd_lst, MR.fMul_int, MR.fMul_tup, MR.fMul_lst, MR.fEq_int, MR.fEq_str, MR.fEq_bl, MR.fEq_tup_tup, MR.fEq_tup_lst, MR.fEq_tup_int, MR.fEq_tup_non, MR.fEq_tup_str, MR.fEq_tup_bl, MR.fEq_lst_tup, MR.fEq_lst_lst, MR.fEq_lst_int, MR.fEq_lst_non, MR.fEq_lst_str, MR.fEq_lst_bl, MR.fEq_int_tup, MR.fEq_int_lst, MR.fEq_int_non, MR.fEq_int_str, MR.fEq_int_bl, MR.fEq_non_tup, MR.fEq_non_lst, MR.fEq_non_int, MR.fEq_non_non, MR.fEq_non_str, MR.fEq_non_bl, MR.fEq_str_tup, MR.fEq_str_lst, MR.fEq_str_int, MR.fEq_str_non, MR.fEq_str_bl, MR.fEq_bl_tup, MR.fEq_bl_lst, MR.fEq_bl_int, MR.fEq_bl_non, MR.fEq_bl_str, MR.fNe_int, MR.fNe_str, MR.fNe_bl, MR.fNe_tup_tup, MR.fNe_tup_lst, MR.fNe_tup_int, MR.fNe_tup_non, MR.fNe_tup_str, MR.fNe_tup_bl, MR.fNe_lst_tup, MR.fNe_lst_lst, MR.fNe_lst_int, MR.fNe_lst_non, MR.fNe_lst_str, MR.fNe_lst_bl, MR.fNe_int_tup, MR.fNe_int_lst, MR.fNe_int_non, MR.fNe_int_str, MR.fNe_int_bl, MR.fNe_non_tup, MR.fNe_non_lst, MR.fNe_non_int, MR.fNe_non_non, MR.fNe_non_str, MR.fNe_non_bl, MR.fNe_str_tup, MR.fNe_str_lst, MR.fNe_str_int, MR.fNe_str_non, MR.fNe_str_bl, MR.fNe_bl_tup, MR.fNe_bl_lst, MR.fNe_bl_int, MR.fNe_bl_non, MR.fNe_bl_str, MR.fLt_int, MR.fIx_tup, MR.fSl_tup, MR.fLen_tup, MR.fTuple_tup, MR.fRev_tup, MR.fIx_lst, MR.fSl_lst, MR.fLen_lst, MR.fTuple_lst, MR.fRev_lst, MR.fIx_str, MR.fSl_str, MR.fLen_str, MR.fInt_int, MR.fInt_bl,
        List.map_cons, List.map_nil, List.cons_append, List.nil_append, List.append_nil, List.length_cons, List.length_nil, List.replicate_succ, List.replicate_zero, List.set_cons_zero, List.set_cons_succ, List.getElem?_cons_zero, List.getElem?_cons_succ, List.getD_cons_zero, List.getD_cons_succ, Nat.reduceAdd, Nat.reduceSub, Nat.zero_add, Option.some.injEq, reduceIte, Bool.not_true, Bool.not_false, true_and, and_true]
        unfold cAll at g
        rw [← e5, ← e7] at g
        split
        · rename_i k
          have k := of_decide_eq_true k
          rw [if_pos k] at g
          refine ⟨line1000l (by rw [List.length_map]; omega), by decide, ?_⟩
          have := g _ rfl
          rw [show row (as ++ [c]) = D.tup (as.map D.int ++ [D.int c]) from by simp [row]] at this
          exact this
        · rename_i k
          have k : ¬ 0 < c := fun z => k (decide_eq_true z)
          rw [if_neg k, List.append_nil] at g
          exact ⟨by decide, g _ rfl⟩
    · skip
      have hb1 := hb.1
      have hb2 := hb.2
      simp (maxSteps := 2000000) only [MR.sNil, MR.sSeq, MR.sDrop, MR.sRet, MR.sRetN, MR.sBreak, MR.sCont, MR.sIf, MR.sSet, MR.sOwn, MR.sAsg, MR.sPar, MR.sAug, MR.sFrz, MR.sApp, MR.sPut, MR.sExt, MR.aName, MR.aTup, MR.aNil, MR.aCons, MR.frz,
        MR.gVar, MR.gC, MR.gOp, MR.gB, MR.bK, MR.gTru, MR.gNotT, MR.gAndT, MR.gOrT, MR.gAndV, MR.gOrV, MR.gNotV, MR.gIf, MR.gChain, MR.gNil, MR.gCons, MR.gTup, MR.gLst, MR.gFz, MR.gOwn, MR.gAsL, MR.gNo, MR.gPart, MR.gSl, MR.gSlF, MR.gUn, MR.gIxL, MR.gFn, MR.gLenL, MR.gYes,
        MR.fAddI, MR.fSub, MR.fDiv, MR.fMod, MR.fPow, MR.fLe, MR.fGt, MR.fGe, MR.fIs, MR.fIsN, MR.fNeg, MR.fMin, MR.fMax, MR.fDivmod, MR.fSum, MR.fAll, MR.fRepr, MR.fIsi, MR.tyD, MR.dInt, MR.dBool, MR.dTup, MR.dStr, MR.dLst,
        MR.gDkT, MR.gDkS, MR.gDkNe, MR.gDkPop, MR.sDkApp, MR.sDkPut, MR.gScr, MR.sDeck, MR.gCall, MR.sel, MR.sFor, MR.sForR1, MR.sForR2, MR.sWhile, MR.sForE, MR.sAugP, MR.gRepL, MR.gCatL, MR.gComp, MR.gCompR, MR.startA, MR.wipeA, MR.sNever, MR.gNever, MR.tNev, MR.sAsg2, MR.fMulS_str, MR.fIntS_str, MR.sParO, MR.sForG, MR.gCompG, MR.iSeqG, MR.iR1G, MR.iR2G, MR.iR3G, MR.iZipG, MR.iEnumG, MR.iEnumLG, MR.iRevG,
        MR.fTru_bl, MR.fTru_non, MR.fTru_int, MR.fTru_str, MR.fTru_lst, MR.fTru_tup, MR.fAdd_int, MR.fAdd_str, MR.fAdd_tup, MR.fAdd_lst, MR.fMul_int, MR.fMul_tup, MR.fMul_lst, MR.fEq_int, MR.fEq_str, MR.fEq_bl, MR.fEq_tup_tup, MR.fEq_tup_lst, MR.fEq_tup_int, MR.fEq_tup_non, MR.fEq_tup_str, MR.fEq_tup_bl, MR.fEq_lst_tup, MR.fEq_lst_lst, MR.fEq_lst_int, MR.fEq_lst_non, MR.fEq_lst_str, MR.fEq_lst_bl, MR.fEq_int_tup, MR.fEq_int_lst, MR.fEq_int_non, MR.fEq_int_str, MR.fEq_int_bl, MR.fEq_non_tup, MR.fEq_non_lst, MR.fEq_non_int, MR.fEq_non_non, MR.fEq_non_str, MR.fEq_non_bl, MR.fEq_str_tup, MR.fEq_str_lst, MR.fEq_str_int, MR.fEq_str_non, MR.fEq_str_bl, MR.fEq_bl_tup, MR.fEq_bl_lst, MR.fEq_bl_int, MR.fEq_bl_non, MR.fEq_bl_str, MR.fNe_int, MR.fNe_str, MR.fNe_bl, MR.fNe_tup_tup, MR.fNe_tup_lst, MR.fNe_tup_int, MR.fNe_tup_non, MR.fNe_tup_str, MR.fNe_tup_bl, MR.fNe_lst_tup, MR.fNe_lst_lst, MR.fNe_lst_int, MR.fNe_lst_non, MR.fNe_lst_str, MR.fNe_lst_bl, MR.fNe_int_tup, MR.fNe_int_lst, MR.fNe_int_non, MR.fNe_int_str, MR.fNe_int_bl, MR.fNe_non_tup, MR.fNe_non_lst, MR.fNe_non_int, MR.fNe_non_non, MR.fNe_non_str, MR.fNe_non_bl, MR.fNe_str_tup, MR.fNe_str_lst, MR.fNe_str_int, MR.fNe_str_non, MR.fNe_str_bl, MR.fNe_bl_tup, MR.fNe_bl_lst, MR.fNe_bl_int, MR.fNe_bl_non, MR.fNe_bl_str, MR.fLt_int, MR.fIx_tup, MR.fSl_tup, MR.fLen_tup, MR.fTuple_tup, MR.fRev_tup, MR.fIx_lst, MR.fSl_lst, MR.fLen_lst, MR.fTuple_lst, MR.fRev_lst, MR.fIx_str, MR.fSl_str, MR.fLen_str, MR.fInt_int, MR.fInt_bl,
        List.map_cons, List.map_nil, List.cons_append, List.nil_append, List.append_nil, List.length_cons, List.length_nil, List.replicate_succ, List.replicate_zero, List.set_cons_zero, List.set_cons_succ, List.getElem?_cons_zero, List.getElem?_cons_succ, List.getD_cons_zero, List.getD_cons_succ, Nat.reduceAdd, Nat.reduceSub, Nat.zero_add, Option.some.injEq, reduceIte, Bool.not_true, Bool.not_false, true_and, and_true]
      refine ⟨by decide, by decide, fun i ρ ω' => ω' = ω ∧ ∃ x5 x6 as cs c, ρ = [some (.d (D.lst (ss.map D.int))), some (.d (.int b)), some (.own (as.map D.int)), some (.own (cs.map D.int)), some (.d (.int c)), x5, x6] ∧ as.length = i ∧ cs.length = i ∧ as ++ cLow b c (ss.drop i) = cLow b 0 ss ∧ cs ++ cCar b c (ss.drop i) = cCar b 0 ss ∧ cFin b c (ss.drop i) = cFin b 0 ss, ⟨rfl, none, none, [], [], 0, rfl, rfl, rfl, rfl, rfl, rfl⟩, fun i d ρ ω' hd ⟨e1, x5, x6, as, cs, c, e2, e3, e4, e5, e6, e7⟩ => ?_, fun ρ ω' ⟨e1, x5, x6, as, cs, c, e2, e3, e4, e5, e6, e7⟩ => ?_⟩
      · subst e1 e2
        obtain ⟨x, hx, rfl⟩ := at_ints hd
        have hi := (List.getElem?_eq_some_iff.mp hx).1
        rw [drop_cons hx] at e5 e6 e7
        simp (maxSteps := 2000000) only [MR.sNil, MR.sSeq, MR.sDrop, MR.sRet, MR.sRetN, MR.sBreak, MR.sCont, MR.sIf, MR.sSet, MR.sOwn, MR.sAsg, MR.sPar, MR.sAug, MR.sFrz, MR.sApp, MR.sPut, MR.sExt, MR.aName, MR.aTup, MR.aNil, MR.aCons, MR.frz,
        MR.gVar, MR.gC, MR.gOp, MR.gB, MR.bK, MR.gTru, MR.gNotT, MR.gAndT, MR.gOrT, MR.gAndV, MR.gOrV, MR.gNotV, MR.gIf, MR.gChain, MR.gNil, MR.gCons, MR.gTup, MR.gLst, MR.gFz, MR.gOwn, MR.gAsL, MR.gNo, MR.gPart, MR.gSl, MR.gSlF, MR.gUn, MR.gIxL, MR.gFn, MR.gLenL, MR.gYes,
        MR.fAddI, MR.fSub, MR.fDiv, MR.fMod, MR.fPow, MR.fLe, MR.fGt, MR.fGe, MR.fIs, MR.fIsN, MR.fNeg, MR.fMin, MR.fMax, MR.fDivmod, MR.fSum, MR.fAll, MR.fRepr, MR.fIsi, MR.tyD, MR.dInt, MR.dBool, MR.dTup, MR.dStr, MR.dLst,
        MR.gDkT, MR.gDkS, MR.gDkNe, MR.gDkPop, MR.sDkApp, MR.sDkPut, MR.gScr, MR.sDeck, MR.gCall, MR.sel, MR.sFor, MR.sForR1, MR.sForR2, MR.sWhile, MR.sForE, MR.sAugP, MR.gRepL, MR.gCatL, MR.gComp, MR.gCompR, MR.startA, MR.wipeA, MR.sNever, MR.gNever, MR.tNev, MR.sAsg2, MR.fMulS_str, MR.fIntS_str, MR.sParO, MR.sForG, MR.gCompG, MR.iSeqG, MR.iR1G, MR.iR2G, MR.iR3G, MR.iZipG, MR.iEnumG, MR.iEnumLG, MR.iRevG,
        MR.fTru_bl, MR.fTru_non, MR.fTru_int, MR.fTru_str, MR.fTru_lst, MR.fTru_tup, MR.fAdd_int, MR.fAdd_str, MR.fAdd_tup, MR.fAdd_lst, MR.fMul_int, MR.fMul_tup, MR.fMul_lst, MR.fEq_int, MR.fEq_str, MR.fEq_bl, MR.fEq_tup_tup, MR.fEq_tup_lst, MR.fEq_tup_int, MR.fEq_tup_non, MR.fEq_tup_str, MR.fEq_tup_bl, MR.fEq_lst_tup, MR.fEq_lst_lst, MR.fEq_lst_int, MR.fEq_lst_non, MR.fEq_lst_str, MR.fEq_lst_bl, MR.fEq_int_tup, MR.fEq_int_lst, MR.fEq_int_non, MR.fEq_int_str, MR.fEq_int_bl, MR.fEq_non_tup, MR.fEq_non_lst, MR.fEq_non_int, MR.fEq_non_non, MR.fEq_non_str, MR.fEq_non_bl, MR.fEq_str_tup, MR.fEq_str_lst, MR.fEq_str_int, MR.fEq_str_non, MR.fEq_str_bl, MR.fEq_bl_tup, MR.fEq_bl_lst, MR.fEq_bl_int, MR.fEq_bl_non, MR.fEq_bl_str, MR.fNe_int, MR.fNe_str, MR.fNe_bl, MR.fNe_tup_tup, MR.fNe_tup_lst, MR.fNe_tup_int, MR.fNe_tup_non, MR.fNe_tup_str, MR.fNe_tup_bl, MR.fNe_lst_tup, MR.fNe_lst_lst, MR.fNe_lst_int, MR.fNe_lst_non, MR.fNe_lst_str, MR.fNe_lst_bl, MR.fNe_int_tup, MR.fNe_int_lst, MR.fNe_int_non, MR.fNe_int_str, MR.fNe_int_bl, MR.fNe_non_tup, MR.fNe_non_lst, MR.fNe_non_int, MR.fNe_non_non, MR.fNe_non_str, MR.fNe_non_bl, MR.fNe_str_tup, MR.fNe_str_lst, MR.fNe_str_int, MR.fNe_str_non, MR.fNe_str_bl, MR.fNe_bl_tup, MR.fNe_bl_lst, MR.fNe_bl_int, MR.fNe_bl_non, MR.fNe_bl_str, MR.fLt_int, MR.fIx_tup, MR.fSl_tup, MR.fLen_tup, MR.fTuple_tup, MR.fRev_tup, MR.fIx_lst, MR.fSl_lst, MR.fLen_lst, MR.fTuple_lst, MR.fRev_lst, MR.fIx_str, MR.fSl_str, MR.fLen_str, MR.fInt_int, MR.fInt_bl,
        List.map_cons, List.map_nil, List.cons_append, List.nil_append, List.append_nil, List.length_cons, List.length_nil, List.replicate_succ, List.replicate_zero, List.set_cons_zero, List.set_cons_succ, List.getElem?_cons_zero, List.getElem?_cons_succ, List.getD_cons_zero, List.getD_cons_succ, Nat.reduceAdd, Nat.reduceSub, Nat.zero_add, Option.some.injEq, reduceIte, Bool.not_true, Bool.not_false, true_and, and_true]
        refine ⟨⟨by omega, by omega⟩, line1000l (by rw [List.length_map]; omega), line1000l (by rw [List.length_map]; omega), _, _, as ++ [(c + x) % b], cs ++ [(c + x) / b], (c + x) / b, by rw [List.map_append, List.map_append]; rfl, by rw [List.length_append]; exact congrArg (· + 1) e3, by rw [List.length_append]; exact congrArg (· + 1) e4, by rw [List.append_assoc]; exact e5, by rw [List.append_assoc]; exact e6, e7⟩
      · subst e1 e2
        rw [List.length_map] at e3 e4 e5 e6 e7
        rw [List.drop_length] at e5 e6 e7
        have e7 : c = cFin b 0 ss := e7
        have e5 : as ++ [] = cLow b 0 ss := e5
        have e6 : cs ++ [] = cCar b 0 ss := e6
        rw [List.append_nil] at e5 e6
        have g : ∀ xs : List Int, xs = cAll b ss → Qa (D.tup [row xs, row cs]) ω' := fun xs z => by
          rw [z, e6]
          exact q
        simp (maxSteps := 2000000) only [MR.sNil, MR.sSeq, MR.sDrop, MR.sRet, MR.sRetN, MR.sBreak, MR.sCont, MR.sIf, MR.sSet, MR.sOwn, MR.sAsg, MR.sPar, MR.sAug, MR.sFrz, MR.sApp, MR.sPut, MR.sExt, MR.aName, MR.aTup, MR.aNil, MR.aCons, MR.frz,
        MR.gVar, MR.gC, MR.gOp, MR.gB, MR.bK, MR.gTru, MR.gNotT, MR.gAndT, MR.gOrT, MR.gAndV, MR.gOrV, MR.gNotV, MR.gIf, MR.gChain, MR.gNil, MR.gCons, MR.gTup, MR.gLst, MR.gFz, MR.gOwn, MR.gAsL, MR.gNo, MR.gPart, MR.gSl, MR.gSlF, MR.gUn, MR.gIxL, MR.gFn, MR.gLenL, MR.gYes,
        MR.fAddI, MR.fSub, MR.fDiv, MR.fMod, MR.fPow, MR.fLe, MR.fGt, MR.fGe, MR.fIs, MR.fIsN, MR.fNeg, MR.fMin, MR.fMax, MR.fDivmod, MR.fSum, MR.fAll, MR.fRepr, MR.fIsi, MR.tyD, MR.dInt, MR.dBool, MR.dTup, MR.dStr, MR.dLst,
        MR.gDkT, MR.gDkS, MR.gDkNe, MR.gDkPop, MR.sDkApp, MR.sDkPut, MR.gScr, MR.sDeck, MR.gCall, MR.sel, MR.sFor, MR.sForR1, MR.sForR2, MR.sWhile, MR.sForE, MR.sAugP, MR.gRepL, MR.gCatL, MR.gComp, MR.gCompR, MR.startA, MR.wipeA, MR.sNever, MR.gNever, MR.tNev, MR.sAsg2, MR.fMulS_str, MR.fIntS_str, MR.sParO, MR.sForG, MR.gCompG, MR.iSeqG, MR.iR1G, MR.iR2G, MR.iR3G, MR.iZipG, MR.iEnumG, MR.iEnumLG, MR.iRevG,
        MR.fTru_bl, MR.fTru_non, MR.fTru_int, MR.fTru_str, MR.fTru_lst, MR.fTru_tup, MR.fAdd_int, MR.fAdd_str, MR.fAdd_tup, MR.fAdd_lst, MR.fMul_int, MR.fMul_tup, MR.fMul_lst, MR.fEq_int, MR.fEq_str, MR.fEq_bl, MR.fEq_tup_tup, MR.fEq_tup_lst, MR.fEq_tup_int, MR.fEq_tup_non, MR.fEq_tup_str, MR.fEq_tup_bl, MR.fEq_lst_tup, MR.fEq_lst_lst, MR.fEq_lst_int, MR.fEq_lst_non, MR.fEq_lst_str, MR.fEq_lst_bl, MR.fEq_int_tup, MR.fEq_int_lst, MR.fEq_int_non, MR.fEq_int_str, MR.fEq_int_bl, MR.fEq_non_tup, MR.fEq_non_lst, MR.fEq_non_int, MR.fEq_non_non, MR.fEq_non_str, MR.fEq_non_bl, MR.fEq_str_tup, MR.fEq_str_lst, MR.fEq_str_int, MR.fEq_str_non, MR.fEq_str_bl, MR.fEq_bl_tup, MR.fEq_bl_lst, MR.fEq_bl_int, MR.fEq_bl_non, MR.fEq_bl_str, MR.fNe_int, MR.fNe_str, MR.fNe_bl, MR.fNe_tup_tup, MR.fNe_tup_lst, MR.fNe_tup_int, MR.fNe_tup_non, MR.fNe_tup_str, MR.fNe_tup_bl, MR.fNe_lst_tup, MR.fNe_lst_lst, MR.fNe_lst_int, MR.fNe_lst_non, MR.fNe_lst_str, MR.fNe_lst_bl, MR.fNe_int_tup, MR.fNe_int_lst, MR.fNe_int_non, MR.fNe_int_str, MR.fNe_int_bl, MR.fNe_non_tup, MR.fNe_non_lst, MR.fNe_non_int, MR.fNe_non_non, MR.fNe_non_str, MR.fNe_non_bl, MR.fNe_str_tup, MR.fNe_str_lst, MR.fNe_str_int, MR.fNe_str_non, MR.fNe_str_bl, MR.fNe_bl_tup, MR.fNe_bl_lst, MR.fNe_bl_int, MR.fNe_bl_non, MR.fNe_bl_str, MR.fLt_int, MR.fIx_tup, MR.fSl_tup, MR.fLen_tup, MR.fTuple_tup, MR.fRev_tup, MR.fIx_lst, MR.fSl_lst, MR.fLen_lst, MR.fTuple_lst, MR.fRev_lst, MR.fIx_str, MR.fSl_str, MR.fLen_str, MR.fInt_int, MR.fInt_bl,
        List.map_cons, List.map_nil, List.cons_append, List.nil_append, List.append_nil, List.length_cons, List.length_nil, List.replicate_succ, List.replicate_zero, List.set_cons_zero, List.set_cons_succ, List.getElem?_cons_zero, List.getElem?_cons_succ, List.getD_cons_zero, List.getD_cons_succ, Nat.reduceAdd, Nat.reduceSub, Nat.zero_add, Option.some.injEq, reduceIte, Bool.not_true, Bool.not_false, true_and, and_true]
        unfold cAll at g
        rw [← e5, ← e7] at g
        split
        · rename_i k
          have k := of_decide_eq_true k
          rw [if_pos k] at g
          refine ⟨line1000l (by rw [List.length_map]; omega), by decide, ?_⟩
          have := g _ rfl
          rw [show row (as ++ [c]) = D.tup (as.map D.int ++ [D.int c]) from by simp [row]] at this
          exact this
        · rename_i k
          have k : ¬ 0 < c := fun z => k (decide_eq_true z)
          rw [if_neg k, List.append_nil] at g
          exact ⟨by decide, g _ rfl⟩
  refine ⟨fd, ⟨t.g_carried, F.kp, ok⟩, ?_⟩
  · refine bnd_of F 2 [] [] [0, 1] [] (by simp) rfl ?_
    intro kV doc pm an cdv ct D us mv ws h1 h2 h3 h4
    match us, mv, ws, h1, h2, h3 with
    | [u0, u1], [], [], _, _, _ => exact rfl
theorem kn_column_sums (t : T w K mg) : ∃ fd, Known PR w K mg base 1 "column_sums" (He.ga K "column_sums") fd ["one", "other"] DWd 2 aColumns ∧ Bnd K fd ["one", "other"] 2 [] [0, 1] [] := by
  obtain ⟨fd, F⟩ := t.f_column_sums
  have ok : FnG PR w K mg base (L2.CX PR w) 1 (He.ga K "column_sums") fd ["one", "other"] (toSp DWd K 2 aColumns) := by
    refine fn_ok (N := n_column_sums) DWd aColumns F S_column_sums fun cdv A outer s H E hr hG => ?_
    have S := S_column_sums
    refine ⟨_, (gss_cons (gs_if (GW.gt (gw_or (gt_cmp (m_eq (un64 hr)) op2_eq (nomark _) (ge_var 0) (ge_tup ga_nil)) (gw_or1 (gt_cmp (m_eq (un64 hr)) op2_eq (nomark _) (ge_var 1) (ge_tup ga_nil)))))
      (gss_one (gs_ret (ge_tup ga_nil)))
      gss_nil)
      (gss_cons (gs_own 2 S.nd (gf_rep (GF.gl (gf_lst (ga_cons ge_int ga_nil))) (ge_sub (ge_add (ge_fn call_len c_len t.z_len (ga_cons (ge_var 0) ga_nil)) (ge_fn call_len c_len t.z_len (ga_cons (ge_var 1) ga_nil))) ge_int)))
      (gss_cons (gs_forE po_cx rfl t.z_enumerate (ge_var 0) (gg_tup rfl (ggs_cons (gg_name 3 S.nd) (ggs_cons (gg_name 4 S.nd) ggs_nil)) (AL.len (al_cons aex_name (al_cons aex_name al_nil))))
      (gss_one (gs_forE po_cx rfl t.z_enumerate (ge_var 1) (gg_tup rfl (ggs_cons (gg_name 5 S.nd) (ggs_cons (gg_name 6 S.nd) ggs_nil)) (AL.len (al_cons aex_name (al_cons aex_name al_nil))))
      (gss_one (gs_augP 2 (ge_mul (ge_var 4) (ge_var 6)) (ge_add (ge_var 3) (ge_var 5)))))))
      (gss_frz 2 (gss_one (gs_ret (ge_ty call_tuple_of c_tuple t.z_tuple (ga_cons (ge_var 2) ga_nil)))))))), ?_⟩
    clear S hr hG F t
    rintro ds ω Qa Ea ⟨xs, ys, rfl, h1, h2, l1, l2, q⟩ _
    have dx : deq (.tup (xs.map D.int)) (.tup []) = decide (xs = []) := deq_row xs []
    have dy : deq (.tup (ys.map D.int)) (.tup []) = decide (ys = []) := deq_row ys []
    simp (maxSteps := 2000000) only [MR.sNil, MR.sSeq, MR.sDrop, MR.sRet, MR.sRetN, MR.sBreak, MR.sCont, MR.sIf, MR.sSet, MR.sOwn, MR.sAsg, MR.sPar, MR.sAug, MR.sFrz, MR.sApp, MR.sPut, MR.sExt, MR.aName, MR.aTup, MR.aNil, MR.aCons, MR.frz,
        MR.gVar, MR.gC, MR.gOp, MR.gB, MR.bK, MR.gTru, MR.gNotT, MR.gAndT, MR.gOrT, MR.gAndV, MR.gOrV, MR.gNotV, MR.gIf, MR.gChain, MR.gNil, MR.gCons, MR.gTup, MR.gLst, MR.gFz, MR.gOwn, MR.gAsL, MR.gNo, MR.gPart, MR.gSl, MR.gSlF, MR.gUn, MR.gIxL, MR.gFn, MR.gLenL, MR.gYes,
        MR.fAddI, MR.fSub, MR.fDiv, MR.fMod, MR.fPow, MR.fLe, MR.fGt, MR.fGe, MR.fIs, MR.fIsN, MR.fNeg, MR.fMin, MR.fMax, MR.fDivmod, MR.fSum, MR.fAll, MR.fRepr, MR.fIsi, MR.tyD, MR.dInt, MR.dBool, MR.dTup, MR.dStr, MR.dLst,
        MR.gDkT, MR.gDkS, MR.gDkNe, MR.gDkPop, MR.sDkApp, MR.sDkPut, MR.gScr, MR.sDeck, MR.gCall, MR.sel, MR.sFor, MR.sForR1, MR.sForR2, MR.sWhile, MR.sForE, MR.sAugP, MR.gRepL, MR.gCatL, MR.gComp, MR.gCompR, MR.startA, MR.wipeA, MR.sNever, MR.gNever, MR.tNev, MR.sAsg2, MR.fMulS_str, MR.fIntS_str, MR.sParO, MR.sForG, MR.gCompG, MR.iSeqG, MR.iR1G, MR.iR2G, MR.iR3G, MR.iZipG, MR.iEnumG, MR.iEnumLG, MR.iRevG,
        MR.fTru_bl, MR.fTru_non, MR.fTru_int, MR.fTru_str, MR.fTru_lst, MR.fTru_tup, MR.fAdd_int, MR.fAdd_str, MR.fAdd_tup, MR.fAdd_lst, MR.fMul_int, MR.fMul_tup, MR.fMul_lst, MR.fEq_int, MR.fEq_str, MR.fEq_bl, MR.fEq_tup_tup, MR.fEq_tup_lst, MR.fEq_tup_int, MR.fEq_tup_non, MR.fEq_tup_str, MR.fEq_tup_bl, MR.fEq_lst_tup, MR.fEq_lst_lst, MR.fEq_lst_int, MR.fEq_lst_non, MR.fEq_lst_str, MR.fEq_lst_bl, MR.fEq_int_tup, MR.fEq_int_lst, MR.fEq_int_non, MR.fEq_int_str, MR.fEq_int_bl, MR.fEq_non_tup, MR.fEq_non_lst, MR.fEq_non_int, MR.fEq_non_non, MR.fEq_non_str, MR.fEq_non_bl, MR.fEq_str_tup, MR.fEq_str_lst, MR.fEq_str_int, MR.fEq_str_non, MR.fEq_str_bl, MR.fEq_bl_tup, MR.fEq_bl_lst, MR.fEq_bl_int, MR.fEq_bl_non, MR.fEq_bl_str, MR.fNe_int, MR.fNe_str, MR.fNe_bl, MR.fNe_tup_tup, MR.fNe_tup_lst, MR.fNe_tup_int, MR.fNe_tup_non, MR.fNe_tup_str, MR.fNe_tup_bl, MR.fNe_lst_tup, MR.fNe_lst_lst, MR.fNe_lst_int, MR.fNe_lst_non, MR.fNe_lst_str, MR.fNe_lst_bl, MR.fNe_int_tup, MR.fNe_int_lst, MR.fNe_int_non, MR.fNe_int_str, MR.fNe_int_bl, MR.fNe_non_tup, MR.fNe_non_lst, MR.fNe_non_int, MR.fNe_non_non, MR.fNe_non_str, MR.fNe_non_bl, MR.fNe_str_tup, MR.fNe_str_lst, MR.fNe_str_int, MR.fNe_str_non, MR.fNe_str_bl, MR.fNe_bl_tup, MR.fNe_bl_lst, MR.fNe_bl_int, MR.fNe_bl_non, MR.fNe_bl_str, MR.fLt_int, MR.fIx_tup, MR.fSl_tup, MR.fLen_tup, MR.fTuple_tup, MR.fRev_tup, MR.fIx_lst, MR.fSl_lst, MR.fLen_lst, MR.fTuple_lst, MR.fRev_lst, MR.fIx_str, MR.fSl_str, MR.fLen_str, MR.fInt_int, MR.fInt_bl,
        List.map_cons, List.map_nil, List.cons_append, List.nil_append, List.append_nil, List.length_cons, List.length_nil, List.replicate_succ, List.replicate_zero, List.set_cons_zero, List.set_cons_succ, List.getElem?_cons_zero, List.getElem?_cons_succ, List.getD_cons_zero, List.getD_cons_succ, Nat.reduceAdd, Nat.reduceSub, Nat.zero_add, Option.some.injEq, reduceIte, Bool.not_true, Bool.not_false, true_and, and_true, List.length_map]
    refine ⟨by decide, eqOk_row xs, eqOk_row [], ?_⟩
    rw [dx]
    split
    · rename_i c
      have c := of_decide_eq_true c
      have e : cols xs ys = [] := if_pos (.inl c)
      rw [e] at q
      exact ⟨by decide, q⟩
    · rename_i c1
      have c1 : xs ≠ [] := fun z => c1 (decide_eq_true z)
      have p1 : 0 < xs.length := List.length_pos_iff.mpr c1
      refine ⟨by decide, eqOk_row ys, eqOk_row [], ?_⟩
      rw [dy]
      split
      · rename_i c
        have c := of_decide_eq_true c
        have e : cols xs ys = [] := if_pos (.inr c)
        rw [e] at q
        exact ⟨by decide, q⟩
      · rename_i c2
        have c2 : ys ≠ [] := fun z => c2 (decide_eq_true z)
        have p2 : 0 < ys.length := List.length_pos_iff.mpr c2
        have eN : ((xs.length : Int) + (ys.length : Int) - 1).toNat = xs.length + ys.length - 1 := by omega
        refine ⟨by decide, ⟨by omega, by omega, line1000 (by omega)⟩, ?_⟩
        rw [eN, init_range ys]
        refine ⟨fun i ρ ω' => ω' = ω ∧ ∃ x3 x4 x5 x6, ρ = [some (.d (row xs)), some (.d (row ys)), some (.own (((List.range (xs.length + ys.length - 1)).map (co (xs.take i) ys)).map D.int)), x3, x4, x5, x6], ⟨rfl, none, none, none, none, rfl⟩, fun i d ρ ω' hd ⟨e1, x3, x4, x5, x6, e2⟩ => ?_, fun ρ ω' ⟨e1, x3, x4, x5, x6, e2⟩ => ?_⟩
        · subst e1 e2
          obtain ⟨x', hx', rfl⟩ := enum_of hd
          obtain ⟨x, hx, rfl⟩ := at_ints hx'
          have sx := h1 x (List.mem_of_getElem? hx)
          have li := len_take hx
          have hi := (List.getElem?_eq_some_iff.mp hx).1
          simp (maxSteps := 2000000) only [MR.sNil, MR.sSeq, MR.sDrop, MR.sRet, MR.sRetN, MR.sBreak, MR.sCont, MR.sIf, MR.sSet, MR.sOwn, MR.sAsg, MR.sPar, MR.sAug, MR.sFrz, MR.sApp, MR.sPut, MR.sExt, MR.aName, MR.aTup, MR.aNil, MR.aCons, MR.frz,
        MR.gVar, MR.gC, MR.gOp, MR.gB, MR.bK, MR.gTru, MR.gNotT, MR.gAndT, MR.gOrT, MR.gAndV, MR.gOrV, MR.gNotV, MR.gIf, MR.gChain, MR.gNil, MR.gCons, MR.gTup, MR.gLst, MR.gFz, MR.gOwn, MR.gAsL, MR.gNo, MR.gPart, MR.gSl, MR.gSlF, MR.gUn, MR.gIxL, MR.gFn, MR.gLenL, MR.gYes,
        MR.fAddI, MR.fSub, MR.fDiv, MR.fMod, MR.fPow, MR.fLe, MR.fGt, MR.fGe, MR.fIs, MR.fIsN, MR.fNeg, MR.fMin, MR.fMax, MR.fDivmod, MR.fSum, MR.fAll, MR.fRepr, MR.fIsi, MR.tyD, MR.dInt, MR.dBool, MR.dTup, MR.dStr, MR.dLst,
        MR.gDkT, MR.gDkS, MR.gDkNe, MR.gDkPop, MR.sDkApp, MR.sDkPut, MR.gScr, MR.sDeck, MR.gCall, MR.sel, MR.sFor, MR.sForR1, MR.sForR2, MR.sWhile, MR.sForE, MR.sAugP, MR.gRepL, MR.gCatL, MR.gComp, MR.gCompR, MR.startA, MR.wipeA, MR.sNever, MR.gNever, MR.tNev, MR.sAsg2, MR.fMulS_str, MR.fIntS_str, MR.sParO, MR.sForG, MR.gCompG, MR.iSeqG, MR.iR1G, MR.iR2G, MR.iR3G, MR.iZipG, MR.iEnumG, MR.iEnumLG, MR.iRevG,
        MR.fTru_bl, MR.fTru_non, MR.fTru_int, MR.fTru_str, MR.fTru_lst, MR.fTru_tup, MR.fAdd_int, MR.fAdd_str, MR.fAdd_tup, MR.fAdd_lst, MR.fMul_int, MR.fMul_tup, MR.fMul_lst, MR.fEq_int, MR.fEq_str, MR.fEq_bl, MR.fEq_tup_tup, MR.fEq_tup_lst, MR.fEq_tup_int, MR.fEq_tup_non, MR.fEq_tup_str, MR.fEq_tup_bl, MR.fEq_lst_tup, MR.fEq_lst_lst, MR.fEq_lst_int, MR.fEq_lst_non, MR.fEq_lst_str, MR.fEq_lst_bl, MR.fEq_int_tup, MR.fEq_int_lst, MR.fEq_int_non, MR.fEq_int_str, MR.fEq_int_bl, MR.fEq_non_tup, MR.fEq_non_lst, MR.fEq_non_int, MR.fEq_non_non, MR.fEq_non_str, MR.fEq_non_bl, MR.fEq_str_tup, MR.fEq_str_lst, MR.fEq_str_int, MR.fEq_str_non, MR.fEq_str_bl, MR.fEq_bl_tup, MR.fEq_bl_lst, MR.fEq_bl_int, MR.fEq_bl_non, MR.fEq_bl_str, MR.fNe_int, MR.fNe_str, MR.fNe_bl, MR.fNe_tup_tup, MR.fNe_tup_lst, MR.fNe_tup_int, MR.fNe_tup_non, MR.fNe_tup_str, MR.fNe_tup_bl, MR.fNe_lst_tup, MR.fNe_lst_lst, MR.fNe_lst_int, MR.fNe_lst_non, MR.fNe_lst_str, MR.fNe_lst_bl, MR.fNe_int_tup, MR.fNe_int_lst, MR.fNe_int_non, MR.fNe_int_str, MR.fNe_int_bl, MR.fNe_non_tup, MR.fNe_non_lst, MR.fNe_non_int, MR.fNe_non_non, MR.fNe_non_str, MR.fNe_non_bl, MR.fNe_str_tup, MR.fNe_str_lst, MR.fNe_str_int, MR.fNe_str_non, MR.fNe_str_bl, MR.fNe_bl_tup, MR.fNe_bl_lst, MR.fNe_bl_int, MR.fNe_bl_non, MR.fNe_bl_str, MR.fLt_int, MR.fIx_tup, MR.fSl_tup, MR.fLen_tup, MR.fTuple_tup, MR.fRev_tup, MR.fIx_lst, MR.fSl_lst, MR.fLen_lst, MR.fTuple_lst, MR.fRev_lst, MR.fIx_str, MR.fSl_str, MR.fLen_str, MR.fInt_int, MR.fInt_bl,
        List.map_cons, List.map_nil, List.cons_append, List.nil_append, List.append_nil, List.length_cons, List.length_nil, List.replicate_succ, List.replicate_zero, List.set_cons_zero, List.set_cons_succ, List.getElem?_cons_zero, List.getElem?_cons_succ, List.getD_cons_zero, List.getD_cons_succ, Nat.reduceAdd, Nat.reduceSub, Nat.zero_add, Option.some.injEq, reduceIte, Bool.not_true, Bool.not_false, true_and, and_true]
          refine ⟨fun j ρ ω2 => ω2 = ω' ∧ ∃ x5 x6, ρ = [some (.d (row xs)), some (.d (row ys)), some (.own (((List.range (xs.length + ys.length - 1)).map (mid (xs.take i) ys x j)).map D.int)), some (.d (.int i)), some (.d (.int x)), x5, x6], ⟨rfl, x5, x6, by rw [mid_zero]⟩, fun j d ρ ω2 hd ⟨e1, x5, x6, e2⟩ => ?_, fun ρ ω2 ⟨e1, x5, x6, e2⟩ => ?_⟩
          · subst e1 e2
            obtain ⟨y', hy', rfl⟩ := enum_of hd
            obtain ⟨y, hy, rfl⟩ := at_ints hy'
            have sy := h2 y (List.mem_of_getElem? hy)
            have hj := (List.getElem?_eq_some_iff.mp hy).1
            have ek : ((i : Int) + (j : Int)).toNat = (xs.take i).length + j := by rw [li]; omega
            have eg : (((List.range (xs.length + ys.length - 1)).map (mid (xs.take i) ys x j)).map D.int)[(xs.take i).length + j]? = some (.int (mid (xs.take i) ys x j ((xs.take i).length + j))) := by
              rw [List.getElem?_map, List.getElem?_map, List.getElem?_range (by rw [li]; omega)]
              rfl
            simp (maxSteps := 2000000) only [MR.sNil, MR.sSeq, MR.sDrop, MR.sRet, MR.sRetN, MR.sBreak, MR.sCont, MR.sIf, MR.sSet, MR.sOwn, MR.sAsg, MR.sPar, MR.sAug, MR.sFrz, MR.sApp, MR.sPut, MR.sExt, MR.aName, MR.aTup, MR.aNil, MR.aCons, MR.frz,
        MR.gVar, MR.gC, MR.gOp, MR.gB, MR.bK, MR.gTru, MR.gNotT, MR.gAndT, MR.gOrT, MR.gAndV, MR.gOrV, MR.gNotV, MR.gIf, MR.gChain, MR.gNil, MR.gCons, MR.gTup, MR.gLst, MR.gFz, MR.gOwn, MR.gAsL, MR.gNo, MR.gPart, MR.gSl, MR.gSlF, MR.gUn, MR.gIxL, MR.gFn, MR.gLenL, MR.gYes,
        MR.fAddI, MR.fSub, MR.fDiv, MR.fMod, MR.fPow, MR.fLe, MR.fGt, MR.fGe, MR.fIs, MR.fIsN, MR.fNeg, MR.fMin, MR.fMax, MR.fDivmod, MR.fSum, MR.fAll, MR.fRepr, MR.fIsi, MR.tyD, MR.dInt, MR.dBool, MR.dTup, MR.dStr, MR.dLst,
        MR.gDkT, MR.gDkS, MR.gDkNe, MR.gDkPop, MR.sDkApp, MR.sDkPut, MR.gScr, MR.sDeck, MR.gCall, MR.sel, MR.sFor, MR.sForR1, MR.sForR2, MR.sWhile, MR.sForE, MR.sAugP, MR.gRepL, MR.gCatL, MR.gComp, MR.gCompR, MR.startA, MR.wipeA, MR.sNever, MR.gNever, MR.tNev, MR.sAsg2, MR.fMulS_str, MR.fIntS_str, MR.sParO, MR.sForG, MR.gCompG, MR.iSeqG, MR.iR1G, MR.iR2G, MR.iR3G, MR.iZipG, MR.iEnumG, MR.iEnumLG, MR.iRevG,
        MR.fTru_bl, MR.fTru_non, MR.fTru_int, MR.fTru_str, MR.fTru_lst, MR.fTru_tup, MR.fAdd_int, MR.fAdd_str, MR.fAdd_tup, MR.fAdd_lst, MR.fMul_int, MR.fMul_tup, MR.fMul_lst, MR.fEq_int, MR.fEq_str, MR.fEq_bl, MR.fEq_tup_tup, MR.fEq_tup_lst, MR.fEq_tup_int, MR.fEq_tup_non, MR.fEq_tup_str, MR.fEq_tup_bl, MR.fEq_lst_tup, MR.fEq_lst_lst, MR.fEq_lst_int, MR.fEq_lst_non, MR.fEq_lst_str, MR.fEq_lst_bl, MR.fEq_int_tup, MR.fEq_int_lst, MR.fEq_int_non, MR.fEq_int_str, MR.fEq_int_bl, MR.fEq_non_tup, MR.fEq_non_lst, MR.fEq_non_int, MR.fEq_non_non, MR.fEq_non_str, MR.fEq_non_bl, MR.fEq_str_tup, MR.fEq_str_lst, MR.fEq_str_int, MR.fEq_str_non, MR.fEq_str_bl, MR.fEq_bl_tup, MR.fEq_bl_lst, MR.fEq_bl_int, MR.fEq_bl_non, MR.fEq_bl_str, MR.fNe_int, MR.fNe_str, MR.fNe_bl, MR.fNe_tup_tup, MR.fNe_tup_lst, MR.fNe_tup_int, MR.fNe_tup_non, MR.fNe_tup_str, MR.fNe_tup_bl, MR.fNe_lst_tup, MR.fNe_lst_lst, MR.fNe_lst_int, MR.fNe_lst_non, MR.fNe_lst_str, MR.fNe_lst_bl, MR.fNe_int_tup, MR.fNe_int_lst, MR.fNe_int_non, MR.fNe_int_str, MR.fNe_int_bl, MR.fNe_non_tup, MR.fNe_non_lst, MR.fNe_non_int, MR.fNe_non_non, MR.fNe_non_str, MR.fNe_non_bl, MR.fNe_str_tup, MR.fNe_str_lst, MR.fNe_str_int, MR.fNe_str_non, MR.fNe_str_bl, MR.fNe_bl_tup, MR.fNe_bl_lst, MR.fNe_bl_int, MR.fNe_bl_non, MR.fNe_bl_str, MR.fLt_int, MR.fIx_tup, MR.fSl_tup, MR.fLen_tup, MR.fTuple_tup, MR.fRev_tup, MR.fIx_lst, MR.fSl_lst, MR.fLen_lst, MR.fTuple_lst, MR.fRev_lst, MR.fIx_str, MR.fSl_str, MR.fLen_str, MR.fInt_int, MR.fInt_bl,
        List.map_cons, List.map_nil, List.cons_append, List.nil_append, List.append_nil, List.length_cons, List.length_nil, List.replicate_succ, List.replicate_zero, List.set_cons_zero, List.set_cons_succ, List.getElem?_cons_zero, List.getElem?_cons_succ, List.getD_cons_zero, List.getD_cons_succ, Nat.reduceAdd, Nat.reduceSub, Nat.zero_add, Option.some.injEq, reduceIte, Bool.not_true, Bool.not_false, true_and, and_true]
            rw [ek, eg]
            refine ⟨by omega, mulw 100 100 sx.1 (by omega) sy.1 (by omega) (by decide) (by decide) (by decide), some (.d (.int j)), some (.d (.int y)), ?_⟩
            rw [set_range (g := mid (xs.take i) ys x (j + 1)) fun k hk => mid_step hy k]
          · subst e1 e2
            rw [enum_len, List.length_map, mid_end, ← take_snoc hx]
            exact ⟨rfl, _, _, _, _, rfl⟩
        · subst e1 e2
          rw [enum_len, List.length_map, List.take_length]
          simp (maxSteps := 2000000) only [MR.sNil, MR.sSeq, MR.sDrop, MR.sRet, MR.sRetN, MR.sBreak, MR.sCont, MR.sIf, MR.sSet, MR.sOwn, MR.sAsg, MR.sPar, MR.sAug, MR.sFrz, MR.sApp, MR.sPut, MR.sExt, MR.aName, MR.aTup, MR.aNil, MR.aCons, MR.frz,
        MR.gVar, MR.gC, MR.gOp, MR.gB, MR.bK, MR.gTru, MR.gNotT, MR.gAndT, MR.gOrT, MR.gAndV, MR.gOrV, MR.gNotV, MR.gIf, MR.gChain, MR.gNil, MR.gCons, MR.gTup, MR.gLst, MR.gFz, MR.gOwn, MR.gAsL, MR.gNo, MR.gPart, MR.gSl, MR.gSlF, MR.gUn, MR.gIxL, MR.gFn, MR.gLenL, MR.gYes,
        MR.fAddI, MR.fSub, MR.fDiv, MR.fMod, MR.fPow, MR.fLe, MR.fGt, MR.fGe, MR.fIs, MR.fIsN, MR.fNeg, MR.fMin, MR.fMax, MR.fDivmod, MR.fSum, MR.fAll, MR.fRepr, MR.fIsi, MR.tyD, MR.dInt, MR.dBool, MR.dTup, MR.dStr, MR.dLst,
        MR.gDkT, MR.gDkS, MR.gDkNe, MR.gDkPop, MR.sDkApp, MR.sDkPut, MR.gScr, MR.sDeck, MR.gCall, MR.sel, MR.sFor, MR.sForR1, MR.sForR2, MR.sWhile, MR.sForE, MR.sAugP, MR.gRepL, MR.gCatL, MR.gComp, MR.gCompR, MR.startA, MR.wipeA, MR.sNever, MR.gNever, MR.tNev, MR.sAsg2, MR.fMulS_str, MR.fIntS_str, MR.sParO, MR.sForG, MR.gCompG, MR.iSeqG, MR.iR1G, MR.iR2G, MR.iR3G, MR.iZipG, MR.iEnumG, MR.iEnumLG, MR.iRevG,
        MR.fTru_bl, MR.fTru_non, MR.fTru_int, MR.fTru_str, MR.fTru_lst, MR.fTru_tup, MR.fAdd_int, MR.fAdd_str, MR.fAdd_tup, MR.fAdd_lst, MR.fMul_int, MR.fMul_tup, MR.fMul_lst, MR.fEq_int, MR.fEq_str, MR.fEq_bl, MR.fEq_tup_tup, MR.fEq_tup_lst, MR.fEq_tup_int, MR.fEq_tup_non, MR.fEq_tup_str, MR.fEq_tup_bl, MR.fEq_lst_tup, MR.fEq_lst_lst, MR.fEq_lst_int, MR.fEq_lst_non, MR.fEq_lst_str, MR.fEq_lst_bl, MR.fEq_int_tup, MR.fEq_int_lst, MR.fEq_int_non, MR.fEq_int_str, MR.fEq_int_bl, MR.fEq_non_tup, MR.fEq_non_lst, MR.fEq_non_int, MR.fEq_non_non, MR.fEq_non_str, MR.fEq_non_bl, MR.fEq_str_tup, MR.fEq_str_lst, MR.fEq_str_int, MR.fEq_str_non, MR.fEq_str_bl, MR.fEq_bl_tup, MR.fEq_bl_lst, MR.fEq_bl_int, MR.fEq_bl_non, MR.fEq_bl_str, MR.fNe_int, MR.fNe_str, MR.fNe_bl, MR.fNe_tup_tup, MR.fNe_tup_lst, MR.fNe_tup_int, MR.fNe_tup_non, MR.fNe_tup_str, MR.fNe_tup_bl, MR.fNe_lst_tup, MR.fNe_lst_lst, MR.fNe_lst_int, MR.fNe_lst_non, MR.fNe_lst_str, MR.fNe_lst_bl, MR.fNe_int_tup, MR.fNe_int_lst, MR.fNe_int_non, MR.fNe_int_str, MR.fNe_int_bl, MR.fNe_non_tup, MR.fNe_non_lst, MR.fNe_non_int, MR.fNe_non_non, MR.fNe_non_str, MR.fNe_non_bl, MR.fNe_str_tup, MR.fNe_str_lst, MR.fNe_str_int, MR.fNe_str_non, MR.fNe_str_bl, MR.fNe_bl_tup, MR.fNe_bl_lst, MR.fNe_bl_int, MR.fNe_bl_non, MR.fNe_bl_str, MR.fLt_int, MR.fIx_tup, MR.fSl_tup, MR.fLen_tup, MR.fTuple_tup, MR.fRev_tup, MR.fIx_lst, MR.fSl_lst, MR.fLen_lst, MR.fTuple_lst, MR.fRev_lst, MR.fIx_str, MR.fSl_str, MR.fLen_str, MR.fInt_int, MR.fInt_bl,
        List.map_cons, List.map_nil, List.cons_append, List.nil_append, List.append_nil, List.length_cons, List.length_nil, List.replicate_succ, List.replicate_zero, List.set_cons_zero, List.set_cons_succ, List.getElem?_cons_zero, List.getElem?_cons_succ, List.getD_cons_zero, List.getD_cons_succ, Nat.reduceAdd, Nat.reduceSub, Nat.zero_add, Option.some.injEq, reduceIte, Bool.not_true, Bool.not_false, true_and, and_true]
          have e : cols xs ys = (List.range (xs.length + ys.length - 1)).map (co xs ys) := if_neg (by simp [c1, c2])
          rw [e] at q
          exact q
  refine ⟨fd, ⟨t.g_column_sums, F.kp, ok⟩, ?_⟩
  · refine bnd_of F 2 [] [] [0, 1] [] (by simp) rfl ?_
    intro kV doc pm an cdv ct D us mv ws h1 h2 h3 h4
    match us, mv, ws, h1, h2, h3 with
    | [u0, u1], [], [], _, _, _ => exact rfl
theorem kn_plain_product (t : T w K mg) : ∃ fd, Known PR w K mg base 2 "plain_product" (He.ga K "plain_product") fd ["one", "other", "base"] DWd 3 aPlain ∧ Bnd K fd ["one", "other", "base"] 2 ["base"] [0, 1, 2] [] := by
  obtain ⟨fd, F⟩ := t.f_plain_product
  obtain ⟨fd_carried, k_carried, b_carried_0⟩ := kn_carried (w := w) (base := base) t
  obtain ⟨fd_column_sums, k_column_sums, b_column_sums_0⟩ := kn_column_sums (w := w) (base := base) t
  have ok : FnG PR w K mg base (L2.CX PR w) 2 (He.ga K "plain_product") fd ["one", "other", "base"] (toSp DWd K 3 aPlain) := by
    refine fn_ok (N := n_plain_product) DWd aPlain F S_plain_product fun cdv A outer s H E hr hG => ?_
    have S := S_plain_product
    refine ⟨_, (gss_cons (gs_asg (ge_call1 k_carried (Room.mono hr (by decide)) hG tk_cx b_carried_0 (fun B => .nil) (ga_cons (ge_call1 k_column_sums (Room.mono hr (by decide)) hG tk_cx b_column_sums_0 (fun B => .nil) (ga_cons (ge_var 0) (ga_cons (ge_var 1) ga_nil))) (ga_cons (ge_var 2) ga_nil))) (gg_tup rfl (ggs_cons (gg_name 3 S.nd) (ggs_cons (gg_name 4 S.nd) ggs_nil)) (AL.len (al_cons aex_name (al_cons aex_name al_nil)))))
      (gss_one (gs_ret (ge_var 3)))), ?_⟩
    clear S hr hG F t k_carried b_carried_0 k_column_sums b_column_sums_0
    rintro ds ω Qa Ea ⟨xs, ys, b, rfl, hb, h1, h2, l1, l2, q⟩ _
    simp (maxSteps := 2000000) only [MR.sNil, MR.sSeq, MR.sDrop, MR.sRet, MR.sRetN, MR.sBreak, MR.sCont, MR.sIf, MR.sSet, MR.sOwn, MR.sAsg, MR.sPar, MR.sAug, MR.sFrz, MR.sApp, MR.sPut, MR.sExt, MR.aName, MR.aTup, MR.aNil, MR.aCons, MR.frz,
        MR.gVar, MR.gC, MR.gOp, MR.gB, MR.bK, MR.gTru, MR.gNotT, MR.gAndT, MR.gOrT, MR.gAndV, MR.gOrV, MR.gNotV, MR.gIf, MR.gChain, MR.gNil, MR.gCons, MR.gTup, MR.gLst, MR.gFz, MR.gOwn, MR.gAsL, MR.gNo, MR.gPart, MR.gSl, MR.gSlF, MR.gUn, MR.gIxL, MR.gFn, MR.gLenL, MR.gYes,
        MR.fAddI, MR.fSub, MR.fDiv, MR.fMod, MR.fPow, MR.fLe, MR.fGt, MR.fGe, MR.fIs, MR.fIsN, MR.fNeg, MR.fMin, MR.fMax, MR.fDivmod, MR.fSum, MR.fAll, MR.fRepr, MR.fIsi, MR.tyD, MR.dInt, MR.dBool, MR.dTup, MR.dStr, MR.dLst,
        MR.gDkT, MR.gDkS, MR.gDkNe, MR.gDkPop, MR.sDkApp, MR.sDkPut, MR.gScr, MR.sDeck, MR.gCall, MR.sel, MR.sFor, MR.sForR1, MR.sForR2, MR.sWhile, MR.sForE, MR.sAugP, MR.gRepL, MR.gCatL, MR.gComp, MR.gCompR, MR.startA, MR.wipeA, MR.sNever, MR.gNever, MR.tNev, MR.sAsg2, MR.fMulS_str, MR.fIntS_str, MR.sParO, MR.sForG, MR.gCompG, MR.iSeqG, MR.iR1G, MR.iR2G, MR.iR3G, MR.iZipG, MR.iEnumG, MR.iEnumLG, MR.iRevG,
        MR.fTru_bl, MR.fTru_non, MR.fTru_int, MR.fTru_str, MR.fTru_lst, MR.fTru_tup, MR.fAdd_int, MR.fAdd_str, MR.fAdd_tup, MR.fAdd_lst, MR.fMul_int, MR.fMul_tup, MR.fMul_lst, MR.fEq_int, MR.fEq_str, MR.fEq_bl, MR.fEq_tup_tup, MR.fEq_tup_lst, MR.fEq_tup_int, MR.fEq_tup_non, MR.fEq_tup_str, MR.fEq_tup_bl, MR.fEq_lst_tup, MR.fEq_lst_lst, MR.fEq_lst_int, MR.fEq_lst_non, MR.fEq_lst_str, MR.fEq_lst_bl, MR.fEq_int_tup, MR.fEq_int_lst, MR.fEq_int_non, MR.fEq_int_str, MR.fEq_int_bl, MR.fEq_non_tup, MR.fEq_non_lst, MR.fEq_non_int, MR.fEq_non_non, MR.fEq_non_str, MR.fEq_non_bl, MR.fEq_str_tup, MR.fEq_str_lst, MR.fEq_str_int, MR.fEq_str_non, MR.fEq_str_bl, MR.fEq_bl_tup, MR.fEq_bl_lst, MR.fEq_bl_int, MR.fEq_bl_non, MR.fEq_bl_str, MR.fNe_int, MR.fNe_str, MR.fNe_bl, MR.fNe_tup_tup, MR.fNe_tup_lst, MR.fNe_tup_int, MR.fNe_tup_non, MR.fNe_tup_str, MR.fNe_tup_bl, MR.fNe_lst_tup, MR.fNe_lst_lst, MR.fNe_lst_int, MR.fNe_lst_non, MR.fNe_lst_str, MR.fNe_lst_bl, MR.fNe_int_tup, MR.fNe_int_lst, MR.fNe_int_non, MR.fNe_int_str, MR.fNe_int_bl, MR.fNe_non_tup, MR.fNe_non_lst, MR.fNe_non_int, MR.fNe_non_non, MR.fNe_non_str, MR.fNe_non_bl, MR.fNe_str_tup, MR.fNe_str_lst, MR.fNe_str_int, MR.fNe_str_non, MR.fNe_str_bl, MR.fNe_bl_tup, MR.fNe_bl_lst, MR.fNe_bl_int, MR.fNe_bl_non, MR.fNe_bl_str, MR.fLt_int, MR.fIx_tup, MR.fSl_tup, MR.fLen_tup, MR.fTuple_tup, MR.fRev_tup, MR.fIx_lst, MR.fSl_lst, MR.fLen_lst, MR.fTuple_lst, MR.fRev_lst, MR.fIx_str, MR.fSl_str, MR.fLen_str, MR.fInt_int, MR.fInt_bl,
        List.map_cons, List.map_nil, List.cons_append, List.nil_append, List.append_nil, List.length_cons, List.length_nil, List.replicate_succ, List.replicate_zero, List.set_cons_zero, List.set_cons_succ, List.getElem?_cons_zero, List.getElem?_cons_succ, List.getD_cons_zero, List.getD_cons_succ, Nat.reduceAdd, Nat.reduceSub, Nat.zero_add, Option.some.injEq, reduceIte, Bool.not_true, Bool.not_false, true_and, and_true]
    refine ⟨xs, ys, rfl, h1.lim.small hb.2, h2.lim.small hb.2, l1, l2, ?_⟩
    simp (maxSteps := 2000000) only [MR.sNil, MR.sSeq, MR.sDrop, MR.sRet, MR.sRetN, MR.sBreak, MR.sCont, MR.sIf, MR.sSet, MR.sOwn, MR.sAsg, MR.sPar, MR.sAug, MR.sFrz, MR.sApp, MR.sPut, MR.sExt, MR.aName, MR.aTup, MR.aNil, MR.aCons, MR.frz,
        MR.gVar, MR.gC, MR.gOp, MR.gB, MR.bK, MR.gTru, MR.gNotT, MR.gAndT, MR.gOrT, MR.gAndV, MR.gOrV, MR.gNotV, MR.gIf, MR.gChain, MR.gNil, MR.gCons, MR.gTup, MR.gLst, MR.gFz, MR.gOwn, MR.gAsL, MR.gNo, MR.gPart, MR.gSl, MR.gSlF, MR.gUn, MR.gIxL, MR.gFn, MR.gLenL, MR.gYes,
        MR.fAddI, MR.fSub, MR.fDiv, MR.fMod, MR.fPow, MR.fLe, MR.fGt, MR.fGe, MR.fIs, MR.fIsN, MR.fNeg, MR.fMin, MR.fMax, MR.fDivmod, MR.fSum, MR.fAll, MR.fRepr, MR.fIsi, MR.tyD, MR.dInt, MR.dBool, MR.dTup, MR.dStr, MR.dLst,
        MR.gDkT, MR.gDkS, MR.gDkNe, MR.gDkPop, MR.sDkApp, MR.sDkPut, MR.gScr, MR.sDeck, MR.gCall, MR.sel, MR.sFor, MR.sForR1, MR.sForR2, MR.sWhile, MR.sForE, MR.sAugP, MR.gRepL, MR.gCatL, MR.gComp, MR.gCompR, MR.startA, MR.wipeA, MR.sNever, MR.gNever, MR.tNev, MR.sAsg2, MR.fMulS_str, MR.fIntS_str, MR.sParO, MR.sForG, MR.gCompG, MR.iSeqG, MR.iR1G, MR.iR2G, MR.iR3G, MR.iZipG, MR.iEnumG, MR.iEnumLG, MR.iRevG,
        MR.fTru_bl, MR.fTru_non, MR.fTru_int, MR.fTru_str, MR.fTru_lst, MR.fTru_tup, MR.fAdd_int, MR.fAdd_str, MR.fAdd_tup, MR.fAdd_lst, MR.fMul_int, MR.fMul_tup, MR.fMul_lst, MR.fEq_int, MR.fEq_str, MR.fEq_bl, MR.fEq_tup_tup, MR.fEq_tup_lst, MR.fEq_tup_int, MR.fEq_tup_non, MR.fEq_tup_str, MR.fEq_tup_bl, MR.fEq_lst_tup, MR.fEq_lst_lst, MR.fEq_lst_int, MR.fEq_lst_non, MR.fEq_lst_str, MR.fEq_lst_bl, MR.fEq_int_tup, MR.fEq_int_lst, MR.fEq_int_non, MR.fEq_int_str, MR.fEq_int_bl, MR.fEq_non_tup, MR.fEq_non_lst, MR.fEq_non_int, MR.fEq_non_non, MR.fEq_non_str, MR.fEq_non_bl, MR.fEq_str_tup, MR.fEq_str_lst, MR.fEq_str_int, MR.fEq_str_non, MR.fEq_str_bl, MR.fEq_bl_tup, MR.fEq_bl_lst, MR.fEq_bl_int, MR.fEq_bl_non, MR.fEq_bl_str, MR.fNe_int, MR.fNe_str, MR.fNe_bl, MR.fNe_tup_tup, MR.fNe_tup_lst, MR.fNe_tup_int, MR.fNe_tup_non, MR.fNe_tup_str, MR.fNe_tup_bl, MR.fNe_lst_tup, MR.fNe_lst_lst, MR.fNe_lst_int, MR.fNe_lst_non, MR.fNe_lst_str, MR.fNe_lst_bl, MR.fNe_int_tup, MR.fNe_int_lst, MR.fNe_int_non, MR.fNe_int_str, MR.fNe_int_bl, MR.fNe_non_tup, MR.fNe_non_lst, MR.fNe_non_int, MR.fNe_non_non, MR.fNe_non_str, MR.fNe_non_bl, MR.fNe_str_tup, MR.fNe_str_lst, MR.fNe_str_int, MR.fNe_str_non, MR.fNe_str_bl, MR.fNe_bl_tup, MR.fNe_bl_lst, MR.fNe_bl_int, MR.fNe_bl_non, MR.fNe_bl_str, MR.fLt_int, MR.fIx_tup, MR.fSl_tup, MR.fLen_tup, MR.fTuple_tup, MR.fRev_tup, MR.fIx_lst, MR.fSl_lst, MR.fLen_lst, MR.fTuple_lst, MR.fRev_lst, MR.fIx_str, MR.fSl_str, MR.fLen_str, MR.fInt_int, MR.fInt_bl,
        List.map_cons, List.map_nil, List.cons_append, List.nil_append, List.append_nil, List.length_cons, List.length_nil, List.replicate_succ, List.replicate_zero, List.set_cons_zero, List.set_cons_succ, List.getElem?_cons_zero, List.getElem?_cons_succ, List.getD_cons_zero, List.getD_cons_succ, Nat.reduceAdd, Nat.reduceSub, Nat.zero_add, Option.some.injEq, reduceIte, Bool.not_true, Bool.not_false, true_and, and_true]
    refine ⟨cols xs ys, b, .inl rfl, hb, ?_, ?_⟩
    · by_cases c1 : xs = []
      · rw [show cols xs ys = [] from if_pos (.inl c1)]
        exact Nat.zero_le _
      · by_cases c2 : ys = []
        · rw [show cols xs ys = [] from if_pos (.inr c2)]
          exact Nat.zero_le _
        · rw [cols_len xs ys c1 c2]
          omega
    · rw [prod_row hb.1 h1 h2]
      simp (maxSteps := 2000000) only [MR.sNil, MR.sSeq, MR.sDrop, MR.sRet, MR.sRetN, MR.sBreak, MR.sCont, MR.sIf, MR.sSet, MR.sOwn, MR.sAsg, MR.sPar, MR.sAug, MR.sFrz, MR.sApp, MR.sPut, MR.sExt, MR.aName, MR.aTup, MR.aNil, MR.aCons, MR.frz,
        MR.gVar, MR.gC, MR.gOp, MR.gB, MR.bK, MR.gTru, MR.gNotT, MR.gAndT, MR.gOrT, MR.gAndV, MR.gOrV, MR.gNotV, MR.gIf, MR.gChain, MR.gNil, MR.gCons, MR.gTup, MR.gLst, MR.gFz, MR.gOwn, MR.gAsL, MR.gNo, MR.gPart, MR.gSl, MR.gSlF, MR.gUn, MR.gIxL, MR.gFn, MR.gLenL, MR.gYes,
        MR.fAddI, MR.fSub, MR.fDiv, MR.fMod, MR.fPow, MR.fLe, MR.fGt, MR.fGe, MR.fIs, MR.fIsN, MR.fNeg, MR.fMin, MR.fMax, MR.fDivmod, MR.fSum, MR.fAll, MR.fRepr, MR.fIsi, MR.tyD, MR.dInt, MR.dBool, MR.dTup, MR.dStr, MR.dLst,
        MR.gDkT, MR.gDkS, MR.gDkNe, MR.gDkPop, MR.sDkApp, MR.sDkPut, MR.gScr, MR.sDeck, MR.gCall, MR.sel, MR.sFor, MR.sForR1, MR.sForR2, MR.sWhile, MR.sForE, MR.sAugP, MR.gRepL, MR.gCatL, MR.gComp, MR.gCompR, MR.startA, MR.wipeA, MR.sNever, MR.gNever, MR.tNev, MR.sAsg2, MR.fMulS_str, MR.fIntS_str, MR.sParO, MR.sForG, MR.gCompG, MR.iSeqG, MR.iR1G, MR.iR2G, MR.iR3G, MR.iZipG, MR.iEnumG, MR.iEnumLG, MR.iRevG,
        MR.fTru_bl, MR.fTru_non, MR.fTru_int, MR.fTru_str, MR.fTru_lst, MR.fTru_tup, MR.fAdd_int, MR.fAdd_str, MR.fAdd_tup, MR.fAdd_lst, MR.fMul_int, MR.fMul_tup, MR.fMul_lst, MR.fEq_int, MR.fEq_str, MR.fEq_bl, MR.fEq_tup_tup, MR.fEq_tup_lst, MR.fEq_tup_int, MR.fEq_tup_non, MR.fEq_tup_str, MR.fEq_tup_bl, MR.fEq_lst_tup, MR.fEq_lst_lst, MR.fEq_lst_int, MR.fEq_lst_non, MR.fEq_lst_str, MR.fEq_lst_bl, MR.fEq_int_tup, MR.fEq_int_lst, MR.fEq_int_non, MR.fEq_int_str, MR.fEq_int_bl, MR.fEq_non_tup, MR.fEq_non_lst, MR.fEq_non_int, MR.fEq_non_non, MR.fEq_non_str, MR.fEq_non_bl, MR.fEq_str_tup, MR.fEq_str_lst, MR.fEq_str_int, MR.fEq_str_non, MR.fEq_str_bl, MR.fEq_bl_tup, MR.fEq_bl_lst, MR.fEq_bl_int, MR.fEq_bl_non, MR.fEq_bl_str, MR.fNe_int, MR.fNe_str, MR.fNe_bl, MR.fNe_tup_tup, MR.fNe_tup_lst, MR.fNe_tup_int, MR.fNe_tup_non, MR.fNe_tup_str, MR.fNe_tup_bl, MR.fNe_lst_tup, MR.fNe_lst_lst, MR.fNe_lst_int, MR.fNe_lst_non, MR.fNe_lst_str, MR.fNe_lst_bl, MR.fNe_int_tup, MR.fNe_int_lst, MR.fNe_int_non, MR.fNe_int_str, MR.fNe_int_bl, MR.fNe_non_tup, MR.fNe_non_lst, MR.fNe_non_int, MR.fNe_non_non, MR.fNe_non_str, MR.fNe_non_bl, MR.fNe_str_tup, MR.fNe_str_lst, MR.fNe_str_int, MR.fNe_str_non, MR.fNe_str_bl, MR.fNe_bl_tup, MR.fNe_bl_lst, MR.fNe_bl_int, MR.fNe_bl_non, MR.fNe_bl_str, MR.fLt_int, MR.fIx_tup, MR.fSl_tup, MR.fLen_tup, MR.fTuple_tup, MR.fRev_tup, MR.fIx_lst, MR.fSl_lst, MR.fLen_lst, MR.fTuple_lst, MR.fRev_lst, MR.fIx_str, MR.fSl_str, MR.fLen_str, MR.fInt_int, MR.fInt_bl,
        List.map_cons, List.map_nil, List.cons_append, List.nil_append, List.append_nil, List.length_cons, List.length_nil, List.replicate_succ, List.replicate_zero, List.set_cons_zero, List.set_cons_succ, List.getElem?_cons_zero, List.getElem?_cons_succ, List.getD_cons_zero, List.getD_cons_succ, Nat.reduceAdd, Nat.reduceSub, Nat.zero_add, Option.some.injEq, reduceIte, Bool.not_true, Bool.not_false, true_and, and_true]
      exact q
  refine ⟨fd, ⟨t.g_plain_product, F.kp, ok⟩, ?_⟩
  · refine bnd_of F 2 ["base"] [] [0, 1, 2] [] (by simp) rfl ?_
    intro kV doc pm an cdv ct D us mv ws h1 h2 h3 h4
    match us, mv, ws, h1, h2, h3 with
    | [u0, u1], [], [v0], _, _, _ => exact rfl
theorem kn_plain_carries (t : T w K mg) : ∃ fd, Known PR w K mg base 2 "plain_carries" (He.ga K "plain_carries") fd ["one", "other", "base"] DWd 3 aPlainC ∧ Bnd K fd ["one", "other", "base"] 2 ["base"] [0, 1, 2] [] := by
  obtain ⟨fd, F⟩ := t.f_plain_carries
  obtain ⟨fd_carried, k_carried, b_carried_0⟩ := kn_carried (w := w) (base := base) t
  obtain ⟨fd_column_sums, k_column_sums, b_column_sums_0⟩ := kn_column_sums (w := w) (base := base) t
  have ok : FnG PR w K mg base (L2.CX PR w) 2 (He.ga K "plain_carries") fd ["one", "other", "base"] (toSp DWd K 3 aPlainC) := by
    refine fn_ok (N := n_plain_carries) DWd aPlainC F S_plain_carries fun cdv A outer s H E hr hG => ?_
    have S := S_plain_carries
    refine ⟨_, (gss_cons (gs_asg (ge_call1 k_carried (Room.mono hr (by decide)) hG tk_cx b_carried_0 (fun B => .nil) (ga_cons (ge_call1 k_column_sums (Room.mono hr (by decide)) hG tk_cx b_column_sums_0 (fun B => .nil) (ga_cons (ge_var 0) (ga_cons (ge_var 1) ga_nil))) (ga_cons (ge_var 2) ga_nil))) (gg_tup rfl (ggs_cons (gg_name 3 S.nd) (ggs_cons (gg_name 4 S.nd) ggs_nil)) (AL.len (al_cons aex_name (al_cons aex_name al_nil)))))
      (gss_one (gs_ret (ge_var 4)))), ?_⟩
    clear S hr hG F t k_carried b_carried_0 k_column_sums b_column_sums_0
    rintro ds ω Qa Ea ⟨xs, ys, b, rfl, hb, h1, h2, l1, l2, q⟩ _
    simp (maxSteps := 2000000) only [MR.sNil, MR.sSeq, MR.sDrop, MR.sRet, MR.sRetN, MR.sBreak, MR.sCont, MR.sIf, MR.sSet, MR.sOwn, MR.sAsg, MR.sPar, MR.sAug, MR.sFrz, MR.sApp, MR.sPut, MR.sExt, MR.aName, MR.aTup, MR.aNil, MR.aCons, MR.frz,
        MR.gVar, MR.gC, MR.gOp, MR.gB, MR.bK, MR.gTru, MR.gNotT, MR.gAndT, MR.gOrT, MR.gAndV, MR.gOrV, MR.gNotV, MR.gIf, MR.gChain, MR.gNil, MR.gCons, MR.gTup, MR.gLst, MR.gFz, MR.gOwn, MR.gAsL, MR.gNo, MR.gPart, MR.gSl, MR.gSlF, MR.gUn, MR.gIxL, MR.gFn, MR.gLenL, MR.gYes,
        MR.fAddI, MR.fSub, MR.fDiv, MR.fMod, MR.fPow, MR.fLe, MR.fGt, MR.fGe, MR.fIs, MR.fIsN, MR.fNeg, MR.fMin, MR.fMax, MR.fDivmod, MR.fSum, MR.fAll, MR.fRepr, MR.fIsi, MR.tyD, MR.dInt, MR.dBool, MR.dTup, MR.dStr, MR.dLst,
        MR.gDkT, MR.gDkS, MR.gDkNe, MR.gDkPop, MR.sDkApp, MR.sDkPut, MR.gScr, MR.sDeck, MR.gCall, MR.sel, MR.sFor, MR.sForR1, MR.sForR2, MR.sWhile, MR.sForE, MR.sAugP, MR.gRepL, MR.gCatL, MR.gComp, MR.gCompR, MR.startA, MR.wipeA, MR.sNever, MR.gNever, MR.tNev, MR.sAsg2, MR.fMulS_str, MR.fIntS_str, MR.sParO, MR.sForG, MR.gCompG, MR.iSeqG, MR.iR1G, MR.iR2G, MR.iR3G, MR.iZipG, MR.iEnumG, MR.iEnumLG, MR.iRevG,
        MR.fTru_bl, MR.fTru_non, MR.fTru_int, MR.fTru_str, MR.fTru_lst, MR.fTru_tup, MR.fAdd_int, MR.fAdd_str, MR.fAdd_tup, MR.fAdd_lst, MR.fMul_int, MR.fMul_tup, MR.fMul_lst, MR.fEq_int, MR.fEq_str, MR.fEq_bl, MR.fEq_tup_tup, MR.fEq_tup_lst, MR.fEq_tup_int, MR.fEq_tup_non, MR.fEq_tup_str, MR.fEq_tup_bl, MR.fEq_lst_tup, MR.fEq_lst_lst, MR.fEq_lst_int, MR.fEq_lst_non, MR.fEq_lst_str, MR.fEq_lst_bl, MR.fEq_int_tup, MR.fEq_int_lst, MR.fEq_int_non, MR.fEq_int_str, MR.fEq_int_bl, MR.fEq_non_tup, MR.fEq_non_lst, MR.fEq_non_int, MR.fEq_non_non, MR.fEq_non_str, MR.fEq_non_bl, MR.fEq_str_tup, MR.fEq_str_lst, MR.fEq_str_int, MR.fEq_str_non, MR.fEq_str_bl, MR.fEq_bl_tup, MR.fEq_bl_lst, MR.fEq_bl_int, MR.fEq_bl_non, MR.fEq_bl_str, MR.fNe_int, MR.fNe_str, MR.fNe_bl, MR.fNe_tup_tup, MR.fNe_tup_lst, MR.fNe_tup_int, MR.fNe_tup_non, MR.fNe_tup_str, MR.fNe_tup_bl, MR.fNe_lst_tup, MR.fNe_lst_lst, MR.fNe_lst_int, MR.fNe_lst_non, MR.fNe_lst_str, MR.fNe_lst_bl, MR.fNe_int_tup, MR.fNe_int_lst, MR.fNe_int_non, MR.fNe_int_str, MR.fNe_int_bl, MR.fNe_non_tup, MR.fNe_non_lst, MR.fNe_non_int, MR.fNe_non_non, MR.fNe_non_str, MR.fNe_non_bl, MR.fNe_str_tup, MR.fNe_str_lst, MR.fNe_str_int, MR.fNe_str_non, MR.fNe_str_bl, MR.fNe_bl_tup, MR.fNe_bl_lst, MR.fNe_bl_int, MR.fNe_bl_non, MR.fNe_bl_str, MR.fLt_int, MR.fIx_tup, MR.fSl_tup, MR.fLen_tup, MR.fTuple_tup, MR.fRev_tup, MR.fIx_lst, MR.fSl_lst, MR.fLen_lst, MR.fTuple_lst, MR.fRev_lst, MR.fIx_str, MR.fSl_str, MR.fLen_str, MR.fInt_int, MR.fInt_bl,
        List.map_cons, List.map_nil, List.cons_append, List.nil_append, List.append_nil, List.length_cons, List.length_nil, List.replicate_succ, List.replicate_zero, List.set_cons_zero, List.set_cons_succ, List.getElem?_cons_zero, List.getElem?_cons_succ, List.getD_cons_zero, List.getD_cons_succ, Nat.reduceAdd, Nat.reduceSub, Nat.zero_add, Option.some.injEq, reduceIte, Bool.not_true, Bool.not_false, true_and, and_true]
    refine ⟨xs, ys, rfl, h1.lim.small hb.2, h2.lim.small hb.2, l1, l2, ?_⟩
    simp (maxSteps := 2000000) only [MR.sNil, MR.sSeq, MR.sDrop, MR.sRet, MR.sRetN, MR.sBreak, MR.sCont, MR.sIf, MR.sSet, MR.sOwn, MR.sAsg, MR.sPar, MR.sAug, MR.sFrz, MR.sApp, MR.sPut, MR.sExt, MR.aName, MR.aTup, MR.aNil, MR.aCons, MR.frz,
        MR.gVar, MR.gC, MR.gOp, MR.gB, MR.bK, MR.gTru, MR.gNotT, MR.gAndT, MR.gOrT, MR.gAndV, MR.gOrV, MR.gNotV, MR.gIf, MR.gChain, MR.gNil, MR.gCons, MR.gTup, MR.gLst, MR.gFz, MR.gOwn, MR.gAsL, MR.gNo, MR.gPart, MR.gSl, MR.gSlF, MR.gUn, MR.gIxL, MR.gFn, MR.gLenL, MR.gYes,
        MR.fAddI, MR.fSub, MR.fDiv, MR.fMod, MR.fPow, MR.fLe, MR.fGt, MR.fGe, MR.fIs, MR.fIsN, MR.fNeg, MR.fMin, MR.fMax, MR.fDivmod, MR.fSum, MR.fAll, MR.fRepr, MR.fIsi, MR.tyD, MR.dInt, MR.dBool, MR.dTup, MR.dStr, MR.dLst,
        MR.gDkT, MR.gDkS, MR.gDkNe, MR.gDkPop, MR.sDkApp, MR.sDkPut, MR.gScr, MR.sDeck, MR.gCall, MR.sel, MR.sFor, MR.sForR1, MR.sForR2, MR.sWhile, MR.sForE, MR.sAugP, MR.gRepL, MR.gCatL, MR.gComp, MR.gCompR, MR.startA, MR.wipeA, MR.sNever, MR.gNever, MR.tNev, MR.sAsg2, MR.fMulS_str, MR.fIntS_str, MR.sParO, MR.sForG, MR.gCompG, MR.iSeqG, MR.iR1G, MR.iR2G, MR.iR3G, MR.iZipG, MR.iEnumG, MR.iEnumLG, MR.iRevG,
        MR.fTru_bl, MR.fTru_non, MR.fTru_int, MR.fTru_str, MR.fTru_lst, MR.fTru_tup, MR.fAdd_int, MR.fAdd_str, MR.fAdd_tup, MR.fAdd_lst, MR.fMul_int, MR.fMul_tup, MR.fMul_lst, MR.fEq_int, MR.fEq_str, MR.fEq_bl, MR.fEq_tup_tup, MR.fEq_tup_lst, MR.fEq_tup_int, MR.fEq_tup_non, MR.fEq_tup_str, MR.fEq_tup_bl, MR.fEq_lst_tup, MR.fEq_lst_lst, MR.fEq_lst_int, MR.fEq_lst_non, MR.fEq_lst_str, MR.fEq_lst_bl, MR.fEq_int_tup, MR.fEq_int_lst, MR.fEq_int_non, MR.fEq_int_str, MR.fEq_int_bl, MR.fEq_non_tup, MR.fEq_non_lst, MR.fEq_non_int, MR.fEq_non_non, MR.fEq_non_str, MR.fEq_non_bl, MR.fEq_str_tup, MR.fEq_str_lst, MR.fEq_str_int, MR.fEq_str_non, MR.fEq_str_bl, MR.fEq_bl_tup, MR.fEq_bl_lst, MR.fEq_bl_int, MR.fEq_bl_non, MR.fEq_bl_str, MR.fNe_int, MR.fNe_str, MR.fNe_bl, MR.fNe_tup_tup, MR.fNe_tup_lst, MR.fNe_tup_int, MR.fNe_tup_non, MR.fNe_tup_str, MR.fNe_tup_bl, MR.fNe_lst_tup, MR.fNe_lst_lst, MR.fNe_lst_int, MR.fNe_lst_non, MR.fNe_lst_str, MR.fNe_lst_bl, MR.fNe_int_tup, MR.fNe_int_lst, MR.fNe_int_non, MR.fNe_int_str, MR.fNe_int_bl, MR.fNe_non_tup, MR.fNe_non_lst, MR.fNe_non_int, MR.fNe_non_non, MR.fNe_non_str, MR.fNe_non_bl, MR.fNe_str_tup, MR.fNe_str_lst, MR.fNe_str_int, MR.fNe_str_non, MR.fNe_str_bl, MR.fNe_bl_tup, MR.fNe_bl_lst, MR.fNe_bl_int, MR.fNe_bl_non, MR.fNe_bl_str, MR.fLt_int, MR.fIx_tup, MR.fSl_tup, MR.fLen_tup, MR.fTuple_tup, MR.fRev_tup, MR.fIx_lst, MR.fSl_lst, MR.fLen_lst, MR.fTuple_lst, MR.fRev_lst, MR.fIx_str, MR.fSl_str, MR.fLen_str, MR.fInt_int, MR.fInt_bl,
        List.map_cons, List.map_nil, List.cons_append, List.nil_append, List.append_nil, List.length_cons, List.length_nil, List.replicate_succ, List.replicate_zero, List.set_cons_zero, List.set_cons_succ, List.getElem?_cons_zero, List.getElem?_cons_succ, List.getD_cons_zero, List.getD_cons_succ, Nat.reduceAdd, Nat.reduceSub, Nat.zero_add, Option.some.injEq, reduceIte, Bool.not_true, Bool.not_false, true_and, and_true]
    refine ⟨cols xs ys, b, .inl rfl, hb, ?_, ?_⟩
    · by_cases c1 : xs = []
      · rw [show cols xs ys = [] from if_pos (.inl c1)]
        exact Nat.zero_le _
      · by_cases c2 : ys = []
        · rw [show cols xs ys = [] from if_pos (.inr c2)]
          exact Nat.zero_le _
        · rw [cols_len xs ys c1 c2]
          omega
    · simp (maxSteps := 2000000) only [MR.sNil, MR.sSeq, MR.sDrop, MR.sRet, MR.sRetN, MR.sBreak, MR.sCont, MR.sIf, MR.sSet, MR.sOwn, MR.sAsg, MR.sPar, MR.sAug, MR.sFrz, MR.sApp, MR.sPut, MR.sExt, MR.aName, MR.aTup, MR.aNil, MR.aCons, MR.frz,
        MR.gVar, MR.gC, MR.gOp, MR.gB, MR.bK, MR.gTru, MR.gNotT, MR.gAndT, MR.gOrT, MR.gAndV, MR.gOrV, MR.gNotV, MR.gIf, MR.gChain, MR.gNil, MR.gCons, MR.gTup, MR.gLst, MR.gFz, MR.gOwn, MR.gAsL, MR.gNo, MR.gPart, MR.gSl, MR.gSlF, MR.gUn, MR.gIxL, MR.gFn, MR.gLenL, MR.gYes,
        MR.fAddI, MR.fSub, MR.fDiv, MR.fMod, MR.fPow, MR.fLe, MR.fGt, MR.fGe, MR.fIs, MR.fIsN, MR.fNeg, MR.fMin, MR.fMax, MR.fDivmod, MR.fSum, MR.fAll, MR.fRepr, MR.fIsi, MR.tyD, MR.dInt, MR.dBool, MR.dTup, MR.dStr, MR.dLst,
        MR.gDkT, MR.gDkS, MR.gDkNe, MR.gDkPop, MR.sDkApp, MR.sDkPut, MR.gScr, MR.sDeck, MR.gCall, MR.sel, MR.sFor, MR.sForR1, MR.sForR2, MR.sWhile, MR.sForE, MR.sAugP, MR.gRepL, MR.gCatL, MR.gComp, MR.gCompR, MR.startA, MR.wipeA, MR.sNever, MR.gNever, MR.tNev, MR.sAsg2, MR.fMulS_str, MR.fIntS_str, MR.sParO, MR.sForG, MR.gCompG, MR.iSeqG, MR.iR1G, MR.iR2G, MR.iR3G, MR.iZipG, MR.iEnumG, MR.iEnumLG, MR.iRevG,
        MR.fTru_bl, MR.fTru_non, MR.fTru_int, MR.fTru_str, MR.fTru_lst, MR.fTru_tup, MR.fAdd_int, MR.fAdd_str, MR.fAdd_tup, MR.fAdd_lst, MR.fMul_int, MR.fMul_tup, MR.fMul_lst, MR.fEq_int, MR.fEq_str, MR.fEq_bl, MR.fEq_tup_tup, MR.fEq_tup_lst, MR.fEq_tup_int, MR.fEq_tup_non, MR.fEq_tup_str, MR.fEq_tup_bl, MR.fEq_lst_tup, MR.fEq_lst_lst, MR.fEq_lst_int, MR.fEq_lst_non, MR.fEq_lst_str, MR.fEq_lst_bl, MR.fEq_int_tup, MR.fEq_int_lst, MR.fEq_int_non, MR.fEq_int_str, MR.fEq_int_bl, MR.fEq_non_tup, MR.fEq_non_lst, MR.fEq_non_int, MR.fEq_non_non, MR.fEq_non_str, MR.fEq_non_bl, MR.fEq_str_tup, MR.fEq_str_lst, MR.fEq_str_int, MR.fEq_str_non, MR.fEq_str_bl, MR.fEq_bl_tup, MR.fEq_bl_lst, MR.fEq_bl_int, MR.fEq_bl_non, MR.fEq_bl_str, MR.fNe_int, MR.fNe_str, MR.fNe_bl, MR.fNe_tup_tup, MR.fNe_tup_lst, MR.fNe_tup_int, MR.fNe_tup_non, MR.fNe_tup_str, MR.fNe_tup_bl, MR.fNe_lst_tup, MR.fNe_lst_lst, MR.fNe_lst_int, MR.fNe_lst_non, MR.fNe_lst_str, MR.fNe_lst_bl, MR.fNe_int_tup, MR.fNe_int_lst, MR.fNe_int_non, MR.fNe_int_str, MR.fNe_int_bl, MR.fNe_non_tup, MR.fNe_non_lst, MR.fNe_non_int, MR.fNe_non_non, MR.fNe_non_str, MR.fNe_non_bl, MR.fNe_str_tup, MR.fNe_str_lst, MR.fNe_str_int, MR.fNe_str_non, MR.fNe_str_bl, MR.fNe_bl_tup, MR.fNe_bl_lst, MR.fNe_bl_int, MR.fNe_bl_non, MR.fNe_bl_str, MR.fLt_int, MR.fIx_tup, MR.fSl_tup, MR.fLen_tup, MR.fTuple_tup, MR.fRev_tup, MR.fIx_lst, MR.fSl_lst, MR.fLen_lst, MR.fTuple_lst, MR.fRev_lst, MR.fIx_str, MR.fSl_str, MR.fLen_str, MR.fInt_int, MR.fInt_bl,
        List.map_cons, List.map_nil, List.cons_append, List.nil_append, List.append_nil, List.length_cons, List.length_nil, List.replicate_succ, List.replicate_zero, List.set_cons_zero, List.set_cons_succ, List.getElem?_cons_zero, List.getElem?_cons_succ, List.getD_cons_zero, List.getD_cons_succ, Nat.reduceAdd, Nat.reduceSub, Nat.zero_add, Option.some.injEq, reduceIte, Bool.not_true, Bool.not_false, true_and, and_true]
      exact q
  refine ⟨fd, ⟨t.g_plain_carries, F.kp, ok⟩, ?_⟩
  · refine bnd_of F 2 ["base"] [] [0, 1, 2] [] (by simp) rfl ?_
    intro kV doc pm an cdv ct D us mv ws h1 h2 h3 h4
    match us, mv, ws, h1, h2, h3 with
    | [u0, u1], [], [v0], _, _, _ => exact rfl
theorem kr_paper_of (t : T w K mg) : ∀ (dd : Nat) (base : Heap), Tb K mg base → ∃ fd, KnownC PR w K mg base (6 + 3 * dd) "paper_of" (He.ga K "paper_of") fd ["one", "other", "many", "road_of", "base"] 3 (TWd (tlOf K xs_)) (aPaperOf dd) 4 1 cRoad ∧ Bnd K fd ["one", "other", "many", "road_of", "base"] 4 ["base"] [0, 1, 2, 3, 4] []
  | 0, base, tb => by
    obtain ⟨fd, F⟩ := t.f_paper_of
    refine ⟨fd, ⟨t.g_paper_of, F.kp, fnC_no fun _ _ _ _ _ h => h⟩, ?_⟩
    · refine bnd_of F 4 ["base"] [] [0, 1, 2, 3, 4] [] (by simp) rfl ?_
      intro kV doc pm an cdv ct D us mv ws h1 h2 h3 h4
      match us, mv, ws, h1, h2, h3 with
      | [u0, u1, u2, u3], [], [v0], _, _, _ => exact rfl
  | dd + 1, base, tb => by
    obtain ⟨fd, F⟩ := t.f_paper_of
    have ok : FnC PR w K mg base (6 + 3 * dd + 2 + 1) (He.ga K "paper_of") fd ["one", "other", "many", "road_of", "base"] 3 (TWd (tlOf K xs_)) (aPaperOf (dd + 1)) 4 1 cRoad := by
      refine fn_okC (wd := TWd (tlOf K xs_)) (N := n_paper_of) (aPaperOf (dd + 1)) cRoad F S_paper_of fun cdv hcd base1 up A outer s H E hr hG θ r So B0 hat hrun => ?_
      obtain ⟨fd_by_halves, k_by_halves, b_by_halves_0⟩ := kn_by_halves (w := w) (base := base1) t (6 + 3 * dd + 1) (by omega)
      obtain ⟨fd_by_thirds, k_by_thirds, b_by_thirds_0⟩ := kn_by_thirds (w := w) (base := base1) t (6 + 3 * dd + 1) (by omega)
      obtain ⟨fd_plain_product, k_plain_product, b_plain_product_0⟩ := kn_plain_product (w := w) (base := base1) t
      replace k_plain_product := (k_plain_product.liftT (tlOf K xs_)).liftB B0
      obtain ⟨fd_plain_carries, k_plain_carries, b_plain_carries_0⟩ := kn_plain_carries (w := w) (base := base1) t
      replace k_plain_carries := (k_plain_carries.liftT (tlOf K xs_)).liftB B0
      have S := S_paper_of
      have hcode := hcd.symm.trans (code_at t.tB (by simp) F)
      refine ⟨_, (gss_cons (gs_if (GW.gt (gw_or (gt_cmp (m_eq (un64 hr)) op2_eq (nomark _) (ge_var 0) (ge_tup ga_nil)) (gw_or1 (gt_cmp (m_eq (un64 hr)) op2_eq (nomark _) (ge_var 1) (ge_tup ga_nil)))))
      (gss_one (gs_ret (ge_tup (ga_cons (ge_tup ga_nil) (ga_cons (ge_tup (ga_cons ge_str (ga_cons (ge_tup ga_nil) ga_nil))) ga_nil)))))
      gss_nil)
      (gss_cons (gs_set 5 S.nd (ge_callC 3 hat hrun hr (by omega) hG tk_cx (ga_cons (ge_var 2) ga_nil)))
      (gss_cons (gs_if (gt_cmp (m_eq (un64 hr)) op2_eq (nomark _) (ge_var 5) ge_str)
      (gss_one (gs_ret (ge_tup (ga_cons (ge_call2 k_plain_product (Room.mono hr (by omega)) hG tk_cx b_plain_product_0 (fun B => .nil) (ga_cons (ge_var 0) (ga_cons (ge_var 1) ga_nil)) (gk_cons (ge_var 4) gk_nil)) (ga_cons (ge_tup (ga_cons ge_str (ga_cons (ge_call2 k_plain_carries (Room.mono hr (by omega)) hG tk_cx b_plain_carries_0 (fun B => .nil) (ga_cons (ge_var 0) (ga_cons (ge_var 1) ga_nil)) (gk_cons (ge_var 4) gk_nil)) ga_nil))) ga_nil)))))
      gss_nil)
      (gss_cons (gs_set 6 S.nd (ge_if (gt_cmp (m_eq (un64 hr)) op2_eq (nomark _) (ge_var 5) ge_str) (ge_gdef t.g_by_halves) (ge_gdef t.g_by_thirds)))
      (gss_one (gs_ret (GE.or (ge_callLn 6 (LK := LKp dd θ r) (js := [3, 4]) (fr := ["road_of", "base"]) (Nl := ["x", "y", "fewer", "road_of", "base"]) (psl := ["x", "y", "fewer"]) (fun _ => rfl) k_by_halves.ok k_by_halves.keep (Room.mono hr (by omega)) hG tk_cx b_by_halves_0 (fun B => .nil) rfl rfl (ge_var 0) (ge_var 1) (ge_var 2) (gk_cons (ge_var 4) gk_nil) (tabB_up (tb _ (tabsB_at t.tB (by simp)).2) up) hcode (tlOf_mem List.mem_cons_self) (tlOf_uniq t.tB List.mem_cons_self) rfl (NdefX.nscope_by (by rfl)) (free_by (by rfl)) rfl (fun _ _ _ _ _ us h => match us, h with | [_, _, _], _ => rfl) hat ?hlam_by_halves) (ge_callLn 6 (LK := LKp dd θ r) (js := [3, 4]) (fr := ["road_of", "base"]) (Nl := ["x", "y", "fewer", "road_of", "base"]) (psl := ["x", "y", "fewer"]) (fun _ => rfl) k_by_thirds.ok k_by_thirds.keep (Room.mono hr (by omega)) hG tk_cx b_by_thirds_0 (fun B => .nil) rfl rfl (ge_var 0) (ge_var 1) (ge_var 2) (gk_cons (ge_var 4) gk_nil) (tabB_up (tb _ (tabsB_at t.tB (by simp)).2) up) hcode (tlOf_mem List.mem_cons_self) (tlOf_uniq t.tB List.mem_cons_self) rfl (NdefX.nscope_by (by rfl)) (free_by (by rfl)) rfl (fun _ _ _ _ _ us h => match us, h with | [_, _, _], _ => rfl) hat ?hlam_by_thirds)))))))), ?_⟩
      case hlam_by_halves =>
        intro θ2 caps hLK B2 r2 c2 cl2 So2 base2 up2 A2 outer2 s2 H2 E2 hsame hsub hr2 hG2 hat2
        obtain ⟨fd_paper_of, k_paper_of, b_paper_of_0⟩ := kr_paper_of t dd base2 (fun p hp => tabB_up (tb p hp) (up.trans up2))
        refine ⟨_, (ge_callFC (θ := θ) k_paper_of.at_ k_paper_of.ok k_paper_of.keep (Room.mono hr2 (by omega)) hG2 tk_ncx b_paper_of_0 (fun B => .nil) rfl (hat.up up2.up) (hrun.up up2) hsame (ga_cons (ge_var 0) (ga_cons (ge_var 1) (ga_cons (ge_var 2) (ga_cons (ge_var 3) ga_nil)))) (gk_cons (ge_var 4) gk_nil)), ?_⟩
        clear k_paper_of b_paper_of_0 hr2 hG2 up2 hat2
        rintro ds ω Qa Ea ⟨x, y, h, rfl, h1, h2, hx, hy, q⟩ _
        obtain ⟨b2, n2, p2⟩ := θ2
        obtain ⟨e1, e2, e3, e4, ok, hb, rfl⟩ := hLK
        obtain ⟨rfl, rfl⟩ : b2 = θ.b ∧ p2 = pap θ.b θ.road dd := ⟨congrArg DlT.b e1, congrArg DlT.pap e1⟩
        erw [startL]
        match dd, e2 with
        | 0, e2 => omega
        | dd + 1, e2 => exact ⟨x, y, h, r, rfl, hb, by omega, by omega, by omega, e4, ok, hx, hy, q⟩
      case hlam_by_thirds =>
        intro θ2 caps hLK B2 r2 c2 cl2 So2 base2 up2 A2 outer2 s2 H2 E2 hsame hsub hr2 hG2 hat2
        obtain ⟨fd_paper_of, k_paper_of, b_paper_of_0⟩ := kr_paper_of t dd base2 (fun p hp => tabB_up (tb p hp) (up.trans up2))
        refine ⟨_, (ge_callFC (θ := θ) k_paper_of.at_ k_paper_of.ok k_paper_of.keep (Room.mono hr2 (by omega)) hG2 tk_ncx b_paper_of_0 (fun B => .nil) rfl (hat.up up2.up) (hrun.up up2) hsame (ga_cons (ge_var 0) (ga_cons (ge_var 1) (ga_cons (ge_var 2) (ga_cons (ge_var 3) ga_nil)))) (gk_cons (ge_var 4) gk_nil)), ?_⟩
        clear k_paper_of b_paper_of_0 hr2 hG2 up2 hat2
        rintro ds ω Qa Ea ⟨x, y, h, rfl, h1, h2, hx, hy, q⟩ _
        obtain ⟨b2, n2, p2⟩ := θ2
        obtain ⟨e1, e2, e3, e4, ok, hb, rfl⟩ := hLK
        obtain ⟨rfl, rfl⟩ : b2 = θ.b ∧ p2 = pap θ.b θ.road dd := ⟨congrArg DlT.b e1, congrArg DlT.pap e1⟩
        erw [startL]
        match dd, e2 with
        | 0, e2 => omega
        | dd + 1, e2 => exact ⟨x, y, h, r, rfl, hb, by omega, by omega, by omega, e4, ok, hx, hy, q⟩
      clear S hr hG hat hrun k_by_halves b_by_halves_0 k_by_thirds b_by_thirds_0 k_plain_product b_plain_product_0 k_plain_carries b_plain_carries_0
      rintro ds ω Qa Ea ⟨x, y, n, r', e, hb, n0, hn, hm, hM, ok, hx, hy, q⟩ hr3 _
      subst e
      have er : r' = r := D.adr.inj (Option.some.inj hr3)
      subst er
      have zx : digs θ.b x = [] ↔ x = 0 := digs_nil0 hx hb
      have zy : digs θ.b y = [] ↔ y = 0 := digs_nil0 hy hb
      have lx := hx.len hb
      have ly := hy.len hb
      show sSeq _ _ _ _ _
      refine seq_opq fun N hN => ?_
      erw []
      by_cases c1 : x = 0
      · rw [if_pos (zx.mpr c1)]
        rw [c1, Int.zero_mul, digs_zero hb] at q
        simp only [pap, true_or, ite_true] at q
        exact q
      rw [if_neg (fun h => c1 (zx.mp h))]
      by_cases c2 : y = 0
      · rw [if_pos (zy.mpr c2)]
        rw [c2, Int.mul_zero, digs_zero hb] at q
        simp only [pap, or_true, ite_true] at q
        exact q
      rw [if_neg (fun h => c2 (zy.mp h))]
      have n1 : 1 ≤ n := by
        by_cases g : n = 0
        · rw [g] at hx
          exact absurd (nb_none hx) c1
        · omega
      rw [pap, if_neg (fun h => h.elim c1 c2)] at q
      show N _ _
      rw [hN]
      clear hN
      show sSeq _ _ _ _ _
      refine seq_opq fun N hN => ?_
      erw [cRoad]
      refine ⟨n1, hm, ?_⟩
      obtain ⟨ok1, ok2⟩ := ok n n1 hm
      rcases road_cases ok1 with e | e | e
      · rw [e] at q ⊢
        rw [if_pos rfl] at q
        show N _ _
        rw [hN]
        clear hN
        erw [aPlain, aPlainC]
        refine ⟨hb, hx.is hb, hy.is hb, by omega, by omega, hb, hx.is hb, hy.is hb, by omega, by omega, ?_⟩
        rw [hx.w hb, hy.w hb]
        exact q
      · rw [e, go_h] at ok2
        have n2 : 2 ≤ n := of_decide_eq_true ok2
        have ne : ¬ θ.road n = "plain" := by rw [e]; decide
        rw [if_neg ne, if_pos e] at q
        rw [e]
        show N _ _
        rw [hN]
        clear hN
        show sSeq _ _ _ _ _
        refine seq_opq fun N hN => ?_
        erw []
        show N _ _
        rw [hN]
        clear hN
        show sSeq _ _ _ _ _
        refine seq_opq fun N hN => ?_
        erw []
        show N _ _
        rw [hN]
        clear hN
        erw []
        left
        erw [aByHalves]
        refine ⟨⟨θ.b, n, pap θ.b θ.road dd⟩, [.adr r', .int θ.b], rfl, ⟨rfl, hn, hm, hM, ok, hb, rfl⟩, fun r => ⟨x, rfl, y, rfl, rfl, rfl, hb, n2, Int.le_trans hm hM, hx, hy, q⟩⟩
      · rw [e] at ok2
        have ne : ¬ θ.road n = "plain" := by rw [e]; decide
        have ne2 : ¬ θ.road n = "halves" := by rw [e]; decide
        rw [if_neg ne, if_neg ne2] at q
        rw [e]
        show N _ _
        rw [hN]
        clear hN
        show sSeq _ _ _ _ _
        refine seq_opq fun N hN => ?_
        erw []
        show N _ _
        rw [hN]
        clear hN
        show sSeq _ _ _ _ _
        refine seq_opq fun N hN => ?_
        erw []
        show N _ _
        rw [hN]
        clear hN
        erw []
        right
        erw [aByThirds]
        refine ⟨⟨θ.b, n, pap θ.b θ.road dd⟩, [.adr r', .int θ.b], rfl, ⟨rfl, hn, hm, hM, ok, hb, rfl⟩, fun r => ⟨x, rfl, y, rfl, rfl, rfl, hb, ok2, Int.le_trans hm hM, hx, hy, q⟩⟩
    refine ⟨fd, ⟨t.g_paper_of, F.kp, ok⟩, ?_⟩
    · refine bnd_of F 4 ["base"] [] [0, 1, 2, 3, 4] [] (by simp) rfl ?_
      intro kV doc pm an cdv ct D us mv ws h1 h2 h3 h4
      match us, mv, ws, h1, h2, h3 with
      | [u0, u1, u2, u3], [], [v0], _, _, _ => exact rfl
theorem kn_paper_of (t : T w K mg) (tb : Tb K mg base) : ∃ fd, KnownC PR w K mg base (6 + 3 * 41) "paper_of" (He.ga K "paper_of") fd ["one", "other", "many", "road_of", "base"] 3 (TWd (tlOf K xs_)) (aPaperOf 41) 4 1 cRoad ∧ Bnd K fd ["one", "other", "many", "road_of", "base"] 4 ["base"] [0, 1, 2, 3, 4] [] := kr_paper_of t 41 base tb
def aMayGo : ASp DWd := fun ds ω Q _ => ∃ z n b, ds = [.str z, .int n, .int b] ∧ isRd z = true ∧ 0 ≤ n ∧ n ≤ 10000 ∧ 2 ≤ b ∧ b ≤ 20000 ∧ Q (.bl (goB z n b)) ω
theorem kn_may_go (t : T w K mg) : ∃ fd, Known PR w K mg base 2 "may_go" (He.ga K "may_go") fd ["road", "many", "base"] DWd 3 aMayGo ∧ Bnd K fd ["road", "many", "base"] 2 ["base"] [0, 1, 2] [] := by
  obtain ⟨fd, F⟩ := t.f_may_go
  obtain ⟨fd_third_of, k_third_of, b_third_of_0⟩ := kn_third_of (w := w) (base := base) t
  obtain ⟨fd_spare_of, k_spare_of, b_spare_of_0⟩ := kn_spare_of (w := w) (base := base) t
  have ok : FnG PR w K mg base (L2.CX PR w) 2 (He.ga K "may_go") fd ["road", "many", "base"] (toSp DWd K 3 aMayGo) := by
    refine fn_ok (N := n_may_go) DWd aMayGo F S_may_go fun cdv A outer s H E hr hG => ?_
    have S := S_may_go
    refine ⟨_, (gss_cons (gs_if (gt_cmp (m_lt (un0 hr)) op2_lt (nomark _) (ge_var 1) (ge_kd t.c_FEWEST t.k_FEWEST (ge_var 0)))
      (gss_one (gs_ret ge_bl))
      gss_nil)
      (gss_one (gs_ret (ge_or (ge_cmp (m_ne (un64 hr)) op2_ne (nomark _) (ge_var 0) ge_str) (ge_one (ge_cmp (m_lt (un0 hr)) op2_lt (nomark _) (ge_add (ge_call1 k_third_of (Room.mono hr (by decide)) hG tk_cx b_third_of_0 (fun B => .nil) (ga_cons (ge_var 1) ga_nil)) (ge_call1 k_spare_of (Room.mono hr (by decide)) hG tk_cx b_spare_of_0 (fun B => .nil) (ga_cons (ge_var 2) ga_nil))) (ge_var 1))))))), ?_⟩
    clear S hr hG F t k_third_of b_third_of_0 k_spare_of b_spare_of_0
    rintro ds ω Qa Ea ⟨z, n, b, rfl, hz, n0, n1, b0, b1, q⟩ _
    obtain ⟨r1, r2, r3, r4, r5, r6⟩ := rd_ne
    rcases road_cases hz with rfl | rfl | rfl
    · rw [go_p] at q
      by_cases c : n < 1
      · erw [few_p, c]
        rw [decide_eq_false (by omega)] at q
        exact q
      · erw [few_p, c, r4]
        rw [decide_eq_true (by omega)] at q
        exact q
    · rw [go_h] at q
      by_cases c : n < 2
      · erw [few_h, c]
        rw [decide_eq_false (by omega)] at q
        exact q
      · erw [few_h, c, r5]
        rw [decide_eq_true (by omega)] at q
        exact q
    · rw [go_t] at q
      by_cases c : n < 5
      · erw [few_t, c]
        rw [decide_eq_false (by omega)] at q
        exact q
      · rw [decide_eq_true (by omega), Bool.true_and] at q
        erw [few_t, c, aThird, aSpare]
        exact ⟨n0, n1, b0, b1, q⟩
  refine ⟨fd, ⟨t.g_may_go, F.kp, ok⟩, ?_⟩
  · refine bnd_of F 2 ["base"] [] [0, 1, 2] [] (by simp) rfl ?_
    intro kV doc pm an cdv ct D us mv ws h1 h2 h3 h4
    match us, mv, ws, h1, h2, h3 with
    | [u0, u1], [], [v0], _, _, _ => exact rfl
theorem kn_road_for (t : T w K mg) : ∃ fd, Known PR w K mg base 3 "road_for" (He.ga K "road_for") fd ["road", "many", "base"] DWd 3 aRoadFor ∧ Bnd K fd ["road", "many", "base"] 2 ["base"] [0, 1, 2] [] := by
  obtain ⟨fd, F⟩ := t.f_road_for
  obtain ⟨fd_may_go, k_may_go, b_may_go_0⟩ := kn_may_go (w := w) (base := base) t
  have ok : FnG PR w K mg base (L2.CX PR w) 3 (He.ga K "road_for") fd ["road", "many", "base"] (toSp DWd K 3 aRoadFor) := by
    refine fn_ok (N := n_road_for) DWd aRoadFor F S_road_for fun cdv A outer s H E hr hG => ?_
    have S := S_road_for
    refine ⟨_, (gss_cons (gs_for po_cx rfl (ge_tup (ga_cons (ge_var 0) (ga_cons ge_str ga_nil))) (gg_name 3 S.nd)
      (gss_one (gs_if (gt_tru (ge_call2 k_may_go (Room.mono hr (by decide)) hG tk_cx b_may_go_0 (fun B => .nil) (ga_cons (ge_var 3) (ga_cons (ge_var 1) ga_nil)) (gk_cons (ge_var 2) gk_nil)))
      (gss_one (gs_ret (ge_var 3)))
      gss_nil)))
      (gss_one (gs_ret ge_str))), ?_⟩
    clear S hr hG F t k_may_go b_may_go_0
    rintro ds ω Qa Ea ⟨z, n, b, rfl, hz, n0, n1, hb, q⟩ _
    have b2 := hb.1
    have bM := hb.2
    obtain ⟨Jv, hJv⟩ : ∃ Jv : Nat → AEnv → DWd.W → Prop, ∀ i ρ ω', Jv i ρ ω' ↔ (ω' = ω ∧ ∃ x3, ρ = [some (.d (.str z)), some (.d (.int n)), some (.d (.int b)), x3] ∧ (1 ≤ i → ¬ goB z n b = true) ∧ (2 ≤ i → ¬ 2 ≤ n)) := ⟨_, fun _ _ _ => Iff.rfl⟩
    show sSeq _ _ _ _ _
    refine seq_opq fun N hN => ?_
    erw []
    refine ⟨Jv, (hJv _ _ _).mpr ⟨rfl, none, rfl, fun h => absurd h (by decide), fun h => absurd h (by decide)⟩, fun i d ρ ω' hd hv => ?_, fun ρ ω' hv => ?_⟩
    · replace hv := (hJv _ _ _).mp hv
      obtain ⟨rfl, x3, rfl, h1, h2⟩ := hv
      clear hN
      simp only [MR.aName]
      match i, hd, h1, h2 with
      | 0, hd, h1, h2 =>
        cases (Option.some.inj hd).symm
        erw [aMayGo]
        refine ⟨hz, n0, by omega, by omega, by omega, ?_⟩
        by_cases c : goB z n b = true
        · rw [if_pos c]
          unfold roadFor at q
          rw [if_pos c] at q
          exact q
        · rw [if_neg c]
          exact (hJv _ _ _).mpr ⟨rfl, _, rfl, fun _ => c, fun h => absurd h (by decide)⟩
      | 1, hd, h1, h2 =>
        cases (Option.some.inj hd).symm
        erw [aMayGo]
        refine ⟨by decide, n0, by omega, by omega, by omega, ?_⟩
        have c := h1 (by decide)
        rw [go_h]
        by_cases c2 : 2 ≤ n
        · rw [if_pos (decide_eq_true c2)]
          unfold roadFor at q
          rw [if_neg c, if_pos c2] at q
          exact q
        · rw [if_neg (by rw [decide_eq_false c2]; decide)]
          exact (hJv _ _ _).mpr ⟨rfl, _, rfl, fun _ => c, fun _ => c2⟩
      | i + 2, hd, h1, h2 => cases hd
    · replace hv := (hJv _ _ _).mp hv
      obtain ⟨rfl, x3, rfl, h1, h2⟩ := hv
      unfold roadFor at q
      rw [if_neg (h1 (show 1 ≤ 2 by decide)), if_neg (h2 (show 2 ≤ 2 by decide))] at q
      show N _ _
      rw [hN]
      clear hN
      erw []
      exact q
  refine ⟨fd, ⟨t.g_road_for, F.kp, ok⟩, ?_⟩
  · refine bnd_of F 2 ["base"] [] [0, 1, 2] [] (by simp) rfl ?_
    intro kV doc pm an cdv ct D us mv ws h1 h2 h3 h4
    match us, mv, ws, h1, h2, h3 with
    | [u0, u1], [], [v0], _, _, _ => exact rfl
theorem kn_product_by (t : T w K mg) (tb : Tb K mg base) : ∃ fd, Known PR w K mg base 130 "product_by" (He.ga K "product_by") fd ["road", "one", "other", "base"] (TWd (tlOf K xs_)) 4 aProductBy ∧ Bnd K fd ["road", "one", "other", "base"] 3 ["base"] [0, 1, 2, 3] [] ∧ Bnd K fd ["road", "one", "other", "base"] 0 ["base", "other", "one", "road"] [3, 2, 1, 0] [] ∧ Bnd K fd ["road", "one", "other", "base"] 3 [] [0, 1, 2, 3] [.int 10] := by
  obtain ⟨fd, F⟩ := t.f_product_by
  obtain ⟨fd_paper_of, k_paper_of, b_paper_of_0⟩ := kn_paper_of (w := w) (base := base) t tb
  obtain ⟨fd_road_for, k_road_for, b_road_for_0⟩ := kn_road_for (w := w) (base := base) t
  replace k_road_for := k_road_for.liftT (tlOf K xs_)
  replace k_road_for := k_road_for.liftB fun _ => none
  have ok : FnG PR w K mg base (L2.CX PR w) 130 (He.ga K "product_by") fd ["road", "one", "other", "base"] (toSp (TWd (tlOf K xs_)) K 4 aProductBy) := by
    refine fn_okT (N := n_product_by) (TWd (tlOf K xs_)) aProductBy F S_product_by fun cdv hcd A outer s H E hr hG => ?_
    have hcode := hcd.symm.trans (code_at t.tB (by simp) F)
    have S := S_product_by
    refine ⟨_, (gss_cons (gs_set 4 S.nd (ge_fn (call_max2 rfl) c_max t.z_max (ga_cons (ge_fn call_len c_len t.z_len (ga_cons (ge_var 1) ga_nil)) (ga_cons (ge_fn call_len c_len t.z_len (ga_cons (ge_var 2) ga_nil)) ga_nil))))
      (gss_one (gs_ret (ge_ix (ge_callL k_paper_of.at_ (LK := LKpb) (js := [0, 3]) (fr := ["road", "base"]) (Nl := ["limbs", "road", "base"]) (psl := ["limbs"]) (fun _ => rfl) k_paper_of.ok k_paper_of.keep (Room.mono hr (by omega)) hG tk_cx b_paper_of_0 (fun B => .nil) rfl rfl (ge_var 1) (ge_var 2) (ge_var 4) (gk_cons (ge_var 3) gk_nil) (tb _ (tabsB_at t.tB (by simp)).2) hcode (tlOf_mem (List.mem_cons_of_mem _ List.mem_cons_self)) (tlOf_uniq t.tB (List.mem_cons_of_mem _ List.mem_cons_self)) rfl (NdefX.nscope_by (by rfl)) (free_by (by rfl)) rfl (fun _ _ _ _ _ us h => match us, h with | [_], _ => rfl) (fun _ h => nomatch h : AtB _ []) ?hlam) ge_int)))), ?_⟩
    case hlam =>
      intro θ2 caps hLK B2 r2 c2 cl2 So2 base2 up2 A2 outer2 s2 H2 E2 hsame hsub hr2 hG2 hat2
      obtain ⟨fd_road_for, k_road_for, b_road_for_0⟩ := kn_road_for (w := w) (base := base2) t
      replace k_road_for := (k_road_for.liftT (tlOf K xs_)).liftB B2
      refine ⟨_, (ge_call2 k_road_for (Room.mono hr2 (by decide)) hG2 tk_ncx b_road_for_0 (fun B => .nil) (ga_cons (ge_var 1) (ga_cons (ge_var 0) ga_nil)) (gk_cons (ge_var 2) gk_nil)), ?_⟩
      clear hr2 hG2 up2 hat2
      rintro ds ω Qa Ea ⟨k, rfl, h1, h2, q⟩ _
      obtain ⟨z, rfl, hz, hb, hm, hk⟩ := hLK
      erw [startL, aRoadFor]
      refine ⟨hz, by omega, by omega, hb, ?_⟩
      rw [← hk k h1 h2]
      exact q
    clear S hr hG F t k_paper_of b_paper_of_0 k_road_for b_road_for_0
    rintro ds ω Qa Ea ⟨z, x, y, b, l, rfl, hz, hb, hx, hy, hl, q⟩ _
    have lx := hx.len hb
    have ly := hy.len hb
    show sSeq _ _ _ _ _
    refine seq_opq fun N hN => ?_
    erw []
    generalize hm : max (digs b x).length (digs b y).length = m at *
    have mx : (if ((digs b y).length : Int) > ((digs b x).length : Int) then ((digs b y).length : Int) else ((digs b x).length : Int)) = ((m : Nat) : Int) := by split <;> omega
    rw [mx]
    have ml : m ≤ l := by omega
    have x' : nb b x m := ⟨hx.nn, by have := (nb.of hb (hx.is hb) (show (digs b x).length ≤ m by omega)).lt; rwa [hx.w hb] at this⟩
    have y' : nb b y m := ⟨hy.nn, by have := (nb.of hb (hy.is hb) (show (digs b y).length ≤ m by omega)).lt; rwa [hy.w hb] at this⟩
    show N _ _
    rw [hN]
    clear hN
    erw []
    refine ⟨⟨b, m, fun k => roadFor z k b⟩, [.str z, .int b], rfl, ⟨z, rfl, hz, hb, by show (m : Int) ≤ 1000; omega, fun k h1 h2 => rfl⟩, fun r => ⟨x, y, m, r, rfl, hb, by omega, by show (m : Int) ≤ (40 : Nat); omega, by show (m : Int) ≤ m; omega, by show (m : Int) ≤ 1000; omega, fun k h1 h2 => roadFor_ok hz h1, x', y', ?_⟩⟩
    have i0 : ∀ a b : D, atI [a, b] 0 = some a := fun _ _ => rfl
    erw [i0]
    exact q
  refine ⟨fd, ⟨t.g_product_by, F.kp, ok⟩, ?_, ?_, ?_⟩
  · refine bnd_of F 3 ["base"] [] [0, 1, 2, 3] [] (by simp) rfl ?_
    intro kV doc pm an cdv ct D us mv ws h1 h2 h3 h4
    match us, mv, ws, h1, h2, h3 with
    | [u0, u1, u2], [], [v0], _, _, _ => exact rfl
  · refine bnd_of F 0 ["base", "other", "one", "road"] [] [3, 2, 1, 0] [] (by simp) rfl ?_
    intro kV doc pm an cdv ct D us mv ws h1 h2 h3 h4
    match us, mv, ws, h1, h2, h3 with
    | [], [], [v0, v1, v2, v3], _, _, _ => exact rfl
  · refine bnd_of F 3 [] [("base", .int 10)] [0, 1, 2, 3] [.int 10] (by simp) rfl ?_
    intro kV doc pm an cdv ct D us mv ws h1 h2 h3 h4
    match us, mv, ws, h1, h2, h3 with
    | [u0, u1, u2], [m0], [], _, _, _ =>
      obtain rfl := h4 (by simp)
      exact ⟨_, _, _, _, _, _, rfl, rfl, rfl⟩
theorem kn__law_limbs (t : T w K mg) : ∃ fd, Known PR w K mg base 2 "_law_limbs" (He.ga K "_law_limbs") fd ["_law_deck_here", "_law_to", "_law_most"] DWd 3 aRow ∧ Bnd K fd ["_law_deck_here", "_law_to", "_law_most"] 3 [] [0, 1, 2] [] := by
  obtain ⟨fd, F⟩ := t.f__law_limbs
  obtain ⟨fd__law_draw, k__law_draw, b__law_draw_0⟩ := kn__law_draw (w := w) (base := base) t
  have ok : FnG PR w K mg base (L2.CX PR w) 2 (He.ga K "_law_limbs") fd ["_law_deck_here", "_law_to", "_law_most"] (toSp DWd K 3 aRow) := by
    refine fn_ok (N := n__law_limbs) DWd aRow F S__law_limbs fun cdv A outer s H E hr hG => ?_
    have S := S__law_limbs
    refine ⟨_, (gss_cons (gs_par 3 4 rfl S.nd (ge_call1 k__law_draw (Room.mono hr (by decide)) hG tk_cx b__law_draw_0 (fun B => .nil) (ga_cons (ge_var 0) (ga_cons ge_int ga_nil))) (ge_call1 k__law_draw (Room.mono hr (by decide)) hG tk_cx b__law_draw_0 (fun B => .nil) (ga_cons (ge_var 0) (ga_cons (ge_add (ge_var 2) ge_int) ga_nil))))
      (gss_cons (gs_own 5 S.nd (gf_lst ga_nil))
      (gss_cons (gs_forR1 po_cx rfl t.z_range (ge_var 4) (gg_name 6 S.nd)
      (gss_cons (gs_set 7 S.nd (ge_call1 k__law_draw (Room.mono hr (by decide)) hG tk_cx b__law_draw_0 (fun B => .nil) (ga_cons (ge_var 0) (ga_cons (ge_var 1) ga_nil))))
      (gss_one (gs_app 5 (ge_ix (GF.ge (gf_lst (ga_cons (ge_var 7) (ga_cons (ge_sub (ge_var 1) ge_int) (ga_cons ge_int (ga_cons (ge_ix (GF.ge (gf_lst (ga_cons ge_int (ga_cons (ge_sub (ge_var 1) ge_int) ga_nil)))) (ge_mod (ge_var 7) ge_int)) (ga_cons (ge_mod (ge_var 7) ge_int) (ga_cons ge_int ga_nil)))))))) (ge_var 3))))))
      (gss_cons (gs_if (GW.gt (gw_and (gt_cmp op_gt op2_gt (nomark _) (ge_var 4) ge_int) (gw_and1 (gt_cmp (m_eq (un64 hr)) op2_eq (nomark _) (ge_ixL (gl_own 5) (ge_neg ge_int)) ge_int))))
      (gss_one (gs_put 5 (ge_ix (GF.ge (gf_lst (ga_cons (ge_add ge_int (ge_call1 k__law_draw (Room.mono hr (by decide)) hG tk_cx b__law_draw_0 (fun B => .nil) (ga_cons (ge_var 0) (ga_cons (ge_sub (ge_var 1) ge_int) ga_nil)))) (ga_cons (ge_sub (ge_var 1) ge_int) (ga_cons ge_int ga_nil))))) (ge_call1 k__law_draw (Room.mono hr (by decide)) hG tk_cx b__law_draw_0 (fun B => .nil) (ga_cons (ge_var 0) (ga_cons ge_int ga_nil)))) (ge_neg ge_int)))
      gss_nil)
      (gss_frz 5 (gss_one (gs_ret (ge_ty call_tuple_of c_tuple t.z_tuple (ga_cons (ge_var 5) ga_nil))))))))), ?_⟩
    clear S hr hG F t k__law_draw b__law_draw_0
    rintro ds ω Qa Ea ⟨p, b, m, T, rfl, hk, hT, hb, m0, hm, q⟩ _
    have hb1 := hb.1
    have hb2 := hb.2
    simp (maxSteps := 2000000) only [MR.sNil, MR.sSeq, MR.sDrop, MR.sRet, MR.sRetN, MR.sBreak, MR.sCont, MR.sIf, MR.sSet, MR.sOwn, MR.sAsg, MR.sPar, MR.sAug, MR.sFrz, MR.sApp, MR.sPut, MR.sExt, MR.aName, MR.aTup, MR.aNil, MR.aCons, MR.frz,
        MR.gVar, MR.gC, MR.gOp, MR.gB, MR.bK, MR.gTru, MR.gNotT, MR.gAndT, MR.gOrT, MR.gAndV, MR.gOrV, MR.gNotV, MR.gIf, MR.gChain, MR.gNil, MR.gCons, MR.gTup, MR.gLst, MR.gFz, MR.gOwn, MR.gAsL, MR.gNo, MR.gPart, MR.gSl, MR.gSlF, MR.gUn, MR.gIxL, MR.gFn, MR.gLenL, MR.gYes,
        MR.fAddI, MR.fSub, MR.fDiv, MR.fMod, MR.fPow, MR.fLe, MR.fGt, MR.fGe, MR.fIs, MR.fIsN, MR.fNeg, MR.fMin, MR.fMax, MR.fDivmod, MR.fSum, MR.fAll, MR.fRepr, MR.fIsi, MR.tyD, MR.dInt, MR.dBool, MR.dTup, MR.dStr, MR.dLst,
        MR.gDkT, MR.gDkS, MR.gDkNe, MR.gDkPop, MR.sDkApp, MR.sDkPut, MR.gScr, MR.sDeck, MR.gCall, MR.sel, MR.sFor, MR.sForR1, MR.sForR2, MR.sWhile, MR.sForE, MR.sAugP, MR.gRepL, MR.gCatL, MR.gComp, MR.gCompR, MR.startA, MR.wipeA, MR.sNever, MR.gNever, MR.tNev, MR.sAsg2, MR.fMulS_str, MR.fIntS_str, MR.sParO, MR.sForG, MR.gCompG, MR.iSeqG, MR.iR1G, MR.iR2G, MR.iR3G, MR.iZipG, MR.iEnumG, MR.iEnumLG, MR.iRevG,
        MR.fTru_bl, MR.fTru_non, MR.fTru_int, MR.fTru_str, MR.fTru_lst, MR.fTru_tup, MR.fAdd_int, MR.fAdd_str, MR.fAdd_tup, MR.fAdd_lst, MR.fMul_int, MR.fMul_tup, MR.fMul_lst, MR.fEq_int, MR.fEq_str, MR.fEq_bl, MR.fEq_tup_tup, MR.fEq_tup_lst, MR.fEq_tup_int, MR.fEq_tup_non, MR.fEq_tup_str, MR.fEq_tup_bl, MR.fEq_lst_tup, MR.fEq_lst_lst, MR.fEq_lst_int, MR.fEq_lst_non, MR.fEq_lst_str, MR.fEq_lst_bl, MR.fEq_int_tup, MR.fEq_int_lst, MR.fEq_int_non, MR.fEq_int_str, MR.fEq_int_bl, MR.fEq_non_tup, MR.fEq_non_lst, MR.fEq_non_int, MR.fEq_non_non, MR.fEq_non_str, MR.fEq_non_bl, MR.fEq_str_tup, MR.fEq_str_lst, MR.fEq_str_int, MR.fEq_str_non, MR.fEq_str_bl, MR.fEq_bl_tup, MR.fEq_bl_lst, MR.fEq_bl_int, MR.fEq_bl_non, MR.fEq_bl_str, MR.fNe_int, MR.fNe_str, MR.fNe_bl, MR.fNe_tup_tup, MR.fNe_tup_lst, MR.fNe_tup_int, MR.fNe_tup_non, MR.fNe_tup_str, MR.fNe_tup_bl, MR.fNe_lst_tup, MR.fNe_lst_lst, MR.fNe_lst_int, MR.fNe_lst_non, MR.fNe_lst_str, MR.fNe_lst_bl, MR.fNe_int_tup, MR.fNe_int_lst, MR.fNe_int_non, MR.fNe_int_str, MR.fNe_int_bl, MR.fNe_non_tup, MR.fNe_non_lst, MR.fNe_non_int, MR.fNe_non_non, MR.fNe_non_str, MR.fNe_non_bl, MR.fNe_str_tup, MR.fNe_str_lst, MR.fNe_str_int, MR.fNe_str_non, MR.fNe_str_bl, MR.fNe_bl_tup, MR.fNe_bl_lst, MR.fNe_bl_int, MR.fNe_bl_non, MR.fNe_bl_str, MR.fLt_int, MR.fIx_tup, MR.fSl_tup, MR.fLen_tup, MR.fTuple_tup, MR.fRev_tup, MR.fIx_lst, MR.fSl_lst, MR.fLen_lst, MR.fTuple_lst, MR.fRev_lst, MR.fIx_str, MR.fSl_str, MR.fLen_str, MR.fInt_int, MR.fInt_bl,
        List.map_cons, List.map_nil, List.cons_append, List.nil_append, List.append_nil, List.length_cons, List.length_nil, List.replicate_succ, List.replicate_zero, List.set_cons_zero, List.set_cons_succ, List.getElem?_cons_zero, List.getElem?_cons_succ, List.getD_cons_zero, List.getD_cons_succ, Nat.reduceAdd, Nat.reduceSub, Nat.zero_add, Option.some.injEq, reduceIte, Bool.not_true, Bool.not_false, true_and, and_true]
    refine ⟨p, 6, T, rfl, hk, by decide, small_m (by decide), by omega, fun way ω1 a1 b1 k1 => ?_⟩
    simp (maxSteps := 2000000) only [MR.sNil, MR.sSeq, MR.sDrop, MR.sRet, MR.sRetN, MR.sBreak, MR.sCont, MR.sIf, MR.sSet, MR.sOwn, MR.sAsg, MR.sPar, MR.sAug, MR.sFrz, MR.sApp, MR.sPut, MR.sExt, MR.aName, MR.aTup, MR.aNil, MR.aCons, MR.frz,
        MR.gVar, MR.gC, MR.gOp, MR.gB, MR.bK, MR.gTru, MR.gNotT, MR.gAndT, MR.gOrT, MR.gAndV, MR.gOrV, MR.gNotV, MR.gIf, MR.gChain, MR.gNil, MR.gCons, MR.gTup, MR.gLst, MR.gFz, MR.gOwn, MR.gAsL, MR.gNo, MR.gPart, MR.gSl, MR.gSlF, MR.gUn, MR.gIxL, MR.gFn, MR.gLenL, MR.gYes,
        MR.fAddI, MR.fSub, MR.fDiv, MR.fMod, MR.fPow, MR.fLe, MR.fGt, MR.fGe, MR.fIs, MR.fIsN, MR.fNeg, MR.fMin, MR.fMax, MR.fDivmod, MR.fSum, MR.fAll, MR.fRepr, MR.fIsi, MR.tyD, MR.dInt, MR.dBool, MR.dTup, MR.dStr, MR.dLst,
        MR.gDkT, MR.gDkS, MR.gDkNe, MR.gDkPop, MR.sDkApp, MR.sDkPut, MR.gScr, MR.sDeck, MR.gCall, MR.sel, MR.sFor, MR.sForR1, MR.sForR2, MR.sWhile, MR.sForE, MR.sAugP, MR.gRepL, MR.gCatL, MR.gComp, MR.gCompR, MR.startA, MR.wipeA, MR.sNever, MR.gNever, MR.tNev, MR.sAsg2, MR.fMulS_str, MR.fIntS_str, MR.sParO, MR.sForG, MR.gCompG, MR.iSeqG, MR.iR1G, MR.iR2G, MR.iR3G, MR.iZipG, MR.iEnumG, MR.iEnumLG, MR.iRevG,
        MR.fTru_bl, MR.fTru_non, MR.fTru_int, MR.fTru_str, MR.fTru_lst, MR.fTru_tup, MR.fAdd_int, MR.fAdd_str, MR.fAdd_tup, MR.fAdd_lst, MR.fMul_int, MR.fMul_tup, MR.fMul_lst, MR.fEq_int, MR.fEq_str, MR.fEq_bl, MR.fEq_tup_tup, MR.fEq_tup_lst, MR.fEq_tup_int, MR.fEq_tup_non, MR.fEq_tup_str, MR.fEq_tup_bl, MR.fEq_lst_tup, MR.fEq_lst_lst, MR.fEq_lst_int, MR.fEq_lst_non, MR.fEq_lst_str, MR.fEq_lst_bl, MR.fEq_int_tup, MR.fEq_int_lst, MR.fEq_int_non, MR.fEq_int_str, MR.fEq_int_bl, MR.fEq_non_tup, MR.fEq_non_lst, MR.fEq_non_int, MR.fEq_non_non, MR.fEq_non_str, MR.fEq_non_bl, MR.fEq_str_tup, MR.fEq_str_lst, MR.fEq_str_int, MR.fEq_str_non, MR.fEq_str_bl, MR.fEq_bl_tup, MR.fEq_bl_lst, MR.fEq_bl_int, MR.fEq_bl_non, MR.fEq_bl_str, MR.fNe_int, MR.fNe_str, MR.fNe_bl, MR.fNe_tup_tup, MR.fNe_tup_lst, MR.fNe_tup_int, MR.fNe_tup_non, MR.fNe_tup_str, MR.fNe_tup_bl, MR.fNe_lst_tup, MR.fNe_lst_lst, MR.fNe_lst_int, MR.fNe_lst_non, MR.fNe_lst_str, MR.fNe_lst_bl, MR.fNe_int_tup, MR.fNe_int_lst, MR.fNe_int_non, MR.fNe_int_str, MR.fNe_int_bl, MR.fNe_non_tup, MR.fNe_non_lst, MR.fNe_non_int, MR.fNe_non_non, MR.fNe_non_str, MR.fNe_non_bl, MR.fNe_str_tup, MR.fNe_str_lst, MR.fNe_str_int, MR.fNe_str_non, MR.fNe_str_bl, MR.fNe_bl_tup, MR.fNe_bl_lst, MR.fNe_bl_int, MR.fNe_bl_non, MR.fNe_bl_str, MR.fLt_int, MR.fIx_tup, MR.fSl_tup, MR.fLen_tup, MR.fTuple_tup, MR.fRev_tup, MR.fIx_lst, MR.fSl_lst, MR.fLen_lst, MR.fTuple_lst, MR.fRev_lst, MR.fIx_str, MR.fSl_str, MR.fLen_str, MR.fInt_int, MR.fInt_bl,
        List.map_cons, List.map_nil, List.cons_append, List.nil_append, List.append_nil, List.length_cons, List.length_nil, List.replicate_succ, List.replicate_zero, List.set_cons_zero, List.set_cons_succ, List.getElem?_cons_zero, List.getElem?_cons_succ, List.getD_cons_zero, List.getD_cons_succ, Nat.reduceAdd, Nat.reduceSub, Nat.zero_add, Option.some.injEq, reduceIte, Bool.not_true, Bool.not_false, true_and, and_true]
    refine ⟨p, m + 1, T + 1, rfl, k1, by omega, small_m (by omega), by omega, fun lg ω2 a2 b2 k2 => ?_⟩
    simp (maxSteps := 2000000) only [MR.sNil, MR.sSeq, MR.sDrop, MR.sRet, MR.sRetN, MR.sBreak, MR.sCont, MR.sIf, MR.sSet, MR.sOwn, MR.sAsg, MR.sPar, MR.sAug, MR.sFrz, MR.sApp, MR.sPut, MR.sExt, MR.aName, MR.aTup, MR.aNil, MR.aCons, MR.frz,
        MR.gVar, MR.gC, MR.gOp, MR.gB, MR.bK, MR.gTru, MR.gNotT, MR.gAndT, MR.gOrT, MR.gAndV, MR.gOrV, MR.gNotV, MR.gIf, MR.gChain, MR.gNil, MR.gCons, MR.gTup, MR.gLst, MR.gFz, MR.gOwn, MR.gAsL, MR.gNo, MR.gPart, MR.gSl, MR.gSlF, MR.gUn, MR.gIxL, MR.gFn, MR.gLenL, MR.gYes,
        MR.fAddI, MR.fSub, MR.fDiv, MR.fMod, MR.fPow, MR.fLe, MR.fGt, MR.fGe, MR.fIs, MR.fIsN, MR.fNeg, MR.fMin, MR.fMax, MR.fDivmod, MR.fSum, MR.fAll, MR.fRepr, MR.fIsi, MR.tyD, MR.dInt, MR.dBool, MR.dTup, MR.dStr, MR.dLst,
        MR.gDkT, MR.gDkS, MR.gDkNe, MR.gDkPop, MR.sDkApp, MR.sDkPut, MR.gScr, MR.sDeck, MR.gCall, MR.sel, MR.sFor, MR.sForR1, MR.sForR2, MR.sWhile, MR.sForE, MR.sAugP, MR.gRepL, MR.gCatL, MR.gComp, MR.gCompR, MR.startA, MR.wipeA, MR.sNever, MR.gNever, MR.tNev, MR.sAsg2, MR.fMulS_str, MR.fIntS_str, MR.sParO, MR.sForG, MR.gCompG, MR.iSeqG, MR.iR1G, MR.iR2G, MR.iR3G, MR.iZipG, MR.iEnumG, MR.iEnumLG, MR.iRevG,
        MR.fTru_bl, MR.fTru_non, MR.fTru_int, MR.fTru_str, MR.fTru_lst, MR.fTru_tup, MR.fAdd_int, MR.fAdd_str, MR.fAdd_tup, MR.fAdd_lst, MR.fMul_int, MR.fMul_tup, MR.fMul_lst, MR.fEq_int, MR.fEq_str, MR.fEq_bl, MR.fEq_tup_tup, MR.fEq_tup_lst, MR.fEq_tup_int, MR.fEq_tup_non, MR.fEq_tup_str, MR.fEq_tup_bl, MR.fEq_lst_tup, MR.fEq_lst_lst, MR.fEq_lst_int, MR.fEq_lst_non, MR.fEq_lst_str, MR.fEq_lst_bl, MR.fEq_int_tup, MR.fEq_int_lst, MR.fEq_int_non, MR.fEq_int_str, MR.fEq_int_bl, MR.fEq_non_tup, MR.fEq_non_lst, MR.fEq_non_int, MR.fEq_non_non, MR.fEq_non_str, MR.fEq_non_bl, MR.fEq_str_tup, MR.fEq_str_lst, MR.fEq_str_int, MR.fEq_str_non, MR.fEq_str_bl, MR.fEq_bl_tup, MR.fEq_bl_lst, MR.fEq_bl_int, MR.fEq_bl_non, MR.fEq_bl_str, MR.fNe_int, MR.fNe_str, MR.fNe_bl, MR.fNe_tup_tup, MR.fNe_tup_lst, MR.fNe_tup_int, MR.fNe_tup_non, MR.fNe_tup_str, MR.fNe_tup_bl, MR.fNe_lst_tup, MR.fNe_lst_lst, MR.fNe_lst_int, MR.fNe_lst_non, MR.fNe_lst_str, MR.fNe_lst_bl, MR.fNe_int_tup, MR.fNe_int_lst, MR.fNe_int_non, MR.fNe_int_str, MR.fNe_int_bl, MR.fNe_non_tup, MR.fNe_non_lst, MR.fNe_non_int, MR.fNe_non_non, MR.fNe_non_str, MR.fNe_non_bl, MR.fNe_str_tup, MR.fNe_str_lst, MR.fNe_str_int, MR.fNe_str_non, MR.fNe_str_bl, MR.fNe_bl_tup, MR.fNe_bl_lst, MR.fNe_bl_int, MR.fNe_bl_non, MR.fNe_bl_str, MR.fLt_int, MR.fIx_tup, MR.fSl_tup, MR.fLen_tup, MR.fTuple_tup, MR.fRev_tup, MR.fIx_lst, MR.fSl_lst, MR.fLen_lst, MR.fTuple_lst, MR.fRev_lst, MR.fIx_str, MR.fSl_str, MR.fLen_str, MR.fInt_int, MR.fInt_bl,
        List.map_cons, List.map_nil, List.cons_append, List.nil_append, List.append_nil, List.length_cons, List.length_nil, List.replicate_succ, List.replicate_zero, List.set_cons_zero, List.set_cons_succ, List.getElem?_cons_zero, List.getElem?_cons_succ, List.getD_cons_zero, List.getD_cons_succ, Nat.reduceAdd, Nat.reduceSub, Nat.zero_add, Option.some.injEq, reduceIte, Bool.not_true, Bool.not_false, true_and, and_true]
    refine ⟨by decide, by omega, by omega, fun i ρ ω' => Dk ω' p (T + 2 + i) ∧ ∃ x6 x7 ns, limbs b ns ∧ ns.length = i ∧ ρ = [some (.d (.adr p)), some (.d (.int b)), some (.d (.int m)), some (.d (.int way)), some (.d (.int lg)), some (.own (ns.map D.int)), x6, x7], ⟨k2.le (by omega), none, none, [], (fun _ h => nomatch h), rfl, rfl⟩, fun i d ρ ω' hd ⟨e1, x6, x7, ns, e2, e3, e4⟩ => ?_, fun ρ ω' ⟨e1, x6, x7, ns, e2, e3, e4⟩ => ?_⟩
    · subst e4
      have hi : i < lg.toNat := by
        have := (List.getElem?_eq_some_iff.mp hd).1
        rwa [rng_len] at this
      simp (maxSteps := 2000000) only [MR.sNil, MR.sSeq, MR.sDrop, MR.sRet, MR.sRetN, MR.sBreak, MR.sCont, MR.sIf, MR.sSet, MR.sOwn, MR.sAsg, MR.sPar, MR.sAug, MR.sFrz, MR.sApp, MR.sPut, MR.sExt, MR.aName, MR.aTup, MR.aNil, MR.aCons, MR.frz,
        MR.gVar, MR.gC, MR.gOp, MR.gB, MR.bK, MR.gTru, MR.gNotT, MR.gAndT, MR.gOrT, MR.gAndV, MR.gOrV, MR.gNotV, MR.gIf, MR.gChain, MR.gNil, MR.gCons, MR.gTup, MR.gLst, MR.gFz, MR.gOwn, MR.gAsL, MR.gNo, MR.gPart, MR.gSl, MR.gSlF, MR.gUn, MR.gIxL, MR.gFn, MR.gLenL, MR.gYes,
        MR.fAddI, MR.fSub, MR.fDiv, MR.fMod, MR.fPow, MR.fLe, MR.fGt, MR.fGe, MR.fIs, MR.fIsN, MR.fNeg, MR.fMin, MR.fMax, MR.fDivmod, MR.fSum, MR.fAll, MR.fRepr, MR.fIsi, MR.tyD, MR.dInt, MR.dBool, MR.dTup, MR.dStr, MR.dLst,
        MR.gDkT, MR.gDkS, MR.gDkNe, MR.gDkPop, MR.sDkApp, MR.sDkPut, MR.gScr, MR.sDeck, MR.gCall, MR.sel, MR.sFor, MR.sForR1, MR.sForR2, MR.sWhile, MR.sForE, MR.sAugP, MR.gRepL, MR.gCatL, MR.gComp, MR.gCompR, MR.startA, MR.wipeA, MR.sNever, MR.gNever, MR.tNev, MR.sAsg2, MR.fMulS_str, MR.fIntS_str, MR.sParO, MR.sForG, MR.gCompG, MR.iSeqG, MR.iR1G, MR.iR2G, MR.iR3G, MR.iZipG, MR.iEnumG, MR.iEnumLG, MR.iRevG,
        MR.fTru_bl, MR.fTru_non, MR.fTru_int, MR.fTru_str, MR.fTru_lst, MR.fTru_tup, MR.fAdd_int, MR.fAdd_str, MR.fAdd_tup, MR.fAdd_lst, MR.fMul_int, MR.fMul_tup, MR.fMul_lst, MR.fEq_int, MR.fEq_str, MR.fEq_bl, MR.fEq_tup_tup, MR.fEq_tup_lst, MR.fEq_tup_int, MR.fEq_tup_non, MR.fEq_tup_str, MR.fEq_tup_bl, MR.fEq_lst_tup, MR.fEq_lst_lst, MR.fEq_lst_int, MR.fEq_lst_non, MR.fEq_lst_str, MR.fEq_lst_bl, MR.fEq_int_tup, MR.fEq_int_lst, MR.fEq_int_non, MR.fEq_int_str, MR.fEq_int_bl, MR.fEq_non_tup, MR.fEq_non_lst, MR.fEq_non_int, MR.fEq_non_non, MR.fEq_non_str, MR.fEq_non_bl, MR.fEq_str_tup, MR.fEq_str_lst, MR.fEq_str_int, MR.fEq_str_non, MR.fEq_str_bl, MR.fEq_bl_tup, MR.fEq_bl_lst, MR.fEq_bl_int, MR.fEq_bl_non, MR.fEq_bl_str, MR.fNe_int, MR.fNe_str, MR.fNe_bl, MR.fNe_tup_tup, MR.fNe_tup_lst, MR.fNe_tup_int, MR.fNe_tup_non, MR.fNe_tup_str, MR.fNe_tup_bl, MR.fNe_lst_tup, MR.fNe_lst_lst, MR.fNe_lst_int, MR.fNe_lst_non, MR.fNe_lst_str, MR.fNe_lst_bl, MR.fNe_int_tup, MR.fNe_int_lst, MR.fNe_int_non, MR.fNe_int_str, MR.fNe_int_bl, MR.fNe_non_tup, MR.fNe_non_lst, MR.fNe_non_int, MR.fNe_non_non, MR.fNe_non_str, MR.fNe_non_bl, MR.fNe_str_tup, MR.fNe_str_lst, MR.fNe_str_int, MR.fNe_str_non, MR.fNe_str_bl, MR.fNe_bl_tup, MR.fNe_bl_lst, MR.fNe_bl_int, MR.fNe_bl_non, MR.fNe_bl_str, MR.fLt_int, MR.fIx_tup, MR.fSl_tup, MR.fLen_tup, MR.fTuple_tup, MR.fRev_tup, MR.fIx_lst, MR.fSl_lst, MR.fLen_lst, MR.fTuple_lst, MR.fRev_lst, MR.fIx_str, MR.fSl_str, MR.fLen_str, MR.fInt_int, MR.fInt_bl,
        List.map_cons, List.map_nil, List.cons_append, List.nil_append, List.append_nil, List.length_cons, List.length_nil, List.replicate_succ, List.replicate_zero, List.set_cons_zero, List.set_cons_succ, List.getElem?_cons_zero, List.getElem?_cons_succ, List.getD_cons_zero, List.getD_cons_succ, Nat.reduceAdd, Nat.reduceSub, Nat.zero_add, Option.some.injEq, reduceIte, Bool.not_true, Bool.not_false, true_and, and_true]
      refine ⟨p, b, T + 2 + i, rfl, e1, by omega, small_m (by omega), by omega, fun dg ω3 a3 b3 k3 => ?_⟩
      simp (maxSteps := 2000000) only [MR.sNil, MR.sSeq, MR.sDrop, MR.sRet, MR.sRetN, MR.sBreak, MR.sCont, MR.sIf, MR.sSet, MR.sOwn, MR.sAsg, MR.sPar, MR.sAug, MR.sFrz, MR.sApp, MR.sPut, MR.sExt, MR.aName, MR.aTup, MR.aNil, MR.aCons, MR.frz,
        MR.gVar, MR.gC, MR.gOp, MR.gB, MR.bK, MR.gTru, MR.gNotT, MR.gAndT, MR.gOrT, MR.gAndV, MR.gOrV, MR.gNotV, MR.gIf, MR.gChain, MR.gNil, MR.gCons, MR.gTup, MR.gLst, MR.gFz, MR.gOwn, MR.gAsL, MR.gNo, MR.gPart, MR.gSl, MR.gSlF, MR.gUn, MR.gIxL, MR.gFn, MR.gLenL, MR.gYes,
        MR.fAddI, MR.fSub, MR.fDiv, MR.fMod, MR.fPow, MR.fLe, MR.fGt, MR.fGe, MR.fIs, MR.fIsN, MR.fNeg, MR.fMin, MR.fMax, MR.fDivmod, MR.fSum, MR.fAll, MR.fRepr, MR.fIsi, MR.tyD, MR.dInt, MR.dBool, MR.dTup, MR.dStr, MR.dLst,
        MR.gDkT, MR.gDkS, MR.gDkNe, MR.gDkPop, MR.sDkApp, MR.sDkPut, MR.gScr, MR.sDeck, MR.gCall, MR.sel, MR.sFor, MR.sForR1, MR.sForR2, MR.sWhile, MR.sForE, MR.sAugP, MR.gRepL, MR.gCatL, MR.gComp, MR.gCompR, MR.startA, MR.wipeA, MR.sNever, MR.gNever, MR.tNev, MR.sAsg2, MR.fMulS_str, MR.fIntS_str, MR.sParO, MR.sForG, MR.gCompG, MR.iSeqG, MR.iR1G, MR.iR2G, MR.iR3G, MR.iZipG, MR.iEnumG, MR.iEnumLG, MR.iRevG,
        MR.fTru_bl, MR.fTru_non, MR.fTru_int, MR.fTru_str, MR.fTru_lst, MR.fTru_tup, MR.fAdd_int, MR.fAdd_str, MR.fAdd_tup, MR.fAdd_lst, MR.fMul_int, MR.fMul_tup, MR.fMul_lst, MR.fEq_int, MR.fEq_str, MR.fEq_bl, MR.fEq_tup_tup, MR.fEq_tup_lst, MR.fEq_tup_int, MR.fEq_tup_non, MR.fEq_tup_str, MR.fEq_tup_bl, MR.fEq_lst_tup, MR.fEq_lst_lst, MR.fEq_lst_int, MR.fEq_lst_non, MR.fEq_lst_str, MR.fEq_lst_bl, MR.fEq_int_tup, MR.fEq_int_lst, MR.fEq_int_non, MR.fEq_int_str, MR.fEq_int_bl, MR.fEq_non_tup, MR.fEq_non_lst, MR.fEq_non_int, MR.fEq_non_non, MR.fEq_non_str, MR.fEq_non_bl, MR.fEq_str_tup, MR.fEq_str_lst, MR.fEq_str_int, MR.fEq_str_non, MR.fEq_str_bl, MR.fEq_bl_tup, MR.fEq_bl_lst, MR.fEq_bl_int, MR.fEq_bl_non, MR.fEq_bl_str, MR.fNe_int, MR.fNe_str, MR.fNe_bl, MR.fNe_tup_tup, MR.fNe_tup_lst, MR.fNe_tup_int, MR.fNe_tup_non, MR.fNe_tup_str, MR.fNe_tup_bl, MR.fNe_lst_tup, MR.fNe_lst_lst, MR.fNe_lst_int, MR.fNe_lst_non, MR.fNe_lst_str, MR.fNe_lst_bl, MR.fNe_int_tup, MR.fNe_int_lst, MR.fNe_int_non, MR.fNe_int_str, MR.fNe_int_bl, MR.fNe_non_tup, MR.fNe_non_lst, MR.fNe_non_int, MR.fNe_non_non, MR.fNe_non_str, MR.fNe_non_bl, MR.fNe_str_tup, MR.fNe_str_lst, MR.fNe_str_int, MR.fNe_str_non, MR.fNe_str_bl, MR.fNe_bl_tup, MR.fNe_bl_lst, MR.fNe_bl_int, MR.fNe_bl_non, MR.fNe_bl_str, MR.fLt_int, MR.fIx_tup, MR.fSl_tup, MR.fLen_tup, MR.fTuple_tup, MR.fRev_tup, MR.fIx_lst, MR.fSl_lst, MR.fLen_lst, MR.fTuple_lst, MR.fRev_lst, MR.fIx_str, MR.fSl_str, MR.fLen_str, MR.fInt_int, MR.fInt_bl,
        List.map_cons, List.map_nil, List.cons_append, List.nil_append, List.append_nil, List.length_cons, List.length_nil, List.replicate_succ, List.replicate_zero, List.set_cons_zero, List.set_cons_succ, List.getElem?_cons_zero, List.getElem?_cons_succ, List.getD_cons_zero, List.getD_cons_succ, Nat.reduceAdd, Nat.reduceSub, Nat.zero_add, Option.some.injEq, reduceIte, Bool.not_true, Bool.not_false, true_and, and_true]
      refine ⟨by decide, by decide, ?_⟩
      obtain ⟨d1, f1, a1'⟩ := atI_at (ds := [D.int 0, D.int (b - 1)]) (k := dg % 2) (Int.emod_nonneg _ (by decide)) (Int.emod_lt_of_pos _ (by decide))
      rw [a1']
      have in1 : ∃ y, d1 = .int y ∧ 0 ≤ y ∧ y < b := by
        have := List.mem_of_getElem? f1
        simp only [List.mem_cons, List.not_mem_nil, or_false] at this
        rcases this with rfl | rfl
        · exact ⟨0, rfl, by omega, by omega⟩
        · exact ⟨b - 1, rfl, by omega, by omega⟩
      obtain ⟨y1, rfl, y10, y1b⟩ := in1
      refine ⟨by decide, by decide, ?_⟩
      obtain ⟨d2, f2, a2'⟩ := atI_at (ds := [D.int dg, D.int (b - 1), D.int 0, D.int y1, D.int (dg % 2), D.int 0]) (k := way) a1 b1
      rw [a2']
      have in2 : ∃ y, d2 = .int y ∧ 0 ≤ y ∧ y < b := by
        have := List.mem_of_getElem? f2
        simp only [List.mem_cons, List.not_mem_nil, or_false] at this
        rcases this with rfl | rfl | rfl | rfl | rfl | rfl
        · exact ⟨_, rfl, a3, b3⟩
        · exact ⟨b - 1, rfl, by omega, by omega⟩
        · exact ⟨0, rfl, by omega, by omega⟩
        · exact ⟨_, rfl, y10, y1b⟩
        · exact ⟨_, rfl, by omega, by omega⟩
        · exact ⟨0, rfl, by omega, by omega⟩
      obtain ⟨y2, rfl, y20, y2b⟩ := in2
      refine ⟨line1000l (by rw [List.length_map]; omega), k3.le (by omega), _, _, ns ++ [y2], fun n hn => ?_, by rw [List.length_append]; exact congrArg (· + 1) e3, by rw [List.map_append]; rfl⟩
      rcases List.mem_append.mp hn with hn | hn
      · exact e2 n hn
      · rw [List.mem_singleton] at hn
        subst hn
        exact ⟨y20, y2b⟩
    · subst e4
      rw [rng_len] at e3 e1
      simp (maxSteps := 2000000) only [MR.sNil, MR.sSeq, MR.sDrop, MR.sRet, MR.sRetN, MR.sBreak, MR.sCont, MR.sIf, MR.sSet, MR.sOwn, MR.sAsg, MR.sPar, MR.sAug, MR.sFrz, MR.sApp, MR.sPut, MR.sExt, MR.aName, MR.aTup, MR.aNil, MR.aCons, MR.frz,
        MR.gVar, MR.gC, MR.gOp, MR.gB, MR.bK, MR.gTru, MR.gNotT, MR.gAndT, MR.gOrT, MR.gAndV, MR.gOrV, MR.gNotV, MR.gIf, MR.gChain, MR.gNil, MR.gCons, MR.gTup, MR.gLst, MR.gFz, MR.gOwn, MR.gAsL, MR.gNo, MR.gPart, MR.gSl, MR.gSlF, MR.gUn, MR.gIxL, MR.gFn, MR.gLenL, MR.gYes,
        MR.fAddI, MR.fSub, MR.fDiv, MR.fMod, MR.fPow, MR.fLe, MR.fGt, MR.fGe, MR.fIs, MR.fIsN, MR.fNeg, MR.fMin, MR.fMax, MR.fDivmod, MR.fSum, MR.fAll, MR.fRepr, MR.fIsi, MR.tyD, MR.dInt, MR.dBool, MR.dTup, MR.dStr, MR.dLst,
        MR.gDkT, MR.gDkS, MR.gDkNe, MR.gDkPop, MR.sDkApp, MR.sDkPut, MR.gScr, MR.sDeck, MR.gCall, MR.sel, MR.sFor, MR.sForR1, MR.sForR2, MR.sWhile, MR.sForE, MR.sAugP, MR.gRepL, MR.gCatL, MR.gComp, MR.gCompR, MR.startA, MR.wipeA, MR.sNever, MR.gNever, MR.tNev, MR.sAsg2, MR.fMulS_str, MR.fIntS_str, MR.sParO, MR.sForG, MR.gCompG, MR.iSeqG, MR.iR1G, MR.iR2G, MR.iR3G, MR.iZipG, MR.iEnumG, MR.iEnumLG, MR.iRevG,
        MR.fTru_bl, MR.fTru_non, MR.fTru_int, MR.fTru_str, MR.fTru_lst, MR.fTru_tup, MR.fAdd_int, MR.fAdd_str, MR.fAdd_tup, MR.fAdd_lst, MR.fMul_int, MR.fMul_tup, MR.fMul_lst, MR.fEq_int, MR.fEq_str, MR.fEq_bl, MR.fEq_tup_tup, MR.fEq_tup_lst, MR.fEq_tup_int, MR.fEq_tup_non, MR.fEq_tup_str, MR.fEq_tup_bl, MR.fEq_lst_tup, MR.fEq_lst_lst, MR.fEq_lst_int, MR.fEq_lst_non, MR.fEq_lst_str, MR.fEq_lst_bl, MR.fEq_int_tup, MR.fEq_int_lst, MR.fEq_int_non, MR.fEq_int_str, MR.fEq_int_bl, MR.fEq_non_tup, MR.fEq_non_lst, MR.fEq_non_int, MR.fEq_non_non, MR.fEq_non_str, MR.fEq_non_bl, MR.fEq_str_tup, MR.fEq_str_lst, MR.fEq_str_int, MR.fEq_str_non, MR.fEq_str_bl, MR.fEq_bl_tup, MR.fEq_bl_lst, MR.fEq_bl_int, MR.fEq_bl_non, MR.fEq_bl_str, MR.fNe_int, MR.fNe_str, MR.fNe_bl, MR.fNe_tup_tup, MR.fNe_tup_lst, MR.fNe_tup_int, MR.fNe_tup_non, MR.fNe_tup_str, MR.fNe_tup_bl, MR.fNe_lst_tup, MR.fNe_lst_lst, MR.fNe_lst_int, MR.fNe_lst_non, MR.fNe_lst_str, MR.fNe_lst_bl, MR.fNe_int_tup, MR.fNe_int_lst, MR.fNe_int_non, MR.fNe_int_str, MR.fNe_int_bl, MR.fNe_non_tup, MR.fNe_non_lst, MR.fNe_non_int, MR.fNe_non_non, MR.fNe_non_str, MR.fNe_non_bl, MR.fNe_str_tup, MR.fNe_str_lst, MR.fNe_str_int, MR.fNe_str_non, MR.fNe_str_bl, MR.fNe_bl_tup, MR.fNe_bl_lst, MR.fNe_bl_int, MR.fNe_bl_non, MR.fNe_bl_str, MR.fLt_int, MR.fIx_tup, MR.fSl_tup, MR.fLen_tup, MR.fTuple_tup, MR.fRev_tup, MR.fIx_lst, MR.fSl_lst, MR.fLen_lst, MR.fTuple_lst, MR.fRev_lst, MR.fIx_str, MR.fSl_str, MR.fLen_str, MR.fInt_int, MR.fInt_bl,
        List.map_cons, List.map_nil, List.cons_append, List.nil_append, List.append_nil, List.length_cons, List.length_nil, List.replicate_succ, List.replicate_zero, List.set_cons_zero, List.set_cons_succ, List.getElem?_cons_zero, List.getElem?_cons_succ, List.getD_cons_zero, List.getD_cons_succ, Nat.reduceAdd, Nat.reduceSub, Nat.zero_add, Option.some.injEq, reduceIte, Bool.not_true, Bool.not_false, true_and, and_true]
      have fin : ∀ (ns : List Int) (ω' : DW), isRow b ns → (ns.length : Int) ≤ m → Dk ω' p (T + m + 4) → Qa (D.tup (ns.map D.int)) ω' := q
      split
      · rename_i c
        have hl : 0 < lg := of_decide_eq_true c
        have hn : ns ≠ [] := by intro z; subst z; simp at e3; omega
        obtain ⟨x, hx⟩ : ∃ x, ns.getLast? = some x := ⟨_, List.getLast?_eq_getLast hn⟩
        rw [atI_last hx]
        simp (maxSteps := 2000000) only [MR.sNil, MR.sSeq, MR.sDrop, MR.sRet, MR.sRetN, MR.sBreak, MR.sCont, MR.sIf, MR.sSet, MR.sOwn, MR.sAsg, MR.sPar, MR.sAug, MR.sFrz, MR.sApp, MR.sPut, MR.sExt, MR.aName, MR.aTup, MR.aNil, MR.aCons, MR.frz,
        MR.gVar, MR.gC, MR.gOp, MR.gB, MR.bK, MR.gTru, MR.gNotT, MR.gAndT, MR.gOrT, MR.gAndV, MR.gOrV, MR.gNotV, MR.gIf, MR.gChain, MR.gNil, MR.gCons, MR.gTup, MR.gLst, MR.gFz, MR.gOwn, MR.gAsL, MR.gNo, MR.gPart, MR.gSl, MR.gSlF, MR.gUn, MR.gIxL, MR.gFn, MR.gLenL, MR.gYes,
        MR.fAddI, MR.fSub, MR.fDiv, MR.fMod, MR.fPow, MR.fLe, MR.fGt, MR.fGe, MR.fIs, MR.fIsN, MR.fNeg, MR.fMin, MR.fMax, MR.fDivmod, MR.fSum, MR.fAll, MR.fRepr, MR.fIsi, MR.tyD, MR.dInt, MR.dBool, MR.dTup, MR.dStr, MR.dLst,
        MR.gDkT, MR.gDkS, MR.gDkNe, MR.gDkPop, MR.sDkApp, MR.sDkPut, MR.gScr, MR.sDeck, MR.gCall, MR.sel, MR.sFor, MR.sForR1, MR.sForR2, MR.sWhile, MR.sForE, MR.sAugP, MR.gRepL, MR.gCatL, MR.gComp, MR.gCompR, MR.startA, MR.wipeA, MR.sNever, MR.gNever, MR.tNev, MR.sAsg2, MR.fMulS_str, MR.fIntS_str, MR.sParO, MR.sForG, MR.gCompG, MR.iSeqG, MR.iR1G, MR.iR2G, MR.iR3G, MR.iZipG, MR.iEnumG, MR.iEnumLG, MR.iRevG,
        MR.fTru_bl, MR.fTru_non, MR.fTru_int, MR.fTru_str, MR.fTru_lst, MR.fTru_tup, MR.fAdd_int, MR.fAdd_str, MR.fAdd_tup, MR.fAdd_lst, MR.fMul_int, MR.fMul_tup, MR.fMul_lst, MR.fEq_int, MR.fEq_str, MR.fEq_bl, MR.fEq_tup_tup, MR.fEq_tup_lst, MR.fEq_tup_int, MR.fEq_tup_non, MR.fEq_tup_str, MR.fEq_tup_bl, MR.fEq_lst_tup, MR.fEq_lst_lst, MR.fEq_lst_int, MR.fEq_lst_non, MR.fEq_lst_str, MR.fEq_lst_bl, MR.fEq_int_tup, MR.fEq_int_lst, MR.fEq_int_non, MR.fEq_int_str, MR.fEq_int_bl, MR.fEq_non_tup, MR.fEq_non_lst, MR.fEq_non_int, MR.fEq_non_non, MR.fEq_non_str, MR.fEq_non_bl, MR.fEq_str_tup, MR.fEq_str_lst, MR.fEq_str_int, MR.fEq_str_non, MR.fEq_str_bl, MR.fEq_bl_tup, MR.fEq_bl_lst, MR.fEq_bl_int, MR.fEq_bl_non, MR.fEq_bl_str, MR.fNe_int, MR.fNe_str, MR.fNe_bl, MR.fNe_tup_tup, MR.fNe_tup_lst, MR.fNe_tup_int, MR.fNe_tup_non, MR.fNe_tup_str, MR.fNe_tup_bl, MR.fNe_lst_tup, MR.fNe_lst_lst, MR.fNe_lst_int, MR.fNe_lst_non, MR.fNe_lst_str, MR.fNe_lst_bl, MR.fNe_int_tup, MR.fNe_int_lst, MR.fNe_int_non, MR.fNe_int_str, MR.fNe_int_bl, MR.fNe_non_tup, MR.fNe_non_lst, MR.fNe_non_int, MR.fNe_non_non, MR.fNe_non_str, MR.fNe_non_bl, MR.fNe_str_tup, MR.fNe_str_lst, MR.fNe_str_int, MR.fNe_str_non, MR.fNe_str_bl, MR.fNe_bl_tup, MR.fNe_bl_lst, MR.fNe_bl_int, MR.fNe_bl_non, MR.fNe_bl_str, MR.fLt_int, MR.fIx_tup, MR.fSl_tup, MR.fLen_tup, MR.fTuple_tup, MR.fRev_tup, MR.fIx_lst, MR.fSl_lst, MR.fLen_lst, MR.fTuple_lst, MR.fRev_lst, MR.fIx_str, MR.fSl_str, MR.fLen_str, MR.fInt_int, MR.fInt_bl,
        List.map_cons, List.map_nil, List.cons_append, List.nil_append, List.append_nil, List.length_cons, List.length_nil, List.replicate_succ, List.replicate_zero, List.set_cons_zero, List.set_cons_succ, List.getElem?_cons_zero, List.getElem?_cons_succ, List.getD_cons_zero, List.getD_cons_succ, Nat.reduceAdd, Nat.reduceSub, Nat.zero_add, Option.some.injEq, reduceIte, Bool.not_true, Bool.not_false, true_and, and_true]
        split
        · refine ⟨p, b - 1, T + 2 + lg.toNat, rfl, e1, by omega, small_m (by omega), by omega, fun w3 ω3 a3 b3 k3 => ?_⟩
          simp (maxSteps := 2000000) only [MR.sNil, MR.sSeq, MR.sDrop, MR.sRet, MR.sRetN, MR.sBreak, MR.sCont, MR.sIf, MR.sSet, MR.sOwn, MR.sAsg, MR.sPar, MR.sAug, MR.sFrz, MR.sApp, MR.sPut, MR.sExt, MR.aName, MR.aTup, MR.aNil, MR.aCons, MR.frz,
        MR.gVar, MR.gC, MR.gOp, MR.gB, MR.bK, MR.gTru, MR.gNotT, MR.gAndT, MR.gOrT, MR.gAndV, MR.gOrV, MR.gNotV, MR.gIf, MR.gChain, MR.gNil, MR.gCons, MR.gTup, MR.gLst, MR.gFz, MR.gOwn, MR.gAsL, MR.gNo, MR.gPart, MR.gSl, MR.gSlF, MR.gUn, MR.gIxL, MR.gFn, MR.gLenL, MR.gYes,
        MR.fAddI, MR.fSub, MR.fDiv, MR.fMod, MR.fPow, MR.fLe, MR.fGt, MR.fGe, MR.fIs, MR.fIsN, MR.fNeg, MR.fMin, MR.fMax, MR.fDivmod, MR.fSum, MR.fAll, MR.fRepr, MR.fIsi, MR.tyD, MR.dInt, MR.dBool, MR.dTup, MR.dStr, MR.dLst,
        MR.gDkT, MR.gDkS, MR.gDkNe, MR.gDkPop, MR.sDkApp, MR.sDkPut, MR.gScr, MR.sDeck, MR.gCall, MR.sel, MR.sFor, MR.sForR1, MR.sForR2, MR.sWhile, MR.sForE, MR.sAugP, MR.gRepL, MR.gCatL, MR.gComp, MR.gCompR, MR.startA, MR.wipeA, MR.sNever, MR.gNever, MR.tNev, MR.sAsg2, MR.fMulS_str, MR.fIntS_str, MR.sParO, MR.sForG, MR.gCompG, MR.iSeqG, MR.iR1G, MR.iR2G, MR.iR3G, MR.iZipG, MR.iEnumG, MR.iEnumLG, MR.iRevG,
        MR.fTru_bl, MR.fTru_non, MR.fTru_int, MR.fTru_str, MR.fTru_lst, MR.fTru_tup, MR.fAdd_int, MR.fAdd_str, MR.fAdd_tup, MR.fAdd_lst, MR.fMul_int, MR.fMul_tup, MR.fMul_lst, MR.fEq_int, MR.fEq_str, MR.fEq_bl, MR.fEq_tup_tup, MR.fEq_tup_lst, MR.fEq_tup_int, MR.fEq_tup_non, MR.fEq_tup_str, MR.fEq_tup_bl, MR.fEq_lst_tup, MR.fEq_lst_lst, MR.fEq_lst_int, MR.fEq_lst_non, MR.fEq_lst_str, MR.fEq_lst_bl, MR.fEq_int_tup, MR.fEq_int_lst, MR.fEq_int_non, MR.fEq_int_str, MR.fEq_int_bl, MR.fEq_non_tup, MR.fEq_non_lst, MR.fEq_non_int, MR.fEq_non_non, MR.fEq_non_str, MR.fEq_non_bl, MR.fEq_str_tup, MR.fEq_str_lst, MR.fEq_str_int, MR.fEq_str_non, MR.fEq_str_bl, MR.fEq_bl_tup, MR.fEq_bl_lst, MR.fEq_bl_int, MR.fEq_bl_non, MR.fEq_bl_str, MR.fNe_int, MR.fNe_str, MR.fNe_bl, MR.fNe_tup_tup, MR.fNe_tup_lst, MR.fNe_tup_int, MR.fNe_tup_non, MR.fNe_tup_str, MR.fNe_tup_bl, MR.fNe_lst_tup, MR.fNe_lst_lst, MR.fNe_lst_int, MR.fNe_lst_non, MR.fNe_lst_str, MR.fNe_lst_bl, MR.fNe_int_tup, MR.fNe_int_lst, MR.fNe_int_non, MR.fNe_int_str, MR.fNe_int_bl, MR.fNe_non_tup, MR.fNe_non_lst, MR.fNe_non_int, MR.fNe_non_non, MR.fNe_non_str, MR.fNe_non_bl, MR.fNe_str_tup, MR.fNe_str_lst, MR.fNe_str_int, MR.fNe_str_non, MR.fNe_str_bl, MR.fNe_bl_tup, MR.fNe_bl_lst, MR.fNe_bl_int, MR.fNe_bl_non, MR.fNe_bl_str, MR.fLt_int, MR.fIx_tup, MR.fSl_tup, MR.fLen_tup, MR.fTuple_tup, MR.fRev_tup, MR.fIx_lst, MR.fSl_lst, MR.fLen_lst, MR.fTuple_lst, MR.fRev_lst, MR.fIx_str, MR.fSl_str, MR.fLen_str, MR.fInt_int, MR.fInt_bl,
        List.map_cons, List.map_nil, List.cons_append, List.nil_append, List.append_nil, List.length_cons, List.length_nil, List.replicate_succ, List.replicate_zero, List.set_cons_zero, List.set_cons_succ, List.getElem?_cons_zero, List.getElem?_cons_succ, List.getD_cons_zero, List.getD_cons_succ, Nat.reduceAdd, Nat.reduceSub, Nat.zero_add, Option.some.injEq, reduceIte, Bool.not_true, Bool.not_false, true_and, and_true]
          refine ⟨by decide, p, 3, T + 2 + lg.toNat + 1, rfl, k3, by decide, small_m (by decide), by omega, fun w4 ω4 a4 b4 k4 => ?_⟩
          simp (maxSteps := 2000000) only [MR.sNil, MR.sSeq, MR.sDrop, MR.sRet, MR.sRetN, MR.sBreak, MR.sCont, MR.sIf, MR.sSet, MR.sOwn, MR.sAsg, MR.sPar, MR.sAug, MR.sFrz, MR.sApp, MR.sPut, MR.sExt, MR.aName, MR.aTup, MR.aNil, MR.aCons, MR.frz,
        MR.gVar, MR.gC, MR.gOp, MR.gB, MR.bK, MR.gTru, MR.gNotT, MR.gAndT, MR.gOrT, MR.gAndV, MR.gOrV, MR.gNotV, MR.gIf, MR.gChain, MR.gNil, MR.gCons, MR.gTup, MR.gLst, MR.gFz, MR.gOwn, MR.gAsL, MR.gNo, MR.gPart, MR.gSl, MR.gSlF, MR.gUn, MR.gIxL, MR.gFn, MR.gLenL, MR.gYes,
        MR.fAddI, MR.fSub, MR.fDiv, MR.fMod, MR.fPow, MR.fLe, MR.fGt, MR.fGe, MR.fIs, MR.fIsN, MR.fNeg, MR.fMin, MR.fMax, MR.fDivmod, MR.fSum, MR.fAll, MR.fRepr, MR.fIsi, MR.tyD, MR.dInt, MR.dBool, MR.dTup, MR.dStr, MR.dLst,
        MR.gDkT, MR.gDkS, MR.gDkNe, MR.gDkPop, MR.sDkApp, MR.sDkPut, MR.gScr, MR.sDeck, MR.gCall, MR.sel, MR.sFor, MR.sForR1, MR.sForR2, MR.sWhile, MR.sForE, MR.sAugP, MR.gRepL, MR.gCatL, MR.gComp, MR.gCompR, MR.startA, MR.wipeA, MR.sNever, MR.gNever, MR.tNev, MR.sAsg2, MR.fMulS_str, MR.fIntS_str, MR.sParO, MR.sForG, MR.gCompG, MR.iSeqG, MR.iR1G, MR.iR2G, MR.iR3G, MR.iZipG, MR.iEnumG, MR.iEnumLG, MR.iRevG,
        MR.fTru_bl, MR.fTru_non, MR.fTru_int, MR.fTru_str, MR.fTru_lst, MR.fTru_tup, MR.fAdd_int, MR.fAdd_str, MR.fAdd_tup, MR.fAdd_lst, MR.fMul_int, MR.fMul_tup, MR.fMul_lst, MR.fEq_int, MR.fEq_str, MR.fEq_bl, MR.fEq_tup_tup, MR.fEq_tup_lst, MR.fEq_tup_int, MR.fEq_tup_non, MR.fEq_tup_str, MR.fEq_tup_bl, MR.fEq_lst_tup, MR.fEq_lst_lst, MR.fEq_lst_int, MR.fEq_lst_non, MR.fEq_lst_str, MR.fEq_lst_bl, MR.fEq_int_tup, MR.fEq_int_lst, MR.fEq_int_non, MR.fEq_int_str, MR.fEq_int_bl, MR.fEq_non_tup, MR.fEq_non_lst, MR.fEq_non_int, MR.fEq_non_non, MR.fEq_non_str, MR.fEq_non_bl, MR.fEq_str_tup, MR.fEq_str_lst, MR.fEq_str_int, MR.fEq_str_non, MR.fEq_str_bl, MR.fEq_bl_tup, MR.fEq_bl_lst, MR.fEq_bl_int, MR.fEq_bl_non, MR.fEq_bl_str, MR.fNe_int, MR.fNe_str, MR.fNe_bl, MR.fNe_tup_tup, MR.fNe_tup_lst, MR.fNe_tup_int, MR.fNe_tup_non, MR.fNe_tup_str, MR.fNe_tup_bl, MR.fNe_lst_tup, MR.fNe_lst_lst, MR.fNe_lst_int, MR.fNe_lst_non, MR.fNe_lst_str, MR.fNe_lst_bl, MR.fNe_int_tup, MR.fNe_int_lst, MR.fNe_int_non, MR.fNe_int_str, MR.fNe_int_bl, MR.fNe_non_tup, MR.fNe_non_lst, MR.fNe_non_int, MR.fNe_non_non, MR.fNe_non_str, MR.fNe_non_bl, MR.fNe_str_tup, MR.fNe_str_lst, MR.fNe_str_int, MR.fNe_str_non, MR.fNe_str_bl, MR.fNe_bl_tup, MR.fNe_bl_lst, MR.fNe_bl_int, MR.fNe_bl_non, MR.fNe_bl_str, MR.fLt_int, MR.fIx_tup, MR.fSl_tup, MR.fLen_tup, MR.fTuple_tup, MR.fRev_tup, MR.fIx_lst, MR.fSl_lst, MR.fLen_lst, MR.fTuple_lst, MR.fRev_lst, MR.fIx_str, MR.fSl_str, MR.fLen_str, MR.fInt_int, MR.fInt_bl,
        List.map_cons, List.map_nil, List.cons_append, List.nil_append, List.append_nil, List.length_cons, List.length_nil, List.replicate_succ, List.replicate_zero, List.set_cons_zero, List.set_cons_succ, List.getElem?_cons_zero, List.getElem?_cons_succ, List.getD_cons_zero, List.getD_cons_succ, Nat.reduceAdd, Nat.reduceSub, Nat.zero_add, Option.some.injEq, reduceIte, Bool.not_true, Bool.not_false, true_and, and_true]
          obtain ⟨d2, f2, a2'⟩ := atI_at (ds := [D.int (1 + w3), D.int (b - 1), D.int 1]) (k := w4) a4 b4
          rw [a2']
          have in2 : ∃ y, d2 = .int y ∧ 1 ≤ y ∧ y < b := by
            have := List.mem_of_getElem? f2
            simp only [List.mem_cons, List.not_mem_nil, or_false] at this
            rcases this with rfl | rfl | rfl
            · exact ⟨_, rfl, by omega, by omega⟩
            · exact ⟨b - 1, rfl, by omega, by omega⟩
            · exact ⟨1, rfl, by omega, by omega⟩
          obtain ⟨y2, rfl, y20, y2b⟩ := in2
          simp (maxSteps := 2000000) only [MR.sNil, MR.sSeq, MR.sDrop, MR.sRet, MR.sRetN, MR.sBreak, MR.sCont, MR.sIf, MR.sSet, MR.sOwn, MR.sAsg, MR.sPar, MR.sAug, MR.sFrz, MR.sApp, MR.sPut, MR.sExt, MR.aName, MR.aTup, MR.aNil, MR.aCons, MR.frz,
        MR.gVar, MR.gC, MR.gOp, MR.gB, MR.bK, MR.gTru, MR.gNotT, MR.gAndT, MR.gOrT, MR.gAndV, MR.gOrV, MR.gNotV, MR.gIf, MR.gChain, MR.gNil, MR.gCons, MR.gTup, MR.gLst, MR.gFz, MR.gOwn, MR.gAsL, MR.gNo, MR.gPart, MR.gSl, MR.gSlF, MR.gUn, MR.gIxL, MR.gFn, MR.gLenL, MR.gYes,
        MR.fAddI, MR.fSub, MR.fDiv, MR.fMod, MR.fPow, MR.fLe, MR.fGt, MR.fGe, MR.fIs, MR.fIsN, MR.fNeg, MR.fMin, MR.fMax, MR.fDivmod, MR.fSum, MR.fAll, MR.fRepr, MR.fIsi, MR.tyD, MR.dInt, MR.dBool, MR.dTup, MR.dStr, MR.dLst,
        MR.gDkT, MR.gDkS, MR.gDkNe, MR.gDkPop, MR.sDkApp, MR.sDkPut, MR.gScr, MR.sDeck, MR.gCall, MR.sel, MR.sFor, MR.sForR1, MR.sForR2, MR.sWhile, MR.sForE, MR.sAugP, MR.gRepL, MR.gCatL, MR.gComp, MR.gCompR, MR.startA, MR.wipeA, MR.sNever, MR.gNever, MR.tNev, MR.sAsg2, MR.fMulS_str, MR.fIntS_str, MR.sParO, MR.sForG, MR.gCompG, MR.iSeqG, MR.iR1G, MR.iR2G, MR.iR3G, MR.iZipG, MR.iEnumG, MR.iEnumLG, MR.iRevG,
        MR.fTru_bl, MR.fTru_non, MR.fTru_int, MR.fTru_str, MR.fTru_lst, MR.fTru_tup, MR.fAdd_int, MR.fAdd_str, MR.fAdd_tup, MR.fAdd_lst, MR.fMul_int, MR.fMul_tup, MR.fMul_lst, MR.fEq_int, MR.fEq_str, MR.fEq_bl, MR.fEq_tup_tup, MR.fEq_tup_lst, MR.fEq_tup_int, MR.fEq_tup_non, MR.fEq_tup_str, MR.fEq_tup_bl, MR.fEq_lst_tup, MR.fEq_lst_lst, MR.fEq_lst_int, MR.fEq_lst_non, MR.fEq_lst_str, MR.fEq_lst_bl, MR.fEq_int_tup, MR.fEq_int_lst, MR.fEq_int_non, MR.fEq_int_str, MR.fEq_int_bl, MR.fEq_non_tup, MR.fEq_non_lst, MR.fEq_non_int, MR.fEq_non_non, MR.fEq_non_str, MR.fEq_non_bl, MR.fEq_str_tup, MR.fEq_str_lst, MR.fEq_str_int, MR.fEq_str_non, MR.fEq_str_bl, MR.fEq_bl_tup, MR.fEq_bl_lst, MR.fEq_bl_int, MR.fEq_bl_non, MR.fEq_bl_str, MR.fNe_int, MR.fNe_str, MR.fNe_bl, MR.fNe_tup_tup, MR.fNe_tup_lst, MR.fNe_tup_int, MR.fNe_tup_non, MR.fNe_tup_str, MR.fNe_tup_bl, MR.fNe_lst_tup, MR.fNe_lst_lst, MR.fNe_lst_int, MR.fNe_lst_non, MR.fNe_lst_str, MR.fNe_lst_bl, MR.fNe_int_tup, MR.fNe_int_lst, MR.fNe_int_non, MR.fNe_int_str, MR.fNe_int_bl, MR.fNe_non_tup, MR.fNe_non_lst, MR.fNe_non_int, MR.fNe_non_non, MR.fNe_non_str, MR.fNe_non_bl, MR.fNe_str_tup, MR.fNe_str_lst, MR.fNe_str_int, MR.fNe_str_non, MR.fNe_str_bl, MR.fNe_bl_tup, MR.fNe_bl_lst, MR.fNe_bl_int, MR.fNe_bl_non, MR.fNe_bl_str, MR.fLt_int, MR.fIx_tup, MR.fSl_tup, MR.fLen_tup, MR.fTuple_tup, MR.fRev_tup, MR.fIx_lst, MR.fSl_lst, MR.fLen_lst, MR.fTuple_lst, MR.fRev_lst, MR.fIx_str, MR.fSl_str, MR.fLen_str, MR.fInt_int, MR.fInt_bl,
        List.map_cons, List.map_nil, List.cons_append, List.nil_append, List.append_nil, List.length_cons, List.length_nil, List.replicate_succ, List.replicate_zero, List.set_cons_zero, List.set_cons_succ, List.getElem?_cons_zero, List.getElem?_cons_succ, List.getD_cons_zero, List.getD_cons_succ, Nat.reduceAdd, Nat.reduceSub, Nat.zero_add, Option.some.injEq, reduceIte, Bool.not_true, Bool.not_false, true_and, and_true]
          rw [List.length_map, ixN_last (List.length_pos_iff.mpr hn)]
          simp (maxSteps := 2000000) only [MR.sNil, MR.sSeq, MR.sDrop, MR.sRet, MR.sRetN, MR.sBreak, MR.sCont, MR.sIf, MR.sSet, MR.sOwn, MR.sAsg, MR.sPar, MR.sAug, MR.sFrz, MR.sApp, MR.sPut, MR.sExt, MR.aName, MR.aTup, MR.aNil, MR.aCons, MR.frz,
        MR.gVar, MR.gC, MR.gOp, MR.gB, MR.bK, MR.gTru, MR.gNotT, MR.gAndT, MR.gOrT, MR.gAndV, MR.gOrV, MR.gNotV, MR.gIf, MR.gChain, MR.gNil, MR.gCons, MR.gTup, MR.gLst, MR.gFz, MR.gOwn, MR.gAsL, MR.gNo, MR.gPart, MR.gSl, MR.gSlF, MR.gUn, MR.gIxL, MR.gFn, MR.gLenL, MR.gYes,
        MR.fAddI, MR.fSub, MR.fDiv, MR.fMod, MR.fPow, MR.fLe, MR.fGt, MR.fGe, MR.fIs, MR.fIsN, MR.fNeg, MR.fMin, MR.fMax, MR.fDivmod, MR.fSum, MR.fAll, MR.fRepr, MR.fIsi, MR.tyD, MR.dInt, MR.dBool, MR.dTup, MR.dStr, MR.dLst,
        MR.gDkT, MR.gDkS, MR.gDkNe, MR.gDkPop, MR.sDkApp, MR.sDkPut, MR.gScr, MR.sDeck, MR.gCall, MR.sel, MR.sFor, MR.sForR1, MR.sForR2, MR.sWhile, MR.sForE, MR.sAugP, MR.gRepL, MR.gCatL, MR.gComp, MR.gCompR, MR.startA, MR.wipeA, MR.sNever, MR.gNever, MR.tNev, MR.sAsg2, MR.fMulS_str, MR.fIntS_str, MR.sParO, MR.sForG, MR.gCompG, MR.iSeqG, MR.iR1G, MR.iR2G, MR.iR3G, MR.iZipG, MR.iEnumG, MR.iEnumLG, MR.iRevG,
        MR.fTru_bl, MR.fTru_non, MR.fTru_int, MR.fTru_str, MR.fTru_lst, MR.fTru_tup, MR.fAdd_int, MR.fAdd_str, MR.fAdd_tup, MR.fAdd_lst, MR.fMul_int, MR.fMul_tup, MR.fMul_lst, MR.fEq_int, MR.fEq_str, MR.fEq_bl, MR.fEq_tup_tup, MR.fEq_tup_lst, MR.fEq_tup_int, MR.fEq_tup_non, MR.fEq_tup_str, MR.fEq_tup_bl, MR.fEq_lst_tup, MR.fEq_lst_lst, MR.fEq_lst_int, MR.fEq_lst_non, MR.fEq_lst_str, MR.fEq_lst_bl, MR.fEq_int_tup, MR.fEq_int_lst, MR.fEq_int_non, MR.fEq_int_str, MR.fEq_int_bl, MR.fEq_non_tup, MR.fEq_non_lst, MR.fEq_non_int, MR.fEq_non_non, MR.fEq_non_str, MR.fEq_non_bl, MR.fEq_str_tup, MR.fEq_str_lst, MR.fEq_str_int, MR.fEq_str_non, MR.fEq_str_bl, MR.fEq_bl_tup, MR.fEq_bl_lst, MR.fEq_bl_int, MR.fEq_bl_non, MR.fEq_bl_str, MR.fNe_int, MR.fNe_str, MR.fNe_bl, MR.fNe_tup_tup, MR.fNe_tup_lst, MR.fNe_tup_int, MR.fNe_tup_non, MR.fNe_tup_str, MR.fNe_tup_bl, MR.fNe_lst_tup, MR.fNe_lst_lst, MR.fNe_lst_int, MR.fNe_lst_non, MR.fNe_lst_str, MR.fNe_lst_bl, MR.fNe_int_tup, MR.fNe_int_lst, MR.fNe_int_non, MR.fNe_int_str, MR.fNe_int_bl, MR.fNe_non_tup, MR.fNe_non_lst, MR.fNe_non_int, MR.fNe_non_non, MR.fNe_non_str, MR.fNe_non_bl, MR.fNe_str_tup, MR.fNe_str_lst, MR.fNe_str_int, MR.fNe_str_non, MR.fNe_str_bl, MR.fNe_bl_tup, MR.fNe_bl_lst, MR.fNe_bl_int, MR.fNe_bl_non, MR.fNe_bl_str, MR.fLt_int, MR.fIx_tup, MR.fSl_tup, MR.fLen_tup, MR.fTuple_tup, MR.fRev_tup, MR.fIx_lst, MR.fSl_lst, MR.fLen_lst, MR.fTuple_lst, MR.fRev_lst, MR.fIx_str, MR.fSl_str, MR.fLen_str, MR.fInt_int, MR.fInt_bl,
        List.map_cons, List.map_nil, List.cons_append, List.nil_append, List.append_nil, List.length_cons, List.length_nil, List.replicate_succ, List.replicate_zero, List.set_cons_zero, List.set_cons_succ, List.getElem?_cons_zero, List.getElem?_cons_succ, List.getD_cons_zero, List.getD_cons_succ, Nat.reduceAdd, Nat.reduceSub, Nat.zero_add, Option.some.injEq, reduceIte, Bool.not_true, Bool.not_false, true_and, and_true]
          rw [set_last y2 hn]
          refine fin _ _ ⟨fun n hm => ?_, by simp; omega⟩ (by rw [List.length_append, List.length_dropLast]; simp; omega) (k4.le (by omega))
          rcases List.mem_append.mp hm with hm | hm
          · exact e2 n (List.dropLast_subset _ hm)
          · rw [List.mem_singleton] at hm
            subst hm
            exact ⟨by omega, y2b⟩
        · rename_i c2
          refine fin ns ω' ⟨e2, fun z => ?_⟩ (by omega) (e1.le (by omega))
          rw [hx] at z
          exact c2 (by rw [decide_eq_true_eq]; exact Option.some.inj z)
      · rename_i c
        have hl : lg = 0 := by
          have : ¬ 0 < lg := fun z => c (decide_eq_true z)
          omega
        have hn : ns = [] := List.eq_nil_of_length_eq_zero (by rw [e3, hl]; rfl)
        subst hn
        exact fin [] ω' ⟨e2, by simp⟩ m0 (e1.le (by omega))
  refine ⟨fd, ⟨t.g__law_limbs, F.kp, ok⟩, ?_⟩
  · refine bnd_of F 3 [] [] [0, 1, 2] [] (by simp) rfl ?_
    intro kV doc pm an cdv ct D us mv ws h1 h2 h3 h4
    match us, mv, ws, h1, h2, h3 with
    | [u0, u1, u2], [], [], _, _, _ => exact rfl
theorem kn__law_worth (t : T w K mg) : ∃ fd, Known PR w K mg base 1 "_law_worth" (He.ga K "_law_worth") fd ["_law_limbs_here", "_law_to"] DWd 2 aWorth ∧ Bnd K fd ["_law_limbs_here", "_law_to"] 2 [] [0, 1] [] := by
  obtain ⟨fd, F⟩ := t.f__law_worth
  have ok : FnG PR w K mg base (L2.CX PR w) 1 (He.ga K "_law_worth") fd ["_law_limbs_here", "_law_to"] (toSp DWd K 2 aWorth) := by
    refine fn_ok (N := n__law_worth) DWd aWorth F S__law_worth fun cdv A outer s H E hr hG => ?_
    have S := S__law_worth
    refine ⟨_, (gss_cons (gs_set 2 S.nd ge_int)
      (gss_cons (gs_for po_cx rfl (ge_rev (ge_var 0)) (gg_name 3 S.nd)
      (gss_one (gs_set 2 S.nd (ge_add (ge_mul (ge_var 2) (ge_var 1)) (ge_var 3)))))
      (gss_one (gs_ret (ge_var 2))))), ?_⟩
    clear S hr hG F t
    rintro ds ω Qa Ea ⟨ns, b, rfl, hb, hl, hn, q⟩ _
    simp (maxSteps := 2000000) only [MR.sNil, MR.sSeq, MR.sDrop, MR.sRet, MR.sRetN, MR.sBreak, MR.sCont, MR.sIf, MR.sSet, MR.sOwn, MR.sAsg, MR.sPar, MR.sAug, MR.sFrz, MR.sApp, MR.sPut, MR.sExt, MR.aName, MR.aTup, MR.aNil, MR.aCons, MR.frz,
        MR.gVar, MR.gC, MR.gOp, MR.gB, MR.bK, MR.gTru, MR.gNotT, MR.gAndT, MR.gOrT, MR.gAndV, MR.gOrV, MR.gNotV, MR.gIf, MR.gChain, MR.gNil, MR.gCons, MR.gTup, MR.gLst, MR.gFz, MR.gOwn, MR.gAsL, MR.gNo, MR.gPart, MR.gSl, MR.gSlF, MR.gUn, MR.gIxL, MR.gFn, MR.gLenL, MR.gYes,
        MR.fAddI, MR.fSub, MR.fDiv, MR.fMod, MR.fPow, MR.fLe, MR.fGt, MR.fGe, MR.fIs, MR.fIsN, MR.fNeg, MR.fMin, MR.fMax, MR.fDivmod, MR.fSum, MR.fAll, MR.fRepr, MR.fIsi, MR.tyD, MR.dInt, MR.dBool, MR.dTup, MR.dStr, MR.dLst,
        MR.gDkT, MR.gDkS, MR.gDkNe, MR.gDkPop, MR.sDkApp, MR.sDkPut, MR.gScr, MR.sDeck, MR.gCall, MR.sel, MR.sFor, MR.sForR1, MR.sForR2, MR.sWhile, MR.sForE, MR.sAugP, MR.gRepL, MR.gCatL, MR.gComp, MR.gCompR, MR.startA, MR.wipeA, MR.sNever, MR.gNever, MR.tNev, MR.sAsg2, MR.fMulS_str, MR.fIntS_str, MR.sParO, MR.sForG, MR.gCompG, MR.iSeqG, MR.iR1G, MR.iR2G, MR.iR3G, MR.iZipG, MR.iEnumG, MR.iEnumLG, MR.iRevG,
        MR.fTru_bl, MR.fTru_non, MR.fTru_int, MR.fTru_str, MR.fTru_lst, MR.fTru_tup, MR.fAdd_int, MR.fAdd_str, MR.fAdd_tup, MR.fAdd_lst, MR.fMul_int, MR.fMul_tup, MR.fMul_lst, MR.fEq_int, MR.fEq_str, MR.fEq_bl, MR.fEq_tup_tup, MR.fEq_tup_lst, MR.fEq_tup_int, MR.fEq_tup_non, MR.fEq_tup_str, MR.fEq_tup_bl, MR.fEq_lst_tup, MR.fEq_lst_lst, MR.fEq_lst_int, MR.fEq_lst_non, MR.fEq_lst_str, MR.fEq_lst_bl, MR.fEq_int_tup, MR.fEq_int_lst, MR.fEq_int_non, MR.fEq_int_str, MR.fEq_int_bl, MR.fEq_non_tup, MR.fEq_non_lst, MR.fEq_non_int, MR.fEq_non_non, MR.fEq_non_str, MR.fEq_non_bl, MR.fEq_str_tup, MR.fEq_str_lst, MR.fEq_str_int, MR.fEq_str_non, MR.fEq_str_bl, MR.fEq_bl_tup, MR.fEq_bl_lst, MR.fEq_bl_int, MR.fEq_bl_non, MR.fEq_bl_str, MR.fNe_int, MR.fNe_str, MR.fNe_bl, MR.fNe_tup_tup, MR.fNe_tup_lst, MR.fNe_tup_int, MR.fNe_tup_non, MR.fNe_tup_str, MR.fNe_tup_bl, MR.fNe_lst_tup, MR.fNe_lst_lst, MR.fNe_lst_int, MR.fNe_lst_non, MR.fNe_lst_str, MR.fNe_lst_bl, MR.fNe_int_tup, MR.fNe_int_lst, MR.fNe_int_non, MR.fNe_int_str, MR.fNe_int_bl, MR.fNe_non_tup, MR.fNe_non_lst, MR.fNe_non_int, MR.fNe_non_non, MR.fNe_non_str, MR.fNe_non_bl, MR.fNe_str_tup, MR.fNe_str_lst, MR.fNe_str_int, MR.fNe_str_non, MR.fNe_str_bl, MR.fNe_bl_tup, MR.fNe_bl_lst, MR.fNe_bl_int, MR.fNe_bl_non, MR.fNe_bl_str, MR.fLt_int, MR.fIx_tup, MR.fSl_tup, MR.fLen_tup, MR.fTuple_tup, MR.fRev_tup, MR.fIx_lst, MR.fSl_lst, MR.fLen_lst, MR.fTuple_lst, MR.fRev_lst, MR.fIx_str, MR.fSl_str, MR.fLen_str, MR.fInt_int, MR.fInt_bl,
        List.map_cons, List.map_nil, List.cons_append, List.nil_append, List.append_nil, List.length_cons, List.length_nil, List.replicate_succ, List.replicate_zero, List.set_cons_zero, List.set_cons_succ, List.getElem?_cons_zero, List.getElem?_cons_succ, List.getD_cons_zero, List.getD_cons_succ, Nat.reduceAdd, Nat.reduceSub, Nat.zero_add, Option.some.injEq, reduceIte, Bool.not_true, Bool.not_false, true_and, and_true]
    refine ⟨fun i ρ ω' => ω' = ω ∧ ∃ x3, ρ = [some (.d (row ns)), some (.d (.int b)), some (.d (.int (wor b (ns.drop (ns.length - i))))), x3], ⟨rfl, none, ?_⟩, fun i d ρ ω' hd ⟨e1, x3, e2⟩ => ?_, fun ρ ω' ⟨e1, x3, e2⟩ => ?_⟩
    · rw [Nat.sub_zero, List.drop_length]
      rfl
    · subst e1 e2
      rw [← List.map_reverse] at hd
      obtain ⟨n, e, rfl⟩ := at_ints hd
      have hi : i < ns.length := by
        have := (List.getElem?_eq_some_iff.mp e).1
        rwa [List.length_reverse] at this
      rw [List.getElem?_reverse hi] at e
      have ed : ns.drop (ns.length - (i + 1)) = n :: ns.drop (ns.length - i) := by
        have h1 : ns.length - 1 - i = ns.length - (i + 1) := by omega
        have h2 : ns.length - i = ns.length - (i + 1) + 1 := by omega
        rw [h1] at e
        obtain ⟨h3, h4⟩ := List.getElem?_eq_some_iff.mp e
        rw [h2, List.drop_eq_getElem_cons h3, h4]
      simp (maxSteps := 2000000) only [MR.sNil, MR.sSeq, MR.sDrop, MR.sRet, MR.sRetN, MR.sBreak, MR.sCont, MR.sIf, MR.sSet, MR.sOwn, MR.sAsg, MR.sPar, MR.sAug, MR.sFrz, MR.sApp, MR.sPut, MR.sExt, MR.aName, MR.aTup, MR.aNil, MR.aCons, MR.frz,
        MR.gVar, MR.gC, MR.gOp, MR.gB, MR.bK, MR.gTru, MR.gNotT, MR.gAndT, MR.gOrT, MR.gAndV, MR.gOrV, MR.gNotV, MR.gIf, MR.gChain, MR.gNil, MR.gCons, MR.gTup, MR.gLst, MR.gFz, MR.gOwn, MR.gAsL, MR.gNo, MR.gPart, MR.gSl, MR.gSlF, MR.gUn, MR.gIxL, MR.gFn, MR.gLenL, MR.gYes,
        MR.fAddI, MR.fSub, MR.fDiv, MR.fMod, MR.fPow, MR.fLe, MR.fGt, MR.fGe, MR.fIs, MR.fIsN, MR.fNeg, MR.fMin, MR.fMax, MR.fDivmod, MR.fSum, MR.fAll, MR.fRepr, MR.fIsi, MR.tyD, MR.dInt, MR.dBool, MR.dTup, MR.dStr, MR.dLst,
        MR.gDkT, MR.gDkS, MR.gDkNe, MR.gDkPop, MR.sDkApp, MR.sDkPut, MR.gScr, MR.sDeck, MR.gCall, MR.sel, MR.sFor, MR.sForR1, MR.sForR2, MR.sWhile, MR.sForE, MR.sAugP, MR.gRepL, MR.gCatL, MR.gComp, MR.gCompR, MR.startA, MR.wipeA, MR.sNever, MR.gNever, MR.tNev, MR.sAsg2, MR.fMulS_str, MR.fIntS_str, MR.sParO, MR.sForG, MR.gCompG, MR.iSeqG, MR.iR1G, MR.iR2G, MR.iR3G, MR.iZipG, MR.iEnumG, MR.iEnumLG, MR.iRevG,
        MR.fTru_bl, MR.fTru_non, MR.fTru_int, MR.fTru_str, MR.fTru_lst, MR.fTru_tup, MR.fAdd_int, MR.fAdd_str, MR.fAdd_tup, MR.fAdd_lst, MR.fMul_int, MR.fMul_tup, MR.fMul_lst, MR.fEq_int, MR.fEq_str, MR.fEq_bl, MR.fEq_tup_tup, MR.fEq_tup_lst, MR.fEq_tup_int, MR.fEq_tup_non, MR.fEq_tup_str, MR.fEq_tup_bl, MR.fEq_lst_tup, MR.fEq_lst_lst, MR.fEq_lst_int, MR.fEq_lst_non, MR.fEq_lst_str, MR.fEq_lst_bl, MR.fEq_int_tup, MR.fEq_int_lst, MR.fEq_int_non, MR.fEq_int_str, MR.fEq_int_bl, MR.fEq_non_tup, MR.fEq_non_lst, MR.fEq_non_int, MR.fEq_non_non, MR.fEq_non_str, MR.fEq_non_bl, MR.fEq_str_tup, MR.fEq_str_lst, MR.fEq_str_int, MR.fEq_str_non, MR.fEq_str_bl, MR.fEq_bl_tup, MR.fEq_bl_lst, MR.fEq_bl_int, MR.fEq_bl_non, MR.fEq_bl_str, MR.fNe_int, MR.fNe_str, MR.fNe_bl, MR.fNe_tup_tup, MR.fNe_tup_lst, MR.fNe_tup_int, MR.fNe_tup_non, MR.fNe_tup_str, MR.fNe_tup_bl, MR.fNe_lst_tup, MR.fNe_lst_lst, MR.fNe_lst_int, MR.fNe_lst_non, MR.fNe_lst_str, MR.fNe_lst_bl, MR.fNe_int_tup, MR.fNe_int_lst, MR.fNe_int_non, MR.fNe_int_str, MR.fNe_int_bl, MR.fNe_non_tup, MR.fNe_non_lst, MR.fNe_non_int, MR.fNe_non_non, MR.fNe_non_str, MR.fNe_non_bl, MR.fNe_str_tup, MR.fNe_str_lst, MR.fNe_str_int, MR.fNe_str_non, MR.fNe_str_bl, MR.fNe_bl_tup, MR.fNe_bl_lst, MR.fNe_bl_int, MR.fNe_bl_non, MR.fNe_bl_str, MR.fLt_int, MR.fIx_tup, MR.fSl_tup, MR.fLen_tup, MR.fTuple_tup, MR.fRev_tup, MR.fIx_lst, MR.fSl_lst, MR.fLen_lst, MR.fTuple_lst, MR.fRev_lst, MR.fIx_str, MR.fSl_str, MR.fLen_str, MR.fInt_int, MR.fInt_bl,
        List.map_cons, List.map_nil, List.cons_append, List.nil_append, List.append_nil, List.length_cons, List.length_nil, List.replicate_succ, List.replicate_zero, List.set_cons_zero, List.set_cons_succ, List.getElem?_cons_zero, List.getElem?_cons_succ, List.getD_cons_zero, List.getD_cons_succ, Nat.reduceAdd, Nat.reduceSub, Nat.zero_add, Option.some.injEq, reduceIte, Bool.not_true, Bool.not_false, true_and, and_true]
      have l1 := hl.drop (ns.length - i)
      have l2 := wor_lt (by have := hb.1; omega) l1
      refine ⟨mulw_row (k := (ns.drop (ns.length - i)).length) (wor_nn (by have := hb.1; omega) l1) (by omega) (by have := hb.1; omega) hb.2 (by rw [List.length_drop]; omega) (by have := hb.1; omega) hb.2, some (.d (.int n)), ?_⟩
      rw [ed]
      show _ = [_, _, some (Ent.d (D.int (n + b * wor b (ns.drop (ns.length - i))))), _]
      rw [Int.mul_comm, Int.add_comm]
    · subst e1 e2
      rw [List.length_reverse, List.length_map, Nat.sub_self, List.drop_zero]
      exact q
  refine ⟨fd, ⟨t.g__law_worth, F.kp, ok⟩, ?_⟩
  · refine bnd_of F 2 [] [] [0, 1] [] (by simp) rfl ?_
    intro kV doc pm an cdv ct D us mv ws h1 h2 h3 h4
    match us, mv, ws, h1, h2, h3 with
    | [u0, u1], [], [], _, _, _ => exact rfl
def aByRoads : ASp DWd := fun ds ω Q _ => ∃ x y b l, ds = [row (digs b x), row (digs b y), .int b, row (digs b (x * y))] ∧ base_ b ∧ nb b x l ∧ nb b y l ∧ l ≤ 40 ∧ Q (.bl true) ω
theorem kn__law_by_roads (t : T w K mg) (tb : Tb K mg base) : ∃ fd, Known PR w K mg base 131 "_law_by_roads" (He.ga K "_law_by_roads") fd ["_law_x", "_law_y", "_law_to", "_law_due"] (TWd (tlOf K xs_)) 4 aByRoads ∧ Bnd K fd ["_law_x", "_law_y", "_law_to", "_law_due"] 4 [] [0, 1, 2, 3] [] := by
  obtain ⟨fd, F⟩ := t.f__law_by_roads
  obtain ⟨fd_product_by, k_product_by, b_product_by_0, b_product_by_1, b_product_by_2⟩ := kn_product_by (w := w) (base := base) t tb
  have ok : FnG PR w K mg base (L2.CX PR w) 131 (He.ga K "_law_by_roads") fd ["_law_x", "_law_y", "_law_to", "_law_due"] (toSp (TWd (tlOf K xs_)) K 4 aByRoads) := by
    refine fn_ok (N := n__law_by_roads) (TWd (tlOf K xs_)) aByRoads F S__law_by_roads fun cdv A outer s H E hr hG => ?_
    have S := S__law_by_roads
    refine ⟨_, (gss_cons (gs_for po_cx rfl (ge_tup (ga_cons ge_str (ga_cons ge_str (ga_cons ge_str ga_nil)))) (gg_name 4 S.nd)
      (gss_cons (gs_own 5 S.nd (gf_lst (ga_cons (ge_call2 k_product_by (Room.mono hr (by decide)) hG tk_cx b_product_by_0 (fun B => .nil) (ga_cons (ge_var 4) (ga_cons (ge_var 0) (ga_cons (ge_var 1) ga_nil))) (gk_cons (ge_var 2) gk_nil)) (ga_cons (ge_call3 k_product_by (Room.mono hr (by decide)) hG tk_cx b_product_by_1 (fun B => .nil) (gk_cons (ge_var 2) (gk_cons (ge_var 1) (gk_cons (ge_var 0) (gk_cons (ge_var 4) gk_nil))))) ga_nil))))
      (gss_cons (gs_app 5 (ge_call2 k_product_by (Room.mono hr (by decide)) hG tk_cx b_product_by_0 (fun B => .nil) (ga_cons (ge_var 4) (ga_cons (ge_var 1) (ga_cons (ge_var 0) ga_nil))) (gk_cons (ge_var 2) gk_nil)))
      (gss_frz 5 (gss_one (gs_if (gt_cmp (m_ne (un64 hr)) op2_ne (nomark _) (ge_fn (call_reprX t.sysk hG (un100 hr)) c_reprX t.z_repr (ga_cons (ge_var 5) ga_nil)) (ge_fn (call_reprX t.sysk hG (un100 hr)) c_reprX t.z_repr (ga_cons (GF.ge (gf_rep (GF.gl (gf_lst (ga_cons (ge_var 3) ga_nil))) ge_int)) ga_nil)))
      (gss_one (gs_ret ge_bl))
      gss_nil))))))
      (gss_one (gs_ret ge_bl))), ?_⟩
    clear S hr hG F t k_product_by b_product_by_0 b_product_by_1 b_product_by_2
    rintro ds ω Qa Ea ⟨x, y, b, l, rfl, hb, hx, hy, hl, q⟩ _
    have xy := (hx.mul hy hb)
    have r1 := row_T hb (xy.is hb) (xy.len hb)
    have ok3 : rOkX (.lst [row (digs b (x * y)), row (digs b (x * y)), row (digs b (x * y))]) = true := (Th.lst (M := 10 ^ 40) (k := 2) (n := 20000) (fun d hd => by
      simp only [List.mem_cons, List.not_mem_nil, or_false] at hd
      rcases hd with rfl | rfl | rfl <;> exact ⟨r1.ok, r1.dp⟩) (by
        have := r1.sz
        rw [sizs, sizs, sizs, sizs]
        omega)).rok (by decide) (by decide) (by decide)
    obtain ⟨Jv, hJv⟩ : ∃ Jv : Nat → AEnv → (TWd (tlOf K xs_)).W → Prop, ∀ i ρ ω', Jv i ρ ω' ↔ (ω' = ω ∧ ∃ x4 x5, ρ = [some (.d (row (digs b x))), some (.d (row (digs b y))), some (.d (.int b)), some (.d (row (digs b (x * y)))), x4, x5]) := ⟨_, fun _ _ _ => Iff.rfl⟩
    have go : ∀ (z : Str) (u v : Int) (Q : D → DWd.W → Prop) (E : AX DWd) (ω : DWd.W), isRd z = true → nb b u l → nb b v l → u * v = x * y → Q (row (digs b (x * y))) ω → aProductBy [.str z, row (digs b u), row (digs b v), .int b] ω Q E := fun z u v Q E ω hz hu hv e q => ⟨z, u, v, b, l, rfl, hz, hb, hu, hv, hl, by rw [e]; exact q⟩
    show sSeq _ _ _ _ _
    refine seq_opq fun N hN => ?_
    erw []
    refine ⟨Jv, (hJv _ _ _).mpr ⟨rfl, none, none, rfl⟩, fun i d ρ ω' hd hv => ?_, fun ρ ω' hv => ?_⟩
    · replace hv := (hJv _ _ _).mp hv
      obtain ⟨rfl, x4, x5, rfl⟩ := hv
      obtain ⟨z, rfl, rz⟩ : ∃ z : Str, d = .str z ∧ isRd z = true := by
        have := List.mem_of_getElem? hd
        simp only [List.mem_cons, List.not_mem_nil, or_false] at this
        rcases this with rfl | rfl | rfl <;> exact ⟨_, rfl, by decide +kernel⟩
      clear hN hd
      simp only [MR.aName]
      show sSeq _ _ _ _ _
      refine seq_opq fun N hN => ?_
      erw []
      refine go _ _ _ _ _ _ rz hx hy rfl ?_
      refine go _ _ _ _ _ _ rz hx hy rfl ?_
      show N _ _
      rw [hN]
      clear hN
      show sSeq _ _ _ _ _
      refine seq_opq fun N hN => ?_
      erw []
      refine go _ _ _ _ _ _ rz hy hx (Int.mul_comm y x) ?_
      show N _ _
      rw [hN]
      clear hN
      erw [ok3]
      refine ⟨ok3, ?_⟩
      rw [show ([[row (digs b (x * y))], [row (digs b (x * y))], [row (digs b (x * y))]] : List (List D)).flatten = [row (digs b (x * y)), row (digs b (x * y)), row (digs b (x * y))] from rfl, if_pos rfl]
      exact (hJv _ _ _).mpr ⟨rfl, _, _, rfl⟩
    · replace hv := (hJv _ _ _).mp hv
      obtain ⟨rfl, x4, x5, rfl⟩ := hv
      show N _ _
      rw [hN]
      clear hN
      erw []
      exact q
  refine ⟨fd, ⟨t.g__law_by_roads, F.kp, ok⟩, ?_⟩
  · refine bnd_of F 4 [] [] [0, 1, 2, 3] [] (by simp) rfl ?_
    intro kV doc pm an cdv ct D us mv ws h1 h2 h3 h4
    match us, mv, ws, h1, h2, h3 with
    | [u0, u1, u2, u3], [], [], _, _, _ => exact rfl
def aSpareL : ASp DWd := fun ds ω Q _ => ∃ b, ds = [.int b] ∧ 2 ≤ b ∧ b ≤ 20000 ∧ Q (.int (spr b)) ω
theorem kn__law_spare (t : T w K mg) : ∃ fd, Known PR w K mg base 1 "_law_spare" (He.ga K "_law_spare") fd ["_law_to"] DWd 1 aSpareL ∧ Bnd K fd ["_law_to"] 1 [] [0] [] := by
  obtain ⟨fd, F⟩ := t.f__law_spare
  have ok : FnG PR w K mg base (L2.CX PR w) 1 (He.ga K "_law_spare") fd ["_law_to"] (toSp DWd K 1 aSpareL) := by
    refine fn_ok (N := n__law_spare) DWd aSpareL F S__law_spare fun cdv A outer s H E hr hG => ?_
    have S := S__law_spare
    refine ⟨_, (gss_cons (gs_par 1 2 rfl S.nd ge_int (ge_var 0))
      (gss_cons (gs_while po_cx (gt_cmp (m_lt (un0 hr)) op2_lt (nomark _) (ge_var 2) ge_int)
      (gss_one (gs_par 1 2 rfl S.nd (ge_add (ge_var 1) ge_int) (ge_mul (ge_var 2) (ge_var 0)))))
      (gss_one (gs_ret (ge_var 1))))), ?_⟩
    clear S hr hG F t
    rintro ds ω Qa Ea ⟨b, rfl, b2, bM, q⟩ _
    obtain ⟨Jv, hJv⟩ : ∃ Jv : Nat → AEnv → DWd.W → Prop, ∀ s ρ ω', Jv s ρ ω' ↔ (ω' = ω ∧ ∃ (n pw : Int), ρ = [some (.d (.int b)), some (.d (.int n)), some (.d (.int pw))] ∧ s = (3 - n).toNat ∧ (n = 1 ∧ pw = b ∨ n = 2 ∧ pw = b * b ∧ b < 7 ∨ n = 3 ∧ pw = 8 ∧ b = 2)) := ⟨_, fun _ _ _ => Iff.rfl⟩
    show sSeq _ _ _ _ _
    refine seq_opq fun N hN => ?_
    erw []
    show N _ _
    rw [hN]
    clear hN
    show sSeq _ _ _ _ _
    refine seq_opq fun N hN => ?_
    erw []
    refine ⟨Jv, ⟨_, (hJv _ _ _).mpr ⟨rfl, 1, b, rfl, rfl, .inl ⟨rfl, rfl⟩⟩⟩, fun s ρ ω' hv => ?_⟩
    replace hv := (hJv _ _ _).mp hv
    obtain ⟨rfl, n, pw, rfl, rfl, h⟩ := hv
    have bb : b < 7 → b * b < 49 := fun h => by
      have := Int.mul_le_mul (by omega : b ≤ 6) (by omega : b ≤ 6) (by omega) (by decide)
      omega
    have bb2 : 4 ≤ b * b := by
      have := Int.mul_le_mul (by omega : 2 ≤ b) (by omega : 2 ≤ b) (by decide) (by omega)
      omega
    have bb3 : 3 ≤ b → 9 ≤ b * b := fun h => by
      have := Int.mul_le_mul h h (by decide) (by omega)
      omega
    by_cases z : pw < 7
    · have mk : CMulW pw b := mulw 60 60 (by omega) (by omega) (by omega) (by omega) (by decide) (by decide) (by decide)
      have st : Jv (3 - (n + 1)).toNat [some (.d (.int b)), some (.d (.int (n + 1))), some (.d (.int (pw * b)))] ω' := by
        refine (hJv _ _ _).mpr ⟨rfl, _, _, rfl, rfl, ?_⟩
        rcases h with ⟨rfl, rfl⟩ | ⟨rfl, rfl, h⟩ | ⟨rfl, rfl, h⟩
        · exact .inr (.inl ⟨rfl, rfl, z⟩)
        · refine .inr (.inr ⟨rfl, ?_, ?_⟩)
          · have : b = 2 := by
              by_cases c : 3 ≤ b
              · have := bb3 c; omega
              · omega
            subst this
            decide
          · by_cases c : 3 ≤ b
            · have := bb3 c; omega
            · omega
        · omega
      have lt : (3 - (n + 1)).toNat < (3 - n).toNat := by omega
      erw [z, mk]
      exact ⟨_, lt, st⟩
    · have e : spr b = n := by
        unfold spr
        rcases h with ⟨rfl, rfl⟩ | ⟨rfl, rfl, h⟩ | ⟨rfl, rfl, h⟩
        · rw [if_pos (by omega)]
        · rw [if_neg (by omega), if_neg (by rintro rfl; omega)]
        · rw [if_neg (by omega), if_pos h]
      rw [e] at q
      erw [z]
      show N _ _
      rw [hN]
      clear hN
      erw []
      exact q
  refine ⟨fd, ⟨t.g__law_spare, F.kp, ok⟩, ?_⟩
  · refine bnd_of F 1 [] [] [0] [] (by simp) rfl ?_
    intro kV doc pm an cdv ct D us mv ws h1 h2 h3 h4
    match us, mv, ws, h1, h2, h3 with
    | [u0], [], [], _, _, _ => exact rfl
def aGoesL : ASp DWd := fun ds ω Q _ => ∃ z n b, ds = [.str z, .int n, .int b] ∧ isRd z = true ∧ 0 ≤ n ∧ n ≤ 10000 ∧ 2 ≤ b ∧ b ≤ 20000 ∧ Q (.bl (goB z n b)) ω
theorem kn__law_goes (t : T w K mg) : ∃ fd, Known PR w K mg base 2 "_law_goes" (He.ga K "_law_goes") fd ["_law_word", "_law_limbs_here", "_law_to"] DWd 3 aGoesL ∧ Bnd K fd ["_law_word", "_law_limbs_here", "_law_to"] 3 [] [0, 1, 2] [] := by
  obtain ⟨fd, F⟩ := t.f__law_goes
  obtain ⟨fd__law_spare, k__law_spare, b__law_spare_0⟩ := kn__law_spare (w := w) (base := base) t
  have ok : FnG PR w K mg base (L2.CX PR w) 2 (He.ga K "_law_goes") fd ["_law_word", "_law_limbs_here", "_law_to"] (toSp DWd K 3 aGoesL) := by
    refine fn_ok (N := n__law_goes) DWd aGoesL F S__law_goes fun cdv A outer s H E hr hG => ?_
    have S := S__law_goes
    refine ⟨_, (gss_cons (gs_if (gt_cmp (m_eq (un64 hr)) op2_eq (nomark _) (ge_var 0) ge_str)
      (gss_one (gs_ret (ge_cmp op_ge op2_ge (nomark _) (ge_var 1) ge_int)))
      gss_nil)
      (gss_cons (gs_if (gt_cmp (m_eq (un64 hr)) op2_eq (nomark _) (ge_var 0) ge_str)
      (gss_one (gs_ret (ge_cmp op_ge op2_ge (nomark _) (ge_var 1) ge_int)))
      gss_nil)
      (gss_cons (gs_set 3 S.nd (ge_fn call_len c_len t.z_len (ga_cons (GF.ge (gf_compR rfl S.nd t.z_range (ge_var 1) (blkOk_by (own := [("_law_k", 4)]) rfl) (fun s2 H2 C2 cl2 fp2 => (gc_name 4 S.nd)) (fun s2 H2 C2 cl2 fp2 => (gts_one (gt_cmp (m_lt (un0 hr)) op2_lt (nomark _) (ge_mul ge_int (ge_var 4)) (ge_var 1)))) (fun s2 H2 C2 cl2 fp2 => (ge_var 4)))) ga_nil)))
      (gss_one (gs_ret (ge_and (ge_cmp op_ge op2_ge (nomark _) (ge_var 1) ge_int) (ge_one (ge_cmp (m_lt (un0 hr)) op2_lt (nomark _) (ge_add (ge_var 3) (ge_call1 k__law_spare (Room.mono hr (by decide)) hG tk_cx b__law_spare_0 (fun B => .nil) (ga_cons (ge_var 2) ga_nil))) (ge_var 1))))))))), ?_⟩
    clear S hr hG F t k__law_spare b__law_spare_0
    rintro ds ω Qa Ea ⟨z, n, b, rfl, hz, n0, n1, b0, b1, q⟩ _
    obtain ⟨r1, r2, r3, r4, r5, r6⟩ := rd_ne
    rcases road_cases hz with rfl | rfl | rfl
    · rw [go_p] at q
      erw []
      exact q
    · rw [go_h] at q
      erw []
      rw [if_neg r1]
      exact q
    · rw [go_t] at q
      erw []
      rw [if_neg r2, if_neg r3]
      refine ⟨by omega, by omega, comp_by (pickP fun k => decide (3 * k < n)) (pickP_le _) (by rw [rng_len]; omega) ?_ (fun i x acc P hd hl hP => ?_)⟩
      · have e : (((rng 0 n.toNat).flatMap (pickP fun k => decide (3 * k < n))).length : Int) = thd n := by
          have := thd_count n.toNat
          rw [Int.toNat_of_nonneg n0] at this
          rw [rng_pick, List.length_map, ← this]
          congr 3
          funext k
          have : (3 * (k : Int) < n) = (3 * k < n.toNat) := by
            apply propext
            omega
          simp only [this]
        by_cases c : 5 ≤ n
        · rw [if_pos c]
          rw [decide_eq_true c, Bool.true_and] at q
          erw [aSpareL, e]
          exact ⟨b0, b1, q⟩
        · rw [if_neg c]
          rw [decide_eq_false c, Bool.false_and] at q
          rw [decide_eq_false c]
          exact q
      · obtain ⟨hi, rfl⟩ := rng_of hd
        have mk : CMulW 3 (i : Int) := mulw 10 20 (by decide) (by decide) (by omega) (by omega) (by decide) (by decide) (by decide)
        rw [sl] at hl
        rw [pickP] at hP
        by_cases c : 3 * (0 + (i : Int)) < n
        · rw [if_pos (by simpa using c)] at hP
          rw [Int.zero_add] at c hP
          erw [mk, c]
          exact ⟨hl, hP⟩
        · rw [if_neg (by simpa using c), List.append_nil] at hP
          rw [Int.zero_add] at c
          erw [mk, c]
          exact hP
  refine ⟨fd, ⟨t.g__law_goes, F.kp, ok⟩, ?_⟩
  · refine bnd_of F 3 [] [] [0, 1, 2] [] (by simp) rfl ?_
    intro kV doc pm an cdv ct D us mv ws h1 h2 h3 h4
    match us, mv, ws, h1, h2, h3 with
    | [u0, u1, u2], [], [], _, _, _ => exact rfl
theorem kn__law_pick (t : T w K mg) : ∃ fd, Known PR w K mg base 2 "_law_pick" (He.ga K "_law_pick") fd ["_law_deck_here", "_law_some"] DWd 2 aPick ∧ Bnd K fd ["_law_deck_here", "_law_some"] 2 [] [0, 1] [] := by
  obtain ⟨fd, F⟩ := t.f__law_pick
  obtain ⟨fd__law_draw, k__law_draw, b__law_draw_0⟩ := kn__law_draw (w := w) (base := base) t
  have ok : FnG PR w K mg base (L2.CX PR w) 2 (He.ga K "_law_pick") fd ["_law_deck_here", "_law_some"] (toSp DWd K 2 aPick) := by
    refine fn_ok (N := n__law_pick) DWd aPick F S__law_pick fun cdv A outer s H E hr hG => ?_
    have S := S__law_pick
    refine ⟨_, (gss_one (gs_ret (ge_ix (ge_var 1) (ge_call1 k__law_draw (Room.mono hr (by decide)) hG tk_cx b__law_draw_0 (fun B => .nil) (ga_cons (ge_var 0) (ga_cons (ge_fn call_len c_len t.z_len (ga_cons (ge_var 1) ga_nil)) ga_nil)))))), ?_⟩
    clear S hr hG F t k__law_draw b__law_draw_0
    rintro ds ω Qa Ea ⟨p, xs, T, h | h, hk, hT, hn, hl, q⟩ _
    all_goals subst h
    all_goals have np := List.length_pos_iff.mpr hn
    all_goals erw [aDraw]
    all_goals refine ⟨_, hk, by omega, small_m (by omega), by omega, fun r ω' r0 r1 k => ?_⟩
    all_goals obtain ⟨d, hd, e⟩ := atI_at r0 r1
    all_goals simp only [e]
    all_goals exact q d (List.mem_of_getElem? hd) ω' k
  refine ⟨fd, ⟨t.g__law_pick, F.kp, ok⟩, ?_⟩
  · refine bnd_of F 2 [] [] [0, 1] [] (by simp) rfl ?_
    intro kV doc pm an cdv ct D us mv ws h1 h2 h3 h4
    match us, mv, ws, h1, h2, h3 with
    | [u0, u1], [], [], _, _, _ => exact rfl
def aDrawnPlan : ASp DWd := fun ds ω Q _ => ∃ p n b T, ds = [.adr p, .int n, .int b] ∧ Dk ω p T ∧ T < 2 ^ 55 ∧ 1 ≤ n ∧ n ≤ 40 ∧ 2 ≤ b ∧ b ≤ 20000 ∧ ∀ zs ω', isPl b zs → (zs.length : Int) = n → Dk ω' p (T + 100) → Q (.tup (zs.map D.str)) ω'
theorem kn__law_drawn_plan (t : T w K mg) : ∃ fd, Known PR w K mg base 3 "_law_drawn_plan" (He.ga K "_law_drawn_plan") fd ["_law_deck_here", "_law_limbs_here", "_law_to"] DWd 3 aDrawnPlan ∧ Bnd K fd ["_law_deck_here", "_law_limbs_here", "_law_to"] 3 [] [0, 1, 2] [] := by
  obtain ⟨fd, F⟩ := t.f__law_drawn_plan
  obtain ⟨fd__law_draw, k__law_draw, b__law_draw_0⟩ := kn__law_draw (w := w) (base := base) t
  obtain ⟨fd__law_goes, k__law_goes, b__law_goes_0⟩ := kn__law_goes (w := w) (base := base) t
  obtain ⟨fd__law_pick, k__law_pick, b__law_pick_0⟩ := kn__law_pick (w := w) (base := base) t
  have ok : FnG PR w K mg base (L2.CX PR w) 3 (He.ga K "_law_drawn_plan") fd ["_law_deck_here", "_law_limbs_here", "_law_to"] (toSp DWd K 3 aDrawnPlan) := by
    refine fn_ok (N := n__law_drawn_plan) DWd aDrawnPlan F S__law_drawn_plan fun cdv A outer s H E hr hG => ?_
    have S := S__law_drawn_plan
    refine ⟨_, (gss_cons (gs_set 3 S.nd (ge_call1 k__law_draw (Room.mono hr (by decide)) hG tk_cx b__law_draw_0 (fun B => .nil) (ga_cons (ge_var 0) (ga_cons ge_int ga_nil))))
      (gss_cons (gs_own 4 S.nd (gf_lst ga_nil))
      (gss_cons (gs_forR2 po_cx rfl t.z_range ge_int (ge_add (ge_var 1) ge_int) (gg_name 5 S.nd)
      (gss_cons (gs_setLc 6 rfl S.nd (gi_seq (ge_tup (ga_cons ge_str (ga_cons ge_str (ga_cons ge_str ga_nil))))) (blkOk_by (own := [("_law_word", 7)]) rfl) (fun s2 H2 C2 cl2 fp2 => (gc_name 7 S.nd)) (fun s2 H2 C2 cl2 fp2 => (gts_one (gt_tru (ge_call1 k__law_goes (Room.mono hr (by decide)) hG takes0 b__law_goes_0 (fun B => .nil) (ga_cons (ge_var 7) (ga_cons (ge_var 5) (ga_cons (ge_var 2) ga_nil))))))) (fun s2 H2 C2 cl2 fp2 => (ge_var 7)))
      (gss_one (gs_app 4 (ge_ix (GF.ge (gf_lst (ga_cons (ge_call1 k__law_pick (Room.mono hr (by decide)) hG tk_cx b__law_pick_0 (fun B => .nil) (ga_cons (ge_var 0) (ga_cons (ge_var 6) ga_nil))) (ga_cons (ge_ix (ge_var 6) (ge_neg ge_int)) (ga_cons (ge_ix (ge_slice (ge_var 6) go_none (go_some ge_int)) (ge_neg ge_int)) (ga_cons (ge_ix (ge_var 6) ge_int) ga_nil)))))) (ge_var 3))))))
      (gss_frz 4 (gss_one (gs_ret (ge_ty call_tuple_of c_tuple t.z_tuple (ga_cons (ge_var 4) ga_nil)))))))), ?_⟩
    clear S hr hG F t k__law_draw b__law_draw_0 k__law_goes b__law_goes_0 k__law_pick b__law_pick_0
    rintro ds ω Qa Ea ⟨p, n, b, T, rfl, hk, hT, n0, n1, b0, b1, q⟩ _
    show sSeq _ _ _ _ _
    refine seq_opq fun N hN => ?_
    erw [aDraw]
    refine ⟨_, hk, small_m (by decide), by omega, fun way ω1 w0 w1 k1 => ?_⟩
    show N _ _
    rw [hN]
    clear hN
    show sSeq _ _ _ _ _
    refine seq_opq fun N hN => ?_
    erw []
    obtain ⟨Iv, hIv⟩ : ∃ Iv : Nat → AEnv → DWd.W → Prop, ∀ (i : Nat) ρ ω', Iv i ρ ω' ↔ (Dk ω' p (T + 1 + (i : Int)) ∧ ∃ (zs : List Str) (x5 x6 x7 : Option Ent), isPl b zs ∧ zs.length = i ∧ ρ = [some (.d (.adr p)), some (.d (.int n)), some (.d (.int b)), some (.d (.int way)), some (.own (zs.map D.str)), x5, x6, x7]) := ⟨_, fun _ _ _ => Iff.rfl⟩
    show N _ _
    rw [hN]
    clear hN
    show sSeq _ _ _ _ _
    refine seq_opq fun N hN => ?_
    erw []
    refine ⟨by omega, by omega, Iv, (hIv _ _ _).mpr ⟨k1.le (by omega), [], none, none, none, fun i z e => by simp at e, rfl, rfl⟩, fun i d ρ ω' hd hv => ?_, fun ρ ω' hv => ?_⟩
    rotate_left
    · replace hv := (hIv _ _ _).mp hv
      obtain ⟨k2, zs, x5, x6, x7, hz, lz, rfl⟩ := hv
      rw [rng_len] at lz k2
      show N _ _
      rw [hN]
      clear hN
      erw []
      exact q zs ω' hz (by omega) (k2.le (by omega))
    · replace hv := (hIv _ _ _).mp hv
      obtain ⟨k2, zs, x5, x6, x7, hz, lz, rfl⟩ := hv
      obtain ⟨hi, rfl⟩ := rng_of hd
      have i40 : i < 40 := by omega
      have k0 : (0 : Int) ≤ 1 + (i : Int) := by omega
      have kM : 1 + (i : Int) ≤ 10000 := by omega
      clear hN
      simp only [MR.aName]
      show sSeq _ _ _ _ _
      refine seq_opq fun N hN => ?_
      erw []
      refine comp_by (rdF b (1 + i)) (rdF_le b (1 + i)) (by decide) ?_ (fun j e acc P he hl hP => ?_)
      rotate_left
      · obtain ⟨z, rfl, rz⟩ : ∃ z : Str, e = .str z ∧ isRd z = true := by
          have := List.mem_of_getElem? he
          simp only [List.mem_cons, List.not_mem_nil, or_false] at this
          rcases this with rfl | rfl | rfl <;> exact ⟨_, rfl, by decide +kernel⟩
        rw [sl] at hl
        rw [rdF] at hP
        cases c : goB z (1 + i) b with
        | true =>
          rw [if_pos c] at hP
          erw [aGoesL]
          refine ⟨rz, k0, kM, b0, b1, ?_⟩
          rw [c]
          erw []
          exact ⟨hl, hP⟩
        | false =>
          rw [if_neg (by rw [c]; decide), List.append_nil] at hP
          erw [aGoesL]
          refine ⟨rz, k0, kM, b0, b1, ?_⟩
          rw [c]
          erw []
          exact hP
      rw [rdF_flat]
      have all : ∀ z ∈ rdsAt b (1 + i), isRd z = true ∧ goB z (1 + i) b = true := by
        intro z hz
        unfold rdsAt at hz
        rcases List.mem_append.mp hz with h | h
        · split at h
          · rename_i c; rw [List.mem_singleton] at h; subst h; exact ⟨by decide +kernel, c⟩
          · cases h
        · rcases List.mem_append.mp h with h | h
          · split at h
            · rename_i c; rw [List.mem_singleton] at h; subst h; exact ⟨by decide +kernel, c⟩
            · cases h
          · split at h
            · rename_i c; rw [List.mem_singleton] at h; subst h; exact ⟨by decide +kernel, c⟩
            · cases h
      obtain ⟨ws, hws, wl⟩ : ∃ ws, rdsAt b (1 + i) = ("plain" : Str) :: ws ∧ ws.length ≤ 2 := by
        refine ⟨(if goB "halves" (1 + i) b = true then [("halves" : Str)] else []) ++ if goB "thirds" (1 + i) b = true then [("thirds" : Str)] else [], ?_, ?_⟩
        · unfold rdsAt
          rw [go_p, if_pos (decide_eq_true (by omega))]
          rfl
        · rw [List.length_append]
          split <;> split <;> decide
      rw [hws] at all ⊢
      show N _ _
      rw [hN]
      clear hN
      erw [aPick]
      refine ⟨_, k2, by omega, by omega, fun d hd ω2 k3 => ?_⟩
      have mem : ∀ e, e ∈ D.str "plain" :: ws.map D.str → ∃ z : Str, e = .str z ∧ isRd z = true ∧ goB z (1 + i) b = true := fun e he => by
        rcases List.mem_cons.mp he with rfl | he
        · exact ⟨_, rfl, all _ List.mem_cons_self⟩
        · obtain ⟨z, hz, rfl⟩ := List.mem_map.mp he
          exact ⟨z, rfl, all z (List.mem_cons_of_mem _ hz)⟩
      obtain ⟨e1, h1, m1⟩ : ∃ e1, atI (D.str "plain" :: ws.map D.str) (-1) = some e1 ∧ e1 ∈ D.str "plain" :: ws.map D.str := by
        rcases ws with _ | ⟨a, _ | ⟨c, _ | ⟨x, y⟩⟩⟩
        · exact ⟨_, rfl, by simp⟩
        · exact ⟨_, rfl, by simp⟩
        · exact ⟨_, rfl, by simp⟩
        · simp at wl
      obtain ⟨e2, h2, m2⟩ : ∃ e2, atI (cutD (D.str "plain" :: ws.map D.str) none (some 2)) (-1) = some e2 ∧ e2 ∈ D.str "plain" :: ws.map D.str := by
        rcases ws with _ | ⟨a, _ | ⟨c, _ | ⟨x, y⟩⟩⟩
        · exact ⟨_, rfl, by simp⟩
        · exact ⟨_, rfl, by simp⟩
        · exact ⟨_, rfl, by simp⟩
        · simp at wl
      rw [h1, h2, show atI (D.str "plain" :: ws.map D.str) 0 = some (D.str "plain") from by
        rcases ws with _ | ⟨a, _ | ⟨c, _ | ⟨x, y⟩⟩⟩ <;> first | rfl | (simp at wl)]
      simp only
      obtain ⟨e, he, me⟩ : ∃ e, atI [d, e1, e2, D.str "plain"] way = some e ∧ e ∈ D.str "plain" :: ws.map D.str := by
        rcases (by omega : way = 0 ∨ way = 1 ∨ way = 2 ∨ way = 3) with rfl | rfl | rfl | rfl
        · exact ⟨_, rfl, hd⟩
        · exact ⟨_, rfl, m1⟩
        · exact ⟨_, rfl, m2⟩
        · exact ⟨_, rfl, by simp⟩
      obtain ⟨z, rfl, z1, z2⟩ := mem e me
      rw [he]
      refine ⟨line1000l (by omega), (hIv _ _ _).mpr ⟨k3.le (by omega), zs ++ [z], _, _, _, fun j y e => ?_, by rw [List.length_append, lz]; rfl, by rw [List.map_append]; rfl⟩⟩
      by_cases c : j < zs.length
      · rw [List.getElem?_append_left c] at e
        exact hz j y e
      · rw [List.getElem?_append_right (by omega)] at e
        have b' := (List.getElem?_eq_some_iff.mp e).1
        rw [List.length_singleton] at b'
        have ej : j = i := by omega
        subst ej
        rw [lz, Nat.sub_self] at e
        cases e
        exact ⟨z1, z2⟩
  refine ⟨fd, ⟨t.g__law_drawn_plan, F.kp, ok⟩, ?_⟩
  · refine bnd_of F 3 [] [] [0, 1, 2] [] (by simp) rfl ?_
    intro kV doc pm an cdv ct D us mv ws h1 h2 h3 h4
    match us, mv, ws, h1, h2, h3 with
    | [u0, u1, u2], [], [], _, _, _ => exact rfl
def aProductPaperX (c : Value) : ASp DWd := fun ds ω Q E => ∃ x y b ps l, ds = [row (digs b x), row (digs b y), .int b, .tup (ps.map D.str)] ∧ base_ b ∧ nb b x l ∧ nb b y l ∧ l ≤ 1000 ∧ ps.length ≤ 40 ∧ RdT.ok ⟨b, ps.length, roadOf ps⟩ ∧
  (max (digs b x).length (digs b y).length ≤ ps.length → Q (.tup [row (digs b (x * y)), papP b ps (max (digs b x).length (digs b y).length : Nat) x y]) ω) ∧ (ps.length < max (digs b x).length (digs b y).length → E ⟨c, some [("many", .int (max (digs b x).length (digs b y).length : Nat))]⟩ ω)
theorem kn_product_paper (t : T w K mg) (tb : Tb K mg base) : ∃ fd, Known PR w K mg base 130 "product_paper" (He.ga K "product_paper") fd ["one", "other", "base", "plan"] (TWd (tlOf K xs_)) 4 (aProductPaperX (.ref (He.ga K "NoRoad"))) ∧ Bnd K fd ["one", "other", "base", "plan"] 2 ["base", "plan"] [0, 1, 2, 3] [] := by
  obtain ⟨fd, F⟩ := t.f_product_paper
  obtain ⟨fd_paper_of, k_paper_of, b_paper_of_0⟩ := kn_paper_of (w := w) (base := base) t tb
  obtain ⟨fi_NoRoad, ki_NoRoad, bi_NoRoad⟩ := ki_NoRoad (w := w) (base := base) t
  have ok : FnG PR w K mg base (L2.CX PR w) 130 (He.ga K "product_paper") fd ["one", "other", "base", "plan"] (toSp (TWd (tlOf K xs_)) K 4 (aProductPaperX (.ref (He.ga K "NoRoad")))) := by
    refine fn_okT (N := n_product_paper) (TWd (tlOf K xs_)) (aProductPaperX (.ref (He.ga K "NoRoad"))) F S_product_paper fun cdv hcd A outer s H E hr hG => ?_
    have hcode := hcd.symm.trans (code_at t.tB (by simp) F)
    have S := S_product_paper
    refine ⟨_, (gss_cons (gs_set 4 S.nd (ge_fn (call_max2 rfl) c_max t.z_max (ga_cons (ge_fn call_len c_len t.z_len (ga_cons (ge_var 0) ga_nil)) (ga_cons (ge_fn call_len c_len t.z_len (ga_cons (ge_var 1) ga_nil)) ga_nil))))
      (gss_cons (gs_if (gt_cmp op_gt op2_gt (nomark _) (ge_var 4) (ge_fn call_len c_len t.z_len (ga_cons (ge_var 3) ga_nil)))
      (gss_one (gs_raise1 t.x_NoRoad.ea t.x_NoRoad.en t.x_NoRoad.et ki_NoRoad (Room.mono hr (by decide)) bi_NoRoad pass0 t.c_NoRoad tk_cx (ga_cons (ge_var 4) ga_nil)))
      gss_nil)
      (gss_one (gs_ret (ge_callL k_paper_of.at_ (LK := LKpp) (js := [3]) (fr := ["plan"]) (Nl := ["limbs", "plan"]) (psl := ["limbs"]) (fun _ => rfl) k_paper_of.ok k_paper_of.keep (Room.mono hr (by omega)) hG tk_cx b_paper_of_0 (fun B => .nil) rfl rfl (ge_var 0) (ge_var 1) (ge_var 4) (gk_cons (ge_var 2) gk_nil) (tb _ (tabsB_at t.tB (by simp)).2) hcode (tlOf_mem (List.mem_cons_of_mem _ (List.mem_cons_of_mem _ List.mem_cons_self))) (tlOf_uniq t.tB (List.mem_cons_of_mem _ (List.mem_cons_of_mem _ List.mem_cons_self))) rfl (NdefX.nscope_by (by rfl)) (free_by (by rfl)) rfl (fun _ _ _ _ _ us h => match us, h with | [_], _ => rfl) (fun _ h => nomatch h : AtB _ []) ?hlam))))), ?_⟩
    case hlam =>
      intro θ2 caps hLK B2 r2 c2 cl2 So2 base2 up2 A2 outer2 s2 H2 E2 hsame hsub hr2 hG2 hat2
      refine ⟨_, (ge_ix (ge_var 1) (ge_sub (ge_var 0) ge_int)), ?_⟩
      clear hr2 hG2 up2 hat2
      rintro ds ω Qa Ea ⟨k, rfl, h1, h2, q⟩ _
      obtain ⟨ps, rfl, hk⟩ := hLK
      have e := hk k h1 h2
      have e2 : atI (ps.map D.str) (k - 1) = some (.str (θ2.road k)) := by
        rw [show k - 1 = ((k - 1).toNat : Int) by omega]
        exact atI_nat (by rw [List.getElem?_map, e]; rfl)
      erw [startL, e2]
      exact q
    clear S hr hG F t k_paper_of b_paper_of_0 ki_NoRoad bi_NoRoad
    rintro ds ω Qa Ea ⟨x, y, b, ps, l, rfl, hb, hx, hy, hl, hp, ok, q, qx⟩ _
    have lx := hx.len hb
    have ly := hy.len hb
    show sSeq _ _ _ _ _
    refine seq_opq fun N hN => ?_
    erw []
    generalize hm : max (digs b x).length (digs b y).length = m at *
    have mx : (if ((digs b y).length : Int) > ((digs b x).length : Int) then ((digs b y).length : Int) else ((digs b x).length : Int)) = ((m : Nat) : Int) := by split <;> omega
    rw [mx]
    have ml : m ≤ l := by omega
    have x' : nb b x m := ⟨hx.nn, by have := (nb.of hb (hx.is hb) (show (digs b x).length ≤ m by omega)).lt; rwa [hx.w hb] at this⟩
    have y' : nb b y m := ⟨hy.nn, by have := (nb.of hb (hy.is hb) (show (digs b y).length ≤ m by omega)).lt; rwa [hy.w hb] at this⟩
    show N _ _
    rw [hN]
    clear hN
    show sSeq _ _ _ _ _
    refine seq_opq fun N hN => ?_
    erw []
    by_cases c : ps.length < m
    case pos =>
      rw [if_pos (by omega)]
      exact qx c
    rw [if_neg (by omega)]
    replace q := q (by omega)
    show N _ _
    rw [hN]
    clear hN
    erw []
    refine ⟨⟨b, ps.length, roadOf ps⟩, [.tup (ps.map D.str)], rfl, ⟨ps, rfl, fun k h1 h2 => ?_⟩, fun r => ⟨x, y, m, r, rfl, hb, by omega, by show (m : Int) ≤ (40 : Nat); omega, by show (m : Int) ≤ ps.length; omega, by show (ps.length : Int) ≤ 1000; omega, ok, x', y', q⟩⟩
    show _ = some (ps.getD (k - 1).toNat "plain")
    have : (k - 1).toNat < ps.length := by
      have h2 : k ≤ (ps.length : Int) := h2
      omega
    rw [List.getD_eq_getElem?_getD, List.getElem?_eq_getElem this]
    rfl
  refine ⟨fd, ⟨t.g_product_paper, F.kp, ok⟩, ?_⟩
  · refine bnd_of F 2 ["base", "plan"] [] [0, 1, 2, 3] [] (by simp) rfl ?_
    intro kV doc pm an cdv ct D us mv ws h1 h2 h3 h4
    match us, mv, ws, h1, h2, h3 with
    | [u0, u1], [], [v0, v1], _, _, _ => exact rfl
def aHeardR : ASp DWd := fun ds ω Q _ => ∃ x y b ps l, ds = [row (digs b x), row (digs b y), .int b, .tup (ps.map D.str)] ∧ base_ b ∧ nb b x l ∧ nb b y l ∧ l ≤ 1000 ∧ PlanOk true b ps ∧
  (max (digs b x).length (digs b y).length ≤ ps.length → Q (.tup [.str "told", row (digs b (x * y))]) ω) ∧ (ps.length < max (digs b x).length (digs b y).length → Q (.tup [.str "none", .int (max (digs b x).length (digs b y).length : Nat)]) ω)
theorem kn__law_heard (t : T w K mg) (tb : Tb K mg base) : ∃ fd, Known PR w K mg base 131 "_law_heard" (He.ga K "_law_heard") fd ["_law_x", "_law_y", "_law_to", "_law_own"] (TWd (tlOf K xs_)) 4 aHeardR ∧ Bnd K fd ["_law_x", "_law_y", "_law_to", "_law_own"] 4 [] [0, 1, 2, 3] [] := by
  obtain ⟨fd, F⟩ := t.f__law_heard
  obtain ⟨fd_product_paper, k_product_paper, b_product_paper_0⟩ := kn_product_paper (w := w) (base := base) t tb
  have ok : FnG PR w K mg base (L2.CX PR w) 131 (He.ga K "_law_heard") fd ["_law_x", "_law_y", "_law_to", "_law_own"] (toSp (TWd (tlOf K xs_)) K 4 aHeardR) := by
    refine fn_ok (N := n__law_heard) (TWd (tlOf K xs_)) aHeardR F S__law_heard fun cdv A outer s H E hr hG => ?_
    have S := S__law_heard
    refine ⟨_, (gss_cons (gs_set 4 S.nd (ge_tup (ga_cons ge_str (ga_cons ge_non ga_nil))))
      (gss_cons (gs_tryF K 5 rfl rfl S.nd tk_cx t.c_RoadError (fun W2 pn2 xe2 tk2 po2 => (gss_one (gs_set 4 S.nd (ge_tup (ga_cons ge_str (ga_cons (ge_ix (ge_call2 k_product_paper (Room.mono hr (by decide)) hG tk2 b_product_paper_0 (fun B => .nil) (ga_cons (ge_var 0) (ga_cons (ge_var 1) ga_nil)) (gk_cons (ge_var 2) (gk_cons (ge_var 3) gk_nil))) ge_int) ga_nil))))))
      (fun B2 a2 oe2 cls2 d2 pn2 x2 hz2 hf2 rx2 => (gss_cons (gs_set 6 S.nd (ge_isFT K 5 hz2 hf2 rx2 t.z_isinstance (cv_own t.c_NoBack (cv_own t.c_NoDeed (cv_own t.c_NoName (cv_own t.c_NoQuotient (cv_own t.c_NoRing (cv_own t.c_NoRow (cv_own t.c_NoShare (cv_own t.c_NotSame (cv_own t.c_NoText (cv_own t.c_Taken cv_nil))))))))))))
      (gss_one (gs_if (GW.gt (gw_and (gt_tru (ge_isF1 K 5 hz2 hf2 rx2 t.z_isinstance (cv_own t.c_NoRoad cv_nil))) (gw_and (gt_tru (ge_isF1 K 5 hz2 hf2 rx2 t.z_isinstance (cv_ty (T := "ArithmeticError") t.z_ArithmeticError cv_nil))) (gw_and (gt_not (gt_tru (ge_var 6))) (gw_and1 (gt_not (gt_tru (ge_isF1 K 5 hz2 hf2 rx2 t.z_isinstance (cv_own t.c_TooGreat cv_nil)))))))))
      (gss_one (gs_set 4 S.nd (ge_tup (ga_cons ge_str (ga_cons (ge_fld 5 t.x_NoRoad.xf (t.x_NoRoad.os "many" (by simp)) hz2 hf2 rx2) ga_nil)))))
      gss_nil)))))
      (gss_one (gs_ret (ge_var 4))))), ?_⟩
    clear S hr hG F k_product_paper b_product_paper_0
    rintro ds ω Qa Ea ⟨x, y, b, ps, l, rfl, hb, hx, hy, hl, hp, q, qx⟩ _
    show sSeq _ _ _ _ _
    refine seq_opq fun N hN => ?_
    erw []
    show N _ _
    rw [hN]
    clear hN
    show sSeq _ _ _ _ _
    refine seq_opq fun N hN => ?_
    erw [aProductPaperX, t.x_NoRoad.cc, t.xm_NoRoad_RoadError, t.xk_NoRoad_NoBack, t.xk_NoRoad_NoDeed, t.xk_NoRoad_NoName, t.xk_NoRoad_NoQuotient, t.xk_NoRoad_NoRing, t.xk_NoRoad_NoRow, t.xk_NoRoad_NoShare, t.xk_NoRoad_NotSame, t.xk_NoRoad_NoText, t.xk_NoRoad_Taken, t.xk_NoRoad_NoRoad, t.xk_NoRoad_ArithmeticError, t.xk_NoRoad_TooGreat]
    refine ⟨x, y, b, rfl, rfl, rfl, ps, rfl, hb, l, hx, hy, hl, hp.le, hp.ok, fun c => ?_, fun c B0 a => ⟨_, rfl, ?_⟩⟩
    · show N _ _
      show N _ _
      rw [hN]
      clear hN
      erw []
      exact q c
    · show N _ _
      rw [hN]
      clear hN
      erw []
      exact qx c
  refine ⟨fd, ⟨t.g__law_heard, F.kp, ok⟩, ?_⟩
  · refine bnd_of F 4 [] [] [0, 1, 2, 3] [] (by simp) rfl ?_
    intro kV doc pm an cdv ct D us mv ws h1 h2 h3 h4
    match us, mv, ws, h1, h2, h3 with
    | [u0, u1, u2, u3], [], [], _, _, _ => exact rfl
theorem inc_len : ∀ (us : List Int) (lo : Int), us.Pairwise (· < ·) → (∀ u ∈ us, lo ≤ u ∧ u ≤ 40) → us.length ≤ (41 - lo).toNat
  | [], _, _, _ => Nat.zero_le _
  | u :: us, lo, hp, hb => by
    obtain ⟨h1, h2⟩ := List.pairwise_cons.mp hp
    have ih := inc_len us (u + 1) h2 fun v hv => ⟨by have := h1 v hv; omega, (hb v (by simp [hv])).2⟩
    have := hb u (by simp)
    rw [List.length_cons]
    omega
def aShortR : ASp DWd := fun ds ω Q _ => ∃ p x y b l T, ds = [.adr p, row (digs b x), row (digs b y), .int b, row (digs b (x * y))] ∧ Dk ω p T ∧ T < 2 ^ 50 ∧ base_ b ∧ nb b x l ∧ nb b y l ∧ l ≤ 40 ∧ ∀ ω', Dk ω' p (T + 10000) → Q (.bl true) ω'
theorem kn__law_short_right (t : T w K mg) (tb : Tb K mg base) : ∃ fd, Known PR w K mg base 132 "_law_short_right" (He.ga K "_law_short_right") fd ["_law_deck_here", "_law_x", "_law_y", "_law_to", "_law_due"] (TWd (tlOf K xs_)) 5 aShortR ∧ Bnd K fd ["_law_deck_here", "_law_x", "_law_y", "_law_to", "_law_due"] 5 [] [0, 1, 2, 3, 4] [] := by
  obtain ⟨fd, F⟩ := t.f__law_short_right
  obtain ⟨fd__law_drawn_plan, k__law_drawn_plan, b__law_drawn_plan_0⟩ := kn__law_drawn_plan (w := w) (base := base) t
  replace k__law_drawn_plan := k__law_drawn_plan.liftT (tlOf K xs_)
  obtain ⟨fd__law_draw, k__law_draw, b__law_draw_0⟩ := kn__law_draw (w := w) (base := base) t
  replace k__law_draw := k__law_draw.liftT (tlOf K xs_)
  obtain ⟨fd__law_heard, k__law_heard, b__law_heard_0⟩ := kn__law_heard (w := w) (base := base) t tb
  have ok : FnG PR w K mg base (L2.CX PR w) 132 (He.ga K "_law_short_right") fd ["_law_deck_here", "_law_x", "_law_y", "_law_to", "_law_due"] (toSp (TWd (tlOf K xs_)) K 5 aShortR) := by
    refine fn_ok (N := n__law_short_right) (TWd (tlOf K xs_)) aShortR F S__law_short_right fun cdv A outer s H E hr hG => ?_
    have S := S__law_short_right
    refine ⟨_, (gss_cons (gs_set 5 S.nd (ge_fn (call_max2 rfl) c_max t.z_max (ga_cons (ge_fn call_len c_len t.z_len (ga_cons (ge_var 1) ga_nil)) (ga_cons (ge_fn call_len c_len t.z_len (ga_cons (ge_var 2) ga_nil)) ga_nil))))
      (gss_cons (gs_for po_cx rfl (GF.ge (gf_srtL rfl t.z_sorted t.z_set (GF.ge (gf_lst (ga_cons ge_int (ga_cons (ge_fn (call_max2 rfl) c_max t.z_max (ga_cons ge_int (ga_cons (ge_sub (ge_var 5) ge_int) ga_nil))) (ga_cons (ge_fn (call_max2 rfl) c_max t.z_max (ga_cons ge_int (ga_cons (ge_var 5) ga_nil))) (ga_cons (ge_add ge_int (ge_call1 k__law_draw (Room.mono hr (by decide)) hG tk_cx b__law_draw_0 (fun B => .nil) (ga_cons (ge_var 0) (ga_cons (ge_fn (call_max2 rfl) c_max t.z_max (ga_cons ge_int (ga_cons (ge_var 5) ga_nil))) ga_nil)))) ga_nil)))))))) (gg_name 6 S.nd)
      (gss_cons (gs_set 7 S.nd (ge_call1 k__law_drawn_plan (Room.mono hr (by decide)) hG tk_cx b__law_drawn_plan_0 (fun B => .nil) (ga_cons (ge_var 0) (ga_cons (ge_var 6) (ga_cons (ge_var 3) ga_nil)))))
      (gss_cons (gs_set 8 S.nd (ge_if (gt_cmp op_ge op2_ge (nomark _) (ge_var 6) (ge_var 5)) (ge_tup (ga_cons ge_str (ga_cons (ge_var 4) ga_nil))) (ge_tup (ga_cons ge_str (ga_cons (ge_var 5) ga_nil)))))
      (gss_one (gs_if (gt_cmp (m_ne (un64 hr)) op2_ne (nomark _) (ge_fn (call_reprX t.sysk hG (un100 hr)) c_reprX t.z_repr (ga_cons (GF.ge (gf_lst (ga_cons (ge_call1 k__law_heard (Room.mono hr (by decide)) hG tk_cx b__law_heard_0 (fun B => .nil) (ga_cons (ge_var 1) (ga_cons (ge_var 2) (ga_cons (ge_var 3) (ga_cons (ge_var 7) ga_nil))))) (ga_cons (ge_call1 k__law_heard (Room.mono hr (by decide)) hG tk_cx b__law_heard_0 (fun B => .nil) (ga_cons (ge_var 2) (ga_cons (ge_var 1) (ga_cons (ge_var 3) (ga_cons (ge_var 7) ga_nil))))) ga_nil)))) ga_nil)) (ge_fn (call_reprX t.sysk hG (un100 hr)) c_reprX t.z_repr (ga_cons (GF.ge (gf_rep (GF.gl (gf_lst (ga_cons (ge_var 8) ga_nil))) ge_int)) ga_nil)))
      (gss_one (gs_ret ge_bl))
      gss_nil)))))
      (gss_one (gs_ret ge_bl)))), ?_⟩
    clear S hr hG F t k__law_drawn_plan b__law_drawn_plan_0 k__law_draw b__law_draw_0 k__law_heard b__law_heard_0
    rintro ds ω Qa Ea ⟨p, x, y, b, l, T, rfl, hk, hT, hb, hx, hy, hl, q⟩ _
    have lx := hx.len hb
    have ly := hy.len hb
    show sSeq _ _ _ _ _
    refine seq_opq fun N hN => ?_
    erw []
    generalize hm : max (digs b x).length (digs b y).length = m at *
    have mx : (if ((digs b y).length : Int) > ((digs b x).length : Int) then ((digs b y).length : Int) else ((digs b x).length : Int)) = ((m : Nat) : Int) := by split <;> omega
    rw [mx]
    have ml : m ≤ l := by omega
    obtain ⟨M, hM, M1, M40, Mm⟩ : ∃ M : Int, M = (if (m : Int) > 1 then (m : Int) else 1) ∧ 1 ≤ M ∧ M ≤ 40 ∧ m ≤ M := ⟨_, rfl, by split <;> omega, by split <;> omega, by split <;> omega⟩
    obtain ⟨M', hM', M1', M40'⟩ : ∃ M' : Int, M' = (if (m : Int) - 1 > 1 then (m : Int) - 1 else 1) ∧ 1 ≤ M' ∧ M' ≤ 40 := ⟨_, rfl, by split <;> omega, by split <;> omega⟩
    have xy := (hx.mul hy hb)
    have r1 := (row_T hb (xy.is hb) (xy.len hb)).le (M' := 10 ^ 45) (by decide) (Nat.le_refl _) (Nat.le_refl _)
    show N _ _
    rw [hN]
    clear hN
    show sSeq _ _ _ _ _
    refine seq_opq fun N hN => ?_
    erw [aDraw]
    rw [← hM]
    refine ⟨_, hk, by omega, small_m (by omega), by omega, fun r ω1 r0 rb k1 => ?_⟩
    rw [← hM']
    refine fun us u1 u2 => ?_
    have ub : ∀ u ∈ us, 1 ≤ u ∧ u ≤ 40 := fun u hu => by
      have := (u2 u).mp hu
      simp only [List.mem_cons, List.not_mem_nil, or_false] at this
      omega
    have ul : us.length ≤ 40 := by
      have := inc_len us 1 u1 ub
      omega
    obtain ⟨Jv, hJv⟩ : ∃ Jv : Nat → AEnv → DWd.W → Prop, ∀ i ρ ω', Jv i ρ ω' ↔ (Dk ω' p (T + 1 + 200 * (i : Int)) ∧ ∃ x6 x7 x8, ρ = [some (.d (.adr p)), some (.d (row (digs b x))), some (.d (row (digs b y))), some (.d (.int b)), some (.d (row (digs b (x * y)))), some (.d (.int m)), x6, x7, x8]) := ⟨_, fun _ _ _ => Iff.rfl⟩
    refine ⟨Jv, (hJv _ _ _).mpr ⟨k1.le (by omega), none, none, none, rfl⟩, fun i d ρ ω' hd hv => ?_, fun ρ ω' hv => ?_⟩
    · replace hv := (hJv _ _ _).mp hv
      obtain ⟨k2, x6, x7, x8, rfl⟩ := hv
      obtain ⟨u, hu, rfl⟩ := at_ints hd
      obtain ⟨u0, u9⟩ := ub u (List.mem_of_getElem? hu)
      have hi := (List.getElem?_eq_some_iff.mp hu).1
      have b1 := hb.1
      have b2 := hb.2
      clear hN hd
      simp only [MR.aName]
      show sSeq _ _ _ _ _
      refine seq_opq fun N hN => ?_
      erw [aDrawnPlan]
      refine ⟨_, k2, by omega, u0, u9, b1, by omega, fun zs ω3 hz lz k3 => ?_⟩
      have hp := hz.plan (show zs.length ≤ 40 by omega)
      show N _ _
      rw [hN]
      clear hN
      show sSeq _ _ _ _ _
      refine seq_opq fun N hN => ?_
      erw []
      have fin : ∀ W : D, okB (10 ^ 45) W = true → dep W ≤ 3 → siz W ≤ 20000 → (m ≤ zs.length → W = .tup [.str "told", row (digs b (x * y))]) → (zs.length < m → W = .tup [.str "none", .int m]) →
          N [some (.d (.adr p)), some (.d (row (digs b x))), some (.d (row (digs b y))), some (.d (.int b)), some (.d (row (digs b (x * y)))), some (.d (.int m)), some (.d (.int u)), some (.d (.tup (zs.map D.str))), some (.d W)] ω3 := fun W w1 w2 w3 e1 e2 => by
        have ok2 : rOkX (.lst [W, W]) = true := (Th.lst (M := 10 ^ 45) (k := 3) (n := 50000) (fun d hd => by
          simp only [List.mem_cons, List.not_mem_nil, or_false] at hd
          rcases hd with rfl | rfl <;> exact ⟨w1, w2⟩) (by rw [sizs, sizs, sizs]; omega)).rok (by decide) (by decide) (by decide)
        have heard : ∀ (u v : Int) (Q : D → DWd.W → Prop) (E : AX DWd), nb b u l → nb b v l → u * v = x * y → max (digs b u).length (digs b v).length = m → Q W ω3 → aHeardR [row (digs b u), row (digs b v), .int b, .tup (zs.map D.str)] ω3 Q E := fun u v Q E hu hv e em q => by
          refine ⟨u, v, b, zs, l, rfl, hb, hu, hv, by omega, hp, fun c => ?_, fun c => ?_⟩
          · rw [em] at c
            rw [e, ← e1 c]
            exact q
          · rw [em] at c ⊢
            rw [← e2 c]
            exact q
        show N _ _
        rw [hN]
        clear hN
        erw []
        refine heard x y _ _ hx hy rfl hm ?_
        refine heard y x _ _ hy hx (Int.mul_comm y x) (by rw [Nat.max_comm]; exact hm) ?_
        rw [show ([[W], [W]] : List (List D)).flatten = [W, W] from rfl]
        refine ⟨ok2, ok2, ?_⟩
        rw [if_pos rfl]
        exact (hJv _ _ _).mpr ⟨k3.le (by omega), _, _, _, rfl⟩
      by_cases c : (m : Int) ≤ u
      · rw [if_pos c]
        refine fin _ ?_ ?_ ?_ (fun _ => rfl) (fun h => by omega)
        · rw [okB, okBs, okBs, okBs, r1.ok]
          decide
        · have := r1.dp
          rw [dep, deps, deps, deps, dep_str]
          omega
        · have := r1.sz
          rw [siz, sizs, sizs, sizs, show siz (.str "told") = 44 by decide]
          omega
      · rw [if_neg c]
        refine fin _ ?_ ?_ ?_ (fun h => by omega) (fun _ => rfl)
        · rw [okB, okBs, okBs, okBs, okB, decide_eq_true (by omega), decide_eq_true (by omega)]
          decide
        · rw [dep, deps, deps, deps, dep_str, dep_int]
          decide
        · rw [siz, sizs, sizs, sizs, show siz (.str "none") = 44 by decide, siz]
          omega
    · replace hv := (hJv _ _ _).mp hv
      obtain ⟨k2, x6, x7, x8, rfl⟩ := hv
      rw [List.length_map] at k2
      show N _ _
      rw [hN]
      clear hN
      erw []
      exact q _ (k2.le (by omega))
  refine ⟨fd, ⟨t.g__law_short_right, F.kp, ok⟩, ?_⟩
  · refine bnd_of F 5 [] [] [0, 1, 2, 3, 4] [] (by simp) rfl ?_
    intro kV doc pm an cdv ct D us mv ws h1 h2 h3 h4
    match us, mv, ws, h1, h2, h3 with
    | [u0, u1, u2, u3, u4], [], [], _, _, _ => exact rfl
theorem kn_law (t : T w K mg) (tb : Tb K mg base) : ∃ fd, FunD K "law" "law" (defArgs s_law) (defBody s_law) (defScope s_law) [] [] (He.ga K "law") fd ∧ FnG PR w K mg base CX0 133 (He.ga K "law") fd ["_law_script"] (toSp (TWd (tlOf K xs_)) K 1 aLaw) := by
  obtain ⟨fd, F⟩ := t.f_law
  obtain ⟨fd__law_deck, k__law_deck, b__law_deck_0⟩ := kn__law_deck (w := w) (base := base) t
  replace k__law_deck := k__law_deck.liftT (tlOf K xs_)
  obtain ⟨fd__law_any_base, k__law_any_base, b__law_any_base_0⟩ := kn__law_any_base (w := w) (base := base) t
  replace k__law_any_base := k__law_any_base.liftT (tlOf K xs_)
  obtain ⟨fd__law_row_of, k__law_row_of, b__law_row_of_0⟩ := kn__law_row_of (w := w) (base := base) t
  replace k__law_row_of := k__law_row_of.liftT (tlOf K xs_)
  obtain ⟨fd_product_by, k_product_by, b_product_by_0, b_product_by_1, b_product_by_2⟩ := kn_product_by (w := w) (base := base) t tb
  obtain ⟨fd__law_draw, k__law_draw, b__law_draw_0⟩ := kn__law_draw (w := w) (base := base) t
  replace k__law_draw := k__law_draw.liftT (tlOf K xs_)
  obtain ⟨fd__law_limbs, k__law_limbs, b__law_limbs_0⟩ := kn__law_limbs (w := w) (base := base) t
  replace k__law_limbs := k__law_limbs.liftT (tlOf K xs_)
  obtain ⟨fd__law_worth, k__law_worth, b__law_worth_0⟩ := kn__law_worth (w := w) (base := base) t
  replace k__law_worth := k__law_worth.liftT (tlOf K xs_)
  obtain ⟨fd__law_by_roads, k__law_by_roads, b__law_by_roads_0⟩ := kn__law_by_roads (w := w) (base := base) t tb
  obtain ⟨fd__law_short_right, k__law_short_right, b__law_short_right_0⟩ := kn__law_short_right (w := w) (base := base) t tb
  refine ⟨fd, F, ?_⟩
  have ok : FnG PR w K mg base CX0 133 (He.ga K "law") fd ["_law_script"] (toSp (TWd (tlOf K xs_)) K 1 aLaw) := by
    refine fn_ok0 (N := n_law) (TWd (tlOf K xs_)) aLaw F S_law (fun cdv A outer s H E hr hG => ?_) (fun ds ω Qa Ea h => h)
    have S := S_law
    refine ⟨_, (gss_cons (gs_set 1 S.nd (ge_call1 k__law_deck (Room.mono hr (by decide)) hG takes0 b__law_deck_0 (fun B => .nil) (ga_cons (ge_var 0) ga_nil)))
      (gss_cons (gs_forR1 po_cx rfl t.z_range ge_int (gg_name 2 S.nd)
      (gss_cons (gs_par3 3 4 5 rfl S.nd (ge_cmp (m_eq (un64 hr)) op2_eq (nomark _) (ge_call1 k__law_draw (Room.mono hr (by decide)) hG takes0 b__law_draw_0 (fun B => .nil) (ga_cons (ge_var 1) (ga_cons ge_int ga_nil))) ge_int) (ge_cmp (m_eq (un64 hr)) op2_eq (nomark _) (ge_call1 k__law_draw (Room.mono hr (by decide)) hG takes0 b__law_draw_0 (fun B => .nil) (ga_cons (ge_var 1) (ga_cons ge_int ga_nil))) ge_int) (ge_call1 k__law_draw (Room.mono hr (by decide)) hG takes0 b__law_draw_0 (fun B => .nil) (ga_cons (ge_var 1) (ga_cons ge_int ga_nil))))
      (gss_cons (gs_set 6 S.nd (ge_call1 k__law_any_base (Room.mono hr (by decide)) hG takes0 b__law_any_base_0 (fun B => .nil) (ga_cons (ge_var 1) ga_nil)))
      (gss_cons (gs_set 7 S.nd (ge_ix (GF.ge (gf_lst (ga_cons ge_int (ga_cons ge_int ga_nil)))) (ge_ty call_int1 c_int t.z_int (ga_cons (ge_var 3) ga_nil))))
      (gss_cons (gs_par 8 9 rfl S.nd (ge_call1 k__law_limbs (Room.mono hr (by decide)) hG takes0 b__law_limbs_0 (fun B => .nil) (ga_cons (ge_var 1) (ga_cons (ge_var 6) (ga_cons (ge_var 7) ga_nil)))) (ge_call1 k__law_limbs (Room.mono hr (by decide)) hG takes0 b__law_limbs_0 (fun B => .nil) (ga_cons (ge_var 1) (ga_cons (ge_var 6) (ga_cons (ge_var 7) ga_nil)))))
      (gss_cons (gs_if (gt_cmp (m_eq (un64 hr)) op2_eq (nomark _) (ge_var 5) ge_int)
      (gss_one (gs_set 9 S.nd (ge_tup ga_nil)))
      gss_nil)
      (gss_cons (gs_set 10 S.nd (ge_call1 k__law_row_of (Room.mono hr (by decide)) hG takes0 b__law_row_of_0 (fun B => .nil) (ga_cons (ge_mul (ge_call1 k__law_worth (Room.mono hr (by decide)) hG takes0 b__law_worth_0 (fun B => .nil) (ga_cons (ge_var 8) (ga_cons (ge_var 6) ga_nil))) (ge_call1 k__law_worth (Room.mono hr (by decide)) hG takes0 b__law_worth_0 (fun B => .nil) (ga_cons (ge_var 9) (ga_cons (ge_var 6) ga_nil)))) (ga_cons (ge_var 6) ga_nil))))
      (gss_cons (gs_if (GW.gt (gw_or (gt_not (gt_tru (ge_call1 k__law_by_roads (Room.mono hr (by decide)) hG takes0 b__law_by_roads_0 (fun B => .nil) (ga_cons (ge_var 8) (ga_cons (ge_var 9) (ga_cons (ge_var 6) (ga_cons (ge_var 10) ga_nil))))))) (gw_or1 (gt_not (gt_tru (ge_call1 k__law_short_right (Room.mono hr (by decide)) hG takes0 b__law_short_right_0 (fun B => .nil) (ga_cons (ge_var 1) (ga_cons (ge_var 8) (ga_cons (ge_var 9) (ga_cons (ge_var 6) (ga_cons (ge_var 10) ga_nil)))))))))))
      (gss_one (gs_ret ge_bl))
      gss_nil)
      (gss_one (gs_if (GW.gt (gw_and (gt_tru (ge_var 4)) (gw_and1 (gt_not (gt_tru (ge_var 3))))))
      (gss_cons (gs_set 11 S.nd (ge_call2 k_product_by (Room.mono hr (by decide)) hG takes0 b_product_by_0 (fun B => .nil) (ga_cons ge_str (ga_cons (ge_var 8) (ga_cons (ge_var 9) ga_nil))) (gk_cons (ge_var 6) gk_nil)))
      (gss_cons (gs_set 10 S.nd (ge_call1 k__law_row_of (Room.mono hr (by decide)) hG takes0 b__law_row_of_0 (fun B => .nil) (ga_cons (ge_mul (ge_call1 k__law_worth (Room.mono hr (by decide)) hG takes0 b__law_worth_0 (fun B => .nil) (ga_cons (ge_var 11) (ga_cons (ge_var 6) ga_nil))) (ge_call1 k__law_worth (Room.mono hr (by decide)) hG takes0 b__law_worth_0 (fun B => .nil) (ga_cons (ge_var 9) (ga_cons (ge_var 6) ga_nil)))) (ga_cons (ge_var 6) ga_nil))))
      (gss_one (gs_if (gt_not (gt_tru (ge_call1 k__law_by_roads (Room.mono hr (by decide)) hG takes0 b__law_by_roads_0 (fun B => .nil) (ga_cons (ge_var 11) (ga_cons (ge_var 9) (ga_cons (ge_var 6) (ga_cons (ge_var 10) ga_nil)))))))
      (gss_one (gs_ret ge_bl))
      gss_nil))))
      gss_nil))))))))))
      (gss_one (gs_ret (ge_cmp (m_eq (un64 hr)) op2_eq (nomark _) (ge_call1 k_product_by (Room.mono hr (by decide)) hG takes0 b_product_by_2 (fun B => (.cons (.int _) .nil)) (ga_cons ge_str (ga_cons (ge_tup (ga_cons ge_int (ga_cons ge_int (ga_cons ge_int (ga_cons ge_int (ga_cons ge_int ga_nil)))))) (ga_cons (ge_tup (ga_cons ge_int (ga_cons ge_int ga_nil))) ga_nil)))) (ge_tup (ga_cons ge_int (ga_cons ge_int (ga_cons ge_int (ga_cons ge_int (ga_cons ge_int (ga_cons ge_int (ga_cons ge_int ga_nil))))))))))))), ?_⟩
    clear S hr hG F t k__law_deck b__law_deck_0 k__law_any_base b__law_any_base_0 k__law_row_of b__law_row_of_0 k_product_by b_product_by_0 b_product_by_1 b_product_by_2 k__law_draw b__law_draw_0 k__law_limbs b__law_limbs_0 k__law_worth b__law_worth_0 k__law_by_roads b__law_by_roads_0 k__law_short_right b__law_short_right_0
    rintro ds ω Qa ⟨a, ns, rfl, e, hl, hn, q⟩ _
    show sSeq _ _ _ _ _
    refine seq_opq fun N hN => ?_
    erw [aDeck, e, hl, hn]
    intro p ω1 k0
    obtain ⟨Jv, hJv⟩ : ∃ Jv : Nat → AEnv → DWd.W → Prop, ∀ i ρ ω', Jv i ρ ω' ↔ (Dk ω' p (40000 * i) ∧ ∃ x2 x3 x4 x5 x6 x7 x8 x9 x10 x11 : Option Ent, ρ = [some (.d (.adr a)), some (.d (.adr p)), x2, x3, x4, x5, x6, x7, x8, x9, x10, x11]) := ⟨_, fun _ _ _ => Iff.rfl⟩
    show N _ _
    rw [hN]
    clear hN
    show sSeq _ _ _ _ _
    refine seq_opq fun N hN => ?_
    erw []
    refine ⟨Jv, (hJv _ _ _).mpr ⟨k0.le (by decide), none, none, none, none, none, none, none, none, none, none, rfl⟩, fun i d ρ ω' hd hv => ?_, fun ρ ω' hv => ?_⟩
    · replace hv := (hJv _ _ _).mp hv
      obtain ⟨k1, x2, x3, x4, x5, x6, x7, x8, x9, x10, x11, h3⟩ := hv
      subst h3
      obtain ⟨hi, rfl⟩ := rng_of hd
      have hi : i < 2 := hi
      clear hN hd
      simp only [MR.aName]
      show sSeq _ _ _ _ _
      refine seq_opq fun N hN => ?_
      erw [aDraw]
      refine ⟨_, k1, small_m (by decide), by omega, fun w1 ω2 a1 b1 k2 => ⟨_, k2, small_m (by decide), by omega, fun w2 ω3 a2 b2 k3 => ⟨_, k3, small_m (by decide), by omega, fun w3 ω4 a3 b3 k4 => ?_⟩⟩⟩
      show N _ _
      rw [hN]
      clear hN
      show sSeq _ _ _ _ _
      refine seq_opq fun N hN => ?_
      erw [aAnyBase]
      refine ⟨_, k4, by omega, fun b ω5 hb k5 => ?_⟩
      obtain ⟨z, ez, z0, z1, z2⟩ : ∃ z : Int, atI [D.int 9, D.int 40] (if w1 = 5 then 1 else 0) = some (.int z) ∧ 0 ≤ z ∧ z ≤ 40 ∧ (¬ w1 = 5 → z = 9) := by
        by_cases c : w1 = 5
        · rw [if_pos c]; exact ⟨40, rfl, by decide, by decide, fun h => absurd c h⟩
        · rw [if_neg c]; exact ⟨9, rfl, by decide, by decide, fun _ => rfl⟩
      show N _ _
      rw [hN]
      clear hN
      show sSeq _ _ _ _ _
      refine seq_opq fun N hN => ?_
      erw [ez]
      show N _ _
      rw [hN]
      clear hN
      show sSeq _ _ _ _ _
      refine seq_opq fun N hN => ?_
      erw [aRow]
      refine ⟨_, k5, by omega, hb, z0, by omega, fun xs ω6 h1 l1 k6 => ⟨_, k6, by omega, hb, z0, by omega, fun ys ω7 h2 l2 k7 => ?_⟩⟩
      show N _ _
      rw [hN]
      clear hN
      show sSeq _ _ _ _ _
      refine seq_opq fun N hN => ?_
      erw []
      have fin : ∀ ys : List Int, isRow b ys → (ys.length : Int) ≤ z → N [some (.d (.adr a)), some (.d (.adr p)), some (.d (.int i)), some (.d (.bl (decide (w1 = 5)))), some (.d (.bl (decide (w2 = 1)))), some (.d (.int w3)), some (.d (.int b)), some (.d (.int z)), some (.d (row xs)), some (.d (row ys)), x10, x11] ω7 := fun ys h2 l2 => by
        have hx := nb.of hb h1 (show xs.length ≤ z.toNat by omega)
        have hy := nb.of hb h2 (show ys.length ≤ z.toNat by omega)
        obtain ⟨x, ex⟩ : ∃ x, x = wor b xs := ⟨_, rfl⟩
        obtain ⟨y, ey⟩ : ∃ y, y = wor b ys := ⟨_, rfl⟩
        have dx : digs b x = xs := by rw [ex, digs_wor hb.1 h1]
        have dy : digs b y = ys := by rw [ey, digs_wor hb.1 h2]
        rw [← ex] at hx
        rw [← ey] at hy
        have xy := hx.mul hy hb
        have mk : ∀ {u v : Int} {k m : Nat}, nb b u k → nb b v m → k ≤ 200 → m ≤ 200 → CMulW u v := fun hu hv hk hm => by
          have := mulw_rows hb (hu.is hb).lim (hv.is hb).lim (by have := hu.len hb; omega) (by have := hv.len hb; omega)
          rwa [hu.w hb, hv.w hb] at this
        have mxy := mk hx hy (by omega) (by omega)
        show N _ _
        rw [hN]
        clear hN
        show sSeq _ _ _ _ _
        refine seq_opq fun N hN => ?_
        erw [aWorth]
        refine ⟨hb, h1.lim, by omega, hb, h2.lim, by omega, ?_⟩
        rw [← ex, ← ey]
        erw [mxy, aRowOf]
        refine ⟨hb, ⟨_, xy.lt, by omega⟩, ?_⟩
        show N _ _
        rw [hN]
        clear hN
        show sSeq _ _ _ _ _
        refine seq_opq fun N hN => ?_
        erw []
        rw [← dx, ← dy]
        refine ⟨x, y, b, z.toNat, rfl, hb, hx, hy, by omega, ?_⟩
        erw []
        refine ⟨p, x, y, b, z.toNat, _, rfl, k7, by omega, hb, hx, hy, by omega, fun ω8 k8 => ?_⟩
        erw []
        have nx : ∀ x3 x4 x10 x11, Jv (i + 1) [some (.d (.adr a)), some (.d (.adr p)), some (.d (.int i)), x3, x4, some (.d (.int w3)), some (.d (.int b)), some (.d (.int z)), some (.d (row (digs b x))), some (.d (row (digs b y))), x10, x11] ω8 := fun x3 x4 x10 x11 => (hJv _ _ _).mpr ⟨k8.le (by omega), _, _, _, _, _, _, _, _, _, _, rfl⟩
        by_cases c2 : w2 = 1
        case neg =>
          show N _ _
          rw [hN]
          clear hN
          erw [c2]
          exact nx _ _ _ _
        by_cases c1 : w1 = 5
        case pos =>
          show N _ _
          rw [hN]
          clear hN
          erw [c1, c2]
          exact nx _ _ _ _
        obtain rfl := z2 c1
        have xyy := xy.mul hy hb
        have mxyy := mk xy hy (by decide) (by decide)
        have lxy := xy.len hb
        have ly := hy.len hb
        show N _ _
        rw [hN]
        clear hN
        erw [c1, c2]
        refine ⟨"halves", x, y, b, 9, rfl, by decide, hb, hx, hy, by decide, ?_⟩
        erw [aWorth]
        refine ⟨hb, (xy.is hb).lim, by omega, hb, (hy.is hb).lim, by omega, ?_⟩
        rw [xy.w hb, hy.w hb]
        erw [mxyy, aRowOf]
        refine ⟨hb, ⟨_, xyy.lt, by decide⟩, ?_⟩
        refine ⟨x * y, y, b, 18, rfl, hb, xy, hy.le hb (by decide), by decide, ?_⟩
        erw []
        exact nx _ _ _ _
      by_cases c : w3 = 0
      · rw [if_pos c]
        exact fin [] ⟨fun n hn => (nomatch hn), fun e => nomatch e⟩ z0
      · rw [if_neg c]
        exact fin ys h2 l2
    · replace hv := (hJv _ _ _).mp hv
      obtain ⟨k1, x2, x3, x4, x5, x6, x7, x8, x9, x10, x11, h3⟩ := hv
      subst h3
      have b10 : base_ 10 := ⟨by decide, by decide⟩
      have e9 : digs 10 99999 = [9, 9, 9, 9, 9] := digs_wor (b := 10) (by decide) (ns := [9, 9, 9, 9, 9]) ⟨fun n hn => by simp at hn; omega, by decide⟩
      have e99 : digs 10 99 = [9, 9] := digs_wor (b := 10) (by decide) (ns := [9, 9]) ⟨fun n hn => by simp at hn; omega, by decide⟩
      have er : digs 10 (99999 * 99) = [1, 0, 9, 9, 9, 8, 9] := digs_wor (b := 10) (by decide) (ns := [1, 0, 9, 9, 9, 8, 9]) ⟨fun n hn => by simp at hn; omega, by decide⟩
      have n9 : nb 10 99999 5 := ⟨by decide, by decide⟩
      have n99 : nb 10 99 5 := ⟨by decide, by decide⟩
      have ep : ∀ Q E, Q (row [1, 0, 9, 9, 9, 8, 9]) ω' → aProductBy [.str "thirds", .tup [.int 9, .int 9, .int 9, .int 9, .int 9], .tup [.int 9, .int 9], .int 10] ω' Q E := fun Q E h => ⟨"thirds", 99999, 99, 10, 5, by rw [e9, e99]; rfl, by decide, b10, n9, n99, by decide, by rw [er]; exact h⟩
      show N _ _
      rw [hN]
      clear hN
      erw []
      refine ep _ _ ?_
      show fEq (row [1, 0, 9, 9, 9, 8, 9]) (row [1, 0, 9, 9, 9, 8, 9]) _
      simp only [MR.fEq_tup_tup, MR.eqOk_row, MR.deq_row, true_and]
      exact q ω'
  exact ok
end
theorem facts {w : World} {K : PySem.W.Frag} {h : Heap} {mg : Str → Option Value} {f : Addr} (X : K.In h) (G : h.Ns mainGlobals mg) (hfa : mg ("law" : Str) = some (.ref f)) (ct : He.SaysT fa fn ts w K) (cb : bsAll bs K = true) :
    ∃ fd : FuncData, (∀ (s : Shared) (v : Value), BindsTo s fd ⟨[v], []⟩ [("_law_script", v)]) ∧ tabsB (xs_.map (·.1)) K = true ∧ ∀ base : Heap, K.In base → base.Ns mainGlobals mg → Tb K mg base → FnG PR w K mg base CX0 133 f fd ["_law_script"] (toSp (TWd (tlOf K xs_)) K 1 aLaw) := by
  have c := ct.d
  have t : T w K mg := ⟨c.def_ 0 (d := d__law_deck) rfl,
    He.glo_ok X G (c.fact 0 (f := .glo "_law_deck") rfl),
    c.def_ 1 (d := d__law_draw) rfl,
    He.glo_ok X G (c.fact 1 (f := .glo "_law_draw") rfl),
    c.def_ 2 (d := d__law_any_base) rfl,
    He.glo_ok X G (c.fact 2 (f := .glo "_law_any_base") rfl),
    c.def_ 3 (d := d__law_row_of) rfl,
    He.glo_ok X G (c.fact 3 (f := .glo "_law_row_of") rfl),
    c.def_ 4 (d := d_half_of) rfl,
    He.glo_ok X G (c.fact 4 (f := .glo "half_of") rfl),
    c.def_ 5 (d := d_limb_at) rfl,
    He.glo_ok X G (c.fact 5 (f := .glo "limb_at") rfl),
    c.def_ 6 (d := d_summed) rfl,
    He.glo_ok X G (c.fact 6 (f := .glo "summed") rfl),
    c.def_ 7 (d := d_without_noughts) rfl,
    He.glo_ok X G (c.fact 7 (f := .glo "without_noughts") rfl),
    c.def_ 8 (d := d_cut_at) rfl,
    He.glo_ok X G (c.fact 8 (f := .glo "cut_at") rfl),
    c.def_ 9 (d := d_is_less) rfl,
    He.glo_ok X G (c.fact 9 (f := .glo "is_less") rfl),
    c.def_ 10 (d := d_lessened) rfl,
    He.glo_ok X G (c.fact 10 (f := .glo "lessened") rfl),
    c.def_ 11 (d := d_apart) rfl,
    He.glo_ok X G (c.fact 11 (f := .glo "apart") rfl),
    c.def_ 12 (d := d_shifted) rfl,
    He.glo_ok X G (c.fact 12 (f := .glo "shifted") rfl),
    c.def_ 13 (d := d_by_halves) rfl,
    He.glo_ok X G (c.fact 13 (f := .glo "by_halves") rfl),
    c.def_ 14 (d := d_third_of) rfl,
    He.glo_ok X G (c.fact 14 (f := .glo "third_of") rfl),
    c.def_ 15 (d := d_part_of) rfl,
    He.glo_ok X G (c.fact 15 (f := .glo "part_of") rfl),
    c.def_ 16 (d := d_doubled) rfl,
    He.glo_ok X G (c.fact 16 (f := .glo "doubled") rfl),
    c.def_ 17 (d := d_middles_of) rfl,
    He.glo_ok X G (c.fact 17 (f := .glo "middles_of") rfl),
    c.def_ 18 (d := d_spare_of) rfl,
    He.glo_ok X G (c.fact 18 (f := .glo "spare_of") rfl),
    c.def_ 19 (d := d_at_points) rfl,
    He.glo_ok X G (c.fact 19 (f := .glo "at_points") rfl),
    c.def_ 20 (d := d_by_thirds) rfl,
    He.glo_ok X G (c.fact 20 (f := .glo "by_thirds") rfl),
    c.def_ 21 (d := d_carried) rfl,
    He.glo_ok X G (c.fact 21 (f := .glo "carried") rfl),
    c.def_ 22 (d := d_column_sums) rfl,
    He.glo_ok X G (c.fact 22 (f := .glo "column_sums") rfl),
    c.def_ 23 (d := d_plain_product) rfl,
    He.glo_ok X G (c.fact 23 (f := .glo "plain_product") rfl),
    c.def_ 24 (d := d_plain_carries) rfl,
    He.glo_ok X G (c.fact 24 (f := .glo "plain_carries") rfl),
    c.def_ 25 (d := d_paper_of) rfl,
    He.glo_ok X G (c.fact 25 (f := .glo "paper_of") rfl),
    c.def_ 26 (d := d_may_go) rfl,
    He.glo_ok X G (c.fact 26 (f := .glo "may_go") rfl),
    c.def_ 27 (d := d_road_for) rfl,
    He.glo_ok X G (c.fact 27 (f := .glo "road_for") rfl),
    c.def_ 28 (d := d_product_by) rfl,
    He.glo_ok X G (c.fact 28 (f := .glo "product_by") rfl),
    c.def_ 29 (d := d__law_limbs) rfl,
    He.glo_ok X G (c.fact 29 (f := .glo "_law_limbs") rfl),
    c.def_ 30 (d := d__law_worth) rfl,
    He.glo_ok X G (c.fact 30 (f := .glo "_law_worth") rfl),
    c.def_ 31 (d := d__law_by_roads) rfl,
    He.glo_ok X G (c.fact 31 (f := .glo "_law_by_roads") rfl),
    c.def_ 32 (d := d__law_spare) rfl,
    He.glo_ok X G (c.fact 32 (f := .glo "_law_spare") rfl),
    c.def_ 33 (d := d__law_goes) rfl,
    He.glo_ok X G (c.fact 33 (f := .glo "_law_goes") rfl),
    c.def_ 34 (d := d__law_pick) rfl,
    He.glo_ok X G (c.fact 34 (f := .glo "_law_pick") rfl),
    c.def_ 35 (d := d__law_drawn_plan) rfl,
    He.glo_ok X G (c.fact 35 (f := .glo "_law_drawn_plan") rfl),
    c.def_ 36 (d := d_product_paper) rfl,
    He.glo_ok X G (c.fact 36 (f := .glo "product_paper") rfl),
    c.def_ 37 (d := d__law_heard) rfl,
    He.glo_ok X G (c.fact 37 (f := .glo "_law_heard") rfl),
    c.def_ 38 (d := d__law_short_right) rfl,
    He.glo_ok X G (c.fact 38 (f := .glo "_law_short_right") rfl),
    c.def_ 39 (d := d_law) rfl,
    He.glo_ok X G (c.fact 39 (f := .glo "law") rfl),
    c.def_ 40 (d := di_NoRoad) rfl,
    He.free_ok X G (c.fact 40 (f := .free "ArithmeticError") rfl),
    He.free_ok X G (c.fact 41 (f := .free "divmod") rfl),
    He.free_ok X G (c.fact 42 (f := .free "enumerate") rfl),
    He.free_ok X G (c.fact 43 (f := .free "int") rfl),
    He.free_ok X G (c.fact 44 (f := .free "isinstance") rfl),
    He.free_ok X G (c.fact 45 (f := .free "len") rfl),
    He.free_ok X G (c.fact 46 (f := .free "list") rfl),
    He.free_ok X G (c.fact 47 (f := .free "max") rfl),
    He.free_ok X G (c.fact 48 (f := .free "range") rfl),
    He.free_ok X G (c.fact 49 (f := .free "repr") rfl),
    He.free_ok X G (c.fact 50 (f := .free "reversed") rfl),
    He.free_ok X G (c.fact 51 (f := .free "set") rfl),
    He.free_ok X G (c.fact 52 (f := .free "sorted") rfl),
    He.free_ok X G (c.fact 53 (f := .free "sum") rfl),
    He.free_ok X G (c.fact 54 (f := .free "tuple") rfl),
    He.free_ok X G (c.fact 55 (f := .free "zip") rfl),
    He.int_ok X G (c.fact 56 (f := .int "BASE" 10) rfl),
    He.int_ok X G (c.fact 57 (f := .int "GREATEST_TIMES" 7) rfl),
    He.glo_ok X G (c.fact 58 (f := .glo "RoadError") rfl),
    He.glo_ok X G (c.fact 59 (f := .glo "NoText") rfl),
    He.glo_ok X G (c.fact 60 (f := .glo "TooGreat") rfl),
    He.glo_ok X G (c.fact 61 (f := .glo "NoQuotient") rfl),
    He.glo_ok X G (c.fact 62 (f := .glo "NoRing") rfl),
    He.glo_ok X G (c.fact 63 (f := .glo "NoDeed") rfl),
    He.glo_ok X G (c.fact 64 (f := .glo "NotSame") rfl),
    He.glo_ok X G (c.fact 65 (f := .glo "NoRoad") rfl),
    He.glo_ok X G (c.fact 66 (f := .glo "NoShare") rfl),
    He.glo_ok X G (c.fact 67 (f := .glo "NoName") rfl),
    He.glo_ok X G (c.fact 68 (f := .glo "Taken") rfl),
    He.glo_ok X G (c.fact 69 (f := .glo "NoRow") rfl),
    He.glo_ok X G (c.fact 70 (f := .glo "NoBack") rfl),
    exF_ok (bs_at cb 0 (f := exFB "NoRoad" "RoadError" ["many"]) rfl),
    exm_ok2 (bs_at cb 1 (f := exmFB "NoRoad" "RoadError" true) rfl),
    kit_ok (bs_at cb 2 (f := kitFB "NoRoad" (fun K => .ref (He.ga K "NoBack")) false) rfl),
    kit_ok (bs_at cb 3 (f := kitFB "NoRoad" (fun K => .ref (He.ga K "NoDeed")) false) rfl),
    kit_ok (bs_at cb 4 (f := kitFB "NoRoad" (fun K => .ref (He.ga K "NoName")) false) rfl),
    kit_ok (bs_at cb 5 (f := kitFB "NoRoad" (fun K => .ref (He.ga K "NoQuotient")) false) rfl),
    kit_ok (bs_at cb 6 (f := kitFB "NoRoad" (fun K => .ref (He.ga K "NoRing")) false) rfl),
    kit_ok (bs_at cb 7 (f := kitFB "NoRoad" (fun K => .ref (He.ga K "NoRow")) false) rfl),
    kit_ok (bs_at cb 8 (f := kitFB "NoRoad" (fun K => .ref (He.ga K "NoShare")) false) rfl),
    kit_ok (bs_at cb 9 (f := kitFB "NoRoad" (fun K => .ref (He.ga K "NotSame")) false) rfl),
    kit_ok (bs_at cb 10 (f := kitFB "NoRoad" (fun K => .ref (He.ga K "NoText")) false) rfl),
    kit_ok (bs_at cb 11 (f := kitFB "NoRoad" (fun K => .ref (He.ga K "Taken")) false) rfl),
    kit_ok (bs_at cb 12 (f := kitFB "NoRoad" (fun K => .ref (He.ga K "NoRoad")) true) rfl),
    kit_ok (bs_at cb 13 (f := kitFB "NoRoad" (fun K => .type "ArithmeticError") true) rfl),
    kit_ok (bs_at cb 14 (f := kitFB "NoRoad" (fun K => .ref (He.ga K "TooGreat")) false) rfl),
    sys_ok (bs_at cb 15 (f := sysFB) rfl),
    bs_at cb 16 (f := tabsB (xs_.map (·.1))) rfl,
    mDat_glo (He.glo_ok X G (c.fact 71 (f := .glo "PLAN") rfl)) (bs_at cb 17 (f := datFB "PLAN" dd_PLAN) rfl),
    dat_rep (dat_ok 5 _ _ (bs_at cb 17 (f := datFB "PLAN" dd_PLAN) rfl)),
    He.glo_ok X G (c.fact 72 (f := .glo "FEWEST") rfl),
    ktab_of (ct.tab 0 rfl) (bs_at cb 18 (f := tabFB "FEWEST" [("plain", .int 1), ("halves", .int 2), ("thirds", .int 5)]) rfl)⟩
  have e := hfa.symm.trans t.g_law
  cases e
  obtain ⟨fd, F⟩ := t.f_law
  have b := FunD.bindsA (ps := ["_law_script"]) F fun _ _ _ _ _ _ us hl => match us, hl with | [_], _ => rfl
  refine ⟨fd, fun s v => b s [v] rfl, t.tB, fun base _ _ tb => ?_⟩
  obtain ⟨fd2, F2, q⟩ := kn_law (w := w) (base := base) t tb
  obtain rfl : fd = fd2 := fund_same F F2
  exact q
end MR.Lk29
open PySem PySem.W PySem.Calls PyProof.Rows
theorem PySem.Challenge.cw_manyroads_k29_roads_alone_and_no_road_holds : PySem.Challenge.rw_manyroads_k29_roads_alone_and_no_road.Holds := by
  w_on; o_law
  refine HandSHeadRun.head_any (r := OpenLaw.row PySem.Challenge.rw_manyroads_k29_roads_alone_and_no_road) (q := view (OpenLaw.row PySem.Challenge.rw_manyroads_k29_roads_alone_and_no_road).prog [64]) (H := MR.Lk29.hk) (ob := MR.Lk29.ob) (M := 20000) (loose := MR.Lk29.others) (d := HandSHeadRun.topDef (OpenLaw.row PySem.Challenge.rw_manyroads_k29_roads_alone_and_no_road).prog 64) (kwd := []) MR.Lk29.ob_eq
    (by kernel_rfl) (fun s => by kernel_rfl) MR.Lk29.run (by kernel_rfl) (by kernel_rfl) (by kernel_rfl) (by rfl) (by first | assumption | decide +kernel) (by decide +kernel) ⟨rfl, rfl, rfl, rfl, rfl, by decide +kernel⟩ ?hw ?hc
  case hw => w_witness2
  case hc =>
    refine MR.walk_toT2 (MR.Lk29.xs_.map (·.1)) (l := PySem.Challenge.rw_manyroads_k29_roads_alone_and_no_road) (n := 63) (k := 133) (x := "_law_script") rfl (by decide) (by kernel_rfl) ⟨rfl, by decide, by decide⟩ ?F
    intro w mg fa h Y G hmg0
    obtain ⟨K, KX, c, cb, cT⟩ := Y
    have hmg : mg ("law" : PySem.Str) = some (.ref fa) := by
      have e : (HandSHeadRun.topDef (OpenLaw.row PySem.Challenge.rw_manyroads_k29_roads_alone_and_no_road).prog 64).name = ("law" : PySem.Str) := by kernel_rfl
      rw [← e]
      exact hmg0
    obtain ⟨fd, hb, htB, hF⟩ := MR.Lk29.facts (w := w) KX G hmg c cb
    exact ⟨K, fd, MR.toSp (MR.TWd (MR.tlOf K MR.Lk29.xs_)) K 1 MR.aLaw, KX, htB, cT, hb, fun H a ns hl hT hB => MR.law_spTl hl htB hT hB, hF⟩
